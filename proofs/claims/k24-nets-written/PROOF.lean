import PyProof.Rows.All
import Wide.All
import OpenK.AllK
import Wide.FinOn
import KE.KDictList
import KE.KRevIter
import HandS.Finally
import HandS.DictComp
import KE.KDictZip
import KE.KItemsList
import HandS.ListItems
import HandS.ExcValue
import HandS.ForMost
import KE.KExcIs
import HandS.DeepEq
import KE.KEqNest
import HandS.Exc
import HandS.ExcOwn
import HandS.CallSlots
import HandS.TryMany
import HandS.TryElse
import HandS.TryOnly
import HandS.Wide
import HandS.WideBits
import HandS.Defaults
import HandS.Rev
import HandS.Deep
import HandS.WordsExc
import HandS.IsInst
import HandS.More
import HandS.RaiseMore
import HandS.HeadHook2
import HandS.HeadEnd
import HandS.Conv
import HandS.ExcIs
import HandS.ExcField
import HandS.ExcInit
import HandS.SetKeys
import HandS.DictSubView
import HandS.Flt
import HandS.Codes
import KE.KStateDown
import HandS.Head0
import HandS.Head1
import HandS.Head2
import PySem.Challenge.RW_holdlane_k24_nets_written
set_option Elab.async false
set_option linter.all false
set_option maxRecDepth 100000
set_option maxHeartbeats 4000000
namespace Ab
open PySem PySem.Spec PyProof.Rows L2
/-! ### deep data by value, mutable cells by address -/
inductive D where
  | non | bl (b : Bool) | int (i : Int) | str (x : Str)
  | lst (xs : List D) | tup (xs : List D) | dic (kvs : List (Key × D)) | obj (C : Addr) (fs : List (Str × D))
  | scr (ns : List Int) | cell (a : Addr) | exc (a C dd : Addr) (f : Str) (v : D) | xob (C : Addr) (fs : List (Str × D))
inductive MO where
  | lst (xs : List D) | dic (lk : Bool) (kvs : List (Key × D)) | ins (C : Addr) (fs : List (Str × D))
abbrev Mu := Addr → Option MO
def mset (m : Mu) (a : Addr) (x : MO) : Mu := fun b => if b = a then some x else m b
def mdel (m : Mu) (a : Addr) : Mu := fun b => if b = a then none else m b
theorem mset_same {m : Mu} {a : Addr} {x : MO} : mset m a x a = some x := if_pos rfl
theorem mset_ne {m : Mu} {a b : Addr} {x : MO} (h : b ≠ a) : mset m a x b = m b := if_neg h
theorem mset_mset {m : Mu} {a : Addr} {x y : MO} : mset (mset m a x) a y = mset m a y := by
  funext b; unfold mset; split <;> rfl
theorem mset_comm {m : Mu} {a b : Addr} {x y : MO} (h : a ≠ b) : mset (mset m a x) b y = mset (mset m b y) a x := by
  funext c; unfold mset
  by_cases h1 : c = a
  · subst h1; rw [if_neg h, if_pos rfl, if_pos rfl]
  · rw [if_neg h1, if_neg h1]
theorem mdel_mset {m : Mu} {a : Addr} {x : MO} (h : m a = none) : mdel (mset m a x) a = m := by
  funext c; unfold mdel mset
  by_cases h1 : c = a
  · subst h1; rw [if_pos rfl, h]
  · rw [if_neg h1, if_neg h1]
mutual
inductive Rep (K : PySem.W.Frag) (F : Hp) : V → D → Prop
  | non : Rep K F .non .non
  | bl (b : Bool) : Rep K F (.bl b) (.bl b)
  | int (i : Int) : Rep K F (.int i) (.int i)
  | str (x : Str) : Rep K F (.str x) (.str x)
  | lst {a : Addr} {xs : List V} {ds : List D} : F a = some (.lst xs) → RepL K F xs ds → Rep K F (.ref a) (.lst ds)
  | tup {a : Addr} {xs : List V} {ds : List D} : SqT K F a xs → RepL K F xs ds → Rep K F (.ref a) (.tup ds)
  | dic {a : Addr} {kvs : List (Key × V)} {es : List (Key × D)} : F a = some (.dK kvs) → RepK K F kvs es → Rep K F (.ref a) (.dic es)
  | obj {a C dx : Addr} {fs : List (Str × V)} {es : List (Str × D)} : F a = some (.ins C dx fs) → RepF K F fs es → Rep K F (.ref a) (.obj C es)
  | scr {a : Addr} {ns : List Int} : SqL K F a (ns.map V.int) → Rep K F (.ref a) (.scr ns)
  | cell (a : Addr) : Rep K F (.ref a) (.cell a)
  | exc {a C dd : Addr} {f : Str} {v : V} {d : D} : F dd = some (.xd [(f, v)]) → Rep K F v d → Rep K F (.ref a) (.exc a C dd f d)
  | xob0 {a C : Addr} : F a = some (ExO (.ref C) a) → Rep K F (.ref a) (.xob C [])
  | xob1 {a C dd : Addr} {f : Str} {v : V} {d : D} : F a = some (exo a C (some dd)) → F dd = some (exd dd [(f, v)]) → Rep K F v d → Rep K F (.ref a) (.xob C [(f, d)])
inductive RepL (K : PySem.W.Frag) (F : Hp) : List V → List D → Prop
  | nil : RepL K F [] []
  | cons {v : V} {vs : List V} {d : D} {ds : List D} : Rep K F v d → RepL K F vs ds → RepL K F (v :: vs) (d :: ds)
inductive RepK (K : PySem.W.Frag) (F : Hp) : List (Key × V) → List (Key × D) → Prop
  | nil : RepK K F [] []
  | cons {k : Key} {v : V} {vs : List (Key × V)} {d : D} {ds : List (Key × D)} : Rep K F v d → RepK K F vs ds → RepK K F ((k, v) :: vs) ((k, d) :: ds)
inductive RepF (K : PySem.W.Frag) (F : Hp) : List (Str × V) → List (Str × D) → Prop
  | nil : RepF K F [] []
  | cons {k : Str} {v : V} {vs : List (Str × V)} {d : D} {ds : List (Str × D)} : Rep K F v d → RepF K F vs ds → RepF K F ((k, v) :: vs) ((k, d) :: ds)
end
theorem rd_mono {F F' : Hp} {a : Addr} {u : HO} (s : Same F F') (h : Rd F a u) : Rd F' a u := h.elim (fun h => .inl (s _ _ h)) fun ⟨o, h⟩ => .inr ⟨o, s _ _ h⟩
theorem sqT_mono {K : PySem.W.Frag} {F F' : Hp} {a : Addr} {xs : List V} (s : Same F F') (h : SqT K F a xs) : SqT K F' a xs := h.imp (rd_mono s) id
theorem sqL_mono {K : PySem.W.Frag} {F F' : Hp} {a : Addr} {xs : List V} (s : Same F F') (h : SqL K F a xs) : SqL K F' a xs := h.imp (rd_mono s) id
section
variable {K : PySem.W.Frag} {F F' : Hp}
mutual
theorem Rep.mono (s : Same F F') : ∀ {v : V} {d : D}, Rep K F v d → Rep K F' v d
  | _, _, .non => .non
  | _, _, .bl b => .bl b
  | _, _, .int i => .int i
  | _, _, .str x => .str x
  | _, _, .lst h r => .lst (s _ _ h) (RepL.mono s r)
  | _, _, .tup h r => .tup (sqT_mono s h) (RepL.mono s r)
  | _, _, .dic h r => .dic (s _ _ h) (RepK.mono s r)
  | _, _, .obj h r => .obj (s _ _ h) (RepF.mono s r)
  | _, _, .scr h => .scr (sqL_mono s h)
  | _, _, .cell a => .cell a
  | _, _, .exc h r => .exc (s _ _ h) (Rep.mono s r)
  | _, _, .xob0 h => .xob0 (s _ _ h)
  | _, _, .xob1 h h2 r => .xob1 (s _ _ h) (s _ _ h2) (Rep.mono s r)
theorem RepL.mono (s : Same F F') : ∀ {v : List V} {d : List D}, RepL K F v d → RepL K F' v d
  | _, _, .nil => .nil
  | _, _, .cons h r => .cons (Rep.mono s h) (RepL.mono s r)
theorem RepK.mono (s : Same F F') : ∀ {v : List (Key × V)} {d : List (Key × D)}, RepK K F v d → RepK K F' v d
  | _, _, .nil => .nil
  | _, _, .cons h r => .cons (Rep.mono s h) (RepK.mono s r)
theorem RepF.mono (s : Same F F') : ∀ {v : List (Str × V)} {d : List (Str × D)}, RepF K F v d → RepF K F' v d
  | _, _, .nil => .nil
  | _, _, .cons h r => .cons (Rep.mono s h) (RepF.mono s r)
end
theorem RepL.length : ∀ {vs : List V} {ds : List D}, RepL K F vs ds → vs.length = ds.length
  | _, _, .nil => rfl
  | _, _, .cons _ r => congrArg Nat.succ r.length
theorem RepL.get : ∀ {vs : List V} {ds : List D} {i : Nat} {v : V}, RepL K F vs ds → vs[i]? = some v → ∃ d, ds[i]? = some d ∧ Rep K F v d
  | _, _, _, _, .nil, e => by simp at e
  | _, _, 0, _, .cons r _, e => by simp at e; subst e; exact ⟨_, rfl, r⟩
  | _, _, i + 1, v, .cons _ t, e => by
    obtain ⟨d, h1, h2⟩ := RepL.get (i := i) (v := v) t (by simpa using e)
    exact ⟨d, by simpa using h1, h2⟩
theorem RepL.getD : ∀ {vs : List V} {ds : List D} {i : Nat} {d : D}, RepL K F vs ds → ds[i]? = some d → ∃ v, vs[i]? = some v ∧ Rep K F v d
  | _, _, _, _, .nil, e => by simp at e
  | _, _, 0, _, .cons r _, e => by simp at e; subst e; exact ⟨_, rfl, r⟩
  | _, _, i + 1, v, .cons _ t, e => by
    obtain ⟨d, h1, h2⟩ := RepL.getD (i := i) (d := v) t (by simpa using e)
    exact ⟨d, by simpa using h1, h2⟩
theorem RepL.append : ∀ {xs ys : List V} {ds es : List D}, RepL K F xs ds → RepL K F ys es → RepL K F (xs ++ ys) (ds ++ es)
  | _, _, _, _, .nil, s => s
  | _, _, _, _, .cons r t, s => .cons r (RepL.append t s)
theorem RepL.one {v : V} {d : D} (h : Rep K F v d) : RepL K F [v] [d] := .cons h .nil
theorem RepL.take : ∀ {xs : List V} {ds : List D} (n : Nat), RepL K F xs ds → RepL K F (xs.take n) (ds.take n)
  | _, _, 0, _ => .nil
  | _, _, _ + 1, .nil => .nil
  | _, _, n + 1, .cons r t => .cons r (RepL.take n t)
theorem RepL.drop : ∀ {xs : List V} {ds : List D} (n : Nat), RepL K F xs ds → RepL K F (xs.drop n) (ds.drop n)
  | _, _, 0, r => r
  | _, _, _ + 1, .nil => .nil
  | _, _, n + 1, .cons _ t => RepL.drop n t
theorem RepL.set {v : V} {d : D} (h : Rep K F v d) : ∀ {xs : List V} {ds : List D} (n : Nat), RepL K F xs ds → RepL K F (xs.set n v) (ds.set n d)
  | _, _, _, .nil => .nil
  | _, _, 0, .cons _ t => .cons h t
  | _, _, n + 1, .cons q t => .cons q (RepL.set h n t)
theorem RepL.reverse {xs : List V} {ds : List D} (h : RepL K F xs ds) : RepL K F xs.reverse ds.reverse := by
  induction xs generalizing ds with
  | nil => cases h; exact .nil
  | cons x xs ih =>
    cases h with
    | cons h1 h2 => rw [List.reverse_cons, List.reverse_cons]; exact (ih h2).append (.one h1)
theorem RepL.eraseIdx : ∀ {xs : List V} {ds : List D} (n : Nat), RepL K F xs ds → RepL K F (xs.eraseIdx n) (ds.eraseIdx n)
  | _, _, _, .nil => .nil
  | _, _, 0, .cons _ t => t
  | _, _, n + 1, .cons q t => .cons q (RepL.eraseIdx n t)
theorem RepL.dropLast {xs : List V} {ds : List D} (h : RepL K F xs ds) : RepL K F xs.dropLast ds.dropLast := by
  rw [List.dropLast_eq_take, List.dropLast_eq_take, h.length]; exact h.take _
theorem RepK.length : ∀ {vs : List (Key × V)} {ds : List (Key × D)}, RepK K F vs ds → vs.length = ds.length
  | _, _, .nil => rfl
  | _, _, .cons _ r => congrArg Nat.succ r.length
theorem RepK.keys : ∀ {vs : List (Key × V)} {ds : List (Key × D)}, RepK K F vs ds → vs.map (·.1) = ds.map (·.1)
  | _, _, .nil => rfl
  | _, _, .cons _ r => congrArg (List.cons _) r.keys
theorem RepK.get : ∀ {vs : List (Key × V)} {ds : List (Key × D)} {i : Nat} {k : Key} {v : V}, RepK K F vs ds → vs[i]? = some (k, v) → ∃ d, ds[i]? = some (k, d) ∧ Rep K F v d
  | _, _, _, _, _, .nil, e => by simp at e
  | _, _, 0, _, _, .cons r _, e => by
    simp at e; obtain ⟨rfl, rfl⟩ := e; exact ⟨_, rfl, r⟩
  | _, _, i + 1, k, v, .cons _ t, e => by
    obtain ⟨d, h1, h2⟩ := RepK.get (i := i) (k := k) (v := v) t (by simpa using e)
    exact ⟨d, by simpa using h1, h2⟩
end
/-- look-up, store, removal in a dict -/
def lkp {α : Type} (kvs : List (Key × α)) (k : Key) : Option α := (kvs.find? fun kv => decide (kv.1 = k)).map (·.2)
def put {α : Type} (kvs : List (Key × α)) (k : Key) (v : α) : List (Key × α) :=
  if (kvs.any fun kv => decide (kv.1 = k)) = true then kvs.map (fun kv => if kv.1 = k then (kv.1, v) else kv) else kvs ++ [(k, v)]
def drp {α : Type} (kvs : List (Key × α)) (k : Key) : List (Key × α) := kvs.filter fun kv => decide (kv.1 ≠ k)
def putF (f : Str) (v : D) : List (Str × D) → List (Str × D)
  | [] => [(f, v)]
  | (g, w) :: r => if g = f then (g, v) :: r else (g, w) :: putF f v r
section
variable {K : PySem.W.Frag} {F F' : Hp}
theorem RepK.lkp_some : ∀ {vs : List (Key × V)} {ds : List (Key × D)} {k : Key} {d : D}, RepK K F vs ds → lkp ds k = some d → ∃ v, valV vs k = some v ∧ Rep K F v d
  | _, _, _, _, .nil, e => by simp [lkp] at e
  | _, _, k, d, .cons (k := k') (ds := ds0) h r, e => by
    by_cases q : k' = k
    · simp [lkp, q] at e; subst e; exact ⟨_, valV_pos q, h⟩
    · have e' : lkp ds0 k = some d := by simpa [lkp, q] using e
      obtain ⟨v, h1, h2⟩ := RepK.lkp_some r e'
      exact ⟨v, (valV_neg q).trans h1, h2⟩
theorem RepK.lkp_isSome {vs : List (Key × V)} {ds : List (Key × D)} (r : RepK K F vs ds) (k : Key) : (valV vs k).isSome = (lkp ds k).isSome := by
  induction vs generalizing ds with
  | nil => cases r; rfl
  | cons p vs ih =>
    cases r with
    | @cons k' v _ d _ h r =>
      by_cases q : k' = k
      · rw [valV_pos q]; simp [lkp, q]
      · rw [valV_neg q, ih r]; simp [lkp, q]
theorem RepK.any {vs : List (Key × V)} {ds : List (Key × D)} (r : RepK K F vs ds) (k : Key) : (vs.any fun kv => decide (kv.1 = k)) = (ds.any fun kv => decide (kv.1 = k)) := by
  induction vs generalizing ds with
  | nil => cases r; rfl
  | cons p vs ih => cases r with
    | cons h r => simp only [List.any_cons, ih r]
theorem RepK.map {vs : List (Key × V)} {ds : List (Key × D)} {k : Key} {v : V} {d : D} (h : Rep K F v d) (r : RepK K F vs ds) : RepK K F (vs.map fun kv => if kv.1 = k then (kv.1, v) else kv) (ds.map fun kv => if kv.1 = k then (kv.1, d) else kv) := by
  induction vs generalizing ds with
  | nil => cases r; exact .nil
  | cons p vs ih =>
    cases r with
    | @cons k' _ _ _ _ q r =>
      simp only [List.map_cons]
      by_cases e : k' = k
      · rw [if_pos e, if_pos e]; exact .cons h (ih r)
      · rw [if_neg e, if_neg e]; exact .cons q (ih r)
theorem RepK.append : ∀ {vs ws : List (Key × V)} {ds es : List (Key × D)}, RepK K F vs ds → RepK K F ws es → RepK K F (vs ++ ws) (ds ++ es)
  | _, _, _, _, .nil, s => s
  | _, _, _, _, .cons r t, s => .cons r (RepK.append t s)
theorem RepK.put {vs : List (Key × V)} {ds : List (Key × D)} {k : Key} {v : V} {d : D} (h : Rep K F v d) (r : RepK K F vs ds) : RepK K F (putK vs k v) (put ds k d) := by
  unfold putK Ab.put
  rw [r.any k]
  split
  · exact r.map h
  · exact r.append (.cons h .nil)
theorem RepK.drp {vs : List (Key × V)} {ds : List (Key × D)} {k : Key} (r : RepK K F vs ds) : RepK K F (dropK vs k) (drp ds k) := by
  unfold dropK Ab.drp
  induction vs generalizing ds with
  | nil => cases r; exact .nil
  | cons p vs ih =>
    cases r with
    | @cons k' _ _ _ _ q r =>
      rw [List.filter_cons, List.filter_cons]
      by_cases e : decide (k' ≠ k) = true
      · rw [if_pos e, if_pos e]; exact .cons q (ih r)
      · rw [if_neg e, if_neg e]; exact ih r
theorem RepF.look : ∀ {vs : List (Str × V)} {ds : List (Str × D)} {f : Str} {d : D}, RepF K F vs ds → ds.lookup f = some d → ∃ v, vs.lookup f = some v ∧ Rep K F v d
  | _, _, _, _, .nil, e => by simp at e
  | _, _, f, d, .cons (k := g) h r, e => by
    rw [List.lookup_cons] at e ⊢
    cases q : (f == g) with
    | true => rw [q] at e; cases e; exact ⟨_, rfl, h⟩
    | false => rw [q] at e; exact RepF.look r e
theorem RepF.look_none : ∀ {vs : List (Str × V)} {ds : List (Str × D)} {f : Str}, RepF K F vs ds → ds.lookup f = none → vs.lookup f = none
  | _, _, _, .nil, _ => rfl
  | _, _, f, .cons (k := g) h r, e => by
    rw [List.lookup_cons] at e ⊢
    cases q : (f == g) with
    | true => rw [q] at e; cases e
    | false => rw [q] at e; exact RepF.look_none r e
theorem RepF.length : ∀ {vs : List (Str × V)} {ds : List (Str × D)}, RepF K F vs ds → vs.length = ds.length
  | _, _, .nil => rfl
  | _, _, .cons _ r => congrArg Nat.succ r.length
theorem RepF.put {v : V} {d : D} {f : Str} (h : Rep K F v d) : ∀ {vs : List (Str × V)} {ds : List (Str × D)}, RepF K F vs ds → RepF K F (L2.putF f v vs) (putF f d ds)
  | _, _, .nil => .cons h .nil
  | _, _, .cons (k := g) q r => by
    unfold L2.putF putF
    by_cases e : g = f
    · rw [if_pos e, if_pos e]; exact .cons h r
    · rw [if_neg e, if_neg e]; exact .cons q (RepF.put h r)
end
/-! ### the state: F what is frozen, H the heap, m the cells, r what else stays exactly -/
def At (K : PySem.W.Frag) (F H : Hp) (a : Addr) : MO → Prop
  | .lst ds => ∃ xs, H a = some (.lst xs) ∧ RepL K F xs ds
  | .dic false es => ∃ kvs, H a = some (.dK kvs) ∧ RepK K F kvs es
  | .dic true es => ∃ o kvs, H a = some (.frz o (.dK kvs)) ∧ RepK K F kvs es
  | .ins C es => ∃ dx fs, H a = some (.ins C dx fs) ∧ RepF K F fs es
structure Sn (K : PySem.W.Frag) (F H : Hp) (m : Mu) (r : Hp) : Prop where
  cov : ∀ b u, F b = some u → H b = some u ∨ ∃ o kvs, u = .dK kvs ∧ H b = some (.frz o u)
  mu : ∀ a x, m a = some x → F a = none ∧ At K F H a x
  fr : ∀ a o, r a = some o → H a = some o ∧ ((∃ ob u, o = .frz ob u) ∨ (F a = none ∧ m a = none))
section
variable {K : PySem.W.Frag} {F F' H H' : Hp} {m : Mu} {r : Hp} {a p : Addr} {u o : HO} {x : MO}
theorem same_new (h : F p = none) : Same F (upd F p u) := fun b o e => by rw [upd_ne (ne_of_none e h)]; exact e
theorem At.some (h : At K F H a x) : ∃ o, H a = some o := by
  cases x with
  | lst _ => obtain ⟨_, h, _⟩ := h; exact ⟨_, h⟩
  | dic lk _ => cases lk with
    | false => obtain ⟨_, h, _⟩ := h; exact ⟨_, h⟩
    | true => obtain ⟨_, _, h, _⟩ := h; exact ⟨_, h⟩
  | ins _ _ => obtain ⟨_, _, h, _⟩ := h; exact ⟨_, h⟩
theorem At.mono (s : Same F F') (e : H' a = H a) (h : At K F H a x) : At K F' H' a x := by
  cases x with
  | lst _ => obtain ⟨_, h, q⟩ := h; exact ⟨_, e.trans h, q.mono s⟩
  | dic lk _ => cases lk with
    | false => obtain ⟨_, h, q⟩ := h; exact ⟨_, e.trans h, q.mono s⟩
    | true => obtain ⟨_, _, h, q⟩ := h; exact ⟨_, _, e.trans h, q.mono s⟩
  | ins _ _ => obtain ⟨_, _, h, q⟩ := h; exact ⟨_, _, e.trans h, q.mono s⟩
namespace Sn
theorem F_none (h : Sn K F H m r) (hp : H p = none) : F p = none := by
  cases e : F p with
  | none => rfl
  | some u => rcases h.cov p u e with q | ⟨_, _, _, q⟩ <;> rw [hp] at q <;> cases q
theorem m_none (h : Sn K F H m r) (hp : H p = none) : m p = none := by
  cases e : m p with
  | none => rfl
  | some x => obtain ⟨o, q⟩ := (h.mu p x e).2.some; rw [hp] at q; cases q
theorem r_none (h : Sn K F H m r) (hp : H p = none) : r p = none := by
  cases e : r p with
  | none => rfl
  | some x => have q := (h.fr p x e).1; rw [hp] at q; cases q
/-- a new frozen thing -/
theorem new (h : Sn K F H m r) (hp : H p = none) (u : HO) : Sn K (upd F p u) (upd H p u) m r := by
  have s : Same F (upd F p u) := same_new (h.F_none hp)
  refine ⟨fun b v e => ?_, fun a x e => ?_, fun a o e => ?_⟩
  · by_cases hb : b = p
    · subst hb; rw [upd_same] at e; cases e; exact .inl upd_same
    · rw [upd_ne hb] at e ⊢; exact h.cov b v e
  · have ne : a ≠ p := fun z => by subst z; rw [h.m_none hp] at e; cases e
    exact ⟨by rw [upd_ne ne]; exact (h.mu a x e).1, (h.mu a x e).2.mono s (upd_ne ne)⟩
  · have ne : a ≠ p := fun z => by subst z; rw [h.r_none hp] at e; cases e
    rw [upd_ne ne, upd_ne ne]; exact h.fr a o e
theorem same (h : Sn K F H m r) (hp : H p = none) (u : HO) : Same F (upd F p u) := same_new (h.F_none hp)
/-- a new cell -/
theorem newM (h : Sn K F H m r) (hp : H p = none) (q : At K F (upd H p o) p x) : Sn K F (upd H p o) (mset m p x) r := by
  refine ⟨fun b v e => ?_, fun a y e => ?_, fun a u e => ?_⟩
  · have ne : b ≠ p := fun z => by subst z; rw [h.F_none hp] at e; cases e
    rw [upd_ne ne]; exact h.cov b v e
  · by_cases hb : a = p
    · subst hb; rw [mset_same] at e; cases e; exact ⟨h.F_none hp, q⟩
    · rw [mset_ne hb] at e; exact ⟨(h.mu a y e).1, (h.mu a y e).2.mono (Same.refl F) (upd_ne hb)⟩
  · have ne : a ≠ p := fun z => by subst z; rw [h.r_none hp] at e; cases e
    rw [upd_ne ne, mset_ne ne]; exact h.fr a u e
/-- a new thing that nobody names -/
theorem newG (h : Sn K F H m r) (hp : H p = none) (o : HO) : Sn K F (upd H p o) m r := by
  refine ⟨fun b v e => ?_, fun a y e => ?_, fun a u e => ?_⟩
  · have ne : b ≠ p := fun z => by subst z; rw [h.F_none hp] at e; cases e
    rw [upd_ne ne]; exact h.cov b v e
  · have ne : a ≠ p := fun z => by subst z; rw [h.m_none hp] at e; cases e
    exact ⟨(h.mu a y e).1, (h.mu a y e).2.mono (Same.refl F) (upd_ne ne)⟩
  · have ne : a ≠ p := fun z => by subst z; rw [h.r_none hp] at e; cases e
    rw [upd_ne ne]; exact h.fr a u e
/-- a new thing held exactly -/
theorem newR (h : Sn K F H m r) (hp : H p = none) (o : HO) : Sn K F (upd H p o) m (upd r p o) := by
  have g := h.newG hp o
  refine ⟨g.cov, g.mu, fun a u e => ?_⟩
  by_cases hb : a = p
  · subst hb; rw [upd_same] at e; cases e; exact ⟨upd_same, .inr ⟨h.F_none hp, h.m_none hp⟩⟩
  · rw [upd_ne hb] at e; exact g.fr a u e
/-- a cell changed: what stood there was not locked -/
theorem upM {y : MO} {u : HO} (h : Sn K F H m r) (hm : m a = some x) (ha : H a = some u) (nu : ∀ ob w, u ≠ .frz ob w) (q : At K F (upd H a o) a y) : Sn K F (upd H a o) (mset m a y) r := by
  refine ⟨fun b v e => ?_, fun b z e => ?_, fun b w e => ?_⟩
  · have ne : b ≠ a := fun z => by subst z; rw [(h.mu _ _ hm).1] at e; cases e
    rw [upd_ne ne]; exact h.cov b v e
  · by_cases hb : b = a
    · subst hb; rw [mset_same] at e; cases e; exact ⟨(h.mu _ _ hm).1, q⟩
    · rw [mset_ne hb] at e; exact ⟨(h.mu b z e).1, (h.mu b z e).2.mono (Same.refl F) (upd_ne hb)⟩
  · have ne : b ≠ a := fun z => by
      subst z
      obtain ⟨e1, e2⟩ := h.fr b w e
      rcases e2 with ⟨ob, w', e2⟩ | ⟨_, e2⟩
      · rw [ha] at e1; cases e1; exact nu _ _ e2
      · rw [hm] at e2; cases e2
    rw [upd_ne ne, mset_ne ne]; exact h.fr b w e
/-- less is told of the cells -/
theorem sub {m' : Mu} (h : Sn K F H m' r) (e : ∀ a x, m a = some x → m' a = some x) : Sn K F H m r :=
  ⟨h.cov, fun a x q => h.mu a x (e a x q), fun a o q => ⟨(h.fr a o q).1, (h.fr a o q).2.imp id fun ⟨z1, z2⟩ => ⟨z1, by
    cases w : m a with
    | none => rfl
    | some x => rw [e a x w] at z2; cases z2⟩⟩⟩
/-- a list's cell is frozen -/
theorem frzL {ds : List D} (h : Sn K F H m r) (e : m a = some (.lst ds)) : ∃ F', Same F F' ∧ Sn K F' H (mdel m a) r ∧ Rep K F' (.ref a) (.lst ds) := by
  obtain ⟨hF, xs, ha, q⟩ := h.mu a _ e
  have s : Same F (upd F a (.lst xs)) := same_new hF
  refine ⟨upd F a (.lst xs), s, ⟨fun b v w => ?_, fun b y w => ?_, fun b o w => ?_⟩, .lst upd_same (q.mono s)⟩
  · by_cases hb : b = a
    · subst hb; rw [upd_same] at w; cases w; exact .inl ha
    · rw [upd_ne hb] at w; exact h.cov b v w
  · have ne : b ≠ a := fun z => by subst z; unfold mdel at w; rw [if_pos rfl] at w; cases w
    have w' : m b = some y := by unfold mdel at w; rw [if_neg ne] at w; exact w
    exact ⟨by rw [upd_ne ne]; exact (h.mu b y w').1, (h.mu b y w').2.mono s rfl⟩
  · obtain ⟨e1, e2⟩ := h.fr b o w
    refine ⟨e1, e2.imp id fun ⟨z1, z2⟩ => ?_⟩
    have ne : b ≠ a := fun z => by subst z; rw [e] at z2; cases z2
    exact ⟨by rw [upd_ne ne]; exact z1, by unfold mdel; rw [if_neg ne]; exact z2⟩
theorem frzD {es : List (Key × D)} (h : Sn K F H m r) (e : m a = some (.dic false es)) : ∃ F', Same F F' ∧ Sn K F' H (mdel m a) r ∧ Rep K F' (.ref a) (.dic es) := by
  obtain ⟨hF, xs, ha, q⟩ := h.mu a _ e
  have s : Same F (upd F a (.dK xs)) := same_new hF
  refine ⟨upd F a (.dK xs), s, ⟨fun b v w => ?_, fun b y w => ?_, fun b o w => ?_⟩, .dic upd_same (q.mono s)⟩
  · by_cases hb : b = a
    · subst hb; rw [upd_same] at w; cases w; exact .inl ha
    · rw [upd_ne hb] at w; exact h.cov b v w
  · have ne : b ≠ a := fun z => by subst z; unfold mdel at w; rw [if_pos rfl] at w; cases w
    have w' : m b = some y := by unfold mdel at w; rw [if_neg ne] at w; exact w
    exact ⟨by rw [upd_ne ne]; exact (h.mu b y w').1, (h.mu b y w').2.mono s rfl⟩
  · obtain ⟨e1, e2⟩ := h.fr b o w
    refine ⟨e1, e2.imp id fun ⟨z1, z2⟩ => ?_⟩
    have ne : b ≠ a := fun z => by subst z; rw [e] at z2; cases z2
    exact ⟨by rw [upd_ne ne]; exact z1, by unfold mdel; rw [if_neg ne]; exact z2⟩
theorem frzI {C : Addr} {es : List (Str × D)} (h : Sn K F H m r) (e : m a = some (.ins C es)) : ∃ F', Same F F' ∧ Sn K F' H (mdel m a) r ∧ Rep K F' (.ref a) (.obj C es) := by
  obtain ⟨hF, dx, xs, ha, q⟩ := h.mu a _ e
  have s : Same F (upd F a (.ins C dx xs)) := same_new hF
  refine ⟨upd F a (.ins C dx xs), s, ⟨fun b v w => ?_, fun b y w => ?_, fun b o w => ?_⟩, .obj upd_same (q.mono s)⟩
  · by_cases hb : b = a
    · subst hb; rw [upd_same] at w; cases w; exact .inl ha
    · rw [upd_ne hb] at w; exact h.cov b v w
  · have ne : b ≠ a := fun z => by subst z; unfold mdel at w; rw [if_pos rfl] at w; cases w
    have w' : m b = some y := by unfold mdel at w; rw [if_neg ne] at w; exact w
    exact ⟨by rw [upd_ne ne]; exact (h.mu b y w').1, (h.mu b y w').2.mono s rfl⟩
  · obtain ⟨e1, e2⟩ := h.fr b o w
    refine ⟨e1, e2.imp id fun ⟨z1, z2⟩ => ?_⟩
    have ne : b ≠ a := fun z => by subst z; rw [e] at z2; cases z2
    exact ⟨by rw [upd_ne ne]; exact z1, by unfold mdel; rw [if_neg ne]; exact z2⟩
end Sn
/-- what is read: a list, a tuple -/
theorem Sn.rd (h : Sn K F H m r) {a : Addr} {u : HO} (e : Rd F a u) : Rd H a u := by
  rcases e with e | ⟨o, e⟩
  · rcases h.cov a u e with q | ⟨o, _, _, q⟩
    · exact .inl q
    · exact .inr ⟨o, q⟩
  · rcases h.cov a _ e with q | ⟨_, _, z, _⟩
    · exact .inr ⟨o, q⟩
    · cases z
theorem Sn.sqL (h : Sn K F H m r) {a : Addr} {xs : List V} (e : SqL K F a xs) : SqL K H a xs := e.imp h.rd id
theorem Sn.sqT (h : Sn K F H m r) {a : Addr} {xs : List V} (e : SqT K F a xs) : SqT K H a xs := e.imp h.rd id
theorem Sn.lst (h : Sn K F H m r) {a : Addr} {xs : List V} (e : F a = some (.lst xs)) : H a = some (.lst xs) := by
  rcases h.cov a _ e with q | ⟨_, _, z, _⟩
  · exact q
  · cases z
theorem Sn.ins (h : Sn K F H m r) {a C dx : Addr} {fs : List (Str × V)} (e : F a = some (.ins C dx fs)) : H a = some (.ins C dx fs) := by
  rcases h.cov a _ e with q | ⟨_, _, z, _⟩
  · exact q
  · cases z
theorem Sn.xd (h : Sn K F H m r) {a : Addr} {fs : List (Str × V)} (e : F a = some (.xd fs)) : H a = some (.xd fs) := by
  rcases h.cov a _ e with q | ⟨_, _, z, _⟩
  · exact q
  · cases z
end
/-! ### names -/
abbrev De := List (Option D)
def EnvOk (K : PySem.W.Frag) (F : Hp) (s : L2.St) (e : De) : Prop := s.length = e.length ∧ ∀ (i : Nat) (d : D), e[i]? = some (some d) → ∃ v, s[i]? = some (some v) ∧ Rep K F v d
section
variable {K : PySem.W.Frag} {F F' : Hp} {s : L2.St} {e : De}
theorem EnvOk.mono (h : EnvOk K F s e) (k : Same F F') : EnvOk K F' s e := ⟨h.1, fun i d q => let ⟨v, h1, h2⟩ := h.2 i d q; ⟨v, h1, h2.mono k⟩⟩
theorem EnvOk.set (h : EnvOk K F s e) {v : V} {d : D} (r : Rep K F v d) (i : Nat) : EnvOk K F (s.set i (some v)) (e.set i (some d)) := by
  refine ⟨by rw [List.length_set, List.length_set]; exact h.1, fun j d' q => ?_⟩
  by_cases hj : i = j
  · subst hj
    by_cases hl : i < e.length
    · rw [List.getElem?_set_self hl] at q; cases q
      exact ⟨v, List.getElem?_set_self (h.1 ▸ hl), r⟩
    · rw [List.getElem?_eq_none (by rw [List.length_set]; omega)] at q; cases q
  · rw [List.getElem?_set_ne hj] at q ⊢; exact h.2 j d' q
theorem EnvOk.clr (h : EnvOk K F s e) (i : Nat) : EnvOk K F (s.set i none) (e.set i none) := by
  refine ⟨by rw [List.length_set, List.length_set]; exact h.1, fun j d' q => ?_⟩
  by_cases hj : i = j
  · subst hj
    by_cases hl : i < e.length
    · rw [List.getElem?_set_self hl] at q; cases q
    · rw [List.getElem?_eq_none (by rw [List.length_set]; omega)] at q; cases q
  · rw [List.getElem?_set_ne hj] at q ⊢; exact h.2 j d' q
/-- a slot may be forgotten on the data's side alone -/
theorem EnvOk.sub {e' : De} (h : EnvOk K F s e) (hl : e'.length = e.length) (k : ∀ (i : Nat) (d : D), e'[i]? = some (some d) → e[i]? = some (some d)) : EnvOk K F s e' := ⟨h.1.trans hl.symm, fun i d q => h.2 i d (k i d q)⟩
def wipeA (e : De) : List Nat → De
  | [] => e
  | v :: vs => (wipeA e vs).set v none
theorem EnvOk.wipe (h : EnvOk K F s e) : ∀ vs : List Nat, EnvOk K F (L2.wipe s vs) (wipeA e vs)
  | [] => h
  | v :: vs => (EnvOk.wipe h vs).clr v
theorem EnvOk.start {N : List Str} {vs : List V} {ds : List D} (r : RepL K F vs ds) : EnvOk K F (L2.start N vs) (ds.map some ++ List.replicate (N.length - ds.length) none) := by
  have hl := r.length
  refine ⟨by unfold L2.start; rw [List.length_append, List.length_append, List.length_map, List.length_map, List.length_replicate, List.length_replicate, hl], fun i d q => ?_⟩
  by_cases hi : i < ds.length
  · rw [List.getElem?_append_left (by rw [List.length_map]; exact hi), List.getElem?_map] at q
    cases hd : ds[i]? with
    | none => rw [hd] at q; cases q
    | some d' =>
      rw [hd] at q; cases q
      obtain ⟨v, h1, h2⟩ := r.getD hd
      refine ⟨v, ?_, h2⟩
      unfold L2.start
      rw [List.getElem?_append_left (by rw [List.length_map, hl]; exact hi), List.getElem?_map, h1]; rfl
  · rw [List.getElem?_append_right (by rw [List.length_map]; omega), List.getElem?_replicate] at q
    split at q <;> cases q
end
end Ab
namespace Ab
open PySem PySem.Spec PyProof.Rows L2
structure Ex where
  C : Addr
  fl : Option (Str × D)
abbrev XA := Ex → Mu → Prop
abbrev QD := D → Mu → Prop
abbrev AE := De → Mu → QD → XA → Prop
abbrev AT := De → Mu → (Bool → Mu → Prop) → XA → Prop
abbrev AA := De → Mu → (List D → Mu → Prop) → XA → Prop
structure AEnds where
  nx : De → Mu → Prop
  rt : QD
  bk : De → Mu → Prop
  ct : De → Mu → Prop
  ex : Ex → De → Mu → Prop
abbrev AS := AEnds → De → Mu → Prop
def RepX (K : PySem.W.Frag) (F H : Hp) (m : Mu) (cls : Value) (dd : Option Addr) (x : Ex) : Prop :=
  cls = .ref x.C ∧ (x.fl = none → dd = none) ∧ ∀ f d, x.fl = some (f, d) → ∃ a v, dd = some a ∧ F a = some (.xd [(f, v)]) ∧ Rep K F v d
/-! ### what a reading's ends must do for the data's ends -/
def GE (K : PySem.W.Frag) (F r : Hp) (Q : QD) (Qc : VK) : Prop := ∀ F' H' m' v d, Same F F' → Sn K F' H' m' r → Rep K F' v d → Q d m' → Qc v H'
def GT (K : PySem.W.Frag) (F r : Hp) (Q : Bool → Mu → Prop) (Qc : Bool → Hp → Prop) : Prop := ∀ F' H' m' b, Same F F' → Sn K F' H' m' r → Q b m' → Qc b H'
def GA (K : PySem.W.Frag) (F r : Hp) (Q : List D → Mu → Prop) (Qc : List V → Hp → Prop) : Prop := ∀ F' H' m' v d, Same F F' → Sn K F' H' m' r → RepL K F' v d → Q d m' → Qc v H'
def GX (K : PySem.W.Frag) (F r : Hp) (s : L2.St) (X : XA) (W : WX) : Prop := ∀ F' H' m' cls dd x, Same F F' → Sn K F' H' m' r → RepX K F' H' m' cls dd x → X x m' → W cls dd s H'
theorem GE.mono {K : PySem.W.Frag} {F F' r : Hp} {Q : QD} {Qc : VK} (g : GE K F r Q Qc) (k : Same F F') : GE K F' r Q Qc := fun F2 H m v d s => g F2 H m v d (k.trans s)
theorem GT.mono {K : PySem.W.Frag} {F F' r : Hp} {Q : Bool → Mu → Prop} {Qc : Bool → Hp → Prop} (g : GT K F r Q Qc) (k : Same F F') : GT K F' r Q Qc := fun F2 H m v s => g F2 H m v (k.trans s)
theorem GA.mono {K : PySem.W.Frag} {F F' r : Hp} {Q : List D → Mu → Prop} {Qc : List V → Hp → Prop} (g : GA K F r Q Qc) (k : Same F F') : GA K F' r Q Qc := fun F2 H m v d s => g F2 H m v d (k.trans s)
theorem GX.mono {K : PySem.W.Frag} {F F' r : Hp} {s : L2.St} {X : XA} {W : WX} (g : GX K F r s X W) (k : Same F F') : GX K F' r s X W := fun F2 H m c d x s => g F2 H m c d x (k.trans s)
def cE (K : PySem.W.Frag) (W : WX) (a : AE) : TE := fun s H Qc => ∃ F e m r Q X, EnvOk K F s e ∧ Sn K F H m r ∧ a e m Q X ∧ GE K F r Q Qc ∧ GX K F r s X W
def cT (K : PySem.W.Frag) (W : WX) (a : AT) : TT := fun s H Qc => ∃ F e m r Q X, EnvOk K F s e ∧ Sn K F H m r ∧ a e m Q X ∧ GT K F r Q Qc ∧ GX K F r s X W
def cA (K : PySem.W.Frag) (W : WX) (a : AA) : TA := fun s H Qc => ∃ F e m r Q X, EnvOk K F s e ∧ Sn K F H m r ∧ a e m Q X ∧ GA K F r Q Qc ∧ GX K F r s X W
structure GS (K : PySem.W.Frag) (F r : Hp) (A : AEnds) (D : Ends) (W : WX) : Prop where
  nx : ∀ F' H' m' s e, Same F F' → EnvOk K F' s e → Sn K F' H' m' r → A.nx e m' → D.nx s H'
  rt : ∀ F' H' m' v d, Same F F' → Sn K F' H' m' r → Rep K F' v d → A.rt d m' → D.rt v H'
  bk : ∀ F' H' m' s e, Same F F' → EnvOk K F' s e → Sn K F' H' m' r → A.bk e m' → D.bk s H'
  ct : ∀ F' H' m' s e, Same F F' → EnvOk K F' s e → Sn K F' H' m' r → A.ct e m' → D.ct s H'
  ex : ∀ F' H' m' s e cls dd x, Same F F' → EnvOk K F' s e → Sn K F' H' m' r → RepX K F' H' m' cls dd x → A.ex x e m' → W cls dd s H'
theorem GS.mono {K : PySem.W.Frag} {F F' r : Hp} {A : AEnds} {D : Ends} {W : WX} (g : GS K F r A D W) (k : Same F F') : GS K F' r A D W :=
  ⟨fun F2 H m s e q => g.nx F2 H m s e (k.trans q), fun F2 H m v d q => g.rt F2 H m v d (k.trans q), fun F2 H m s e q => g.bk F2 H m s e (k.trans q), fun F2 H m s e q => g.ct F2 H m s e (k.trans q), fun F2 H m s e c d x q => g.ex F2 H m s e c d x (k.trans q)⟩
theorem GS.gx {K : PySem.W.Frag} {F r : Hp} {A : AEnds} {D : Ends} {W : WX} (g : GS K F r A D W) {s : L2.St} {e : De} (h : EnvOk K F s e) : GX K F r s (fun x m => A.ex x e m) W :=
  fun F' H' m' cls dd x q n rx hx => g.ex F' H' m' s e cls dd x q (h.mono q) n rx hx
def cS (K : PySem.W.Frag) (W : WX) (a : AS) : TS := fun D s H => ∃ F e m r A, EnvOk K F s e ∧ Sn K F H m r ∧ a A e m ∧ GS K F r A D W
/-! ### the judgements -/
def QE (X : Cx) (e : Expr) (a : AE) : Prop := ∀ W, Takes X W → PE X e (cE X.K W a)
def QT (X : Cx) (e : Expr) (a : AT) : Prop := ∀ W, Takes X W → PT X e (cT X.K W a)
def QW (X : Cx) (e : Expr) (a : AT) : Prop := ∀ W, Takes X W → PW X e (cT X.K W a)
def QA (X : Cx) (es : List Expr) (a : AA) : Prop := ∀ W, Takes X W → PA X es (cA X.K W a)
def QS (X : Cx) (st : Stmt) (a : AS) : Prop := ∀ W, Takes X W → PassesOwn (model X.prog X.w) X.A X.env X.xe → PS X st (cS X.K W a)
def QSs (X : Cx) (st : List Stmt) (a : AS) : Prop := ∀ W, Takes X W → PassesOwn (model X.prog X.w) X.A X.env X.xe → PSs X st (cS X.K W a)
theorem _root_.L2.PE.imp {X : Cx} {e : Expr} {t t' : TE} (h : PE X e t) (k : ∀ s H Q, t' s H Q → t s H Q) : PE X e t' := ⟨fun pins s σ H Q I q => h.run pins s σ H Q I (k _ _ _ q)⟩
theorem _root_.L2.PT.imp {X : Cx} {e : Expr} {t t' : TT} (h : PT X e t) (k : ∀ s H Q, t' s H Q → t s H Q) : PT X e t' := ⟨fun pins s σ H Q I q => h.run pins s σ H Q I (k _ _ _ q)⟩
theorem _root_.L2.PW.imp {X : Cx} {e : Expr} {t t' : TT} (h : PW X e t) (k : ∀ s H Q, t' s H Q → t s H Q) : PW X e t' := ⟨fun w pins s σ H Q I q => h.run w pins s σ H Q I (k _ _ _ q)⟩
theorem _root_.L2.PA.imp {X : Cx} {e : List Expr} {t t' : TA} (h : PA X e t) (k : ∀ s H Q, t' s H Q → t s H Q) : PA X e t' := ⟨fun w pins s σ H Q I q => h.run w pins s σ H Q I (k _ _ _ q)⟩
theorem _root_.L2.PS.imp {X : Cx} {e : Stmt} {t t' : TS} (h : PS X e t) (k : ∀ D s H, t' D s H → t D s H) : PS X e t' := ⟨fun pins s σ H D I q => h.run pins s σ H D I (k _ _ _ q)⟩
theorem _root_.L2.PSs.imp {X : Cx} {e : List Stmt} {t t' : TS} (h : PSs X e t) (k : ∀ D s H, t' D s H → t D s H) : PSs X e t' := ⟨fun pins s σ H D I q => h.run pins s σ H D I (k _ _ _ q)⟩
/-! ### expressions: names, constants -/
def aVar (i : Nat) : AE := fun e m Q _ => ∃ d, e[i]? = some (some d) ∧ Q d m
def aC (d : D) : AE := fun _ m Q _ => Q d m
section
variable {X : Cx} {a b c : Expr} {es : List Expr} {pos : Pos}
theorem qv (i : Nat) {x : Str} (hN : X.N[i]? = some x := by rfl) (hv : Vis X.env.scope x := by first | exact Or.inl rfl | exact Or.inr (Or.inl rfl) | exact Or.inr (Or.inr rfl)) (hd : (x == ("__debug__" : Str)) = false := by decide)
    (hcd : (x == ("__classdict__" : Str)) = false := by decide) : QE X (.Name x pos) (aVar i) := fun W tk => (pe_var hN hv hd hcd).imp fun s H Qc ⟨F, e, m, r, Q, X, he, hs, ⟨d, h1, h2⟩, g, gx⟩ => by
  obtain ⟨v, q1, q2⟩ := he.2 i d h1
  exact ⟨v, q1, g F H m v d (Same.refl F) hs q2 h2⟩
theorem q_lit {v : V} {d : D} (h : PE X a (tC v)) (r : ∀ F, Rep X.K F v d) : QE X a (aC d) := fun W tk => h.imp fun s H Qc ⟨F, e, m, r', Q, X, he, hs, h, g, gx⟩ => g F H m v d (Same.refl F) hs (r F) h
theorem q_int {i j} : QE X (.Constant (.int i) j pos) (aC (.int i)) := q_lit pe_int fun _ => .int _
theorem q_bl {b j} : QE X (.Constant (.bool b) j pos) (aC (.bl b)) := q_lit pe_bl fun _ => .bl _
theorem q_non {j} : QE X (.Constant .none j pos) (aC .non) := q_lit pe_non fun _ => .non
theorem q_str {x j} : QE X (.Constant (.str x) j pos) (aC (.str x)) := q_lit pe_str fun _ => .str _
theorem q_glob {x : Str} {v : V} {u : Value} {d : D} (hm : X.mg x = some u) (r : RelV v u) (rd : ∀ F, Rep X.K F v d) (hg : Gl X x := by rfl) (hd : (x == ("__debug__" : Str)) = false := by decide) : QE X (.Name x pos) (aC d) := q_lit (pe_glob hg hm r hd) rd
/-! ### operators -/
abbrev B1 := D → Mu → QD → Prop
abbrev B2 := D → D → Mu → QD → Prop
abbrev BA := List D → Mu → QD → Prop
abbrev BM := D → List D → Mu → QD → Prop
def S1 (K : PySem.W.Frag) (rd : V → Hp → VK → Prop) (b : B1) : Prop := ∀ F H m r v d Q Qc, Sn K F H m r → Rep K F v d → b d m Q → GE K F r Q Qc → rd v H Qc
def S2 (K : PySem.W.Frag) (rd : R2) (b : B2) : Prop := ∀ F H m r v u d e Q Qc, Sn K F H m r → Rep K F v d → Rep K F u e → b d e m Q → GE K F r Q Qc → rd v u H Qc
def SA (K : PySem.W.Frag) (rd : List V → Hp → VK → Prop) (b : BA) : Prop := ∀ F H m r vs ds Q Qc, Sn K F H m r → RepL K F vs ds → b ds m Q → GE K F r Q Qc → rd vs H Qc
def SM (K : PySem.W.Frag) (rd : V → List V → Hp → VK → Prop) (b : BM) : Prop := ∀ F H m r v d vs ds Q Qc, Sn K F H m r → Rep K F v d → RepL K F vs ds → b d ds m Q → GE K F r Q Qc → rd v vs H Qc
def aOp1 (b : B1) (t : AE) : AE := fun e m Q X => t e m (fun d m1 => b d m1 Q) X
def aOp (b : B2) (t u : AE) : AE := fun e m Q X => t e m (fun d m1 => u e m1 (fun d2 m2 => b d d2 m2 Q) X) X
def aB (t : AE) : AT := fun e m Q X => t e m (fun d m1 => ∃ k, d = .bl k ∧ Q k m1) X
theorem low2 {K : PySem.W.Frag} {W : WX} {ta tb : AE} {rd : R2} {b : B2} (hs : S2 K rd b) {s : L2.St} {H : Hp} {Qc : VK} (h : cE K W (aOp b ta tb) s H Qc) : tOp rd (cE K W ta) (cE K W tb) s H Qc := by
  obtain ⟨F, e, m, r, Q, X, he, hn, h, g, gx⟩ := h
  refine ⟨F, e, m, r, _, X, he, hn, h, fun F1 H1 m1 v d s1 n1 r1 q1 => ?_, gx⟩
  refine ⟨F1, e, m1, r, _, X, he.mono s1, n1, q1, fun F2 H2 m2 u d2 s2 n2 r2 q2 => ?_, gx.mono s1⟩
  exact hs F2 H2 m2 r v u d d2 Q Qc n2 (r1.mono s2) r2 q2 (g.mono (s1.trans s2))
theorem low1 {K : PySem.W.Frag} {W : WX} {ta : AE} {rd : V → Hp → VK → Prop} {b : B1} (hs : S1 K rd b) {s : L2.St} {H : Hp} {Qc : VK} (h : cE K W (aOp1 b ta) s H Qc) : tUn rd (cE K W ta) s H Qc := by
  obtain ⟨F, e, m, r, Q, X, he, hn, h, g, gx⟩ := h
  exact ⟨F, e, m, r, _, X, he, hn, h, fun F1 H1 m1 v d s1 n1 r1 q1 => hs F1 H1 m1 r v d Q Qc n1 r1 q1 (g.mono s1), gx⟩
theorem q_bin {op : Operator} {rd : R2} {bb : B2} {ta tb : AE} (ho : OpR X (binaryOp op) rd) (hs : S2 X.K rd bb) (ha : QE X a ta) (hb : QE X b tb) : QE X (.BinOp a op b pos) (aOp bb ta tb) :=
  fun W tk => (pe_op ho (ha W tk) (hb W tk)).imp fun _ _ _ h => low2 hs h
theorem q_cmp {op : CmpOp} {rd : R2} {bb : B2} {ta tb : AE} (ho : OpR X (compareOp op) rd) (hs : S2 X.K rd bb) (ha : QE X a ta) (hb : QE X b tb) (hm : behindInMarks op b = false) : QE X (.Compare a [op] [b] pos) (aOp bb ta tb) :=
  fun W tk => (pe_cmpR ho (ha W tk) (hb W tk) hm).imp fun _ _ _ h => low2 hs h
/-- the ends of a test made of a bool's ends -/
theorem cE_of_B {K : PySem.W.Frag} {W : WX} {t : AE} {s : L2.St} {H : Hp} {Qc : Bool → Hp → Prop} (h : cT K W (aB t) s H Qc) : cE K W t s H (fun x H' => ∃ k, x = .bl k ∧ Qc k H') := by
  obtain ⟨F, e, m, r, Q, X, he, hn, h, g, gx⟩ := h
  refine ⟨F, e, m, r, _, X, he, hn, h, fun F1 H1 m1 v d s1 n1 r1 q1 => ?_, gx⟩
  obtain ⟨k, rfl, q⟩ := q1
  cases r1
  exact ⟨k, rfl, g F1 H1 m1 k s1 n1 q⟩
theorem qt_cmp {op : CmpOp} {rd : R2} {bb : B2} {ta tb : AE} (ho : OpR X (compareOp op) rd) (hs : S2 X.K rd bb) (ha : QE X a ta) (hb : QE X b tb) (hm : behindInMarks op b = false) : QT X (.Compare a [op] [b] pos) (aB (aOp bb ta tb)) :=
  fun W tk => (pt_cmpR ho (ha W tk) (hb W tk) hm).imp fun _ _ _ h => low2 hs (cE_of_B h)
theorem qt_val {t : AE} (h : QE X a t) (he : ∀ whole, isTrue a X.env whole = (do let v ← whole; standAt a.pos; holding [v] (truthy v)) := by intro _; rfl) : QT X a (aB t) :=
  fun W tk => (pt_val (h W tk) he).imp fun _ _ _ h => cE_of_B h
theorem q_un {op : UnaryOp} {rd : V → Hp → VK → Prop} {bb : B1} {ta : AE} (ho : UnR X (unaryOp op) rd) (hs : S1 X.K rd bb) (ha : QE X a ta) : QE X (.UnaryOp op a pos) (aOp1 bb ta) :=
  fun W tk => (pe_un ho (ha W tk)).imp fun _ _ _ h => low1 hs h
/-- chains -/
def aChain (b b' : B2) (ta tb tc : AE) : AE := fun e m Q X => ta e m (fun x m1 => tb e m1 (fun y m2 => b x y m2 fun z m3 => ∃ k, z = .bl k ∧ if k = true then tc e m3 (fun w m4 => b' y w m4 Q) X else Q (.bl false) m3) X) X
/-! ### and, or, not -/
def aAnd (t u : AT) : AT := fun e m Q X => t e m (fun c m1 => if c = true then u e m1 Q X else Q false m1) X
def aOr (t u : AT) : AT := fun e m Q X => t e m (fun c m1 => if c = true then Q true m1 else u e m1 Q X) X
def aNot (t : AT) : AT := fun e m Q X => t e m (fun c m1 => Q (!c) m1) X
def aAndV (t u : AE) : AE := fun e m Q X => t e m (fun d m1 => ∃ c, d = .bl c ∧ if c = true then u e m1 Q X else Q (.bl false) m1) X
def aOrV (t u : AE) : AE := fun e m Q X => t e m (fun d m1 => ∃ c, d = .bl c ∧ if c = true then Q (.bl true) m1 else u e m1 Q X) X
def aNotV (t : AE) : AE := fun e m Q X => t e m (fun d m1 => ∃ c, d = .bl c ∧ Q (.bl (!c)) m1) X
def aIf (t : AT) (u v : AE) : AE := fun e m Q X => t e m (fun c m1 => if c = true then u e m1 Q X else v e m1 Q X) X
variable {rest : List Expr} {t u : AT} {ta tb tc : AE}
theorem qw_and1 (h : QT X a t) : QW X (.BoolOp .And [a] pos) t := fun W tk => pw_and1 (h W tk)
theorem qw_or1 (h : QT X a t) : QW X (.BoolOp .Or [a] pos) t := fun W tk => pw_or1 (h W tk)
theorem qw_and (h : QT X a t) (h2 : QW X (.BoolOp .And (b :: rest) pos) u) : QW X (.BoolOp .And (a :: b :: rest) pos) (aAnd t u) := fun W tk => (pw_and (h W tk) (h2 W tk)).imp fun s H Qc h => by
  obtain ⟨F, e, m, r, Q, X, he, hn, h, g, gx⟩ := h
  refine ⟨F, e, m, r, _, X, he, hn, h, fun F1 H1 m1 c s1 n1 q1 => ?_, gx⟩
  cases c with
  | true => exact ⟨F1, e, m1, r, Q, X, he.mono s1, n1, q1, g.mono s1, gx.mono s1⟩
  | false => exact g F1 H1 m1 false s1 n1 q1
theorem qw_or (h : QT X a t) (h2 : QW X (.BoolOp .Or (b :: rest) pos) u) : QW X (.BoolOp .Or (a :: b :: rest) pos) (aOr t u) := fun W tk => (pw_or (h W tk) (h2 W tk)).imp fun s H Qc h => by
  obtain ⟨F, e, m, r, Q, X, he, hn, h, g, gx⟩ := h
  refine ⟨F, e, m, r, _, X, he, hn, h, fun F1 H1 m1 c s1 n1 q1 => ?_, gx⟩
  cases c with
  | false => exact ⟨F1, e, m1, r, Q, X, he.mono s1, n1, q1, g.mono s1, gx.mono s1⟩
  | true => exact g F1 H1 m1 true s1 n1 q1
theorem QW.pt (h : QW X a t) : QT X a t := fun W tk => (h W tk).pt
theorem qt_not (h : QT X a t) : QT X (.UnaryOp .Not a pos) (aNot t) := fun W tk => (pt_not (h W tk)).imp fun s H Qc h => by
  obtain ⟨F, e, m, r, Q, X, he, hn, h, g, gx⟩ := h
  exact ⟨F, e, m, r, _, X, he, hn, h, fun F1 H1 m1 c s1 n1 q1 => g F1 H1 m1 (!c) s1 n1 q1, gx⟩
theorem q_one {op} (h : QE X a ta) : QE X (.BoolOp op [a] pos) ta := fun W tk => pe_one (h W tk)
theorem q_and (h : QE X a ta) (h2 : QE X (.BoolOp .And (b :: rest) pos) tb) : QE X (.BoolOp .And (a :: b :: rest) pos) (aAndV ta tb) := fun W tk => (pe_and (h W tk) (h2 W tk)).imp fun s H Qc h => by
  obtain ⟨F, e, m, r, Q, X, he, hn, h, g, gx⟩ := h
  refine ⟨F, e, m, r, _, X, he, hn, h, fun F1 H1 m1 v d s1 n1 r1 q1 => ?_, gx⟩
  obtain ⟨c, rfl, q1⟩ := q1
  cases r1
  refine ⟨c, rfl, ?_⟩
  cases c with
  | true => exact ⟨F1, e, m1, r, Q, X, he.mono s1, n1, q1, g.mono s1, gx.mono s1⟩
  | false => exact g F1 H1 m1 _ _ s1 n1 (.bl false) q1
theorem q_or (h : QE X a ta) (h2 : QE X (.BoolOp .Or (b :: rest) pos) tb) : QE X (.BoolOp .Or (a :: b :: rest) pos) (aOrV ta tb) := fun W tk => (pe_or (h W tk) (h2 W tk)).imp fun s H Qc h => by
  obtain ⟨F, e, m, r, Q, X, he, hn, h, g, gx⟩ := h
  refine ⟨F, e, m, r, _, X, he, hn, h, fun F1 H1 m1 v d s1 n1 r1 q1 => ?_, gx⟩
  obtain ⟨c, rfl, q1⟩ := q1
  cases r1
  refine ⟨c, rfl, ?_⟩
  cases c with
  | false => exact ⟨F1, e, m1, r, Q, X, he.mono s1, n1, q1, g.mono s1, gx.mono s1⟩
  | true => exact g F1 H1 m1 _ _ s1 n1 (.bl true) q1
theorem q_not (h : QE X a ta) : QE X (.UnaryOp .Not a pos) (aNotV ta) := fun W tk => (pe_not (h W tk)).imp fun s H Qc h => by
  obtain ⟨F, e, m, r, Q, X, he, hn, h, g, gx⟩ := h
  refine ⟨F, e, m, r, _, X, he, hn, h, fun F1 H1 m1 v d s1 n1 r1 q1 => ?_, gx⟩
  obtain ⟨c, rfl, q1⟩ := q1
  cases r1
  exact ⟨c, rfl, g F1 H1 m1 _ _ s1 n1 (.bl (!c)) q1⟩
theorem q_if (h : QT X c t) (ha : QE X a ta) (hb : QE X b tb) : QE X (.IfExp c a b pos) (aIf t ta tb) := fun W tk => (pe_ifExp (h W tk) (ha W tk) (hb W tk)).imp fun s H Qc h => by
  obtain ⟨F, e, m, r, Q, X, he, hn, h, g, gx⟩ := h
  refine ⟨F, e, m, r, _, X, he, hn, h, fun F1 H1 m1 c s1 n1 q1 => ?_, gx⟩
  cases c with
  | true => exact ⟨F1, e, m1, r, Q, X, he.mono s1, n1, q1, g.mono s1, gx.mono s1⟩
  | false => exact ⟨F1, e, m1, r, Q, X, he.mono s1, n1, q1, g.mono s1, gx.mono s1⟩
/-! ### argument lists, displays -/
def aNil : AA := fun _ m Q _ => Q [] m
def aCons (t : AE) (u : AA) : AA := fun e m Q X => t e m (fun d m1 => u e m1 (fun ds m2 => Q (d :: ds) m2) X) X
theorem qa_nil : QA X [] aNil := fun W tk => pa_nil.imp fun s H Qc ⟨F, e, m, r, Q, X, he, hn, h, g, gx⟩ => g F H m [] [] (Same.refl F) hn .nil h
theorem qa_cons {tr : AA} (ha : QE X a ta) (hr : QA X es tr) (hs : starEach (a :: es) X.env = (false, eval a X.env) :: starEach es X.env := by rfl) : QA X (a :: es) (aCons ta tr) :=
  fun W tk => (pa_cons (ha W tk) (hr W tk) hs).imp fun s H Qc h => by
    obtain ⟨F, e, m, r, Q, X, he, hn, h, g, gx⟩ := h
    refine ⟨F, e, m, r, _, X, he, hn, h, fun F1 H1 m1 v d s1 n1 r1 q1 => ?_, gx⟩
    refine ⟨F1, e, m1, r, _, X, he.mono s1, n1, q1, fun F2 H2 m2 vs ds s2 n2 r2 q2 => ?_, gx.mono s1⟩
    exact g F2 H2 m2 (v :: vs) (d :: ds) (s1.trans s2) n2 (.cons (r1.mono s2) r2) q2
/-- a new list: frozen, or a cell -/
def newL (mt : Bool) (ds : List D) (m : Mu) (Q : QD) : Prop := match mt with
  | false => Q (.lst ds) m
  | true => ∀ p, m p = none → Q (.cell p) (mset m p (.lst ds))
theorem newL_ok {K : PySem.W.Frag} {F H : Hp} {m : Mu} {r : Hp} {mt : Bool} {ds : List D} {xs : List V} {Q : QD} {Qc : VK} (hn : Sn K F H m r) (hr : RepL K F xs ds) (h : newL mt ds m Q) (g : GE K F r Q Qc) (p : Addr) (hp : H p = none) : Qc (.ref p) (upd H p (.lst xs)) := by
  cases mt with
  | false => exact g _ _ m _ _ (hn.same hp _) (hn.new hp _) (.lst upd_same (hr.mono (hn.same hp _))) h
  | true => exact g F _ _ _ _ (Same.refl F) (hn.newM (x := .lst ds) hp ⟨xs, upd_same, hr⟩) (.cell p) (h p (hn.m_none hp))
def aTup (t : AA) : AE := fun e m Q X => t e m (fun ds m1 => ds.length ≤ sizeLine ∧ Q (.tup ds) m1) X
def aLst (mt : Bool) (t : AA) : AE := fun e m Q X => t e m (fun ds m1 => ds.length ≤ sizeLine ∧ newL mt ds m1 Q) X
variable {tr : AA}
theorem q_tup {x1} (h : QA X es tr) : QE X (.Tuple es x1 pos) (aTup tr) := fun W tk => (pe_tup (h W tk)).imp fun s H Qc h => by
  obtain ⟨F, e, m, r, Q, X, he, hn, h, g, gx⟩ := h
  refine ⟨F, e, m, r, _, X, he, hn, h, fun F1 H1 m1 v d s1 n1 r1 q1 => ?_, gx⟩
  refine ⟨by rw [r1.length]; exact q1.1, fun p hp => ?_⟩
  exact g _ _ m1 _ _ (s1.trans (n1.same hp _)) (n1.new hp _) (.tup (.inl (.inl upd_same)) (r1.mono (n1.same hp _))) q1.2
theorem q_lst (mt : Bool) (h : QA X es tr) : QE X (.List es pos) (aLst mt tr) := fun W tk => (pe_lst (h W tk)).imp fun s H Qc h => by
  obtain ⟨F, e, m, r, Q, X, he, hn, h, g, gx⟩ := h
  refine ⟨F, e, m, r, _, X, he, hn, h, fun F1 H1 m1 v d s1 n1 r1 q1 => ?_, gx⟩
  exact ⟨by rw [r1.length]; exact q1.1, fun p hp => newL_ok n1 r1 q1.2 (g.mono s1) p hp⟩
/-! ### calls of builtins, of methods of builtin types -/
def aCB (b : BA) (t : AA) : AE := fun e m Q X => t e m (fun ds m1 => b ds m1 Q) X
theorem lowA {K : PySem.W.Frag} {W : WX} {t : AA} {rd : List V → Hp → VK → Prop} {b : BA} (hs : SA K rd b) {s : L2.St} {H : Hp} {Qc : VK} (h : cE K W (aCB b t) s H Qc) : tCB rd (cA K W t) s H Qc := by
  obtain ⟨F, e, m, r, Q, X, he, hn, h, g, gx⟩ := h
  exact ⟨F, e, m, r, _, X, he, hn, h, fun F1 H1 m1 v d s1 n1 r1 q1 => hs F1 H1 m1 r v d Q Qc n1 r1 q1 (g.mono s1), gx⟩
variable {id x T name : Str} {rd : List V → Hp → VK → Prop} {bb : BA}
theorem q_callB {id : String} {p : Pos} (hc : CallR X (.builtin id) rd) (hs : SA X.K rd bb) (hm : X.mg x = none) (hv : bootBuiltins x = some (.builtin id)) (ha : QA X (a :: es) tr) (hg : Gl X x := by rfl) (hn : x ≠ "__name__" := by decide) (hdb : (x == ("__debug__" : Str)) = false := by decide)
    (he : starEach (a :: es) X.env = (false, eval a X.env) :: starEach es X.env := by rfl) (hpl : (backTo pos (starEach es X.env)).any (·.1) = false := by rfl) : QE X (.Call (.Name x p) (a :: es) [] pos) (aCB bb tr) :=
  fun W tk => (pe_callB hc hg hm hv (ha W tk) hn hdb he hpl).imp fun _ _ _ h => lowA hs h
theorem q_callTy {T : String} {p : Pos} (hc : CallR X (.type T) rd) (hs : SA X.K rd bb) (hm : X.mg x = none) (hv : bootBuiltins x = some (.type T)) (ha : QA X (a :: es) tr) (hg : Gl X x := by rfl) (hn : x ≠ "__name__" := by decide) (hdb : (x == ("__debug__" : Str)) = false := by decide)
    (he : starEach (a :: es) X.env = (false, eval a X.env) :: starEach es X.env := by rfl) (hpl : (backTo pos (starEach es X.env)).any (·.1) = false := by rfl) : QE X (.Call (.Name x p) (a :: es) [] pos) (aCB bb tr) :=
  fun W tk => (pe_callTy hc hg hm hv (ha W tk) hn hdb he hpl).imp fun _ _ _ h => lowA hs h
end
end Ab
namespace Ab
open PySem PySem.Spec PyProof.Rows L2
/-! ### views -/
def oL : Option MO → Option (List D)
  | some (.lst xs) => some xs
  | _ => none
def oK : Option MO → Option (List (Key × D))
  | some (.dic _ kvs) => some kvs
  | _ => none
def oF : Option MO → Option (Addr × List (Str × D))
  | some (.ins C fs) => some (C, fs)
  | _ => none
def asX (m : Mu) : D → Option (List D)
  | .lst xs => some xs
  | .cell a => oL (m a)
  | _ => none
def asS (m : Mu) : D → Option (List D)
  | .lst xs => some xs
  | .tup xs => some xs
  | .scr ns => some (ns.map D.int)
  | .cell a => oL (m a)
  | _ => none
def asK (m : Mu) : D → Option (List (Key × D))
  | .dic kvs => some kvs
  | .cell a => oK (m a)
  | _ => none
def asF (m : Mu) : D → Option (Addr × List (Str × D))
  | .obj C fs => some (C, fs)
  | .cell a => oF (m a)
  | _ => none
def keyD : D → Option Key
  | .int i => some (.inl i)
  | .str x => some (.inr x)
  | _ => none
section
variable {K : PySem.W.Frag} {F H : Hp} {m : Mu} {r : Hp} {v : V} {d : D}
theorem asX_ok {xs : List D} (hn : Sn K F H m r) (hr : Rep K F v d) (h : asX m d = some xs) : ∃ p vs, v = .ref p ∧ H p = some (.lst vs) ∧ RepL K F vs xs := by
  cases d with
  | lst ys => cases h; cases hr with | lst e q => exact ⟨_, _, rfl, hn.lst e, q⟩
  | cell a =>
    cases hr
    have h : oL (m a) = some xs := h
    cases e : m a with
    | none => rw [e] at h; cases h
    | some o =>
      rw [e] at h
      cases o with
      | lst ys =>
        cases h
        obtain ⟨_, vs, h1, h2⟩ := hn.mu a _ e
        exact ⟨_, _, rfl, h1, h2⟩
      | _ => cases h
  | _ => cases h
theorem rl_ints : ∀ {ns : List Int}, RepL K F (ns.map V.int) (ns.map D.int)
  | [] => .nil
  | _ :: _ => .cons (.int _) rl_ints
theorem asS_ok {xs : List D} (hn : Sn K F H m r) (hr : Rep K F v d) (h : asS m d = some xs) : ∃ p vs, v = .ref p ∧ (SqL K H p vs ∨ SqT K H p vs) ∧ RepL K F vs xs := by
  cases d with
  | lst ys => cases h; cases hr with | lst e q => exact ⟨_, _, rfl, .inl (.inl (.inl (hn.lst e))), q⟩
  | tup ys => cases h; cases hr with | tup e q => exact ⟨_, _, rfl, .inr (hn.sqT e), q⟩
  | scr ns => cases h; cases hr with | scr e => exact ⟨_, _, rfl, .inl (hn.sqL e), rl_ints⟩
  | cell a =>
    obtain ⟨p, vs, e, h1, h2⟩ := asX_ok (xs := xs) hn hr h
    exact ⟨p, vs, e, .inl (.inl (.inl h1)), h2⟩
  | _ => cases h
theorem asK_ok {xs : List (Key × D)} (hn : Sn K F H m r) (hr : Rep K F v d) (h : asK m d = some xs) : ∃ p kvs, v = .ref p ∧ Rd H p (.dK kvs) ∧ RepK K F kvs xs := by
  cases d with
  | dic ys => cases h; cases hr with | dic e q => exact ⟨_, _, rfl, hn.rd (.inl e), q⟩
  | cell a =>
    cases hr
    have h : oK (m a) = some xs := h
    cases e : m a with
    | none => rw [e] at h; cases h
    | some o =>
      rw [e] at h
      cases o with
      | dic lk ys =>
        cases h
        cases lk with
        | false => obtain ⟨_, vs, h1, h2⟩ := hn.mu a _ e; exact ⟨_, _, rfl, .inl h1, h2⟩
        | true => obtain ⟨_, o, vs, h1, h2⟩ := hn.mu a _ e; exact ⟨_, _, rfl, .inr ⟨_, h1⟩, h2⟩
      | _ => cases h
  | _ => cases h
theorem asF_ok {C : Addr} {fs : List (Str × D)} (hn : Sn K F H m r) (hr : Rep K F v d) (h : asF m d = some (C, fs)) : ∃ p dx gs, v = .ref p ∧ H p = some (.ins C dx gs) ∧ RepF K F gs fs := by
  cases d with
  | obj _ _ => cases h; cases hr with | obj e q => exact ⟨_, _, _, rfl, hn.ins e, q⟩
  | cell a =>
    cases hr
    have h : oF (m a) = some (C, fs) := h
    cases e : m a with
    | none => rw [e] at h; cases h
    | some o =>
      rw [e] at h
      cases o with
      | ins _ _ => cases h; obtain ⟨_, dx, gs, h1, h2⟩ := hn.mu a _ e; exact ⟨_, _, _, rfl, h1, h2⟩
      | _ => cases h
  | _ => cases h
theorem key_ok {k : Key} (hr : Rep K F v d) (h : keyD d = some k) : v = kV k := by
  cases d with
  | int i => cases h; cases hr; rfl
  | str x => cases h; cases hr; rfl
  | _ => cases h
theorem Rep.int_inv {i : Int} (h : Rep K F v (.int i)) : v = .int i := by cases h; rfl
theorem Rep.str_inv {x : Str} (h : Rep K F v (.str x)) : v = .str x := by cases h; rfl
theorem Rep.bl_inv {x : Bool} (h : Rep K F v (.bl x)) : v = .bl x := by cases h; rfl
theorem Rep.non_inv (h : Rep K F v .non) : v = .non := by cases h; rfl
end
/-! ### equality of data -/
mutual
def py : D → PyData
  | .non => .none
  | .bl b => .bool b
  | .int i => .int i
  | .str x => .str x
  | .lst xs => .list (pys xs)
  | .tup xs => .tuple (pys xs)
  | _ => .none
def pys : List D → List PyData
  | [] => []
  | x :: xs => py x :: pys xs
end
def eqD (d e : D) : Bool := PyData.eqv (py d) (py e)
inductive OkD : Nat → D → Prop
  | non {n : Nat} : OkD n .non
  | bl {n : Nat} {b : Bool} : OkD n (.bl b)
  | int {n : Nat} {i : Int} : OkD n (.int i)
  | str {n : Nat} {x : Str} : PyData.strOk x = true → OkD n (.str x)
  | lst {n : Nat} {xs : List D} : (∀ x, x ∈ xs → OkD n x) → OkD (n + 1) (.lst xs)
  | tup {n : Nat} {xs : List D} : (∀ x, x ∈ xs → OkD n x) → OkD (n + 1) (.tup xs)
theorem depthAll_le {n : Nat} : ∀ {xs : List PyData}, (∀ x, x ∈ xs → x.depth ≤ n) → PyData.depthAll xs ≤ n
  | [], _ => by unfold PyData.depthAll; omega
  | x :: xs, h => by
    unfold PyData.depthAll
    have h1 := h x (List.mem_cons_self ..)
    have h2 := depthAll_le (xs := xs) fun y hy => h y (List.mem_cons_of_mem _ hy)
    omega
theorem canAll {xs : List PyData} : (∀ x, x ∈ xs → x.canLay0 = true) → PyData.canLayAll0 xs = true := by
  induction xs with
  | nil => intro _; unfold PyData.canLayAll0; rfl
  | cons x xs ih =>
    intro h
    unfold PyData.canLayAll0
    rw [h x (List.mem_cons_self ..), ih fun y hy => h y (List.mem_cons_of_mem _ hy)]; rfl
theorem mem_pys {xs : List D} {y : PyData} (h : y ∈ pys xs) : ∃ x, x ∈ xs ∧ y = py x := by
  induction xs with
  | nil => unfold pys at h; cases h
  | cons x xs ih =>
    unfold pys at h
    rcases List.mem_cons.mp h with h | h
    · exact ⟨x, List.mem_cons_self .., h⟩
    · obtain ⟨z, h1, h2⟩ := ih h; exact ⟨z, List.mem_cons_of_mem _ h1, h2⟩
theorem OkD.shape {n : Nat} {d : D} (h : OkD n d) : (py d).canLay0 = true ∧ (py d).depth ≤ n := by
  induction h with
  | non => exact ⟨by unfold py PyData.canLay0; rfl, by unfold py PyData.depth; omega⟩
  | bl => exact ⟨by unfold py PyData.canLay0; rfl, by unfold py PyData.depth; omega⟩
  | int => exact ⟨by unfold py PyData.canLay0; rfl, by unfold py PyData.depth; omega⟩
  | str hx => exact ⟨by unfold py PyData.canLay0; exact hx, by unfold py PyData.depth; omega⟩
  | lst h ih =>
    refine ⟨?_, ?_⟩
    · unfold py PyData.canLay0
      exact canAll fun y hy => by obtain ⟨x, h1, rfl⟩ := mem_pys hy; exact (ih x h1).1
    · unfold py PyData.depth
      exact Nat.succ_le_succ (depthAll_le fun y hy => by obtain ⟨x, h1, rfl⟩ := mem_pys hy; exact (ih x h1).2)
  | tup h ih =>
    refine ⟨?_, ?_⟩
    · unfold py PyData.canLay0
      exact canAll fun y hy => by obtain ⟨x, h1, rfl⟩ := mem_pys hy; exact (ih x h1).1
    · unfold py PyData.depth
      exact Nat.succ_le_succ (depthAll_le fun y hy => by obtain ⟨x, h1, rfl⟩ := mem_pys hy; exact (ih x h1).2)
theorem OkD.mono {n k : Nat} {d : D} (h : OkD n d) (hk : n ≤ k) : OkD k d := by
  induction h generalizing k with
  | non => exact .non
  | bl => exact .bl
  | int => exact .int
  | str hx => exact .str hx
  | lst h ih => cases k with | zero => omega | succ k => exact .lst fun x hx => ih x hx (by omega)
  | tup h ih => cases k with | zero => omega | succ k => exact .tup fun x hx => ih x hx (by omega)
theorem OkD.shaped {n : Nat} {d : D} (h : OkD n d) (hn : n ≤ 64) : SeqAt.shaped (py d) = true := by
  obtain ⟨h1, h2⟩ := h.shape
  unfold SeqAt.shaped
  rw [h1, decide_eq_true (Nat.le_trans h2 hn)]; rfl
theorem dpAll_of {K : PySem.W.Frag} {F H : Hp} : ∀ {vs : List V} {xs : List D}, RepL K F vs xs → (∀ x, x ∈ xs → ∀ v, Rep K F v x → Dp K H v (py x)) → DpAll K H vs (pys xs)
  | _, _, .nil, _ => by unfold pys; exact .nil
  | _, _, .cons h r, f => by unfold pys; exact .cons (f _ (List.mem_cons_self ..) _ h) (dpAll_of r fun x hx => f x (List.mem_cons_of_mem _ hx))
theorem OkD.dp {K : PySem.W.Frag} {F H : Hp} {m : Mu} {r : Hp} (hn : Sn K F H m r) {n : Nat} {d : D} (h : OkD n d) : ∀ v, Rep K F v d → Dp K H v (py d) := by
  induction h with
  | non => intro v hr; cases hr; unfold py; exact .non
  | bl => intro v hr; cases hr; unfold py; exact .bl _
  | int => intro v hr; cases hr; unfold py; exact .int _
  | str hx => intro v hr; cases hr; unfold py; exact .str _
  | lst h ih => intro v hr; cases hr with | lst e q => unfold py; exact .lst (.inl (.inl (hn.lst e))) (dpAll_of q ih)
  | tup h ih => intro v hr; cases hr with | tup e q => unfold py; exact .tup (hn.sqT e) (dpAll_of q ih)
/-- a cell's list as it stands -/
def vw (m : Mu) : D → D
  | .cell a => (match oL (m a) with | some xs => .lst xs | none => .cell a)
  | d => d
theorem OkD.dpv {K : PySem.W.Frag} {F H : Hp} {m : Mu} {r : Hp} (hn : Sn K F H m r) {n : Nat} {d : D} (h : OkD n (vw m d)) {v : V} (hr : Rep K F v d) : Dp K H v (py (vw m d)) := by
  cases d with
  | cell a =>
    have e2 : vw m (.cell a) = (match oL (m a) with | some xs => .lst xs | none => .cell a) := rfl
    cases e : oL (m a) with
    | none => rw [e2, e] at h; cases h
    | some xs =>
      rw [e2, e] at h ⊢
      obtain ⟨p, vs, rfl, h1, h2⟩ := asX_ok (xs := xs) hn hr e
      show Dp K H _ (py (.lst xs))
      unfold py
      have h' : OkD n (.lst xs) := h
      cases h' with
      | lst h => exact .lst (.inl (.inl h1)) (dpAll_of h2 fun x hx v hv => (h x hx).dp hn v hv)
  | _ => exact h.dp hn v hr
/-! ### the operators -/
section
variable {X : Cx}
def bAdd (mt : Bool) : B2 := fun d e m Q => match d, e with
  | .int i, .int j => Q (.int (i + j)) m
  | .str x, .str y => x.length + y.length ≤ sizeLine ∧ Q (.str (x ++ y)) m
  | d, e => ∃ xs ys, asX m d = some xs ∧ asX m e = some ys ∧ xs.length + ys.length ≤ sizeLine ∧ newL mt (xs ++ ys) m Q
theorem s_add {K : PySem.W.Frag} (mt : Bool) : S2 K (fun x y H Q => rI0 (fun i j => .int (i + j)) x y H Q ∨ ((∃ i j, x = .str i ∧ y = .str j ∧ i.length + j.length ≤ sizeLine ∧ Q (.str (i ++ j)) H) ∨ rCat x y H Q)) (bAdd mt) := by
  intro F H m r v u d e Q Qc hn h1 h2 h g
  unfold bAdd at h
  split at h
  · cases h1; cases h2; exact .inl ⟨_, _, rfl, rfl, g F H m _ _ (Same.refl F) hn (.int _) h⟩
  · cases h1; cases h2; exact .inr (.inl ⟨_, _, rfl, rfl, h.1, g F H m _ _ (Same.refl F) hn (.str _) h.2⟩)
  · obtain ⟨xs, ys, a1, a2, hl, q⟩ := h
    obtain ⟨p, vs, rfl, e1, r1⟩ := asX_ok hn h1 a1
    obtain ⟨p2, vs2, rfl, e2, r2⟩ := asX_ok hn h2 a2
    refine .inr (.inr ⟨p, p2, vs, vs2, rfl, rfl, e1, e2, by rw [r1.length, r2.length]; exact hl, fun p hp => ?_⟩)
    exact newL_ok hn (r1.append r2) q g p hp
/-- ints in, a value out -/
def bI (C : Int → Int → Prop) (f : Int → Int → D) : B2 := fun d e m Q => match d, e with
  | .int i, .int j => C i j ∧ Q (f i j) m
  | _, _ => False
def bI0 (f : Int → Int → D) : B2 := fun d e m Q => match d, e with
  | .int i, .int j => Q (f i j) m
  | _, _ => False
theorem s_I {K : PySem.W.Frag} {C C' : Int → Int → Prop} {f : Int → Int → D} {g : Int → Int → V} (hC : ∀ i j, C' i j → C i j) (hfg : ∀ F i j, Rep K F (g i j) (f i j)) : S2 K (rI C g) (bI C' f) := by
  intro F H m r v u d e Q Qc hn h1 h2 h k
  unfold bI at h
  split at h
  · cases h1; cases h2; exact ⟨_, _, rfl, rfl, hC _ _ h.1, k F H m _ _ (Same.refl F) hn (hfg F _ _) h.2⟩
  · exact h.elim
theorem s_I0 {K : PySem.W.Frag} {f : Int → Int → D} {g : Int → Int → V} (hfg : ∀ F i j, Rep K F (g i j) (f i j)) : S2 K (rI0 g) (bI0 f) := by
  intro F H m r v u d e Q Qc hn h1 h2 h k
  unfold bI0 at h
  split at h
  · cases h1; cases h2; exact ⟨_, _, rfl, rfl, k F H m _ _ (Same.refl F) hn (hfg F _ _) h⟩
  · exact h.elim
def bSub : B2 := bI0 fun i j => .int (i - j)
theorem s_sub {K : PySem.W.Frag} : S2 K (rI0 fun i j => .int (i - j)) bSub := s_I0 fun _ _ _ => .int _
def MulOk (i j : Int) : Prop := CMul i j ∨ CMulX i j
theorem MulOk.ok {i j : Int} (h : MulOk i j) : IntMulOk i j := h.elim CMul.ok CMulX.ok
def bMul : B2 := bI MulOk fun i j => .int (i * j)
theorem o_mul : OpR X (binaryOp .Mult) (rI MulOk fun i j => .int (i * j)) := opI fun _ _ _ _ _ _ _ hc q => mul_int q hc.ok
theorem s_mul {K : PySem.W.Frag} : S2 K (rI MulOk fun i j => .int (i * j)) bMul := s_I (fun _ _ h => h) fun _ _ _ => .int _
def bDiv : B2 := bI CDivW fun i j => .int (i / j)
theorem s_div {K : PySem.W.Frag} : S2 K (rI CDivW fun i j => .int (i / j)) bDiv := s_I (fun _ _ h => h) fun _ _ _ => .int _
def bMod : B2 := bI (fun _ j => 0 < j) fun i j => .int (i % j)
theorem s_mod {K : PySem.W.Frag} : S2 K (rI (fun _ j => 0 < j) fun i j => .int (i % j)) bMod := s_I (fun _ _ h => h) fun _ _ _ => .int _
def bPow : B2 := bI CPow fun i j => .int (i ^ j.toNat)
theorem s_pow {K : PySem.W.Frag} : S2 K (rI CPow fun i j => .int (i ^ j.toNat)) bPow := s_I (fun _ _ h => h) fun _ _ _ => .int _
def bShr : B2 := bI (fun _ j => 0 ≤ j) fun i j => .int (i / 2 ^ j.toNat)
theorem s_shr {K : PySem.W.Frag} : S2 K (rI (fun _ j => 0 ≤ j) fun i j => .int (i / 2 ^ j.toNat)) bShr := s_I (fun _ _ h => h) fun _ _ _ => .int _
/-- i & (2 ^ k - 1) -/
def bAnd : B2 := fun d e m Q => ∃ (i : Int) (k : Nat), d = .int i ∧ e = .int (2 ^ k - 1) ∧ Q (.int (i % 2 ^ k)) m
theorem s_and {K : PySem.W.Frag} : S2 K (fun x y H Q => ∃ (i : Int) (k : Nat), x = .int i ∧ y = .int (2 ^ k - 1) ∧ Q (.int (i % 2 ^ k)) H) bAnd := by
  intro F H m r v u d e Q Qc hn h1 h2 h k
  obtain ⟨i, j, rfl, rfl, q⟩ := h
  cases h1; cases h2
  exact ⟨i, j, rfl, rfl, k F H m _ _ (Same.refl F) hn (.int _) q⟩
def bNeg : B1 := fun d m Q => match d with
  | .int i => Q (.int (-i)) m
  | _ => False
theorem s_neg {K : PySem.W.Frag} : S1 K (rU fun i => .int (-i)) bNeg := by
  intro F H m r v d Q Qc hn h1 h k
  unfold bNeg at h
  split at h
  · cases h1; exact ⟨_, rfl, k F H m _ _ (Same.refl F) hn (.int _) h⟩
  · exact h.elim
/-! comparisons -/
def cI (f : Int → Int → Bool) (g : Str → Str → Bool) : B2 := fun d e m Q => match d, e with
  | .int i, .int j => Q (.bl (f i j)) m
  | .str x, .str y => Q (.bl (g x y)) m
  | _, _ => False
theorem s_cI {K : PySem.W.Frag} {f : Int → Int → Bool} {g : Str → Str → Bool} : S2 K (fun x y H Q => rI0 (fun i j => .bl (f i j)) x y H Q ∨ ∃ i j, x = .str i ∧ y = .str j ∧ Q (.bl (g i j)) H) (cI f g) := by
  intro F H m r v u d e Q Qc hn h1 h2 h k
  unfold cI at h
  split at h
  · cases h1; cases h2; exact .inl ⟨_, _, rfl, rfl, k F H m _ _ (Same.refl F) hn (.bl _) h⟩
  · cases h1; cases h2; exact .inr ⟨_, _, rfl, rfl, k F H m _ _ (Same.refl F) hn (.bl _) h⟩
  · exact h.elim
def bLt : B2 := cI (fun i j => decide (i < j)) fun x y => decide (x.cps.toList < y.cps.toList)
def bLe : B2 := cI (fun i j => decide (i ≤ j)) fun x y => !decide (y.cps.toList < x.cps.toList)
def bGt : B2 := cI (fun i j => decide (j < i)) fun x y => decide (y.cps.toList < x.cps.toList)
def bGe : B2 := cI (fun i j => decide (j ≤ i)) fun x y => !decide (x.cps.toList < y.cps.toList)
/-! rules -/
variable {a b c : Expr} {es : List Expr} {pos : Pos} {ta tb tc : AE}
theorem q_add (mt : Bool) (ha : QE X a ta) (hb : QE X b tb) : QE X (.BinOp a .Add b pos) (aOp (bAdd mt) ta tb) := q_bin (op_add.or (op_add_str.or op_cat)) (s_add mt) ha hb
theorem q_sub (ha : QE X a ta) (hb : QE X b tb) : QE X (.BinOp a .Sub b pos) (aOp bSub ta tb) := q_bin op_sub s_sub ha hb
theorem q_mul (ha : QE X a ta) (hb : QE X b tb) : QE X (.BinOp a .Mult b pos) (aOp bMul ta tb) := q_bin o_mul s_mul ha hb
theorem q_div (ha : QE X a ta) (hb : QE X b tb) : QE X (.BinOp a .FloorDiv b pos) (aOp bDiv ta tb) := q_bin op_fdivW s_div ha hb
theorem q_mod (ha : QE X a ta) (hb : QE X b tb) : QE X (.BinOp a .Mod b pos) (aOp bMod ta tb) := q_bin op_mod s_mod ha hb
theorem q_pow (ha : QE X a ta) (hb : QE X b tb) : QE X (.BinOp a .Pow b pos) (aOp bPow ta tb) := q_bin op_pow s_pow ha hb
theorem q_shr (ha : QE X a ta) (hb : QE X b tb) : QE X (.BinOp a .RShift b pos) (aOp bShr ta tb) := q_bin op_shr s_shr ha hb
theorem q_bitand (ha : QE X a ta) (hb : QE X b tb) : QE X (.BinOp a .BitAnd b pos) (aOp bAnd ta tb) := q_bin op_andM s_and ha hb
theorem q_neg (ha : QE X a ta) : QE X (.UnaryOp .USub a pos) (aOp1 bNeg ta) := q_un un_neg s_neg ha
/-- a comparison: its rule and its reading over data -/
def Cm (X : Cx) (op : CmpOp) (bb : B2) : Prop := ∃ rd, OpR X (compareOp op) rd ∧ S2 X.K rd bb
theorem c_lt : Cm X .Lt bLt := ⟨_, op_lt.or op_lt_str, s_cI⟩
theorem c_le : Cm X .LtE bLe := ⟨_, op_le.or op_le_str, s_cI⟩
theorem c_gt : Cm X .Gt bGt := ⟨_, op_gt.or op_gt_str, s_cI⟩
theorem c_ge : Cm X .GtE bGe := ⟨_, op_ge.or op_ge_str, s_cI⟩
def isN : D → Bool
  | .non => true
  | _ => false
def bIs : B2 := fun d e m Q => e = .non ∧ Q (.bl (isN d)) m
def bIsn : B2 := fun d e m Q => e = .non ∧ Q (.bl (!isN d)) m
theorem isN_ok {K : PySem.W.Frag} {F : Hp} {v : V} {d : D} (h : Rep K F v d) : decide (v = .non) = isN d := by
  cases h <;> rfl
theorem c_is : Cm X .Is bIs := ⟨_, op_isN, fun F H m r v u d e Q Qc hn h1 h2 h k => by
  obtain ⟨rfl, q⟩ := h
  cases h2
  refine ⟨rfl, k F H m _ _ (Same.refl F) hn ?_ q⟩
  rw [← isN_ok h1]; exact .bl _⟩
theorem c_isn : Cm X .IsNot bIsn := ⟨_, op_notN, fun F H m r v u d e Q Qc hn h1 h2 h k => by
  obtain ⟨rfl, q⟩ := h
  cases h2
  refine ⟨rfl, k F H m _ _ (Same.refl F) hn ?_ q⟩
  rw [← isN_ok h1]; exact .bl _⟩
/-- == of data: scalars at once, the rest where it is data -/
def DOk (d : D) : Prop := ∃ n, n ≤ 64 ∧ OkD n d
def bEq : B2 := fun d e m Q => match d, e with
  | .int i, .int j => Q (.bl (decide (i = j))) m
  | .str x, .str y => Q (.bl (decide (x = y))) m
  | .bl x, .bl y => Q (.bl (decide (x = y))) m
  | d, e => DOk (vw m d) ∧ DOk (vw m e) ∧ Q (.bl (eqD (vw m d) (vw m e))) m
def bNe : B2 := fun d e m Q => match d, e with
  | .int i, .int j => Q (.bl (!decide (i = j))) m
  | .str x, .str y => Q (.bl (!decide (x = y))) m
  | .bl x, .bl y => Q (.bl (!decide (x = y))) m
  | d, e => DOk (vw m d) ∧ DOk (vw m e) ∧ Q (.bl (!eqD (vw m d) (vw m e))) m
theorem dec_int (i j : Int) : decide (V.int i = V.int j) = decide (i = j) := by
  by_cases h : i = j
  · subst h; simp
  · rw [decide_eq_false h, decide_eq_false fun q => h (V.int.inj q)]
theorem dec_str (i j : Str) : decide (V.str i = V.str j) = decide (i = j) := by
  by_cases h : i = j
  · subst h; simp
  · rw [decide_eq_false h, decide_eq_false fun q => h (V.str.inj q)]
theorem dec_bl (i j : Bool) : decide (V.bl i = V.bl j) = decide (i = j) := by
  cases i <;> cases j <;> rfl
theorem c_eq (hu : X.A.units + 64 < cLine) : Cm X .Eq bEq := ⟨_, op_eq.or (op_eqD hu), fun F H m r v u d e Q Qc hn h1 h2 h k => by
  unfold bEq at h
  split at h
  · cases h1; cases h2; refine .inl ⟨rfl, ?_⟩; rw [dec_int]; exact k F H m _ _ (Same.refl F) hn (.bl _) h
  · cases h1; cases h2; refine .inl ⟨rfl, ?_⟩; rw [dec_str]; exact k F H m _ _ (Same.refl F) hn (.bl _) h
  · cases h1; cases h2; refine .inl ⟨rfl, ?_⟩; rw [dec_bl]; exact k F H m _ _ (Same.refl F) hn (.bl _) h
  · obtain ⟨⟨n1, l1, o1⟩, ⟨n2, l2, o2⟩, q⟩ := h
    exact .inr ⟨_, _, o1.dpv hn h1, o2.dpv hn h2, o1.shaped l1, o2.shaped l2, k F H m _ _ (Same.refl F) hn (.bl _) q⟩⟩
theorem c_ne (hu : X.A.units + 64 < cLine) : Cm X .NotEq bNe := ⟨_, op_ne.or (op_neD hu), fun F H m r v u d e Q Qc hn h1 h2 h k => by
  unfold bNe at h
  split at h
  · cases h1; cases h2; refine .inl ⟨rfl, ?_⟩; rw [dec_int]; exact k F H m _ _ (Same.refl F) hn (.bl _) h
  · cases h1; cases h2; refine .inl ⟨rfl, ?_⟩; rw [dec_str]; exact k F H m _ _ (Same.refl F) hn (.bl _) h
  · cases h1; cases h2; refine .inl ⟨rfl, ?_⟩; rw [dec_bl]; exact k F H m _ _ (Same.refl F) hn (.bl _) h
  · obtain ⟨⟨n1, l1, o1⟩, ⟨n2, l2, o2⟩, q⟩ := h
    exact .inr ⟨_, _, o1.dpv hn h1, o2.dpv hn h2, o1.shaped l1, o2.shaped l2, k F H m _ _ (Same.refl F) hn (.bl _) q⟩⟩
/-- in: a key of a dict, a sign of a text, a flat thing of a list or tuple -/
def flatD : D → Bool
  | .non => true
  | .bl _ => true
  | .int _ => true
  | .str _ => true
  | _ => false
def inD (d : D) (xs : List D) : Bool := xs.any fun y => eqD y d
def bIn (neg : Bool) : B2 := fun d e m Q => match asK m e with
  | some kvs => ∃ k, keyD d = some k ∧ Q (.bl (if neg then !(lkp kvs k).isSome else (lkp kvs k).isSome)) m
  | none => match e with
    | .str y => ∃ c, d = .str ⟨#[c]⟩ ∧ Q (.bl (if neg then !decide (c ∈ y.cps.toList) else decide (c ∈ y.cps.toList))) m
    | e => ∃ xs, asS m e = some xs ∧ flatD d = true ∧ xs.all flatD = true ∧ Q (.bl (if neg then !inD d xs else inD d xs)) m
def rDIn (neg : Bool) : R2 := fun y x H Q => ∃ a o, x = .ref a ∧ DGet H a y o ∧ Q (.bl (if neg then !o.isSome else o.isSome)) H
theorem op_din (hu : X.A.units + 1 < cLine) : OpR X (compareOp .In) (rDIn false) := by
  intro pins s σ H y x iv u Q I ry rx h
  obtain ⟨a, o, rfl, g, q⟩ := h
  cases rx
  exact d_in hu I g ry fun s3 I3 => ⟨.bl o.isSome, H, I3, rfl, q⟩
theorem op_dnotin (hu : X.A.units + 1 < cLine) : OpR X (compareOp .NotIn) (rDIn true) := by
  intro pins s σ H y x iv u Q I ry rx h
  obtain ⟨a, o, rfl, g, q⟩ := h
  cases rx
  exact d_notIn hu I g ry fun s3 I3 => ⟨.bl (!o.isSome), H, I3, rfl, q⟩
theorem flat_ok {K : PySem.W.Frag} {F : Hp} {v : V} {d : D} (h : Rep K F v d) (hf : flatD d = true) : flatV v = true := by
  cases h <;> first | rfl | cases hf
theorem flat_all {K : PySem.W.Frag} {F : Hp} : ∀ {vs : List V} {xs : List D}, RepL K F vs xs → xs.all flatD = true → vs.all flatV = true
  | _, _, .nil, _ => rfl
  | _, _, .cons h r, q => by
    rw [List.all_cons, Bool.and_eq_true] at q ⊢
    exact ⟨flat_ok h q.1, flat_all r q.2⟩
theorem eqV_ok {K : PySem.W.Frag} {F : Hp} {v u : V} {d e : D} (h : Rep K F v d) (h2 : Rep K F u e) (hf : flatD d = true) (hf2 : flatD e = true) : eqV v u = eqD d e := by
  cases h <;> first | (cases hf; done) | (cases h2 <;> first | (cases hf2; done) | (simp [eqV, eqD, py, PyData.eqv]))
theorem inV_ok {K : PySem.W.Frag} {F : Hp} {v : V} {d : D} (h : Rep K F v d) (hf : flatD d = true) : ∀ {vs : List V} {xs : List D}, RepL K F vs xs → xs.all flatD = true → inV v vs = inD d xs
  | _, _, .nil, _ => rfl
  | _, _, .cons h2 r, q => by
    rw [List.all_cons, Bool.and_eq_true] at q
    have ih := inV_ok h hf r q.2
    unfold inV inD at ih ⊢
    rw [List.any_cons, List.any_cons, ih, eqV_ok h2 h q.1 hf]
theorem s_in {K : PySem.W.Frag} (neg : Bool) : S2 K (fun x y H Q => rDIn neg x y H Q ∨ ((∃ (c : Nat) (z : Str), x = .str ⟨#[c]⟩ ∧ y = .str z ∧ Q (.bl (if neg then !decide (c ∈ z.cps.toList) else decide (c ∈ z.cps.toList))) H) ∨ rIn K neg x y H Q)) (bIn neg) := by
  intro F H m r v u d e Q Qc hn h1 h2 h k
  unfold bIn at h
  split at h
  · rename_i kvs hk
    obtain ⟨key, e1, q⟩ := h
    obtain ⟨p, kvs', rfl, e2, r2⟩ := asK_ok hn h2 hk
    refine .inl ⟨p, _, rfl, .inl ⟨kvs', key, e2, key_ok h1 e1, rfl⟩, ?_⟩
    rw [r2.lkp_isSome]
    exact k F H m _ _ (Same.refl F) hn (.bl _) q
  · split at h
    · obtain ⟨c, rfl, q⟩ := h
      cases h1; cases h2
      exact .inr (.inl ⟨c, _, rfl, rfl, k F H m _ _ (Same.refl F) hn (.bl _) q⟩)
    · obtain ⟨xs, e1, f1, f2, q⟩ := h
      obtain ⟨p, vs, rfl, e2, r2⟩ := asS_ok hn h2 e1
      refine .inr (.inr ⟨p, vs, rfl, e2, flat_ok h1 f1, flat_all r2 f2, ?_⟩)
      rw [inV_ok h1 f1 r2 f2]
      exact k F H m _ _ (Same.refl F) hn (.bl _) q
theorem opr_imp {f : Value → Value → Sem Value} {r r' : R2} (h : OpR X f r) (k : ∀ x y H Q, r' x y H Q → r x y H Q) : OpR X f r' := fun pins s σ H x y v u Q I rx ry q => h pins s σ H x y v u Q I rx ry (k _ _ _ _ q)
theorem c_in (hu : X.A.units + 1 < cLine) : Cm X .In (bIn false) := ⟨_, (op_din hu).or (op_in_sign.or op_in_seq), s_in false⟩
theorem c_notin (hu : X.A.units + 1 < cLine) : Cm X .NotIn (bIn true) := ⟨_, (op_dnotin hu).or (op_notIn_sign.or op_notIn_seq), s_in true⟩
theorem q_c {op : CmpOp} {bb : B2} (h : Cm X op bb) (ha : QE X a ta) (hb : QE X b tb) (hm : behindInMarks op b = false := by first | exact nomark _ | rfl) : QE X (.Compare a [op] [b] pos) (aOp bb ta tb) :=
  let ⟨_, h1, h2⟩ := h; q_cmp h1 h2 ha hb hm
theorem qt_c {op : CmpOp} {bb : B2} (h : Cm X op bb) (ha : QE X a ta) (hb : QE X b tb) (hm : behindInMarks op b = false := by first | exact nomark _ | rfl) : QT X (.Compare a [op] [b] pos) (aB (aOp bb ta tb)) :=
  let ⟨_, h1, h2⟩ := h; qt_cmp h1 h2 ha hb hm
end
end Ab
namespace Ab
open PySem PySem.Spec PyProof.Rows L2
section
variable {X : Cx} {a b c : Expr} {es : List Expr} {pos : Pos} {ta tb tc : AE}
/-! ### chains -/
theorem low_chain {K : PySem.W.Frag} {W : WX} {rd rd' : R2} {b1 b2 : B2} (h1 : S2 K rd b1) (h2 : S2 K rd' b2) {s : L2.St} {H : Hp} {Qc : VK} (h : cE K W (aChain b1 b2 ta tb tc) s H Qc) : tChain rd rd' (cE K W ta) (cE K W tb) (cE K W tc) s H Qc := by
  obtain ⟨F, e, m, r, Q, X, he, hn, h, g, gx⟩ := h
  refine ⟨F, e, m, r, _, X, he, hn, h, fun F1 H1 m1 v d s1 n1 r1 q1 => ?_, gx⟩
  refine ⟨F1, e, m1, r, _, X, he.mono s1, n1, q1, fun F2 H2 m2 u d2 s2 n2 r2 q2 => ?_, gx.mono s1⟩
  refine h1 F2 H2 m2 r v u d d2 _ _ n2 (r1.mono s2) r2 q2 fun F3 H3 m3 z dz s3 n3 r3 q3 => ?_
  obtain ⟨k, rfl, q3⟩ := q3
  cases r3
  refine ⟨k, rfl, ?_⟩
  cases k with
  | false => exact g F3 H3 m3 _ _ (s1.trans (s2.trans s3)) n3 (.bl false) q3
  | true =>
    show cE K W tc s H3 _
    refine ⟨F3, e, m3, r, _, X, he.mono (s1.trans (s2.trans s3)), n3, q3, fun F4 H4 m4 w dw s4 n4 r4 q4 => ?_, gx.mono (s1.trans (s2.trans s3))⟩
    exact h2 F4 H4 m4 r u w d2 dw Q Qc n4 (r2.mono (s3.trans s4)) r4 q4 (g.mono (s1.trans (s2.trans (s3.trans s4))))
theorem q_chain {op op' : CmpOp} {b1 b2 : B2} (h1 : Cm X op b1) (h2 : Cm X op' b2) (ha : QE X a ta) (hb : QE X b tb) (hc : QE X c tc) (hm : lastMarks [op, op'] [b, c] = false := by with_unfolding_all rfl) : QE X (.Compare a [op, op'] [b, c] pos) (aChain b1 b2 ta tb tc) := by
  obtain ⟨r1, o1, s1⟩ := h1
  obtain ⟨r2, o2, s2⟩ := h2
  exact fun W tk => (pe_chain o1 o2 (ha W tk) (hb W tk) (hc W tk) hm).imp fun _ _ _ h => low_chain s1 s2 h
theorem qt_chain {op op' : CmpOp} {b1 b2 : B2} (h1 : Cm X op b1) (h2 : Cm X op' b2) (ha : QE X a ta) (hb : QE X b tb) (hc : QE X c tc) (hm : lastMarks [op, op'] [b, c] = false := by with_unfolding_all rfl) : QT X (.Compare a [op, op'] [b, c] pos) (aB (aChain b1 b2 ta tb tc)) := by
  obtain ⟨r1, o1, s1⟩ := h1
  obtain ⟨r2, o2, s2⟩ := h2
  exact fun W tk => (pt_chain o1 o2 (ha W tk) (hb W tk) (hc W tk) hm).imp fun _ _ _ h => low_chain s1 s2 (cE_of_B h)
/-! ### subscripts -/
theorem ix_dict (hu : X.A.units + 1 < cLine) : IxR X (fun x y H Q => ∃ a v, x = .ref a ∧ DGet H a y (some v) ∧ Q v H) := by
  intro value slice pins s σ H x y v u Q I rx ry h hs
  obtain ⟨p, z, rfl, g, q⟩ := h
  cases rx
  exact tail_any (dict_typeIs I g) PySem.F.slot_dict_getitem.lookup (d_getItem hu I g ry fun w' s3 I3 rw' => ⟨z, H, I3, rw', q⟩) hs
def bIx : B2 := fun d e m Q => match asK m d with
  | some kvs => ∃ k v, keyD e = some k ∧ lkp kvs k = some v ∧ Q v m
  | none => match d with
    | .str x => ∃ i c, e = .int i ∧ x.length ≤ sizeLine ∧ atI x.cps.toList i = some c ∧ Q (.str ⟨#[c]⟩) m
    | d => ∃ xs i v, asS m d = some xs ∧ e = .int i ∧ atI xs i = some v ∧ Q v m
theorem RepL.atI {K : PySem.W.Frag} {F : Hp} {vs : List V} {xs : List D} {i : Int} {d : D} (r : RepL K F vs xs) (h : L2.atI xs i = some d) : ∃ v, L2.atI vs i = some v ∧ Rep K F v d := by
  unfold L2.atI at h ⊢
  rw [r.length]
  cases e : ixN xs.length i with
  | none => rw [e] at h; cases h
  | some j =>
    rw [e] at h
    obtain ⟨v, h1, h2⟩ := r.getD (show xs[j]? = some d from h)
    exact ⟨v, h1, h2⟩
theorem s_ix {K : PySem.W.Frag} : S2 K (fun x y H Q => (∃ a v, x = .ref a ∧ DGet H a y (some v) ∧ Q v H) ∨ rIx K x y H Q) bIx := by
  intro F H m r v u d e Q Qc hn h1 h2 h k
  unfold bIx at h
  split at h
  · rename_i kvs hk
    obtain ⟨key, z, e1, e3, q⟩ := h
    obtain ⟨p, kvs', rfl, e2, r2⟩ := asK_ok hn h1 hk
    obtain ⟨w, e4, rw⟩ := r2.lkp_some e3
    exact .inl ⟨p, w, rfl, .inl ⟨kvs', key, e2, key_ok h2 e1, e4.symm⟩, k F H m _ _ (Same.refl F) hn rw q⟩
  · split at h
    · obtain ⟨i, c, rfl, hl, ha, q⟩ := h
      cases h1; cases h2
      exact .inr (.inr (.inr ⟨_, i, c, rfl, rfl, hl, ha, k F H m _ _ (Same.refl F) hn (.str _) q⟩))
    · obtain ⟨xs, i, z, e1, rfl, ha, q⟩ := h
      obtain ⟨p, vs, rfl, e2, r2⟩ := asS_ok hn h1 e1
      cases h2
      obtain ⟨w, e4, rw⟩ := r2.atI ha
      rcases e2 with e2 | e2
      · exact .inr (.inl ⟨p, vs, i, w, rfl, rfl, e2, e4, k F H m _ _ (Same.refl F) hn rw q⟩)
      · exact .inr (.inr (.inl ⟨p, vs, i, w, rfl, rfl, e2, e4, k F H m _ _ (Same.refl F) hn rw q⟩))
theorem q_ix (hu : X.A.units + 1 < cLine) (ha : QE X a ta) (hb : QE X b tb) (hs : PlainIx b := by exact fun _ _ => rfl) : QE X (.Subscript a b pos) (aOp bIx ta tb) :=
  fun W tk => (pe_ix ((ix_dict hu).or ix_seq) (ha W tk) (hb W tk) hs).imp fun _ _ _ h => low2 s_ix h
/-! ### slices -/
abbrev AO := De → Mu → (Option Int → Mu → Prop) → XA → Prop
def aNoP : AO := fun _ m Q _ => Q none m
def aP (t : AE) : AO := fun e m Q X => t e m (fun d m1 => ∃ i, d = .int i ∧ Q (some i) m1) X
def asLL (m : Mu) : D → Option (List D)
  | .lst xs => some xs
  | .scr ns => some (ns.map D.int)
  | .cell a => oL (m a)
  | _ => none
theorem asLL_ok {K : PySem.W.Frag} {F H : Hp} {m : Mu} {r : Hp} {v : V} {d : D} {xs : List D} (hn : Sn K F H m r) (hr : Rep K F v d) (h : asLL m d = some xs) : ∃ p vs, v = .ref p ∧ SqL K H p vs ∧ RepL K F vs xs := by
  cases d with
  | lst ys => cases h; cases hr with | lst e q => exact ⟨_, _, rfl, .inl (.inl (hn.lst e)), q⟩
  | scr ns => cases h; cases hr with | scr e => exact ⟨_, _, rfl, hn.sqL e, rl_ints⟩
  | cell a =>
    obtain ⟨p, vs, e, h1, h2⟩ := asX_ok (xs := xs) hn hr h
    exact ⟨p, vs, e, .inl (.inl h1), h2⟩
  | _ => cases h
def cut {α : Type} (xs : List α) (lo hi : Option Int) : List α := (xs.drop (HT.sIx xs.length 0 lo)).take (HT.sIx xs.length xs.length hi - HT.sIx xs.length 0 lo)
theorem RepL.cut {K : PySem.W.Frag} {F : Hp} {vs : List V} {xs : List D} {lo hi : Option Int} (r : RepL K F vs xs) : RepL K F (cutV vs lo hi) (cut xs lo hi) := by
  unfold cutV Ab.cut
  rw [r.length]
  exact (r.drop _).take _
def bSl (mt : Bool) (d : D) (lo hi : Option Int) (m : Mu) (Q : QD) : Prop := match d with
  | .str x => x.length ≤ sizeLine ∧ Q (.str (cutS x lo hi)) m
  | .tup xs => ¬ (HT.sIx xs.length 0 lo = 0 ∧ HT.sIx xs.length xs.length hi = xs.length) ∧ Q (.tup (cut xs lo hi)) m
  | d => ∃ xs, asLL m d = some xs ∧ newL mt (cut xs lo hi) m Q
def aSl (mt : Bool) (t : AE) (lo hi : AO) : AE := fun e m Q X => t e m (fun d m1 => lo e m1 (fun l m2 => hi e m2 (fun h m3 => bSl mt d l h m3 Q) X) X) X
def cO (K : PySem.W.Frag) (W : WX) (a : AO) : TO := fun s H Qc => ∃ F e m r Q X, EnvOk K F s e ∧ Sn K F H m r ∧ a e m Q X ∧ (∀ F' H' m' o, Same F F' → Sn K F' H' m' r → Q o m' → Qc o H') ∧ GX K F r s X W
def QO (X : Cx) (e : Option Expr) (a : AO) : Prop := ∀ W, Takes X W → PO X e (cO X.K W a)
theorem qo_none : QO X none aNoP := fun W tk => ⟨fun pins s σ H Q I h => po_none.run pins s σ H Q I (by
  obtain ⟨F, e, m, r, Q, X, he, hn, h, g, gx⟩ := h
  exact g F H m none (Same.refl F) hn h)⟩
theorem qo_some (ha : QE X a ta) : QO X (some a) (aP ta) := fun W tk => ⟨fun pins s σ H Q I h => (po_some (ha W tk)).run pins s σ H Q I (by
  obtain ⟨F, e, m, r, Q, X, he, hn, h, g, gx⟩ := h
  refine ⟨F, e, m, r, _, X, he, hn, h, fun F1 H1 m1 v d s1 n1 r1 q1 => ?_, gx⟩
  obtain ⟨i, rfl, q⟩ := q1
  cases r1
  exact ⟨i, rfl, g F1 H1 m1 _ s1 n1 q⟩)⟩
theorem q_slice (mt : Bool) {lo hi : Option Expr} {tl th : AO} {p2 : Pos} (ha : QE X a ta) (hl : QO X lo tl) (hh : QO X hi th) : QE X (.Subscript a (.Slice lo hi none p2) pos) (aSl mt ta tl th) :=
  fun W tk => (pe_slice (sl_list.or (sl_str.or sl_tup)) (ha W tk) (hl W tk) (hh W tk)).imp fun s H Qc h => by
    obtain ⟨F, e, m, r, Q, X, he, hn, h, g, gx⟩ := h
    refine ⟨F, e, m, r, _, X, he, hn, h, fun F1 H1 m1 v d s1 n1 r1 q1 => ?_, gx⟩
    refine ⟨F1, e, m1, r, _, X, he.mono s1, n1, q1, fun F2 H2 m2 l s2 n2 q2 => ?_, gx.mono s1⟩
    refine ⟨F2, e, m2, r, _, X, he.mono (s1.trans s2), n2, q2, fun F3 H3 m3 u s3 n3 q3 => ?_, gx.mono (s1.trans s2)⟩
    have r3 := r1.mono (s2.trans s3)
    have g3 := g.mono (s1.trans (s2.trans s3))
    unfold bSl at q3
    split at q3
    · cases r3; exact .inr (.inl ⟨_, rfl, q3.1, g3 F3 H3 m3 _ _ (Same.refl _) n3 (.str _) q3.2⟩)
    · cases r3 with
      | tup e1 q =>
        refine .inr (.inr ⟨_, _, rfl, n3.sqT e1, by rw [q.length]; exact q3.1, fun p hp => ?_⟩)
        exact g3 _ _ m3 _ _ (n3.same hp _) (n3.new hp _) (.tup (.inl (.inl upd_same)) (q.cut.mono (n3.same hp _))) q3.2
    · obtain ⟨xs, e1, q⟩ := q3
      obtain ⟨p, vs, rfl, e2, r2⟩ := asLL_ok n3 r3 e1
      exact .inl ⟨p, vs, rfl, e2, fun p hp => newL_ok n3 r2.cut q g3 p hp⟩
/-! ### attributes -/
structure OkC (K : PySem.W.Frag) (C : Addr) (f : Str) : Prop where
  c : Cls K C
  n : NoAttr K C f
def aFld (K : PySem.W.Frag) (f : Str) (t : AE) : AE := fun e m Q X => t e m (fun d m1 => ∃ C fs v, asF m1 d = some (C, fs) ∧ OkC K C f ∧ fs.lookup f = some v ∧ Q v m1) X
theorem q_fld {f : Str} (ha : QE X a ta) (hb : attributeBase a f X.env (eval a X.env) = eval a X.env := by rfl) : QE X (.Attribute a f pos) (aFld X.K f ta) :=
  fun W tk => (pe_fld (ha W tk) hb).imp fun s H Qc h => by
    obtain ⟨F, e, m, r, Q, X, he, hn, h, g, gx⟩ := h
    refine ⟨F, e, m, r, _, X, he, hn, h, fun F1 H1 m1 v d s1 n1 r1 q1 => ?_, gx⟩
    obtain ⟨C, fs, z, e1, ok, e2, q⟩ := q1
    obtain ⟨p, dx, gs, rfl, e3, r3⟩ := asF_ok n1 r1 e1
    obtain ⟨w, e4, rw⟩ := r3.look e2
    exact ⟨p, C, dx, gs, w, rfl, e3, ok.c, ok.n, e4, g F1 H1 m1 _ _ s1 n1 rw q⟩
/-! ### calls of defs -/
/-- a def's promise over data -/
abbrev ASp := List D → Mu → QD → XA → Prop
def spOf (K : PySem.W.Frag) (a : ASp) : Sp := fun vs H Q E => ∃ F m r ds AQ AX, Sn K F H m r ∧ RepL K F vs ds ∧ a ds m AQ AX ∧ GE K F r AQ Q ∧
  (∀ F' H' m' cls dd x, Same F F' → Sn K F' H' m' r → RepX K F' H' m' cls dd x → AX x m' → E cls dd H')
def aCall (sp : ASp) (dvs : List D) (t : AA) : AE := fun e m Q X => t e m (fun ds m1 => sp (ds ++ dvs) m1 Q X) X
theorem low_call {K : PySem.W.Frag} {W : WX} {t : AA} {sp : ASp} {dvs : List D} {dv : List V} (hd : ∀ F, RepL K F dv dvs) {s : L2.St} {H : Hp} {Qc : VK} (h : cE K W (aCall sp dvs t) s H Qc) :
    tCallSD (spOf K sp) dv (fun s c d H => W c d s H) (cA K W t) s H Qc := by
  obtain ⟨F, e, m, r, Q, X, he, hn, h, g, gx⟩ := h
  refine ⟨F, e, m, r, _, X, he, hn, h, fun F1 H1 m1 v d s1 n1 r1 q1 => ?_, gx⟩
  exact ⟨F1, m1, r, _, Q, X, n1, r1.append (hd F1), q1, g.mono s1, gx.mono s1⟩
/-- a def as it stands behind the top -/
structure Df (P : Program) (w : World) (K : PySem.W.Frag) (mg : Str → Option Value) (base : Heap) (k : Nat) (x : Str) (dvs : List D) (sp : ASp) : Prop where
  ex : ∃ (f : Addr) (fd : FuncData) (ps : List Str) (dv : List V) (ds : List Value), FnOk P w K mg base (L2.CX P w) k f fd ps (spOf K sp) ∧ mg x = some (.ref f) ∧ PySem.W.keepIn K (.ref f) = true ∧ Binds K fd ps ds ∧ Vals dv ds ∧ ∀ F, RepL K F dv dvs
theorem q_call {k j : Nat} {x : Str} {dvs : List D} {sp : ASp} {t : AA} {p : Pos} (G : Df X.prog X.w X.K X.mg X.base k x dvs sp) (hr : Room j X.A) (hk : k ≤ j) (ha : QA X (a :: es) t) (hg : Gl X x := by rfl) (hdb : (x == ("__debug__" : Str)) = false := by decide)
    (he : starEach (a :: es) X.env = (false, eval a X.env) :: starEach es X.env := by rfl) (hpl : (backTo pos (starEach es X.env)).any (·.1) = false := by rfl) : QE X (.Call (.Name x p) (a :: es) [] pos) (aCall sp dvs t) := by
  obtain ⟨f, fd, ps, dv, ds, F, hm, hkp, hb, hv, hd⟩ := G.ex
  exact fun W tk => (pe_callSD F (hr.mono hk) hg hm hkp hb hv (fun s => passAt tk s) (ha W tk) hdb he hpl).imp fun s H Qc h => low_call hd h
/-! ### calls of methods: the class of the receiver tells which -/
structure Mt (P : Program) (w : World) (K : PySem.W.Frag) (mg : Str → Option Value) (base : Heap) (k : Nat) (m : Str) (C : Addr) (dvs : List D) (sp : ASp) : Prop where
  ex : ∃ (f : Addr) (fd : FuncData) (ps : List Str) (dv : List V) (ds : List Value), FnOk P w K mg base (L2.CX P w) k f fd ps (spOf K sp) ∧ Cls K C ∧ Meth K C m f ∧ Binds K fd ps ds ∧ Vals dv ds ∧ ∀ F, RepL K F dv dvs
/-- T: each class with its defaults and its promise -/
def aMeth (m : Str) (T : List (Addr × List D × ASp)) (t : AE) (u : AA) : AE := fun e mu Q X => t e mu (fun d m1 => ∃ C fs dvs sp, asF m1 d = some (C, fs) ∧ fs.lookup m = none ∧ (C, dvs, sp) ∈ T ∧ u e m1 (fun ds m2 => sp (d :: (ds ++ dvs)) m2 Q X) X) X
def tMethP (m : Str) (Has : Addr → Sp → List V → Prop) (E : L2.St → XK) (ta : TE) (t : TA) : TE := fun s H Q => ta s H fun x H1 => ∃ a C dx fs sp dv, x = .ref a ∧ H1 a = some (.ins C dx fs) ∧ fs.lookup m = none ∧ Has C sp dv ∧
  t s H1 fun vs H2 => sp (x :: (vs ++ dv)) H2 Q (E s)
theorem pe_methP {pl : Sem Bool} {k : Nat} {m : Str} {o e : Expr} {ta : TE} {t : TA} {apos : Pos} {Has : Addr → Sp → List V → Prop} {E : L2.St → XK} (he : PE X o ta) (hr : Room k X.A)
    (hT : ∀ C sp dv, Has C sp dv → ∃ (f : Addr) (fd : FuncData) (ps : List Str) (ds : List Value), FnOk X.prog X.w X.K X.mg X.base (L2.CX X.prog X.w) k f fd ps sp ∧ Cls X.K C ∧ Meth X.K C m f ∧ Binds X.K fd ps ds ∧ Vals dv ds)
    (hx : ∀ s, PassesAt (L2.CX X.prog X.w) X s (E s)) (ha : PA X (e :: es) t)
    (hst : starEach (e :: es) X.env = (false, eval e X.env) :: starEach es X.env := by rfl) (hpl : (backTo pos (starEach es X.env)).any (·.1) = false := by rfl)
    (ht : eval (.Call (.Attribute o m apos) (e :: es) [] pos) X.env = (do
      let ov ← eval o X.env
      standAt apos.atName
      let (f, first) ← holding [ov] (getMethod ov m pl)
      callWith pos f first (backTo pos (starEach (e :: es) X.env)) (backToKw pos (keywordEach [] X.env))) := by rfl) :
    PE X (.Call (.Attribute o m apos) (e :: es) [] pos) (tMethP m Has E ta t) := by
  refine ⟨fun pins s σ H Q I h => ?_⟩
  refine PySem.W.methodCall_KW (pl := pl) (thn (he.run pins s σ H _ I h) fun u s1 ⟨x, H1, I1, rx, a, C, dx, fs, sp, dv, ex, ea, l, hh, q⟩ => ?_) ht
  subst ex
  obtain rfl : u = Value.ref a := rx
  obtain ⟨f, fd, ps, ds, F, c, hm, hb, hd⟩ := hT C sp dv hh
  refine getmeth_ok I1 ea c hm l ?_
  refine PySem.W.callWith_K (first := [.ref a]) (h₀ := X.base) I.ok.mod.kin hm.kp (thn (ha.run pos pins s1 σ H1 _ I1 q) fun us s2 ⟨vs, H2, I2, r, q2⟩ => ⟨I2.kIn, ?_⟩) hst hpl
  exact run_fnSD (us := .ref a :: us) (vs := .ref a :: vs) F hr hb hd (hx σ) I2 (.cons rfl r) q2
theorem pe_methP0 {pl : Sem Bool} {k : Nat} {m : Str} {o : Expr} {ta : TE} {apos : Pos} {Has : Addr → Sp → List V → Prop} {E : L2.St → XK} (he : PE X o ta) (hr : Room k X.A)
    (hT : ∀ C sp dv, Has C sp dv → ∃ (f : Addr) (fd : FuncData) (ps : List Str) (ds : List Value), FnOk X.prog X.w X.K X.mg X.base (L2.CX X.prog X.w) k f fd ps sp ∧ Cls X.K C ∧ Meth X.K C m f ∧ Binds X.K fd ps ds ∧ Vals dv ds)
    (hx : ∀ s, PassesAt (L2.CX X.prog X.w) X s (E s))
    (ht : eval (.Call (.Attribute o m apos) [] [] pos) X.env = (do
      let ov ← eval o X.env
      standAt apos.atName
      let (f, first) ← holding [ov] (getMethod ov m pl)
      callWith pos f first (backTo pos (starEach [] X.env)) (backToKw pos (keywordEach [] X.env))) := by rfl) :
    PE X (.Call (.Attribute o m apos) [] [] pos) (tMethP m Has E ta tNil) := by
  refine ⟨fun pins s σ H Q I h => ?_⟩
  refine PySem.W.methodCall_KW (pl := pl) (thn (he.run pins s σ H _ I h) fun u s1 ⟨x, H1, I1, rx, a, C, dx, fs, sp, dv, ex, ea, l, hh, q⟩ => ?_) ht
  subst ex
  obtain rfl : u = Value.ref a := rx
  obtain ⟨f, fd, ps, ds, F, c, hm, hb, hd⟩ := hT C sp dv hh
  refine getmeth_ok I1 ea c hm l ?_
  exact PySem.W.callWith_K0 (first := [.ref a]) I1.kIn hm.kp (run_fnSD (us := [.ref a]) (vs := [.ref a]) F hr hb hd (hx σ) I1 (.cons rfl .nil) q)
/-- the table's methods stand -/
def MtT (P : Program) (w : World) (K : PySem.W.Frag) (mg : Str → Option Value) (base : Heap) (k : Nat) (m : Str) (T : List (Addr × List D × ASp)) : Prop := ∀ C dvs sp, (C, dvs, sp) ∈ T → Mt P w K mg base k m C dvs sp
theorem mt_has {k : Nat} {m : Str} {T : List (Addr × List D × ASp)} (h : MtT X.prog X.w X.K X.mg X.base k m T) {j : Nat} (hk : k ≤ j) : ∃ Has : Addr → Sp → List V → Prop,
    (∀ C sp dv, Has C sp dv → ∃ (f : Addr) (fd : FuncData) (ps : List Str) (ds : List Value), FnOk X.prog X.w X.K X.mg X.base (L2.CX X.prog X.w) j f fd ps sp ∧ Cls X.K C ∧ Meth X.K C m f ∧ Binds X.K fd ps ds ∧ Vals dv ds) ∧
    ∀ C dvs a, (C, dvs, a) ∈ T → ∃ dv, Has C (spOf X.K a) dv ∧ ∀ F, RepL X.K F dv dvs :=
  ⟨fun C sp dv => ∃ (f : Addr) (fd : FuncData) (ps : List Str) (ds : List Value), FnOk X.prog X.w X.K X.mg X.base (L2.CX X.prog X.w) j f fd ps sp ∧ Cls X.K C ∧ Meth X.K C m f ∧ Binds X.K fd ps ds ∧ Vals dv ds,
    fun _ _ _ z => z, fun C dvs a hm => let ⟨f, fd, ps, dv, ds, F, c, me, b, v, r⟩ := (h C dvs a hm).ex; ⟨dv, ⟨f, fd, ps, ds, F.mono hk, c, me, b, v⟩, r⟩⟩
theorem low_meth {K : PySem.W.Frag} {W : WX} {m : Str} {T : List (Addr × List D × ASp)} {t : AA} {Has : Addr → Sp → List V → Prop} (hH : ∀ C dvs a, (C, dvs, a) ∈ T → ∃ dv, Has C (spOf K a) dv ∧ ∀ F, RepL K F dv dvs) {s : L2.St} {H : Hp} {Qc : VK}
    (h : cE K W (aMeth m T ta t) s H Qc) : tMethP m Has (fun s c d H => W c d s H) (cE K W ta) (cA K W t) s H Qc := by
  obtain ⟨F, e, mu, r, Q, X, he, hn, h, g, gx⟩ := h
  refine ⟨F, e, mu, r, _, X, he, hn, h, fun F1 H1 m1 v d s1 n1 r1 q1 => ?_, gx⟩
  obtain ⟨C, fs, dvs, sp, e1, l, hT, q⟩ := q1
  obtain ⟨p, dx, gs, rfl, e3, r3⟩ := asF_ok n1 r1 e1
  obtain ⟨dv, hh, rd⟩ := hH C dvs sp hT
  refine ⟨p, C, dx, gs, _, dv, rfl, e3, r3.look_none l, hh, ?_⟩
  refine ⟨F1, e, m1, r, _, X, he.mono s1, n1, q, fun F2 H2 m2 vs ds s2 n2 r2 q2 => ?_, gx.mono s1⟩
  exact ⟨F2, m2, r, _, Q, X, n2, .cons (r1.mono s2) (r2.append (rd F2)), q2, g.mono (s1.trans s2), gx.mono (s1.trans s2)⟩
theorem q_meth {pl : Sem Bool} {k j : Nat} {m : Str} {T : List (Addr × List D × ASp)} {o e : Expr} {t : AA} {apos : Pos} (hT : MtT X.prog X.w X.K X.mg X.base k m T) (hr : Room j X.A) (hk : k ≤ j) (ho : QE X o ta) (ha : QA X (e :: es) t)
    (hst : starEach (e :: es) X.env = (false, eval e X.env) :: starEach es X.env := by rfl) (hpl : (backTo pos (starEach es X.env)).any (·.1) = false := by rfl)
    (ht : eval (.Call (.Attribute o m apos) (e :: es) [] pos) X.env = (do
      let ov ← eval o X.env
      standAt apos.atName
      let (f, first) ← holding [ov] (getMethod ov m pl)
      callWith pos f first (backTo pos (starEach (e :: es) X.env)) (backToKw pos (keywordEach [] X.env))) := by rfl) :
    QE X (.Call (.Attribute o m apos) (e :: es) [] pos) (aMeth m T ta t) := by
  obtain ⟨Has, h1, h2⟩ := mt_has hT hk
  exact fun W tk => (pe_methP (pl := pl) (Has := Has) (ho W tk) hr h1 (fun s => passAt tk s) (ha W tk) hst hpl ht).imp fun s H Qc h => low_meth h2 h
theorem q_meth0 {pl : Sem Bool} {k j : Nat} {m : Str} {T : List (Addr × List D × ASp)} {o : Expr} {apos : Pos} (hT : MtT X.prog X.w X.K X.mg X.base k m T) (hr : Room j X.A) (hk : k ≤ j) (ho : QE X o ta)
    (ht : eval (.Call (.Attribute o m apos) [] [] pos) X.env = (do
      let ov ← eval o X.env
      standAt apos.atName
      let (f, first) ← holding [ov] (getMethod ov m pl)
      callWith pos f first (backTo pos (starEach [] X.env)) (backToKw pos (keywordEach [] X.env))) := by rfl) :
    QE X (.Call (.Attribute o m apos) [] [] pos) (aMeth m T ta aNil) := by
  obtain ⟨Has, h1, h2⟩ := mt_has hT hk
  refine fun W tk => (pe_methP0 (pl := pl) (Has := Has) (ho W tk) hr h1 (fun s => passAt tk s) ht).imp fun s H Qc h => ?_
  obtain ⟨F, e, mu, r, Q, X, he, hn, h, g, gx⟩ := h
  refine ⟨F, e, mu, r, _, X, he, hn, h, fun F1 H1 m1 v d s1 n1 r1 q1 => ?_, gx⟩
  obtain ⟨C, fs, dvs, sp, e1, l, hT, q⟩ := q1
  obtain ⟨p, dx, gs, rfl, e3, r3⟩ := asF_ok n1 r1 e1
  obtain ⟨dv, hh, rd⟩ := h2 C dvs sp hT
  exact ⟨p, C, dx, gs, _, dv, rfl, e3, r3.look_none l, hh, F1, m1, r, _, Q, X, n1, .cons r1 (rd F1), q, g.mono s1, gx.mono s1⟩
/-! ### a new instance -/
def aMake (C : Addr) (sp : ASp) (dvs : List D) (t : AA) : AE := fun e m Q X => t e m (fun ds m1 => ∀ x, m1 x = none → sp (.cell x :: (ds ++ dvs)) (mset m1 x (.ins C [])) (fun d m2 => d = .non ∧ Q (.cell x) m2) X) X
structure Mkr (P : Program) (w : World) (K : PySem.W.Frag) (mg : Str → Option Value) (base : Heap) (k : Nat) (x : Str) (C : Addr) (dvs : List D) (sp : ASp) : Prop where
  ex : ∃ (f : Addr) (fd : FuncData) (ps : List Str) (dv : List V) (ds : List Value), FnOk P w K mg base (L2.CX P w) k f fd ps (spOf K sp) ∧ mg x = some (.ref C) ∧ Mk K C f ∧ Binds K fd ps ds ∧ Vals dv ds ∧ ∀ F, RepL K F dv dvs
theorem run_makeSD {k : Nat} {f C : Addr} {fd : FuncData} {ps : List Str} {sp : Sp} {dvs : List V} {ds : List Value} {E : XK} {pins : List (Addr × Obj)} {σ : L2.St} {H : Hp} {s : Shared} {Q : VK} {us : List Value} {vs : List V} (M : Mk X.K C f) (F : FnOk X.prog X.w X.K X.mg X.base (L2.CX X.prog X.w) k f fd ps sp) (hr : Room (k + 1) X.A) (hb : Binds X.K fd ps ds) (hd : Vals dvs ds)
    (hx : PassesAt (L2.CX X.prog X.w) X σ E) (I : Inv X pins σ H s) (r : Vals vs us)
    (h : ∀ x dx, H x = none → H dx = none → dx ≠ x → sp (.ref x :: (vs ++ dvs)) (upd (upd H dx (.own x)) x (.ins C dx [])) (fun v H2 => v = .non ∧ Q (.ref x) H2) E) :
    wpAny (model X.prog X.w) X.A (call (.ref C) us) (EP X pins σ Q) X.xe s := by
  have hq := h (s.heap.objs.size + 1) s.heap.objs.size (I.hok.fresh (Nat.le_succ _)) (I.hok.fresh (Nat.le_refl _)) (Nat.ne_of_lt (Nat.lt_succ_self _))
  have I2 := Inv.made (C := C) I
  have r2 : Vals (V.ref (s.heap.objs.size + 1) :: (vs ++ dvs)) (Value.ref (s.heap.objs.size + 1) :: (us ++ ds)) := .cons rfl (r.append hd)
  have hl : (Value.ref (s.heap.objs.size + 1) :: us ++ ds).length = ps.length := by
    have e := r2.length
    rw [F.len _ _ _ _ hq] at e
    exact e.symm
  refine wpAny_call (make_map (f := f) I.kIn M.makes M.init (beq_iff_eq.mp M.fn) (codeAny_mono (F.run _ X.stack _ _ ⟨Value.ref (s.heap.objs.size + 1) :: us, []⟩ (Value.ref (s.heap.objs.size + 1) :: (us ++ ds)) _ _ E (hr.make C us [])
    (I2.env0.make C us []) (hb _ (Value.ref (s.heap.objs.size + 1) :: us) I2.kIn hl) r2 hq) fun r s' hq' => ?_))
  cases r with
  | error e => exact hx pins _ _ e s' I2 hq'
  | ok fl =>
    cases fl with
    | ret u =>
      obtain ⟨v, H', I3, rv, ev, q3⟩ := I2.after hq'
      subst ev
      exact ⟨rv, ⟨V.ref (s.heap.objs.size + 1), H', I3, rfl, q3⟩⟩
    | next => exact False.elim hq'
    | brk => exact False.elim hq'
    | cont => exact False.elim hq'
def tMakeSD (C : Addr) (sp : Sp) (dvs : List V) (E : L2.St → XK) (t : TA) : TE := fun σ H Q => t σ H fun vs H1 => ∀ x dx, H1 x = none → H1 dx = none → dx ≠ x →
  sp (.ref x :: (vs ++ dvs)) (upd (upd H1 dx (.own x)) x (.ins C dx [])) (fun v H2 => v = .non ∧ Q (.ref x) H2) (E σ)
theorem q_make {k j : Nat} {x : Str} {C : Addr} {dvs : List D} {sp : ASp} {t : AA} {p : Pos} (G : Mkr X.prog X.w X.K X.mg X.base k x C dvs sp) (hr : Room j X.A) (hk : k + 1 ≤ j) (ha : QA X (a :: es) t) (hg : Gl X x := by rfl) (hdb : (x == ("__debug__" : Str)) = false := by decide)
    (he : starEach (a :: es) X.env = (false, eval a X.env) :: starEach es X.env := by rfl) (hpl : (backTo pos (starEach es X.env)).any (·.1) = false := by rfl) : QE X (.Call (.Name x p) (a :: es) [] pos) (aMake C sp dvs t) := by
  obtain ⟨f, fd, ps, dv, ds, F, hm, M, hb, hv, hd⟩ := G.ex
  refine fun W tk => PE.imp (t := tMakeSD C (spOf X.K sp) dv (fun s c d H => W c d s H) (cA X.K W t)) ⟨fun pins s σ H Q I h => ?_⟩ fun s H Qc h => ?_
  · refine wpAny_Call_Name_kw (ld_glob I hg hm ?_ hdb)
    refine PySem.W.callWith_K (h₀ := X.base) I.ok.mod.kin M.kp (thn ((ha W tk).run pos pins s σ H _ I h) fun us s1 ⟨vs, H1, I1, r, q⟩ => ⟨I1.kIn, ?_⟩) he hpl
    exact run_makeSD M F (hr.mono hk) hb hv (passAt tk σ) I1 r q
  · obtain ⟨F, e, m, r, Q, X, he, hn, h, g, gx⟩ := h
    refine ⟨F, e, m, r, _, X, he, hn, h, fun F1 H1 m1 vs ds s1 n1 r1 q1 => fun x dx hx hdx ne => ?_, gx⟩
    have n2 := (n1.newG hdx (.own x)).newM (p := x) (o := .ins C dx []) (x := .ins C []) (by rw [upd_ne (Ne.symm ne)]; exact hx) ⟨dx, [], upd_same, .nil⟩
    refine ⟨F1, _, r, _, _, X, n2, .cons (.cell x) (r1.append (hd F1)), q1 x (n1.m_none hx), fun F2 H2 m2 v d s2 nn2 r2 q2 => ?_, gx.mono s1⟩
    obtain ⟨rfl, q2⟩ := q2
    cases r2
    exact ⟨rfl, g F2 H2 m2 _ _ (s1.trans s2) nn2 (.cell x) q2⟩
end
end Ab
namespace Ab
open PySem PySem.Spec PyProof.Rows L2
section
variable {X : Cx} {a b c : Expr} {es : List Expr} {pos : Pos} {ta tb tc : AE} {st : Stmt} {rest : List Stmt} {t u : AS} {tt : AT}
/-! ### blocks -/
def aNext : AS := fun A e m => A.nx e m
def aSeq (t u : AS) : AS := fun A e m => t { A with nx := u A } e m
def aBreak : AS := fun A e m => A.bk e m
def aCont : AS := fun A e m => A.ct e m
theorem qss_nil : QSs X [] aNext := fun W tk po => pss_nil.imp fun D s H ⟨F, e, m, r, A, he, hn, h, g⟩ => g.nx F H m s e (Same.refl F) he hn h
theorem qss_cons (h1 : QS X st t) (h2 : QSs X rest u) : QSs X (st :: rest) (aSeq t u) := fun W tk po => (pss_cons (h1 W tk po) (h2 W tk po)).imp fun D s H ⟨F, e, m, r, A, he, hn, h, g⟩ =>
  ⟨F, e, m, r, _, he, hn, h, ⟨fun F1 H1 m1 s1 e1 k he1 n1 q => ⟨F1, e1, m1, r, A, he1, n1, q, g.mono k⟩, g.rt, g.bk, g.ct, g.ex⟩⟩
theorem qss_one (h1 : QS X st t) : QSs X [st] t := fun W tk po => pss_one (h1 W tk po)
theorem qs_pass : QS X (.Pass pos) aNext := fun W tk po => ps_pass.imp fun D s H ⟨F, e, m, r, A, he, hn, h, g⟩ => g.nx F H m s e (Same.refl F) he hn h
theorem qs_break : QS X (.Break pos) aBreak := fun W tk po => ps_break.imp fun D s H ⟨F, e, m, r, A, he, hn, h, g⟩ => g.bk F H m s e (Same.refl F) he hn h
theorem qs_continue : QS X (.Continue pos) aCont := fun W tk po => ps_continue.imp fun D s H ⟨F, e, m, r, A, he, hn, h, g⟩ => g.ct F H m s e (Same.refl F) he hn h
theorem qs_doc {x j pos'} : QS X (.Expr (.Constant (.str x) j pos) pos') aNext := fun W tk po => ps_doc.imp fun D s H ⟨F, e, m, r, A, he, hn, h, g⟩ => g.nx F H m s e (Same.refl F) he hn h
/-- an expression within a statement -/
def aE (t : AE) (A : AEnds) (e : De) (m : Mu) (Q : QD) : Prop := t e m Q fun x m => A.ex x e m
theorem use_E {K : PySem.W.Frag} {W : WX} {F r : Hp} {A : AEnds} {D : Ends} {s : L2.St} {e : De} {m : Mu} {H : Hp} {Q : QD} {Qc : VK} (he : EnvOk K F s e) (hn : Sn K F H m r) (g : GS K F r A D W) (h : aE ta A e m Q) (k : GE K F r Q Qc) : cE K W ta s H Qc :=
  ⟨F, e, m, r, _, _, he, hn, h, k, g.gx he⟩
def aDrop (t : AE) : AS := fun A e m => aE t A e m fun _ m1 => A.nx e m1
def aRet (t : AE) : AS := fun A e m => aE t A e m A.rt
def aRetN : AS := fun A _ m => A.rt .non m
theorem qs_expr (ha : QE X a ta) (hs : swapsWith a none pos.line X.env = pure false := by rfl) : QS X (.Expr a pos) (aDrop ta) := fun W tk po => (ps_expr (ha W tk) hs).imp fun D s H ⟨F, e, m, r, A, he, hn, h, g⟩ =>
  use_E he hn g h fun F1 H1 m1 v d k n1 _ q => g.nx F1 H1 m1 s e k (he.mono k) n1 q
theorem qs_ret (ha : QE X a ta) : QS X (.Return (some a) pos) (aRet ta) := fun W tk po => (ps_ret (ha W tk)).imp fun D s H ⟨F, e, m, r, A, he, hn, h, g⟩ =>
  use_E he hn g h fun F1 H1 m1 v d k n1 r1 q => g.rt F1 H1 m1 v d k n1 r1 q
theorem qs_retN : QS X (.Return none pos) aRetN := fun W tk po => ps_retN.imp fun D s H ⟨F, e, m, r, A, he, hn, h, g⟩ => g.rt F H m _ _ (Same.refl F) hn .non h
def aIfS (c : AT) (t u : AS) : AS := fun A e m => c e m (fun b m1 => if b = true then t A e m1 else u A e m1) fun x m => A.ex x e m
theorem qs_if {p q : List Stmt} (hc : QT X c tt) (hp : QSs X p t) (hq : QSs X q u) : QS X (.If c p q pos) (aIfS tt t u) := fun W tk po => (ps_if (hc W tk) (hp W tk po) (hq W tk po)).imp fun D s H ⟨F, e, m, r, A, he, hn, h, g⟩ => by
  refine ⟨F, e, m, r, _, _, he, hn, h, fun F1 H1 m1 b k n1 q => ?_, g.gx he⟩
  cases b with
  | true => exact ⟨F1, e, m1, r, A, he.mono k, n1, q, g.mono k⟩
  | false => exact ⟨F1, e, m1, r, A, he.mono k, n1, q, g.mono k⟩
/-! ### targets -/
abbrev AG := D → AEnds → De → Mu → (De → Mu → Prop) → Prop
/-- the slots outside the list stand -/
def SameOff (is : List Nat) (s s' : L2.St) : Prop := s'.length = s.length ∧ ∀ j, j ∉ is → s'[j]? = s[j]?
def cG (K : PySem.W.Frag) (W : WX) (D : Ends) (a : AG) (is : List Nat) : TG := fun v s H Q => ∃ F e m r A d P, EnvOk K F s e ∧ Sn K F H m r ∧ Rep K F v d ∧ a d A e m P ∧ GS K F r A D W ∧ ∀ F' H' m' s' e', Same F F' → EnvOk K F' s' e' → Sn K F' H' m' r → SameOff is s s' → P e' m' → Q s' H'
/-- a target's rule: its reading g does what the data's does -/
def QG (X : Cx) (e : Expr) (a : AG) (is : List Nat) (g : WX → TG) : Prop := ∀ W, Takes X W → PG X e (g W) ∧ ∀ D v s H Q, cG X.K W D a is v s H Q → g W v s H Q
abbrev AGs := List D → AEnds → De → Mu → (De → Mu → Prop) → Prop
def cGs (K : PySem.W.Frag) (W : WX) (D : Ends) (a : AGs) (is : List Nat) : TGs := fun v s H Q => ∃ F e m r A d P, EnvOk K F s e ∧ Sn K F H m r ∧ RepL K F v d ∧ a d A e m P ∧ GS K F r A D W ∧ ∀ F' H' m' s' e', Same F F' → EnvOk K F' s' e' → Sn K F' H' m' r → SameOff is s s' → P e' m' → Q s' H'
def QGs (X : Cx) (e : List Expr) (a : AGs) (is : List Nat) (g : WX → TGs) : Prop := ∀ W, Takes X W → PGs X e (g W) ∧ ∀ D v s H Q, cGs X.K W D a is v s H Q → g W v s H Q
def agName (i : Nat) : AG := fun d _ e m P => P (e.set i (some d)) m
def agTup (n : Nat) (t : AGs) : AG := fun d A e m P => ∃ xs, d = .tup xs ∧ xs.length = n ∧ t xs A e m P
def agNil : AGs := fun ds _ e m P => ds = [] ∧ P e m
def agCons (t : AG) (u : AGs) : AGs := fun ds A e m P => ∃ d r, ds = d :: r ∧ t d A e m fun e1 m1 => u r A e1 m1 P
theorem SameOff.refl {is : List Nat} {s : L2.St} : SameOff is s s := ⟨rfl, fun _ _ => rfl⟩
theorem SameOff.trans {is js : List Nat} {s s1 s2 : L2.St} (h1 : SameOff is s s1) (h2 : SameOff js s1 s2) : SameOff (is ++ js) s s2 :=
  ⟨h2.1.trans h1.1, fun j hj => (h2.2 j fun z => hj (List.mem_append_right _ z)).trans (h1.2 j fun z => hj (List.mem_append_left _ z))⟩
theorem SameOff.set {s : L2.St} {i : Nat} {v : Option V} : SameOff [i] s (s.set i v) := ⟨List.length_set, fun j hj => by rw [List.getElem?_set_ne]; intro z; exact hj (by simp [z])⟩
theorem qg_name (i : Nat) {x : Str} (hN : X.N.Nodup) (hi : X.N[i]? = some x := by rfl) (hx : Loc X.env.scope x := by first | exact Or.inl rfl | exact Or.inr rfl) (hf : X.fn x = true ∨ X.env.scope.names.lookup x = some .local := by first | exact .inl rfl | exact .inr rfl) : QG X (.Name x pos) (agName i) [i] (fun _ => gName i) :=
  fun W tk => ⟨pg_name hN hi hx hf, fun D v s H Q ⟨F, e, m, r, A, d, P, he, hn, hr, h, g, k⟩ => k F H m _ _ (Same.refl F) (he.set hr i) hn SameOff.set h⟩
theorem qgs_nil : QGs X [] agNil [] (fun _ => gNil) := fun W tk => ⟨pgs_nil, fun D v s H Q ⟨F, e, m, r, A, d, P, he, hn, hr, ⟨h1, h2⟩, g, k⟩ => by
  subst h1; cases hr; exact ⟨rfl, k F H m _ _ (Same.refl F) he hn SameOff.refl h2⟩⟩
theorem qgs_cons {e : Expr} {es : List Expr} {t : AG} {u : AGs} {is js : List Nat} {g1 : WX → TG} {g2 : WX → TGs} (h1 : QG X e t is g1) (h2 : QGs X es u js g2) (hs : (assignEach (e :: es) X.env).map (·.2) = assign e X.env :: (assignEach es X.env).map (·.2) := by rfl) : QGs X (e :: es) (agCons t u) (is ++ js) (fun W => gCons (g1 W) (g2 W)) := fun W tk => by
  obtain ⟨p1, k1⟩ := h1 W tk
  obtain ⟨p2, k2⟩ := h2 W tk
  refine ⟨pgs_cons p1 p2 hs, fun D v s H Q ⟨F, e, m, r, A, ds, P, he, hn, hr, h, g, k⟩ => ?_⟩
  obtain ⟨d, rs, rfl, h⟩ := h
  cases hr with
  | cons r1 r2 =>
    refine ⟨_, _, rfl, k1 D _ _ _ _ ⟨F, e, m, r, A, d, _, he, hn, r1, h, g, fun F1 H1 m1 s1 e1 q1 he1 n1 o1 hq => ?_⟩⟩
    exact k2 D _ _ _ _ ⟨F1, e1, m1, r, A, rs, P, he1, n1, r2.mono q1, hq, g.mono q1, fun F2 H2 m2 s2 e2 q2 he2 n2 o2 hp => k F2 H2 m2 s2 e2 (q1.trans q2) he2 n2 (o1.trans o2) hp⟩
theorem qg_tup {es : List Expr} {k : Nat} {t : AGs} {n : Nat} {is : List Nat} {g1 : WX → TGs} (hc : X.calm = true) (h : QGs X es t is g1) (hn : es.length = n := by rfl)
    (hp : ∀ {t' : TGs}, PGs X es t' → PG X (.Tuple es k pos) (gTup X.K n t') := by intro t' hh; exact pg_tup rfl hh) : QG X (.Tuple es k pos) (agTup n t) is (fun W => gTup X.K n (g1 W)) := fun W tk => by
  obtain ⟨p1, k1⟩ := h W tk
  refine ⟨hp p1, fun D v s H Q ⟨F, e, m, r, A, d, P, he, hn, hr, h, g, k⟩ => ?_⟩
  obtain ⟨xs, rfl, hl, h⟩ := h
  cases hr with
  | tup e1 q =>
    refine ⟨_, _, rfl, hn.sqT e1, by rw [q.length]; exact hl, k1 D _ _ _ _ ⟨F, e, m, r, A, xs, P, he, hn, q, h, g, k⟩⟩
def aAsg (t : AE) (g : AG) : AS := fun A e m => aE t A e m fun d m1 => g d A e m1 A.nx
theorem qs_asg {tg : Expr} {g : AG} {is : List Nat} {g1 : WX → TG} (hg : QG X tg g is g1) (ha : QE X a ta) (hs : swapsWithSole [tg] a pos.line X.env = pure false := by rfl) (hw : swappedStores [tg] a X.env = pure none := by rfl) (h1 : (assignEach [tg] X.env).map (·.2) = [assign tg X.env] := by rfl) : QS X (.Assign [tg] a pos) (aAsg ta g) := fun W tk po => by
  obtain ⟨p1, k1⟩ := hg W tk
  refine (ps_asg (ha W tk) p1 hs hw h1).imp fun D s H ⟨F, e, m, r, A, he, hn, h, g⟩ => use_E he hn g h fun F1 H1 m1 v d k n1 r1 q => ?_
  exact k1 D _ _ _ _ ⟨F1, e, m1, r, A, d, _, he.mono k, n1, r1, q, g.mono k, fun F2 H2 m2 s2 e2 q2 he2 n2 _ hp => g.nx F2 H2 m2 s2 e2 (k.trans q2) he2 n2 hp⟩
def aSet (i : Nat) (t : AE) : AS := fun A e m => aE t A e m fun d m1 => A.nx (e.set i (some d)) m1
theorem qs_set (i : Nat) {x : Str} {pos' : Pos} (hN : X.N.Nodup) (ha : QE X a ta) (hi : X.N[i]? = some x := by rfl) (hx : Loc X.env.scope x := by first | exact Or.inl rfl | exact Or.inr rfl) (hs : swapsWith a (some (.Name x pos')) pos.line X.env = pure false := by rfl)
    (hf : X.fn x = true ∨ X.env.scope.names.lookup x = some .local := by first | exact .inl rfl | exact .inr rfl) : QS X (.Assign [.Name x pos'] a pos) (aSet i ta) := fun W tk po =>
  (ps_set hN hi hx (ha W tk) hs hf).imp fun D s H ⟨F, e, m, r, A, he, hn, h, g⟩ => use_E he hn g h fun F1 H1 m1 v d k n1 r1 q => g.nx F1 H1 m1 _ _ k ((he.mono k).set r1 i) n1 q
/-- two names at once: a, b = c, d -/
def aPar (i j : Nat) (t : AA) : AS := fun A e m => t e m (fun ds m1 => ∃ d d2, ds = [d, d2] ∧ A.nx ((e.set i (some d)).set j (some d2)) m1) fun x m => A.ex x e m
/-- a += b at a name -/
def aAug (i : Nat) (b : B2) (t : AE) : AS := fun A e m => ∃ x, e[i]? = some (some x) ∧ aE t A e m fun y m1 => b x y m1 fun z m2 => A.nx (e.set i (some z)) m2
theorem qs_augAdd (i : Nat) {x : Str} {pos' : Pos} (hN : X.N.Nodup) (ha : QE X a ta) (hi : X.N[i]? = some x := by rfl) (hx : Loc X.env.scope x := by first | exact Or.inl rfl | exact Or.inr rfl)
    (hf : X.fn x = true ∨ X.env.scope.names.lookup x = some .local := by first | exact .inl rfl | exact .inr rfl) : QS X (.AugAssign (.Name x pos') .Add a pos) (aAug i (bI0 fun i j => .int (i + j)) ta) := fun W tk po =>
  (ps_aug hN hi hx (ha W tk) ip_add hf).imp fun D s H ⟨F, e, m, r, A, he, hn, h, g⟩ => by
    obtain ⟨d0, e0, h⟩ := h
    obtain ⟨v0, h1, h2⟩ := he.2 i d0 e0
    refine ⟨v0, h1, use_E he hn g h fun F1 H1 m1 v d k n1 r1 q => ?_⟩
    have h3 := h2.mono k
    unfold bI0 at q
    split at q
    · cases h3; cases r1; exact ⟨_, _, rfl, rfl, g.nx F1 H1 m1 _ _ k ((he.mono k).set (.int _) i) n1 q⟩
    · exact q.elim
/-! ### stores: o[i] = e, o[i] += e, o.f = e, o.f += e -/
theorem s_mu {K : PySem.W.Frag} {F H : Hp} {m : Mu} {r : Hp} {p : Addr} {x : MO} (hn : Sn K F H m r) (h : m p = some x) : At K F H p x := (hn.mu p x h).2
theorem Sn.upL {K : PySem.W.Frag} {F H : Hp} {m : Mu} {r : Hp} {a : Addr} {x : MO} {u : HO} {xs : List V} {ds : List D} (h : Sn K F H m r) (hm : m a = some x) (ha : H a = some u) (nu : ∀ ob w, u ≠ .frz ob w) (q : RepL K F xs ds) : Sn K F (upd H a (.lst xs)) (mset m a (.lst ds)) r :=
  h.upM (y := .lst ds) hm ha nu ⟨_, upd_same, q⟩
theorem Sn.upD {K : PySem.W.Frag} {F H : Hp} {m : Mu} {r : Hp} {a : Addr} {x : MO} {u : HO} {xs : List (Key × V)} {ds : List (Key × D)} (h : Sn K F H m r) (hm : m a = some x) (ha : H a = some u) (nu : ∀ ob w, u ≠ .frz ob w) (q : RepK K F xs ds) : Sn K F (upd H a (.dK xs)) (mset m a (.dic false ds)) r :=
  h.upM (y := .dic false ds) hm ha nu ⟨_, upd_same, q⟩
theorem Sn.upI {K : PySem.W.Frag} {F H : Hp} {m : Mu} {r : Hp} {a C dx : Addr} {x : MO} {u : HO} {xs : List (Str × V)} {ds : List (Str × D)} (h : Sn K F H m r) (hm : m a = some x) (ha : H a = some u) (nu : ∀ ob w, u ≠ .frz ob w) (q : RepF K F xs ds) : Sn K F (upd H a (.ins C dx xs)) (mset m a (.ins C ds)) r :=
  h.upM (y := .ins C ds) hm ha nu ⟨_, _, upd_same, q⟩
/-- the store at o[i] -/
def pSt (o i d : D) (m : Mu) (P : Mu → Prop) : Prop := ∃ a, o = .cell a ∧ ((∃ kvs k, m a = some (.dic false kvs) ∧ keyD i = some k ∧ kvs.length < sizeLine ∧ P (mset m a (.dic false (put kvs k d)))) ∨
  ∃ xs n j, m a = some (.lst xs) ∧ i = .int n ∧ ixN xs.length n = some j ∧ P (mset m a (.lst (xs.set j d))))
def rSetU : TSet := fun o i v H Q => rSetL o i v H Q ∨ ∃ a H', o = .ref a ∧ DPut H a i v H' ∧ Q H'
theorem set_u (hu : X.A.units + 1 < cLine) : PSet X rSetU := by
  intro pins s σ H o i v ov iv u Q I ro ri rv h
  rcases h with h | ⟨p, H', rfl, g, q⟩
  · exact set_list pins s σ H o i v ov iv u Q I ro ri rv h
  · cases ro
    exact d_setItem hu I g ri rv fun s4 I4 => ⟨H', I4, q⟩
theorem pSt_ok {K : PySem.W.Frag} {F H : Hp} {m : Mu} {r : Hp} {o i d : D} {vo vi v : V} {P : Mu → Prop} {Q : Hp → Prop} (hn : Sn K F H m r) (ro : Rep K F vo o) (ri : Rep K F vi i) (rv : Rep K F v d) (h : pSt o i d m P) (g : ∀ H' m', Sn K F H' m' r → P m' → Q H') : rSetU vo vi v H Q := by
  obtain ⟨p, rfl, h⟩ := h
  cases ro
  rcases h with ⟨kvs, k, e, ek, hl, q⟩ | ⟨xs, n, j, e, rfl, ej, q⟩
  · obtain ⟨ws, h1, h2⟩ := s_mu hn e
    refine .inr ⟨p, _, rfl, .inl ⟨ws, k, h1, key_ok ri ek, by rw [h2.length]; exact hl, rfl⟩, ?_⟩
    exact g _ _ (Sn.upD hn e h1 (fun _ _ z => nomatch z) (h2.put rv)) q
  · obtain ⟨ws, h1, h2⟩ := s_mu hn e
    cases ri
    refine .inl ⟨p, ws, n, j, rfl, rfl, h1, by rw [h2.length]; exact ej, ?_⟩
    exact g _ _ (Sn.upL hn e h1 (fun _ _ z => nomatch z) (h2.set rv j)) q
/-- o[i] as a target -/
def agSub (to ti : AE) : AG := fun d A e m P => aE to A e m fun o m1 => aE ti A e m1 fun i m2 => pSt o i d m2 (P e)
theorem qg_sub (hu : X.A.units + 1 < cLine) (ha : QE X a ta) (hb : QE X b tb) (hp : ∀ {to ti : TE}, PE X a to → PE X b ti → PG X (.Subscript a b pos) (gSub to ti rSetU) := by intro to ti h1 h2; exact pg_sub h1 h2 (set_u (by assumption))) : QG X (.Subscript a b pos) (agSub ta tb) [] (fun W => gSub (cE X.K W ta) (cE X.K W tb) rSetU) :=
  fun W tk => ⟨hp (ha W tk) (hb W tk), fun D v s H Q ⟨F, e, m, r, A, d, P, he, hn, hr, h, g, k⟩ => use_E he hn g h fun F1 H1 m1 o dO k1 n1 r1 q1 => use_E (he.mono k1) n1 (g.mono k1) q1 fun F2 H2 m2 i dI k2 n2 r2 q2 =>
    pSt_ok n2 (r1.mono k2) r2 (hr.mono (k1.trans k2)) q2 fun H' m' n' hp => k F2 H' m' s e (k1.trans k2) (he.mono (k1.trans k2)) n' SameOff.refl hp⟩
/-- d[k] += e, a dict of ints -/
def aDAug (td ti tv : AE) : AS := fun A e m => aE td A e m fun o m1 => aE ti A e m1 fun i m2 => ∃ a kvs k n, o = .cell a ∧ m2 a = some (.dic false kvs) ∧ keyD i = some k ∧ lkp kvs k = some (.int n) ∧
  aE tv A e m2 fun y m3 => ∃ j kvs', y = .int j ∧ m3 a = some (.dic false kvs') ∧ kvs'.length < sizeLine ∧ A.nx e (mset m3 a (.dic false (put kvs' k (.int (n + j)))))
theorem qs_daug {tpos : Pos} (hu : X.A.units + 1 < cLine) (ha : QE X a ta) (hb : QE X b tb) (hc : QE X c tc) (hs : ∀ ov iv new, augStore b ov iv new = (do holding [new, ov, iv] (setItem ov iv new); release [new, ov, iv] []; pure .next) := by exact fun _ _ _ => rfl) :
    QS X (.AugAssign (.Subscript a b tpos) .Add c pos) (aDAug ta tb tc) := fun W tk po => (ps_daug hu (ha W tk) (hb W tk) (hc W tk) in_add hs).imp fun D s H ⟨F, e, m, r, A, he, hn, h, g⟩ => by
  refine use_E he hn g h fun F1 H1 m1 o dO k1 n1 r1 q1 => use_E (he.mono k1) n1 (g.mono k1) q1 fun F2 H2 m2 i dI k2 n2 r2 q2 => ?_
  obtain ⟨p, kvs, k, n, rfl, e1, ek, el, q2⟩ := q2
  cases r1
  obtain ⟨ws, h1, h2⟩ := s_mu n2 e1
  obtain ⟨w, e3, rw⟩ := h2.lkp_some el
  cases rw
  refine ⟨p, _, rfl, .inl ⟨ws, k, .inl h1, key_ok r2 ek, e3.symm⟩, use_E (he.mono (k1.trans k2)) n2 (g.mono (k1.trans k2)) q2 fun F3 H3 m3 y dY k3 n3 r3 q3 => ?_⟩
  obtain ⟨j, kvs', rfl, e4, hl, q3⟩ := q3
  cases r3
  obtain ⟨ws', h1', h2'⟩ := s_mu n3 e4
  have kk := k1.trans (k2.trans k3)
  exact ⟨_, _, rfl, rfl, _, .inl ⟨ws', k, h1', key_ok (r2.mono k3) ek, by rw [h2'.length]; exact hl, rfl⟩, g.nx F3 _ _ s e kk (he.mono kk) (Sn.upD n3 e4 h1' (fun _ _ z => nomatch z) (h2'.put (.int _))) q3⟩
/-- o.f = e -/
def aFSt (K : PySem.W.Frag) (f : Str) (to tv : AE) : AS := fun A e m => aE tv A e m fun d m1 => aE to A e m1 fun o m2 => ∃ a C fs, o = .cell a ∧ m2 a = some (.ins C fs) ∧ OkC K C f ∧ fs.length < 1000 ∧ A.nx e (mset m2 a (.ins C (putF f d fs)))
theorem qs_fld {f : Str} {pos' : Pos} (ha : QE X a ta) (hb : QE X b tb) (hs : swapsWith b (some (.Attribute a f pos')) pos.line X.env = pure false := by rfl) : QS X (.Assign [.Attribute a f pos'] b pos) (aFSt X.K f ta tb) :=
  fun W tk po => (ps_fld (ha W tk) (hb W tk) hs).imp fun D s H ⟨F, e, m, r, A, he, hn, h, g⟩ => by
    refine use_E he hn g h fun F1 H1 m1 v d k1 n1 r1 q1 => use_E (he.mono k1) n1 (g.mono k1) q1 fun F2 H2 m2 o dO k2 n2 r2 q2 => ?_
    obtain ⟨p, C, fs, rfl, e1, ok, hl, q⟩ := q2
    cases r2
    obtain ⟨dx, gs, h1, h2⟩ := s_mu n2 e1
    exact ⟨p, C, dx, gs, rfl, h1, ok.c, ok.n, by rw [h2.length]; exact hl, g.nx F2 _ _ s e (k1.trans k2) (he.mono (k1.trans k2)) (Sn.upI n2 e1 h1 (fun _ _ z => nomatch z) (h2.put (r1.mono k2))) q⟩
def aFAug (K : PySem.W.Frag) (f : Str) (to tv : AE) : AS := fun A e m => aE to A e m fun o m1 => ∃ a C fs n, o = .cell a ∧ m1 a = some (.ins C fs) ∧ OkC K C f ∧ fs.lookup f = some (.int n) ∧
  aE tv A e m1 fun y m2 => ∃ j fs', y = .int j ∧ m2 a = some (.ins C fs') ∧ fs'.length < 1000 ∧ A.nx e (mset m2 a (.ins C (putF f (.int (n + j)) fs')))
theorem qs_fldaug {f : Str} {tpos : Pos} (ha : QE X a ta) (hb : QE X b tb) : QS X (.AugAssign (.Attribute a f tpos) .Add b pos) (aFAug X.K f ta tb) :=
  fun W tk po => (ps_fldaug (ha W tk) (hb W tk) in_add).imp fun D s H ⟨F, e, m, r, A, he, hn, h, g⟩ => by
    refine use_E he hn g h fun F1 H1 m1 v d k1 n1 r1 q1 => ?_
    obtain ⟨p, C, fs, n, rfl, e1, ok, el, q1⟩ := q1
    cases r1
    obtain ⟨dx, gs, h1, h2⟩ := s_mu n1 e1
    obtain ⟨w, e3, rw⟩ := h2.look el
    cases rw
    refine ⟨p, C, dx, gs, _, rfl, h1, ok.c, ok.n, e3, use_E (he.mono k1) n1 (g.mono k1) q1 fun F2 H2 m2 y dY k2 n2 r2 q2 => ?_⟩
    obtain ⟨j, fs', rfl, e4, hl, q⟩ := q2
    cases r2
    obtain ⟨dx', gs', h1', h2'⟩ := s_mu n2 e4
    exact ⟨_, _, rfl, rfl, dx', gs', h1', by rw [h2'.length]; exact hl, g.nx F2 _ _ s e (k1.trans k2) (he.mono (k1.trans k2)) (Sn.upI n2 e4 h1' (fun _ _ z => nomatch z) (h2'.put (.int _))) q⟩
end
end Ab
namespace Ab
open PySem PySem.Spec PyProof.Rows L2
/-! ### what is walked: its items as data, and what must stay so -/
abbrev AI := De → Mu → (List D → (Mu → Prop) → Mu → Prop) → XA → Prop
def ItOk (K : PySem.W.Frag) (J : It) (F : Hp) (src : List D) (G : Mu → Prop) : Prop := ∀ F2 H2 m2 r2, Same F F2 → Sn K F2 H2 m2 r2 → G m2 →
  (∀ i, i < src.length → J.go i H2 ∧ ∀ x H3, J.yld i H2 x H3 → ∃ F3 d, Same F2 F3 ∧ Sn K F3 H3 m2 r2 ∧ src[i]? = some d ∧ Rep K F3 x d) ∧ ∀ i, src.length ≤ i → J.stop i H2
def GI (K : PySem.W.Frag) (F r : Hp) (Q : List D → (Mu → Prop) → Mu → Prop) (R : It → Hp → Prop) : Prop := ∀ F' H' m' J src G, Same F F' → Sn K F' H' m' r → ItOk K J F' src G → Q src G m' → R J H'
def cIt (K : PySem.W.Frag) (W : WX) (a : AI) : TI := fun s H R => ∃ F e m r Q X, EnvOk K F s e ∧ Sn K F H m r ∧ a e m Q X ∧ GI K F r Q R ∧ GX K F r s X W
def QI (X : Cx) (tg iter : Expr) (a : AI) : Prop := ∀ W, Takes X W → PI X tg iter (cIt X.K W a)
theorem pi_imp {X : Cx} {tg it : Expr} {t t' : TI} (h : PI X tg it t) (k : ∀ s H Q, t' s H Q → t s H Q) : PI X tg it t' := ⟨fun pins s σ H Q I q => h.run pins s σ H Q I (k _ _ _ q)⟩
theorem pi_or {X : Cx} {tg it : Expr} {t t' : TI} (h : PI X tg it t) (h' : PI X tg it t') : PI X tg it (fun s H Q => t s H Q ∨ t' s H Q) := ⟨fun pins s σ H Q I q => q.elim (fun q => h.run pins s σ H Q I q) fun q => h'.run pins s σ H Q I q⟩
theorem cE_or {K : PySem.W.Frag} {W : WX} {t : AE} {s : L2.St} {H : Hp} {Q : VK} (h : cE K W t s H Q) : cE K W t s H Q := h
section
variable {X : Cx} {tg : Expr} {es : List Expr} {pos : Pos} {ta tb tc : AE}
/-- a list, a tuple, a text -/
theorem pi_seq {l : Expr} {tl : TE} (hl : PE X l tl) : PI X tg l (fun s H R => tl s H fun x H1 => (∃ p, x = .ref p ∧ (((∃ xs, SqL X.K H1 p xs) ∧ R (Itl X.K p) H1) ∨ ((∃ xs, SqT X.K H1 p xs) ∧ R (Itt X.K p) H1))) ∨ ∃ z, x = .str z ∧ R (Its z) H1) := by
  refine ⟨fun pins s σ H R I h => ?_⟩
  refine thn (hl.run pins s σ H _ I h) fun v s1 ⟨x, H1, I1, r1, q1⟩ => ?_
  rcases q1 with ⟨a, rfl, ⟨⟨xs, hq⟩, q⟩ | ⟨⟨xs, hq⟩, q⟩⟩ | ⟨x, rfl, q⟩
  · cases r1
    obtain ⟨its, rv, p, hz⟩ := I1.list hq
    refine wpAny_pyIter_list p.isList ?_
    refine ⟨s1.heap.objs.size, [s1.heap.objs.size], _, _, H1, rfl, I1.kept (t' := s1.toks) fun b o e => Heap.get?_push_of_some _ e, turn_list a _, ⟨_, Heap.get?_push_size _ rfl, rfl, rfl⟩, fun b hb => ?_, q⟩
    have e : b = s1.heap.objs.size := by simpa using hb
    subst e
    exact I1.fpOk (Nat.le_refl _) (I1.hok.fresh (Nat.le_refl _))
  · cases r1
    obtain ⟨its, rv, p, hz⟩ := I1.tuple hq
    refine wpAny_pyIter_tuple (show s1.heap.IsTuple a its.toArray from p) ?_
    refine ⟨s1.heap.objs.size, [s1.heap.objs.size], _, _, H1, rfl, I1.kept (t' := s1.toks) fun b o e => Heap.get?_push_of_some _ e, turn_tuple a _, ⟨_, Heap.get?_push_size _ rfl, rfl, rfl⟩, fun b hb => ?_, q⟩
    have e : b = s1.heap.objs.size := by simpa using hb
    subst e
    exact I1.fpOk (Nat.le_refl _) (I1.hok.fresh (Nat.le_refl _))
  · obtain ⟨t, rfl⟩ := r1
    cases ha : x.cps.all (· < 128)
    · exact wpAny_pyIter_wide ha (pi_one (tk := s1.toks) I1 _ (turn_str _ x t "str_iterator" (.inr rfl)) ⟨_, Heap.get?_push_size _ rfl, rfl, rfl⟩ q)
    · exact wpAny_pyIter_ascii ha (pi_one (tk := s1.toks) I1 _ (turn_str _ x t "str_ascii_iterator" (.inl rfl)) ⟨_, Heap.get?_push_size _ rfl, rfl, rfl⟩ q)
def signs (x : Str) : List D := x.cps.toList.map fun c => .str ⟨#[c]⟩
/-- what a for walks: its items -/
def asI (m : Mu) : D → Option (List D)
  | .str x => some (signs x)
  | d => asS m d
def aiSeq (t : AE) : AI := fun e m Q X => t e m (fun d m1 => ∃ xs, asI m1 d = some xs ∧ Q xs (fun m => asI m d = some xs) m1) X
theorem sqL_at {K : PySem.W.Frag} {F H : Hp} {m : Mu} {r : Hp} {p : Addr} {d : D} {xs : List D} (n : Sn K F H m r) (hr : Rep K F (.ref p) d) (hd : ∀ ys, d ≠ .tup ys) (h : asS m d = some xs) : ∃ vs, SqL K H p vs ∧ RepL K F vs xs := by
  cases d with
  | lst ys => cases h; cases hr with | lst e q => exact ⟨_, .inl (.inl (n.lst e)), q⟩
  | tup ys => exact absurd rfl (hd ys)
  | scr ns => cases h; cases hr with | scr e => exact ⟨_, n.sqL e, rl_ints⟩
  | cell a0 =>
    obtain ⟨p2, vs, e, h1, h2⟩ := asX_ok (d := .cell a0) (xs := xs) n hr h
    cases e
    exact ⟨vs, .inl (.inl h1), h2⟩
  | _ => cases h
theorem it_list {K : PySem.W.Frag} {F : Hp} {p : Addr} {d : D} {xs : List D} {G : Mu → Prop} (hr : Rep K F (.ref p) d) (hd : ∀ ys, d ≠ .tup ys) (hG : ∀ m, G m → asS m d = some xs) : ItOk K (Itl K p) F xs G := fun F2 H2 m2 r2 s2 n2 g2 => by
  obtain ⟨vs, h1, h2⟩ := sqL_at n2 (hr.mono s2) hd (hG _ g2)
  refine ⟨fun i hi => ?_, fun i hi => ⟨vs, h1, by rw [h2.length]; exact hi⟩⟩
  have hv : i < vs.length := by rw [h2.length]; exact hi
  refine ⟨⟨vs, vs[i], h1, List.getElem?_eq_getElem hv⟩, fun x H3 y => ?_⟩
  obtain ⟨rfl, y⟩ := y
  obtain ⟨e, h3, h4⟩ := h2.get (y vs h1)
  exact ⟨F2, e, Same.refl F2, n2, h3, h4⟩
theorem it_tup {K : PySem.W.Frag} {F : Hp} {p : Addr} {xs : List D} {G : Mu → Prop} (hr : Rep K F (.ref p) (.tup xs)) : ItOk K (Itt K p) F xs G := fun F2 H2 m2 r2 s2 n2 g2 => by
  cases hr with
  | tup e q =>
    have h1 := n2.sqT (sqT_mono s2 e)
    have h2 := q.mono s2
    refine ⟨fun i hi => ?_, fun i hi => ⟨_, h1, by rw [h2.length]; exact hi⟩⟩
    have hv := hi
    rw [← h2.length] at hv
    refine ⟨⟨_, _, h1, List.getElem?_eq_getElem hv⟩, fun x H3 y => ?_⟩
    obtain ⟨rfl, y⟩ := y
    obtain ⟨e, h3, h4⟩ := h2.get (y _ h1)
    exact ⟨F2, e, Same.refl F2, n2, h3, h4⟩
theorem it_str {K : PySem.W.Frag} {F : Hp} {z : Str} {G : Mu → Prop} : ItOk K (Its z) F (signs z) G := fun F2 H2 m2 r2 s2 n2 g2 => by
  have hl : (signs z).length = z.cps.size := by unfold signs; rw [List.length_map, Array.length_toList]
  refine ⟨fun i hi => ⟨show i < z.cps.size by rw [← hl]; exact hi, fun x H3 y => ?_⟩, fun i hi => show z.cps.size ≤ i by rw [← hl]; exact hi⟩
  obtain ⟨rfl, c, h1, rfl⟩ := y
  refine ⟨F2, .str ⟨#[c]⟩, Same.refl F2, n2, ?_, .str _⟩
  unfold signs
  rw [List.getElem?_map, Array.getElem?_toList, h1]; rfl
theorem qi_seq {a : Expr} (ha : QE X a ta) : QI X tg a (aiSeq ta) := fun W tk => pi_imp (pi_seq (ha W tk)) fun s H R h => by
  obtain ⟨F, e, m, r, Q, X, he, hn, h, g, gx⟩ := h
  refine ⟨F, e, m, r, _, X, he, hn, h, fun F1 H1 m1 v d s1 n1 r1 q1 => ?_, gx⟩
  obtain ⟨xs, hx, q⟩ := q1
  by_cases hs : ∃ z, d = .str z
  · obtain ⟨z, rfl⟩ := hs
    cases r1
    cases hx
    exact .inr ⟨z, rfl, g F1 H1 m1 _ _ _ s1 n1 it_str q⟩
  · have hx' : asS m1 d = some xs := by
      cases d with
      | str z => exact absurd ⟨z, rfl⟩ hs
      | _ => exact hx
    have hG : ∀ m, asI m d = some xs → asS m d = some xs := fun m q => by
      cases d with
      | str z => exact absurd ⟨z, rfl⟩ hs
      | _ => exact q
    obtain ⟨p, vs, rfl, e2, r2⟩ := asS_ok n1 r1 hx'
    by_cases ht : ∃ ys, d = .tup ys
    · obtain ⟨ys, rfl⟩ := ht
      cases hx
      refine .inl ⟨p, rfl, .inr ⟨?_, g F1 H1 m1 _ _ _ s1 n1 (it_tup r1) q⟩⟩
      cases r1 with
      | tup e q => exact ⟨_, n1.sqT e⟩
    · have hd : ∀ ys, d ≠ .tup ys := fun ys z => ht ⟨ys, z⟩
      obtain ⟨ws, w1, _⟩ := sqL_at n1 r1 hd hx'
      exact .inl ⟨p, rfl, .inl ⟨⟨ws, w1⟩, g F1 H1 m1 _ _ _ s1 n1 (it_list r1 hd hG) q⟩⟩
/-- range(n), range(a, b) -/
def rng (lo : Int) (n : Nat) : List D := (List.range n).map fun (i : Nat) => D.int (lo + i)
def aiRng1 (t : AA) : AI := fun e m Q X => t e m (fun ds m1 => ∃ n : Int, ds = [.int n] ∧ -(2 ^ 62) ≤ n ∧ n < 2 ^ 62 ∧ Q (rng 0 n.toNat) (fun _ => True) m1) X
def aiRng2 (t : AA) : AI := fun e m Q X => t e m (fun ds m1 => ∃ a b : Int, ds = [.int a, .int b] ∧ (-(2 ^ 62) ≤ a ∧ a < 2 ^ 62 ∧ -(2 ^ 62) ≤ b ∧ b < 2 ^ 62) ∧ Q (rng a (b - a).toNat) (fun _ => True) m1) X
theorem it_rng {K : PySem.W.Frag} {F : Hp} {lo : Int} {n : Nat} {G : Mu → Prop} : ItOk K (Itr lo n) F (rng lo n) G := fun F2 H2 m2 r2 s2 n2 g2 => by
  have hl : (rng lo n).length = n := by unfold rng; rw [List.length_map, List.length_range]
  refine ⟨fun i hi => ⟨show i < n by rw [← hl]; exact hi, fun x H3 y => ?_⟩, fun i hi => show n ≤ i by rw [← hl]; exact hi⟩
  obtain ⟨rfl, rfl⟩ := y
  refine ⟨F2, .int (lo + i), Same.refl F2, n2, ?_, .int _⟩
  unfold rng
  rw [List.getElem?_map, List.getElem?_range (by rw [← hl]; exact hi)]; rfl
theorem repL1 {K : PySem.W.Frag} {F : Hp} {vs : List V} {d : D} (h : RepL K F vs [d]) : ∃ v, vs = [v] ∧ Rep K F v d := by
  cases h with | cons h1 h2 => cases h2; exact ⟨_, rfl, h1⟩
theorem repL2 {K : PySem.W.Frag} {F : Hp} {vs : List V} {d e : D} (h : RepL K F vs [d, e]) : ∃ v u, vs = [v, u] ∧ Rep K F v d ∧ Rep K F u e := by
  cases h with | cons h1 h2 => cases h2 with | cons h3 h4 => cases h4; exact ⟨_, _, rfl, h1, h3⟩
theorem qi_range1 {a : Expr} {p : Pos} {t : AA} (hm : X.mg "range" = none) (ha : QA X [a] t) (hg : Gl X "range" := by rfl) (hs : starEach [a] X.env = [(false, eval a X.env)] := by rfl) : QI X tg (.Call (.Name "range" p) [a] [] pos) (aiRng1 t) :=
  fun W tk => pi_imp (pi_range1 hg hm (ha W tk) hs) fun s H R h => by
    obtain ⟨F, e, m, r, Q, X, he, hn, h, g, gx⟩ := h
    refine ⟨F, e, m, r, _, X, he, hn, h, fun F1 H1 m1 v d s1 n1 r1 q1 => ?_, gx⟩
    obtain ⟨n, rfl, h1, h2, q⟩ := q1
    obtain ⟨v, rfl, rv⟩ := repL1 r1
    cases rv
    exact ⟨n, rfl, h1, h2, g F1 H1 m1 _ _ _ s1 n1 it_rng q⟩
theorem qi_range2 {a b : Expr} {p : Pos} {t : AA} (hm : X.mg "range" = none) (ha : QA X [a, b] t) (hg : Gl X "range" := by rfl) (hs : starEach [a, b] X.env = [(false, eval a X.env), (false, eval b X.env)] := by rfl) (hs2 : starEach [b] X.env = [(false, eval b X.env)] := by rfl) : QI X tg (.Call (.Name "range" p) [a, b] [] pos) (aiRng2 t) :=
  fun W tk => pi_imp (pi_range2 hg hm (ha W tk) hs hs2) fun s H R h => by
    obtain ⟨F, e, m, r, Q, X, he, hn, h, g, gx⟩ := h
    refine ⟨F, e, m, r, _, X, he, hn, h, fun F1 H1 m1 v d s1 n1 r1 q1 => ?_, gx⟩
    obtain ⟨i, j, rfl, hb, q⟩ := q1
    obtain ⟨v, u, rfl, rv, ru⟩ := repL2 r1
    cases rv; cases ru
    exact ⟨i, j, rfl, hb, g F1 H1 m1 _ _ _ s1 n1 it_rng q⟩
/-- enumerate(list) -/
def nums : Nat → List D → List D
  | _, [] => []
  | i, x :: xs => .tup [.int (i : Nat), x] :: nums (i + 1) xs
theorem nums_len : ∀ (xs : List D) (i : Nat), (nums i xs).length = xs.length
  | [], _ => rfl
  | _ :: xs, i => congrArg Nat.succ (nums_len xs (i + 1))
theorem nums_get : ∀ (xs : List D) (i j : Nat) (d : D), xs[j]? = some d → (nums i xs)[j]? = some (.tup [.int ((i + j : Nat) : Int), d])
  | [], _, _, _, h => by simp at h
  | x :: xs, i, 0, d, h => by simp at h; subst h; rfl
  | x :: xs, i, j + 1, d, h => by
    have := nums_get xs (i + 1) j d (by simpa using h)
    have e : i + 1 + j = i + (j + 1) := by omega
    rw [e] at this
    simpa [nums] using this
def aiEnum (t : AA) : AI := fun e m Q X => t e m (fun ds m1 => ∃ d xs, ds = [d] ∧ asLL m1 d = some xs ∧ Q (nums 0 xs) (fun m => asLL m d = some xs) m1) X
theorem asS_of_LL {m : Mu} {d : D} {xs : List D} (h : asLL m d = some xs) : asS m d = some xs ∧ ∀ ys, d ≠ .tup ys := by
  cases d <;> first | exact ⟨h, fun _ z => nomatch z⟩ | cases h
theorem it_enum {K : PySem.W.Frag} {F : Hp} {p : Addr} {d : D} {xs : List D} (hr : Rep K F (.ref p) d) : ItOk K (Ite K p) F (nums 0 xs) (fun m => asLL m d = some xs) := fun F2 H2 m2 r2 s2 n2 g2 => by
  obtain ⟨g3, hd⟩ := asS_of_LL g2
  obtain ⟨vs, h1, h2⟩ := sqL_at n2 (hr.mono s2) hd g3
  have hl := nums_len xs 0
  refine ⟨fun i hi => ?_, fun i hi => ⟨vs, h1, by rw [h2.length, ← hl]; exact hi⟩⟩
  have hv : i < vs.length := by rw [h2.length, ← hl]; exact hi
  refine ⟨⟨vs, vs[i], h1, List.getElem?_eq_getElem hv⟩, fun x H3 y => ?_⟩
  obtain ⟨T, z, rfl, nT, rfl, y⟩ := y
  obtain ⟨e, h3, h4⟩ := h2.get (y vs h1)
  refine ⟨_, _, n2.same nT _, n2.new nT _, nums_get xs 0 i e h3, .tup (.inl (.inl upd_same)) (.cons ?_ (.cons (h4.mono (n2.same nT _)) .nil))⟩
  rw [Nat.zero_add]; exact .int _
theorem qi_enum {a : Expr} {p tpos : Pos} {elts : List Expr} {kk : Nat} {t : AA} (hm : X.mg "enumerate" = none) (ha : QA X [a] t) (hg : Gl X "enumerate" := by rfl) (hs : starEach [a] X.env = [(false, eval a X.env)] := by rfl) : QI X (.Tuple elts kk tpos) (.Call (.Name "enumerate" p) [a] [] pos) (aiEnum t) :=
  fun W tk => pi_imp (pi_enum hg hm (ha W tk) hs) fun s H R h => by
    obtain ⟨F, e, m, r, Q, X, he, hn, h, g, gx⟩ := h
    refine ⟨F, e, m, r, _, X, he, hn, h, fun F1 H1 m1 v d s1 n1 r1 q1 => ?_, gx⟩
    obtain ⟨d, xs, rfl, hx, q⟩ := q1
    obtain ⟨v, rfl, rv⟩ := repL1 r1
    obtain ⟨p, vs, rfl, e2, r2⟩ := asLL_ok n1 rv hx
    exact ⟨p, vs, rfl, e2, g F1 H1 m1 _ _ _ s1 n1 (it_enum rv) q⟩
/-! ### for, while -/
def loopA (src : List D) (G : Mu → Prop) (ag : AG) (ab : AS) (A : AEnds) (e : De) (m : Mu) : Prop := ∃ I : Nat → De → Mu → Prop, I 0 e m ∧ (∀ i e' m', I i e' m' → G m') ∧
  (∀ i d e' m', src[i]? = some d → I i e' m' → ag d A e' m' fun e2 m2 => ab { A with nx := I (i + 1), ct := I (i + 1), bk := A.nx } e2 m2) ∧ ∀ e' m', I src.length e' m' → A.nx e' m'
def aFor (ai : AI) (ag : AG) (ab : AS) : AS := fun A e m => ai e m (fun src G m1 => loopA src G ag ab A e m1) fun x m => A.ex x e m
theorem low_loop {K : PySem.W.Frag} {W : WX} {D : Ends} {A : AEnds} {F H r : Hp} {s : L2.St} {e : De} {m : Mu} {J : It} {src : List Ab.D} {G : Mu → Prop} {ag : AG} {is : List Nat} {ab : AS} {g1 : TG} {tb : TS} (he : EnvOk K F s e) (hn : Sn K F H m r) (g : GS K F r A D W) (hJ : ItOk K J F src G)
    (h : loopA src G ag ab A e m) (hg : ∀ D v s H Q, cG K W D ag is v s H Q → g1 v s H Q) (hb : ∀ D s H, cS K W ab D s H → tb D s H) :
    ∃ Wv : Nat → Nat → L2.St → Hp → Prop, (∃ m, Wv 0 m s H) ∧ ∀ i m σ H, Wv i m σ H → (J.stop i H ∧ D.nx σ H) ∨ (J.go i H ∧ ∃ N : L2.St → Hp → Prop, (∀ σ' H', N σ' H' → ∃ m', m' < m ∧ Wv (i + 1) m' σ' H') ∧
      ∀ x H', J.yld i H x H' → g1 x σ H' fun σ2 H2 => tb { D with nx := N, ct := N, bk := D.nx } σ2 H2) := by
  obtain ⟨I, h0, hG, hs, hd⟩ := h
  refine ⟨fun i n σ H' => n = src.length - i ∧ i ≤ src.length ∧ ∃ F' e' m', Same F F' ∧ EnvOk K F' σ e' ∧ Sn K F' H' m' r ∧ I i e' m', ⟨src.length, by simp, Nat.zero_le _, F, e, m, Same.refl F, he, hn, h0⟩, ?_⟩
  rintro i n σ H1 ⟨rfl, hi, F1, e1, m1, k1, he1, hn1, hI⟩
  obtain ⟨j1, j2⟩ := hJ F1 H1 m1 r k1 hn1 (hG i e1 m1 hI)
  by_cases hlt : i < src.length
  · obtain ⟨go, yl⟩ := j1 i hlt
    refine .inr ⟨go, fun σ' H' => ∃ F' e' m', Same F F' ∧ EnvOk K F' σ' e' ∧ Sn K F' H' m' r ∧ I (i + 1) e' m', fun σ' H' p => ⟨src.length - (i + 1), by omega, rfl, hlt, p⟩, fun x H2 y => ?_⟩
    obtain ⟨F2, d, k2, n2, hd2, r2⟩ := yl x H2 y
    refine hg _ _ _ _ _ ⟨F2, e1, m1, r, A, d, _, he1.mono k2, n2, r2, hs i d e1 m1 hd2 hI, g.mono (k1.trans k2), fun F3 H3 m3 s3 e3 k3 he3 n3 _ q3 => ?_⟩
    have kk := k1.trans (k2.trans k3)
    refine hb _ _ _ ⟨F3, e3, m3, r, _, he3, n3, q3, ?_⟩
    have g3 := g.mono kk
    exact ⟨fun F4 H4 m4 s4 e4 k4 he4 n4 q4 => ⟨F4, e4, m4, kk.trans k4, he4, n4, q4⟩, g3.rt, fun F4 H4 m4 s4 e4 k4 he4 n4 q4 => g3.nx F4 H4 m4 s4 e4 k4 he4 n4 q4, fun F4 H4 m4 s4 e4 k4 he4 n4 q4 => ⟨F4, e4, m4, kk.trans k4, he4, n4, q4⟩, g3.ex⟩
  · have e' : i = src.length := by omega
    subst e'
    exact .inl ⟨j2 _ (Nat.le_refl _), g.nx F1 H1 m1 σ e1 k1 he1 hn1 (hd e1 m1 hI)⟩
theorem qs_for {iter : Expr} {body : List Stmt} {ai : AI} {ag : AG} {is : List Nat} {g1 : WX → TG} {ab : AS} (hc : X.calm = true) (hi : QI X tg iter ai) (hg : QG X tg ag is g1) (hb : QSs X body ab)
    (hs : ∀ x, foldedSetIterable iter X.env x = pure x := by intro _; rfl) : QS X (.For tg iter body [] pos) (aFor ai ag ab) := fun W tk po => by
  obtain ⟨p1, k1⟩ := hg W tk
  refine (ps_for po hc (hi W tk) p1 (hb W tk po) hs).imp fun D s H ⟨F, e, m, r, A, he, hn, h, g⟩ => ?_
  refine ⟨F, e, m, r, _, _, he, hn, h, fun F1 H1 m1 J src G q n1 hJ hl => ?_, g.gx he⟩
  exact low_loop (he.mono q) n1 (g.mono q) hJ hl k1 fun _ _ _ z => z
def aWhile (c : AT) (ab : AS) : AS := fun A e m => ∃ I : Nat → De → Mu → Prop, (∃ n, I n e m) ∧ ∀ n e' m', I n e' m' → c e' m' (fun b m1 => if b = true then ab { A with nx := fun e2 m2 => ∃ k, k < n ∧ I k e2 m2, ct := fun e2 m2 => ∃ k, k < n ∧ I k e2 m2, bk := A.nx } e' m1 else A.nx e' m1) fun x m => A.ex x e' m
theorem qs_while {c : Expr} {body : List Stmt} {tt : AT} {ab : AS} (hc : QT X c tt) (hb : QSs X body ab) : QS X (.While c body [] pos) (aWhile tt ab) := fun W tk po =>
  (ps_while po (hc W tk) (hb W tk po)).imp fun D s H ⟨F, e, m, r, A, he, hn, h, g⟩ => by
    obtain ⟨I, ⟨n0, h0⟩, hs⟩ := h
    refine ⟨fun n σ H' => ∃ F' e' m', Same F F' ∧ EnvOk X.K F' σ e' ∧ Sn X.K F' H' m' r ∧ I n e' m', ⟨n0, F, e, m, Same.refl F, he, hn, h0⟩, ?_⟩
    rintro n σ H1 ⟨F1, e1, m1, k1, he1, n1, hI⟩
    refine ⟨F1, e1, m1, r, _, _, he1, n1, hs n e1 m1 hI, fun F2 H2 m2 b k2 n2 q => ?_, (g.mono k1).gx he1⟩
    have g2 := g.mono (k1.trans k2)
    cases b with
    | true =>
      refine ⟨fun σ' H' => ∃ k, k < n ∧ ∃ F' e' m', Same F F' ∧ EnvOk X.K F' σ' e' ∧ Sn X.K F' H' m' r ∧ I k e' m', fun σ' H' z => z, ?_⟩
      refine ⟨F2, e1, m2, r, _, he1.mono k2, n2, q, ?_⟩
      exact ⟨fun F4 H4 m4 s4 e4 k4 he4 n4 ⟨k, hk, q4⟩ => ⟨k, hk, F4, e4, m4, (k1.trans k2).trans k4, he4, n4, q4⟩, g2.rt, fun F4 H4 m4 s4 e4 k4 he4 n4 q4 => g2.nx F4 H4 m4 s4 e4 k4 he4 n4 q4, fun F4 H4 m4 s4 e4 k4 he4 n4 ⟨k, hk, q4⟩ => ⟨k, hk, F4, e4, m4, (k1.trans k2).trans k4, he4, n4, q4⟩, g2.ex⟩
    | false => exact g2.nx F2 H2 m2 σ e1 (Same.refl _) (he1.mono k2) n2 q
end
end Ab
namespace Ab
open PySem PySem.Spec PyProof.Rows L2
/-! ### list comprehensions -/
theorem Sn.chR {K : PySem.W.Frag} {F H : Hp} {m : Mu} {r : Hp} {p : Addr} {o o' : HO} (h : Sn K F H m (upd r p o)) (no : ∀ ob u, o ≠ .frz ob u) : Sn K F (upd H p o') m (upd r p o') := by
  obtain ⟨e1, e2⟩ := h.fr p o upd_same
  have e3 : F p = none ∧ m p = none := by
    rcases e2 with ⟨ob, u, e2⟩ | e2
    · exact absurd e2 (no ob u)
    · exact e2
  refine ⟨fun b v e => ?_, fun a y e => ?_, fun a u e => ?_⟩
  · have ne : b ≠ p := fun z => by subst z; rw [e3.1] at e; cases e
    rw [upd_ne ne]; exact h.cov b v e
  · have ne : a ≠ p := fun z => by subst z; rw [e3.2] at e; cases e
    exact ⟨(h.mu a y e).1, (h.mu a y e).2.mono (Same.refl F) (upd_ne ne)⟩
  · by_cases hb : a = p
    · subst hb; rw [upd_same] at e; cases e; exact ⟨upd_same, .inr e3⟩
    · rw [upd_ne hb] at e ⊢; exact h.fr a u (by rw [upd_ne hb]; exact e)
/-- what was held exactly is given out: a new list -/
theorem newL_held {K : PySem.W.Frag} {F H : Hp} {m : Mu} {r : Hp} {mt : Bool} {p : Addr} {ds : List D} {xs : List V} {Q : QD} {Qc : VK} (h : Sn K F H m (upd r p (.lst xs))) (rp : r p = none) (hr : RepL K F xs ds) (hq : newL mt ds m Q) (g : GE K F r Q Qc) : Qc (.ref p) H := by
  obtain ⟨e1, e2⟩ := h.fr p _ upd_same
  have e3 : F p = none ∧ m p = none := by
    rcases e2 with ⟨ob, u, e2⟩ | e2
    · cases e2
    · exact e2
  cases mt with
  | false =>
    have s : Same F (upd F p (.lst xs)) := same_new e3.1
    refine g _ H m _ _ s ⟨fun b v w => ?_, fun b y w => ?_, fun b o w => ?_⟩ (.lst upd_same (hr.mono s)) hq
    · by_cases hb : b = p
      · subst hb; rw [upd_same] at w; cases w; exact .inl e1
      · rw [upd_ne hb] at w; exact h.cov b v w
    · have ne : b ≠ p := fun z => by subst z; rw [e3.2] at w; cases w
      exact ⟨by rw [upd_ne ne]; exact (h.mu b y w).1, (h.mu b y w).2.mono s rfl⟩
    · have ne : b ≠ p := fun z => by subst z; rw [rp] at w; cases w
      have q := h.fr b o (by rw [upd_ne ne]; exact w)
      exact ⟨q.1, q.2.imp id fun z => ⟨by rw [upd_ne ne]; exact z.1, z.2⟩⟩
  | true =>
    refine g F H _ _ _ (Same.refl F) ⟨h.cov, fun b y w => ?_, fun b o w => ?_⟩ (.cell p) (hq p e3.2)
    · by_cases hb : b = p
      · subst hb; rw [mset_same] at w; cases w; exact ⟨e3.1, xs, e1, hr⟩
      · rw [mset_ne hb] at w; exact h.mu b y w
    · have ne : b ≠ p := fun z => by subst z; rw [rp] at w; cases w
      have q := h.fr b o (by rw [upd_ne ne]; exact w)
      exact ⟨q.1, q.2.imp id fun z => ⟨z.1, by rw [mset_ne ne]; exact z.2⟩⟩
/-- no exception -/
def XF : XA := fun _ _ => False
def AF : AEnds := ⟨fun _ _ => False, fun _ _ => False, fun _ _ => False, fun _ _ => False, fun _ _ _ => False⟩
def W0 : WX := fun _ _ _ _ => False
theorem gx0 {K : PySem.W.Frag} {F r : Hp} {s : L2.St} : GX K F r s XF W0 := fun _ _ _ _ _ _ _ _ _ q => q.elim
theorem gs0 {K : PySem.W.Frag} {F r : Hp} {D : Ends} : GS K F r AF D W0 := ⟨fun _ _ _ _ _ _ _ _ q => q.elim, fun _ _ _ _ _ _ _ _ q => q.elim, fun _ _ _ _ _ _ _ _ q => q.elim, fun _ _ _ _ _ _ _ _ q => q.elim, fun _ _ _ _ _ _ _ _ _ _ _ _ q => q.elim⟩
theorem wipe_len (σ : L2.St) (vs : List Nat) : (wipe σ vs).length = σ.length := wipe_length σ vs
theorem wipe_get (σ : L2.St) : ∀ (vs : List Nat) (j : Nat), (wipe σ vs)[j]? = if j ∈ vs ∧ j < σ.length then some none else σ[j]?
  | [], j => by simp [wipe]
  | v :: vs, j => by
    have ih := wipe_get σ vs j
    unfold wipe
    by_cases hv : v = j
    · subst hv
      by_cases hl : v < σ.length
      · rw [List.getElem?_set_self (by rw [wipe_length]; exact hl), if_pos ⟨List.mem_cons_self .., hl⟩]
      · rw [List.getElem?_eq_none (by rw [List.length_set, wipe_length]; omega), if_neg fun z => hl z.2, List.getElem?_eq_none (by omega)]
    · rw [List.getElem?_set_ne hv, ih]
      by_cases h : j ∈ vs ∧ j < σ.length
      · rw [if_pos h, if_pos ⟨List.mem_cons_of_mem _ h.1, h.2⟩]
      · rw [if_neg h, if_neg fun z => h ⟨(List.mem_cons.mp z.1).elim (fun q => absurd q.symm hv) id, z.2⟩]
theorem wipe_off {is vs : List Nat} {σ s' : L2.St} (h : SameOff is (wipe σ vs) s') (hi : ∀ j ∈ is, j ∈ vs) : wipe s' vs = wipe σ vs := by
  refine List.ext_getElem? fun j => ?_
  rw [wipe_get, wipe_get]
  have hl : s'.length = σ.length := h.1.trans (wipe_length σ vs)
  by_cases hj : j ∈ vs
  · by_cases hlt : j < σ.length
    · rw [if_pos ⟨hj, by omega⟩, if_pos ⟨hj, hlt⟩]
    · rw [if_neg fun z => hlt (by omega), if_neg fun z => hlt z.2, List.getElem?_eq_none (by omega), List.getElem?_eq_none (by omega)]
  · rw [if_neg fun z => hj z.1, if_neg fun z => hj z.1, h.2 j fun z => hj (hi j z), wipe_get, if_neg fun z => hj z.1]
/-- the tests of a comprehension -/
def aYes : AT := fun _ m Q _ => Q true m
def QTs (X : Cx) (ifs : List Expr) (t : AT) : Prop := ∀ W, Takes X W → PTs X ifs (cT X.K W t)
theorem pts_imp {X : Cx} {ifs : List Expr} {t t' : TT} (h : PTs X ifs t) (k : ∀ s H Q, t' s H Q → t s H Q) : PTs X ifs t' := ⟨fun pins s σ H Q I q => h.run pins s σ H Q I (k _ _ _ q)⟩
theorem qts_nil {X : Cx} : QTs X [] aYes := fun W tk => pts_imp pts_nil fun s H Q ⟨F, e, m, r, Qa, Xa, he, hn, h, g, gx⟩ => g F H m true (Same.refl F) hn h
theorem qts_one {X : Cx} {c : Expr} {t : AT} (h : QT X c t) : QTs X [c] t := fun W tk => pts_one (h W tk)
def lcA (mt : Bool) (src : List D) (G : Mu → Prop) (ag : AG) (at_ : AT) (ae : AE) (vs : List Nat) (e : De) (m : Mu) (Q : QD) : Prop := ∃ I : Nat → List D → Mu → Prop, I 0 [] m ∧ (∀ i acc m', I i acc m' → G m') ∧
  (∀ i d acc m', src[i]? = some d → I i acc m' → ag d AF (wipeA e vs) m' fun e2 m2 => at_ e2 m2 (fun b m3 => if b = true then ae e2 m3 (fun y m4 => acc.length < sizeLine ∧ I (i + 1) (acc ++ [y]) m4) XF else I (i + 1) acc m3) XF) ∧
  ∀ acc m', I src.length acc m' → newL mt acc m' Q
def aLc (mt : Bool) (ai : AI) (ag : AG) (at_ : AT) (ae : AE) (vs : List Nat) : AE := fun e m Q X => ai e m (fun src G m1 => lcA mt src G ag at_ ae vs e m1 Q) X
section
variable {X : Cx} {tg elt iter : Expr} {ifs : List Expr} {scope : Scope} {own : List (Str × Nat)} {pos : Pos} {ai : AI} {ag : AG} {is : List Nat} {g1 : WX → TG} {at_ : AT} {ae : AE}
theorem low_lc {K : PySem.W.Frag} {F H r : Hp} {s : L2.St} {e : De} {m : Mu} {J : It} {src : List D} {G : Mu → Prop} {vs : List Nat} {mt : Bool} {Q : QD} {Qc : VK} {ag : AG} {at_ : AT} {ae : AE} {is : List Nat} {g1 : TG}
    (he : EnvOk K F s e) (hn : Sn K F H m r) (hJ : ItOk K J F src G) (h : lcA mt src G ag at_ ae vs e m Q) (hg : ∀ D v s H Q, cG K W0 D ag is v s H Q → g1 v s H Q) (hi : ∀ j ∈ is, j ∈ vs) (g : GE K F r Q Qc) (D : Addr) (hD : H D = none) :
    ∃ Wv : Nat → Nat → Hp → Prop, (∃ n, Wv 0 n (upd H D (.lst []))) ∧ ∀ i n H, Wv i n H → (J.stop i H ∧ Qc (.ref D) H) ∨ (J.go i H ∧ ∃ Nx : Hp → Prop, (∀ H', Nx H' → ∃ m', m' < n ∧ Wv (i + 1) m' H') ∧
      ∀ x H', J.yld i H x H' → g1 x (wipe s vs) H' fun σ2 H2 => wipe σ2 vs = wipe s vs ∧ cT K W0 at_ σ2 H2 fun b H3 =>
        if b = true then cE K W0 ae σ2 H3 fun y H4 => ∃ acc, H4 D = some (.lst acc) ∧ acc.length < sizeLine ∧ Nx (upd H4 D (.lst (acc ++ [y]))) else Nx H3) := by
  obtain ⟨I, h0, hG, hs, hd⟩ := h
  have rD : r D = none := hn.r_none hD
  refine ⟨fun i n H' => n = src.length - i ∧ i ≤ src.length ∧ ∃ F' m' accD accV, Same F F' ∧ Sn K F' H' m' (upd r D (.lst accV)) ∧ RepL K F' accV accD ∧ I i accD m', ⟨src.length, by simp, Nat.zero_le _, F, m, [], [], Same.refl F, hn.newR hD _, .nil, h0⟩, ?_⟩
  rintro i n H1 ⟨rfl, hi1, F1, m1, accD, accV, k1, hn1, hr1, hI⟩
  obtain ⟨j1, j2⟩ := hJ F1 H1 m1 _ k1 hn1 (hG i accD m1 hI)
  by_cases hlt : i < src.length
  · obtain ⟨go, yl⟩ := j1 i hlt
    refine .inr ⟨go, fun H' => ∃ F' m' accD accV, Same F F' ∧ Sn K F' H' m' (upd r D (.lst accV)) ∧ RepL K F' accV accD ∧ I (i + 1) accD m', fun H' p => ⟨src.length - (i + 1), by omega, rfl, hlt, p⟩, fun x H2 y => ?_⟩
    obtain ⟨F2, d, k2, n2, hd2, r2⟩ := yl x H2 y
    have hw : EnvOk K F2 (wipe s vs) (wipeA e vs) := ((he.mono (k1.trans k2)).wipe vs)
    refine hg ⟨fun _ _ => True, fun _ _ => True, fun _ _ => True, fun _ _ => True⟩ _ _ _ _ ⟨F2, _, m1, _, AF, d, _, hw, n2, r2, hs i d accD m1 hd2 hI, gs0, fun F3 H3 m3 s3 e3 k3 he3 n3 o3 q3 => ⟨wipe_off o3 hi, ?_⟩⟩
    refine ⟨F3, e3, m3, _, _, XF, he3, n3, q3, fun F4 H4 m4 b k4 n4 q4 => ?_, gx0⟩
    have kk := k1.trans (k2.trans (k3.trans k4))
    have hr4 := hr1.mono (k2.trans (k3.trans k4))
    cases b with
    | true =>
      show cE K W0 ae s3 H4 _
      refine ⟨F4, e3, m4, _, _, XF, he3.mono k4, n4, q4, fun F5 H5 m5 v d5 k5 n5 r5 q5 => ?_, gx0⟩
      obtain ⟨hl, q5⟩ := q5
      have hr5 := hr4.mono k5
      refine ⟨accV, (n5.fr D _ upd_same).1, by rw [hr1.length]; exact hl, F5, m5, accD ++ [d5], accV ++ [v], kk.trans k5, ?_, hr5.append (.one r5), q5⟩
      have z := n5.chR (o' := .lst (accV ++ [v])) (fun _ _ q => nomatch q)
      exact z
    | false => exact ⟨F4, m4, accD, accV, kk, n4, hr4, q4⟩
  · have e' : i = src.length := by omega
    subst e'
    exact .inl ⟨j2 _ (Nat.le_refl _), newL_held hn1 rD hr1 (hd accD m1 hI) (g.mono k1)⟩
theorem takes_w0 {X : Cx} : Takes X W0 := takes0
theorem q_lc (mt : Bool) (own : List (Str × Nat)) (hc : X.calm = true) (hN : X.N.Nodup) (hi : QI X tg iter ai) (ok : BlkOk X.N X.env.scope scope own)
    (hg : ∀ (s : Shared) (H : Hp) (C : Addr) (cl : List (Str × Addr)) (fp : List Addr), QG (X.blk s H scope (compEnvC scope cl C X.env) fp) tg ag is g1)
    (ht : ∀ (s : Shared) (H : Hp) (C : Addr) (cl : List (Str × Addr)) (fp : List Addr), QTs (X.blk s H scope (compEnvC scope cl C X.env) fp) ifs at_)
    (he : ∀ (s : Shared) (H : Hp) (C : Addr) (cl : List (Str × Addr)) (fp : List Addr), QE (X.blk s H scope (compEnvC scope cl C X.env) fp) elt ae)
    (his : ∀ j ∈ is, j ∈ own.map (·.2) := by decide) (hs : ∀ x, foldedSetIterable iter X.env x = pure x := by intro _; rfl) :
    QE X (.ListComp elt [⟨tg, iter, ifs, 0⟩] scope pos) (aLc mt ai ag at_ ae (own.map (·.2))) := fun W tk =>
  ⟨fun pins sh σ H' Q' I h => (pe_lc (own := own) (g := g1 W0) (tt := cT X.K W0 at_) (te := cE X.K W0 ae) hc hN (hi W tk) ok (fun s H C cl fp => (hg s H C cl fp W0 takes_w0).1) (fun s H C cl fp => ht s H C cl fp W0 takes_w0) (fun s H C cl fp => he s H C cl fp W0 takes_w0) hs).run pins sh σ H' Q' I (by
    obtain ⟨F, e, m, r, Q, X, he, hn, h, g, gx⟩ := h
    refine ⟨F, e, m, r, _, X, he, hn, h, fun F1 H1 m1 J src G q n1 hJ hl => fun D hD => ?_, gx⟩
    exact low_lc (he.mono q) n1 hJ hl (fun D v s H Q z => (hg sh H' 0 [] [] W0 takes_w0).2 D v s H Q z) his (g.mono q) D hD)⟩
theorem qs_setLc (mt : Bool) (i : Nat) (own : List (Str × Nat)) {y : Str} {py spos : Pos} (hc : X.calm = true) (hN : X.N.Nodup) (hi : QI X tg iter ai) (ok : BlkOk X.N X.env.scope scope own)
    (hg : ∀ (s : Shared) (H : Hp) (C : Addr) (cl : List (Str × Addr)) (fp : List Addr), QG (X.blk s H scope (compEnvC scope cl C X.env) fp) tg ag is g1)
    (ht : ∀ (s : Shared) (H : Hp) (C : Addr) (cl : List (Str × Addr)) (fp : List Addr), QTs (X.blk s H scope (compEnvC scope cl C X.env) fp) ifs at_)
    (he : ∀ (s : Shared) (H : Hp) (C : Addr) (cl : List (Str × Addr)) (fp : List Addr), QE (X.blk s H scope (compEnvC scope cl C X.env) fp) elt ae)
    (hsw : swapsWith (.ListComp elt [⟨tg, iter, ifs, 0⟩] scope pos) (some (.Name y py)) spos.line X.env = pure true)
    (hy : X.N[i]? = some y := by rfl) (hyl : X.env.scope.names.lookup y = some .local := by rfl)
    (his : ∀ j ∈ is, j ∈ own.map (·.2) := by decide) (hs : ∀ x, foldedSetIterable iter X.env x = pure x := by intro _; rfl) :
    QS X (.Assign [.Name y py] (.ListComp elt [⟨tg, iter, ifs, 0⟩] scope pos) spos) (aSet i (aLc mt ai ag at_ ae (own.map (·.2)))) := fun W tk po =>
  ⟨fun pins sh σ H' D I h => (ps_setLc (own := own) (g := g1 W0) (tt := cT X.K W0 at_) (te := cE X.K W0 ae) hc hN hy hyl hsw (hi W tk) ok (fun s H C cl fp => (hg s H C cl fp W0 takes_w0).1) (fun s H C cl fp => ht s H C cl fp W0 takes_w0) (fun s H C cl fp => he s H C cl fp W0 takes_w0) hs).run pins sh σ H' D I (by
    obtain ⟨F, e, m, r, A, he, hn, h, g⟩ := h
    refine ⟨F, e, m, r, _, _, he, hn, h, fun F1 H1 m1 J src G q n1 hJ hl => fun D' hD => ?_, g.gx he⟩
    refine low_lc (Qc := fun v H => D.nx (σ.set i (some v)) H) (he.mono q) n1 hJ hl (fun D v s H Q z => (hg sh H' 0 [] [] W0 takes_w0).2 D v s H Q z) his ?_ D' hD
    exact fun F2 H2 m2 v d k n2 r2 q2 => g.nx F2 H2 m2 _ _ (q.trans k) ((he.mono (q.trans k)).set r2 i) n2 q2)⟩
end
end Ab
namespace Ab
open PySem PySem.Spec PyProof.Rows L2
section
variable {X : Cx} {a b c : Expr} {es : List Expr} {pos : Pos} {ta tb tc : AE} {tr : AA}
/-! ### len, list, tuple, str, int, min, max, sum -/
def asD0 (m : Mu) : D → Option (List (Key × D))
  | .cell a => (match m a with | some (.dic false kvs) => some kvs | _ => none)
  | _ => none
theorem asD0_ok {K : PySem.W.Frag} {F H : Hp} {m : Mu} {r : Hp} {v : V} {d : D} {xs : List (Key × D)} (hn : Sn K F H m r) (hr : Rep K F v d) (h : asD0 m d = some xs) : ∃ p kvs, v = .ref p ∧ H p = some (.dK kvs) ∧ RepK K F kvs xs := by
  cases d with
  | cell a =>
    cases hr
    have h : (match m a with | some (.dic false kvs) => some kvs | _ => none) = some xs := h
    split at h
    · rename_i kvs e
      cases h
      obtain ⟨_, vs, h1, h2⟩ := hn.mu a _ e
      exact ⟨_, _, rfl, h1, h2⟩
    · cases h
  | _ => cases h
def bLen : BA := fun ds m Q => ∃ d, ds = [d] ∧ ((∃ x, d = .str x ∧ x.length ≤ sizeLine ∧ Q (.int x.length) m) ∨ (∃ xs, asS m d = some xs ∧ Q (.int xs.length) m) ∨ ∃ kvs, asD0 m d = some kvs ∧ Q (.int kvs.length) m)
theorem call_lenD0 : CallR X (.builtin "len") (fun xs H Q => ∃ a kvs, xs = [V.ref a] ∧ H a = some (.dK kvs) ∧ Q (.int kvs.length) H) := call_lenD
theorem s_len {K : PySem.W.Frag} : SA K (fun xs H Q => (∃ z, xs = [.str z] ∧ z.length ≤ sizeLine ∧ Q (.int z.length) H) ∨ ((∃ p ys, xs = [.ref p] ∧ (SqL K H p ys ∨ SqT K H p ys) ∧ Q (.int ys.length) H) ∨ ∃ a kvs, xs = [V.ref a] ∧ H a = some (.dK kvs) ∧ Q (.int kvs.length) H)) bLen := by
  intro F H m r vs ds Q Qc hn hr h k
  obtain ⟨d, rfl, h⟩ := h
  obtain ⟨v, rfl, rv⟩ := repL1 hr
  rcases h with ⟨x, rfl, hl, q⟩ | ⟨xs, hx, q⟩ | ⟨kvs, hx, q⟩
  · cases rv; exact .inl ⟨_, rfl, hl, k F H m _ _ (Same.refl F) hn (.int _) q⟩
  · obtain ⟨p, vs, rfl, e2, r2⟩ := asS_ok hn rv hx
    refine .inr (.inl ⟨p, vs, rfl, e2, ?_⟩)
    rw [r2.length]; exact k F H m _ _ (Same.refl F) hn (.int _) q
  · obtain ⟨p, vs, rfl, e2, r2⟩ := asD0_ok hn rv hx
    refine .inr (.inr ⟨p, vs, rfl, e2, ?_⟩)
    rw [r2.length]; exact k F H m _ _ (Same.refl F) hn (.int _) q
theorem q_len {p : Pos} (hm : X.mg "len" = none) (ha : QA X (a :: es) tr) (hg : Gl X "len" := by rfl)
    (he : starEach (a :: es) X.env = (false, eval a X.env) :: starEach es X.env := by rfl) (hpl : (backTo pos (starEach es X.env)).any (·.1) = false := by rfl) : QE X (.Call (.Name "len" p) (a :: es) [] pos) (aCB bLen tr) :=
  q_callB (call_len_str.or (call_len_seq.or call_lenD0)) s_len hm boot_len ha hg (by decide) (by decide) he hpl
def kD : Key → D
  | .inl i => .int i
  | .inr x => .str x
theorem rep_key {K : PySem.W.Frag} {F : Hp} (k : Key) : Rep K F (kV k) (kD k) := by cases k <;> constructor
theorem rep_keys {K : PySem.W.Frag} {F : Hp} : ∀ {kvs : List (Key × V)} {es : List (Key × D)}, RepK K F kvs es → RepL K F (kvs.map fun kv => kV kv.1) (es.map fun kv => kD kv.1)
  | _, _, .nil => .nil
  | _, _, .cons h r => .cons (rep_key _) (rep_keys r)
/-- list(x): of a list, a tuple; of a dict its keys -/
def bList (mt : Bool) : BA := fun ds m Q => ∃ d, ds = [d] ∧ ((∃ xs, asS m d = some xs ∧ newL mt xs m Q) ∨ ∃ kvs, asK m d = some kvs ∧ newL mt (kvs.map fun kv => kD kv.1) m Q)
theorem s_list {K : PySem.W.Frag} (mt : Bool) : SA K (fun xs H Q => (∃ p ys, xs = [.ref p] ∧ (SqL K H p ys ∨ SqT K H p ys) ∧ ∀ l, H l = none → Q (.ref l) (upd H l (.lst ys))) ∨ (∃ (a : Addr) (kvs : List (Key × V)), xs = [.ref a] ∧ Rd H a (.dK kvs) ∧ ∀ p, H p = none → Q (.ref p) (upd H p (.lst (kvs.map fun kv => kV kv.1))))) (bList mt) := by
  intro F H m r vs ds Q Qc hn hr h k
  obtain ⟨d, rfl, h⟩ := h
  obtain ⟨v, rfl, rv⟩ := repL1 hr
  rcases h with ⟨xs, hx, q⟩ | ⟨kvs, hx, q⟩
  · obtain ⟨p, vs, rfl, e2, r2⟩ := asS_ok hn rv hx
    exact .inl ⟨p, vs, rfl, e2, fun l hl => newL_ok hn r2 q k l hl⟩
  · obtain ⟨p, vs, rfl, e2, r2⟩ := asK_ok hn rv hx
    exact .inr ⟨p, vs, rfl, e2, fun l hl => newL_ok hn (rep_keys r2) q k l hl⟩
theorem q_list (mt : Bool) {p : Pos} (hc : X.calm = true) (hm : X.mg "list" = none) (ha : QA X (a :: es) tr) (hg : Gl X "list" := by rfl)
    (he : starEach (a :: es) X.env = (false, eval a X.env) :: starEach es X.env := by rfl) (hpl : (backTo pos (starEach es X.env)).any (·.1) = false := by rfl) : QE X (.Call (.Name "list" p) (a :: es) [] pos) (aCB (bList mt) tr) :=
  q_callTy (call_list_of.or (call_listD hc)) (s_list mt) hm (by decide +kernel) ha hg (by decide) (by decide) he hpl
/-- tuple(x) -/
def bTuple : BA := fun ds m Q => ∃ d xs, ds = [d] ∧ asS m d = some xs ∧ Q (.tup xs) m
theorem s_tuple {K : PySem.W.Frag} : SA K (fun xs H Q => ∃ p ys, xs = [.ref p] ∧ ((SqL K H p ys ∧ ∀ l, H l = none → Q (.ref l) (upd H l (.tup ys))) ∨ (SqT K H p ys ∧ Q (.ref p) H))) bTuple := by
  intro F H m r vs ds Q Qc hn hr h k
  obtain ⟨d, xs, rfl, hx, q⟩ := h
  obtain ⟨v, rfl, rv⟩ := repL1 hr
  by_cases ht : ∃ ys, d = .tup ys
  · obtain ⟨ys, rfl⟩ := ht
    cases hx
    cases rv with
    | tup e r2 => exact ⟨_, _, rfl, .inr ⟨hn.sqT e, k F H m _ _ (Same.refl F) hn (.tup e r2) q⟩⟩
  · obtain ⟨p, vs, rfl, e2, r2⟩ := asS_ok hn rv hx
    obtain ⟨ws, w1, w2⟩ := sqL_at hn rv (fun ys z => ht ⟨ys, z⟩) hx
    refine ⟨p, ws, rfl, .inl ⟨w1, fun l hl => ?_⟩⟩
    exact k _ _ m _ _ (hn.same hl _) (hn.new hl _) (.tup (.inl (.inl upd_same)) (w2.mono (hn.same hl _))) q
theorem q_tuple {p : Pos} (hm : X.mg "tuple" = none) (ha : QA X (a :: es) tr) (hg : Gl X "tuple" := by rfl)
    (he : starEach (a :: es) X.env = (false, eval a X.env) :: starEach es X.env := by rfl) (hpl : (backTo pos (starEach es X.env)).any (·.1) = false := by rfl) : QE X (.Call (.Name "tuple" p) (a :: es) [] pos) (aCB bTuple tr) :=
  q_callTy call_tuple_of s_tuple hm (by decide +kernel) ha hg (by decide) (by decide) he hpl
/-- str(n), str(text) -/
def bStr : BA := fun ds m Q => (∃ i : Int, ds = [.int i] ∧ i.natAbs.log2 < 1920 ∧ Q (.str (toString i)) m) ∨ ∃ x, ds = [.str x] ∧ Q (.str x) m
theorem s_str {K : PySem.W.Frag} : SA K (fun xs H Q => (∃ i : Int, xs = [.int i] ∧ i.natAbs.log2 < 1920 ∧ Q (.str (toString i)) H) ∨ ∃ a, xs = [.str a] ∧ Q (.str a) H) bStr := by
  intro F H m r vs ds Q Qc hn hr h k
  rcases h with ⟨i, rfl, hl, q⟩ | ⟨x, rfl, q⟩
  · obtain ⟨v, rfl, rv⟩ := repL1 hr
    cases rv; exact .inl ⟨i, rfl, hl, k F H m _ _ (Same.refl F) hn (.str _) q⟩
  · obtain ⟨v, rfl, rv⟩ := repL1 hr
    cases rv; exact .inr ⟨_, rfl, k F H m _ _ (Same.refl F) hn (.str _) q⟩
theorem q_str_ {p : Pos} (hm : X.mg "str" = none) (ha : QA X (a :: es) tr) (hg : Gl X "str" := by rfl)
    (he : starEach (a :: es) X.env = (false, eval a X.env) :: starEach es X.env := by rfl) (hpl : (backTo pos (starEach es X.env)).any (·.1) = false := by rfl) : QE X (.Call (.Name "str" p) (a :: es) [] pos) (aCB bStr tr) :=
  q_callTy (call_str_int.or SkE.call_str_str) s_str hm (by decide +kernel) ha hg (by decide) (by decide) he hpl
/-- int(n), int(flag), int(text) -/
def bInt : BA := fun ds m Q => (∃ i : Int, ds = [.int i] ∧ Q (.int i) m) ∨ (∃ k : Bool, ds = [.bl k] ∧ Q (.int (if k then 1 else 0)) m) ∨ ∃ (x : Str) (n : Int), ds = [.str x] ∧ PySem.intText? x = some n ∧ x.length ≤ 640 ∧ Q (.int n) m
theorem s_int {K : PySem.W.Frag} : SA K (fun xs H Q => ((∃ i, xs = [.int i] ∧ Q (.int i) H) ∨ ∃ k, xs = [.bl k] ∧ Q (.int (if k then 1 else 0)) H) ∨ ∃ a n, xs = [.str a] ∧ PySem.intText? a = some n ∧ a.length ≤ 640 ∧ Q (.int n) H) bInt := by
  intro F H m r vs ds Q Qc hn hr h k
  rcases h with ⟨i, rfl, q⟩ | ⟨x, rfl, q⟩ | ⟨x, n, rfl, h1, h2, q⟩
  · obtain ⟨v, rfl, rv⟩ := repL1 hr
    cases rv; exact .inl (.inl ⟨i, rfl, k F H m _ _ (Same.refl F) hn (.int _) q⟩)
  · obtain ⟨v, rfl, rv⟩ := repL1 hr
    cases rv; exact .inl (.inr ⟨_, rfl, k F H m _ _ (Same.refl F) hn (.int _) q⟩)
  · obtain ⟨v, rfl, rv⟩ := repL1 hr
    cases rv; exact .inr ⟨_, _, rfl, h1, h2, k F H m _ _ (Same.refl F) hn (.int _) q⟩
theorem q_int_ {p : Pos} (hm : X.mg "int" = none) (ha : QA X (a :: es) tr) (hg : Gl X "int" := by rfl)
    (he : starEach (a :: es) X.env = (false, eval a X.env) :: starEach es X.env := by rfl) (hpl : (backTo pos (starEach es X.env)).any (·.1) = false := by rfl) : QE X (.Call (.Name "int" p) (a :: es) [] pos) (aCB bInt tr) :=
  q_callTy (call_int1.or call_int_str) s_int hm (by decide +kernel) ha hg (by decide) (by decide) he hpl
def bMax2 : BA := fun ds m Q => ∃ i j : Int, ds = [.int i, .int j] ∧ Q (.int (max i j)) m
def bMin2 : BA := fun ds m Q => ∃ i j : Int, ds = [.int i, .int j] ∧ Q (.int (min i j)) m
theorem s_max2 {K : PySem.W.Frag} : SA K (fun xs H Q => ∃ i j, xs = [.int i, .int j] ∧ Q (.int (if j > i then j else i)) H) bMax2 := by
  intro F H m r vs ds Q Qc hn hr h k
  obtain ⟨i, j, rfl, q⟩ := h
  obtain ⟨v, u, rfl, rv, ru⟩ := repL2 hr
  cases rv; cases ru
  have e : (if j > i then j else i) = max i j := by split <;> omega
  refine ⟨i, j, rfl, ?_⟩
  rw [e]
  exact k F H m _ _ (Same.refl F) hn (.int _) q
theorem s_min2 {K : PySem.W.Frag} : SA K (fun xs H Q => ∃ i j, xs = [.int i, .int j] ∧ Q (.int (if j < i then j else i)) H) bMin2 := by
  intro F H m r vs ds Q Qc hn hr h k
  obtain ⟨i, j, rfl, q⟩ := h
  obtain ⟨v, u, rfl, rv, ru⟩ := repL2 hr
  cases rv; cases ru
  have e : (if j < i then j else i) = min i j := by split <;> omega
  refine ⟨i, j, rfl, ?_⟩
  rw [e]
  exact k F H m _ _ (Same.refl F) hn (.int _) q
theorem q_max2 {p : Pos} (hc : X.calm = true) (hm : X.mg "max" = none) (ha : QA X (a :: es) tr) (hg : Gl X "max" := by rfl)
    (he : starEach (a :: es) X.env = (false, eval a X.env) :: starEach es X.env := by rfl) (hpl : (backTo pos (starEach es X.env)).any (·.1) = false := by rfl) : QE X (.Call (.Name "max" p) (a :: es) [] pos) (aCB bMax2 tr) :=
  q_callB (call_max2 hc) s_max2 hm (by decide +kernel) ha hg (by decide) (by decide) he hpl
theorem q_min2 {p : Pos} (hc : X.calm = true) (hm : X.mg "min" = none) (ha : QA X (a :: es) tr) (hg : Gl X "min" := by rfl)
    (he : starEach (a :: es) X.env = (false, eval a X.env) :: starEach es X.env := by rfl) (hpl : (backTo pos (starEach es X.env)).any (·.1) = false := by rfl) : QE X (.Call (.Name "min" p) (a :: es) [] pos) (aCB bMin2 tr) :=
  q_callB (call_min2 hc) s_min2 hm (by decide +kernel) ha hg (by decide) (by decide) he hpl
/-! ### isinstance of a built-in type -/
def isTy (K : PySem.W.Frag) (m : Mu) (n : String) (d : D) (b : Bool) : Prop := ∃ t, (match d with
    | .non => t = Value.type "NoneType"
    | .bl _ => t = Value.type "bool"
    | .int _ => t = Value.type "int"
    | .str _ => t = Value.type "str"
    | .lst _ => t = Value.type "list"
    | .tup _ => t = Value.type "tuple"
    | .dic _ => t = Value.type "dict"
    | .cell a => (∃ xs, m a = some (.lst xs) ∧ t = Value.type "list") ∨ ∃ lk kvs, m a = some (.dic lk kvs) ∧ t = Value.type "dict"
    | _ => False) ∧ PySem.W.kitOne K t (.type n) = some b
def aIsi (K : PySem.W.Frag) (n : String) (t : AE) : AE := fun e m Q X => t e m (fun d m1 => ∃ b, isTy K m1 n d b ∧ Q (.bl b) m1) X
theorem tyx_ok {K : PySem.W.Frag} {F H : Hp} {m : Mu} {r : Hp} {v : V} {d : D} {n : String} {b : Bool} (hn : Sn K F H m r) (hr : Rep K F v d) (h : isTy K m n d b) : ∃ t, TyX K H v t ∧ PySem.W.kitOne K t (.type n) = some b := by
  obtain ⟨t, h1, h2⟩ := h
  refine ⟨t, ?_, h2⟩
  cases d with
  | non => cases hr; cases h1; exact .base .non
  | bl _ => cases hr; cases h1; exact .base (.bl _)
  | int _ => cases hr; cases h1; exact .base (.int _)
  | str _ => cases hr; cases h1; exact .base (.str _)
  | lst _ => cases h1; cases hr with | lst e q => exact .base (.lst (hn.lst e))
  | tup _ =>
    cases h1
    cases hr with
    | tup e q =>
      rcases hn.sqT e with (e | ⟨o, e⟩) | ⟨o, its, n, e, c, _⟩
      · exact .base (.tup e)
      · exact .fTuple e
      · exact .kTuple e c
  | dic _ =>
    cases h1
    cases hr with
    | dic e q =>
      rcases hn.rd (.inl e) with e | ⟨o, e⟩
      · exact .base (.dK e)
      · exact .fDict e
  | cell a =>
    cases hr
    rcases h1 with ⟨xs, e, rfl⟩ | ⟨lk, kvs, e, rfl⟩
    · obtain ⟨_, vs, e2, _⟩ := hn.mu a _ e
      exact .base (.lst e2)
    · cases lk with
      | false => obtain ⟨_, vs, e2, _⟩ := hn.mu a _ e; exact .base (.dK e2)
      | true => obtain ⟨_, o, vs, e2, _⟩ := hn.mu a _ e; exact .fDict e2
  | _ => exact h1.elim
theorem q_isi {n : String} {x : Str} {p p2 : Pos} (hm : X.mg "isinstance" = none) (hmT : X.mg x = none) (hv : bootBuiltins x = some (.type n)) (ha : QE X a ta) (hg : Gl X "isinstance" := by rfl) (hgT : Gl X x := by rfl) (hnn : x ≠ "__name__" := by decide) (hdd : (x == ("__debug__" : Str)) = false := by decide)
    (hs1 : starEach (a :: [.Name x p2]) X.env = (false, eval a X.env) :: starEach [.Name x p2] X.env := by rfl) (hs2 : starEach (.Name x p2 :: []) X.env = (false, eval (.Name x p2) X.env) :: starEach [] X.env := by rfl) (hpl : (backTo pos (starEach [.Name x p2] X.env)).any (·.1) = false := by rfl) :
    QE X (.Call (.Name "isinstance" p) [a, .Name x p2] [] pos) (aIsi X.K n ta) := fun W tk =>
  (pe_callB call_isi hg hm (by decide +kernel) (pa_cons (ha W tk) (pa_cons (pe_bltn (v := .ty n) hgT hmT hv rfl hnn hdd) pa_nil hs2) hs1) (by decide) (by decide) hs1 hpl).imp fun s H Qc h => by
    obtain ⟨F, e, m, r, Q, X, he, hn, h, g, gx⟩ := h
    refine ⟨F, e, m, r, _, X, he, hn, h, fun F1 H1 m1 v d s1 n1 r1 q1 => ?_, gx⟩
    obtain ⟨b, hb, q⟩ := q1
    obtain ⟨t, h1, h2⟩ := tyx_ok n1 r1 hb
    exact ⟨v, .ty n, t, .type n, b, rfl, .ty n, h1, h2, g F1 H1 m1 _ _ s1 n1 (.bl b) q⟩
/-! ### methods of lists and texts -/
def tyD (T : String) (m : Mu) (d : D) : Prop := (T = "list" ∧ ∃ xs, asLL m d = some xs) ∨ (T = "str" ∧ ∃ x, d = .str x)
theorem tyD_ok {K : PySem.W.Frag} {F H : Hp} {m : Mu} {r : Hp} {v : V} {d : D} {T : String} (hn : Sn K F H m r) (hr : Rep K F v d) (h : tyD T m d) : tyV K T v H := by
  rcases h with ⟨rfl, xs, hx⟩ | ⟨rfl, x, rfl⟩
  · obtain ⟨p, vs, rfl, e2, r2⟩ := asLL_ok hn hr hx
    exact .inl ⟨rfl, _, e2⟩
  · cases hr; rfl
def aBM0 (T : String) (b : BM) (to : AE) : AE := fun e m Q X => to e m (fun d m1 => tyD T m1 d ∧ b d [] m1 Q) X
def aBM (T : String) (b : BM) (to : AE) (t : AA) : AE := fun e m Q X => to e m (fun d m1 => tyD T m1 d ∧ t e m1 (fun ds m2 => b d ds m2 Q) X) X
variable {o : Expr} {to : AE} {name : Str} {apos cpos : Pos} {T id : String} {rd : V → List V → Hp → VK → Prop} {bb : BM}
theorem q_bm0 (hs : SM X.K rd bb) (pa : PlainAttrs T) (slot : Slot T name id) (hty : typeOf (.builtin id) = pure (.type "method_descriptor")) (hm : MtR X id rd) (ho : QE X o to)
    (hbase : attributeBase o name X.env (eval o X.env) = eval o X.env := by rfl) (hline : (apos.endLine == cpos.line) = true := by rfl) : QE X (.Call (.Attribute o name apos) [] [] cpos) (aBM0 T bb to) := fun W tk =>
  (pe_bm0 pa slot hty hm (ho W tk) hbase hline).imp fun s H Qc h => by
    obtain ⟨F, e, m, r, Q, X, he, hn, h, g, gx⟩ := h
    refine ⟨F, e, m, r, _, X, he, hn, h, fun F1 H1 m1 v d s1 n1 r1 q1 => ⟨tyD_ok n1 r1 q1.1, hs F1 H1 m1 r v d [] [] Q Qc n1 r1 .nil q1.2 (g.mono s1)⟩, gx⟩
theorem q_bm (hs : SM X.K rd bb) (pa : PlainAttrs T) (slot : Slot T name id) (hty : typeOf (.builtin id) = pure (.type "method_descriptor")) (hm : MtR X id rd) (ho : QE X o to) (ha : QA X (a :: es) tr)
    (hbase : attributeBase o name X.env (eval o X.env) = eval o X.env := by rfl)
    (hfew : ((backTo cpos (starEach (a :: es) X.env)).all (fun x => !x.1) && (backToKw cpos (keywordEach [] X.env)).all (fun x => x.1.isSome)
      && decide ((a :: es).length + ([] : List Keyword).length + (if ([] : List Keyword).isEmpty then 0 else 1) < 30)) = true := by rfl)
    (hline : (apos.endLine == cpos.line) = true := by rfl) (hst : starEach (a :: es) X.env = (false, eval a X.env) :: starEach es X.env := by rfl) (hplain : (backTo cpos (starEach es X.env)).any (·.1) = false := by rfl) :
    QE X (.Call (.Attribute o name apos) (a :: es) [] cpos) (aBM T bb to tr) := fun W tk =>
  (pe_bm pa slot hty hm (ho W tk) (ha W tk) hbase hfew hline hst hplain).imp fun s H Qc h => by
    obtain ⟨F, e, m, r, Q, X, he, hn, h, g, gx⟩ := h
    refine ⟨F, e, m, r, _, X, he, hn, h, fun F1 H1 m1 v d s1 n1 r1 q1 => ⟨tyD_ok n1 r1 q1.1, ?_⟩, gx⟩
    exact ⟨F1, e, m1, r, _, X, he.mono s1, n1, q1.2, fun F2 H2 m2 vs ds s2 n2 r2 q2 => hs F2 H2 m2 r v d vs ds Q Qc n2 (r1.mono s2) r2 q2 (g.mono (s1.trans s2)), gx.mono s1⟩
def bAppend : BM := fun d ds m Q => ∃ a xs y, d = .cell a ∧ ds = [y] ∧ m a = some (.lst xs) ∧ xs.length < sizeLine ∧ Q .non (mset m a (.lst (xs ++ [y])))
theorem s_append {K : PySem.W.Frag} : SM K rAppend bAppend := by
  intro F H m r v d vs ds Q Qc hn hr hrs h k
  obtain ⟨a, xs, y, rfl, rfl, e, hl, q⟩ := h
  cases hr
  obtain ⟨u, rfl, ru⟩ := repL1 hrs
  obtain ⟨ws, h1, h2⟩ := s_mu hn e
  exact ⟨a, ws, u, rfl, rfl, h1, by rw [h2.length]; exact hl, k F _ _ _ _ (Same.refl F) (Sn.upL hn e h1 (fun _ _ z => nomatch z) (h2.append (.one ru))) .non q⟩
def bExtend : BM := fun d ds m Q => ∃ a xs y ys, d = .cell a ∧ ds = [y] ∧ m a = some (.lst xs) ∧ asX m y = some ys ∧ xs.length + ys.length ≤ sizeLine ∧ Q .non (mset m a (.lst (xs ++ ys)))
theorem s_extend {K : PySem.W.Frag} : SM K rExtend bExtend := by
  intro F H m r v d vs ds Q Qc hn hr hrs h k
  obtain ⟨a, xs, y, ys, rfl, rfl, e, ey, hl, q⟩ := h
  cases hr
  obtain ⟨u, rfl, ru⟩ := repL1 hrs
  obtain ⟨ws, h1, h2⟩ := s_mu hn e
  obtain ⟨p, us, rfl, h3, h4⟩ := asX_ok hn ru ey
  exact ⟨a, p, ws, us, rfl, rfl, h1, h3, by rw [h2.length, h4.length]; exact hl, k F _ _ _ _ (Same.refl F) (Sn.upL hn e h1 (fun _ _ z => nomatch z) (h2.append h4)) .non q⟩
def bPop : BM := fun d ds m Q => ∃ a xs y, d = .cell a ∧ ds = [] ∧ m a = some (.lst xs) ∧ xs[xs.length - 1]? = some y ∧ Q y (mset m a (.lst xs.dropLast))
theorem s_pop {K : PySem.W.Frag} : SM K rPop bPop := by
  intro F H m r v d vs ds Q Qc hn hr hrs h k
  obtain ⟨a, xs, y, rfl, rfl, e, ey, q⟩ := h
  cases hr; cases hrs
  obtain ⟨ws, h1, h2⟩ := s_mu hn e
  obtain ⟨u, e2, ru⟩ := h2.getD ey
  exact ⟨a, ws, u, rfl, rfl, h1, by rw [h2.length]; exact e2, k F _ _ _ _ (Same.refl F) (Sn.upL hn e h1 (fun _ _ z => nomatch z) h2.dropLast) ru q⟩
def bPopAt : BM := fun d ds m Q => ∃ a xs i j y, d = .cell a ∧ ds = [.int i] ∧ m a = some (.lst xs) ∧ -(2 ^ 63) ≤ i ∧ i < 2 ^ 63 ∧ seqIndex? i xs.length = some j ∧ xs[j]? = some y ∧ Q y (mset m a (.lst (xs.eraseIdx j)))
theorem s_popAt {K : PySem.W.Frag} : SM K rPopAt bPopAt := by
  intro F H m r v d vs ds Q Qc hn hr hrs h k
  obtain ⟨a, xs, i, j, y, rfl, rfl, e, b1, b2, ej, ey, q⟩ := h
  cases hr
  obtain ⟨u, rfl, ru⟩ := repL1 hrs
  cases ru
  obtain ⟨ws, h1, h2⟩ := s_mu hn e
  obtain ⟨u, e2, ru⟩ := h2.getD ey
  exact ⟨a, ws, i, j, u, rfl, rfl, h1, b1, b2, by rw [h2.length]; exact ej, e2, k F _ _ _ _ (Same.refl F) (Sn.upL hn e h1 (fun _ _ z => nomatch z) (h2.eraseIdx j)) ru q⟩
def bClear : BM := fun d ds m Q => ∃ a xs, d = .cell a ∧ ds = [] ∧ m a = some (.lst xs) ∧ Q .non (mset m a (.lst []))
theorem s_clear {K : PySem.W.Frag} : SM K rClear bClear := by
  intro F H m r v d vs ds Q Qc hn hr hrs h k
  obtain ⟨a, xs, rfl, rfl, e, q⟩ := h
  cases hr; cases hrs
  obtain ⟨ws, h1, h2⟩ := s_mu hn e
  exact ⟨a, ws, rfl, rfl, h1, k F _ _ _ _ (Same.refl F) (Sn.upL hn e h1 (fun _ _ z => nomatch z) .nil) .non q⟩
/-- sep.join(xs) -/
def bJoin : BM := fun d ds m Q => ∃ x y xs ys, d = .str x ∧ ds = [y] ∧ asS m y = some xs ∧ xs = ys.map D.str ∧ (ys.map (·.length)).sum + ys.length * x.length ≤ 16777216 ∧ Q (.str (Txt.join x ys)) m
theorem repl_strs {K : PySem.W.Frag} {F : Hp} : ∀ {vs : List V} {ys : List Str}, RepL K F vs (ys.map D.str) → vs = ys.map V.str
  | _, [], h => by cases h; rfl
  | _, y :: ys, h => by
    rw [List.map_cons] at h
    cases h with | cons h1 h2 => cases h1; rw [repl_strs h2]; rfl
theorem s_join {K : PySem.W.Frag} : SM K (fun x xs H Q => ∃ a p, ∃ ys : List Str, x = .str a ∧ xs = [.ref p] ∧ (SqL K H p (ys.map V.str) ∨ SqT K H p (ys.map V.str)) ∧ (ys.map (·.length)).sum + ys.length * a.length ≤ 16777216 ∧ Q (.str (Txt.join a ys)) H) bJoin := by
  intro F H m r v d vs ds Q Qc hn hr hrs h k
  obtain ⟨x, y, xs, ys, rfl, rfl, hx, rfl, hl, q⟩ := h
  cases hr
  obtain ⟨u, rfl, ru⟩ := repL1 hrs
  obtain ⟨p, us, rfl, e2, r2⟩ := asS_ok hn ru hx
  have e3 := repl_strs r2
  subst e3
  exact ⟨x, p, ys, rfl, rfl, e2, hl, k F H m _ _ (Same.refl F) hn (.str _) q⟩
/-- text.split(sep) -/
def bSplit (mt : Bool) : BM := fun d ds m Q => ∃ x y, d = .str x ∧ ds = [.str y] ∧ (y.length == 0) = false ∧ x.length + 2 ≤ sizeLine ∧ newL mt ((Txt.split x y).map D.str) m Q
theorem repl_strs2 {K : PySem.W.Frag} {F : Hp} : ∀ (ys : List Str), RepL K F (ys.map V.str) (ys.map D.str)
  | [] => .nil
  | _ :: ys => .cons (.str _) (repl_strs2 ys)
theorem s_split {K : PySem.W.Frag} (mt : Bool) : SM K (fun x xs H Q => ∃ a b, x = .str a ∧ xs = [.str b] ∧ (b.length == 0) = false ∧ a.length + 2 ≤ sizeLine ∧ rNewStrs (Txt.split a b) H Q) (bSplit mt) := by
  intro F H m r v d vs ds Q Qc hn hr hrs h k
  obtain ⟨x, y, rfl, rfl, h0, h1, q⟩ := h
  cases hr
  obtain ⟨u, rfl, ru⟩ := repL1 hrs
  cases ru
  exact ⟨x, y, rfl, rfl, h0, h1, fun p hp => newL_ok hn (repl_strs2 _) q k p hp⟩
end
/-! ### a cell frozen where it is told; a new dict -/
def fzM (x : Option MO) (a : Addr) (m : Mu) (Q : QD) : Prop := match x with
  | some (.lst xs) => Q (.lst xs) (mdel m a)
  | some (.dic false kvs) => Q (.dic kvs) (mdel m a)
  | some (.ins C fs) => Q (.obj C fs) (mdel m a)
  | _ => False
def aFz (t : AE) : AE := fun e m Q X => t e m (fun d m1 => ∃ a, d = .cell a ∧ fzM (m1 a) a m1 Q) X
section
variable {X : Cx} {a : Expr} {pos : Pos} {ta : AE}
theorem q_fz (h : QE X a ta) : QE X a (aFz ta) := fun W tk => (h W tk).imp fun s H Qc h => by
  obtain ⟨F, e, m, r, Q, X, he, hn, h, g, gx⟩ := h
  refine ⟨F, e, m, r, _, X, he, hn, h, fun F1 H1 m1 v d s1 n1 r1 q1 => ?_, gx⟩
  obtain ⟨p, rfl, q⟩ := q1
  cases r1
  unfold fzM at q
  split at q
  · rename_i xs ep
    obtain ⟨F2, k2, n2, r2⟩ := n1.frzL ep
    exact g F2 H1 _ _ _ (s1.trans k2) n2 r2 q
  · rename_i xs ep
    obtain ⟨F2, k2, n2, r2⟩ := n1.frzD ep
    exact g F2 H1 _ _ _ (s1.trans k2) n2 r2 q
  · rename_i xs ep
    obtain ⟨F2, k2, n2, r2⟩ := n1.frzI ep
    exact g F2 H1 _ _ _ (s1.trans k2) n2 r2 q
  · exact q.elim
def aDict0 : AE := fun _ m Q _ => ∀ p, m p = none → Q (.cell p) (mset m p (.dic false []))
theorem q_dict0 : QE X (.Dict [] [] pos) aDict0 := fun W tk => pe_dnewK.imp fun s H Qc h => by
  obtain ⟨F, e, m, r, Q, X, he, hn, h, g, gx⟩ := h
  exact fun p hp => g F _ _ _ _ (Same.refl F) (hn.newM (x := .dic false []) hp ⟨[], upd_same, .nil⟩) (.cell p) (h p (hn.m_none hp))
theorem q_gI {x : Str} {i : Int} (h : ∃ t, X.mg x = some (.int i t)) (hg : Gl X x := by rfl) (hd : (x == ("__debug__" : Str)) = false := by decide) : QE X (.Name x pos) (aC (.int i)) := by
  obtain ⟨t, h⟩ := h
  exact q_glob h (v := .int i) ⟨t, rfl⟩ (fun _ => .int i) hg hd
theorem q_gS {x z : Str} (h : ∃ t, X.mg x = some (.str z t)) (hg : Gl X x := by rfl) (hd : (x == ("__debug__" : Str)) = false := by decide) : QE X (.Name x pos) (aC (.str z)) := by
  obtain ⟨t, h⟩ := h
  exact q_glob h (v := .str z) ⟨t, rfl⟩ (fun _ => .str z) hg hd
end
/-! ### a def keeps its promise -/
section
variable {P : Program} {w : World} {K : PySem.W.Frag} {mg : Str → Option Value} {base : Heap}
def endsOf (Q : QD) (XX : XA) : AEnds := ⟨fun _ m => Q .non m, Q, fun _ _ => False, fun _ _ => False, fun x _ m => XX x m⟩
def slots (N : List Str) (ds : List D) : De := ds.map some ++ List.replicate (N.length - ds.length) none
theorem mkFn {x qual : Str} {params : Arguments} {body : List Stmt} {scope : Scope} {dvs : List V} {f : Addr} {fd : FuncData} {N ps : List Str} {k : Nat} {sp : ASp} {t : AS} (F : FunD K x qual params body scope dvs [] f fd) (S : FnScope N ps scope)
    (len : ∀ ds m Q XX, sp ds m Q XX → ds.length = ps.length)
    (hq : ∀ (cdv : Value) (A : Around) (outer : List Env) (s : Shared) (H : Hp) (E : XK), Room k (A.deeper (envOfC qual scope s.heap.objs.size f cdv)) → QSs (cxOf (L2.CX P w) P w K mg base N qual scope f cdv A outer s H E) body t)
    (hp : ∀ ds m Q XX, sp ds m Q XX → t (endsOf Q XX) (slots N ds) m) : FnOk P w K mg base (L2.CX P w) (k + 1) f fd ps (spOf K sp) := by
  refine F.ok S (fun vs H Q E h => ?_) (fun cdv A outer s H vs Q E hr h => ?_)
  · obtain ⟨F, m, r, ds, AQ, AX, hn, hr, h, _⟩ := h
    rw [hr.length]; exact len ds m AQ AX h
  · obtain ⟨F, m, r, ds, AQ, AX, hn, hrep, h, g, gx⟩ := h
    have q := hq cdv A outer s H E hr (fun cls d _ H => E cls d H) (takes_of rfl rfl rfl rfl) (passes_of rfl)
    refine ⟨_, q, F, slots N ds, m, r, endsOf AQ AX, EnvOk.start hrep, hn, hp ds m AQ AX h, ?_⟩
    exact ⟨fun F' H' m' s e k he n q => g F' H' m' _ _ k n .non q, fun F' H' m' v d k n r q => g F' H' m' v d k n r q, fun _ _ _ _ _ _ _ _ q => q.elim, fun _ _ _ _ _ _ _ _ q => q.elim, fun F' H' m' s e cls dd x k he n rx q => gx F' H' m' cls dd x k n rx q⟩
/-- the law's own end -/
theorem lawEnd {sp : ASp} (h : ∀ ns : List Int, ns.length ≤ 63 → sp [.scr ns] (fun _ => none) (fun d _ => d = .bl true) (fun _ _ => False)) (H : Hp) (a : Addr) (ns : List Int) (hl : ns.length ≤ 63) (hO : Only H) (hS : SqL K H a (ns.map V.int)) :
    spOf K sp [.ref a] H (fun v _ => v = .bl true) (fun _ _ _ => False) := by
  refine ⟨H, fun _ => none, fun _ => none, [.scr ns], _, _, ⟨fun b u e => .inl e, (fun _ _ e => nomatch e), (fun _ _ e => nomatch e)⟩, .cons (.scr hS) .nil, h ns hl, fun F' H' m' v d k n r q => ?_, fun _ _ _ _ _ _ _ _ _ q => q.elim⟩
  subst q; cases r; rfl
theorem cx_none : ∀ (H : Hp) (s : Shared) (e : Value) (s' : Shared), L2.CX P w [] H s (fun _ _ _ => False) e s' → False := fun _ _ _ _ h => by
  obtain ⟨_, _, _, _, _, _, _, _, _, _, _, _, z⟩ := h
  exact z
end
end Ab
namespace Ab
open PySem PySem.Spec PyProof.Rows L2
/-! ### stepping: an expression that only tells a value -/
def Ev (t : AE) (e : De) (m : Mu) (d : D) : Prop := ∀ Q X, Q d m → t e m Q X
def EvT (t : AT) (e : De) (m : Mu) (b : Bool) : Prop := ∀ Q X, Q b m → t e m Q X
def EvA (t : AA) (e : De) (m : Mu) (ds : List D) : Prop := ∀ Q X, Q ds m → t e m Q X
def EvO (t : AO) (e : De) (m : Mu) (o : Option Int) : Prop := ∀ Q X, Q o m → t e m Q X
section
variable {e : De} {m : Mu} {ta tb tc : AE} {d : D}
theorem ev_var {i : Nat} (h : e[i]? = some (some d)) : Ev (aVar i) e m d := fun _ _ q => ⟨d, h, q⟩
theorem ev_c : Ev (aC d) e m d := fun _ _ q => q
theorem ev_add {mt : Bool} {i j : Int} (ha : Ev ta e m (.int i)) (hb : Ev tb e m (.int j)) : Ev (aOp (bAdd mt) ta tb) e m (.int (i + j)) := fun _ _ q => ha _ _ (hb _ _ q)
theorem ev_addS {mt : Bool} {x y : Str} (ha : Ev ta e m (.str x)) (hb : Ev tb e m (.str y)) (hl : x.length + y.length ≤ sizeLine) : Ev (aOp (bAdd mt) ta tb) e m (.str (x ++ y)) := fun _ _ q => ha _ _ (hb _ _ ⟨hl, q⟩)
theorem ev_addL {d2 : D} {xs ys : List D} (ha : Ev ta e m d) (hb : Ev tb e m d2) (h1 : asX m d = some xs) (h2 : asX m d2 = some ys) (hl : xs.length + ys.length ≤ sizeLine) : Ev (aOp (bAdd false) ta tb) e m (.lst (xs ++ ys)) := fun Q _ q => ha _ _ (hb _ _ (by
  have k : ∃ xs ys, asX m d = some xs ∧ asX m d2 = some ys ∧ xs.length + ys.length ≤ sizeLine ∧ newL false (xs ++ ys) m Q := ⟨xs, ys, h1, h2, hl, q⟩
  unfold bAdd
  cases d <;> cases d2 <;> first | exact k | cases h1 | cases h2))
theorem ev_sub {i j : Int} (ha : Ev ta e m (.int i)) (hb : Ev tb e m (.int j)) : Ev (aOp bSub ta tb) e m (.int (i - j)) := fun _ _ q => ha _ _ (hb _ _ q)
theorem ev_mul {i j : Int} (ha : Ev ta e m (.int i)) (hb : Ev tb e m (.int j)) (h : MulOk i j) : Ev (aOp bMul ta tb) e m (.int (i * j)) := fun _ _ q => ha _ _ (hb _ _ ⟨h, q⟩)
theorem ev_div {i j : Int} (ha : Ev ta e m (.int i)) (hb : Ev tb e m (.int j)) (h : CDivW i j) : Ev (aOp bDiv ta tb) e m (.int (i / j)) := fun _ _ q => ha _ _ (hb _ _ ⟨h, q⟩)
theorem ev_mod {i j : Int} (ha : Ev ta e m (.int i)) (hb : Ev tb e m (.int j)) (h : 0 < j) : Ev (aOp bMod ta tb) e m (.int (i % j)) := fun _ _ q => ha _ _ (hb _ _ ⟨h, q⟩)
theorem ev_pow {i j : Int} (ha : Ev ta e m (.int i)) (hb : Ev tb e m (.int j)) (h : CPow i j) : Ev (aOp bPow ta tb) e m (.int (i ^ j.toNat)) := fun _ _ q => ha _ _ (hb _ _ ⟨h, q⟩)
theorem ev_shr {i j : Int} (ha : Ev ta e m (.int i)) (hb : Ev tb e m (.int j)) (h : 0 ≤ j) : Ev (aOp bShr ta tb) e m (.int (i / 2 ^ j.toNat)) := fun _ _ q => ha _ _ (hb _ _ ⟨h, q⟩)
theorem ev_and {i j : Int} {k : Nat} (ha : Ev ta e m (.int i)) (hb : Ev tb e m (.int j)) (h : j = 2 ^ k - 1) : Ev (aOp bAnd ta tb) e m (.int (i % 2 ^ k)) := fun _ _ q => ha _ _ (hb _ _ ⟨i, k, rfl, by rw [h], q⟩)
theorem ev_neg {i : Int} (ha : Ev ta e m (.int i)) : Ev (aOp1 bNeg ta) e m (.int (-i)) := fun _ _ q => ha _ _ q
theorem ev_lt {i j : Int} (ha : Ev ta e m (.int i)) (hb : Ev tb e m (.int j)) : Ev (aOp bLt ta tb) e m (.bl (decide (i < j))) := fun _ _ q => ha _ _ (hb _ _ q)
theorem ev_le {i j : Int} (ha : Ev ta e m (.int i)) (hb : Ev tb e m (.int j)) : Ev (aOp bLe ta tb) e m (.bl (decide (i ≤ j))) := fun _ _ q => ha _ _ (hb _ _ q)
theorem ev_gt {i j : Int} (ha : Ev ta e m (.int i)) (hb : Ev tb e m (.int j)) : Ev (aOp bGt ta tb) e m (.bl (decide (j < i))) := fun _ _ q => ha _ _ (hb _ _ q)
theorem ev_ge {i j : Int} (ha : Ev ta e m (.int i)) (hb : Ev tb e m (.int j)) : Ev (aOp bGe ta tb) e m (.bl (decide (j ≤ i))) := fun _ _ q => ha _ _ (hb _ _ q)
theorem ev_leS {x y : Str} (ha : Ev ta e m (.str x)) (hb : Ev tb e m (.str y)) : Ev (aOp bLe ta tb) e m (.bl (!decide (y.cps.toList < x.cps.toList))) := fun _ _ q => ha _ _ (hb _ _ q)
theorem ev_eq {i j : Int} (ha : Ev ta e m (.int i)) (hb : Ev tb e m (.int j)) : Ev (aOp bEq ta tb) e m (.bl (decide (i = j))) := fun _ _ q => ha _ _ (hb _ _ q)
theorem ev_ne {i j : Int} (ha : Ev ta e m (.int i)) (hb : Ev tb e m (.int j)) : Ev (aOp bNe ta tb) e m (.bl (!decide (i = j))) := fun _ _ q => ha _ _ (hb _ _ q)
theorem ev_eqS {i j : Str} (ha : Ev ta e m (.str i)) (hb : Ev tb e m (.str j)) : Ev (aOp bEq ta tb) e m (.bl (decide (i = j))) := fun _ _ q => ha _ _ (hb _ _ q)
theorem ev_neS {i j : Str} (ha : Ev ta e m (.str i)) (hb : Ev tb e m (.str j)) : Ev (aOp bNe ta tb) e m (.bl (!decide (i = j))) := fun _ _ q => ha _ _ (hb _ _ q)
theorem ev_eqB {i j : Bool} (ha : Ev ta e m (.bl i)) (hb : Ev tb e m (.bl j)) : Ev (aOp bEq ta tb) e m (.bl (decide (i = j))) := fun _ _ q => ha _ _ (hb _ _ q)
theorem ev_neB {i j : Bool} (ha : Ev ta e m (.bl i)) (hb : Ev tb e m (.bl j)) : Ev (aOp bNe ta tb) e m (.bl (!decide (i = j))) := fun _ _ q => ha _ _ (hb _ _ q)
theorem ev_is (ha : Ev ta e m d) : Ev (aOp bIs ta (aC .non)) e m (.bl (isN d)) := fun _ _ q => ha _ _ ⟨rfl, q⟩
theorem ev_isn (ha : Ev ta e m d) : Ev (aOp bIsn ta (aC .non)) e m (.bl (!isN d)) := fun _ _ q => ha _ _ ⟨rfl, q⟩
theorem eqD_int (i j : Int) : eqD (.int i) (.int j) = decide (i = j) := by unfold eqD py PyData.eqv; exact Bool.beq_eq_decide_eq i j
theorem eqD_str (i j : Str) : eqD (.str i) (.str j) = decide (i = j) := by unfold eqD py PyData.eqv; exact Bool.beq_eq_decide_eq i j
theorem eqD_bl (i j : Bool) : eqD (.bl i) (.bl j) = decide (i = j) := by unfold eqD py PyData.eqv; exact Bool.beq_eq_decide_eq i j
theorem bEq_gen {d2 : D} {Q : QD} (h1 : DOk (vw m d)) (h2 : DOk (vw m d2)) (q : Q (.bl (eqD (vw m d) (vw m d2))) m) : bEq d d2 m Q := by
  unfold bEq
  split
  · rename_i i j; have q : Q (.bl (eqD (.int i) (.int j))) m := q; rw [eqD_int] at q; exact q
  · rename_i i j; have q : Q (.bl (eqD (.str i) (.str j))) m := q; rw [eqD_str] at q; exact q
  · rename_i i j; have q : Q (.bl (eqD (.bl i) (.bl j))) m := q; rw [eqD_bl] at q; exact q
  · exact ⟨h1, h2, q⟩
theorem bNe_gen {d2 : D} {Q : QD} (h1 : DOk (vw m d)) (h2 : DOk (vw m d2)) (q : Q (.bl (!eqD (vw m d) (vw m d2))) m) : bNe d d2 m Q := by
  unfold bNe
  split
  · rename_i i j; have q : Q (.bl (!eqD (.int i) (.int j))) m := q; rw [eqD_int] at q; exact q
  · rename_i i j; have q : Q (.bl (!eqD (.str i) (.str j))) m := q; rw [eqD_str] at q; exact q
  · rename_i i j; have q : Q (.bl (!eqD (.bl i) (.bl j))) m := q; rw [eqD_bl] at q; exact q
  · exact ⟨h1, h2, q⟩
theorem ev_eqD {d2 : D} (ha : Ev ta e m d) (hb : Ev tb e m d2) (h1 : DOk (vw m d)) (h2 : DOk (vw m d2)) : Ev (aOp bEq ta tb) e m (.bl (eqD (vw m d) (vw m d2))) := fun _ _ q => ha _ _ (hb _ _ (bEq_gen h1 h2 q))
theorem ev_neD {d2 : D} (ha : Ev ta e m d) (hb : Ev tb e m d2) (h1 : DOk (vw m d)) (h2 : DOk (vw m d2)) : Ev (aOp bNe ta tb) e m (.bl (!eqD (vw m d) (vw m d2))) := fun _ _ q => ha _ _ (hb _ _ (bNe_gen h1 h2 q))
/-- a, b, c.. chains -/
theorem ev_chain {b1 b2 : B2} {x y z : D} {k l : Bool} (ha : Ev ta e m x) (hb : Ev tb e m y) (h1 : ∀ Q : QD, Q (.bl k) m → b1 x y m Q) (hc : k = true → Ev tc e m z) (h2 : k = true → ∀ Q : QD, Q (.bl l) m → b2 y z m Q) : Ev (aChain b1 b2 ta tb tc) e m (.bl (k && l)) := fun Q X q =>
  ha _ _ (hb _ _ (h1 _ ⟨k, rfl, by
    cases k with
    | true => exact hc rfl _ _ (h2 rfl _ (by simpa using q))
    | false => exact (by simpa using q)⟩))
/-- places of a list of a known length -/
theorem ixN_nat {n i : Nat} (h : i < n) : ixN n (i : Int) = some i := by
  unfold ixN
  rw [if_pos (Int.natCast_nonneg i), if_pos (by omega)]; rfl
theorem atI_natA {α : Type} {xs : List α} {i : Nat} {x : α} (h : xs[i]? = some x) : atI xs (i : Int) = some x := by
  unfold atI
  have hl : i < xs.length := (List.getElem?_eq_some_iff.mp h).1
  rw [ixN_nat hl]; exact h
theorem atI_int {α : Type} {xs : List α} {i : Int} {x : α} (h0 : 0 ≤ i) (h : xs[i.toNat]? = some x) : atI xs i = some x := by
  have e : ((i.toNat : Nat) : Int) = i := Int.toNat_of_nonneg h0
  rw [← e]; exact atI_natA h
theorem ev_ix {xs : List D} {i : Int} {x : D} (ha : Ev ta e m d) (hb : Ev tb e m (.int i)) (hk : asK m d = none) (hs : ∀ z, d ≠ .str z) (h : asS m d = some xs) (hx : atI xs i = some x) : Ev (aOp bIx ta tb) e m x := fun Q X q => ha _ _ (hb _ _ (by
  unfold bIx
  rw [hk]
  cases d <;> first | exact ⟨xs, i, x, h, rfl, hx, q⟩ | exact absurd rfl (hs _)))
theorem ev_ixL {xs : List D} {i : Int} {x : D} (ha : Ev ta e m (.lst xs)) (hb : Ev tb e m (.int i)) (hx : atI xs i = some x) : Ev (aOp bIx ta tb) e m x := ev_ix ha hb rfl (fun _ z => nomatch z) rfl hx
theorem ev_ixT {xs : List D} {i : Int} {x : D} (ha : Ev ta e m (.tup xs)) (hb : Ev tb e m (.int i)) (hx : atI xs i = some x) : Ev (aOp bIx ta tb) e m x := ev_ix ha hb rfl (fun _ z => nomatch z) rfl hx
theorem ev_ixScr {xs : List Int} {i : Int} {x : D} (ha : Ev ta e m (.scr xs)) (hb : Ev tb e m (.int i)) (hx : atI (xs.map D.int) i = some x) : Ev (aOp bIx ta tb) e m x := ev_ix ha hb rfl (fun _ z => nomatch z) rfl hx
theorem ev_ixC {a : Addr} {xs : List D} {i : Int} {x : D} (ha : Ev ta e m (.cell a)) (hb : Ev tb e m (.int i)) (hm : m a = some (.lst xs)) (hx : atI xs i = some x) : Ev (aOp bIx ta tb) e m x :=
  ev_ix ha hb (by show oK (m a) = none; rw [hm]; rfl) (fun _ z => nomatch z) (by show oL (m a) = some xs; rw [hm]; rfl) hx
theorem ev_ixS {z : Str} {i : Int} {c : Nat} (ha : Ev ta e m (.str z)) (hb : Ev tb e m (.int i)) (hl : z.length ≤ sizeLine) (hx : atI z.cps.toList i = some c) : Ev (aOp bIx ta tb) e m (.str ⟨#[c]⟩) := fun Q X q => ha _ _ (hb _ _ ⟨i, c, rfl, hl, hx, q⟩)
theorem ev_ixK {kvs : List (Key × D)} {d2 x : D} {k : Key} (ha : Ev ta e m d) (hb : Ev tb e m d2) (hk : asK m d = some kvs) (h2 : keyD d2 = some k) (hx : lkp kvs k = some x) : Ev (aOp bIx ta tb) e m x := fun Q X q => ha _ _ (hb _ _ (by
  unfold bIx
  rw [hk]; exact ⟨k, x, h2, hx, q⟩))
theorem ev_inK {neg : Bool} {kvs : List (Key × D)} {d2 : D} {k : Key} (ha : Ev ta e m d) (hb : Ev tb e m d2) (hk : asK m d2 = some kvs) (h2 : keyD d = some k) : Ev (aOp (bIn neg) ta tb) e m (.bl (if neg then !(lkp kvs k).isSome else (lkp kvs k).isSome)) := fun Q X q => ha _ _ (hb _ _ (by
  unfold bIn
  rw [hk]; exact ⟨k, h2, q⟩))
theorem ev_inS {neg : Bool} {c : Nat} {y : Str} (ha : Ev ta e m (.str ⟨#[c]⟩)) (hb : Ev tb e m (.str y)) : Ev (aOp (bIn neg) ta tb) e m (.bl (if neg then !decide (c ∈ y.cps.toList) else decide (c ∈ y.cps.toList))) := fun Q X q => ha _ _ (hb _ _ ⟨c, rfl, q⟩)
theorem ev_inL {neg : Bool} {xs : List D} {d2 : D} (ha : Ev ta e m d) (hb : Ev tb e m d2) (hk : asK m d2 = none) (hs : ∀ z, d2 ≠ .str z) (h : asS m d2 = some xs) (h1 : flatD d = true) (h2 : xs.all flatD = true) : Ev (aOp (bIn neg) ta tb) e m (.bl (if neg then !inD d xs else inD d xs)) := fun Q X q => ha _ _ (hb _ _ (by
  unfold bIn
  rw [hk]
  cases d2 <;> first | exact ⟨xs, h, h1, h2, q⟩ | exact absurd rfl (hs _)))
theorem ev_fld {K : PySem.W.Frag} {f : Str} {C : Addr} {fs : List (Str × D)} {v : D} (ha : Ev ta e m d) (h : asF m d = some (C, fs)) (ok : OkC K C f) (hv : fs.lookup f = some v) : Ev (aFld K f ta) e m v := fun Q X q => ha _ _ ⟨C, fs, v, h, ok, hv, q⟩
theorem ev_nil : EvA aNil e m [] := fun _ _ q => q
theorem ev_cons {tr : AA} {ds : List D} (ha : Ev ta e m d) (hr : EvA tr e m ds) : EvA (aCons ta tr) e m (d :: ds) := fun _ _ q => ha _ _ (hr _ _ q)
theorem ev_tup {tr : AA} {ds : List D} (h : EvA tr e m ds) (hl : ds.length ≤ sizeLine := by exact Nat.le_of_ble_eq_true rfl) : Ev (aTup tr) e m (.tup ds) := fun _ _ q => h _ _ ⟨hl, q⟩
theorem ev_lst {tr : AA} {ds : List D} (h : EvA tr e m ds) (hl : ds.length ≤ sizeLine := by exact Nat.le_of_ble_eq_true rfl) : Ev (aLst false tr) e m (.lst ds) := fun _ _ q => h _ _ ⟨hl, q⟩
theorem ev_cb {b : BA} {tr : AA} {ds : List D} (h : EvA tr e m ds) (hb : ∀ Q : QD, Q d m → b ds m Q) : Ev (aCB b tr) e m d := fun _ _ q => h _ _ (hb _ q)
theorem ev_lenS {z : Str} {tr : AA} (h : EvA tr e m [.str z]) (hl : z.length ≤ sizeLine) : Ev (aCB bLen tr) e m (.int z.length) := ev_cb h fun Q q => ⟨_, rfl, .inl ⟨z, rfl, hl, q⟩⟩
theorem ev_lenL {xs : List D} {tr : AA} (h : EvA tr e m [d]) (hx : asS m d = some xs) : Ev (aCB bLen tr) e m (.int xs.length) := ev_cb h fun Q q => ⟨_, rfl, .inr (.inl ⟨xs, hx, q⟩)⟩
theorem ev_lenC {a : Addr} {xs : List D} {tr : AA} (h : EvA tr e m [.cell a]) (hm : m a = some (.lst xs)) : Ev (aCB bLen tr) e m (.int xs.length) := ev_lenL h (by show oL (m a) = some xs; rw [hm]; rfl)
theorem ev_list {xs : List D} {tr : AA} (h : EvA tr e m [d]) (hx : asS m d = some xs) : Ev (aCB (bList false) tr) e m (.lst xs) := ev_cb h fun Q q => ⟨_, rfl, .inl ⟨xs, hx, q⟩⟩
theorem ev_tuple {xs : List D} {tr : AA} (h : EvA tr e m [d]) (hx : asS m d = some xs) : Ev (aCB bTuple tr) e m (.tup xs) := ev_cb h fun Q q => ⟨_, xs, rfl, hx, q⟩
theorem ev_strI {i : Int} {tr : AA} (h : EvA tr e m [.int i]) (hl : i.natAbs.log2 < 1920) : Ev (aCB bStr tr) e m (.str (toString i)) := ev_cb h fun Q q => .inl ⟨i, rfl, hl, q⟩
theorem ev_max2 {i j : Int} {tr : AA} (h : EvA tr e m [.int i, .int j]) : Ev (aCB bMax2 tr) e m (.int (max i j)) := ev_cb h fun Q q => ⟨i, j, rfl, q⟩
theorem ev_min2 {i j : Int} {tr : AA} (h : EvA tr e m [.int i, .int j]) : Ev (aCB bMin2 tr) e m (.int (min i j)) := ev_cb h fun Q q => ⟨i, j, rfl, q⟩
theorem ev_isi {K : PySem.W.Frag} {n : String} {b : Bool} (ha : Ev ta e m d) (h : isTy K m n d b) : Ev (aIsi K n ta) e m (.bl b) := fun Q X q => ha _ _ ⟨b, h, q⟩
theorem ev_call {sp : ASp} {dvs : List D} {tr : AA} {ds : List D} (h : EvA tr e m ds) (hs : ∀ Q X, Q d m → sp (ds ++ dvs) m Q X) : Ev (aCall sp dvs tr) e m d := fun _ _ q => h _ _ (hs _ _ q)
theorem ev_noP : EvO aNoP e m none := fun _ _ q => q
theorem ev_P {i : Int} (ha : Ev ta e m (.int i)) : EvO (aP ta) e m (some i) := fun _ _ q => ha _ _ ⟨i, rfl, q⟩
theorem ev_slS {mt : Bool} {lo hi : AO} {l h : Option Int} {x : Str} (ha : Ev ta e m (.str x)) (hl : EvO lo e m l) (hh : EvO hi e m h) (hz : x.length ≤ sizeLine) : Ev (aSl mt ta lo hi) e m (.str (cutS x l h)) := fun _ _ q => ha _ _ (hl _ _ (hh _ _ ⟨hz, q⟩))
theorem ev_slL {lo hi : AO} {l h : Option Int} {xs : List D} (ha : Ev ta e m d) (hl : EvO lo e m l) (hh : EvO hi e m h) (hx : asLL m d = some xs) : Ev (aSl false ta lo hi) e m (.lst (cut xs l h)) := fun Q X q => ha _ _ (hl _ _ (hh _ _ (by
  unfold bSl
  cases d <;> first | exact ⟨xs, hx, q⟩ | cases hx)))
/-! tests -/
theorem et_B {b : Bool} (h : Ev ta e m (.bl b)) : EvT (aB ta) e m b := fun _ _ q => h _ _ ⟨b, rfl, q⟩
theorem et_not {t : AT} {b : Bool} (h : EvT t e m b) : EvT (aNot t) e m (!b) := fun _ _ q => h _ _ q
theorem et_and {t u : AT} {b c : Bool} (h : EvT t e m b) (h2 : b = true → EvT u e m c) : EvT (aAnd t u) e m (b && c) := fun Q X q => h _ _ (by
  cases b with
  | true => exact h2 rfl _ _ (by simpa using q)
  | false => exact (by simpa using q))
theorem et_or {t u : AT} {b c : Bool} (h : EvT t e m b) (h2 : b = false → EvT u e m c) : EvT (aOr t u) e m (b || c) := fun Q X q => h _ _ (by
  cases b with
  | false => exact h2 rfl _ _ (by simpa using q)
  | true => exact (by simpa using q))
theorem ev_andV {b c : Bool} (h : Ev ta e m (.bl b)) (h2 : b = true → Ev tb e m (.bl c)) : Ev (aAndV ta tb) e m (.bl (b && c)) := fun Q X q => h _ _ ⟨b, rfl, by
  cases b with
  | true => exact h2 rfl _ _ (by simpa using q)
  | false => exact (by simpa using q)⟩
theorem ev_orV {b c : Bool} (h : Ev ta e m (.bl b)) (h2 : b = false → Ev tb e m (.bl c)) : Ev (aOrV ta tb) e m (.bl (b || c)) := fun Q X q => h _ _ ⟨b, rfl, by
  cases b with
  | false => exact h2 rfl _ _ (by simpa using q)
  | true => exact (by simpa using q)⟩
theorem ev_notV {b : Bool} (h : Ev ta e m (.bl b)) : Ev (aNotV ta) e m (.bl (!b)) := fun Q X q => h _ _ ⟨b, rfl, q⟩
theorem Ev.to {d' : D} (h : Ev ta e m d) (q : d = d') : Ev ta e m d' := q ▸ h
theorem EvT.to {t : AT} {b b' : Bool} (h : EvT t e m b) (q : b = b') : EvT t e m b' := q ▸ h
/-! ### statements -/
variable {A : AEnds} {t u : AS} {N B C : De → Mu → Prop} {R : QD} {E : Ex → De → Mu → Prop}
theorem k_seq (h : t ⟨u ⟨N, R, B, C, E⟩, R, B, C, E⟩ e m) : aSeq t u ⟨N, R, B, C, E⟩ e m := h
theorem k_next (h : N e m) : aNext ⟨N, R, B, C, E⟩ e m := h
theorem k_set {i : Nat} (h : Ev ta e m d) (k : N (e.set i (some d)) m) : aSet i ta ⟨N, R, B, C, E⟩ e m := h _ _ k
theorem k_ret (h : Ev ta e m d) (k : R d m) : aRet ta ⟨N, R, B, C, E⟩ e m := h _ _ k
theorem k_drop (h : Ev ta e m d) (k : N e m) : aDrop ta ⟨N, R, B, C, E⟩ e m := h _ _ k
theorem k_if {c : AT} {b : Bool} (h : EvT c e m b) (h1 : b = true → t ⟨N, R, B, C, E⟩ e m) (h2 : b = false → u ⟨N, R, B, C, E⟩ e m) : aIfS c t u ⟨N, R, B, C, E⟩ e m := h _ _ (by
  cases b with
  | true => exact h1 rfl
  | false => exact h2 rfl)
theorem k_ifT {c : AT} {b : Bool} (h : EvT c e m b) (hb : b = true) (h1 : t ⟨N, R, B, C, E⟩ e m) : aIfS c t u ⟨N, R, B, C, E⟩ e m := k_if h (fun _ => h1) fun z => by rw [hb] at z; cases z
theorem k_ifF {c : AT} {b : Bool} (h : EvT c e m b) (hb : b = false) (h1 : u ⟨N, R, B, C, E⟩ e m) : aIfS c t u ⟨N, R, B, C, E⟩ e m := k_if h (fun z => by rw [hb] at z; cases z) fun _ => h1
theorem k_ifG {c : AT} {b : Bool} (P : De → Prop) (h : EvT c e m b) (goal : ∀ e', P e' → N e' m) (h1 : b = true → (∀ e', P e' → N e' m) → t ⟨N, R, B, C, E⟩ e m) (h2 : b = false → (∀ e', P e' → N e' m) → u ⟨N, R, B, C, E⟩ e m) : aIfS c t u ⟨N, R, B, C, E⟩ e m := k_if h (fun z => h1 z goal) (fun z => h2 z goal)
theorem k_asg {g : AG} {e2 : De} (h : Ev ta e m d) (hg : ∀ (A : AEnds) (m : Mu) (P : De → Mu → Prop), P e2 m → g d A e m P) (k : N e2 m) : aAsg ta g ⟨N, R, B, C, E⟩ e m := h _ _ (hg _ _ _ k)
theorem k_aug {i : Nat} {x y : Int} (hx : e[i]? = some (some (.int x))) (h : Ev ta e m (.int y)) (k : N (e.set i (some (.int (x + y)))) m) : aAug i (bI0 fun i j => .int (i + j)) ta ⟨N, R, B, C, E⟩ e m := ⟨_, hx, h _ _ k⟩
/-- search loops over data: nothing is stored but the target -/
theorem k_for {ai : AI} {ag : AG} {ab : AS} {src : List D} {G : Mu → Prop} (h : ∀ Q X, Q src G m → ai e m Q X) (I : Nat → De → Mu → Prop) (h0 : I 0 e m) (hG : ∀ i e' m', I i e' m' → G m')
    (hs : ∀ i d e' m', src[i]? = some d → I i e' m' → ag d ⟨N, R, B, C, E⟩ e' m' fun e2 m2 => ab ⟨I (i + 1), R, N, I (i + 1), E⟩ e2 m2) (hd : ∀ e' m', I src.length e' m' → N e' m') : aFor ai ag ab ⟨N, R, B, C, E⟩ e m := h _ _ ⟨I, h0, hG, hs, hd⟩
theorem k_while {c : AT} {ab : AS} (I : Nat → De → Mu → Prop) (n : Nat) (h0 : I n e m) (hs : ∀ n e' m', I n e' m' → ∃ b, EvT c e' m' b ∧ (b = true → ab ⟨fun e2 m2 => ∃ k, k < n ∧ I k e2 m2, R, N, fun e2 m2 => ∃ k, k < n ∧ I k e2 m2, E⟩ e' m') ∧ (b = false → N e' m')) : aWhile c ab ⟨N, R, B, C, E⟩ e m :=
  ⟨I, ⟨n, h0⟩, fun n e' m' hi => by
    obtain ⟨b, h1, h2, h3⟩ := hs n e' m' hi
    refine h1 _ _ ?_
    cases b with
    | true => rw [if_pos rfl]; exact h2 rfl
    | false => rw [if_neg (by decide)]; exact h3 rfl⟩
theorem k_break (h : B e m) : aBreak ⟨N, R, B, C, E⟩ e m := h
theorem k_cont (h : C e m) : aCont ⟨N, R, B, C, E⟩ e m := h
theorem ei_seq {xs : List D} (ha : Ev ta e m d) (hx : asI m d = some xs) : ∀ Q X, Q xs (fun m => asI m d = some xs) m → aiSeq ta e m Q X := fun Q X q => ha _ _ ⟨xs, hx, q⟩
theorem ei_rng1 {tr : AA} {n : Int} (h : EvA tr e m [.int n]) (h1 : -(2 ^ 62) ≤ n) (h2 : n < 2 ^ 62) : ∀ Q X, Q (rng 0 n.toNat) (fun _ => True) m → aiRng1 tr e m Q X := fun Q X q => h _ _ ⟨n, rfl, h1, h2, q⟩
theorem ei_enum {tr : AA} {xs : List D} (h : EvA tr e m [d]) (hx : asLL m d = some xs) : ∀ Q X, Q (nums 0 xs) (fun m => asLL m d = some xs) m → aiEnum tr e m Q X := fun Q X q => h _ _ ⟨d, xs, rfl, hx, q⟩
/-- a target bound -/
def Bnd (ag : AG) (d : D) (e e2 : De) : Prop := ∀ (A : AEnds) (m : Mu) (P : De → Mu → Prop), P e2 m → ag d A e m P
def Bnds (ag : AGs) (ds : List D) (e e2 : De) : Prop := ∀ (A : AEnds) (m : Mu) (P : De → Mu → Prop), P e2 m → ag ds A e m P
theorem bnd_name {i : Nat} : Bnd (agName i) d e (e.set i (some d)) := fun _ _ _ q => q
theorem bnds_nil : Bnds agNil [] e e := fun _ _ _ q => ⟨rfl, q⟩
theorem bnds_cons {g : AG} {gs : AGs} {ds : List D} {e1 e2 : De} (h : Bnd g d e e1) (h2 : Bnds gs ds e1 e2) : Bnds (agCons g gs) (d :: ds) e e2 := fun A m P q => ⟨d, ds, rfl, h A m _ (h2 A m P q)⟩
theorem bnd_tup {n : Nat} {gs : AGs} {ds : List D} {e2 : De} (h : Bnds gs ds e e2) (hl : ds.length = n := by rfl) : Bnd (agTup n gs) (.tup ds) e e2 := fun A m P q => ⟨ds, rfl, hl, h A m P q⟩
/-- a comprehension that maps what passes a test -/
theorem ev_lcF {ai : AI} {ag : AG} {at_ : AT} {ae : AE} {vs : List Nat} {src : List D} {G : Mu → Prop} (p : D → Bool) (f : D → D) (h : ∀ Q X, Q src G m → ai e m Q X) (hG : G m) (hl : src.length < sizeLine)
    (hs : ∀ d, d ∈ src → ∃ e2, Bnd ag d (wipeA e vs) e2 ∧ EvT at_ e2 m (p d) ∧ (p d = true → Ev ae e2 m (f d))) : Ev (aLc false ai ag at_ ae vs) e m (.lst ((src.filter p).map f)) := fun Q X q => h _ _
  ⟨fun i acc m' => m' = m ∧ acc = ((src.take i).filter p).map f ∧ i ≤ src.length, ⟨rfl, rfl, Nat.zero_le _⟩, fun i acc m' z => z.1 ▸ hG, fun i d acc m' hd ⟨e1, e2, e3⟩ => by
    subst e1 e2
    have hi : i < src.length := (List.getElem?_eq_some_iff.mp hd).1
    obtain ⟨e2, h1, h2, h3⟩ := hs d (List.mem_of_getElem? hd)
    have et : src.take (i + 1) = src.take i ++ [d] := by rw [List.take_add_one, hd]; rfl
    refine h1 _ _ _ (h2 _ _ ?_)
    cases hp : p d with
    | true =>
      refine h3 hp _ _ ⟨?_, rfl, ?_, hi⟩
      · rw [List.length_map]
        exact Nat.lt_of_le_of_lt (Nat.le_trans (List.length_filter_le _ _) (by rw [List.length_take]; omega)) hl
      · rw [et, List.filter_append, List.map_append, List.filter_cons, hp]; rfl
    | false =>
      refine ⟨rfl, ?_, hi⟩
      rw [et, List.filter_append, List.map_append, List.filter_cons, hp]
      simp, fun acc m' ⟨e1, e2, _⟩ => by
    subst e1 e2
    rw [List.take_length]; exact q⟩
theorem ev_lcM {ai : AI} {ag : AG} {ae : AE} {vs : List Nat} {src : List D} {G : Mu → Prop} (f : D → D) (h : ∀ Q X, Q src G m → ai e m Q X) (hG : G m) (hl : src.length < sizeLine)
    (hs : ∀ d, d ∈ src → ∃ e2, Bnd ag d (wipeA e vs) e2 ∧ Ev ae e2 m (f d)) : Ev (aLc false ai ag aYes ae vs) e m (.lst (src.map f)) := by
  have k := ev_lcF (at_ := aYes) (fun _ => true) f h hG hl fun d hd => let ⟨e2, h1, h2⟩ := hs d hd; ⟨e2, h1, fun _ _ q => q, fun _ => h2⟩
  rw [List.filter_eq_self.mpr (fun _ _ => rfl)] at k
  exact k
end
end Ab
namespace Ab
open PySem PySem.Spec PyProof.Rows L2
/-! ### one rule a form, one lemma a reading -/
def Op1 (b : B1) (x : D) (m : Mu) (d : D) : Prop := ∀ Q : QD, Q d m → b x m Q
def Op2 (b : B2) (x y : D) (m : Mu) (d : D) : Prop := ∀ Q : QD, Q d m → b x y m Q
def OpA (b : BA) (xs : List D) (m : Mu) (d : D) : Prop := ∀ Q : QD, Q d m → b xs m Q
def OpM (b : BM) (x : D) (xs : List D) (m : Mu) (d : D) : Prop := ∀ Q : QD, Q d m → b x xs m Q
section
variable {e : De} {m : Mu} {ta tb tc : AE} {tr : AA} {d x y : D} {xs : List D}
theorem ev_op1 {b : B1} (ha : Ev ta e m x) (h : Op1 b x m d) : Ev (aOp1 b ta) e m d := fun _ _ q => ha _ _ (h _ q)
theorem ev_op2 {b : B2} (ha : Ev ta e m x) (hb : Ev tb e m y) (h : Op2 b x y m d) : Ev (aOp b ta tb) e m d := fun _ _ q => ha _ _ (hb _ _ (h _ q))
theorem ev_opA {b : BA} (ha : EvA tr e m xs) (h : OpA b xs m d) : Ev (aCB b tr) e m d := fun _ _ q => ha _ _ (h _ q)
theorem ev_opM {n : String} {b : BM} (ha : Ev ta e m x) (hr : EvA tr e m xs) (h : OpM b x xs m d) (ht : tyD n m x) : Ev (aBM n b ta tr) e m d := fun _ _ q => ha _ _ ⟨ht, hr _ _ (h _ q)⟩
theorem ev_opM0 {n : String} {b : BM} (ha : Ev ta e m x) (h : OpM b x [] m d) (ht : tyD n m x) : Ev (aBM0 n b ta) e m d := fun _ _ q => ha _ _ ⟨ht, h _ q⟩
theorem ev_tupG {ds : List D} (h : EvA tr e m ds) (hl : ds.length ≤ sizeLine) : Ev (aTup tr) e m (.tup ds) := ev_tup h hl
theorem ev_lstG {ds : List D} (h : EvA tr e m ds) (hl : ds.length ≤ sizeLine) : Ev (aLst false tr) e m (.lst ds) := ev_lst h hl
/-! numbers -/
variable {i j : Int} {s t : Str} {k l : Bool}
theorem o_add {mt : Bool} : Op2 (bAdd mt) (.int i) (.int j) m (.int (i + j)) := fun _ q => q
theorem o_addS {mt : Bool} (h : s.length + t.length ≤ sizeLine) : Op2 (bAdd mt) (.str s) (.str t) m (.str (s ++ t)) := fun _ q => ⟨h, q⟩
theorem o_addLL {xs ys : List D} (h : xs.length + ys.length ≤ sizeLine) : Op2 (bAdd false) (.lst xs) (.lst ys) m (.lst (xs ++ ys)) := fun _ q => ⟨_, _, rfl, rfl, h, q⟩
theorem o_sub : Op2 bSub (.int i) (.int j) m (.int (i - j)) := fun _ q => q
theorem o_mulI (h : MulOk i j) : Op2 bMul (.int i) (.int j) m (.int (i * j)) := fun _ q => ⟨h, q⟩
theorem o_divI (h : CDivW i j) : Op2 bDiv (.int i) (.int j) m (.int (i / j)) := fun _ q => ⟨h, q⟩
theorem o_mod (h : 0 < j) : Op2 bMod (.int i) (.int j) m (.int (i % j)) := fun _ q => ⟨h, q⟩
theorem o_pow (h : CPow i j) : Op2 bPow (.int i) (.int j) m (.int (i ^ j.toNat)) := fun _ q => ⟨h, q⟩
theorem o_powL {n : Nat} (h : CPow i (OfNat.ofNat n)) : Op2 bPow (.int i) (.int (OfNat.ofNat n)) m (.int (i ^ (OfNat.ofNat n : Nat))) := fun _ q => ⟨h, q⟩
theorem o_shr (h : 0 ≤ j) : Op2 bShr (.int i) (.int j) m (.int (i / 2 ^ j.toNat)) := fun _ q => ⟨h, q⟩
theorem o_and {k : Nat} (h : j = 2 ^ k - 1) : Op2 bAnd (.int i) (.int j) m (.int (i % 2 ^ k)) := fun _ q => ⟨i, k, rfl, by rw [h], q⟩
theorem o_neg : Op1 bNeg (.int i) m (.int (-i)) := fun _ q => q
theorem o_lt : Op2 bLt (.int i) (.int j) m (.bl (decide (i < j))) := fun _ q => q
theorem o_le : Op2 bLe (.int i) (.int j) m (.bl (decide (i ≤ j))) := fun _ q => q
theorem o_gt : Op2 bGt (.int i) (.int j) m (.bl (decide (j < i))) := fun _ q => q
theorem o_ge : Op2 bGe (.int i) (.int j) m (.bl (decide (j ≤ i))) := fun _ q => q
theorem o_ltS : Op2 bLt (.str s) (.str t) m (.bl (decide (s.cps.toList < t.cps.toList))) := fun _ q => q
theorem o_leS : Op2 bLe (.str s) (.str t) m (.bl (!decide (t.cps.toList < s.cps.toList))) := fun _ q => q
theorem o_eq : Op2 bEq (.int i) (.int j) m (.bl (decide (i = j))) := fun _ q => q
theorem o_ne : Op2 bNe (.int i) (.int j) m (.bl (!decide (i = j))) := fun _ q => q
theorem o_eqS : Op2 bEq (.str s) (.str t) m (.bl (decide (s = t))) := fun _ q => q
theorem o_neS : Op2 bNe (.str s) (.str t) m (.bl (!decide (s = t))) := fun _ q => q
theorem o_eqB : Op2 bEq (.bl k) (.bl l) m (.bl (decide (k = l))) := fun _ q => q
theorem o_neB : Op2 bNe (.bl k) (.bl l) m (.bl (!decide (k = l))) := fun _ q => q
theorem o_eqD (h1 : DOk (vw m x)) (h2 : DOk (vw m y)) : Op2 bEq x y m (.bl (eqD (vw m x) (vw m y))) := fun _ q => bEq_gen h1 h2 q
theorem o_neD (h1 : DOk (vw m x)) (h2 : DOk (vw m y)) : Op2 bNe x y m (.bl (!eqD (vw m x) (vw m y))) := fun _ q => bNe_gen h1 h2 q
theorem o_is : Op2 bIs x .non m (.bl (isN x)) := fun _ q => ⟨rfl, q⟩
theorem o_isn : Op2 bIsn x .non m (.bl (!isN x)) := fun _ q => ⟨rfl, q⟩
theorem o_ix {xs : List D} (hk : asK m x = none) (hs : ∀ z, x ≠ .str z) (h : asS m x = some xs) (hx : atI xs i = some d) : Op2 bIx x (.int i) m d := fun Q q => by
  unfold bIx
  rw [hk]
  cases x <;> first | exact ⟨xs, i, d, h, rfl, hx, q⟩ | exact absurd rfl (hs _)
theorem o_ixL {xs : List D} (hx : atI xs i = some d) : Op2 bIx (.lst xs) (.int i) m d := o_ix rfl (fun _ z => nomatch z) rfl hx
theorem o_ixT {xs : List D} (hx : atI xs i = some d) : Op2 bIx (.tup xs) (.int i) m d := o_ix rfl (fun _ z => nomatch z) rfl hx
theorem o_ixScr {ns : List Int} (hx : atI (ns.map D.int) i = some d) : Op2 bIx (.scr ns) (.int i) m d := o_ix rfl (fun _ z => nomatch z) rfl hx
theorem o_ixC {a : Addr} {xs : List D} (hm : m a = some (.lst xs)) (hx : atI xs i = some d) : Op2 bIx (.cell a) (.int i) m d :=
  o_ix (by show oK (m a) = none; rw [hm]; rfl) (fun _ z => nomatch z) (by show oL (m a) = some xs; rw [hm]; rfl) hx
theorem o_ixS {c : Nat} (hl : s.length ≤ sizeLine) (hx : atI s.cps.toList i = some c) : Op2 bIx (.str s) (.int i) m (.str ⟨#[c]⟩) := fun Q q => ⟨i, c, rfl, hl, hx, q⟩
theorem o_ixK {kvs : List (Key × D)} {key : Key} (hk : asK m x = some kvs) (h2 : keyD y = some key) (hx : lkp kvs key = some d) : Op2 bIx x y m d := fun Q q => by
  unfold bIx
  rw [hk]; exact ⟨key, d, h2, hx, q⟩
theorem o_inK {neg : Bool} {kvs : List (Key × D)} {key : Key} (hk : asK m y = some kvs) (h2 : keyD x = some key) : Op2 (bIn neg) x y m (.bl (if neg then !(lkp kvs key).isSome else (lkp kvs key).isSome)) := fun Q q => by
  unfold bIn
  rw [hk]; exact ⟨key, h2, q⟩
theorem o_inS {neg : Bool} {c : Nat} : Op2 (bIn neg) (.str ⟨#[c]⟩) (.str t) m (.bl (if neg then !decide (c ∈ t.cps.toList) else decide (c ∈ t.cps.toList))) := fun Q q => ⟨c, rfl, q⟩
theorem o_inL {neg : Bool} {xs : List D} (hk : asK m y = none) (hs : ∀ z, y ≠ .str z) (h : asS m y = some xs) (h1 : flatD x = true) (h2 : xs.all flatD = true) : Op2 (bIn neg) x y m (.bl (if neg then !inD x xs else inD x xs)) := fun Q q => by
  unfold bIn
  rw [hk]
  cases y <;> first | exact ⟨xs, h, h1, h2, q⟩ | exact absurd rfl (hs _)
theorem o_inLL {neg : Bool} {xs : List D} (h1 : flatD x = true) (h2 : xs.all flatD = true) : Op2 (bIn neg) x (.lst xs) m (.bl (if neg then !inD x xs else inD x xs)) := o_inL rfl (fun _ z => nomatch z) rfl h1 h2
theorem o_inT {neg : Bool} {xs : List D} (h1 : flatD x = true) (h2 : xs.all flatD = true) : Op2 (bIn neg) x (.tup xs) m (.bl (if neg then !inD x xs else inD x xs)) := o_inL rfl (fun _ z => nomatch z) rfl h1 h2
/-! builtins -/
theorem o_lenS (h : s.length ≤ sizeLine) : OpA bLen [.str s] m (.int s.length) := fun _ q => ⟨_, rfl, .inl ⟨s, rfl, h, q⟩⟩
theorem o_lenL {xs : List D} : OpA bLen [.lst xs] m (.int xs.length) := fun _ q => ⟨_, rfl, .inr (.inl ⟨xs, rfl, q⟩)⟩
theorem o_lenT {xs : List D} : OpA bLen [.tup xs] m (.int xs.length) := fun _ q => ⟨_, rfl, .inr (.inl ⟨xs, rfl, q⟩)⟩
theorem o_lenScr {ns : List Int} : OpA bLen [.scr ns] m (.int ns.length) := fun Q q => ⟨_, rfl, .inr (.inl ⟨_, rfl, by rw [List.length_map]; exact q⟩)⟩
theorem o_lenC {a : Addr} {xs : List D} (hm : m a = some (.lst xs)) : OpA bLen [.cell a] m (.int xs.length) := fun _ q => ⟨_, rfl, .inr (.inl ⟨xs, by show oL (m a) = some xs; rw [hm]; rfl, q⟩)⟩
theorem o_listL {xs : List D} : OpA (bList false) [.lst xs] m (.lst xs) := fun _ q => ⟨_, rfl, .inl ⟨xs, rfl, q⟩⟩
theorem o_listT {xs : List D} : OpA (bList false) [.tup xs] m (.lst xs) := fun _ q => ⟨_, rfl, .inl ⟨xs, rfl, q⟩⟩
theorem o_listC {a : Addr} {xs : List D} (hm : m a = some (.lst xs)) : OpA (bList false) [.cell a] m (.lst xs) := fun _ q => ⟨_, rfl, .inl ⟨xs, by show oL (m a) = some xs; rw [hm]; rfl, q⟩⟩
theorem o_tupL {xs : List D} : OpA bTuple [.lst xs] m (.tup xs) := fun _ q => ⟨_, _, rfl, rfl, q⟩
theorem o_tupT {xs : List D} : OpA bTuple [.tup xs] m (.tup xs) := fun _ q => ⟨_, _, rfl, rfl, q⟩
theorem o_tupC {a : Addr} {xs : List D} (hm : m a = some (.lst xs)) : OpA bTuple [.cell a] m (.tup xs) := fun _ q => ⟨_, _, rfl, (by show oL (m a) = some xs; rw [hm]; rfl), q⟩
theorem o_strI (h : i.natAbs.log2 < 1920) : OpA bStr [.int i] m (.str (toString i)) := fun _ q => .inl ⟨i, rfl, h, q⟩
theorem o_strS : OpA bStr [.str s] m (.str s) := fun _ q => .inr ⟨s, rfl, q⟩
theorem o_intI : OpA bInt [.int i] m (.int i) := fun _ q => .inl ⟨i, rfl, q⟩
theorem o_intB : OpA bInt [.bl k] m (.int (if k then 1 else 0)) := fun _ q => .inr (.inl ⟨k, rfl, q⟩)
theorem o_intS {n : Int} (h : PySem.intText? s = some n) (hl : s.length ≤ 640) : OpA bInt [.str s] m (.int n) := fun _ q => .inr (.inr ⟨s, n, rfl, h, hl, q⟩)
theorem o_max2 : OpA bMax2 [.int i, .int j] m (.int (max i j)) := fun _ q => ⟨i, j, rfl, q⟩
theorem o_min2 : OpA bMin2 [.int i, .int j] m (.int (min i j)) := fun _ q => ⟨i, j, rfl, q⟩
theorem o_join {ys : List Str} (hx : xs = ys.map D.str) (hl : (ys.map (·.length)).sum + ys.length * s.length ≤ 16777216) : OpM bJoin (.str s) [.lst xs] m (.str (Txt.join s ys)) := fun _ q => ⟨s, _, xs, ys, rfl, rfl, rfl, hx, hl, q⟩
theorem o_split (h1 : (t.length == 0) = false) (h2 : s.length + 2 ≤ sizeLine) : OpM (bSplit false) (.str s) [.str t] m (.lst ((Txt.split s t).map D.str)) := fun _ q => ⟨s, t, rfl, rfl, h1, h2, q⟩
theorem ev_sl {mt : Bool} {lo hi : AO} {l h : Option Int} (ha : Ev ta e m x) (hl : EvO lo e m l) (hh : EvO hi e m h) (hb : ∀ Q : QD, Q d m → bSl mt x l h m Q) : Ev (aSl mt ta lo hi) e m d := fun _ _ q => ha _ _ (hl _ _ (hh _ _ (hb _ q)))
theorem o_slS {mt : Bool} {l h : Option Int} (hz : s.length ≤ sizeLine) : ∀ Q : QD, Q (.str (cutS s l h)) m → bSl mt (.str s) l h m Q := fun _ q => ⟨hz, q⟩
theorem o_slL {l h : Option Int} {xs : List D} : ∀ Q : QD, Q (.lst (cut xs l h)) m → bSl false (.lst xs) l h m Q := fun _ q => ⟨xs, rfl, q⟩
theorem o_slScr {l h : Option Int} {ns : List Int} : ∀ Q : QD, Q (.lst (cut (ns.map D.int) l h)) m → bSl false (.scr ns) l h m Q := fun _ q => ⟨_, rfl, q⟩
theorem ty_int {K : PySem.W.Frag} {i : Int} : isTy K m "int" (.int i) true := ⟨_, rfl, rfl⟩
theorem ty_intB {K : PySem.W.Frag} {i : Int} : isTy K m "bool" (.int i) false := ⟨_, rfl, rfl⟩
theorem ty_intS {K : PySem.W.Frag} {i : Int} : isTy K m "str" (.int i) false := ⟨_, rfl, rfl⟩
theorem ty_bb {K : PySem.W.Frag} {i : Bool} : isTy K m "bool" (.bl i) true := ⟨_, rfl, rfl⟩
theorem ty_bi {K : PySem.W.Frag} {i : Bool} : isTy K m "int" (.bl i) true := ⟨_, rfl, rfl⟩
theorem ty_bs {K : PySem.W.Frag} {i : Bool} : isTy K m "str" (.bl i) false := ⟨_, rfl, rfl⟩
theorem ty_str {K : PySem.W.Frag} {i : Str} : isTy K m "str" (.str i) true := ⟨_, rfl, rfl⟩
theorem ty_strI {K : PySem.W.Frag} {i : Str} : isTy K m "int" (.str i) false := ⟨_, rfl, rfl⟩
theorem ty_strB {K : PySem.W.Frag} {i : Str} : isTy K m "bool" (.str i) false := ⟨_, rfl, rfl⟩
theorem ty_lst {K : PySem.W.Frag} {i : List D} : isTy K m "list" (.lst i) true := ⟨_, rfl, rfl⟩
theorem ty_lstI {K : PySem.W.Frag} {i : List D} : isTy K m "int" (.lst i) false := ⟨_, rfl, rfl⟩
theorem ty_lstS {K : PySem.W.Frag} {i : List D} : isTy K m "str" (.lst i) false := ⟨_, rfl, rfl⟩
theorem ty_tup {K : PySem.W.Frag} {i : List D} : isTy K m "tuple" (.tup i) true := ⟨_, rfl, rfl⟩
theorem ty_tupI {K : PySem.W.Frag} {i : List D} : isTy K m "int" (.tup i) false := ⟨_, rfl, rfl⟩
theorem ty_tupS {K : PySem.W.Frag} {i : List D} : isTy K m "str" (.tup i) false := ⟨_, rfl, rfl⟩
theorem ty_nonI {K : PySem.W.Frag} : isTy K m "int" .non false := ⟨_, rfl, rfl⟩
theorem ty_nonS {K : PySem.W.Frag} : isTy K m "str" .non false := ⟨_, rfl, rfl⟩
theorem ty_cellL {K : PySem.W.Frag} {a : Addr} {xs : List D} (hm : m a = some (.lst xs)) : isTy K m "list" (.cell a) true := ⟨_, .inl ⟨xs, hm, rfl⟩, rfl⟩
theorem td_str : tyD "str" m (.str s) := .inr ⟨rfl, s, rfl⟩
theorem td_lst {xs : List D} : tyD "list" m (.lst xs) := .inl ⟨rfl, xs, rfl⟩
theorem td_cell {a : Addr} {xs : List D} (hm : m a = some (.lst xs)) : tyD "list" m (.cell a) := .inl ⟨rfl, xs, by show oL (m a) = some xs; rw [hm]; rfl⟩
variable {N B C : De → Mu → Prop} {R : QD} {E : Ex → De → Mu → Prop}
theorem k_setX {i : Nat} (h : ta e m (fun d m1 => N (e.set i (some d)) m1) (fun x m => E x e m)) : aSet i ta ⟨N, R, B, C, E⟩ e m := h
theorem k_retX (h : ta e m R (fun x m => E x e m)) : aRet ta ⟨N, R, B, C, E⟩ e m := h
theorem k_dropX (h : ta e m (fun _ m1 => N e m1) (fun x m => E x e m)) : aDrop ta ⟨N, R, B, C, E⟩ e m := h
theorem k_setC {i : Nat} {sp : ASp} {dvs ds : List D} (ha : EvA tr e m ds) (h : sp (ds ++ dvs) m (fun d m1 => N (e.set i (some d)) m1) (fun x m => E x e m)) : aSet i (aCall sp dvs tr) ⟨N, R, B, C, E⟩ e m := ha _ _ h
theorem k_retC {sp : ASp} {dvs ds : List D} (ha : EvA tr e m ds) (h : sp (ds ++ dvs) m R (fun x m => E x e m)) : aRet (aCall sp dvs tr) ⟨N, R, B, C, E⟩ e m := ha _ _ h
theorem k_dropC {sp : ASp} {dvs ds : List D} (ha : EvA tr e m ds) (h : sp (ds ++ dvs) m (fun _ m1 => N e m1) (fun x m => E x e m)) : aDrop (aCall sp dvs tr) ⟨N, R, B, C, E⟩ e m := ha _ _ h
theorem x_op2 {b : B2} {Q : QD} {X : XA} (h : ta e m (fun d m1 => tb e m1 (fun d2 m2 => b d d2 m2 Q) X) X) : aOp b ta tb e m Q X := h
theorem x_call {sp : ASp} {dvs ds : List D} {Q : QD} {X : XA} (ha : EvA tr e m ds) (h : sp (ds ++ dvs) m Q X) : aCall sp dvs tr e m Q X := ha _ _ h
theorem k_append {a : Addr} {xs : List D} (ha : Ev ta e m (.cell a)) (hr : EvA tr e m [d]) (hm : m a = some (.lst xs)) (hl : xs.length < sizeLine) (k : N e (mset m a (.lst (xs ++ [d])))) : aDrop (aBM "list" bAppend ta tr) ⟨N, R, B, C, E⟩ e m :=
  ha _ _ ⟨td_cell hm, hr _ _ ⟨a, xs, d, rfl, rfl, hm, hl, k⟩⟩
theorem k_setN {i : Nat} {xs : List D} (h : EvA tr e m xs) (k : ∀ p, m p = none → N (e.set i (some (.cell p))) (mset m p (.lst xs))) (hl : xs.length ≤ sizeLine := by exact Nat.le_of_ble_eq_true rfl) : aSet i (aLst true tr) ⟨N, R, B, C, E⟩ e m := h _ _ ⟨hl, fun p hp => k p hp⟩
theorem eqD_refl {d : D} (h : DOk d) : eqD d d = true := by
  obtain ⟨n, _, o⟩ := h
  exact PySem.SeqAt.eqv_refl _ o.shape.1
theorem rng_len (lo : Int) (n : Nat) : (rng lo n).length = n := by
  unfold rng; rw [List.length_map, List.length_range]
theorem rng_mem {lo : Int} {n : Nat} {d : D} (h : d ∈ rng lo n) : ∃ i : Nat, i < n ∧ d = .int (lo + i) := by
  unfold rng at h
  obtain ⟨i, hi, rfl⟩ := List.mem_map.mp h
  exact ⟨i, List.mem_range.mp hi, rfl⟩
theorem rng_get {lo : Int} {n i : Nat} {d : D} (h : (rng lo n)[i]? = some d) : i < n ∧ d = .int (lo + i) := by
  unfold rng at h
  rw [List.getElem?_map] at h
  cases hq : (List.range n)[i]? with
  | none => rw [hq] at h; cases h
  | some j =>
    rw [hq] at h
    obtain ⟨hl, e⟩ := List.getElem?_eq_some_iff.mp hq
    rw [List.getElem_range] at e
    rw [List.length_range] at hl
    subst e
    cases h; exact ⟨hl, rfl⟩
theorem joinL_one : ∀ l : List Nat, TL.joinL [] (l.map fun c => [c]) = l
  | [] => rfl
  | [c] => rfl
  | c :: d :: r => by
    show [c] ++ ([] ++ TL.joinL [] ((d :: r).map fun c => [c])) = _
    rw [joinL_one (d :: r)]; rfl
theorem join_signs (l : List Nat) : Txt.join "" (l.map fun c => (⟨#[c]⟩ : Str)) = ⟨l.toArray⟩ := TL.ext_tl (by
  rw [TL.join_eq, TL.tl_join]
  show TL.joinL [] ((l.map fun c => (⟨#[c]⟩ : Str)).map TL.tl) = l
  rw [List.map_map]
  exact joinL_one l)
theorem signs_sum : ∀ l : List Nat, ((l.map fun c => (⟨#[c]⟩ : Str)).map (·.length)).sum = l.length
  | [] => rfl
  | c :: r => by
    rw [List.map_cons, List.map_cons, List.sum_cons, signs_sum r, List.length_cons]
    show 1 + r.length = _
    omega
theorem cut_to {xs : List D} {k : Int} (h : 0 ≤ k) : cut xs none (some k) = xs.take k.toNat := by
  unfold cut HT.sIx
  simp only [List.drop_zero, Nat.sub_zero]
  rw [if_neg (by omega), List.take_eq_take_iff]; omega
end
/-! ### the end: the ends of a call without the world -/
def CXe (P : Program) : CXT := fun o H s E e s' => ∃ w, L2.CX P w o H s E e s'
theorem FnOk.toE {P : Program} {w : World} {K : PySem.W.Frag} {mg : Str → Option Value} {base : Heap} {k : Nat} {f : Addr} {fd : FuncData} {ps : List Str} {sp : Sp} (F : FnOk P w K mg base (L2.CX P w) k f fd ps sp) : FnOk P w K mg base (CXe P) k f fd ps sp :=
  ⟨F.len, fun A outer s H args us vs Q E hr he hb hv hs => codeAny_mono (F.run A outer s H args us vs Q E hr he hb hv hs) fun r s' h => by
    cases r with
    | error e => exact ⟨w, h⟩
    | ok fl =>
      cases fl with
      | ret v => exact h
      | next => exact h
      | brk => exact h
      | cont => exact h⟩
theorem cxe_none {P : Program} : ∀ (H : Hp) (s : Shared) (e : Value) (s' : Shared), CXe P [] H s (fun _ _ _ => False) e s' → False := fun H s e s' ⟨w, h⟩ => cx_none H s e s' h
end Ab
namespace Ab
open PySem PySem.Spec PyProof.Rows L2
section
variable {e : De} {m : Mu} {ta tb tc : AE} {tr : AA} {d x y z : D} {xs : List D} {N B C : De → Mu → Prop} {R : QD} {E : Ex → De → Mu → Prop}
/-- every item passes, else an early end -/
theorem k_forAll {ai : AI} {ag : AG} {ab : AS} {src : List D} {G : Mu → Prop} (h : ∀ Q X, Q src G m → ai e m Q X) (hG : G m) (p : D → Bool) (J : De → Prop) (h0 : J e)
    (hs : ∀ (P : De → Mu → Prop) (d : D) (e' : De), d ∈ src → J e' → (p d = true → ∀ e3, J e3 → P e3 m) → ag d ⟨N, R, B, C, E⟩ e' m fun e2 m2 => ab ⟨P, R, N, P, E⟩ e2 m2)
    (hend : (∀ d, d ∈ src → p d = true) → ∀ e', J e' → N e' m) : aFor ai ag ab ⟨N, R, B, C, E⟩ e m :=
  k_for h (fun i e' m' => m' = m ∧ J e' ∧ ∀ d, d ∈ src.take i → p d = true) ⟨rfl, h0, fun d hd => by rw [List.take_zero] at hd; cases hd⟩ (fun _ _ _ z => z.1 ▸ hG)
    (fun i d e' m' hd ⟨e1, hj, hp⟩ => by
      subst e1
      refine hs _ d e' (List.mem_of_getElem? hd) hj fun hpd e3 j3 => ⟨rfl, j3, fun d' hd' => ?_⟩
      rw [List.take_add_one, hd] at hd'
      rcases List.mem_append.mp hd' with q | q
      · exact hp d' q
      · rw [show (some d).toList = [d] from rfl] at q
        rw [List.mem_singleton.mp q]; exact hpd)
    (fun e' m' ⟨e1, hj, hp⟩ => by
      subst e1
      rw [List.take_length] at hp
      exact hend hp e' hj)
theorem ev_chainG {b1 b2 : B2} {k l : Bool} (ha : Ev ta e m x) (hb : Ev tb e m y) (h1 : Op2 b1 x y m (.bl k)) (hc : k = true → Ev tc e m z) (h2 : k = true → Op2 b2 y z m (.bl l)) : Ev (aChain b1 b2 ta tb tc) e m (.bl (k && l)) := ev_chain ha hb h1 hc h2
end
/-! ### forms that are no plain telling -/
section
variable {e : De} {m : Mu} {ta tb tc : AE} {tr : AA} {d x y z : D} {xs : List D} {N B C : De → Mu → Prop} {R : QD} {E : Ex → De → Mu → Prop}
theorem k_forX {ai : AI} {ag : AG} {ab : AS} (h : ai e m (fun src G m1 => loopA src G ag ab ⟨N, R, B, C, E⟩ e m1) fun x m => E x e m) : aFor ai ag ab ⟨N, R, B, C, E⟩ e m := h
theorem k_loop {ag : AG} {ab : AS} {src : List D} {G : Mu → Prop} (I : Nat → De → Mu → Prop) (h0 : I 0 e m) (hG : ∀ i e' m', I i e' m' → G m')
    (hs : ∀ i d e' m', src[i]? = some d → I i e' m' → ag d ⟨N, R, B, C, E⟩ e' m' fun e2 m2 => ab ⟨I (i + 1), R, N, I (i + 1), E⟩ e2 m2) (hd : ∀ e' m', I src.length e' m' → N e' m') : loopA src G ag ab ⟨N, R, B, C, E⟩ e m := ⟨I, h0, hG, hs, hd⟩
theorem xi_seq {Q : List D → (Mu → Prop) → Mu → Prop} {X : XA} (h : ta e m (fun d m1 => ∃ xs, asI m1 d = some xs ∧ Q xs (fun m => asI m d = some xs) m1) X) : aiSeq ta e m Q X := h
theorem x_lst {mt : Bool} {Q : QD} {X : XA} (h : tr e m (fun ds m1 => ds.length ≤ sizeLine ∧ newL mt ds m1 Q) X) : aLst mt tr e m Q X := h
theorem x_tup {Q : QD} {X : XA} (h : tr e m (fun ds m1 => ds.length ≤ sizeLine ∧ Q (.tup ds) m1) X) : aTup tr e m Q X := h
theorem xa_cons {Q : List D → Mu → Prop} {X : XA} (ha : Ev ta e m d) (h : tr e m (fun ds m2 => Q (d :: ds) m2) X) : aCons ta tr e m Q X := ha _ _ h
theorem xa_consX {Q : List D → Mu → Prop} {X : XA} (h : ta e m (fun d m1 => tr e m1 (fun ds m2 => Q (d :: ds) m2) X) X) : aCons ta tr e m Q X := h
theorem x_dict0 {Q : QD} {X : XA} (h : ∀ p, m p = none → Q (.cell p) (mset m p (.dic false []))) : aDict0 e m Q X := h
theorem xa_end {Q : List D → Mu → Prop} {X : XA} (ha : EvA tr e m xs) (h : Q xs m) : tr e m Q X := ha _ _ h
end
/-! texts of a bounded size -/
def TxOk (n : Nat) (x : Str) : Prop := x.length ≤ n ∧ ∀ c, c ∈ x.cps.toList → c < 0x110000
theorem len_tl (x : Str) : x.length = x.cps.toList.length := by unfold Str.length; simp
theorem TxOk.ok {n : Nat} {x : Str} (h : TxOk n x) : PyData.strOk x = true := by
  unfold PyData.strOk
  rw [← Array.all_toList]
  exact List.all_eq_true.mpr fun c hc => decide_eq_true (h.2 c hc)
theorem TxOk.cut {n : Nat} {x : Str} (h : TxOk n x) (lo hi : Option Int) : TxOk n (cutS x lo hi) := by
  refine ⟨?_, fun c hc => h.2 c ?_⟩
  · have := h.1
    rw [len_tl] at this ⊢
    unfold cutS
    show ((x.cps.toList.drop _).take _).length ≤ n
    rw [List.length_take, List.length_drop]; omega
  · unfold cutS at hc
    have hc : c ∈ ((x.cps.toList.drop (HT.sIx x.length 0 lo)).take (HT.sIx x.length x.length hi - HT.sIx x.length 0 lo)) := hc
    exact List.mem_of_mem_drop (List.mem_of_mem_take hc)
theorem tl_app (x y : Str) : (x ++ y).cps.toList = x.cps.toList ++ y.cps.toList := TL.tl_append x y
theorem TxOk.app {n k : Nat} {x y : Str} (h : TxOk n x) (h2 : TxOk k y) : TxOk (n + k) (x ++ y) := by
  refine ⟨?_, fun c hc => ?_⟩
  · have a := h.1; have b := h2.1
    rw [len_tl] at a b ⊢
    rw [tl_app, List.length_append]; omega
  · rw [tl_app] at hc
    rcases List.mem_append.mp hc with q | q
    · exact h.2 c q
    · exact h2.2 c q
theorem TxOk.sign {c : Nat} (h : c < 0x110000) : TxOk 1 ⟨#[c]⟩ := ⟨Nat.le_refl 1, fun x hx => by
  have hx : x ∈ [c] := hx
  rw [List.mem_singleton.mp hx]; exact h⟩
theorem TxOk.list {n : Nat} {l : List Nat} (h : l.length ≤ n) (h2 : ∀ c, c ∈ l → c < 0x110000) : TxOk n ⟨l.toArray⟩ := ⟨by rw [len_tl]; exact h, h2⟩
theorem TxOk.mono {n k : Nat} {x : Str} (h : TxOk n x) (hk : n ≤ k) : TxOk k x := ⟨Nat.le_trans h.1 hk, h.2⟩
theorem signs_mem {x : Str} {d : D} (h : d ∈ signs x) : ∃ c, c ∈ x.cps.toList ∧ d = .str ⟨#[c]⟩ := by
  unfold signs at h
  obtain ⟨c, hc, rfl⟩ := List.mem_map.mp h
  exact ⟨c, hc, rfl⟩
theorem mem_signs {x : Str} {c : Nat} (h : c ∈ x.cps.toList) : D.str ⟨#[c]⟩ ∈ signs x := List.mem_map.mpr ⟨c, h, rfl⟩
theorem ge_sign {c k : Nat} {s : Str} (hs : s.cps.toList = [k]) : (!decide ((⟨#[c]⟩ : Str).cps.toList < s.cps.toList)) = decide (k ≤ c) := by
  rw [hs]
  have e : (⟨#[c]⟩ : Str).cps.toList = [c] := rfl
  rw [e]
  by_cases h : c < k
  · rw [decide_eq_true (show [c] < [k] from List.Lex.rel h), decide_eq_false (by omega)]; rfl
  · have : ¬ [c] < [k] := fun z => by
      cases z with
      | rel h2 => exact h h2
      | cons h2 => cases h2
    rw [decide_eq_false this, decide_eq_true (by omega)]; rfl
theorem le_sign {c k : Nat} {s : Str} (hs : s.cps.toList = [k]) : (!decide (s.cps.toList < (⟨#[c]⟩ : Str).cps.toList)) = decide (c ≤ k) := by
  rw [hs]
  have e : (⟨#[c]⟩ : Str).cps.toList = [c] := rfl
  rw [e]
  by_cases h : k < c
  · rw [decide_eq_true (show [k] < [c] from List.Lex.rel h), decide_eq_false (by omega)]; rfl
  · have : ¬ [k] < [c] := fun z => by
      cases z with
      | rel h2 => exact h h2
      | cons h2 => cases h2
    rw [decide_eq_false this, decide_eq_true (by omega)]; rfl
def azT : Str := "abcdefghijklmnopqrstuvwxyz"
def figT : Str := "0123456789"
def isAz (c : Nat) : Bool := decide (97 ≤ c) && decide (c ≤ 122)
def isFig (c : Nat) : Bool := decide (48 ≤ c) && decide (c ≤ 57)
theorem mem_az (c : Nat) : decide (c ∈ azT.cps.toList) = isAz c := by
  have e : azT.cps.toList = (List.range 26).map (· + 97) := by decide +kernel
  have : (c ∈ azT.cps.toList) ↔ (97 ≤ c ∧ c ≤ 122) := by
    rw [e, List.mem_map]
    constructor
    · rintro ⟨a, ha, rfl⟩
      have := List.mem_range.mp ha
      omega
    · intro h
      exact ⟨c - 97, List.mem_range.mpr (by omega), by omega⟩
  unfold isAz
  rw [show decide (c ∈ azT.cps.toList) = decide (97 ≤ c ∧ c ≤ 122) from decide_eq_decide.mpr this, Bool.decide_and]
theorem mem_fig (c : Nat) : decide (c ∈ figT.cps.toList) = isFig c := by
  have e : figT.cps.toList = (List.range 10).map (· + 48) := by decide +kernel
  have : (c ∈ figT.cps.toList) ↔ (48 ≤ c ∧ c ≤ 57) := by
    rw [e, List.mem_map]
    constructor
    · rintro ⟨a, ha, rfl⟩
      have := List.mem_range.mp ha
      omega
    · intro h
      exact ⟨c - 48, List.mem_range.mpr (by omega), by omega⟩
  unfold isFig
  rw [show decide (c ∈ figT.cps.toList) = decide (48 ≤ c ∧ c ≤ 57) from decide_eq_decide.mpr this, Bool.decide_and]
def headAz (x : Str) : Bool := match x.cps.toList with
  | c :: _ => isAz c
  | [] => false
theorem getD_some {l : List Nat} {i : Nat} (h : i < l.length) : l[i]? = some (l.getD i 0) := by
  rw [List.getD_eq_getElem?_getD, List.getElem?_eq_getElem h]; rfl
theorem az_len : azT.cps.toList.length = 26 := by decide +kernel
theorem az_lt : ∀ i, i < 26 → azT.cps.toList.getD i 0 < 128 := by decide +kernel
theorem az_ln : azT.length = 26 := by decide +kernel
theorem fig_ln : figT.length = 10 := by decide +kernel
def sgP (f : Nat → Bool) : D → Bool
  | .str y => (match y.cps.toList with | [c] => f c | _ => false)
  | _ => false
/-! ### a dict is no text -/
open PySem.SeqAt MeetsSeq in
theorem dict_ne_declines_str (l : Addr) (o : Obj) (hc : o.cls = .type "dict") (b : Str) (u : Tok) :
    Meets (Builtin.«dict.__ne__» ⟨[.ref l, .str b u], []⟩) (fun _ R s => s.heap.get? l = some o ∧ R (.ok (.ret .notImplemented)) s) :=
  .of_wp fun prog w A R s h => by
    obtain ⟨hp, g, d, tk, os⟩ := s
    obtain ⟨hl, h⟩ := h
    have f1 := F.sub_str_dict
    obtain ⟨cls, dd, data, sl⟩ := o
    subst hc
    wp_walk using wpAny_loadPart' hl, wpAny_load hl
    exact ⟨_, rfl, h⟩
open PySem.SeqAt MeetsSeq in
theorem str_ne_declines_dict (l : Addr) (o : Obj) (hc : o.cls = .type "dict") {es : Array DictEntry} {ep : Nat} (hdd : o.data = .dict es ep) (b : Str) (u : Tok) :
    Meets (Builtin.«str.__ne__» ⟨[.str b u, .ref l], []⟩) (fun _ R s => s.heap.get? l = some o ∧ R (.ok (.ret .notImplemented)) s) :=
  .of_wp fun prog w A R s h => by
    obtain ⟨hp, g, d, tk, os⟩ := s
    obtain ⟨hl, h⟩ := h
    have f1 := F.sub_dict_str
    obtain ⟨cls, dd, data, sl⟩ := o
    simp only at hc hdd
    subst hc hdd
    wp_walk using wpAny_loadPart' hl, wpAny_load hl
    exact ⟨_, rfl, h⟩
open PySem.SeqAt MeetsSeq in
theorem rc_dict_str {A : Around} {s : Shared} {l : Addr} {o : Obj} (hl : s.heap.get? l = some o) (hc : o.cls = .type "dict") {es : Array DictEntry} {ep : Nat} (hdd : o.data = .dict es ep) (b : Str) (u : Tok) (hu : A.units < cLine) : RcNeAt A s (.ref l) (.str b u) true := fun prog w E Q h =>
  rc_ne_decline_or (k := false) (Ta := "dict") (Tb := "str") ⟨_, hl, hc⟩ (typeIs_str s b u) (by decide) F.sub_str_dict F.slot_dict_ne F.slot_str_ne_refl
    (fun _ hq => call_meets F.slot_dict_ne ⟨_, hl, hc⟩ F.entry_dict_ne (F.args_dict_ne_2 _ _) (dict_ne_declines_str l o hc b u) ⟨hl, hq⟩)
    (fun _ hq => call_meets F.slot_str_ne_refl (typeIs_str s b u) F.entry_str_ne (F.args_str_ne_2 _ _) (str_ne_declines_dict l o hc hdd b u) ⟨hl, hq⟩)
    (fun _ hq => wpAny_of_eq (rfl : isSame (.ref l) (.str b u) = pure false) hq) (.inr hu) h
def rNeDS : R2 := fun x y H Q => ∃ a kvs b, x = .ref a ∧ H a = some (.dK kvs) ∧ y = .str b ∧ Q (.bl true) H
theorem op_neDS {X : Cx} (hu : X.A.units < cLine) : OpR X (compareOp .NotEq) rNeDS := by
  intro pins s σ H x y v u Q I rx ry h
  obtain ⟨a, kvs, b, rfl, ea, rfl, q⟩ := h
  obtain rfl : v = Value.ref a := rx
  obtain ⟨t, rfl⟩ := ry
  obtain ⟨_, ya, va, ra, o, es, ep, ho, hx, hdd, _⟩ := (show ObjOk X.prog X.w H s.heap a (.dK kvs) from I.hok a _ ea)
  exact rc_dict_str ho hx.1 hdd b t hu _ _ _ _ ⟨.bl true, H, I, rfl, q⟩
def bNeX : B2 := fun d e m Q => (∃ a kvs s, d = .cell a ∧ m a = some (.dic false kvs) ∧ e = .str s ∧ Q (.bl true) m) ∨ bNe d e m Q
theorem cm_or {X : Cx} {op : CmpOp} {b c : B2} (h1 : Cm X op b) (h2 : Cm X op c) : Cm X op (fun d e m Q => b d e m Q ∨ c d e m Q) :=
  let ⟨_, o1, s1⟩ := h1; let ⟨_, o2, s2⟩ := h2
  ⟨_, o1.or o2, fun F H m r v u d e Q Qc hn h1 h2 h k => h.elim (fun h => .inl (s1 F H m r v u d e Q Qc hn h1 h2 h k)) fun h => .inr (s2 F H m r v u d e Q Qc hn h1 h2 h k)⟩
theorem c_neX {X : Cx} (hu : X.A.units + 64 < cLine) : Cm X .NotEq bNeX := cm_or ⟨_, op_neDS (by omega), fun F H m r v u d e Q Qc hn h1 h2 h k => by
  obtain ⟨a, kvs, s, rfl, hm, rfl, q⟩ := h
  cases h1; cases h2
  obtain ⟨_, vs, h1, _⟩ := hn.mu a _ hm
  exact ⟨_, vs, s, rfl, h1, rfl, k F H m _ _ (Same.refl F) hn (.bl _) q⟩⟩ (c_ne hu)
end Ab
namespace Ab
open PySem PySem.Spec PyProof.Rows L2
section
variable {X : Cx} {a b c : Expr} {es : List Expr} {pos : Pos} {ta tb tc : AE} {tr : AA}
/-! ### list(range(n)) -/
def aLRng (mt : Bool) (t : AE) : AE := fun e m Q X => t e m (fun d m1 => ∃ n : Int, d = .int n ∧ 0 ≤ n ∧ n ≤ 16777216 ∧ newL mt (rng 0 n.toNat) m1 Q) X
theorem rep_rng {K : PySem.W.Frag} {F : Hp} {lo : Int} : ∀ l : List Nat, RepL K F (l.map fun (i : Nat) => V.int (lo + i)) (l.map fun (i : Nat) => D.int (lo + i))
  | [] => .nil
  | _ :: l => .cons (.int _) (rep_rng l)
theorem q_lrng (mt : Bool) {p p2 pos2 : Pos} (hc : X.calm = true) (hl : X.mg "list" = none) (hr : X.mg "range" = none) (ha : QE X a ta) (hg : Gl X "list" := by rfl) (hg2 : Gl X "range" := by rfl)
    (na : starEach [a] X.env = (false, eval a X.env) :: starEach [] X.env := by rfl)
    (na2 : starEach [Expr.Call (.Name "range" p2) [a] [] pos2] X.env = (false, eval (.Call (.Name "range" p2) [a] [] pos2) X.env) :: starEach [] X.env := by rfl) :
    QE X (.Call (.Name "list" p) [.Call (.Name "range" p2) [a] [] pos2] [] pos) (aLRng mt ta) := fun W tk =>
  (pe_listRg hc hg hl (prg_1 hg2 hr (ha W tk) na) na2).imp fun s H Qc h => by
    obtain ⟨F, e, m, r, Q, X, he, hn, h, g, gx⟩ := h
    refine ⟨F, e, m, r, _, X, he, hn, h, fun F1 H1 m1 v d s1 n1 r1 q1 => ?_, gx⟩
    obtain ⟨n, rfl, h0, h1, q⟩ := q1
    cases r1
    refine ⟨n, rfl, RgOk.of_le (by decide) h1 (by decide) h0, fun p hp => ?_⟩
    have e1 : rgV 0 n = (List.range n.toNat).map fun (i : Nat) => V.int (0 + (i : Int)) := by unfold rgV; rw [Int.sub_zero]
    rw [e1]
    exact newL_ok n1 (rep_rng _) q (g.mono s1) p hp
/-! ### f() -/
theorem q_call0 {k j : Nat} {x : Str} {dvs : List D} {sp : ASp} {p : Pos} (G : Df X.prog X.w X.K X.mg X.base k x dvs sp) (hr : Room j X.A) (hk : k ≤ j) (hg : Gl X x := by rfl) (hdb : (x == ("__debug__" : Str)) = false := by decide) : QE X (.Call (.Name x p) [] [] pos) (aCall sp dvs aNil) := by
  obtain ⟨f, fd, ps, dv, ds, F, hm, hkp, hb, hv, hd⟩ := G.ex
  refine fun W tk => PE.imp (t := tCallSD (spOf X.K sp) dv (fun s c d H => W c d s H) tNil) ⟨fun pins s σ H Q I h => ?_⟩ fun s H Qc h => ?_
  · refine wpAny_Call_Name_kw (ld_glob I hg hm ?_ hdb)
    exact PySem.W.callWith_K0 I.kIn hkp (run_fnSD (us := []) (vs := []) F (hr.mono hk) hb hv (passAt tk σ) I .nil h)
  · obtain ⟨F, e, m, r, Q, X, he, hn, h, g, gx⟩ := h
    exact ⟨F, m, r, _, Q, X, hn, hd F, h, g, gx⟩
theorem mtT_nil {P : Program} {w : World} {K : PySem.W.Frag} {mg : Str → Option Value} {base : Heap} {k : Nat} {m : Str} : MtT P w K mg base k m [] := fun _ _ _ h => by cases h
theorem mtT_cons {P : Program} {w : World} {K : PySem.W.Frag} {mg : Str → Option Value} {base : Heap} {k : Nat} {m : Str} {C : Addr} {dvs : List D} {sp : ASp} {T : List (Addr × List D × ASp)} (h : Mt P w K mg base k m C dvs sp) (t : MtT P w K mg base k m T) : MtT P w K mg base k m ((C, dvs, sp) :: T) := fun C' dvs' sp' hm => by
  rcases List.mem_cons.mp hm with e | hm
  · cases e; exact h
  · exact t _ _ _ hm
def isVal (i : Int) : Bool := decide (0 ≤ i) && decide (i < 1000000000)
/-! ### what is never reached -/
def aStop : AS := fun _ _ _ => False
theorem qs_stop {st : Stmt} : QS X st aStop := fun W tk po => ⟨fun pins s σ H D I h => by
  obtain ⟨F, e, m, r, A, he, hn, h, g⟩ := h
  exact h.elim⟩
end
section
variable {e : De} {m : Mu} {ta tb tc : AE} {tr : AA} {d x y z : D} {xs : List D} {N B C : De → Mu → Prop} {R : QD} {E : Ex → De → Mu → Prop}
theorem ev_lrng {n : Int} (h : Ev ta e m (.int n)) (h0 : 0 ≤ n) (h1 : n ≤ 16777216) : Ev (aLRng false ta) e m (.lst (rng 0 n.toNat)) := fun _ _ q => h _ _ ⟨n, rfl, h0, h1, q⟩
theorem ev_if {t : AT} {b : Bool} (h : EvT t e m b) (h1 : b = true → Ev ta e m d) (h2 : b = false → Ev tb e m d) : Ev (aIf t ta tb) e m d := fun Q X q => h _ _ (by
  cases b with
  | true => exact h1 rfl _ _ q
  | false => exact h2 rfl _ _ q)
theorem ev_fldO {K : PySem.W.Frag} {f : Str} {Cl : Addr} {fs : List (Str × D)} {v : D} (ha : Ev ta e m (.obj Cl fs)) (ok : OkC K Cl f) (hv : fs.lookup f = some v) : Ev (aFld K f ta) e m v := ev_fld ha rfl ok hv
theorem ev_fldC {K : PySem.W.Frag} {f : Str} {a Cl : Addr} {fs : List (Str × D)} {v : D} (ha : Ev ta e m (.cell a)) (hm : m a = some (.ins Cl fs)) (ok : OkC K Cl f) (hv : fs.lookup f = some v) : Ev (aFld K f ta) e m v := ev_fld ha (by show (match m a with | some (.ins C fs) => some (C, fs) | _ => none) = _; rw [hm]) ok hv
/-- a method of an instance that stands -/
theorem ev_methO {n : Str} {T : List (Addr × List D × ASp)} {Cl : Addr} {fs : List (Str × D)} {sp : ASp} {ds : List D} (ha : Ev ta e m (.obj Cl fs)) (hl : fs.lookup n = none) (hT : (Cl, [], sp) ∈ T) (hr : EvA tr e m ds) (hs : ∀ Q X, Q d m → sp (.obj Cl fs :: ds) m Q X) : Ev (aMeth n T ta tr) e m d := fun Q X q =>
  ha _ _ ⟨Cl, fs, [], sp, rfl, hl, hT, hr _ _ (by rw [List.append_nil]; exact hs _ _ q)⟩
theorem x_methO {n : Str} {T : List (Addr × List D × ASp)} {Cl : Addr} {fs : List (Str × D)} {sp : ASp} {ds : List D} {Q : QD} {X : XA} (ha : Ev ta e m (.obj Cl fs)) (hl : fs.lookup n = none) (hT : (Cl, [], sp) ∈ T) (hr : EvA tr e m ds) (hs : sp (.obj Cl fs :: ds) m Q X) : aMeth n T ta tr e m Q X :=
  ha _ _ ⟨Cl, fs, [], sp, rfl, hl, hT, hr _ _ (by rw [List.append_nil]; exact hs)⟩
/-- self.f = v -/
theorem k_fst {K : PySem.W.Frag} {f : Str} {a Cl : Addr} {fs : List (Str × D)} (hv : Ev tb e m d) (ho : Ev ta e m (.cell a)) (hm : m a = some (.ins Cl fs)) (ok : OkC K Cl f) (hl : fs.length < 1000) (k : N e (mset m a (.ins Cl (putF f d fs)))) : aFSt K f ta tb ⟨N, R, B, C, E⟩ e m :=
  hv _ _ (ho _ _ ⟨a, Cl, fs, rfl, hm, ok, hl, k⟩)
/-- C(..): made, then frozen where told -/
theorem x_make {Cl : Addr} {sp : ASp} {ds : List D} {Q : QD} {X : XA} (ha : EvA tr e m ds) (h : ∀ p, m p = none → sp (.cell p :: ds) (mset m p (.ins Cl [])) (fun d m2 => d = .non ∧ Q (.cell p) m2) X) : aMake Cl sp [] tr e m Q X := ha _ _ fun p hp => by rw [List.append_nil]; exact h p hp
theorem x_fz {Q : QD} {X : XA} (h : ta e m (fun d m1 => ∃ a, d = .cell a ∧ fzM (m1 a) a m1 Q) X) : aFz ta e m Q X := h
/-- a comprehension whose items are known by what they keep -/
theorem x_lcP {ai : AI} {ag : AG} {ae : AE} {vs : List Nat} {src : List D} {G : Mu → Prop} {Q : QD} {X : XA} (P : D → Prop) (h : ∀ Q X, Q src G m → ai e m Q X) (hG : G m) (hl : src.length < sizeLine)
    (hs : ∀ d, d ∈ src → ∃ e2, Bnd ag d (wipeA e vs) e2 ∧ ∀ (Q : QD) (X : XA), (∀ y, P y → Q y m) → ae e2 m Q X) (k : ∀ ds, ds.length = src.length → (∀ y, y ∈ ds → P y) → Q (.lst ds) m) : aLc false ai ag aYes ae vs e m Q X := h _ _
  ⟨fun i acc m' => m' = m ∧ acc.length = i ∧ i ≤ src.length ∧ ∀ y, y ∈ acc → P y, ⟨rfl, rfl, Nat.zero_le _, fun _ h => by cases h⟩, fun i acc m' z => z.1 ▸ hG, fun i d acc m' hd ⟨e1, e2, e3, e4⟩ => by
    subst e1
    have hi : i < src.length := (List.getElem?_eq_some_iff.mp hd).1
    obtain ⟨e9, h1, h3⟩ := hs d (List.mem_of_getElem? hd)
    refine h1 _ _ _ (h3 _ _ fun y hy => ⟨by omega, rfl, by rw [List.length_append, e2]; rfl, hi, fun z hz => ?_⟩)
    rcases List.mem_append.mp hz with q | q
    · exact e4 z q
    · rw [List.mem_singleton.mp q]; exact hy, fun acc m' ⟨e1, e2, _, e4⟩ => by
    subst e1
    exact k acc e2 e4⟩
end
theorem kf_nil {P : Str → Prop} : ∀ y, y ∈ ([] : List Str) → P y := fun _ h => by cases h
theorem kf_cons {P : Str → Prop} {x : Str} {xs : List Str} (h : P x) (t : ∀ y, y ∈ xs → P y) : ∀ y, y ∈ x :: xs → P y := fun y hy => by
  rcases List.mem_cons.mp hy with rfl | hy
  · exact h
  · exact t y hy
end Ab
namespace Ab
open PySem PySem.Spec PyProof.Rows L2
/-! ### raising -/
structure ExF (K : PySem.W.Frag) (mg : Str → Option Value) (x : Str) : Prop where
  q : PySem.W.excIn K (He.ga K x) He.veBase "ValueError.__new__" = true
  kp : PySem.W.keepIn K (.ref (He.ga K x)) = true
  sb : PySem.W.subIn K (.ref (He.ga K x)) (.type "BaseException") = some true
  ty : PySem.W.typeIn K (.ref (He.ga K x)) = some (.type "type")
  mg : mg x = some (.ref (He.ga K x))
section
variable {X : Cx} {a b c : Expr} {es : List Expr} {pos : Pos} {ta tb tc : AE} {tr : AA}
/-- raise C(e), C without own __init__ -/
def aRaise0 (C : Addr) (t : AE) : AS := fun A e m => aE t A e m fun _ m1 => A.ex ⟨C, none⟩ e m1
theorem qs_raise0 {x : Str} {p p2 : Pos} (hc : X.calm = true) (E : ExF X.K X.mg x) (ha : QE X a ta) (hg : Gl X x := by rfl)
    (hs : starEach [a] X.env = (false, eval a X.env) :: starEach [] X.env := by rfl) (hdb : (x == ("__debug__" : Str)) = false := by decide) : QS X (.Raise (some (.Call (.Name x p) [a] [] p2)) none pos) (aRaise0 (He.ga X.K x) ta) := fun W tk po =>
  (ps_raise hc tk (SkE.pmk_own1 F.excBase_ValueError E.q E.mg E.kp (raises_own E.sb E.ty) hg (ha W tk) hs hdb)).imp fun D s H ⟨F, e, m, r, A, he, hn, h, g⟩ =>
    use_E he hn g h fun F1 H1 m1 v d k n1 rv q => g.ex F1 H1 m1 s e _ _ ⟨He.ga X.K x, none⟩ k (he.mono k) n1 ⟨rfl, fun _ => rfl, fun _ _ z => by cases z⟩ q
/-! ### try: .. except C as n: .. -/
/-- what the suite's name holds -/
def excD (a : Addr) (dd : Option Addr) (x : Ex) : D := match x.fl, dd with
  | some (f, d), some b => .exc a x.C b f d
  | _, _ => .cell a
theorem excD_ok {K : PySem.W.Frag} {F H : Hp} {m : Mu} {cls : Value} {dd : Option Addr} {x : Ex} {a : Addr} (h : RepX K F H m cls dd x) : Rep K F (.ref a) (excD a dd x) := by
  obtain ⟨_, h1, h2⟩ := h
  unfold excD
  cases hf : x.fl with
  | none => exact .cell a
  | some p =>
    obtain ⟨f, d⟩ := p
    obtain ⟨b, v, rfl, e1, e2⟩ := h2 f d hf
    exact .exc e1 e2
abbrev TSx := Addr → Option Addr → Ex → AS
def aSuite (i : Nat) (ts : TSx) (A : AEnds) (x : Ex) (e : De) (m : Mu) : Prop := ∀ a dd, m a = none → (x.fl = none → dd = none) → ((∃ p, x.fl = some p) → ∃ b, dd = some b) →
  ts a dd x ⟨fun e2 m2 => A.nx (e2.set i none) m2, A.rt, fun e2 m2 => A.bk (e2.set i none) m2, fun e2 m2 => A.ct (e2.set i none) m2, fun _ _ _ => False⟩ (e.set i (some (excD a dd x))) m
def aTry (K : PySem.W.Frag) (C : Addr) (i : Nat) (t : AS) (ts : TSx) : AS := fun A e m => t ⟨A.nx, A.rt, A.bk, A.ct, fun x e1 m1 => ∃ b, PySem.W.exmOne K (.ref x.C) (.ref C) = some b ∧ (b = true → aSuite i ts A x e1 m1) ∧ (b = false → A.ex x e1 m1)⟩ e m
theorem envOk_set {K : PySem.W.Frag} {F : Hp} {s : L2.St} {e : De} {i : Nat} {v : V} {d : D} (h : EnvOk K F s e) (r : Rep K F v d) : EnvOk K F (s.set i (some v)) (e.set i (some d)) := by
  refine ⟨by rw [List.length_set, List.length_set]; exact h.1, fun j d' hj => ?_⟩
  by_cases q : i = j
  · subst q
    rw [List.getElem?_set] at hj
    by_cases hl : i < e.length
    · rw [if_pos rfl, if_pos hl] at hj
      cases hj
      exact ⟨v, by rw [List.getElem?_set, if_pos rfl, if_pos (by have := h.1; omega)], r⟩
    · rw [if_pos rfl, if_neg hl] at hj; cases hj
  · rw [List.getElem?_set_ne q] at hj
    obtain ⟨v', h1, h2⟩ := h.2 j d' hj
    exact ⟨v', by rw [List.getElem?_set_ne q]; exact h1, h2⟩
theorem envOk_gone {K : PySem.W.Frag} {F : Hp} {s : L2.St} {e : De} {i : Nat} (h : EnvOk K F s e) : EnvOk K F (s.set i none) (e.set i none) := by
  refine ⟨by rw [List.length_set, List.length_set]; exact h.1, fun j d' hj => ?_⟩
  by_cases q : i = j
  · subst q
    rw [List.getElem?_set] at hj
    by_cases hl : i < e.length
    · rw [if_pos rfl, if_pos hl] at hj; cases hj
    · rw [if_pos rfl, if_neg hl] at hj; cases hj
  · rw [List.getElem?_set_ne q] at hj
    obtain ⟨v', h1, h2⟩ := h.2 j d' hj
    exact ⟨v', by rw [List.getElem?_set_ne q]; exact h1, h2⟩
/-- what a suite's statements keep -/
def QSuite (X : Cx) (suite : List Stmt) (ts : TSx) : Prop := ∀ (a : Addr) (oe : Obj) (dd : Option Addr) (pn : List (Addr × Obj)) (x : Ex), Zc (.ref x.C) dd oe → (∃ vs, oe.data = .fields vs) → QSs (X.suite a ((a, oe) :: pn)) suite (ts a dd x)
theorem qs_try {x n : Str} {i : Nat} {body suite : List Stmt} {b₀ : Stmt} {np pos' : Pos} {t : AS} {ts : TSx} (hs : X.stack = X.env :: X.outer) (hf : X.env.frame = some X.env.locals) (hN : X.N.Nodup) (E : X.mg x = some (.ref (He.ga X.K x)))
    (hb : ∀ (pn : List (Addr × Obj)) (xe : Value → Shared → Prop), QSs (X.tr pn xe) body t) (hsu : QSuite X (b₀ :: suite) ts) (hi : X.N[i]? = some n := by rfl) (hln : X.env.kindOf n = some .local := by rfl) (hg : Gl X x := by rfl)
    (hdb : (x == ("__debug__" : Str)) = false := by decide) : QS X (.Try body [.ExceptHandler (some (.Name x np)) (some n) (b₀ :: suite) pos'] [] [] pos) (aTry X.K (He.ga X.K x) i t ts) := fun W tk po => by
  refine (ps_try_as (X := X) (Wout := W) (c := .ref (He.ga X.K x)) (i := i) (tb := fun W' => cS X.K W' t)
    (ts := fun a cls d D s H => ∃ F e m r A xx, cls = .ref xx.C ∧ EnvOk X.K F s e ∧ Sn X.K F H m r ∧ ts a d xx A e m ∧ GS X.K F r A D W0) hs hf hN hi hln ⟨hg, hdb, .inl E⟩ tk (fun W' pn xe tk' po' => hb pn xe W' tk' po') (fun a oe cls d pn hz hv => ?_)).imp fun D s H h => ?_
  · refine ⟨fun pins s σ H D I h => ?_⟩
    obtain ⟨F, e, m, r, A, xx, rfl, he, hn, h, g⟩ := h
    exact (hsu a oe d pn xx hz hv W0 takes_w0 PassesOwn.never).run pins s σ H D I ⟨F, e, m, r, A, he, hn, h, g⟩
  · obtain ⟨F, e, m, r, A, he, hn, h, g⟩ := h
    refine ⟨F, e, m, r, _, he, hn, h, ⟨g.nx, g.rt, g.bk, g.ct, fun F' H' m' s' e' cls dd xx k1 he' hn' rx hx => ?_⟩⟩
    obtain ⟨b, hb1, hb2, hb3⟩ := hx
    refine ⟨b, by rw [rx.1]; exact hb1, fun z a na => ?_, fun z => g.ex F' H' m' s' e' cls dd xx k1 he' hn' rx (hb3 z)⟩
    refine ⟨F', _, m', r, _, xx, rx.1, envOk_set he' (excD_ok rx), hn', hb2 z a dd (hn'.m_none na) rx.2.1 (fun ⟨p, hp⟩ => let ⟨b, v, q, _⟩ := rx.2.2 p.1 p.2 hp; ⟨b, q⟩), ?_⟩
    exact ⟨fun F2 H2 m2 s2 e2 k2 he2 hn2 q => g.nx F2 H2 m2 _ _ (k1.trans k2) (envOk_gone he2) hn2 q, fun F2 H2 m2 v d k2 hn2 hr2 q => g.rt F2 H2 m2 v d (k1.trans k2) hn2 hr2 q,
      fun F2 H2 m2 s2 e2 k2 he2 hn2 q => g.bk F2 H2 m2 _ _ (k1.trans k2) (envOk_gone he2) hn2 q, fun F2 H2 m2 s2 e2 k2 he2 hn2 q => g.ct F2 H2 m2 _ _ (k1.trans k2) (envOk_gone he2) hn2 q, fun _ _ _ _ _ _ _ _ _ _ _ _ q => q.elim⟩
end
end Ab
namespace Ab
open PySem PySem.Spec PyProof.Rows L2
section
variable {X : Cx} {a b c : Expr} {es : List Expr} {pos : Pos} {ta tb tc : AE} {tr : AA}
/-! ### isinstance(e, C) in a suite -/
def aIsE (K : PySem.W.Frag) (a : Addr) (dd : Option Addr) (C : Addr) (cv : Value) (t : AE) : AE := fun e m Q X => dd = none ∧ ExcC K C ∧ t e m (fun d m1 => d = .cell a ∧ ∃ b, PySem.W.kitOne K (.ref C) cv = some b ∧ Q (.bl b) m1) X
theorem q_isE {Y : Cx} {o : Expr} {t : AE} {ad C : Addr} {oe : Obj} {dd : Option Addr} {pn : List (Addr × Obj)} {x : Str} {p p2 : Pos} {cv : V} {cu : Value} (hm : Y.mg "isinstance" = none) (hz : Zc (.ref C) dd oe) (hv : ∃ vs, oe.data = .fields vs)
    (hcl : PE (Y.suite ad ((ad, oe) :: pn)) (.Name x p2) (tC cv)) (hcv : ∀ u, RelV cv u → u = cu) (ho : QE (Y.suite ad ((ad, oe) :: pn)) o t) (hg : Gl (Y.suite ad ((ad, oe) :: pn)) "isinstance" := by rfl)
    (hs1 : starEach (o :: [.Name x p2]) (Y.suite ad ((ad, oe) :: pn)).env = (false, eval o (Y.suite ad ((ad, oe) :: pn)).env) :: starEach [.Name x p2] (Y.suite ad ((ad, oe) :: pn)).env := by rfl)
    (hs2 : starEach (.Name x p2 :: []) (Y.suite ad ((ad, oe) :: pn)).env = (false, eval (.Name x p2) (Y.suite ad ((ad, oe) :: pn)).env) :: starEach [] (Y.suite ad ((ad, oe) :: pn)).env := by rfl)
    (hpl : (backTo pos (starEach [.Name x p2] (Y.suite ad ((ad, oe) :: pn)).env)).any (·.1) = false := by rfl) :
    QE (Y.suite ad ((ad, oe) :: pn)) (.Call (.Name "isinstance" p) [o, .Name x p2] [] pos) (aIsE Y.K ad dd C cu t) := fun W tk => ⟨fun pins s σ H Qc I h => by
  obtain ⟨F, e, m, r, Q, X, he, hn, ⟨rfl, hC, h⟩, g, gx⟩ := h
  refine (pe_callB (X := Y.suite ad ((ad, oe) :: pn)) (call_isE hC hz hv) hg hm (by decide +kernel) (pa_cons (ho W tk) (pa_cons hcl pa_nil hs2) hs1) (by decide) (by decide) hs1 hpl).run pins s σ H Qc I ?_
  refine ⟨F, e, m, r, _, X, he, hn, h, fun F1 H1 m1 v d s1 n1 r1 q1 => ?_, gx⟩
  obtain ⟨rfl, b, hb, q⟩ := q1
  cases r1
  exact ⟨cv, cu, b, rfl, hcv, hb, g F1 H1 m1 _ _ s1 n1 (.bl b) q⟩⟩
theorem pe_cls {x : Str} {C : Addr} (hm : X.mg x = some (.ref C)) (hg : Gl X x := by rfl) (hd : (x == ("__debug__" : Str)) = false := by decide) : PE X (.Name x pos) (tC (.ref C)) := pe_glob hg hm rfl hd
theorem pe_ty {x : Str} {n : String} (hmT : X.mg x = none) (hv : bootBuiltins x = some (.type n)) (hgT : Gl X x := by rfl) (hnn : x ≠ "__name__" := by decide) (hdd : (x == ("__debug__" : Str)) = false := by decide) : PE X (.Name x pos) (tC (.ty n)) := pe_bltn (v := .ty n) hgT hmT hv rfl hnn hdd
theorem relV_ref {C : Addr} : ∀ u, RelV (V.ref C) u → u = .ref C := fun _ h => h
theorem relV_ty {n : String} : ∀ u, RelV (V.ty n) u → u = .type n := fun _ h => h
/-! ### text * number -/
def bMulX : B2 := fun d e m Q => (∃ (s : Str) (n : Int), d = .str s ∧ e = .int n ∧ PySem.MulOk s n ∧ Q (.str (Txt.mul s n)) m) ∨ bMul d e m Q
theorem op_mulS : OpR X (binaryOp .Mult) (fun x y H Q => ∃ (s : Str) (n : Int), x = .str s ∧ y = .int n ∧ PySem.MulOk s n ∧ Q (.str (Txt.mul s n)) H) := by
  intro pins s σ H x y v u Q I rx ry h
  obtain ⟨z, n, rfl, rfl, ok, q⟩ := h
  obtain ⟨t, rfl⟩ := rx
  obtain ⟨t2, rfl⟩ := ry
  exact PySem.SB.mul ok fun t' k => ⟨.str (Txt.mul z n), H, I.tok _, ⟨t', rfl⟩, q⟩
theorem q_mulX (ha : QE X a ta) (hb : QE X b tb) : QE X (.BinOp a .Mult b pos) (aOp bMulX ta tb) := q_bin (op_mulS.or o_mul) (fun F H m r v u d e Q Qc hn h1 h2 h k => h.elim (fun h => .inl (by
    obtain ⟨s, n, rfl, rfl, ok, q⟩ := h
    cases h1; cases h2
    exact ⟨s, n, rfl, rfl, ok, k F H m _ _ (Same.refl F) hn (.str _) q⟩)) fun h => .inr (s_mul F H m r v u d e Q Qc hn h1 h2 h k)) ha hb
/-! ### ord, min of three -/
def bOrd : BA := fun ds m Q => ∃ c : Nat, ds = [.str ⟨#[c]⟩] ∧ Q (.int c) m
theorem s_ord {K : PySem.W.Frag} : SA K (fun xs H Q => ∃ x : Str, xs = [.str x] ∧ x.length = 1 ∧ Q (.int (x.cps.getD 0 0 : Nat)) H) bOrd := by
  intro F H m r vs ds Q Qc hn hr h k
  obtain ⟨c, rfl, q⟩ := h
  obtain ⟨v, rfl, rv⟩ := repL1 hr
  cases rv
  exact ⟨_, rfl, rfl, k F H m _ _ (Same.refl F) hn (.int _) q⟩
theorem q_ord {p : Pos} (hm : X.mg "ord" = none) (ha : QA X (a :: es) tr) (hg : Gl X "ord" := by rfl)
    (he : starEach (a :: es) X.env = (false, eval a X.env) :: starEach es X.env := by rfl) (hpl : (backTo pos (starEach es X.env)).any (·.1) = false := by rfl) : QE X (.Call (.Name "ord" p) (a :: es) [] pos) (aCB bOrd tr) :=
  q_callB call_ord s_ord hm (by decide +kernel) ha hg (by decide) (by decide) he hpl
def bMin3 : BA := fun ds m Q => ∃ i j k : Int, ds = [.int i, .int j, .int k] ∧ Q (.int (min (min i j) k)) m
theorem repL3 {K : PySem.W.Frag} {F : Hp} {vs : List V} {d e f : D} (h : RepL K F vs [d, e, f]) : ∃ v u w, vs = [v, u, w] ∧ Rep K F v d ∧ Rep K F u e ∧ Rep K F w f := by
  cases h with | cons h1 h => cases h with | cons h2 h => cases h with | cons h3 h => cases h; exact ⟨_, _, _, rfl, h1, h2, h3⟩
theorem nuMin2_int (i j : Int) : nuMin2 (.int i) (.int j) = some (.int (min i j)) := by
  unfold nuMin2
  have e : nuLt (.int j) (.int i) = some (decide (j < i)) := rfl
  rw [e]
  by_cases h : j < i
  · rw [decide_eq_true h]
    show some (V.int j) = _
    rw [Int.min_eq_right (by omega)]
  · rw [decide_eq_false h]
    show some (V.int i) = _
    rw [Int.min_eq_left (by omega)]
theorem s_min3 {K : PySem.W.Frag} : SA K (fun xs H Q => ∃ x y w z, xs = [x, y, w] ∧ nuMin3 x y w = some z ∧ Q z H) bMin3 := by
  intro F H m r vs ds Q Qc hn hr h k
  obtain ⟨i, j, l, rfl, q⟩ := h
  obtain ⟨v, u, w, rfl, rv, ru, rw_⟩ := repL3 hr
  cases rv; cases ru; cases rw_
  refine ⟨_, _, _, .int (min (min i j) l), rfl, ?_, k F H m _ _ (Same.refl F) hn (.int _) q⟩
  unfold nuMin3
  rw [nuMin2_int]
  exact nuMin2_int _ _
theorem q_min3 (hc : X.calm = true) {p : Pos} (hm : X.mg "min" = none) (ha : QA X (a :: es) tr) (hg : Gl X "min" := by rfl)
    (he : starEach (a :: es) X.env = (false, eval a X.env) :: starEach es X.env := by rfl) (hpl : (backTo pos (starEach es X.env)).any (·.1) = false := by rfl) : QE X (.Call (.Name "min" p) (a :: es) [] pos) (aCB bMin3 tr) :=
  q_callB (call_min3Nu hc) s_min3 hm (by decide +kernel) ha hg (by decide) (by decide) he hpl
end
section
variable {e : De} {m : Mu} {ta tb tc : AE} {tr : AA} {d x y z : D} {xs : List D} {N B C : De → Mu → Prop} {R : QD} {E : Ex → De → Mu → Prop}
theorem o_ord {c : Nat} : OpA bOrd [.str ⟨#[c]⟩] m (.int c) := fun _ q => ⟨c, rfl, q⟩
theorem o_min3 {i j k : Int} : OpA bMin3 [.int i, .int j, .int k] m (.int (min (min i j) k)) := fun _ q => ⟨i, j, k, rfl, q⟩
theorem o_mulS {s : Str} {n : Int} (h : PySem.MulOk s n) : Op2 bMulX (.str s) (.int n) m (.str (Txt.mul s n)) := fun _ q => .inl ⟨s, n, rfl, rfl, h, q⟩
theorem k_raise0 {Cl : Addr} (h : Ev ta e m d) (k : E ⟨Cl, none⟩ e m) : aRaise0 Cl ta ⟨N, R, B, C, E⟩ e m := h _ _ k
theorem k_try {K : PySem.W.Frag} {Cl : Addr} {i : Nat} {t : AS} {ts : TSx} (h : t ⟨N, R, B, C, fun x e1 m1 => ∃ b, PySem.W.exmOne K (.ref x.C) (.ref Cl) = some b ∧ (b = true → aSuite i ts ⟨N, R, B, C, E⟩ x e1 m1) ∧ (b = false → E x e1 m1)⟩ e m) : aTry K Cl i t ts ⟨N, R, B, C, E⟩ e m := h
theorem ev_isE {K : PySem.W.Frag} {a Cl : Addr} {cv : Value} {b : Bool} (h : Ev ta e m (.cell a)) (hC : ExcC K Cl) (hk : PySem.W.kitOne K (.ref Cl) cv = some b) : Ev (aIsE K a none Cl cv ta) e m (.bl b) := fun Q X q => ⟨rfl, hC, h _ _ ⟨rfl, b, hk, q⟩⟩
end
/-! ### a Hook with facts of one's own -/
inductive Xa where
  | kit (x y : Str) (b : Bool)
  | kitT (x : Str) (t : String) (b : Bool)
  | ec (x : Str)
  | xf (x f : Str)
  | exm (x y : Str) (b : Bool)
  | oex (x : Str)
  | lan (x : Str)
  | isn (x : Str)
  | kitM (cs : List Str)
  | ecs (cs : List Str)
def oexB (K : PySem.W.Frag) (C : Addr) : Bool := (match K.lookup C with
  | some ⟨.type "type", _, .cls cd, sl⟩ => (match cd.mro, sl.toList with
    | .ref C' :: bm, [_, _, _, _, some (.builtin n), _] => C' == C && n == "ValueError.__new__" && !cd.hasDel && cd.hasDict && PySem.HandSPX.refsVE bm
    | _, _ => false)
  | _ => false) && (He.eqO (PySem.W.findIn K (.ref C) "__setattr__") (some (some (.builtin "object.__setattr__"))) && (decide (PySem.W.subIn K (.ref C) (.type "BaseException") = some true) && (decide (PySem.W.typeIn K (.ref C) = some (.type "type")) && PySem.W.keepIn K (.ref C))))
theorem oexB_ok {K : PySem.W.Frag} {C : Addr} (h : oexB K C = true) : OexC K C := by
  obtain ⟨h1, h⟩ := He.ba h
  obtain ⟨h2, h⟩ := He.ba h
  obtain ⟨h3, h⟩ := He.ba h
  obtain ⟨h4, h5⟩ := He.ba h
  refine ⟨?_, He.eqO_ok h2, of_decide_eq_true h3, of_decide_eq_true h4, h5⟩
  split at h1
  · rename_i dd cd sl ho
    split at h1
    · rename_i C' bm k0 k1 k2 k3 n k5 hm hs
      simp only [Bool.and_eq_true, beq_iff_eq, Bool.not_eq_true'] at h1
      obtain ⟨⟨⟨⟨rfl, rfl⟩, hdel⟩, hdict⟩, ht⟩ := h1
      obtain ⟨nm, bs, mro, ns, qn, hd, sn, sub, ab, col, del⟩ := cd
      dsimp only at hm hdel hdict
      subst hm hdel hdict
      have hsl : sl = #[k0, k1, k2, k3, some (.builtin "ValueError.__new__"), k5] := by
        obtain ⟨l⟩ := sl
        simp only at hs
        rw [hs]
      subst hsl
      exact ⟨nm, qn, ns, bs, bm, sn, sub, ab, col, dd, k0, k1, k2, k3, k5, ho, ht⟩
    · cases h1
  · cases h1
/-- LaneError.__init__, read from the class -/
structure LanC (K : PySem.W.Frag) (C : Addr) : Prop where
  rd : PySem.W.readsIn K C (.type "type") = true
  ga : PySem.W.specialIn K (.ref C) "__getattribute__" = some (some (.builtin "type.__getattribute__"))
  fi : PySem.W.findCls K (.ref C) (.type "type") "__init__" = some (.val (.builtin "ValueError.__init__"))
def lanB (K : PySem.W.Frag) (C : Addr) : Bool := PySem.W.readsIn K C (.type "type") && (He.eqO (PySem.W.specialIn K (.ref C) "__getattribute__") (some (some (.builtin "type.__getattribute__"))) && (match PySem.W.findCls K (.ref C) (.type "type") "__init__" with
  | some (.val (.builtin n)) => n == "ValueError.__init__"
  | _ => false))
theorem lanB_ok {K : PySem.W.Frag} {C : Addr} (h : lanB K C = true) : LanC K C := by
  obtain ⟨h1, h⟩ := He.ba h
  obtain ⟨h2, h3⟩ := He.ba h
  refine ⟨h1, He.eqO_ok h2, ?_⟩
  split at h3
  · rename_i n hn
    rw [hn, beq_iff_eq.mp h3]
  · cases h3
def ecB (K : PySem.W.Frag) (D : Addr) : Bool := He.eqO (PySem.W.findIn K (.ref D) "__getattribute__") (some (some (.builtin "BaseException.__getattribute__"))) && (He.eqO (PySem.W.findIn K (.ref D) "__getattr__") (some none) && (decide (PySem.W.subIn K (.ref D) (.type "BaseException") = some true) && (PySem.W.hasDictIn K D &&
  (He.eqO (PySem.W.findIn K (.ref D) "__class__") (some (some (.builtin "object.__class__"))) && (He.eqO (PySem.W.specialIn K (.builtin "object.__class__") "__get__") (some (some (.builtin "getset_descriptor.__get__"))) && (decide (PySem.W.takesIn K (.builtin "object.__class__") = some true) && decide (PySem.W.mroIn K D (.type "object") = some true)))))))
theorem ecB_ok {K : PySem.W.Frag} {D : Addr} (h : ecB K D = true) : ExcC K D := by
  obtain ⟨h1, h⟩ := He.ba h
  obtain ⟨h2, h⟩ := He.ba h
  obtain ⟨h3, h⟩ := He.ba h
  obtain ⟨h4, h⟩ := He.ba h
  obtain ⟨h5, h⟩ := He.ba h
  obtain ⟨h6, h⟩ := He.ba h
  obtain ⟨h7, h8⟩ := He.ba h
  exact ⟨He.eqO_ok h1, He.eqO_ok h2, of_decide_eq_true h3, h4, He.eqO_ok h5, He.eqO_ok h6, of_decide_eq_true h7, of_decide_eq_true h8⟩
/-- no class of the row lies under another one of it -/
def KitM (K : PySem.W.Frag) (cs : List Str) : Prop := ∀ i j, i < cs.length → j < cs.length → PySem.W.kitOne K (.ref (He.ga K (cs.getD i ""))) (.ref (He.ga K (cs.getD j ""))) = some (decide (i = j))
def kitMB (K : PySem.W.Frag) (cs : List Str) : Bool := (List.range cs.length).all fun i => (List.range cs.length).all fun j => decide (PySem.W.kitOne K (.ref (He.ga K (cs.getD i ""))) (.ref (He.ga K (cs.getD j ""))) = some (decide (i = j)))
theorem kitM_ok {K : PySem.W.Frag} {cs : List Str} (h : kitMB K cs = true) : KitM K cs := fun i j hi hj =>
  of_decide_eq_true (List.all_eq_true.mp (List.all_eq_true.mp h i (List.mem_range.mpr hi)) j (List.mem_range.mpr hj))
/-- each class of the row is an exception's, and lies under LaneError and ValueError -/
def EcS (K : PySem.W.Frag) (cs : List Str) : Prop := ∀ x, x ∈ cs → ExcC K (He.ga K x) ∧ PySem.W.kitOne K (.ref (He.ga K x)) (.ref (He.ga K "LaneError")) = some true ∧ PySem.W.kitOne K (.ref (He.ga K x)) (.type "ValueError") = some true
def ecsB (K : PySem.W.Frag) (cs : List Str) : Bool := cs.all fun x => ecB K (He.ga K x) && (decide (PySem.W.kitOne K (.ref (He.ga K x)) (.ref (He.ga K "LaneError")) = some true) && decide (PySem.W.kitOne K (.ref (He.ga K x)) (.type "ValueError") = some true))
theorem ecs_ok {K : PySem.W.Frag} {cs : List Str} (h : ecsB K cs = true) : EcS K cs := fun x hx => by
  obtain ⟨h1, h⟩ := He.ba (List.all_eq_true.mp h x hx)
  obtain ⟨h2, h3⟩ := He.ba h
  exact ⟨ecB_ok h1, of_decide_eq_true h2, of_decide_eq_true h3⟩
def Xa.ok (K : PySem.W.Frag) : Xa → Bool
  | .kit x y b => decide (PySem.W.kitOne K (.ref (He.ga K x)) (.ref (He.ga K y)) = some b)
  | .kitT x t b => decide (PySem.W.kitOne K (.ref (He.ga K x)) (.type t) = some b)
  | .ec x => ecB K (He.ga K x)
  | .xf x f => xfB K (He.ga K x) && He.eqO (PySem.W.findIn K (.ref (He.ga K x)) f) (some none)
  | .exm x y b => decide (PySem.W.exmOne K (.ref (He.ga K x)) (.ref (He.ga K y)) = some b)
  | .oex x => oexB K (He.ga K x)
  | .lan x => lanB K (He.ga K x)
  | .kitM cs => kitMB K cs
  | .ecs cs => ecsB K cs
  | .isn x => He.eqO (PySem.W.findIn K (.ref (He.ga K x)) "__class__") (some (some (.builtin "object.__class__"))) && (He.eqO (PySem.W.specialIn K (.builtin "object.__class__") "__get__") (some (some (.builtin "getset_descriptor.__get__"))) && (decide (PySem.W.takesIn K (.builtin "object.__class__") = some true) && decide (PySem.W.mroIn K (He.ga K x) (.type "object") = some true)))
abbrev AlE : Type := He.AlD × Bool
def obsE (fa : List He.Fa) (fn : List He.DefD) (xa : List Xa) (K : PySem.W.Frag) : AlE := (He.obsD fa fn K, xa.all fun f => f.ok K)
def valE (fn : List He.DefD) : AlE := (He.valD fn, true)
def SaysE (fa : List He.Fa) (fn : List He.DefD) (xa : List Xa) (K : PySem.W.Frag) : Prop := obsE fa fn xa K = valE fn
def obsEG (n : Nat) (fa : List He.Fa) (fn : List He.DefD) (xa : List Xa) (g : Addr → Option Obj) : AlE := obsE fa fn xa (He.frG g (He.asD g n ++ [cStatics]))
def hookE (n : Nat) (fa : List He.Fa) (fn : List He.DefD) (xa : List Xa) : PySem.W.Hook where
  α := AlE
  obs := fun s => obsEG n fa fn xa s.heap.get?
  val := fun _ => valE fn
  says := fun _ h => ∃ K : PySem.W.Frag, K.In h ∧ SaysE fa fn xa K
  of := fun _ _ e => ⟨_, He.frG_in, e⟩
  keeps := fun _ _ _ ⟨K, hK, c⟩ k => ⟨K, PySem.W.Frag.In.keeps hK k, c⟩
theorem obsEG_eq {n : Nat} {fa : List He.Fa} {fn : List He.DefD} {xa : List Xa} {g : Addr → Option Obj} {s : Shared} (h : ∀ a, g a = s.heap.get? a) : obsEG n fa fn xa g = (hookE n fa fn xa).obs s := by
  have e : g = s.heap.get? := funext h
  rw [e] <;> rfl
theorem SaysE.d {fa : List He.Fa} {fn : List He.DefD} {xa : List Xa} {K : PySem.W.Frag} (c : SaysE fa fn xa K) : He.SaysD fa fn K := congrArg (fun z : AlE => z.1) c
theorem SaysE.x {fa : List He.Fa} {fn : List He.DefD} {xa : List Xa} {K : PySem.W.Frag} (c : SaysE fa fn xa K) (i : Nat) {f : Xa} (h : xa[i]? = some f := by rfl) : f.ok K = true :=
  List.all_eq_true.mp (congrArg (fun z : AlE => z.2) c) f (List.mem_of_getElem? h)
end Ab
namespace Ab
open PySem PySem.Spec PyProof.Rows L2
/-! ### the same Hook, its objects found with less work: a mask of bits says what was seen -/
def frN {α : Type} (n : Nat) (k : Nat → α) : α := match n with
  | 0 => k 0
  | n + 1 => k (n + 1)
theorem frN_eq {α : Type} (n : Nat) (k : Nat → α) : frN n k = k n := by cases n <;> rfl
def newsK {α : Type} : List Addr → Nat → List Addr → (List Addr → Nat → α) → α
  | [], m, acc, k => k acc m
  | a :: r, m, acc, k => frN a fun a => match Nat.beq (Nat.land (Nat.shiftRight m a) 1) 0 with
    | true => frN (Nat.lor m (Nat.shiftLeft 1 a)) fun m => newsK r m (a :: acc) k
    | false => newsK r m acc k
theorem newsK_eq {α : Type} : ∀ (as : List Addr) (m : Nat) (acc : List Addr) (k : List Addr → Nat → α), ∃ x y, newsK as m acc k = k x y
  | [], m, acc, k => ⟨_, _, rfl⟩
  | a :: r, m, acc, k => by
    unfold newsK
    rw [frN_eq]
    cases Nat.beq (Nat.land (Nat.shiftRight m a) 1) 0 with
    | true =>
      dsimp only
      rw [frN_eq]
      exact newsK_eq r _ _ k
    | false => exact newsK_eq r _ _ k
def walkK {α : Type} (g : Addr → Option Obj) : Nat → List Addr → Nat → List Addr → (List Addr → α) → α
  | 0, _, _, all, k => k all
  | n + 1, fr, m, all, k => newsK (fr.flatMap fun a => match g a with
    | some o => He.refsD o
    | none => []) m [] fun new m => walkK g n new m (all ++ new) k
theorem walkK_eq {α : Type} (g : Addr → Option Obj) : ∀ (n : Nat) (fr : List Addr) (m : Nat) (all : List Addr) (k : List Addr → α), ∃ x, walkK g n fr m all k = k x
  | 0, _, _, all, k => ⟨_, rfl⟩
  | n + 1, fr, m, all, k => by
    unfold walkK
    obtain ⟨x, y, e⟩ := newsK_eq (fr.flatMap fun a => match g a with
      | some o => He.refsD o
      | none => []) m [] fun new m => walkK g n new m (all ++ new) k
    rw [e]
    exact walkK_eq g n _ _ _ k
def frK {α : Type} (g : Addr → Option Obj) : List Addr → (PySem.W.Frag → α) → α
  | [], k => k []
  | a :: r, k => match g a with
    | some o => frK g r fun K => k ((a, o) :: K)
    | none => frK g r k
theorem frK_eq {α : Type} (g : Addr → Option Obj) : ∀ (as : List Addr) (k : PySem.W.Frag → α), frK g as k = k (He.frG g as)
  | [], k => rfl
  | a :: r, k => by
    unfold frK He.frG
    rw [List.filterMap_cons]
    cases g a with
    | some o => exact frK_eq g r _
    | none => exact frK_eq g r k
def obsFG (n : Nat) (fa : List He.Fa) (fn : List He.DefD) (xa : List Xa) (g : Addr → Option Obj) : AlE := walkK g n [mainGlobals] (Nat.shiftLeft 1 mainGlobals) [mainGlobals] fun as => frK g (as ++ [cStatics]) fun K => obsE fa fn xa K
theorem obsFG_is (n : Nat) (fa : List He.Fa) (fn : List He.DefD) (xa : List Xa) (g : Addr → Option Obj) : ∃ as, obsFG n fa fn xa g = obsE fa fn xa (He.frG g as) := by
  obtain ⟨as, e⟩ := walkK_eq g n [mainGlobals] (Nat.shiftLeft 1 mainGlobals) [mainGlobals] fun as => frK g (as ++ [cStatics]) fun K => obsE fa fn xa K
  exact ⟨_, e.trans (frK_eq g _ _)⟩
def hookF (n : Nat) (fa : List He.Fa) (fn : List He.DefD) (xa : List Xa) : PySem.W.Hook where
  α := AlE
  obs := fun s => obsFG n fa fn xa s.heap.get?
  val := fun _ => valE fn
  says := fun _ h => ∃ K : PySem.W.Frag, K.In h ∧ SaysE fa fn xa K
  of := fun _ _ e => by
    obtain ⟨as, q⟩ := obsFG_is n fa fn xa _
    exact ⟨_, He.frG_in, q.symm.trans e⟩
  keeps := fun _ _ _ ⟨K, hK, c⟩ k => ⟨K, PySem.W.Frag.In.keeps hK k, c⟩
theorem obsFG_eq {n : Nat} {fa : List He.Fa} {fn : List He.DefD} {xa : List Xa} {g : Addr → Option Obj} {s : Shared} (h : ∀ a, g a = s.heap.get? a) : obsFG n fa fn xa g = (hookF n fa fn xa).obs s := by
  have e : g = s.heap.get? := funext h
  rw [e] <;> rfl
/-! ### the head's run in three: what each tells stands together -/
theorem newsK_is {α : Type} : ∀ (as : List Addr) (m : Nat) (acc : List Addr), ∃ x y, ∀ k : List Addr → Nat → α, newsK as m acc k = k x y
  | [], m, acc => ⟨acc, m, fun _ => rfl⟩
  | a :: r, m, acc => by
    cases hb : Nat.beq (Nat.land (Nat.shiftRight m a) 1) 0 with
    | true =>
      obtain ⟨x, y, e⟩ := newsK_is (α := α) r (Nat.lor m (Nat.shiftLeft 1 a)) (a :: acc)
      refine ⟨x, y, fun k => ?_⟩
      unfold newsK
      rw [frN_eq, hb]
      dsimp only
      rw [frN_eq]
      exact e k
    | false =>
      obtain ⟨x, y, e⟩ := newsK_is (α := α) r m acc
      refine ⟨x, y, fun k => ?_⟩
      unfold newsK
      rw [frN_eq, hb]
      exact e k
theorem walkK_is {α : Type} (g : Addr → Option Obj) : ∀ (n : Nat) (fr : List Addr) (m : Nat) (all : List Addr), ∃ x, ∀ k : List Addr → α, walkK g n fr m all k = k x
  | 0, _, _, all => ⟨all, fun _ => rfl⟩
  | n + 1, fr, m, all => by
    obtain ⟨x, y, e⟩ := newsK_is (α := α) (fr.flatMap fun a => match g a with
      | some o => He.refsD o
      | none => []) m []
    obtain ⟨z, e2⟩ := walkK_is (α := α) g n x y (all ++ x)
    refine ⟨z, fun k => ?_⟩
    unfold walkK
    rw [e, e2]
theorem obsFG_at (n : Nat) (g : Addr → Option Obj) : ∃ as, ∀ (fa : List He.Fa) (fn : List He.DefD) (xa : List Xa), obsFG n fa fn xa g = obsE fa fn xa (He.frG g as) := by
  obtain ⟨as, e⟩ := walkK_is (α := AlE) g n [mainGlobals] (Nat.shiftLeft 1 mainGlobals) [mainGlobals]
  refine ⟨as ++ [cStatics], fun fa fn xa => ?_⟩
  unfold obsFG
  rw [e, frK_eq]
theorem run_split {r : PySem.W.OpenRow} {q : Program} {n : Nat} {fa : List He.Fa} {fn : List He.DefD} {xa : List Xa} {M : Nat} {loose : List Str} {w : World} (j : Nat)
    (h1 : HandSHeadRun.RunEq r q (hookF n fa [] xa) (fun s => obsFG n fa [] xa (HandSHeadRun.getT s)) M loose w)
    (h2 : HandSHeadRun.RunEq r q (hookF n [] (fn.take j) []) (fun s => obsFG n [] (fn.take j) [] (HandSHeadRun.getT s)) M loose w)
    (h3 : HandSHeadRun.RunEq r q (hookF n [] (fn.drop j) []) (fun s => obsFG n [] (fn.drop j) [] (HandSHeadRun.getT s)) M loose w) :
    HandSHeadRun.RunEq r q (hookF n fa fn xa) (fun s => obsFG n fa fn xa (HandSHeadRun.getT s)) M loose w := fun os => by
  have z1 := h1 os
  have z2 := h2 os
  have z3 := h3 os
  generalize HandSHeadRun.endF (HandSHeadRun.stepQ (HandSHeadRun.denQ HandSHeadRun.tabQ) r.prog w) M r.prog w os = R at z1 z2 z3 ⊢
  cases R with
  | none => cases z1
  | some s =>
    obtain ⟨as, e⟩ := obsFG_at n (HandSHeadRun.getT s)
    have z1 := Option.some.inj z1
    have z2 := Option.some.inj z2
    have z3 := Option.some.inj z3
    have w1 := Prod.mk.inj z1
    have v1 := Prod.mk.inj w1.2
    have v2 := Prod.mk.inj (Prod.mk.inj z2).2
    have v3 := Prod.mk.inj (Prod.mk.inj z3).2
    have y1 : obsE fa [] xa (He.frG (HandSHeadRun.getT s) as) = valE [] := (e fa [] xa).symm.trans v1.2
    have y2 : obsE [] (fn.take j) [] (He.frG (HandSHeadRun.getT s) as) = valE (fn.take j) := (e [] (fn.take j) []).symm.trans v2.2
    have y3 : obsE [] (fn.drop j) [] (He.frG (HandSHeadRun.getT s) as) = valE (fn.drop j) := (e [] (fn.drop j) []).symm.trans v3.2
    suffices y : obsFG n fa fn xa (HandSHeadRun.getT s) = valE fn from congrArg some (Prod.ext w1.1 (Prod.ext v1.1 y))
    rw [e]
    generalize He.frG (HandSHeadRun.getT s) as = K at y1 y2 y3
    unfold obsE valE He.obsD He.valD at y1 y2 y3 ⊢
    simp only [Prod.mk.injEq, Bool.and_eq_true, List.all_nil, List.map_nil, and_true, true_and] at y1 y2 y3 ⊢
    obtain ⟨a1, a2⟩ := y1
    obtain ⟨b1, b2⟩ := y2
    obtain ⟨c1, c2⟩ := y3
    refine ⟨⟨⟨a1, ?_⟩, ?_⟩, a2⟩
    · rw [← List.take_append_drop j fn, List.all_append, b1, c1]; rfl
    · rw [← List.take_append_drop j fn, List.map_append, List.map_append, b2, c2]
end Ab
namespace L_k24
open PySem PySem.Spec PyProof.Rows L2 Ab
def topS (i : Nat) : Stmt := PySem.Challenge.pw_holdlane_k24_nets_written.main.body.getD i (.Pass ⟨0, 0, 0, 0⟩)
def fn : List He.DefD := [⟨("part_shown", none), "part_shown", "part_shown", defArgs (topS 54), defBody (topS 54), defScope (topS 54), [], []⟩,
  ⟨("lane_shown", none), "lane_shown", "lane_shown", defArgs (topS 53), defBody (topS 53), defScope (topS 53), [], []⟩,
  ⟨("show_net", none), "show_net", "show_net", defArgs (topS 55), defBody (topS 55), defScope (topS 55), [], []⟩,
  ⟨("is_whole", none), "is_whole", "is_whole", defArgs (topS 18), defBody (topS 18), defScope (topS 18), [], []⟩,
  ⟨("is_value", none), "is_value", "is_value", defArgs (topS 19), defBody (topS 19), defScope (topS 19), [], []⟩,
  ⟨("made_as", none), "made_as", "made_as", defArgs (topS 37), defBody (topS 37), defScope (topS 37), [], []⟩,
  ⟨("is_kind", none), "is_kind", "is_kind", defArgs (topS 36), defBody (topS 36), defScope (topS 36), [], []⟩,
  ⟨("part_made", none), "part_made", "part_made", defArgs (topS 38), defBody (topS 38), defScope (topS 38), [], []⟩,
  ⟨("is_name", none), "is_name", "is_name", defArgs (topS 20), defBody (topS 20), defScope (topS 20), [], []⟩,
  ⟨("need_name", none), "need_name", "need_name", defArgs (topS 43), defBody (topS 43), defScope (topS 43), [], []⟩,
  ⟨("need_room", none), "need_room", "need_room", defArgs (topS 44), defBody (topS 44), defScope (topS 44), [], []⟩,
  ⟨("are_names", none), "are_names", "are_names", defArgs (topS 49), defBody (topS 49), defScope (topS 49), [], []⟩,
  ⟨("number_in", none), "number_in", "number_in", defArgs (topS 21), defBody (topS 21), defScope (topS 21), [], []⟩,
  ⟨("numbers_of", none), "numbers_of", "numbers_of", defArgs (topS 48), defBody (topS 48), defScope (topS 48), [], []⟩,
  ⟨("part_told", none), "part_told", "part_told", defArgs (topS 51), defBody (topS 51), defScope (topS 51), [], []⟩,
  ⟨("lane_of", none), "lane_of", "lane_of", defArgs (topS 50), defBody (topS 50), defScope (topS 50), [], []⟩,
  ⟨("words_of", none), "words_of", "words_of", defArgs (topS 22), defBody (topS 22), defScope (topS 22), [], []⟩,
  ⟨("read_net", none), "read_net", "read_net", defArgs (topS 52), defBody (topS 52), defScope (topS 52), [], []⟩,
  ⟨("_law_rows", none), "_law_rows", "_law_rows", defArgs (topS 70), defBody (topS 70), defScope (topS 70), [], []⟩,
  ⟨("_law_told", none), "_law_told", "_law_told", defArgs (topS 69), defBody (topS 69), defScope (topS 69), [], []⟩,
  ⟨("_law_mix", none), "_law_mix", "_law_mix", defArgs (topS 58), defBody (topS 58), defScope (topS 58), [], []⟩,
  ⟨("_law_value", none), "_law_value", "_law_value", defArgs (topS 59), defBody (topS 59), defScope (topS 59), [], []⟩,
  ⟨("_law_cell", none), "_law_cell", "_law_cell", defArgs (topS 57), defBody (topS 57), defScope (topS 57), [], []⟩,
  ⟨("_law_word", none), "_law_word", "_law_word", defArgs (topS 60), defBody (topS 60), defScope (topS 60), [], []⟩,
  ⟨("_law_lane", none), "_law_lane", "_law_lane", defArgs (topS 61), defBody (topS 61), defScope (topS 61), [], []⟩,
  ⟨("_law_part", none), "_law_part", "_law_part", defArgs (topS 62), defBody (topS 62), defScope (topS 62), [], []⟩,
  ⟨("_law_closed", none), "_law_closed", "_law_closed", defArgs (topS 67), defBody (topS 67), defScope (topS 67), [], []⟩,
  ⟨("_law_loop", none), "_law_loop", "_law_loop", defArgs (topS 65), defBody (topS 65), defScope (topS 65), [], []⟩,
  ⟨("_law_pick", none), "_law_pick", "_law_pick", defArgs (topS 63), defBody (topS 63), defScope (topS 63), [], []⟩,
  ⟨("_law_two", none), "_law_two", "_law_two", defArgs (topS 64), defBody (topS 64), defScope (topS 64), [], []⟩,
  ⟨("_law_step", none), "_law_step", "_law_step", defArgs (topS 66), defBody (topS 66), defScope (topS 66), [], []⟩,
  ⟨("_law_net", none), "_law_net", "_law_net", defArgs (topS 68), defBody (topS 68), defScope (topS 68), [], []⟩,
  ⟨("law", none), "law", "law", defArgs (topS 71), defBody (topS 71), defScope (topS 71), [], []⟩,
  ⟨("Net", some "joined"), "joined", "Net.joined", defArgs (inClass (topS 45) 3), defBody (inClass (topS 45) 3), defScope (inClass (topS 45) 3), [], []⟩,
  ⟨("Give", some "kind"), "kind", "Give.kind", defArgs (inClass (topS 25) 0), defBody (inClass (topS 25) 0), defScope (inClass (topS 25) 0), [], []⟩,
  ⟨("Take", some "kind"), "kind", "Take.kind", defArgs (inClass (topS 26) 0), defBody (inClass (topS 26) 0), defScope (inClass (topS 26) 0), [], []⟩,
  ⟨("Pass", some "kind"), "kind", "Pass.kind", defArgs (inClass (topS 27) 0), defBody (inClass (topS 27) 0), defScope (inClass (topS 27) 0), [], []⟩,
  ⟨("Copy", some "kind"), "kind", "Copy.kind", defArgs (inClass (topS 28) 0), defBody (inClass (topS 28) 0), defScope (inClass (topS 28) 0), [], []⟩,
  ⟨("Turn", some "kind"), "kind", "Turn.kind", defArgs (inClass (topS 29) 0), defBody (inClass (topS 29) 0), defScope (inClass (topS 29) 0), [], []⟩,
  ⟨("Heap", some "kind"), "kind", "Heap.kind", defArgs (inClass (topS 30) 0), defBody (inClass (topS 30) 0), defScope (inClass (topS 30) 0), [], []⟩,
  ⟨("Add", some "kind"), "kind", "Add.kind", defArgs (inClass (topS 31) 0), defBody (inClass (topS 31) 0), defScope (inClass (topS 31) 0), [], []⟩,
  ⟨("Less", some "kind"), "kind", "Less.kind", defArgs (inClass (topS 32) 0), defBody (inClass (topS 32) 0), defScope (inClass (topS 32) 0), [], []⟩,
  ⟨("Order", some "kind"), "kind", "Order.kind", defArgs (inClass (topS 33) 0), defBody (inClass (topS 33) 0), defScope (inClass (topS 33) 0), [], []⟩,
  ⟨("Choose", some "kind"), "kind", "Choose.kind", defArgs (inClass (topS 34) 0), defBody (inClass (topS 34) 0), defScope (inClass (topS 34) 0), [], []⟩,
  ⟨("Split", some "kind"), "kind", "Split.kind", defArgs (inClass (topS 35) 0), defBody (inClass (topS 35) 0), defScope (inClass (topS 35) 0), [], []⟩,
  ⟨("Net", some "lay_hold"), "lay_hold", "Net.lay_hold", defArgs (inClass (topS 45) 2), defBody (inClass (topS 45) 2), defScope (inClass (topS 45) 2), [], []⟩,
  ⟨("Net", some "put_in"), "put_in", "Net.put_in", defArgs (inClass (topS 45) 1), defBody (inClass (topS 45) 1), defScope (inClass (topS 45) 1), [], []⟩,
  ⟨("Net", some "told"), "told", "Net.told", defArgs (inClass (topS 45) 16), defBody (inClass (topS 45) 16), defScope (inClass (topS 45) 16), [], []⟩,
  ⟨("Give", some "wants"), "wants", "Give.wants", defArgs (inClass (topS 25) 1), defBody (inClass (topS 25) 1), defScope (inClass (topS 25) 1), [], []⟩,
  ⟨("Take", some "wants"), "wants", "Take.wants", defArgs (inClass (topS 26) 1), defBody (inClass (topS 26) 1), defScope (inClass (topS 26) 1), [], []⟩,
  ⟨("Pass", some "wants"), "wants", "Part.wants", defArgs (inClass (topS 24) 2), defBody (inClass (topS 24) 2), defScope (inClass (topS 24) 2), [], []⟩,
  ⟨("Copy", some "wants"), "wants", "Copy.wants", defArgs (inClass (topS 28) 1), defBody (inClass (topS 28) 1), defScope (inClass (topS 28) 1), [], []⟩,
  ⟨("Turn", some "wants"), "wants", "Turn.wants", defArgs (inClass (topS 29) 1), defBody (inClass (topS 29) 1), defScope (inClass (topS 29) 1), [], []⟩,
  ⟨("Heap", some "wants"), "wants", "Heap.wants", defArgs (inClass (topS 30) 1), defBody (inClass (topS 30) 1), defScope (inClass (topS 30) 1), [], []⟩,
  ⟨("Add", some "wants"), "wants", "Add.wants", defArgs (inClass (topS 31) 1), defBody (inClass (topS 31) 1), defScope (inClass (topS 31) 1), [], []⟩,
  ⟨("Less", some "wants"), "wants", "Less.wants", defArgs (inClass (topS 32) 1), defBody (inClass (topS 32) 1), defScope (inClass (topS 32) 1), [], []⟩,
  ⟨("Order", some "wants"), "wants", "Order.wants", defArgs (inClass (topS 33) 1), defBody (inClass (topS 33) 1), defScope (inClass (topS 33) 1), [], []⟩,
  ⟨("Choose", some "wants"), "wants", "Choose.wants", defArgs (inClass (topS 34) 1), defBody (inClass (topS 34) 1), defScope (inClass (topS 34) 1), [], []⟩,
  ⟨("Split", some "wants"), "wants", "Split.wants", defArgs (inClass (topS 35) 1), defBody (inClass (topS 35) 1), defScope (inClass (topS 35) 1), [], []⟩,
  ⟨("Add", some "__init__"), "__init__", "Part.__init__", defArgs (inClass (topS 24) 0), defBody (inClass (topS 24) 0), defScope (inClass (topS 24) 0), [], []⟩,
  ⟨("Choose", some "__init__"), "__init__", "Part.__init__", defArgs (inClass (topS 24) 0), defBody (inClass (topS 24) 0), defScope (inClass (topS 24) 0), [], []⟩,
  ⟨("Copy", some "__init__"), "__init__", "Part.__init__", defArgs (inClass (topS 24) 0), defBody (inClass (topS 24) 0), defScope (inClass (topS 24) 0), [], []⟩,
  ⟨("Give", some "__init__"), "__init__", "Part.__init__", defArgs (inClass (topS 24) 0), defBody (inClass (topS 24) 0), defScope (inClass (topS 24) 0), [], []⟩,
  ⟨("Heap", some "__init__"), "__init__", "Part.__init__", defArgs (inClass (topS 24) 0), defBody (inClass (topS 24) 0), defScope (inClass (topS 24) 0), [], []⟩,
  ⟨("Less", some "__init__"), "__init__", "Part.__init__", defArgs (inClass (topS 24) 0), defBody (inClass (topS 24) 0), defScope (inClass (topS 24) 0), [], []⟩,
  ⟨("Net", some "__init__"), "__init__", "Net.__init__", defArgs (inClass (topS 45) 0), defBody (inClass (topS 45) 0), defScope (inClass (topS 45) 0), [], []⟩,
  ⟨("Order", some "__init__"), "__init__", "Part.__init__", defArgs (inClass (topS 24) 0), defBody (inClass (topS 24) 0), defScope (inClass (topS 24) 0), [], []⟩,
  ⟨("Pass", some "__init__"), "__init__", "Part.__init__", defArgs (inClass (topS 24) 0), defBody (inClass (topS 24) 0), defScope (inClass (topS 24) 0), [], []⟩,
  ⟨("Split", some "__init__"), "__init__", "Part.__init__", defArgs (inClass (topS 24) 0), defBody (inClass (topS 24) 0), defScope (inClass (topS 24) 0), [], []⟩,
  ⟨("Take", some "__init__"), "__init__", "Part.__init__", defArgs (inClass (topS 24) 0), defBody (inClass (topS 24) 0), defScope (inClass (topS 24) 0), [], []⟩,
  ⟨("Turn", some "__init__"), "__init__", "Part.__init__", defArgs (inClass (topS 24) 0), defBody (inClass (topS 24) 0), defScope (inClass (topS 24) 0), [], []⟩]
def fa : List He.Fa := [.free "str", .free "list", .free "isinstance", .free "int", .free "bool", .int "VALUES" 1000000000, .free "tuple", .free "len", .str "LETTERS" "abcdefghijklmnopqrstuvwxyz", .str "FIGURES" "0123456789", .int "MOST_ROOM" 199, .int "MOST_LANES" 24, .int "MOST_PARTS" 16, .free "all", .exc "BadWord", .glo "BadWord", .int "MOST_NUMBER" 999999999, .free "enumerate", .free "range", .free "max", .glo "part_shown", .glo "lane_shown", .glo "show_net", .glo "is_whole", .glo "is_value", .glo "made_as", .glo "is_kind", .glo "part_made", .glo "is_name", .glo "need_name", .glo "need_room", .glo "are_names", .glo "number_in", .glo "numbers_of", .glo "part_told", .glo "lane_of", .glo "words_of", .glo "read_net", .glo "_law_rows", .glo "_law_told", .glo "_law_mix", .glo "_law_value", .glo "_law_cell", .glo "_law_word", .glo "_law_lane", .glo "_law_part", .glo "_law_closed", .glo "_law_loop", .glo "_law_pick", .glo "_law_two", .glo "_law_step", .glo "_law_net", .glo "law", .cls "Give", .noat "Give" "name", .noat "Give" "numbers", .noat "Give" "ins", .noat "Give" "outs", .noat "Give" "rooms", .noat "Give" "firsts", .noat "Give" "givers", .noat "Give" "takers", .noat "Give" "members", .cls "Take", .noat "Take" "name", .noat "Take" "numbers", .noat "Take" "ins", .noat "Take" "outs", .noat "Take" "rooms", .noat "Take" "firsts", .noat "Take" "givers", .noat "Take" "takers", .noat "Take" "members", .cls "Pass", .noat "Pass" "name", .noat "Pass" "numbers", .noat "Pass" "ins", .noat "Pass" "outs", .noat "Pass" "rooms", .noat "Pass" "firsts", .noat "Pass" "givers", .noat "Pass" "takers", .noat "Pass" "members", .cls "Copy", .noat "Copy" "name", .noat "Copy" "numbers", .noat "Copy" "ins", .noat "Copy" "outs", .noat "Copy" "rooms", .noat "Copy" "firsts", .noat "Copy" "givers", .noat "Copy" "takers", .noat "Copy" "members", .cls "Turn", .noat "Turn" "name", .noat "Turn" "numbers", .noat "Turn" "ins", .noat "Turn" "outs", .noat "Turn" "rooms", .noat "Turn" "firsts", .noat "Turn" "givers", .noat "Turn" "takers", .noat "Turn" "members", .cls "Heap", .noat "Heap" "name", .noat "Heap" "numbers", .noat "Heap" "ins", .noat "Heap" "outs", .noat "Heap" "rooms", .noat "Heap" "firsts", .noat "Heap" "givers", .noat "Heap" "takers", .noat "Heap" "members", .cls "Add", .noat "Add" "name", .noat "Add" "numbers", .noat "Add" "ins", .noat "Add" "outs", .noat "Add" "rooms", .noat "Add" "firsts", .noat "Add" "givers", .noat "Add" "takers", .noat "Add" "members", .cls "Less", .noat "Less" "name", .noat "Less" "numbers", .noat "Less" "ins", .noat "Less" "outs", .noat "Less" "rooms", .noat "Less" "firsts", .noat "Less" "givers", .noat "Less" "takers", .noat "Less" "members", .cls "Order", .noat "Order" "name", .noat "Order" "numbers", .noat "Order" "ins", .noat "Order" "outs", .noat "Order" "rooms", .noat "Order" "firsts", .noat "Order" "givers", .noat "Order" "takers", .noat "Order" "members", .cls "Choose", .noat "Choose" "name", .noat "Choose" "numbers", .noat "Choose" "ins", .noat "Choose" "outs", .noat "Choose" "rooms", .noat "Choose" "firsts", .noat "Choose" "givers", .noat "Choose" "takers", .noat "Choose" "members", .cls "Split", .noat "Split" "name", .noat "Split" "numbers", .noat "Split" "ins", .noat "Split" "outs", .noat "Split" "rooms", .noat "Split" "firsts", .noat "Split" "givers", .noat "Split" "takers", .noat "Split" "members", .cls "Net", .noat "Net" "name", .noat "Net" "numbers", .noat "Net" "ins", .noat "Net" "outs", .noat "Net" "rooms", .noat "Net" "firsts", .noat "Net" "givers", .noat "Net" "takers", .noat "Net" "members", .meth "Split" "kind", .meth "Choose" "kind", .meth "Order" "kind", .meth "Less" "kind", .meth "Add" "kind", .meth "Heap" "kind", .meth "Turn" "kind", .meth "Copy" "kind", .meth "Pass" "kind", .meth "Take" "kind", .meth "Give" "kind", .meth "Net" "told", .glo "Add", .mkr "Add", .glo "Choose", .mkr "Choose", .glo "Copy", .mkr "Copy", .glo "Give", .mkr "Give", .glo "Heap", .mkr "Heap", .glo "Less", .mkr "Less", .glo "Order", .mkr "Order", .glo "Pass", .mkr "Pass", .glo "Split", .mkr "Split", .glo "Take", .mkr "Take", .glo "Turn", .mkr "Turn", .meth "Split" "wants", .meth "Choose" "wants", .meth "Order" "wants", .meth "Less" "wants", .meth "Add" "wants", .meth "Heap" "wants", .meth "Turn" "wants", .meth "Copy" "wants", .meth "Pass" "wants", .meth "Take" "wants", .meth "Give" "wants", .meth "Net" "lay_hold", .meth "Net" "joined", .meth "Net" "put_in", .glo "Net", .mkr "Net"]
def xa : List Xa := [.exm "BadWord" "BadWord" true]
abbrev R : PySem.W.OpenRow := PySem.W.OpenLaw.row PySem.Challenge.rw_holdlane_k24_nets_written
abbrev hk : PySem.W.Hook := hookF 4 fa fn xa
def ob (s : PySem.W.SharedT) : AlE := obsFG 4 fa fn xa (HandSHeadRun.getT s)
theorem ob_eq (s : PySem.W.SharedT) : ob s = hk.obs s.abs := obsFG_eq (HandSHeadRun.getT_eq s)
def loose : List Str := ("_wall" : Str) :: ("LaneError" : Str) :: ("BadWord" : Str) :: ("TooMany" : Str) :: ("BadLine" : Str) :: ("NoKind" : Str) :: ("BadName" : Str) :: ("Doubled" : Str) :: ("BadNumbers" : Str) :: ("BadLanes" : Str) :: ("BadRoom" : Str) :: ("Open" : Str) :: ("Loose" : Str) :: ("LETTERS" : Str) :: ("FIGURES" : Str) :: ("VALUES" : Str) :: ("is_whole" : Str) :: ("is_value" : Str) :: ("is_name" : Str) :: ("number_in" : Str) :: ("words_of" : Str) :: ("Part" : Str) :: ("Give" : Str) :: ("Take" : Str) :: ("Pass" : Str) :: ("Copy" : Str) :: ("Turn" : Str) :: ("Heap" : Str) :: ("Add" : Str) :: ("Less" : Str) :: ("Order" : Str) :: ("Choose" : Str) :: ("Split" : Str) :: ("is_kind" : Str) :: ("made_as" : Str) :: ("part_made" : Str) :: ("MOST_LANES" : Str) :: ("MOST_PARTS" : Str) :: ("MOST_ROOM" : Str) :: ("need_name" : Str) :: ("need_room" : Str) :: ("Net" : Str) :: ("MOST_NUMBER" : Str) :: ("numbers_of" : Str) :: ("are_names" : Str) :: ("lane_of" : Str) :: ("part_told" : Str) :: ("read_net" : Str) :: ("lane_shown" : Str) :: ("part_shown" : Str) :: ("show_net" : Str) :: ("_law_cell" : Str) :: ("_law_mix" : Str) :: ("_law_value" : Str) :: ("_law_word" : Str) :: ("_law_lane" : Str) :: ("_law_part" : Str) :: ("_law_pick" : Str) :: ("_law_two" : Str) :: ("_law_loop" : Str) :: ("_law_step" : Str) :: ("_law_closed" : Str) :: ("_law_net" : Str) :: ("_law_told" : Str) :: ("_law_rows" : Str) :: []
theorem runA (w : World) : HandSHeadRun.RunEq R (PySem.W.view R.prog [71]) (hookF 4 fa [] xa) (fun s => obsFG 4 fa [] xa (HandSHeadRun.getT s)) 40000 loose w := by
  intro os
  kernel_rfl
theorem runB (w : World) : HandSHeadRun.RunEq R (PySem.W.view R.prog [71]) (hookF 4 [] (fn.take 35) []) (fun s => obsFG 4 [] (fn.take 35) [] (HandSHeadRun.getT s)) 40000 loose w := by
  intro os
  kernel_rfl
theorem runC (w : World) : HandSHeadRun.RunEq R (PySem.W.view R.prog [71]) (hookF 4 [] (fn.drop 35) []) (fun s => obsFG 4 [] (fn.drop 35) [] (HandSHeadRun.getT s)) 40000 loose w := by
  intro os
  kernel_rfl
theorem run (w : World) : HandSHeadRun.RunEq R (PySem.W.view R.prog [71]) hk ob 40000 loose w := run_split 35 (runA w) (runB w) (runC w)
end L_k24
namespace Ab
open PySem PySem.Spec PyProof.Rows L2
/-! ### exceptions with an own __init__ -/
section
variable {X : Cx} {e : Expr} {es : List Expr} {ta : TA} {p1 p2 pos : Pos}
theorem pe_lane {pl : Sem Bool} {x : Str} (hg : Gl X x) (gC : X.mg x = some (.ref (He.ga X.K x))) (L : LanC X.K (He.ga X.K x)) (ha : PA X (e :: es) ta) (hdb : (x == ("__debug__" : Str)) = false := by decide)
    (hc : eval (.Call (.Attribute (.Name x p1) "__init__" p2) (e :: es) [] pos) X.env = (do
      let ov ← eval (.Name x p1) X.env
      standAt p2.atName
      let (f, first) ← holding [ov] (getMethod ov "__init__" pl)
      callWith pos f first (backTo pos (starEach (e :: es) X.env)) (backToKw pos (keywordEach [] X.env))) := by rfl)
    (he : starEach (e :: es) X.env = (false, eval e X.env) :: starEach es X.env := by rfl) (hpl : (backTo pos (starEach es X.env)).any (·.1) = false := by rfl) :
    PE X (.Call (.Attribute (.Name x p1) "__init__" p2) (e :: es) [] pos) (tVeI X.K ta) := by
  refine ⟨fun pins s σ H Q I h => ?_⟩
  refine PySem.W.methodCall_KW (ld_glob I hg gC ?_ hdb) hc
  refine PySem.W.method_cls I.kIn L.ga (PySem.W.cls_value I.kIn L.rd L.fi (by decide +kernel) ?_)
  show wpAny _ _ (callWith pos (Value.builtin "ValueError.__init__") [] (backTo pos (starEach (e :: es) X.env)) []) _ _ _
  refine PyProof.Rows.callWith_method1 (thn (ha.run pos pins _ σ H _ (I.tok _) h) fun us s1 ⟨vs, H1, I1, r1, a, C, ws, ev, hl, T, ea, q⟩ => ?_) he hpl
  subst ev
  cases r1 with
  | @cons _ u0 _ ur ra rw' =>
    obtain rfl : u0 = Value.ref a := ra
    have hlen : ur.length ≤ sizeLine := by
      rw [← Paired.length rw', sizeLine_eq]
      omega
    exact oinit_ok T I1 ea hlen fun s' J => ⟨.non, H1, J, rfl, q⟩
end
/-- what such an __init__ does -/
def xiSp (K : PySem.W.Frag) (fld : Str) : Sp := fun vs H Q _ => ∃ (a C : Addr) (y : V), vs = [.ref a, y] ∧ OexC K C ∧ PySem.W.findIn K (.ref C) fld = some none ∧ H a = some (exo a C none) ∧
  ∀ dx, H dx = none → dx ≠ a → Q .non (upd (upd H dx (exd dx [(fld, y)])) a (exo a C (some dx)))
section
variable {P : Program} {w : World} {K : PySem.W.Frag} {mg : Str → Option Value} {base : Heap}
theorem mkXInit {x qual : Str} {params : Arguments} {body : List Stmt} {scope : Scope} {f : Addr} {fd : FuncData} {k : Nat} {nm fld msg : Str}
    (F : FunD K x qual params body scope [] [] f fd) (S : FnScope ["self", nm] ["self", nm] scope) (gC : mg "LaneError" = some (.ref (He.ga K "LaneError"))) (L : LanC K (He.ga K "LaneError"))
    (h1 : ∀ (cdv : Value) (A : Around) (outer : List Env) (s : Shared) (H : Hp) (E : XK), PSs (cxOf (L2.CX P w) P w K mg base ["self", nm] qual scope f cdv A outer s H E) body
      (fun D σ H => tVeI K (tCons (tVar 0) (tCons (tC (.str msg)) tNil)) σ H (fun _ H1 => tOst K fld (tVar 0) (tVar 1) D σ H1))) : FnOk P w K mg base (L2.CX P w) (k + 1) f fd ["self", nm] (xiSp K fld) := by
  refine F.ok S (fun vs H Q E h => by obtain ⟨a, C, y, rfl, _⟩ := h; rfl) (fun cdv A outer s H vs Q E hr h => ?_)
  obtain ⟨a, C, y, rfl, T, hno, ha, hk⟩ := h
  refine ⟨_, h1 cdv A outer s H E, ?_⟩
  exact ⟨.ref a, rfl, a, C, [.str msg], rfl, (by show 1 ≤ 1000; decide), T, ha, y, rfl, .ref a, rfl, a, C, rfl, T, hno, .inl ⟨ha, fun dx n ne => hk dx n ne⟩⟩
/-- an exception class with an own __init__ that keeps one field, as it stands behind the top -/
structure XiF (P : Program) (w : World) (K : PySem.W.Frag) (mg : Str → Option Value) (base : Heap) (k : Nat) (x fld : Str) : Prop where
  ex : ∃ (fI : Addr) (fd : FuncData) (nm : Str), OexC K (He.ga K x) ∧ PySem.W.findIn K (.ref (He.ga K x)) "__init__" = some (some (.ref fI)) ∧ PySem.W.typeIn K (.ref fI) = some (.type "function") ∧
    FnOk P w K mg base (L2.CX P w) k fI fd ["self", nm] (xiSp K fld) ∧ Binds K fd ["self", nm] [] ∧ PySem.W.findIn K (.ref (He.ga K x)) fld = some none ∧ mg x = some (.ref (He.ga K x))
end
/-- raise C(e), the field told -/
def aRaise1 (C : Addr) (f : Str) (t : AE) : AS := fun A e m => aE t A e m fun d m1 => A.ex ⟨C, some (f, d)⟩ e m1
section
variable {X : Cx} {a : Expr} {ta : AE} {pos : Pos}
theorem qs_raise1 {x fld : Str} {k j : Nat} {p p2 : Pos} (hc : X.calm = true) (E : XiF X.prog X.w X.K X.mg X.base k x fld) (hr : Room j X.A) (hk : k + 1 ≤ j) (ha : QE X a ta) (hg : Gl X x := by rfl)
    (hs : starEach [a] X.env = (false, eval a X.env) :: starEach [] X.env := by rfl) (hdb : (x == ("__debug__" : Str)) = false := by decide) (hpl : (backTo p2 (starEach [] X.env)).any (·.1) = false := by rfl) :
    QS X (.Raise (some (.Call (.Name x p) [a] [] p2)) none pos) (aRaise1 (He.ga X.K x) fld ta) := fun W tk po => by
  obtain ⟨fI, fd, nm, T, iC, tI, F1, hb, hno, gC⟩ := E.ex
  refine (ps_raise hc tk (pmk_oex T iC tI F1 (hr.mono hk) hb .nil passL hg gC (pa_cons (ha W tk) pa_nil hs) hdb hs hpl)).imp fun D s H ⟨F, e, m, r, A, he, hn, h, g⟩ => ?_
  refine use_E he hn g h fun F1 H1 m1 v d k1 n1 r1 q1 => ?_
  refine ⟨by show 1 ≤ 1000; decide, fun b hb1 => ⟨b, _, v, rfl, T, hno, upd_same, fun dx hdx ne => ⟨rfl, dx, [(fld, v)], upd_same, ?_, ?_, ?_⟩⟩⟩
  · rw [upd_ne ne, upd_same]
  · rw [← hdx, upd_ne ne]
  · have hdx1 : H1 dx = none := by rw [← hdx, upd_ne ne]
    have e1 : upd (del (upd (upd (upd H1 b (exo b (He.ga X.K x) none)) dx (exd dx [(fld, v)])) b (exo b (He.ga X.K x) (some dx))) b) dx (.xd [(fld, v)]) = upd H1 dx (.xd [(fld, v)]) := by
      funext z
      by_cases hz : z = dx
      · rw [hz, upd_same, upd_same]
      · rw [upd_ne hz, upd_ne hz]
        by_cases hzb : z = b
        · rw [hzb, del_same, hb1]
        · rw [del_ne hzb, upd_ne hzb, upd_ne hz, upd_ne hzb]
    rw [e1]
    have sm := n1.same hdx1 (.xd [(fld, v)])
    exact g.ex _ _ m1 s e _ _ ⟨He.ga X.K x, some (fld, d)⟩ (k1.trans sm) (he.mono (k1.trans sm)) (n1.new hdx1 _) ⟨rfl, (fun z => nomatch z), fun f' d' z => by
      cases z
      exact ⟨dx, v, rfl, upd_same, r1.mono sm⟩⟩ q1
end
/-! ### e.f in a suite -/
def aXFld (K : PySem.W.Frag) (a : Addr) (dd : Option Addr) (C : Addr) (f : Str) (t : AE) : AE := fun e m Q X => XfC K C ∧ PySem.W.findIn K (.ref C) f = some none ∧ t e m (fun d m1 => ∃ b v, dd = some b ∧ d = .exc a C b f v ∧ Q v m1) X
theorem q_xfld {Y : Cx} {o : Expr} {t : AE} {ad C : Addr} {oe : Obj} {dd : Option Addr} {pn : List (Addr × Obj)} {f : Str} {pos : Pos} (hz : Zc (.ref C) dd oe) (hv : ∃ vs, oe.data = .fields vs) (ho : QE (Y.suite ad ((ad, oe) :: pn)) o t)
    (hb : attributeBase o f (Y.suite ad ((ad, oe) :: pn)).env (eval o (Y.suite ad ((ad, oe) :: pn)).env) = eval o (Y.suite ad ((ad, oe) :: pn)).env := by rfl) : QE (Y.suite ad ((ad, oe) :: pn)) (.Attribute o f pos) (aXFld Y.K ad dd C f t) := fun W tk => ⟨fun pins s σ H Qc I h => by
  obtain ⟨F, e, m, r, Q, X, he, hn, ⟨T, hno, h⟩, g, gx⟩ := h
  refine (pe_xf (X := Y) T hno hz hv (ho W tk) hb).run pins s σ H Qc I ?_
  refine ⟨F, e, m, r, _, X, he, hn, h, fun F1 H1 m1 v d s1 n1 r1 q1 => ?_, gx⟩
  obtain ⟨b, w, rfl, rfl, q⟩ := q1
  cases r1 with
  | exc e1 r2 =>
    rename_i v0
    refine ⟨rfl, rfl, b, [(f, v0)], v0, rfl, ?_, by rw [List.lookup_cons_self], g F1 H1 m1 _ _ s1 n1 r2 q⟩
    rcases n1.cov _ _ e1 with z | ⟨_, _, z, _⟩
    · exact z
    · cases z⟩
section
variable {e : De} {m : Mu} {ta tb tc : AE} {tr : AA} {d x y z : D} {xs : List D} {N B C : De → Mu → Prop} {R : QD} {E : Ex → De → Mu → Prop}
theorem k_raise1 {Cl : Addr} {f : Str} (h : Ev ta e m d) (k : E ⟨Cl, some (f, d)⟩ e m) : aRaise1 Cl f ta ⟨N, R, B, C, E⟩ e m := h _ _ k
theorem ev_xfld {K : PySem.W.Frag} {a b Cl : Addr} {f : Str} {v : D} (h : Ev ta e m (.exc a Cl b f v)) (T : XfC K Cl) (hno : PySem.W.findIn K (.ref Cl) f = some none) : Ev (aXFld K a (some b) Cl f ta) e m v := fun Q X q => ⟨T, hno, h _ _ ⟨b, v, rfl, rfl, q⟩⟩
end
end Ab
namespace Ab
open PySem PySem.Spec PyProof.Rows L2
/-! ### try: .. with several clauses `except C as n:` -/
abbrev TsH := Addr → Value → Option Addr → TS
def endsGone (i : Nat) (D : Ends) : Ends := { nx := fun σ' H' => D.nx (σ'.set i none) H', rt := D.rt, bk := fun σ' H' => D.bk (σ'.set i none) H', ct := fun σ' H' => D.ct (σ'.set i none) H' }
def wAsM (K : PySem.W.Frag) (Wout : WX) (D : Ends) : List (Value × Nat × TsH) → WX
  | [] => Wout
  | (c, i, ts) :: r => fun cls d σ H => ∃ b, PySem.W.exmOne K cls c = some b ∧ (b = true → ∀ a, H a = none → ts a cls d (endsGone i D) (σ.set i (some (.ref a))) H) ∧ (b = false → wAsM K Wout D r cls d σ H)
inductive HdA (X : Cx) : List ExceptHandler → List (Value × Nat × TsH) → Prop
  | nil : HdA X [] []
  | cons {x n : Str} {c : Value} {i : Nat} {ts : TsH} {b₀ : Stmt} {suite : List Stmt} {np pos' : Pos} {hds : List ExceptHandler} {l : List (Value × Nat × TsH)} (hc : Names X x c) (hi : X.N[i]? = some n) (hln : X.env.kindOf n = some .local)
      (hsu : ∀ (a : Addr) (oe : Obj) (cls : Value) (d : Option Addr) (pn : List (Addr × Obj)), Zc cls d oe → (∃ vs, oe.data = .fields vs) → PSs (X.suite a ((a, oe) :: pn)) (b₀ :: suite) (ts a cls d)) (r : HdA X hds l) :
      HdA X (.ExceptHandler (some (.Name x np)) (some n) (b₀ :: suite) pos' :: hds) ((c, i, ts) :: l)
section
variable {X : Cx} {body : List Stmt} {h₀ : ExceptHandler} {hds : List ExceptHandler} {l : List (Value × Nat × TsH)} {pos : Pos} {tb : WX → TS} {Wout : WX}
theorem ps_try_asM (hs : X.stack = X.env :: X.outer) (hf : X.env.frame = some X.env.locals) (hN : X.N.Nodup) (tk : Takes X Wout) (hb : ∀ (W : WX) (pn : List (Addr × Obj)) (xe : Value → Shared → Prop), Takes (X.tr pn xe) W → PassesOwn (model X.prog X.w) X.A X.env xe → PSs (X.tr pn xe) body (tb W))
    (hh : HdA X (h₀ :: hds) l) : PS X (.Try body (h₀ :: hds) [] [] pos) (fun D σ H => tb (wAsM X.K Wout D l) D σ H) := by
  refine ⟨fun pins s σ H D I h => ?_⟩
  have ok := I.ok; have hfr : X.A.frames = some (X.env :: X.outer) := by rw [ok.frames, hs]
  refine wpAny_Try_except (wpAny_mono ((hb (wAsM X.K Wout D l) (X.pn ++ pins) (fun e s₁ => wpAny (model X.prog X.w) X.A (noteFrame e X.env) (fun _ s₂ => wpAny (model X.prog X.w) X.A (setFlight e none) (fun _ s₃ => wpAny (model X.prog X.w) X.A (handleBy e X.env (h₀ :: hds)) (SP X pins D) X.xe s₃) X.xe s₂) X.xe s₁) (fun u s' xx => ?_) PassesOwn.looking).run [] s σ H D (I.toTry _) h) (fun f s1 hsp => ?_) (fun e s1 he => he))
  · obtain ⟨a, B, sI, pins', σ', H', cls, d, rfl, J', nb, up, sky, na, os, ag, w⟩ := xx
    have J : Inv X pins σ' H' sI := J'.ofTry ok; have sky' : Sky B (X.env :: X.outer) a (Zc cls d) X.env.locals s'.heap := by rw [← hs]; exact sky
    show wpAny (model X.prog X.w) X.A (noteFrame (.ref a) X.env) _ _ _
    refine Sky.land Zc.steady hfr hf sky' fun h3 fl3 up3 => ?_
    have J3 : Inv X pins σ' H' { s' with heap := h3 } := J.landed nb fl3.1 (up.trans up3) os ag; obtain ⟨oe3, vs3, he3, hz3, hd3⟩ := fl3.there
    have nfr : a ∉ frs (X.env :: X.outer) := fun hm => by obtain ⟨_, o', e', hnf⟩ := fl3.2.2.1.mem hm; rw [he3] at e'; cases e'; exact hnf _ hd3
    have nL : a ≠ X.env.locals := fun z => nfr (List.mem_filterMap.mpr ⟨X.env, List.mem_cons_self, by rw [hf, z]⟩)
    have nF : a ∉ X.fs := fun hm => by obtain ⟨e, he, q⟩ := List.mem_filterMap.mp hm; exact nfr (List.mem_filterMap.mpr ⟨e, List.mem_cons_of_mem _ he, q⟩)
    have S3 := J3.suite he3 hd3 na nL nF
    have go : ∀ {hds' : List ExceptHandler} {l' : List (Value × Nat × TsH)}, HdA X hds' l' → wAsM X.K Wout D l' cls d σ' H' → wpAny (model X.prog X.w) X.A (handleBy (.ref a) X.env hds') (SP X pins D) X.xe { s' with heap := h3 } := by
      intro hds' l' hk
      induction hk with
      | nil =>
        intro w
        refine wpAny_handleBy_nil ?_; obtain ⟨k1, k2, k3, oe, vs, T, oT, ts', he, hz, hd, h1, hr⟩ := id fl3; unfold PySem.passOn
        refine wpAny_bind (wpAny_field he hd h1 ?_); rw [if_neg (show ¬ ((Value.ref T == Value.none) = true) from by simp)]
        have fin : wpAny (model X.prog X.w) X.A (setFlight (.ref a) X.env.frame) (fun _ s4 => wpAny (model X.prog X.w) X.A (throw (.ref a) : Sem Flow) (SP X pins D) X.xe s4) X.xe { s' with heap := h3 } := by rw [hf]; refine HandSPX.setFlight_upZ fl3 fun h4 hh4 up4 => wpAny_throw (tk _ _ ⟨a, B, sI, pins, σ', H', cls, d, rfl, J, nb, (up.trans up3).trans up4, .inr (.inr (by rw [hs]; exact hh4)), na, os, ag, w⟩)
        first | exact wpAny_bind (wpAny_pure (wpAny_bind fin)) | exact wpAny_bind fin
      | @cons x n c i ts b₀ suite np pos' hds2 l2 hc hi hln hsu r ih =>
        intro w
        obtain ⟨b, hb1, hyes, hno⟩ := w; have hloc : Loc X.env.scope n := .inl hln
        refine wpAny_handleBy_cons (codeAny_handlers_test ?_) (by intro q; cases q)
        have LT : PySem.W.Looks (model X.prog X.w) h3 (typeOf (.ref a)) cls := fun A Q E s k q => wpAny_typeOf_ref (k _ _ he3) (by rw [hz3.1]; exact q); have LM := PySem.W.exm_one (M := model X.prog X.w) (J3.kIn) LT hb1
        have test : ∀ {Q : Value → Shared → Prop} {E : Value → Shared → Prop}, Q c { s' with heap := h3 } → wpAny (model X.prog X.w) (X.A.mark (some (.ref a))) (eval (.Name x np) X.env) Q E { s' with heap := h3 } := fun {Q E} q => by obtain ⟨hg, hdbg, hm | ⟨hm, hv, hnn⟩⟩ := hc; exact ld_glob (X := X.suite a ((a, oe3) :: (X.pn ++ pins))) S3 hg hm q hdbg; exact ld_blt (X := X.suite a ((a, oe3) :: (X.pn ++ pins))) S3 hg hm hv q hnn hdbg
        refine test (LM.here ?_)
        cases b with
        | true =>
          refine codeAny_handlers_suite_as (HandSPX.lands_againZ fl3 fun h4 fl4 up4 => ?_)
          have J4 : Inv X pins σ' H' { s' with heap := h4 } := J.landed nb fl4.1 ((up.trans up3).trans up4) os ag; obtain ⟨oe4, vs4, he4, hz4, hd4⟩ := fl4.there; have S4 := J4.suite he4 hd4 na nL nF
          refine store_ok (X := X.suite a ((a, oe4) :: (X.pn ++ pins))) (v := .ref a) S4 hN hi hloc rfl (fun s5 S5 => wpAny_mono ((hsu a oe4 cls d (X.pn ++ pins) hz4 ⟨_, hd4⟩).run [] s5 _ H' _ S5 (hyes rfl a na)) (fun f s6 hsp => ?_) (fun _ _ z => False.elim z)) (.inr hln)
          have end_ : ∀ {σ6 : L2.St} {H6 : Hp} {Q : Shared → Prop}, Inv (X.suite a ((a, oe4) :: (X.pn ++ pins))) [] σ6 H6 s6 → (∀ s7, Inv X pins (σ6.set i none) H6 s7 → Q s7) → wpAny (model X.prog X.w) X.A (do bindName X.env n .none; unbindBehindTheSuite X.env n pos') (fun _ s7 => Q s7) X.xe s6 := fun {σ6 H6 Q} S6 hq => gone_ok (S6.unsuite ok) hN hi hln hq
          cases f with
          | next => obtain ⟨σ6, H6, S6, q6⟩ := hsp; exact end_ S6 fun s7 J7 => ⟨_, _, J7, q6⟩
          | brk => obtain ⟨σ6, H6, S6, q6⟩ := hsp; exact end_ S6 fun s7 J7 => ⟨_, _, J7, q6⟩
          | cont => obtain ⟨σ6, H6, S6, q6⟩ := hsp; exact end_ S6 fun s7 J7 => ⟨_, _, J7, q6⟩
          | ret u => obtain ⟨v6, σ6, H6, S6, r6, q6⟩ := hsp; exact end_ S6 fun s7 J7 => ⟨_, _, _, J7, r6, q6⟩
        | false => show wpAny _ X.A (handleBy (.ref a) X.env hds2) _ _ _; exact ih (hno rfl)
    exact go hh w
  · cases f with
    | next => obtain ⟨σ', H', J', q⟩ := hsp; exact wpAny_execs_nil ⟨σ', H', J'.ofTry ok, q⟩
    | brk => obtain ⟨σ', H', J', q⟩ := hsp; exact ⟨σ', H', J'.ofTry ok, q⟩
    | cont => obtain ⟨σ', H', J', q⟩ := hsp; exact ⟨σ', H', J'.ofTry ok, q⟩
    | ret u => obtain ⟨v, σ', H', J', r, q⟩ := hsp; exact ⟨v, σ', H', J'.ofTry ok, r, q⟩
end
/-! over data -/
def exA (K : PySem.W.Frag) (A : AEnds) : List (Addr × Nat × TSx) → Ex → De → Mu → Prop
  | [], x, e, m => A.ex x e m
  | (C, i, ts) :: r, x, e, m => ∃ b, PySem.W.exmOne K (.ref x.C) (.ref C) = some b ∧ (b = true → aSuite i ts A x e m) ∧ (b = false → exA K A r x e m)
def aTryM (K : PySem.W.Frag) (l : List (Addr × Nat × TSx)) (t : AS) : AS := fun A e m => t ⟨A.nx, A.rt, A.bk, A.ct, exA K A l⟩ e m
def tsH (K : PySem.W.Frag) (ts : TSx) : TsH := fun a cls d D s H => ∃ F e m r A xx, cls = .ref xx.C ∧ EnvOk K F s e ∧ Sn K F H m r ∧ ts a d xx A e m ∧ GS K F r A D W0
inductive HdQ (X : Cx) : List ExceptHandler → List (Addr × Nat × TSx) → Prop
  | nil : HdQ X [] []
  | cons {x n : Str} {ts : TSx} {b₀ : Stmt} {suite : List Stmt} {np pos' : Pos} {hds : List ExceptHandler} {l : List (Addr × Nat × TSx)} (i : Nat) (E : X.mg x = some (.ref (He.ga X.K x))) (hsu : QSuite X (b₀ :: suite) ts) (r : HdQ X hds l) (hi : X.N[i]? = some n := by rfl) (hln : X.env.kindOf n = some .local := by rfl) (hg : Gl X x := by rfl)
      (hdb : (x == ("__debug__" : Str)) = false := by decide) : HdQ X (.ExceptHandler (some (.Name x np)) (some n) (b₀ :: suite) pos' :: hds) ((He.ga X.K x, i, ts) :: l)
theorem HdQ.toA {X : Cx} {hds : List ExceptHandler} {l : List (Addr × Nat × TSx)} (h : HdQ X hds l) : HdA X hds (l.map fun p => (Value.ref p.1, p.2.1, tsH X.K p.2.2)) := by
  induction h with
  | nil => exact .nil
  | cons i E hsu r hi hln hg hdb ih =>
    refine .cons ⟨hg, hdb, .inl E⟩ hi hln (fun a oe cls d pn hz hv => ⟨fun pins s σ H D I h => ?_⟩) ih
    obtain ⟨F, e, m, r, A, xx, rfl, he, hn, h, g⟩ := h
    exact (hsu a oe d pn xx hz hv W0 takes_w0 PassesOwn.never).run pins s σ H D I ⟨F, e, m, r, A, he, hn, h, g⟩
theorem exA_ok {K : PySem.W.Frag} {W : WX} {F r : Hp} {A : AEnds} {D : Ends} (g : GS K F r A D W) {F' H' : Hp} {m' : Mu} {s' : L2.St} {e' : De} {cls : Value} {dd : Option Addr} {xx : Ex} (k1 : Same F F') (he' : EnvOk K F' s' e') (hn' : Sn K F' H' m' r) (rx : RepX K F' H' m' cls dd xx) :
    ∀ l : List (Addr × Nat × TSx), exA K A l xx e' m' → wAsM K W D (l.map fun p => (Value.ref p.1, p.2.1, tsH K p.2.2)) cls dd s' H'
  | [], hx => g.ex F' H' m' s' e' cls dd xx k1 he' hn' rx hx
  | (C, i, ts) :: l, hx => by
    obtain ⟨b, hb1, hb2, hb3⟩ := hx
    refine ⟨b, by rw [rx.1]; exact hb1, fun z a na => ?_, fun z => exA_ok g k1 he' hn' rx l (hb3 z)⟩
    refine ⟨F', _, m', r, _, xx, rx.1, envOk_set he' (excD_ok rx), hn', hb2 z a dd (hn'.m_none na) rx.2.1 (fun ⟨p, hp⟩ => let ⟨b, v, q, _⟩ := rx.2.2 p.1 p.2 hp; ⟨b, q⟩), ?_⟩
    exact ⟨fun F2 H2 m2 s2 e2 k2 he2 hn2 q => g.nx F2 H2 m2 _ _ (k1.trans k2) (envOk_gone he2) hn2 q, fun F2 H2 m2 v d k2 hn2 hr2 q => g.rt F2 H2 m2 v d (k1.trans k2) hn2 hr2 q,
      fun F2 H2 m2 s2 e2 k2 he2 hn2 q => g.bk F2 H2 m2 _ _ (k1.trans k2) (envOk_gone he2) hn2 q, fun F2 H2 m2 s2 e2 k2 he2 hn2 q => g.ct F2 H2 m2 _ _ (k1.trans k2) (envOk_gone he2) hn2 q, fun _ _ _ _ _ _ _ _ _ _ _ _ q => q.elim⟩
theorem qs_tryM {X : Cx} {body : List Stmt} {h₀ : ExceptHandler} {hds : List ExceptHandler} {l : List (Addr × Nat × TSx)} {pos : Pos} {t : AS} (hs : X.stack = X.env :: X.outer) (hf : X.env.frame = some X.env.locals) (hN : X.N.Nodup)
    (hb : ∀ (pn : List (Addr × Obj)) (xe : Value → Shared → Prop), QSs (X.tr pn xe) body t) (hh : HdQ X (h₀ :: hds) l) : QS X (.Try body (h₀ :: hds) [] [] pos) (aTryM X.K l t) := fun W tk po => by
  refine (ps_try_asM (X := X) (Wout := W) (tb := fun W' => cS X.K W' t) hs hf hN tk (fun W' pn xe tk' po' => hb pn xe W' tk' po') hh.toA).imp fun D s H h => ?_
  obtain ⟨F, e, m, r, A, he, hn, h, g⟩ := h
  exact ⟨F, e, m, r, _, he, hn, h, ⟨g.nx, g.rt, g.bk, g.ct, fun F' H' m' s' e' cls dd xx k1 he' hn' rx hx => exA_ok g k1 he' hn' rx l hx⟩⟩
section
variable {e : De} {m : Mu} {N B C : De → Mu → Prop} {R : QD} {E : Ex → De → Mu → Prop}
theorem k_tryM {K : PySem.W.Frag} {l : List (Addr × Nat × TSx)} {t : AS} (h : t ⟨N, R, B, C, exA K ⟨N, R, B, C, E⟩ l⟩ e m) : aTryM K l t ⟨N, R, B, C, E⟩ e m := h
end
/-! ### isinstance(o, C), o an instance of an own class -/
structure InsK (K : PySem.W.Frag) (C : Addr) : Prop where
  cl : Cls K C
  ha : PySem.W.findIn K (.ref C) "__class__" = some (some (.builtin "object.__class__"))
  hn : PySem.W.specialIn K (.builtin "object.__class__") "__get__" = some (some (.builtin "getset_descriptor.__get__"))
  hk : PySem.W.takesIn K (.builtin "object.__class__") = some true
  hm : PySem.W.mroIn K C (.type "object") = some true
theorem ins_ok {K : PySem.W.Frag} {x : Str} (c : Cls K (He.ga K x)) (h : (Xa.isn x).ok K = true) : InsK K (He.ga K x) := by
  obtain ⟨h1, h⟩ := He.ba h
  obtain ⟨h2, h⟩ := He.ba h
  obtain ⟨h3, h4⟩ := He.ba h
  exact ⟨c, He.eqO_ok h1, He.eqO_ok h2, of_decide_eq_true h3, of_decide_eq_true h4⟩
theorem xf_ok {K : PySem.W.Frag} {x f : Str} (h : (Xa.xf x f).ok K = true) : XfC K (He.ga K x) ∧ PySem.W.findIn K (.ref (He.ga K x)) f = some none := ⟨xfB_ok (He.ba h).1, He.eqO_ok (He.ba h).2⟩
def aIsO (K : PySem.W.Frag) (C : Addr) (t : AE) : AE := fun e m Q X => t e m (fun d m1 => ∃ C' fs b, asF m1 d = some (C', fs) ∧ InsK K C' ∧ PySem.W.kitOne K (.ref C') (.ref C) = some b ∧ Q (.bl b) m1) X
theorem q_isO {X : Cx} {a : Expr} {ta : AE} {pos : Pos} {x : Str} {p p2 : Pos} (hm : X.mg "isinstance" = none) (hmc : X.mg x = some (.ref (He.ga X.K x))) (ha : QE X a ta) (hg : Gl X "isinstance" := by rfl) (hgT : Gl X x := by rfl) (hdd : (x == ("__debug__" : Str)) = false := by decide)
    (hs1 : starEach (a :: [.Name x p2]) X.env = (false, eval a X.env) :: starEach [.Name x p2] X.env := by rfl) (hs2 : starEach (.Name x p2 :: []) X.env = (false, eval (.Name x p2) X.env) :: starEach [] X.env := by rfl) (hpl : (backTo pos (starEach [.Name x p2] X.env)).any (·.1) = false := by rfl) :
    QE X (.Call (.Name "isinstance" p) [a, .Name x p2] [] pos) (aIsO X.K (He.ga X.K x) ta) := fun W tk =>
  (pe_callB call_isi hg hm (by decide +kernel) (pa_cons (ha W tk) (pa_cons (pe_cls hmc hgT hdd) pa_nil hs2) hs1) (by decide) (by decide) hs1 hpl).imp fun s H Qc h => by
    obtain ⟨F, e, m, r, Q, X, he, hn, h, g, gx⟩ := h
    refine ⟨F, e, m, r, _, X, he, hn, h, fun F1 H1 m1 v d s1 n1 r1 q1 => ?_, gx⟩
    obtain ⟨C', fs, b, h1, h2, h3, q⟩ := q1
    obtain ⟨p, dx, gs, rfl, e3, r3⟩ := asF_ok n1 r1 h1
    exact ⟨.ref p, .ref _, .ref C', .ref _, b, rfl, .own _, .base (.ins e3 h2.cl h2.ha h2.hn h2.hk h2.hm), h3, g F1 H1 m1 _ _ s1 n1 (.bl b) q⟩
end Ab
namespace Ab
open PySem PySem.Spec PyProof.Rows L2
section
variable {e : De} {m : Mu} {N B C : De → Mu → Prop} {R : QD} {E : Ex → De → Mu → Prop} {ta to ti : AE} {d : D}
/-- o[i] = v, o a list -/
theorem k_stL {p : Addr} {n : Int} {j : Nat} {xs : List D} (hv : Ev ta e m d) (ho : Ev to e m (.cell p)) (hi : Ev ti e m (.int n)) (hm : m p = some (.lst xs)) (ix : ixN xs.length n = some j) (k : N e (mset m p (.lst (xs.set j d)))) : aAsg ta (agSub to ti) ⟨N, R, B, C, E⟩ e m :=
  hv _ _ (ho _ _ (hi _ _ ⟨p, rfl, .inr ⟨xs, n, j, hm, rfl, ix, k⟩⟩))
theorem x_fzL {p : Addr} {xs : List D} {Q : QD} {X : XA} (ha : Ev ta e m (.cell p)) (hm : m p = some (.lst xs)) (k : Q (.lst xs) (mdel m p)) : aFz ta e m Q X := ha _ _ ⟨p, rfl, by rw [hm]; exact k⟩
theorem x_fzD {p : Addr} {kvs : List (Key × D)} {Q : QD} {X : XA} (ha : Ev ta e m (.cell p)) (hm : m p = some (.dic false kvs)) (k : Q (.dic kvs) (mdel m p)) : aFz ta e m Q X := ha _ _ ⟨p, rfl, by rw [hm]; exact k⟩
/-- a comprehension whose list stays a cell -/
theorem x_lcN {ai : AI} {ag : AG} {ae : AE} {vs : List Nat} {src : List D} {G : Mu → Prop} {Q : QD} {X : XA} (P : D → Prop) (h : ∀ Q X, Q src G m → ai e m Q X) (hG : G m) (hl : src.length < sizeLine)
    (hs : ∀ d, d ∈ src → ∃ e2, Bnd ag d (wipeA e vs) e2 ∧ ∀ (Q : QD) (X : XA), (∀ y, P y → Q y m) → ae e2 m Q X) (k : ∀ ds, ds.length = src.length → (∀ y, y ∈ ds → P y) → ∀ p, m p = none → Q (.cell p) (mset m p (.lst ds))) : aLc true ai ag aYes ae vs e m Q X := h _ _
  ⟨fun i acc m' => m' = m ∧ acc.length = i ∧ i ≤ src.length ∧ ∀ y, y ∈ acc → P y, ⟨rfl, rfl, Nat.zero_le _, fun _ h => by cases h⟩, fun i acc m' z => z.1 ▸ hG, fun i d acc m' hd ⟨e1, e2, e3, e4⟩ => by
    subst e1
    have hi : i < src.length := (List.getElem?_eq_some_iff.mp hd).1
    obtain ⟨e9, h1, h3⟩ := hs d (List.mem_of_getElem? hd)
    refine h1 _ _ _ (h3 _ _ fun y hy => ⟨by omega, rfl, by rw [List.length_append, e2]; rfl, hi, fun z hz => ?_⟩)
    rcases List.mem_append.mp hz with q | q
    · exact e4 z q
    · rw [List.mem_singleton.mp q]; exact hy, fun acc m' ⟨e1, e2, _, e4⟩ => by
    subst e1
    exact k acc e2 e4⟩
theorem mem_cut {xs : List D} {l h : Option Int} {d : D} (hd : d ∈ cut xs l h) : d ∈ xs := by
  unfold cut at hd
  exact List.mem_of_mem_drop (List.mem_of_mem_take hd)
theorem pick_mem {xs : List D} {i : Int} (h0 : 0 ≤ i) (h1 : i < xs.length) : ∃ d, d ∈ xs ∧ atI xs i = some d := by
  have h : i.toNat < xs.length := by omega
  exact ⟨xs[i.toNat], List.getElem_mem h, atI_int h0 (List.getElem?_eq_getElem h)⟩
/-- o.clear(), o a list -/
theorem k_clear {p : Addr} {xs : List D} (ho : Ev to e m (.cell p)) (hm : m p = some (.lst xs)) (k : N e (mset m p (.lst []))) : aDrop (aBM0 "list" bClear to) ⟨N, R, B, C, E⟩ e m :=
  ho _ _ ⟨td_cell hm, p, xs, rfl, rfl, hm, k⟩
theorem k_asgC {g : AG} {sp : ASp} {tr : AA} {dvs ds : List D} (ha : EvA tr e m ds) (h : sp (ds ++ dvs) m (fun d m1 => g d ⟨N, R, B, C, E⟩ e m1 N) (fun x m => E x e m)) : aAsg (aCall sp dvs tr) g ⟨N, R, B, C, E⟩ e m := ha _ _ h
theorem x_listN {tr : AA} {xs : List D} {Q : QD} {X : XA} (h : EvA tr e m [.lst xs]) (k : ∀ p, m p = none → Q (.cell p) (mset m p (.lst xs))) : aCB (bList true) tr e m Q X := h _ _ ⟨_, rfl, .inl ⟨xs, rfl, k⟩⟩
theorem x_lstF {tr : AA} {Q : QD} {X : XA} (h : tr e m (fun ds m1 => ds.length ≤ sizeLine ∧ Q (.lst ds) m1) X) : aLst false tr e m Q X := h
theorem ty_tupL {K : PySem.W.Frag} {i : List D} : isTy K m "list" (.tup i) false := ⟨_, rfl, rfl⟩
end
end Ab
namespace Ab
open PySem PySem.Spec PyProof.Rows L2
section
variable {X : Cx} {a b c : Expr} {es : List Expr} {pos : Pos} {ta tb tc : AE} {tr : AA}
/-! ### sum(xs), dict(d) -/
def bSum : BA := fun ds m Q => ∃ (d : D) (ns : List Int), ds = [d] ∧ asLL m d = some (ns.map D.int) ∧ Q (.int ns.sum) m
theorem repL_ints {K : PySem.W.Frag} {F : Hp} : ∀ {ns : List Int} {vs : List V}, RepL K F vs (ns.map D.int) → vs = ns.map V.int
  | [], _, h => by cases h; rfl
  | n :: ns, _, h => by
    cases h with
    | cons h1 h2 => rw [h1.int_inv, repL_ints h2]; rfl
theorem s_sum {K : PySem.W.Frag} : SA K (rSum K) bSum := by
  intro F H m r vs ds Q Qc hn hr h k
  obtain ⟨d, ns, rfl, hx, q⟩ := h
  obtain ⟨v, rfl, rv⟩ := repL1 hr
  obtain ⟨p, us, rfl, e2, r2⟩ := asLL_ok hn rv hx
  rw [repL_ints r2] at e2
  exact ⟨p, ns, rfl, e2, k F H m _ _ (Same.refl F) hn (.int _) q⟩
theorem q_sum {p : Pos} (hc : X.calm = true) (hm : X.mg "sum" = none) (ha : QA X (a :: es) tr) (hg : Gl X "sum" := by rfl)
    (he : starEach (a :: es) X.env = (false, eval a X.env) :: starEach es X.env := by rfl) (hpl : (backTo pos (starEach es X.env)).any (·.1) = false := by rfl) : QE X (.Call (.Name "sum" p) (a :: es) [] pos) (aCB bSum tr) :=
  q_callB (cr_sum hc) s_sum hm (by decide +kernel) ha hg (by decide) (by decide) he hpl
def newD (mt : Bool) (kvs : List (Key × D)) (m : Mu) (Q : QD) : Prop := match mt with
  | false => Q (.dic kvs) m
  | true => ∀ p, m p = none → Q (.cell p) (mset m p (.dic false kvs))
theorem newD_ok {K : PySem.W.Frag} {F H : Hp} {m : Mu} {r : Hp} {mt : Bool} {kvs : List (Key × D)} {xs : List (Key × V)} {Q : QD} {Qc : VK} (hn : Sn K F H m r) (hr : RepK K F xs kvs) (h : newD mt kvs m Q) (g : GE K F r Q Qc) (p : Addr) (hp : H p = none) : Qc (.ref p) (upd H p (.dK xs)) := by
  cases mt with
  | false => exact g _ _ m _ _ (hn.same hp _) (hn.new hp _) (.dic upd_same (hr.mono (hn.same hp _))) h
  | true => exact g F _ _ _ _ (Same.refl F) (hn.newM (x := .dic false kvs) hp ⟨xs, upd_same, hr⟩) (.cell p) (h p (hn.m_none hp))
def bDict (mt : Bool) : BA := fun ds m Q => ∃ d kvs, ds = [d] ∧ asK m d = some kvs ∧ newD mt kvs m Q
theorem s_dict {K : PySem.W.Frag} (mt : Bool) : SA K (fun xs H Q => ∃ (a : Addr) (kvs : List (Key × V)), xs = [.ref a] ∧ Rd H a (.dK kvs) ∧ ∀ p, H p = none → Q (.ref p) (upd H p (.dK kvs))) (bDict mt) := by
  intro F H m r vs ds Q Qc hn hr h k
  obtain ⟨d, kvs, rfl, hx, q⟩ := h
  obtain ⟨v, rfl, rv⟩ := repL1 hr
  obtain ⟨p, vs, rfl, e2, r2⟩ := asK_ok hn rv hx
  exact ⟨p, vs, rfl, e2, fun l hl => newD_ok hn r2 q k l hl⟩
theorem q_dict (mt : Bool) {p : Pos} (hm : X.mg "dict" = none) (ha : QA X (a :: es) tr) (hg : Gl X "dict" := by rfl)
    (he : starEach (a :: es) X.env = (false, eval a X.env) :: starEach es X.env := by rfl) (hpl : (backTo pos (starEach es X.env)).any (·.1) = false := by rfl) : QE X (.Call (.Name "dict" p) (a :: es) [] pos) (aCB (bDict mt) tr) :=
  q_callTy call_dictD (s_dict mt) hm (by decide +kernel) ha hg (by decide) (by decide) he hpl
/-! ### range(a, b, c) -/
def rngC (lo c : Int) (n : Nat) : List D := (List.range n).map fun (i : Nat) => D.int (lo + i * c)
def aiRng3 (t : AA) : AI := fun e m Q X => t e m (fun ds m1 => ∃ (i j c : Int) (n : Nat), ds = [.int i, .int j, .int c] ∧ RgC i j c n ∧ Q (rngC i c n) (fun _ => True) m1) X
theorem it_rngC {K : PySem.W.Frag} {F : Hp} {lo c : Int} {n : Nat} {G : Mu → Prop} : ItOk K (Itc lo c n) F (rngC lo c n) G := fun F2 H2 m2 r2 s2 n2 g2 => by
  have hl : (rngC lo c n).length = n := by unfold rngC; rw [List.length_map, List.length_range]
  refine ⟨fun i hi => ⟨show i < n by rw [← hl]; exact hi, fun x H3 y => ?_⟩, fun i hi => show n ≤ i by rw [← hl]; exact hi⟩
  obtain ⟨rfl, rfl⟩ := y
  refine ⟨F2, .int (lo + i * c), Same.refl F2, n2, ?_, .int _⟩
  unfold rngC
  rw [List.getElem?_map, List.getElem?_range (by rw [← hl]; exact hi)]; rfl
theorem qi_range3 {tg a b c : Expr} {p : Pos} {t : AA} (hm : X.mg "range" = none) (ha : QA X [a, b, c] t) (hg : Gl X "range" := by rfl) (hs : starEach [a, b, c] X.env = (false, eval a X.env) :: starEach [b, c] X.env := by rfl) (hpl : (backTo pos (starEach [b, c] X.env)).any (·.1) = false := by rfl) : QI X tg (.Call (.Name "range" p) [a, b, c] [] pos) (aiRng3 t) :=
  fun W tk => pi_imp (pi_range3 hg hm (ha W tk) hs hpl) fun s H R h => by
    obtain ⟨F, e, m, r, Q, X, he, hn, h, g, gx⟩ := h
    refine ⟨F, e, m, r, _, X, he, hn, h, fun F1 H1 m1 v d s1 n1 r1 q1 => ?_, gx⟩
    obtain ⟨i, j, c, n, rfl, hb, q⟩ := q1
    obtain ⟨v, u, w, rfl, rv, ru, rw'⟩ := repL3 r1
    cases rv; cases ru; cases rw'
    exact ⟨i, j, c, n, rfl, hb, g F1 H1 m1 _ _ _ s1 n1 it_rngC q⟩
end
/-! ### isinstance(e, C) in a suite, e with a field -/
def aIsX (K : PySem.W.Frag) (a : Addr) (dd : Option Addr) (C : Addr) (cv : Value) (t : AE) : AE := fun e m Q X => ExcC K C ∧ t e m (fun d m1 => ∃ b f v, dd = some b ∧ d = .exc a C b f v ∧ ∃ k, PySem.W.kitOne K (.ref C) cv = some k ∧ Q (.bl k) m1) X
def rIsX (K : PySem.W.Frag) (C a : Addr) (dd : Option Addr) : List V → Hp → VK → Prop := fun xs H Q => ∃ (c : V) (cv : Value) (k : Bool) (b : Addr) (fs : List (Str × V)), xs = [.ref a, c] ∧ dd = some b ∧ H b = some (.xd fs) ∧ (∀ u, RelV c u → u = cv) ∧ PySem.W.kitOne K (.ref C) cv = some k ∧ Q (.bl k) H
theorem call_isX {X : Cx} {a D : Addr} {oe : Obj} {dd : Option Addr} {pn : List (Addr × Obj)} (C : ExcC X.K D) (hz : Zc (.ref D) dd oe) (hf : ∃ vs, oe.data = .fields vs) : CallR (X.suite a ((a, oe) :: pn)) (.builtin "isinstance") (rIsX X.K D a dd) := by
  intro pins s σ H xs us Q I r h
  obtain ⟨c, cv, k, b, fs, rfl, hdd, hb, hcv, e, q⟩ := h
  cases r with
  | cons rx rr =>
    cases rr with
    | cons rt rr =>
      cases rr
      cases rx
      have ec := hcv _ rt
      subst ec
      obtain ⟨hget, _⟩ := I.pin (a, oe) (List.mem_append.mpr (.inl List.mem_cons_self))
      obtain ⟨vs, hv⟩ := hf
      have hx : ObjOk X.prog X.w H s.heap b (.xd fs) := I.hok b _ hb
      obtain ⟨mA, hns, hr⟩ := hx
      obtain ⟨od, ho, hl⟩ := lookIn_ns hns
      have J : PySem.W.InstAt s.heap a oe D (some od) := ⟨hget, hz.1, by unfold PySem.W.notCls; rw [hv] <;> rfl, by rw [hz.2, hdd]; exact ho⟩
      have hcl : (PySem.W.clsIn X.K D).isSome = true := by
        obtain ⟨cd, hc, _⟩ := PySem.W.any_some C.hd
        rw [hc]; rfl
      exact PySem.W.kia_one (PySem.W.kitx_exc hcl C.hg C.hk C.hs C.ha C.hn C.ht C.hm) I.kIn J e (fun z => nomatch z) fun tk => ⟨.bl k, H, I.kept (t' := tk) fun _ _ z => z, rfl, q⟩
theorem q_isX {Y : Cx} {o : Expr} {t : AE} {ad C : Addr} {oe : Obj} {dd : Option Addr} {pn : List (Addr × Obj)} {x : Str} {p p2 pos : Pos} {cv : V} {cu : Value} (hm : Y.mg "isinstance" = none) (hz : Zc (.ref C) dd oe) (hv : ∃ vs, oe.data = .fields vs)
    (hcl : PE (Y.suite ad ((ad, oe) :: pn)) (.Name x p2) (tC cv)) (hcv : ∀ u, RelV cv u → u = cu) (ho : QE (Y.suite ad ((ad, oe) :: pn)) o t) (hg : Gl (Y.suite ad ((ad, oe) :: pn)) "isinstance" := by rfl)
    (hs1 : starEach (o :: [.Name x p2]) (Y.suite ad ((ad, oe) :: pn)).env = (false, eval o (Y.suite ad ((ad, oe) :: pn)).env) :: starEach [.Name x p2] (Y.suite ad ((ad, oe) :: pn)).env := by rfl)
    (hs2 : starEach (.Name x p2 :: []) (Y.suite ad ((ad, oe) :: pn)).env = (false, eval (.Name x p2) (Y.suite ad ((ad, oe) :: pn)).env) :: starEach [] (Y.suite ad ((ad, oe) :: pn)).env := by rfl)
    (hpl : (backTo pos (starEach [.Name x p2] (Y.suite ad ((ad, oe) :: pn)).env)).any (·.1) = false := by rfl) :
    QE (Y.suite ad ((ad, oe) :: pn)) (.Call (.Name "isinstance" p) [o, .Name x p2] [] pos) (aIsX Y.K ad dd C cu t) := fun W tk => ⟨fun pins s σ H Qc I h => by
  obtain ⟨F, e, m, r, Q, X, he, hn, ⟨hC, h⟩, g, gx⟩ := h
  refine (pe_callB (X := Y.suite ad ((ad, oe) :: pn)) (call_isX hC hz hv) hg hm (by decide +kernel) (pa_cons (ho W tk) (pa_cons hcl pa_nil hs2) hs1) (by decide) (by decide) hs1 hpl).run pins s σ H Qc I ?_
  refine ⟨F, e, m, r, _, X, he, hn, h, fun F1 H1 m1 v d s1 n1 r1 q1 => ?_, gx⟩
  obtain ⟨b, f, w, rfl, rfl, k, hk, q⟩ := q1
  cases r1 with
  | exc e1 r2 =>
    rename_i v0
    refine ⟨cv, cu, k, b, [(f, v0)], rfl, rfl, ?_, hcv, hk, g F1 H1 m1 _ _ s1 n1 (.bl k) q⟩
    rcases n1.cov _ _ e1 with z | ⟨_, _, z, _⟩
    · exact z
    · cases z⟩
section
variable {e : De} {m : Mu} {ta tb tc : AE} {tr : AA} {d x y z : D} {xs : List D}
theorem ev_isX {K : PySem.W.Frag} {a b Cl : Addr} {f : Str} {v : D} {cv : Value} {k : Bool} (h : Ev ta e m (.exc a Cl b f v)) (hC : ExcC K Cl) (hk : PySem.W.kitOne K (.ref Cl) cv = some k) : Ev (aIsX K a (some b) Cl cv ta) e m (.bl k) := fun Q X q => ⟨hC, h _ _ ⟨b, f, v, rfl, rfl, k, hk, q⟩⟩
theorem o_sum {ns : List Int} : OpA bSum [.lst (ns.map D.int)] m (.int ns.sum) := fun _ q => ⟨_, ns, rfl, rfl, q⟩
theorem o_dict {kvs : List (Key × D)} : OpA (bDict false) [.dic kvs] m (.dic kvs) := fun _ q => ⟨_, kvs, rfl, rfl, q⟩
/-- o[k] = v, o a dict -/
theorem k_stD {N B C : De → Mu → Prop} {R : QD} {E : Ex → De → Mu → Prop} {to ti : AE} {p : Addr} {kvs : List (Key × D)} {k : Key} (hv : Ev ta e m d) (ho : Ev to e m (.cell p)) (hi : Ev ti e m y) (hm : m p = some (.dic false kvs)) (hk : keyD y = some k) (hl : kvs.length < sizeLine) (kk : N e (mset m p (.dic false (put kvs k d)))) : aAsg ta (agSub to ti) ⟨N, R, B, C, E⟩ e m :=
  hv _ _ (ho _ _ (hi _ _ ⟨p, rfl, .inl ⟨kvs, k, hm, hk, hl, kk⟩⟩))
theorem k_setD0 {N B C : De → Mu → Prop} {R : QD} {E : Ex → De → Mu → Prop} {i : Nat} (k : ∀ p, m p = none → N (e.set i (some (.cell p))) (mset m p (.dic false []))) : aSet i aDict0 ⟨N, R, B, C, E⟩ e m := k
theorem ei_rng3 {tr : AA} {i j c : Int} {n : Nat} (h : EvA tr e m [.int i, .int j, .int c]) (hr : RgC i j c n) : ∀ Q X, Q (rngC i c n) (fun _ => True) m → aiRng3 tr e m Q X := fun Q X q => h _ _ ⟨i, j, c, n, rfl, hr, q⟩
end
/-! ### == of two things that are the same data -/
inductive SamD : Nat → D → Prop
  | flat {n : Nat} {d : D} : flatD d = true → SamD n d
  | lst {n : Nat} {xs : List D} : (∀ x, x ∈ xs → SamD n x) → SamD (n + 1) (.lst xs)
  | tup {n : Nat} {xs : List D} : (∀ x, x ∈ xs → SamD n x) → SamD (n + 1) (.tup xs)
  | dic {n : Nat} {kvs : List (Key × D)} : (kvs.map (·.1)).Nodup → (∀ p, p ∈ kvs → SamD n p.2) → SamD (n + 1) (.dic kvs)
def Tw (K : PySem.W.Frag) (F : Hp) (n : Nat) (x y : V) : Prop := ∃ d, SamD n d ∧ Rep K F x d ∧ Rep K F y d
theorem tw_list {K : PySem.W.Frag} {F : Hp} {n : Nat} : ∀ {xs ys : List V} {ds : List D}, RepL K F xs ds → RepL K F ys ds → (∀ d, d ∈ ds → SamD n d) → Paired (Tw K F n) xs ys
  | _, _, _, .nil, .nil, _ => .nil
  | _, _, _, .cons h1 r1, .cons h2 r2, h => .cons ⟨_, h _ (List.mem_cons_self ..), h1, h2⟩ (tw_list r1 r2 fun d hd => h d (List.mem_cons_of_mem _ hd))
theorem repK_len {K : PySem.W.Frag} {F : Hp} : ∀ {xs : List (Key × V)} {es : List (Key × D)}, RepK K F xs es → xs.length = es.length
  | _, _, .nil => rfl
  | _, _, .cons _ r => congrArg Nat.succ (repK_len r)
theorem repK_keys {K : PySem.W.Frag} {F : Hp} : ∀ {xs : List (Key × V)} {es : List (Key × D)}, RepK K F xs es → xs.map (·.1) = es.map (·.1)
  | _, _, .nil => rfl
  | _, _, .cons _ r => by rw [List.map_cons, List.map_cons, repK_keys r]
theorem tw_dict {K : PySem.W.Frag} {F : Hp} {n : Nat} : ∀ {xs ys : List (Key × V)} {es : List (Key × D)}, RepK K F xs es → RepK K F ys es → (es.map (·.1)).Nodup → (∀ p, p ∈ es → SamD n p.2) → ∀ p, p ∈ xs → ∃ u, valV ys p.1 = some u ∧ Tw K F n p.2 u
  | _, _, _, .nil, .nil, _, _ => fun p hp => by cases hp
  | (k, v) :: xs, (_, u) :: ys, (_, d) :: es, .cons h1 r1, .cons h2 r2, nd, h => fun p hp => by
    rw [List.map_cons, List.nodup_cons] at nd
    rcases List.mem_cons.mp hp with rfl | hp
    · refine ⟨u, ?_, d, h _ (List.mem_cons_self ..), h1, h2⟩
      unfold valV
      rw [List.find?_cons_of_pos (by simp)]; rfl
    · obtain ⟨w, e, t⟩ := tw_dict r1 r2 nd.2 (fun p hp => h p (List.mem_cons_of_mem _ hp)) p hp
      refine ⟨w, ?_, t⟩
      have ne : ¬ k = p.1 := fun z => nd.1 (by
        have : p.1 ∈ xs.map (·.1) := List.mem_map.mpr ⟨p, hp, rfl⟩
        rw [repK_keys r1] at this
        rw [z]; exact this)
      unfold valV at e ⊢
      rw [List.find?_cons_of_neg (by simpa using ne)]
      exact e
section
variable {X : Cx} {pins : List (Addr × Obj)} {σ : L2.St} {F H : Hp} {s : Shared} {m : Mu} {r : Hp}
theorem same_step (I : Inv X pins σ H s) (hn : Sn X.K F H m r) {n : Nat} {A : Around} (hu : A.units < cLine) (ih : ∀ x y v u, Tw X.K F n x y → RelV x v → RelV y u → SeqAt.EqP X.prog X.w A.in1 s v u true) {d : D} (hs : SamD (n + 1) d) (nf : flatD d = false) {x y : V} {v u : Value} (h1 : Rep X.K F x d) (h2 : Rep X.K F y d) (rx : RelV x v) (ry : RelV y u)
    (E Q : Value → Shared → Prop) (q : Q (.bool true) s) : wpAny (model X.prog X.w) A (richCompare .Eq v u) Q E s := by
  cases hs with
  | flat f => rw [f] at nf; cases nf
  | lst hx =>
    cases h1 with
    | lst e1 r1 =>
      cases h2 with
      | lst e2 r2 =>
        rename_i a xs b ys
        cases (show v = Value.ref a from rx)
        cases (show u = Value.ref b from ry)
        have hp := tw_list r1 r2 hx
        obtain ⟨us, k1, p1, _⟩ := I.list (.inl (.inl (hn.lst e1)))
        obtain ⟨ws, k2, p2, _⟩ := I.list (.inl (.inl (hn.lst e2)))
        have hsz : us.toArray.size = ws.toArray.size := by
          rw [List.size_toArray, List.size_toArray, ← k1.length, ← k2.length]
          exact Paired.length hp
        refine SeqAt.rcP_lists (e := fun _ => true) p1.isList p2.isList hsz hu (fun j h1 h2 => ?_) E Q ?_
        · have k := items_run ih hp k1 k2 j (by simpa using h1) (by simpa using h2)
          simpa using k
        · rw [show ((List.range us.toArray.size).all fun _ => true) = true from List.all_eq_true.mpr fun _ _ => rfl]
          exact q
  | tup hx =>
    cases h1 with
    | tup e1 r1 =>
      cases h2 with
      | tup e2 r2 =>
        rename_i a xs b ys
        cases (show v = Value.ref a from rx)
        cases (show u = Value.ref b from ry)
        have hp := tw_list r1 r2 hx
        obtain ⟨us, k1, p1, _⟩ := I.tuple (hn.sqT e1)
        obtain ⟨ws, k2, p2, _⟩ := I.tuple (hn.sqT e2)
        have hsz : us.toArray.size = ws.toArray.size := by
          rw [List.size_toArray, List.size_toArray, ← k1.length, ← k2.length]
          exact Paired.length hp
        refine SeqAt.rcIn_tuples (e := fun _ => true) p1 p2 hu (fun j h1 h2 => ?_) ?_
        · have k := items_run ih hp k1 k2 j (by simpa using h1) (by simpa using h2)
          have k : SeqAt.EqP X.prog X.w A.in1 s us.toArray[j] ws.toArray[j] true := by simpa using k
          exact k
        · rw [show ((List.range (min us.toArray.size ws.toArray.size)).all fun _ => true) = true from List.all_eq_true.mpr fun _ _ => rfl, hsz, Bool.true_and, beq_self_eq_true]
          exact q
  | dic nd hx =>
    cases h1 with
    | dic e1 r1 =>
      cases h2 with
      | dic e2 r2 =>
        rename_i a xs b ys
        cases (show v = Value.ref a from rx)
        cases (show u = Value.ref b from ry)
        obtain ⟨_, ya, va, ra, da⟩ := dk_rd I.hok (hn.rd (.inl e1))
        obtain ⟨_, yb, vb, rb, db⟩ := dk_rd I.hok (hn.rd (.inl e2))
        refine PySem.W.rcP_dicts (knd := mixKind X.prog X.w) (r := true) ya yb da db hu (fun _ => hits_run ih rb ra (tw_dict r1 r2 nd hx)) E Q ?_
        have e : va.length = vb.length := by rw [← ra.length, ← rb.length, repK_len r1, repK_len r2]
        rw [show (va.length == vb.length && true) = true from by rw [e]; simp]
        exact q
theorem same_run (I : Inv X pins σ H s) (hn : Sn X.K F H m r) : ∀ (n : Nat) (A : Around), A.units + n < cLine → ∀ (x y : V) (v u : Value), Tw X.K F n x y → RelV x v → RelV y u → SeqAt.EqP X.prog X.w A s v u true := by
  intro n
  induction n with
  | zero =>
    rintro A hu x y v u ⟨d, hs, h1, h2⟩ rx ry
    cases hs with
    | flat f =>
      have e : x = y ∧ flatB x = true := by
        cases d <;> first | (cases f; done) | (cases h1; cases h2; exact ⟨rfl, rfl⟩)
      obtain ⟨rfl, f⟩ := e
      exact (eqAt_same rx ry f).eqP
  | succ n ih =>
    rintro A hu x y v u ⟨d, hs, h1, h2⟩ rx ry
    cases f : flatD d with
    | true =>
      have e : x = y ∧ flatB x = true := by
        cases d <;> first | (cases f; done) | (cases h1; cases h2; exact ⟨rfl, rfl⟩)
      obtain ⟨rfl, f⟩ := e
      exact (eqAt_same rx ry f).eqP
    | false =>
      have step := same_step I hn (A := A) (by omega) (ih A.in1 (by show A.units + 1 + n < cLine; omega)) hs f h1 h2 rx ry
      obtain ⟨a, b, rfl, rfl⟩ : ∃ a b, x = .ref a ∧ y = .ref b := by
        cases hs with
        | flat z => rw [z] at f; cases f
        | lst _ => cases h1; cases h2; exact ⟨_, _, rfl, rfl⟩
        | tup _ => cases h1; cases h2; exact ⟨_, _, rfl, rfl⟩
        | dic _ _ => cases h1; cases h2; exact ⟨_, _, rfl, rfl⟩
      cases (show v = Value.ref a from rx)
      cases (show u = Value.ref b from ry)
      by_cases e : a = b
      · subst e
        exact (SeqAt.EqAt.same _).eqP
      · exact SeqAt.eqP_refs e step
end
/-- a == b, the same data -/
def rEqS (K : PySem.W.Frag) : R2 := fun x y H Q => (∃ (F : Hp) (m : Mu) (r : Hp) (n : Nat) (d : D), n ≤ 60 ∧ Sn K F H m r ∧ SamD (n + 1) d ∧ flatD d = false ∧ Rep K F x d ∧ Rep K F y d) ∧ Q (.bl true) H
theorem op_eqS {X : Cx} (hu : X.A.units + 64 < cLine) : OpR X (compareOp .Eq) (rEqS X.K) := by
  intro pins s σ H x y v u Q I rx ry h
  obtain ⟨⟨F, m, r, n, d, hl, hn, hs, nf, h1, h2⟩, q⟩ := h
  exact same_step I hn (A := X.A) (by omega) (same_run I hn n X.A.in1 (by show X.A.units + 1 + n < cLine; omega)) hs nf h1 h2 rx ry _ _ ⟨.bl true, H, I, rfl, q⟩
def bEqX : B2 := fun d e m Q => (d = e ∧ flatD d = false ∧ (∃ n, n ≤ 60 ∧ SamD (n + 1) d) ∧ Q (.bl true) m) ∨ bEq d e m Q
theorem c_eqX {X : Cx} (hu : X.A.units + 64 < cLine) : Cm X .Eq bEqX := cm_or ⟨_, op_eqS hu, fun F H m r v u d e Q Qc hn h1 h2 h k => by
  obtain ⟨rfl, nf, ⟨n, hl, hs⟩, q⟩ := h
  exact ⟨⟨F, m, r, n, d, hl, hn, hs, nf, h1, h2⟩, k F H m _ _ (Same.refl F) hn (.bl _) q⟩⟩ (c_eq hu)
theorem o_eqSm {d : D} {m : Mu} {n : Nat} (hl : n ≤ 60) (hs : SamD (n + 1) d) (nf : flatD d = false) : Op2 bEqX d d m (.bl true) := fun _ q => .inl ⟨rfl, nf, ⟨n, hl, hs⟩, q⟩
theorem o_eqXb {x y d : D} {m : Mu} (h : Op2 bEq x y m d) : Op2 bEqX x y m d := fun Q q => .inr (h Q q)
end Ab
namespace PySem.W
open PySem PySem.Calls PyProof.Rows PyProof.V PySem.Spec
theorem ab_enum_len : typeLookup (.type "enumerate") "__len__" = pure none := by rw [typeLookup_type, builtinLookup_eq_fast]; kernel_rfl
theorem ab_enum_hint : typeLookup (.type "enumerate") "__length_hint__" = pure none := by rw [typeLookup_type, builtinLookup_eq_fast]; kernel_rfl
structure DieG (items : Array Value) (lo : Addr) (h : Heap) (as : List Addr) : Prop where
  rise : as.Pairwise (· < ·)
  above : ∀ a ∈ as, lo < a
  pairs : ∀ (j : Nat) (a : Addr), as[j]? = some a → ∃ (hj : j < items.size) (t : Tok), h.get? a = some { cls := .type "tuple", data := .seq #[.int (j : Int) t, items[j]] }
theorem DieG.there {items : Array Value} {lo : Addr} {h : Heap} {as : List Addr} (g : DieG items lo h as) {a : Addr} (ha : a ∈ as) : a < h.objs.size := by
  obtain ⟨j, hj⟩ := List.mem_iff_getElem?.mp ha
  obtain ⟨_, _, e⟩ := g.pairs j a hj
  exact Heap.lt_size e
def DieSt (h : Heap) (e it S l : Addr) (items : Array Value) (i : Nat) : Prop :=
  (IsEnum h e it (i : Int) .none ∨ ∃ T f old oT, IsEnumHeld h e it (i : Int) old T f ∧ h.get? T = some oT ∧ T ≠ e ∧ T ≠ it ∧ T ≠ S) ∧ h.IsListIter it l i ∧ h.IsList l items
theorem DieSt.keep {h h' : Heap} {e it S l : Addr} {items : Array Value} {i : Nat} (st : DieSt h e it S l items i) (k : ∀ b o, b ≠ S → h.get? b = some o → h'.get? b = some o) (n1 : e ≠ S) (n2 : it ≠ S) (n3 : l ≠ S) : DieSt h' e it S l items i := by
  obtain ⟨h1, h2, h3⟩ := st
  refine ⟨?_, h2.at fun o x => k it o n2 x, h3.at fun o x => k l o n3 x⟩
  rcases h1 with q | ⟨T, f, old, oT, q1, q2, q3, q4, q5⟩
  · exact .inl (k e _ n1 q)
  · exact .inr ⟨T, f, old, oT, k e _ n1 q1, k T _ q5 q2, q3, q4, q5⟩
section
variable {prog : Program} {w : World} {A : Around} {E : Value → Shared → Prop} {s : Shared}
theorem die_item {e it S l : Addr} {i : Nat} {items : Array Value} {Q : Option Value → Shared → Prop} (hst : DieSt s.heap e it S l items i) (hei : e ≠ it) (hle : l ≠ e) (hli : l ≠ it) (hS : S < s.heap.objs.size) (hlt : i < items.size)
    (hQ : ∀ h', DieSt h' e it S l items (i + 1) → h'.get? s.heap.objs.size = some { cls := .type "tuple", data := .seq #[.int (i : Int) s.toks, items[i]] } → h'.objs.size = s.heap.objs.size + 1 →
      (∀ b o, b ≠ e → b ≠ it → s.heap.get? b = some o → h'.get? b = some o) → Q (some (.ref s.heap.objs.size)) { s with heap := h', toks := s.toks + 1 }) :
    wpAny (model prog w) A (pyNext (.ref e)) Q E s := by
  obtain ⟨h1, h2, h3⟩ := hst
  have hx : items[i]? = some items[i] := Array.getElem?_eq_getElem hlt
  have hit : it < s.heap.objs.size := by obtain ⟨_, x, _⟩ := h2; exact Heap.lt_size x
  rcases h1 with he | ⟨T, f, old, oT, he, hT, t1, t2, t3⟩
  · exact wpAny_pyNext_enum_item he h2 h3 hx hei fun h' a1 a2 a3 a4 a5 => hQ h' ⟨.inr ⟨_, false, _, _, a1, a3, Nat.ne_of_gt (Heap.lt_size he), Nat.ne_of_gt hit, Nat.ne_of_gt hS⟩, a2, h3.at fun o x => a5 l o hle hli x⟩ a3 a4 a5
  · exact wpAny_pyNext_enum_item_held he hT t1 t2 h2 h3 hx hei fun h' a1 a2 a3 a4 a5 => hQ h' ⟨.inr ⟨T, true, old, oT, a1, a5 T _ t1 t2 hT, t1, t2, t3⟩, a2, h3.at fun o x => a5 l o hle hli x⟩ a3 a4 a5
theorem die_done {e it S l : Addr} {i : Nat} {items : Array Value} {Q : Option Value → Shared → Prop} (hh : A.handled = none) (hst : DieSt s.heap e it S l items i) (hge : items.size ≤ i)
    (hQ : ∀ h', Heap.ExtBut it s.heap h' → Q none { s with heap := h' }) : wpAny (model prog w) A (pyNext (.ref e)) Q E s := by
  obtain ⟨h1, h2, h3⟩ := hst
  have hx : items[i]? = none := Array.getElem?_eq_none hge
  rcases h1 with he | ⟨T, f, old, oT, he, hT, t1, t2, t3⟩
  · exact wpAny_pyNext_enum_end hh he h2 h3 hx hQ
  · exact wpAny_pyNext_enum_end_held hh he h2 h3 hx hQ
end
section
variable {prog : Program} {w : World} {A : Around} {s : Shared} {R : Result → Shared → Prop} {items : Array Value} {e it l S : Addr}
theorem die_loop (hh : A.handled = none) (hei : e ≠ it) (hle : l ≠ e) (hli : l ≠ it) (heS : e ≠ S) (hiS : it ≠ S) (hlS : l ≠ S) (hiltS : it < S) (heltS : e < S) (hn : items.size ≤ sizeLine) (res : Value) {h₁ : Heap}
    (hR : ∀ h' tk acc c as, (∀ b o, b ≠ S → b ≠ e → b ≠ it → h₁.get? b = some o → h'.get? b = some o) → h'.get? S = some { cls := .type "list", dict := none, data := .seq acc c, slots := #[] } → as.length = items.size → DieG items S h' as →
      acc.toList = as.map Value.ref → R (.ok (.ret res)) { s with heap := h', toks := tk }) :
    ∀ (k i : Nat) (h : Heap) (tk c : Nat) (acc : Array Value) (as : List Addr), items.size - i = k → i ≤ items.size → DieSt h e it S l items i → (∀ b o, b ≠ S → b ≠ e → b ≠ it → h₁.get? b = some o → h.get? b = some o) →
      h.get? S = some { cls := .type "list", dict := none, data := .seq acc c, slots := #[] } → acc.toList = as.map Value.ref → as.length = i → DieG items S h as →
      codeAny (model prog w) A (.builtin "list.extend.loop" ⟨[.ref S, .ref e, res], []⟩) R { s with heap := h, toks := tk } := by
  intro k
  induction k with
  | zero =>
    intro i h tk c acc as hk hi hst hkeep hS hacc hal hG
    refine codeAny_builtin PySem.F.entry_extend_loop ?_
    rw [Around.under_plainId PySem.F.plain_extend_loop _]
    show wpAny _ A.in1 (pyNext (.ref e) >>= _) _ _ _
    refine wpAny_bind (die_done (s := { s with heap := h, toks := tk }) (A := A.in1) hh hst (by omega) fun h' he => ?_)
    refine wpAny_pure (hR h' tk acc c as (fun b o h1 h2 h3 x => he b o h3 (hkeep b o h1 h2 h3 x)) (he S _ (Ne.symm hiS) hS) (by omega) ⟨hG.rise, hG.above, fun j a hj => ?_⟩ hacc)
    obtain ⟨hj', t, e3⟩ := hG.pairs j a hj
    exact ⟨hj', t, he a _ (Nat.ne_of_gt (Nat.lt_trans hiltS (hG.above a (List.mem_of_getElem? hj)))) e3⟩
  | succ k ih =>
    intro i h tk c acc as hk hi hst hkeep hS hacc hal hG
    have hlt : i < items.size := by omega
    have hsz : acc.size = i := by rw [← Array.length_toList, hacc, List.length_map, hal]
    have hSl : S < h.objs.size := Heap.lt_size hS
    refine codeAny_builtin PySem.F.entry_extend_loop ?_
    rw [Around.under_plainId PySem.F.plain_extend_loop _]
    show wpAny _ A.in1 (pyNext (.ref e) >>= _) _ _ _
    refine wpAny_bind (die_item (s := { s with heap := h, toks := tk }) (S := S) hst hei hle hli hSl hlt fun h' hst' ht hz hkp => ?_)
    dsimp only at ht hz hkp ⊢
    have hS' := hkp S _ (Ne.symm heS) (Ne.symm hiS) hS
    have up : ∀ b o, b ≠ S → h'.get? b = some o → (h'.update S (Obj.mapSeq (·.push (Value.ref h.objs.size)))).get? b = some o := fun b o hb x => (Heap.get?_update_other _ _ (Ne.symm hb)).trans x
    show wpAny _ A.in1 (updateSeq S (·.push (Value.ref h.objs.size)) >>= _) _ _ _
    refine wpAny_bind ?_
    refine wpAny_updateSeq hS' rfl (wpAny_pure ⟨plainId_quiet PySem.F.plain_extend_loop _, ih (i + 1) _ (tk + 1) _ (acc.push (Value.ref h.objs.size)) (as ++ [h.objs.size]) (by omega) hlt (hst'.keep up heS hiS hlS)
      (fun b o h1 h2 h3 x => up b o h1 (hkp b o h2 h3 (hkeep b o h1 h2 h3 x))) (Heap.get?_update_self _ hS' rfl) (by rw [Array.toList_push, hacc, List.map_append]; rfl) (by rw [List.length_append, hal]; rfl) ⟨?_, ?_, ?_⟩⟩) (by rw [hsz]; omega) (by show (acc.push (Value.ref h.objs.size)).size ≤ sizeLine + 1; rw [Array.size_push, hsz]; omega)
    · refine List.pairwise_append.mpr ⟨hG.rise, List.pairwise_singleton _ _, fun a ha b hb => ?_⟩
      rw [List.mem_singleton.mp hb]
      exact hG.there ha
    · intro a ha
      rcases List.mem_append.mp ha with ha | ha
      · exact hG.above a ha
      · rw [List.mem_singleton.mp ha]; exact hSl
    · intro j b hj
      rcases Nat.lt_trichotomy j as.length with h1 | h1 | h1
      · rw [List.getElem?_append_left h1] at hj
        obtain ⟨hj', t, e3⟩ := hG.pairs j b hj
        have hb := hG.above b (List.mem_of_getElem? hj)
        exact ⟨hj', t, up b _ (Nat.ne_of_gt hb) (hkp b _ (Nat.ne_of_gt (Nat.lt_trans heltS hb)) (Nat.ne_of_gt (Nat.lt_trans hiltS hb)) e3)⟩
      · subst h1
        have hb : h.objs.size = b := by simpa using hj
        subst hb
        exact ⟨by omega, tk, by subst hal; exact up _ _ (Nat.ne_of_gt hSl) ht⟩
      · have hnone : (as ++ [h.objs.size])[j]? = none := List.getElem?_eq_none (by rw [List.length_append, List.length_singleton]; omega)
        rw [hnone] at hj; cases hj
theorem die_extend (hh : A.handled = none) (he : IsEnum s.heap e it 0 .none) (hit : s.heap.IsListIter it l 0) (hl : s.heap.IsList l items) (hei : e ≠ it) (hle : l ≠ e) (hli : l ≠ it) (heltS : e < S) (hiltS : it < S) (hlltS : l < S) (res : Value) (c₀ : Nat) (hS : s.heap.get? S = some { cls := .type "list", data := .seq #[] c₀ })
    (hR : ∀ h' tk acc c as, (∀ b o, b ≠ S → b ≠ e → b ≠ it → s.heap.get? b = some o → h'.get? b = some o) → h'.get? S = some { cls := .type "list", dict := none, data := .seq acc c, slots := #[] } → as.length = items.size → DieG items S h' as →
      acc.toList = as.map Value.ref → R (.ok (.ret res)) { s with heap := h', toks := tk }) (hn : items.size ≤ sizeLine) :
    wpAny (model prog w) A.in1 (Builtin.List.listExtendWith (.ref S) (.ref e) res)
      (fun fin s' => match fin with | .done f => R (.ok f) s' | .again c' => c'.quiet = true ∧ codeAny (model prog w) A c' R s') (fun e s' => R (.error e) s') s := by
  have hT : s.TypeIs (.ref e) "enumerate" := ⟨_, he, rfl⟩
  have hSe : S ≠ e := Nat.ne_of_gt heltS
  unfold Builtin.List.listExtendWith
  refine wpAny_bind (wpAny_typeOf hT ?_)
  have h1 : Builtin.List.listSameRef (.ref S) (.ref e) = false := by simp [Builtin.List.listSameRef, hSe]
  have h2 : (Value.type "enumerate" == Value.type "list") = false := by decide
  have h3 : (Value.type "enumerate" == Value.type "tuple") = false := by decide
  simp only [h1, h2, h3, Bool.or_false, Bool.false_eq_true, if_false]
  refine wpAny_bind (wpAny_pyIter_enum he ?_)
  refine wpAny_bind (wpAny_holding ?_)
  unfold Builtin.List.listLengthHint
  refine wpAny_bind (wpAny_specialOf hT ab_enum_len ?_)
  show wpAny _ A.in1 (specialOf (Value.ref e) (Str.ofString "__length_hint__") >>= _) _ _ _
  refine wpAny_bind (wpAny_specialOf hT ab_enum_hint ?_)
  refine wpAny_pure ?_
  show wpAny _ A.in1 (rule "list.extend.makes-room" >>= fun _ => Builtin.List.listTouch (.ref S) >>= fun _ =>
    again (.builtin "list.extend.loop" ⟨[.ref S, .ref e, res], []⟩)) _ _ _
  refine wpAny_bind (wpAny_rule ?_)
  refine wpAny_bind ?_
  show wpAny _ A.in1 (updateSeq S (·.push .none) >>= fun _ => updateSeq S (·.pop)) _ _ _
  refine wpAny_bind (wpAny_updateSeq hS rfl ?_)
  have hS₂ := Heap.get?_update_self (Obj.mapSeq (·.push Value.none)) hS rfl
  refine wpAny_updateSeq (hz := by seq_fits) hS₂ rfl ?_
  have hS₃ := Heap.get?_update_self (Obj.mapSeq (·.pop)) hS₂ rfl
  have oth : ∀ b o, b ≠ S → s.heap.get? b = some o → ((s.heap.update S (Obj.mapSeq (·.push Value.none))).update S (Obj.mapSeq (·.pop))).get? b = some o :=
    fun b o hb x => (Heap.get?_update_other _ _ (Ne.symm hb)).trans ((Heap.get?_update_other _ _ (Ne.symm hb)).trans x)
  refine wpAny_pure ⟨plainId_quiet F.plain_extend_loop _, die_loop (s := s) (h₁ := s.heap) hh hei hle hli (Ne.symm hSe) (Nat.ne_of_lt hiltS) (Nat.ne_of_lt hlltS) hiltS heltS hn res hR items.size 0 _ s.toks _ #[] [] (Nat.sub_zero _) (Nat.zero_le _) ?_ (fun b o h1 _ _ x => oth b o h1 x) hS₃ rfl rfl ⟨List.Pairwise.nil, (fun _ ha => nomatch ha), (fun j a hj => by simp at hj)⟩⟩
  exact DieSt.keep (h := s.heap) ⟨.inl he, hit, hl⟩ oth (Ne.symm hSe) (Nat.ne_of_lt hiltS) (Nat.ne_of_lt hlltS)
theorem die_init (hh : A.handled = none) (he : IsEnum s.heap e it 0 .none) (hit : s.heap.IsListIter it l 0) (hl : s.heap.IsList l items) (hei : e ≠ it) (hle : l ≠ e) (hli : l ≠ it) (heltS : e < S) (hiltS : it < S) (hlltS : l < S) (hS : s.heap.get? S = some { cls := .type "list", data := .seq #[] })
    (hR : ∀ h' tk acc c as, (∀ b o, b ≠ S → b ≠ e → b ≠ it → s.heap.get? b = some o → h'.get? b = some o) → h'.get? S = some { cls := .type "list", dict := none, data := .seq acc c, slots := #[] } → as.length = items.size → DieG items S h' as →
      acc.toList = as.map Value.ref → R (.ok (.ret .none)) { s with heap := h', toks := tk }) (hn : items.size ≤ sizeLine) :
    wpAny (model prog w) A.in1 (Builtin.«list.__init__» ⟨[.ref S, .ref e], []⟩)
      (fun fin s' => match fin with | .done f => R (.ok f) s' | .again c' => c'.quiet = true ∧ codeAny (model prog w) A c' R s') (fun e s' => R (.error e) s') s := by
  show wpAny _ _ (do let old ← Builtin.List.listItems (.ref S); Builtin.List.listUpdate (.ref S) (fun _ => #[]); letGo old.toList.reverse; Builtin.List.listExtendWith (.ref S) (.ref e) .none) _ _ s
  refine wpAny_bind ?_
  unfold Builtin.List.listItems
  refine wpAny_bind (wpAny_seqItems hS rfl (wpAny_pure ?_))
  show wpAny _ _ (updateSeq S (fun _ => #[]) >>= fun _ => letGo (#[] : Array Value).toList.reverse >>= fun _ => Builtin.List.listExtendWith (.ref S) (.ref e) .none) _ _ s
  refine wpAny_bind (wpAny_updateSeq hS rfl ?_)
  have hS₂ := Heap.get?_update_self (Obj.mapSeq (fun _ => (#[] : Array Value))) hS rfl
  have oth : ∀ b o, b ≠ S → s.heap.get? b = some o → (s.heap.update S (Obj.mapSeq (fun _ => (#[] : Array Value)))).get? b = some o :=
    fun b o hb x => (Heap.get?_update_other _ _ (Ne.symm hb)).trans x
  refine wpAny_bind (wpAny_letGo ?_)
  refine die_extend hh (oth e _ (Nat.ne_of_lt heltS) he) (hit.at fun o x => oth it o (Nat.ne_of_lt hiltS) x) (hl.at fun o x => oth l o (Nat.ne_of_lt hlltS) x) hei hle hli heltS hiltS hlltS .none _ hS₂ (fun h' tk acc c as hk hS' hl' hG hacc => ?_) hn
  exact hR h' tk acc c as (fun b o h1 h2 h3 x => hk b o h1 h2 h3 (oth b o h1 x)) hS' hl' hG hacc
end
theorem die_call {prog : Program} {w : World} {A : Around} {E : Value → Shared → Prop} {s : Shared} {items : Array Value} {e it l : Addr} {Q : Value → Shared → Prop} (hh : A.handled = none) (he : IsEnum s.heap e it 0 .none) (hit : s.heap.IsListIter it l 0) (hl : s.heap.IsList l items) (hei : e ≠ it) (hle : l ≠ e) (hli : l ≠ it) (hn : items.size ≤ sizeLine)
    (hQ : ∀ h' tk acc c as, (∀ b o, b ≠ e → b ≠ it → s.heap.get? b = some o → h'.get? b = some o) → h'.get? s.heap.objs.size = some { cls := .type "list", dict := none, data := .seq acc c, slots := #[] } → as.length = items.size → DieG items s.heap.objs.size h' as →
      acc.toList = as.map Value.ref → Q (.ref s.heap.objs.size) { s with heap := h', toks := tk }) :
    wpAny (model prog w) A (call (.type "list") [.ref e]) Q E s := by
  refine callType_codes (Q₁ := fun obj s₁ => obj = .ref s.heap.objs.size ∧ s₁ = { s with heap := s.heap.push { cls := .type "list", data := .seq #[] } }) PySem.F.called_list (PySem.F.typeCall_list_1 _) PySem.F.entry_list_init
    (code_list_new _ ⟨rfl, rfl⟩) fun obj s₁ h₁ => ?_
  obtain ⟨rfl, rfl⟩ := h₁
  have hS : (s.heap.push { cls := .type "list", data := .seq #[] }).get? s.heap.objs.size = some { cls := .type "list", data := .seq #[] } := Heap.get?_push_size _ rfl
  have le : e < s.heap.objs.size := Heap.lt_size he
  have li : it < s.heap.objs.size := by obtain ⟨_, x, _⟩ := hit; exact Heap.lt_size x
  have ll : l < s.heap.objs.size := by obtain ⟨_, x, _⟩ := hl; exact Heap.lt_size x
  refine ⟨⟨_, hS, rfl⟩, PySem.F.args_list_init_2 _ _, die_init (A := A.in1) hh (Heap.get?_push_of_some _ he) (hit.at fun o x => Heap.get?_push_of_some _ x) (hl.at fun o x => Heap.get?_push_of_some _ x) hei hle hli le li ll hS (fun h' tk acc c as hk hS' hl' hG hacc => ?_) hn⟩
  exact ⟨rfl, hQ h' tk acc c as (fun b o h2 h3 x => hk b o (Nat.ne_of_lt (Heap.lt_size x)) h2 h3 (Heap.get?_push_of_some _ x)) hS' hl' hG hacc⟩
end PySem.W
namespace Ab
open PySem PySem.Spec PyProof.Rows L2
def enumK : Nat → List V → List (Key × V)
  | _, [] => []
  | i, x :: xs => (.inl (i : Int), x) :: enumK (i + 1) xs
theorem enumK_len : ∀ (xs : List V) (i : Nat), (enumK i xs).length = xs.length
  | [], _ => rfl
  | _ :: xs, i => congrArg Nat.succ (enumK_len xs (i + 1))
theorem enumK_get : ∀ (xs : List V) (i j : Nat) (x : V), xs[j]? = some x → (enumK i xs)[j]? = some (.inl ((i + j : Nat) : Int), x)
  | [], _, _, _, h => by simp at h
  | x :: xs, i, 0, d, h => by simp at h; subst h; rfl
  | x :: xs, i, j + 1, d, h => by
    have := enumK_get xs (i + 1) j d (by simpa using h)
    rw [show i + (j + 1) = i + 1 + j by omega]
    exact this
theorem putT_upd {p : Addr} {o : HO} : ∀ (ts : List Addr) (kvs : List (Key × V)) (H : Hp), p ∉ ts → LiI.putT (upd H p o) ts kvs = upd (LiI.putT H ts kvs) p o
  | [], _, _, _ => rfl
  | _ :: _, [], _, _ => rfl
  | t :: ts, q :: kvs, H, h => by
    show LiI.putT (upd (upd H p o) t (.tup [kV q.1, q.2])) ts kvs = upd (LiI.putT (upd H t (.tup [kV q.1, q.2])) ts kvs) p o
    rw [← putT_upd ts kvs _ (fun z => h (List.mem_cons_of_mem _ z))]
    congr 1
    have ne : p ≠ t := fun z => h (by rw [z]; exact List.mem_cons_self)
    funext b
    by_cases h1 : b = p
    · subst h1; rw [upd_ne ne, upd_same, upd_same]
    · by_cases h2 : b = t
      · subst h2; rw [upd_same, upd_ne h1, upd_same]
      · rw [upd_ne h2, upd_ne h1, upd_ne h1, upd_ne h2]
theorem sn_enum {K : PySem.W.Frag} {m : Mu} {r : Hp} : ∀ (ts : List Addr) (vs : List V) (ds : List D) (i : Nat) (H F : Hp), ts.length = vs.length → RepL K F vs ds → Sn K F H m r → (∀ t, t ∈ ts → H t = none) → ts.Nodup →
    ∃ F', Same F F' ∧ Sn K F' (LiI.putT H ts (enumK i vs)) m r ∧ RepL K F' (ts.map V.ref) (nums i ds)
  | [], [], _, _, _, F, _, .nil, hn, _, _ => ⟨F, Same.refl F, hn, .nil⟩
  | [], _ :: _, _, _, _, _, h, _, _, _, _ => by cases h
  | _ :: _, [], _, _, _, _, h, _, _, _, _ => by cases h
  | t :: ts, v :: vs, d :: ds, i, H, F, h, .cons hv hr, hn, hf, nd => by
    have nd' := List.nodup_cons.mp nd
    have ht := hf t (List.mem_cons_self ..)
    have sm := hn.same ht (.tup [V.int (i : Int), v])
    obtain ⟨F', s2, n2, r2⟩ := sn_enum ts vs ds (i + 1) _ _ (Nat.succ.inj h) (hr.mono sm) (hn.new ht (.tup [V.int (i : Int), v])) (fun t' ht' => by
      have : t' ≠ t := fun z => nd'.1 (z ▸ ht')
      rw [upd_ne this]; exact hf t' (List.mem_cons_of_mem _ ht')) nd'.2
    exact ⟨F', sm.trans s2, n2, .cons ((Rep.tup (.inl (.inl upd_same)) (.cons (.int _) (.cons (hv.mono sm) .nil))).mono s2) r2⟩
section
variable {X : Cx} {pins : List (Addr × Obj)} {σ : L2.St} {H : Hp} {s : Shared}
theorem enum_laid {h' : Heap} {tk S : Nat} {xs : List V} {its : List Value} {acc : Array Value} {c : Nat} {as : List Addr} (I : Inv X pins σ H s) (hz : xs.length ≤ sizeLine) (rv : Vals xs its) (hSz : s.heap.objs.size ≤ S)
    (hk : ∀ b o, s.heap.get? b = some o → h'.get? b = some o) (hS : h'.get? S = some { cls := .type "list", dict := none, data := .seq acc c, slots := #[] }) (hl : as.length = its.length) (hG : PySem.W.DieG its.toArray S h' as) (hacc : acc.toList = as.map Value.ref) :
    H S = none ∧ (∀ t ∈ as, H t = none) ∧ as.Nodup ∧ S ∉ as ∧ Inv X pins σ (upd (LiI.putT H as (enumK 0 xs)) S (.lst (as.map V.ref))) { s with heap := h', toks := tk } := by
  have lk : xs.length = its.length := rv.length
  have hSn : S ∉ as := fun z => Nat.lt_irrefl _ (hG.above _ z)
  have nd : as.Nodup := List.Pairwise.imp (fun {a b} (h : a < b) => Nat.ne_of_lt h) hG.rise
  have new : ∀ t ∈ as, H t = none := fun t ht => I.hok.fresh (Nat.le_trans hSz (Nat.le_of_lt (hG.above t ht)))
  have newS : H S = none := I.hok.fresh hSz
  rw [← putT_upd as (enumK 0 xs) H hSn]
  have atP := LiI.putT_at as (enumK 0 xs) (upd H S (.lst (as.map V.ref))) (by rw [enumK_len]; omega) nd
  have off : ∀ b, b ∉ as → b ≠ S → LiI.putT (upd H S (.lst (as.map V.ref))) as (enumK 0 xs) b = H b := fun b h1 h2 => by rw [LiI.putT_off as _ _ h1, upd_ne h2]
  have low : ∀ b o, s.heap.get? b = some o → b ∉ as ∧ b ≠ S := fun b o e => ⟨fun z => absurd (Heap.lt_size e) (Nat.not_lt.mpr (Nat.le_trans hSz (Nat.le_of_lt (hG.above b z)))), Nat.ne_of_lt (Nat.lt_of_lt_of_le (Heap.lt_size e) hSz)⟩
  have kp : ∀ b u, H b = some u → (LiI.putT (upd H S (.lst (as.map V.ref))) as (enumK 0 xs)) b = some u := fun b u e => by
    rw [off b (fun z => by rw [new b z] at e; cases e) (fun z => by rw [z, newS] at e; cases e)]
    exact e
  have eS : LiI.putT (upd H S (.lst (as.map V.ref))) as (enumK 0 xs) S = some (.lst (as.map V.ref)) := by rw [LiI.putT_off as _ _ hSn, upd_same]
  refine ⟨newS, new, nd, hSn, ?_⟩
  refine I.call' (ch := []) rfl ⟨fun b o q _ _ _ => hk b o q, fun b o q _ _ _ => ⟨o.slots, hk b o q⟩, fun b o q n _ => ?_, fun b o q _ => ⟨o, hk b o q⟩, fun b xs q => kp b _ q, fun b o u q => kp b _ q, fun b ps q => ⟨#[], by rw [kp b _ q]; simp⟩⟩ (fun b u q => ?_) I.bare fun b z => by simp at z
  · obtain ⟨z1, z2⟩ := low b o q
    rw [off b z1 z2]
    exact n
  · by_cases hb : b ∈ as
    · obtain ⟨j, pk, e1, e2, e3⟩ := LiI.paired_ix atP hb
      rw [e3] at q
      cases q
      obtain ⟨hj, t, f3⟩ := hG.pairs j b e1
      have hj' : j < its.length := by simpa using hj
      have hx : xs[j]? = some (xs[j]'(by omega)) := List.getElem?_eq_getElem (by omega)
      have e4 := enumK_get xs 0 j _ hx
      rw [Nat.zero_add] at e4
      rw [e4] at e2
      cases e2
      have rx : RelV (xs[j]'(by omega)) (its[j]) := by
        obtain ⟨y, g1, g2⟩ := LiI.paired_get rv hx
        rw [List.getElem?_eq_getElem hj'] at g1
        cases g1
        exact g2
      exact ⟨by show 2 ≤ sizeLine; decide, [.int (j : Int) t, its[j]], .cons ⟨t, rfl⟩ (.cons rx .nil), ⟨_, f3, rfl, _, rfl⟩⟩
    · by_cases hb2 : b = S
      · rw [hb2] at q ⊢
        rw [eS] at q
        cases q
        refine ⟨by rw [List.length_map]; omega, acc.toList, c, by rw [hacc]; exact LiI.vals_refs as, ?_⟩
        rw [Array.toArray_toList]
        exact hS
      · rw [off b hb hb2] at q
        exact (I.hok b u q).stay (fun d v _ y => hk d v y) (fun d y => kp d _ y) fun d xs y => kp d _ y
end
def rEnumL (K : PySem.W.Frag) : List V → Hp → VK → Prop := fun vs H Q => ∃ (a : Addr) (xs : List V), vs = [.ref a] ∧ SqL K H a xs ∧ ∀ (p : Addr) (ts : List Addr), H p = none → (∀ t, t ∈ ts → H t = none) → ts.Nodup → p ∉ ts → ts.length = xs.length → Q (.ref p) (upd (LiI.putT H ts (enumK 0 xs)) p (.lst (ts.map V.ref)))
def tListEnum (K : PySem.W.Frag) (ta : TA) : TE := fun σ H Q => ta σ H fun vs H1 => rEnumL K vs H1 Q
theorem pe_listEnum {X : Cx} {e : Expr} {ta : TA} {p p2 pos pos2 : Pos} (hc : X.calm = true) (ha : PA X [e] ta) (hg : Gl X "list") (hm : X.mg "list" = none) (hv : bootBuiltins "list" = some (.type "list")) (hgE : Gl X "enumerate") (hmE : X.mg "enumerate" = none)
    (hs : starEach [.Call (.Name "enumerate" p2) [e] [] pos2] X.env = (false, eval (.Call (.Name "enumerate" p2) [e] [] pos2) X.env) :: starEach [] X.env := by rfl) (hs2 : starEach [e] X.env = [(false, eval e X.env)] := by rfl) :
    PE X (.Call (.Name "list" p) [.Call (.Name "enumerate" p2) [e] [] pos2] [] pos) (tListEnum X.K ta) := by
  refine ⟨fun pins s σ H Q I hq => ?_⟩
  refine wpAny_Call_Name_kw (ld_blt I hg hm hv ?_)
  refine PyProof.Rows.callWith_type1 ?_ hs rfl
  rw [hs]
  show wpAny _ _ (spliced ((false, eval (.Call (.Name "enumerate" p2) [e] [] pos2) X.env) :: backTo pos (starEach [] X.env))) _ _ s
  refine Calls.spliced_cons ?_
  refine Call_ (ld_blt I hgE hmE boot_enumerate (PyProof.Rows.callWith_type1 (thn (ha.run pos2 pins s σ H _ I hq) fun us s1 ⟨vs, H1, I1, r1, q1⟩ => ?_) hs2 rfl))
  obtain ⟨a, xs, ex, hsq, q⟩ := q1
  subst ex
  cases r1 with
  | cons r rr =>
    cases rr
    cases r
    obtain ⟨its, rv, p', hz⟩ := I1.list hsq
    refine call_enumerate_list p'.isList fun h2 he hit hsz hk => ?_
    refine Calls.spliced_nil ?_
    have la : a < s1.heap.objs.size := by obtain ⟨_, x, _⟩ := p'.isList; exact Heap.lt_size x
    have lk : xs.length = its.length := rv.length
    refine PySem.W.die_call (I1.ok.hd hc) he hit (p'.isList.at fun o x => hk a o x) (Nat.succ_ne_self _) (Nat.ne_of_lt (Nat.lt_succ_of_lt la)) (Nat.ne_of_lt la) (by rw [List.size_toArray]; omega) fun h' tk acc c as hk2 hS hl hG hacc => ?_
    dsimp only at hS hl hG hk2 ⊢
    obtain ⟨k1, k2, k3, k4, J⟩ := enum_laid (tk := tk) (S := h2.objs.size) I1 hz rv (by rw [hsz]; omega) (fun b o x => hk2 b o (Nat.ne_of_lt (Nat.lt_succ_of_lt (Heap.lt_size x))) (Nat.ne_of_lt (Heap.lt_size x)) (hk b o x)) hS (by rw [hl, List.size_toArray]) hG hacc
    exact ⟨.ref _, _, J, rfl, q _ as k1 k2 k3 k4 (by rw [hl, List.size_toArray, lk])⟩
/-- list(enumerate(xs)) -/
def aLEnum (mt : Bool) (t : AA) : AE := fun e m Q X => t e m (fun ds m1 => ∃ d xs, ds = [d] ∧ asLL m1 d = some xs ∧ newL mt (nums 0 xs) m1 Q) X
theorem putT_none {p : Addr} {ts : List Addr} {kvs : List (Key × V)} {H : Hp} (h : H p = none) (hn : p ∉ ts) : LiI.putT H ts kvs p = none := by rw [LiI.putT_off ts kvs H hn]; exact h
theorem q_lenum {X : Cx} {a : Expr} {tr : AA} {p p2 pos pos2 : Pos} (mt : Bool) (hc : X.calm = true) (hm : X.mg "list" = none) (hmE : X.mg "enumerate" = none) (ha : QA X [a] tr) (hg : Gl X "list" := by rfl) (hgE : Gl X "enumerate" := by rfl)
    (hs : starEach [.Call (.Name "enumerate" p2) [a] [] pos2] X.env = (false, eval (.Call (.Name "enumerate" p2) [a] [] pos2) X.env) :: starEach [] X.env := by rfl) (hs2 : starEach [a] X.env = [(false, eval a X.env)] := by rfl) :
    QE X (.Call (.Name "list" p) [.Call (.Name "enumerate" p2) [a] [] pos2] [] pos) (aLEnum mt tr) := fun W tk =>
  (pe_listEnum hc (ha W tk) hg hm (by decide +kernel) hgE hmE hs hs2).imp fun s H Qc h => by
    obtain ⟨F, e, m, r, Q, X, he, hn, h, g, gx⟩ := h
    refine ⟨F, e, m, r, _, X, he, hn, h, fun F1 H1 m1 v d s1 n1 r1 q1 => ?_, gx⟩
    obtain ⟨d, xs, rfl, hx, q⟩ := q1
    obtain ⟨v, rfl, rv⟩ := repL1 r1
    obtain ⟨p, us, rfl, e2, r2⟩ := asLL_ok n1 rv hx
    refine ⟨p, us, rfl, e2, fun p' ts hp hts nd hpn hl => ?_⟩
    obtain ⟨F', s2, n2, r3⟩ := sn_enum ts us xs 0 H1 F1 hl r2 n1 hts nd
    exact newL_ok n2 r3 q (g.mono (s1.trans s2)) p' (putT_none hp hpn)
end Ab
namespace Ab
open PySem PySem.Spec PyProof.Rows L2
section
variable {X : Cx} {a b c : Expr} {es : List Expr} {pos : Pos} {ta tb tc : AE} {tr : AA}
/-! ### sorted(xs), of numbers -/
def bSorted (mt : Bool) : BA := fun ds m Q => ∃ (d : D) (ns : List Int), ds = [d] ∧ asLL m d = some (ns.map D.int) ∧ ns.length < 64 ∧ ∀ ns' : List Int, ns'.Perm ns → ns'.Pairwise (· ≤ ·) → newL mt (ns'.map D.int) m Q
theorem ints_rep {K : PySem.W.Frag} {F : Hp} : ∀ ns : List Int, RepL K F (ns.map V.int) (ns.map D.int)
  | [] => .nil
  | n :: ns => .cons (.int n) (ints_rep ns)
theorem s_sorted {K : PySem.W.Frag} (mt : Bool) : SA K (rSorted K) (bSorted mt) := by
  intro F H m r vs ds Q Qc hn hr h k
  obtain ⟨d, ns, rfl, hx, hl, q⟩ := h
  obtain ⟨v, rfl, rv⟩ := repL1 hr
  obtain ⟨p, us, rfl, e2, r2⟩ := asLL_ok hn rv hx
  rw [repL_ints r2] at e2
  exact ⟨p, ns, rfl, e2, hl, fun ns' p' h1 h2 hp => newL_ok hn (ints_rep ns') (q ns' h1 h2) k p' hp⟩
theorem q_sorted (mt : Bool) {p : Pos} (hm : X.mg "sorted" = none) (ha : QA X (a :: es) tr) (hg : Gl X "sorted" := by rfl)
    (he : starEach (a :: es) X.env = (false, eval a X.env) :: starEach es X.env := by rfl) (hpl : (backTo pos (starEach es X.env)).any (·.1) = false := by rfl) : QE X (.Call (.Name "sorted" p) (a :: es) [] pos) (aCB (bSorted mt) tr) :=
  q_callB cr_sorted (s_sorted mt) hm (by decide +kernel) ha hg (by decide) (by decide) he hpl
end
/-! ### ==, a tuple that holds lists -/
def vw2 (m : Mu) : D → D
  | .tup ds => .tup (ds.map (vw m))
  | d => vw m d
theorem dpAll_vw {K : PySem.W.Frag} {F H : Hp} {m : Mu} {r : Hp} (hn : Sn K F H m r) {n : Nat} : ∀ {vs : List V} {ds : List D}, RepL K F vs ds → (∀ x, x ∈ ds.map (vw m) → OkD n x) → DpAll K H vs (pys (ds.map (vw m)))
  | _, _, .nil, _ => by unfold pys; exact .nil
  | _, _, .cons h r, f => by
    rw [List.map_cons] at f ⊢
    unfold pys
    exact .cons (OkD.dpv hn (f _ (List.mem_cons_self ..)) h) (dpAll_vw hn r fun x hx => f x (List.mem_cons_of_mem _ hx))
theorem dp_vw2 {K : PySem.W.Frag} {F H : Hp} {m : Mu} {r : Hp} (hn : Sn K F H m r) {n : Nat} {d : D} (h : OkD n (vw2 m d)) {v : V} (hr : Rep K F v d) : Dp K H v (py (vw2 m d)) := by
  by_cases ht : ∃ ds, d = .tup ds
  · obtain ⟨ds, rfl⟩ := ht
    cases hr with
    | tup e q =>
      have h : OkD n (.tup (ds.map (vw m))) := h
      show Dp K H _ (py (.tup (ds.map (vw m))))
      unfold py
      cases h with
      | tup hx => exact .tup (hn.sqT e) (dpAll_vw hn q hx)
  · have e : vw2 m d = vw m d := by
      cases d <;> first | rfl | exact absurd ⟨_, rfl⟩ ht
    rw [e] at h ⊢
    exact OkD.dpv hn h hr
def bEqT : B2 := fun d e m Q => (DOk (vw2 m d) ∧ DOk (vw2 m e) ∧ Q (.bl (eqD (vw2 m d) (vw2 m e))) m) ∨ bEq d e m Q
def bNeT : B2 := fun d e m Q => (DOk (vw2 m d) ∧ DOk (vw2 m e) ∧ Q (.bl (!eqD (vw2 m d) (vw2 m e))) m) ∨ bNe d e m Q
theorem c_eqT {X : Cx} (hu : X.A.units + 64 < cLine) : Cm X .Eq bEqT := cm_or ⟨_, op_eqD hu, fun F H m r v u d e Q Qc hn h1 h2 h k => by
  obtain ⟨⟨n1, l1, o1⟩, ⟨n2, l2, o2⟩, q⟩ := h
  exact ⟨_, _, dp_vw2 hn o1 h1, dp_vw2 hn o2 h2, o1.shaped l1, o2.shaped l2, k F H m _ _ (Same.refl F) hn (.bl _) q⟩⟩ (c_eq hu)
theorem c_neT {X : Cx} (hu : X.A.units + 64 < cLine) : Cm X .NotEq bNeT := cm_or ⟨_, op_neD hu, fun F H m r v u d e Q Qc hn h1 h2 h k => by
  obtain ⟨⟨n1, l1, o1⟩, ⟨n2, l2, o2⟩, q⟩ := h
  exact ⟨_, _, dp_vw2 hn o1 h1, dp_vw2 hn o2 h2, o1.shaped l1, o2.shaped l2, k F H m _ _ (Same.refl F) hn (.bl _) q⟩⟩ (c_ne hu)
section
variable {e : De} {m : Mu} {ta tb tc : AE} {tr : AA} {d x y z : D} {xs : List D}
theorem o_eqT (h1 : DOk (vw2 m x)) (h2 : DOk (vw2 m y)) : Op2 bEqT x y m (.bl (eqD (vw2 m x) (vw2 m y))) := fun _ q => .inl ⟨h1, h2, q⟩
theorem o_neT (h1 : DOk (vw2 m x)) (h2 : DOk (vw2 m y)) : Op2 bNeT x y m (.bl (!eqD (vw2 m x) (vw2 m y))) := fun _ q => .inl ⟨h1, h2, q⟩
theorem o_neTb (h : Op2 bNe x y m d) : Op2 bNeT x y m d := fun Q q => .inr (h Q q)
theorem ev_lenum {d : D} (h : EvA tr e m [d]) (hx : asLL m d = some xs) : Ev (aLEnum false tr) e m (.lst (nums 0 xs)) := fun _ _ q => h _ _ ⟨d, xs, rfl, hx, q⟩
theorem x_lenumN {Q : QD} {X : XA} (h : tr e m (fun ds m1 => ∃ d xs, ds = [d] ∧ asLL m1 d = some xs ∧ ∀ p, m1 p = none → Q (.cell p) (mset m1 p (.lst (nums 0 xs)))) X) : aLEnum true tr e m Q X := h
/-- sorted of two -/
def srt2 (i j : Int) : List Int := if j < i then [j, i] else [i, j]
theorem perm2 {i j : Int} {ns : List Int} (h : ns.Perm [i, j]) (hs : ns.Pairwise (· ≤ ·)) : ns = srt2 i j := by
  unfold srt2
  match ns, h.length_eq with
  | [a, b], _ =>
    have ha : a ∈ [i, j] := h.subset (by simp)
    have hab : a ≤ b := by
      rw [List.pairwise_cons] at hs
      exact hs.1 b (by simp)
    have one : ∀ x y : Int, [x].Perm [y] → x = y := fun x y p => by
      have := p.subset (show x ∈ [x] by simp)
      simpa using this
    simp only [List.mem_cons, List.not_mem_nil, or_false] at ha
    rcases ha with rfl | rfl
    · have e := one _ _ h.cons_inv
      subst e
      rw [if_neg (by omega)]
    · have e := one _ _ (h.trans (List.Perm.swap a i [])).cons_inv
      subst e
      split
      · rfl
      · have : a = b := by omega
        subst this; rfl
theorem o_sort2 {i j : Int} : OpA (bSorted false) [.lst [.int i, .int j]] m (.lst ((srt2 i j).map D.int)) := fun Q q => ⟨_, [i, j], rfl, rfl, Nat.le_of_ble_eq_true rfl, fun ns' h1 h2 => by
  rw [perm2 h1 h2]; exact q⟩
end
end Ab
namespace L2
open PySem PySem.Spec PyProof.Rows
/-- C(e, ..) as a value, C's own __init__ keeping sp -/
def tMkV (C : Addr) (sp : Sp) (dvs : List V) (ta : TA) : TE := fun σ H Q => ta σ H fun vs H1 => vs.length ≤ 1000 ∧ ∀ a, H1 a = none → sp (.ref a :: (vs ++ dvs)) (upd H1 a (exo a C none)) (fun v H2 => v = .non ∧ Q (.ref a) H2) (fun _ _ _ => False)
section
variable {X : Cx} {e : Expr} {es : List Expr} {ta : TA} {p pos : Pos}
theorem pe_oex {CX : CXT} {x : Str} {C fI : Addr} {k : Nat} {fd : FuncData} {ps : List Str} {sp : Sp} {ds : List Value} {dvs : List V} (T : OexC X.K C) (iC : PySem.W.findIn X.K (.ref C) "__init__" = some (some (.ref fI))) (tI : PySem.W.typeIn X.K (.ref fI) = some (.type "function"))
    (F1 : FnOk X.prog X.w X.K X.mg X.base CX k fI fd ps sp) (hr : Room (k + 1) X.A) (hb : Binds X.K fd ps ds) (hd : Vals dvs ds) (hx : Passes CX X (fun _ _ _ => False)) (hg : Gl X x) (hm : X.mg x = some (.ref C)) (ha : PA X (e :: es) ta)
    (hdb : (x == ("__debug__" : Str)) = false := by decide) (he : starEach (e :: es) X.env = (false, eval e X.env) :: starEach es X.env := by rfl) (hpl : (backTo pos (starEach es X.env)).any (·.1) = false := by rfl) :
    PE X (.Call (.Name x p) (e :: es) [] pos) (tMkV C sp dvs ta) := by
  refine ⟨fun pins s σ H Q I h => ?_⟩
  obtain ⟨nm, q, N, bs, bm, sn, sub, ab, col, dd, k0, k1, k2, k3, k5, hC, hbm⟩ := T.cls
  refine wpAny_Call_Name_kw (ld_glob I hg hm ?_ hdb)
  refine PySem.W.callWith_K (h₀ := X.base) I.ok.mod.kin T.kC (thn (ha.run pos pins s σ H _ I h) fun us s1 ⟨vs, H1, I1, r1, hz, q1⟩ => ⟨I1.kIn, ?_⟩) he hpl
  show wpAny _ _ (call (.ref C) us) _ _ _
  obtain ⟨hp, g, dr, tk, os⟩ := s1
  have hsz : hp.objs.size ≤ hp.objs.size + 1 := Nat.le_succ _
  have hn : H1 (hp.objs.size + 1) = none := I1.hok.fresh hsz
  have hq := q1 (hp.objs.size + 1) hn
  have kk : ∀ b o, hp.get? b = some o → ((hp.push (PySem.W.kdv_tup us)).push (PySem.HandSPX.excO C hp.objs.size)).get? b = some o := fun b o e => Heap.get?_push_of_some _ (Heap.get?_push_of_some _ e)
  have hget : ((hp.push (PySem.W.kdv_tup us)).push (PySem.HandSPX.excO C hp.objs.size)).get? (hp.objs.size + 1) = some (PySem.HandSPX.excO C hp.objs.size) := by heap_get
  have I2 : Inv X pins σ (upd H1 (hp.objs.size + 1) (exo (hp.objs.size + 1) C none)) ⟨(hp.push (PySem.W.kdv_tup us)).push (PySem.HandSPX.excO C hp.objs.size), g, dr, tk, os⟩ :=
    I1.laid (t' := tk) (a := hp.objs.size + 1) (o := exo (hp.objs.size + 1) C none) (h' := (hp.push (PySem.W.kdv_tup us)).push (PySem.HandSPX.excO C hp.objs.size)) kk hsz (exo_ok hget)
  have r2 : Vals (V.ref (hp.objs.size + 1) :: (vs ++ dvs)) (Value.ref (hp.objs.size + 1) :: (us ++ ds)) := .cons rfl (r1.append hd)
  have hl : (Value.ref (hp.objs.size + 1) :: us ++ ds).length = ps.length := by
    have e := r2.length
    rw [F1.len _ _ _ _ hq] at e
    exact e.symm
  have hus : us.length ≤ sizeLine := by
    rw [← Paired.length r1, sizeLine_eq]
    omega
  refine wpAny_call (PySem.HandSPX.call_own F.excBase_ValueError (fun Y => PySem.HandSPX.refsVE_contains Y bm hbm) (I1.kIn _ _ hC) (PySem.W.looks_findIn I1.kIn iC) (fun self => PySem.W.bind_fn I1.kIn self tI) hus
    (codeAny_mono (F1.run _ X.stack _ _ ⟨Value.ref (hp.objs.size + 1) :: us, []⟩ (Value.ref (hp.objs.size + 1) :: (us ++ ds)) _ _ (fun _ _ _ => False) (hr.make C us []) (I2.env0.make C us []) (hb _ (Value.ref (hp.objs.size + 1) :: us) I2.kIn hl) r2 hq) fun r s' hq' => ?_))
  cases r with
  | error er => exact hx pins σ _ _ er s' I2 hq'
  | ok fl =>
    cases fl with
    | ret u =>
      obtain ⟨v, H2, os2, bare2, un2, hok2, rv, ev, q2⟩ := hq'
      subst ev
      obtain ⟨h2, g2, d2, t2, os'⟩ := s'
      exact ⟨rv, .ref (hp.objs.size + 1), H2, I2.call' (ch := []) os2 un2 hok2 bare2 (fun b z => absurd z (by simp)), rfl, q2⟩
    | next => exact False.elim hq'
    | brk => exact False.elim hq'
    | cont => exact False.elim hq'
end
end L2
namespace Ab
open PySem PySem.Spec PyProof.Rows L2
/-! ### exceptions as values -/
/-- an __init__ that tells a number -/
def xiSpI (K : PySem.W.Frag) (fld : Str) : Sp := fun vs H Q _ => ∃ (a C : Addr) (i : Int), vs = [.ref a, .int i] ∧ i.natAbs.log2 < 1920 ∧ (toString i : Str).length ≤ 700 ∧ OexC K C ∧ PySem.W.findIn K (.ref C) fld = some none ∧ H a = some (exo a C none) ∧
  ∀ dx, H dx = none → dx ≠ a → Q .non (upd (upd H dx (exd dx [(fld, .int i)])) a (exo a C (some dx)))
/-- an __init__ that copies a list -/
def xiSpL (K : PySem.W.Frag) (fld : Str) : Sp := fun vs H Q _ => ∃ (a C p : Addr) (ys : List V), vs = [.ref a, .ref p] ∧ OexC K C ∧ PySem.W.findIn K (.ref C) fld = some none ∧ H a = some (exo a C none) ∧ (SqL K H p ys ∨ SqT K H p ys) ∧
  ∀ l dx, H l = none → upd H l (.lst ys) dx = none → dx ≠ a → Q .non (upd (upd (upd H l (.lst ys)) dx (exd dx [(fld, .ref l)])) a (exo a C (some dx)))
def rAddS : R2 := fun x y H Q => ∃ i j, x = .str i ∧ y = .str j ∧ i.length + j.length ≤ sizeLine ∧ Q (.str (i ++ j)) H
def rStrI : List V → Hp → VK → Prop := fun xs H Q => ∃ i : Int, xs = [.int i] ∧ i.natAbs.log2 < 1920 ∧ Q (.str (toString i)) H
def rListS (K : PySem.W.Frag) : List V → Hp → VK → Prop := fun xs H Q => ∃ p ys, xs = [.ref p] ∧ (SqL K H p ys ∨ SqT K H p ys) ∧ ∀ l, H l = none → Q (.ref l) (upd H l (.lst ys))
section
variable {P : Program} {w : World} {K : PySem.W.Frag} {mg : Str → Option Value} {base : Heap}
theorem mkXInitI {x qual : Str} {params : Arguments} {body : List Stmt} {scope : Scope} {f : Addr} {fd : FuncData} {k : Nat} {nm fld m1 m2 : Str} (l1 : m1.length ≤ 1000) (l2 : m2.length ≤ 1000)
    (F : FunD K x qual params body scope [] [] f fd) (S : FnScope ["self", nm] ["self", nm] scope)
    (h1 : ∀ (cdv : Value) (A : Around) (outer : List Env) (s : Shared) (H : Hp) (E : XK), PSs (cxOf (L2.CX P w) P w K mg base ["self", nm] qual scope f cdv A outer s H E) body
      (fun D σ H => tVeI K (tCons (tVar 0) (tCons (tOp rAddS (tOp rAddS (tC (.str m1)) (tCB rStrI (tCons (tVar 1) tNil))) (tC (.str m2))) tNil)) σ H (fun _ H1 => tOst K fld (tVar 0) (tVar 1) D σ H1))) : FnOk P w K mg base (L2.CX P w) (k + 1) f fd ["self", nm] (xiSpI K fld) := by
  refine F.ok S (fun vs H Q E h => by obtain ⟨a, C, y, rfl, _⟩ := h; rfl) (fun cdv A outer s H vs Q E hr h => ?_)
  obtain ⟨a, C, i, rfl, hb, hl, T, hno, ha, hk⟩ := h
  refine ⟨_, h1 cdv A outer s H E, ?_⟩
  have ll : (m1 ++ (toString i : Str)).length = m1.length + (toString i : Str).length := Str.length_append ..
  exact ⟨.ref a, rfl, .int i, rfl, i, rfl, hb, m1, toString i, rfl, rfl, by rw [sizeLine_eq]; omega, _, m2, rfl, rfl, by rw [ll, sizeLine_eq]; omega, a, C, [_], rfl, (by show 1 ≤ 1000; decide), T, ha, .int i, rfl, .ref a, rfl, a, C, rfl, T, hno, .inl ⟨ha, fun dx n ne => hk dx n ne⟩⟩
theorem mkXInitL {x qual : Str} {params : Arguments} {body : List Stmt} {scope : Scope} {f : Addr} {fd : FuncData} {k : Nat} {nm fld msg : Str}
    (F : FunD K x qual params body scope [] [] f fd) (S : FnScope ["self", nm] ["self", nm] scope)
    (h1 : ∀ (cdv : Value) (A : Around) (outer : List Env) (s : Shared) (H : Hp) (E : XK), PSs (cxOf (L2.CX P w) P w K mg base ["self", nm] qual scope f cdv A outer s H E) body
      (fun D σ H => tVeI K (tCons (tVar 0) (tCons (tC (.str msg)) tNil)) σ H (fun _ H1 => tOst K fld (tVar 0) (tCB (rListS K) (tCons (tVar 1) tNil)) D σ H1))) : FnOk P w K mg base (L2.CX P w) (k + 1) f fd ["self", nm] (xiSpL K fld) := by
  refine F.ok S (fun vs H Q E h => by obtain ⟨a, C, p, ys, rfl, _⟩ := h; rfl) (fun cdv A outer s H vs Q E hr h => ?_)
  obtain ⟨a, C, p, ys, rfl, T, hno, ha, hs, hk⟩ := h
  refine ⟨_, h1 cdv A outer s H E, ?_⟩
  refine ⟨.ref a, rfl, a, C, [.str msg], rfl, (by show 1 ≤ 1000; decide), T, ha, .ref p, rfl, p, ys, rfl, hs, fun l hl => ⟨.ref a, rfl, a, C, rfl, T, hno, .inl ⟨?_, fun dx n ne => hk l dx hl n ne⟩⟩⟩
  have ne : a ≠ l := fun z => by rw [z, hl] at ha; cases ha
  rw [upd_ne ne]; exact ha
structure XiV (P : Program) (w : World) (K : PySem.W.Frag) (mg : Str → Option Value) (base : Heap) (k : Nat) (x fld : Str) (sp : Sp) : Prop where
  ex : ∃ (fI : Addr) (fd : FuncData) (nm : Str), OexC K (He.ga K x) ∧ PySem.W.findIn K (.ref (He.ga K x)) "__init__" = some (some (.ref fI)) ∧ PySem.W.typeIn K (.ref fI) = some (.type "function") ∧
    FnOk P w K mg base (L2.CX P w) k fI fd ["self", nm] sp ∧ Binds K fd ["self", nm] [] ∧ PySem.W.findIn K (.ref (He.ga K x)) fld = some none ∧ mg x = some (.ref (He.ga K x))
end
def aMkX (C : Addr) (f : Str) (t : AE) : AE := fun e m Q X => t e m (fun d m1 => Q (.xob C [(f, d)]) m1) X
def aMkXI (C : Addr) (f : Str) (t : AE) : AE := fun e m Q X => t e m (fun d m1 => ∃ i : Int, d = .int i ∧ i.natAbs.log2 < 1920 ∧ (toString i : Str).length ≤ 700 ∧ Q (.xob C [(f, d)]) m1) X
def aMkXL (C : Addr) (f : Str) (t : AE) : AE := fun e m Q X => t e m (fun d m1 => ∃ xs, asS m1 d = some xs ∧ Q (.xob C [(f, .lst xs)]) m1) X
def aMkX0 (C : Addr) (t : AE) : AE := fun e m Q X => t e m (fun _ m1 => Q (.xob C []) m1) X
/-- the state behind the making -/
theorem mk_sn {K : PySem.W.Frag} {F H : Hp} {m : Mu} {r : Hp} {b dx C : Addr} {fld : Str} {v : V} {d : D} (n1 : Sn K F H m r) (hb : H b = none) (hdx : upd H b (exo b C none) dx = none) (ne : dx ≠ b) (rv : Rep K F v d) :
    ∃ F', Same F F' ∧ Sn K F' (upd (upd (upd H b (exo b C none)) dx (exd dx [(fld, v)])) b (exo b C (some dx))) m r ∧ Rep K F' (.ref b) (.xob C [(fld, d)]) := by
  have hd : H dx = none := by rw [← hdx, upd_ne ne]
  have e1 : upd (upd (upd H b (exo b C none)) dx (exd dx [(fld, v)])) b (exo b C (some dx)) = upd (upd H dx (exd dx [(fld, v)])) b (exo b C (some dx)) := by
    funext z
    by_cases hz : z = b
    · rw [hz, upd_same, upd_same]
    · rw [upd_ne hz, upd_ne hz]
      by_cases hzd : z = dx
      · rw [hzd, upd_same, upd_same]
      · rw [upd_ne hzd, upd_ne hzd, upd_ne hz]
  have hb2 : upd H dx (exd dx [(fld, v)]) b = none := by rw [upd_ne (Ne.symm ne)]; exact hb
  have s1 := n1.same hd (exd dx [(fld, v)])
  have n2 := n1.new hd (exd dx [(fld, v)])
  have s2 := n2.same hb2 (exo b C (some dx))
  have n3 := n2.new hb2 (exo b C (some dx))
  rw [e1]
  exact ⟨_, s1.trans s2, n3, .xob1 upd_same (by rw [upd_ne ne, upd_same]) (rv.mono (s1.trans s2))⟩
section
variable {X : Cx} {a o : Expr} {ta : AE} {pos : Pos}
theorem q_mkX {x fld : Str} {k j : Nat} {p p2 : Pos} (E : XiV X.prog X.w X.K X.mg X.base k x fld (xiSp X.K fld)) (hr : Room j X.A) (hk : k + 1 ≤ j) (ha : QE X a ta) (hg : Gl X x := by rfl)
    (hs : starEach [a] X.env = (false, eval a X.env) :: starEach [] X.env := by rfl) (hdb : (x == ("__debug__" : Str)) = false := by decide) (hpl : (backTo p2 (starEach [] X.env)).any (·.1) = false := by rfl) :
    QE X (.Call (.Name x p) [a] [] p2) (aMkX (He.ga X.K x) fld ta) := fun W tk => by
  obtain ⟨fI, fd, nm, T, iC, tI, F1, hb, hno, gC⟩ := E.ex
  refine (pe_oex T iC tI F1 (hr.mono hk) hb .nil passL hg gC (pa_cons (ha W tk) pa_nil hs) hdb hs hpl).imp fun s H Qc ⟨F, e, m, r, Q, XX, he, hn, h, g, gx⟩ => ?_
  refine ⟨F, e, m, r, _, XX, he, hn, h, fun F1 H1 m1 v d s1 n1 r1 q1 => ?_, gx⟩
  refine ⟨by show 1 ≤ 1000; decide, fun b hb1 => ⟨b, _, v, rfl, T, hno, upd_same, fun dx hdx ne => ⟨rfl, ?_⟩⟩⟩
  obtain ⟨F', k1, n2, rr⟩ := mk_sn (fld := fld) n1 hb1 hdx ne r1
  exact g _ _ m1 _ _ (s1.trans k1) n2 rr q1
theorem q_mkXI {x fld : Str} {k j : Nat} {p p2 : Pos} (E : XiV X.prog X.w X.K X.mg X.base k x fld (xiSpI X.K fld)) (hr : Room j X.A) (hk : k + 1 ≤ j) (ha : QE X a ta) (hg : Gl X x := by rfl)
    (hs : starEach [a] X.env = (false, eval a X.env) :: starEach [] X.env := by rfl) (hdb : (x == ("__debug__" : Str)) = false := by decide) (hpl : (backTo p2 (starEach [] X.env)).any (·.1) = false := by rfl) :
    QE X (.Call (.Name x p) [a] [] p2) (aMkXI (He.ga X.K x) fld ta) := fun W tk => by
  obtain ⟨fI, fd, nm, T, iC, tI, F1, hb, hno, gC⟩ := E.ex
  refine (pe_oex T iC tI F1 (hr.mono hk) hb .nil passL hg gC (pa_cons (ha W tk) pa_nil hs) hdb hs hpl).imp fun s H Qc ⟨F, e, m, r, Q, XX, he, hn, h, g, gx⟩ => ?_
  refine ⟨F, e, m, r, _, XX, he, hn, h, fun F1 H1 m1 v d s1 n1 r1 q1 => ?_, gx⟩
  obtain ⟨i, rfl, hi, hl, q1⟩ := q1
  cases r1
  refine ⟨by show 1 ≤ 1000; decide, fun b hb1 => ⟨b, _, i, rfl, hi, hl, T, hno, upd_same, fun dx hdx ne => ⟨rfl, ?_⟩⟩⟩
  obtain ⟨F', k1, n2, rr⟩ := mk_sn (fld := fld) n1 hb1 hdx ne (.int i)
  exact g _ _ m1 _ _ (s1.trans k1) n2 rr q1
theorem q_mkXL {x fld : Str} {k j : Nat} {p p2 : Pos} (E : XiV X.prog X.w X.K X.mg X.base k x fld (xiSpL X.K fld)) (hr : Room j X.A) (hk : k + 1 ≤ j) (ha : QE X a ta) (hg : Gl X x := by rfl)
    (hs : starEach [a] X.env = (false, eval a X.env) :: starEach [] X.env := by rfl) (hdb : (x == ("__debug__" : Str)) = false := by decide) (hpl : (backTo p2 (starEach [] X.env)).any (·.1) = false := by rfl) :
    QE X (.Call (.Name x p) [a] [] p2) (aMkXL (He.ga X.K x) fld ta) := fun W tk => by
  obtain ⟨fI, fd, nm, T, iC, tI, F1, hb, hno, gC⟩ := E.ex
  refine (pe_oex T iC tI F1 (hr.mono hk) hb .nil passL hg gC (pa_cons (ha W tk) pa_nil hs) hdb hs hpl).imp fun s H Qc ⟨F, e, m, r, Q, XX, he, hn, h, g, gx⟩ => ?_
  refine ⟨F, e, m, r, _, XX, he, hn, h, fun F1 H1 m1 v d s1 n1 r1 q1 => ?_, gx⟩
  obtain ⟨xs, hx, q1⟩ := q1
  refine ⟨by show 1 ≤ 1000; decide, fun b hb1 => ?_⟩
  obtain ⟨p, ys, rfl, e2, r2⟩ := asS_ok (n1.newG hb1 (exo b (He.ga X.K x) none)) r1 hx
  refine ⟨b, _, p, ys, rfl, T, hno, upd_same, e2, fun l dx hl hdx ne => ⟨rfl, ?_⟩⟩
  have nlb : l ≠ b := fun z => by rw [z, upd_same] at hl; cases hl
  have hl1 : H1 l = none := by rw [← hl, upd_ne nlb]
  have e1 : upd (upd H1 b (exo b (He.ga X.K x) none)) l (.lst ys) = upd (upd H1 l (.lst ys)) b (exo b (He.ga X.K x) none) := by
    funext z
    by_cases hz : z = l
    · rw [hz, upd_same, upd_ne nlb, upd_same]
    · rw [upd_ne hz]
      by_cases hzb : z = b
      · rw [hzb, upd_same, upd_same]
      · rw [upd_ne hzb, upd_ne hzb, upd_ne hz]
  have sl := n1.same hl1 (.lst ys)
  have nl := n1.new hl1 (.lst ys)
  rw [e1] at hdx ⊢
  obtain ⟨F', k1, n2, rr⟩ := mk_sn (fld := fld) nl (by rw [upd_ne (Ne.symm nlb)]; exact hb1) hdx ne (Rep.lst upd_same (r2.mono sl))
  exact g _ _ m1 _ _ (s1.trans (sl.trans k1)) n2 rr q1
theorem q_mkX0 {x : Str} {p p2 : Pos} (E : ExF X.K X.mg x) (ha : QE X a ta) (hg : Gl X x := by rfl) (hs : starEach [a] X.env = (false, eval a X.env) :: starEach [] X.env := by rfl) (hdb : (x == ("__debug__" : Str)) = false := by decide) :
    QE X (.Call (.Name x p) [a] [] p2) (aMkX0 (He.ga X.K x) ta) := fun W tk => by
  refine (pe_exc1 F.excBase_ValueError E.q E.mg E.kp hg (ha W tk) hs hdb).imp fun s H Qc ⟨F, e, m, r, Q, XX, he, hn, h, g, gx⟩ => ?_
  refine ⟨F, e, m, r, _, XX, he, hn, h, fun F1 H1 m1 v d s1 n1 r1 q1 b hb => ?_, gx⟩
  exact g _ _ m1 _ _ (s1.trans (n1.same hb _)) (n1.new hb _) (.xob0 upd_same) q1
/-! ### isinstance(x, C), x an exception -/
def aIsV (K : PySem.W.Frag) (cv : Value) (t : AE) : AE := fun e m Q X => t e m (fun d m1 => ∃ C fs k, d = .xob C fs ∧ ExcC K C ∧ PySem.W.kitOne K (.ref C) cv = some k ∧ Q (.bl k) m1) X
def rIsV (K : PySem.W.Frag) : List V → Hp → VK → Prop := fun xs H Q => ∃ (a : Addr) (c : V) (cv : Value) (C : Addr) (k : Bool), xs = [.ref a, c] ∧ (H a = some (ExO (.ref C) a) ∨ ∃ dd fs, H a = some (exo a C (some dd)) ∧ H dd = some (exd dd fs)) ∧ (∀ u, RelV c u → u = cv) ∧ ExcC K C ∧ PySem.W.kitOne K (.ref C) cv = some k ∧ Q (.bl k) H
theorem call_isV : CallR X (.builtin "isinstance") (rIsV X.K) := by
  intro pins s σ H xs us Q I r h
  obtain ⟨a, c, cv, D, k, rfl, ha, hcv, C, e, q⟩ := h
  cases r with
  | cons rx rr =>
    cases rr with
    | cons rt rr =>
      cases rr
      cases rx
      have ec := hcv _ rt
      subst ec
      have hcl : (PySem.W.clsIn X.K D).isSome = true := by
        obtain ⟨cd, hc, _⟩ := PySem.W.any_some C.hd
        rw [hc]; rfl
      rcases ha with ha | ⟨dd, fs, ha, hd⟩
      · obtain ⟨⟨oe, vs, ho, hz, hd, _⟩, _, _⟩ := I.hok a _ ha
        have J : PySem.W.InstAt s.heap a oe D none := ⟨ho, hz.1, by unfold PySem.W.notCls; rw [hd] <;> rfl, by rw [hz.2]; trivial⟩
        exact PySem.W.kia_one (PySem.W.kitx_exc hcl C.hg C.hk C.hs C.ha C.hn C.ht C.hm) I.kIn J e (fun z => nomatch z) fun tk => ⟨.bl k, H, I.kept (t' := tk) fun _ _ z => z, rfl, q⟩
      · obtain ⟨t1, ho⟩ := exo_at I.hok ha
        obtain ⟨mA, hns, rel⟩ := exd_at I.hok hd
        obtain ⟨od, hod, hl⟩ := lookIn_ns hns
        have J : PySem.W.InstAt s.heap a _ D (some od) := ⟨ho, rfl, rfl, hod⟩
        exact PySem.W.kia_one (PySem.W.kitx_exc hcl C.hg C.hk C.hs C.ha C.hn C.ht C.hm) I.kIn J e (fun z => nomatch z) fun tk => ⟨.bl k, H, I.kept (t' := tk) fun _ _ z => z, rfl, q⟩
theorem Sn.ext {K : PySem.W.Frag} {F H : Hp} {m : Mu} {r : Hp} {a : Addr} {φ : Heap → Prop} (h : Sn K F H m r) (e : F a = some (.ext φ)) : H a = some (.ext φ) := by
  rcases h.cov a _ e with q | ⟨_, _, z, _⟩
  · exact q
  · cases z
theorem q_isV {x : Str} {p p2 pos : Pos} {cv : V} {cu : Value} (hm : X.mg "isinstance" = none) (hcl : PE X (.Name x p2) (tC cv)) (hcv : ∀ u, RelV cv u → u = cu) (ho : QE X o ta) (hg : Gl X "isinstance" := by rfl)
    (hs1 : starEach (o :: [.Name x p2]) X.env = (false, eval o X.env) :: starEach [.Name x p2] X.env := by rfl)
    (hs2 : starEach (.Name x p2 :: []) X.env = (false, eval (.Name x p2) X.env) :: starEach [] X.env := by rfl)
    (hpl : (backTo pos (starEach [.Name x p2] X.env)).any (·.1) = false := by rfl) :
    QE X (.Call (.Name "isinstance" p) [o, .Name x p2] [] pos) (aIsV X.K cu ta) := fun W tk => (pe_callB call_isV hg hm (by decide +kernel) (pa_cons (ho W tk) (pa_cons hcl pa_nil hs2) hs1) (by decide) (by decide) hs1 hpl).imp fun s H Qc ⟨F, e, m, r, Q, XX, he, hn, h, g, gx⟩ => by
  refine ⟨F, e, m, r, _, XX, he, hn, h, fun F1 H1 m1 v d s1 n1 r1 q1 => ?_, gx⟩
  obtain ⟨C, fs, k, rfl, hC, hk, q⟩ := q1
  cases r1 with
  | xob0 e1 => exact ⟨_, cv, cu, C, k, rfl, .inl (n1.ext e1), hcv, hC, hk, g F1 H1 m1 _ _ s1 n1 (.bl k) q⟩
  | xob1 e1 e2 _ => exact ⟨_, cv, cu, C, k, rfl, .inr ⟨_, _, n1.ext e1, n1.ext e2⟩, hcv, hC, hk, g F1 H1 m1 _ _ s1 n1 (.bl k) q⟩
/-! ### x.f, x an exception -/
def aXoF (K : PySem.W.Frag) (f : Str) (t : AE) : AE := fun e m Q X => t e m (fun d m1 => ∃ C v, d = .xob C [(f, v)] ∧ XfC K C ∧ PySem.W.findIn K (.ref C) f = some none ∧ Q v m1) X
def tXoF (K : PySem.W.Frag) (n : Str) (te : TE) : TE := fun σ H Q => te σ H fun x H1 => ∃ (a C dd : Addr) (fs : List (Str × V)) (v : V), x = .ref a ∧ H1 a = some (exo a C (some dd)) ∧ H1 dd = some (exd dd fs) ∧ fs.lookup n = some v ∧ XfC K C ∧ PySem.W.findIn K (.ref C) n = some none ∧ Q v H1
theorem pe_xoF {e : Expr} {te : TE} {n : Str} (he : PE X e te) (hb : attributeBase e n X.env (eval e X.env) = eval e X.env := by rfl) : PE X (.Attribute e n pos) (tXoF X.K n te) := by
  refine ⟨fun pins s σ H Q I h => ?_⟩
  refine attr_of hb (thn (he.run pins s σ H _ I h) fun u s1 hh => ?_)
  obtain ⟨x, H1, I1, rx, a, C, dd, fs, v, ex, ea, ed, l, T, hno, q⟩ := hh
  subst ex
  obtain rfl : u = Value.ref a := rx
  obtain ⟨t1, ho⟩ := exo_at I1.hok ea
  obtain ⟨mA, hns, hr⟩ := exd_at I1.hok ed
  obtain ⟨od, hod, hl⟩ := lookIn_ns hns
  obtain ⟨u, hu, ru⟩ := RelO.some_of (v := v) (o := mA n) (by rw [← l]; exact hr n)
  have J : PySem.W.InstAt s1.heap a _ C (some od) := ⟨ho, rfl, rfl, hod⟩
  exact HandSPX.exc_get I1.kIn J T.ga T.gg T.exC (PySem.W.findObj_own T.hdC hno rfl (by rw [hl, hu])) (handed_of ru) ⟨v, H1, I1.tok _, ru, q⟩
theorem q_xoF {f : Str} {e : Expr} (he : QE X e ta) (hb : attributeBase e f X.env (eval e X.env) = eval e X.env := by rfl) : QE X (.Attribute e f pos) (aXoF X.K f ta) := fun W tk => (pe_xoF (he W tk) hb).imp fun s H Qc ⟨F, e, m, r, Q, XX, he, hn, h, g, gx⟩ => by
  refine ⟨F, e, m, r, _, XX, he, hn, h, fun F1 H1 m1 v d s1 n1 r1 q1 => ?_, gx⟩
  obtain ⟨C, w, rfl, hC, hno, q⟩ := q1
  cases r1 with
  | xob1 e1 e2 r2 => exact ⟨_, C, _, _, _, rfl, n1.ext e1, n1.ext e2, by rw [List.lookup_cons_self], hC, hno, g F1 H1 m1 _ _ s1 n1 r2 q⟩
end
section
variable {e : De} {m : Mu} {ta tb tc : AE} {tr : AA} {d x y z : D} {xs : List D}
theorem ev_mkX {C : Addr} {f : Str} (h : Ev ta e m d) : Ev (aMkX C f ta) e m (.xob C [(f, d)]) := fun _ _ q => h _ _ q
theorem ev_mkX0 {C : Addr} (h : Ev ta e m d) : Ev (aMkX0 C ta) e m (.xob C []) := fun _ _ q => h _ _ q
theorem ev_mkXI {C : Addr} {f : Str} {i : Int} (h : Ev ta e m (.int i)) (h1 : i.natAbs.log2 < 1920) (h2 : (toString i : Str).length ≤ 700) : Ev (aMkXI C f ta) e m (.xob C [(f, .int i)]) := fun _ _ q => h _ _ ⟨i, rfl, h1, h2, q⟩
theorem ev_mkXL {C : Addr} {f : Str} (h : Ev ta e m d) (hx : asS m d = some xs) : Ev (aMkXL C f ta) e m (.xob C [(f, .lst xs)]) := fun _ _ q => h _ _ ⟨xs, hx, q⟩
theorem ev_isV {K : PySem.W.Frag} {C : Addr} {fs : List (Str × D)} {k : Bool} {cv : Value} (h : Ev ta e m (.xob C fs)) (hC : ExcC K C) (hk : PySem.W.kitOne K (.ref C) cv = some k) : Ev (aIsV K cv ta) e m (.bl k) := fun _ _ q => h _ _ ⟨C, fs, k, rfl, hC, hk, q⟩
theorem ev_xoF {K : PySem.W.Frag} {C : Addr} {f : Str} (h : Ev ta e m (.xob C [(f, d)])) (hC : XfC K C) (hno : PySem.W.findIn K (.ref C) f = some none) : Ev (aXoF K f ta) e m d := fun _ _ q => h _ _ ⟨C, d, rfl, hC, hno, q⟩
end
/-! ### a tuple target in a comprehension -/
section
variable {X : Cx} {pos : Pos}
theorem qg_tupB {s : Shared} {H : Hp} {scope : Scope} {cenv : Env} {fp : List Addr} {es : List Expr} {k : Nat} {t : AGs} {n : Nat} {is : List Nat} {g1 : WX → TGs} (hc : X.calm = true) (h : QGs (X.blk s H scope cenv fp) es t is g1) (hn : es.length = n := by rfl)
    (hp : ∀ {t' : TGs}, PGs (X.blk s H scope cenv fp) es t' → PG (X.blk s H scope cenv fp) (.Tuple es k pos) (gTup X.K n t') := by intro t' hh; exact pg_tup rfl hh) : QG (X.blk s H scope cenv fp) (.Tuple es k pos) (agTup n t) is (fun W => gTup X.K n (g1 W)) :=
  qg_tup (X := X.blk s H scope cenv fp) hc h hn hp
end
end Ab
namespace Ab
open PySem PySem.Spec PyProof.Rows L2
/-! ### a dict is walked: it is locked meanwhile -/
section
variable {K : PySem.W.Frag} {F F' H H' : Hp} {m m' : Mu} {r : Hp} {a : Addr} {o : Obj} {kvs : List (Key × V)} {es : List (Key × D)}
theorem Sn.r_at (h : Sn K F H m r) (ha : H a = some (.dK kvs)) (hd : F a = none → m a = none → False) : r a = none := by
  cases e : r a with
  | none => rfl
  | some w =>
    obtain ⟨q, z⟩ := h.fr a w e
    rcases z with ⟨ob, u, z⟩ | ⟨z1, z2⟩
    · rw [ha] at q; cases q; cases z
    · exact (hd z1 z2).elim
theorem Sn.lockF (h : Sn K F H m r) (hF : F a = some (.dK kvs)) : Sn K F (upd H a (.frz o (.dK kvs))) m (upd r a (.frz o (.dK kvs))) := by
  refine ⟨fun b v e => ?_, fun b x e => ?_, fun b w e => ?_⟩
  · by_cases hb : b = a
    · subst hb; rw [hF] at e; cases e; exact .inr ⟨o, kvs, rfl, upd_same⟩
    · rw [upd_ne hb]; exact h.cov b v e
  · have ne : b ≠ a := fun z => by subst z; rw [(h.mu _ _ e).1] at hF; cases hF
    exact ⟨(h.mu b x e).1, (h.mu b x e).2.mono (Same.refl F) (upd_ne ne)⟩
  · by_cases hb : b = a
    · subst hb; rw [upd_same] at e; cases e; exact ⟨upd_same, .inl ⟨_, _, rfl⟩⟩
    · rw [upd_ne hb] at e ⊢; exact h.fr b w e
theorem Sn.unlockF (h : Sn K F H m (upd r a (.frz o (.dK kvs)))) (hF : F a = some (.dK kvs)) (hr : r a = none) : Sn K F (upd H a (.dK kvs)) m r := by
  refine ⟨fun b v e => ?_, fun b x e => ?_, fun b w e => ?_⟩
  · by_cases hb : b = a
    · subst hb; rw [hF] at e; cases e; exact .inl upd_same
    · rw [upd_ne hb]; exact h.cov b v e
  · have ne : b ≠ a := fun z => by subst z; rw [(h.mu _ _ e).1] at hF; cases hF
    exact ⟨(h.mu b x e).1, (h.mu b x e).2.mono (Same.refl F) (upd_ne ne)⟩
  · have ne : b ≠ a := fun z => by subst z; rw [hr] at e; cases e
    have q := h.fr b w (by rw [upd_ne ne]; exact e)
    rw [upd_ne ne]; exact q
theorem Sn.lockM (h : Sn K F H m r) (hm : m a = some (.dic false es)) (ha : H a = some (.dK kvs)) : Sn K F (upd H a (.frz o (.dK kvs))) (mset m a (.dic true es)) (upd r a (.frz o (.dK kvs))) := by
  obtain ⟨hF, kvs', ha', q⟩ := h.mu a _ hm
  rw [ha] at ha'; cases ha'
  refine ⟨fun b v e => ?_, fun b x e => ?_, fun b w e => ?_⟩
  · have ne : b ≠ a := fun z => by subst z; rw [hF] at e; cases e
    rw [upd_ne ne]; exact h.cov b v e
  · by_cases hb : b = a
    · subst hb; rw [mset_same] at e; cases e; exact ⟨hF, o, _, upd_same, q⟩
    · rw [mset_ne hb] at e; exact ⟨(h.mu b x e).1, (h.mu b x e).2.mono (Same.refl F) (upd_ne hb)⟩
  · by_cases hb : b = a
    · subst hb; rw [upd_same] at e; cases e; exact ⟨upd_same, .inl ⟨_, _, rfl⟩⟩
    · rw [upd_ne hb] at e ⊢; rw [mset_ne hb]; exact h.fr b w e
theorem Sn.unlockM (h : Sn K F H m (upd r a (.frz o (.dK kvs)))) (hm : m a = some (.dic true es)) (hr : r a = none) : Sn K F (upd H a (.dK kvs)) (mset m a (.dic false es)) r := by
  obtain ⟨hF, o', kvs', ha', q⟩ := h.mu a _ hm
  obtain ⟨ha, _⟩ := h.fr a _ upd_same
  rw [ha] at ha'; cases ha'
  refine ⟨fun b v e => ?_, fun b x e => ?_, fun b w e => ?_⟩
  · have ne : b ≠ a := fun z => by subst z; rw [hF] at e; cases e
    rw [upd_ne ne]; exact h.cov b v e
  · by_cases hb : b = a
    · subst hb; rw [mset_same] at e; cases e; exact ⟨hF, _, upd_same, q⟩
    · rw [mset_ne hb] at e; exact ⟨(h.mu b x e).1, (h.mu b x e).2.mono (Same.refl F) (upd_ne hb)⟩
  · have ne : b ≠ a := fun z => by subst z; rw [hr] at e; cases e
    have q := h.fr b w (by rw [upd_ne ne]; exact e)
    rw [upd_ne ne, mset_ne ne]; exact q
theorem Sn.hold {u : HO} (h : Sn K F H m r) (ha : H a = some (.frz o u)) : Sn K F H m (upd r a (.frz o u)) := ⟨h.cov, h.mu, fun b w e => by
  by_cases hb : b = a
  · subst hb; rw [upd_same] at e; cases e; exact ⟨ha, .inl ⟨_, _, rfl⟩⟩
  · rw [upd_ne hb] at e; exact h.fr b w e⟩
theorem Sn.subR {r' : Hp} (h : Sn K F H m r') (k : ∀ b w, r b = some w → r' b = some w) : Sn K F H m r := ⟨h.cov, h.mu, fun b w e => h.fr b w (k b w e)⟩
end
def NF (X : Cx) (d : Addr) : Prop := ∀ o' u', X.H_0 d ≠ some (.frz o' u')
def unQ (X : Cx) (Q : Hp → Prop) (H : Hp) : Prop := Q H ∨ ∃ d od u, H d = some (.frz od u) ∧ NF X d ∧ Q (upd H d u)
def unEnds (X : Cx) (D : Ends) : Ends := ⟨fun σ H => unQ X (D.nx σ) H, fun v H => unQ X (D.rt v) H, fun σ H => unQ X (D.bk σ) H, fun σ H => unQ X (D.ct σ) H⟩
def unW (X : Cx) (W : WX) : WX := fun c d σ H => unQ X (W c d σ) H
theorem takes_un {X : Cx} {W : WX} (tk : Takes X W) : Takes X (unW X W) := fun u s' ⟨a, B, sI, pins, σ, H, cls, d, e, I, nb, up, sky, na, os, ag, w⟩ => by
  rcases w with w | ⟨dd, od, uu, h1, h2, w⟩
  · exact tk u s' ⟨a, B, sI, pins, σ, H, cls, d, e, I, nb, up, sky, na, os, ag, w⟩
  · exact tk u s' ⟨a, B, sI, pins, σ, upd H dd uu, cls, d, e, I.unlock h1 h2, nb, up, sky, by rw [upd_ne (fun z => by rw [z, h1] at na; cases na)]; exact na, os, ag, w⟩
section
variable {X : Cx} {tg e : Expr} {td : TE} {apos cpos : Pos}
theorem ps_un {st : Stmt} {t : TS} (h : PS X st t) : PS X st (fun D σ H => t (unEnds X D) σ H) := by
  refine ⟨fun pins s σ H D I hw => ?_⟩
  refine thn (h.run pins s σ _ _ I hw) fun f s1 q => ?_
  cases f with
  | next =>
    obtain ⟨σ', H', I2, q | ⟨d, od, u, e, n, q⟩⟩ := q
    · exact ⟨σ', _, I2, q⟩
    · exact ⟨σ', _, I2.unlock e n, q⟩
  | brk =>
    obtain ⟨σ', H', I2, q | ⟨d, od, u, e, n, q⟩⟩ := q
    · exact ⟨σ', _, I2, q⟩
    · exact ⟨σ', _, I2.unlock e n, q⟩
  | cont =>
    obtain ⟨σ', H', I2, q | ⟨d, od, u, e, n, q⟩⟩ := q
    · exact ⟨σ', _, I2, q⟩
    · exact ⟨σ', _, I2.unlock e n, q⟩
  | ret v =>
    obtain ⟨x, σ', H', I2, r, q | ⟨d, od, u, e, n, q⟩⟩ := q
    · exact ⟨x, σ', _, I2, r, q⟩
    · exact ⟨x, σ', _, I2.unlock e n, r, q⟩
theorem pe_un {e : Expr} {t : TE} (h : PE X e t) : PE X e (fun σ H Q => t σ H fun v H' => unQ X (Q v) H') := by
  refine ⟨fun pins s σ H Q I hw => ?_⟩
  refine thn (h.run pins s σ _ _ I hw) fun v s1 ⟨x, H1, I2, r, q⟩ => ?_
  rcases q with q | ⟨d, od, u, e, n, q⟩
  · exact ⟨x, _, I2, r, q⟩
  · exact ⟨x, _, I2.unlock e n, r, q⟩
/-- the dict is locked where the walk begins -/
def iDicL (X : Cx) (J : Addr → Obj → List (Key × V) → It) (td : TE) : TI := fun σ H R => td σ H fun x H1 => ∃ d kvs, x = .ref d ∧ ((H1 d = some (.dK kvs) ∧ ∀ o, NF X d → R (J d o kvs) (upd H1 d (.frz o (.dK kvs)))) ∨ ∃ o, H1 d = some (.frz o (.dK kvs)) ∧ R (J d o kvs) H1)
theorem lock_at {pins : List (Addr × Obj)} {σ : L2.St} {H1 : Hp} {s1 : Shared} {d : Addr} {kvs : List (Key × V)} {R : It → Hp → Prop} {J : Addr → Obj → List (Key × V) → It} (I1 : Inv X pins σ H1 s1)
    (q : (H1 d = some (.dK kvs) ∧ ∀ o, NF X d → R (J d o kvs) (upd H1 d (.frz o (.dK kvs)))) ∨ ∃ o, H1 d = some (.frz o (.dK kvs)) ∧ R (J d o kvs) H1) : ∃ o H2, Inv X pins σ H2 s1 ∧ H2 d = some (.frz o (.dK kvs)) ∧ R (J d o kvs) H2 := by
  rcases q with ⟨hd, q⟩ | ⟨o, hd, q⟩
  · obtain ⟨o, I2⟩ := I1.lock hd trivial
    exact ⟨o, _, I2, upd_same, q o (I1.nofrz hd trivial)⟩
  · exact ⟨o, _, I1, hd, q⟩
theorem pi_keysL (he : PE X e td) : PI X tg e (iDicL X Itk td) := by
  refine ⟨fun pins s σ H R I h => ?_⟩
  refine thn (he.run pins s σ H _ I h) fun u s1 ⟨x, H1, I1, rx, d, kvs, ex, q⟩ => ?_
  subst ex
  obtain rfl : u = Value.ref d := rx
  obtain ⟨o, H2, I2, hd, q⟩ := lock_at I1 q
  obtain ⟨hs, hgd, hx, es, ep, vs, hdt, hsz, kv, hm⟩ := I2.frzK hd
  refine iter_keys hs hgd hx hdt (pi_one (tk := s1.toks) I2 _ (turn_keys _ hdt) ⟨_, Heap.get?_push_size _ rfl, rfl, ?_⟩ q)
  rw [hsz] <;> rfl
theorem pi_itemsL {elts : List Expr} {kk : Nat} {tpos : Pos} (he : PE X e td) (hbase : attributeBase e "items" X.env (eval e X.env) = eval e X.env := by rfl) (hline : (apos.endLine == cpos.line) = true := by rfl) :
    PI X (.Tuple elts kk tpos) (.Call (.Attribute e "items" apos) [] [] cpos) (iDicL X Iti td) := by
  refine ⟨fun pins s σ H R I h => ?_⟩
  refine wpAny_Call_method (T := "dict") (id := "dict.items") hbase rfl hline F.plainAttrs_dict F.slot_dict_items F.type_dict_items (thn (he.run pins s σ H _ I h) fun u s1 ⟨x, H1, I1, rx, d, kvs, ex, q⟩ => ?_)
  subst ex
  obtain rfl : u = Value.ref d := rx
  obtain ⟨o, H2, I2, hd, q⟩ := lock_at I1 q
  obtain ⟨hs, hgd, hx, es, ep, vs, hdt, hsz, kv, hm⟩ := I2.frzK hd
  have hl : kvs.length = vs.length := Paired.length kv
  refine ⟨hm.dictOf.typeIs, hm.dictOf.mapOf.noDict, ?_⟩
  have I3 : Inv X pins σ H2 { s1 with heap := s1.heap.push { cls := .type "dict_items", data := .fields #[.ref d] } } := I2.kept (t' := s1.toks) fun b ob q => Heap.get?_push_of_some _ q
  have fin : wpAny (model X.prog X.w) X.A (pyIter (.ref s1.heap.objs.size)) (PIE X pins σ (.Tuple elts kk tpos) R) X.xe { s1 with heap := s1.heap.push { cls := .type "dict_items", data := .fields #[.ref d] } } := by
    refine wpAny_pyIter_items (d := d) (knd := mixKind X.prog X.w) ⟨_, Heap.get?_push_size _ rfl, rfl, rfl⟩ (hm.push _) (pi_one (tk := s1.toks) I3 _ (turn_items _ hdt) ⟨.none, .none, ?_⟩ q)
    rw [hl]
    exact Heap.get?_push_size _ rfl
  show wpAny _ _ (callWith cpos (.builtin "dict.items") [.ref d] [] []) _ X.xe s1
  exact method_meetsIn F.slot_dict_items F.entry_dict_items rfl (PySem.evalArgs_none ⟨rfl, hm.dictOf.typeIs, F.args_dict_items_1 _, _, meets_dict_items (mixKind X.prog X.w) d hs, ⟨vs, hm.dictOf⟩, fin⟩)
theorem pi_valuesL (he : PE X e td) (hbase : attributeBase e "values" X.env (eval e X.env) = eval e X.env := by rfl) (hline : (apos.endLine == cpos.line) = true := by rfl) : PI X tg (.Call (.Attribute e "values" apos) [] [] cpos) (iDicL X Itd td) := by
  refine ⟨fun pins s σ H R I h => ?_⟩
  refine wpAny_Call_method (T := "dict") (id := "dict.values") hbase rfl hline F.plainAttrs_dict F.slot_dict_values F.type_dict_values (thn (he.run pins s σ H _ I h) fun u s1 ⟨x, H1, I1, rx, d, kvs, ex, q⟩ => ?_)
  subst ex
  obtain rfl : u = Value.ref d := rx
  obtain ⟨o, H2, I2, hd, q⟩ := lock_at I1 q
  obtain ⟨hs, hgd, hx, es, ep, vs, hdt, hsz, kv, hm⟩ := I2.frzK hd
  have hl : kvs.length = vs.length := Paired.length kv
  refine ⟨hm.dictOf.typeIs, hm.dictOf.mapOf.noDict, ?_⟩
  have I3 : Inv X pins σ H2 { s1 with heap := s1.heap.push { cls := .type "dict_values", data := .fields #[.ref d] } } := I2.kept (t' := s1.toks) fun b ob q => Heap.get?_push_of_some _ q
  have fin : wpAny (model X.prog X.w) X.A (pyIter (.ref s1.heap.objs.size)) (PIE X pins σ tg R) X.xe { s1 with heap := s1.heap.push { cls := .type "dict_values", data := .fields #[.ref d] } } := by
    refine wpAny_pyIter_values (d := d) (knd := mixKind X.prog X.w) ⟨_, Heap.get?_push_size _ rfl, rfl, rfl⟩ (hm.push _) (pi_one (tk := s1.toks) I3 _ (turn_vals _ hdt) ⟨_, Heap.get?_push_size _ rfl, rfl, ?_⟩ q)
    rw [hl] <;> rfl
  show wpAny _ _ (callWith cpos (.builtin "dict.values") [.ref d] [] []) _ X.xe s1
  exact method_meetsIn F.slot_dict_values F.entry_dict_values rfl (PySem.evalArgs_none ⟨rfl, hm.dictOf.typeIs, F.args_dict_values_1 _, _, meets_dict_values (mixKind X.prog X.w) d hs, ⟨vs, hm.dictOf⟩, fin⟩)
end
/-! ### what a walk gives -/
def ItOkR (K : PySem.W.Frag) (J : It) (F r : Hp) (src : List D) (G : Mu → Prop) : Prop := ∀ F2 H2 m2 r2, (∀ b w, r b = some w → r2 b = some w) → Same F F2 → Sn K F2 H2 m2 r2 → G m2 →
  (∀ i, i < src.length → J.go i H2 ∧ ∀ x H3, J.yld i H2 x H3 → ∃ F3 d, Same F2 F3 ∧ Sn K F3 H3 m2 r2 ∧ src[i]? = some d ∧ Rep K F3 x d) ∧ ∀ i, src.length ≤ i → J.stop i H2
def kys (es : List (Key × D)) : List D := es.map fun kv => kD kv.1
def prs (es : List (Key × D)) : List D := es.map fun kv => .tup [kD kv.1, kv.2]
def vls (es : List (Key × D)) : List D := es.map fun kv => kv.2
def DW (K : PySem.W.Frag) (J : Addr → Obj → List (Key × V) → It) (src : List (Key × D) → List D) : Prop := ∀ {F r : Hp} {d : Addr} {o : Obj} {kvs : List (Key × V)} {es : List (Key × D)} {G : Mu → Prop}, RepK K F kvs es → r d = some (.frz o (.dK kvs)) → ItOkR K (J d o kvs) F r (src es) G
theorem dw_keys {K : PySem.W.Frag} : DW K Itk kys := fun {F r d o kvs es G} rk hr F2 H2 m2 r2 le s2 n2 _ => by
  have hd := (n2.fr d _ (le _ _ hr)).1
  have hl : (kys es).length = kvs.length := by unfold kys; rw [List.length_map, rk.length]
  refine ⟨fun i hi => ⟨⟨hd, by rw [← hl]; exact hi⟩, fun x H3 y => ?_⟩, fun i hi => ⟨hd, by rw [← hl]; exact hi⟩⟩
  obtain ⟨rfl, k, v, hk, rfl⟩ := y
  obtain ⟨d', h1, h2⟩ := (rk.mono s2).get hk
  exact ⟨F2, kD k, Same.refl F2, n2, by unfold kys; rw [List.getElem?_map, h1]; rfl, rep_key k⟩
theorem dw_vals {K : PySem.W.Frag} : DW K Itd vls := fun {F r d o kvs es G} rk hr F2 H2 m2 r2 le s2 n2 _ => by
  have hd := (n2.fr d _ (le _ _ hr)).1
  have hl : (vls es).length = kvs.length := by unfold vls; rw [List.length_map, rk.length]
  refine ⟨fun i hi => ⟨⟨hd, by rw [← hl]; exact hi⟩, fun x H3 y => ?_⟩, fun i hi => ⟨hd, by rw [← hl]; exact hi⟩⟩
  obtain ⟨rfl, k, hk⟩ := y
  obtain ⟨d', h1, h2⟩ := (rk.mono s2).get hk
  exact ⟨F2, d', Same.refl F2, n2, by unfold vls; rw [List.getElem?_map, h1]; rfl, h2⟩
theorem dw_items {K : PySem.W.Frag} : DW K Iti prs := fun {F r d o kvs es G} rk hr F2 H2 m2 r2 le s2 n2 _ => by
  have hd := (n2.fr d _ (le _ _ hr)).1
  have hl : (prs es).length = kvs.length := by unfold prs; rw [List.length_map, rk.length]
  refine ⟨fun i hi => ⟨⟨hd, by rw [← hl]; exact hi⟩, fun x H3 y => ?_⟩, fun i hi => ⟨hd, by rw [← hl]; exact hi⟩⟩
  obtain ⟨T, k, v, hk, rfl, nT, rfl⟩ := y
  obtain ⟨d', h1, h2⟩ := (rk.mono s2).get hk
  exact ⟨_, .tup [kD k, d'], n2.same nT _, n2.new nT _, by unfold prs; rw [List.getElem?_map, h1]; rfl, .tup (.inl (.inl upd_same)) (.cons (rep_key k) (.cons (h2.mono (n2.same nT _)) .nil))⟩
theorem low_loopR {K : PySem.W.Frag} {W : WX} {D : Ends} {A : AEnds} {F H r : Hp} {s : L2.St} {e : De} {m : Mu} {J : It} {src : List Ab.D} {G : Mu → Prop} {ag : AG} {is : List Nat} {ab : AS} {g1 : TG} {tb : TS} (he : EnvOk K F s e) (hn : Sn K F H m r) (g : GS K F r A D W) (hJ : ItOkR K J F r src G)
    (h : loopA src G ag ab A e m) (hg : ∀ D v s H Q, cG K W D ag is v s H Q → g1 v s H Q) (hb : ∀ D s H, cS K W ab D s H → tb D s H) :
    ∃ Wv : Nat → Nat → L2.St → Hp → Prop, (∃ m, Wv 0 m s H) ∧ ∀ i m σ H, Wv i m σ H → (J.stop i H ∧ D.nx σ H) ∨ (J.go i H ∧ ∃ N : L2.St → Hp → Prop, (∀ σ' H', N σ' H' → ∃ m', m' < m ∧ Wv (i + 1) m' σ' H') ∧
      ∀ x H', J.yld i H x H' → g1 x σ H' fun σ2 H2 => tb { D with nx := N, ct := N, bk := D.nx } σ2 H2) := by
  obtain ⟨I, h0, hG, hs, hd⟩ := h
  refine ⟨fun i n σ H' => n = src.length - i ∧ i ≤ src.length ∧ ∃ F' e' m', Same F F' ∧ EnvOk K F' σ e' ∧ Sn K F' H' m' r ∧ I i e' m', ⟨src.length, by simp, Nat.zero_le _, F, e, m, Same.refl F, he, hn, h0⟩, ?_⟩
  rintro i n σ H1 ⟨rfl, hi, F1, e1, m1, k1, he1, hn1, hI⟩
  obtain ⟨j1, j2⟩ := hJ F1 H1 m1 r (fun _ _ z => z) k1 hn1 (hG i e1 m1 hI)
  by_cases hlt : i < src.length
  · obtain ⟨go, yl⟩ := j1 i hlt
    refine .inr ⟨go, fun σ' H' => ∃ F' e' m', Same F F' ∧ EnvOk K F' σ' e' ∧ Sn K F' H' m' r ∧ I (i + 1) e' m', fun σ' H' p => ⟨src.length - (i + 1), by omega, rfl, hlt, p⟩, fun x H2 y => ?_⟩
    obtain ⟨F2, d, k2, n2, hd2, r2⟩ := yl x H2 y
    refine hg _ _ _ _ _ ⟨F2, e1, m1, r, A, d, _, he1.mono k2, n2, r2, hs i d e1 m1 hd2 hI, g.mono (k1.trans k2), fun F3 H3 m3 s3 e3 k3 he3 n3 _ q3 => ?_⟩
    have kk := k1.trans (k2.trans k3)
    refine hb _ _ _ ⟨F3, e3, m3, r, _, he3, n3, q3, ?_⟩
    have g3 := g.mono kk
    exact ⟨fun F4 H4 m4 s4 e4 k4 he4 n4 q4 => ⟨F4, e4, m4, kk.trans k4, he4, n4, q4⟩, g3.rt, fun F4 H4 m4 s4 e4 k4 he4 n4 q4 => g3.nx F4 H4 m4 s4 e4 k4 he4 n4 q4, fun F4 H4 m4 s4 e4 k4 he4 n4 q4 => ⟨F4, e4, m4, kk.trans k4, he4, n4, q4⟩, g3.ex⟩
  · have e' : i = src.length := by omega
    subst e'
    exact .inl ⟨j2 _ (Nat.le_refl _), g.nx F1 H1 m1 σ e1 k1 he1 hn1 (hd e1 m1 hI)⟩
/-! ### the ends behind a lock -/
def unA (a : Addr) (es : List (Key × D)) (A : AEnds) : AEnds := ⟨fun e m => m a = some (.dic true es) ∧ A.nx e (mset m a (.dic false es)), fun v m => m a = some (.dic true es) ∧ A.rt v (mset m a (.dic false es)), fun e m => m a = some (.dic true es) ∧ A.bk e (mset m a (.dic false es)), fun e m => m a = some (.dic true es) ∧ A.ct e (mset m a (.dic false es)), fun x e m => m a = some (.dic true es) ∧ A.ex x e (mset m a (.dic false es))⟩
section
variable {X : Cx} {F r : Hp} {A : AEnds} {D : Ends} {W : WX} {a : Addr} {o : Obj} {kvs : List (Key × V)} {es : List (Key × Ab.D)}
theorem gs_open {u : HO} (g : GS X.K F r A D W) (le : ∀ w, r a = some w → w = .frz o u) : GS X.K F (upd r a (.frz o u)) A (unEnds X D) (unW X W) := by
  have k : ∀ {F' H' m'}, Sn X.K F' H' m' (upd r a (.frz o u)) → Sn X.K F' H' m' r := fun n => n.subR fun b w e => by
    by_cases hb : b = a
    · subst hb; rw [upd_same, le w e]
    · rw [upd_ne hb]; exact e
  exact ⟨fun F' H' m' s e q he n z => .inl (g.nx F' H' m' s e q he (k n) z), fun F' H' m' v d q n rv z => .inl (g.rt F' H' m' v d q (k n) rv z), fun F' H' m' s e q he n z => .inl (g.bk F' H' m' s e q he (k n) z), fun F' H' m' s e q he n z => .inl (g.ct F' H' m' s e q he (k n) z),
    fun F' H' m' s e cls dd x q he n rx z => .inl (g.ex F' H' m' s e cls dd x q he (k n) rx z)⟩
theorem gs_lockF (g : GS X.K F r A D W) (nf : NF X a) (hF : F a = some (.dK kvs)) (hr : r a = none) : GS X.K F (upd r a (.frz o (.dK kvs))) A (unEnds X D) (unW X W) :=
  ⟨fun F' H' m' s e q he n z => .inr ⟨a, o, _, (n.fr a _ upd_same).1, nf, g.nx F' _ m' s e q he (n.unlockF (q _ _ hF) hr) z⟩, fun F' H' m' v d q n rv z => .inr ⟨a, o, _, (n.fr a _ upd_same).1, nf, g.rt F' _ m' v d q (n.unlockF (q _ _ hF) hr) rv z⟩,
    fun F' H' m' s e q he n z => .inr ⟨a, o, _, (n.fr a _ upd_same).1, nf, g.bk F' _ m' s e q he (n.unlockF (q _ _ hF) hr) z⟩, fun F' H' m' s e q he n z => .inr ⟨a, o, _, (n.fr a _ upd_same).1, nf, g.ct F' _ m' s e q he (n.unlockF (q _ _ hF) hr) z⟩,
    fun F' H' m' s e cls dd x q he n rx z => .inr ⟨a, o, _, (n.fr a _ upd_same).1, nf, g.ex F' _ m' s e cls dd x q he (n.unlockF (q _ _ hF) hr) rx z⟩⟩
theorem gs_lockM (g : GS X.K F r A D W) (nf : NF X a) (hr : r a = none) : GS X.K F (upd r a (.frz o (.dK kvs))) (unA a es A) (unEnds X D) (unW X W) :=
  ⟨fun F' H' m' s e q he n z => .inr ⟨a, o, _, (n.fr a _ upd_same).1, nf, g.nx F' _ _ s e q he (n.unlockM z.1 hr) z.2⟩, fun F' H' m' v d q n rv z => .inr ⟨a, o, _, (n.fr a _ upd_same).1, nf, g.rt F' _ _ v d q (n.unlockM z.1 hr) rv z.2⟩,
    fun F' H' m' s e q he n z => .inr ⟨a, o, _, (n.fr a _ upd_same).1, nf, g.bk F' _ _ s e q he (n.unlockM z.1 hr) z.2⟩, fun F' H' m' s e q he n z => .inr ⟨a, o, _, (n.fr a _ upd_same).1, nf, g.ct F' _ _ s e q he (n.unlockM z.1 hr) z.2⟩,
    fun F' H' m' s e cls dd x q he n rx z => .inr ⟨a, o, _, (n.fr a _ upd_same).1, nf, g.ex F' _ _ s e cls dd x q he (n.unlockM z.1 hr) rx z.2⟩⟩
end
/-- for .. in a dict's keys, items, values -/
def aForD (src : List (Key × D) → List D) (t : AE) (ag : AG) (ab : AS) : AS := fun A e m => t e m (fun d m1 => (∃ es, d = .dic es ∧ loopA (src es) (fun _ => True) ag ab A e m1) ∨
  ∃ a es, d = .cell a ∧ m1 a = some (.dic false es) ∧ loopA (src es) (fun m => m a = some (.dic true es)) ag ab (unA a es A) e (mset m1 a (.dic true es))) fun x m => A.ex x e m
section
variable {X : Cx} {tg iter e0 : Expr} {pos : Pos} {ta : AE}
theorem qs_forD {body : List Stmt} {J : Addr → Obj → List (Key × V) → It} {src : List (Key × D) → List D} {ag : AG} {is : List Nat} {g1 : WX → TG} {ab : AS} (dw : DW X.K J src) (hpi : ∀ {td : TE}, PE X e0 td → PI X tg iter (iDicL X J td)) (hc : X.calm = true) (ha : QE X e0 ta) (hg : QG X tg ag is g1) (hb : QSs X body ab)
    (hs : ∀ x, foldedSetIterable iter X.env x = pure x := by intro _; rfl) : QS X (.For tg iter body [] pos) (aForD src ta ag ab) := fun W tk po => by
  have tk' := takes_un tk
  obtain ⟨p1, k1⟩ := hg _ tk'
  refine (ps_un (ps_for po hc (hpi (ha _ tk')) p1 (hb _ tk' po) hs)).imp fun D s H ⟨F, e, m, r, A, he, hn, h, g⟩ => ?_
  refine ⟨F, e, m, r, _, _, he, hn, h, fun F1 H1 m1 v d q n1 r1 q1 => ?_, fun F' H' m' cls dd x k n rx hx => .inl (g.gx he F' H' m' cls dd x k n rx hx)⟩
  rcases q1 with ⟨es, rfl, hl⟩ | ⟨a, es, rfl, hm, hl⟩
  · cases r1 with
    | dic e1 rk =>
      rename_i a kvs
      refine ⟨a, kvs, rfl, ?_⟩
      rcases n1.cov a _ e1 with h1 | ⟨o, kvs', z, h1⟩
      · have hr := n1.r_at h1 (fun z _ => by rw [e1] at z; cases z)
        exact .inl ⟨h1, fun o nf => low_loopR (he.mono q) (n1.lockF e1) (gs_lockF (g.mono q) nf e1 hr) (dw rk upd_same) hl k1 fun _ _ _ z => z⟩
      · cases z
        exact .inr ⟨o, h1, low_loopR (he.mono q) (n1.hold h1) (gs_open (g.mono q) fun w e => by
          have := (n1.fr a w e).1
          rw [h1] at this; cases this; rfl) (dw rk upd_same) hl k1 fun _ _ _ z => z⟩
  · cases r1
    obtain ⟨hF, kvs, h1, rk⟩ := n1.mu a _ hm
    have hr := n1.r_at h1 (fun _ z => by rw [hm] at z; cases z)
    exact ⟨a, kvs, rfl, .inl ⟨h1, fun o nf => low_loopR (he.mono q) (n1.lockM hm h1) (gs_lockM (g.mono q) nf hr) (dw rk upd_same) hl k1 fun _ _ _ z => z⟩⟩
end
/-! ### a comprehension over a dict -/
theorem low_lcR {K : PySem.W.Frag} {F H r : Hp} {s : L2.St} {e : De} {m : Mu} {J : It} {src : List D} {G : Mu → Prop} {vs : List Nat} {mt : Bool} {Q : QD} {Qc : VK} {ag : AG} {at_ : AT} {ae : AE} {is : List Nat} {g1 : TG}
    (he : EnvOk K F s e) (hn : Sn K F H m r) (hJ : ItOkR K J F r src G) (h : lcA mt src G ag at_ ae vs e m Q) (hg : ∀ D v s H Q, cG K W0 D ag is v s H Q → g1 v s H Q) (hi : ∀ j ∈ is, j ∈ vs) (g : GE K F r Q Qc) (D : Addr) (hD : H D = none) :
    ∃ Wv : Nat → Nat → Hp → Prop, (∃ n, Wv 0 n (upd H D (.lst []))) ∧ ∀ i n H, Wv i n H → (J.stop i H ∧ Qc (.ref D) H) ∨ (J.go i H ∧ ∃ Nx : Hp → Prop, (∀ H', Nx H' → ∃ m', m' < n ∧ Wv (i + 1) m' H') ∧
      ∀ x H', J.yld i H x H' → g1 x (wipe s vs) H' fun σ2 H2 => wipe σ2 vs = wipe s vs ∧ cT K W0 at_ σ2 H2 fun b H3 =>
        if b = true then cE K W0 ae σ2 H3 fun y H4 => ∃ acc, H4 D = some (.lst acc) ∧ acc.length < sizeLine ∧ Nx (upd H4 D (.lst (acc ++ [y]))) else Nx H3) := by
  obtain ⟨I, h0, hG, hs, hd⟩ := h
  have rD : r D = none := hn.r_none hD
  refine ⟨fun i n H' => n = src.length - i ∧ i ≤ src.length ∧ ∃ F' m' accD accV, Same F F' ∧ Sn K F' H' m' (upd r D (.lst accV)) ∧ RepL K F' accV accD ∧ I i accD m', ⟨src.length, by simp, Nat.zero_le _, F, m, [], [], Same.refl F, hn.newR hD _, .nil, h0⟩, ?_⟩
  rintro i n H1 ⟨rfl, hi1, F1, m1, accD, accV, k1, hn1, hr1, hI⟩
  obtain ⟨j1, j2⟩ := hJ F1 H1 m1 _ (fun b w e => by rw [upd_ne (fun z => by rw [z, rD] at e; cases e)]; exact e) k1 hn1 (hG i accD m1 hI)
  by_cases hlt : i < src.length
  · obtain ⟨go, yl⟩ := j1 i hlt
    refine .inr ⟨go, fun H' => ∃ F' m' accD accV, Same F F' ∧ Sn K F' H' m' (upd r D (.lst accV)) ∧ RepL K F' accV accD ∧ I (i + 1) accD m', fun H' p => ⟨src.length - (i + 1), by omega, rfl, hlt, p⟩, fun x H2 y => ?_⟩
    obtain ⟨F2, d, k2, n2, hd2, r2⟩ := yl x H2 y
    have hw : EnvOk K F2 (wipe s vs) (wipeA e vs) := ((he.mono (k1.trans k2)).wipe vs)
    refine hg ⟨fun _ _ => True, fun _ _ => True, fun _ _ => True, fun _ _ => True⟩ _ _ _ _ ⟨F2, _, m1, _, AF, d, _, hw, n2, r2, hs i d accD m1 hd2 hI, gs0, fun F3 H3 m3 s3 e3 k3 he3 n3 o3 q3 => ⟨wipe_off o3 hi, ?_⟩⟩
    refine ⟨F3, e3, m3, _, _, XF, he3, n3, q3, fun F4 H4 m4 b k4 n4 q4 => ?_, gx0⟩
    have kk := k1.trans (k2.trans (k3.trans k4))
    have hr4 := hr1.mono (k2.trans (k3.trans k4))
    cases b with
    | true =>
      show cE K W0 ae s3 H4 _
      refine ⟨F4, e3, m4, _, _, XF, he3.mono k4, n4, q4, fun F5 H5 m5 v d5 k5 n5 r5 q5 => ?_, gx0⟩
      obtain ⟨hl, q5⟩ := q5
      have hr5 := hr4.mono k5
      refine ⟨accV, (n5.fr D _ upd_same).1, by rw [hr1.length]; exact hl, F5, m5, accD ++ [d5], accV ++ [v], kk.trans k5, ?_, hr5.append (.one r5), q5⟩
      have z := n5.chR (o' := .lst (accV ++ [v])) (fun _ _ q => nomatch q)
      exact z
    | false => exact ⟨F4, m4, accD, accV, kk, n4, hr4, q4⟩
  · have e' : i = src.length := by omega
    subst e'
    exact .inl ⟨j2 _ (Nat.le_refl _), newL_held hn1 rD hr1 (hd accD m1 hI) (g.mono k1)⟩
/-- [.. for .. in a dict's keys, items, values] -/
def aLcD (mt : Bool) (src : List (Key × D) → List D) (t : AE) (ag : AG) (at_ : AT) (ae : AE) (vs : List Nat) : AE := fun e m Q X => t e m (fun d m1 => (∃ es, d = .dic es ∧ lcA mt (src es) (fun _ => True) ag at_ ae vs e m1 Q) ∨
  ∃ a es, d = .cell a ∧ m1 a = some (.dic false es) ∧ lcA mt (src es) (fun m => m a = some (.dic true es)) ag at_ ae vs e (mset m1 a (.dic true es)) (fun v m2 => m2 a = some (.dic true es) ∧ Q v (mset m2 a (.dic false es)))) X
section
variable {X : Cx} {F r : Hp} {a : Addr} {o : Obj} {kvs : List (Key × V)} {es : List (Key × D)} {Q : QD} {Qc : VK}
theorem ge_open {u : HO} (g : GE X.K F r Q Qc) (le : ∀ w, r a = some w → w = .frz o u) : GE X.K F (upd r a (.frz o u)) Q (fun v H => unQ X (Qc v) H) := fun F' H' m' v d k n rv z => .inl (g F' H' m' v d k (n.subR fun b w e => by
  by_cases hb : b = a
  · subst hb; rw [upd_same, le w e]
  · rw [upd_ne hb]; exact e) rv z)
theorem ge_lockF (g : GE X.K F r Q Qc) (nf : NF X a) (hF : F a = some (.dK kvs)) (hr : r a = none) : GE X.K F (upd r a (.frz o (.dK kvs))) Q (fun v H => unQ X (Qc v) H) :=
  fun F' H' m' v d q n rv z => .inr ⟨a, o, _, (n.fr a _ upd_same).1, nf, g F' _ m' v d q (n.unlockF (q _ _ hF) hr) rv z⟩
theorem ge_lockM (g : GE X.K F r Q Qc) (nf : NF X a) (hr : r a = none) : GE X.K F (upd r a (.frz o (.dK kvs))) (fun v m2 => m2 a = some (.dic true es) ∧ Q v (mset m2 a (.dic false es))) (fun v H => unQ X (Qc v) H) :=
  fun F' H' m' v d q n rv z => .inr ⟨a, o, _, (n.fr a _ upd_same).1, nf, g F' _ _ v d q (n.unlockM z.1 hr) rv z.2⟩
end
theorem low_lcD {X : Cx} {W : WX} {J : Addr → Obj → List (Key × V) → It} {src : List (Key × D) → List D} {t : AE} {F H r : Hp} {s : L2.St} {e : De} {m : Mu} {vs : List Nat} {mt : Bool} {Q : QD} {XX : XA} {Qc : VK} {ag : AG} {at_ : AT} {ae : AE} {is : List Nat} {g1 : TG} (dw : DW X.K J src)
    (he : EnvOk X.K F s e) (hn : Sn X.K F H m r) (h : aLcD mt src t ag at_ ae vs e m Q XX) (hg : ∀ D v s H Q, cG X.K W0 D ag is v s H Q → g1 v s H Q) (hi : ∀ j ∈ is, j ∈ vs) (g : GE X.K F r Q Qc) (gx : GX X.K F r s XX W) :
    iDicL X J (cE X.K W t) s H fun Jt H' => ∀ D, H' D = none → ∃ Wv : Nat → Nat → Hp → Prop, (∃ n, Wv 0 n (upd H' D (.lst []))) ∧ ∀ i n H, Wv i n H → (Jt.stop i H ∧ unQ X (Qc (.ref D)) H) ∨ (Jt.go i H ∧ ∃ Nx : Hp → Prop, (∀ H', Nx H' → ∃ m', m' < n ∧ Wv (i + 1) m' H') ∧
      ∀ x H', Jt.yld i H x H' → g1 x (wipe s vs) H' fun σ2 H2 => wipe σ2 vs = wipe s vs ∧ cT X.K W0 at_ σ2 H2 fun b H3 =>
        if b = true then cE X.K W0 ae σ2 H3 fun y H4 => ∃ acc, H4 D = some (.lst acc) ∧ acc.length < sizeLine ∧ Nx (upd H4 D (.lst (acc ++ [y]))) else Nx H3) := by
  refine ⟨F, e, m, r, _, XX, he, hn, h, fun F1 H1 m1 v d q n1 r1 q1 => ?_, gx⟩
  rcases q1 with ⟨es, rfl, hl⟩ | ⟨a, es, rfl, hm, hl⟩
  · cases r1 with
    | dic e1 rk =>
      rename_i a kvs
      refine ⟨a, kvs, rfl, ?_⟩
      rcases n1.cov a _ e1 with h1 | ⟨o, kvs', z, h1⟩
      · have hr := n1.r_at h1 (fun z _ => by rw [e1] at z; cases z)
        exact .inl ⟨h1, fun o nf D hD => low_lcR (Qc := fun v H => unQ X (Qc v) H) (he.mono q) (n1.lockF e1) (dw rk upd_same) hl hg hi (ge_lockF (g.mono q) nf e1 hr) D hD⟩
      · cases z
        exact .inr ⟨o, h1, fun D hD => low_lcR (Qc := fun v H => unQ X (Qc v) H) (he.mono q) (n1.hold h1) (dw rk upd_same) hl hg hi (ge_open (g.mono q) fun w e => by
          have := (n1.fr a w e).1
          rw [h1] at this; cases this; rfl) D hD⟩
  · cases r1
    obtain ⟨hF, kvs, h1, rk⟩ := n1.mu a _ hm
    have hr := n1.r_at h1 (fun _ z => by rw [hm] at z; cases z)
    exact ⟨a, kvs, rfl, .inl ⟨h1, fun o nf D hD => low_lcR (Qc := fun v H => unQ X (Qc v) H) (he.mono q) (n1.lockM hm h1) (dw rk upd_same) hl hg hi (ge_lockM (g.mono q) nf hr) D hD⟩⟩
section
variable {X : Cx} {tg elt iter e0 : Expr} {ifs : List Expr} {scope : Scope} {own : List (Str × Nat)} {pos : Pos} {ta : AE} {ag : AG} {is : List Nat} {g1 : WX → TG} {at_ : AT} {ae : AE} {J : Addr → Obj → List (Key × V) → It} {src : List (Key × D) → List D}
theorem q_lcD (mt : Bool) (own : List (Str × Nat)) (dw : DW X.K J src) (hpi : ∀ {td : TE}, PE X e0 td → PI X tg iter (iDicL X J td)) (hc : X.calm = true) (hN : X.N.Nodup) (ha : QE X e0 ta) (ok : BlkOk X.N X.env.scope scope own)
    (hg : ∀ (s : Shared) (H : Hp) (C : Addr) (cl : List (Str × Addr)) (fp : List Addr), QG (X.blk s H scope (compEnvC scope cl C X.env) fp) tg ag is g1)
    (ht : ∀ (s : Shared) (H : Hp) (C : Addr) (cl : List (Str × Addr)) (fp : List Addr), QTs (X.blk s H scope (compEnvC scope cl C X.env) fp) ifs at_)
    (he : ∀ (s : Shared) (H : Hp) (C : Addr) (cl : List (Str × Addr)) (fp : List Addr), QE (X.blk s H scope (compEnvC scope cl C X.env) fp) elt ae)
    (his : ∀ j ∈ is, j ∈ own.map (·.2) := by decide) (hs : ∀ x, foldedSetIterable iter X.env x = pure x := by intro _; rfl) :
    QE X (.ListComp elt [⟨tg, iter, ifs, 0⟩] scope pos) (aLcD mt src ta ag at_ ae (own.map (·.2))) := fun W tk =>
  ⟨fun pins sh σ H' Q' I h => (pe_un (pe_lc (own := own) (g := g1 W0) (tt := cT X.K W0 at_) (te := cE X.K W0 ae) hc hN (hpi (ha W tk)) ok (fun s H C cl fp => (hg s H C cl fp W0 takes_w0).1) (fun s H C cl fp => ht s H C cl fp W0 takes_w0) (fun s H C cl fp => he s H C cl fp W0 takes_w0) hs)).run pins sh σ H' Q' I (by
    obtain ⟨F, e, m, r, Q, XX, he, hn, h, g, gx⟩ := h
    exact low_lcD dw he hn h (fun D v s H Q z => (hg sh H' 0 [] [] W0 takes_w0).2 D v s H Q z) his g gx)⟩
theorem qs_setLcD (mt : Bool) (i : Nat) (own : List (Str × Nat)) {y : Str} {py spos : Pos} (dw : DW X.K J src) (hpi : ∀ {td : TE}, PE X e0 td → PI X tg iter (iDicL X J td)) (hc : X.calm = true) (hN : X.N.Nodup) (ha : QE X e0 ta) (ok : BlkOk X.N X.env.scope scope own)
    (hg : ∀ (s : Shared) (H : Hp) (C : Addr) (cl : List (Str × Addr)) (fp : List Addr), QG (X.blk s H scope (compEnvC scope cl C X.env) fp) tg ag is g1)
    (ht : ∀ (s : Shared) (H : Hp) (C : Addr) (cl : List (Str × Addr)) (fp : List Addr), QTs (X.blk s H scope (compEnvC scope cl C X.env) fp) ifs at_)
    (he : ∀ (s : Shared) (H : Hp) (C : Addr) (cl : List (Str × Addr)) (fp : List Addr), QE (X.blk s H scope (compEnvC scope cl C X.env) fp) elt ae)
    (hsw : swapsWith (.ListComp elt [⟨tg, iter, ifs, 0⟩] scope pos) (some (.Name y py)) spos.line X.env = pure true)
    (hy : X.N[i]? = some y := by rfl) (hyl : X.env.scope.names.lookup y = some .local := by rfl)
    (his : ∀ j ∈ is, j ∈ own.map (·.2) := by decide) (hs : ∀ x, foldedSetIterable iter X.env x = pure x := by intro _; rfl) :
    QS X (.Assign [.Name y py] (.ListComp elt [⟨tg, iter, ifs, 0⟩] scope pos) spos) (aSet i (aLcD mt src ta ag at_ ae (own.map (·.2)))) := fun W tk po =>
  ⟨fun pins sh σ H' D I h => (ps_un (ps_setLc (own := own) (g := g1 W0) (tt := cT X.K W0 at_) (te := cE X.K W0 ae) hc hN hy hyl hsw (hpi (ha W tk)) ok (fun s H C cl fp => (hg s H C cl fp W0 takes_w0).1) (fun s H C cl fp => ht s H C cl fp W0 takes_w0) (fun s H C cl fp => he s H C cl fp W0 takes_w0) hs)).run pins sh σ H' D I (by
    obtain ⟨F, e, m, r, A, he, hn, h, g⟩ := h
    refine low_lcD (Qc := fun v H => D.nx (σ.set i (some v)) H) dw he hn h (fun D v s H Q z => (hg sh H' 0 [] [] W0 takes_w0).2 D v s H Q z) his ?_ (g.gx he)
    exact fun F2 H2 m2 v d k n2 r2 q2 => g.nx F2 H2 m2 _ _ k ((he.mono k).set r2 i) n2 q2)⟩
end
end Ab
namespace Ab
open PySem PySem.Spec PyProof.Rows L2
/-! ### a new instance, frozen with the dicts and lists in its fields -/
def fzM1 (x : Option MO) (b : Addr) (m : Mu) : D × Mu := match x with
  | some (.dic false es) => (.dic es, mdel m b)
  | some (.lst xs) => (.lst xs, mdel m b)
  | _ => (.cell b, m)
def fzD1 (m : Mu) : D → D × Mu
  | .cell b => fzM1 (m b) b m
  | d => (d, m)
def fzFs : Mu → List (Str × D) → List (Str × D) × Mu
  | m, [] => ([], m)
  | m, (f, d) :: r => ((f, (fzD1 m d).1) :: (fzFs (fzD1 m d).2 r).1, (fzFs (fzD1 m d).2 r).2)
theorem fzD1_ok {K : PySem.W.Frag} {F H : Hp} {m : Mu} {r : Hp} {v : V} {d : D} (hn : Sn K F H m r) (hr : Rep K F v d) : ∃ F', Same F F' ∧ Sn K F' H (fzD1 m d).2 r ∧ Rep K F' v (fzD1 m d).1 := by
  by_cases hc : ∃ b, d = .cell b
  · obtain ⟨b, rfl⟩ := hc
    cases hr
    show ∃ F', Same F F' ∧ Sn K F' H (fzM1 (m b) b m).2 r ∧ Rep K F' (.ref b) (fzM1 (m b) b m).1
    cases e : m b with
    | none => exact ⟨F, Same.refl F, hn, .cell b⟩
    | some x =>
      cases x with
      | lst xs =>
        obtain ⟨F2, k2, n2, r2⟩ := hn.frzL e
        exact ⟨F2, k2, n2, r2⟩
      | dic lk es =>
        cases lk with
        | false =>
          obtain ⟨F2, k2, n2, r2⟩ := hn.frzD e
          exact ⟨F2, k2, n2, r2⟩
        | true => exact ⟨F, Same.refl F, hn, .cell b⟩
      | ins C fs => exact ⟨F, Same.refl F, hn, .cell b⟩
  · have e : fzD1 m d = (d, m) := by
      cases d <;> first | rfl | exact absurd ⟨_, rfl⟩ hc
    rw [e]; exact ⟨F, Same.refl F, hn, hr⟩
theorem fzFs_ok {K : PySem.W.Frag} {H : Hp} {r : Hp} : ∀ {F : Hp} {m : Mu} {vs : List (Str × V)} {fs : List (Str × D)}, Sn K F H m r → RepF K F vs fs → ∃ F', Same F F' ∧ Sn K F' H (fzFs m fs).2 r ∧ RepF K F' vs (fzFs m fs).1
  | F, m, _, _, hn, .nil => ⟨F, Same.refl F, hn, .nil⟩
  | F, m, _, _, hn, .cons h q => by
    obtain ⟨F1, k1, n1, r1⟩ := fzD1_ok hn h
    obtain ⟨F2, k2, n2, r2⟩ := fzFs_ok n1 (RepF.mono k1 q)
    exact ⟨F2, k1.trans k2, n2, .cons (r1.mono k2) r2⟩
def aFzN (t : AE) : AE := fun e m Q X => t e m (fun d m1 => ∃ a C fs, d = .cell a ∧ m1 a = some (.ins C fs) ∧ Q (.obj C (fzFs (mdel m1 a) fs).1) (fzFs (mdel m1 a) fs).2) X
theorem q_fzN {X : Cx} {a : Expr} {ta : AE} (h : QE X a ta) : QE X a (aFzN ta) := fun W tk => (h W tk).imp fun s H Qc h => by
  obtain ⟨F, e, m, r, Q, X, he, hn, h, g, gx⟩ := h
  refine ⟨F, e, m, r, _, X, he, hn, h, fun F1 H1 m1 v d s1 n1 r1 q1 => ?_, gx⟩
  obtain ⟨p, C, fs, rfl, hm, q⟩ := q1
  cases r1
  obtain ⟨F2, k2, n2, r2⟩ := n1.frzI hm
  cases r2 with
  | obj e2 rf =>
    obtain ⟨F3, k3, n3, r3⟩ := fzFs_ok n2 rf
    exact g F3 H1 _ _ _ (s1.trans (k2.trans k3)) n3 (.obj (k3 _ _ e2) r3) q
section
variable {e : De} {m : Mu} {N B C : De → Mu → Prop} {R : QD} {E : Ex → De → Mu → Prop} {ta to ti : AE} {tr : AA} {d y : D} {xs : List D}
theorem mset_back {m : Mu} {a : Addr} {x y : MO} (h : m a = some x) : mset (mset m a y) a x = m := by
  funext b
  unfold mset
  by_cases hb : b = a
  · subst hb; rw [if_pos rfl, h]
  · rw [if_neg hb, if_neg hb]
theorem x_fzN {Q : QD} {X : XA} (h : ta e m (fun d m1 => ∃ a C fs, d = .cell a ∧ m1 a = some (.ins C fs) ∧ Q (.obj C (fzFs (mdel m1 a) fs).1) (fzFs (mdel m1 a) fs).2) X) : aFzN ta e m Q X := h
/-- a comprehension that changes cells -/
theorem x_lcI {ai : AI} {ag : AG} {ae : AE} {vs : List Nat} {src : List D} {G : Mu → Prop} {Q : QD} {X : XA} (I : Nat → List D → Mu → Prop) (h : ∀ Q X, Q src G m → ai e m Q X) (h0 : I 0 [] m) (hG : ∀ i acc m', I i acc m' → G m') (hl : src.length < sizeLine)
    (hs : ∀ i d acc m', src[i]? = some d → acc.length = i → I i acc m' → ∃ e2, Bnd ag d (wipeA e vs) e2 ∧ ∀ Q : QD, (∀ y m4, I (i + 1) (acc ++ [y]) m4 → Q y m4) → ae e2 m' Q XF) (k : ∀ acc m', acc.length = src.length → I src.length acc m' → Q (.lst acc) m') : aLc false ai ag aYes ae vs e m Q X := h _ _
  ⟨fun i acc m' => acc.length = i ∧ i ≤ src.length ∧ I i acc m', ⟨rfl, Nat.zero_le _, h0⟩, fun i acc m' z => hG i acc m' z.2.2, fun i d acc m' hd ⟨e2, e3, hI⟩ => by
    have hi : i < src.length := (List.getElem?_eq_some_iff.mp hd).1
    obtain ⟨e9, h1, h3⟩ := hs i d acc m' hd e2 hI
    exact h1 _ _ _ (h3 _ fun y m4 hy => ⟨by omega, by rw [List.length_append, e2]; rfl, hi, hy⟩), fun acc m' ⟨e2, _, hI⟩ => k acc m' e2 hI⟩
theorem x_popAt {a : Addr} {i : Nat} {Q : QD} {X : XA} (ho : Ev to e m (.cell a)) (hr : EvA tr e m [.int (i : Int)]) (hm : m a = some (.lst xs)) (hi : i < xs.length) (hb : i < 2 ^ 62) (hy : xs[i]? = some y) (k : Q y (mset m a (.lst (xs.eraseIdx i)))) : aBM "list" bPopAt to tr e m Q X :=
  ho _ _ ⟨td_cell hm, hr _ _ ⟨a, xs, (i : Int), i, y, rfl, rfl, hm, by omega, by omega, (ixN_seq (ixN_nat hi)).1, hy, k⟩⟩
theorem x_pop {a : Addr} {Q : QD} {X : XA} (ho : Ev to e m (.cell a)) (hm : m a = some (.lst xs)) (hy : xs[xs.length - 1]? = some y) (k : Q y (mset m a (.lst xs.dropLast))) : aBM0 "list" bPop to e m Q X := ho _ _ ⟨td_cell hm, a, xs, y, rfl, rfl, hm, hy, k⟩
theorem k_extend {a : Addr} {ys : List D} (ho : Ev to e m (.cell a)) (hr : EvA tr e m [d]) (hm : m a = some (.lst xs)) (hx : asX m d = some ys) (hl : xs.length + ys.length ≤ sizeLine) (k : N e (mset m a (.lst (xs ++ ys)))) : aDrop (aBM "list" bExtend to tr) ⟨N, R, B, C, E⟩ e m :=
  ho _ _ ⟨td_cell hm, hr _ _ ⟨a, xs, d, ys, rfl, rfl, hm, hx, hl, k⟩⟩
theorem o_lenX {a : Addr} (hm : m a = some (.lst xs)) : OpA bLen [.cell a] m (.int xs.length) := o_lenC hm
/-- for .. in a dict that is data -/
theorem k_forDd {src : List (Key × D) → List D} {ag : AG} {ab : AS} {es : List (Key × D)} (h : Ev ta e m (.dic es)) (I : Nat → De → Mu → Prop) (h0 : I 0 e m)
    (hs : ∀ i d e' m', (src es)[i]? = some d → I i e' m' → ag d ⟨N, R, B, C, E⟩ e' m' fun e2 m2 => ab ⟨I (i + 1), R, N, I (i + 1), E⟩ e2 m2) (hd : ∀ e' m', I (src es).length e' m' → N e' m') : aForD src ta ag ab ⟨N, R, B, C, E⟩ e m :=
  h _ _ (.inl ⟨es, rfl, I, h0, fun _ _ _ _ => trivial, hs, hd⟩)
/-- for .. in a dict that is a cell -/
theorem k_forDc {src : List (Key × D) → List D} {ag : AG} {ab : AS} {es : List (Key × D)} {a : Addr} (h : Ev ta e m (.cell a)) (hm : m a = some (.dic false es)) (I : Nat → De → Mu → Prop) (h0 : I 0 e (mset m a (.dic true es))) (hG : ∀ i e' m', I i e' m' → m' a = some (.dic true es))
    (hs : ∀ i d e' m', (src es)[i]? = some d → I i e' m' → ag d (unA a es ⟨N, R, B, C, E⟩) e' m' fun e2 m2 => ab { (unA a es ⟨N, R, B, C, E⟩) with nx := I (i + 1), ct := I (i + 1), bk := (unA a es ⟨N, R, B, C, E⟩).nx } e2 m2) (hd : ∀ e' m', I (src es).length e' m' → N e' (mset m' a (.dic false es))) : aForD src ta ag ab ⟨N, R, B, C, E⟩ e m :=
  h _ _ (.inr ⟨a, es, rfl, hm, I, h0, hG, hs, fun e' m' z => ⟨hG _ _ _ z, hd e' m' z⟩⟩)
theorem ev_lcDF {src : List (Key × D) → List D} {ag : AG} {at_ : AT} {ae : AE} {vs : List Nat} {es : List (Key × D)} (p : D → Bool) (f : D → D) (h : Ev ta e m (.dic es)) (hl : (src es).length < sizeLine)
    (hs : ∀ d, d ∈ src es → ∃ e2, Bnd ag d (wipeA e vs) e2 ∧ EvT at_ e2 m (p d) ∧ (p d = true → Ev ae e2 m (f d))) : Ev (aLcD false src ta ag at_ ae vs) e m (.lst (((src es).filter p).map f)) := fun Q X q =>
  h _ _ (.inl ⟨es, rfl, (ev_lcF (ai := fun _ m Q _ => Q (src es) (fun _ => True) m) (G := fun _ => True) p f (fun _ _ z => z) trivial hl hs) Q X q⟩)
theorem ev_lcDM {src : List (Key × D) → List D} {ag : AG} {ae : AE} {vs : List Nat} {es : List (Key × D)} (f : D → D) (h : Ev ta e m (.dic es)) (hl : (src es).length < sizeLine)
    (hs : ∀ d, d ∈ src es → ∃ e2, Bnd ag d (wipeA e vs) e2 ∧ Ev ae e2 m (f d)) : Ev (aLcD false src ta ag aYes ae vs) e m (.lst ((src es).map f)) := fun Q X q =>
  h _ _ (.inl ⟨es, rfl, (ev_lcM (ai := fun _ m Q _ => Q (src es) (fun _ => True) m) (G := fun _ => True) f (fun _ _ z => z) trivial hl hs) Q X q⟩)
/-- a method of an instance that is a cell -/
theorem x_methC {n : Str} {T : List (Addr × List D × ASp)} {a Cl : Addr} {fs : List (Str × D)} {sp : ASp} {ds : List D} {Q : QD} {X : XA} (ha : Ev ta e m (.cell a)) (hm : m a = some (.ins Cl fs)) (hl : fs.lookup n = none) (hT : (Cl, [], sp) ∈ T) (hr : EvA tr e m ds) (hs : sp (.cell a :: ds) m Q X) : aMeth n T ta tr e m Q X :=
  ha _ _ ⟨Cl, fs, [], sp, by show (match m a with | some (.ins C fs) => some (C, fs) | _ => none) = _; rw [hm], hl, hT, hr _ _ (by rw [List.append_nil]; exact hs)⟩
end
/-- what is told of lists stays where no list was changed -/
theorem asS_ms {m : Mu} {a : Addr} {x : MO} {d : D} {xs : List D} (h : asS m d = some xs) (ha : oL (m a) = none) : asS (mset m a x) d = some xs := by
  cases d with
  | cell b =>
    have h : oL (m b) = some xs := h
    show oL (mset m a x b) = some xs
    rw [mset_ne (fun q => by rw [q, ha] at h; cases h)]; exact h
  | _ => exact h
end Ab
namespace Ab
open PySem PySem.Spec PyProof.Rows L2
section
variable {e : De} {m : Mu} {ta to : AE} {tr : AA} {d : D} {xs : List D}
theorem lcA_F {mt : Bool} {ag : AG} {at_ : AT} {ae : AE} {vs : List Nat} {src : List D} {G : Mu → Prop} {Q : QD} (p : D → Bool) (f : D → D) (hG : G m) (hl : src.length < sizeLine)
    (hs : ∀ d, d ∈ src → ∃ e2, Bnd ag d (wipeA e vs) e2 ∧ EvT at_ e2 m (p d) ∧ (p d = true → Ev ae e2 m (f d))) (q : newL mt ((src.filter p).map f) m Q) : lcA mt src G ag at_ ae vs e m Q :=
  ⟨fun i acc m' => m' = m ∧ acc = ((src.take i).filter p).map f ∧ i ≤ src.length, ⟨rfl, rfl, Nat.zero_le _⟩, fun i acc m' z => z.1 ▸ hG, fun i d acc m' hd ⟨e1, e2, e3⟩ => by
    subst e1 e2
    have hi : i < src.length := (List.getElem?_eq_some_iff.mp hd).1
    obtain ⟨e2, h1, h2, h3⟩ := hs d (List.mem_of_getElem? hd)
    have et : src.take (i + 1) = src.take i ++ [d] := by rw [List.take_add_one, hd]; rfl
    refine h1 _ _ _ (h2 _ _ ?_)
    cases hp : p d with
    | true =>
      refine h3 hp _ _ ⟨?_, rfl, ?_, hi⟩
      · rw [List.length_map]
        exact Nat.lt_of_le_of_lt (Nat.le_trans (List.length_filter_le _ _) (by rw [List.length_take]; omega)) hl
      · rw [et, List.filter_append, List.map_append, List.filter_cons, hp]; rfl
    | false =>
      refine ⟨rfl, ?_, hi⟩
      rw [et, List.filter_append, List.map_append, List.filter_cons, hp]
      simp, fun acc m' ⟨e1, e2, _⟩ => by
    subst e1 e2
    rw [List.take_length]; exact q⟩
/-- a comprehension over a dict that is data, the new list a cell -/
theorem x_lcDN {src : List (Key × D) → List D} {ag : AG} {at_ : AT} {ae : AE} {vs : List Nat} {es : List (Key × D)} {Q : QD} {X : XA} (p : D → Bool) (f : D → D) (h : Ev ta e m (.dic es)) (hl : (src es).length < sizeLine)
    (hs : ∀ d, d ∈ src es → ∃ e2, Bnd ag d (wipeA e vs) e2 ∧ EvT at_ e2 m (p d) ∧ (p d = true → Ev ae e2 m (f d))) (k : ∀ c, m c = none → Q (.cell c) (mset m c (.lst (((src es).filter p).map f)))) : aLcD true src ta ag at_ ae vs e m Q X :=
  h _ _ (.inl ⟨es, rfl, lcA_F p f trivial hl hs fun c hc => k c hc⟩)
theorem x_lcMN {ai : AI} {ag : AG} {ae : AE} {vs : List Nat} {src : List D} {G : Mu → Prop} {Q : QD} {X : XA} (f : D → D) (h : ∀ Q X, Q src G m → ai e m Q X) (hG : G m) (hl : src.length < sizeLine)
    (hs : ∀ d, d ∈ src → ∃ e2, Bnd ag d (wipeA e vs) e2 ∧ Ev ae e2 m (f d)) (k : ∀ c, m c = none → Q (.cell c) (mset m c (.lst (src.map f)))) : aLc true ai ag aYes ae vs e m Q X :=
  h _ _ (lcA_F (fun _ => true) f hG hl (fun d hd => let ⟨e2, h1, h2⟩ := hs d hd; ⟨e2, h1, fun _ _ q => q, fun _ => h2⟩) (by rw [List.filter_eq_self.mpr (fun _ _ => rfl)]; exact fun c hc => k c hc))
/-- list(d), the keys -/
theorem x_listK {es : List (Key × D)} {Q : QD} {X : XA} (h : EvA tr e m [d]) (hk : asK m d = some es) (k : ∀ c, m c = none → Q (.cell c) (mset m c (.lst (kys es)))) : aCB (bList true) tr e m Q X := h _ _ ⟨_, rfl, .inr ⟨es, hk, fun c hc => k c hc⟩⟩
theorem x_listS {Q : QD} {X : XA} (h : EvA tr e m [d]) (hx : asS m d = some xs) (k : ∀ c, m c = none → Q (.cell c) (mset m c (.lst xs))) : aCB (bList true) tr e m Q X := h _ _ ⟨_, rfl, .inl ⟨xs, hx, fun c hc => k c hc⟩⟩
theorem o_listSS (hx : asS m d = some xs) : OpA (bList false) [d] m (.lst xs) := fun _ q => ⟨_, rfl, .inl ⟨xs, hx, q⟩⟩
theorem o_listKK {es : List (Key × D)} (hk : asK m d = some es) : OpA (bList false) [d] m (.lst (kys es)) := fun _ q => ⟨_, rfl, .inr ⟨es, hk, q⟩⟩
end
end Ab
namespace Ab
open PySem PySem.Spec PyProof.Rows L2
/-! ### d.get(k, x) -/
def aDGet2 (td ty tx : AE) : AE := fun e m Q X => td e m (fun x m1 => (∃ kvs, asK m1 x = some kvs ∧ ∀ a, x = .cell a → ∃ kvs, m1 a = some (.dic false kvs)) ∧ ty e m1 (fun y m2 => tx e m2 (fun z m3 => ∃ kvs k, asK m3 x = some kvs ∧ keyD y = some k ∧ Q ((lkp kvs k).getD z) m3) X) X) X
theorem lkp_none_of {K : PySem.W.Frag} {F : Hp} {vs : List (Key × V)} {ds : List (Key × D)} (r : RepK K F vs ds) {k : Key} (h : lkp ds k = none) : valV vs k = none := by
  have q := r.lkp_isSome k
  rw [h] at q
  cases e : valV vs k with
  | none => rfl
  | some v => rw [e] at q; cases q
theorem low_dget2 {K : PySem.W.Frag} {W : WX} {td ty tx : AE} {s : L2.St} {H : Hp} {Qc : VK} (h : cE K W (aDGet2 td ty tx) s H Qc) : tDGet2 (cE K W td) (cE K W ty) (cE K W tx) s H Qc := by
  obtain ⟨F, e, m, r, Q, X, he, hn, h, g, gx⟩ := h
  refine ⟨F, e, m, r, _, X, he, hn, h, fun F1 H1 m1 v d s1 n1 r1 q1 => ?_, gx⟩
  obtain ⟨⟨kvs, hk, _⟩, q1⟩ := q1
  obtain ⟨p, kvs', rfl, e2, r2⟩ := asK_ok n1 r1 hk
  refine ⟨p, rfl, .inl ⟨kvs', e2⟩, F1, e, m1, r, _, X, he.mono s1, n1, q1, fun F2 H2 m2 u y s2 n2 ry q2 => ?_, gx.mono s1⟩
  refine ⟨F2, e, m2, r, _, X, he.mono (s1.trans s2), n2, q2, fun F3 H3 m3 w z s3 n3 rz q3 => ?_, gx.mono (s1.trans s2)⟩
  obtain ⟨kvs3, k, hk3, ky, q⟩ := q3
  obtain ⟨p', kvs3', e0, e3, r3⟩ := asK_ok n3 (r1.mono (s2.trans s3)) hk3
  cases e0
  have gg := g.mono (s1.trans (s2.trans s3))
  cases hl : lkp kvs3 k with
  | some v =>
    rw [hl] at q
    obtain ⟨w', e4, rw'⟩ := r3.lkp_some hl
    exact ⟨some w', .inl ⟨kvs3', k, e3, key_ok (ry.mono s3) ky, e4.symm⟩, gg F3 H3 m3 _ _ (Same.refl F3) n3 rw' q⟩
  | none =>
    rw [hl] at q
    exact ⟨none, .inl ⟨kvs3', k, e3, key_ok (ry.mono s3) ky, (lkp_none_of r3 hl).symm⟩, gg F3 H3 m3 _ _ (Same.refl F3) n3 rz q⟩
section
variable {X : Cx} {o a b : Expr} {apos cpos : Pos} {td ty tx : AE}
theorem q_dget2 (hu : X.A.units + 1 < cLine) (ho : QE X o td) (ha : QE X a ty) (hb : QE X b tx) (m : M2 X o "get" apos a b cpos := by exact ⟨by rfl, by rfl, by rfl, by rfl⟩) : QE X (.Call (.Attribute o "get" apos) [a, b] [] cpos) (aDGet2 td ty tx) :=
  fun W tk => (pe_dget2 hu (ho W tk) (ha W tk) (hb W tk) m).imp fun _ _ _ h => low_dget2 h
end
theorem ev_dget2 {td ty tx : AE} {e : De} {m : Mu} {x y z : D} {kvs : List (Key × D)} {k : Key} (ho : Ev td e m x) (hk : asK m x = some kvs) (hc : ∀ a, x = .cell a → ∃ kvs, m a = some (.dic false kvs)) (hy : Ev ty e m y) (hz : Ev tx e m z) (ky : keyD y = some k) : Ev (aDGet2 td ty tx) e m ((lkp kvs k).getD z) :=
  fun Q X q => ho _ _ ⟨⟨kvs, hk, hc⟩, hy _ _ (hz _ _ ⟨kvs, k, hk, ky, q⟩)⟩
/-! ### d.clear(), d.update(d2), d a cell -/
section
variable {X : Cx} {pins : List (Addr × Obj)} {σ : L2.St} {H : Hp} {s : Shared} {a b : Addr} {A : Around} {E : Value → Shared → Prop}
theorem d_update {kvs more : List (Key × V)} {Q : Value → Shared → Prop} (I : Inv X pins σ H s) (ne : a ≠ b) (ea : H a = some (.dK kvs)) (eb : Rd H b (.dK more)) (hl : kvs.length + more.length ≤ sizeLine)
    (h : ∀ s', Inv X pins σ (upd H a (.dK (mergeK kvs more))) s' → Q .none s') : wpAny (model X.prog X.w) A (call (.builtin "dict.update") [.ref a, .ref b]) Q E s := by
  obtain ⟨z, hd, vs, rel, dd⟩ := dk_of I.hok ea
  obtain ⟨z2, hd2, ws, rel2, dd2⟩ := dk_rd I.hok eb
  refine call_meetsIn PySem.F.slot_dict_update dd.typeIs PySem.F.entry_dict_update (PySem.F.args_dict_update_2 _ _) (meets_dict_update (mixKind X.prog X.w) a b ne hd2) ⟨vs, ws, dd, dd2, by rw [← rel.length, ← rel2.length]; exact hl, fun h' dd' _ hs => h _ ?_⟩
  have he : ∃ q, h'.get? a = some q := let ⟨q, _, _, hq, _⟩ := dd'; ⟨q, hq⟩
  exact d_write (t' := s.toks) I (by rw [ea]; exact True.intro) hs he (dk_new (Nat.le_trans (length_mergeK more kvs) hl) hd (KV.merge rel2 rel) dd')
end
def rDUpd : V → List V → Hp → VK → Prop := fun x vs H Q => ∃ (a b : Addr) (kvs more : List (Key × V)), x = .ref a ∧ vs = [.ref b] ∧ a ≠ b ∧ H a = some (.dK kvs) ∧ Rd H b (.dK more) ∧ kvs.length + more.length ≤ sizeLine ∧ Q .non (upd H a (.dK (mergeK kvs more)))
theorem mtd_update {X : Cx} : MtR X "dict.update" rDUpd := by
  intro pins s σ H x vs v us Q I rx rv h
  obtain ⟨a, b, kvs, more, rfl, rfl, ne, ea, eb, hl, q⟩ := h
  cases rx
  obtain ⟨u, rfl, ru⟩ := rv.one
  cases ru
  exact d_update I ne ea eb hl fun s' I' => ⟨.non, _, I', rfl, q⟩
def mrg {α : Type} (kvs more : List (Key × α)) : List (Key × α) := more.foldl (fun acc kv => put acc kv.1 kv.2) kvs
theorem RepK.mrg {K : PySem.W.Frag} {F : Hp} : ∀ {ws : List (Key × V)} {es : List (Key × D)} {vs : List (Key × V)} {ds : List (Key × D)}, RepK K F ws es → RepK K F vs ds → RepK K F (mergeK vs ws) (Ab.mrg ds es)
  | _, _, _, _, .nil, q => q
  | _, _, vs, ds, .cons (k := k) (v := v) (d := d) (vs := ws) (ds := es) h r, q => show RepK K F (mergeK (putK vs k v) ws) (Ab.mrg (Ab.put ds k d) es) from RepK.mrg (ws := ws) (es := es) r (RepK.put h q)
theorem put_new {α : Type} {kvs : List (Key × α)} {k : Key} (v : α) (h : k ∉ kvs.map (·.1)) : put kvs k v = kvs ++ [(k, v)] := by
  unfold put
  rw [if_neg]
  intro z
  obtain ⟨x, hx, e⟩ := List.any_eq_true.mp z
  exact h (List.mem_map.mpr ⟨x, hx, of_decide_eq_true e⟩)
theorem mrg_new {α : Type} : ∀ (more kvs : List (Key × α)), ((kvs ++ more).map (·.1)).Nodup → mrg kvs more = kvs ++ more
  | [], kvs, _ => (List.append_nil _).symm
  | p :: r, kvs, h => by
    have h1 : p.1 ∉ kvs.map (·.1) := by
      rw [List.map_append, List.map_cons] at h
      intro z
      exact (List.nodup_append.mp h).2.2 _ z _ (List.mem_cons_self ..) rfl
    have e : mrg kvs (p :: r) = mrg (kvs ++ [p]) r := by
      show mrg (put kvs p.1 p.2) r = _
      rw [put_new p.2 h1]
    rw [e, mrg_new r (kvs ++ [p]) (by rw [List.append_assoc]; exact h), List.append_assoc]; rfl
theorem mrg_nil {α : Type} {more : List (Key × α)} (h : (more.map (·.1)).Nodup) : mrg [] more = more := mrg_new more [] h
def aDM0 (b : BM) (to : AE) : AE := fun e m Q X => to e m (fun d m1 => (∃ a kvs, d = .cell a ∧ m1 a = some (.dic false kvs)) ∧ b d [] m1 Q) X
def aDM (b : BM) (to : AE) (t : AA) : AE := fun e m Q X => to e m (fun d m1 => (∃ a kvs, d = .cell a ∧ m1 a = some (.dic false kvs)) ∧ t e m1 (fun ds m2 => b d ds m2 Q) X) X
theorem tyDic_ok {K : PySem.W.Frag} {F H : Hp} {m : Mu} {r : Hp} {v : V} {d : D} (hn : Sn K F H m r) (hr : Rep K F v d) (h : ∃ a kvs, d = .cell a ∧ m a = some (.dic false kvs)) : tyV K "dict" v H := by
  obtain ⟨a, kvs, rfl, hm⟩ := h
  cases hr
  obtain ⟨ws, h1, _⟩ := s_mu hn hm
  exact .inr (.inr (.inl ⟨rfl, .inl ⟨ws, h1⟩⟩))
section
variable {X : Cx} {o a : Expr} {es : List Expr} {to : AE} {tr : AA} {name : Str} {apos cpos : Pos} {id : String} {rd : V → List V → Hp → VK → Prop} {bb : BM}
theorem q_dm0 (hs : SM X.K rd bb) (pa : PlainAttrs "dict") (slot : Slot "dict" name id) (hty : typeOf (.builtin id) = pure (.type "method_descriptor")) (hm : MtR X id rd) (ho : QE X o to)
    (hbase : attributeBase o name X.env (eval o X.env) = eval o X.env := by rfl) (hline : (apos.endLine == cpos.line) = true := by rfl) : QE X (.Call (.Attribute o name apos) [] [] cpos) (aDM0 bb to) := fun W tk =>
  (pe_bm0 pa slot hty hm (ho W tk) hbase hline).imp fun s H Qc h => by
    obtain ⟨F, e, m, r, Q, X, he, hn, h, g, gx⟩ := h
    refine ⟨F, e, m, r, _, X, he, hn, h, fun F1 H1 m1 v d s1 n1 r1 q1 => ⟨tyDic_ok n1 r1 q1.1, hs F1 H1 m1 r v d [] [] Q Qc n1 r1 .nil q1.2 (g.mono s1)⟩, gx⟩
theorem q_dm (hs : SM X.K rd bb) (pa : PlainAttrs "dict") (slot : Slot "dict" name id) (hty : typeOf (.builtin id) = pure (.type "method_descriptor")) (hm : MtR X id rd) (ho : QE X o to) (ha : QA X (a :: es) tr)
    (hbase : attributeBase o name X.env (eval o X.env) = eval o X.env := by rfl)
    (hfew : ((backTo cpos (starEach (a :: es) X.env)).all (fun x => !x.1) && (backToKw cpos (keywordEach [] X.env)).all (fun x => x.1.isSome)
      && decide ((a :: es).length + ([] : List Keyword).length + (if ([] : List Keyword).isEmpty then 0 else 1) < 30)) = true := by rfl)
    (hline : (apos.endLine == cpos.line) = true := by rfl) (hst : starEach (a :: es) X.env = (false, eval a X.env) :: starEach es X.env := by rfl) (hplain : (backTo cpos (starEach es X.env)).any (·.1) = false := by rfl) :
    QE X (.Call (.Attribute o name apos) (a :: es) [] cpos) (aDM bb to tr) := fun W tk =>
  (pe_bm pa slot hty hm (ho W tk) (ha W tk) hbase hfew hline hst hplain).imp fun s H Qc h => by
    obtain ⟨F, e, m, r, Q, X, he, hn, h, g, gx⟩ := h
    refine ⟨F, e, m, r, _, X, he, hn, h, fun F1 H1 m1 v d s1 n1 r1 q1 => ⟨tyDic_ok n1 r1 q1.1, ?_⟩, gx⟩
    exact ⟨F1, e, m1, r, _, X, he.mono s1, n1, q1.2, fun F2 H2 m2 vs ds s2 n2 r2 q2 => hs F2 H2 m2 r v d vs ds Q Qc n2 (r1.mono s2) r2 q2 (g.mono (s1.trans s2)), gx.mono s1⟩
end
def bDClr : BM := fun d ds m Q => ∃ a kvs, d = .cell a ∧ ds = [] ∧ m a = some (.dic false kvs) ∧ Q .non (mset m a (.dic false []))
theorem s_dclr {K : PySem.W.Frag} : SM K rDClear bDClr := by
  intro F H m r v d vs ds Q Qc hn hr hrs h k
  obtain ⟨a, kvs, rfl, rfl, e, q⟩ := h
  cases hr; cases hrs
  obtain ⟨ws, h1, h2⟩ := s_mu hn e
  exact ⟨a, ws, rfl, rfl, h1, k F _ _ _ _ (Same.refl F) (Sn.upD hn e h1 (fun _ _ z => nomatch z) .nil) .non q⟩
def bDUpd : BM := fun d ds m Q => ∃ a b kvs more, d = .cell a ∧ ds = [.cell b] ∧ a ≠ b ∧ m a = some (.dic false kvs) ∧ m b = some (.dic false more) ∧ kvs.length + more.length ≤ sizeLine ∧ Q .non (mset m a (.dic false (mrg kvs more)))
theorem s_dupd {K : PySem.W.Frag} : SM K rDUpd bDUpd := by
  intro F H m r v d vs ds Q Qc hn hr hrs h k
  obtain ⟨a, b, kvs, more, rfl, rfl, ne, ea, eb, hl, q⟩ := h
  cases hr
  obtain ⟨u, rfl, ru⟩ := repL1 hrs
  cases ru
  obtain ⟨ws, h1, h2⟩ := s_mu hn ea
  obtain ⟨us, h3, h4⟩ := s_mu hn eb
  exact ⟨a, b, ws, us, rfl, rfl, ne, h1, .inl h3, by rw [h2.length, h4.length]; exact hl, k F _ _ _ _ (Same.refl F) (Sn.upD hn ea h1 (fun _ _ z => nomatch z) (RepK.mrg h4 h2)) .non q⟩
section
variable {e : De} {m : Mu} {N B C : De → Mu → Prop} {R : QD} {E : Ex → De → Mu → Prop} {to : AE} {tr : AA}
theorem k_dclr {p : Addr} {kvs : List (Key × D)} (ho : Ev to e m (.cell p)) (hm : m p = some (.dic false kvs)) (k : N e (mset m p (.dic false []))) : aDrop (aDM0 bDClr to) ⟨N, R, B, C, E⟩ e m :=
  ho _ _ ⟨⟨p, kvs, rfl, hm⟩, p, kvs, rfl, rfl, hm, k⟩
theorem k_dupd {p b : Addr} {kvs more : List (Key × D)} (ho : Ev to e m (.cell p)) (hr : EvA tr e m [.cell b]) (ne : p ≠ b) (hm : m p = some (.dic false kvs)) (hb : m b = some (.dic false more)) (hl : kvs.length + more.length ≤ sizeLine)
    (k : N e (mset m p (.dic false (mrg kvs more)))) : aDrop (aDM bDUpd to tr) ⟨N, R, B, C, E⟩ e m :=
  ho _ _ ⟨⟨p, kvs, rfl, hm⟩, hr _ _ ⟨p, b, kvs, more, rfl, rfl, ne, hm, hb, hl, k⟩⟩
end
/-! ### d != d2, two cells of the same things -/
theorem neDA_flat {K : PySem.W.Frag} {F : Hp} : ∀ {xs ys : List (Key × V)} {es : List (Key × D)}, RepK K F xs es → RepK K F ys es → (es.map (·.1)).Nodup → (∀ p, p ∈ es → flatD p.2 = true) → ∀ p ∈ xs, valV ys p.1 = some p.2 ∧ flatB p.2 = true := fun {xs ys es} r1 r2 nd hf p hp => by
  obtain ⟨u, e, d, hs, h1, h2⟩ := tw_dict (n := 0) r1 r2 nd (fun p hp => .flat (hf p hp)) p hp
  cases hs with
  | flat f =>
    have q : p.2 = u ∧ flatB p.2 = true := by
      cases d <;> first | (cases f; done) | skip
      all_goals (generalize hg : p.2 = z at h1 ⊢; cases h1; cases h2; exact ⟨rfl, rfl⟩)
    exact ⟨q.1 ▸ e, q.2⟩
def bNeDA : B2 := fun d e m Q => (∃ a b kvs, d = .cell a ∧ e = .cell b ∧ m a = some (.dic false kvs) ∧ m b = some (.dic false kvs) ∧ (kvs.map (·.1)).Nodup ∧ (∀ p, p ∈ kvs → flatD p.2 = true) ∧ Q (.bl false) m) ∨ bNeT d e m Q
theorem c_neDA {X : Cx} (hu : X.A.units + 64 < cLine) : Cm X .NotEq bNeDA := cm_or ⟨_, op_ne_dictA (by omega), fun F H m r v u d e Q Qc hn h1 h2 h k => by
  obtain ⟨a, b, kvs, rfl, rfl, ea, eb, nd, hf, q⟩ := h
  cases h1; cases h2
  obtain ⟨ws, k1, k2⟩ := s_mu hn ea
  obtain ⟨us, k3, k4⟩ := s_mu hn eb
  exact ⟨a, b, ws, us, rfl, rfl, k1, k3, k2.length.trans k4.length.symm, neDA_flat k2 k4 nd hf, k F H m _ _ (Same.refl F) hn (.bl _) q⟩⟩ (c_neT hu)
theorem o_neDA {a b : Addr} {m : Mu} {kvs : List (Key × D)} (ea : m a = some (.dic false kvs)) (eb : m b = some (.dic false kvs)) (nd : (kvs.map (·.1)).Nodup) (hf : ∀ p, p ∈ kvs → flatD p.2 = true) : Op2 bNeDA (.cell a) (.cell b) m (.bl false) :=
  fun _ q => .inl ⟨a, b, kvs, rfl, rfl, ea, eb, nd, hf, q⟩
theorem o_neDAb {x y d : D} {m : Mu} (h : Op2 bNeT x y m d) : Op2 bNeDA x y m d := fun Q q => .inr (h Q q)
/-! ### a, b = a list -/
def agLst (n : Nat) (t : AGs) : AG := fun d A e m P => ∃ xs, d = .lst xs ∧ xs.length = n ∧ t xs A e m P
theorem qg_lst {X : Cx} {pos : Pos} {es : List Expr} {k : Nat} {t : AGs} {n : Nat} {is : List Nat} {g1 : WX → TGs} (hc : X.calm = true) (h : QGs X es t is g1) (hn : es.length = n := by rfl)
    (hp : ∀ {t' : TGs}, PGs X es t' → PG X (.Tuple es k pos) (gLst X.K n t') := by intro t' hh; exact pg_lst rfl hh) : QG X (.Tuple es k pos) (agLst n t) is (fun W => gLst X.K n (g1 W)) := fun W tk => by
  obtain ⟨p1, k1⟩ := h W tk
  refine ⟨hp p1, fun D v s H Q ⟨F, e, m, r, A, d, P, he, hn, hr, h, g, k⟩ => ?_⟩
  obtain ⟨xs, rfl, hl, h⟩ := h
  cases hr with
  | lst e1 q => exact ⟨_, _, rfl, .inl (.inl (hn.lst e1)), by rw [q.length]; exact hl, k1 D _ _ _ _ ⟨F, e, m, r, A, xs, P, he, hn, q, h, g, k⟩⟩
theorem bnd_lst {e e2 : De} {n : Nat} {gs : AGs} {ds : List D} (h : Bnds gs ds e e2) (hl : ds.length = n := by rfl) : Bnd (agLst n gs) (.lst ds) e e2 := fun A m P q => ⟨ds, rfl, hl, h A m P q⟩
end Ab
namespace PySem.W
open PySem PySem.Calls PyProof.Rows PyProof.V PySem.Spec
theorem ab_lri_len : typeLookup (.type "list_reverseiterator") "__len__" = pure none := by rw [typeLookup_type, builtinLookup_eq_fast]; kernel_rfl
theorem ab_lri_hint : typeLookup (.type "list_reverseiterator") "__length_hint__" = pure (some (.builtin "list_reverseiterator.__length_hint__")) := by rw [typeLookup_type, builtinLookup_eq_fast]; kernel_rfl
section
variable {prog : Program} {w : World} {A : Around} {E : Value → Shared → Prop} {s : Shared} {it l : Addr} {items : Array Value}
theorem ab_rev_hint {i : Int} {Q : Bool → Shared → Prop} (hit : s.heap.IsRevIter it l i) (h : Q false s) : wpAny (model prog w) A (Builtin.List.listLengthHint (.ref it)) Q E s := by
  have hT : s.TypeIs (.ref it) "list_reverseiterator" := hit.typeIs
  unfold Builtin.List.listLengthHint
  refine wpAny_bind (wpAny_specialOf hT ab_lri_len ?_)
  show wpAny _ _ (specialOf (Value.ref it) (Str.ofString "__length_hint__") >>= _) _ _ _
  refine wpAny_bind (wpAny_specialOf hT ab_lri_hint ?_)
  generalize hid : ("list_reverseiterator.__length_hint__" : String) = id0
  wp_delta
  rw [show splitId id0 = some ("list_reverseiterator", "__length_hint__") from by subst hid; decide +kernel]
  subst hid
  refine wpAny_bind (wpAny_isInstance (T := "list_reverseiterator") (b := true) hT (by rw [isSubtype_type]; kernel_rfl) ?_)
  refine wpAny_ite_split (fun hab => absurd hab (by decide)) (fun _ => ?_)
  refine wpAny_ite_split (fun _ => ?_) (fun hab => absurd (by decide +kernel) hab)
  refine wpAny_ite_split (fun hab => absurd hab (by decide +kernel)) (fun _ => ?_)
  exact wpAny_pure h
theorem ab_rev_extend {R : Result → Shared → Prop} (hh : A.handled = none) (hit : s.heap.IsRevIter it l ((items.size : Int) - 1)) (hl : s.heap.IsList l items) (hne : l ≠ it) (S : Addr) (hSr : S ≠ it) (hSd : S ≠ l) (res : Value) (c₀ : Nat) (hS : s.heap.get? S = some { cls := .type "list", data := .seq #[] c₀ })
    (hR : ∀ h' tk acc' c', (∀ b o, b ≠ S → b ≠ it → s.heap.get? b = some o → h'.get? b = some o) → h'.get? S = some { cls := .type "list", dict := none, data := .seq acc' c', slots := #[] } → ItemsOf (fun i v => items[items.size - 1 - i]? = some v) acc' items.size → R (.ok (.ret res)) { s with heap := h', toks := tk }) (hn : items.size ≤ sizeLine) :
    wpAny (model prog w) A.in1 (Builtin.List.listExtendWith (.ref S) (.ref it) res)
      (fun fin s' => match fin with | .done f => R (.ok f) s' | .again c' => c'.quiet = true ∧ codeAny (model prog w) A c' R s') (fun e s' => R (.error e) s') s := by
  have hSf : S ∉ [it, l] := by simp only [List.mem_cons, List.not_mem_nil, or_false, not_or]; exact ⟨hSr, hSd⟩
  have W := Walks.listRev (prog := prog) (w := w) (A := A.in1) hh it l hne items
  have key : ∀ (h : Heap) (c₁ tk : Nat), (0 ≤ items.size ∧ h.IsRevIter it l ((items.size : Int) - 1 - ((0 : Nat) : Int)) ∧ h.IsList l items) → (∀ b o, b ≠ S → s.heap.get? b = some o → h.get? b = some o) →
      h.get? S = some { cls := .type "list", data := .seq #[] c₁ } → codeAny (model prog w) A (.builtin "list.extend.loop" ⟨[.ref S, .ref it, res], []⟩) R { s with heap := h, toks := tk } := by
    intro h c₁ tk hst hk hS₁
    refine codeAny_extend_loopS W.toS hn S hSf res items.size 0 _ #[] c₁ rfl (Nat.zero_le _) hst hS₁ (ItemsOf.nil _) fun s' acc' c' hm hS' hacc => ?_
    rw [Moved.eq_with hm]
    refine hR s'.heap s'.toks acc' c' (fun b o hb hbi e => hm.heap b o (fun hmem => ?_) (hk b o hb e)) hS' hacc
    rcases List.mem_cons.mp hmem with e' | hmem
    · exact hb e'
    · exact hbi (List.mem_singleton.mp hmem)
  have st0 : 0 ≤ items.size ∧ s.heap.IsRevIter it l ((items.size : Int) - 1 - ((0 : Nat) : Int)) ∧ s.heap.IsList l items := ⟨Nat.zero_le _, by simpa using hit, hl⟩
  unfold Builtin.List.listExtendWith
  refine wpAny_bind (wpAny_typeOf (T := "list_reverseiterator") hit.typeIs ?_)
  have h1 : Builtin.List.listSameRef (.ref S) (.ref it) = false := by simp [Builtin.List.listSameRef, hSr]
  have n1 : (Value.type "list_reverseiterator" == Value.type "list") = false := by decide
  have n2 : (Value.type "list_reverseiterator" == Value.type "tuple") = false := by decide
  simp only [h1, n1, n2, Bool.or_false, Bool.false_eq_true, if_false]
  refine wpAny_bind (wpAny_pyIter_revIter hit ?_)
  refine wpAny_bind (wpAny_holding (ab_rev_hint hit ?_))
  refine wpAny_ite_split (fun _ => ?_) (fun _ => wpAny_pure ⟨plainId_quiet PySem.F.plain_extend_loop _, key _ c₀ _ st0 (fun b o _ e => e) hS⟩)
  refine wpAny_bind (wpAny_rule ?_)
  refine wpAny_bind ?_
  show wpAny _ _ (updateSeq S (·.push .none) >>= fun _ => updateSeq S (·.pop)) _ _ _
  refine wpAny_bind (wpAny_updateSeq hS rfl ?_)
  have hS₂ := Heap.get?_update_self (Obj.mapSeq (·.push Value.none)) hS rfl
  refine wpAny_updateSeq (hz := by seq_fits) hS₂ rfl ?_
  have hS₃ := Heap.get?_update_self (Obj.mapSeq (·.pop)) hS₂ rfl
  refine wpAny_pure ⟨plainId_quiet PySem.F.plain_extend_loop _, key _ _ _ ?_ (fun b o hb e => ?_) hS₃⟩
  · refine W.frame 0 _ _ st0 fun b hb o e => ?_
    have hbS : b ≠ S := fun h => hSf (h ▸ hb)
    exact (Heap.get?_update_other _ _ (Ne.symm hbS)).trans ((Heap.get?_update_other _ _ (Ne.symm hbS)).trans e)
  · exact (Heap.get?_update_other _ _ (Ne.symm hb)).trans ((Heap.get?_update_other _ _ (Ne.symm hb)).trans e)
theorem ab_rev_init {R : Result → Shared → Prop} (hh : A.handled = none) (hit : s.heap.IsRevIter it l ((items.size : Int) - 1)) (hl : s.heap.IsList l items) (hne : l ≠ it) (S : Addr) (hSr : S ≠ it) (hSd : S ≠ l) (hS : s.heap.get? S = some { cls := .type "list", data := .seq #[] })
    (hR : ∀ h' tk acc' c', (∀ b o, b ≠ S → b ≠ it → s.heap.get? b = some o → h'.get? b = some o) → h'.get? S = some { cls := .type "list", dict := none, data := .seq acc' c', slots := #[] } → ItemsOf (fun i v => items[items.size - 1 - i]? = some v) acc' items.size → R (.ok (.ret .none)) { s with heap := h', toks := tk }) (hn : items.size ≤ sizeLine) :
    wpAny (model prog w) A.in1 (Builtin.«list.__init__» ⟨[.ref S, .ref it], []⟩)
      (fun fin s' => match fin with | .done f => R (.ok f) s' | .again c' => c'.quiet = true ∧ codeAny (model prog w) A c' R s') (fun e s' => R (.error e) s') s := by
  show wpAny _ _ (do let old ← Builtin.List.listItems (.ref S); Builtin.List.listUpdate (.ref S) (fun _ => #[]); letGo old.toList.reverse; Builtin.List.listExtendWith (.ref S) (.ref it) .none) _ _ s
  refine wpAny_bind ?_
  unfold Builtin.List.listItems
  refine wpAny_bind (wpAny_seqItems hS rfl (wpAny_pure ?_))
  show wpAny _ _ (updateSeq S (fun _ => #[]) >>= fun _ => letGo (#[] : Array Value).toList.reverse >>= fun _ => Builtin.List.listExtendWith (.ref S) (.ref it) .none) _ _ s
  refine wpAny_bind (wpAny_updateSeq hS rfl ?_)
  have hS₂ := Heap.get?_update_self (Obj.mapSeq (fun _ => (#[] : Array Value))) hS rfl
  have oth : ∀ b o, b ≠ S → s.heap.get? b = some o → (s.heap.update S (Obj.mapSeq (fun _ => (#[] : Array Value)))).get? b = some o :=
    fun b o hb e => (Heap.get?_update_other _ _ (Ne.symm hb)).trans e
  refine wpAny_bind (wpAny_letGo ?_)
  refine ab_rev_extend hh (hit.at fun o e => oth it o hSr.symm e) (hl.at fun o e => oth l o hSd.symm e) hne S hSr hSd .none _ hS₂ (fun h' tk acc' c' hk hS' hacc => ?_) hn
  exact hR h' tk acc' c' (fun b o hb hbi e => hk b o hb hbi (oth b o hb e)) hS' hacc
theorem ab_rev_call {Q : Value → Shared → Prop} (hh : A.handled = none) (hit : s.heap.IsRevIter it l ((items.size : Int) - 1)) (hl : s.heap.IsList l items) (hne : l ≠ it) (hn : items.size ≤ sizeLine)
    (hQ : ∀ h' tk acc' c', (∀ b o, b ≠ it → s.heap.get? b = some o → h'.get? b = some o) → h'.get? s.heap.objs.size = some { cls := .type "list", dict := none, data := .seq acc' c', slots := #[] } → ItemsOf (fun i v => items[items.size - 1 - i]? = some v) acc' items.size → Q (.ref s.heap.objs.size) { s with heap := h', toks := tk }) :
    wpAny (model prog w) A (call (.type "list") [.ref it]) Q E s := by
  refine callType_codes (Q₁ := fun obj s₁ => obj = .ref s.heap.objs.size ∧ s₁ = { s with heap := s.heap.push { cls := .type "list", data := .seq #[] } }) PySem.F.called_list (PySem.F.typeCall_list_1 _) PySem.F.entry_list_init
    (code_list_new _ ⟨rfl, rfl⟩) fun obj s₁ h₁ => ?_
  obtain ⟨rfl, rfl⟩ := h₁
  have hS : (s.heap.push { cls := .type "list", data := .seq #[] }).get? s.heap.objs.size = some { cls := .type "list", data := .seq #[] } := Heap.get?_push_size _ rfl
  have li : it < s.heap.objs.size := by obtain ⟨_, x, _⟩ := hit; exact Heap.lt_size x
  have ll : l < s.heap.objs.size := by obtain ⟨_, x, _⟩ := hl; exact Heap.lt_size x
  refine ⟨⟨_, hS, rfl⟩, PySem.F.args_list_init_2 _ _, ab_rev_init (A := A.in1) hh (hit.at fun o e => Heap.get?_push_of_some _ e) (hl.at fun o e => Heap.get?_push_of_some _ e) hne _ (Nat.ne_of_gt li) (Nat.ne_of_gt ll) hS (fun h' tk acc' c' hk hS' hacc => ?_) hn⟩
  exact ⟨rfl, hQ h' tk acc' c' (fun b o hbi e => hk b o (Nat.ne_of_lt (Heap.lt_size e)) hbi (Heap.get?_push_of_some _ e)) hS' hacc⟩
end
end PySem.W
namespace L2
open PySem PySem.Spec PyProof.Rows
def tListRev (K : PySem.W.Frag) (te : TE) : TE := fun σ H Q => te σ H fun v H1 => ∃ (a : Addr) (xs : List V), v = .ref a ∧ SqL K H1 a xs ∧ ∀ q, H1 q = none → Q (.ref q) (upd H1 q (.lst xs.reverse))
theorem pe_listRev {X : Cx} {e : Expr} {te : TE} {p p2 pos pos2 : Pos} (hc : X.calm = true) (hg : Gl X "list") (hm : X.mg "list" = none) (hg2 : Gl X "reversed") (hm2 : X.mg "reversed" = none) (he : PE X e te)
    (hs : starEach [e] X.env = (false, eval e X.env) :: starEach [] X.env := by rfl)
    (hs2 : starEach [.Call (.Name "reversed" p2) [e] [] pos2] X.env = (false, eval (.Call (.Name "reversed" p2) [e] [] pos2) X.env) :: starEach [] X.env := by rfl) :
    PE X (.Call (.Name "list" p) [.Call (.Name "reversed" p2) [e] [] pos2] [] pos) (tListRev X.K te) := by
  refine ⟨fun pins s σ H Q I h => ?_⟩
  refine Call_ (ld_blt I hg hm boot_list (PyProof.Rows.callWith_type1 (args_cons (Call_ (ld_blt I hg2 hm2 PyProof.Rows.boot_reversed (PyProof.Rows.callWith_type1 (args_cons (thn (he.run pins s σ H _ I h) fun u s1 ⟨v, H1, I1, r1, q1⟩ => args_nil ?_) hs) hs rfl))) hs2) hs2 rfl))
  obtain ⟨a, xs, ev, hq, q⟩ := q1
  subst ev
  obtain rfl : u = Value.ref a := r1
  obtain ⟨its, rv, p', hz⟩ := I1.list hq
  refine call_reversed_list p'.isList (args_nil ?_)
  have hl := p'.isList
  obtain ⟨ol, hol, _⟩ := id hl
  have hne : a ≠ s1.heap.objs.size := Nat.ne_of_lt (Heap.lt_size hol)
  have hn : its.toArray.size ≤ sizeLine := by rw [List.size_toArray, ← rv.length]; exact hz
  have hsz : s1.heap.objs.size ≤ (s1.heap.push (revObj a ((its.toArray.size : Int) - 1))).objs.size := Nat.le_of_lt (Heap.lt_size (Heap.get?_push_size _ rfl))
  refine PySem.W.ab_rev_call (s := { s1 with heap := s1.heap.push (revObj a ((its.toArray.size : Int) - 1)) }) (I1.ok.hd hc) ⟨_, Heap.get?_push_size _ rfl, rfl, rfl⟩ (hl.push _) hne hn fun h' tk acc c' hk hS hi => ?_
  refine ⟨.ref _, upd H1 _ (.lst xs.reverse), I1.laid (t' := tk) (fun c o e => hk c o (Nat.ne_of_lt (Heap.lt_size e)) (Heap.get?_push_of_some _ e)) hsz (show ObjOk X.prog X.w _ _ _ (.lst xs.reverse) from ⟨by rw [List.length_reverse]; exact hz, acc.toList, c', RT.vals_rev rv hi, ?_⟩), rfl, q _ (I1.hok.fresh hsz)⟩
  rw [Array.toArray_toList]
  exact hS
end L2
namespace Ab
open PySem PySem.Spec PyProof.Rows L2
def aLRev (mt : Bool) (ta : AE) : AE := fun e m Q X => ta e m (fun d m1 => ∃ xs, asLL m1 d = some xs ∧ newL mt xs.reverse m1 Q) X
theorem q_lrev (mt : Bool) {X : Cx} {e : Expr} {ta : AE} {p p2 pos pos2 : Pos} (hc : X.calm = true) (hm : X.mg "list" = none) (hm2 : X.mg "reversed" = none) (ha : QE X e ta) (hg : Gl X "list" := by rfl) (hg2 : Gl X "reversed" := by rfl)
    (hs : starEach [e] X.env = (false, eval e X.env) :: starEach [] X.env := by rfl)
    (hs2 : starEach [.Call (.Name "reversed" p2) [e] [] pos2] X.env = (false, eval (.Call (.Name "reversed" p2) [e] [] pos2) X.env) :: starEach [] X.env := by rfl) :
    QE X (.Call (.Name "list" p) [.Call (.Name "reversed" p2) [e] [] pos2] [] pos) (aLRev mt ta) := fun W tk => (pe_listRev hc hg hm hg2 hm2 (ha W tk) hs hs2).imp fun s H Qc h => by
  obtain ⟨F, en, m, r, Q, X, he, hn, h, g, gx⟩ := h
  refine ⟨F, en, m, r, _, X, he, hn, h, fun F1 H1 m1 v d s1 n1 r1 q1 => ?_, gx⟩
  obtain ⟨xs, hx, q1⟩ := q1
  obtain ⟨a, vs, rfl, hq, rl⟩ := asLL_ok n1 r1 hx
  exact ⟨a, vs, rfl, hq, fun q hq0 => newL_ok n1 rl.reverse q1 (g.mono s1) q hq0⟩
theorem ev_lrev {e : De} {m : Mu} {ta : AE} {d : D} {xs : List D} (h : Ev ta e m d) (hx : asLL m d = some xs) : Ev (aLRev false ta) e m (.lst xs.reverse) := fun _ _ q => h _ _ ⟨xs, hx, q⟩
end Ab
namespace Ab
open PySem PySem.Spec PyProof.Rows L2
/-! ### sorted(texts): a list of texts, or a dict by texts -/
section
variable {X : Cx} {a : Expr} {es : List Expr} {pos : Pos} {tr : AA}
def bSortS (mt : Bool) : BA := fun ds m Q => ∃ (d : D) (ks : List Str), ds = [d] ∧ (asLL m d = some (ks.map D.str) ∨ ∃ kvs : List (Key × D), asK m d = some kvs ∧ kvs.map (·.1) = ks.map Sum.inr) ∧ ks.length < 64 ∧ ∀ ys : List Str, ys.Perm ks → sortedS ys = true → newL mt (ys.map D.str) m Q
def rSortSD : List V → Hp → VK → Prop := fun xs H Q => ∃ (a : Addr) (kvs : List (Key × V)) (ks : List Str), xs = [.ref a] ∧ Rd H a (.dK kvs) ∧ kvs.map (·.1) = ks.map Sum.inr ∧ ks.length < 64 ∧
    ∀ ys p, ys.Perm ks → sortedS ys = true → H p = none → Q (.ref p) (upd H p (.lst (ys.map V.str)))
theorem s_sortS {K : PySem.W.Frag} (mt : Bool) : SA K (fun xs H Q => rSortedS K xs H Q ∨ rSortSD xs H Q) (bSortS mt) := by
  intro F H m r vs ds Q Qc hn hr h k
  obtain ⟨d, ks, rfl, hx, hl, q⟩ := h
  obtain ⟨v, rfl, rv⟩ := repL1 hr
  rcases hx with hx | ⟨kvs, hx, hk⟩
  · obtain ⟨p, us, rfl, e2, r2⟩ := asLL_ok hn rv hx
    rw [repl_strs r2] at e2
    exact .inl ⟨p, ks, rfl, e2, hl, fun ys p' h1 h2 hp => newL_ok hn (repl_strs2 ys) (q ys h1 h2) k p' hp⟩
  · obtain ⟨p, us, rfl, e2, r2⟩ := asK_ok hn rv hx
    exact .inr ⟨p, us, ks, rfl, e2, (repK_keys r2).trans hk, hl, fun ys p' h1 h2 hp => newL_ok hn (repl_strs2 ys) (q ys h1 h2) k p' hp⟩
theorem q_sortS (mt : Bool) {p : Pos} (hc : X.calm = true) (hm : X.mg "sorted" = none) (ha : QA X (a :: es) tr) (hg : Gl X "sorted" := by rfl)
    (he : starEach (a :: es) X.env = (false, eval a X.env) :: starEach es X.env := by rfl) (hpl : (backTo pos (starEach es X.env)).any (·.1) = false := by rfl) : QE X (.Call (.Name "sorted" p) (a :: es) [] pos) (aCB (bSortS mt) tr) :=
  q_callB (cr_sortedS.or (call_sortedD hc)) (s_sortS mt) hm (by decide +kernel) ha hg (by decide) (by decide) he hpl
theorem le_cps {x y : Str} : ltCps y.cps.toList x.cps.toList = false ↔ ¬ y.cps.toList < x.cps.toList := by
  rw [ltCps_eq]; exact decide_eq_false_iff_not
theorem rising_pw : ∀ (l : List Str) (p : Str), risingS p l = true → (p :: l).Pairwise fun a b => ¬ b.cps.toList < a.cps.toList
  | [], p, _ => List.pairwise_singleton _ _
  | x :: r, p, h => by
    have h : (!ltCps x.cps.toList p.cps.toList && risingS x r) = true := h
    rw [Bool.and_eq_true] at h
    have h1 : ¬ x.cps.toList < p.cps.toList := le_cps.mp (by simpa using h.1)
    have ih := rising_pw r x h.2
    refine List.pairwise_cons.mpr ⟨fun y hy => ?_, ih⟩
    rcases List.mem_cons.mp hy with rfl | hy
    · exact h1
    · have h2 := (List.pairwise_cons.mp ih).1 y hy
      exact List.not_lt.mpr (List.le_trans (List.not_lt.mp h1) (List.not_lt.mp h2))
theorem sorted_pw {l : List Str} (h : sortedS l = true) : l.Pairwise fun a b => ¬ b.cps.toList < a.cps.toList := by
  cases l with
  | nil => exact .nil
  | cons x r => exact rising_pw r x h
theorem cps_inj {x y : Str} (h : x.cps.toList = y.cps.toList) : x = y := by
  cases x; cases y
  congr 1
  exact Array.toList_inj.mp h
theorem sorted_uni {xs ys : List Str} (h : xs.Perm ys) (h1 : sortedS xs = true) (h2 : sortedS ys = true) : xs = ys :=
  h.eq_of_pairwise (fun a b _ _ p q => cps_inj (List.le_antisymm (List.not_lt.mp p) (List.not_lt.mp q))) (sorted_pw h1) (sorted_pw h2)
end
/-! ### in, a row among rows -/
theorem any_pys {d : D} : ∀ ys : List D, ((pys ys).any fun z => PyData.eqv z (py d)) = ys.any fun y => eqD y d
  | [] => by unfold pys; rfl
  | y :: ys => by unfold pys; rw [List.any_cons, List.any_cons, any_pys ys]; rfl
def bInR (neg : Bool) : B2 := fun d e m Q => (∃ ys, asX m e = some ys ∧ DOk d ∧ DOk (.lst ys) ∧ Q (.bl (if neg then !(ys.any fun y => eqD y d) else ys.any fun y => eqD y d)) m) ∨ bIn neg d e m Q
theorem dp_rows {K : PySem.W.Frag} {F H : Hp} {m : Mu} {r : Hp} {v : V} {e : D} {ys : List D} (hn : Sn K F H m r) (hx : asX m e = some ys) (h : DOk (.lst ys)) (hr : Rep K F v e) : Dp K H v (.list (pys ys)) := by
  obtain ⟨n, hl, o⟩ := h
  have key : vw m e = .lst ys → Dp K H v (.list (pys ys)) := fun w => by
    have := OkD.dpv (n := n) hn (d := e) (by rw [w]; exact o) hr
    rw [w] at this
    unfold py at this
    exact this
  cases e with
  | lst zs => cases hx; exact key rfl
  | cell a => exact key (by
      have hx : oL (m a) = some ys := hx
      have e2 : vw m (.cell a) = (match oL (m a) with | some xs => .lst xs | none => .cell a) := rfl
      rw [e2, hx])
  | _ => cases hx
theorem s_inR {K : PySem.W.Frag} : S2 K (rInD K) (fun d e m Q => ∃ ys, asX m e = some ys ∧ DOk d ∧ DOk (.lst ys) ∧ Q (.bl (ys.any fun y => eqD y d)) m) := by
  intro F H m r v u d e Q Qc hn h1 h2 h k
  obtain ⟨ys, hx, ⟨n1, l1, o1⟩, ⟨n2, l2, o2⟩, q⟩ := h
  have s2 := o2.shaped l2
  unfold py at s2
  refine ⟨py d, pys ys, o1.dp hn v h1, dp_rows hn hx ⟨n2, l2, o2⟩ h2, o1.shaped l1, s2, ?_⟩
  rw [any_pys]
  exact k F H m _ _ (Same.refl F) hn (.bl _) q
theorem s_notInR {K : PySem.W.Frag} : S2 K (rNotInD K) (fun d e m Q => ∃ ys, asX m e = some ys ∧ DOk d ∧ DOk (.lst ys) ∧ Q (.bl (!ys.any fun y => eqD y d)) m) := by
  intro F H m r v u d e Q Qc hn h1 h2 h k
  obtain ⟨ys, hx, ⟨n1, l1, o1⟩, ⟨n2, l2, o2⟩, q⟩ := h
  have s2 := o2.shaped l2
  unfold py at s2
  refine ⟨py d, pys ys, o1.dp hn v h1, dp_rows hn hx ⟨n2, l2, o2⟩ h2, o1.shaped l1, s2, ?_⟩
  rw [any_pys]
  exact k F H m _ _ (Same.refl F) hn (.bl _) q
theorem c_inR {X : Cx} (hu : X.A.units + 65 < cLine) (h0 : X.A.units + 1 < cLine) : Cm X .In (bInR false) := cm_or ⟨_, op_inD hu, s_inR⟩ (c_in h0)
theorem c_notinR {X : Cx} (hu : X.A.units + 65 < cLine) (h0 : X.A.units + 1 < cLine) : Cm X .NotIn (bInR true) := cm_or ⟨_, op_notInD hu, s_notInR⟩ (c_notin h0)
theorem hu65 {k : Nat} {A : Around} (r : Room k A) : A.units + 65 < cLine := by have := r.un; omega
theorem o_inR {d e : D} {m : Mu} {ys : List D} (hx : asX m e = some ys) (h1 : DOk d) (h2 : DOk (.lst ys)) : Op2 (bInR false) d e m (.bl (ys.any fun y => eqD y d)) := fun Q q => .inl ⟨ys, hx, h1, h2, q⟩
theorem o_notinR {d e : D} {m : Mu} {ys : List D} (hx : asX m e = some ys) (h1 : DOk d) (h2 : DOk (.lst ys)) : Op2 (bInR true) d e m (.bl (!ys.any fun y => eqD y d)) := fun Q q => .inl ⟨ys, hx, h1, h2, q⟩
/-! ### one of two readings; a tuple whose cell is frozen -/
def aOrE (t u : AE) : AE := fun e m Q X => t e m Q X ∨ u e m Q X
theorem q_orE {X : Cx} {a : Expr} {ta tb : AE} (h : QE X a ta) (k : QE X a tb) : QE X a (aOrE ta tb) := fun W tk => ⟨fun pins s σ H Q I q => by
  obtain ⟨F, e, m, r, Q1, X1, he, hn, q, g, gx⟩ := q
  rcases q with q | q
  · exact (h W tk).run pins s σ H Q I ⟨F, e, m, r, Q1, X1, he, hn, q, g, gx⟩
  · exact (k W tk).run pins s σ H Q I ⟨F, e, m, r, Q1, X1, he, hn, q, g, gx⟩⟩
def aFzT (t : AE) : AE := fun e m Q X => t e m (fun d m1 => ∃ s a, d = .tup [.str s, .cell a] ∧ fzM (m1 a) a m1 (fun d' m2 => Q (.tup [.str s, d']) m2)) X
theorem q_fzT {X : Cx} {a : Expr} {ta : AE} (h : QE X a ta) : QE X a (aFzT ta) := fun W tk => (h W tk).imp fun s H Qc h => by
  obtain ⟨F, e, m, r, Q, X, he, hn, h, g, gx⟩ := h
  refine ⟨F, e, m, r, _, X, he, hn, h, fun F1 H1 m1 v d s1 n1 r1 q1 => ?_, gx⟩
  obtain ⟨z, p, rfl, q⟩ := q1
  cases r1 with
  | tup et rl =>
    cases rl with
    | cons ra rl =>
      cases rl with
      | cons rb rl =>
        cases rl
        cases ra
        cases rb
        unfold fzM at q
        split at q
        · rename_i xs ep
          obtain ⟨F2, k2, n2, r2⟩ := n1.frzL ep
          exact g F2 H1 _ _ _ (s1.trans k2) n2 (.tup (sqT_mono k2 et) (.cons (.str z) (.cons r2 .nil))) q
        · rename_i xs ep
          obtain ⟨F2, k2, n2, r2⟩ := n1.frzD ep
          exact g F2 H1 _ _ _ (s1.trans k2) n2 (.tup (sqT_mono k2 et) (.cons (.str z) (.cons r2 .nil))) q
        · rename_i xs ep
          obtain ⟨F2, k2, n2, r2⟩ := n1.frzI ep
          exact g F2 H1 _ _ _ (s1.trans k2) n2 (.tup (sqT_mono k2 et) (.cons (.str z) (.cons r2 .nil))) q
        · exact q.elim
section
variable {e : De} {m : Mu} {Q : QD} {X : XA} {ta : AE}
theorem x_fzT (h : ta e m (fun d m1 => ∃ s a, d = .tup [.str s, .cell a] ∧ fzM (m1 a) a m1 (fun d' m2 => Q (.tup [.str s, d']) m2)) X) : aFzT ta e m Q X := h
end
/-! ### a comprehension over things that stand for data -/
theorem ev_lcG {α : Type} {ai : AI} {ag : AG} {at_ : AT} {ae : AE} {vs : List Nat} {G : Mu → Prop} {e : De} {m : Mu} (xs : List α) (g : α → D) (P : α → Bool) (F : α → D) (h : ∀ Q X, Q (xs.map g) G m → ai e m Q X) (hG : G m) (hl : xs.length < sizeLine)
    (hs : ∀ x, x ∈ xs → ∃ e2, Bnd ag (g x) (wipeA e vs) e2 ∧ EvT at_ e2 m (P x) ∧ (P x = true → Ev ae e2 m (F x))) : Ev (aLc false ai ag at_ ae vs) e m (.lst ((xs.filter P).map F)) := fun Q X q => h _ _
  ⟨fun i acc m' => m' = m ∧ acc = ((xs.take i).filter P).map F ∧ i ≤ xs.length, ⟨rfl, rfl, Nat.zero_le _⟩, fun i acc m' z => z.1 ▸ hG, fun i d acc m' hd ⟨e1, e2, e3⟩ => by
    subst e1 e2
    rw [List.getElem?_map] at hd
    cases hx : xs[i]? with
    | none => rw [hx] at hd; cases hd
    | some x =>
      rw [hx] at hd
      cases hd
      have hi : i < xs.length := (List.getElem?_eq_some_iff.mp hx).1
      obtain ⟨e2, h1, h2, h3⟩ := hs x (List.mem_of_getElem? hx)
      have et : xs.take (i + 1) = xs.take i ++ [x] := by rw [List.take_add_one, hx]; rfl
      refine h1 _ _ _ (h2 _ _ ?_)
      cases hp : P x with
      | true =>
        refine h3 hp _ _ ⟨?_, rfl, ?_, hi⟩
        · rw [List.length_map]
          exact Nat.lt_of_le_of_lt (Nat.le_trans (List.length_filter_le _ _) (by rw [List.length_take]; omega)) hl
        · rw [et, List.filter_append, List.map_append, List.filter_cons, hp]; rfl
      | false =>
        refine ⟨rfl, ?_, hi⟩
        rw [et, List.filter_append, List.map_append, List.filter_cons, hp]
        simp, fun acc m' ⟨e1, e2, _⟩ => by
    subst e1 e2
    rw [List.length_map, List.take_length]; exact q⟩
/-! ### dicts -/
theorem lkp_cons {α : Type} (p : Key × α) (r : List (Key × α)) (k : Key) : lkp (p :: r) k = if p.1 = k then some p.2 else lkp r k := by
  unfold lkp
  rw [List.find?_cons]
  by_cases h : p.1 = k
  · rw [if_pos h, decide_eq_true h]; rfl
  · rw [if_neg h, decide_eq_false h]
theorem lkp_put {α : Type} (kvs : List (Key × α)) (k k' : Key) (v : α) : lkp (put kvs k v) k' = if k' = k then some v else lkp kvs k' := by
  by_cases h : (kvs.any fun kv => decide (kv.1 = k)) = true
  · unfold put
    rw [if_pos h]
    induction kvs with
    | nil => cases h
    | cons p r ih =>
      rw [List.map_cons, lkp_cons, lkp_cons]
      have e : (if p.1 = k then (p.1, v) else p).1 = p.1 := by by_cases q : p.1 = k; rw [if_pos q]; rw [if_neg q]
      rw [e]
      by_cases q : p.1 = k'
      · rw [if_pos q, if_pos q]
        by_cases z : k' = k
        · rw [if_pos z, if_pos (q.trans z)]
        · rw [if_neg z, if_neg fun y => z (q.symm.trans y)]
      · rw [if_neg q, if_neg q]
        by_cases hr : (r.any fun kv => decide (kv.1 = k)) = true
        · exact ih hr
        · have hr' := Bool.not_eq_true _ ▸ hr
          rw [List.any_cons, hr', Bool.or_false] at h
          have pk := of_decide_eq_true h
          have z : k' ≠ k := fun z => q (pk.trans z.symm)
          rw [if_neg z]
          congr 1
          have : ∀ x ∈ r, (if x.1 = k then (x.1, v) else x) = x := fun x hx => if_neg fun y => by
            have := List.any_eq_false.mp hr' x hx
            exact this (decide_eq_true y)
          rw [List.map_congr_left this, List.map_id']
  · unfold put
    rw [if_neg h]
    have h' : ∀ x ∈ kvs, ¬ x.1 = k := fun x hx y => h (List.any_eq_true.mpr ⟨x, hx, decide_eq_true y⟩)
    clear h
    induction kvs with
    | nil => rw [List.nil_append, lkp_cons]; by_cases z : k' = k; rw [if_pos z, if_pos z.symm]; rw [if_neg z, if_neg fun y => z y.symm]
    | cons p r ih =>
      rw [List.cons_append, lkp_cons, lkp_cons, ih fun x hx => h' x (List.mem_cons_of_mem _ hx)]
      by_cases q : p.1 = k'
      · rw [if_pos q, if_pos q]
        have z : k' ≠ k := fun z => h' p (List.mem_cons_self ..) (q.trans z)
        rw [if_neg z]
      · rw [if_neg q, if_neg q]
theorem put_le {α : Type} (kvs : List (Key × α)) (k : Key) (v : α) : (put kvs k v).length ≤ kvs.length + 1 := by
  unfold put
  split
  · rw [List.length_map]; omega
  · rw [List.length_append]; exact Nat.le_refl _
/-! ### cells that stay -/
def Ext (m m' : Mu) : Prop := ∀ a x, m a = some x → m' a = some x
theorem Ext.refl (m : Mu) : Ext m m := fun _ _ h => h
theorem Ext.trans {m m1 m2 : Mu} (h : Ext m m1) (k : Ext m1 m2) : Ext m m2 := fun a x q => k a x (h a x q)
theorem Ext.set {m m1 : Mu} {p : Addr} {o : MO} (h : Ext m m1) (hp : m p = none) : Ext m (mset m1 p o) := fun a x q => by
  have ne : a ≠ p := fun z => by rw [z, hp] at q; cases q
  rw [mset_ne ne]; exact h a x q
theorem Ext.new {m m1 : Mu} {p : Addr} {o : MO} (h : Ext m m1) (hp : m1 p = none) : Ext m (mset m1 p o) := h.set (by
  cases e : m p with
  | none => rfl
  | some x => rw [h p x e] at hp; cases hp)
theorem Ext.none {m m1 : Mu} {p : Addr} (h : Ext m m1) (hp : m1 p = none) : m p = none := by
  cases e : m p with
  | none => rfl
  | some x => rw [h p x e] at hp; cases hp
theorem Ext.ne {m m1 : Mu} {p q : Addr} {x : MO} (h : Ext m m1) (hp : m1 p = Option.none) (hq : m q = some x) : p ≠ q := fun z => by rw [z, h q x hq] at hp; cases hp
theorem Ext.del {m m1 : Mu} {p : Addr} (h : Ext m m1) (hp : m p = Option.none) : Ext m (mdel m1 p) := fun a x q => by
  have ne : a ≠ p := fun z => by rw [z, hp] at q; cases q
  unfold mdel
  rw [if_neg ne]; exact h a x q
theorem mdel_ne {m : Mu} {a b : Addr} (h : b ≠ a) : mdel m a b = m b := if_neg h
end Ab
namespace Ab
open PySem PySem.Spec PyProof.Rows L2
/-! ### max, min, all of a list; index -/
section
variable {X : Cx} {a : Expr} {es : List Expr} {pos : Pos} {tr : AA}
def bMaxL : BA := fun ds m Q => ∃ (d : D) (ns : List Int), ds = [d] ∧ asLL m d = some (ns.map D.int) ∧ 0 < ns.length ∧ ∀ k, k ∈ ns → (∀ y, y ∈ ns → y ≤ k) → Q (.int k) m
def bMinL : BA := fun ds m Q => ∃ (d : D) (ns : List Int), ds = [d] ∧ asLL m d = some (ns.map D.int) ∧ 0 < ns.length ∧ ∀ k, k ∈ ns → (∀ y, y ∈ ns → k ≤ y) → Q (.int k) m
theorem s_maxL {K : PySem.W.Frag} : SA K (rMax K) bMaxL := by
  intro F H m r vs ds Q Qc hn hr h k
  obtain ⟨d, ns, rfl, hx, hl, q⟩ := h
  obtain ⟨v, rfl, rv⟩ := repL1 hr
  obtain ⟨p, us, rfl, e2, r2⟩ := asLL_ok hn rv hx
  rw [repL_ints r2] at e2
  exact ⟨p, ns, rfl, e2, hl, fun j h1 h2 => k F H m _ _ (Same.refl F) hn (.int _) (q j h1 h2)⟩
theorem s_minL {K : PySem.W.Frag} : SA K (rMin K) bMinL := by
  intro F H m r vs ds Q Qc hn hr h k
  obtain ⟨d, ns, rfl, hx, hl, q⟩ := h
  obtain ⟨v, rfl, rv⟩ := repL1 hr
  obtain ⟨p, us, rfl, e2, r2⟩ := asLL_ok hn rv hx
  rw [repL_ints r2] at e2
  exact ⟨p, ns, rfl, e2, hl, fun j h1 h2 => k F H m _ _ (Same.refl F) hn (.int _) (q j h1 h2)⟩
theorem q_maxL {p : Pos} (hc : X.calm = true) (hm : X.mg "max" = none) (ha : QA X (a :: es) tr) (hg : Gl X "max" := by rfl)
    (he : starEach (a :: es) X.env = (false, eval a X.env) :: starEach es X.env := by rfl) (hpl : (backTo pos (starEach es X.env)).any (·.1) = false := by rfl) : QE X (.Call (.Name "max" p) (a :: es) [] pos) (aCB bMaxL tr) :=
  q_callB (cr_max hc) s_maxL hm (by decide +kernel) ha hg (by decide) (by decide) he hpl
theorem q_minL {p : Pos} (hc : X.calm = true) (hm : X.mg "min" = none) (ha : QA X (a :: es) tr) (hg : Gl X "min" := by rfl)
    (he : starEach (a :: es) X.env = (false, eval a X.env) :: starEach es X.env := by rfl) (hpl : (backTo pos (starEach es X.env)).any (·.1) = false := by rfl) : QE X (.Call (.Name "min" p) (a :: es) [] pos) (aCB bMinL tr) :=
  q_callB (cr_min hc) s_minL hm (by decide +kernel) ha hg (by decide) (by decide) he hpl
theorem repL_bls {K : PySem.W.Frag} {F : Hp} : ∀ {bs : List Bool} {vs : List V}, RepL K F vs (bs.map D.bl) → vs = bs.map V.bl
  | [], _, h => by cases h; rfl
  | n :: ns, _, h => by
    cases h with
    | cons h1 h2 => rw [h1.bl_inv, repL_bls h2]; rfl
def bAllB : BA := fun ds m Q => ∃ (d : D) (bs : List Bool), ds = [d] ∧ asLL m d = some (bs.map D.bl) ∧ Q (.bl (bs.all id)) m
theorem s_allB {K : PySem.W.Frag} : SA K (rAll K) bAllB := by
  intro F H m r vs ds Q Qc hn hr h k
  obtain ⟨d, ns, rfl, hx, q⟩ := h
  obtain ⟨v, rfl, rv⟩ := repL1 hr
  obtain ⟨p, us, rfl, e2, r2⟩ := asLL_ok hn rv hx
  rw [repL_bls r2] at e2
  exact ⟨p, ns, rfl, e2, k F H m _ _ (Same.refl F) hn (.bl _) q⟩
theorem q_allB {p : Pos} (hc : X.calm = true) (hm : X.mg "all" = none) (ha : QA X (a :: es) tr) (hg : Gl X "all" := by rfl)
    (he : starEach (a :: es) X.env = (false, eval a X.env) :: starEach es X.env := by rfl) (hpl : (backTo pos (starEach es X.env)).any (·.1) = false := by rfl) : QE X (.Call (.Name "all" p) (a :: es) [] pos) (aCB bAllB tr) :=
  q_callB (cr_all hc) s_allB hm (by decide +kernel) ha hg (by decide) (by decide) he hpl
/-! list.index: flat items -/
def bIndex : BM := fun d ds m Q => ∃ (xs : List D) (y z : D) (j : Nat), ds = [y] ∧ asLL m d = some xs ∧ flatD y = true ∧ xs.all flatD = true ∧ xs[j]? = some z ∧ eqD z y = true ∧ (∀ i z', i < j → xs[i]? = some z' → eqD z' y = false) ∧ Q (.int (j : Int)) m
theorem flat_at {xs : List D} {j : Nat} {z : D} (h : xs.all flatD = true) (e : xs[j]? = some z) : flatD z = true := List.all_eq_true.mp h z (List.mem_of_getElem? e)
theorem s_index {K : PySem.W.Frag} : SM K (rIndex K) bIndex := by
  intro F H m r v d vs ds Q Qc hn hv hr h k
  obtain ⟨xs, y, z, j, rfl, hx, fy, fx, ez, eq, ne, q⟩ := h
  obtain ⟨u, rfl, ru⟩ := repL1 hr
  obtain ⟨p, us, rfl, e2, r2⟩ := asLL_ok hn hv hx
  obtain ⟨w, w1, w2⟩ := r2.getD ez
  exact ⟨p, us, u, j, w, rfl, rfl, e2, flat_ok ru fy, flat_all r2 fx, w1, (eqV_ok w2 ru (flat_at fx ez) fy).trans eq, fun i z' hi hz' => by
    obtain ⟨d', d1, d2⟩ := r2.get hz'
    exact (eqV_ok d2 ru (flat_at fx d1) fy).trans (ne i d' hi d1), k F H m _ _ (Same.refl F) hn (.int _) q⟩
end
section
variable {e : De} {m : Mu} {ta : AE} {tr : AA}
theorem o_maxL {ns : List Int} {k : Int} (h : k ∈ ns) (hm : ∀ y, y ∈ ns → y ≤ k) : OpA bMaxL [.lst (ns.map D.int)] m (.int k) := fun Q q => ⟨_, ns, rfl, rfl, List.length_pos_of_mem h, fun j h1 h2 => by
  have : j = k := Int.le_antisymm (hm j h1) (h2 k h)
  rw [this]; exact q⟩
theorem o_minL {ns : List Int} {k : Int} (h : k ∈ ns) (hm : ∀ y, y ∈ ns → k ≤ y) : OpA bMinL [.lst (ns.map D.int)] m (.int k) := fun Q q => ⟨_, ns, rfl, rfl, List.length_pos_of_mem h, fun j h1 h2 => by
  have : j = k := Int.le_antisymm (h2 k h) (hm j h1)
  rw [this]; exact q⟩
theorem o_allB {bs : List Bool} : OpA bAllB [.lst (bs.map D.bl)] m (.bl (bs.all id)) := fun Q q => ⟨_, bs, rfl, rfl, q⟩
/-- the place of a text in a list of different texts -/
theorem o_indexS {ss : List Str} {j : Nat} {s : Str} (nd : ss.Nodup) (h : ss[j]? = some s) : OpM bIndex (.lst (ss.map D.str)) [.str s] m (.int (j : Int)) := fun Q q => by
  refine ⟨ss.map D.str, .str s, .str s, j, rfl, rfl, rfl, ?_, by rw [List.getElem?_map, h]; rfl, ?_, fun i z' hi hz => ?_, q⟩
  · rw [List.all_map]; exact List.all_eq_true.mpr fun _ _ => rfl
  · rw [eqD_str]; exact decide_eq_true rfl
  · rw [List.getElem?_map] at hz
    cases e : ss[i]? with
    | none => rw [e] at hz; cases hz
    | some t =>
      rw [e] at hz
      cases hz
      rw [eqD_str]
      refine decide_eq_false fun z => ?_
      obtain ⟨h1, h2⟩ := List.getElem?_eq_some_iff.mp e
      obtain ⟨h3, h4⟩ := List.getElem?_eq_some_iff.mp h
      have := (List.pairwise_iff_getElem.mp nd) i j h1 h3 hi
      rw [h2, h4] at this
      exact this z
variable {N B C : De → Mu → Prop} {R : QD} {E : Ex → De → Mu → Prop} {to ti : AE} {d y : D}
theorem k_asgX {g : AG} (h : ta e m (fun d m1 => g d ⟨N, R, B, C, E⟩ e m1 N) (fun x m => E x e m)) : aAsg ta g ⟨N, R, B, C, E⟩ e m := h
theorem x_subD {A : AEnds} {P : De → Mu → Prop} {p : Addr} {kvs : List (Key × D)} {k : Key} (ho : Ev to e m (.cell p)) (hi : Ev ti e m y) (hm : m p = some (.dic false kvs)) (hk : keyD y = some k) (hl : kvs.length < sizeLine) (kk : P e (mset m p (.dic false (put kvs k d)))) : agSub to ti d A e m P :=
  ho _ _ (hi _ _ ⟨p, rfl, .inl ⟨kvs, k, hm, hk, hl, kk⟩⟩)
theorem k_ifM {c : AT} {b : Bool} {t u : AS} (P : De → Mu → Prop) (h : EvT c e m b) (goal : ∀ e' m', P e' m' → N e' m') (h1 : b = true → (∀ e' m', P e' m' → N e' m') → t ⟨N, R, B, C, E⟩ e m) (h2 : b = false → (∀ e' m', P e' m' → N e' m') → u ⟨N, R, B, C, E⟩ e m) : aIfS c t u ⟨N, R, B, C, E⟩ e m := k_if h (fun z => h1 z goal) (fun z => h2 z goal)
end
end Ab
namespace Ab
open PySem PySem.Spec PyProof.Rows L2
section
variable {e : De} {m : Mu} {ta tb tc to ti : AE} {tr : AA} {d y : D} {N B C : De → Mu → Prop} {R : QD} {E : Ex → De → Mu → Prop}
theorem ev_methC {n : Str} {T : List (Addr × List D × ASp)} {a Cl : Addr} {fs : List (Str × D)} {sp : ASp} {ds : List D} (ha : Ev ta e m (.cell a)) (hm : m a = some (.ins Cl fs)) (hl : fs.lookup n = none) (hT : (Cl, [], sp) ∈ T) (hr : EvA tr e m ds) (hs : ∀ Q X, Q d m → sp (.cell a :: ds) m Q X) : Ev (aMeth n T ta tr) e m d := fun Q X q => x_methC ha hm hl hT hr (hs Q X q)
theorem x_methCd {n : Str} {T : List (Addr × List D × ASp)} {a Cl : Addr} {fs : List (Str × D)} {sp : ASp} {ds dvs : List D} {Q : QD} {X : XA} (ha : Ev ta e m (.cell a)) (hm : m a = some (.ins Cl fs)) (hl : fs.lookup n = none) (hT : (Cl, dvs, sp) ∈ T) (hr : EvA tr e m ds) (hs : sp (.cell a :: (ds ++ dvs)) m Q X) : aMeth n T ta tr e m Q X :=
  ha _ _ ⟨Cl, fs, dvs, sp, by show (match m a with | some (.ins C fs) => some (C, fs) | _ => none) = _; rw [hm], hl, hT, hr _ _ hs⟩
/-- d[k] += j, a dict of ints -/
theorem k_daug {a : Addr} {kvs : List (Key × D)} {k : Key} {n j : Int} (ho : Ev to e m (.cell a)) (hi : Ev ti e m y) (hv : Ev tc e m (.int j)) (hm : m a = some (.dic false kvs)) (hk : keyD y = some k) (hl : lkp kvs k = some (.int n)) (hs : kvs.length < sizeLine) (kk : N e (mset m a (.dic false (put kvs k (.int (n + j)))))) : aDAug to ti tc ⟨N, R, B, C, E⟩ e m :=
  ho _ _ (hi _ _ ⟨a, kvs, k, n, rfl, hm, hk, hl, hv _ _ ⟨j, kvs, rfl, hm, hs, kk⟩⟩)
/-- o.f += j -/
theorem k_faug {K : PySem.W.Frag} {f : Str} {a Cl : Addr} {fs : List (Str × D)} {n j : Int} (ho : Ev to e m (.cell a)) (hv : Ev tc e m (.int j)) (hm : m a = some (.ins Cl fs)) (ok : OkC K Cl f) (hl : fs.lookup f = some (.int n)) (hs : fs.length < 1000) (kk : N e (mset m a (.ins Cl (putF f (.int (n + j)) fs)))) : aFAug K f to tc ⟨N, R, B, C, E⟩ e m :=
  ho _ _ ⟨a, Cl, fs, n, rfl, hm, ok, hl, hv _ _ ⟨j, fs, rfl, hm, hs, kk⟩⟩
end
end Ab
namespace Ab
open PySem PySem.Spec PyProof.Rows L2
/-! ### {k: v}: a displayed dict of one entry -/
theorem newD_held {K : PySem.W.Frag} {F H : Hp} {m : Mu} {r : Hp} {mt : Bool} {p : Addr} {es : List (Key × D)} {xs : List (Key × V)} {Q : QD} {Qc : VK} (h : Sn K F H m (upd r p (.dK xs))) (rp : r p = none) (hr : RepK K F xs es) (hq : newD mt es m Q) (g : GE K F r Q Qc) : Qc (.ref p) H := by
  obtain ⟨e1, e2⟩ := h.fr p _ upd_same
  have e3 : F p = none ∧ m p = none := by
    rcases e2 with ⟨ob, u, e2⟩ | e2
    · cases e2
    · exact e2
  cases mt with
  | false =>
    have s : Same F (upd F p (.dK xs)) := same_new e3.1
    refine g _ H m _ _ s ⟨fun b v w => ?_, fun b y w => ?_, fun b o w => ?_⟩ (.dic upd_same (hr.mono s)) hq
    · by_cases hb : b = p
      · subst hb; rw [upd_same] at w; cases w; exact .inl e1
      · rw [upd_ne hb] at w; exact h.cov b v w
    · have ne : b ≠ p := fun z => by subst z; rw [e3.2] at w; cases w
      exact ⟨by rw [upd_ne ne]; exact (h.mu b y w).1, (h.mu b y w).2.mono s rfl⟩
    · have ne : b ≠ p := fun z => by subst z; rw [rp] at w; cases w
      have q := h.fr b o (by rw [upd_ne ne]; exact w)
      exact ⟨q.1, q.2.imp id fun z => ⟨by rw [upd_ne ne]; exact z.1, z.2⟩⟩
  | true =>
    refine g F H _ _ _ (Same.refl F) ⟨h.cov, fun b y w => ?_, fun b o w => ?_⟩ (.cell p) (hq p e3.2)
    · by_cases hb : b = p
      · subst hb; rw [mset_same] at w; cases w; exact ⟨e3.1, xs, e1, hr⟩
      · rw [mset_ne hb] at w; exact h.mu b y w
    · have ne : b ≠ p := fun z => by subst z; rw [rp] at w; cases w
      have q := h.fr b o (by rw [upd_ne ne]; exact w)
      exact ⟨q.1, q.2.imp id fun z => ⟨z.1, by rw [mset_ne ne]; exact z.2⟩⟩
def aDisp1 (mt : Bool) (tk tv : AE) : AE := fun e m Q X => tk e m (fun k m1 => tv e m1 (fun v m2 => ∃ key, keyD k = some key ∧ newD mt [(key, v)] m2 Q) X) X
theorem q_disp1 (mt : Bool) {X : Cx} {k v : Expr} {tk tv : AE} {pos : Pos} (hk : QE X k tk) (hv : QE X v tv) : QE X (.Dict [some k] [v] pos) (aDisp1 mt tk tv) := fun W tkk => (pe_disp (pps_cons (hk W tkk) (hv W tkk) pps_nil) rfl rfl (fun z => by cases z) (by simp)).imp fun s H Qc h => by
  obtain ⟨F, e, m, r, Q, XX, he, hn, h, g, gx⟩ := h
  intro p hp
  have rp : r p = none := hn.r_none hp
  have n0 := hn.newR hp (.dK [])
  have sub : ∀ {F' H' m'}, Sn X.K F' H' m' (upd r p (.dK [])) → Sn X.K F' H' m' r := fun n => n.subR fun b w q => by
    rw [upd_ne (fun z => by rw [z, rp] at q; cases q)]; exact q
  have gx' : GX X.K F (upd r p (.dK [])) s XX W := fun F' H' m' cls dd x q n rx hx => gx F' H' m' cls dd x q (sub n) rx hx
  refine ⟨F, e, m, upd r p (.dK []), _, XX, he, n0, h, fun F1 H1 m1 vk dk s1 n1 r1 q1 => ?_, gx'⟩
  refine ⟨F1, e, m1, upd r p (.dK []), _, XX, he.mono s1, n1, q1, fun F2 H2 m2 vv dv s2 n2 r2 q2 => ?_, gx'.mono s1⟩
  obtain ⟨key, ek, q2⟩ := q2
  refine ⟨(n2.fr p _ upd_same).1, [(key, vv)], ?_, by simp, ?_⟩
  · show [(vk, vv)] = [(kV key, vv)]
    rw [key_ok (r1.mono s2) ek]
  · have n3 := n2.chR (o' := .dK [(key, vv)]) (fun _ _ z => by cases z)
    exact newD_held (mt := mt) n3 rp (.cons r2 .nil) q2 (g.mono (s1.trans s2))
section
variable {e : De} {m : Mu} {tk tv : AE} {k v : D}
theorem ev_disp1 {key : Key} (hk : Ev tk e m k) (hv : Ev tv e m v) (h : keyD k = some key) : Ev (aDisp1 false tk tv) e m (.dic [(key, v)]) := fun _ _ q => hk _ _ (hv _ _ ⟨key, h, q⟩)
theorem x_disp1 {key : Key} {mt : Bool} {Q : QD} {X : XA} (hk : Ev tk e m k) (h : keyD k = some key) (q : tv e m (fun v m2 => newD mt [(key, v)] m2 Q) X) : aDisp1 mt tk tv e m Q X := hk _ _ (by
  have : (fun v m2 => newD mt [(key, v)] m2 Q) = fun v m2 => newD mt [(key, v)] m2 Q := rfl
  exact (show tv e m (fun v m2 => ∃ key', keyD k = some key' ∧ newD mt [(key', v)] m2 Q) X from by
    have e1 : (fun v m2 => ∃ key', keyD k = some key' ∧ newD mt [(key', v)] m2 Q) = fun v m2 => newD mt [(key, v)] m2 Q := by
      funext v m2
      exact propext ⟨fun ⟨k', h1, h2⟩ => by rw [h] at h1; cases h1; exact h2, fun z => ⟨key, h, z⟩⟩
    rw [e1]; exact q))
end
/-! ### d.pop(k) -/
def aDPop1 (td ty : AE) : AE := fun e m Q X => td e m (fun x m1 => ∃ a, x = .cell a ∧ (∃ kvs, m1 a = some (.dic false kvs)) ∧ ty e m1 (fun y m2 => ∃ kvs k v, m2 a = some (.dic false kvs) ∧ keyD y = some k ∧ lkp kvs k = some v ∧ Q v (mset m2 a (.dic false (drp kvs k)))) X) X
theorem low_dpop1 {K : PySem.W.Frag} {W : WX} {td ty : AE} {s : L2.St} {H : Hp} {Qc : VK} (h : cE K W (aDPop1 td ty) s H Qc) : tDPop1 (cE K W td) (cE K W ty) s H Qc := by
  obtain ⟨F, e, m, r, Q, X, he, hn, h, g, gx⟩ := h
  refine ⟨F, e, m, r, _, X, he, hn, h, fun F1 H1 m1 v d s1 n1 r1 q1 => ?_, gx⟩
  obtain ⟨a, rfl, ⟨kvs0, hm0⟩, q1⟩ := q1
  cases r1
  obtain ⟨ws0, e0, _⟩ := s_mu n1 hm0
  refine ⟨a, rfl, .inl ⟨ws0, .inl e0⟩, F1, e, m1, r, _, X, he.mono s1, n1, q1, fun F2 H2 m2 u y s2 n2 ry q2 => ?_, gx.mono s1⟩
  obtain ⟨kvs, k, v, hm, ky, hl, q⟩ := q2
  obtain ⟨ws, e1, r2⟩ := s_mu n2 hm
  obtain ⟨w, w1, w2⟩ := r2.lkp_some hl
  exact ⟨ws, k, w, e1, key_ok ry ky, w1, g F2 _ _ _ _ (s1.trans s2) (Sn.upD n2 hm e1 (fun _ _ z => by cases z) r2.drp) w2 q⟩
theorem q_dpop1 {X : Cx} {o a : Expr} {apos cpos : Pos} {td ty : AE} (ho : QE X o td) (ha : QE X a ty) (m : M1 X o "pop" apos a cpos := by exact ⟨by rfl, by rfl, by rfl, by rfl⟩) : QE X (.Call (.Attribute o "pop" apos) [a] [] cpos) (aDPop1 td ty) :=
  fun W tk => (pe_dpop1 (ho W tk) (ha W tk) m).imp fun _ _ _ h => low_dpop1 h
theorem x_dpop1 {e : De} {m : Mu} {td ty : AE} {a : Addr} {y v : D} {k : Key} {kvs : List (Key × D)} {Q : QD} {X : XA} (ho : Ev td e m (.cell a)) (hi : Ev ty e m y) (hm : m a = some (.dic false kvs)) (hk : keyD y = some k) (hl : lkp kvs k = some v) (q : Q v (mset m a (.dic false (drp kvs k)))) : aDPop1 td ty e m Q X :=
  ho _ _ ⟨a, rfl, ⟨kvs, hm⟩, hi _ _ ⟨kvs, k, v, hm, hk, hl, q⟩⟩
end Ab
namespace Ab
open PySem PySem.Spec PyProof.Rows L2
/-! ### d == {k: xs}: a dict of one entry whose list is a cell -/
def bEqC : B2 := fun d e m Q => (∃ k a xs, d = .dic [(k, .cell a)] ∧ e = .dic [(k, .lst xs)] ∧ m a = some (.lst xs) ∧ (∀ x, x ∈ xs → flatD x = true) ∧ Q (.bl true) m) ∨ bEq d e m Q
theorem c_eqC {X : Cx} (hu : X.A.units + 64 < cLine) : Cm X .Eq bEqC := cm_or ⟨_, op_eqS hu, fun F H m r v u d e Q Qc hn h1 h2 h k => by
  obtain ⟨key, a, xs, rfl, rfl, hm, hf, q⟩ := h
  obtain ⟨F2, s2, n2, r2⟩ := hn.frzL hm
  have h1' : Rep X.K F2 v (.dic [(key, .lst xs)]) := by
    cases h1 with
    | dic e1 r1 =>
      cases r1 with
      | cons ra rn =>
        cases ra
        cases rn
        exact .dic (s2 _ _ e1) (.cons r2 .nil)
  have h2' : Rep X.K F2 u (.dic [(key, .lst xs)]) := h2.mono s2
  exact ⟨⟨F2, _, r, 2, .dic [(key, .lst xs)], by decide, n2, .dic (List.nodup_cons.mpr ⟨fun z => (by cases z), .nil⟩) (fun p hp => by
    rw [List.mem_singleton.mp hp]
    exact .lst fun x hx => .flat (hf x hx)), rfl, h1', h2'⟩, k F H m _ _ (Same.refl F) hn (.bl _) q⟩⟩ (c_eq hu)
theorem o_eqC {k : Key} {a : Addr} {xs : List D} {m : Mu} (hm : m a = some (.lst xs)) (hf : ∀ x, x ∈ xs → flatD x = true) : Op2 bEqC (.dic [(k, .cell a)]) (.dic [(k, .lst xs)]) m (.bl true) := fun _ q => .inl ⟨k, a, xs, rfl, rfl, hm, hf, q⟩
theorem o_eqCb {x y d : D} {m : Mu} (h : Op2 bEq x y m d) : Op2 bEqC x y m d := fun Q q => .inr (h Q q)
end Ab
namespace Ab
open PySem PySem.Spec PyProof.Rows L2
/-! ### {k: v, ..}: a displayed dict of several entries, keys all different -/
def aDispN (mt : Bool) : List (Key × D) → List (AE × AE) → AE
  | acc, [] => fun _ m Q _ => (acc.map (·.1)).Nodup ∧ acc.length ≤ 15 ∧ newD mt acc m Q
  | acc, (tk, tv) :: r => fun e m Q X => tk e m (fun k m1 => tv e m1 (fun v m2 => ∃ key, keyD k = some key ∧ aDispN mt (acc ++ [(key, v)]) r e m2 Q X) X) X
theorem putK_new {kvs : List (Key × V)} {k : Key} {v : V} (h : k ∉ kvs.map (·.1)) : putK kvs k v = kvs ++ [(k, v)] := by
  unfold putK
  rw [if_neg]
  intro z
  obtain ⟨p, hp, e⟩ := List.any_eq_true.mp z
  exact h (List.mem_map.mpr ⟨p, hp, by simpa using e⟩)
theorem mergeK_new : ∀ {more kvs : List (Key × V)}, ((kvs ++ more).map (·.1)).Nodup → mergeK kvs more = kvs ++ more
  | [], kvs, _ => (List.append_nil kvs).symm
  | (k, v) :: r, kvs, nd => by
    have e : kvs ++ (k, v) :: r = (kvs ++ [(k, v)]) ++ r := by simp
    show mergeK (putK kvs k v) r = _
    rw [putK_new, e]
    · exact mergeK_new (by rw [← e]; exact nd)
    · rw [List.map_append, List.map_cons] at nd
      exact fun z => (List.nodup_append.mp nd).2.2 k z k (List.mem_cons_self ..) rfl
theorem RepK.snoc {K : PySem.W.Frag} {F : Hp} {k : Key} {v : V} {d : D} : ∀ {xs : List (Key × V)} {es : List (Key × D)}, RepK K F xs es → Rep K F v d → RepK K F (xs ++ [(k, v)]) (es ++ [(k, d)])
  | _, _, .nil, h => .cons h .nil
  | _, _, .cons h1 r, h => .cons h1 (RepK.snoc r h)
theorem pairs_N {K : PySem.W.Frag} {W : WX} {mt : Bool} {p : Addr} {s : L2.St} {Qc : VK} : ∀ (ts : List (AE × AE)) {F H : Hp} {m : Mu} {r : Hp} {e : De} {Q : QD} {XX : XA} {acc : List (Key × D)} {accV : List (Key × V)}, EnvOk K F s e → Sn K F H m (upd r p (.dK [])) → r p = none → aDispN mt acc ts e m Q XX → GE K F r Q Qc → GX K F (upd r p (.dK [])) s XX W → RepK K F accV acc →
    tPairs (ts.map fun t => (cE K W t.1, cE K W t.2)) s H fun ps H2 => H2 p = some (.dK []) ∧ ∃ kvs : List (Key × V), (accV.map (fun kv => (kV kv.1, kv.2))) ++ ps = kvs.map (fun kv => (kV kv.1, kv.2)) ∧ kvs.length ≤ 15 ∧ Qc (.ref p) (upd H2 p (.dK (mergeK [] kvs)))
  | [], F, H, m, r, e, Q, XX, acc, accV, he, hn, rp, h, g, gx, hr => by
    obtain ⟨nd, l15, q⟩ := h
    have ek : accV.map (·.1) = acc.map (·.1) := repK_keys hr
    have el : accV.length = acc.length := repK_len hr
    refine ⟨(hn.fr p _ upd_same).1, accV, List.append_nil _, by omega, ?_⟩
    rw [mergeK_new (by rw [List.nil_append, ek]; exact nd), List.nil_append]
    have n3 := hn.chR (o' := .dK accV) (fun _ _ z => by cases z)
    exact newD_held (mt := mt) n3 rp hr q g
  | (tk, tv) :: ts, F, H, m, r, e, Q, XX, acc, accV, he, hn, rp, h, g, gx, hr => by
    refine ⟨F, e, m, upd r p (.dK []), _, XX, he, hn, h, fun F1 H1 m1 vk dk s1 n1 r1 q1 => ?_, gx⟩
    refine ⟨F1, e, m1, upd r p (.dK []), _, XX, he.mono s1, n1, q1, fun F2 H2 m2 vv dv s2 n2 r2 q2 => ?_, gx.mono s1⟩
    obtain ⟨key, ek, q2⟩ := q2
    have k := pairs_N ts (accV := accV ++ [(key, vv)]) (he.mono (s1.trans s2)) n2 rp q2 (g.mono (s1.trans s2)) (gx.mono (s1.trans s2)) (RepK.snoc (hr.mono (s1.trans s2)) r2)
    have e2 : vk = kV key := key_ok (r1.mono s2) ek
    rw [List.map_append] at k
    have e3 : ∀ ps : List (V × V), accV.map (fun kv => (kV kv.1, kv.2)) ++ [(key, vv)].map (fun kv => (kV kv.1, kv.2)) ++ ps = accV.map (fun kv => (kV kv.1, kv.2)) ++ (vk, vv) :: ps := fun ps => by
      rw [e2, List.append_assoc]; rfl
    have e4 : (fun (ps : List (V × V)) (H2 : Hp) => H2 p = some (.dK []) ∧ ∃ kvs : List (Key × V), accV.map (fun kv => (kV kv.1, kv.2)) ++ [(key, vv)].map (fun kv => (kV kv.1, kv.2)) ++ ps = kvs.map (fun kv => (kV kv.1, kv.2)) ∧ kvs.length ≤ 15 ∧ Qc (.ref p) (upd H2 p (.dK (mergeK [] kvs)))) = fun ps H2 => H2 p = some (.dK []) ∧ ∃ kvs : List (Key × V), accV.map (fun kv => (kV kv.1, kv.2)) ++ (vk, vv) :: ps = kvs.map (fun kv => (kV kv.1, kv.2)) ∧ kvs.length ≤ 15 ∧ Qc (.ref p) (upd H2 p (.dK (mergeK [] kvs))) := by
      funext ps H2
      rw [e3]
    rw [e4] at k
    exact k
/-- the entries of a display -/
def QDs (X : Cx) (ks : List (Option Expr)) (vs : List Expr) (ts : List (AE × AE)) : Prop := ∀ W, Takes X W → ∀ pos, PPs X pos ks vs (ts.map fun t => (cE X.K W t.1, cE X.K W t.2))
section
variable {X : Cx} {k v : Expr} {ks : List (Option Expr)} {vs : List Expr} {tk tv : AE} {ts : List (AE × AE)} {pos : Pos}
theorem qds_nil : QDs X [] [] [] := fun _ _ _ => pps_nil
theorem qds_cons (hk : QE X k tk) (hv : QE X v tv) (hr : QDs X ks vs ts) : QDs X (some k :: ks) (v :: vs) ((tk, tv) :: ts) := fun W t pos => pps_cons (hk W t) (hv W t) (hr W t pos)
theorem q_dispN (mt : Bool) (h : QDs X ks vs ts) (hall : ks.all (·.isSome) = true := by rfl) (hl : ks.length = vs.length := by rfl) (h0 : ks ≠ [] := by exact List.cons_ne_nil _ _) (h15 : ks.length ≤ 15 := by exact Nat.le_of_ble_eq_true rfl) : QE X (.Dict ks vs pos) (aDispN mt [] ts) := fun W tkk => (pe_disp (h W tkk pos) hall hl h0 h15).imp fun s H Qc h => by
  obtain ⟨F, e, m, r, Q, XX, he, hn, h, g, gx⟩ := h
  intro p hp
  have rp : r p = none := hn.r_none hp
  have n0 := hn.newR hp (.dK [])
  have sub : ∀ {F' H' m'}, Sn X.K F' H' m' (upd r p (.dK [])) → Sn X.K F' H' m' r := fun n => n.subR fun b w q => by
    rw [upd_ne (fun z => by rw [z, rp] at q; cases q)]; exact q
  have gx' : GX X.K F (upd r p (.dK [])) s XX W := fun F' H' m' cls dd x q n rx hx => gx F' H' m' cls dd x q (sub n) rx hx
  exact pairs_N (accV := []) ts he n0 rp h g gx' .nil
end
section
variable {e : De} {m : Mu} {tk tv : AE} {k v : D} {ts : List (AE × AE)} {acc : List (Key × D)} {mt : Bool} {Q : QD} {X : XA}
theorem x_disp0 (nd : (acc.map (·.1)).Nodup) (hl : acc.length ≤ 15) (q : newD mt acc m Q) : aDispN mt acc [] e m Q X := ⟨nd, hl, q⟩
theorem x_dispE {key : Key} (hk : Ev tk e m k) (hv : Ev tv e m v) (h : keyD k = some key) (q : aDispN mt (acc ++ [(key, v)]) ts e m Q X) : aDispN mt acc ((tk, tv) :: ts) e m Q X := hk _ _ (hv _ _ ⟨key, h, q⟩)
/-- an entry whose value is a new empty dict -/
theorem x_dispZ {key : Key} (hk : Ev tk e m k) (h : keyD k = some key) (q : ∀ c, m c = none → aDispN mt (acc ++ [(key, .cell c)]) ts e (mset m c (.dic false [])) Q X) : aDispN mt acc ((tk, aDict0) :: ts) e m Q X := hk _ _ fun c hc => ⟨key, h, q c hc⟩
end
end Ab
namespace Ab
open PySem PySem.Spec PyProof.Rows L2
section
open PySem.SeqAt AutoSeq1 MeetsSeq MeetsSeq2 MeetsSeq3 SeqRoads2
variable {prog : Program} {w : World}
theorem ne_loopIn (l b : Addr) (items items2 : Array Value) (n n2 : Nat) (dd dd2 : Option Addr) (sl sl2 : Array (Option Value)) (hsz : items.size = items2.size) (k : Nat) :
    ∀ i : Nat, items.size - i = k → MeetsIn prog w (Builtin.«list.__eq__.loop» ⟨[.ref l, .ref b, rawInt i, rawInt 3], []⟩)
      (fun A R s => s.heap.get? l = some { cls := .type "list", dict := dd, data := .seq items n, slots := sl } ∧ s.heap.get? b = some { cls := .type "list", dict := dd2, data := .seq items2 n2, slots := sl2 } ∧
        (∀ j (h1 : j < items.size) (h2 : j < items2.size), EqP prog w A.in1 s items[j] items2[j] true) ∧
        R (.ok (.ret (.bool false))) s) := by
  induction k with
  | zero =>
    intro i hk A R s h
    obtain ⟨hp, g, d, tk, os⟩ := s; obtain ⟨hl, hb, he, h⟩ := h
    wp_walk using wpAny_loadPart' hl, wpAny_loadPart' hb
    have hi1 : items[((i : Nat) : Int).toNat]? = none := by simp; omega
    have hi2 : items2[((i : Nat) : Int).toNat]? = none := by simp; omega
    rw [hi1, hi2]
    wp_walk using wpAny_loadPart' hl, wpAny_loadPart' hb
    show R (.ok (.ret (.bool (items.size != items2.size)))) _
    rw [hsz]
    simpa using h
  | succ k ih =>
    intro i hk A R s h
    obtain ⟨hp, g, d, tk, os⟩ := s; obtain ⟨hl, hb, he, h⟩ := h
    wp_walk using wpAny_loadPart' hl, wpAny_loadPart' hb
    have hlt : i < items.size := by omega
    have hlt2 : i < items2.size := by omega
    have hi1 : items[((i : Nat) : Int).toNat]? = some items[i] := by simp [hlt]
    have hi2 : items2[((i : Nat) : Int).toNat]? = some items2[i] := by simp [hlt2]
    have hc : ((i : Int) + 1) = ((i + 1 : Nat) : Int) := by push_cast; rfl
    rw [hi1, hi2]
    refine wpAny_bind (he i hlt hlt2 _ _ ?_)
    wp_walk
    rw [hc]
    exact ⟨plainId_quiet plain_eq_loop _, codeAny_builtin entry_eq_loop (by
      rw [Around.under_plainId plain_eq_loop _]
      exact ih (i + 1) (by omega) A R _ ⟨hl, hb, he, h⟩)⟩
theorem list_neIn (l b : Addr) (items items2 : Array Value) (n n2 : Nat) (dd dd2 : Option Addr) (sl sl2 : Array (Option Value)) (hsz : items.size = items2.size) :
    MeetsIn prog w (Builtin.«list.__ne__» ⟨[.ref l, .ref b], []⟩)
      (fun A R s => s.heap.get? l = some { cls := .type "list", dict := dd, data := .seq items n, slots := sl } ∧ s.heap.get? b = some { cls := .type "list", dict := dd2, data := .seq items2 n2, slots := sl2 } ∧
        (∀ j (h1 : j < items.size) (h2 : j < items2.size), EqP prog w A.in1 s items[j] items2[j] true) ∧
        R (.ok (.ret (.bool false))) s) := by
  intro A R s h
  obtain ⟨hp, g, d, tk, os⟩ := s; obtain ⟨hl, hb, he, h⟩ := h
  have f3 := AutoSeq1.sub_list_list
  have hne : ¬ (items.size != items2.size) = true := by simp [hsz]
  wp_walk using wpAny_loadPart' hl, wpAny_loadPart' hb
  exact ⟨plainId_quiet plain_eq_loop _, codeAny_builtin entry_eq_loop (by
    rw [Around.under_plainId plain_eq_loop _]
    exact ne_loopIn l b items items2 n n2 dd dd2 sl sl2 hsz _ 0 rfl A R _ ⟨hl, hb, he, h⟩)⟩
theorem rcNeP_lists {A : Around} {s : Shared} {l b : Addr} {items items2 : Array Value} (hl : s.heap.IsList l items) (hb : s.heap.IsList b items2) (hsz : items.size = items2.size) (hu : A.units < cLine)
    (he : ∀ j (h1 : j < items.size) (h2 : j < items2.size), EqP prog w A.in1 s items[j] items2[j] true) (E Q : Value → Shared → Prop) (h : Q (.bool false) s) : wpAny (model prog w) A (richCompare .NotEq (.ref l) (.ref b)) Q E s := by
  obtain ⟨⟨cls, dd, data, sl⟩, ho, hc, n, hd⟩ := id hl
  obtain ⟨⟨cls2, dd2, data2, sl2⟩, ho2, hc2, n2, hd2⟩ := id hb
  simp only at hc hd hc2 hd2
  subst hc hd hc2 hd2
  have ta : s.TypeIs (.ref l) "list" := ⟨_, ho, rfl⟩
  have tb : s.TypeIs (.ref b) "list" := ⟨_, ho2, rfl⟩
  exact wpAny_richCompare_same_room (op := .NotEq) ta tb F.slot_list_ne (call_meetsIn F.slot_list_ne ta F.entry_list_ne (F.args_list_ne_2 _ _) (list_neIn l b items items2 n n2 dd dd2 sl sl2 hsz)
    ⟨ho, ho2, he, show Value.bool false ≠ Value.notImplemented ∧ Q (.bool false) s from ⟨(fun x => nomatch x), h⟩⟩) hu
end
def rNeS (K : PySem.W.Frag) : R2 := fun x y H Q => (∃ (F : Hp) (m : Mu) (r : Hp) (n : Nat) (xs : List D), n ≤ 60 ∧ Sn K F H m r ∧ SamD (n + 1) (.lst xs) ∧ Rep K F x (.lst xs) ∧ Rep K F y (.lst xs)) ∧ Q (.bl false) H
theorem op_neS {X : Cx} (hu : X.A.units + 64 < cLine) : OpR X (compareOp .NotEq) (rNeS X.K) := by
  intro pins s σ H x y v u Q I rx ry h
  obtain ⟨⟨F, m, r, n, xs, hl, hn, hs, h1, h2⟩, q⟩ := h
  cases hs with
  | flat f => cases f
  | lst hx =>
    cases h1 with
    | lst e1 r1 =>
      cases h2 with
      | lst e2 r2 =>
        rename_i a xs b ys
        cases (show v = Value.ref a from rx)
        cases (show u = Value.ref b from ry)
        have hp := tw_list r1 r2 hx
        obtain ⟨us, k1, p1, _⟩ := I.list (.inl (.inl (hn.lst e1)))
        obtain ⟨ws, k2, p2, _⟩ := I.list (.inl (.inl (hn.lst e2)))
        have hsz : us.toArray.size = ws.toArray.size := by
          rw [List.size_toArray, List.size_toArray, ← k1.length, ← k2.length]
          exact Paired.length hp
        refine rcNeP_lists p1.isList p2.isList hsz (by omega) (fun j h1 h2 => ?_) _ _ ⟨.bl false, H, I, rfl, q⟩
        have k := items_run (same_run I hn n X.A.in1 (by show X.A.units + 1 + n < cLine; omega)) hp k1 k2 j (by simpa using h1) (by simpa using h2)
        simpa using k
def bNeS : B2 := fun d e m Q => (∃ xs, d = .lst xs ∧ e = .lst xs ∧ (∃ n, n ≤ 60 ∧ SamD (n + 1) (.lst xs)) ∧ Q (.bl false) m) ∨ bNe d e m Q
theorem c_neS {X : Cx} (hu : X.A.units + 64 < cLine) : Cm X .NotEq bNeS := cm_or ⟨_, op_neS hu, fun F H m r v u d e Q Qc hn h1 h2 h k => by
  obtain ⟨xs, rfl, rfl, ⟨n, hl, hs⟩, q⟩ := h
  exact ⟨⟨F, m, r, n, xs, hl, hn, hs, h1, h2⟩, k F H m _ _ (Same.refl F) hn (.bl _) q⟩⟩ (c_ne hu)
theorem o_neSm {xs : List D} {m : Mu} {n : Nat} (hl : n ≤ 60) (hs : SamD (n + 1) (.lst xs)) : Op2 bNeS (.lst xs) (.lst xs) m (.bl false) := fun _ q => .inl ⟨xs, rfl, rfl, ⟨n, hl, hs⟩, q⟩
theorem o_neSb {x y d : D} {m : Mu} (h : Op2 bNe x y m d) : Op2 bNeS x y m d := fun Q q => .inr (h Q q)
/-! ### a list some times -/
def bMulL (mt : Bool) : B2 := fun d e m Q => bMul d e m Q ∨ ∃ xs, ∃ k : Nat, asX m d = some xs ∧ e = .int (k : Int) ∧ k < 2 ^ 62 ∧ xs.length * k ≤ sizeLine ∧ newL mt (List.replicate k xs).flatten m Q
theorem rep_flat {K : PySem.W.Frag} {F : Hp} {vs : List V} {ds : List D} (h : RepL K F vs ds) : ∀ k : Nat, RepL K F (List.replicate k vs).flatten (List.replicate k ds).flatten
  | 0 => .nil
  | k + 1 => by
    rw [List.replicate_succ, List.replicate_succ, List.flatten_cons, List.flatten_cons]
    exact h.append (rep_flat h k)
theorem s_mulL {K : PySem.W.Frag} (mt : Bool) : S2 K (fun x y H Q => rI MulOk (fun i j => .int (i * j)) x y H Q ∨ rRep x y H Q) (bMulL mt) := by
  intro F H m r v u d e Q Qc hn h1 h2 h g
  rcases h with h | ⟨xs, k, e1, rfl, hk, hl, q⟩
  · exact .inl (s_mul F H m r v u d e Q Qc hn h1 h2 h g)
  · obtain ⟨p, vs, rfl, a1, r1⟩ := asX_ok hn h1 e1
    cases h2
    refine .inr ⟨p, k, vs, rfl, rfl, a1, by omega, by omega, by rw [Int.toNat_natCast, r1.length]; exact hl, fun p hp => ?_⟩
    rw [Int.toNat_natCast]
    exact newL_ok hn (rep_flat r1 k) q g p hp
theorem q_mulL {X : Cx} {a b : Expr} {pos : Pos} {ta tb : AE} (mt : Bool) (ha : QE X a ta) (hb : QE X b tb) : QE X (.BinOp a .Mult b pos) (aOp (bMulL mt) ta tb) := q_bin (o_mul.or op_rep) (s_mulL mt) ha hb
theorem o_mulLL {xs : List D} {k : Nat} {m : Mu} (hk : k < 2 ^ 62) (hl : xs.length * k ≤ sizeLine) : Op2 (bMulL false) (.lst xs) (.int (k : Int)) m (.lst (List.replicate k xs).flatten) := fun Q q => .inr ⟨xs, k, rfl, rfl, hk, hl, q⟩
theorem x_mulN {e : De} {m : Mu} {ta tb : AE} {xs : List D} {k : Nat} {Q : QD} {X : XA} (ha : Ev ta e m (.lst xs)) (hb : Ev tb e m (.int (k : Int))) (hk : k < 2 ^ 62) (hl : xs.length * k ≤ sizeLine) (q : ∀ p, m p = none → Q (.cell p) (mset m p (.lst (List.replicate k xs).flatten))) : aOp (bMulL true) ta tb e m Q X :=
  ha _ _ (hb _ _ (.inr ⟨xs, k, rfl, rfl, hk, hl, q⟩))
end Ab
namespace Ab
open PySem PySem.Spec PyProof.Rows L2
def rGetL (K : PySem.W.Frag) : V → V → Hp → VK → Prop := fun x y H Q => ∃ p xs i v, x = .ref p ∧ y = .int i ∧ 0 ≤ i ∧ SqL K H p xs ∧ atI xs i = some v ∧ Q v H
theorem get_list {X : Cx} : PGet X (rGetL X.K) := by
  intro pins s σ H x y v u Q I rx ry h
  obtain ⟨p, xs, i, z, rfl, rfl, h0, hq, he, q⟩ := h
  cases rx
  obtain ⟨t, rfl⟩ := ry
  obtain ⟨its, r, pl, hz⟩ := I.list hq
  obtain ⟨j, h1, h2, h3, h4, h5⟩ := atI_get he
  obtain ⟨w, ew, rw'⟩ := r.get h2
  have hl := r.length
  have hn := line63
  have fin : EP X pins σ Q w s := ⟨z, H, I, rw', q⟩
  have hj : i.toNat = j := by
    rw [seqIndex_of h0 h5] at h1
    exact Option.some.inj h1
  exact wpAny_getItem_list pl.isList h0 (by omega) (by rw [hj]; simpa using ew) fin
def aLAug (to ti tv : AE) : AS := fun A e m => aE to A e m fun o m1 => aE ti A e m1 fun i m2 => ∃ a xs, ∃ n : Nat, ∃ v : Int, o = .cell a ∧ m2 a = some (.lst xs) ∧ i = .int (n : Int) ∧ xs[n]? = some (.int v) ∧
  aE tv A e m2 fun y m3 => ∃ w xs', y = .int w ∧ m3 a = some (.lst xs') ∧ n < xs'.length ∧ A.nx e (mset m3 a (.lst (xs'.set n (.int (v + w)))))
section
variable {X : Cx} {a b c : Expr} {ta tb tc : AE} {pos : Pos}
theorem qs_laug {tpos : Pos} (ha : QE X a ta) (hb : QE X b tb) (hc : QE X c tc) (hs : ∀ ov iv new, augStore b ov iv new = (do holding [new, ov, iv] (setItem ov iv new); release [new, ov, iv] []; pure .next) := by exact fun _ _ _ => rfl) :
    QS X (.AugAssign (.Subscript a b tpos) .Add c pos) (aLAug ta tb tc) := fun W tk po => (ps_augS (ha W tk) (hb W tk) get_list (hc W tk) ip_add set_list hs).imp fun D s H ⟨F, e, m, r, A, he, hn, h, g⟩ => by
  refine use_E he hn g h fun F1 H1 m1 o dO k1 n1 r1 q1 => use_E (he.mono k1) n1 (g.mono k1) q1 fun F2 H2 m2 i dI k2 n2 r2 q2 => ?_
  obtain ⟨p, xs, n, v, rfl, e1, rfl, ev, q2⟩ := q2
  cases r1
  cases r2
  obtain ⟨ws, h1, h2⟩ := s_mu n2 e1
  obtain ⟨w, ew, rw_⟩ := h2.getD ev
  cases rw_
  refine ⟨p, ws, _, _, rfl, rfl, Int.natCast_nonneg _, .inl (.inl h1), atI_natA ew, use_E (he.mono (k1.trans k2)) n2 (g.mono (k1.trans k2)) q2 fun F3 H3 m3 y dY k3 n3 r3 q3 => ?_⟩
  obtain ⟨j, xs', rfl, e4, hl, q3⟩ := q3
  cases r3
  obtain ⟨ws', h1', h2'⟩ := s_mu n3 e4
  have kk := k1.trans (k2.trans k3)
  exact ⟨_, _, rfl, rfl, p, ws', _, n, rfl, rfl, h1', ixN_nat (by rw [h2'.length]; exact hl), g.nx F3 _ _ s e kk (he.mono kk) (Sn.upL n3 e4 h1' (fun _ _ z => nomatch z) (h2'.set (.int _) n)) q3⟩
end
theorem k_laug {e : De} {m : Mu} {to ti tc : AE} {a : Addr} {xs : List D} {n : Nat} {v w : Int} {N B C : De → Mu → Prop} {R : QD} {E : Ex → De → Mu → Prop} (ho : Ev to e m (.cell a)) (hi : Ev ti e m (.int (n : Int))) (hv : Ev tc e m (.int w)) (hm : m a = some (.lst xs)) (hx : xs[n]? = some (.int v)) (kk : N e (mset m a (.lst (xs.set n (.int (v + w)))))) : aLAug to ti tc ⟨N, R, B, C, E⟩ e m :=
  ho _ _ (hi _ _ ⟨a, xs, n, v, rfl, hm, rfl, hx, hv _ _ ⟨w, xs, rfl, hm, (List.getElem?_eq_some_iff.mp hx).1, kk⟩⟩)
/-! a loop whose test changes things -/
theorem k_whileX {e : De} {m : Mu} {c : AT} {ab : AS} {N B C : De → Mu → Prop} {R : QD} {E : Ex → De → Mu → Prop} (I : Nat → De → Mu → Prop) (n : Nat) (h0 : I n e m) (hs : ∀ n e' m', I n e' m' → c e' m' (fun b m1 => if b = true then ab ⟨fun e2 m2 => ∃ k, k < n ∧ I k e2 m2, R, N, fun e2 m2 => ∃ k, k < n ∧ I k e2 m2, E⟩ e' m1 else N e' m1) (fun x m => E x e' m)) : aWhile c ab ⟨N, R, B, C, E⟩ e m := ⟨I, ⟨n, h0⟩, hs⟩
theorem xt_and {t u : AT} {e : De} {m : Mu} {Q : Bool → Mu → Prop} {X : XA} (h : t e m (fun c m1 => if c = true then u e m1 Q X else Q false m1) X) : aAnd t u e m Q X := h
theorem xt_not {t : AT} {e : De} {m : Mu} {Q : Bool → Mu → Prop} {X : XA} (h : t e m (fun c m1 => Q (!c) m1) X) : aNot t e m Q X := h
theorem xt_B {ta : AE} {e : De} {m : Mu} {Q : Bool → Mu → Prop} {X : XA} (h : ta e m (fun d m1 => ∃ k, d = .bl k ∧ Q k m1) X) : aB ta e m Q X := h
theorem xt_or {t u : AT} {e : De} {m : Mu} {Q : Bool → Mu → Prop} {X : XA} (h : t e m (fun c m1 => if c = true then Q true m1 else u e m1 Q X) X) : aOr t u e m Q X := h
theorem k_ifX {t : AT} {a b : AS} {A : AEnds} {e : De} {m : Mu} (h : t e m (fun c m1 => if c = true then a A e m1 else b A e m1) (fun x m => A.ex x e m)) : aIfS t a b A e m := h
theorem k_ifOr {t u : AT} {a b : AS} {A : AEnds} {e : De} {m : Mu} (h : t e m (fun c m1 => if c = true then a A e m1 else aIfS u a b A e m1) (fun x m => A.ex x e m)) : aIfS (aOr t u) a b A e m := h
theorem x_callX {sp : ASp} {dvs : List D} {tr : AA} {e : De} {m : Mu} {Q : QD} {X : XA} (h : tr e m (fun ds m1 => sp (ds ++ dvs) m1 Q X) X) : aCall sp dvs tr e m Q X := h
theorem x_nd {es : List (Key × D)} {m : Mu} {Q : QD} (q : Q (.dic es) m) : newD false es m Q := q
theorem x_nl {xs : List D} {m : Mu} {Q : QD} (q : Q (.lst xs) m) : newL false xs m Q := q
end Ab
namespace Ab
open PySem PySem.Spec PyProof.Rows L2
def aDGet1 (td ty : AE) : AE := fun e m Q X => td e m (fun x m1 => (∃ kvs, asK m1 x = some kvs ∧ ∀ a, x = .cell a → ∃ kvs, m1 a = some (.dic false kvs)) ∧ ty e m1 (fun y m2 => ∃ kvs k, asK m2 x = some kvs ∧ keyD y = some k ∧ Q ((lkp kvs k).getD .non) m2) X) X
theorem low_dget1 {K : PySem.W.Frag} {W : WX} {td ty : AE} {s : L2.St} {H : Hp} {Qc : VK} (h : cE K W (aDGet1 td ty) s H Qc) : tDGet1 (cE K W td) (cE K W ty) s H Qc := by
  obtain ⟨F, e, m, r, Q, X, he, hn, h, g, gx⟩ := h
  refine ⟨F, e, m, r, _, X, he, hn, h, fun F1 H1 m1 v d s1 n1 r1 q1 => ?_, gx⟩
  obtain ⟨⟨kvs, hk, _⟩, q1⟩ := q1
  obtain ⟨p, kvs', rfl, e2, r2⟩ := asK_ok n1 r1 hk
  refine ⟨p, rfl, .inl ⟨kvs', e2⟩, F1, e, m1, r, _, X, he.mono s1, n1, q1, fun F2 H2 m2 u y s2 n2 ry q2 => ?_, gx.mono s1⟩
  obtain ⟨kvs3, k, hk3, ky, q⟩ := q2
  obtain ⟨p', kvs3', e0, e3, r3⟩ := asK_ok n2 (r1.mono s2) hk3
  cases e0
  have gg := g.mono (s1.trans s2)
  cases hl : lkp kvs3 k with
  | some v =>
    rw [hl] at q
    obtain ⟨w', e4, rw'⟩ := r3.lkp_some hl
    exact ⟨some w', .inl ⟨kvs3', k, e3, key_ok ry ky, e4.symm⟩, gg F2 H2 m2 _ _ (Same.refl F2) n2 rw' q⟩
  | none =>
    rw [hl] at q
    exact ⟨none, .inl ⟨kvs3', k, e3, key_ok ry ky, (lkp_none_of r3 hl).symm⟩, gg F2 H2 m2 _ _ (Same.refl F2) n2 .non q⟩
theorem q_dget1 {X : Cx} {o a : Expr} {apos cpos : Pos} {td ty : AE} (hu : X.A.units + 1 < cLine) (ho : QE X o td) (ha : QE X a ty) (m : M1 X o "get" apos a cpos := by exact ⟨by rfl, by rfl, by rfl, by rfl⟩) : QE X (.Call (.Attribute o "get" apos) [a] [] cpos) (aDGet1 td ty) :=
  fun W tk => (pe_dget1 hu (ho W tk) (ha W tk) m).imp fun _ _ _ h => low_dget1 h
theorem ev_dget1 {td ty : AE} {e : De} {m : Mu} {x y : D} {kvs : List (Key × D)} {k : Key} (ho : Ev td e m x) (hk : asK m x = some kvs) (hc : ∀ a, x = .cell a → ∃ kvs, m a = some (.dic false kvs)) (hy : Ev ty e m y) (ky : keyD y = some k) : Ev (aDGet1 td ty) e m ((lkp kvs k).getD .non) :=
  fun Q X q => ho _ _ ⟨⟨kvs, hk, hc⟩, hy _ _ ⟨kvs, k, hk, ky, q⟩⟩
/-! ### len of a dict that is data -/
theorem call_lenDR {X : Cx} : CallR X (.builtin "len") (fun xs H Q => ∃ a kvs, xs = [V.ref a] ∧ Rd H a (.dK kvs) ∧ Q (.int kvs.length) H) := by
  intro pins s σ H xs us Q I r h
  obtain ⟨a, kvs, rfl, ha, q⟩ := h
  obtain ⟨u, rfl, ru⟩ := vals1 r
  cases ru
  exact d_len I ha fun t s' I' => ⟨.int kvs.length, H, I', ⟨t, rfl⟩, q⟩
def bLenK : BA := fun ds m Q => bLen ds m Q ∨ ∃ d kvs, ds = [d] ∧ asK m d = some kvs ∧ Q (.int kvs.length) m
theorem s_lenK {K : PySem.W.Frag} : SA K (fun xs H Q => ((∃ z, xs = [.str z] ∧ z.length ≤ sizeLine ∧ Q (.int z.length) H) ∨ ((∃ p ys, xs = [.ref p] ∧ (SqL K H p ys ∨ SqT K H p ys) ∧ Q (.int ys.length) H) ∨ ∃ a kvs, xs = [V.ref a] ∧ H a = some (.dK kvs) ∧ Q (.int kvs.length) H)) ∨ ∃ a kvs, xs = [V.ref a] ∧ Rd H a (.dK kvs) ∧ Q (.int kvs.length) H) bLenK := by
  intro F H m r vs ds Q Qc hn hr h k
  rcases h with h | ⟨d, kvs, rfl, hx, q⟩
  · exact .inl (s_len F H m r vs ds Q Qc hn hr h k)
  · obtain ⟨v, rfl, rv⟩ := repL1 hr
    obtain ⟨p, vs, rfl, e2, r2⟩ := asK_ok hn rv hx
    refine .inr ⟨p, vs, rfl, e2, ?_⟩
    rw [r2.length]; exact k F H m _ _ (Same.refl F) hn (.int _) q
theorem q_lenK {X : Cx} {a : Expr} {es : List Expr} {tr : AA} {pos p : Pos} (hm : X.mg "len" = none) (ha : QA X (a :: es) tr) (hg : Gl X "len" := by rfl)
    (he : starEach (a :: es) X.env = (false, eval a X.env) :: starEach es X.env := by rfl) (hpl : (backTo pos (starEach es X.env)).any (·.1) = false := by rfl) : QE X (.Call (.Name "len" p) (a :: es) [] pos) (aCB bLenK tr) :=
  q_callB ((call_len_str.or (call_len_seq.or call_lenD0)).or call_lenDR) s_lenK hm boot_len ha hg (by decide) (by decide) he hpl
theorem o_lenK {d : D} {m : Mu} {kvs : List (Key × D)} (h : asK m d = some kvs) : OpA bLenK [d] m (.int kvs.length) := fun _ q => .inr ⟨_, _, rfl, h, q⟩
theorem o_lenB {ds : List D} {d : D} {m : Mu} (h : OpA bLen ds m d) : OpA bLenK ds m d := fun Q q => .inl (h Q q)
end Ab
namespace PySem.W
open Lean Elab Tactic Meta PySem PySem.Calls PyProof.Rows PyProof.V PySem.Spec
section
variable {prog : Program} {w : World} {K : Type} [DecidableEq K] {knd : KeyKind prog w K} {A : Around} {s : Shared}
theorem rcNeP_dictsAb {a b : Addr} {ka kb : List (K × Value)} {r : Bool} (ha : (a == sysModules) = false) (hb : (b == sysModules) = false)
    (da : s.heap.DictOf knd a ka) (db : s.heap.DictOf knd b kb) (hu : A.units < cLine) (hits : ka.length = kb.length → KeqHitsP prog w A.in1 s kb ka r) (E Q : Value → Shared → Prop) (h : Q (.bool (!(ka.length == kb.length && r))) s) : wpAny (model prog w) A (richCompare .NotEq (.ref a) (.ref b)) Q E s := by
  refine wpAny_richCompare_same_room (op := .NotEq) da.typeIs db.typeIs PySem.F.slot_dict_ne (wpAny_call_entry PySem.F.slot_dict_ne da.typeIs PySem.F.entry_dict_ne ?_ (PySem.F.args_dict_ne_2 _ _)) hu
  show wpAny _ _ (Builtin.Dict.dictSlotArgs "__ne__" ⟨[.ref a, .ref b], []⟩ >>= _) _ _ s
  refine wpAny_bind ?_
  unfold Builtin.Dict.dictSlotArgs
  refine wpAny_bind (wpAny_notOrdered_dict da.typeIs ?_)
  show wpAny _ _ (pure (Value.ref a, Value.ref b)) _ _ s
  refine wpAny_pure ?_
  refine wpAny_bind (wpAny_isInstance (T := "dict") db.typeIs PySem.F.sub_dict_dict ?_)
  simp only [Bool.not_true, Bool.false_eq_true, if_false]
  refine wpAny_bind (wpAny_pure (wpAny_bind (wpAny_pure ?_)))
  refine wpAny_bind (samePairsP ha hb da db hits ?_)
  refine wpAny_pure ⟨_, rfl, ?_, ?_⟩
  · exact fun x => nomatch x
  · simpa using h
end
end PySem.W
namespace Ab
open PySem PySem.Spec PyProof.Rows L2
theorem frz_all {K : PySem.W.Frag} {H r : Hp} : ∀ (as : List Addr) {F : Hp} {m : Mu}, Sn K F H m r → ∃ F2 m2, Same F F2 ∧ Sn K F2 H m2 r ∧ (∀ a, a ∉ as → m2 a = m a) ∧ ∀ a, a ∈ as → ∀ xs, m a = some (.lst xs) → Rep K F2 (.ref a) (.lst xs)
  | [], F, m, hn => ⟨F, m, Same.refl F, hn, fun _ _ => rfl, fun a h => by cases h⟩
  | a :: as, F, m, hn => by
    obtain ⟨F2, m2, s, n2, h1, h2⟩ := frz_all as hn
    by_cases q : ∃ xs, m a = some (.lst xs) ∧ a ∉ as
    · obtain ⟨xs, e, na⟩ := q
      have e2 : m2 a = some (.lst xs) := by rw [h1 a na]; exact e
      obtain ⟨F3, s3, n3, r3⟩ := n2.frzL e2
      refine ⟨F3, _, s.trans s3, n3, fun b hb => ?_, fun b hb ys ey => ?_⟩
      · rw [mdel_ne (fun z => hb (by rw [z]; exact List.mem_cons_self ..))]
        exact h1 b fun z => hb (List.mem_cons_of_mem _ z)
      · rcases List.mem_cons.mp hb with rfl | hb
        · rw [e] at ey; cases ey; exact r3
        · exact (h2 b hb ys ey).mono s3
    · refine ⟨F2, m2, s, n2, fun b hb => h1 b fun z => hb (List.mem_cons_of_mem _ z), fun b hb ys ey => ?_⟩
      rcases List.mem_cons.mp hb with rfl | hb
      · by_cases na : b ∈ as
        · exact h2 b na ys ey
        · exact absurd ⟨ys, ey, na⟩ q
      · exact h2 b hb ys ey
def celsK (kvs : List (Key × D)) : List Addr := kvs.filterMap fun kv => match kv.2 with
  | .cell a => some a
  | _ => none
def vwK (m : Mu) (kvs : List (Key × D)) : List (Key × D) := kvs.map fun kv => (kv.1, vw m kv.2)
theorem repK_vw {K : PySem.W.Frag} {F : Hp} {m : Mu} : ∀ {ws : List (Key × V)} {kvs : List (Key × D)}, RepK K F ws kvs → (∀ b, b ∈ celsK kvs → ∀ xs, m b = some (.lst xs) → Rep K F (.ref b) (.lst xs)) → RepK K F ws (vwK m kvs)
  | _, _, .nil, _ => .nil
  | _, _, .cons (k := k) (v := v) (d := d) (vs := ws) (ds := es) h r, q => by
    refine .cons ?_ (repK_vw r fun b hb => q b ?_)
    · cases d with
      | cell a =>
        cases h
        show Rep K F (.ref a) (match oL (m a) with | some xs => .lst xs | none => .cell a)
        cases e : m a with
        | none => exact .cell _
        | some y =>
          cases y with
          | lst xs => exact q a (List.mem_filterMap.mpr ⟨_, List.mem_cons_self .., rfl⟩) xs e
          | _ => exact .cell _
      | _ => exact h
    · obtain ⟨x, hx, e⟩ := List.mem_filterMap.mp hb
      exact List.mem_filterMap.mpr ⟨x, List.mem_cons_of_mem _ hx, e⟩
def rEqV (K : PySem.W.Frag) (b : Bool) : R2 := fun x y H Q => (∃ (F : Hp) (m : Mu) (r : Hp) (n : Nat) (p q : Addr) (ws us : List (Key × V)) (es : List (Key × D)), x = .ref p ∧ y = .ref q ∧ Rd H p (.dK ws) ∧ Rd H q (.dK us) ∧ n ≤ 60 ∧ Sn K F H m r ∧ RepK K F ws es ∧ RepK K F us es ∧ (es.map (·.1)).Nodup ∧ ∀ p, p ∈ es → SamD n p.2) ∧ Q (.bl b) H
theorem op_eqV {X : Cx} (hu : X.A.units + 64 < cLine) : OpR X (compareOp .Eq) (rEqV X.K true) := by
  intro pins s σ H x y v u Q I rx ry h
  obtain ⟨⟨F, m, r, n, p, q, ws, us, es, rfl, rfl, hp, hq, hl, hn, r1, r2, nd, hs⟩, qq⟩ := h
  cases (show v = Value.ref p from rx)
  cases (show u = Value.ref _ from ry)
  obtain ⟨_, ya, va, ra, da⟩ := dk_rd I.hok hp
  obtain ⟨_, yb, vb, rb, db⟩ := dk_rd I.hok hq
  refine PySem.W.rcP_dicts (knd := mixKind X.prog X.w) (r := true) ya yb da db (A := X.A) (by omega) (fun _ => hits_run (same_run I hn n X.A.in1 (by show X.A.units + 1 + n < cLine; omega)) rb ra (tw_dict r1 r2 nd hs)) _ _ ?_
  have e : va.length = vb.length := by rw [← ra.length, ← rb.length, repK_len r1, repK_len r2]
  rw [show (va.length == vb.length && true) = true from by rw [e]; simp]
  exact ⟨.bl true, H, I, rfl, qq⟩
theorem op_neV {X : Cx} (hu : X.A.units + 64 < cLine) : OpR X (compareOp .NotEq) (rEqV X.K false) := by
  intro pins s σ H x y v u Q I rx ry h
  obtain ⟨⟨F, m, r, n, p, q, ws, us, es, rfl, rfl, hp, hq, hl, hn, r1, r2, nd, hs⟩, qq⟩ := h
  cases (show v = Value.ref p from rx)
  cases (show u = Value.ref _ from ry)
  obtain ⟨_, ya, va, ra, da⟩ := dk_rd I.hok hp
  obtain ⟨_, yb, vb, rb, db⟩ := dk_rd I.hok hq
  refine PySem.W.rcNeP_dictsAb (knd := mixKind X.prog X.w) (r := true) ya yb da db (A := X.A) (by omega) (fun _ => hits_run (same_run I hn n X.A.in1 (by show X.A.units + 1 + n < cLine; omega)) rb ra (tw_dict r1 r2 nd hs)) _ _ ?_
  have e : va.length = vb.length := by rw [← ra.length, ← rb.length, repK_len r1, repK_len r2]
  rw [show (!(va.length == vb.length && true)) = false from by rw [e]; simp]
  exact ⟨.bl false, H, I, rfl, qq⟩
def eqVs (d e : D) (m : Mu) : Prop := ∃ kvs es n, asK m d = some kvs ∧ asK m e = some es ∧ vwK m kvs = vwK m es ∧ (kvs.map (·.1)).Nodup ∧ n ≤ 60 ∧ ∀ p, p ∈ kvs → SamD n (vw m p.2)
theorem eqVs_ok {K : PySem.W.Frag} {F H : Hp} {m : Mu} {r : Hp} {v u : V} {d e : D} {b : Bool} {Q : VK} (hn : Sn K F H m r) (h1 : Rep K F v d) (h2 : Rep K F u e) (h : eqVs d e m) (q : Q (.bl b) H) : rEqV K b v u H Q := by
  obtain ⟨kvs, es, n, e1, e2, ev, nd, hl, hs⟩ := h
  obtain ⟨p, ws, rfl, a1, r1⟩ := asK_ok hn h1 e1
  obtain ⟨p2, us, rfl, a2, r2⟩ := asK_ok hn h2 e2
  obtain ⟨F2, m2, s, n2, _, hf⟩ := frz_all (celsK kvs ++ celsK es) hn
  have q1 := repK_vw (m := m) (r1.mono s) fun b hb => hf b (List.mem_append_left _ hb)
  have q2 := repK_vw (m := m) (r2.mono s) fun b hb => hf b (List.mem_append_right _ hb)
  rw [← ev] at q2
  refine ⟨⟨F2, m2, r, n, p, p2, ws, us, vwK m kvs, rfl, rfl, a1, a2, hl, n2, q1, q2, ?_, fun x hx => ?_⟩, q⟩
  · unfold vwK
    rw [List.map_map]
    exact nd
  · obtain ⟨y, hy, rfl⟩ := List.mem_map.mp hx
    exact hs y hy
def bEqV : B2 := fun d e m Q => (eqVs d e m ∧ Q (.bl true) m) ∨ bEq d e m Q
def bNeV : B2 := fun d e m Q => (eqVs d e m ∧ Q (.bl false) m) ∨ bNe d e m Q
theorem c_eqV {X : Cx} (hu : X.A.units + 64 < cLine) : Cm X .Eq bEqV := cm_or ⟨_, op_eqV hu, fun F H m r v u d e Q Qc hn h1 h2 h k =>
  eqVs_ok hn h1 h2 h.1 (k F H m _ _ (Same.refl F) hn (.bl _) h.2)⟩ (c_eq hu)
theorem c_neV {X : Cx} (hu : X.A.units + 64 < cLine) : Cm X .NotEq bNeV := cm_or ⟨_, op_neV hu, fun F H m r v u d e Q Qc hn h1 h2 h k =>
  eqVs_ok hn h1 h2 h.1 (k F H m _ _ (Same.refl F) hn (.bl _) h.2)⟩ (c_ne hu)
theorem o_eqV {d e : D} {m : Mu} (h : eqVs d e m) : Op2 bEqV d e m (.bl true) := fun _ q => .inl ⟨h, q⟩
theorem o_neV {d e : D} {m : Mu} (h : eqVs d e m) : Op2 bNeV d e m (.bl false) := fun _ q => .inl ⟨h, q⟩
theorem o_eqVb {x y d : D} {m : Mu} (h : Op2 bEq x y m d) : Op2 bEqV x y m d := fun Q q => .inr (h Q q)
theorem o_neVb {x y d : D} {m : Mu} (h : Op2 bNe x y m d) : Op2 bNeV x y m d := fun Q q => .inr (h Q q)
end Ab
namespace Ab
open PySem PySem.Spec PyProof.Rows L2
def aiRev (ta : AE) : AI := fun e m Q X => ta e m (fun d m1 => ∃ xs, asLL m1 d = some xs ∧ Q xs.reverse (fun m => asLL m d = some xs) m1) X
theorem it_rev {K : PySem.W.Frag} {F : Hp} {p : Addr} {d : D} {xs : List D} (hr : Rep K F (.ref p) d) : ItOk K (Itv K p xs.length) F xs.reverse (fun m => asLL m d = some xs) := fun F2 H2 m2 r2 s2 n2 g2 => by
  obtain ⟨g3, hd⟩ := asS_of_LL g2
  obtain ⟨vs, h1, h2⟩ := sqL_at n2 (hr.mono s2) hd g3
  refine ⟨fun i hi => ?_, fun i hi => (by rw [List.length_reverse] at hi; exact hi)⟩
  rw [List.length_reverse] at hi
  have hv : xs.length - 1 - i < vs.length := by rw [h2.length]; omega
  refine ⟨⟨hi, vs, vs[xs.length - 1 - i], h1, List.getElem?_eq_getElem hv⟩, fun x H3 y => ?_⟩
  obtain ⟨rfl, y⟩ := y
  obtain ⟨e, h3, h4⟩ := h2.get (y vs h1)
  exact ⟨F2, e, Same.refl F2, n2, by rw [List.getElem?_reverse hi]; exact h3, h4⟩
theorem qi_rev {X : Cx} {tg e : Expr} {p pos : Pos} {ta : AE} (hm : X.mg "reversed" = none) (ha : QE X e ta) (hg : Gl X "reversed" := by rfl) (hs : starEach [e] X.env = (false, eval e X.env) :: starEach [] X.env := by rfl) : QI X tg (.Call (.Name "reversed" p) [e] [] pos) (aiRev ta) :=
  fun W tk => pi_imp (RT.pi_revA hg hm (ha W tk) hs) fun s H R h => by
    obtain ⟨F, e, m, r, Q, X, he, hn, h, g, gx⟩ := h
    refine ⟨F, e, m, r, _, X, he, hn, h, fun F1 H1 m1 v d s1 n1 r1 q1 => ?_, gx⟩
    obtain ⟨xs, hx, q⟩ := q1
    obtain ⟨p, vs, rfl, e2, r2⟩ := asLL_ok n1 r1 hx
    exact ⟨p, vs, rfl, .inl ⟨e2, by rw [r2.length]; exact g F1 H1 m1 _ _ _ s1 n1 (it_rev r1) q⟩⟩
theorem ei_rev {e : De} {m : Mu} {ta : AE} {d : D} {xs : List D} (h : Ev ta e m d) (hx : asLL m d = some xs) : ∀ Q X, Q xs.reverse (fun m => asLL m d = some xs) m → aiRev ta e m Q X := fun _ _ q => h _ _ ⟨xs, hx, q⟩
/-! ### dict of a list of pairs -/
def bDictP (mt : Bool) : BA := fun ds m Q => bDict mt ds m Q ∨ ∃ d es, ds = [d] ∧ asLL m d = some (prs es) ∧ newD mt (mrg [] es) m Q
theorem pairs_rep {K : PySem.W.Frag} {F H : Hp} {m : Mu} {r : Hp} (hn : Sn K F H m r) : ∀ {es : List (Key × D)} {vs : List V}, RepL K F vs (prs es) → ∃ (ps : List Addr) (kvs : List (Key × V)), vs = ps.map V.ref ∧ Paired (fun p kv => SqT K H p [kV kv.1, kv.2]) ps kvs ∧ RepK K F kvs es
  | [], _, h => by
    cases h
    exact ⟨[], [], rfl, .nil, .nil⟩
  | (k, d) :: es, _, h => by
    cases h with
    | cons h1 h2 =>
      obtain ⟨ps, kvs, rfl, hp, hr⟩ := pairs_rep hn h2
      cases h1 with
      | tup e1 r1 =>
        rename_i a xs
        cases r1 with
        | cons ra rb =>
          cases rb with
          | cons rc rd =>
            cases rd
            rename_i v1 v2
            have e : v1 = kV k := by
              cases k <;> (cases ra; rfl)
            subst e
            exact ⟨a :: ps, (k, v2) :: kvs, rfl, .cons (hn.sqT e1) hp, .cons rc hr⟩
theorem s_dictP {K : PySem.W.Frag} (mt : Bool) : SA K (fun xs H Q => (∃ (a : Addr) (kvs : List (Key × V)), xs = [.ref a] ∧ Rd H a (.dK kvs) ∧ ∀ p, H p = none → Q (.ref p) (upd H p (.dK kvs))) ∨ ∃ (a : Addr) (ps : List Addr) (kvs : List (Key × V)), xs = [.ref a] ∧ SqL K H a (ps.map V.ref) ∧ Paired (fun p kv => SqT K H p [kV kv.1, kv.2]) ps kvs ∧
    ∀ p, H p = none → Q (.ref p) (upd H p (.dK (mergeK [] kvs)))) (bDictP mt) := by
  intro F H m r vs ds Q Qc hn hr h k
  rcases h with h | ⟨d, es, rfl, hx, q⟩
  · exact .inl (s_dict mt F H m r vs ds Q Qc hn hr h k)
  · obtain ⟨v, rfl, rv⟩ := repL1 hr
    obtain ⟨p, vs, rfl, e2, r2⟩ := asLL_ok hn rv hx
    obtain ⟨ps, kvs, rfl, hp, hk⟩ := pairs_rep hn r2
    exact .inr ⟨p, ps, kvs, rfl, e2, hp, fun l hl => newD_ok hn (RepK.mrg hk .nil) q k l hl⟩
theorem q_dictP {X : Cx} {a : Expr} {es : List Expr} {tr : AA} {pos : Pos} (mt : Bool) {p : Pos} (hc : X.calm = true) (hm : X.mg "dict" = none) (ha : QA X (a :: es) tr) (hg : Gl X "dict" := by rfl)
    (he : starEach (a :: es) X.env = (false, eval a X.env) :: starEach es X.env := by rfl) (hpl : (backTo pos (starEach es X.env)).any (·.1) = false := by rfl) : QE X (.Call (.Name "dict" p) (a :: es) [] pos) (aCB (bDictP mt) tr) :=
  q_callTy (call_dictD.or (call_dictP hc)) (s_dictP mt) hm (by decide +kernel) ha hg (by decide) (by decide) he hpl
theorem o_dictP {d : D} {m : Mu} {es : List (Key × D)} (h : asLL m d = some (prs es)) (nd : (es.map (·.1)).Nodup) : OpA (bDictP false) [d] m (.dic es) := fun Q q => .inr ⟨d, es, rfl, h, by rw [mrg_nil nd]; exact q⟩
theorem s_dP {m : Mu} {d : D} {es : List (Key × D)} {Q : QD} (hx : asLL m d = some (prs es)) (nd : (es.map (·.1)).Nodup) (q : ∀ p, m p = none → Q (.cell p) (mset m p (.dic false es))) : bDictP true [d] m Q := .inr ⟨d, es, rfl, hx, by rw [mrg_nil nd]; exact q⟩
theorem x_cb {b : BA} {tr : AA} {e : De} {m : Mu} {Q : QD} {X : XA} (h : tr e m (fun ds m1 => b ds m1 Q) X) : aCB b tr e m Q X := h
end Ab
namespace Ab
open PySem PySem.Spec PyProof.Rows L2
def aDSetd (td ty tx : AE) : AE := fun e m Q X => td e m (fun x m1 => ∃ a kvs, x = .cell a ∧ m1 a = some (.dic false kvs) ∧ ty e m1 (fun y m2 => tx e m2 (fun z m3 => ∃ kvs k, m3 a = some (.dic false kvs) ∧ keyD y = some k ∧ kvs.length < sizeLine ∧
  (∀ v, lkp kvs k = some v → Q v m3) ∧ (lkp kvs k = none → Q z (mset m3 a (.dic false (put kvs k z))))) X) X) X
theorem low_dsetd {K : PySem.W.Frag} {W : WX} {td ty tx : AE} {s : L2.St} {H : Hp} {Qc : VK} (h : cE K W (aDSetd td ty tx) s H Qc) : tDSetd (cE K W td) (cE K W ty) (cE K W tx) s H Qc := by
  obtain ⟨F, e, m, r, Q, X, he, hn, h, g, gx⟩ := h
  refine ⟨F, e, m, r, _, X, he, hn, h, fun F1 H1 m1 v d s1 n1 r1 q1 => ?_, gx⟩
  obtain ⟨a, kvs, rfl, hm, q1⟩ := q1
  cases r1
  obtain ⟨ws, k1, _⟩ := s_mu n1 hm
  refine ⟨a, rfl, .inl ⟨ws, .inl k1⟩, F1, e, m1, r, _, X, he.mono s1, n1, q1, fun F2 H2 m2 u y s2 n2 ry q2 => ?_, gx.mono s1⟩
  refine ⟨F2, e, m2, r, _, X, he.mono (s1.trans s2), n2, q2, fun F3 H3 m3 w z s3 n3 rz q3 => ?_, gx.mono (s1.trans s2)⟩
  obtain ⟨kvs3, k, hm3, ky, hl, h1, h2⟩ := q3
  obtain ⟨ws3, k3, r3⟩ := s_mu n3 hm3
  have gg := g.mono (s1.trans (s2.trans s3))
  refine ⟨ws3, k, k3, key_ok (ry.mono s3) ky, by rw [r3.length]; exact hl, fun v hv => ?_, fun hv => ?_⟩
  · cases e : lkp kvs3 k with
    | none => rw [lkp_none_of r3 e] at hv; cases hv
    | some d =>
      obtain ⟨w', e4, rw'⟩ := r3.lkp_some e
      rw [hv] at e4
      cases e4
      exact gg F3 H3 m3 _ _ (Same.refl F3) n3 rw' (h1 d e)
  · cases e : lkp kvs3 k with
    | some d =>
      obtain ⟨w', e4, rw'⟩ := r3.lkp_some e
      rw [hv] at e4; cases e4
    | none => exact gg F3 _ _ _ _ (Same.refl F3) (Sn.upD n3 hm3 k3 (fun _ _ z => nomatch z) (RepK.put rz r3)) rz (h2 e)
theorem q_dsetd {X : Cx} {o a b : Expr} {apos cpos : Pos} {td ty tx : AE} (ho : QE X o td) (ha : QE X a ty) (hb : QE X b tx) (m : M2 X o "setdefault" apos a b cpos := by exact ⟨by rfl, by rfl, by rfl, by rfl⟩) : QE X (.Call (.Attribute o "setdefault" apos) [a, b] [] cpos) (aDSetd td ty tx) :=
  fun W tk => (pe_dsetd (ho W tk) (ha W tk) (hb W tk) m).imp fun _ _ _ h => low_dsetd h
theorem k_dsetd {N B C : De → Mu → Prop} {R : QD} {E : Ex → De → Mu → Prop} {e : De} {m : Mu} {td ty tx : AE} {a : Addr} {kvs : List (Key × D)} {y z : D} {k : Key} (ho : Ev td e m (.cell a)) (hm : m a = some (.dic false kvs)) (hy : Ev ty e m y) (hz : Ev tx e m z) (ky : keyD y = some k) (hl : kvs.length < sizeLine)
    (h1 : ∀ v, lkp kvs k = some v → N e m) (h2 : lkp kvs k = none → N e (mset m a (.dic false (put kvs k z)))) : aDrop (aDSetd td ty tx) ⟨N, R, B, C, E⟩ e m :=
  ho _ _ ⟨a, kvs, rfl, hm, hy _ _ (hz _ _ ⟨kvs, k, hm, ky, hl, h1, h2⟩)⟩
/-! ### max(d.values()) -/
section
variable {X : Cx}
def tValsP (td : TE) : TE := fun σ H Q => td σ H fun x H1 => ∃ a kvs, x = .ref a ∧ Rd H1 a (.dK kvs) ∧ ∀ p, H1 p = none → Q (.ref p) (upd H1 p (viewO "dict_values" p a))
theorem pe_valsP {e : Expr} {td : TE} {apos cpos : Pos} (he : PE X e td) (hbase : attributeBase e "values" X.env (eval e X.env) = eval e X.env := by rfl) (hline : (apos.endLine == cpos.line) = true := by rfl) : PE X (.Call (.Attribute e "values" apos) [] [] cpos) (tValsP td) := by
  refine ⟨fun pins s σ H Q I h => ?_⟩
  refine wpAny_Call_method (T := "dict") (id := "dict.values") hbase rfl hline F.plainAttrs_dict F.slot_dict_values F.type_dict_values (thn (he.run pins s σ H _ I h) fun u s1 ⟨x, H1, I1, rx, a, kvs, ex, hd, q⟩ => ?_)
  subst ex
  obtain rfl : u = Value.ref a := rx
  obtain ⟨z, hs, vs, rel, dd⟩ := dk_rd I1.hok hd
  refine ⟨dd.typeIs, dd.mapOf.noDict, ?_⟩
  show wpAny _ _ (callWith cpos (.builtin "dict.values") [.ref a] [] []) _ X.xe s1
  exact method_meetsIn F.slot_dict_values F.entry_dict_values rfl (PySem.evalArgs_none ⟨rfl, dd.typeIs, F.args_dict_values_1 _, _, meets_dict_values (mixKind X.prog X.w) a hs, ⟨vs, dd⟩, ⟨.ref s1.heap.objs.size, _, I1.laid (t' := s1.toks) (fun b o q => Heap.get?_push_of_some _ q) (Nat.le_refl _) (viewO_ok (Heap.get?_push_size _ rfl)), rfl, q _ (I1.hok.fresh (Nat.le_refl _))⟩⟩)
def rMaxV : List V → Hp → VK → Prop := fun xs H Q => ∃ (p a : Addr) (kvs : List (Key × V)) (ns : List Int), xs = [.ref p] ∧ H p = some (viewO "dict_values" p a) ∧ Rd H a (.dK kvs) ∧ kvs.map Prod.snd = ns.map V.int ∧ 0 < ns.length ∧ ∀ m, m ∈ ns → (∀ y, y ∈ ns → y ≤ m) → Q (.int m) H
theorem cr_maxV (hc : X.calm = true) : CallR X (.builtin "max") rMaxV := by
  intro pins s σ H xs us Q I rx h
  obtain ⟨p, a, kvs, ns, rfl, hp, hd, hns, hne, q⟩ := h
  rw [Vals.ref1 rx]
  obtain ⟨z, hs, vs, rel, dd⟩ := dk_rd I.hok hd
  obtain ⟨ob, es, ep, hob, hcls, hda, hka, hpa, hrest⟩ := dd
  have hv : s.heap.get? p = some (DSub.viewOb "dict_values" a) := (show ObjOk X.prog X.w H s.heap p (viewO "dict_values" p a) from I.hok p _ hp).1
  have hkn : kvs.length = ns.length := by
    have e := congrArg List.length hns
    rw [List.length_map, List.length_map] at e
    exact e
  have hsz0 : es.size = vs.length := by rw [← hpa.length]; exact Array.length_toList.symm
  have hsz : es.size = ns.length := by rw [hsz0, ← rel.length]; exact hkn
  have hP : ∀ (i : Nat) (e : DictEntry), es[i]? = some e → ∃ t, e.val = .int (ns.getD i 0) t := fun i e he => by
    have hi : i < es.size := by
      rcases Nat.lt_or_ge i es.size with z | z
      · exact z
      · rw [Array.getElem?_eq_none z] at he
        cases he
    have hi2 : i < kvs.length := by omega
    have hi3 : i < ns.length := by omega
    obtain ⟨u, hu, ru⟩ := kv_get rel (i := i) (k := kvs[i].1) (v := kvs[i].2) (List.getElem?_eq_getElem hi2)
    obtain ⟨h1, h2⟩ := hpa.get? (i := i) (e := e) (by rw [Array.getElem?_toList]; exact he) hu
    have e2 : kvs[i].2 = V.int ns[i] := by
      have z : (kvs.map Prod.snd)[i]? = (ns.map V.int)[i]? := by rw [hns]
      rw [List.getElem?_map, List.getElem?_map, List.getElem?_eq_getElem hi2, List.getElem?_eq_getElem hi3] at z
      exact Option.some.inj z
    have e3 : ns.getD i 0 = ns[i] := by rw [List.getD_eq_getElem?_getD, List.getElem?_eq_getElem hi3] <;> rfl
    rw [e3, h2]
    rw [e2] at ru
    exact ru
  refine call_max_walk ?_
  refine DSub.iter_vals hv hob hda ?_
  have ha : a < s.heap.objs.size := Heap.lt_size hob
  refine ⟨s.heap.objs.size, [s.heap.objs.size, a], [s.heap.objs.size], es.size, fun i v => ∃ t, v = .int (ns.getD i 0) t, _, fun i j => decide (ns.getD i 0 > ns.getD j 0), rfl, DSub.walksVal (a := a) (show X.A.in1.handled = none from I.ok.hd hc) (Nat.ne_of_lt ha) hda hP, ⟨Heap.get?_push_size _ rfl, Heap.get?_push_of_some _ hob⟩, fun b hb => ?_, by omega, CmpOf.ints_gt (fun i => ns.getD i 0) (fun i v z => z), fun v h' tk hv' hk => ?_⟩
  · show b < (s.heap.push _).objs.size
    rw [size_push']
    rcases List.mem_cons.mp hb with z | z
    · rw [z]
      exact Nat.lt_succ_self _
    · rw [List.mem_singleton.mp z]
      exact Nat.lt_succ_of_lt ha
  · obtain ⟨t, rfl⟩ := hv'
    obtain ⟨m1', m2'⟩ := argBest_gt (fun i => ns.getD i 0) (es.size - 1)
    have m1 : argBest (fun i j => decide (ns.getD i 0 > ns.getD j 0)) (es.size - 1) ≤ es.size - 1 := m1'
    have m2 : ∀ j, j ≤ es.size - 1 → ns.getD j 0 ≤ ns.getD (argBest (fun i j => decide (ns.getD i 0 > ns.getD j 0)) (es.size - 1)) 0 := m2'
    have hk2 : ∀ b o, s.heap.get? b = some o → h'.get? b = some o := fun b o e => hk b o (fun z => by rw [List.mem_singleton.mp z] at e; exact absurd (Heap.lt_size e) (Nat.lt_irrefl _)) (Heap.get?_push_of_some _ e)
    refine ⟨.int _, H, I.kept (t' := tk) hk2, ⟨t, rfl⟩, q _ (PySem.getD_mem (by omega)) fun y hy => ?_⟩
    obtain ⟨j, hj, e⟩ := List.mem_iff_getElem.mp hy
    have z := m2 j (by omega)
    have e3 : ns.getD j 0 = y := by rw [List.getD_eq_getElem?_getD, List.getElem?_eq_getElem hj, ← e] <;> rfl
    rw [e3] at z
    exact z
def aMaxV (td : AE) : AE := fun e m Q X => td e m (fun x m1 => ∃ (kvs : List (Key × D)) (ns : List Int), asK m1 x = some kvs ∧ kvs.map Prod.snd = ns.map D.int ∧ 0 < ns.length ∧ ∀ k, k ∈ ns → (∀ y, y ∈ ns → y ≤ k) → Q (.int k) m1) X
theorem repK_ints {K : PySem.W.Frag} {F : Hp} : ∀ {ws : List (Key × V)} {kvs : List (Key × D)} {ns : List Int}, RepK K F ws kvs → kvs.map Prod.snd = ns.map D.int → ws.map Prod.snd = ns.map V.int
  | _, _, [], .nil, _ => rfl
  | _, _, n :: ns, .nil, h => by cases h
  | _, _, [], .cons _ _, h => by cases h
  | _, _, n :: ns, .cons (k := k) (v := v) (d := d) (vs := ws) (ds := es) h r, e => by
    rw [List.map_cons, List.map_cons] at e
    obtain ⟨e1, e2⟩ := List.cons.inj e
    have e1 : d = D.int n := e1
    subst e1
    cases h
    rw [List.map_cons, List.map_cons, repK_ints r e2]
theorem q_maxV {a : Expr} {apos cpos pos p : Pos} {td : AE} (hc : X.calm = true) (hm : X.mg "max" = none) (ha : QE X a td) (hbase : attributeBase a "values" X.env (eval a X.env) = eval a X.env := by rfl) (hline : (apos.endLine == cpos.line) = true := by rfl) (hg : Gl X "max" := by rfl)
    (he : starEach [(.Call (.Attribute a "values" apos) [] [] cpos)] X.env = (false, eval (.Call (.Attribute a "values" apos) [] [] cpos) X.env) :: starEach [] X.env := by rfl) (hpl : (backTo pos (starEach [] X.env)).any (·.1) = false := by rfl) :
    QE X (.Call (.Name "max" p) [.Call (.Attribute a "values" apos) [] [] cpos] [] pos) (aMaxV td) := fun W tk =>
  (pe_callB (cr_maxV hc) hg hm (by decide +kernel) (pa_cons (pe_valsP (ha W tk) hbase hline) pa_nil he) (by decide) (by decide) he hpl).imp fun s H Qc h => by
    obtain ⟨F, e, m, r, Q, X, he, hn, h, g, gx⟩ := h
    refine ⟨F, e, m, r, _, X, he, hn, h, fun F1 H1 m1 v d s1 n1 r1 q1 => ?_, gx⟩
    obtain ⟨kvs, ns, hk, en, hl, q⟩ := q1
    obtain ⟨a, ws, rfl, e2, r2⟩ := asK_ok n1 r1 hk
    refine ⟨a, ws, rfl, e2, fun p hp => ⟨p, a, ws, ns, rfl, upd_same, ?_, repK_ints r2 en, hl, fun k h1 h2 => ?_⟩⟩
    · rcases e2 with z | ⟨o, z⟩
      · exact .inl (by rw [upd_ne (fun w => by rw [w, hp] at z; cases z)]; exact z)
      · exact .inr ⟨o, by rw [upd_ne (fun w => by rw [w, hp] at z; cases z)]; exact z⟩
    · exact g _ _ m1 _ _ (s1.trans (n1.same hp _)) (n1.new hp _) (.int _) (q k h1 h2)
end
theorem ev_maxV {e : De} {m : Mu} {td : AE} {x : D} {kvs : List (Key × D)} {ns : List Int} {k : Int} (h : Ev td e m x) (hk : asK m x = some kvs) (en : kvs.map Prod.snd = ns.map D.int) (h1 : k ∈ ns) (h2 : ∀ y, y ∈ ns → y ≤ k) : Ev (aMaxV td) e m (.int k) := fun Q X q => h _ _ ⟨kvs, ns, hk, en, List.length_pos_of_mem h1, fun j a b => by
  have : j = k := Int.le_antisymm (h2 j a) (b k h1)
  rw [this]; exact q⟩
end Ab
namespace Ab
open PySem PySem.Spec PyProof.Rows L2
def tChain3 (r r' r'' : R2) (ta tb tc td : TE) : TE := fun σ H Q => ta σ H fun x H1 => tb σ H1 fun y H2 => r x y H2 fun z H3 => ∃ k, z = .bl k ∧
  (if k = true then tc σ H3 fun w' H4 => r' y w' H4 fun z2 H5 => ∃ k2, z2 = .bl k2 ∧ (if k2 = true then td σ H5 fun w2 H6 => r'' w' w2 H6 Q else Q (.bl false) H5) else Q (.bl false) H3)
section
variable {X : Cx} {a b c d : Expr} {pos : Pos}
theorem pt_chain3 {op op' op'' : CmpOp} {r r' r'' : R2} {ta tb tc td : TE} (ho : OpR X (compareOp op) r) (ho' : OpR X (compareOp op') r') (ho'' : OpR X (compareOp op'') r'') (ha : PE X a ta) (hb : PE X b tb) (hc : PE X c tc) (hd : PE X d td)
    (hm : lastMarks [op, op', op''] [b, c, d] = false := by with_unfolding_all rfl) : PT X (.Compare a [op, op', op''] [b, c, d] pos) (tTest (tChain3 r r' r'' ta tb tc td)) := by
  refine ⟨fun pins s σ H Q I h => ?_⟩
  refine isTrue_chain (thn (ha.run pins s σ H _ I h) fun v s1 ⟨x, H1, I1, r1, q1⟩ => test_link (thn (hb.run pins s1 σ H1 _ I1 q1) fun u s2 ⟨y, H2, I2, r2, q2⟩ =>
    thn (ho pins s2 σ H2 x y v u _ I2 r1 r2 q2) fun d s3 ⟨z, H3, I3, r3, k, e, q3⟩ => ?_)) hm
  subst e
  cases r3
  refine wpAny_truthy_bool ?_
  cases k with
  | false =>
    obtain ⟨k', e', q'⟩ := q3
    cases e'
    exact ite_ff ⟨H3, I3, q'⟩
  | true =>
    refine ite_tt (test_link (thn (hc.run pins s3 σ H3 _ I3 q3) fun w' s4 ⟨z', H4, I4, r4, q4⟩ => thn (ho' pins s4 σ H4 y z' u w' _ I4 r2 r4 q4) fun d' s5 ⟨z2, H5, I5, r5, k2, e2, q5⟩ => ?_))
    subst e2
    cases r5
    refine wpAny_truthy_bool ?_
    cases k2 with
    | false =>
      obtain ⟨k', e', q'⟩ := q5
      cases e'
      exact ite_ff ⟨H5, I5, q'⟩
    | true =>
      refine ite_tt (test_last (thn (hd.run pins s5 σ H5 _ I5 q5) fun w2 s6 ⟨z3, H6, I6, r6, q6⟩ => thn (ho'' pins s6 σ H6 z' z3 w' w2 _ I6 r4 r6 q6) fun d2 s7 ⟨z4, H7, I7, r7, k3, e3, q7⟩ => ?_))
      subst e3
      cases r7
      exact wpAny_truthy_bool ⟨H7, I7, q7⟩
end
def aChain3 (b b' b'' : B2) (ta tb tc td : AE) : AE := fun e m Q X => ta e m (fun x m1 => tb e m1 (fun y m2 => b x y m2 fun z m3 => ∃ k, z = .bl k ∧ if k = true then tc e m3 (fun w m4 => b' y w m4 fun z2 m5 => ∃ k2, z2 = .bl k2 ∧ if k2 = true then td e m5 (fun w2 m6 => b'' w w2 m6 Q) X else Q (.bl false) m5) X else Q (.bl false) m3) X) X
theorem low_chain3 {K : PySem.W.Frag} {W : WX} {rd rd' rd'' : R2} {b1 b2 b3 : B2} {ta tb tc td : AE} (h1 : S2 K rd b1) (h2 : S2 K rd' b2) (h3 : S2 K rd'' b3) {s : L2.St} {H : Hp} {Qc : VK} (h : cE K W (aChain3 b1 b2 b3 ta tb tc td) s H Qc) : tChain3 rd rd' rd'' (cE K W ta) (cE K W tb) (cE K W tc) (cE K W td) s H Qc := by
  obtain ⟨F, e, m, r, Q, X, he, hn, h, g, gx⟩ := h
  refine ⟨F, e, m, r, _, X, he, hn, h, fun F1 H1 m1 v d s1 n1 r1 q1 => ?_, gx⟩
  refine ⟨F1, e, m1, r, _, X, he.mono s1, n1, q1, fun F2 H2 m2 u d2 s2 n2 r2 q2 => ?_, gx.mono s1⟩
  refine h1 F2 H2 m2 r v u d d2 _ _ n2 (r1.mono s2) r2 q2 fun F3 H3 m3 z dz s3 n3 r3 q3 => ?_
  obtain ⟨k, rfl, q3⟩ := q3
  cases r3
  refine ⟨k, rfl, ?_⟩
  have s13 := s1.trans (s2.trans s3)
  cases k with
  | false => exact g F3 H3 m3 _ _ s13 n3 (.bl false) q3
  | true =>
    show cE K W tc s H3 _
    refine ⟨F3, e, m3, r, _, X, he.mono s13, n3, q3, fun F4 H4 m4 w dw s4 n4 r4 q4 => ?_, gx.mono s13⟩
    refine h2 F4 H4 m4 r u w d2 dw _ _ n4 (r2.mono (s3.trans s4)) r4 q4 fun F5 H5 m5 z dz s5 n5 r5 q5 => ?_
    obtain ⟨k, rfl, q5⟩ := q5
    cases r5
    refine ⟨k, rfl, ?_⟩
    have s15 := s13.trans (s4.trans s5)
    cases k with
    | false => exact g F5 H5 m5 _ _ s15 n5 (.bl false) q5
    | true =>
      show cE K W td s H5 _
      refine ⟨F5, e, m5, r, _, X, he.mono s15, n5, q5, fun F6 H6 m6 w2 dw2 s6 n6 r6 q6 => ?_, gx.mono s15⟩
      exact h3 F6 H6 m6 r w w2 dw dw2 Q Qc n6 (r4.mono (s5.trans s6)) r6 q6 (g.mono (s15.trans s6))
theorem qt_chain3 {X : Cx} {a b c d : Expr} {pos : Pos} {ta tb tc td : AE} {op op' op'' : CmpOp} {b1 b2 b3 : B2} (h1 : Cm X op b1) (h2 : Cm X op' b2) (h3 : Cm X op'' b3) (ha : QE X a ta) (hb : QE X b tb) (hc : QE X c tc) (hd : QE X d td) (hm : lastMarks [op, op', op''] [b, c, d] = false := by with_unfolding_all rfl) : QT X (.Compare a [op, op', op''] [b, c, d] pos) (aB (aChain3 b1 b2 b3 ta tb tc td)) := by
  obtain ⟨r1, o1, s1⟩ := h1
  obtain ⟨r2, o2, s2⟩ := h2
  obtain ⟨r3, o3, s3⟩ := h3
  exact fun W tk => (pt_chain3 o1 o2 o3 (ha W tk) (hb W tk) (hc W tk) (hd W tk) hm).imp fun _ _ _ h => low_chain3 s1 s2 s3 (cE_of_B h)
theorem ev_chain3 {e : De} {m : Mu} {b1 b2 b3 : B2} {ta tb tc td : AE} {x y z w : D} (ha : Ev ta e m x) (hb : Ev tb e m y) (h1 : Op2 b1 x y m (.bl true)) (hc : Ev tc e m z) (h2 : Op2 b2 y z m (.bl true)) (hd : Ev td e m w) {k : Bool} (h3 : Op2 b3 z w m (.bl k)) : Ev (aChain3 b1 b2 b3 ta tb tc td) e m (.bl k) := fun Q X q => ha _ _ (hb _ _ (h1 _ ⟨true, rfl, by
  rw [if_pos rfl]
  exact hc _ _ (h2 _ ⟨true, rfl, by
    rw [if_pos rfl]
    exact hd _ _ (h3 _ q)⟩)⟩))
/-! ### max of three -/
def bMax3 : BA := fun ds m Q => ∃ i j k : Int, ds = [.int i, .int j, .int k] ∧ Q (.int (max (max i j) k)) m
theorem nuMax2_int (i j : Int) : nuMax2 (.int i) (.int j) = some (.int (max i j)) := by
  unfold nuMax2
  have e : nuLt (.int i) (.int j) = some (decide (i < j)) := rfl
  rw [e]
  by_cases h : i < j
  · rw [decide_eq_true h]
    show some (V.int j) = _
    rw [Int.max_eq_right (by omega)]
  · rw [decide_eq_false h]
    show some (V.int i) = _
    rw [Int.max_eq_left (by omega)]
theorem s_max3 {K : PySem.W.Frag} : SA K (fun xs H Q => ∃ x y w z, xs = [x, y, w] ∧ nuMax3 x y w = some z ∧ Q z H) bMax3 := by
  intro F H m r vs ds Q Qc hn hr h k
  obtain ⟨i, j, l, rfl, q⟩ := h
  obtain ⟨v, u, w, rfl, rv, ru, rw_⟩ := repL3 hr
  cases rv; cases ru; cases rw_
  refine ⟨_, _, _, .int (max (max i j) l), rfl, ?_, k F H m _ _ (Same.refl F) hn (.int _) q⟩
  unfold nuMax3
  rw [nuMax2_int]
  exact nuMax2_int _ _
theorem q_max3 {X : Cx} {a : Expr} {es : List Expr} {tr : AA} {pos : Pos} (hc : X.calm = true) {p : Pos} (hm : X.mg "max" = none) (ha : QA X (a :: es) tr) (hg : Gl X "max" := by rfl)
    (he : starEach (a :: es) X.env = (false, eval a X.env) :: starEach es X.env := by rfl) (hpl : (backTo pos (starEach es X.env)).any (·.1) = false := by rfl) : QE X (.Call (.Name "max" p) (a :: es) [] pos) (aCB bMax3 tr) :=
  q_callB (call_max3Nu hc) s_max3 hm (by decide +kernel) ha hg (by decide) (by decide) he hpl
theorem o_max3 {m : Mu} {i j k : Int} : OpA bMax3 [.int i, .int j, .int k] m (.int (max (max i j) k)) := fun _ q => ⟨i, j, k, rfl, q⟩
end Ab
namespace Ab
open PySem PySem.W PySem.Challenge He L2
/-- try: t / except ..: .. / else: u, where t raises nothing: the clauses are never looked at -/
def aThru (t u : AS) : AS := fun A e m => t ⟨u A, A.rt, A.bk, A.ct, fun _ _ _ => False⟩ e m
section
variable {X : Cx}
theorem qs_tryThru {body orelse : List Stmt} {h₀ : ExceptHandler} {hds : List ExceptHandler} {pos : Pos} {t u : AS} (hb : QSs X.nox body t) (ho : QSs X orelse u) :
    QS X (.Try body (h₀ :: hds) orelse [] pos) (aThru t u) := fun W tk po => (ps_try_thru (hb W0 takes_w0 PassesOwn.never) (ho W tk po)).imp fun D s H ⟨F, e, m, r, A, he, hn, h, g⟩ =>
  ⟨F, e, m, r, _, he, hn, h, ⟨fun F1 H1 m1 s1 e1 k he1 n1 q => ⟨F1, e1, m1, r, A, he1, n1, q, g.mono k⟩, g.rt, g.bk, g.ct, fun _ _ _ _ _ _ _ _ _ _ _ _ q => q.elim⟩⟩
end
theorem k_thru {t u : AS} {N R B C E e m} (h : t ⟨u ⟨N, R, B, C, E⟩, R, B, C, fun _ _ _ => False⟩ e m) : aThru t u ⟨N, R, B, C, E⟩ e m := h
end Ab
namespace Ab
open PySem PySem.Spec PyProof.Rows L2
section
variable {X : Cx}
def rCountL (K : PySem.W.Frag) : V → List V → Hp → VK → Prop := fun x xs H Q => ∃ (a : Addr) (ys : List V) (y : V), x = V.ref a ∧ xs = [y] ∧ SqL K H a ys ∧ flatV y = true ∧ ys.all flatV = true ∧ Q (.int ((ys.countP fun z => eqV z y : Nat) : Int)) H
theorem countU {x : V} : ∀ {ys : List V} {us : List Value}, Vals ys us → ys.all flatV = true → us.countP (eqU x) = ys.countP fun z => eqV z x
  | _, _, .nil, _ => rfl
  | y :: ys, u :: us, .cons r t, f => by
    rw [List.all_cons, Bool.and_eq_true] at f
    rw [List.countP_cons, List.countP_cons, countU t f.2, eqU_of r f.1]
theorem mt_countL : MtR X "list.count" (rCountL X.K) := by
  intro pins s σ H x xs v us Q I rx rxs h
  obtain ⟨a, ys, y, rfl, rfl, hs, fy, fys, q⟩ := h
  cases rx
  cases rxs with
  | cons ry rt =>
    rename_i uy ut
    cases rt
    obtain ⟨its, rv, ⟨⟨cls, dd, data, sl⟩, n, ho, hc, hdn, hd⟩, hlen⟩ := I.list hs
    simp only at hc hd
    subst hc hd
    refine call_meets PySem.F.slot_list_count ⟨_, ho, rfl⟩ PySem.F.entry_list_count (PySem.F.args_list_count_2 _ _)
      (SeqAt.list_countAt a its.toArray n dd sl uy (eqU y)) ⟨ho, fun u' hu' => mem_eqAt ry fy rv fys u' (by simpa using hu'), ?_⟩
    have e : (its.toArray.toList.countP (eqU y)) = ys.countP fun z => eqV z y := countU rv fys
    rw [e]
    exact ⟨.int _, H, I.tok _, ⟨_, rfl⟩, q⟩
def bCountL : BM := fun d ds m Q => ∃ (xs : List D) (y : D), ds = [y] ∧ asLL m d = some xs ∧ flatD y = true ∧ xs.all flatD = true ∧ Q (.int ((xs.countP fun z => eqD z y : Nat) : Int)) m
theorem countV {K : PySem.W.Frag} {F : Hp} {y : D} {u : V} (ru : Rep K F u y) (fy : flatD y = true) : ∀ {xs : List D} {us : List V}, RepL K F us xs → xs.all flatD = true → us.countP (fun z => eqV z u) = xs.countP fun z => eqD z y
  | [], _, h, _ => by cases h; rfl
  | d :: ds, _, h, f => by
    cases h with
    | cons h1 h2 =>
      rw [List.all_cons, Bool.and_eq_true] at f
      rw [List.countP_cons, List.countP_cons, countV ru fy h2 f.2, eqV_ok h1 ru f.1 fy]
theorem s_countL {K : PySem.W.Frag} : SM K (rCountL K) bCountL := by
  intro F H m r v d vs ds Q Qc hn hv hr h k
  obtain ⟨xs, y, rfl, hx, fy, fx, q⟩ := h
  obtain ⟨u, rfl, ru⟩ := repL1 hr
  obtain ⟨p, us, rfl, e2, r2⟩ := asLL_ok hn hv hx
  refine ⟨p, us, u, rfl, rfl, e2, flat_ok ru fy, flat_all r2 fx, ?_⟩
  rw [countV ru fy r2 fx]
  exact k F H m _ _ (Same.refl F) hn (.int _) q
end
section
variable {m : Mu}
theorem o_countL {xs : List D} {y : D} (fy : flatD y = true) (fx : xs.all flatD = true) : OpM bCountL (.lst xs) [y] m (.int ((xs.countP fun z => eqD z y : Nat) : Int)) := fun Q q => ⟨xs, y, rfl, rfl, fy, fx, q⟩
end
end Ab
namespace L_k24
open PySem PySem.Spec PyProof.Rows L2 Ab
/-! ### the steps -/
theorem mulLe {a b c d : Int} (h1 : a ≤ b) (h2 : c ≤ d) (h3 : 0 ≤ c) (h4 : 0 ≤ b) : a * c ≤ b * d := Int.mul_le_mul h1 h2 h3 h4
local macro_rules | `(tactic| walk_at "sd") => `(tactic| first | with_reducible assumption | omega | exact rfl | decide | exact ⟨by decide, by decide +kernel⟩ | exact ⟨by decide, by decide, by decide +kernel⟩ | exact Or.inl (Or.inl ⟨by omega, by omega⟩) | exact Or.inl (Or.inr ⟨by omega, by omega⟩) | exact Nat.le_of_ble_eq_true rfl)
local macro_rules | `(tactic| walk_at "op") => `(tactic| first
  | ((with_reducible apply o_add) <;> walk_at "sd")
  | ((with_reducible apply o_sub) <;> walk_at "sd")
  | ((with_reducible apply o_mulI) <;> walk_at "sd")
  | ((with_reducible apply o_divI) <;> walk_at "sd")
  | ((with_reducible apply o_mod) <;> walk_at "sd")
  | ((with_reducible apply o_powL) <;> walk_at "sd")
  | ((with_reducible apply o_pow) <;> walk_at "sd")
  | ((with_reducible apply o_shr) <;> walk_at "sd")
  | ((with_reducible apply o_lt) <;> walk_at "sd")
  | ((with_reducible apply o_le) <;> walk_at "sd")
  | ((with_reducible apply o_gt) <;> walk_at "sd")
  | ((with_reducible apply o_ge) <;> walk_at "sd")
  | ((with_reducible apply o_eq) <;> walk_at "sd")
  | ((with_reducible apply o_ne) <;> walk_at "sd")
  | ((with_reducible apply o_eqS) <;> walk_at "sd")
  | ((with_reducible apply o_neS) <;> walk_at "sd")
  | ((with_reducible apply o_eqB) <;> walk_at "sd")
  | ((with_reducible apply o_neB) <;> walk_at "sd")
  | ((with_reducible apply o_is) <;> walk_at "sd")
  | ((with_reducible apply o_isn) <;> walk_at "sd")
  | ((with_reducible apply o_ixT) <;> walk_at "sd")
  | ((with_reducible apply o_ixL) <;> walk_at "sd")
  | ((with_reducible apply o_ixScr) <;> walk_at "sd")
  | ((with_reducible apply o_ixS) <;> walk_at "sd")
  | ((with_reducible apply o_addS) <;> walk_at "sd")
  | ((with_reducible apply o_addLL) <;> walk_at "sd")
  | ((with_reducible apply o_ltS) <;> walk_at "sd")
  | ((with_reducible apply o_leS) <;> walk_at "sd")
  | ((with_reducible apply o_ixC) <;> walk_at "sd")
  | ((with_reducible apply o_inS) <;> walk_at "sd")
  | ((with_reducible apply o_inLL) <;> walk_at "sd")
  | ((with_reducible apply o_inT) <;> walk_at "sd")
  | ((with_reducible apply o_lenS) <;> walk_at "sd")
  | ((with_reducible apply o_lenL) <;> walk_at "sd")
  | ((with_reducible apply o_lenT) <;> walk_at "sd")
  | ((with_reducible apply o_lenScr) <;> walk_at "sd")
  | ((with_reducible apply o_lenC) <;> walk_at "sd")
  | ((with_reducible apply o_listL) <;> walk_at "sd")
  | ((with_reducible apply o_listT) <;> walk_at "sd")
  | ((with_reducible apply o_listC) <;> walk_at "sd")
  | ((with_reducible apply o_tupL) <;> walk_at "sd")
  | ((with_reducible apply o_tupT) <;> walk_at "sd")
  | ((with_reducible apply o_tupC) <;> walk_at "sd")
  | ((with_reducible apply o_strI) <;> walk_at "sd")
  | ((with_reducible apply o_strS) <;> walk_at "sd")
  | ((with_reducible apply o_intI) <;> walk_at "sd")
  | ((with_reducible apply o_intB) <;> walk_at "sd")
  | ((with_reducible apply o_max2) <;> walk_at "sd")
  | ((with_reducible apply o_min2) <;> walk_at "sd")
  | ((with_reducible apply o_neg) <;> walk_at "sd")
  | ((with_reducible apply o_slS) <;> walk_at "sd")
  | ((with_reducible apply o_slL) <;> walk_at "sd")
  | ((with_reducible apply o_slScr) <;> walk_at "sd")
  | ((with_reducible apply o_join) <;> walk_at "sd")
  | ((with_reducible apply o_split) <;> walk_at "sd")
  | ((with_reducible apply ty_int) <;> walk_at "sd")
  | ((with_reducible apply ty_intB) <;> walk_at "sd")
  | ((with_reducible apply ty_intS) <;> walk_at "sd")
  | ((with_reducible apply ty_bb) <;> walk_at "sd")
  | ((with_reducible apply ty_bi) <;> walk_at "sd")
  | ((with_reducible apply ty_bs) <;> walk_at "sd")
  | ((with_reducible apply ty_str) <;> walk_at "sd")
  | ((with_reducible apply ty_strI) <;> walk_at "sd")
  | ((with_reducible apply ty_strB) <;> walk_at "sd")
  | ((with_reducible apply ty_lst) <;> walk_at "sd")
  | ((with_reducible apply ty_lstI) <;> walk_at "sd")
  | ((with_reducible apply ty_lstS) <;> walk_at "sd")
  | ((with_reducible apply ty_tup) <;> walk_at "sd")
  | ((with_reducible apply ty_tupI) <;> walk_at "sd")
  | ((with_reducible apply ty_tupS) <;> walk_at "sd")
  | ((with_reducible apply ty_nonI) <;> walk_at "sd")
  | ((with_reducible apply ty_nonS) <;> walk_at "sd")
  | ((with_reducible apply ty_cellL) <;> walk_at "sd")
  | ((with_reducible apply td_str) <;> walk_at "sd")
  | ((with_reducible apply td_lst) <;> walk_at "sd")
  | ((with_reducible apply td_cell) <;> walk_at "sd"))
local macro_rules | `(tactic| walk_at "ev") => `(tactic| first
  | with_reducible exact ev_c
  | with_reducible exact ev_nil
  | with_reducible exact ev_noP
  | ((with_reducible apply ev_var); exact rfl)
  | ((with_reducible apply ev_cons); (· walk_at "ev"); (· walk_at "ev"))
  | ((with_reducible apply ev_op2); (· walk_at "ev"); (· walk_at "ev"); (· walk_at "op"))
  | ((with_reducible apply ev_opA); (· walk_at "ev"); (· walk_at "op"))
  | ((with_reducible apply ev_op1); (· walk_at "ev"); (· walk_at "op"))
  | ((with_reducible apply ev_opM); (· walk_at "ev"); (· walk_at "ev"); (· walk_at "op"); (· walk_at "op"))
  | ((with_reducible apply ev_isi); (· walk_at "ev"); (· walk_at "op"))
  | ((with_reducible apply ev_sl); (· walk_at "ev"); (· walk_at "ev"); (· walk_at "ev"); (· walk_at "op"))
  | ((with_reducible apply ev_tupG); (· walk_at "ev"); exact Nat.le_of_ble_eq_true rfl)
  | ((with_reducible apply ev_lstG); (· walk_at "ev"); exact Nat.le_of_ble_eq_true rfl)
  | ((with_reducible apply ev_P); walk_at "ev")
  | ((with_reducible apply ev_chainG); (· walk_at "ev"); (· walk_at "ev"); (· walk_at "op"); (· intro _; walk_at "ev"); (· intro _; walk_at "op"))
  | ((with_reducible apply ev_notV); walk_at "ev")
  | ((with_reducible apply et_B); walk_at "ev")
  | ((with_reducible apply et_not); walk_at "ev")
  | ((with_reducible apply et_and); (· walk_at "ev"); (· intro _; walk_at "ev"))
  | ((with_reducible apply et_or); (· walk_at "ev"); (· intro _; walk_at "ev"))
  | ((with_reducible apply ev_andV); (· walk_at "ev"); (· intro _; walk_at "ev"))
  | ((with_reducible apply ev_orV); (· walk_at "ev"); (· intro _; walk_at "ev"))
  | with_reducible assumption)
abbrev kmx : Nat := 11
def lenOk (x : Str) : Bool := decide ((1 : Int) ≤ (x.length : Int)) && decide ((x.length : Int) ≤ 8)
def isNm (x : Str) : Bool := lenOk x && (x.cps.toList.all fun c => isAz c || isFig c) && headAz x
def partF (nm : D) (xs js os : List D) : List (Str × D) := [("name", nm), ("numbers", .tup xs), ("ins", .tup js), ("outs", .tup os)]
def PFs : List Str := ["name", "numbers", "ins", "outs"]
theorem asS_stay {m m' : Mu} {d : D} (h : ∀ b, d ≠ .cell b) : asS m' d = asS m d := by
  cases d <;> first | rfl | exact absurd rfl (h _)
theorem o_tup1 {m : Mu} {d : D} {xs : List D} (h : asS m d = some xs) : OpA bTuple [d] m (.tup xs) := fun Q q => ⟨d, xs, rfl, h, q⟩
structure Row where
  kind : Str
  cl : Str
  many : Nat
  ins : Nat
  outs : Nat
def ktL : List Row := [⟨"give", "Give", 0, 0, 1⟩, ⟨"take", "Take", 0, 1, 0⟩, ⟨"pass", "Pass", 0, 1, 1⟩, ⟨"copy", "Copy", 0, 1, 2⟩, ⟨"turn", "Turn", 2, 1, 1⟩, ⟨"heap", "Heap", 1, 1, 1⟩, ⟨"add", "Add", 0, 2, 1⟩, ⟨"less", "Less", 0, 2, 1⟩, ⟨"order", "Order", 0, 2, 2⟩, ⟨"choose", "Choose", 0, 3, 1⟩, ⟨"split", "Split", 0, 2, 2⟩]
def kt (i : Nat) : Row := ktL.getD i ⟨"give", "Give", 0, 0, 1⟩
theorem cases11 {P : Nat → Prop} (h0 : P 0) (h1 : P 1) (h2 : P 2) (h3 : P 3) (h4 : P 4) (h5 : P 5) (h6 : P 6) (h7 : P 7) (h8 : P 8) (h9 : P 9) (h10 : P 10) : ∀ i, i < 11 → P i
  | 0, _ => h0 | 1, _ => h1 | 2, _ => h2 | 3, _ => h3 | 4, _ => h4 | 5, _ => h5 | 6, _ => h6 | 7, _ => h7 | 8, _ => h8 | 9, _ => h9 | 10, _ => h10
  | n + 11, h => absurd h (by omega)
def partD (K : PySem.W.Frag) (cl : Str) (nm : D) (xs js os : List D) : D := .obj (He.ga K cl) (partF nm xs js os)
def KP (K : PySem.W.Frag) : Prop := ∀ i, i < 11 → ∀ f, f ∈ PFs → OkC K (He.ga K (kt i).cl) f
/-- the places that a part needs; those without a value -/
def plc (ch : Bool) (hs : List D) : List Nat := match ch with
  | false => List.range hs.length
  | true => (match hs with
    | .int i :: _ => [0, (1 + i % 2).toNat]
    | _ => [0])
def lkd (ch : Bool) (hs : List D) : List Nat := (plc ch hs).filter fun p => isN (hs.getD p .non)
def firstD : List Nat → D
  | [] => .non
  | p :: _ => .int p
def HdOk (d : D) : Prop := d = .non ∨ ∃ i : Int, d = .int i
/-- heads of a choosing part: three, each a number or none -/
def HdsOk3 (hs : List D) : Prop := ∃ a b c : D, hs = [a, b, c] ∧ HdOk a ∧ HdOk b ∧ HdOk c
theorem getD_ix {hs : List D} {p : Nat} (h : p < hs.length) : hs[p]? = some (hs.getD p .non) := by
  rw [List.getD_eq_getElem?_getD, List.getElem?_eq_getElem h]; rfl
theorem first_range {n i : Nat} {p : Nat → Bool} (h : ∀ j, j < i → p j = false) (hi : p i = true) (hn : i < n) : firstD ((List.range n).filter p) = .int i := by
  have e : List.range n = List.range i ++ ((List.range (n - i)).map (i + ·)) := by
    rw [← List.range_add]; congr 1; omega
  have e2 : List.range (n - i) = 0 :: (List.range (n - i - 1)).map Nat.succ := by
    have : n - i = (n - i - 1) + 1 := by omega
    conv => lhs; rw [this]
    rw [List.range_succ_eq_map]
  have e3 : (List.range i).filter p = [] := by
    rw [List.filter_eq_nil_iff]
    intro j hj
    rw [h j (List.mem_range.mp hj)]; decide
  rw [e, List.filter_append, e3, e2, List.map_cons, List.nil_append, List.filter_cons, Nat.add_zero, if_pos hi]
  rfl
theorem first_none {n : Nat} {p : Nat → Bool} (h : ∀ j, j < n → p j = false) : firstD ((List.range n).filter p) = .non := by
  have e3 : (List.range n).filter p = [] := by
    rw [List.filter_eq_nil_iff]
    intro j hj
    rw [h j (List.mem_range.mp hj)]; decide
  rw [e3]; rfl
structure LaneA where
  nm : Str
  room : Int
  first : List Int
structure PartA where
  k : Nat
  nm : Str
  nums : List Int
  ins : List Str
  outs : List Str
def PartA.inc (p : PartA) : List Str := p.ins ++ p.outs
structure LaneOk (l : LaneA) : Prop where
  r0 : 1 ≤ l.room
  r1 : l.room ≤ 199
  fl : (l.first.length : Int) ≤ l.room
  fv : ∀ v, v ∈ l.first → isVal v = true
structure LaneOkS (l : LaneA) : Prop where
  r0 : 1 ≤ l.room
  r1 : l.room ≤ 199
  fl : (l.first.length : Int) ≤ l.room
  fv : ∀ v, v ∈ l.first → isVal v = true
  f9 : l.first.length ≤ 9
theorem LaneOkS.ok {l : LaneA} (h : LaneOkS l) : LaneOk l := ⟨h.r0, h.r1, h.fl, h.fv⟩
structure PartOk (p : PartA) : Prop where
  k9 : p.k < kmx
  ln : p.nums.length = (kt p.k).many
  vn : ∀ v, v ∈ p.nums → isVal v = true
  li : p.ins.length = (kt p.k).ins
  lo : p.outs.length = (kt p.k).outs
theorem PartOk.k {p : PartA} (h : PartOk p) : p.k < 11 := Nat.lt_of_lt_of_le h.k9 (by decide)
/-- a labelling of lanes that is the same at each part's lanes -/
def Evn (ps : List PartA) (ψ : Str → Bool) : Prop := ∀ p, p ∈ ps → ∀ a, a ∈ p.inc → ∀ b, b ∈ p.inc → ψ a = ψ b
def Conn (ps : List PartA) (op : List Str) : Prop := ∀ ψ : Str → Bool, Evn ps ψ → (∀ o, o ∈ op → ψ o = true) → ∀ p, p ∈ ps → ∀ a, a ∈ p.inc → ψ a = true
/-- a net that is being put together: op the lanes without a taker, back those without a giver -/
structure Good (w1 w2 : Nat → Str) (ls : List LaneA) (ps : List PartA) (op back : List Str) : Prop where
  ln : ∀ i l, ls[i]? = some l → l.nm = w1 i
  lok : ∀ l, l ∈ ls → LaneOkS l
  pn : ∀ i p, ps[i]? = some p → p.nm = w2 i
  pok : ∀ p, p ∈ ps → PartOk p
  pi : (ps.flatMap PartA.ins ++ op).Perm (ls.map LaneA.nm)
  po : (ps.flatMap PartA.outs ++ back).Perm (ls.map LaneA.nm)
  cn : Conn ps op
structure NetOk (ls : List LaneA) (ps : List PartA) : Prop where
  l1 : 1 ≤ ls.length
  l2 : ls.length ≤ 24
  p1 : 1 ≤ ps.length
  p2 : ps.length ≤ 16
  ld : (ls.map LaneA.nm).Nodup
  li : ∀ l, l ∈ ls → isNm l.nm = true ∧ l.nm.length ≤ 8 ∧ PyData.strOk l.nm = true
  lok : ∀ l, l ∈ ls → LaneOk l
  pd : (ps.map PartA.nm).Nodup
  pl : ∀ p, p ∈ ps → isNm p.nm = true ∧ p.nm.length ≤ 8 ∧ PyData.strOk p.nm = true
  pok : ∀ p, p ∈ ps → PartOk p
  pi : (ps.flatMap PartA.ins).Perm (ls.map LaneA.nm)
  po : (ps.flatMap PartA.outs).Perm (ls.map LaneA.nm)
  cn : ∀ ψ : Str → Bool, Evn ps ψ → ∀ p, p ∈ ps → ∀ a, a ∈ p.inc → ∀ q, q ∈ ps → ∀ b, b ∈ q.inc → ψ a = ψ b
theorem getElem?_app {α : Type} {xs ys : List α} {i : Nat} {x : α} (h : (xs ++ ys)[i]? = some x) : xs[i]? = some x ∨ (xs.length ≤ i ∧ ys[i - xs.length]? = some x) := by
  by_cases hi : i < xs.length
  · rw [List.getElem?_append_left hi] at h; exact .inl h
  · rw [List.getElem?_append_right (by omega)] at h; exact .inr ⟨by omega, h⟩
theorem good_nil {w1 w2 : Nat → Str} : Good w1 w2 [] [] [] [] := ⟨fun i l h => by simp at h, fun l h => (by cases h), fun i l h => by simp at h, fun l h => (by cases h), .nil, .nil, fun ψ _ _ p h => by cases h⟩
theorem good_perm {w1 w2 : Nat → Str} {ls : List LaneA} {ps : List PartA} {op op' back : List Str} (g : Good w1 w2 ls ps op back) (h : op.Perm op') : Good w1 w2 ls ps op' back :=
  ⟨g.ln, g.lok, g.pn, g.pok, (List.Perm.append_left _ h.symm).trans g.pi, g.po, fun ψ ev ho => g.cn ψ ev fun o hm => ho o (h.subset hm)⟩
theorem good_lane {w1 w2 : Nat → Str} {ls : List LaneA} {ps : List PartA} {op back : List Str} {l : LaneA} (g : Good w1 w2 ls ps op back) (hn : l.nm = w1 ls.length) (ok : LaneOkS l) : Good w1 w2 (ls ++ [l]) ps (op ++ [l.nm]) (back ++ [l.nm]) := by
  refine ⟨fun i x h => ?_, fun x h => ?_, g.pn, g.pok, ?_, ?_, fun ψ ev ho => g.cn ψ ev fun o hm => ho o (List.mem_append_left _ hm)⟩
  · rcases getElem?_app h with h | ⟨h1, h2⟩
    · exact g.ln i x h
    · have : i - ls.length = 0 := by
        have := (List.getElem?_eq_some_iff.mp h2).1
        simp at this; omega
      rw [this] at h2
      cases h2
      rw [hn]; congr 1; omega
  · rcases List.mem_append.mp h with h | h
    · exact g.lok x h
    · rw [List.mem_singleton.mp h]; exact ok
  · rw [List.map_append, ← List.append_assoc]; exact g.pi.append_right _
  · rw [List.map_append, ← List.append_assoc]; exact g.po.append_right _
theorem names_app {w : Nat → Str} {ls nl : List LaneA} (h1 : ∀ i l, ls[i]? = some l → l.nm = w i) (h2 : ∀ i l, nl[i]? = some l → l.nm = w (ls.length + i)) : ∀ i l, (ls ++ nl)[i]? = some l → l.nm = w i := fun i x h => by
  rcases getElem?_app h with h | ⟨q, h⟩
  · exact h1 i x h
  · rw [h2 _ x h]; congr 1; omega
theorem pnames_app {w : Nat → Str} {ps : List PartA} {p : PartA} (h1 : ∀ i l, ps[i]? = some l → l.nm = w i) (h2 : p.nm = w ps.length) : ∀ i l, (ps ++ [p])[i]? = some l → l.nm = w i := fun i x h => by
  rcases getElem?_app h with h | ⟨q, h⟩
  · exact h1 i x h
  · have : i - ps.length = 0 := by
      have := (List.getElem?_eq_some_iff.mp h).1
      simp at this; omega
    rw [this] at h
    cases h
    rw [h2]; congr 1; omega
theorem mem_app1 {α : Type} {P : α → Prop} {xs : List α} {y : α} (h : ∀ x, x ∈ xs → P x) (hy : P y) : ∀ x, x ∈ xs ++ [y] → P x := fun x hx => by
  rcases List.mem_append.mp hx with hx | hx
  · exact h x hx
  · rw [List.mem_singleton.mp hx]; exact hy
theorem mem_app {α : Type} {P : α → Prop} {xs ys : List α} (h : ∀ x, x ∈ xs → P x) (hy : ∀ x, x ∈ ys → P x) : ∀ x, x ∈ xs ++ ys → P x := fun x hx => (List.mem_append.mp hx).elim (h x) (hy x)
theorem flat1 {α β : Type} (f : α → List β) (xs : List α) (y : α) : (xs ++ [y]).flatMap f = xs.flatMap f ++ f y := by
  rw [List.flatMap_append]; simp
theorem evn_left {ps : List PartA} {p : PartA} {ψ : Str → Bool} (h : Evn (ps ++ [p]) ψ) : Evn ps ψ := fun q hq => h q (List.mem_append_left _ hq)
theorem evn_last {ps : List PartA} {p : PartA} {ψ : Str → Bool} (h : Evn (ps ++ [p]) ψ) {a b : Str} (ha : a ∈ p.inc) (hb : b ∈ p.inc) : ψ a = ψ b := h p (List.mem_append_right _ (List.mem_singleton.mpr rfl)) a ha b hb
/-- a part that takes from open lanes and gives to new ones -/
theorem good_part {w1 w2 : Nat → Str} {ls nl : List LaneA} {ps : List PartA} {op back rest : List Str} {p : PartA} (g : Good w1 w2 ls ps op back) (hp : op.Perm (p.ins ++ rest)) (pok : PartOk p) (pn : p.nm = w2 ps.length) (po : p.outs = nl.map LaneA.nm) (ne : nl ≠ [])
    (hn : ∀ i l, nl[i]? = some l → l.nm = w1 (ls.length + i)) (lok : ∀ l, l ∈ nl → LaneOkS l) : Good w1 w2 (ls ++ nl) (ps ++ [p]) (rest ++ p.outs) back := by
  refine ⟨names_app g.ln hn, mem_app g.lok lok, pnames_app g.pn pn, mem_app1 g.pok pok, ?_, ?_, fun ψ ev ho => ?_⟩
  · rw [flat1, List.map_append, po]
    have h1 : (ps.flatMap PartA.ins ++ p.ins ++ (rest ++ nl.map LaneA.nm)).Perm (ps.flatMap PartA.ins ++ (p.ins ++ rest) ++ nl.map LaneA.nm) := by
      rw [List.append_assoc, List.append_assoc, List.append_assoc]
    refine h1.trans (List.Perm.append_right _ ?_)
    exact (List.Perm.append_left _ hp.symm).trans g.pi
  · rw [flat1, List.map_append, po]
    have h1 : (ps.flatMap PartA.outs ++ nl.map LaneA.nm ++ back).Perm (ps.flatMap PartA.outs ++ back ++ nl.map LaneA.nm) := by
      rw [List.append_assoc, List.append_assoc]
      exact List.Perm.append_left _ List.perm_append_comm
    exact h1.trans (g.po.append_right _)
  · obtain ⟨l0, r0, rfl⟩ : ∃ l r, nl = l :: r := by
      cases nl with
      | nil => exact absurd rfl ne
      | cons l r => exact ⟨l, r, rfl⟩
    have m0 : l0.nm ∈ p.outs := by rw [po]; exact List.mem_cons_self ..
    have t0 : ∀ a, a ∈ p.inc → ψ a = true := fun a ha => (evn_last ev ha (List.mem_append_right _ m0)).trans (ho _ (List.mem_append_right _ m0))
    have old : ∀ o, o ∈ op → ψ o = true := fun o hm => by
      rcases List.mem_append.mp (hp.subset hm) with h | h
      · exact t0 o (List.mem_append_left _ h)
      · exact ho o (List.mem_append_left _ h)
    exact mem_app1 (P := fun (q : PartA) => ∀ a, a ∈ q.inc → ψ a = true) (g.cn ψ (evn_left ev) old) t0
/-- an order with a lane of its own -/
theorem good_loop {w1 w2 : Nat → Str} {ls : List LaneA} {ps : List PartA} {op back rest : List Str} {x : Str} {own fresh : LaneA} {p : PartA} (g : Good w1 w2 ls ps op back) (hp : op.Perm (x :: rest)) (pok : PartOk p) (pn : p.nm = w2 ps.length) (pi : p.ins = [x, own.nm]) (po : p.outs = [own.nm, fresh.nm])
    (h1 : own.nm = w1 ls.length) (h2 : fresh.nm = w1 (ls.length + 1)) (o1 : LaneOkS own) (o2 : LaneOkS fresh) : Good w1 w2 (ls ++ [own] ++ [fresh]) (ps ++ [p]) (rest ++ [fresh.nm]) back := by
  refine ⟨?_, mem_app1 (mem_app1 g.lok o1) o2, pnames_app g.pn pn, mem_app1 g.pok pok, ?_, ?_, fun ψ ev ho => ?_⟩
  · refine names_app (names_app g.ln fun i l h => ?_) fun i l h => ?_
    · have : i = 0 := by have := (List.getElem?_eq_some_iff.mp h).1; simp at this; omega
      subst this; cases h; exact h1
    · have : i = 0 := by have := (List.getElem?_eq_some_iff.mp h).1; simp at this; omega
      subst this; cases h; rw [h2, List.length_append]; rfl
  · rw [flat1, List.map_append, List.map_append, pi]
    have k : (ps.flatMap PartA.ins ++ [x, own.nm] ++ (rest ++ [fresh.nm])).Perm ((ps.flatMap PartA.ins ++ (x :: rest) ++ [own.nm]) ++ [fresh.nm]) := by
      rw [← List.append_assoc]
      refine List.Perm.append_right _ ?_
      rw [List.append_assoc, List.append_assoc]
      refine List.Perm.append_left _ ?_
      show (x :: ([own.nm] ++ rest)).Perm (x :: (rest ++ [own.nm]))
      exact List.Perm.cons _ List.perm_append_comm
    exact k.trans (((((List.Perm.append_left _ hp.symm).trans g.pi).append_right _)).append_right _)
  · rw [flat1, List.map_append, List.map_append, po]
    have k : (ps.flatMap PartA.outs ++ [own.nm, fresh.nm] ++ back).Perm ((ps.flatMap PartA.outs ++ back ++ [own.nm]) ++ [fresh.nm]) := by
      rw [List.append_assoc, List.append_assoc, List.append_assoc]
      exact List.Perm.append_left _ List.perm_append_comm
    exact k.trans ((g.po.append_right _).append_right _)
  · have mf : fresh.nm ∈ p.inc := List.mem_append_right _ (by rw [po]; simp)
    have t0 : ∀ a, a ∈ p.inc → ψ a = true := fun a ha => (evn_last ev ha mf).trans (ho _ (by simp))
    have old : ∀ o, o ∈ op → ψ o = true := fun o hm => by
      rcases List.mem_cons.mp (hp.subset hm) with rfl | h
      · exact t0 o (List.mem_append_left _ (by rw [pi]; simp))
      · exact ho o (List.mem_append_left _ h)
    exact mem_app1 (P := fun (q : PartA) => ∀ a, a ∈ q.inc → ψ a = true) (g.cn ψ (evn_left ev) old) t0
/-- a take behind a copy -/
theorem good_take {w1 w2 : Nat → Str} {ls : List LaneA} {ps : List PartA} {op back rest : List Str} {a b : Str} {p : PartA} (g : Good w1 w2 ls ps op back) (hp : op.Perm (rest ++ [a, b])) (hc : ∃ q, q ∈ ps ∧ a ∈ q.inc ∧ b ∈ q.inc) (pok : PartOk p) (pn : p.nm = w2 ps.length) (pi : p.ins = [b]) (po : p.outs = []) :
    Good w1 w2 ls (ps ++ [p]) (rest ++ [a]) back := by
  refine ⟨g.ln, g.lok, pnames_app g.pn pn, mem_app1 g.pok pok, ?_, ?_, fun ψ ev ho => ?_⟩
  · rw [flat1, pi]
    have k : (ps.flatMap PartA.ins ++ [b] ++ (rest ++ [a])).Perm (ps.flatMap PartA.ins ++ (rest ++ [a, b])) := by
      rw [List.append_assoc]
      refine List.Perm.append_left _ ?_
      have : rest ++ [a, b] = (rest ++ [a]) ++ [b] := by simp
      rw [this]
      exact List.perm_append_comm
    exact k.trans ((List.Perm.append_left _ hp.symm).trans g.pi)
  · rw [flat1, po, List.append_nil]; exact g.po
  · obtain ⟨q, hq, qa, qb⟩ := hc
    have ta : ψ a = true := ho a (by simp)
    have tb : ψ b = true := ((evn_left ev) q hq b qb a qa).trans ta
    have old : ∀ o, o ∈ op → ψ o = true := fun o hm => by
      rcases List.mem_append.mp (hp.subset hm) with h | h
      · exact ho o (List.mem_append_left _ h)
      · simp only [List.mem_cons, List.not_mem_nil, or_false] at h
        rcases h with rfl | rfl
        · exact ta
        · exact tb
    refine mem_app1 (P := fun (q : PartA) => ∀ a, a ∈ q.inc → ψ a = true) (g.cn ψ (evn_left ev) old) fun c hc => ?_
    have hc : c ∈ p.ins ++ p.outs := hc
    rw [pi, po] at hc
    rw [List.mem_singleton.mp hc]; exact tb
/-- a copy that gives to a lane that leads back -/
theorem good_back {w1 w2 : Nat → Str} {ls : List LaneA} {ps : List PartA} {back : List Str} {x b : Str} {fresh : LaneA} {p : PartA} (g : Good w1 w2 ls ps [x] (b :: back)) (pok : PartOk p) (pn : p.nm = w2 ps.length) (pi : p.ins = [x]) (po : p.outs = [b, fresh.nm]) (h1 : fresh.nm = w1 ls.length) (o1 : LaneOkS fresh) :
    Good w1 w2 (ls ++ [fresh]) (ps ++ [p]) [fresh.nm] back := by
  refine ⟨names_app g.ln fun i l h => ?_, mem_app1 g.lok o1, pnames_app g.pn pn, mem_app1 g.pok pok, ?_, ?_, fun ψ ev ho => ?_⟩
  · have : i = 0 := by have := (List.getElem?_eq_some_iff.mp h).1; simp at this; omega
    subst this; cases h; exact h1
  · rw [flat1, List.map_append, pi]; exact g.pi.append_right _
  · rw [flat1, List.map_append, po]
    have k : (ps.flatMap PartA.outs ++ [b, fresh.nm] ++ back).Perm ((ps.flatMap PartA.outs ++ (b :: back)) ++ [fresh.nm]) := by
      rw [List.append_assoc, List.append_assoc]
      refine List.Perm.append_left _ ?_
      show (b :: ([fresh.nm] ++ back)).Perm (b :: (back ++ [fresh.nm]))
      exact List.Perm.cons _ List.perm_append_comm
    exact k.trans (g.po.append_right _)
  · have mf : fresh.nm ∈ p.inc := List.mem_append_right _ (by rw [po]; simp)
    have t0 : ∀ a, a ∈ p.inc → ψ a = true := fun a ha => (evn_last ev ha mf).trans (ho _ (by simp))
    have old : ∀ o, o ∈ [x] → ψ o = true := fun o hm => by
      rw [List.mem_singleton.mp hm]
      exact t0 x (List.mem_append_left _ (by rw [pi]; simp))
    exact mem_app1 (P := fun (q : PartA) => ∀ a, a ∈ q.inc → ψ a = true) (g.cn ψ (evn_left ev) old) t0
theorem nodup_w {α : Type} {f : α → Str} {w : Nat → Str} {xs : List α} {n : Nat} (h : ∀ i x, xs[i]? = some x → f x = w i) (hl : xs.length ≤ n) (inj : ∀ i j, i < n → j < n → w i = w j → i = j) : (xs.map f).Nodup := by
  refine List.pairwise_iff_getElem.mpr fun i j hi hj hij => ?_
  rw [List.length_map] at hi hj
  rw [List.getElem_map, List.getElem_map, h i _ (List.getElem?_eq_getElem hi), h j _ (List.getElem?_eq_getElem hj)]
  intro z
  have := inj i j (by omega) (by omega) z
  omega
theorem evn_not {ps : List PartA} {ψ : Str → Bool} (h : Evn ps ψ) : Evn ps (fun s => !ψ s) := fun p hp a ha b hb => by
  show (!ψ a) = (!ψ b)
  rw [h p hp a ha b hb]
/-- the last take: a net -/
theorem good_end {w1 w2 : Nat → Str} {ls : List LaneA} {ps ps' : List PartA} {x : Str} {p : PartA} (g : Good w1 w2 ls ps [x] []) (pok : PartOk p) (pn : p.nm = w2 ps.length) (pi : p.ins = [x]) (po : p.outs = []) (hp : ps'.Perm (ps ++ [p]))
    (l2 : ls.length ≤ 24) (p2 : ps.length ≤ 15) (i1 : ∀ i j, i < 26 → j < 26 → w1 i = w1 j → i = j) (i2 : ∀ i j, i < 26 → j < 26 → w2 i = w2 j → i = j) (k1 : ∀ i, i < 26 → isNm (w1 i) = true ∧ (w1 i).length ≤ 8 ∧ PyData.strOk (w1 i) = true) (k2 : ∀ i, i < 26 → isNm (w2 i) = true ∧ (w2 i).length ≤ 8 ∧ PyData.strOk (w2 i) = true) : NetOk ls ps' := by
  have pnn := pnames_app g.pn pn
  have pkk := mem_app1 g.pok pok
  have hlen : (ps ++ [p]).length = ps.length + 1 := by rw [List.length_append]; rfl
  have hi : (ps'.flatMap PartA.ins).Perm (ls.map LaneA.nm) := by
    refine (hp.flatMap_right _).trans ?_
    rw [flat1, pi]; exact g.pi
  refine ⟨?_, l2, by rw [hp.length_eq, hlen]; omega, by rw [hp.length_eq, hlen]; omega, nodup_w g.ln (Nat.le_trans l2 (by decide)) i1, fun l hl => ?_, fun l hl => (g.lok l hl).ok, ?_, fun q hq => ?_, fun q hq => pkk q (hp.subset hq), hi, ?_, ?_⟩
  · have := g.pi.length_eq
    rw [List.length_append, List.length_map] at this
    simp at this; omega
  · obtain ⟨i, h1, h2⟩ := List.mem_iff_getElem.mp hl
    rw [← h2, g.ln i _ (List.getElem?_eq_getElem h1)]
    exact k1 i (by omega)
  · exact (hp.map PartA.nm).nodup_iff.mpr (nodup_w pnn (by rw [hlen]; omega) i2)
  · obtain ⟨i, h1, h2⟩ := List.mem_iff_getElem.mp (hp.subset hq)
    rw [← h2, pnn i _ (List.getElem?_eq_getElem h1)]
    exact k2 i (by omega)
  · refine (hp.flatMap_right _).trans ?_
    have := g.po
    rw [List.append_nil] at this
    rw [flat1, po, List.append_nil]; exact this
  · intro ψ ev
    have ev2 : Evn (ps ++ [p]) ψ := fun q hq => ev q (hp.symm.subset hq)
    have key : ∀ q, q ∈ ps ++ [p] → ∀ a, a ∈ q.inc → ψ a = ψ x := by
      have hlast : ∀ a, a ∈ p.inc → ψ a = ψ x := fun a ha => by
        have ha : a ∈ p.ins ++ p.outs := ha
        rw [pi, po] at ha
        rw [List.mem_singleton.mp ha]
      cases hx : ψ x with
      | true =>
        have := g.cn ψ (evn_left ev2) fun o ho => by rw [List.mem_singleton.mp ho]; exact hx
        exact mem_app1 (P := fun (q : PartA) => ∀ a, a ∈ q.inc → ψ a = true) this fun a ha => (hlast a ha).trans hx
      | false =>
        have := g.cn _ (evn_not (evn_left ev2)) fun o ho => by rw [List.mem_singleton.mp ho, hx]; rfl
        refine mem_app1 (P := fun (q : PartA) => ∀ a, a ∈ q.inc → ψ a = false) (fun q hq a ha => ?_) fun a ha => (hlast a ha).trans hx
        have := this q hq a ha
        simpa using this
    intro q hq a ha r hr b hb
    rw [key q (hp.subset hq) a ha, key r (hp.subset hr) b hb]
def IsV (d : D) : Prop := ∃ i : Int, d = .int i ∧ isVal i = true
theorem ints_of : ∀ xs : List D, (∀ x, x ∈ xs → IsV x) → ∃ ns : List Int, xs = ns.map D.int ∧ ns.length = xs.length ∧ ∀ n, n ∈ ns → isVal n = true
  | [], _ => ⟨[], rfl, rfl, fun _ h => by cases h⟩
  | x :: xs, h => by
    obtain ⟨i, rfl, hi⟩ := h x (List.mem_cons_self ..)
    obtain ⟨ns, rfl, hl, hn⟩ := ints_of xs fun x hx => h x (List.mem_cons_of_mem _ hx)
    refine ⟨i :: ns, rfl, by rw [List.length_cons, List.length_cons, hl], fun n hm => ?_⟩
    rcases List.mem_cons.mp hm with rfl | hm
    · exact hi
    · exact hn n hm
def laneD (l : LaneA) : D := .tup [.str l.nm, .int l.room, .lst (l.first.map D.int)]
def partT (p : PartA) : D := .tup [.str (kt p.k).kind, .str p.nm, .lst (p.nums.map D.int), .lst (p.ins.map D.str), .lst (p.outs.map D.str)]
def stD (p0 p1 p2 : Addr) (one other : Int) : D := .lst [.cell p0, .cell p1, .cell p2, .int one, .int other]
structure SW (m : Mu) (p0 p1 p2 : Addr) (ls : List LaneA) (ps : List PartA) (os : List Str) : Prop where
  h0 : m p0 = some (.lst (ls.map laneD))
  h1 : m p1 = some (.lst (ps.map partT))
  h2 : m p2 = some (.lst (os.map D.str))
  n01 : p0 ≠ p1
  n02 : p0 ≠ p2
  n12 : p1 ≠ p2
theorem SW.s0 {m : Mu} {p0 p1 p2 : Addr} {ls : List LaneA} {ps : List PartA} {os : List Str} (h : SW m p0 p1 p2 ls ps os) {ls' : List LaneA} {xs : List D} (e : xs = ls'.map laneD) : SW (mset m p0 (.lst xs)) p0 p1 p2 ls' ps os :=
  ⟨by rw [e]; exact mset_same, by rw [mset_ne (Ne.symm h.n01)]; exact h.h1, by rw [mset_ne (Ne.symm h.n02)]; exact h.h2, h.n01, h.n02, h.n12⟩
theorem SW.s1 {m : Mu} {p0 p1 p2 : Addr} {ls : List LaneA} {ps : List PartA} {os : List Str} (h : SW m p0 p1 p2 ls ps os) {ps' : List PartA} {xs : List D} (e : xs = ps'.map partT) : SW (mset m p1 (.lst xs)) p0 p1 p2 ls ps' os :=
  ⟨by rw [mset_ne h.n01]; exact h.h0, by rw [e]; exact mset_same, by rw [mset_ne (Ne.symm h.n12)]; exact h.h2, h.n01, h.n02, h.n12⟩
theorem SW.s2 {m : Mu} {p0 p1 p2 : Addr} {ls : List LaneA} {ps : List PartA} {os : List Str} (h : SW m p0 p1 p2 ls ps os) {os' : List Str} {xs : List D} (e : xs = os'.map D.str) : SW (mset m p2 (.lst xs)) p0 p1 p2 ls ps os' :=
  ⟨by rw [mset_ne h.n02]; exact h.h0, by rw [mset_ne h.n12]; exact h.h1, by rw [e]; exact mset_same, h.n01, h.n02, h.n12⟩
section
variable {p0 p1 p2 : Addr} {one other : Int} {e : De} {m : Mu} {i : Nat}
theorem st_0 (h : e[i]? = some (some (stD p0 p1 p2 one other))) : Ev (aOp bIx (aVar i) (aC (.int 0))) e m (.cell p0) := ev_op2 (ev_var h) ev_c (o_ixL (atI_int (by decide) rfl))
theorem st_1 (h : e[i]? = some (some (stD p0 p1 p2 one other))) : Ev (aOp bIx (aVar i) (aC (.int 1))) e m (.cell p1) := ev_op2 (ev_var h) ev_c (o_ixL (atI_int (by decide) rfl))
theorem st_2 (h : e[i]? = some (some (stD p0 p1 p2 one other))) : Ev (aOp bIx (aVar i) (aC (.int 2))) e m (.cell p2) := ev_op2 (ev_var h) ev_c (o_ixL (atI_int (by decide) rfl))
theorem st_3 (h : e[i]? = some (some (stD p0 p1 p2 one other))) : Ev (aOp bIx (aVar i) (aC (.int 3))) e m (.int one) := ev_op2 (ev_var h) ev_c (o_ixL (atI_int (by decide) rfl))
theorem st_4 (h : e[i]? = some (some (stD p0 p1 p2 one other))) : Ev (aOp bIx (aVar i) (aC (.int 4))) e m (.int other) := ev_op2 (ev_var h) ev_c (o_ixL (atI_int (by decide) rfl))
end
theorem perm_pick : ∀ {os : List Str} {i : Nat} {o : Str}, os[i]? = some o → os.Perm (o :: os.eraseIdx i)
  | [], _, _, h => by simp at h
  | x :: xs, 0, o, h => by simp at h; subst h; exact List.Perm.refl _
  | x :: xs, i + 1, o, h => by
    have := perm_pick (os := xs) (i := i) (o := o) (by simpa using h)
    exact (this.cons x).trans (List.Perm.swap ..)
theorem len_pick {os : List Str} {i : Nat} {o : Str} (h : os[i]? = some o) : (os.eraseIdx i).length + 1 = os.length := by
  have := (perm_pick h).length_eq
  rw [List.length_cons] at this; omega
/-! rows, ends, a net's cells -/
theorem lkp_none {es : List (Key × D)} {k : Key} (h : ∀ kv, kv ∈ es → kv.1 ≠ k) : lkp es k = none := by
  unfold lkp
  rw [List.find?_eq_none.mpr fun kv hk => by simpa using h kv hk]; rfl
theorem lkp_mem : ∀ {es : List (Key × D)} {k : Key} {v : D}, (es.map (·.1)).Nodup → (k, v) ∈ es → lkp es k = some v
  | (k', v') :: es, k, v, nd, h => by
    rw [List.map_cons, List.nodup_cons] at nd
    rcases List.mem_cons.mp h with h | h
    · cases h; simp [lkp]
    · have ne : k' ≠ k := fun z => nd.1 (by rw [z]; exact List.mem_map.mpr ⟨(k, v), h, rfl⟩)
      have := lkp_mem nd.2 h
      simpa [lkp, ne] using this
theorem lkp_is {es : List (Key × D)} {k : Key} (h : k ∈ es.map (·.1)) : (lkp es k).isSome = true := by
  cases e : lkp es k with
  | some v => rfl
  | none =>
    obtain ⟨kv, hk, e2⟩ := List.mem_map.mp h
    unfold lkp at e
    cases q : es.find? (fun kv => decide (kv.1 = k)) with
    | some x => rw [q] at e; cases e
    | none =>
      have := List.find?_eq_none.mp q kv hk
      simp [e2] at this
theorem put_new {es : List (Key × D)} {k : Key} {v : D} (h : ∀ kv, kv ∈ es → kv.1 ≠ k) : put es k v = es ++ [(k, v)] := by
  unfold put
  rw [if_neg]
  intro z
  obtain ⟨kv, hk, e⟩ := List.any_eq_true.mp z
  exact h kv hk (of_decide_eq_true e)
theorem mset_id {m : Mu} {a : Addr} {x : MO} (h : m a = some x) : mset m a x = m := by
  funext y
  unfold mset
  by_cases hy : y = a
  · rw [if_pos hy, hy, h]
  · rw [if_neg hy]
def rowsR (ls : List LaneA) : List (Key × D) := ls.map fun l => (.inr l.nm, .int l.room)
def rowsF (ls : List LaneA) : List (Key × D) := ls.map fun l => (.inr l.nm, .tup (l.first.map D.int))
def pD (K : PySem.W.Frag) (p : PartA) : D := partD K (kt p.k).cl (.str p.nm) (p.nums.map D.int) (p.ins.map D.str) (p.outs.map D.str)
def rowsM (K : PySem.W.Frag) (ps : List PartA) : List (Key × D) := ps.map fun p => (.inr p.nm, pD K p)
def endsOf1 (f : PartA → List Str) (p : PartA) : List (Key × D) := (f p).map fun l => (.inr l, .str p.nm)
def endR (f : PartA → List Str) (ps : List PartA) : List (Key × D) := ps.flatMap (endsOf1 f)
theorem keysR (ls : List LaneA) : (rowsR ls).map (·.1) = (ls.map LaneA.nm).map Sum.inr := by unfold rowsR; rw [List.map_map, List.map_map]; rfl
theorem keysF (ls : List LaneA) : (rowsF ls).map (·.1) = (ls.map LaneA.nm).map Sum.inr := by unfold rowsF; rw [List.map_map, List.map_map]; rfl
theorem keysM (K : PySem.W.Frag) (ps : List PartA) : (rowsM K ps).map (·.1) = (ps.map PartA.nm).map Sum.inr := by unfold rowsM; rw [List.map_map, List.map_map]; rfl
theorem keysE (f : PartA → List Str) : ∀ ps : List PartA, (endR f ps).map (·.1) = (ps.flatMap f).map Sum.inr
  | [] => rfl
  | p :: ps => by
    unfold endR
    rw [List.flatMap_cons, List.flatMap_cons, List.map_append, List.map_append]
    have := keysE f ps
    unfold endR at this
    rw [this]
    congr 1
    unfold endsOf1
    rw [List.map_map]; rfl
theorem inr_inj : ∀ {a b : Str}, (Sum.inr a : Key) = Sum.inr b → a = b := fun h => Sum.inr.inj h
theorem nodup_inr {xs : List Str} (h : xs.Nodup) : (xs.map (Sum.inr : Str → Key)).Nodup := by
  refine List.Pairwise.map _ (fun a b q z => q (inr_inj z)) h
theorem key_ne {es : List (Key × D)} {xs : List Str} {x : Str} (he : es.map (·.1) = xs.map Sum.inr) (h : x ∉ xs) : ∀ kv, kv ∈ es → kv.1 ≠ Sum.inr x := fun kv hk z => by
  have : kv.1 ∈ es.map (·.1) := List.mem_map.mpr ⟨kv, hk, rfl⟩
  rw [he, z] at this
  obtain ⟨y, hy, e⟩ := List.mem_map.mp this
  rw [inr_inj e] at hy
  exact h hy
theorem key_is {es : List (Key × D)} {xs : List Str} {x : Str} (he : es.map (·.1) = xs.map Sum.inr) (h : x ∈ xs) : (lkp es (.inr x)).isSome = true := lkp_is (by rw [he]; exact List.mem_map.mpr ⟨x, h, rfl⟩)
theorem end_get {f : PartA → List Str} {ps : List PartA} (nd : (ps.flatMap f).Nodup) {p : PartA} (hp : p ∈ ps) {x : Str} (hx : x ∈ f p) : lkp (endR f ps) (.inr x) = some (.str p.nm) :=
  lkp_mem (by rw [keysE]; exact nodup_inr nd) (List.mem_flatMap.mpr ⟨p, hp, List.mem_map.mpr ⟨x, hx, rfl⟩⟩)
theorem row_get {ls : List LaneA} (nd : (ls.map LaneA.nm).Nodup) {l : LaneA} (hl : l ∈ ls) : lkp (rowsR ls) (.inr l.nm) = some (.int l.room) ∧ lkp (rowsF ls) (.inr l.nm) = some (.tup (l.first.map D.int)) :=
  ⟨lkp_mem (by rw [keysR]; exact nodup_inr nd) (List.mem_map.mpr ⟨l, hl, rfl⟩), lkp_mem (by rw [keysF]; exact nodup_inr nd) (List.mem_map.mpr ⟨l, hl, rfl⟩)⟩
theorem mem_get {K : PySem.W.Frag} {ps : List PartA} (nd : (ps.map PartA.nm).Nodup) {p : PartA} (hp : p ∈ ps) : lkp (rowsM K ps) (.inr p.nm) = some (pD K p) := lkp_mem (by rw [keysM]; exact nodup_inr nd) (List.mem_map.mpr ⟨p, hp, rfl⟩)
def netFs (R F G T M : D) : List (Str × D) := [("rooms", R), ("firsts", F), ("givers", G), ("takers", T), ("members", M)]
def netD (K : PySem.W.Frag) (ls : List LaneA) (ps : List PartA) : D := .obj (He.ga K "Net") (netFs (.dic (rowsR ls)) (.dic (rowsF ls)) (.dic (endR PartA.outs ps)) (.dic (endR PartA.ins ps)) (.dic (rowsM K ps)))
structure Dst (a r f g t b : Addr) : Prop where
  ar : a ≠ r
  af : a ≠ f
  ag : a ≠ g
  at_ : a ≠ t
  ab : a ≠ b
  rf : r ≠ f
  rg : r ≠ g
  rt : r ≠ t
  rb : r ≠ b
  fg : f ≠ g
  ft : f ≠ t
  fb : f ≠ b
  gt : g ≠ t
  gb : g ≠ b
  tb : t ≠ b
def netM (m : Mu) (K : PySem.W.Frag) (a r f g t b : Addr) (R F G T M : MO) : Mu := fun x => if x = a then some (.ins (He.ga K "Net") (netFs (.cell r) (.cell f) (.cell g) (.cell t) (.cell b))) else if x = r then some R else if x = f then some F else if x = g then some G else if x = t then some T else if x = b then some M else m x
section
variable {m : Mu} {K : PySem.W.Frag} {a r f g t b : Addr} {R F G T M x : MO}
theorem nm_a : netM m K a r f g t b R F G T M a = some (.ins (He.ga K "Net") (netFs (.cell r) (.cell f) (.cell g) (.cell t) (.cell b))) := if_pos rfl
theorem nm_r (d : Dst a r f g t b) : netM m K a r f g t b R F G T M r = some R := by unfold netM; rw [if_neg d.ar.symm, if_pos rfl]
theorem nm_f (d : Dst a r f g t b) : netM m K a r f g t b R F G T M f = some F := by unfold netM; rw [if_neg d.af.symm, if_neg d.rf.symm, if_pos rfl]
theorem nm_g (d : Dst a r f g t b) : netM m K a r f g t b R F G T M g = some G := by unfold netM; rw [if_neg d.ag.symm, if_neg d.rg.symm, if_neg d.fg.symm, if_pos rfl]
theorem nm_t (d : Dst a r f g t b) : netM m K a r f g t b R F G T M t = some T := by unfold netM; rw [if_neg d.at_.symm, if_neg d.rt.symm, if_neg d.ft.symm, if_neg d.gt.symm, if_pos rfl]
theorem nm_b (d : Dst a r f g t b) : netM m K a r f g t b R F G T M b = some M := by unfold netM; rw [if_neg d.ab.symm, if_neg d.rb.symm, if_neg d.fb.symm, if_neg d.gb.symm, if_neg d.tb.symm, if_pos rfl]
theorem st_r (d : Dst a r f g t b) : mset (netM m K a r f g t b R F G T M) r x = netM m K a r f g t b x F G T M := by
  funext y
  by_cases h : y = r
  · subst h; rw [mset_same, nm_r d]
  · rw [mset_ne h]; unfold netM; simp only [if_neg h]
theorem st_f (d : Dst a r f g t b) : mset (netM m K a r f g t b R F G T M) f x = netM m K a r f g t b R x G T M := by
  funext y
  by_cases h : y = f
  · subst h; rw [mset_same, nm_f d]
  · rw [mset_ne h]; unfold netM; simp only [if_neg h]
theorem st_g (d : Dst a r f g t b) : mset (netM m K a r f g t b R F G T M) g x = netM m K a r f g t b R F x T M := by
  funext y
  by_cases h : y = g
  · subst h; rw [mset_same, nm_g d]
  · rw [mset_ne h]; unfold netM; simp only [if_neg h]
theorem st_t (d : Dst a r f g t b) : mset (netM m K a r f g t b R F G T M) t x = netM m K a r f g t b R F G x M := by
  funext y
  by_cases h : y = t
  · subst h; rw [mset_same, nm_t d]
  · rw [mset_ne h]; unfold netM; simp only [if_neg h]
theorem st_b (d : Dst a r f g t b) : mset (netM m K a r f g t b R F G T M) b x = netM m K a r f g t b R F G T x := by
  funext y
  by_cases h : y = b
  · subst h; rw [mset_same, nm_b d]
  · rw [mset_ne h]; unfold netM; simp only [if_neg h]
/-- what was told of lists outside stays -/
def Free (m : Mu) (a r f g t b : Addr) : Prop := oL (m a) = none ∧ oL (m r) = none ∧ oL (m f) = none ∧ oL (m g) = none ∧ oL (m t) = none ∧ oL (m b) = none
theorem asS_net {d : D} {xs : List D} (fr : Free m a r f g t b) (h : asS m d = some xs) : asS (netM m K a r f g t b R F G T M) d = some xs := by
  cases d with
  | cell c =>
    have h : oL (m c) = some xs := h
    have ne : ∀ {y : Addr}, oL (m y) = none → c ≠ y := fun q z => by rw [z, q] at h; cases h
    show oL (netM m K a r f g t b R F G T M c) = some xs
    unfold netM
    obtain ⟨h1, h2, h3, h4, h5, h6⟩ := fr
    rw [if_neg (ne h1), if_neg (ne h2), if_neg (ne h3), if_neg (ne h4), if_neg (ne h5), if_neg (ne h6)]; exact h
  | _ => exact h
end
/-- what is handed in as lanes, as parts -/
def LaneR (m : Mu) (x : D) (l : LaneA) : Prop := ∃ fd, x = .tup [.str l.nm, .int l.room, fd] ∧ asS m fd = some (l.first.map D.int)
def PartR (m : Mu) (x : D) (p : PartA) : Prop := ∃ nd id od, x = .tup [.str (kt p.k).kind, .str p.nm, nd, id, od] ∧ asS m nd = some (p.nums.map D.int) ∧ asS m id = some (p.ins.map D.str) ∧ asS m od = some (p.outs.map D.str)
def Rows {α : Type} (R : D → α → Prop) (xs : List D) (ls : List α) : Prop := xs.length = ls.length ∧ ∀ (i : Nat) (l : α), ls[i]? = some l → ∃ x, xs[i]? = some x ∧ R x l
theorem rows_map {α : Type} {R : D → α → Prop} {f : α → D} (h : ∀ l, R (f l) l) (ls : List α) : Rows R (ls.map f) ls := ⟨List.length_map .., fun i l e => ⟨f l, by rw [List.getElem?_map, e]; rfl, h l⟩⟩
theorem rows_mono {α : Type} {R R' : D → α → Prop} {xs : List D} {ls : List α} (h : Rows R xs ls) (k : ∀ x l, R x l → R' x l) : Rows R' xs ls := ⟨h.1, fun i l e => let ⟨x, h1, h2⟩ := h.2 i l e; ⟨x, h1, k x l h2⟩⟩
theorem laneR_D (m : Mu) (l : LaneA) : LaneR m (laneD l) l := ⟨_, rfl, rfl⟩
theorem partR_T (m : Mu) (p : PartA) : PartR m (partT p) p := ⟨_, _, _, rfl, rfl, rfl, rfl⟩
def KN (K : PySem.W.Frag) : Prop := KP K ∧ ∀ f, f ∈ (["rooms", "firsts", "givers", "takers", "members"] : List Str) → OkC K (He.ga K "Net") f
/-- the parts found joined -/
def fdL (ks : List Str) : List (Key × D) := ks.map fun s => (.inr s, .bl true)
theorem keysD (ks : List Str) : (fdL ks).map (·.1) = ks.map Sum.inr := by unfold fdL; rw [List.map_map]; rfl
theorem fd_in (ks : List Str) (s : Str) : (lkp (fdL ks) (.inr s)).isSome = decide (s ∈ ks) := by
  by_cases h : s ∈ ks
  · rw [decide_eq_true h]; exact key_is (keysD ks) h
  · rw [decide_eq_false h, lkp_none (key_ne (keysD ks) h)]; rfl
def addk (ks : List Str) (s : Str) : List Str := if s ∈ ks then ks else ks ++ [s]
theorem fd_put (ks : List Str) (s : Str) : put (fdL ks) (.inr s) (.bl true) = fdL (addk ks s) := by
  unfold addk
  by_cases h : s ∈ ks
  · rw [if_pos h]
    unfold put
    rw [if_pos]
    · unfold fdL
      rw [List.map_map]
      refine List.map_congr_left fun y _ => ?_
      show (if (Sum.inr y : Key) = Sum.inr s then ((Sum.inr y : Key), D.bl true) else (Sum.inr y, D.bl true)) = _
      split <;> rfl
    · refine List.any_eq_true.mpr ⟨(.inr s, .bl true), List.mem_map.mpr ⟨s, h, rfl⟩, decide_eq_true rfl⟩
  · rw [if_neg h, put_new (key_ne (keysD ks) h)]
    unfold fdL
    rw [List.map_append]; rfl
theorem mem_addk {ks : List Str} {s x : Str} : x ∈ addk ks s ↔ x ∈ ks ∨ x = s := by
  unfold addk
  by_cases h : s ∈ ks
  · rw [if_pos h]
    exact ⟨.inl, fun z => z.elim id fun e => e ▸ h⟩
  · rw [if_neg h]; simp
theorem addk_nodup {ks : List Str} {s : Str} (h : ks.Nodup) : (addk ks s).Nodup := by
  unfold addk
  by_cases q : s ∈ ks
  · rw [if_pos q]; exact h
  · rw [if_neg q]
    refine List.nodup_append.mpr ⟨h, by simp, fun a ha b hb z => ?_⟩
    rw [List.mem_singleton.mp hb] at z
    exact q (z ▸ ha)
theorem sub_len : ∀ {xs ys : List Str}, xs.Nodup → (∀ x, x ∈ xs → x ∈ ys) → xs.length ≤ ys.length
  | [], _, _, _ => Nat.zero_le _
  | x :: xs, ys, nd, h => by
    rw [List.nodup_cons] at nd
    obtain ⟨s, t, rfl⟩ := List.append_of_mem (h x (List.mem_cons_self ..))
    have := sub_len (xs := xs) (ys := s ++ t) nd.2 fun y hy => by
      have ne : y ≠ x := fun z => nd.1 (z ▸ hy)
      have := h y (List.mem_cons_of_mem _ hy)
      simp only [List.mem_append, List.mem_cons] at this ⊢
      rcases this with q | q | q
      · exact .inl q
      · exact absurd q ne
      · exact .inr q
    rw [List.length_append] at this
    rw [List.length_cons, List.length_append, List.length_cons]; omega
def Closed (ls : List LaneA) (ps : List PartA) (ks : List Str) : Prop := ∀ l, l ∈ ls → ∀ s t, lkp (endR PartA.outs ps) (.inr l.nm) = some (.str s) → lkp (endR PartA.ins ps) (.inr l.nm) = some (.str t) → (s ∈ ks ↔ t ∈ ks)
theorem inc_ne {p : PartA} (ok : PartOk p) : ∃ x, x ∈ p.inc := by
  have key : ∀ i, i < 11 → 0 < (kt i).ins + (kt i).outs := by
    refine cases11 ?_ ?_ ?_ ?_ ?_ ?_ ?_ ?_ ?_ ?_ ?_ <;> decide
  have h : 0 < p.inc.length := by
    unfold PartA.inc
    rw [List.length_append, ok.li, ok.lo]; exact key _ ok.k
  exact ⟨p.inc[0], List.getElem_mem h⟩
theorem nodup_ins {ls : List LaneA} {ps : List PartA} (ok : NetOk ls ps) : (ps.flatMap PartA.ins).Nodup := ok.pi.nodup_iff.mpr ok.ld
theorem nodup_outs {ls : List LaneA} {ps : List PartA} (ok : NetOk ls ps) : (ps.flatMap PartA.outs).Nodup := ok.po.nodup_iff.mpr ok.ld
theorem giver_at {ls : List LaneA} {ps : List PartA} (ok : NetOk ls ps) {l : LaneA} (hl : l ∈ ls) : ∃ p, p ∈ ps ∧ l.nm ∈ p.outs ∧ lkp (endR PartA.outs ps) (.inr l.nm) = some (.str p.nm) := by
  obtain ⟨p, hp, hx⟩ := List.mem_flatMap.mp (ok.po.symm.subset (List.mem_map.mpr ⟨l, hl, rfl⟩))
  exact ⟨p, hp, hx, end_get (nodup_outs ok) hp hx⟩
theorem taker_at {ls : List LaneA} {ps : List PartA} (ok : NetOk ls ps) {l : LaneA} (hl : l ∈ ls) : ∃ p, p ∈ ps ∧ l.nm ∈ p.ins ∧ lkp (endR PartA.ins ps) (.inr l.nm) = some (.str p.nm) := by
  obtain ⟨p, hp, hx⟩ := List.mem_flatMap.mp (ok.pi.symm.subset (List.mem_map.mpr ⟨l, hl, rfl⟩))
  exact ⟨p, hp, hx, end_get (nodup_ins ok) hp hx⟩
theorem all_joined {ls : List LaneA} {ps : List PartA} {ks : List Str} (ok : NetOk ls ps) (cl : Closed ls ps ks) {p0 : PartA} (h0 : p0 ∈ ps) (hk : p0.nm ∈ ks) : ∀ p, p ∈ ps → p.nm ∈ ks := by
  let ψ : Str → Bool := fun x => match lkp (endR PartA.outs ps) (.inr x) with
    | some (.str s) => decide (s ∈ ks)
    | _ => false
  have key : ∀ p, p ∈ ps → ∀ x, x ∈ p.inc → ψ x = decide (p.nm ∈ ks) := fun p hp x hx => by
    rcases List.mem_append.mp hx with hx | hx
    · have hm : x ∈ ls.map LaneA.nm := ok.pi.subset (List.mem_flatMap.mpr ⟨p, hp, hx⟩)
      obtain ⟨l, hl, rfl⟩ := List.mem_map.mp hm
      obtain ⟨q, hq, hqx, e⟩ := giver_at ok hl
      have := cl l hl q.nm p.nm e (end_get (nodup_ins ok) hp hx)
      show (match lkp (endR PartA.outs ps) (.inr l.nm) with | some (.str s) => decide (s ∈ ks) | _ => false) = _
      rw [e]
      exact decide_eq_decide.mpr this
    · show (match lkp (endR PartA.outs ps) (.inr x) with | some (.str s) => decide (s ∈ ks) | _ => false) = _
      rw [end_get (nodup_outs ok) hp hx]
  intro p hp
  obtain ⟨x, hx⟩ := inc_ne (ok.pok p hp)
  obtain ⟨y, hy⟩ := inc_ne (ok.pok p0 h0)
  have := ok.cn ψ (fun q hq a ha b hb => (key q hq a ha).trans (key q hq b hb).symm) p hp x hx p0 h0 y hy
  rw [key p hp x hx, key p0 h0 y hy, decide_eq_true hk] at this
  exact of_decide_eq_true this
theorem take_snoc {α : Type} {xs : List α} {i : Nat} (h : i < xs.length) : xs.take (i + 1) = xs.take i ++ [xs[i]] := by
  rw [List.take_succ, List.getElem?_eq_getElem h]; rfl
theorem not_before {α : Type} {f : α → Str} {xs : List α} {i : Nat} (nd : (xs.map f).Nodup) (h : i < xs.length) : f xs[i] ∉ (xs.take i).map f := fun z => by
  obtain ⟨y, hy, e⟩ := List.mem_map.mp z
  obtain ⟨j, hj, rfl⟩ := List.mem_iff_getElem.mp hy
  rw [List.length_take] at hj
  rw [List.getElem_take] at e
  have := (List.pairwise_iff_getElem.mp nd) j i (by rw [List.length_map]; omega) (by rw [List.length_map]; exact h) (by omega)
  rw [List.getElem_map, List.getElem_map] at this
  exact this e
theorem flat_take {f : PartA → List Str} {ps : List PartA} {i : Nat} (h : i < ps.length) (nd : (ps.flatMap f).Nodup) : (f ps[i]).Nodup ∧ ∀ x, x ∈ f ps[i] → x ∉ (ps.take i).flatMap f := by
  have e : ps = ps.take i ++ ps[i] :: ps.drop (i + 1) := by rw [List.getElem_cons_drop, List.take_append_drop]
  have nd2 : ((ps.take i).flatMap f ++ (f ps[i] ++ (ps.drop (i + 1)).flatMap f)).Nodup := by
    have : ps.flatMap f = (ps.take i).flatMap f ++ (f ps[i] ++ (ps.drop (i + 1)).flatMap f) := by
      conv => lhs; rw [e]
      rw [List.flatMap_append, List.flatMap_cons]
    rw [← this]; exact nd
  obtain ⟨h1, h2, h3⟩ := List.nodup_append.mp nd2
  obtain ⟨h4, _, _⟩ := List.nodup_append.mp h2
  exact ⟨h4, fun x hx z => h3 x z x (List.mem_append_left _ hx) rfl⟩
theorem endR_snoc {f : PartA → List Str} {ps : List PartA} {p : PartA} : endR f (ps ++ [p]) = endR f ps ++ endsOf1 f p := by
  unfold endR
  rw [List.flatMap_append]; simp
theorem kt_many : ∀ i, i < 11 → (kt i).many ≤ 2 := by
  refine cases11 ?_ ?_ ?_ ?_ ?_ ?_ ?_ ?_ ?_ ?_ ?_ <;> decide +kernel
def nosuch (K : PySem.W.Frag) (nm : Str) : Ex := ⟨He.ga K "NoSuch", some ("name", .str nm)⟩
theorem row_in (ls : List LaneA) (nm : Str) : (lkp (rowsR ls) (.inr nm)).isSome = decide (nm ∈ ls.map LaneA.nm) := by
  by_cases h : nm ∈ ls.map LaneA.nm
  · rw [decide_eq_true h]; exact key_is (keysR ls) h
  · rw [decide_eq_false h, lkp_none (key_ne (keysR ls) h)]; rfl
theorem mem_in (K : PySem.W.Frag) (ps : List PartA) (nm : Str) : (lkp (rowsM K ps) (.inr nm)).isSome = decide (nm ∈ ps.map PartA.nm) := by
  by_cases h : nm ∈ ps.map PartA.nm
  · rw [decide_eq_true h]; exact key_is (keysM K ps) h
  · rw [decide_eq_false h, lkp_none (key_ne (keysM K ps) h)]; rfl
section
variable {K : PySem.W.Frag} {ls : List LaneA} {ps : List PartA} {e : De} {m : Mu} {ta : AE}
theorem f_rooms (kn : KN K) (h : Ev ta e m (netD K ls ps)) : Ev (aFld K "rooms" ta) e m (.dic (rowsR ls)) := ev_fldO h (kn.2 _ (by decide)) rfl
theorem f_firsts (kn : KN K) (h : Ev ta e m (netD K ls ps)) : Ev (aFld K "firsts" ta) e m (.dic (rowsF ls)) := ev_fldO h (kn.2 _ (by decide)) rfl
theorem f_givers (kn : KN K) (h : Ev ta e m (netD K ls ps)) : Ev (aFld K "givers" ta) e m (.dic (endR PartA.outs ps)) := ev_fldO h (kn.2 _ (by decide)) rfl
theorem f_takers (kn : KN K) (h : Ev ta e m (netD K ls ps)) : Ev (aFld K "takers" ta) e m (.dic (endR PartA.ins ps)) := ev_fldO h (kn.2 _ (by decide)) rfl
theorem f_members (kn : KN K) (h : Ev ta e m (netD K ls ps)) : Ev (aFld K "members" ta) e m (.dic (rowsM K ps)) := ev_fldO h (kn.2 _ (by decide)) rfl
end
/-- what is asked of a lane of a net -/
theorem lane_of {ls : List LaneA} {nm : Str} (h : nm ∈ ls.map LaneA.nm) : ∃ l, l ∈ ls ∧ l.nm = nm := by
  obtain ⟨l, hl, e⟩ := List.mem_map.mp h
  exact ⟨l, hl, e⟩
theorem kys_R (ls : List LaneA) : kys (rowsR ls) = (ls.map LaneA.nm).map D.str := by unfold kys rowsR; rw [List.map_map, List.map_map]; rfl
theorem kys_M (K : PySem.W.Frag) (ps : List PartA) : kys (rowsM K ps) = (ps.map PartA.nm).map D.str := by unfold kys rowsM; rw [List.map_map, List.map_map]; rfl
theorem prs_M (K : PySem.W.Frag) (ps : List PartA) : prs (rowsM K ps) = ps.map fun p => .tup [.str p.nm, pD K p] := by unfold prs rowsM; rw [List.map_map]; rfl
def ofK (ps : List PartA) (ws : List Str) : List Str := (ps.filter fun p => decide ((kt p.k).kind ∈ ws)).map PartA.nm
theorem inD_str (s : Str) (ws : List Str) : inD (.str s) (ws.map D.str) = decide (s ∈ ws) := by
  unfold inD
  induction ws with
  | nil => rfl
  | cons w ws ih =>
    rw [List.map_cons, List.any_cons, ih]
    have : eqD (.str w) (.str s) = decide (w = s) := eqD_str w s
    rw [this]
    by_cases h : w = s
    · subst h; simp
    · rw [decide_eq_false h, Bool.false_or]
      by_cases q : s ∈ ws
      · rw [decide_eq_true q, decide_eq_true (List.mem_cons_of_mem _ q)]
      · rw [decide_eq_false q, decide_eq_false]
        exact fun z => (List.mem_cons.mp z).elim (fun z => h z.symm) q
theorem flat_strs (ws : List Str) : (ws.map D.str).all flatD = true := by
  rw [List.all_map]
  exact List.all_eq_true.mpr fun _ _ => rfl
def laneTD (l : LaneA) : D := .tup [.str l.nm, .int l.room, .tup (l.first.map D.int)]
def partTD (p : PartA) : D := .tup [.str (kt p.k).kind, .str p.nm, .tup (p.nums.map D.int), .tup (p.ins.map D.str), .tup (p.outs.map D.str)]
theorem netK_few {ls : List LaneA} {ps : List PartA} (ok : NetOk ls ps) (K : PySem.W.Frag) : (kys (rowsR ls)).length < sizeLine ∧ (prs (rowsM K ps)).length < sizeLine := by
  have := ok.l2
  have := ok.p2
  rw [kys_R, prs_M, List.length_map, List.length_map, List.length_map, sizeLine_eq]
  omega
def numS (v : Int) : Str := Str.ofString (toString v)
theorem split_sp {ws : List Str} (hne : ws ≠ []) (h : ∀ w, w ∈ ws → 32 ∉ w.cps.toList) : Txt.split (Txt.join " " ws) " " = ws := TL.split_join (s := 32) (S := []) (by decide +kernel) (by decide +kernel) hne h
theorem split_nl {ws : List Str} (hne : ws ≠ []) (h : ∀ w, w ∈ ws → 10 ∉ w.cps.toList) : Txt.split (Txt.join "\n" ws) "\n" = ws := TL.split_join (s := 10) (S := []) (by decide +kernel) (by decide +kernel) hne h
theorem numS_sg (m : Nat) : (numS (m : Int)).cps.toList = (Nat.toDigits 10 m).map Char.toNat := PySem.W.KIN.signs_num m
theorem numS_fig {n : Int} (h : 0 ≤ n) {c : Nat} (hc : c ∈ (numS n).cps.toList) : 48 ≤ c ∧ c ≤ 57 := by
  obtain ⟨m, rfl⟩ := Int.eq_ofNat_of_zero_le h
  rw [numS_sg] at hc
  obtain ⟨ch, hch, e⟩ := List.mem_map.mp hc
  have r := digit_range (Nat.isDigit_of_mem_toDigits (by decide) (by decide) hch)
  rw [← e]
  exact r
theorem numS_len {n : Int} (h0 : 0 ≤ n) (h1 : n < 10 ^ 10) : (numS n).length ≤ 10 := PySem.W.KT.len_num h0 h1
theorem numS_reads {n : Int} (h0 : 0 ≤ n) (h1 : n < 10 ^ 10) : PySem.intText? (numS n) = some n := PySem.W.KIN.num_reads h0 h1
theorem dig_head (m : Nat) (h : 0 < m) : ∃ d r, 1 ≤ d ∧ d < 10 ∧ Nat.toDigits 10 m = Nat.digitChar d :: r := by
  induction m using Nat.strongRecOn with
  | _ m ih =>
    by_cases hm : m < 10
    · exact ⟨m, [], h, hm, Nat.toDigits_of_lt_base hm⟩
    · have t : Nat.toDigits 10 (m / 10) ++ Nat.toDigits 10 (m % 10) = Nat.toDigits 10 (10 * (m / 10) + m % 10) := Nat.toDigits_append_toDigits (by decide) (by omega) (Nat.mod_lt m (by decide))
      rw [Nat.div_add_mod] at t
      obtain ⟨d, r, h1, h2, e⟩ := ih (m / 10) (by omega) (by omega)
      exact ⟨d, r ++ Nat.toDigits 10 (m % 10), h1, h2, by rw [← t, e]; rfl⟩
/-- no nought ahead: the first sign is a nought for 0 alone, which has one sign -/
theorem numS_head {n : Int} (h : 0 ≤ n) : (n = 0 ∧ (numS n).cps.toList = [48]) ∨ ∃ c r, (numS n).cps.toList = c :: r ∧ c ≠ 48 := by
  obtain ⟨m, rfl⟩ := Int.eq_ofNat_of_zero_le h
  rcases Nat.eq_zero_or_pos m with rfl | hm
  · exact .inl ⟨rfl, by rw [numS_sg]; decide +kernel⟩
  · obtain ⟨d, r, h1, h2, e⟩ := dig_head m hm
    refine .inr ⟨_, r.map Char.toNat, by rw [numS_sg, e]; rfl, ?_⟩
    have : ∀ d, d < 10 → 1 ≤ d → (Nat.digitChar d).toNat ≠ 48 := by decide
    exact this d h2 h1
theorem val_b {v : Int} (h : isVal v = true) : 0 ≤ v ∧ v < 1000000000 := by
  unfold isVal at h
  rw [Bool.and_eq_true] at h
  exact ⟨of_decide_eq_true h.1, of_decide_eq_true h.2⟩
theorem log_b {v : Int} (h0 : 0 ≤ v) (h1 : v < 10 ^ 10) : v.natAbs.log2 < 1920 := by
  by_cases e : v.natAbs = 0
  · rw [e]; decide
  · refine (Nat.log2_lt e).mpr (Nat.lt_of_lt_of_le (m := 10 ^ 10) (by omega) ?_)
    exact Nat.le_trans (by decide : 10 ^ 10 ≤ 2 ^ 40) (Nat.pow_le_pow_right (by decide) (by decide))
theorem sum_le {ws : List Str} {k : Nat} (h : ∀ w, w ∈ ws → w.length ≤ k) : (ws.map (·.length)).sum ≤ ws.length * k := by
  induction ws with
  | nil => exact Nat.zero_le _
  | cons w r ih =>
    have h1 := h w (List.mem_cons_self ..)
    have h2 := ih fun x hx => h x (List.mem_cons_of_mem _ hx)
    rw [List.map_cons, List.sum_cons, List.length_cons, Nat.succ_mul]
    omega
theorem cutD_from {α : Type} {xs : List α} {k : Nat} : cut xs (some (k : Int)) none = xs.drop k := by
  unfold cut HT.sIx
  simp only []
  rw [if_neg (by omega)]
  by_cases hl : k ≤ xs.length
  · rw [Int.toNat_natCast, Nat.min_eq_left hl, List.take_of_length_le (by rw [List.length_drop]; omega)]
  · rw [Int.toNat_natCast, Nat.min_eq_right (by omega), List.drop_of_length_le (by omega), List.drop_of_length_le (by omega)]; simp
def KF (K : PySem.W.Frag) : Prop := (∀ x, x ∈ (["Give", "Take", "Pass", "Copy", "Turn", "Heap", "Add", "Less", "Order", "Choose", "Split", "Net"] : List Str) → ∀ f, f ∈ (["name", "numbers", "ins", "outs", "rooms", "firsts", "givers", "takers", "members"] : List Str) → OkC K (He.ga K x) f)
structure KX (K : PySem.W.Frag) : Prop where
  exm_BadWord_BadWord : PySem.W.exmOne K (.ref (He.ga K "BadWord")) (.ref (He.ga K "BadWord")) = some true
/-! part_shown -/
def t_part_shown : AS :=
    (aSeq (aAsg (aVar 0) (agTup 5 (agCons (agName 2) (agCons (agName 3) (agCons (agName 4) (agCons (agName 5) (agCons (agName 6) agNil)))))))
    (aSeq (aSet 1 (aOp (bAdd false) (aLst false (aCons (aVar 2) (aCons (aVar 3) aNil))) (aLc false (aiSeq (aVar 4)) (agName 7) aYes (aCB bStr (aCons (aVar 7) aNil)) [7])))
    (aRet (aBM "str" bJoin (aC (.str " ")) (aCons (aOp (bAdd false) (aOp (bAdd false) (aOp (bAdd false) (aOp (bAdd false) (aVar 1) (aLst false (aCons (aC (.str ":")) aNil))) (aCB (bList false) (aCons (aVar 5) aNil))) (aLst false (aCons (aC (.str ">")) aNil))) (aCB (bList false) (aCons (aVar 6) aNil))) aNil)))))
abbrev N_part_shown : List Str := ["one", "words", "kind", "name", "numbers", "ins", "outs", "number"]
def partWs (p : PartA) : List Str := [(kt p.k).kind, p.nm] ++ p.nums.map numS ++ ([":"] : List Str) ++ p.ins ++ ([">"] : List Str) ++ p.outs
theorem kt_sm : ∀ i, i < 11 → (kt i).many ≤ 2 ∧ (kt i).ins ≤ 3 ∧ (kt i).outs ≤ 2 ∧ (kt i).kind.length ≤ 8 := by decide +kernel
def sp_part_shown : ASp := fun ds m Q _ => ∃ p : PartA, ds = [partTD p] ∧ PartOk p ∧ p.nm.length ≤ 8 ∧ (∀ w, w ∈ p.inc → w.length ≤ 8) ∧ Q (.str (Txt.join " " (partWs p))) m
theorem len_part_shown (ds : List D) (m : Mu) (Q : QD) (XX : XA) (h : sp_part_shown ds m Q XX) : ds.length = 1 := by
  obtain ⟨_, rfl, _⟩ := h; rfl
theorem partWs_len {p : PartA} (ok : PartOk p) : (partWs p).length ≤ 11 := by
  have k := kt_sm p.k ok.k
  have e1 := ok.ln
  have e2 := ok.li
  have e3 := ok.lo
  unfold partWs
  simp only [List.length_append, List.length_map, List.length_cons, List.length_nil]
  omega
theorem partWs_le {p : PartA} (ok : PartOk p) (nl : p.nm.length ≤ 8) (wl : ∀ w, w ∈ p.inc → w.length ≤ 8) : ((partWs p).map (·.length)).sum + (partWs p).length * (" " : Str).length ≤ 16777216 := by
  have k := kt_sm p.k ok.k
  have e1 := partWs_len ok
  have e2 : ((partWs p).map (·.length)).sum ≤ (partWs p).length * 10 := sum_le fun w hw => by
    unfold partWs at hw
    simp only [List.mem_append, List.mem_cons, List.mem_map, List.not_mem_nil, or_false] at hw
    have c1 : (":" : Str).length ≤ 10 := by decide +kernel
    have c2 : (">" : Str).length ≤ 10 := by decide +kernel
    rcases hw with (((((rfl | rfl) | ⟨v, hv, rfl⟩) | rfl) | hi) | rfl) | ho
    · omega
    · omega
    · have := val_b (ok.vn v hv)
      exact numS_len (by omega) (by omega)
    · exact c1
    · exact Nat.le_trans (wl w (List.mem_append_left _ hi)) (by decide)
    · exact c2
    · exact Nat.le_trans (wl w (List.mem_append_right _ ho)) (by decide)
  have e3 : (" " : Str).length = 1 := by decide +kernel
  rw [e3]
  omega
theorem pure_part_shown (ds : List D) (m : Mu) (Q : QD) (XX : XA) (h : sp_part_shown ds m Q XX) : t_part_shown (endsOf Q XX) (slots N_part_shown ds) m := by
  obtain ⟨p, rfl, ok, nl, wl, h⟩ := h
  have k := kt_sm p.k ok.k
  have e1 := ok.ln
  have e2 := ok.li
  have e3 := ok.lo
  have hs := sizeLine_eq
  refine k_seq (k_asg (ev_var rfl) (bnd_tup (bnds_cons bnd_name (bnds_cons bnd_name (bnds_cons bnd_name (bnds_cons bnd_name (bnds_cons bnd_name bnds_nil)))))) ?_)
  refine k_seq (k_set (ev_op2 (x := .lst [.str (kt p.k).kind, .str p.nm]) (y := .lst (p.nums.map fun v => .str (numS v)))
    (ev_lst (ev_cons (ev_var rfl) (ev_cons (ev_var rfl) ev_nil)))
    ((ev_lcG p.nums D.int (fun _ => true) (fun v => .str (numS v)) (ei_seq (xs := p.nums.map D.int) (ev_var rfl) rfl) rfl (by rw [hs]; omega) fun v hv => ⟨_, bnd_name, fun _ _ q => q, fun _ => ev_opA (ev_cons (ev_var rfl) ev_nil) (o_strI (i := v) (by have := val_b (ok.vn v hv); exact log_b (by omega) (by omega)))⟩).to (by rw [List.filter_eq_self.mpr (fun _ _ => rfl)]))
    (o_addLL (by rw [List.length_map, hs]; show 2 + _ ≤ _; omega))) ?_)
  refine k_ret (ev_opM ev_c (ev_cons (ev_op2 (ev_op2 (ev_op2 (ev_op2 (ev_var rfl) (ev_lst (ev_cons ev_c ev_nil)) (o_addLL ?_)) (ev_opA (ev_cons (ev_var rfl) ev_nil) o_listT) (o_addLL ?_)) (ev_lst (ev_cons ev_c ev_nil)) (o_addLL ?_)) (ev_opA (ev_cons (ev_var rfl) ev_nil) o_listT) (o_addLL ?_)) ev_nil)
    (o_join (ys := partWs p) (by unfold partWs; simp only [List.map_append, List.map_map, List.map_cons, List.map_nil]; rfl) (partWs_le ok nl wl)) td_str) h
  all_goals
    simp only [List.length_append, List.length_map, List.length_cons, List.length_nil]
    omega
/-! lane_shown -/
def t_lane_shown : AS :=
    (aSeq (aAsg (aVar 0) (agTup 3 (agCons (agName 1) (agCons (agName 2) (agCons (agName 3) agNil)))))
    (aRet (aBM "str" bJoin (aC (.str " ")) (aCons (aOp (bAdd false) (aLst false (aCons (aC (.str "lane")) (aCons (aVar 1) (aCons (aCB bStr (aCons (aVar 2) aNil)) aNil)))) (aLc false (aiSeq (aVar 3)) (agName 4) aYes (aCB bStr (aCons (aVar 4) aNil)) [4])) aNil))))
abbrev N_lane_shown : List Str := ["lane", "name", "room", "first", "value"]
def laneWs (l : LaneA) : List Str := (["lane", l.nm, numS l.room] : List Str) ++ l.first.map numS
def sp_lane_shown : ASp := fun ds m Q _ => ∃ l : LaneA, ds = [laneTD l] ∧ LaneOk l ∧ l.nm.length ≤ 8 ∧ Q (.str (Txt.join " " (laneWs l))) m
theorem len_lane_shown (ds : List D) (m : Mu) (Q : QD) (XX : XA) (h : sp_lane_shown ds m Q XX) : ds.length = 1 := by
  obtain ⟨_, rfl, _⟩ := h; rfl
theorem laneWs_le {l : LaneA} (ok : LaneOk l) (nl : l.nm.length ≤ 8) : ((laneWs l).map (·.length)).sum + (laneWs l).length * (" " : Str).length ≤ 16777216 := by
  have r0 := ok.r0
  have r1 := ok.r1
  have fl := ok.fl
  have e1 : (laneWs l).length = 3 + l.first.length := by unfold laneWs; rw [List.length_append, List.length_map]; rfl
  have e2 : ((laneWs l).map (·.length)).sum ≤ (laneWs l).length * 10 := sum_le fun w hw => by
    unfold laneWs at hw
    rcases List.mem_append.mp hw with h | h
    · rcases List.mem_cons.mp h with rfl | h
      · decide +kernel
      · rcases List.mem_cons.mp h with rfl | h
        · omega
        · rw [List.mem_singleton.mp h]
          exact numS_len (by omega) (by omega)
    · obtain ⟨v, hv, rfl⟩ := List.mem_map.mp h
      have := val_b (ok.fv v hv)
      exact numS_len (by omega) (by omega)
  have e3 : (" " : Str).length = 1 := by decide +kernel
  rw [e1] at e2
  rw [e1, e3]
  omega
theorem pure_lane_shown (ds : List D) (m : Mu) (Q : QD) (XX : XA) (h : sp_lane_shown ds m Q XX) : t_lane_shown (endsOf Q XX) (slots N_lane_shown ds) m := by
  obtain ⟨l, rfl, ok, nl, h⟩ := h
  have r0 := ok.r0
  have r1 := ok.r1
  have fl := ok.fl
  have hs := sizeLine_eq
  refine k_seq (k_asg (ev_var rfl) (bnd_tup (bnds_cons bnd_name (bnds_cons bnd_name (bnds_cons bnd_name bnds_nil)))) ?_)
  refine k_ret (ev_opM ev_c (ev_cons (ev_op2 (x := .lst [.str "lane", .str l.nm, .str (numS l.room)]) (y := .lst (l.first.map fun v => .str (numS v)))
    (ev_lst (ev_cons ev_c (ev_cons (ev_var rfl) (ev_cons (ev_opA (ev_cons (ev_var rfl) ev_nil) (o_strI (i := l.room) (log_b (by omega) (by omega)))) ev_nil))))
    ((ev_lcG l.first D.int (fun _ => true) (fun v => .str (numS v)) (ei_seq (xs := l.first.map D.int) (ev_var rfl) rfl) rfl (by rw [hs]; omega) fun v hv => ⟨_, bnd_name, fun _ _ q => q, fun _ => ev_opA (ev_cons (ev_var rfl) ev_nil) (o_strI (i := v) (by have := val_b (ok.fv v hv); exact log_b (by omega) (by omega)))⟩).to (by rw [List.filter_eq_self.mpr (fun _ _ => rfl)]))
    (o_addLL (by rw [List.length_map, hs]; show 3 + _ ≤ _; omega))) ev_nil) (o_join (ys := laneWs l) (by unfold laneWs; rw [List.map_append, List.map_map]; rfl) (laneWs_le ok nl)) td_str) h
/-! Give.kind -/
def t_Give_kind : AS :=
    (aRet (aC (.str "give")))
abbrev N_Give_kind : List Str := ["self"]
def sp_Give_kind : ASp := fun ds m Q _ => ∃ d, ds = [d] ∧ Q (.str "give") m
theorem len_Give_kind (ds : List D) (m : Mu) (Q : QD) (XX : XA) (h : sp_Give_kind ds m Q XX) : ds.length = 1 := by
  obtain ⟨d, rfl, _⟩ := h; rfl
theorem pure_Give_kind (ds : List D) (m : Mu) (Q : QD) (XX : XA) (h : sp_Give_kind ds m Q XX) : t_Give_kind (endsOf Q XX) (slots N_Give_kind ds) m := by
  obtain ⟨d, rfl, h⟩ := h
  exact k_ret (by walk_at "ev") h
/-! Take.kind -/
def t_Take_kind : AS :=
    (aRet (aC (.str "take")))
abbrev N_Take_kind : List Str := ["self"]
def sp_Take_kind : ASp := fun ds m Q _ => ∃ d, ds = [d] ∧ Q (.str "take") m
theorem len_Take_kind (ds : List D) (m : Mu) (Q : QD) (XX : XA) (h : sp_Take_kind ds m Q XX) : ds.length = 1 := by
  obtain ⟨d, rfl, _⟩ := h; rfl
theorem pure_Take_kind (ds : List D) (m : Mu) (Q : QD) (XX : XA) (h : sp_Take_kind ds m Q XX) : t_Take_kind (endsOf Q XX) (slots N_Take_kind ds) m := by
  obtain ⟨d, rfl, h⟩ := h
  exact k_ret (by walk_at "ev") h
/-! Pass.kind -/
def t_Pass_kind : AS :=
    (aRet (aC (.str "pass")))
abbrev N_Pass_kind : List Str := ["self"]
def sp_Pass_kind : ASp := fun ds m Q _ => ∃ d, ds = [d] ∧ Q (.str "pass") m
theorem len_Pass_kind (ds : List D) (m : Mu) (Q : QD) (XX : XA) (h : sp_Pass_kind ds m Q XX) : ds.length = 1 := by
  obtain ⟨d, rfl, _⟩ := h; rfl
theorem pure_Pass_kind (ds : List D) (m : Mu) (Q : QD) (XX : XA) (h : sp_Pass_kind ds m Q XX) : t_Pass_kind (endsOf Q XX) (slots N_Pass_kind ds) m := by
  obtain ⟨d, rfl, h⟩ := h
  exact k_ret (by walk_at "ev") h
/-! Copy.kind -/
def t_Copy_kind : AS :=
    (aRet (aC (.str "copy")))
abbrev N_Copy_kind : List Str := ["self"]
def sp_Copy_kind : ASp := fun ds m Q _ => ∃ d, ds = [d] ∧ Q (.str "copy") m
theorem len_Copy_kind (ds : List D) (m : Mu) (Q : QD) (XX : XA) (h : sp_Copy_kind ds m Q XX) : ds.length = 1 := by
  obtain ⟨d, rfl, _⟩ := h; rfl
theorem pure_Copy_kind (ds : List D) (m : Mu) (Q : QD) (XX : XA) (h : sp_Copy_kind ds m Q XX) : t_Copy_kind (endsOf Q XX) (slots N_Copy_kind ds) m := by
  obtain ⟨d, rfl, h⟩ := h
  exact k_ret (by walk_at "ev") h
/-! Turn.kind -/
def t_Turn_kind : AS :=
    (aRet (aC (.str "turn")))
abbrev N_Turn_kind : List Str := ["self"]
def sp_Turn_kind : ASp := fun ds m Q _ => ∃ d, ds = [d] ∧ Q (.str "turn") m
theorem len_Turn_kind (ds : List D) (m : Mu) (Q : QD) (XX : XA) (h : sp_Turn_kind ds m Q XX) : ds.length = 1 := by
  obtain ⟨d, rfl, _⟩ := h; rfl
theorem pure_Turn_kind (ds : List D) (m : Mu) (Q : QD) (XX : XA) (h : sp_Turn_kind ds m Q XX) : t_Turn_kind (endsOf Q XX) (slots N_Turn_kind ds) m := by
  obtain ⟨d, rfl, h⟩ := h
  exact k_ret (by walk_at "ev") h
/-! Heap.kind -/
def t_Heap_kind : AS :=
    (aRet (aC (.str "heap")))
abbrev N_Heap_kind : List Str := ["self"]
def sp_Heap_kind : ASp := fun ds m Q _ => ∃ d, ds = [d] ∧ Q (.str "heap") m
theorem len_Heap_kind (ds : List D) (m : Mu) (Q : QD) (XX : XA) (h : sp_Heap_kind ds m Q XX) : ds.length = 1 := by
  obtain ⟨d, rfl, _⟩ := h; rfl
theorem pure_Heap_kind (ds : List D) (m : Mu) (Q : QD) (XX : XA) (h : sp_Heap_kind ds m Q XX) : t_Heap_kind (endsOf Q XX) (slots N_Heap_kind ds) m := by
  obtain ⟨d, rfl, h⟩ := h
  exact k_ret (by walk_at "ev") h
/-! Add.kind -/
def t_Add_kind : AS :=
    (aRet (aC (.str "add")))
abbrev N_Add_kind : List Str := ["self"]
def sp_Add_kind : ASp := fun ds m Q _ => ∃ d, ds = [d] ∧ Q (.str "add") m
theorem len_Add_kind (ds : List D) (m : Mu) (Q : QD) (XX : XA) (h : sp_Add_kind ds m Q XX) : ds.length = 1 := by
  obtain ⟨d, rfl, _⟩ := h; rfl
theorem pure_Add_kind (ds : List D) (m : Mu) (Q : QD) (XX : XA) (h : sp_Add_kind ds m Q XX) : t_Add_kind (endsOf Q XX) (slots N_Add_kind ds) m := by
  obtain ⟨d, rfl, h⟩ := h
  exact k_ret (by walk_at "ev") h
/-! Less.kind -/
def t_Less_kind : AS :=
    (aRet (aC (.str "less")))
abbrev N_Less_kind : List Str := ["self"]
def sp_Less_kind : ASp := fun ds m Q _ => ∃ d, ds = [d] ∧ Q (.str "less") m
theorem len_Less_kind (ds : List D) (m : Mu) (Q : QD) (XX : XA) (h : sp_Less_kind ds m Q XX) : ds.length = 1 := by
  obtain ⟨d, rfl, _⟩ := h; rfl
theorem pure_Less_kind (ds : List D) (m : Mu) (Q : QD) (XX : XA) (h : sp_Less_kind ds m Q XX) : t_Less_kind (endsOf Q XX) (slots N_Less_kind ds) m := by
  obtain ⟨d, rfl, h⟩ := h
  exact k_ret (by walk_at "ev") h
/-! Order.kind -/
def t_Order_kind : AS :=
    (aRet (aC (.str "order")))
abbrev N_Order_kind : List Str := ["self"]
def sp_Order_kind : ASp := fun ds m Q _ => ∃ d, ds = [d] ∧ Q (.str "order") m
theorem len_Order_kind (ds : List D) (m : Mu) (Q : QD) (XX : XA) (h : sp_Order_kind ds m Q XX) : ds.length = 1 := by
  obtain ⟨d, rfl, _⟩ := h; rfl
theorem pure_Order_kind (ds : List D) (m : Mu) (Q : QD) (XX : XA) (h : sp_Order_kind ds m Q XX) : t_Order_kind (endsOf Q XX) (slots N_Order_kind ds) m := by
  obtain ⟨d, rfl, h⟩ := h
  exact k_ret (by walk_at "ev") h
/-! Choose.kind -/
def t_Choose_kind : AS :=
    (aRet (aC (.str "choose")))
abbrev N_Choose_kind : List Str := ["self"]
def sp_Choose_kind : ASp := fun ds m Q _ => ∃ d, ds = [d] ∧ Q (.str "choose") m
theorem len_Choose_kind (ds : List D) (m : Mu) (Q : QD) (XX : XA) (h : sp_Choose_kind ds m Q XX) : ds.length = 1 := by
  obtain ⟨d, rfl, _⟩ := h; rfl
theorem pure_Choose_kind (ds : List D) (m : Mu) (Q : QD) (XX : XA) (h : sp_Choose_kind ds m Q XX) : t_Choose_kind (endsOf Q XX) (slots N_Choose_kind ds) m := by
  obtain ⟨d, rfl, h⟩ := h
  exact k_ret (by walk_at "ev") h
/-! Split.kind -/
def t_Split_kind : AS :=
    (aRet (aC (.str "split")))
abbrev N_Split_kind : List Str := ["self"]
def sp_Split_kind : ASp := fun ds m Q _ => ∃ d, ds = [d] ∧ Q (.str "split") m
theorem len_Split_kind (ds : List D) (m : Mu) (Q : QD) (XX : XA) (h : sp_Split_kind ds m Q XX) : ds.length = 1 := by
  obtain ⟨d, rfl, _⟩ := h; rfl
theorem pure_Split_kind (ds : List D) (m : Mu) (Q : QD) (XX : XA) (h : sp_Split_kind ds m Q XX) : t_Split_kind (endsOf Q XX) (slots N_Split_kind ds) m := by
  obtain ⟨d, rfl, h⟩ := h
  exact k_ret (by walk_at "ev") h
def T_kind (K : PySem.W.Frag) : List (Addr × List D × ASp) := [(He.ga K "Give", [], sp_Give_kind), (He.ga K "Take", [], sp_Take_kind), (He.ga K "Pass", [], sp_Pass_kind), (He.ga K "Copy", [], sp_Copy_kind), (He.ga K "Turn", [], sp_Turn_kind), (He.ga K "Heap", [], sp_Heap_kind), (He.ga K "Add", [], sp_Add_kind), (He.ga K "Less", [], sp_Less_kind), (He.ga K "Order", [], sp_Order_kind), (He.ga K "Choose", [], sp_Choose_kind), (He.ga K "Split", [], sp_Split_kind)]
theorem kind_ok (K : PySem.W.Frag) : ∀ i, i < 11 → ∃ sp, (He.ga K (kt i).cl, [], sp) ∈ T_kind K ∧ ∀ (d : D) (m : Mu) (Q : QD) (X : XA), Q (.str (kt i).kind) m → sp [d] m Q X := by
  refine cases11 ?_ ?_ ?_ ?_ ?_ ?_ ?_ ?_ ?_ ?_ ?_
  · exact ⟨_, List.mem_of_getElem? (i := 0) rfl, fun d m Q X q => ⟨d, rfl, q⟩⟩
  · exact ⟨_, List.mem_of_getElem? (i := 1) rfl, fun d m Q X q => ⟨d, rfl, q⟩⟩
  · exact ⟨_, List.mem_of_getElem? (i := 2) rfl, fun d m Q X q => ⟨d, rfl, q⟩⟩
  · exact ⟨_, List.mem_of_getElem? (i := 3) rfl, fun d m Q X q => ⟨d, rfl, q⟩⟩
  · exact ⟨_, List.mem_of_getElem? (i := 4) rfl, fun d m Q X q => ⟨d, rfl, q⟩⟩
  · exact ⟨_, List.mem_of_getElem? (i := 5) rfl, fun d m Q X q => ⟨d, rfl, q⟩⟩
  · exact ⟨_, List.mem_of_getElem? (i := 6) rfl, fun d m Q X q => ⟨d, rfl, q⟩⟩
  · exact ⟨_, List.mem_of_getElem? (i := 7) rfl, fun d m Q X q => ⟨d, rfl, q⟩⟩
  · exact ⟨_, List.mem_of_getElem? (i := 8) rfl, fun d m Q X q => ⟨d, rfl, q⟩⟩
  · exact ⟨_, List.mem_of_getElem? (i := 9) rfl, fun d m Q X q => ⟨d, rfl, q⟩⟩
  · exact ⟨_, List.mem_of_getElem? (i := 10) rfl, fun d m Q X q => ⟨d, rfl, q⟩⟩
/-! Net.told -/
def t_Net_told (K : PySem.W.Frag) : AS :=
    (aSeq (aSet 1 (aLcD false kys (aFld K "rooms" (aVar 0)) (agName 3) aYes (aTup (aCons (aVar 3) (aCons (aOp bIx (aFld K "rooms" (aVar 0)) (aVar 3)) (aCons (aOp bIx (aFld K "firsts" (aVar 0)) (aVar 3)) aNil)))) [3]))
    (aSeq (aSet 2 (aLst true aNil))
    (aSeq (aForD prs (aFld K "members" (aVar 0)) (agTup 2 (agCons (agName 3) (agCons (agName 4) agNil)))
    (aDrop (aBM "list" bAppend (aVar 2) (aCons (aTup (aCons (aMeth "kind" (T_kind K) (aVar 4) aNil) (aCons (aVar 3) (aCons (aFld K "numbers" (aVar 4)) (aCons (aFld K "ins" (aVar 4)) (aCons (aFld K "outs" (aVar 4)) aNil)))))) aNil))))
    (aRet (aTup (aCons (aVar 1) (aCons (aFz (aVar 2)) aNil)))))))
abbrev N_Net_told : List Str := ["self", "lanes", "parts", "name", "one"]
def sp_Net_told (K : PySem.W.Frag) : ASp := fun ds m Q _ => KN K ∧ ∃ (ls : List LaneA) (ps : List PartA), ds = [netD K ls ps] ∧ NetOk ls ps ∧ Q (.tup [.lst (ls.map laneTD), .lst (ps.map partTD)]) m
theorem len_Net_told {K : PySem.W.Frag} (ds : List D) (m : Mu) (Q : QD) (XX : XA) (h : sp_Net_told K ds m Q XX) : ds.length = 1 := by
  obtain ⟨_, _, _, rfl, _⟩ := h; rfl
def laneF (ls : List LaneA) : D → D
  | .str s => match ls.find? fun l => decide (l.nm = s) with
    | some l => laneTD l
    | none => .non
  | d => d
theorem lane_find {ls : List LaneA} (nd : (ls.map LaneA.nm).Nodup) : ∀ l, l ∈ ls → ls.find? (fun q => decide (q.nm = l.nm)) = some l := fun l hl => by
  induction ls with
  | nil => cases hl
  | cons q r ih =>
    rw [List.map_cons, List.nodup_cons] at nd
    rcases List.mem_cons.mp hl with rfl | hl
    · simp
    · have ne : q.nm ≠ l.nm := fun z => nd.1 (by rw [z]; exact List.mem_map.mpr ⟨l, hl, rfl⟩)
      rw [List.find?_cons, decide_eq_false ne]
      exact ih nd.2 hl
theorem laneF_map {ls : List LaneA} (nd : (ls.map LaneA.nm).Nodup) : ((ls.map LaneA.nm).map D.str).map (laneF ls) = ls.map laneTD := by
  rw [List.map_map, List.map_map]
  refine List.map_congr_left fun l hl => ?_
  show (match ls.find? (fun q => decide (q.nm = l.nm)) with | some l => laneTD l | none => .non) = _
  rw [lane_find nd l hl]
theorem pure_Net_told {K : PySem.W.Frag} (ds : List D) (m : Mu) (Q : QD) (XX : XA) (h : sp_Net_told K ds m Q XX) : t_Net_told K (endsOf Q XX) (slots N_Net_told ds) m := by
  obtain ⟨kn, ls, ps, rfl, ok, h⟩ := h
  rw [← laneF_map ok.ld, ← kys_R] at h
  refine k_seq (k_set (ev_lcDM (laneF ls) (f_rooms kn (ev_var rfl)) (netK_few ok K).1 (fun d hd => ?_)) (k_seq ?_))
  · rw [kys_R] at hd
    obtain ⟨s, hs, rfl⟩ := List.mem_map.mp hd
    obtain ⟨l, hl, rfl⟩ := List.mem_map.mp hs
    refine ⟨_, bnd_name, ?_⟩
    have e : laneF ls (.str l.nm) = laneTD l := by
      show (match ls.find? (fun q => decide (q.nm = l.nm)) with | some l => laneTD l | none => .non) = _
      rw [lane_find ok.ld l hl]
    rw [e]
    exact ev_tup (ev_cons (ev_var rfl) (ev_cons (ev_op2 (f_rooms kn (ev_var rfl)) (ev_var rfl) (o_ixK rfl rfl (row_get ok.ld hl).1)) (ev_cons (ev_op2 (f_firsts kn (ev_var rfl)) (ev_var rfl) (o_ixK rfl rfl (row_get ok.ld hl).2)) ev_nil)))
  refine k_setN ev_nil fun c2 hc2 => k_seq ?_
  have p2 := ok.p2
  refine k_forDd (es := rowsM K ps) (f_members kn (ev_var rfl)) (fun i e' m' => ∃ v3 v4, e' = [some (netD K ls ps), some (.lst ((kys (rowsR ls)).map (laneF ls))), some (.cell c2), v3, v4] ∧ m' = mset m c2 (.lst ((ps.take i).map partTD))) ⟨_, _, rfl, rfl⟩ ?_ ?_
  · rintro i d e' m' hd ⟨v3, v4, rfl, rfl⟩
    rw [prs_M, List.getElem?_map] at hd
    cases e : ps[i]? with
    | none => rw [e] at hd; cases hd
    | some p =>
      rw [e] at hd
      cases hd
      obtain ⟨hi, ep⟩ := List.getElem?_eq_some_iff.mp e
      have hp : p ∈ ps := ep ▸ List.getElem_mem hi
      obtain ⟨sp, hT, hs⟩ := kind_ok K p.k (ok.pok p hp).k
      have okc := kn.1 p.k (ok.pok p hp).k
      refine bnd_tup (bnds_cons bnd_name (bnds_cons bnd_name bnds_nil)) rfl _ _ _ (k_append (ev_var rfl) (ev_cons (ev_tup (ev_cons (ev_methO (ev_var rfl) rfl hT ev_nil fun Q X q => hs _ _ _ _ q) (ev_cons (ev_var rfl) (ev_cons (ev_fldO (ev_var rfl) (okc _ (by decide)) rfl) (ev_cons (ev_fldO (ev_var rfl) (okc _ (by decide)) rfl) (ev_cons (ev_fldO (ev_var rfl) (okc _ (by decide)) rfl) ev_nil)))))) ev_nil) mset_same (by rw [List.length_map, List.length_take, sizeLine_eq]; omega) ⟨_, _, rfl, ?_⟩)
      rw [mset_mset, List.take_succ, e, List.map_append]; rfl
  · rintro e' m' ⟨v3, v4, rfl, rfl⟩
    rw [prs_M, List.length_map, List.take_length]
    refine k_retX (x_tup (ev_var rfl _ _ ?_))
    refine x_fzL (ev_var rfl) mset_same ?_
    rw [show mdel (mset m c2 (.lst (ps.map partTD))) c2 = m from mdel_mset hc2]
    show (2 : Nat) ≤ sizeLine ∧ Q (D.tup [_, _]) m
    exact ⟨Nat.le_of_ble_eq_true rfl, h⟩
def T_told (K : PySem.W.Frag) : List (Addr × List D × ASp) := [(He.ga K "Net", [], (sp_Net_told K))]
/-! show_net -/
def t_show_net (K : PySem.W.Frag) : AS :=
    (aSeq (aAsg (aMeth "told" (T_told K) (aVar 0) aNil) (agTup 2 (agCons (agName 1) (agCons (agName 2) agNil))))
    (aRet (aBM "str" bJoin (aC (.str "\n")) (aCons (aOp (bAdd false) (aLc false (aiSeq (aVar 1)) (agName 3) aYes (aCall sp_lane_shown [] (aCons (aVar 3) aNil)) [3]) (aLc false (aiSeq (aVar 2)) (agName 4) aYes (aCall sp_part_shown [] (aCons (aVar 4) aNil)) [4])) aNil))))
abbrev N_show_net : List Str := ["net", "lanes", "parts", "lane", "one"]
def netRows (ls : List LaneA) (ps : List PartA) : List Str := ls.map (fun l => Txt.join " " (laneWs l)) ++ ps.map (fun p => Txt.join " " (partWs p))
def netTx (ls : List LaneA) (ps : List PartA) : Str := Txt.join "\n" (netRows ls ps)
theorem join_len {sep : Str} {ws : List Str} {k : Nat} (h : ∀ w, w ∈ ws → w.length ≤ k) (hs : sep.length = 1) : (Txt.join sep ws).length ≤ ws.length * (k + 1) := by
  cases ws with
  | nil => rw [TL.join_eq]; exact Nat.zero_le _
  | cons a l =>
    have e := PyProof.Rows.len_join_cons sep a l
    have s := sum_le h
    rw [TL.join_eq, e, hs, Nat.mul_one, Nat.mul_add, Nat.mul_one]
    have : l.length ≤ (a :: l).length := by simp
    omega
theorem part_inc {ls : List LaneA} {ps : List PartA} (ok : NetOk ls ps) {p : PartA} (hp : p ∈ ps) {w : Str} (hw : w ∈ p.inc) : isNm w = true ∧ w.length ≤ 8 ∧ PyData.strOk w = true := by
  have hm : w ∈ ls.map LaneA.nm := by
    rcases List.mem_append.mp hw with h | h
    · exact ok.pi.subset (List.mem_flatMap.mpr ⟨p, hp, h⟩)
    · exact ok.po.subset (List.mem_flatMap.mpr ⟨p, hp, h⟩)
  obtain ⟨l, hl, rfl⟩ := List.mem_map.mp hm
  exact ok.li l hl
theorem laneWs_10 {l : LaneA} (ok : LaneOk l) (nl : l.nm.length ≤ 8) : ∀ w, w ∈ laneWs l → w.length ≤ 10 := fun w hw => by
  have r0 := ok.r0
  have r1 := ok.r1
  unfold laneWs at hw
  rcases List.mem_append.mp hw with h | h
  · rcases List.mem_cons.mp h with rfl | h
    · decide +kernel
    · rcases List.mem_cons.mp h with rfl | h
      · omega
      · rw [List.mem_singleton.mp h]
        exact numS_len (by omega) (by omega)
  · obtain ⟨v, hv, rfl⟩ := List.mem_map.mp h
    have := val_b (ok.fv v hv)
    exact numS_len (by omega) (by omega)
theorem partWs_10 {p : PartA} (ok : PartOk p) (nl : p.nm.length ≤ 8) (wl : ∀ w, w ∈ p.inc → w.length ≤ 8) : ∀ w, w ∈ partWs p → w.length ≤ 10 := fun w hw => by
  have k := kt_sm p.k ok.k
  unfold partWs at hw
  simp only [List.mem_append, List.mem_cons, List.mem_map, List.not_mem_nil, or_false] at hw
  have c1 : (":" : Str).length ≤ 10 := by decide +kernel
  have c2 : (">" : Str).length ≤ 10 := by decide +kernel
  rcases hw with (((((rfl | rfl) | ⟨v, hv, rfl⟩) | rfl) | hi) | rfl) | ho
  · omega
  · omega
  · have := val_b (ok.vn v hv)
    exact numS_len (by omega) (by omega)
  · exact c1
  · exact Nat.le_trans (wl w (List.mem_append_left _ hi)) (by decide)
  · exact c2
  · exact Nat.le_trans (wl w (List.mem_append_right _ ho)) (by decide)
theorem laneWs_len {l : LaneA} (ok : LaneOk l) : (laneWs l).length ≤ 202 := by
  have r1 := ok.r1
  have fl := ok.fl
  have e1 : (laneWs l).length = 3 + l.first.length := by unfold laneWs; rw [List.length_append, List.length_map]; rfl
  omega
theorem row_len {ls : List LaneA} {ps : List PartA} (ok : NetOk ls ps) : ∀ r, r ∈ netRows ls ps → r.length ≤ 2300 := fun r hr => by
  have s1 : (" " : Str).length = 1 := by decide +kernel
  rcases List.mem_append.mp hr with h | h
  · obtain ⟨l, hl, rfl⟩ := List.mem_map.mp h
    have a := join_len (sep := " ") (laneWs_10 (ok.lok l hl) (ok.li l hl).2.1) s1
    have b := laneWs_len (ok.lok l hl)
    omega
  · obtain ⟨p, hp, rfl⟩ := List.mem_map.mp h
    have a := join_len (sep := " ") (partWs_10 (ok.pok p hp) (ok.pl p hp).2.1 fun w hw => (part_inc ok hp hw).2.1) s1
    have b := partWs_len (ok.pok p hp)
    omega
theorem rows_n {ls : List LaneA} {ps : List PartA} (ok : NetOk ls ps) : (netRows ls ps).length ≤ 40 := by
  have := ok.l2
  have := ok.p2
  unfold netRows
  rw [List.length_append, List.length_map, List.length_map]; omega
theorem rows_fit {ls : List LaneA} {ps : List PartA} (ok : NetOk ls ps) : ((netRows ls ps).map (·.length)).sum + (netRows ls ps).length * ("\n" : Str).length ≤ 16777216 := by
  have a := sum_le (row_len ok)
  have b := rows_n ok
  have s1 : ("\n" : Str).length = 1 := by decide +kernel
  rw [s1]; omega
theorem netTx_len {ls : List LaneA} {ps : List PartA} (ok : NetOk ls ps) : (netTx ls ps).length ≤ 100000 := by
  have a := join_len (sep := "\n") (row_len ok) (by decide +kernel)
  have b := rows_n ok
  show (Txt.join "\n" (netRows ls ps)).length ≤ _
  omega
def sp_show_net (K : PySem.W.Frag) : ASp := fun ds m Q _ => KN K ∧ ∃ (ls : List LaneA) (ps : List PartA), ds = [netD K ls ps] ∧ NetOk ls ps ∧ Q (.str (netTx ls ps)) m
theorem len_show_net {K : PySem.W.Frag} (ds : List D) (m : Mu) (Q : QD) (XX : XA) (h : sp_show_net K ds m Q XX) : ds.length = 1 := by
  obtain ⟨_, _, _, rfl, _⟩ := h; rfl
theorem pure_show_net {K : PySem.W.Frag} (ds : List D) (m : Mu) (Q : QD) (XX : XA) (h : sp_show_net K ds m Q XX) : t_show_net K (endsOf Q XX) (slots N_show_net ds) m := by
  obtain ⟨kn, ls, ps, rfl, ok, h⟩ := h
  have l2 := ok.l2
  have p2 := ok.p2
  have hs := sizeLine_eq
  refine k_seq (k_asg (d := .tup [.lst (ls.map laneTD), .lst (ps.map partTD)]) (ev_methO (ev_var rfl) rfl (List.mem_of_getElem? (i := 0) rfl) ev_nil fun Q X q => ⟨kn, ls, ps, rfl, ok, q⟩) (bnd_tup (bnds_cons bnd_name (bnds_cons bnd_name bnds_nil))) ?_)
  refine k_ret (ev_opM ev_c (ev_cons (ev_op2 (x := .lst (ls.map fun l => .str (Txt.join " " (laneWs l)))) (y := .lst (ps.map fun p => .str (Txt.join " " (partWs p))))
    ((ev_lcG ls laneTD (fun _ => true) (fun l => .str (Txt.join " " (laneWs l))) (ei_seq (xs := ls.map laneTD) (ev_var rfl) rfl) rfl (by rw [hs]; omega) fun l hl => ⟨_, bnd_name, fun _ _ q => q, fun _ => ev_call (ev_cons (ev_var rfl) ev_nil) fun Q X q => ⟨l, rfl, ok.lok l hl, (ok.li l hl).2.1, q⟩⟩).to (by rw [List.filter_eq_self.mpr (fun _ _ => rfl)]))
    ((ev_lcG ps partTD (fun _ => true) (fun p => .str (Txt.join " " (partWs p))) (ei_seq (xs := ps.map partTD) (ev_var rfl) rfl) rfl (by rw [hs]; omega) fun p hp => ⟨_, bnd_name, fun _ _ q => q, fun _ => ev_call (ev_cons (ev_var rfl) ev_nil) fun Q X q => ⟨p, rfl, ok.pok p hp, (ok.pl p hp).2.1, fun w hw => (part_inc ok hp hw).2.1, q⟩⟩).to (by rw [List.filter_eq_self.mpr (fun _ _ => rfl)]))
    (o_addLL (by rw [List.length_map, List.length_map, hs]; omega))) ev_nil) (o_join (ys := netRows ls ps) (by unfold netRows; rw [List.map_append, List.map_map, List.map_map]; rfl) (rows_fit ok)) td_str) h
theorem ev_show_net {K : PySem.W.Frag} {tr : AA} {e : De} {m : Mu} {ls : List LaneA} {ps : List PartA} (kn : KN K) (h : EvA tr e m [netD K ls ps]) (ok : NetOk ls ps) : Ev (aCall (sp_show_net K) [] tr) e m (.str (netTx ls ps)) := ev_call h fun Q X q => ⟨kn, ls, ps, rfl, ok, q⟩
/-! Net.joined -/
def t_Net_joined (K : PySem.W.Frag) : AS :=
    (aSeq (aSet 1 aDict0)
    (aSeq (aForD kys (aFld K "members" (aVar 0)) (agName 2)
    (aSeq (aAsg (aC (.bl true)) (agSub (aVar 1) (aVar 2)))
    aBreak))
    (aSeq (aSet 3 (aC (.bl true)))
    (aSeq (aWhile (aB (aVar 3))
    (aSeq (aSet 3 (aC (.bl false)))
    (aForD kys (aFld K "rooms" (aVar 0)) (agName 4)
    (aSeq (aSet 5 (aLst false (aCons (aOp bIx (aFld K "givers" (aVar 0)) (aVar 4)) (aCons (aOp bIx (aFld K "takers" (aVar 0)) (aVar 4)) aNil))))
    (aIfS (aB (aOp bNe (aOp (bIn false) (aOp bIx (aVar 5) (aC (.int 0))) (aVar 1)) (aOp (bIn false) (aOp bIx (aVar 5) (aC (.int 1))) (aVar 1))))
    (aSeq (aAsg (aC (.bl true)) (agSub (aVar 1) (aOp bIx (aVar 5) (aC (.int 0)))))
    (aSeq (aAsg (aC (.bl true)) (agSub (aVar 1) (aOp bIx (aVar 5) (aC (.int 1)))))
    (aSet 3 (aC (.bl true)))))
    aNext)))))
    (aRet (aFz (aVar 1)))))))
abbrev N_Net_joined : List Str := ["self", "found", "name", "more", "lane", "ends"]
def sp_Net_joined (K : PySem.W.Frag) : ASp := fun ds m Q _ => KN K ∧ ∃ (m0 : Mu) (a r f g t b : Addr) (F : MO) (ls : List LaneA) (ps : List PartA), ds = [.cell a] ∧ m = netM m0 K a r f g t b (.dic false (rowsR ls)) F (.dic false (endR PartA.outs ps)) (.dic false (endR PartA.ins ps)) (.dic false (rowsM K ps)) ∧ Dst a r f g t b ∧ NetOk ls ps ∧
  ∀ ks : List Str, (∀ p, p ∈ ps → p.nm ∈ ks) → Q (.dic (fdL ks)) m
theorem len_Net_joined {K : PySem.W.Frag} (ds : List D) (m : Mu) (Q : QD) (XX : XA) (h : sp_Net_joined K ds m Q XX) : ds.length = 1 := by
  obtain ⟨_, _, _, _, _, _, _, _, _, _, _, rfl, _⟩ := h; rfl
theorem ne_some {m : Mu} {x y : Addr} {v : MO} (h : m y = some v) (hx : m x = none) : y ≠ x := fun z => by rw [z, hx] at h; cases h
theorem pure_Net_joined {K : PySem.W.Frag} (ds : List D) (m : Mu) (Q : QD) (XX : XA) (h : sp_Net_joined K ds m Q XX) : t_Net_joined K (endsOf Q XX) (slots N_Net_joined ds) m := by
  obtain ⟨kn, m0, a, r, f, g, t, b, F, ls, ps, rfl, hm, dd, ok, h⟩ := h
  have ha : m a = some (.ins (He.ga K "Net") (netFs (.cell r) (.cell f) (.cell g) (.cell t) (.cell b))) := by rw [hm]; exact nm_a
  have hr : m r = some (.dic false (rowsR ls)) := by rw [hm]; exact nm_r dd
  have hg : m g = some (.dic false (endR PartA.outs ps)) := by rw [hm]; exact nm_g dd
  have ht : m t = some (.dic false (endR PartA.ins ps)) := by rw [hm]; exact nm_t dd
  have hb : m b = some (.dic false (rowsM K ps)) := by rw [hm]; exact nm_b dd
  clear hm
  refine k_seq (k_setD0 fun q hq => k_seq ?_)
  have qa := ne_some ha hq
  have qr := ne_some hr hq
  have qg := ne_some hg hq
  have qt := ne_some ht hq
  have qb := ne_some hb hq
  obtain ⟨p0, rest, eps⟩ : ∃ p0 rest, ps = p0 :: rest := by
    cases e : ps with
    | nil => have := ok.p1; rw [e] at this; exact absurd this (by decide)
    | cons x y => exact ⟨x, y, rfl⟩
  have m0' : p0 ∈ ps := by rw [eps]; exact List.mem_cons_self ..
  let mm : List Str → Mu := fun ks => mset m q (.dic false (fdL ks))
  have mq : ∀ ks, mm ks q = some (.dic false (fdL ks)) := fun ks => mset_same
  have mo : ∀ ks {x : Addr} {v : MO}, m x = some v → mm ks x = some v := fun ks x v hx => (mset_ne (ne_some hx hq)).trans hx
  have lockq : ∀ {x : Addr} {v : MO} (ks : List Str) (y : MO), m x = some v → mset (mset (mm ks) x y) q (.dic false (fdL ks)) = mset (mm ks) x y := fun {x v} ks y hx => mset_id (by rw [mset_ne (Ne.symm (ne_some hx hq))]; exact mset_same)
  have swap : ∀ {x : Addr} {v : MO} (ks ks2 : List Str) (y : MO), m x = some v → mset (mset (mm ks) x y) q (.dic false (fdL ks2)) = mset (mm ks2) x y := fun {x v} ks ks2 y hx => by
    show mset (mset (mset m q _) x y) q _ = mset (mset m q _) x y
    rw [mset_comm (Ne.symm (ne_some hx hq)), mset_mset, mset_comm (ne_some hx hq)]
  have back : ∀ {x : Addr} {v : MO} (ks : List Str) (y : MO), m x = some v → mset (mset (mm ks) x y) x v = mm ks := fun {x v} ks y hx => mset_back (mo ks hx)
  show aForD kys (aFld K "members" (aVar 0)) (agName 2) (aSeq (aAsg (aC (.bl true)) (agSub (aVar 1) (aVar 2))) aBreak) _ [some (.cell a), some (.cell q), none, none, none, none] (mm [])
  refine k_forDc (es := rowsM K ps) (a := b) (ev_fldC (ev_var rfl) (mo _ ha) (kn.2 _ (by decide)) rfl) (mo _ hb) (fun i e' m' => i = 0 ∧ e' = [some (.cell a), some (.cell q), none, none, none, none] ∧ m' = mset (mm []) b (.dic true (rowsM K ps))) ⟨rfl, rfl, rfl⟩ (fun i e' m' z => by rw [z.2.2]; exact mset_same) ?_ ?_
  rotate_left
  · rintro e' m' ⟨z, _, _⟩
    have : (kys (rowsM K ps)).length = ps.length := by unfold kys rowsM; rw [List.length_map, List.length_map]
    have := ok.p1
    omega
  rintro i d e' m' hd ⟨rfl, rfl, rfl⟩
  have hd0 : (kys (rowsM K ps))[0]? = some (.str p0.nm) := by rw [eps]; rfl
  rw [hd0] at hd
  cases hd
  refine bnd_name _ _ _ (k_seq (k_stD (k := .inr p0.nm) (kvs := fdL []) ev_c (ev_var rfl) (ev_var rfl) (by rw [mset_ne (Ne.symm qb)]; exact mq []) rfl (by rw [sizeLine_eq]; decide) (k_break ?_)))
  rw [fd_put, swap [] _ _ hb]
  have e0 : addk [] p0.nm = [p0.nm] := rfl
  rw [e0]
  refine ⟨mset_same, ?_⟩
  rw [back _ _ hb]
  refine k_seq (k_set ev_c (k_seq ?_))
  have lenk : ∀ ks : List Str, ks.Nodup → (∀ s, s ∈ ks → s ∈ ps.map PartA.nm) → ks.length ≤ ps.length := fun ks h1 h2 => by
    have := sub_len h1 h2
    rw [List.length_map] at this; exact this
  refine k_while (fun n e' m' => ∃ (ks : List Str) (more : Bool) (v2 v4 v5 : Option D), e' = [some (.cell a), some (.cell q), v2, some (.bl more), v4, v5] ∧ m' = mm ks ∧ (ks.Nodup ∧ (∀ s, s ∈ ks → s ∈ ps.map PartA.nm) ∧ p0.nm ∈ ks) ∧ n = 2 * (ps.length - ks.length) + (if more then 1 else 0) ∧ (more = false → Closed ls ps ks)) _ ⟨[p0.nm], true, _, _, _, rfl, rfl, ⟨by simp, fun s hs => by rw [List.mem_singleton.mp hs]; exact List.mem_map.mpr ⟨p0, m0', rfl⟩, by simp⟩, rfl, fun z => by cases z⟩ ?_
  rintro n e' m' ⟨ks, more, v2, v4, v5, rfl, rfl, ⟨k1, k2, k3⟩, hn, hc⟩
  refine ⟨more, et_B (ev_var rfl), fun hmore => ?_, fun hmore => ?_⟩
  · subst hmore
    have hn : n = 2 * (ps.length - ks.length) + 1 := hn
    refine k_seq (k_set ev_c ?_)
    refine k_forDc (es := rowsR ls) (a := r) (ev_fldC (ev_var rfl) (mo _ ha) (kn.2 _ (by decide)) rfl) (mo _ hr) (fun i e2 m2 => ∃ (ks' : List Str) (more' : Bool) (w4 w5 : Option D), e2 = [some (.cell a), some (.cell q), v2, some (.bl more'), w4, w5] ∧ m2 = mset (mm ks') r (.dic true (rowsR ls)) ∧ (ks'.Nodup ∧ (∀ s, s ∈ ks' → s ∈ ps.map PartA.nm) ∧ p0.nm ∈ ks') ∧ ks.length ≤ ks'.length ∧ (more' = true → ks.length < ks'.length) ∧ (more' = false → ks' = ks ∧ Closed (ls.take i) ps ks))
      ⟨ks, false, _, _, rfl, rfl, ⟨k1, k2, k3⟩, Nat.le_refl _, fun z => (by cases z), fun _ => ⟨rfl, fun l hl => by rw [List.take_zero] at hl; cases hl⟩⟩ (fun i e2 m2 ⟨ks', _, _, _, _, z, _⟩ => by rw [z]; exact mset_same) ?_ ?_
    · rintro i d e2 m2 hd ⟨ks', more', w4, w5, rfl, rfl, ⟨q1, q2, q3⟩, q4, q5, q6⟩
      have hi : i < ls.length := by
        have := (List.getElem?_eq_some_iff.mp hd).1
        unfold kys rowsR at this
        rw [List.length_map, List.length_map] at this; exact this
      have hd' : (kys (rowsR ls))[i]? = some (.str ls[i].nm) := by
        unfold kys rowsR
        rw [List.getElem?_map, List.getElem?_map, List.getElem?_eq_getElem hi]; rfl
      rw [hd'] at hd
      cases hd
      obtain ⟨pg, hpg, _, eg⟩ := giver_at ok (List.getElem_mem hi)
      obtain ⟨pt, hpt, _, et⟩ := taker_at ok (List.getElem_mem hi)
      have xa : mset (mm ks') r (.dic true (rowsR ls)) a = some (.ins (He.ga K "Net") (netFs (.cell r) (.cell f) (.cell g) (.cell t) (.cell b))) := by rw [mset_ne dd.ar]; exact mo _ ha
      have xg : mset (mm ks') r (.dic true (rowsR ls)) g = some (.dic false (endR PartA.outs ps)) := by rw [mset_ne dd.rg.symm]; exact mo _ hg
      have xt : mset (mm ks') r (.dic true (rowsR ls)) t = some (.dic false (endR PartA.ins ps)) := by rw [mset_ne dd.rt.symm]; exact mo _ ht
      have xq : mset (mm ks') r (.dic true (rowsR ls)) q = some (.dic false (fdL ks')) := by rw [mset_ne (Ne.symm qr)]; exact mq _
      have inq : ∀ {m' : Mu} {e : De} {j : Int} {s : Str} {es : List (Key × D)}, e[1]? = some (some (.cell q)) → m' q = some (.dic false es) → e[5]? = some (some (.lst [.str pg.nm, .str pt.nm])) → atI [D.str pg.nm, .str pt.nm] j = some (.str s) → Ev (aOp (bIn false) (aOp bIx (aVar 5) (aC (.int j))) (aVar 1)) e m' (.bl (lkp es (.inr s)).isSome) := fun h1 h2 h3 h4 =>
        ev_op2 (ev_op2 (ev_var h3) ev_c (o_ixL h4)) (ev_var h1) (o_inK (by show oK _ = _; rw [h2]; rfl) rfl)
      refine bnd_name _ _ _ (k_seq (k_set (ev_lst (ev_cons (ev_op2 (ev_fldC (ev_var rfl) xa (kn.2 _ (by decide)) rfl) (ev_var rfl) (o_ixK (by show oK _ = _; rw [xg]; rfl) rfl eg)) (ev_cons (ev_op2 (ev_fldC (ev_var rfl) xa (kn.2 _ (by decide)) rfl) (ev_var rfl) (o_ixK (by show oK _ = _; rw [xt]; rfl) rfl et)) ev_nil))) ?_))
      refine k_if (et_B (ev_op2 (inq (j := 0) rfl xq rfl rfl) (inq (j := 1) rfl xq rfl rfl) o_neB)) (fun hb => ?_) fun hb => k_next ?_
      · rw [fd_in, fd_in] at hb
        refine k_seq (k_stD (k := .inr pg.nm) ev_c (ev_var rfl) (ev_op2 (ev_var rfl) ev_c (o_ixL (d := .str pg.nm) rfl)) xq rfl (by unfold fdL; rw [List.length_map, sizeLine_eq]; have := lenk ks' q1 q2; have := ok.p2; omega) (k_seq ?_))
        rw [fd_put, swap ks' _ _ hr]
        have r1 := addk_nodup (s := pg.nm) q1
        have r2 : ∀ s, s ∈ addk ks' pg.nm → s ∈ ps.map PartA.nm := fun s hs => by
          rcases mem_addk.mp hs with hs | rfl
          · exact q2 s hs
          · exact List.mem_map.mpr ⟨pg, hpg, rfl⟩
        refine k_stD (k := .inr pt.nm) (kvs := fdL (addk ks' pg.nm)) ev_c (ev_var rfl) (ev_op2 (ev_var rfl) ev_c (o_ixL (d := .str pt.nm) rfl)) (by rw [mset_ne (Ne.symm qr)]; exact mq _) rfl (by unfold fdL; rw [List.length_map, sizeLine_eq]; have := lenk _ r1 r2; have := ok.p2; omega) ?_
        rw [fd_put, swap _ _ _ hr]
        refine k_set ev_c ⟨addk (addk ks' pg.nm) pt.nm, true, _, _, rfl, rfl, ⟨addk_nodup r1, fun s hs => ?_, mem_addk.mpr (.inl (mem_addk.mpr (.inl q3)))⟩, ?_, fun _ => ?_, fun z => by cases z⟩
        · rcases mem_addk.mp hs with hs | rfl
          · exact r2 s hs
          · exact List.mem_map.mpr ⟨pt, hpt, rfl⟩
        all_goals
          have hne : decide (pg.nm ∈ ks') ≠ decide (pt.nm ∈ ks') := fun z => by rw [z] at hb; simp at hb
          have big : ks'.length < (addk (addk ks' pg.nm) pt.nm).length := by
            by_cases hx : pg.nm ∈ ks'
            · have hy : pt.nm ∉ ks' := fun z => hne (by rw [decide_eq_true hx, decide_eq_true z])
              have e1 : addk ks' pg.nm = ks' := if_pos hx
              rw [e1]
              have e2 : addk ks' pt.nm = ks' ++ [pt.nm] := if_neg hy
              rw [e2, List.length_append]; exact Nat.lt_succ_self _
            · have e1 : addk ks' pg.nm = ks' ++ [pg.nm] := if_neg hx
              rw [e1]
              unfold addk
              split
              · rw [List.length_append]; exact Nat.lt_succ_self _
              · rw [List.length_append, List.length_append]; show ks'.length < ks'.length + 1 + 1; omega
          omega
      · rw [fd_in, fd_in] at hb
        refine ⟨ks', more', _, _, rfl, rfl, ⟨q1, q2, q3⟩, q4, q5, fun z => ?_⟩
        obtain ⟨e1, e2⟩ := q6 z
        refine ⟨e1, ?_⟩
        rw [List.take_succ, List.getElem?_eq_getElem hi]
        intro l hl s t' hs ht'
        rcases List.mem_append.mp hl with hl | hl
        · exact e2 l hl s t' hs ht'
        · have hl : l = ls[i] := by simpa using hl
          subst hl
          rw [eg] at hs
          rw [et] at ht'
          cases hs; cases ht'
          rw [← e1]
          have : decide (pg.nm ∈ ks') = decide (pt.nm ∈ ks') := by
            cases x1 : decide (pg.nm ∈ ks') <;> cases x2 : decide (pt.nm ∈ ks') <;> rw [x1, x2] at hb <;> first | rfl | cases hb
          exact decide_eq_decide.mp this
    · rintro e2 m2 ⟨ks', more', w4, w5, rfl, rfl, ⟨q1, q2, q3⟩, q4, q5, q6⟩
      rw [back _ _ hr]
      have hl := lenk ks' q1 q2
      refine ⟨2 * (ps.length - ks'.length) + (if more' then 1 else 0), ?_, ks', more', _, _, _, rfl, rfl, ⟨q1, q2, q3⟩, rfl, fun z => ?_⟩
      · cases more' with
        | true => have := q5 rfl; show 2 * (ps.length - ks'.length) + 1 < n; omega
        | false => rw [(q6 rfl).1]; show 2 * (ps.length - ks.length) + 0 < n; omega
      · obtain ⟨e1, e2⟩ := q6 z
        rw [e1]
        have hk : (kys (rowsR ls)).length = ls.length := by unfold kys rowsR; rw [List.length_map, List.length_map]
        rw [hk, List.take_length] at e2
        exact e2
  · subst hmore
    have cl := hc rfl
    refine k_retX (x_fzD (ev_var rfl) (mq ks) ?_)
    have : mdel (mm ks) q = m := mdel_mset hq
    rw [this]
    exact h ks (all_joined ok cl m0' k3)
/-! Net.lay_hold -/
def t_Net_lay_hold (K : PySem.W.Frag) : AS :=
    (aFor (aiSeq (aVar 2)) (agName 4)
    (aSeq (aIfS (aOr (aB (aOp (bIn true) (aVar 4) (aFld K "rooms" (aVar 0)))) (aB (aOp (bIn false) (aVar 4) (aVar 3))))
    aStop
    aNext)
    (aAsg (aVar 1) (agSub (aVar 3) (aVar 4)))))
abbrev N_Net_lay_hold : List Str := ["self", "name", "lanes", "ends", "lane"]
def sp_Net_lay_hold (K : PySem.W.Frag) : ASp := fun ds m Q _ => KN K ∧ ∃ (a r q : Addr) (nm : Str) (lanes : List Str) (fs : List (Str × D)) (lk : Bool) (RS es : List (Key × D)), ds = [.cell a, .str nm, .tup (lanes.map D.str), .cell q] ∧ m a = some (.ins (He.ga K "Net") fs) ∧ fs.lookup ("rooms" : Str) = some (.cell r) ∧ m r = some (.dic lk RS) ∧ m q = some (.dic false es) ∧ q ≠ a ∧ q ≠ r ∧
  (∀ l, l ∈ lanes → (lkp RS (.inr l)).isSome = true) ∧ (∀ l, l ∈ lanes → ∀ kv, kv ∈ es → kv.1 ≠ .inr l) ∧ lanes.Nodup ∧ es.length + lanes.length < 1000 ∧ Q .non (mset m q (.dic false (es ++ lanes.map fun l => (.inr l, .str nm))))
theorem len_Net_lay_hold {K : PySem.W.Frag} (ds : List D) (m : Mu) (Q : QD) (XX : XA) (h : sp_Net_lay_hold K ds m Q XX) : ds.length = 4 := by
  obtain ⟨_, _, _, _, _, _, _, _, _, _, rfl, _⟩ := h; rfl
theorem pure_Net_lay_hold {K : PySem.W.Frag} (ds : List D) (m : Mu) (Q : QD) (XX : XA) (h : sp_Net_lay_hold K ds m Q XX) : t_Net_lay_hold K (endsOf Q XX) (slots N_Net_lay_hold ds) m := by
  obtain ⟨kn, a, r, q, nm, lanes, fs, lk, RS, es, rfl, ha, hf, hr, hq, na, nr, h1, h2, nd, hl, h⟩ := h
  refine k_for (ei_seq (xs := lanes.map D.str) (ev_var rfl) rfl) (fun i e' m' => ∃ v, e' = [some (.cell a), some (.str nm), some (.tup (lanes.map D.str)), some (.cell q), v] ∧ m' = mset m q (.dic false (es ++ (lanes.take i).map fun l => (.inr l, .str nm)))) ⟨_, rfl, by rw [List.take_zero]; show m = mset m q (.dic false (es ++ [])); rw [List.append_nil, mset_id hq]⟩ (fun _ _ _ _ => rfl) ?_ ?_
  · rintro i d e' m' hd ⟨v, rfl, rfl⟩
    have hi : i < lanes.length := by have := (List.getElem?_eq_some_iff.mp hd).1; rw [List.length_map] at this; exact this
    rw [List.getElem?_map, List.getElem?_eq_getElem hi] at hd
    cases hd
    have hm := List.getElem_mem hi
    have ha' : mset m q (.dic false (es ++ (lanes.take i).map fun l => (.inr l, .str nm))) a = some (.ins (He.ga K "Net") fs) := by rw [mset_ne (Ne.symm na)]; exact ha
    have hr' : mset m q (.dic false (es ++ (lanes.take i).map fun l => (.inr l, .str nm))) r = some (.dic lk RS) := by rw [mset_ne (Ne.symm nr)]; exact hr
    have fresh : ∀ kv, kv ∈ es ++ (lanes.take i).map (fun l => ((.inr l, .str nm) : Key × D)) → kv.1 ≠ .inr lanes[i] := fun kv hk => by
      rcases List.mem_append.mp hk with hk | hk
      · exact h2 _ hm kv hk
      · obtain ⟨l, hl2, rfl⟩ := List.mem_map.mp hk
        intro z
        have z := inr_inj z
        obtain ⟨j, hj, e⟩ := List.mem_iff_getElem.mp hl2
        rw [List.length_take] at hj
        rw [List.getElem_take] at e
        have := (List.pairwise_iff_getElem.mp nd) j i (by omega) hi (by omega)
        exact this (e.trans z)
    refine bnd_name _ _ _ (k_seq (k_ifF (et_or (et_B (ev_op2 (ev_var rfl) (ev_fldC (ev_var rfl) ha' (kn.2 _ (by decide)) hf) (o_inK (kvs := RS) (by show oK _ = _; rw [hr']; rfl) rfl))) fun _ => et_B (ev_op2 (ev_var rfl) (ev_var rfl) (o_inK (by show oK _ = _; rw [mset_same]; rfl) rfl))) ?_ (k_next ?_)))
    · rw [h1 _ hm, lkp_none fresh]; rfl
    · refine k_stD (ev_var rfl) (ev_var rfl) (ev_var rfl) mset_same rfl (by rw [List.length_append, List.length_map, List.length_take, sizeLine_eq]; omega) ⟨_, rfl, ?_⟩
      rw [mset_mset, put_new fresh, List.append_assoc]
      have et : lanes.take (i + 1) = lanes.take i ++ [lanes[i]] := by rw [List.take_succ, List.getElem?_eq_getElem hi]; rfl
      rw [et, List.map_append]; rfl
  · rintro e' m' ⟨v, rfl, rfl⟩
    rw [List.length_map, List.take_length]
    exact h
/-! is_whole -/
def t_is_whole (K : PySem.W.Frag) : AS :=
    (aRet (aAndV (aIsi K "int" (aVar 0)) (aNotV (aIsi K "bool" (aVar 0)))))
abbrev N_is_whole : List Str := ["thing"]
def sp_is_whole (K : PySem.W.Frag) : ASp := fun ds m Q _ => ∃ d b1 b2, ds = [d] ∧ isTy K m "int" d b1 ∧ (b1 = true → isTy K m "bool" d b2) ∧ Q (.bl (b1 && !b2)) m
theorem len_is_whole {K : PySem.W.Frag} (ds : List D) (m : Mu) (Q : QD) (XX : XA) (h : sp_is_whole K ds m Q XX) : ds.length = 1 := by
  obtain ⟨d, b1, b2, rfl, _⟩ := h; rfl
theorem pure_is_whole {K : PySem.W.Frag} (ds : List D) (m : Mu) (Q : QD) (XX : XA) (h : sp_is_whole K ds m Q XX) : t_is_whole K (endsOf Q XX) (slots N_is_whole ds) m := by
  obtain ⟨d, b1, b2, rfl, h1, h2, h⟩ := h
  exact k_ret (ev_andV (ev_isi (ev_var rfl) h1) fun z => ev_notV (ev_isi (ev_var rfl) (h2 z))) h
theorem ev_is_whole {K : PySem.W.Frag} {tr : AA} {e : De} {m : Mu} {d : D} {b1 b2 : Bool} (h : EvA tr e m [d]) (h1 : isTy K m "int" d b1) (h2 : b1 = true → isTy K m "bool" d b2) : Ev (aCall (sp_is_whole K) [] tr) e m (.bl (b1 && !b2)) := ev_call h fun Q X q => ⟨d, b1, b2, rfl, h1, h2, q⟩
theorem ev_is_wholeI {K : PySem.W.Frag} {tr : AA} {e : De} {m : Mu} {i : Int} (h : EvA tr e m [.int i]) : Ev (aCall (sp_is_whole K) [] tr) e m (.bl true) := ev_is_whole h ty_int fun _ => ty_intB
/-! is_value -/
def t_is_value (K : PySem.W.Frag) : AS :=
    (aRet (aAndV (aCall (sp_is_whole K) [] (aCons (aVar 0) aNil)) (aChain bLe bLt (aC (.int 0)) (aVar 0) (aC (.int 1000000000)))))
abbrev N_is_value : List Str := ["thing"]
def sp_is_value (K : PySem.W.Frag) : ASp := fun ds m Q _ => (∃ i : Int, ds = [.int i] ∧ Q (.bl (isVal i)) m) ∨ ∃ d b1 b2, ds = [d] ∧ isTy K m "int" d b1 ∧ (b1 = true → isTy K m "bool" d b2) ∧ (b1 && !b2) = false ∧ Q (.bl false) m
theorem len_is_value {K : PySem.W.Frag} (ds : List D) (m : Mu) (Q : QD) (XX : XA) (h : sp_is_value K ds m Q XX) : ds.length = 1 := by
  rcases h with ⟨i, rfl, _⟩ | ⟨d, b1, b2, rfl, _⟩ <;> rfl
theorem pure_is_value {K : PySem.W.Frag} (ds : List D) (m : Mu) (Q : QD) (XX : XA) (h : sp_is_value K ds m Q XX) : t_is_value K (endsOf Q XX) (slots N_is_value ds) m := by
  rcases h with ⟨i, rfl, h⟩ | ⟨d, b1, b2, rfl, h1, h2, h3, h⟩
  · exact k_ret (ev_andV (ev_is_wholeI (ev_cons (ev_var rfl) ev_nil)) fun _ => ev_chainG ev_c (ev_var rfl) o_le (fun _ => ev_c) (fun _ => o_lt)) h
  · refine k_ret (ev_andV (c := false) (ev_is_whole (ev_cons (ev_var rfl) ev_nil) h1 h2) fun z => ?_) ?_
    · rw [h3] at z; cases z
    · rw [h3]; exact h
theorem ev_is_valueI {K : PySem.W.Frag} {tr : AA} {e : De} {m : Mu} {i : Int} (h : EvA tr e m [.int i]) : Ev (aCall (sp_is_value K) [] tr) e m (.bl (isVal i)) := ev_call h fun Q X q => .inl ⟨i, rfl, q⟩
theorem ev_is_valueN {K : PySem.W.Frag} {tr : AA} {e : De} {m : Mu} {d : D} {b1 b2 : Bool} (h : EvA tr e m [d]) (h1 : isTy K m "int" d b1) (h2 : b1 = true → isTy K m "bool" d b2) (h3 : (b1 && !b2) = false) : Ev (aCall (sp_is_value K) [] tr) e m (.bl false) := ev_call h fun Q X q => .inr ⟨d, b1, b2, rfl, h1, h2, h3, q⟩
/-! Give.wants -/
def t_Give_wants : AS :=
    (aRet (aTup (aCons (aC (.int 0)) (aCons (aC (.int 0)) (aCons (aC (.int 1)) aNil)))))
abbrev N_Give_wants : List Str := ["self"]
def sp_Give_wants : ASp := fun ds m Q _ => ∃ d, ds = [d] ∧ Q (.tup [(.int 0), (.int 0), (.int 1)]) m
theorem len_Give_wants (ds : List D) (m : Mu) (Q : QD) (XX : XA) (h : sp_Give_wants ds m Q XX) : ds.length = 1 := by
  obtain ⟨d, rfl, _⟩ := h; rfl
theorem pure_Give_wants (ds : List D) (m : Mu) (Q : QD) (XX : XA) (h : sp_Give_wants ds m Q XX) : t_Give_wants (endsOf Q XX) (slots N_Give_wants ds) m := by
  obtain ⟨d, rfl, h⟩ := h
  exact k_ret (by walk_at "ev") h
/-! Take.wants -/
def t_Take_wants : AS :=
    (aRet (aTup (aCons (aC (.int 0)) (aCons (aC (.int 1)) (aCons (aC (.int 0)) aNil)))))
abbrev N_Take_wants : List Str := ["self"]
def sp_Take_wants : ASp := fun ds m Q _ => ∃ d, ds = [d] ∧ Q (.tup [(.int 0), (.int 1), (.int 0)]) m
theorem len_Take_wants (ds : List D) (m : Mu) (Q : QD) (XX : XA) (h : sp_Take_wants ds m Q XX) : ds.length = 1 := by
  obtain ⟨d, rfl, _⟩ := h; rfl
theorem pure_Take_wants (ds : List D) (m : Mu) (Q : QD) (XX : XA) (h : sp_Take_wants ds m Q XX) : t_Take_wants (endsOf Q XX) (slots N_Take_wants ds) m := by
  obtain ⟨d, rfl, h⟩ := h
  exact k_ret (by walk_at "ev") h
/-! Part.wants -/
def t_Part_wants : AS :=
    (aRet (aTup (aCons (aC (.int 0)) (aCons (aC (.int 1)) (aCons (aC (.int 1)) aNil)))))
abbrev N_Part_wants : List Str := ["self"]
def sp_Part_wants : ASp := fun ds m Q _ => ∃ d, ds = [d] ∧ Q (.tup [(.int 0), (.int 1), (.int 1)]) m
theorem len_Part_wants (ds : List D) (m : Mu) (Q : QD) (XX : XA) (h : sp_Part_wants ds m Q XX) : ds.length = 1 := by
  obtain ⟨d, rfl, _⟩ := h; rfl
theorem pure_Part_wants (ds : List D) (m : Mu) (Q : QD) (XX : XA) (h : sp_Part_wants ds m Q XX) : t_Part_wants (endsOf Q XX) (slots N_Part_wants ds) m := by
  obtain ⟨d, rfl, h⟩ := h
  exact k_ret (by walk_at "ev") h
/-! Copy.wants -/
def t_Copy_wants : AS :=
    (aRet (aTup (aCons (aC (.int 0)) (aCons (aC (.int 1)) (aCons (aC (.int 2)) aNil)))))
abbrev N_Copy_wants : List Str := ["self"]
def sp_Copy_wants : ASp := fun ds m Q _ => ∃ d, ds = [d] ∧ Q (.tup [(.int 0), (.int 1), (.int 2)]) m
theorem len_Copy_wants (ds : List D) (m : Mu) (Q : QD) (XX : XA) (h : sp_Copy_wants ds m Q XX) : ds.length = 1 := by
  obtain ⟨d, rfl, _⟩ := h; rfl
theorem pure_Copy_wants (ds : List D) (m : Mu) (Q : QD) (XX : XA) (h : sp_Copy_wants ds m Q XX) : t_Copy_wants (endsOf Q XX) (slots N_Copy_wants ds) m := by
  obtain ⟨d, rfl, h⟩ := h
  exact k_ret (by walk_at "ev") h
/-! Turn.wants -/
def t_Turn_wants : AS :=
    (aRet (aTup (aCons (aC (.int 2)) (aCons (aC (.int 1)) (aCons (aC (.int 1)) aNil)))))
abbrev N_Turn_wants : List Str := ["self"]
def sp_Turn_wants : ASp := fun ds m Q _ => ∃ d, ds = [d] ∧ Q (.tup [(.int 2), (.int 1), (.int 1)]) m
theorem len_Turn_wants (ds : List D) (m : Mu) (Q : QD) (XX : XA) (h : sp_Turn_wants ds m Q XX) : ds.length = 1 := by
  obtain ⟨d, rfl, _⟩ := h; rfl
theorem pure_Turn_wants (ds : List D) (m : Mu) (Q : QD) (XX : XA) (h : sp_Turn_wants ds m Q XX) : t_Turn_wants (endsOf Q XX) (slots N_Turn_wants ds) m := by
  obtain ⟨d, rfl, h⟩ := h
  exact k_ret (by walk_at "ev") h
/-! Heap.wants -/
def t_Heap_wants : AS :=
    (aRet (aTup (aCons (aC (.int 1)) (aCons (aC (.int 1)) (aCons (aC (.int 1)) aNil)))))
abbrev N_Heap_wants : List Str := ["self"]
def sp_Heap_wants : ASp := fun ds m Q _ => ∃ d, ds = [d] ∧ Q (.tup [(.int 1), (.int 1), (.int 1)]) m
theorem len_Heap_wants (ds : List D) (m : Mu) (Q : QD) (XX : XA) (h : sp_Heap_wants ds m Q XX) : ds.length = 1 := by
  obtain ⟨d, rfl, _⟩ := h; rfl
theorem pure_Heap_wants (ds : List D) (m : Mu) (Q : QD) (XX : XA) (h : sp_Heap_wants ds m Q XX) : t_Heap_wants (endsOf Q XX) (slots N_Heap_wants ds) m := by
  obtain ⟨d, rfl, h⟩ := h
  exact k_ret (by walk_at "ev") h
/-! Add.wants -/
def t_Add_wants : AS :=
    (aRet (aTup (aCons (aC (.int 0)) (aCons (aC (.int 2)) (aCons (aC (.int 1)) aNil)))))
abbrev N_Add_wants : List Str := ["self"]
def sp_Add_wants : ASp := fun ds m Q _ => ∃ d, ds = [d] ∧ Q (.tup [(.int 0), (.int 2), (.int 1)]) m
theorem len_Add_wants (ds : List D) (m : Mu) (Q : QD) (XX : XA) (h : sp_Add_wants ds m Q XX) : ds.length = 1 := by
  obtain ⟨d, rfl, _⟩ := h; rfl
theorem pure_Add_wants (ds : List D) (m : Mu) (Q : QD) (XX : XA) (h : sp_Add_wants ds m Q XX) : t_Add_wants (endsOf Q XX) (slots N_Add_wants ds) m := by
  obtain ⟨d, rfl, h⟩ := h
  exact k_ret (by walk_at "ev") h
/-! Less.wants -/
def t_Less_wants : AS :=
    (aRet (aTup (aCons (aC (.int 0)) (aCons (aC (.int 2)) (aCons (aC (.int 1)) aNil)))))
abbrev N_Less_wants : List Str := ["self"]
def sp_Less_wants : ASp := fun ds m Q _ => ∃ d, ds = [d] ∧ Q (.tup [(.int 0), (.int 2), (.int 1)]) m
theorem len_Less_wants (ds : List D) (m : Mu) (Q : QD) (XX : XA) (h : sp_Less_wants ds m Q XX) : ds.length = 1 := by
  obtain ⟨d, rfl, _⟩ := h; rfl
theorem pure_Less_wants (ds : List D) (m : Mu) (Q : QD) (XX : XA) (h : sp_Less_wants ds m Q XX) : t_Less_wants (endsOf Q XX) (slots N_Less_wants ds) m := by
  obtain ⟨d, rfl, h⟩ := h
  exact k_ret (by walk_at "ev") h
/-! Order.wants -/
def t_Order_wants : AS :=
    (aRet (aTup (aCons (aC (.int 0)) (aCons (aC (.int 2)) (aCons (aC (.int 2)) aNil)))))
abbrev N_Order_wants : List Str := ["self"]
def sp_Order_wants : ASp := fun ds m Q _ => ∃ d, ds = [d] ∧ Q (.tup [(.int 0), (.int 2), (.int 2)]) m
theorem len_Order_wants (ds : List D) (m : Mu) (Q : QD) (XX : XA) (h : sp_Order_wants ds m Q XX) : ds.length = 1 := by
  obtain ⟨d, rfl, _⟩ := h; rfl
theorem pure_Order_wants (ds : List D) (m : Mu) (Q : QD) (XX : XA) (h : sp_Order_wants ds m Q XX) : t_Order_wants (endsOf Q XX) (slots N_Order_wants ds) m := by
  obtain ⟨d, rfl, h⟩ := h
  exact k_ret (by walk_at "ev") h
/-! Choose.wants -/
def t_Choose_wants : AS :=
    (aRet (aTup (aCons (aC (.int 0)) (aCons (aC (.int 3)) (aCons (aC (.int 1)) aNil)))))
abbrev N_Choose_wants : List Str := ["self"]
def sp_Choose_wants : ASp := fun ds m Q _ => ∃ d, ds = [d] ∧ Q (.tup [(.int 0), (.int 3), (.int 1)]) m
theorem len_Choose_wants (ds : List D) (m : Mu) (Q : QD) (XX : XA) (h : sp_Choose_wants ds m Q XX) : ds.length = 1 := by
  obtain ⟨d, rfl, _⟩ := h; rfl
theorem pure_Choose_wants (ds : List D) (m : Mu) (Q : QD) (XX : XA) (h : sp_Choose_wants ds m Q XX) : t_Choose_wants (endsOf Q XX) (slots N_Choose_wants ds) m := by
  obtain ⟨d, rfl, h⟩ := h
  exact k_ret (by walk_at "ev") h
/-! Split.wants -/
def t_Split_wants : AS :=
    (aRet (aTup (aCons (aC (.int 0)) (aCons (aC (.int 2)) (aCons (aC (.int 2)) aNil)))))
abbrev N_Split_wants : List Str := ["self"]
def sp_Split_wants : ASp := fun ds m Q _ => ∃ d, ds = [d] ∧ Q (.tup [(.int 0), (.int 2), (.int 2)]) m
theorem len_Split_wants (ds : List D) (m : Mu) (Q : QD) (XX : XA) (h : sp_Split_wants ds m Q XX) : ds.length = 1 := by
  obtain ⟨d, rfl, _⟩ := h; rfl
theorem pure_Split_wants (ds : List D) (m : Mu) (Q : QD) (XX : XA) (h : sp_Split_wants ds m Q XX) : t_Split_wants (endsOf Q XX) (slots N_Split_wants ds) m := by
  obtain ⟨d, rfl, h⟩ := h
  exact k_ret (by walk_at "ev") h
/-! Part.__init__ -/
def t_Part___init__ (K : PySem.W.Frag) : AS :=
    (aSeq (aFSt K "name" (aVar 0) (aVar 1))
    (aSeq (aFSt K "numbers" (aVar 0) (aCB bTuple (aCons (aVar 2) aNil)))
    (aSeq (aFSt K "ins" (aVar 0) (aCB bTuple (aCons (aVar 3) aNil)))
    (aFSt K "outs" (aVar 0) (aCB bTuple (aCons (aVar 4) aNil))))))
abbrev N_Part___init__ : List Str := ["self", "name", "numbers", "ins", "outs"]
theorem asS_mset {m : Mu} {a : Addr} {x : MO} {d : D} {xs : List D} (h : asS m d = some xs) (ha : oL (m a) = none) : asS (mset m a x) d = some xs := by
  cases d with
  | cell b =>
    have h : oL (m b) = some xs := h
    show oL (mset m a x b) = some xs
    rw [mset_ne (fun q => by rw [q, ha] at h; cases h)]; exact h
  | _ => exact h
def sp_Part___init__ (K : PySem.W.Frag) : ASp := fun ds m Q _ => ∃ (a C : Addr) (nm dx di d_o : D) (xs js os : List D), ds = [.cell a, nm, dx, di, d_o] ∧ asS m dx = some xs ∧ asS m di = some js ∧ asS m d_o = some os ∧ m a = some (.ins C []) ∧ (∀ f, f ∈ PFs → OkC K C f) ∧ Q .non (mset m a (.ins C (partF nm xs js os)))
theorem len_Part___init__ {K : PySem.W.Frag} (ds : List D) (m : Mu) (Q : QD) (XX : XA) (h : sp_Part___init__ K ds m Q XX) : ds.length = 5 := by
  obtain ⟨a, C, nm, dx, di, d_o, xs, js, os, rfl, _⟩ := h; rfl
theorem pure_Part___init__ {K : PySem.W.Frag} (ds : List D) (m : Mu) (Q : QD) (XX : XA) (h : sp_Part___init__ K ds m Q XX) : t_Part___init__ K (endsOf Q XX) (slots N_Part___init__ ds) m := by
  obtain ⟨a, C, nm, dx, di, d_o, xs, js, os, rfl, h1, h2, h3, hm, ok, h⟩ := h
  have na : ∀ {C fs}, oL (some (MO.ins C fs)) = none := rfl
  refine k_seq (k_fst (ev_var rfl) (ev_var rfl) hm (ok _ (by decide)) (Nat.le_of_ble_eq_true rfl) (k_seq ?_))
  have i1 : ∀ x, asS (mset m a x) dx = some xs ∧ asS (mset m a x) di = some js ∧ asS (mset m a x) d_o = some os := fun x => ⟨asS_mset h1 (by rw [hm]; rfl), asS_mset h2 (by rw [hm]; rfl), asS_mset h3 (by rw [hm]; rfl)⟩
  refine k_fst (ev_opA (ev_cons (ev_var rfl) ev_nil) (o_tup1 (i1 _).1)) (ev_var rfl) mset_same (ok _ (by decide)) (Nat.le_of_ble_eq_true rfl) (k_seq ?_)
  rw [mset_mset]
  refine k_fst (ev_opA (ev_cons (ev_var rfl) ev_nil) (o_tup1 (i1 _).2.1)) (ev_var rfl) mset_same (ok _ (by decide)) (Nat.le_of_ble_eq_true rfl) ?_
  rw [mset_mset]
  refine k_fst (ev_opA (ev_cons (ev_var rfl) ev_nil) (o_tup1 (i1 _).2.2)) (ev_var rfl) mset_same (ok _ (by decide)) (Nat.le_of_ble_eq_true rfl) ?_
  rw [mset_mset]
  exact h
theorem x_made {K : PySem.W.Frag} {e : De} {m : Mu} {tr : AA} {Cl : Addr} {nm dx di d_o : D} {xs js os : List D} {Q : QD} {X : XA} (ha : EvA tr e m [nm, dx, di, d_o]) (h1 : asS m dx = some xs) (h2 : asS m di = some js) (h3 : asS m d_o = some os) (ok : ∀ f, f ∈ PFs → OkC K Cl f) (h : Q (.obj Cl (partF nm xs js os)) m) : aFz (aMake Cl (sp_Part___init__ K) [] tr) e m Q X := by
  refine x_fz (x_make ha fun p hp => ⟨p, Cl, nm, dx, di, d_o, xs, js, os, rfl, asS_mset h1 (by rw [hp]; rfl), asS_mset h2 (by rw [hp]; rfl), asS_mset h3 (by rw [hp]; rfl), mset_same, ok, rfl, p, rfl, ?_⟩)
  rw [mset_mset, mset_same]
  show Q (.obj Cl (partF nm xs js os)) (mdel (mset m p _) p)
  rw [mdel_mset hp]
  exact h
/-! made_as -/
def t_made_as (K : PySem.W.Frag) : AS :=
    (aSeq (aIfS (aB (aOp bEq (aVar 0) (aC (.str "give"))))
    (aRet (aFz (aMake (He.ga K "Give") (sp_Part___init__ K) [] (aCons (aVar 1) (aCons (aVar 2) (aCons (aVar 3) (aCons (aVar 4) aNil)))))))
    aNext)
    (aSeq (aIfS (aB (aOp bEq (aVar 0) (aC (.str "take"))))
    (aRet (aFz (aMake (He.ga K "Take") (sp_Part___init__ K) [] (aCons (aVar 1) (aCons (aVar 2) (aCons (aVar 3) (aCons (aVar 4) aNil)))))))
    aNext)
    (aSeq (aIfS (aB (aOp bEq (aVar 0) (aC (.str "pass"))))
    (aRet (aFz (aMake (He.ga K "Pass") (sp_Part___init__ K) [] (aCons (aVar 1) (aCons (aVar 2) (aCons (aVar 3) (aCons (aVar 4) aNil)))))))
    aNext)
    (aSeq (aIfS (aB (aOp bEq (aVar 0) (aC (.str "copy"))))
    (aRet (aFz (aMake (He.ga K "Copy") (sp_Part___init__ K) [] (aCons (aVar 1) (aCons (aVar 2) (aCons (aVar 3) (aCons (aVar 4) aNil)))))))
    aNext)
    (aSeq (aIfS (aB (aOp bEq (aVar 0) (aC (.str "turn"))))
    (aRet (aFz (aMake (He.ga K "Turn") (sp_Part___init__ K) [] (aCons (aVar 1) (aCons (aVar 2) (aCons (aVar 3) (aCons (aVar 4) aNil)))))))
    aNext)
    (aSeq (aIfS (aB (aOp bEq (aVar 0) (aC (.str "heap"))))
    (aRet (aFz (aMake (He.ga K "Heap") (sp_Part___init__ K) [] (aCons (aVar 1) (aCons (aVar 2) (aCons (aVar 3) (aCons (aVar 4) aNil)))))))
    aNext)
    (aSeq (aIfS (aB (aOp bEq (aVar 0) (aC (.str "add"))))
    (aRet (aFz (aMake (He.ga K "Add") (sp_Part___init__ K) [] (aCons (aVar 1) (aCons (aVar 2) (aCons (aVar 3) (aCons (aVar 4) aNil)))))))
    aNext)
    (aSeq (aIfS (aB (aOp bEq (aVar 0) (aC (.str "less"))))
    (aRet (aFz (aMake (He.ga K "Less") (sp_Part___init__ K) [] (aCons (aVar 1) (aCons (aVar 2) (aCons (aVar 3) (aCons (aVar 4) aNil)))))))
    aNext)
    (aSeq (aIfS (aB (aOp bEq (aVar 0) (aC (.str "order"))))
    (aRet (aFz (aMake (He.ga K "Order") (sp_Part___init__ K) [] (aCons (aVar 1) (aCons (aVar 2) (aCons (aVar 3) (aCons (aVar 4) aNil)))))))
    aNext)
    (aSeq (aIfS (aB (aOp bEq (aVar 0) (aC (.str "choose"))))
    (aRet (aFz (aMake (He.ga K "Choose") (sp_Part___init__ K) [] (aCons (aVar 1) (aCons (aVar 2) (aCons (aVar 3) (aCons (aVar 4) aNil)))))))
    aNext)
    (aRet (aFz (aMake (He.ga K "Split") (sp_Part___init__ K) [] (aCons (aVar 1) (aCons (aVar 2) (aCons (aVar 3) (aCons (aVar 4) aNil)))))))))))))))))
abbrev N_made_as : List Str := ["kind", "name", "numbers", "ins", "outs"]
def sp_made_as (K : PySem.W.Frag) : ASp := fun ds m Q _ => KP K ∧ ∃ (i : Nat) (nm dx di d_o : D) (xs js os : List D), i < 11 ∧ ds = [.str (kt i).kind, nm, dx, di, d_o] ∧ asS m dx = some xs ∧ asS m di = some js ∧ asS m d_o = some os ∧ Q (partD K (kt i).cl nm xs js os) m
theorem len_made_as {K : PySem.W.Frag} (ds : List D) (m : Mu) (Q : QD) (XX : XA) (h : sp_made_as K ds m Q XX) : ds.length = 5 := by
  obtain ⟨_, i, nm, dx, di, d_o, xs, js, os, _, rfl, _⟩ := h; rfl
theorem pure_made_as {K : PySem.W.Frag} (ds : List D) (m : Mu) (Q : QD) (XX : XA) (h : sp_made_as K ds m Q XX) : t_made_as K (endsOf Q XX) (slots N_made_as ds) m := by
  obtain ⟨kp, i, nm, dx, di, d_o, xs, js, os, hi, rfl, h1, h2, h3, h⟩ := h
  have key : ∀ i, i < 11 → (∀ f, f ∈ PFs → OkC K (He.ga K (kt i).cl) f) → Q (partD K (kt i).cl nm xs js os) m → t_made_as K (endsOf Q XX) (slots N_made_as [.str (kt i).kind, nm, dx, di, d_o]) m := by
    refine cases11 ?_ ?_ ?_ ?_ ?_ ?_ ?_ ?_ ?_ ?_ ?_ <;> intro ok h
    all_goals
      repeat refine k_seq (k_ifF (et_B (ev_op2 (ev_var rfl) ev_c o_eqS)) (by decide +kernel) (k_next ?_))
      first
        | exact k_seq (k_ifT (et_B (ev_op2 (ev_var rfl) ev_c o_eqS)) (by decide +kernel) (k_retX (x_made (ev_cons (ev_var rfl) (ev_cons (ev_var rfl) (ev_cons (ev_var rfl) (ev_cons (ev_var rfl) ev_nil)))) h1 h2 h3 ok h)))
        | exact k_retX (x_made (ev_cons (ev_var rfl) (ev_cons (ev_var rfl) (ev_cons (ev_var rfl) (ev_cons (ev_var rfl) ev_nil)))) h1 h2 h3 ok h)
  exact key i hi (kp i hi) h
/-! is_kind -/
def t_is_kind : AS :=
    (aSeq (aSet 1 (aTup (aCons (aC (.str "give")) (aCons (aC (.str "take")) aNil))))
    (aRet (aOrV (aOp (bIn false) (aVar 0) (aVar 1)) (aOp (bIn false) (aVar 0) (aTup (aCons (aC (.str "pass")) (aCons (aC (.str "copy")) (aCons (aC (.str "turn")) (aCons (aC (.str "heap")) (aCons (aC (.str "add")) (aCons (aC (.str "less")) (aCons (aC (.str "order")) (aCons (aC (.str "choose")) (aCons (aC (.str "split")) aNil))))))))))))))
abbrev N_is_kind : List Str := ["word", "doors"]
def sp_is_kind : ASp := fun ds m Q _ => ∃ i, i < 11 ∧ ds = [.str (kt i).kind] ∧ Q (.bl true) m
theorem len_is_kind (ds : List D) (m : Mu) (Q : QD) (XX : XA) (h : sp_is_kind ds m Q XX) : ds.length = 1 := by
  obtain ⟨i, _, rfl, _⟩ := h; rfl
theorem pure_is_kind (ds : List D) (m : Mu) (Q : QD) (XX : XA) (h : sp_is_kind ds m Q XX) : t_is_kind (endsOf Q XX) (slots N_is_kind ds) m := by
  obtain ⟨i, hi, rfl, h⟩ := h
  have key : ∀ i, i < 11 → t_is_kind (endsOf Q XX) (slots N_is_kind [.str (kt i).kind]) m := by
    refine cases11 ?_ ?_ ?_ ?_ ?_ ?_ ?_ ?_ ?_ ?_ ?_
    all_goals
      refine k_seq (k_set (by walk_at "ev") (k_ret ((ev_orV (ev_op2 (ev_var rfl) (ev_var rfl) (o_inT rfl rfl)) fun _ => ev_op2 (ev_var rfl) (by walk_at "ev") (o_inT rfl rfl)).to (congrArg D.bl ?_)) h))
      simp only [inD, List.any_cons, List.any_nil, eqD_str]
      decide +kernel
  exact key i hi
def T_wants (K : PySem.W.Frag) : List (Addr × List D × ASp) := [(He.ga K "Give", [], sp_Give_wants), (He.ga K "Take", [], sp_Take_wants), (He.ga K "Pass", [], sp_Part_wants), (He.ga K "Copy", [], sp_Copy_wants), (He.ga K "Turn", [], sp_Turn_wants), (He.ga K "Heap", [], sp_Heap_wants), (He.ga K "Add", [], sp_Add_wants), (He.ga K "Less", [], sp_Less_wants), (He.ga K "Order", [], sp_Order_wants), (He.ga K "Choose", [], sp_Choose_wants), (He.ga K "Split", [], sp_Split_wants)]
/-! part_made -/
def t_part_made (K : PySem.W.Frag) : AS :=
    (aSeq (aIfS (aNot (aB (aCall sp_is_kind [] (aCons (aVar 0) aNil))))
    aStop
    aNext)
    (aSeq (aSet 5 (aCall (sp_made_as K) [] (aCons (aVar 0) (aCons (aVar 1) (aCons (aVar 2) (aCons (aVar 3) (aCons (aVar 4) aNil)))))))
    (aSeq (aAsg (aMeth "wants" (T_wants K) (aVar 5) aNil) (agTup 3 (agCons (agName 7) (agCons (agName 8) (agCons (agName 9) agNil)))))
    (aSeq (aIfS (aB (aOp bNe (aCB bLen (aCons (aFld K "numbers" (aVar 5)) aNil)) (aVar 7)))
    aStop
    aNext)
    (aSeq (aFor (aiSeq (aFld K "numbers" (aVar 5))) (agName 6)
    (aIfS (aNot (aB (aCall (sp_is_value K) [] (aCons (aVar 6) aNil))))
    aStop
    aNext))
    (aSeq (aIfS (aOr (aB (aOp bNe (aCB bLen (aCons (aFld K "ins" (aVar 5)) aNil)) (aVar 8))) (aB (aOp bNe (aCB bLen (aCons (aFld K "outs" (aVar 5)) aNil)) (aVar 9))))
    aStop
    aNext)
    (aRet (aVar 5))))))))
abbrev N_part_made : List Str := ["kind", "name", "numbers", "ins", "outs", "one", "number", "many", "many_in", "many_out"]
theorem wants_ok (K : PySem.W.Frag) : ∀ i, i < 11 → ∃ sp, (He.ga K (kt i).cl, [], sp) ∈ T_wants K ∧ ∀ (d : D) (m : Mu) (Q : QD) (X : XA), Q (.tup [.int (kt i).many, .int (kt i).ins, .int (kt i).outs]) m → sp [d] m Q X := by
  refine cases11 ?_ ?_ ?_ ?_ ?_ ?_ ?_ ?_ ?_ ?_ ?_
  · exact ⟨_, List.mem_of_getElem? (i := 0) rfl, fun d m Q X q => ⟨d, rfl, q⟩⟩
  · exact ⟨_, List.mem_of_getElem? (i := 1) rfl, fun d m Q X q => ⟨d, rfl, q⟩⟩
  · exact ⟨_, List.mem_of_getElem? (i := 2) rfl, fun d m Q X q => ⟨d, rfl, q⟩⟩
  · exact ⟨_, List.mem_of_getElem? (i := 3) rfl, fun d m Q X q => ⟨d, rfl, q⟩⟩
  · exact ⟨_, List.mem_of_getElem? (i := 4) rfl, fun d m Q X q => ⟨d, rfl, q⟩⟩
  · exact ⟨_, List.mem_of_getElem? (i := 5) rfl, fun d m Q X q => ⟨d, rfl, q⟩⟩
  · exact ⟨_, List.mem_of_getElem? (i := 6) rfl, fun d m Q X q => ⟨d, rfl, q⟩⟩
  · exact ⟨_, List.mem_of_getElem? (i := 7) rfl, fun d m Q X q => ⟨d, rfl, q⟩⟩
  · exact ⟨_, List.mem_of_getElem? (i := 8) rfl, fun d m Q X q => ⟨d, rfl, q⟩⟩
  · exact ⟨_, List.mem_of_getElem? (i := 9) rfl, fun d m Q X q => ⟨d, rfl, q⟩⟩
  · exact ⟨_, List.mem_of_getElem? (i := 10) rfl, fun d m Q X q => ⟨d, rfl, q⟩⟩
def sp_part_made (K : PySem.W.Frag) : ASp := fun ds m Q _ => KP K ∧ ∃ (i : Nat) (nm dx di d_o : D) (xs js os : List D), i < 11 ∧ ds = [.str (kt i).kind, nm, dx, di, d_o] ∧ asS m dx = some xs ∧ asS m di = some js ∧ asS m d_o = some os ∧ xs.length = (kt i).many ∧ (∀ x, x ∈ xs → IsV x) ∧ js.length = (kt i).ins ∧ os.length = (kt i).outs ∧ Q (partD K (kt i).cl nm xs js os) m
theorem len_part_made {K : PySem.W.Frag} (ds : List D) (m : Mu) (Q : QD) (XX : XA) (h : sp_part_made K ds m Q XX) : ds.length = 5 := by
  obtain ⟨_, i, nm, dx, di, d_o, xs, js, os, _, rfl, _⟩ := h; rfl
theorem pure_part_made {K : PySem.W.Frag} (ds : List D) (m : Mu) (Q : QD) (XX : XA) (h : sp_part_made K ds m Q XX) : t_part_made K (endsOf Q XX) (slots N_part_made ds) m := by
  obtain ⟨kp, i, nm, dx, di, d_o, xs, js, os, hi, rfl, a1, a2, a3, l1, hv, l2, l3, h⟩ := h
  have ok := kp i hi
  refine k_seq (k_ifF (et_not (et_B (ev_call (d := .bl true) (ev_cons (ev_var rfl) ev_nil) fun Q X q => ⟨i, hi, rfl, q⟩))) rfl (k_next (k_seq (k_setC (ev_cons (ev_var rfl) (ev_cons (ev_var rfl) (ev_cons (ev_var rfl) (ev_cons (ev_var rfl) (ev_cons (ev_var rfl) ev_nil))))) ⟨kp, i, nm, dx, di, d_o, xs, js, os, hi, rfl, a1, a2, a3, k_seq ?_⟩))))
  obtain ⟨sp, hT, hs⟩ := wants_ok K i hi
  refine k_asg (ev_methO (ev_var rfl) rfl hT ev_nil fun Q X q => hs _ _ _ _ q) (bnd_tup (bnds_cons bnd_name (bnds_cons bnd_name (bnds_cons bnd_name bnds_nil)))) (k_seq ?_)
  refine k_ifF (et_B (ev_op2 (ev_opA (ev_cons (ev_fldO (ev_var rfl) (ok _ (by decide)) rfl) ev_nil) o_lenT) (ev_var rfl) o_ne)) (by rw [l1]; simp) (k_next (k_seq ?_))
  refine k_forAll (ei_seq (xs := xs) (ev_fldO (ev_var rfl) (ok _ (by decide)) rfl) rfl) rfl (fun _ => true) (fun e' => ∃ l, e' = [some (.str (kt i).kind), some nm, some dx, some di, some d_o, some (partD K (kt i).cl nm xs js os), l, some (.int (kt i).many), some (.int (kt i).ins), some (.int (kt i).outs)]) ⟨_, rfl⟩ ?_ ?_
  · rintro P d e' hd ⟨l, rfl⟩ okP
    obtain ⟨v, rfl, hval⟩ := hv d hd
    exact bnd_name _ _ _ (k_ifF (et_not (et_B (ev_is_valueI (ev_cons (ev_var rfl) ev_nil)))) (by rw [hval]; rfl) (k_next (okP rfl _ ⟨_, rfl⟩)))
  · rintro _ e' ⟨l, rfl⟩
    refine k_seq (k_ifF (et_or (et_B (ev_op2 (ev_opA (ev_cons (ev_fldO (ev_var rfl) (ok _ (by decide)) rfl) ev_nil) o_lenT) (ev_var rfl) o_ne)) fun _ => et_B (ev_op2 (ev_opA (ev_cons (ev_fldO (ev_var rfl) (ok _ (by decide)) rfl) ev_nil) o_lenT) (ev_var rfl) o_ne)) (by rw [l2, l3]; simp) (k_next (k_ret (ev_var rfl) h)))
/-! is_name -/
def t_is_name (K : PySem.W.Frag) : AS :=
    (aSeq (aIfS (aOr (aNot (aB (aIsi K "str" (aVar 0)))) (aNot (aB (aChain bLe bLe (aC (.int 1)) (aCB bLen (aCons (aVar 0) aNil)) (aC (.int 8))))))
    (aRet (aC (.bl false)))
    aNext)
    (aSeq (aFor (aiSeq (aVar 0)) (agName 1)
    (aIfS (aAnd (aB (aOp (bIn true) (aVar 1) (aC (.str "abcdefghijklmnopqrstuvwxyz")))) (aB (aOp (bIn true) (aVar 1) (aC (.str "0123456789")))))
    (aRet (aC (.bl false)))
    aNext))
    (aRet (aOp (bIn false) (aOp bIx (aVar 0) (aC (.int 0))) (aC (.str "abcdefghijklmnopqrstuvwxyz"))))))
abbrev N_is_name : List Str := ["thing", "sign"]
def sp_is_name (K : PySem.W.Frag) : ASp := fun ds m Q _ => (∃ x : Str, ds = [.str x] ∧ x.length ≤ 1000000 ∧ Q (.bl (isNm x)) m) ∨ ∃ d, ds = [d] ∧ isTy K m "str" d false ∧ Q (.bl false) m
theorem len_is_name {K : PySem.W.Frag} (ds : List D) (m : Mu) (Q : QD) (XX : XA) (h : sp_is_name K ds m Q XX) : ds.length = 1 := by
  rcases h with ⟨i, rfl, _⟩ | ⟨d, rfl, _⟩ <;> rfl
theorem lenOk_iff {x : Str} (h : lenOk x = true) : ∃ c r, x.cps.toList = c :: r ∧ x.length ≤ 8 := by
  unfold lenOk at h
  rw [Bool.and_eq_true, decide_eq_true_eq, decide_eq_true_eq] at h
  have e := len_tl x
  cases q : x.cps.toList with
  | nil => rw [q] at e; rw [e] at h; simp at h
  | cons c r => exact ⟨c, r, rfl, by omega⟩
theorem isNm_bad {x : Str} {c : Nat} (hc : c ∈ x.cps.toList) (h : (isAz c || isFig c) = false) : isNm x = false := by
  have : (x.cps.toList.all fun c => isAz c || isFig c) = false := by
    rw [List.all_eq_false]
    exact ⟨c, hc, by rw [h]; decide⟩
  unfold isNm; rw [this]; simp
theorem pure_is_name {K : PySem.W.Frag} (ds : List D) (m : Mu) (Q : QD) (XX : XA) (h : sp_is_name K ds m Q XX) : t_is_name K (endsOf Q XX) (slots N_is_name ds) m := by
  rcases h with ⟨x, rfl, hx, h⟩ | ⟨d, rfl, ht, h⟩
  · have hl : x.length ≤ sizeLine := by rw [sizeLine_eq]; omega
    refine k_seq (k_if (b := !lenOk x) ((et_or (et_not (et_B (ev_isi (ev_var rfl) ty_str))) fun _ => et_not (et_B (ev_chainG ev_c (ev_opA (ev_cons (ev_var rfl) ev_nil) (o_lenS hl)) o_le (fun _ => ev_c) (fun _ => o_le)))).to rfl) (fun hb => k_ret ev_c ?_) fun hb => k_next (k_seq ?_))
    · have : isNm x = false := by
        unfold isNm
        rw [Bool.not_eq_true'] at hb
        rw [hb]; rfl
      rw [this] at h; exact h
    · rw [Bool.not_eq_false'] at hb
      obtain ⟨c0, r, hc, h8⟩ := lenOk_iff hb
      refine k_forAll (ei_seq (xs := signs x) (ev_var rfl) rfl) rfl (sgP fun c => isAz c || isFig c) (fun e' => ∃ l, e' = [some (.str x), l]) ⟨_, rfl⟩ ?_ ?_
      · rintro P d e' hd ⟨l, rfl⟩ ok
        obtain ⟨c, hm, rfl⟩ := signs_mem hd
        refine bnd_name _ _ _ (k_if (b := !(isAz c || isFig c)) ((et_and (et_B (ev_op2 (ev_var rfl) ev_c o_inS)) fun _ => et_B (ev_op2 (ev_var rfl) ev_c o_inS)).to ?_) (fun hb => k_ret ev_c ?_) fun hb => k_next (ok ?_ _ ⟨_, rfl⟩))
        · show (!decide (c ∈ azT.cps.toList) && !decide (c ∈ figT.cps.toList)) = _
          rw [mem_az, mem_fig, Bool.not_or]
        · rw [Bool.not_eq_true'] at hb
          rw [isNm_bad hm hb] at h; exact h
        · rw [Bool.not_eq_false'] at hb
          exact hb
      · rintro hall e' ⟨l, rfl⟩
        refine k_ret (ev_op2 (ev_op2 (ev_var rfl) ev_c (o_ixS (c := c0) hl (by rw [hc]; exact atI_int (by decide) rfl))) ev_c o_inS) ?_
        show Q (.bl (decide (c0 ∈ azT.cps.toList))) m
        rw [mem_az]
        have : isNm x = isAz c0 := by
          unfold isNm headAz
          have h2 : (x.cps.toList.all fun c => isAz c || isFig c) = true := List.all_eq_true.mpr fun c hcm => hall _ (mem_signs hcm)
          rw [hb, h2, hc]; rfl
        rw [this] at h; exact h
  · exact k_seq (k_ifT (et_or (c := true) (et_not (et_B (ev_isi (ev_var rfl) ht))) fun z => by cases z) rfl (k_ret ev_c h))
theorem ev_is_nameS {K : PySem.W.Frag} {tr : AA} {e : De} {m : Mu} {x : Str} (h : EvA tr e m [.str x]) (h1 : x.length ≤ 1000000) : Ev (aCall (sp_is_name K) [] tr) e m (.bl (isNm x)) := ev_call h fun Q X q => .inl ⟨x, rfl, h1, q⟩
theorem ev_is_nameN {K : PySem.W.Frag} {tr : AA} {e : De} {m : Mu} {d : D} (h : EvA tr e m [d]) (h1 : isTy K m "str" d false) : Ev (aCall (sp_is_name K) [] tr) e m (.bl false) := ev_call h fun Q X q => .inr ⟨d, rfl, h1, q⟩
/-! need_name -/
def t_need_name (K : PySem.W.Frag) : AS :=
    (aSeq (aIfS (aNot (aB (aCall (sp_is_name K) [] (aCons (aVar 0) aNil))))
    aStop
    aNext)
    (aIfS (aB (aOp (bIn false) (aVar 0) (aVar 1)))
    aStop
    aNext))
abbrev N_need_name : List Str := ["name", "known"]
def sp_need_name (K : PySem.W.Frag) : ASp := fun ds m Q _ => ∃ (nm : Str) (d : D) (es : List (Key × D)), ds = [.str nm, d] ∧ asK m d = some es ∧ isNm nm = true ∧ nm.length ≤ 8 ∧ lkp es (.inr nm) = none ∧ Q .non m
theorem len_need_name {K : PySem.W.Frag} (ds : List D) (m : Mu) (Q : QD) (XX : XA) (h : sp_need_name K ds m Q XX) : ds.length = 2 := by
  obtain ⟨_, _, _, rfl, _⟩ := h; rfl
theorem pure_need_name {K : PySem.W.Frag} (ds : List D) (m : Mu) (Q : QD) (XX : XA) (h : sp_need_name K ds m Q XX) : t_need_name K (endsOf Q XX) (slots N_need_name ds) m := by
  obtain ⟨nm, d, es, rfl, hk, h1, h2, h3, h⟩ := h
  exact k_seq (k_ifF (et_not (et_B (ev_is_nameS (ev_cons (ev_var rfl) ev_nil) (by omega)))) (by rw [h1]; rfl) (k_next (k_ifF (et_B (ev_op2 (ev_var rfl) (ev_var rfl) (o_inK hk rfl))) (by rw [h3]; rfl) (k_next h))))
def T_lay_hold (K : PySem.W.Frag) : List (Addr × List D × ASp) := [(He.ga K "Net", [], (sp_Net_lay_hold K))]
/-! Net.put_in -/
def t_Net_put_in (K : PySem.W.Frag) : AS :=
    (aSeq (aIfS (aNot (aB (aCall sp_is_kind [] (aCons (aVar 1) aNil))))
    aStop
    aNext)
    (aSeq (aDrop (aCall (sp_need_name K) [] (aCons (aVar 2) (aCons (aFld K "members" (aVar 0)) aNil))))
    (aSeq (aSet 6 (aCall (sp_part_made K) [] (aCons (aVar 1) (aCons (aVar 2) (aCons (aVar 3) (aCons (aVar 4) (aCons (aVar 5) aNil)))))))
    (aSeq (aDrop (aMeth "lay_hold" (T_lay_hold K) (aVar 0) (aCons (aVar 2) (aCons (aFld K "ins" (aVar 6)) (aCons (aFld K "takers" (aVar 0)) aNil)))))
    (aSeq (aDrop (aMeth "lay_hold" (T_lay_hold K) (aVar 0) (aCons (aVar 2) (aCons (aFld K "outs" (aVar 6)) (aCons (aFld K "givers" (aVar 0)) aNil)))))
    (aAsg (aVar 6) (agSub (aFld K "members" (aVar 0)) (aVar 2))))))))
abbrev N_Net_put_in : List Str := ["self", "kind", "name", "numbers", "ins", "outs", "one"]
def sp_Net_put_in (K : PySem.W.Frag) : ASp := fun ds m Q _ => KN K ∧ ∃ (m0 : Mu) (a r f g t b : Addr) (F : MO) (lk : Bool) (RS GS TS MS : List (Key × D)) (nd id od : D) (p : PartA), ds = [.cell a, .str (kt p.k).kind, .str p.nm, nd, id, od] ∧ m = netM m0 K a r f g t b (.dic lk RS) F (.dic false GS) (.dic false TS) (.dic false MS) ∧ Dst a r f g t b ∧
  asS m nd = some (p.nums.map D.int) ∧ asS m id = some (p.ins.map D.str) ∧ asS m od = some (p.outs.map D.str) ∧ PartOk p ∧ isNm p.nm = true ∧ p.nm.length ≤ 8 ∧ (∀ kv, kv ∈ MS → kv.1 ≠ .inr p.nm) ∧
  (∀ l, l ∈ p.ins → (lkp RS (.inr l)).isSome = true) ∧ (∀ l, l ∈ p.ins → ∀ kv, kv ∈ TS → kv.1 ≠ .inr l) ∧ p.ins.Nodup ∧ (∀ l, l ∈ p.outs → (lkp RS (.inr l)).isSome = true) ∧ (∀ l, l ∈ p.outs → ∀ kv, kv ∈ GS → kv.1 ≠ .inr l) ∧ p.outs.Nodup ∧ GS.length + TS.length + MS.length < 900 ∧
  Q .non (netM m0 K a r f g t b (.dic lk RS) F (.dic false (GS ++ endsOf1 PartA.outs p)) (.dic false (TS ++ endsOf1 PartA.ins p)) (.dic false (MS ++ [(.inr p.nm, pD K p)])))
theorem len_Net_put_in {K : PySem.W.Frag} (ds : List D) (m : Mu) (Q : QD) (XX : XA) (h : sp_Net_put_in K ds m Q XX) : ds.length = 6 := by
  obtain ⟨_, _, _, _, _, _, _, _, _, _, _, _, _, _, _, _, _, _, rfl, _⟩ := h; rfl
theorem kt_few : ∀ i, i < 11 → (kt i).ins ≤ 3 ∧ (kt i).outs ≤ 2 := by
  refine cases11 ?_ ?_ ?_ ?_ ?_ ?_ ?_ ?_ ?_ ?_ ?_ <;> decide +kernel
theorem pure_Net_put_in {K : PySem.W.Frag} (ds : List D) (m : Mu) (Q : QD) (XX : XA) (h : sp_Net_put_in K ds m Q XX) : t_Net_put_in K (endsOf Q XX) (slots N_Net_put_in ds) m := by
  obtain ⟨kn, m0, a, r, f, g, t, b, F, lk, RS, GS, TS, MS, nd, id, od, p, rfl, rfl, dd, a1, a2, a3, ok, n1, n2, fm, i1, i2, i3, o1, o2, o3, hl, h⟩ := h
  obtain ⟨f1, f2⟩ := kt_few p.k ok.k
  have li := ok.li
  have lo := ok.lo
  refine k_seq (k_ifF (et_not (et_B (ev_call (d := .bl true) (ev_cons (ev_var rfl) ev_nil) fun Q X q => ⟨p.k, ok.k, rfl, q⟩))) rfl (k_next (k_seq (k_dropC (ev_cons (ev_var rfl) (ev_cons (ev_fldC (ev_var rfl) nm_a (kn.2 _ (by decide)) rfl) ev_nil)) ⟨p.nm, _, MS, rfl, by show oK _ = _; rw [nm_b dd]; rfl, n1, n2, lkp_none fm, k_seq ?_⟩))))
  refine k_setC (ev_cons (ev_var rfl) (ev_cons (ev_var rfl) (ev_cons (ev_var rfl) (ev_cons (ev_var rfl) (ev_cons (ev_var rfl) ev_nil))))) ⟨kn.1, p.k, .str p.nm, nd, id, od, p.nums.map D.int, p.ins.map D.str, p.outs.map D.str, ok.k, rfl, a1, a2, a3, by rw [List.length_map]; exact ok.ln, fun x hx => ?_, by rw [List.length_map]; exact li, by rw [List.length_map]; exact lo, k_seq ?_⟩
  · obtain ⟨v, hv, rfl⟩ := List.mem_map.mp hx
    exact ⟨v, rfl, ok.vn v hv⟩
  refine k_dropX (x_methC (ev_var rfl) nm_a rfl (List.mem_of_getElem? (i := 0) rfl) (ev_cons (ev_var rfl) (ev_cons (ev_fldO (ev_var rfl) (kn.1 p.k ok.k _ (by decide)) rfl) (ev_cons (ev_fldC (ev_var rfl) nm_a (kn.2 _ (by decide)) rfl) ev_nil))) ⟨kn, a, r, t, p.nm, p.ins, _, lk, RS, TS, rfl, nm_a, rfl, nm_r dd, nm_t dd, dd.at_.symm, dd.rt.symm, i1, i2, i3, by omega, ?_⟩)
  rw [st_t dd]
  refine k_seq (k_dropX (x_methC (ev_var rfl) nm_a rfl (List.mem_of_getElem? (i := 0) rfl) (ev_cons (ev_var rfl) (ev_cons (ev_fldO (ev_var rfl) (kn.1 p.k ok.k _ (by decide)) rfl) (ev_cons (ev_fldC (ev_var rfl) nm_a (kn.2 _ (by decide)) rfl) ev_nil))) ⟨kn, a, r, g, p.nm, p.outs, _, lk, RS, GS, rfl, nm_a, rfl, nm_r dd, nm_g dd, dd.ag.symm, dd.rg.symm, o1, o2, o3, by omega, ?_⟩))
  rw [st_g dd]
  refine k_stD (ev_var rfl) (ev_fldC (ev_var rfl) nm_a (kn.2 _ (by decide)) rfl) (ev_var rfl) (nm_b dd) rfl (by rw [sizeLine_eq]; omega) ?_
  rw [st_b dd, put_new fm]
  exact h
/-! need_room -/
def t_need_room (K : PySem.W.Frag) : AS :=
    (aSeq (aIfS (aOr (aNot (aB (aCall (sp_is_whole K) [] (aCons (aVar 1) aNil)))) (aOr (aNot (aB (aChain bLe bLe (aCB bLen (aCons (aVar 2) aNil)) (aVar 1) (aC (.int 199))))) (aB (aOp bEq (aVar 1) (aC (.int 0))))))
    aStop
    aNext)
    (aFor (aiSeq (aVar 2)) (agName 3)
    (aIfS (aNot (aB (aCall (sp_is_value K) [] (aCons (aVar 3) aNil))))
    aStop
    aNext)))
abbrev N_need_room : List Str := ["name", "room", "first", "value"]
def sp_need_room (K : PySem.W.Frag) : ASp := fun ds m Q _ => ∃ (nm : Str) (fd : D) (l : LaneA), ds = [.str nm, .int l.room, fd] ∧ asS m fd = some (l.first.map D.int) ∧ LaneOk l ∧ Q .non m
theorem len_need_room {K : PySem.W.Frag} (ds : List D) (m : Mu) (Q : QD) (XX : XA) (h : sp_need_room K ds m Q XX) : ds.length = 3 := by
  obtain ⟨_, _, _, rfl, _⟩ := h; rfl
theorem o_lenS2 {m : Mu} {d : D} {xs : List D} (h : asS m d = some xs) : OpA bLen [d] m (.int xs.length) := by
  cases d with
  | lst ys => cases h; exact o_lenL
  | tup ys => cases h; exact o_lenT
  | scr ns => cases h; exact fun Q q => o_lenScr Q (by rw [List.length_map] at q; exact q)
  | cell a =>
    have h : oL (m a) = some xs := h
    cases e : m a with
    | none => rw [e] at h; cases h
    | some x =>
      rw [e] at h
      cases x with
      | lst ys => cases h; exact o_lenC e
      | dic _ _ => cases h
      | ins _ _ => cases h
  | _ => cases h
theorem asI_of {m : Mu} {d : D} {xs : List D} (h : asS m d = some xs) : asI m d = some xs := by
  cases d <;> first | exact h | cases h
theorem asS_of_I {m : Mu} {d : D} {xs : List D} (hs : ∀ z, d ≠ .str z) (h : asI m d = some xs) : asS m d = some xs := by
  cases d <;> first | exact h | exact absurd rfl (hs _)
theorem pure_need_room {K : PySem.W.Frag} (ds : List D) (m : Mu) (Q : QD) (XX : XA) (h : sp_need_room K ds m Q XX) : t_need_room K (endsOf Q XX) (slots N_need_room ds) m := by
  obtain ⟨nm, fd, l, rfl, hf, ok, h⟩ := h
  have hr := ok.r0
  have hr1 := ok.r1
  have hfl := ok.fl
  refine k_seq (k_ifF (et_or (et_not (et_B (ev_is_wholeI (ev_cons (ev_var rfl) ev_nil)))) fun _ => et_or (et_not (et_B (ev_chainG (ev_opA (ev_cons (ev_var rfl) ev_nil) (o_lenS2 hf)) (ev_var rfl) o_le (fun _ => ev_c) (fun _ => o_le)))) fun _ => et_B (ev_op2 (ev_var rfl) ev_c o_eq)) ?_ (k_next ?_))
  · rw [List.length_map, decide_eq_true hfl, decide_eq_true hr1, decide_eq_false (by omega)]; rfl
  · refine k_forAll (ei_seq (xs := l.first.map D.int) (ev_var rfl) (asI_of hf)) (asI_of hf) (fun _ => true) (fun e' => ∃ v, e' = [some (.str nm), some (.int l.room), some fd, v]) ⟨_, rfl⟩ ?_ ?_
    · rintro P d e' hd ⟨v, rfl⟩ okP
      obtain ⟨i, hi, rfl⟩ := List.mem_map.mp hd
      exact bnd_name _ _ _ (k_ifF (et_not (et_B (ev_is_valueI (ev_cons (ev_var rfl) ev_nil)))) (by rw [ok.fv i hi]; rfl) (k_next (okP rfl _ ⟨_, rfl⟩)))
    · rintro _ e' ⟨v, rfl⟩
      exact h
def T_joined (K : PySem.W.Frag) : List (Addr × List D × ASp) := [(He.ga K "Net", [], (sp_Net_joined K))]
def T_put_in (K : PySem.W.Frag) : List (Addr × List D × ASp) := [(He.ga K "Net", [], (sp_Net_put_in K))]
/-! Net.__init__ -/
def t_Net___init__ (K : PySem.W.Frag) : AS :=
    (aSeq (aIfS (aOr (aNot (aB (aChain bLe bLe (aC (.int 1)) (aCB bLen (aCons (aVar 1) aNil)) (aC (.int 24))))) (aNot (aB (aChain bLe bLe (aC (.int 1)) (aCB bLen (aCons (aVar 2) aNil)) (aC (.int 16))))))
    aStop
    aNext)
    (aSeq (aFSt K "rooms" (aVar 0) aDict0)
    (aSeq (aFSt K "firsts" (aVar 0) aDict0)
    (aSeq (aFSt K "givers" (aVar 0) aDict0)
    (aSeq (aFSt K "takers" (aVar 0) aDict0)
    (aSeq (aFSt K "members" (aVar 0) aDict0)
    (aSeq (aFor (aiSeq (aVar 1)) (agTup 3 (agCons (agName 3) (agCons (agName 5) (agCons (agName 6) agNil))))
    (aSeq (aDrop (aCall (sp_need_name K) [] (aCons (aVar 3) (aCons (aFld K "rooms" (aVar 0)) aNil))))
    (aSeq (aDrop (aCall (sp_need_room K) [] (aCons (aVar 3) (aCons (aVar 5) (aCons (aVar 6) aNil)))))
    (aSeq (aAsg (aVar 5) (agSub (aFld K "rooms" (aVar 0)) (aVar 3)))
    (aAsg (aCB bTuple (aCons (aVar 6) aNil)) (agSub (aFld K "firsts" (aVar 0)) (aVar 3)))))))
    (aSeq (aFor (aiSeq (aVar 2)) (agTup 5 (agCons (agName 7) (agCons (agName 3) (agCons (agName 8) (agCons (agName 9) (agCons (agName 10) agNil))))))
    (aDrop (aMeth "put_in" (T_put_in K) (aVar 0) (aCons (aVar 7) (aCons (aVar 3) (aCons (aVar 8) (aCons (aVar 9) (aCons (aVar 10) aNil))))))))
    (aSeq (aForD kys (aFld K "rooms" (aVar 0)) (agName 3)
    (aIfS (aOr (aB (aOp (bIn true) (aVar 3) (aFld K "givers" (aVar 0)))) (aB (aOp (bIn true) (aVar 3) (aFld K "takers" (aVar 0)))))
    aStop
    aNext))
    (aSeq (aSet 4 (aMeth "joined" (T_joined K) (aVar 0) aNil))
    (aForD kys (aFld K "members" (aVar 0)) (agName 3)
    (aIfS (aB (aOp (bIn true) (aVar 3) (aVar 4)))
    aStop
    aNext))))))))))))
abbrev N_Net___init__ : List Str := ["self", "lanes", "parts", "name", "joined", "room", "first", "kind", "numbers", "ins", "outs"]
def sp_Net___init__ (K : PySem.W.Frag) : ASp := fun ds m Q _ => KN K ∧ ∃ (a : Addr) (d1 d2 : D) (xs ys : List D) (ls : List LaneA) (ps : List PartA), ds = [.cell a, d1, d2] ∧ m a = some (.ins (He.ga K "Net") []) ∧ asS m d1 = some xs ∧ asS m d2 = some ys ∧ Rows (LaneR m) xs ls ∧ Rows (PartR m) ys ps ∧ NetOk ls ps ∧
  ∀ r f g t b, Dst a r f g t b → m r = none → m f = none → m g = none → m t = none → m b = none → Q .non (netM m K a r f g t b (.dic false (rowsR ls)) (.dic false (rowsF ls)) (.dic false (endR PartA.outs ps)) (.dic false (endR PartA.ins ps)) (.dic false (rowsM K ps)))
theorem len_Net___init__ {K : PySem.W.Frag} (ds : List D) (m : Mu) (Q : QD) (XX : XA) (h : sp_Net___init__ K ds m Q XX) : ds.length = 3 := by
  obtain ⟨_, _, _, _, _, _, _, _, rfl, _⟩ := h; rfl
theorem lenS_ok {m : Mu} {d : D} {xs : List D} (h : asS m d = some xs) : OpA bLen [d] m (.int xs.length) := o_lenS2 h
theorem asS_str {m : Mu} {d : D} {xs : List D} (h : asS m d = some xs) : ∀ z, d ≠ .str z := fun z e => by rw [e] at h; cases h
theorem pure_Net___init__ {K : PySem.W.Frag} (ds : List D) (m : Mu) (Q : QD) (XX : XA) (h : sp_Net___init__ K ds m Q XX) : t_Net___init__ K (endsOf Q XX) (slots N_Net___init__ ds) m := by
  obtain ⟨kn, a, d1, d2, xs, ys, ls, ps, rfl, ha, e1, e2, rl, rp, ok, h⟩ := h
  have l1 := ok.l1
  have l2 := ok.l2
  have p1 := ok.p1
  have p2 := ok.p2
  have lx := rl.1
  have ly := rp.1
  refine k_seq (k_ifF (et_or (et_not (et_B (ev_chainG ev_c (ev_opA (ev_cons (ev_var rfl) ev_nil) (lenS_ok e1)) o_le (fun _ => ev_c) (fun _ => o_le)))) fun _ => et_not (et_B (ev_chainG ev_c (ev_opA (ev_cons (ev_var rfl) ev_nil) (lenS_ok e2)) o_le (fun _ => ev_c) (fun _ => o_le)))) ?_ (k_next ?_))
  · rw [decide_eq_true (show (1 : Int) ≤ (xs.length : Int) by omega), decide_eq_true (show (xs.length : Int) ≤ 24 by omega), decide_eq_true (show (1 : Int) ≤ (ys.length : Int) by omega), decide_eq_true (show (ys.length : Int) ≤ 16 by omega)]; rfl
  have fst : ∀ {tb : AE} {N : De → Mu → Prop} {fld : Str} {fs : List (Str × D)} {e : De} {m1 : Mu}, fld ∈ (["rooms", "firsts", "givers", "takers", "members"] : List Str) → fs.length < 1000 → e[0]? = some (some (.cell a)) → m1 a = some (.ins (He.ga K "Net") fs) → (∀ p, m1 p = none → N e (mset (mset m1 p (.dic false [])) a (.ins (He.ga K "Net") (putF fld (.cell p) fs)))) → aFSt K fld (aVar 0) aDict0 ⟨N, Q, fun _ _ => False, fun _ _ => False, fun x _ m => XX x m⟩ e m1 := fun {tb N fld fs e m1} hf hl he hm k => by
    intro p hp
    exact (ev_var he) _ _ ⟨a, _, fs, rfl, by rw [mset_ne (ne_some hm hp)]; exact hm, kn.2 _ hf, hl, k p hp⟩
  refine k_seq (fst (tb := aDict0) (by decide) (Nat.le_of_ble_eq_true rfl) rfl ha fun r hr => k_seq ?_)
  have nar := ne_some ha hr
  refine fst (tb := aDict0) (by decide) (Nat.le_of_ble_eq_true rfl) rfl mset_same fun f hf => k_seq ?_
  have naf := ne_some (mset_same) hf
  have nrf : r ≠ f := ne_some (v := .dic false []) (by rw [mset_ne nar.symm]; exact mset_same) hf
  refine fst (tb := aDict0) (by decide) (Nat.le_of_ble_eq_true rfl) rfl mset_same fun g hg => k_seq ?_
  have nag := ne_some (mset_same) hg
  have nfg : f ≠ g := ne_some (v := .dic false []) (by rw [mset_ne naf.symm]; exact mset_same) hg
  have nrg : r ≠ g := ne_some (v := .dic false []) (by rw [mset_ne nar.symm, mset_ne nrf, mset_ne nar.symm]; exact mset_same) hg
  refine fst (tb := aDict0) (by decide) (Nat.le_of_ble_eq_true rfl) rfl mset_same fun t ht => k_seq ?_
  have nat := ne_some (mset_same) ht
  have ngt : g ≠ t := ne_some (v := .dic false []) (by rw [mset_ne nag.symm]; exact mset_same) ht
  have nft : f ≠ t := ne_some (v := .dic false []) (by rw [mset_ne naf.symm, mset_ne nfg, mset_ne naf.symm]; exact mset_same) ht
  have nrt : r ≠ t := ne_some (v := .dic false []) (by rw [mset_ne nar.symm, mset_ne nrg, mset_ne nar.symm, mset_ne nrf, mset_ne nar.symm]; exact mset_same) ht
  refine fst (tb := aDict0) (by decide) (Nat.le_of_ble_eq_true rfl) rfl mset_same fun b hb => k_seq ?_
  have nab := ne_some (mset_same) hb
  have ntb : t ≠ b := ne_some (v := .dic false []) (by rw [mset_ne nat.symm]; exact mset_same) hb
  have ngb : g ≠ b := ne_some (v := .dic false []) (by rw [mset_ne nag.symm, mset_ne ngt, mset_ne nag.symm]; exact mset_same) hb
  have nfb : f ≠ b := ne_some (v := .dic false []) (by rw [mset_ne naf.symm, mset_ne nft, mset_ne naf.symm, mset_ne nfg, mset_ne naf.symm]; exact mset_same) hb
  have nrb : r ≠ b := ne_some (v := .dic false []) (by rw [mset_ne nar.symm, mset_ne nrt, mset_ne nar.symm, mset_ne nrg, mset_ne nar.symm, mset_ne nrf, mset_ne nar.symm]; exact mset_same) hb
  have dd : Dst a r f g t b := ⟨nar, naf, nag, nat, nab, nrf, nrg, nrt, nrb, nfg, nft, nfb, ngt, ngb, ntb⟩
  have hmf : m f = none := by rw [mset_ne naf.symm, mset_ne nrf.symm] at hf; exact hf
  have hmg : m g = none := by rw [mset_ne nag.symm, mset_ne nfg.symm, mset_ne nag.symm, mset_ne nrg.symm] at hg; exact hg
  have hmt : m t = none := by rw [mset_ne nat.symm, mset_ne ngt.symm, mset_ne nat.symm, mset_ne nft.symm, mset_ne nat.symm, mset_ne nrt.symm] at ht; exact ht
  have hmb : m b = none := by rw [mset_ne nab.symm, mset_ne ntb.symm, mset_ne nab.symm, mset_ne ngb.symm, mset_ne nab.symm, mset_ne nfb.symm, mset_ne nab.symm, mset_ne nrb.symm] at hb; exact hb
  have em : mset (mset (mset (mset (mset (mset (mset (mset (mset (mset m r (.dic false [])) a (.ins (He.ga K "Net") (putF "rooms" (.cell r) []))) f (.dic false [])) a (.ins (He.ga K "Net") (putF "firsts" (.cell f) (putF "rooms" (.cell r) [])))) g (.dic false [])) a (.ins (He.ga K "Net") (putF "givers" (.cell g) (putF "firsts" (.cell f) (putF "rooms" (.cell r) []))))) t (.dic false [])) a (.ins (He.ga K "Net") (putF "takers" (.cell t) (putF "givers" (.cell g) (putF "firsts" (.cell f) (putF "rooms" (.cell r) [])))))) b (.dic false [])) a (.ins (He.ga K "Net") (putF "members" (.cell b) (putF "takers" (.cell t) (putF "givers" (.cell g) (putF "firsts" (.cell f) (putF "rooms" (.cell r) []))))))
      = netM m K a r f g t b (.dic false []) (.dic false []) (.dic false []) (.dic false []) (.dic false []) := by
    have ep : putF "members" (.cell b) (putF "takers" (.cell t) (putF "givers" (.cell g) (putF "firsts" (.cell f) (putF "rooms" (.cell r) [])))) = netFs (.cell r) (.cell f) (.cell g) (.cell t) (.cell b) := rfl
    rw [ep]
    funext x
    unfold netM mset
    by_cases h1 : x = a
    · simp only [if_pos h1]
    · simp only [if_neg h1]
      by_cases h2 : x = b
      · subst h2
        rw [if_pos rfl, if_neg dd.rb.symm, if_neg dd.fb.symm, if_neg dd.gb.symm, if_neg dd.tb.symm, if_pos rfl]
      · simp only [if_neg h2]
        by_cases h3 : x = t
        · subst h3
          rw [if_pos rfl, if_neg dd.rt.symm, if_neg dd.ft.symm, if_neg dd.gt.symm, if_pos rfl]
        · simp only [if_neg h3]
          by_cases h4 : x = g
          · subst h4
            rw [if_pos rfl, if_neg dd.rg.symm, if_neg dd.fg.symm, if_pos rfl]
          · simp only [if_neg h4]
            by_cases h5 : x = f
            · subst h5
              rw [if_pos rfl, if_neg dd.rf.symm, if_pos rfl]
            · simp only [if_neg h5]
  rw [em]
  clear em
  have fr : Free m a r f g t b := ⟨by rw [ha]; rfl, by rw [hr]; rfl, by rw [hmf]; rfl, by rw [hmg]; rfl, by rw [hmt]; rfl, by rw [hmb]; rfl⟩
  refine k_for (ei_seq (xs := xs) (ev_var rfl) (asI_of (asS_net fr e1))) (fun i e' m' => ∃ v3 v5 v6, e' = [some (.cell a), some d1, some d2, v3, none, v5, v6, none, none, none, none] ∧ m' = netM m K a r f g t b (.dic false (rowsR (ls.take i))) (.dic false (rowsF (ls.take i))) (.dic false []) (.dic false []) (.dic false [])) ⟨_, _, _, rfl, rfl⟩ (fun i e' m' ⟨_, _, _, _, z⟩ => by rw [z]; exact asI_of (asS_net fr e1)) ?_ ?_
  · rintro i d e' m' hd ⟨v3, v5, v6, rfl, rfl⟩
    have hi : i < ls.length := by have := (List.getElem?_eq_some_iff.mp hd).1; omega
    obtain ⟨x, hx, fd, rfl, hfd⟩ := rl.2 i ls[i] (List.getElem?_eq_getElem hi)
    rw [hx] at hd
    cases hd
    obtain ⟨q1, q2, _⟩ := ok.li _ (List.getElem_mem hi)
    have nb := not_before (f := LaneA.nm) ok.ld hi
    have n1 := key_ne (keysR (ls.take i)) nb
    have n2 := key_ne (keysF (ls.take i)) nb
    have lt : (ls.take i).length ≤ 24 := by rw [List.length_take]; omega
    refine bnd_tup (bnds_cons bnd_name (bnds_cons bnd_name (bnds_cons bnd_name bnds_nil))) rfl _ _ _ (k_seq (k_dropC (ev_cons (ev_var rfl) (ev_cons (ev_fldC (ev_var rfl) nm_a (kn.2 _ (by decide)) rfl) ev_nil)) ⟨_, _, rowsR (ls.take i), rfl, by show oK _ = _; rw [nm_r dd]; rfl, q1, q2, lkp_none n1, k_seq (k_dropC (ev_cons (ev_var rfl) (ev_cons (ev_var rfl) (ev_cons (ev_var rfl) ev_nil))) ⟨_, fd, ls[i], rfl, asS_net fr hfd, ok.lok _ (List.getElem_mem hi), k_seq ?_⟩)⟩))
    refine k_stD (ev_var rfl) (ev_fldC (ev_var rfl) nm_a (kn.2 _ (by decide)) rfl) (ev_var rfl) (nm_r dd) rfl (by unfold rowsR; rw [List.length_map, sizeLine_eq]; omega) ?_
    rw [st_r dd, put_new n1]
    refine k_stD (ev_opA (ev_cons (ev_var rfl) ev_nil) (o_tup1 (asS_net fr hfd))) (ev_fldC (ev_var rfl) nm_a (kn.2 _ (by decide)) rfl) (ev_var rfl) (nm_f dd) rfl (by unfold rowsF; rw [List.length_map, sizeLine_eq]; omega) ⟨_, _, _, rfl, ?_⟩
    rw [st_f dd, put_new n2, take_snoc hi]
    unfold rowsR rowsF
    rw [List.map_append, List.map_append]; rfl
  rintro e' m' ⟨v3, v5, v6, rfl, rfl⟩
  have elt : ls.take xs.length = ls := by rw [lx, List.take_length]
  rw [elt]
  refine k_seq (k_for (ei_seq (xs := ys) (ev_var rfl) (asI_of (asS_net fr e2))) (fun i e' m' => ∃ v3 v7 v8 v9 v10, e' = [some (.cell a), some d1, some d2, v3, none, v5, v6, v7, v8, v9, v10] ∧ m' = netM m K a r f g t b (.dic false (rowsR ls)) (.dic false (rowsF ls)) (.dic false (endR PartA.outs (ps.take i))) (.dic false (endR PartA.ins (ps.take i))) (.dic false (rowsM K (ps.take i)))) ⟨_, _, _, _, _, rfl, rfl⟩ (fun i e' m' ⟨_, _, _, _, _, _, z⟩ => by rw [z]; exact asI_of (asS_net fr e2)) ?_ ?_)
  · rintro i d e' m' hd ⟨v3, v7, v8, v9, v10, rfl, rfl⟩
    have hi : i < ps.length := by have := (List.getElem?_eq_some_iff.mp hd).1; omega
    obtain ⟨x, hx, nd, id, od, rfl, h1, h2, h3⟩ := rp.2 i ps[i] (List.getElem?_eq_getElem hi)
    rw [hx] at hd
    cases hd
    have hp := List.getElem_mem hi
    obtain ⟨q1, q2, _⟩ := ok.pl _ hp
    have nb := not_before (f := PartA.nm) ok.pd hi
    obtain ⟨i1, i2⟩ := flat_take hi (nodup_ins ok)
    obtain ⟨o1, o2⟩ := flat_take hi (nodup_outs ok)
    have inR : ∀ l, l ∈ ps[i].ins ∨ l ∈ ps[i].outs → (lkp (rowsR ls) (.inr l)).isSome = true := fun l hl => key_is (keysR ls) (by
      rcases hl with hl | hl
      · exact ok.pi.subset (List.mem_flatMap.mpr ⟨_, hp, hl⟩)
      · exact ok.po.subset (List.mem_flatMap.mpr ⟨_, hp, hl⟩))
    have len1 : (endR PartA.outs (ps.take i)).length ≤ 24 := by
      have e : (endR PartA.outs (ps.take i)).length = ((ps.take i).flatMap PartA.outs).length := by
        have := congrArg List.length (keysE PartA.outs (ps.take i))
        rw [List.length_map, List.length_map] at this; exact this
      have le : ((ps.take i).flatMap PartA.outs).length ≤ (ps.flatMap PartA.outs).length := by
        conv => rhs; rw [← List.take_append_drop i ps, List.flatMap_append, List.length_append]
        exact Nat.le_add_right _ _
      have := ok.po.length_eq
      rw [List.length_map] at this
      omega
    have len2 : (endR PartA.ins (ps.take i)).length ≤ 24 := by
      have e : (endR PartA.ins (ps.take i)).length = ((ps.take i).flatMap PartA.ins).length := by
        have := congrArg List.length (keysE PartA.ins (ps.take i))
        rw [List.length_map, List.length_map] at this; exact this
      have le : ((ps.take i).flatMap PartA.ins).length ≤ (ps.flatMap PartA.ins).length := by
        conv => rhs; rw [← List.take_append_drop i ps, List.flatMap_append, List.length_append]
        exact Nat.le_add_right _ _
      have := ok.pi.length_eq
      rw [List.length_map] at this
      omega
    have len3 : (rowsM K (ps.take i)).length ≤ 16 := by unfold rowsM; rw [List.length_map, List.length_take]; omega
    refine bnd_tup (bnds_cons bnd_name (bnds_cons bnd_name (bnds_cons bnd_name (bnds_cons bnd_name (bnds_cons bnd_name bnds_nil))))) rfl _ _ _ (k_dropX (x_methC (ev_var rfl) nm_a rfl (List.mem_of_getElem? (i := 0) rfl) (ev_cons (ev_var rfl) (ev_cons (ev_var rfl) (ev_cons (ev_var rfl) (ev_cons (ev_var rfl) (ev_cons (ev_var rfl) ev_nil))))) ⟨kn, m, a, r, f, g, t, b, _, false, _, _, _, _, nd, id, od, ps[i], rfl, rfl, dd, asS_net fr h1, asS_net fr h2, asS_net fr h3, ok.pok _ hp, q1, q2, key_ne (keysM K (ps.take i)) nb, fun l hl => inR l (.inl hl), fun l hl => key_ne (keysE PartA.ins (ps.take i)) (i2 l hl), i1, fun l hl => inR l (.inr hl), fun l hl => key_ne (keysE PartA.outs (ps.take i)) (o2 l hl), o1, by omega, ⟨_, _, _, _, _, rfl, ?_⟩⟩))
    rw [take_snoc hi, endR_snoc, endR_snoc]
    unfold rowsM
    rw [List.map_append]; rfl
  rintro e' m' ⟨v3, v7, v8, v9, v10, rfl, rfl⟩
  have ept : ps.take ys.length = ps := by rw [ly, List.take_length]
  rw [ept]
  refine k_seq (k_forDc (es := rowsR ls) (a := r) (ev_fldC (ev_var rfl) nm_a (kn.2 _ (by decide)) rfl) (nm_r dd) (fun i e' m' => ∃ v, e' = [some (.cell a), some d1, some d2, v, none, v5, v6, v7, v8, v9, v10] ∧ m' = netM m K a r f g t b (.dic true (rowsR ls)) (.dic false (rowsF ls)) (.dic false (endR PartA.outs ps)) (.dic false (endR PartA.ins ps)) (.dic false (rowsM K ps))) ⟨_, rfl, st_r dd⟩ (fun i e' m' ⟨_, _, z⟩ => by rw [z]; exact nm_r dd) ?_ ?_)
  · rintro i d e' m' hd ⟨v, rfl, rfl⟩
    have hi : i < ls.length := by
      have := (List.getElem?_eq_some_iff.mp hd).1
      unfold kys rowsR at this
      rw [List.length_map, List.length_map] at this; exact this
    have hd' : (kys (rowsR ls))[i]? = some (.str ls[i].nm) := by
      unfold kys rowsR
      rw [List.getElem?_map, List.getElem?_map, List.getElem?_eq_getElem hi]; rfl
    rw [hd'] at hd
    cases hd
    obtain ⟨_, _, _, eg⟩ := giver_at ok (List.getElem_mem hi)
    obtain ⟨_, _, _, et⟩ := taker_at ok (List.getElem_mem hi)
    refine bnd_name _ _ _ (k_ifF (et_or (et_B (ev_op2 (ev_var rfl) (ev_fldC (ev_var rfl) nm_a (kn.2 _ (by decide)) rfl) (o_inK (kvs := endR PartA.outs ps) (by show oK _ = _; rw [nm_g dd]; rfl) rfl))) fun _ => et_B (ev_op2 (ev_var rfl) (ev_fldC (ev_var rfl) nm_a (kn.2 _ (by decide)) rfl) (o_inK (kvs := endR PartA.ins ps) (by show oK _ = _; rw [nm_t dd]; rfl) rfl))) (by rw [eg, et]; rfl) (k_next ⟨_, rfl, rfl⟩))
  rintro e' m' ⟨v, rfl, rfl⟩
  rw [st_r dd]
  refine k_seq (k_setX (x_methC (ev_var rfl) nm_a rfl (List.mem_of_getElem? (i := 0) rfl) ev_nil ⟨kn, m, a, r, f, g, t, b, _, ls, ps, rfl, rfl, dd, ok, fun ks hks => ?_⟩))
  refine k_forDc (es := rowsM K ps) (a := b) (ev_fldC (ev_var rfl) nm_a (kn.2 _ (by decide)) rfl) (nm_b dd) (fun i e' m' => ∃ v, e' = [some (.cell a), some d1, some d2, v, some (.dic (fdL ks)), v5, v6, v7, v8, v9, v10] ∧ m' = netM m K a r f g t b (.dic false (rowsR ls)) (.dic false (rowsF ls)) (.dic false (endR PartA.outs ps)) (.dic false (endR PartA.ins ps)) (.dic true (rowsM K ps))) ⟨_, rfl, st_b dd⟩ (fun i e' m' ⟨_, _, z⟩ => by rw [z]; exact nm_b dd) ?_ ?_
  · rintro i d e' m' hd ⟨v, rfl, rfl⟩
    have hi : i < ps.length := by
      have := (List.getElem?_eq_some_iff.mp hd).1
      unfold kys rowsM at this
      rw [List.length_map, List.length_map] at this; exact this
    have hd' : (kys (rowsM K ps))[i]? = some (.str ps[i].nm) := by
      unfold kys rowsM
      rw [List.getElem?_map, List.getElem?_map, List.getElem?_eq_getElem hi]; rfl
    rw [hd'] at hd
    cases hd
    exact bnd_name _ _ _ (k_ifF (et_B (ev_op2 (ev_var rfl) (ev_var rfl) (o_inK (kvs := fdL ks) rfl rfl))) (by rw [fd_in, decide_eq_true (hks _ (List.getElem_mem hi))]; rfl) (k_next ⟨_, rfl, rfl⟩))
  rintro e' m' ⟨v, rfl, rfl⟩
  rw [st_b dd]
  exact h r f g t b dd hr hmf hmg hmt hmb
/-- Net(lanes, parts): a net as data -/
theorem x_net {K : PySem.W.Frag} {e : De} {m : Mu} {tr : AA} {d1 d2 : D} {xs ys : List D} {ls : List LaneA} {ps : List PartA} {Q : QD} {X : XA} (kn : KN K) (ha : EvA tr e m [d1, d2]) (e1 : asS m d1 = some xs) (e2 : asS m d2 = some ys) (rl : Rows (LaneR m) xs ls) (rp : Rows (PartR m) ys ps) (ok : NetOk ls ps) (h : Q (netD K ls ps) m) :
    aFzN (aMake (He.ga K "Net") (sp_Net___init__ K) [] tr) e m Q X := by
  have st : ∀ {p : Addr} {d : D} {zs : List D}, m p = none → asS m d = some zs → asS (mset m p (.ins (He.ga K "Net") [])) d = some zs := fun hp hd => asS_ms hd (by rw [hp]; rfl)
  refine x_fzN (x_make ha fun a ha' => ⟨kn, a, d1, d2, xs, ys, ls, ps, rfl, mset_same, st ha' e1, st ha' e2, rows_mono rl fun x l ⟨fd, q1, q2⟩ => ⟨fd, q1, st ha' q2⟩, rows_mono rp fun x p ⟨nd, id, od, q1, q2, q3, q4⟩ => ⟨nd, id, od, q1, st ha' q2, st ha' q3, st ha' q4⟩, ok, fun r f g t b dd hr hf hg ht hb => ⟨rfl, a, _, _, rfl, nm_a, ?_⟩⟩)
  have e0 : ∀ {x y : Addr} {mm : Mu}, x ≠ y → mdel mm y x = mm x := fun h => by unfold mdel; rw [if_neg h]
  generalize hM : netM (mset m a (.ins (He.ga K "Net") [])) K a r f g t b (.dic false (rowsR ls)) (.dic false (rowsF ls)) (.dic false (endR PartA.outs ps)) (.dic false (endR PartA.ins ps)) (.dic false (rowsM K ps)) = M
  have hr' : M r = some (.dic false (rowsR ls)) := by rw [← hM]; exact nm_r dd
  have hf' : M f = some (.dic false (rowsF ls)) := by rw [← hM]; exact nm_f dd
  have hg' : M g = some (.dic false (endR PartA.outs ps)) := by rw [← hM]; exact nm_g dd
  have ht' : M t = some (.dic false (endR PartA.ins ps)) := by rw [← hM]; exact nm_t dd
  have hb' : M b = some (.dic false (rowsM K ps)) := by rw [← hM]; exact nm_b dd
  have z : fzFs (mdel M a) (netFs (.cell r) (.cell f) (.cell g) (.cell t) (.cell b)) = (netFs (.dic (rowsR ls)) (.dic (rowsF ls)) (.dic (endR PartA.outs ps)) (.dic (endR PartA.ins ps)) (.dic (rowsM K ps)), mdel (mdel (mdel (mdel (mdel (mdel M a) r) f) g) t) b) := by
    have c1 : fzD1 (mdel M a) (.cell r) = (.dic (rowsR ls), mdel (mdel M a) r) := by
      show fzM1 (mdel M a r) r (mdel M a) = _
      rw [e0 dd.ar.symm, hr']; rfl
    have c2 : fzD1 (mdel (mdel M a) r) (.cell f) = (.dic (rowsF ls), mdel (mdel (mdel M a) r) f) := by
      show fzM1 (mdel (mdel M a) r f) f _ = _
      rw [e0 dd.rf.symm, e0 dd.af.symm, hf']; rfl
    have c3 : fzD1 (mdel (mdel (mdel M a) r) f) (.cell g) = (.dic (endR PartA.outs ps), mdel (mdel (mdel (mdel M a) r) f) g) := by
      show fzM1 (mdel (mdel (mdel M a) r) f g) g _ = _
      rw [e0 dd.fg.symm, e0 dd.rg.symm, e0 dd.ag.symm, hg']; rfl
    have c4 : fzD1 (mdel (mdel (mdel (mdel M a) r) f) g) (.cell t) = (.dic (endR PartA.ins ps), mdel (mdel (mdel (mdel (mdel M a) r) f) g) t) := by
      show fzM1 (mdel (mdel (mdel (mdel M a) r) f) g t) t _ = _
      rw [e0 dd.gt.symm, e0 dd.ft.symm, e0 dd.rt.symm, e0 dd.at_.symm, ht']; rfl
    have c5 : fzD1 (mdel (mdel (mdel (mdel (mdel M a) r) f) g) t) (.cell b) = (.dic (rowsM K ps), mdel (mdel (mdel (mdel (mdel (mdel M a) r) f) g) t) b) := by
      show fzM1 (mdel (mdel (mdel (mdel (mdel M a) r) f) g) t b) b _ = _
      rw [e0 dd.tb.symm, e0 dd.gb.symm, e0 dd.fb.symm, e0 dd.rb.symm, e0 dd.ab.symm, hb']; rfl
    unfold netFs
    unfold fzFs; rw [c1]
    unfold fzFs; rw [c2]
    unfold fzFs; rw [c3]
    unfold fzFs; rw [c4]
    unfold fzFs; rw [c5]
    rfl
  have em : mdel (mdel (mdel (mdel (mdel (mdel M a) r) f) g) t) b = m := by
    have nf : ∀ {x : Addr}, mset m a (.ins (He.ga K "Net") []) x = none → x ≠ a → m x = none := fun hx ne => by rw [mset_ne ne] at hx; exact hx
    funext x
    rw [← hM]
    unfold mdel netM
    by_cases h6 : x = b
    · rw [if_pos h6, h6, nf hb dd.ab.symm]
    rw [if_neg h6]
    by_cases h5 : x = t
    · rw [if_pos h5, h5, nf ht dd.at_.symm]
    rw [if_neg h5]
    by_cases h4 : x = g
    · rw [if_pos h4, h4, nf hg dd.ag.symm]
    rw [if_neg h4]
    by_cases h3 : x = f
    · rw [if_pos h3, h3, nf hf dd.af.symm]
    rw [if_neg h3]
    by_cases h2 : x = r
    · rw [if_pos h2, h2, nf hr dd.ar.symm]
    rw [if_neg h2]
    by_cases h1 : x = a
    · rw [if_pos h1, h1, ha']
    rw [if_neg h1, if_neg h1, if_neg h2, if_neg h3, if_neg h4, if_neg h5, if_neg h6, mset_ne h1]
  rw [z, em]
  exact h
/-! are_names -/
def t_are_names (K : PySem.W.Frag) : AS :=
    (aRet (aCB bAllB (aCons (aLc false (aiSeq (aVar 0)) (agName 1) aYes (aCall (sp_is_name K) [] (aCons (aVar 1) aNil)) [1]) aNil)))
abbrev N_are_names : List Str := ["words", "word"]
def sp_are_names (K : PySem.W.Frag) : ASp := fun ds m Q _ => ∃ ws : List Str, ds = [.lst (ws.map D.str)] ∧ ws.length < sizeLine ∧ (∀ w, w ∈ ws → w.length ≤ 1000000) ∧ Q (.bl (ws.all isNm)) m
theorem len_are_names {K : PySem.W.Frag} (ds : List D) (m : Mu) (Q : QD) (XX : XA) (h : sp_are_names K ds m Q XX) : ds.length = 1 := by
  obtain ⟨_, rfl, _⟩ := h; rfl
theorem pure_are_names {K : PySem.W.Frag} (ds : List D) (m : Mu) (Q : QD) (XX : XA) (h : sp_are_names K ds m Q XX) : t_are_names K (endsOf Q XX) (slots N_are_names ds) m := by
  obtain ⟨ws, rfl, hl, hw, h⟩ := h
  refine k_ret ((ev_opA (ev_cons ((ev_lcG ws D.str (fun _ => true) (fun w => .bl (isNm w)) (ei_seq (xs := ws.map D.str) (ev_var rfl) rfl) rfl hl fun w h2 => ⟨_, bnd_name, fun _ _ q => q, fun _ => ev_is_nameS (ev_cons (ev_var rfl) ev_nil) (hw w h2)⟩).to (d' := .lst ((ws.map isNm).map D.bl)) (by rw [List.filter_eq_self.mpr (fun _ _ => rfl), List.map_map]; rfl)) ev_nil) o_allB).to (d' := .bl (ws.all isNm)) (by rw [List.all_map]; rfl)) h
/-! number_in -/
def t_number_in (K : PySem.W.Frag) : AS :=
    (aSeq (aIfS (aOr (aB (aOp bEq (aVar 0) (aC (.str "")))) (aB (aOp bGt (aCB bLen (aCons (aVar 0) aNil)) (aC (.int 10)))))
    (aRaise0 (He.ga K "BadWord") (aC (.str "not one to ten figures")))
    aNext)
    (aSeq (aFor (aiSeq (aVar 0)) (agName 3)
    (aIfS (aB (aOp (bIn true) (aVar 3) (aC (.str "0123456789"))))
    (aRaise0 (He.ga K "BadWord") (aC (.str "a sign that is no figure")))
    aNext))
    (aSeq (aIfS (aAnd (aB (aOp bEq (aOp bIx (aVar 0) (aC (.int 0))) (aC (.str "0")))) (aB (aOp bGt (aCB bLen (aCons (aVar 0) aNil)) (aC (.int 1)))))
    (aRaise0 (He.ga K "BadWord") (aC (.str "a nought ahead")))
    aNext)
    (aSeq (aSet 4 (aCB bInt (aCons (aVar 0) aNil)))
    (aSeq (aIfS (aNot (aB (aChain bLe bLe (aVar 1) (aVar 4) (aVar 2))))
    (aRaise0 (He.ga K "BadWord") (aC (.str "not within the bounds")))
    aNext)
    (aRet (aVar 4)))))))
abbrev N_number_in : List Str := ["word", "low", "high", "sign", "number"]
def optD : Option Int → D
  | none => .non
  | some n => .int n
def numOk (x : Str) : Bool := decide (1 ≤ x.length) && decide (x.length ≤ 10) && (x.cps.toList.all isFig) && !(decide (x.cps.toList.headD 0 = 48) && decide (1 < x.length))
def numOf (x : Str) : Option Int := if numOk x = true then some ((NumText.digitsVal x.cps.toList : Nat) : Int) else none
def BW (K : PySem.W.Frag) : Ex := ⟨He.ga K "BadWord", none⟩
def sp_number_in (K : PySem.W.Frag) : ASp := fun ds m Q X => ∃ (x : Str) (lo hi : Int), ds = [.str x, .int lo, .int hi] ∧ x.length ≤ 1000000 ∧ (∀ n, numOf x = some n → lo ≤ n → n ≤ hi → Q (.int n) m) ∧ ((numOf x = none ∨ ∃ n, numOf x = some n ∧ ¬ (lo ≤ n ∧ n ≤ hi)) → X (BW K) m)
theorem len_number_in {K : PySem.W.Frag} (ds : List D) (m : Mu) (Q : QD) (XX : XA) (h : sp_number_in K ds m Q XX) : ds.length = 3 := by
  obtain ⟨x, lo, hi, rfl, _⟩ := h; rfl
theorem fig_digits {l : List Nat} (h : l.all isFig = true) : l.all (fun c => decide (48 ≤ c) && decide (c ≤ 57)) = true := h
theorem num_bad {x : Str} (h : numOk x = false) : numOf x = none := by unfold numOf; rw [h]; rfl
theorem empty_len {x : Str} : decide (x = "") = decide (x.length = 0) := by
  by_cases h : x = ""
  · subst h; decide +kernel
  · rw [decide_eq_false h, decide_eq_false]
    intro z
    apply h
    rw [len_tl] at z
    have : x.cps.toList = [] := List.length_eq_zero_iff.mp z
    exact TL.ext_tl (this.trans (by decide +kernel))
theorem pure_number_in {K : PySem.W.Frag} (ds : List D) (m : Mu) (Q : QD) (XX : XA) (h : sp_number_in K ds m Q XX) : t_number_in K (endsOf Q XX) (slots N_number_in ds) m := by
  obtain ⟨x, lo, hi, rfl, hx, hq, hbad⟩ := h
  have hl : x.length ≤ sizeLine := by rw [sizeLine_eq]; omega
  have bad : numOk x = false → XX (BW K) m := fun z => hbad (.inl (num_bad z))
  refine k_seq (k_if (et_or (et_B (ev_op2 (ev_var rfl) ev_c o_eqS)) fun _ => et_B (ev_op2 (ev_opA (ev_cons (ev_var rfl) ev_nil) (o_lenS hl)) ev_c o_gt)) (fun hb => k_raise0 ev_c (bad ?_)) fun hb => k_next (k_seq ?_))
  · rw [empty_len, Bool.or_eq_true, decide_eq_true_eq, decide_eq_true_eq] at hb
    unfold numOk
    rcases hb with z | z
    · rw [decide_eq_false (show ¬ 1 ≤ x.length by omega)]; rfl
    · rw [decide_eq_false (show ¬ x.length ≤ 10 by omega)]; simp
  rw [empty_len, Bool.or_eq_false_iff, decide_eq_false_iff_not, decide_eq_false_iff_not] at hb
  obtain ⟨hb1, hb2⟩ := hb
  refine k_forAll (ei_seq (xs := signs x) (ev_var rfl) rfl) rfl (sgP isFig) (fun e' => ∃ l, e' = [some (.str x), some (.int lo), some (.int hi), l, none]) ⟨_, rfl⟩ ?_ ?_
  · rintro P d e' hd ⟨l, rfl⟩ ok
    obtain ⟨c, hm, rfl⟩ := signs_mem hd
    refine bnd_name _ _ _ (k_if (b := !isFig c) ((et_B (ev_op2 (ev_var rfl) ev_c o_inS)).to ?_) (fun hb => k_raise0 ev_c (bad ?_)) fun hb => k_next (ok ?_ _ ⟨_, rfl⟩))
    · show (!decide (c ∈ figT.cps.toList)) = _
      rw [mem_fig]
    · rw [Bool.not_eq_true'] at hb
      have : x.cps.toList.all isFig = false := by
        rw [List.all_eq_false]
        exact ⟨c, hm, by rw [hb]; decide⟩
      unfold numOk; rw [this]; simp
    · rw [Bool.not_eq_false'] at hb
      exact hb
  rintro hall e' ⟨l, rfl⟩
  have hfig : x.cps.toList.all isFig = true := List.all_eq_true.mpr fun c hcm => hall _ (mem_signs hcm)
  have hlen := len_tl x
  obtain ⟨c0, r, hc⟩ : ∃ c r, x.cps.toList = c :: r := by
    cases q : x.cps.toList with
    | nil => rw [q] at hlen; exact absurd hlen (by simpa using hb1)
    | cons c r => exact ⟨c, r, rfl⟩
  have e0 : decide ((⟨#[c0]⟩ : Str) = "0") = decide (c0 = 48) := by
    by_cases z : c0 = 48
    · subst z; decide +kernel
    · rw [decide_eq_false z, decide_eq_false]
      intro q
      apply z
      have := congrArg (fun y : Str => y.cps.toList) q
      have e : ("0" : Str).cps.toList = [48] := by decide +kernel
      simp only [e] at this
      simpa using this
  have hh : x.cps.toList.headD 0 = c0 := by rw [hc]; rfl
  have ok1 : numOk x = !(decide (c0 = 48) && decide (1 < x.length)) := by
    unfold numOk
    rw [hfig, hh, decide_eq_true (show 1 ≤ x.length by omega), decide_eq_true (show x.length ≤ 10 by omega)]; rfl
  refine k_seq (k_if (b := decide (c0 = 48) && decide (1 < x.length)) ((et_and (et_B (ev_op2 (ev_op2 (ev_var rfl) ev_c (o_ixS (c := c0) hl (by rw [hc]; exact atI_int (by decide) rfl))) ev_c o_eqS)) fun _ => et_B (ev_op2 (ev_opA (ev_cons (ev_var rfl) ev_nil) (o_lenS hl)) ev_c o_gt)).to ?_) (fun hb => k_raise0 ev_c (bad (by rw [ok1, hb]; rfl))) fun hb => k_next (k_seq ?_))
  · rw [e0]
    congr 1
    exact decide_eq_decide.mpr (by omega)
  have okx : numOk x = true := by rw [ok1, hb]; rfl
  have en : numOf x = some ((NumText.digitsVal x.cps.toList : Nat) : Int) := by unfold numOf; rw [if_pos okx]
  have ei : intText? x = some ((NumText.digitsVal x.cps.toList : Nat) : Int) := by
    have := SX.int_S (a := x.cps.toList) (fig_digits hfig) (by rw [hc]; simp) (by omega)
    rw [SX.S_tl] at this; exact this
  refine k_set (ev_opA (ev_cons (ev_var rfl) ev_nil) (o_intS ei (by omega))) (k_seq ?_)
  generalize ((NumText.digitsVal x.cps.toList : Nat) : Int) = n at *
  refine k_if (et_not (et_B (ev_chainG (ev_var rfl) (ev_var rfl) o_le (fun _ => ev_var rfl) fun _ => o_le))) (fun hb => k_raise0 ev_c (hbad (.inr ⟨n, en, ?_⟩))) fun hb => k_next (k_ret (ev_var rfl) ?_)
  · rw [Bool.not_eq_true', Bool.and_eq_false_iff, decide_eq_false_iff_not, decide_eq_false_iff_not] at hb
    omega
  · rw [Bool.not_eq_false', Bool.and_eq_true, decide_eq_true_eq, decide_eq_true_eq] at hb
    exact hq n en hb.1 hb.2
/-! numbers_of -/
def t_numbers_of (K : PySem.W.Frag) : AS :=
    (aThru (aSet 1 (aLc false (aiSeq (aVar 0)) (agName 2) aYes (aCall (sp_number_in K) [] (aCons (aVar 2) (aCons (aC (.int 0)) (aCons (aC (.int 999999999)) aNil)))) [2])) (aRet (aVar 1)))
abbrev N_numbers_of : List Str := ["words", "found", "word"]
theorem num_back {n : Int} (h : isVal n = true) : numOf (numS n) = some n := by
  obtain ⟨h0, h1⟩ := val_b h
  have hl := numS_len h0 (show n < 10 ^ 10 by omega)
  have hfig : (numS n).cps.toList.all isFig = true := List.all_eq_true.mpr fun c hc => by
    obtain ⟨a, b⟩ := numS_fig h0 hc
    unfold isFig
    simp [a, b]
  obtain ⟨m, rfl⟩ := Int.eq_ofNat_of_zero_le h0
  have hv : NumText.digitsVal (numS (m : Int)).cps.toList = m := by rw [numS_sg]; exact PySem.W.KIN.val_back m
  have ok : numOk (numS (m : Int)) = true := by
    unfold numOk
    rw [decide_eq_true hl, hfig]
    rcases numS_head h0 with ⟨e, e2⟩ | ⟨c, r, e, ne⟩
    · have l1 : (numS (m : Int)).length = 1 := by rw [len_tl]; show (numS (m : Int)).cps.toList.length = 1; rw [e2]; rfl
      rw [l1]; simp
    · have l1 : 1 ≤ (numS (m : Int)).length := by rw [len_tl]; show 1 ≤ (numS (m : Int)).cps.toList.length; rw [e]; simp
      rw [decide_eq_true l1, e]
      simp [ne]
  unfold numOf
  rw [if_pos ok, hv]
def sp_numbers_of (K : PySem.W.Frag) : ASp := fun ds m Q _ => ∃ ns : List Int, ds = [.lst (ns.map fun n => .str (numS n))] ∧ ns.length < sizeLine ∧ (∀ n, n ∈ ns → isVal n = true) ∧ Q (.lst (ns.map D.int)) m
theorem len_numbers_of {K : PySem.W.Frag} (ds : List D) (m : Mu) (Q : QD) (XX : XA) (h : sp_numbers_of K ds m Q XX) : ds.length = 1 := by
  obtain ⟨_, rfl, _⟩ := h; rfl
theorem pure_numbers_of {K : PySem.W.Frag} (ds : List D) (m : Mu) (Q : QD) (XX : XA) (h : sp_numbers_of K ds m Q XX) : t_numbers_of K (endsOf Q XX) (slots N_numbers_of ds) m := by
  obtain ⟨ns, rfl, hl, hv, h⟩ := h
  refine k_thru (k_set ((ev_lcG ns (fun n => .str (numS n)) (fun _ => true) D.int (ei_seq (xs := ns.map fun n => .str (numS n)) (ev_var rfl) rfl) rfl hl fun n hn => ⟨_, bnd_name, fun _ _ q => q, fun _ => ev_call (ev_cons (ev_var rfl) (ev_cons ev_c (ev_cons ev_c ev_nil))) fun Q X q => ⟨numS n, 0, 999999999, rfl, ?_, fun k hk _ _ => ?_, fun z => ?_⟩⟩).to (d' := .lst (ns.map D.int)) (by rw [List.filter_eq_self.mpr (fun _ _ => rfl)])) (k_ret (ev_var rfl) h))
  · obtain ⟨h0, h1⟩ := val_b (hv n hn)
    exact Nat.le_trans (numS_len h0 (by omega)) (by decide)
  · rw [num_back (hv n hn)] at hk; cases hk; exact q
  · obtain ⟨h0, h1⟩ := val_b (hv n hn)
    rw [num_back (hv n hn)] at z
    rcases z with z | ⟨k, hk, z⟩
    · cases z
    · cases hk; exact absurd ⟨h0, by omega⟩ z
/-! part_told -/
def t_part_told (K : PySem.W.Frag) : AS :=
    (aSeq (aIfS (aOr (aB (aOp bNe (aBM "list" bCountL (aVar 0) (aCons (aC (.str ":")) aNil)) (aC (.int 1)))) (aB (aOp bNe (aBM "list" bCountL (aVar 0) (aCons (aC (.str ">")) aNil)) (aC (.int 1)))))
    (aRet (aC .non))
    aNext)
    (aSeq (aSet 1 (aBM "list" bIndex (aVar 0) (aCons (aC (.str ":")) aNil)))
    (aSeq (aSet 2 (aBM "list" bIndex (aVar 0) (aCons (aC (.str ">")) aNil)))
    (aSeq (aIfS (aOr (aNot (aB (aChain bLe bLt (aC (.int 2)) (aVar 1) (aVar 2)))) (aNot (aB (aCall (sp_are_names K) [] (aCons (aSl false (aVar 0) aNoP (aP (aC (.int 2)))) aNil)))))
    (aRet (aC .non))
    aNext)
    (aSeq (aSet 3 (aCall (sp_numbers_of K) [] (aCons (aSl false (aVar 0) (aP (aC (.int 2))) (aP (aVar 1))) aNil)))
    (aSeq (aSet 4 (aSl false (aVar 0) (aP (aOp (bAdd false) (aVar 1) (aC (.int 1)))) (aP (aVar 2))))
    (aSeq (aSet 5 (aSl false (aVar 0) (aP (aOp (bAdd false) (aVar 2) (aC (.int 1)))) aNoP))
    (aSeq (aIfS (aOr (aB (aOp bIs (aVar 3) (aC .non))) (aNot (aB (aCall (sp_are_names K) [] (aCons (aOp (bAdd false) (aVar 4) (aVar 5)) aNil)))))
    (aRet (aC .non))
    aNext)
    (aRet (aTup (aCons (aOp bIx (aVar 0) (aC (.int 0))) (aCons (aOp bIx (aVar 0) (aC (.int 1))) (aCons (aVar 3) (aCons (aVar 4) (aCons (aVar 5) aNil)))))))))))))))
abbrev N_part_told : List Str := ["words", "middle", "end", "numbers", "ins", "outs"]
theorem cutD_mid {α : Type} {xs : List α} {a b : Nat} (h : a ≤ b) (hb : b ≤ xs.length) : cut xs (some (a : Int)) (some (b : Int)) = (xs.drop a).take (b - a) := by
  unfold cut HT.sIx
  simp only []
  rw [if_neg (by omega), if_neg (by omega), Int.toNat_natCast, Int.toNat_natCast, Nat.min_eq_left hb, Nat.min_eq_left (by omega)]
theorem o_countS {m : Mu} {ss : List Str} {s : Str} : OpM bCountL (.lst (ss.map D.str)) [.str s] m (.int ((ss.countP fun t => decide (t = s) : Nat) : Int)) := by
  have e : (ss.map D.str).countP (fun z => eqD z (.str s)) = ss.countP fun t => decide (t = s) := by
    rw [List.countP_map]
    refine List.countP_congr fun t _ => ?_
    show eqD (.str t) (.str s) = true ↔ _
    rw [eqD_str]
  rw [← e]
  exact o_countL rfl (by rw [List.all_map]; exact List.all_eq_true.mpr fun _ _ => rfl)
theorem o_indexC {m : Mu} {A R : List Str} {s : Str} (h : s ∉ A) : OpM bIndex (.lst ((A ++ s :: R).map D.str)) [.str s] m (.int (A.length : Int)) := fun Q q => by
  refine ⟨(A ++ s :: R).map D.str, .str s, .str s, A.length, rfl, rfl, rfl, ?_, by rw [List.getElem?_map, List.getElem?_append_right (Nat.le_refl _), Nat.sub_self]; rfl, ?_, fun i z' hi hz => ?_, q⟩
  · rw [List.all_map]; exact List.all_eq_true.mpr fun _ _ => rfl
  · rw [eqD_str]; exact decide_eq_true rfl
  · rw [List.getElem?_map, List.getElem?_append_left hi] at hz
    cases e : A[i]? with
    | none => rw [e] at hz; cases hz
    | some t =>
      rw [e] at hz
      cases hz
      rw [eqD_str]
      exact decide_eq_false fun z => h (z ▸ List.mem_of_getElem? e)
theorem cnt_one {A R : List Str} {s : Str} (h1 : s ∉ A) (h2 : s ∉ R) : (A ++ s :: R).countP (fun t => decide (t = s)) = 1 := by
  have z : ∀ {B : List Str}, s ∉ B → B.countP (fun t => decide (t = s)) = 0 := fun h => List.countP_eq_zero.mpr fun t ht => by
    simp only [decide_eq_true_eq]
    exact fun e => h (e ▸ ht)
  rw [List.countP_append, List.countP_cons, z h1, z h2, decide_eq_true rfl]; rfl
theorem kt_nm : ∀ i, i < 11 → isNm (kt i).kind = true ∧ (kt i).kind ≠ "lane" := by decide +kernel
theorem colon_no : isNm ":" = false ∧ isNm ">" = false := by decide +kernel
theorem nm_ne {w : Str} (h : isNm w = true) : w ≠ ":" ∧ w ≠ ">" := ⟨fun z => (by rw [z, colon_no.1] at h; cases h), fun z => (by rw [z, colon_no.2] at h; cases h)⟩
theorem num_ne {n : Int} (h : 0 ≤ n) : numS n ≠ ":" ∧ numS n ≠ ">" := by
  have k : ∀ {c : Nat} {s : Str}, s.cps.toList = [c] → 57 < c → numS n ≠ s := fun {c s} hs hc z => by
    have := numS_fig h (c := c) (by rw [z, hs]; exact List.mem_singleton.mpr rfl)
    omega
  exact ⟨k (c := 58) (by decide +kernel) (by decide), k (c := 62) (by decide +kernel) (by decide)⟩
def sp_part_told (K : PySem.W.Frag) : ASp := fun ds m Q _ => ∃ p : PartA, ds = [.lst ((partWs p).map D.str)] ∧ PartOk p ∧ isNm p.nm = true ∧ p.nm.length ≤ 8 ∧ (∀ w, w ∈ p.inc → isNm w = true ∧ w.length ≤ 8) ∧ Q (partT p) m
theorem len_part_told {K : PySem.W.Frag} (ds : List D) (m : Mu) (Q : QD) (XX : XA) (h : sp_part_told K ds m Q XX) : ds.length = 1 := by
  obtain ⟨_, rfl, _⟩ := h; rfl
theorem pure_part_told {K : PySem.W.Frag} (ds : List D) (m : Mu) (Q : QD) (XX : XA) (h : sp_part_told K ds m Q XX) : t_part_told K (endsOf Q XX) (slots N_part_told ds) m := by
  obtain ⟨p, rfl, ok, nm, n8, wl, h⟩ := h
  have ks := kt_sm p.k ok.k
  have kn := kt_nm p.k ok.k
  have hs := sizeLine_eq
  have e1 := ok.ln
  have e2 := ok.li
  have e3 := ok.lo
  obtain ⟨A, eA⟩ : ∃ A, A = (kt p.k).kind :: p.nm :: p.nums.map numS := ⟨_, rfl⟩
  have lA : A.length = 2 + p.nums.length := by rw [eA, List.length_cons, List.length_cons, List.length_map]; omega
  have nA : (":" : Str) ∉ A ∧ (">" : Str) ∉ A := by
    rw [eA]
    constructor <;> intro z
    · rcases List.mem_cons.mp z with z | z
      · exact (nm_ne kn.1).1 z.symm
      · rcases List.mem_cons.mp z with z | z
        · exact (nm_ne nm).1 z.symm
        · obtain ⟨v, hv, z⟩ := List.mem_map.mp z
          exact (num_ne (val_b (ok.vn v hv)).1).1 z
    · rcases List.mem_cons.mp z with z | z
      · exact (nm_ne kn.1).2 z.symm
      · rcases List.mem_cons.mp z with z | z
        · exact (nm_ne nm).2 z.symm
        · obtain ⟨v, hv, z⟩ := List.mem_map.mp z
          exact (num_ne (val_b (ok.vn v hv)).1).2 z
  have nI : (":" : Str) ∉ p.ins ∧ (">" : Str) ∉ p.ins := ⟨fun z => (nm_ne (wl _ (List.mem_append_left _ z)).1).1 rfl, fun z => (nm_ne (wl _ (List.mem_append_left _ z)).1).2 rfl⟩
  have nO : (":" : Str) ∉ p.outs ∧ (">" : Str) ∉ p.outs := ⟨fun z => (nm_ne (wl _ (List.mem_append_right _ z)).1).1 rfl, fun z => (nm_ne (wl _ (List.mem_append_right _ z)).1).2 rfl⟩
  have w1 : partWs p = A ++ (":" : Str) :: (p.ins ++ (">" : Str) :: p.outs) := by
    rw [eA]; unfold partWs
    simp only [List.append_assoc, List.cons_append, List.nil_append]
  have w2 : partWs p = (A ++ (":" : Str) :: p.ins) ++ (">" : Str) :: p.outs := by
    rw [w1]; simp only [List.append_assoc, List.cons_append]
  have cg : (":" : Str) ≠ ">" := by decide +kernel
  have nR : (":" : Str) ∉ p.ins ++ (">" : Str) :: p.outs := fun z => by
    rcases List.mem_append.mp z with z | z
    · exact nI.1 z
    · rcases List.mem_cons.mp z with z | z
      · exact cg z
      · exact nO.1 z
  have nL : (">" : Str) ∉ A ++ (":" : Str) :: p.ins := fun z => by
    rcases List.mem_append.mp z with z | z
    · exact nA.2 z
    · rcases List.mem_cons.mp z with z | z
      · exact cg z.symm
      · exact nI.2 z
  have c1 : ∀ {m : Mu}, OpM bCountL (.lst ((partWs p).map D.str)) [.str ":"] m (.int 1) := fun {m} => by
    have := o_countS (m := m) (ss := partWs p) (s := ":")
    rw [w1, cnt_one nA.1 nR, ← w1] at this; exact this
  have c2 : ∀ {m : Mu}, OpM bCountL (.lst ((partWs p).map D.str)) [.str ">"] m (.int 1) := fun {m} => by
    have := o_countS (m := m) (ss := partWs p) (s := ">")
    rw [w2, cnt_one nL nO.2, ← w2] at this; exact this
  have i1 : ∀ {m : Mu}, OpM bIndex (.lst ((partWs p).map D.str)) [.str ":"] m (.int (A.length : Int)) := fun {m} => by
    have := o_indexC (m := m) (R := p.ins ++ (">" : Str) :: p.outs) nA.1
    rw [← w1] at this; exact this
  have i2 : ∀ {m : Mu}, OpM bIndex (.lst ((partWs p).map D.str)) [.str ">"] m (.int ((A ++ (":" : Str) :: p.ins).length : Int)) := fun {m} => by
    have := o_indexC (m := m) (R := p.outs) nL
    rw [← w2] at this; exact this
  have lE : (A ++ (":" : Str) :: p.ins).length = A.length + 1 + p.ins.length := by rw [List.length_append, List.length_cons]; omega
  have lW : (partWs p).length = A.length + 1 + p.ins.length + 1 + p.outs.length := by rw [w2, List.length_append, lE, List.length_cons]; omega
  have names : ∀ {ws : List Str}, (∀ w, w ∈ ws → isNm w = true) → ws.all isNm = true := fun h => List.all_eq_true.mpr h
  have nio : ∀ w, w ∈ p.ins ++ p.outs → isNm w = true := fun w hw => (wl w hw).1
  have nm2 : ∀ w, w ∈ [(kt p.k).kind, p.nm] → isNm w = true ∧ w.length ≤ 8 := fun w hw => by
    rcases List.mem_cons.mp hw with rfl | hw
    · exact ⟨kn.1, ks.2.2.2⟩
    · rw [List.mem_singleton.mp hw]; exact ⟨nm, n8⟩
  refine k_seq (k_ifF (et_or (b := false) (c := false) ((et_B (ev_op2 (ev_opM (ev_var rfl) (ev_cons ev_c ev_nil) c1 td_lst) ev_c o_ne)).to rfl) fun _ => ((et_B (ev_op2 (ev_opM (ev_var rfl) (ev_cons ev_c ev_nil) c2 td_lst) ev_c o_ne)).to rfl)) rfl (k_next ?_))
  refine k_seq (k_set (ev_opM (ev_var rfl) (ev_cons ev_c ev_nil) i1 td_lst) (k_seq (k_set (ev_opM (ev_var rfl) (ev_cons ev_c ev_nil) i2 td_lst) (k_seq ?_))))
  rw [lE]
  refine k_ifF (et_or (b := false) (c := false) ((et_not (et_B (ev_chainG (k := true) (l := true) ev_c (ev_var rfl) (fun Q q => o_le Q (by rw [decide_eq_true (by omega)]; exact q)) (fun _ => ev_var rfl) (fun _ Q q => o_lt Q (by rw [decide_eq_true (by omega)]; exact q))))).to rfl) fun _ => (et_not (et_B (ev_call (d := .bl true) (ev_cons (ev_sl (x := .lst ((partWs p).map D.str)) (d := .lst ([(kt p.k).kind, p.nm].map D.str)) (ev_var rfl) ev_noP (ev_P ev_c) fun Q q => o_slL (l := none) Q (by rw [cut_to (by decide), w1, eA]; exact q)) ev_nil) fun Q X q => ⟨[(kt p.k).kind, p.nm], rfl, (by rw [hs]; show (2 : Nat) < _; omega), fun w hw => Nat.le_trans (nm2 w hw).2 (by decide), (by rw [names fun w hw => (nm2 w hw).1]; exact q)⟩))).to rfl) rfl (k_next (k_seq ?_))
  have dr : ∀ k, ((partWs p).map D.str).drop k = ((partWs p).drop k).map D.str := fun k => (List.map_drop ..).symm
  have cm : ∀ {a b : Nat}, a ≤ b → b ≤ (partWs p).length → cut ((partWs p).map D.str) (some (a : Int)) (some (b : Int)) = (((partWs p).drop a).take (b - a)).map D.str := fun {a b} h1 h2 => by
    rw [cutD_mid h1 (by rw [List.length_map]; exact h2), dr, List.map_take]
  refine k_set (ev_call (d := .lst (p.nums.map D.int)) (ev_cons (ev_sl (x := .lst ((partWs p).map D.str)) (d := .lst (p.nums.map fun n => .str (numS n))) (ev_var rfl) (ev_P ev_c) (ev_P (ev_var rfl)) fun Q q => o_slL Q ?_) ev_nil) fun Q X q => ⟨p.nums, rfl, by rw [hs]; omega, ok.vn, q⟩) (k_seq ?_)
  · rw [show (2 : Int) = ((2 : Nat) : Int) from rfl, cm (by omega) (by omega), w1, List.drop_append_of_le_length (by omega), List.take_append_of_le_length (by rw [List.length_drop]; omega), List.take_of_length_le (by rw [List.length_drop]; omega), eA]
    show Q (.lst ((p.nums.map numS).map D.str)) _
    rw [List.map_map]; exact q
  have inp : ∀ {e : De} {m : Mu}, e[1]? = some (some (.int (A.length : Int))) → e[2]? = some (some (.int ((A.length + 1 + p.ins.length : Nat) : Int))) → e[0]? = some (some (.lst ((partWs p).map D.str))) → Ev (aSl false (aVar 0) (aP (aOp (bAdd false) (aVar 1) (aC (.int 1)))) (aP (aVar 2))) e m (.lst (p.ins.map D.str)) := fun h1 h2 h0 => ev_sl (x := .lst ((partWs p).map D.str)) (ev_var h0) (ev_P (ev_op2 (ev_var h1) ev_c o_add)) (ev_P (ev_var h2)) fun Q q => o_slL Q (by
    rw [show (A.length : Int) + 1 = ((A.length + 1 : Nat) : Int) by omega, cm (by omega) (by omega), w1, List.drop_append, List.drop_of_length_le (by omega), show A.length + 1 - A.length = 1 by omega, List.nil_append, List.drop_succ_cons, List.drop_zero, List.take_append_of_le_length (by omega), List.take_of_length_le (by omega)]
    exact q)
  refine k_set (inp rfl rfl rfl) (k_seq ?_)
  refine k_set (d := .lst (p.outs.map D.str)) (ev_sl (x := .lst ((partWs p).map D.str)) (ev_var rfl) (ev_P (ev_op2 (ev_var rfl) ev_c o_add)) ev_noP fun Q q => o_slL (h := none) Q (by
    rw [show ((A.length + 1 + p.ins.length : Nat) : Int) + 1 = ((A.length + 1 + p.ins.length + 1 : Nat) : Int) by omega, cutD_from, dr, w2, List.drop_append, List.drop_of_length_le (by omega), lE, show A.length + 1 + p.ins.length + 1 - (A.length + 1 + p.ins.length) = 1 by omega, List.nil_append, List.drop_succ_cons, List.drop_zero]
    exact q)) (k_seq ?_)
  refine k_ifF (et_or (b := false) (c := false) (et_B (ev_op2 (ev_var rfl) ev_c o_is)) fun _ => (et_not (et_B (ev_call (d := .bl true) (ev_cons (ev_op2 (ev_var rfl) (ev_var rfl) (o_addLL (by rw [List.length_map, List.length_map, hs]; omega))) ev_nil) fun Q X q => ⟨p.ins ++ p.outs, (by rw [List.map_append]; rfl), by rw [hs, List.length_append]; omega, fun w hw => Nat.le_trans (wl w hw).2 (by decide), by rw [names nio]; exact q⟩))).to rfl) rfl (k_next ?_)
  have g0 : ((partWs p).map D.str)[0]? = some (.str (kt p.k).kind) := by rw [w1, eA]; rfl
  have g1 : ((partWs p).map D.str)[1]? = some (.str p.nm) := by rw [w1, eA]; rfl
  exact k_ret (ev_tup (ev_cons (ev_op2 (ev_var rfl) ev_c (o_ixL (atI_int (i := 0) (by decide) g0))) (ev_cons (ev_op2 (ev_var rfl) ev_c (o_ixL (atI_int (i := 1) (by decide) g1))) (ev_cons (ev_var rfl) (ev_cons (ev_var rfl) (ev_cons (ev_var rfl) ev_nil)))))) h
theorem ev_part_told {K : PySem.W.Frag} {tr : AA} {e : De} {m : Mu} {p : PartA} (h : EvA tr e m [.lst ((partWs p).map D.str)]) (ok : PartOk p) (nm : isNm p.nm = true) (n8 : p.nm.length ≤ 8) (wl : ∀ w, w ∈ p.inc → isNm w = true ∧ w.length ≤ 8) : Ev (aCall (sp_part_told K) [] tr) e m (partT p) := ev_call h fun Q X q => ⟨p, rfl, ok, nm, n8, wl, q⟩
/-! lane_of -/
def t_lane_of (K : PySem.W.Frag) : AS :=
    (aSeq (aIfS (aOr (aB (aOp bLt (aCB bLen (aCons (aVar 0) aNil)) (aC (.int 3)))) (aNot (aB (aCall (sp_is_name K) [] (aCons (aOp bIx (aVar 0) (aC (.int 1))) aNil)))))
    (aRet (aC .non))
    aNext)
    (aSeq (aSet 1 (aCall (sp_numbers_of K) [] (aCons (aSl false (aVar 0) (aP (aC (.int 2))) aNoP) aNil)))
    (aSeq (aIfS (aB (aOp bIs (aVar 1) (aC .non)))
    (aRet (aC .non))
    aNext)
    (aRet (aTup (aCons (aOp bIx (aVar 0) (aC (.int 1))) (aCons (aOp bIx (aVar 1) (aC (.int 0))) (aCons (aSl false (aVar 1) (aP (aC (.int 1))) aNoP) aNil))))))))
abbrev N_lane_of : List Str := ["words", "numbers"]
def sp_lane_of (K : PySem.W.Frag) : ASp := fun ds m Q _ => ∃ l : LaneA, ds = [.lst ((laneWs l).map D.str)] ∧ LaneOk l ∧ isNm l.nm = true ∧ l.nm.length ≤ 8 ∧ Q (laneD l) m
theorem len_lane_of {K : PySem.W.Frag} (ds : List D) (m : Mu) (Q : QD) (XX : XA) (h : sp_lane_of K ds m Q XX) : ds.length = 1 := by
  obtain ⟨_, rfl, _⟩ := h; rfl
theorem pure_lane_of {K : PySem.W.Frag} (ds : List D) (m : Mu) (Q : QD) (XX : XA) (h : sp_lane_of K ds m Q XX) : t_lane_of K (endsOf Q XX) (slots N_lane_of ds) m := by
  obtain ⟨l, rfl, ok, nm, n8, h⟩ := h
  have r0 := ok.r0
  have r1 := ok.r1
  have fl := ok.fl
  have hs := sizeLine_eq
  have e1 : (laneWs l).length = 3 + l.first.length := by unfold laneWs; rw [List.length_append, List.length_map]; rfl
  refine k_seq (k_ifF (et_or (b := false) (c := false) ((et_B (ev_op2 (ev_opA (ev_cons (ev_var rfl) ev_nil) o_lenL) ev_c o_lt)).to (by rw [List.length_map, e1]; exact decide_eq_false (by omega))) fun _ => (et_not (et_B (ev_is_nameS (ev_cons (ev_op2 (ev_var rfl) ev_c (o_ixL (d := .str l.nm) (atI_int (by decide) rfl))) ev_nil) (by omega)))).to (by rw [nm]; rfl)) rfl (k_next (k_seq ?_)))
  have ns : ∀ n, n ∈ l.room :: l.first → isVal n = true := fun n hn => by
    rcases List.mem_cons.mp hn with rfl | hn
    · unfold isVal; rw [decide_eq_true (by omega), decide_eq_true (by omega)]; rfl
    · exact ok.fv n hn
  refine k_set (ev_call (d := .lst ((l.room :: l.first).map D.int)) (ev_cons (ev_sl (x := .lst ((laneWs l).map D.str)) (d := .lst (((l.room :: l.first).map fun n => .str (numS n)))) (ev_var rfl) (ev_P ev_c) ev_noP fun Q q => o_slL (h := none) Q (by rw [show (2 : Int) = ((2 : Nat) : Int) from rfl, cutD_from]; unfold laneWs; rw [List.map_append, List.map_map]; exact q)) ev_nil) fun Q X q => ⟨l.room :: l.first, rfl, by rw [List.length_cons, hs]; omega, ns, q⟩) (k_seq (k_ifF (et_B (ev_op2 (ev_var rfl) ev_c o_is)) rfl (k_next ?_)))
  refine k_ret (ev_tup (ev_cons (ev_op2 (ev_var rfl) ev_c (o_ixL (d := .str l.nm) (atI_int (by decide) rfl))) (ev_cons (ev_op2 (ev_var rfl) ev_c (o_ixL (d := .int l.room) (atI_int (by decide) rfl))) (ev_cons (ev_sl (x := .lst ((l.room :: l.first).map D.int)) (d := .lst (l.first.map D.int)) (ev_var rfl) (ev_P ev_c) ev_noP fun Q q => o_slL (h := none) Q (by rw [show (1 : Int) = ((1 : Nat) : Int) from rfl, cutD_from]; exact q)) ev_nil)))) h
theorem ev_lane_of {K : PySem.W.Frag} {tr : AA} {e : De} {m : Mu} {l : LaneA} (h : EvA tr e m [.lst ((laneWs l).map D.str)]) (ok : LaneOk l) (nm : isNm l.nm = true) (n8 : l.nm.length ≤ 8) : Ev (aCall (sp_lane_of K) [] tr) e m (laneD l) := ev_call h fun Q X q => ⟨l, rfl, ok, nm, n8, q⟩
/-! words_of -/
def t_words_of : AS :=
    (aRet (aBM "str" (bSplit false) (aVar 0) (aCons (aC (.str " ")) aNil)))
abbrev N_words_of : List Str := ["row"]
def sp_words_of : ASp := fun ds m Q _ => ∃ x : Str, ds = [.str x] ∧ x.length + 2 ≤ sizeLine ∧ Q (.lst ((Txt.split x " ").map D.str)) m
theorem len_words_of (ds : List D) (m : Mu) (Q : QD) (XX : XA) (h : sp_words_of ds m Q XX) : ds.length = 1 := by
  obtain ⟨c, rfl, _⟩ := h; rfl
theorem pure_words_of (ds : List D) (m : Mu) (Q : QD) (XX : XA) (h : sp_words_of ds m Q XX) : t_words_of (endsOf Q XX) (slots N_words_of ds) m := by
  obtain ⟨x, rfl, hl, h⟩ := h
  exact k_ret (ev_opM (ev_var rfl) (ev_cons ev_c ev_nil) (o_split (by decide +kernel) hl) td_str) h
/-! read_net -/
def t_read_net (K : PySem.W.Frag) : AS :=
    (aSeq (aSet 1 (aLst true aNil))
    (aSeq (aSet 2 (aLst true aNil))
    (aSeq (aFor (aiEnum (aCons (aBM "str" (bSplit false) (aVar 0) (aCons (aC (.str "\n")) aNil)) aNil)) (agTup 2 (agCons (agName 3) (agCons (agName 4) agNil)))
    (aSeq (aSet 5 (aCall sp_words_of [] (aCons (aVar 4) aNil)))
    (aSeq (aIfS (aAnd (aB (aOp bEq (aOp bIx (aVar 5) (aC (.int 0))) (aC (.str "lane")))) (aB (aOp bEq (aVar 2) (aLst false aNil))))
    (aSeq (aSet 6 (aCall (sp_lane_of K) [] (aCons (aVar 5) aNil)))
    (aDrop (aBM "list" bAppend (aVar 1) (aCons (aVar 6) aNil))))
    (aIfS (aB (aOp bEq (aOp bIx (aVar 5) (aC (.int 0))) (aC (.str "lane"))))
    (aSet 6 (aC .non))
    (aSeq (aSet 6 (aCall (sp_part_told K) [] (aCons (aVar 5) aNil)))
    (aDrop (aBM "list" bAppend (aVar 2) (aCons (aVar 6) aNil))))))
    (aIfS (aB (aOp bIs (aVar 6) (aC .non)))
    aStop
    aNext))))
    (aRet (aFzN (aMake (He.ga K "Net") (sp_Net___init__ K) [] (aCons (aVar 1) (aCons (aVar 2) aNil))))))))
abbrev N_read_net : List Str := ["text", "lanes", "parts", "line", "row", "words", "found"]
theorem isNm_no {w : Str} {c : Nat} (h : isNm w = true) (hc : (isAz c || isFig c) = false) : c ∉ w.cps.toList := fun z => by rw [isNm_bad z hc] at h; cases h
theorem numS_no {n : Int} {c : Nat} (h : 0 ≤ n) (hc : c < 48) : c ∉ (numS n).cps.toList := fun z => by have := numS_fig h z; omega
theorem sign_no : ∀ c, c ∈ [10, 32] → (isAz c || isFig c) = false ∧ c < 48 ∧ c ∉ ("lane" : Str).cps.toList ∧ c ∉ (":" : Str).cps.toList ∧ c ∉ (">" : Str).cps.toList := by decide +kernel
theorem laneWs_no {l : LaneA} (ok : LaneOk l) (nm : isNm l.nm = true) {c : Nat} (hc : c ∈ [10, 32]) : ∀ w, w ∈ laneWs l → c ∉ w.cps.toList := fun w hw => by
  obtain ⟨s1, s2, s3, _⟩ := sign_no c hc
  have r0 := ok.r0
  unfold laneWs at hw
  rcases List.mem_append.mp hw with h | h
  · rcases List.mem_cons.mp h with rfl | h
    · exact s3
    · rcases List.mem_cons.mp h with rfl | h
      · exact isNm_no nm s1
      · rw [List.mem_singleton.mp h]
        exact numS_no (by omega) s2
  · obtain ⟨v, hv, rfl⟩ := List.mem_map.mp h
    exact numS_no (val_b (ok.fv v hv)).1 s2
theorem partWs_no {p : PartA} (ok : PartOk p) (nm : isNm p.nm = true) (wl : ∀ w, w ∈ p.inc → isNm w = true) {c : Nat} (hc : c ∈ [10, 32]) : ∀ w, w ∈ partWs p → c ∉ w.cps.toList := fun w hw => by
  obtain ⟨s1, s2, s3, s4, s5⟩ := sign_no c hc
  unfold partWs at hw
  simp only [List.mem_append, List.mem_cons, List.mem_map, List.not_mem_nil, or_false] at hw
  rcases hw with (((((rfl | rfl) | ⟨v, hv, rfl⟩) | rfl) | hi) | rfl) | ho
  · exact isNm_no (kt_nm p.k ok.k).1 s1
  · exact isNm_no nm s1
  · exact numS_no (val_b (ok.vn v hv)).1 s2
  · exact s4
  · exact isNm_no (wl w (List.mem_append_left _ hi)) s1
  · exact s5
  · exact isNm_no (wl w (List.mem_append_right _ ho)) s1
theorem join_no {sep : Str} {ws : List Str} {c : Nat} (h : ∀ w, w ∈ ws → c ∉ w.cps.toList) (hs : c ∉ sep.cps.toList) : c ∉ (Txt.join sep ws).cps.toList := fun z => by
  rw [TL.join_eq] at z
  rcases (PyProof.Rows.mem_join sep c ws).mp z with ⟨t, ht, hc⟩ | ⟨_, hc⟩
  · exact h t ht hc
  · exact hs hc
theorem lane_back {l : LaneA} (ok : LaneOk l) (nm : isNm l.nm = true) : Txt.split (Txt.join " " (laneWs l)) " " = laneWs l := split_sp (by unfold laneWs; simp) (laneWs_no ok nm (by decide))
theorem part_back {p : PartA} (ok : PartOk p) (nm : isNm p.nm = true) (wl : ∀ w, w ∈ p.inc → isNm w = true) : Txt.split (Txt.join " " (partWs p)) " " = partWs p := split_sp (by unfold partWs; simp) (partWs_no ok nm wl (by decide))
theorem rows_back {ls : List LaneA} {ps : List PartA} (ok : NetOk ls ps) : Txt.split (netTx ls ps) "\n" = netRows ls ps := by
  have l1 := ok.l1
  refine split_nl (fun z => ?_) fun w hw => ?_
  · have := congrArg List.length z
    unfold netRows at this
    rw [List.length_append, List.length_map, List.length_map, List.length_nil] at this
    omega
  · have sp : (10 : Nat) ∉ (" " : Str).cps.toList := by decide +kernel
    rcases List.mem_append.mp hw with h | h
    · obtain ⟨l, hl, rfl⟩ := List.mem_map.mp h
      exact join_no (laneWs_no (ok.lok l hl) (ok.li l hl).1 (by decide)) sp
    · obtain ⟨p, hp, rfl⟩ := List.mem_map.mp h
      exact join_no (partWs_no (ok.pok p hp) (ok.pl p hp).1 (fun w hw => (part_inc ok hp hw).1) (by decide)) sp
def sp_read_net (K : PySem.W.Frag) : ASp := fun ds m Q _ => KN K ∧ ∃ (ls : List LaneA) (ps : List PartA), ds = [.str (netTx ls ps)] ∧ NetOk ls ps ∧ ∀ m', (∀ a x, m a = some x → m' a = some x) → Q (netD K ls ps) m'
theorem len_read_net {K : PySem.W.Frag} (ds : List D) (m : Mu) (Q : QD) (XX : XA) (h : sp_read_net K ds m Q XX) : ds.length = 1 := by
  obtain ⟨_, _, _, rfl, _⟩ := h; rfl
theorem vw_c {m : Mu} {c : Addr} {xs : List D} (h : m c = some (.lst xs)) : vw m (.cell c) = .lst xs := by
  show (match oL (m c) with | some xs => D.lst xs | none => .cell c) = _
  rw [h]; rfl
theorem lst_nil_dok : DOk (.lst []) := ⟨1, by decide, .lst fun x hx => nomatch hx⟩
theorem pure_read_net {K : PySem.W.Frag} (ds : List D) (m : Mu) (Q : QD) (XX : XA) (h : sp_read_net K ds m Q XX) : t_read_net K (endsOf Q XX) (slots N_read_net ds) m := by
  obtain ⟨kn, ls, ps, rfl, ok, h⟩ := h
  have l2 := ok.l2
  have p2 := ok.p2
  have hs := sizeLine_eq
  have tl := netTx_len ok
  refine k_seq (k_setN ev_nil fun p1 hp1 => k_seq (k_setN ev_nil fun p2 hp2 => k_seq ?_))
  have n12 : p1 ≠ p2 := fun z => by rw [← z, mset_same] at hp2; cases hp2
  have hp2' : m p2 = none := by rw [mset_ne n12.symm] at hp2; exact hp2
  have lr : (netRows ls ps).length = ls.length + ps.length := by unfold netRows; rw [List.length_append, List.length_map, List.length_map]
  have es : Ev (aBM "str" (bSplit false) (aVar 0) (aCons (aC (.str "\n")) aNil)) [some (.str (netTx ls ps)), some (.cell p1), some (.cell p2), none, none, none, none] (mset (mset m p1 (.lst [])) p2 (.lst [])) (.lst ((netRows ls ps).map D.str)) :=
    (ev_opM (ev_var rfl) (ev_cons ev_c ev_nil) (o_split (by decide +kernel) (by rw [hs]; omega)) td_str).to (by rw [rows_back ok])
  refine k_for (ei_enum (ev_cons es ev_nil) rfl) (fun i e' m' => ∃ v3 v4 v5 v6, e' = [some (.str (netTx ls ps)), some (.cell p1), some (.cell p2), v3, v4, v5, v6] ∧ m' = mset (mset m p1 (.lst ((ls.take i).map laneD))) p2 (.lst ((ps.take (i - ls.length)).map partT))) ⟨_, _, _, _, rfl, by simp⟩ (fun _ _ _ _ => rfl) ?_ ?_
  · rintro i d e' m' hd ⟨v3, v4, v5, v6, rfl, rfl⟩
    have hi := (List.getElem?_eq_some_iff.mp hd).1
    rw [nums_len, List.length_map, lr] at hi
    have hrow : ∀ r, (netRows ls ps)[i]? = some r → d = .tup [.int ((0 + i : Nat) : Int), .str r] := fun r hr => by
      have := nums_get ((netRows ls ps).map D.str) 0 i (.str r) (by rw [List.getElem?_map, hr]; rfl)
      rw [hd] at this; cases this; rfl
    have h1 : mset (mset m p1 (.lst ((ls.take i).map laneD))) p2 (.lst ((ps.take (i - ls.length)).map partT)) p1 = some (.lst ((ls.take i).map laneD)) := by rw [mset_ne n12]; exact mset_same
    by_cases hl : i < ls.length
    · have el : ls[i]? = some ls[i] := List.getElem?_eq_getElem hl
      have hm := List.getElem_mem hl
      generalize ls[i] = l at el hm
      have okl := ok.lok l hm
      have nml := ok.li l hm
      rw [hrow (Txt.join " " (laneWs l)) (by unfold netRows; rw [List.getElem?_append_left (by rw [List.length_map]; exact hl), List.getElem?_map, el]; rfl)]
      have ll : (Txt.join " " (laneWs l)).length ≤ 2300 := row_len ok _ (List.mem_append_left _ (List.mem_map.mpr ⟨l, hm, rfl⟩))
      have z0 : i - ls.length = 0 := by omega
      rw [z0, List.take_zero] at h1 ⊢
      refine bnd_tup (bnds_cons bnd_name (bnds_cons bnd_name bnds_nil)) rfl _ _ _ (k_seq (k_set (d := .lst ((laneWs l).map D.str)) (ev_call (ev_cons (ev_var rfl) ev_nil) fun Q X q => ⟨_, rfl, by rw [hs]; omega, by rw [lane_back okl nml.1]; exact q⟩) (k_seq ?_)))
      refine k_ifT (b := true) (et_and (b := true) (c := true) ((et_B (ev_op2 (ev_op2 (ev_var rfl) ev_c (o_ixL (d := .str "lane") (atI_int (by decide) rfl))) ev_c o_eqS)).to (by decide +kernel)) fun _ => (et_B (ev_op2 (ev_var rfl) (ev_lst ev_nil) (o_eqD (by show DOk (vw _ (.cell p2)); rw [vw_c mset_same]; exact lst_nil_dok) lst_nil_dok))).to ?_) rfl (k_seq (k_set (ev_lane_of (ev_cons (ev_var rfl) ev_nil) okl nml.1 nml.2.1) ?_))
      · rw [vw_c mset_same]; exact eqD_refl lst_nil_dok
      refine k_append (ev_var rfl) (ev_cons (ev_var rfl) ev_nil) h1 (by rw [List.length_map, List.length_take, hs]; omega) ?_
      refine k_ifF (et_B (ev_op2 (ev_var rfl) ev_c o_is)) rfl (k_next ⟨_, _, _, _, rfl, ?_⟩)
      rw [show i + 1 - ls.length = 0 by omega, List.take_zero, mset_comm n12, mset_mset, mset_comm n12.symm, List.take_succ, el, List.map_append]; rfl
    · have hp : i - ls.length < ps.length := by omega
      have el : ps[i - ls.length]? = some ps[i - ls.length] := List.getElem?_eq_getElem hp
      have hm := List.getElem_mem hp
      generalize ps[i - ls.length] = p at el hm
      have okp := ok.pok p hm
      have nmp := ok.pl p hm
      have wl : ∀ w, w ∈ p.inc → isNm w = true ∧ w.length ≤ 8 := fun w hw => ⟨(part_inc ok hm hw).1, (part_inc ok hm hw).2.1⟩
      rw [hrow (Txt.join " " (partWs p)) (by unfold netRows; rw [List.getElem?_append_right (by rw [List.length_map]; omega), List.length_map, List.getElem?_map, el]; rfl)]
      have ll : (Txt.join " " (partWs p)).length ≤ 2300 := row_len ok _ (List.mem_append_right _ (List.mem_map.mpr ⟨p, hm, rfl⟩))
      have g0 : ((partWs p).map D.str)[0]? = some (.str (kt p.k).kind) := rfl
      have kl : ∀ {e : De} {m : Mu}, e[5]? = some (some (.lst ((partWs p).map D.str))) → EvT (aB (aOp bEq (aOp bIx (aVar 5) (aC (.int 0))) (aC (.str "lane")))) e m false := fun h5 => (et_B (ev_op2 (ev_op2 (ev_var h5) ev_c (o_ixL (atI_int (i := 0) (by decide) g0))) ev_c o_eqS)).to (decide_eq_false (kt_nm p.k okp.k).2)
      refine bnd_tup (bnds_cons bnd_name (bnds_cons bnd_name bnds_nil)) rfl _ _ _ (k_seq (k_set (d := .lst ((partWs p).map D.str)) (ev_call (ev_cons (ev_var rfl) ev_nil) fun Q X q => ⟨_, rfl, by rw [hs]; omega, by rw [part_back okp nmp.1 fun w hw => (wl w hw).1]; exact q⟩) (k_seq ?_)))
      refine k_ifF (b := false) (et_and (b := false) (c := false) (kl rfl) fun z => by cases z) rfl (k_ifF (kl rfl) rfl (k_seq (k_set (ev_part_told (ev_cons (ev_var rfl) ev_nil) okp nmp.1 nmp.2.1 wl) ?_)))
      refine k_append (ev_var rfl) (ev_cons (ev_var rfl) ev_nil) mset_same (by rw [List.length_map, List.length_take, hs]; omega) ?_
      refine k_ifF (et_B (ev_op2 (ev_var rfl) ev_c o_is)) rfl (k_next ⟨_, _, _, _, rfl, ?_⟩)
      rw [mset_mset, show i + 1 - ls.length = (i - ls.length) + 1 by omega, List.take_of_length_le (show ls.length ≤ i by omega), List.take_of_length_le (show ls.length ≤ i + 1 by omega), List.take_succ, el, List.map_append]; rfl
  · rintro e' m' ⟨v3, v4, v5, v6, rfl, rfl⟩
    rw [nums_len, List.length_map, lr, List.take_of_length_le (by omega), List.take_of_length_le (by omega)]
    have h1 : mset (mset m p1 (.lst (ls.map laneD))) p2 (.lst (ps.map partT)) p1 = some (.lst (ls.map laneD)) := by rw [mset_ne n12]; exact mset_same
    exact k_retX (x_net kn (ev_cons (ev_var rfl) (ev_cons (ev_var rfl) ev_nil)) (by show oL _ = _; rw [h1]; rfl) (by show oL _ = _; rw [mset_same]; rfl) (rows_map (f := laneD) (fun l => ⟨_, rfl, rfl⟩) _) (rows_map (f := partT) (fun l => ⟨_, _, _, rfl, rfl, rfl, rfl⟩) _) ok (h _ fun a x hx => by
      rw [mset_ne (fun z => by rw [z, hp2'] at hx; cases hx), mset_ne (fun z => by rw [z, hp1] at hx; cases hx)]; exact hx))
theorem x_read_net {K : PySem.W.Frag} {tr : AA} {e : De} {m : Mu} {ls : List LaneA} {ps : List PartA} {Q : QD} {X : XA} (kn : KN K) (h : EvA tr e m [.str (netTx ls ps)]) (ok : NetOk ls ps) (k : ∀ m', (∀ a x, m a = some x → m' a = some x) → Q (netD K ls ps) m') : aCall (sp_read_net K) [] tr e m Q X := x_call h ⟨kn, ls, ps, rfl, ok, k⟩
/-! _law_rows -/
def t__law_rows : AS :=
    (aSeq (aSet 2 (aLst true aNil))
    (aSeq (aFor (aiSeq (aVar 0)) (agTup 3 (agCons (agName 3) (agCons (agName 4) (agCons (agName 5) agNil))))
    (aDrop (aBM "list" bAppend (aVar 2) (aCons (aBM "str" bJoin (aC (.str " ")) (aCons (aOp (bAdd false) (aLst false (aCons (aC (.str "lane")) (aCons (aVar 3) (aCons (aCB bStr (aCons (aVar 4) aNil)) aNil)))) (aLc false (aiSeq (aVar 5)) (agName 11) aYes (aCB bStr (aCons (aVar 11) aNil)) [11])) aNil)) aNil))))
    (aSeq (aFor (aiSeq (aVar 1)) (agTup 5 (agCons (agName 6) (agCons (agName 3) (agCons (agName 7) (agCons (agName 8) (agCons (agName 9) agNil))))))
    (aSeq (aSet 10 (aOp (bAdd false) (aOp (bAdd false) (aOp (bAdd false) (aOp (bAdd false) (aOp (bAdd false) (aLst false (aCons (aVar 6) (aCons (aVar 3) aNil))) (aLc false (aiSeq (aVar 7)) (agName 12) aYes (aCB bStr (aCons (aVar 12) aNil)) [12])) (aLst false (aCons (aC (.str ":")) aNil))) (aCB (bList false) (aCons (aVar 8) aNil))) (aLst false (aCons (aC (.str ">")) aNil))) (aCB (bList false) (aCons (aVar 9) aNil))))
    (aDrop (aBM "list" bAppend (aVar 2) (aCons (aBM "str" bJoin (aC (.str " ")) (aCons (aVar 10) aNil)) aNil)))))
    (aRet (aFz (aVar 2))))))
abbrev N__law_rows : List Str := ["_law_lanes", "_law_parts", "_law_rows_here", "_law_name", "_law_room", "_law_first", "_law_kind", "_law_numbers", "_law_ins", "_law_outs", "_law_words", "_law_value_here", "_law_number"]
def sp__law_rows : ASp := fun ds m Q _ => ∃ (ls : List LaneA) (ps : List PartA), ds = [.lst (ls.map laneD), .lst (ps.map partT)] ∧ NetOk ls ps ∧ Q (.lst ((netRows ls ps).map D.str)) m
theorem len__law_rows (ds : List D) (m : Mu) (Q : QD) (XX : XA) (h : sp__law_rows ds m Q XX) : ds.length = 2 := by
  obtain ⟨_, _, rfl, _⟩ := h; rfl
theorem pure__law_rows (ds : List D) (m : Mu) (Q : QD) (XX : XA) (h : sp__law_rows ds m Q XX) : t__law_rows (endsOf Q XX) (slots N__law_rows ds) m := by
  obtain ⟨ls, ps, rfl, ok, h⟩ := h
  have l2 := ok.l2
  have p2 := ok.p2
  have hs := sizeLine_eq
  refine k_seq (k_setN ev_nil fun c hc => k_seq ?_)
  refine k_for (ei_seq (xs := ls.map laneD) (ev_var rfl) rfl) (fun i e' m' => ∃ v3 v4 v5, e' = [some (.lst (ls.map laneD)), some (.lst (ps.map partT)), some (.cell c), v3, v4, v5, none, none, none, none, none, none, none] ∧ m' = mset m c (.lst ((ls.take i).map fun l => .str (Txt.join " " (laneWs l))))) ⟨_, _, _, rfl, rfl⟩ (fun _ _ _ _ => rfl) ?_ ?_
  · rintro i d e' m' hd ⟨v3, v4, v5, rfl, rfl⟩
    rw [List.getElem?_map] at hd
    cases el : ls[i]? with
    | none => rw [el] at hd; cases hd
    | some l =>
      rw [el] at hd
      cases hd
      have hm := List.mem_of_getElem? el
      have okl := ok.lok l hm
      have n8 := (ok.li l hm).2.1
      have r0 := okl.r0
      have r1 := okl.r1
      have fl := okl.fl
      refine bnd_tup (bnds_cons bnd_name (bnds_cons bnd_name (bnds_cons bnd_name bnds_nil))) rfl _ _ _ ?_
      refine k_append (d := .str (Txt.join " " (laneWs l))) (ev_var rfl) (ev_cons (ev_opM ev_c (ev_cons (ev_op2 (x := .lst [.str "lane", .str l.nm, .str (numS l.room)]) (y := .lst (l.first.map fun v => .str (numS v)))
        (ev_lst (ev_cons ev_c (ev_cons (ev_var rfl) (ev_cons (ev_opA (ev_cons (ev_var rfl) ev_nil) (o_strI (i := l.room) (log_b (by omega) (by omega)))) ev_nil))))
        ((ev_lcG l.first D.int (fun _ => true) (fun v => .str (numS v)) (ei_seq (xs := l.first.map D.int) (ev_var rfl) rfl) rfl (by rw [hs]; omega) fun v hv => ⟨_, bnd_name, fun _ _ q => q, fun _ => ev_opA (ev_cons (ev_var rfl) ev_nil) (o_strI (i := v) (by have := val_b (okl.fv v hv); exact log_b (by omega) (by omega)))⟩).to (by rw [List.filter_eq_self.mpr (fun _ _ => rfl)]))
        (o_addLL (by rw [List.length_map, hs]; show 3 + _ ≤ _; omega))) ev_nil) (o_join (ys := laneWs l) (by unfold laneWs; rw [List.map_append, List.map_map]; rfl) (laneWs_le okl n8)) td_str) ev_nil) mset_same (by rw [List.length_map, List.length_take, hs]; omega) ⟨_, _, _, rfl, ?_⟩
      rw [mset_mset, List.take_succ, el, List.map_append]; rfl
  rintro e' m' ⟨v3, v4, v5, rfl, rfl⟩
  rw [List.length_map, List.take_length]
  refine k_seq (k_for (ei_seq (xs := ps.map partT) (ev_var rfl) rfl) (fun i e' m' => ∃ v3 v6 v7 v8 v9 v10, e' = [some (.lst (ls.map laneD)), some (.lst (ps.map partT)), some (.cell c), v3, v4, v5, v6, v7, v8, v9, v10, none, none] ∧ m' = mset m c (.lst ((ls.map fun l => .str (Txt.join " " (laneWs l))) ++ (ps.take i).map fun p => .str (Txt.join " " (partWs p))))) ⟨_, _, _, _, _, _, rfl, by rw [List.take_zero, List.map_nil, List.append_nil]⟩ (fun _ _ _ _ => rfl) ?_ ?_)
  · rintro i d e' m' hd ⟨v3, v6, v7, v8, v9, v10, rfl, rfl⟩
    rw [List.getElem?_map] at hd
    cases el : ps[i]? with
    | none => rw [el] at hd; cases hd
    | some p =>
      rw [el] at hd
      cases hd
      have hm := List.mem_of_getElem? el
      have okp := ok.pok p hm
      have n8 := (ok.pl p hm).2.1
      have wl : ∀ w, w ∈ p.inc → w.length ≤ 8 := fun w hw => (part_inc ok hm hw).2.1
      have ks := kt_sm p.k okp.k
      have e1 := okp.ln
      have e2 := okp.li
      have e3 := okp.lo
      refine bnd_tup (bnds_cons bnd_name (bnds_cons bnd_name (bnds_cons bnd_name (bnds_cons bnd_name (bnds_cons bnd_name bnds_nil))))) rfl _ _ _ (k_seq ?_)
      refine k_set (d := .lst ((partWs p).map D.str)) ((ev_op2 (ev_op2 (ev_op2 (ev_op2 (ev_op2 (x := .lst [.str (kt p.k).kind, .str p.nm]) (y := .lst (p.nums.map fun v => .str (numS v)))
        (ev_lst (ev_cons (ev_var rfl) (ev_cons (ev_var rfl) ev_nil)))
        ((ev_lcG p.nums D.int (fun _ => true) (fun v => .str (numS v)) (ei_seq (xs := p.nums.map D.int) (ev_var rfl) rfl) rfl (by rw [hs]; omega) fun v hv => ⟨_, bnd_name, fun _ _ q => q, fun _ => ev_opA (ev_cons (ev_var rfl) ev_nil) (o_strI (i := v) (by have := val_b (okp.vn v hv); exact log_b (by omega) (by omega)))⟩).to (by rw [List.filter_eq_self.mpr (fun _ _ => rfl)]))
        (o_addLL ?_)) (ev_lst (ev_cons ev_c ev_nil)) (o_addLL ?_)) (ev_opA (ev_cons (ev_var rfl) ev_nil) (o_listL (xs := p.ins.map D.str))) (o_addLL ?_)) (ev_lst (ev_cons ev_c ev_nil)) (o_addLL ?_)) (ev_opA (ev_cons (ev_var rfl) ev_nil) (o_listL (xs := p.outs.map D.str))) (o_addLL ?_)).to ?_) ?_
      · simp only [List.length_append, List.length_map, List.length_cons, List.length_nil]; omega
      · simp only [List.length_append, List.length_map, List.length_cons, List.length_nil]; omega
      · simp only [List.length_append, List.length_map, List.length_cons, List.length_nil]; omega
      · simp only [List.length_append, List.length_map, List.length_cons, List.length_nil]; omega
      · simp only [List.length_append, List.length_map, List.length_cons, List.length_nil]; omega
      · unfold partWs; simp only [List.map_append, List.map_map, List.map_cons, List.map_nil]; rfl
      refine k_append (d := .str (Txt.join " " (partWs p))) (ev_var rfl) (ev_cons (ev_opM ev_c (ev_cons (ev_var rfl) ev_nil) (o_join (ys := partWs p) rfl (partWs_le okp n8 wl)) td_str) ev_nil) mset_same (by rw [List.length_append, List.length_map, List.length_map, List.length_take, hs]; omega) ⟨_, _, _, _, _, _, rfl, ?_⟩
      rw [mset_mset, List.take_succ, el, List.map_append, List.append_assoc]; rfl
  rintro e' m' ⟨v3, v6, v7, v8, v9, v10, rfl, rfl⟩
  rw [List.length_map, List.take_length]
  refine k_retX (x_fzL (ev_var rfl) mset_same ?_)
  rw [mdel_mset hc]
  have : (netRows ls ps).map D.str = (ls.map fun l => D.str (Txt.join " " (laneWs l))) ++ ps.map fun p => D.str (Txt.join " " (partWs p)) := by unfold netRows; rw [List.map_append, List.map_map, List.map_map]; rfl
  rw [← this]
  exact h
theorem ev__law_rows {tr : AA} {e : De} {m : Mu} {ls : List LaneA} {ps : List PartA} (h : EvA tr e m [.lst (ls.map laneD), .lst (ps.map partT)]) (ok : NetOk ls ps) : Ev (aCall sp__law_rows [] tr) e m (.lst ((netRows ls ps).map D.str)) := ev_call h fun Q X q => ⟨ls, ps, rfl, ok, q⟩
/-! _law_told -/
def t__law_told : AS :=
    (aSeq (aSet 2 (aLc false (aiSeq (aVar 0)) (agTup 3 (agCons (agName 4) (agCons (agName 5) (agCons (agName 6) agNil)))) aYes (aTup (aCons (aVar 4) (aCons (aVar 5) (aCons (aCB bTuple (aCons (aVar 6) aNil)) aNil)))) [4, 5, 6]))
    (aSeq (aSet 3 (aLc false (aiSeq (aVar 1)) (agTup 5 (agCons (agName 7) (agCons (agName 4) (agCons (agName 8) (agCons (agName 9) (agCons (agName 10) agNil)))))) aYes (aTup (aCons (aVar 7) (aCons (aVar 4) (aCons (aCB bTuple (aCons (aVar 8) aNil)) (aCons (aCB bTuple (aCons (aVar 9) aNil)) (aCons (aCB bTuple (aCons (aVar 10) aNil)) aNil)))))) [7, 4, 8, 9, 10]))
    (aRet (aTup (aCons (aVar 2) (aCons (aVar 3) aNil))))))
abbrev N__law_told : List Str := ["_law_lanes", "_law_parts", "_law_first", "_law_second", "_law_name", "_law_room", "_law_values", "_law_kind", "_law_numbers", "_law_ins", "_law_outs"]
def sp__law_told : ASp := fun ds m Q _ => ∃ (ls : List LaneA) (ps : List PartA), ds = [.lst (ls.map laneD), .lst (ps.map partT)] ∧ NetOk ls ps ∧ Q (.tup [.lst (ls.map laneTD), .lst (ps.map partTD)]) m
theorem len__law_told (ds : List D) (m : Mu) (Q : QD) (XX : XA) (h : sp__law_told ds m Q XX) : ds.length = 2 := by
  obtain ⟨_, _, rfl, _⟩ := h; rfl
def toT3 : D → D
  | .tup [a, b, .lst xs] => .tup [a, b, .tup xs]
  | d => d
def toT5 : D → D
  | .tup [a, b, .lst xs, .lst ys, .lst zs] => .tup [a, b, .tup xs, .tup ys, .tup zs]
  | d => d
theorem pure__law_told (ds : List D) (m : Mu) (Q : QD) (XX : XA) (h : sp__law_told ds m Q XX) : t__law_told (endsOf Q XX) (slots N__law_told ds) m := by
  obtain ⟨ls, ps, rfl, ok, h⟩ := h
  have l2 := ok.l2
  have p2 := ok.p2
  have e1 : ls.map laneTD = (ls.map laneD).map toT3 := by rw [List.map_map]; rfl
  have e2 : ps.map partTD = (ps.map partT).map toT5 := by rw [List.map_map]; rfl
  rw [e1, e2] at h
  refine k_seq (k_set (ev_lcM toT3 (ei_seq (xs := ls.map laneD) (ev_var rfl) rfl) rfl (by rw [List.length_map, sizeLine_eq]; omega) fun d hd => ?_) (k_seq (k_set (ev_lcM toT5 (ei_seq (xs := ps.map partT) (ev_var rfl) rfl) rfl (by rw [List.length_map, sizeLine_eq]; omega) fun d hd => ?_) (k_ret (ev_tup (ev_cons (ev_var rfl) (ev_cons (ev_var rfl) ev_nil))) h))))
  · obtain ⟨l, _, rfl⟩ := List.mem_map.mp hd
    exact ⟨_, bnd_tup (bnds_cons bnd_name (bnds_cons bnd_name (bnds_cons bnd_name bnds_nil))), ev_tup (ev_cons (ev_var rfl) (ev_cons (ev_var rfl) (ev_cons (ev_opA (ev_cons (ev_var rfl) ev_nil) (o_tup1 (xs := l.first.map D.int) rfl)) ev_nil)))⟩
  · obtain ⟨p, _, rfl⟩ := List.mem_map.mp hd
    exact ⟨_, bnd_tup (bnds_cons bnd_name (bnds_cons bnd_name (bnds_cons bnd_name (bnds_cons bnd_name (bnds_cons bnd_name bnds_nil))))), ev_tup (ev_cons (ev_var rfl) (ev_cons (ev_var rfl) (ev_cons (ev_opA (ev_cons (ev_var rfl) ev_nil) (o_tup1 (xs := p.nums.map D.int) rfl)) (ev_cons (ev_opA (ev_cons (ev_var rfl) ev_nil) (o_tup1 (xs := p.ins.map D.str) rfl)) (ev_cons (ev_opA (ev_cons (ev_var rfl) ev_nil) (o_tup1 (xs := p.outs.map D.str) rfl)) ev_nil)))))⟩
theorem ev__law_told {tr : AA} {e : De} {m : Mu} {ls : List LaneA} {ps : List PartA} (h : EvA tr e m [.lst (ls.map laneD), .lst (ps.map partT)]) (ok : NetOk ls ps) : Ev (aCall sp__law_told [] tr) e m (.tup [.lst (ls.map laneTD), .lst (ps.map partTD)]) := ev_call h fun Q X q => ⟨ls, ps, rfl, ok, q⟩
/-! _law_mix -/
def t__law_mix : AS :=
    (aSeq (aSet 2 (aOp bMod (aOp (bAdd false) (aOp (bAdd false) (aOp bMul (aOp bMod (aVar 0) (aC (.int 2147483647))) (aC (.int 48271))) (aOp bMul (aC (.int 7919)) (aVar 1))) (aC (.int 11))) (aC (.int 2147483647))))
    (aSeq (aSet 2 (aOp bMod (aOp bMul (aVar 2) (aVar 2)) (aC (.int 2147483629))))
    (aRet (aOp bMod (aOp bMul (aOp (bAdd false) (aVar 2) (aOp bMul (aC (.int 613)) (aVar 1))) (aVar 2)) (aC (.int 2147483587))))))
abbrev N__law_mix : List Str := ["_law_cell_here", "_law_k", "_law_number"]
def mix (c k : Int) : Int :=
  ((((c % 2147483647 * 48271 + 7919 * k + 11) % 2147483647) * ((c % 2147483647 * 48271 + 7919 * k + 11) % 2147483647) % 2147483629) + 613 * k) * (((c % 2147483647 * 48271 + 7919 * k + 11) % 2147483647) * ((c % 2147483647 * 48271 + 7919 * k + 11) % 2147483647) % 2147483629) % 2147483587
theorem mix_b (c k : Int) : 0 ≤ mix c k ∧ mix c k < 2147483587 := ⟨Int.emod_nonneg _ (by decide), Int.emod_lt_of_pos _ (by decide)⟩
def sp__law_mix : ASp := fun ds m Q _ => ∃ c k : Int, ds = [.int c, .int k] ∧ 0 ≤ k ∧ k < 1000000000 ∧ Q (.int (mix c k)) m
theorem len__law_mix (ds : List D) (m : Mu) (Q : QD) (XX : XA) (h : sp__law_mix ds m Q XX) : ds.length = 2 := by
  obtain ⟨c, k, rfl, _⟩ := h; rfl
theorem pure__law_mix (ds : List D) (m : Mu) (Q : QD) (XX : XA) (h : sp__law_mix ds m Q XX) : t__law_mix (endsOf Q XX) (slots N__law_mix ds) m := by
  obtain ⟨c, k, rfl, h0, h1, h⟩ := h
  have a1 := Int.emod_nonneg c (show (2147483647 : Int) ≠ 0 by decide)
  have a2 := Int.emod_lt_of_pos c (show (0 : Int) < 2147483647 by decide)
  refine k_seq (k_set (by walk_at "ev") (k_seq ?_))
  unfold mix at h
  generalize (c % 2147483647 * 48271 + 7919 * k + 11) = x at *
  have b1 := Int.emod_nonneg x (show (2147483647 : Int) ≠ 0 by decide)
  have b2 := Int.emod_lt_of_pos x (show (0 : Int) < 2147483647 by decide)
  generalize x % 2147483647 = y at *
  refine k_set (by walk_at "ev") ?_
  generalize y * y = z at *
  have c1 := Int.emod_nonneg z (show (2147483629 : Int) ≠ 0 by decide)
  have c2 := Int.emod_lt_of_pos z (show (0 : Int) < 2147483629 by decide)
  exact k_ret (by walk_at "ev") h
theorem ev__law_mix {tr : AA} {e : De} {m : Mu} {c k : Int} (h : EvA tr e m [.int c, .int k]) (h0 : 0 ≤ k) (h1 : k < 1000000000) : Ev (aCall sp__law_mix [] tr) e m (.int (mix c k)) := ev_call h fun Q X q => ⟨c, k, rfl, h0, h1, q⟩
local macro_rules | `(tactic| walk_at "ev") => `(tactic| ((with_reducible apply ev__law_mix); (· walk_at "ev"); all_goals walk_at "sd"))
/-! _law_value -/
def t__law_value : AS :=
    (aSeq (aSet 2 (aCall sp__law_mix [] (aCons (aVar 0) (aCons (aVar 1) aNil))))
    (aSeq (aSet 3 (aOp bMod (aOp bDiv (aVar 2) (aC (.int 7))) (aC (.int 3))))
    (aSeq (aIfS (aB (aOp bEq (aVar 3) (aC (.int 0))))
    (aRet (aOp bMod (aVar 2) (aC (.int 5))))
    aNext)
    (aSeq (aIfS (aB (aOp bEq (aVar 3) (aC (.int 1))))
    (aRet (aOp bMod (aVar 2) (aOp bPow (aC (.int 10)) (aC (.int 9)))))
    aNext)
    (aRet (aOp bSub (aOp bSub (aOp bPow (aC (.int 10)) (aC (.int 9))) (aC (.int 1))) (aOp bMod (aVar 2) (aC (.int 3)))))))))
abbrev N__law_value : List Str := ["_law_cell_here", "_law_k", "_law_number", "_law_way"]
def sp__law_value : ASp := fun ds m Q _ => ∃ c k : Int, ds = [.int c, .int k] ∧ 0 ≤ k ∧ k < 1000000 ∧ ∀ i, isVal i = true → Q (.int i) m
theorem len__law_value (ds : List D) (m : Mu) (Q : QD) (XX : XA) (h : sp__law_value ds m Q XX) : ds.length = 2 := by
  obtain ⟨c, k, rfl, _⟩ := h; rfl
theorem pure__law_value (ds : List D) (m : Mu) (Q : QD) (XX : XA) (h : sp__law_value ds m Q XX) : t__law_value (endsOf Q XX) (slots N__law_value ds) m := by
  obtain ⟨c, k, rfl, h0, h1, h⟩ := h
  have v : ∀ i : Int, 0 ≤ i → i < 1000000000 → isVal i = true := fun i a b => by unfold isVal; rw [decide_eq_true a, decide_eq_true b]; rfl
  refine k_seq (k_set (by walk_at "ev") (k_seq (k_set (by walk_at "ev") (k_seq ?_))))
  generalize mix c k = x
  have a0 := Int.emod_nonneg x (show (5 : Int) ≠ 0 by decide)
  have a1 := Int.emod_lt_of_pos x (show (0 : Int) < 5 by decide)
  have b0 := Int.emod_nonneg x (show (10 ^ 9 : Int) ≠ 0 by decide)
  have b1 := Int.emod_lt_of_pos x (show (0 : Int) < 10 ^ 9 by decide)
  have c0 := Int.emod_nonneg x (show (3 : Int) ≠ 0 by decide)
  have c1 := Int.emod_lt_of_pos x (show (0 : Int) < 3 by decide)
  exact k_if (by walk_at "ev") (fun _ => k_ret (by walk_at "ev") (h _ (v _ a0 (by omega)))) fun _ => k_next (k_seq (k_if (by walk_at "ev") (fun _ => k_ret (by walk_at "ev") (h _ (v _ b0 (by omega)))) fun _ => k_next (k_ret (by walk_at "ev") (h _ (v _ (by omega) (by omega))))))
/-! _law_cell -/
def t__law_cell : AS :=
    (aSeq (aIfS (aB (aOp bLt (aVar 1) (aCB bLen (aCons (aVar 0) aNil))))
    (aRet (aOp bIx (aVar 0) (aVar 1)))
    aNext)
    (aRet (aOp (bAdd false) (aOp bMul (aC (.int 41)) (aVar 1)) (aC (.int 3)))))
abbrev N__law_cell : List Str := ["_law_script", "_law_k"]
def cel (ns : List Int) (k : Int) : Int := if k < ns.length then ns.getD k.toNat 0 else 41 * k + 3
def sp__law_cell : ASp := fun ds m Q _ => ∃ (ns : List Int) (k : Int), ds = [.scr ns, .int k] ∧ 0 ≤ k ∧ k < 1000000 ∧ Q (.int (cel ns k)) m
theorem len__law_cell (ds : List D) (m : Mu) (Q : QD) (XX : XA) (h : sp__law_cell ds m Q XX) : ds.length = 2 := by
  obtain ⟨ns, k, rfl, _⟩ := h; rfl
theorem pure__law_cell (ds : List D) (m : Mu) (Q : QD) (XX : XA) (h : sp__law_cell ds m Q XX) : t__law_cell (endsOf Q XX) (slots N__law_cell ds) m := by
  obtain ⟨ns, k, rfl, h0, h1, h⟩ := h
  refine k_seq (k_if (et_B (ev_lt (ev_var rfl) (ev_lenL (xs := ns.map D.int) (ev_cons (ev_var rfl) ev_nil) rfl))) (fun hc => k_ret (ev_ixScr (x := .int (ns.getD k.toNat 0)) (ev_var rfl) (ev_var rfl) (atI_int h0 ?_)) ?_) (fun hc => k_next (k_ret (by walk_at "ev") ?_)))
  · have hc := of_decide_eq_true hc
    rw [List.length_map] at hc
    rw [List.getElem?_map, List.getD_eq_getElem?_getD, List.getElem?_eq_getElem (by omega)]; rfl
  · have hc := of_decide_eq_true hc
    rw [List.length_map] at hc
    unfold cel at h; rw [if_pos hc] at h; exact h
  · have hc := of_decide_eq_false hc
    rw [List.length_map] at hc
    unfold cel at h; rw [if_neg hc] at h; exact h
theorem ev__law_cell {tr : AA} {e : De} {m : Mu} {ns : List Int} {k : Int} (h : EvA tr e m [.scr ns, .int k]) (h0 : 0 ≤ k) (h1 : k < 1000000) : Ev (aCall sp__law_cell [] tr) e m (.int (cel ns k)) := ev_call h fun Q X q => ⟨ns, k, rfl, h0, h1, q⟩
local macro_rules | `(tactic| walk_at "ev") => `(tactic| ((with_reducible apply ev__law_cell); (· walk_at "ev"); all_goals walk_at "sd"))
/-! _law_word -/
def t__law_word : AS :=
    (aSeq (aSet 2 (aC (.str "abcdefghijklmnopqrstuvwxyz")))
    (aSeq (aIfS (aB (aOp bEq (aOp bMod (aCall sp__law_mix [] (aCons (aVar 0) (aCons (aC (.int 52)) aNil))) (aC (.int 3))) (aC (.int 0))))
    (aRet (aOp (bAdd false) (aOp bIx (aVar 2) (aOp bMod (aCall sp__law_mix [] (aCons (aVar 0) (aCons (aC (.int 53)) aNil))) (aC (.int 26)))) (aCB bStr (aCons (aOp (bAdd false) (aOp bMod (aCall sp__law_mix [] (aCons (aVar 0) (aCons (aC (.int 54)) aNil))) (aC (.int 1000))) (aOp bMul (aC (.int 37)) (aVar 1))) aNil))))
    aNext)
    (aSeq (aSet 3 (aOp bMod (aCall sp__law_mix [] (aCons (aVar 0) (aCons (aC (.int 50)) aNil))) (aC (.int 7))))
    (aSeq (aSet 4 (aBM "str" bJoin (aC (.str "")) (aCons (aLc false (aiRng1 (aCons (aVar 3) aNil)) (agName 6) aYes (aOp bIx (aVar 2) (aOp bMod (aCall sp__law_mix [] (aCons (aVar 0) (aCons (aOp (bAdd false) (aC (.int 60)) (aVar 6)) aNil))) (aC (.int 26)))) [6]) aNil)))
    (aSeq (aSet 5 (aOp bMod (aCall sp__law_mix [] (aCons (aVar 0) (aCons (aC (.int 51)) aNil))) (aOp (bAdd false) (aVar 3) (aC (.int 1)))))
    (aRet (aOp (bAdd false) (aOp (bAdd false) (aSl false (aVar 4) aNoP (aP (aVar 5))) (aOp bIx (aVar 2) (aOp bMod (aOp (bAdd false) (aCall sp__law_mix [] (aCons (aVar 0) (aCons (aC (.int 55)) aNil))) (aVar 1)) (aC (.int 26))))) (aSl false (aVar 4) (aP (aVar 5)) aNoP))))))))
abbrev N__law_word : List Str := ["_law_cell_here", "_law_k", "_law_letters", "_law_many", "_law_base", "_law_at", "_law_j"]
theorem str_ext {a b : Str} (h : a.cps.toList = b.cps.toList) : a = b := by
  obtain ⟨⟨a⟩⟩ := a
  obtain ⟨⟨b⟩⟩ := b
  have h : a = b := h
  rw [h]
def azc (i : Int) : Nat := 97 + i.toNat
theorem az_all : ∀ n, n < 26 → azT.cps.toList[n]? = some (97 + n) := by decide +kernel
theorem azc_ix {i : Int} (h0 : 0 ≤ i) (h1 : i < 26) : atI azT.cps.toList i = some (azc i) := atI_int h0 (az_all i.toNat (by omega))
theorem azc_lt {i : Int} (h0 : 0 ≤ i) (h1 : i < 26) : azc i < 0x110000 := by unfold azc; omega
theorem azc_az {i : Int} (h0 : 0 ≤ i) (h1 : i < 26) : isAz (azc i) = true := by
  unfold isAz azc
  rw [decide_eq_true (show 97 ≤ 97 + i.toNat by omega), decide_eq_true (show 97 + i.toNat ≤ 122 by omega)]; rfl
theorem tx_num {n : Nat} (h : n < 10 ^ 4) : TxOk 4 (Str.ofString (toString (n : Int))) := by
  have tl1 : (Str.ofString (toString (n : Int))).cps.toList = TL.numL n := TL.tl_num n
  refine ⟨by rw [len_tl, tl1]; exact TL.numL_len (by decide) h, fun c hc => ?_⟩
  rw [tl1] at hc
  have := TL.numL_digits n c hc
  omega
def wdL (c : Int) : List Nat := (List.range (mix c 50 % 7).toNat).map fun (k : Nat) => azc (mix c (60 + k) % 26)
theorem wdL_len (c : Int) : (wdL c).length = (mix c 50 % 7).toNat := by unfold wdL; rw [List.length_map, List.length_range]
theorem wdL_az {c : Int} {x : Nat} (h : x ∈ wdL c) : isAz x = true ∧ x < 0x110000 := by
  unfold wdL at h
  obtain ⟨k, _, rfl⟩ := List.mem_map.mp h
  have h0 := Int.emod_nonneg (mix c (60 + k)) (show (26 : Int) ≠ 0 by decide)
  have h1 := Int.emod_lt_of_pos (mix c (60 + k)) (show (0 : Int) < 26 by decide)
  exact ⟨azc_az h0 h1, azc_lt h0 h1⟩
theorem wdL_tx (c : Int) : TxOk 6 ⟨(wdL c).toArray⟩ := by
  have a1 := Int.emod_lt_of_pos (mix c 50) (show (0 : Int) < 7 by decide)
  exact TxOk.list (by rw [wdL_len]; omega) fun x hx => (wdL_az hx).2
def wAt (c : Int) : Nat := (mix c 51 % (mix c 50 % 7 + 1)).toNat
def wnL (c : Int) (k : Nat) : List Nat := if mix c 52 % 3 = 0 then azc (mix c 53 % 26) :: TL.numL ((mix c 54 % 1000).toNat + 37 * k) else (wdL c).take (wAt c) ++ azc ((mix c 55 + k) % 26) :: (wdL c).drop (wAt c)
def wn (c : Int) (k : Nat) : Str := ⟨(wnL c k).toArray⟩
theorem wn_inj {c : Int} {k j : Nat} (hk : k < 26) (hj : j < 26) (h : wn c k = wn c j) : k = j := by
  have h : wnL c k = wnL c j := by
    have : (wn c k).cps.toList = (wn c j).cps.toList := by rw [h]
    exact this
  unfold wnL at h
  by_cases q : mix c 52 % 3 = 0
  · rw [if_pos q, if_pos q] at h
    have := TL.numL_inj (List.cons.inj h).2
    omega
  · rw [if_neg q, if_neg q] at h
    have := (List.cons.inj (List.append_cancel_left h)).1
    unfold azc at this
    have a0 := Int.emod_nonneg (mix c 55 + k) (show (26 : Int) ≠ 0 by decide)
    have b0 := Int.emod_nonneg (mix c 55 + j) (show (26 : Int) ≠ 0 by decide)
    omega
theorem wn_ok (c : Int) {k : Nat} (hk : k ≤ 100) : isNm (wn c k) = true ∧ (wn c k).length ≤ 8 ∧ PyData.strOk (wn c k) = true := by
  have key : 1 ≤ (wnL c k).length ∧ (wnL c k).length ≤ 8 ∧ (∀ x, x ∈ wnL c k → (isAz x || isFig x) = true) ∧ ∃ x r, wnL c k = x :: r ∧ isAz x = true := by
    unfold wnL
    by_cases q : mix c 52 % 3 = 0
    · rw [if_pos q]
      have h0 := Int.emod_nonneg (mix c 53) (show (26 : Int) ≠ 0 by decide)
      have h1 := Int.emod_lt_of_pos (mix c 53) (show (0 : Int) < 26 by decide)
      have h2 := Int.emod_lt_of_pos (mix c 54) (show (0 : Int) < 1000 by decide)
      have ln := TL.numL_len (n := (mix c 54 % 1000).toNat + 37 * k) (k := 4) (by decide) (by omega)
      refine ⟨by rw [List.length_cons]; omega, by rw [List.length_cons]; omega, fun x hx => ?_, _, _, rfl, azc_az h0 h1⟩
      rcases List.mem_cons.mp hx with rfl | hx
      · rw [azc_az h0 h1]; rfl
      · have := TL.numL_digits _ x hx
        have hf : isFig x = true := by
          unfold isFig
          rw [decide_eq_true (show 48 ≤ x by omega), decide_eq_true (show x ≤ 57 by omega)]; rfl
        rw [hf, Bool.or_true]
    · rw [if_neg q]
      have h0 := Int.emod_nonneg (mix c 55 + k) (show (26 : Int) ≠ 0 by decide)
      have h1 := Int.emod_lt_of_pos (mix c 55 + k) (show (0 : Int) < 26 by decide)
      have a0 := Int.emod_nonneg (mix c 50) (show (7 : Int) ≠ 0 by decide)
      have a1 := Int.emod_lt_of_pos (mix c 50) (show (0 : Int) < 7 by decide)
      have lw := wdL_len c
      have all : ∀ x, x ∈ (wdL c).take (wAt c) ++ azc ((mix c 55 + k) % 26) :: (wdL c).drop (wAt c) → isAz x = true := fun x hx => by
        rcases List.mem_append.mp hx with hx | hx
        · exact (wdL_az (List.mem_of_mem_take hx)).1
        · rcases List.mem_cons.mp hx with rfl | hx
          · exact azc_az h0 h1
          · exact (wdL_az (List.mem_of_mem_drop hx)).1
      have len : ((wdL c).take (wAt c) ++ azc ((mix c 55 + k) % 26) :: (wdL c).drop (wAt c)).length = (wdL c).length + 1 := by
        rw [List.length_append, List.length_cons, List.length_take, List.length_drop]; omega
      refine ⟨by rw [len]; omega, by rw [len]; omega, fun x hx => by rw [all x hx]; rfl, ?_⟩
      cases hq : (wdL c).take (wAt c) ++ azc ((mix c 55 + k) % 26) :: (wdL c).drop (wAt c) with
      | nil => rw [hq] at len; cases len
      | cons x r => exact ⟨x, r, rfl, all x (by rw [hq]; exact List.mem_cons_self ..)⟩
  obtain ⟨k1, k2, k3, x, r, k4, k5⟩ := key
  have lt : (wn c k).length = (wnL c k).length := len_tl _
  have tl : (wn c k).cps.toList = wnL c k := rfl
  refine ⟨?_, by rw [lt]; exact k2, ?_⟩
  · have a1 : lenOk (wn c k) = true := by
      unfold lenOk
      rw [lt, decide_eq_true (show (1 : Int) ≤ ((wnL c k).length : Int) by omega), decide_eq_true (show ((wnL c k).length : Int) ≤ 8 by omega)]; rfl
    have a2 : headAz (wn c k) = true := by
      unfold headAz
      rw [tl, k4]; exact k5
    unfold isNm
    rw [a1, a2, tl, List.all_eq_true.mpr k3]; rfl
  · unfold PyData.strOk
    rw [← Array.all_toList, tl]
    refine List.all_eq_true.mpr fun y hy => decide_eq_true ?_
    have := k3 y hy
    unfold isAz isFig at this
    simp only [Bool.or_eq_true, Bool.and_eq_true, decide_eq_true_eq] at this
    show y < 0x110000
    omega
theorem cutS_to {x : Str} {a : Int} (h0 : 0 ≤ a) : (cutS x none (some a)).cps.toList = x.cps.toList.take a.toNat := by
  show (x.cps.toList.drop (HT.sIx x.length 0 none)).take (HT.sIx x.length x.length (some a) - HT.sIx x.length 0 none) = _
  unfold HT.sIx
  simp only [List.drop_zero, Nat.sub_zero]
  rw [if_neg (by omega), List.take_eq_take_iff, len_tl]; omega
theorem cutS_from {x : Str} {a : Int} (h0 : 0 ≤ a) : (cutS x (some a) none).cps.toList = x.cps.toList.drop a.toNat := by
  show (x.cps.toList.drop (HT.sIx x.length 0 (some a))).take (HT.sIx x.length x.length none - HT.sIx x.length 0 (some a)) = _
  unfold HT.sIx
  simp only []
  rw [if_neg (by omega)]
  have hl := len_tl x
  by_cases h : a.toNat ≤ x.length
  · rw [Nat.min_eq_left h, List.take_of_length_le (by rw [List.length_drop]; omega)]
  · rw [Nat.min_eq_right (by omega), List.drop_of_length_le (by omega), List.drop_of_length_le (by omega)]; simp
def sp__law_word : ASp := fun ds m Q _ => ∃ (c : Int) (k : Nat), ds = [.int c, .int k] ∧ k ≤ 100 ∧ Q (.str (wn c k)) m
theorem len__law_word (ds : List D) (m : Mu) (Q : QD) (XX : XA) (h : sp__law_word ds m Q XX) : ds.length = 2 := by
  obtain ⟨c, k, rfl, _⟩ := h; rfl
theorem pure__law_word (ds : List D) (m : Mu) (Q : QD) (XX : XA) (h : sp__law_word ds m Q XX) : t__law_word (endsOf Q XX) (slots N__law_word ds) m := by
  obtain ⟨c, k, rfl, k1, h⟩ := h
  have la : azT.length ≤ sizeLine := by rw [len_tl, az_len, sizeLine_eq]; omega
  refine k_seq (k_set (d := .str azT) ev_c (k_seq (k_if (by walk_at "ev") (fun hb => ?_) fun hb => k_next (k_seq ?_))))
  · have b0 := Int.emod_nonneg (mix c 53) (show (26 : Int) ≠ 0 by decide)
    have b1 := Int.emod_lt_of_pos (mix c 53) (show (0 : Int) < 26 by decide)
    have c0 := Int.emod_nonneg (mix c 54) (show (1000 : Int) ≠ 0 by decide)
    have c1 := Int.emod_lt_of_pos (mix c 54) (show (0 : Int) < 1000 by decide)
    have en : mix c 54 % 1000 + 37 * (k : Int) = (((mix c 54 % 1000).toNat + 37 * k : Nat) : Int) := by omega
    have hn : (mix c 54 % 1000).toNat + 37 * k < 10 ^ 4 := by omega
    have ew : wn c k = (⟨#[azc (mix c 53 % 26)]⟩ : Str) ++ Str.ofString (toString (((mix c 54 % 1000).toNat + 37 * k : Nat) : Int)) := str_ext (by
      rw [tl_app]
      have tl1 : (Str.ofString (toString (((mix c 54 % 1000).toNat + 37 * k : Nat) : Int))).cps.toList = TL.numL ((mix c 54 % 1000).toNat + 37 * k) := TL.tl_num _
      rw [tl1]
      show wnL c k = _
      unfold wnL
      rw [if_pos (of_decide_eq_true hb)]; rfl)
    rw [ew] at h
    generalize (mix c 54 % 1000).toNat + 37 * k = n at *
    have lg : (n : Int).natAbs.log2 < 1920 := by
      show n.log2 < 1920
      by_cases q : n = 0
      · subst q; decide
      · have : n.log2 < 64 := (Nat.log2_lt q).mpr (by omega)
        omega
    have t1 := tx_num hn
    have t0 := TxOk.sign (azc_lt b0 b1)
    refine k_ret (ev_op2 (ev_op2 (ev_var rfl) (by walk_at "ev") (o_ixS la (azc_ix b0 b1))) (ev_opA (ev_cons (d := .int (n : Int)) (Ev.to (ev_op2 (by walk_at "ev") (ev_op2 ev_c (ev_var rfl) (o_mulI ?_)) o_add) (congrArg D.int en)) ev_nil) (o_strI lg)) (o_addS ?_)) h
    · walk_at "sd"
    · have := t0.1; have := t1.1; rw [sizeLine_eq]; omega
  · have a0 := Int.emod_nonneg (mix c 50) (show (7 : Int) ≠ 0 by decide)
    have a1 := Int.emod_lt_of_pos (mix c 50) (show (0 : Int) < 7 by decide)
    have b0 := Int.emod_nonneg (mix c 55 + k) (show (26 : Int) ≠ 0 by decide)
    have b1 := Int.emod_lt_of_pos (mix c 55 + k) (show (0 : Int) < 26 by decide)
    have d0 := Int.emod_nonneg (mix c 51) (show (mix c 50 % 7 + 1 : Int) ≠ 0 by omega)
    have T := wdL_tx c
    have t0 := TxOk.sign (azc_lt b0 b1)
    have e : Txt.join "" ((wdL c).map fun x => (⟨#[x]⟩ : Str)) = ⟨(wdL c).toArray⟩ := join_signs (wdL c)
    have ew : wn c k = (cutS (⟨(wdL c).toArray⟩ : Str) none (some (mix c 51 % (mix c 50 % 7 + 1))) ++ (⟨#[azc ((mix c 55 + k) % 26)]⟩ : Str)) ++ cutS (⟨(wdL c).toArray⟩ : Str) (some (mix c 51 % (mix c 50 % 7 + 1))) none := str_ext (by
      rw [tl_app, tl_app, cutS_to d0, cutS_from d0]
      show wnL c k = _
      unfold wnL wAt
      rw [if_neg (of_decide_eq_false hb), List.append_assoc]; rfl)
    rw [ew] at h
    refine k_set (by walk_at "ev") (k_seq (k_set (d := .str ⟨(wdL c).toArray⟩) ?_ (k_seq (k_set (ev_op2 (by walk_at "ev") (by walk_at "ev") (o_mod (by omega))) ?_))))
    · rw [← e]
      refine ev_opM ev_c (ev_cons (ev_lcM (fun d => match d with | .int k => .str ⟨#[azc (mix c (60 + k) % 26)]⟩ | d => d) (ei_rng1 (n := mix c 50 % 7) (ev_cons (ev_var rfl) ev_nil) (by omega) (by omega)) trivial (by rw [rng_len, sizeLine_eq]; omega) (fun d hd => ?_)) ev_nil) (o_join (ys := (wdL c).map fun x => (⟨#[x]⟩ : Str)) ?_ ?_) td_str
      · obtain ⟨i, hi, rfl⟩ := rng_mem hd
        exact ⟨_, bnd_name, ev_op2 (ev_var rfl) (ev_op2 (ev__law_mix (ev_cons (ev_var rfl) (ev_cons (ev_op2 ev_c (ev_var rfl) o_add) ev_nil)) (by omega) (by omega)) ev_c (o_mod (by decide))) (o_ixS la (azc_ix (Int.emod_nonneg _ (by decide)) (Int.emod_lt_of_pos _ (by decide))))⟩
      · unfold rng wdL
        rw [List.map_map, List.map_map, List.map_map]
        refine List.map_congr_left fun k _ => ?_
        show D.str ⟨#[azc (mix c (60 + (0 + (k : Int))) % 26)]⟩ = _
        rw [Int.zero_add]; rfl
      · have := T.1
        rw [len_tl] at this
        have : (wdL c).length ≤ 6 := this
        rw [signs_sum, List.length_map]
        show _ + _ * 0 ≤ _
        omega
    · have C1 := T.cut none (some (mix c 51 % (mix c 50 % 7 + 1)))
      have C2 := T.cut (some (mix c 51 % (mix c 50 % 7 + 1))) none
      have lt : (⟨(wdL c).toArray⟩ : Str).length ≤ sizeLine := by have := T.1; rw [sizeLine_eq]; omega
      refine k_ret (ev_op2 (ev_op2 (ev_sl (ev_var rfl) ev_noP (ev_P (ev_var rfl)) (o_slS lt)) (ev_op2 (ev_var rfl) (by walk_at "ev") (o_ixS la (azc_ix b0 b1))) (o_addS ?_)) (ev_sl (ev_var rfl) (ev_P (ev_var rfl)) ev_noP (o_slS lt)) (o_addS ?_)) h
      · have := C1.1; have := t0.1; rw [sizeLine_eq]; omega
      · have := (C1.app t0).1; have := C2.1; rw [sizeLine_eq]; omega
theorem ev__law_word {tr : AA} {e : De} {m : Mu} {c : Int} {k : Nat} (h : EvA tr e m [.int c, .int k]) (hk : k ≤ 100) : Ev (aCall sp__law_word [] tr) e m (.str (wn c k)) := ev_call h fun Q X q => ⟨c, k, rfl, hk, q⟩
/-! _law_lane -/
def t__law_lane : AS :=
    (aSeq (aSet 3 (aOp bIx (aLst false (aCons (aC (.int 0)) (aCons (aC (.int 0)) (aCons (aC (.int 0)) (aCons (aC (.int 1)) (aCons (aC (.int 2)) aNil)))))) (aOp bMod (aCall sp__law_mix [] (aCons (aVar 1) (aCons (aC (.int 1)) aNil))) (aC (.int 5)))))
    (aSeq (aIfS (aB (aVar 2))
    (aSet 3 (aOp bMod (aCall sp__law_mix [] (aCons (aVar 1) (aCons (aC (.int 1)) aNil))) (aC (.int 4))))
    aNext)
    (aSeq (aSet 4 (aLc false (aiRng1 (aCons (aVar 3) aNil)) (agName 7) aYes (aCall sp__law_value [] (aCons (aVar 1) (aCons (aOp (bAdd false) (aC (.int 10)) (aVar 7)) aNil))) [7]))
    (aSeq (aSet 5 (aOp (bAdd false) (aCB bMax2 (aCons (aC (.int 1)) (aCons (aVar 3) aNil))) (aOp bIx (aLst false (aCons (aC (.int 0)) (aCons (aC (.int 0)) (aCons (aC (.int 1)) (aCons (aC (.int 1)) (aCons (aC (.int 2)) (aCons (aC (.int 7)) aNil))))))) (aOp bMod (aCall sp__law_mix [] (aCons (aVar 1) (aCons (aC (.int 2)) aNil))) (aC (.int 6))))))
    (aSeq (aSet 6 (aCall sp__law_word [] (aCons (aOp bIx (aVar 0) (aC (.int 3))) (aCons (aCB bLen (aCons (aOp bIx (aVar 0) (aC (.int 0))) aNil)) aNil))))
    (aSeq (aDrop (aBM "list" bAppend (aOp bIx (aVar 0) (aC (.int 0))) (aCons (aTup (aCons (aVar 6) (aCons (aVar 5) (aCons (aVar 4) aNil)))) aNil)))
    (aRet (aVar 6))))))))
abbrev N__law_lane : List Str := ["_law_state", "_law_cell_here", "_law_back", "_law_many", "_law_first", "_law_room", "_law_name", "_law_k"]
def sp__law_lane : ASp := fun ds m Q _ => ∃ (p0 p1 p2 : Addr) (one other c : Int) (b : Bool) (ls : List LaneA) (ps : List PartA) (os : List Str), ds = [stD p0 p1 p2 one other, .int c, .bl b] ∧ SW m p0 p1 p2 ls ps os ∧ ls.length ≤ 100 ∧
  ∀ (m' : Mu) (l : LaneA), l.nm = wn one ls.length → LaneOkS l → SW m' p0 p1 p2 (ls ++ [l]) ps os → Q (.str l.nm) m'
theorem len__law_lane (ds : List D) (m : Mu) (Q : QD) (XX : XA) (h : sp__law_lane ds m Q XX) : ds.length = 3 := by
  obtain ⟨_, _, _, _, _, _, _, _, _, _, rfl, _⟩ := h; rfl
theorem sm5 {i : Int} (h0 : 0 ≤ i) (h1 : i < 5) : ∃ v : Nat, v ≤ 3 ∧ atI [D.int 0, .int 0, .int 0, .int 1, .int 2] i = some (.int (v : Int)) := by
  have : i = 0 ∨ i = 1 ∨ i = 2 ∨ i = 3 ∨ i = 4 := by omega
  rcases this with rfl | rfl | rfl | rfl | rfl
  · exact ⟨0, by decide, rfl⟩
  · exact ⟨0, by decide, rfl⟩
  · exact ⟨0, by decide, rfl⟩
  · exact ⟨1, by decide, rfl⟩
  · exact ⟨2, by decide, rfl⟩
theorem sm6 {i : Int} (h0 : 0 ≤ i) (h1 : i < 6) : ∃ v : Nat, v ≤ 7 ∧ atI [D.int 0, .int 0, .int 1, .int 1, .int 2, .int 7] i = some (.int (v : Int)) := by
  have : i = 0 ∨ i = 1 ∨ i = 2 ∨ i = 3 ∨ i = 4 ∨ i = 5 := by omega
  rcases this with rfl | rfl | rfl | rfl | rfl | rfl
  · exact ⟨0, by decide, rfl⟩
  · exact ⟨0, by decide, rfl⟩
  · exact ⟨1, by decide, rfl⟩
  · exact ⟨1, by decide, rfl⟩
  · exact ⟨2, by decide, rfl⟩
  · exact ⟨7, by decide, rfl⟩
theorem pure__law_lane (ds : List D) (m : Mu) (Q : QD) (XX : XA) (h : sp__law_lane ds m Q XX) : t__law_lane (endsOf Q XX) (slots N__law_lane ds) m := by
  obtain ⟨p0, p1, p2, one, other, c, b, ls, ps, os, rfl, sw, hl, h⟩ := h
  obtain ⟨v1, hv1, e1⟩ := sm5 (Int.emod_nonneg (mix c 1) (show (5 : Int) ≠ 0 by decide)) (Int.emod_lt_of_pos (mix c 1) (show (0 : Int) < 5 by decide))
  obtain ⟨v2, hv2, e2⟩ := sm6 (Int.emod_nonneg (mix c 2) (show (6 : Int) ≠ 0 by decide)) (Int.emod_lt_of_pos (mix c 2) (show (0 : Int) < 6 by decide))
  have mx : ∀ {e : De} {m : Mu} (k : Int), e[1]? = some (some (.int c)) → 0 ≤ k → k < 1000000000 → Ev (aCall sp__law_mix [] (aCons (aVar 1) (aCons (aC (.int k)) aNil))) e m (.int (mix c k)) := fun k he h0 h1 => ev__law_mix (ev_cons (ev_var he) (ev_cons ev_c ev_nil)) h0 h1
  refine k_seq (k_set (ev_op2 (ev_lst (ev_cons ev_c (ev_cons ev_c (ev_cons ev_c (ev_cons ev_c (ev_cons ev_c ev_nil)))))) (ev_op2 (mx 1 rfl (by decide) (by decide)) ev_c (o_mod (by decide))) (o_ixL e1)) (k_seq ?_))
  have n4a := Int.emod_nonneg (mix c 1) (show (4 : Int) ≠ 0 by decide)
  have n4b := Int.emod_lt_of_pos (mix c 1) (show (0 : Int) < 4 by decide)
  refine k_ifG (fun e' => ∃ n : Nat, n ≤ 3 ∧ e' = [some (stD p0 p1 p2 one other), some (.int c), some (.bl b), some (.int (n : Int)), none, none, none, none]) (et_B (ev_var rfl)) ?_ (fun _ k => ?_) fun _ k => k_next (k _ ⟨v1, hv1, rfl⟩)
  rotate_left
  · refine k_set (ev_op2 (mx 1 rfl (by decide) (by decide)) ev_c (o_mod (by decide))) (k _ ⟨(mix c 1 % 4).toNat, by omega, ?_⟩)
    rw [Int.toNat_of_nonneg n4a]; rfl
  rintro e' ⟨n, hn, rfl⟩
  refine k_seq (k_setX (x_lcP IsV (ei_rng1 (n := (n : Int)) (ev_cons (ev_var rfl) ev_nil) (by omega) (by omega)) trivial (by rw [rng_len, sizeLine_eq]; omega) (fun d hd => ?_) fun xs lx hx => k_seq ?_))
  · obtain ⟨j, hj, rfl⟩ := rng_mem hd
    exact ⟨_, bnd_name, fun Q X q => x_call (ev_cons (ev_var rfl) (ev_cons (ev_op2 ev_c (ev_var rfl) o_add) ev_nil)) ⟨c, _, rfl, by omega, by omega, fun v hv => q _ ⟨v, rfl, hv⟩⟩⟩
  obtain ⟨ns, rfl, ln, hv⟩ := ints_of xs hx
  rw [lx, rng_len] at ln
  refine k_set (ev_op2 (ev_opA (ev_cons ev_c (ev_cons (ev_var rfl) ev_nil)) o_max2) (ev_op2 (ev_lst (ev_cons ev_c (ev_cons ev_c (ev_cons ev_c (ev_cons ev_c (ev_cons ev_c (ev_cons ev_c ev_nil))))))) (ev_op2 (mx 2 rfl (by decide) (by decide)) ev_c (o_mod (by decide))) (o_ixL e2)) o_add) (k_seq ?_)
  have hlen : (ls.map laneD).length = ls.length := List.length_map ..
  refine k_set (ev__law_word (k := (ls.map laneD).length) (ev_cons (st_3 rfl) (ev_cons (ev_opA (ev_cons (st_0 rfl) ev_nil) (o_lenC sw.h0)) ev_nil)) (by omega)) (k_seq ?_)
  refine k_append (st_0 rfl) (ev_cons (ev_tup (ev_cons (ev_var rfl) (ev_cons (ev_var rfl) (ev_cons (ev_var rfl) ev_nil)))) ev_nil) sw.h0 (by rw [hlen, sizeLine_eq]; omega) ?_
  refine k_ret (ev_var rfl) (h _ ⟨wn one (ls.map laneD).length, max 1 (n : Int) + (v2 : Int), ns⟩ (by rw [hlen]) ⟨?_, ?_, ?_, hv, ?_⟩ (sw.s0 (ls' := ls ++ [_]) ?_))
  · show 1 ≤ max 1 (n : Int) + (v2 : Int); omega
  · show max 1 (n : Int) + (v2 : Int) ≤ 199; omega
  · show (ns.length : Int) ≤ max 1 (n : Int) + (v2 : Int)
    have : ((n : Int).toNat) = n := Int.toNat_natCast n
    rw [this] at ln; omega
  · show ns.length ≤ 9
    have : ((n : Int).toNat) = n := Int.toNat_natCast n
    rw [this] at ln; omega
  · rw [List.map_append]; rfl
/-! _law_part -/
def t__law_part : AS :=
    (aSeq (aSet 6 (aLc false (aiRng1 (aCons (aVar 5) aNil)) (agName 7) aYes (aCall sp__law_lane [] (aCons (aVar 0) (aCons (aCall sp__law_mix [] (aCons (aVar 1) (aCons (aOp (bAdd false) (aC (.int 20)) (aVar 7)) aNil))) (aCons (aC (.bl false)) aNil)))) [7]))
    (aSeq (aDrop (aBM "list" bAppend (aOp bIx (aVar 0) (aC (.int 1))) (aCons (aTup (aCons (aVar 2) (aCons (aCall sp__law_word [] (aCons (aOp bIx (aVar 0) (aC (.int 4))) (aCons (aCB bLen (aCons (aOp bIx (aVar 0) (aC (.int 1))) aNil)) aNil))) (aCons (aVar 3) (aCons (aVar 4) (aCons (aVar 6) aNil)))))) aNil)))
    (aDrop (aBM "list" bExtend (aOp bIx (aVar 0) (aC (.int 2))) (aCons (aVar 6) aNil)))))
abbrev N__law_part : List Str := ["_law_state", "_law_cell_here", "_law_kind", "_law_numbers", "_law_ins", "_law_many", "_law_outs", "_law_k"]
def sp__law_part : ASp := fun ds m Q _ => ∃ (p0 p1 p2 : Addr) (one other c : Int) (k : Nat) (nums : List Int) (ins : List Str) (many : Nat) (ls : List LaneA) (ps : List PartA) (os : List Str), ds = [stD p0 p1 p2 one other, .int c, .str (kt k).kind, .lst (nums.map D.int), .lst (ins.map D.str), .int (many : Int)] ∧
  SW m p0 p1 p2 ls ps os ∧ many ≤ 2 ∧ ls.length ≤ 50 ∧ ps.length ≤ 50 ∧ os.length ≤ 50 ∧
  ∀ (m' : Mu) (nl : List LaneA), nl.length = many → (∀ j l, nl[j]? = some l → l.nm = wn one (ls.length + j)) → (∀ l, l ∈ nl → LaneOkS l) → SW m' p0 p1 p2 (ls ++ nl) (ps ++ [⟨k, wn other ps.length, nums, ins, nl.map LaneA.nm⟩]) (os ++ nl.map LaneA.nm) → Q .non m'
theorem len__law_part (ds : List D) (m : Mu) (Q : QD) (XX : XA) (h : sp__law_part ds m Q XX) : ds.length = 6 := by
  obtain ⟨_, _, _, _, _, _, _, _, _, _, _, _, _, rfl, _⟩ := h; rfl
theorem pure__law_part (ds : List D) (m : Mu) (Q : QD) (XX : XA) (h : sp__law_part ds m Q XX) : t__law_part (endsOf Q XX) (slots N__law_part ds) m := by
  obtain ⟨p0, p1, p2, one, other, c, k, nums, ins, many, ls, ps, os, rfl, sw, hm, hl, hp, ho, h⟩ := h
  refine k_seq (k_setX (x_lcI (fun i acc m' => ∃ nl : List LaneA, nl.length = i ∧ acc = nl.map (fun l => D.str l.nm) ∧ (∀ j l, nl[j]? = some l → l.nm = wn one (ls.length + j)) ∧ (∀ l, l ∈ nl → LaneOkS l) ∧ SW m' p0 p1 p2 (ls ++ nl) ps os)
    (ei_rng1 (n := (many : Int)) (ev_cons (ev_var rfl) ev_nil) (by omega) (by omega)) ⟨[], rfl, rfl, fun j l h => by simp at h, fun l h => (by cases h), by rw [List.append_nil]; exact sw⟩ (fun _ _ _ _ => trivial) (by rw [rng_len, sizeLine_eq]; omega) (fun i d acc m' hd _ hI => ?_) fun acc m' _ hI => k_seq ?_))
  · obtain ⟨nl, l1, rfl, l2, l3, sw'⟩ := hI
    have hi := (List.getElem?_eq_some_iff.mp hd).1
    rw [rng_len] at hi
    obtain ⟨j, hj, rfl⟩ := rng_mem (List.mem_of_getElem? hd)
    refine ⟨_, bnd_name, fun Q hq => x_call (ev_cons (ev_var rfl) (ev_cons (ev__law_mix (ev_cons (ev_var rfl) (ev_cons (ev_op2 ev_c (ev_var rfl) o_add) ev_nil)) (by omega) (by omega)) (ev_cons ev_c ev_nil))) ⟨p0, p1, p2, one, other, _, false, ls ++ nl, ps, os, rfl, sw', by rw [List.length_append]; omega, fun m2 l hn ok sw2 => hq _ _ ⟨nl ++ [l], by rw [List.length_append, l1]; rfl, by rw [List.map_append]; rfl, fun j l' h' => ?_, mem_app1 l3 ok, by rw [← List.append_assoc]; exact sw2⟩⟩⟩
    rcases getElem?_app h' with h' | ⟨q, h'⟩
    · exact l2 j l' h'
    · have : j - nl.length = 0 := by have := (List.getElem?_eq_some_iff.mp h').1; simp at this; omega
      rw [this] at h'
      cases h'
      rw [hn, List.length_append]; congr 1; omega
  · obtain ⟨nl, l1, rfl, l2, l3, sw'⟩ := hI
    rw [rng_len, Int.toNat_natCast] at l1
    have hlen : (ps.map partT).length = ps.length := List.length_map ..
    have e1 : nl.map (fun l => D.str l.nm) = (nl.map LaneA.nm).map D.str := by rw [List.map_map]; rfl
    rw [e1]
    refine k_append (st_1 rfl) (ev_cons (ev_tup (ev_cons (ev_var rfl) (ev_cons (ev__law_word (k := (ps.map partT).length) (ev_cons (st_4 rfl) (ev_cons (ev_opA (ev_cons (st_1 rfl) ev_nil) (o_lenC sw'.h1)) ev_nil)) (by omega)) (ev_cons (ev_var rfl) (ev_cons (ev_var rfl) (ev_cons (ev_var rfl) ev_nil)))))) ev_nil) sw'.h1 (by rw [hlen, sizeLine_eq]; omega) ?_
    have sw2 := sw'.s1 (ps' := ps ++ [⟨k, wn other ps.length, nums, ins, nl.map LaneA.nm⟩]) (xs := ps.map partT ++ [.tup [.str (kt k).kind, .str (wn other (ps.map partT).length), .lst (nums.map D.int), .lst (ins.map D.str), .lst ((nl.map LaneA.nm).map D.str)]]) (by rw [List.map_append, hlen]; rfl)
    refine k_extend (ys := (nl.map LaneA.nm).map D.str) (st_2 rfl) (ev_cons (ev_var rfl) ev_nil) sw2.h2 rfl (by rw [List.length_map, List.length_map, List.length_map, sizeLine_eq]; omega) ?_
    exact h _ nl l1 l2 l3 (sw2.s2 (os' := os ++ nl.map LaneA.nm) (by rw [List.map_append]))
/-! _law_closed -/
def t__law_closed : AS :=
    (aSeq (aWhile (aB (aOp bGt (aCB bLen (aCons (aOp bIx (aVar 0) (aC (.int 2))) aNil)) (aC (.int 1))))
    (aSeq (aSet 4 (aBM "list" bPopAt (aOp bIx (aVar 0) (aC (.int 2))) (aCons (aC (.int 0)) aNil)))
    (aSeq (aSet 5 (aBM "list" bPopAt (aOp bIx (aVar 0) (aC (.int 2))) (aCons (aC (.int 0)) aNil)))
    (aSeq (aSet 6 (aOp bIx (aLst false (aCons (aC (.str "add")) (aCons (aC (.str "less")) (aCons (aC (.str "add")) aNil)))) (aOp bMod (aCall sp__law_mix [] (aCons (aVar 1) (aCons (aCB bLen (aCons (aOp bIx (aVar 0) (aC (.int 2))) aNil)) aNil))) (aC (.int 3)))))
    (aDrop (aCall sp__law_part [] (aCons (aVar 0) (aCons (aCall sp__law_mix [] (aCons (aVar 1) (aCons (aOp (bAdd false) (aC (.int 30)) (aCB bLen (aCons (aOp bIx (aVar 0) (aC (.int 1))) aNil))) aNil))) (aCons (aVar 6) (aCons (aLst false aNil) (aCons (aLst false (aCons (aVar 4) (aCons (aVar 5) aNil))) (aCons (aC (.int 1)) aNil))))))))))))
    (aSeq (aFor (aiSeq (aVar 2)) (agName 3)
    (aSeq (aSet 4 (aBM0 "list" bPop (aOp bIx (aVar 0) (aC (.int 2)))))
    (aSeq (aSet 7 (aCall sp__law_lane [] (aCons (aVar 0) (aCons (aCall sp__law_mix [] (aCons (aVar 1) (aCons (aOp (bAdd false) (aC (.int 70)) (aCB bLen (aCons (aOp bIx (aVar 0) (aC (.int 1))) aNil))) aNil))) (aCons (aC (.bl false)) aNil)))))
    (aSeq (aDrop (aBM "list" bAppend (aOp bIx (aVar 0) (aC (.int 1))) (aCons (aTup (aCons (aC (.str "copy")) (aCons (aCall sp__law_word [] (aCons (aOp bIx (aVar 0) (aC (.int 4))) (aCons (aCB bLen (aCons (aOp bIx (aVar 0) (aC (.int 1))) aNil)) aNil))) (aCons (aLst false aNil) (aCons (aLst false (aCons (aVar 4) aNil)) (aCons (aLst false (aCons (aVar 3) (aCons (aVar 7) aNil))) aNil)))))) aNil)))
    (aDrop (aBM "list" bAppend (aOp bIx (aVar 0) (aC (.int 2))) (aCons (aVar 7) aNil)))))))
    (aDrop (aCall sp__law_part [] (aCons (aVar 0) (aCons (aVar 1) (aCons (aC (.str "take")) (aCons (aLst false aNil) (aCons (aLst false (aCons (aBM0 "list" bPop (aOp bIx (aVar 0) (aC (.int 2)))) aNil)) (aCons (aC (.int 0)) aNil))))))))))
abbrev N__law_closed : List Str := ["_law_state", "_law_cell_here", "_law_back", "_law_lane_here", "_law_one", "_law_other", "_law_kind", "_law_fresh"]
def sp__law_closed : ASp := fun ds m Q _ => ∃ (p0 p1 p2 : Addr) (one other c : Int) (ls : List LaneA) (ps : List PartA) (os back : List Str), ds = [stD p0 p1 p2 one other, .int c, .lst (back.map D.str)] ∧ SW m p0 p1 p2 ls ps os ∧ Good (wn one) (wn other) ls ps os back ∧ 1 ≤ os.length ∧ os.length ≤ 4 ∧ back.length ≤ 2 ∧ ls.length ≤ 18 ∧ ps.length ≤ 10 ∧
  ∀ (m' : Mu) (ls' : List LaneA) (ps' : List PartA), (∀ ps2 : List PartA, ps2.Perm ps' → NetOk ls' ps2) → (∀ l, l ∈ ls' → LaneOkS l) → (∀ l, l ∈ ls' → ∃ i, i < ls.length + 6 ∧ l.nm = wn one i) → (∀ p, p ∈ ps' → ∃ i, i < 17 ∧ p.nm = wn other i) → SW m' p0 p1 p2 ls' ps' [] → Q .non m'
theorem len__law_closed (ds : List D) (m : Mu) (Q : QD) (XX : XA) (h : sp__law_closed ds m Q XX) : ds.length = 3 := by
  obtain ⟨_, _, _, _, _, _, _, _, _, _, rfl, _⟩ := h; rfl
theorem sm3 {i : Int} (h0 : 0 ≤ i) (h1 : i < 3) : ∃ k : Nat, (k = 6 ∨ k = 7) ∧ atI [D.str "add", .str "less", .str "add"] i = some (.str (kt k).kind) := by
  have : i = 0 ∨ i = 1 ∨ i = 2 := by omega
  rcases this with rfl | rfl | rfl
  · exact ⟨6, .inl rfl, rfl⟩
  · exact ⟨7, .inr rfl, rfl⟩
  · exact ⟨6, .inl rfl, rfl⟩
theorem wn_all (c : Int) : (∀ i j, i < 26 → j < 26 → wn c i = wn c j → i = j) ∧ ∀ i, i < 26 → isNm (wn c i) = true ∧ (wn c i).length ≤ 8 ∧ PyData.strOk (wn c i) = true := ⟨fun _ _ hi hj h => wn_inj hi hj h, fun _ hi => wn_ok c (by omega)⟩
theorem one_of {nl : List LaneA} (h : nl.length = 1) : ∃ a, nl = [a] := by
  match nl, h with
  | [a], _ => exact ⟨a, rfl⟩
theorem pure__law_closed (ds : List D) (m : Mu) (Q : QD) (XX : XA) (h : sp__law_closed ds m Q XX) : t__law_closed (endsOf Q XX) (slots N__law_closed ds) m := by
  obtain ⟨p0, p1, p2, one, other, c, ls, ps, os, back, rfl, sw, g, h1, h4, hb, hl, hp, h⟩ := h
  have mxv : ∀ {e : De} {m : Mu} {t : AE} (k : Int), e[1]? = some (some (.int c)) → Ev t e m (.int k) → 0 ≤ k → k < 1000000000 → Ev (aCall sp__law_mix [] (aCons (aVar 1) (aCons t aNil))) e m (.int (mix c k)) := fun k he ht h0 h1 => ev__law_mix (ev_cons (ev_var he) (ev_cons ht ev_nil)) h0 h1
  have lens : ∀ {e : De} {m1 : Mu} {ls : List LaneA} {ps : List PartA} {os : List Str}, SW m1 p0 p1 p2 ls ps os → e[0]? = some (some (stD p0 p1 p2 one other)) → Ev (aCB bLen (aCons (aOp bIx (aVar 0) (aC (.int 2))) aNil)) e m1 (.int ((os.map D.str).length)) := fun sw1 he => ev_opA (ev_cons (st_2 he) ev_nil) (o_lenC sw1.h2)
  have lenp : ∀ {e : De} {m1 : Mu} {ls : List LaneA} {ps : List PartA} {os : List Str}, SW m1 p0 p1 p2 ls ps os → e[0]? = some (some (stD p0 p1 p2 one other)) → Ev (aCB bLen (aCons (aOp bIx (aVar 0) (aC (.int 1))) aNil)) e m1 (.int ((ps.map partT).length)) := fun sw1 he => ev_opA (ev_cons (st_1 he) ev_nil) (o_lenC sw1.h1)
  refine k_seq (k_while (fun n e' m' => ∃ (a b d : Option D) (ls' : List LaneA) (ps' : List PartA) (os' : List Str), e' = [some (stD p0 p1 p2 one other), some (.int c), some (.lst (back.map D.str)), none, a, b, d, none] ∧ n = os'.length ∧ SW m' p0 p1 p2 ls' ps' os' ∧ Good (wn one) (wn other) ls' ps' os' back ∧ 1 ≤ os'.length ∧ os'.length ≤ 4 ∧ ls'.length + os'.length ≤ ls.length + 4 ∧ ps'.length + os'.length ≤ 14) os.length ⟨_, _, _, ls, ps, os, rfl, rfl, sw, g, h1, h4, by omega, by omega⟩ ?_)
  rintro n e' m' ⟨a, b, d, ls', ps', os', rfl, rfl, sw', g', q1, q4, ql, qp⟩
  refine ⟨_, et_B (ev_op2 (lens sw' rfl) ev_c o_gt), fun hb2 => ?_, fun hb2 => ?_⟩
  · have hb2 := of_decide_eq_true hb2
    rw [List.length_map] at hb2
    obtain ⟨x, y, r, rfl⟩ : ∃ x y r, os' = x :: y :: r := by
      match os', hb2 with
      | x :: y :: r, _ => exact ⟨x, y, r, rfl⟩
    have lr : (x :: y :: r).length = r.length + 2 := rfl
    have s1 := sw'.s2 (os' := y :: r) (xs := ((x :: y :: r).map D.str).eraseIdx 0) rfl
    refine k_seq (k_setX (x_popAt (i := 0) (y := .str x) (st_2 rfl) (ev_cons ev_c ev_nil) sw'.h2 (by rw [List.length_map]; omega) (by decide) rfl (k_seq (k_setX (x_popAt (i := 0) (y := .str y) (st_2 rfl) (ev_cons ev_c ev_nil) s1.h2 (by rw [List.length_map]; show 0 < r.length + 1; omega) (by decide) rfl (k_seq ?_))))))
    have s2 := s1.s2 (os' := r) (xs := ((y :: r).map D.str).eraseIdx 0) rfl
    have hlr : (r.map D.str).length = r.length := List.length_map ..
    have hlp : (ps'.map partT).length = ps'.length := List.length_map ..
    obtain ⟨k, hk, e2⟩ := sm3 (Int.emod_nonneg (mix c ((r.map D.str).length : Int)) (show (3 : Int) ≠ 0 by decide)) (Int.emod_lt_of_pos (mix c ((r.map D.str).length : Int)) (show (0 : Int) < 3 by decide))
    refine k_set (ev_op2 (ev_lst (ev_cons ev_c (ev_cons ev_c (ev_cons ev_c ev_nil)))) (ev_op2 (mxv _ rfl (lens s2 rfl) (by omega) (by omega)) ev_c (o_mod (by decide))) (o_ixL e2)) ?_
    have kk : k < kmx ∧ (kt k).many = 0 ∧ (kt k).ins = 2 ∧ (kt k).outs = 1 := by rcases hk with rfl | rfl <;> exact ⟨by decide, rfl, rfl, rfl⟩
    refine k_dropC (ev_cons (ev_var rfl) (ev_cons (mxv (30 + ((ps'.map partT).length : Int)) rfl (ev_op2 ev_c (lenp s2 rfl) o_add) (by omega) (by omega)) (ev_cons (ev_var rfl) (ev_cons (ev_lst ev_nil) (ev_cons (ev_lst (ev_cons (ev_var rfl) (ev_cons (ev_var rfl) ev_nil))) (ev_cons ev_c ev_nil)))))) ⟨p0, p1, p2, one, other, _, k, [], [x, y], 1, ls', ps', r, rfl, s2, by decide, by omega, by omega, by omega, fun m3 nl l1 l2 l3 sw3 => ?_⟩
    obtain ⟨f, rfl⟩ := one_of l1
    refine ⟨(r ++ [f].map LaneA.nm).length, ?_, _, _, _, _, _, _, rfl, rfl, sw3, good_part (p := ⟨k, wn other ps'.length, [], [x, y], [f].map LaneA.nm⟩) (rest := r) g' (List.Perm.refl _) ⟨kk.1, kk.2.1.symm, fun v hv => (by cases hv), kk.2.2.1.symm, kk.2.2.2.symm⟩ rfl rfl (fun z => by cases z) l2 l3, ?_, ?_, ?_, ?_⟩
    · rw [List.length_append]; show r.length + 1 < r.length + 2; omega
    · rw [List.length_append]; show 1 ≤ r.length + 1; omega
    · rw [List.length_append]; show r.length + 1 ≤ 4; omega
    · rw [List.length_append, List.length_append]; show ls'.length + 1 + (r.length + 1) ≤ ls.length + 4; omega
    · rw [List.length_append, List.length_append]; show ps'.length + 1 + (r.length + 1) ≤ 14; omega
  have hb2 := of_decide_eq_false hb2
  rw [List.length_map] at hb2
  obtain ⟨x, rfl⟩ : ∃ x, os' = [x] := by
    match os', q1, hb2 with
    | [x], _, _ => exact ⟨x, rfl⟩
    | [], q, _ => exact absurd q (by decide)
    | x :: y :: r, _, q => exact absurd (show (1 : Int) < ((x :: y :: r).length : Int) by rw [List.length_cons, List.length_cons]; omega) q
  have ql : ls'.length ≤ ls.length + 3 := by have : [x].length = 1 := rfl; omega
  have qp : ps'.length ≤ 13 := by have : [x].length = 1 := rfl; omega
  refine k_seq (k_for (ei_seq (xs := back.map D.str) (ev_var rfl) rfl) (fun i e2 m2 => ∃ (v3 v4 v7 : Option D) (ls2 : List LaneA) (ps2 : List PartA) (y : Str), e2 = [some (stD p0 p1 p2 one other), some (.int c), some (.lst (back.map D.str)), v3, v4, b, d, v7] ∧ SW m2 p0 p1 p2 ls2 ps2 [y] ∧ Good (wn one) (wn other) ls2 ps2 [y] (back.drop i) ∧ ls2.length ≤ ls.length + 3 + i ∧ ps2.length ≤ 13 + i) ⟨_, _, _, ls', ps', x, rfl, sw', by rw [List.drop_zero]; exact g', ql, qp⟩ (fun _ _ _ _ => rfl) ?_ ?_)
  · rintro i dd e2 m2 hd ⟨v3, v4, v7, ls2, ps2, y, rfl, sw2, g2, r1, r2⟩
    have hi : i < back.length := by have := (List.getElem?_eq_some_iff.mp hd).1; rw [List.length_map] at this; exact this
    rw [List.getElem?_map, List.getElem?_eq_getElem hi] at hd
    cases hd
    have hlp : (ps2.map partT).length = ps2.length := List.length_map ..
    refine bnd_name _ _ _ (k_seq (k_setX (x_pop (st_2 rfl) sw2.h2 (y := .str y) rfl (k_seq ?_))))
    have s1 := sw2.s2 (os' := []) (xs := ([y].map D.str).dropLast) rfl
    refine k_setC (ev_cons (ev_var rfl) (ev_cons (mxv (70 + ((ps2.map partT).length : Int)) rfl (ev_op2 ev_c (lenp s1 rfl) o_add) (by omega) (by omega)) (ev_cons ev_c ev_nil))) ⟨p0, p1, p2, one, other, _, false, ls2, ps2, [], rfl, s1, by omega, fun m3 f n1 o1 s3 => k_seq ?_⟩
    refine k_append (st_1 rfl) (ev_cons (ev_tup (ev_cons ev_c (ev_cons (ev__law_word (k := (ps2.map partT).length) (ev_cons (st_4 rfl) (ev_cons (lenp s3 rfl) ev_nil)) (by omega)) (ev_cons (ev_lst ev_nil) (ev_cons (ev_lst (ev_cons (ev_var rfl) ev_nil)) (ev_cons (ev_lst (ev_cons (ev_var rfl) (ev_cons (ev_var rfl) ev_nil))) ev_nil)))))) ev_nil) s3.h1 (by rw [hlp, sizeLine_eq]; omega) ?_
    have s4 := s3.s1 (ps' := ps2 ++ [⟨3, wn other ps2.length, [], [y], [back[i], f.nm]⟩]) (xs := ps2.map partT ++ [.tup [.str "copy", .str (wn other (ps2.map partT).length), .lst [], .lst [.str y], .lst [.str back[i], .str f.nm]]]) (by rw [List.map_append, hlp]; rfl)
    refine k_append (st_2 rfl) (ev_cons (ev_var rfl) ev_nil) s4.h2 (by show 0 < sizeLine; rw [sizeLine_eq]; decide) ?_
    have eb : back.drop i = back[i] :: back.drop (i + 1) := (List.getElem_cons_drop hi).symm
    rw [eb] at g2
    refine ⟨_, _, _, _, _, f.nm, rfl, s4.s2 (os' := [f.nm]) rfl, good_back (p := ⟨3, wn other ps2.length, [], [y], [back[i], f.nm]⟩) g2 ⟨Nat.le_of_ble_eq_true rfl, rfl, fun v hv => (by cases hv), rfl, rfl⟩ rfl rfl rfl n1 o1, ?_, ?_⟩
    · rw [List.length_append]; show ls2.length + 1 ≤ _; omega
    · rw [List.length_append]; show ps2.length + 1 ≤ _; omega
  rintro e2 m2 ⟨v3, v4, v7, ls2, ps2, y, rfl, sw2, g2, r1, r2⟩
  rw [List.length_map] at r1 r2 g2
  have ed : back.drop back.length = [] := List.drop_length
  rw [ed] at g2
  have s1 := sw2.s2 (os' := []) (xs := ([y].map D.str).dropLast) rfl
  refine k_dropX (xa_consX (ev_var rfl _ _ (xa_consX (ev_var rfl _ _ (xa_consX (ev_c _ _ (xa_consX ((ev_lst ev_nil) _ _ (xa_consX (x_lstF (xa_consX (x_pop (st_2 rfl) sw2.h2 (y := .str y) rfl (xa_end ev_nil ⟨Nat.le_of_ble_eq_true rfl, xa_end (ev_cons ev_c ev_nil) ?_⟩)))))))))))))
  refine ⟨p0, p1, p2, one, other, c, 1, [], [y], 0, ls2, ps2, [], rfl, s1, by decide, by omega, by omega, by decide, fun m4 nl k1 k2 k3 sw4 => ?_⟩
  have : nl = [] := List.eq_nil_of_length_eq_zero k1
  subst this
  rw [List.append_nil] at sw4
  refine h m4 _ (ps2 ++ [PartA.mk 1 (wn other ps2.length) [] [y] []]) (fun ps3 hp3 => good_end (p := ⟨1, wn other ps2.length, [], [y], []⟩) g2 ⟨Nat.le_of_ble_eq_true rfl, rfl, fun v hv => (by cases hv), rfl, rfl⟩ rfl rfl rfl hp3 (by omega) (by omega) (wn_all one).1 (wn_all other).1 (wn_all one).2 (wn_all other).2) g2.lok (fun l hl' => ?_) (fun p hp' => ?_) sw4
  · obtain ⟨i, hi, e⟩ := List.mem_iff_getElem.mp hl'
    exact ⟨i, by omega, by rw [← e]; exact g2.ln i _ (List.getElem?_eq_getElem hi)⟩
  · obtain ⟨i, hi, e⟩ := List.mem_iff_getElem.mp hp'
    refine ⟨i, by rw [List.length_append] at hi; have : [PartA.mk 1 (wn other ps2.length) [] [y] []].length = 1 := rfl; omega, ?_⟩
    rw [← e]
    exact pnames_app g2.pn rfl i _ (List.getElem?_eq_getElem hi)
/-! _law_loop -/
def t__law_loop : AS :=
    (aSeq (aSet 3 (aCall sp__law_lane [] (aCons (aVar 0) (aCons (aCall sp__law_mix [] (aCons (aVar 1) (aCons (aC (.int 20)) aNil))) (aCons (aC (.bl true)) aNil)))))
    (aSeq (aSet 4 (aCall sp__law_lane [] (aCons (aVar 0) (aCons (aCall sp__law_mix [] (aCons (aVar 1) (aCons (aC (.int 21)) aNil))) (aCons (aC (.bl false)) aNil)))))
    (aSeq (aDrop (aBM "list" bAppend (aOp bIx (aVar 0) (aC (.int 1))) (aCons (aTup (aCons (aC (.str "order")) (aCons (aCall sp__law_word [] (aCons (aOp bIx (aVar 0) (aC (.int 4))) (aCons (aCB bLen (aCons (aOp bIx (aVar 0) (aC (.int 1))) aNil)) aNil))) (aCons (aLst false aNil) (aCons (aLst false (aCons (aVar 2) (aCons (aVar 3) aNil))) (aCons (aLst false (aCons (aVar 3) (aCons (aVar 4) aNil))) aNil)))))) aNil)))
    (aDrop (aBM "list" bAppend (aOp bIx (aVar 0) (aC (.int 2))) (aCons (aVar 4) aNil))))))
abbrev N__law_loop : List Str := ["_law_state", "_law_cell_here", "_law_one", "_law_own", "_law_fresh"]
def sp__law_loop : ASp := fun ds m Q _ => ∃ (p0 p1 p2 : Addr) (one other c : Int) (x : Str) (ls : List LaneA) (ps : List PartA) (os back : List Str), ds = [stD p0 p1 p2 one other, .int c, .str x] ∧ SW m p0 p1 p2 ls ps os ∧ Good (wn one) (wn other) ls ps (x :: os) back ∧ os.length ≤ 3 ∧ ls.length ≤ 40 ∧ ps.length ≤ 40 ∧
  ∀ (m' : Mu) (ls' : List LaneA) (ps' : List PartA) (os' : List Str), Good (wn one) (wn other) ls' ps' os' back → ls'.length ≤ ls.length + 2 → ps'.length ≤ ps.length + 2 → 1 ≤ os'.length → os'.length ≤ 4 → SW m' p0 p1 p2 ls' ps' os' → Q .non m'
theorem len__law_loop (ds : List D) (m : Mu) (Q : QD) (XX : XA) (h : sp__law_loop ds m Q XX) : ds.length = 3 := by
  obtain ⟨_, _, _, _, _, _, _, _, _, _, _, rfl, _⟩ := h; rfl
theorem pure__law_loop (ds : List D) (m : Mu) (Q : QD) (XX : XA) (h : sp__law_loop ds m Q XX) : t__law_loop (endsOf Q XX) (slots N__law_loop ds) m := by
  obtain ⟨p0, p1, p2, one, other, c, x, ls, ps, os, back, rfl, sw, g, h3, hl, hp, h⟩ := h
  have mx : ∀ {e : De} {m : Mu} (k : Int), e[1]? = some (some (.int c)) → 0 ≤ k → k < 1000000000 → Ev (aCall sp__law_mix [] (aCons (aVar 1) (aCons (aC (.int k)) aNil))) e m (.int (mix c k)) := fun k he h0 h1 => ev__law_mix (ev_cons (ev_var he) (ev_cons ev_c ev_nil)) h0 h1
  refine k_seq (k_setC (ev_cons (ev_var rfl) (ev_cons (mx 20 rfl (by decide) (by decide)) (ev_cons ev_c ev_nil))) ⟨p0, p1, p2, one, other, _, true, ls, ps, os, rfl, sw, by omega, fun m1 own n1 o1 sw1 => k_seq ?_⟩)
  refine k_setC (ev_cons (ev_var rfl) (ev_cons (mx 21 rfl (by decide) (by decide)) (ev_cons ev_c ev_nil))) ⟨p0, p1, p2, one, other, _, false, ls ++ [own], ps, os, rfl, sw1, by rw [List.length_append]; show ls.length + 1 ≤ 100; omega, fun m2 fresh n2 o2 sw2 => k_seq ?_⟩
  have hlen : (ps.map partT).length = ps.length := List.length_map ..
  refine k_append (st_1 rfl) (ev_cons (ev_tup (ev_cons ev_c (ev_cons (ev__law_word (k := (ps.map partT).length) (ev_cons (st_4 rfl) (ev_cons (ev_opA (ev_cons (st_1 rfl) ev_nil) (o_lenC sw2.h1)) ev_nil)) (by omega)) (ev_cons (ev_lst ev_nil) (ev_cons (ev_lst (ev_cons (ev_var rfl) (ev_cons (ev_var rfl) ev_nil))) (ev_cons (ev_lst (ev_cons (ev_var rfl) (ev_cons (ev_var rfl) ev_nil))) ev_nil)))))) ev_nil) sw2.h1 (by rw [hlen, sizeLine_eq]; omega) ?_
  have sw3 := sw2.s1 (ps' := ps ++ [⟨8, wn other ps.length, [], [x, own.nm], [own.nm, fresh.nm]⟩]) (xs := ps.map partT ++ [.tup [.str "order", .str (wn other (ps.map partT).length), .lst [], .lst [.str x, .str own.nm], .lst [.str own.nm, .str fresh.nm]]]) (by rw [List.map_append, hlen]; rfl)
  refine k_append (st_2 rfl) (ev_cons (ev_var rfl) ev_nil) sw3.h2 (by rw [List.length_map, sizeLine_eq]; omega) ?_
  rw [List.length_append] at n2
  refine h _ _ _ _ (good_loop (p := ⟨8, wn other ps.length, [], [x, own.nm], [own.nm, fresh.nm]⟩) g (List.Perm.refl _) ⟨Nat.le_of_ble_eq_true rfl, rfl, fun v hv => (by cases hv), rfl, rfl⟩ rfl rfl rfl n1 n2 o1 o2) ?_ ?_ ?_ ?_ (sw3.s2 (os' := os ++ [fresh.nm]) (by rw [List.map_append]; rfl))
  · rw [List.length_append, List.length_append]; show ls.length + 1 + 1 ≤ _; omega
  · rw [List.length_append]; show ps.length + 1 ≤ _; omega
  · rw [List.length_append]; show 1 ≤ os.length + 1; omega
  · rw [List.length_append]; show os.length + 1 ≤ 4; omega
/-! _law_pick -/
def t__law_pick : AS :=
    (aRet (aBM "list" bPopAt (aOp bIx (aVar 0) (aC (.int 2))) (aCons (aOp bMod (aVar 1) (aCB bLen (aCons (aOp bIx (aVar 0) (aC (.int 2))) aNil))) aNil)))
abbrev N__law_pick : List Str := ["_law_state", "_law_number"]
def sp__law_pick : ASp := fun ds m Q _ => ∃ (p0 p1 p2 : Addr) (one other n : Int) (ls : List LaneA) (ps : List PartA) (os : List Str), ds = [stD p0 p1 p2 one other, .int n] ∧ SW m p0 p1 p2 ls ps os ∧ 0 < os.length ∧ os.length ≤ 50 ∧
  ∀ (m' : Mu) (i : Nat) (o : Str), os[i]? = some o → SW m' p0 p1 p2 ls ps (os.eraseIdx i) → Q (.str o) m'
theorem len__law_pick (ds : List D) (m : Mu) (Q : QD) (XX : XA) (h : sp__law_pick ds m Q XX) : ds.length = 2 := by
  obtain ⟨_, _, _, _, _, _, _, _, _, rfl, _⟩ := h; rfl
theorem map_erase : ∀ (os : List Str) (i : Nat), (os.map D.str).eraseIdx i = (os.eraseIdx i).map D.str
  | [], _ => rfl
  | _ :: _, 0 => rfl
  | x :: xs, i + 1 => by
    show D.str x :: (xs.map D.str).eraseIdx i = D.str x :: (xs.eraseIdx i).map D.str
    rw [map_erase xs i]
theorem pure__law_pick (ds : List D) (m : Mu) (Q : QD) (XX : XA) (h : sp__law_pick ds m Q XX) : t__law_pick (endsOf Q XX) (slots N__law_pick ds) m := by
  obtain ⟨p0, p1, p2, one, other, n, ls, ps, os, rfl, sw, h0, h1, h⟩ := h
  have hl : (os.map D.str).length = os.length := List.length_map ..
  have a0 := Int.emod_nonneg n (show ((os.map D.str).length : Int) ≠ 0 by omega)
  have a1 := Int.emod_lt_of_pos n (show (0 : Int) < ((os.map D.str).length : Int) by omega)
  have hi : (n % ((os.map D.str).length : Int)).toNat < os.length := by omega
  refine k_retX (x_popAt (i := (n % ((os.map D.str).length : Int)).toNat) (y := .str (os[(n % ((os.map D.str).length : Int)).toNat])) (st_2 rfl) (ev_cons ((ev_op2 (ev_var rfl) (ev_opA (ev_cons (st_2 rfl) ev_nil) (o_lenC sw.h2)) (o_mod (by omega))).to (congrArg D.int (Int.toNat_of_nonneg a0).symm)) ev_nil) sw.h2 (by omega) (by omega) ?_ ?_)
  · rw [List.getElem?_map, List.getElem?_eq_getElem hi]; rfl
  · exact h _ _ _ (List.getElem?_eq_getElem hi) (sw.s2 (map_erase os _))
/-! _law_two -/
def t__law_two : AS :=
    (aSeq (aSet 4 (aCall sp__law_pick [] (aCons (aVar 0) (aCons (aCall sp__law_mix [] (aCons (aVar 1) (aCons (aC (.int 5)) aNil))) aNil))))
    (aSeq (aSet 5 (aOp bMod (aCall sp__law_mix [] (aCons (aVar 1) (aCons (aC (.int 6)) aNil))) (aC (.int 6))))
    (aIfS (aAnd (aB (aVar 3)) (aAnd (aB (aOp bLt (aVar 5) (aC (.int 2)))) (aB (aOp bGt (aCB bLen (aCons (aOp bIx (aVar 0) (aC (.int 2))) aNil)) (aC (.int 0))))))
    (aSeq (aSet 6 (aCall sp__law_pick [] (aCons (aVar 0) (aCons (aCall sp__law_mix [] (aCons (aVar 1) (aCons (aC (.int 7)) aNil))) aNil))))
    (aDrop (aCall sp__law_part [] (aCons (aVar 0) (aCons (aVar 1) (aCons (aC (.str "choose")) (aCons (aLst false aNil) (aCons (aLst false (aCons (aVar 2) (aCons (aVar 4) (aCons (aVar 6) aNil)))) (aCons (aC (.int 1)) aNil)))))))))
    (aIfS (aAnd (aB (aVar 3)) (aB (aOp bLt (aVar 5) (aC (.int 4)))))
    (aDrop (aCall sp__law_part [] (aCons (aVar 0) (aCons (aVar 1) (aCons (aC (.str "split")) (aCons (aLst false aNil) (aCons (aLst false (aCons (aVar 2) (aCons (aVar 4) aNil))) (aCons (aC (.int 2)) aNil))))))))
    (aIfS (aB (aOp bEq (aOp bMod (aVar 5) (aC (.int 3))) (aC (.int 0))))
    (aDrop (aCall sp__law_part [] (aCons (aVar 0) (aCons (aVar 1) (aCons (aC (.str "order")) (aCons (aLst false aNil) (aCons (aLst false (aCons (aVar 2) (aCons (aVar 4) aNil))) (aCons (aC (.int 2)) aNil))))))))
    (aDrop (aCall sp__law_part [] (aCons (aVar 0) (aCons (aVar 1) (aCons (aOp bIx (aLst false (aCons (aC (.str "add")) (aCons (aC (.str "less")) aNil))) (aOp bMod (aVar 5) (aC (.int 2)))) (aCons (aLst false aNil) (aCons (aLst false (aCons (aVar 2) (aCons (aVar 4) aNil))) (aCons (aC (.int 1)) aNil)))))))))))))
abbrev N__law_two : List Str := ["_law_state", "_law_cell_here", "_law_one", "_law_odd", "_law_other", "_law_way", "_law_third"]
def sp__law_two : ASp := fun ds m Q _ => ∃ (p0 p1 p2 : Addr) (one other c : Int) (x : Str) (odd : Bool) (ls : List LaneA) (ps : List PartA) (os back : List Str), ds = [stD p0 p1 p2 one other, .int c, .str x, .bl odd] ∧ (odd = true → 10 < kmx) ∧ SW m p0 p1 p2 ls ps os ∧ Good (wn one) (wn other) ls ps (x :: os) back ∧ 0 < os.length ∧ os.length ≤ 3 ∧ ls.length ≤ 40 ∧ ps.length ≤ 40 ∧
  ∀ (m' : Mu) (ls' : List LaneA) (ps' : List PartA) (os' : List Str), Good (wn one) (wn other) ls' ps' os' back → ls'.length ≤ ls.length + 2 → ps'.length ≤ ps.length + 2 → 1 ≤ os'.length → os'.length ≤ 4 → SW m' p0 p1 p2 ls' ps' os' → Q .non m'
theorem len__law_two (ds : List D) (m : Mu) (Q : QD) (XX : XA) (h : sp__law_two ds m Q XX) : ds.length = 4 := by
  obtain ⟨_, _, _, _, _, _, _, _, _, _, _, _, rfl, _⟩ := h; rfl
theorem one_lt {xs ys : List LaneA} {n : Nat} (h : xs.length = n) (hn : 0 < n) : xs ≠ [] := fun z => by rw [z] at h; simp at h; omega
theorem sm2 {i : Int} (h0 : 0 ≤ i) (h1 : i < 2) : ∃ k : Nat, (k = 6 ∨ k = 7) ∧ atI [D.str "add", .str "less"] i = some (.str (kt k).kind) := by
  have : i = 0 ∨ i = 1 := by omega
  rcases this with rfl | rfl
  · exact ⟨6, .inl rfl, rfl⟩
  · exact ⟨7, .inr rfl, rfl⟩
theorem pure__law_two (ds : List D) (m : Mu) (Q : QD) (XX : XA) (h : sp__law_two ds m Q XX) : t__law_two (endsOf Q XX) (slots N__law_two ds) m := by
  obtain ⟨p0, p1, p2, one, other, c, x, odd, ls, ps, os, back, rfl, hodd, sw, g, h0, h3, hl, hp, h⟩ := h
  have mx : ∀ {e : De} {m : Mu} (k : Int), e[1]? = some (some (.int c)) → 0 ≤ k → k < 1000000000 → Ev (aCall sp__law_mix [] (aCons (aVar 1) (aCons (aC (.int k)) aNil))) e m (.int (mix c k)) := fun k he h0 h1 => ev__law_mix (ev_cons (ev_var he) (ev_cons ev_c ev_nil)) h0 h1
  refine k_seq (k_setC (ev_cons (ev_var rfl) (ev_cons (mx 5 rfl (by decide) (by decide)) ev_nil)) ⟨p0, p1, p2, one, other, _, ls, ps, os, rfl, sw, h0, by omega, fun m1 i o hi sw1 => k_seq (k_set (ev_op2 (mx 6 rfl (by decide) (by decide)) ev_c (o_mod (by decide))) ?_)⟩)
  have pk := perm_pick hi
  have lk := len_pick hi
  generalize os.eraseIdx i = os1 at *
  have g1 : Good (wn one) (wn other) ls ps (x :: o :: os1) back := good_perm g (pk.cons x)
  generalize mix c 6 % 6 = w at *
  have fin : ∀ (k : Nat) (n : Nat) (ins rest : List Str) (m2 : Mu), k < kmx → (kt k).many = 0 → ins.length = (kt k).ins → n = (kt k).outs → 0 < n → n ≤ 2 → rest.length ≤ 2 → SW m2 p0 p1 p2 ls ps rest → (x :: o :: os1).Perm (ins ++ rest) → sp__law_part [stD p0 p1 p2 one other, .int c, .str (kt k).kind, .lst [], .lst (ins.map D.str), .int (n : Int)] m2 (fun _ m' => Q .non m') XX := fun k n ins rest m2 hk hm hi hn n0 n2 hr sw2 hp2 =>
    ⟨p0, p1, p2, one, other, c, k, [], ins, n, ls, ps, rest, rfl, sw2, n2, by omega, by omega, by omega, fun m' nl l1 l2 l3 sw' => by
      refine h m' _ _ _ (good_part (p := ⟨k, wn other ps.length, [], ins, nl.map LaneA.nm⟩) g1 hp2 ⟨hk, hm.symm, fun v hv => (by cases hv), hi, by rw [List.length_map, l1, hn]⟩ rfl rfl (one_lt (ys := nl) l1 n0) l2 l3) ?_ ?_ ?_ ?_ sw'
      · rw [List.length_append]; omega
      · rw [List.length_append]; show ps.length + 1 ≤ _; omega
      · rw [List.length_append, List.length_map]; omega
      · rw [List.length_append, List.length_map]; omega⟩
  refine k_if (et_and (et_B (ev_var rfl)) fun _ => et_and (et_B (ev_op2 (ev_var rfl) ev_c o_lt)) fun _ => et_B (ev_op2 (ev_opA (ev_cons (st_2 rfl) ev_nil) (o_lenC sw1.h2)) ev_c o_gt)) (fun hb => ?_) fun _ => k_if (et_and (et_B (ev_var rfl)) fun _ => et_B (ev_op2 (ev_var rfl) ev_c o_lt)) (fun hb => ?_) fun _ => k_if (et_B (ev_op2 (ev_op2 (ev_var rfl) ev_c (o_mod (by decide))) ev_c o_eq)) (fun _ => ?_) fun _ => ?_
  · have hk := hodd (Bool.and_eq_true _ _ ▸ hb : _ ∧ _).1
    have hb := (Bool.and_eq_true _ _ ▸ hb : _ ∧ _).2
    have hb := (Bool.and_eq_true _ _ ▸ hb : _ ∧ _).2
    have hb := of_decide_eq_true hb
    rw [List.length_map] at hb
    refine k_seq (k_setC (ev_cons (ev_var rfl) (ev_cons (mx 7 rfl (by decide) (by decide)) ev_nil)) ⟨p0, p1, p2, one, other, _, ls, ps, os1, rfl, sw1, by omega, by omega, fun m2 j t ht sw2 => ?_⟩)
    have pk2 := perm_pick ht
    have lk2 := len_pick ht
    exact k_dropC (ev_cons (ev_var rfl) (ev_cons (ev_var rfl) (ev_cons ev_c (ev_cons (ev_lst ev_nil) (ev_cons (ev_lst (ev_cons (ev_var rfl) (ev_cons (ev_var rfl) (ev_cons (ev_var rfl) ev_nil)))) (ev_cons ev_c ev_nil)))))) (fin 9 1 [x, o, t] _ m2 (by omega) rfl rfl rfl (by decide) (by decide) (by omega) sw2 ((pk2.cons o).cons x))
  · exact k_dropC (ev_cons (ev_var rfl) (ev_cons (ev_var rfl) (ev_cons ev_c (ev_cons (ev_lst ev_nil) (ev_cons (ev_lst (ev_cons (ev_var rfl) (ev_cons (ev_var rfl) ev_nil))) (ev_cons ev_c ev_nil)))))) (fin 10 2 [x, o] _ m1 (hodd (Bool.and_eq_true _ _ ▸ hb : _ ∧ _).1) rfl rfl rfl (by decide) (by decide) (by omega) sw1 (List.Perm.refl _))
  · exact k_dropC (ev_cons (ev_var rfl) (ev_cons (ev_var rfl) (ev_cons ev_c (ev_cons (ev_lst ev_nil) (ev_cons (ev_lst (ev_cons (ev_var rfl) (ev_cons (ev_var rfl) ev_nil))) (ev_cons ev_c ev_nil)))))) (fin 8 2 [x, o] _ m1 (by decide) rfl rfl rfl (by decide) (by decide) (by omega) sw1 (List.Perm.refl _))
  · obtain ⟨k, hk, e2⟩ := sm2 (Int.emod_nonneg w (show (2 : Int) ≠ 0 by decide)) (Int.emod_lt_of_pos w (show (0 : Int) < 2 by decide))
    refine k_dropC (ev_cons (ev_var rfl) (ev_cons (ev_var rfl) (ev_cons (ev_op2 (ev_lst (ev_cons ev_c (ev_cons ev_c ev_nil))) (ev_op2 (ev_var rfl) ev_c (o_mod (by decide))) (o_ixL e2)) (ev_cons (ev_lst ev_nil) (ev_cons (ev_lst (ev_cons (ev_var rfl) (ev_cons (ev_var rfl) ev_nil))) (ev_cons ev_c ev_nil)))))) ?_
    rcases hk with rfl | rfl
    · exact fin 6 1 [x, o] _ m1 (by decide) rfl rfl rfl (by decide) (by decide) (by omega) sw1 (List.Perm.refl _)
    · exact fin 7 1 [x, o] _ m1 (by decide) rfl rfl rfl (by decide) (by decide) (by omega) sw1 (List.Perm.refl _)
/-! _law_step -/
def t__law_step : AS :=
    (aSeq (aSet 3 (aOp bMod (aCall sp__law_mix [] (aCons (aVar 1) (aCons (aC (.int 3)) aNil))) (aC (.int 9))))
    (aSeq (aSet 4 (aCall sp__law_pick [] (aCons (aVar 0) (aCons (aCall sp__law_mix [] (aCons (aVar 1) (aCons (aC (.int 4)) aNil))) aNil))))
    (aIfS (aAnd (aB (aOp bLt (aVar 3) (aC (.int 2)))) (aB (aOp bLt (aCB bLen (aCons (aOp bIx (aVar 0) (aC (.int 2))) aNil)) (aC (.int 3)))))
    (aDrop (aCall sp__law_part [] (aCons (aVar 0) (aCons (aVar 1) (aCons (aC (.str "copy")) (aCons (aLst false aNil) (aCons (aLst false (aCons (aVar 4) aNil)) (aCons (aC (.int 2)) aNil))))))))
    (aIfS (aB (aOp bEq (aVar 3) (aC (.int 2))))
    (aSeq (aDrop (aCall sp__law_part [] (aCons (aVar 0) (aCons (aVar 1) (aCons (aC (.str "copy")) (aCons (aLst false aNil) (aCons (aLst false (aCons (aVar 4) aNil)) (aCons (aC (.int 2)) aNil))))))))
    (aDrop (aCall sp__law_part [] (aCons (aVar 0) (aCons (aVar 1) (aCons (aC (.str "take")) (aCons (aLst false aNil) (aCons (aLst false (aCons (aBM0 "list" bPop (aOp bIx (aVar 0) (aC (.int 2)))) aNil)) (aCons (aC (.int 0)) aNil)))))))))
    (aIfS (aAnd (aB (aOp bLt (aVar 3) (aC (.int 6)))) (aB (aOp bGt (aCB bLen (aCons (aOp bIx (aVar 0) (aC (.int 2))) aNil)) (aC (.int 0)))))
    (aDrop (aCall sp__law_two [] (aCons (aVar 0) (aCons (aVar 1) (aCons (aVar 4) (aCons (aVar 2) aNil))))))
    (aIfS (aB (aOp bLt (aVar 3) (aC (.int 7))))
    (aDrop (aCall sp__law_part [] (aCons (aVar 0) (aCons (aVar 1) (aCons (aC (.str "turn")) (aCons (aLst false (aCons (aCall sp__law_value [] (aCons (aVar 1) (aCons (aC (.int 8)) aNil))) (aCons (aCall sp__law_value [] (aCons (aVar 1) (aCons (aC (.int 9)) aNil))) aNil))) (aCons (aLst false (aCons (aVar 4) aNil)) (aCons (aC (.int 1)) aNil))))))))
    (aIfS (aB (aOp bEq (aVar 3) (aC (.int 7))))
    (aDrop (aCall sp__law_part [] (aCons (aVar 0) (aCons (aVar 1) (aCons (aC (.str "heap")) (aCons (aLst false (aCons (aCall sp__law_value [] (aCons (aVar 1) (aCons (aC (.int 8)) aNil))) aNil)) (aCons (aLst false (aCons (aVar 4) aNil)) (aCons (aC (.int 1)) aNil))))))))
    (aIfS (aB (aOp bEq (aOp bMod (aCall sp__law_mix [] (aCons (aVar 1) (aCons (aC (.int 6)) aNil))) (aC (.int 2))) (aC (.int 0))))
    (aDrop (aCall sp__law_loop [] (aCons (aVar 0) (aCons (aVar 1) (aCons (aVar 4) aNil)))))
    (aDrop (aCall sp__law_part [] (aCons (aVar 0) (aCons (aVar 1) (aCons (aC (.str "pass")) (aCons (aLst false aNil) (aCons (aLst false (aCons (aVar 4) aNil)) (aCons (aC (.int 1)) aNil))))))))))))))))
abbrev N__law_step : List Str := ["_law_state", "_law_cell_here", "_law_odd", "_law_way", "_law_one"]
def sp__law_step : ASp := fun ds m Q _ => ∃ (p0 p1 p2 : Addr) (one other c : Int) (odd : Bool) (ls : List LaneA) (ps : List PartA) (os back : List Str), ds = [stD p0 p1 p2 one other, .int c, .bl odd] ∧ (odd = true → 10 < kmx) ∧ SW m p0 p1 p2 ls ps os ∧ Good (wn one) (wn other) ls ps os back ∧ 1 ≤ os.length ∧ os.length ≤ 4 ∧ ls.length ≤ 40 ∧ ps.length ≤ 40 ∧
  ∀ (m' : Mu) (ls' : List LaneA) (ps' : List PartA) (os' : List Str), Good (wn one) (wn other) ls' ps' os' back → ls'.length ≤ ls.length + 2 → ps'.length ≤ ps.length + 2 → 1 ≤ os'.length → os'.length ≤ 4 → SW m' p0 p1 p2 ls' ps' os' → Q .non m'
theorem len__law_step (ds : List D) (m : Mu) (Q : QD) (XX : XA) (h : sp__law_step ds m Q XX) : ds.length = 3 := by
  obtain ⟨_, _, _, _, _, _, _, _, _, _, _, rfl, _⟩ := h; rfl
theorem last2 {os : List Str} {a b : Str} : ((os ++ [a, b]).map D.str)[((os ++ [a, b]).map D.str).length - 1]? = some (.str b) ∧ ((os ++ [a, b]).map D.str).dropLast = (os ++ [a]).map D.str := by
  have e : (os ++ [a, b]).map D.str = (os ++ [a]).map D.str ++ [.str b] := by simp
  rw [e]
  refine ⟨?_, List.dropLast_concat⟩
  rw [List.length_append]
  show ((os ++ [a]).map D.str ++ [D.str b])[((os ++ [a]).map D.str).length + 1 - 1]? = _
  rw [Nat.add_sub_cancel, List.getElem?_append_right (Nat.le_refl _)]; simp
theorem two_of {nl : List LaneA} (h : nl.length = 2) : ∃ a b, nl = [a, b] := by
  match nl, h with
  | [a, b], _ => exact ⟨a, b, rfl⟩
theorem cpt {one other : Int} {ls : List LaneA} {ps : List PartA} {os1 back : List Str} {n : Nat} {x : Str} {a b : LaneA} {m4 : Mu} {p0 p1 p2 : Addr} {Q : QD} (h : ∀ (m' : Mu) (ls' : List LaneA) (ps' : List PartA) (os' : List Str), Good (wn one) (wn other) ls' ps' os' back → ls'.length ≤ ls.length + 2 → ps'.length ≤ ps.length + 2 → 1 ≤ os'.length → os'.length ≤ 4 → SW m' p0 p1 p2 ls' ps' os' → Q .non m')
    (g2 : Good (wn one) (wn other) (ls ++ [a, b]) (ps ++ [PartA.mk 3 (wn other ps.length) [] [x] [a.nm, b.nm]]) (os1 ++ [a.nm, b.nm]) back) (h4 : n ≤ 4) (hn : os1.length + 1 ≤ n)
    (sw4 : SW m4 p0 p1 p2 (ls ++ [a, b]) (ps ++ [PartA.mk 3 (wn other ps.length) [] [x] [a.nm, b.nm]] ++ [PartA.mk 1 (wn other (ps ++ [PartA.mk 3 (wn other ps.length) [] [x] [a.nm, b.nm]]).length) [] [b.nm] []]) (os1 ++ [a.nm])) : Q .non m4 := by
  refine h m4 _ _ _ (good_take (p := PartA.mk 1 (wn other (ps ++ [PartA.mk 3 (wn other ps.length) [] [x] [a.nm, b.nm]]).length) [] [b.nm] []) (rest := os1) (a := a.nm) (b := b.nm) g2 (List.Perm.refl _) ⟨PartA.mk 3 (wn other ps.length) [] [x] [a.nm, b.nm], List.mem_append_right _ (List.mem_singleton.mpr rfl), ?_, ?_⟩ ⟨?_, rfl, fun v hv => ?_, rfl, rfl⟩ rfl rfl rfl) ?_ ?_ ?_ ?_ sw4
  · show a.nm ∈ [x] ++ [a.nm, b.nm]; simp
  · show b.nm ∈ [x] ++ [a.nm, b.nm]; simp
  · show 1 < kmx; decide
  · cases hv
  · rw [List.length_append]; exact Nat.le_refl _
  · rw [List.length_append, List.length_append]; exact Nat.le_refl _
  · rw [List.length_append]; show 1 ≤ os1.length + 1; omega
  · rw [List.length_append]; show os1.length + 1 ≤ 4; omega
theorem pure__law_step (ds : List D) (m : Mu) (Q : QD) (XX : XA) (h : sp__law_step ds m Q XX) : t__law_step (endsOf Q XX) (slots N__law_step ds) m := by
  obtain ⟨p0, p1, p2, one, other, c, odd, ls, ps, os, back, rfl, hodd, sw, g, h1, h4, hl, hp, h⟩ := h
  have mx : ∀ {e : De} {m : Mu} (k : Int), e[1]? = some (some (.int c)) → 0 ≤ k → k < 1000000000 → Ev (aCall sp__law_mix [] (aCons (aVar 1) (aCons (aC (.int k)) aNil))) e m (.int (mix c k)) := fun k he h0 h1 => ev__law_mix (ev_cons (ev_var he) (ev_cons ev_c ev_nil)) h0 h1
  refine k_seq (k_set (ev_op2 (mx 3 rfl (by decide) (by decide)) ev_c (o_mod (by decide))) (k_seq ?_))
  refine k_setC (ev_cons (ev_var rfl) (ev_cons (mx 4 rfl (by decide) (by decide)) ev_nil)) ⟨p0, p1, p2, one, other, _, ls, ps, os, rfl, sw, by omega, by omega, fun m1 i x hi sw1 => ?_⟩
  have pk := perm_pick hi
  have lk := len_pick hi
  generalize os.eraseIdx i = os1 at *
  have g1 : Good (wn one) (wn other) ls ps (x :: os1) back := good_perm g pk
  generalize mix c 3 % 9 = w at *
  have fin : ∀ (k : Nat) (n : Nat) (nums : List Int), k < kmx → nums.length = (kt k).many → (∀ v, v ∈ nums → isVal v = true) → (kt k).ins = 1 → n = (kt k).outs → 0 < n → n ≤ 2 → os1.length + n ≤ 4 → sp__law_part [stD p0 p1 p2 one other, .int c, .str (kt k).kind, .lst (nums.map D.int), .lst [.str x], .int (n : Int)] m1 (fun _ m' => Q .non m') XX := fun k n nums hk hm hv hi hn n0 n2 hr =>
    ⟨p0, p1, p2, one, other, c, k, nums, [x], n, ls, ps, os1, rfl, sw1, n2, by omega, by omega, by omega, fun m' nl l1 l2 l3 sw' => by
      refine h m' _ _ _ (good_part (p := ⟨k, wn other ps.length, nums, [x], nl.map LaneA.nm⟩) g1 (List.Perm.refl _) ⟨hk, hm, hv, hi.symm, by rw [List.length_map, l1, hn]⟩ rfl rfl (one_lt (ys := nl) l1 n0) l2 l3) ?_ ?_ ?_ ?_ sw'
      · rw [List.length_append]; omega
      · rw [List.length_append]; show ps.length + 1 ≤ _; omega
      · rw [List.length_append, List.length_map]; omega
      · rw [List.length_append, List.length_map]; omega⟩
  have lens : ∀ {e : De}, e[0]? = some (some (stD p0 p1 p2 one other)) → Ev (aCB bLen (aCons (aOp bIx (aVar 0) (aC (.int 2))) aNil)) e m1 (.int ((os1.map D.str).length)) := fun he => ev_opA (ev_cons (st_2 he) ev_nil) (o_lenC sw1.h2)
  have hlo : (os1.map D.str).length = os1.length := List.length_map ..
  refine k_if (et_and (et_B (ev_op2 (ev_var rfl) ev_c o_lt)) fun _ => et_B (ev_op2 (lens rfl) ev_c o_lt)) (fun hb => ?_) fun _ => k_if (et_B (ev_op2 (ev_var rfl) ev_c o_eq)) (fun _ => ?_) fun _ => k_if (et_and (et_B (ev_op2 (ev_var rfl) ev_c o_lt)) fun _ => et_B (ev_op2 (lens rfl) ev_c o_gt)) (fun hb => ?_) fun _ =>
    k_if (et_B (ev_op2 (ev_var rfl) ev_c o_lt)) (fun _ => ?_) fun _ => k_if (et_B (ev_op2 (ev_var rfl) ev_c o_eq)) (fun _ => ?_) fun _ => k_if (et_B (ev_op2 (ev_op2 (mx 6 rfl (by decide) (by decide)) ev_c (o_mod (by decide))) ev_c o_eq)) (fun _ => ?_) fun _ => ?_
  · have hb := of_decide_eq_true (Bool.and_eq_true _ _ ▸ hb : _ ∧ _).2
    exact k_dropC (ev_cons (ev_var rfl) (ev_cons (ev_var rfl) (ev_cons ev_c (ev_cons (ev_lst ev_nil) (ev_cons (ev_lst (ev_cons (ev_var rfl) ev_nil)) (ev_cons ev_c ev_nil)))))) (fin 3 2 [] (by decide) rfl (fun v hv => (by cases hv)) rfl rfl (by decide) (by decide) (by omega))
  · refine k_seq (k_dropC (ev_cons (ev_var rfl) (ev_cons (ev_var rfl) (ev_cons ev_c (ev_cons (ev_lst ev_nil) (ev_cons (ev_lst (ev_cons (ev_var rfl) ev_nil)) (ev_cons ev_c ev_nil)))))) ⟨p0, p1, p2, one, other, c, 3, [], [x], 2, ls, ps, os1, rfl, sw1, by decide, by omega, by omega, by omega, fun m2 nl l1 l2 l3 sw2 => ?_⟩)
    obtain ⟨a, b, rfl⟩ := two_of l1
    have sw2 : SW m2 p0 p1 p2 (ls ++ [a, b]) (ps ++ [PartA.mk 3 (wn other ps.length) [] [x] [a.nm, b.nm]]) (os1 ++ [a.nm, b.nm]) := sw2
    have g2 := good_part (p := PartA.mk 3 (wn other ps.length) [] [x] [a.nm, b.nm]) g1 (List.Perm.refl _) ⟨Nat.le_of_ble_eq_true rfl, rfl, fun v hv => (by cases hv), rfl, rfl⟩ rfl rfl (fun z => by cases z) l2 l3
    have lt := last2 (os := os1) (a := a.nm) (b := b.nm)
    have sw3 := sw2.s2 (os' := os1 ++ [a.nm]) lt.2
    refine k_dropX (xa_consX (ev_var rfl _ _ (xa_consX (ev_var rfl _ _ (xa_consX (ev_c _ _ (xa_consX ((ev_lst ev_nil) _ _ (xa_consX (x_lstF (xa_consX (x_pop (st_2 rfl) sw2.h2 lt.1 (xa_end ev_nil ⟨Nat.le_of_ble_eq_true rfl, xa_end (ev_cons ev_c ev_nil) ?_⟩)))))))))))))
    refine ⟨p0, p1, p2, one, other, c, 1, [], [b.nm], 0, ls ++ [a, b], ps ++ [PartA.mk 3 (wn other ps.length) [] [x] [a.nm, b.nm]], os1 ++ [a.nm], rfl, sw3, by decide, ?_, ?_, ?_, fun m4 nl k1 k2 k3 sw4 => ?_⟩
    · rw [List.length_append]; show ls.length + 2 ≤ 50; omega
    · rw [List.length_append]; show ps.length + 1 ≤ 50; omega
    · rw [List.length_append]; show os1.length + 1 ≤ 50; omega
    · have : nl = [] := List.eq_nil_of_length_eq_zero k1
      subst this
      have e1 : ls ++ [a, b] ++ [] = ls ++ [a, b] := List.append_nil _
      have e2 : os1 ++ [a.nm] ++ List.map LaneA.nm [] = os1 ++ [a.nm] := List.append_nil _
      rw [e1, e2] at sw4
      exact cpt h g2 h4 (by omega) sw4
  · have hb := of_decide_eq_true (Bool.and_eq_true _ _ ▸ hb : _ ∧ _).2
    exact k_dropC (ev_cons (ev_var rfl) (ev_cons (ev_var rfl) (ev_cons (ev_var rfl) (ev_cons (ev_var rfl) ev_nil)))) ⟨p0, p1, p2, one, other, c, x, odd, ls, ps, os1, back, rfl, hodd, sw1, g1, by omega, by omega, hl, hp, fun m' ls' ps' os' q1 q2 q3 q4 q5 q6 => h m' ls' ps' os' q1 q2 q3 q4 q5 q6⟩
  · refine k_dropX (xa_consX (ev_var rfl _ _ (xa_consX (ev_var rfl _ _ (xa_consX (ev_c _ _ (xa_consX (x_lstF (xa_consX (x_call (ev_cons (ev_var rfl) (ev_cons ev_c ev_nil)) ⟨c, 8, rfl, by decide, by decide, fun u hu => xa_consX (x_call (ev_cons (ev_var rfl) (ev_cons ev_c ev_nil)) ⟨c, 9, rfl, by decide, by decide, fun v hv => xa_end ev_nil ⟨Nat.le_of_ble_eq_true rfl, xa_end (ev_cons (ev_lst (ev_cons (ev_var rfl) ev_nil)) (ev_cons ev_c ev_nil)) ?_⟩⟩)⟩))))))))))
    refine fin 4 1 [u, v] (by decide) rfl (fun z hz => ?_) rfl rfl (by decide) (by decide) (by omega)
    simp only [List.mem_cons, List.not_mem_nil, or_false] at hz
    rcases hz with rfl | rfl
    · exact hu
    · exact hv
  · refine k_dropX (xa_consX (ev_var rfl _ _ (xa_consX (ev_var rfl _ _ (xa_consX (ev_c _ _ (xa_consX (x_lstF (xa_consX (x_call (ev_cons (ev_var rfl) (ev_cons ev_c ev_nil)) ⟨c, 8, rfl, by decide, by decide, fun u hu => xa_end ev_nil ⟨Nat.le_of_ble_eq_true rfl, xa_end (ev_cons (ev_lst (ev_cons (ev_var rfl) ev_nil)) (ev_cons ev_c ev_nil)) ?_⟩⟩))))))))))
    refine fin 5 1 [u] (by decide) rfl (fun z hz => ?_) rfl rfl (by decide) (by decide) (by omega)
    rw [List.mem_singleton.mp hz]; exact hu
  · exact k_dropC (ev_cons (ev_var rfl) (ev_cons (ev_var rfl) (ev_cons (ev_var rfl) ev_nil))) ⟨p0, p1, p2, one, other, c, x, ls, ps, os1, back, rfl, sw1, g1, by omega, hl, hp, fun m' ls' ps' os' q1 q2 q3 q4 q5 q6 => h m' ls' ps' os' q1 q2 q3 q4 q5 q6⟩
  · exact k_dropC (ev_cons (ev_var rfl) (ev_cons (ev_var rfl) (ev_cons ev_c (ev_cons (ev_lst ev_nil) (ev_cons (ev_lst (ev_cons (ev_var rfl) ev_nil)) (ev_cons ev_c ev_nil)))))) (fin 2 1 [] (by decide) rfl (fun v hv => (by cases hv)) rfl rfl (by decide) (by decide) (by omega))
/-! _law_net -/
def t__law_net : AS :=
    (aSeq (aSet 4 (aCall sp__law_cell [] (aCons (aVar 0) (aCons (aVar 1) aNil))))
    (aSeq (aSet 5 (aCall sp__law_cell [] (aCons (aVar 0) (aCons (aOp (bAdd false) (aVar 1) (aC (.int 1))) aNil))))
    (aSeq (aSet 6 (aLst false (aCons (aLst true aNil) (aCons (aLst true aNil) (aCons (aLst true aNil) (aCons (aVar 4) (aCons (aVar 5) aNil)))))))
    (aSeq (aFor (aiRng1 (aCons (aOp (bAdd false) (aC (.int 1)) (aOp bMod (aCall sp__law_mix [] (aCons (aVar 4) (aCons (aC (.int 5)) aNil))) (aC (.int 2)))) aNil)) (agName 7)
    (aDrop (aCall sp__law_part [] (aCons (aVar 6) (aCons (aCall sp__law_mix [] (aCons (aVar 5) (aCons (aVar 7) aNil))) (aCons (aC (.str "give")) (aCons (aLst false aNil) (aCons (aLst false aNil) (aCons (aC (.int 1)) aNil)))))))))
    (aSeq (aSet 8 (aLc false (aiRng1 (aCons (aOp bMod (aCall sp__law_mix [] (aCons (aVar 4) (aCons (aC (.int 6)) aNil))) (aC (.int 3))) aNil)) (agName 7) aYes (aCall sp__law_lane [] (aCons (aVar 6) (aCons (aCall sp__law_mix [] (aCons (aVar 5) (aCons (aOp (bAdd false) (aC (.int 10)) (aVar 7)) aNil))) (aCons (aC (.bl true)) aNil)))) [7]))
    (aSeq (aDrop (aBM "list" bExtend (aOp bIx (aVar 6) (aC (.int 2))) (aCons (aVar 8) aNil)))
    (aSeq (aFor (aiRng1 (aCons (aVar 2) aNil)) (agName 7)
    (aDrop (aCall sp__law_step [] (aCons (aVar 6) (aCons (aCall sp__law_cell [] (aCons (aVar 0) (aCons (aOp (bAdd false) (aOp (bAdd false) (aVar 1) (aC (.int 2))) (aVar 7)) aNil))) (aCons (aVar 3) aNil))))))
    (aSeq (aDrop (aCall sp__law_closed [] (aCons (aVar 6) (aCons (aVar 5) (aCons (aVar 8) aNil)))))
    (aSeq (aSet 9 (aOp bMod (aCall sp__law_mix [] (aCons (aVar 4) (aCons (aC (.int 7)) aNil))) (aCB bLen (aCons (aOp bIx (aVar 6) (aC (.int 1))) aNil))))
    (aRet (aTup (aCons (aFz (aOp bIx (aVar 6) (aC (.int 0)))) (aCons (aOp (bAdd false) (aSl false (aOp bIx (aVar 6) (aC (.int 1))) (aP (aVar 9)) aNoP) (aSl false (aOp bIx (aVar 6) (aC (.int 1))) aNoP (aP (aVar 9)))) aNil)))))))))))))
abbrev N__law_net : List Str := ["_law_script", "_law_start", "_law_steps", "_law_odd", "_law_one", "_law_other", "_law_state", "_law_k", "_law_back", "_law_at"]
def Nms (c d : Int) (ls : List LaneA) (ps : List PartA) : Prop := (∀ l, l ∈ ls → ∃ i, i < 20 ∧ l.nm = wn c i) ∧ ∀ p, p ∈ ps → ∃ i, i < 20 ∧ p.nm = wn d i
def sp__law_net : ASp := fun ds m Q _ => ∃ (ns : List Int) (start steps : Nat) (odd : Bool), ds = [.scr ns, .int (start : Int), .int (steps : Int), .bl odd] ∧ start ≤ 100 ∧ steps ≤ 4 ∧ (odd = true → 10 < kmx) ∧ ∀ (m' : Mu) (ls : List LaneA) (ps : List PartA), NetOk ls ps → (∀ l, l ∈ ls → LaneOkS l) → Nms (cel ns (start : Int)) (cel ns ((start : Int) + 1)) ls ps → Q (.tup [.lst (ls.map laneD), .lst (ps.map partT)]) m'
theorem len__law_net (ds : List D) (m : Mu) (Q : QD) (XX : XA) (h : sp__law_net ds m Q XX) : ds.length = 4 := by
  obtain ⟨_, _, _, _, rfl, _⟩ := h; rfl
theorem perm_rot {α : Type} (xs : List α) (n : Nat) : (xs.drop n ++ xs.take n).Perm xs := by
  have := List.perm_append_comm (l₁ := xs.drop n) (l₂ := xs.take n)
  rw [List.take_append_drop] at this
  exact this
theorem cutL_to {xs : List D} {k : Int} (h : 0 ≤ k) : cut xs none (some k) = xs.take k.toNat := cut_to h
theorem cutL_from {xs : List D} {k : Int} (h : 0 ≤ k) : cut xs (some k) none = xs.drop k.toNat := by
  unfold cut HT.sIx
  simp only []
  rw [if_neg (by omega)]
  by_cases hl : k.toNat ≤ xs.length
  · rw [Nat.min_eq_left hl, List.take_of_length_le (by rw [List.length_drop]; omega)]
  · rw [Nat.min_eq_right (by omega), List.drop_of_length_le (by omega), List.drop_of_length_le (by omega)]; simp
theorem pure__law_net (ds : List D) (m : Mu) (Q : QD) (XX : XA) (h : sp__law_net ds m Q XX) : t__law_net (endsOf Q XX) (slots N__law_net ds) m := by
  obtain ⟨ns, start, steps, odd, rfl, hs, ht, hodd, h⟩ := h
  refine k_seq (k_set (ev__law_cell (ev_cons (ev_var rfl) (ev_cons (ev_var rfl) ev_nil)) (by omega) (by omega)) (k_seq (k_set (ev__law_cell (ev_cons (ev_var rfl) (ev_cons (ev_op2 (ev_var rfl) ev_c o_add) ev_nil)) (by omega) (by omega)) (k_seq ?_))))
  generalize cel ns (start : Int) = one at h ⊢
  generalize cel ns ((start : Int) + 1) = other at h ⊢
  have mx : ∀ {e : De} {m : Mu} {i : Nat} {t : AE} {c : Int} (k : Int), e[i]? = some (some (.int c)) → Ev t e m (.int k) → 0 ≤ k → k < 1000000000 → Ev (aCall sp__law_mix [] (aCons (aVar i) (aCons t aNil))) e m (.int (mix c k)) := fun k he ht h0 h1 => ev__law_mix (ev_cons (ev_var he) (ev_cons ht ev_nil)) h0 h1
  refine k_setX (x_lstF (xa_consX ?_))
  refine ev_nil _ _ ⟨Nat.le_of_ble_eq_true rfl, fun p0 hp0 => xa_consX (ev_nil _ _ ⟨Nat.le_of_ble_eq_true rfl, fun p1 hp1 => xa_consX (ev_nil _ _ ⟨Nat.le_of_ble_eq_true rfl, fun p2 hp2 => xa_end (ev_cons (ev_var rfl) (ev_cons (ev_var rfl) ev_nil)) ⟨Nat.le_of_ble_eq_true rfl, k_seq ?_⟩⟩)⟩)⟩
  have n01 : p0 ≠ p1 := fun z => by rw [← z, mset_same] at hp1; cases hp1
  have n12 : p1 ≠ p2 := fun z => by rw [← z, mset_same] at hp2; cases hp2
  have n02 : p0 ≠ p2 := fun z => by rw [← z, mset_ne n01, mset_same] at hp2; cases hp2
  have sw : SW (mset (mset (mset m p0 (.lst [])) p1 (.lst [])) p2 (.lst [])) p0 p1 p2 [] [] [] := ⟨by rw [mset_ne n02, mset_ne n01]; exact mset_same, by rw [mset_ne n12]; exact mset_same, mset_same, n01, n02, n12⟩
  generalize mset (mset (mset m p0 (.lst [])) p1 (.lst [])) p2 (.lst []) = m0 at sw
  have b0 := Int.emod_nonneg (mix one 5) (show (2 : Int) ≠ 0 by decide)
  have b1 := Int.emod_lt_of_pos (mix one 5) (show (0 : Int) < 2 by decide)
  have c0 := Int.emod_nonneg (mix one 6) (show (3 : Int) ≠ 0 by decide)
  have c1 := Int.emod_lt_of_pos (mix one 6) (show (0 : Int) < 3 by decide)
  refine k_for (ei_rng1 (n := 1 + mix one 5 % 2) (ev_cons (ev_op2 ev_c (ev_op2 (mx 5 rfl ev_c (by decide) (by decide)) ev_c (o_mod (by decide))) o_add) ev_nil) (by omega) (by omega)) (fun i e' m' => ∃ (v : Option D) (ls : List LaneA) (ps : List PartA) (os : List Str), e' = [some (.scr ns), some (.int (start : Int)), some (.int (steps : Int)), some (.bl odd), some (.int one), some (.int other), some (stD p0 p1 p2 one other), v, none, none] ∧ SW m' p0 p1 p2 ls ps os ∧ Good (wn one) (wn other) ls ps os [] ∧ ls.length = i ∧ ps.length = i ∧ os.length = i) ⟨_, [], [], [], rfl, sw, good_nil, rfl, rfl, rfl⟩ (fun _ _ _ _ => trivial) ?_ ?_
  · rintro i d e' m' hd ⟨v, ls, ps, os, rfl, sw1, g1, l1, l2, l3⟩
    have hi := (List.getElem?_eq_some_iff.mp hd).1
    rw [rng_len] at hi
    obtain ⟨j, hj, rfl⟩ := rng_mem (List.mem_of_getElem? hd)
    refine bnd_name _ _ _ (k_dropC (ev_cons (ev_var rfl) (ev_cons (mx _ rfl (ev_var rfl) (by omega) (by omega)) (ev_cons ev_c (ev_cons (ev_lst ev_nil) (ev_cons (ev_lst ev_nil) (ev_cons ev_c ev_nil)))))) ⟨p0, p1, p2, one, other, _, 0, [], [], 1, ls, ps, os, rfl, sw1, by decide, by omega, by omega, by omega, fun m2 nl k1 k2 k3 sw2 => ?_⟩)
    obtain ⟨f, rfl⟩ := one_of k1
    refine ⟨_, _, _, _, rfl, sw2, good_part (p := ⟨0, wn other ps.length, [], [], [f].map LaneA.nm⟩) (rest := os) g1 (List.Perm.refl _) ⟨Nat.le_of_ble_eq_true rfl, rfl, fun v hv => (by cases hv), rfl, rfl⟩ rfl rfl (fun z => by cases z) k2 k3, ?_, ?_, ?_⟩
    · rw [List.length_append, l1]; rfl
    · rw [List.length_append, l2]; rfl
    · rw [List.length_append, l3]; rfl
  rintro e' m' ⟨v, ls, ps, os, rfl, sw1, g1, l1, l2, l3⟩
  rw [rng_len] at l1 l2 l3
  refine k_seq (k_setX (x_lcI (fun i acc m2 => ∃ (nl : List LaneA), nl.length = i ∧ acc = (nl.map LaneA.nm).map D.str ∧ Good (wn one) (wn other) (ls ++ nl) ps (os ++ nl.map LaneA.nm) (nl.map LaneA.nm) ∧ SW m2 p0 p1 p2 (ls ++ nl) ps os) (ei_rng1 (n := mix one 6 % 3) (ev_cons (ev_op2 (mx 6 rfl ev_c (by decide) (by decide)) ev_c (o_mod (by decide))) ev_nil) (by omega) (by omega)) ⟨[], rfl, rfl, by rw [List.append_nil]; show Good _ _ ls ps (os ++ []) []; rw [List.append_nil]; exact g1, by rw [List.append_nil]; exact sw1⟩ (fun _ _ _ _ => trivial) (by rw [rng_len, sizeLine_eq]; omega) (fun i d acc m2 hd _ hI => ?_) fun acc m2 _ hI => k_seq ?_))
  · obtain ⟨nl, k1, rfl, g2, sw2⟩ := hI
    have hi := (List.getElem?_eq_some_iff.mp hd).1
    rw [rng_len] at hi
    obtain ⟨j, hj, rfl⟩ := rng_mem (List.mem_of_getElem? hd)
    refine ⟨_, bnd_name, fun Q hq => x_call (ev_cons (ev_var rfl) (ev_cons (mx _ rfl (ev_op2 ev_c (ev_var rfl) o_add) (by omega) (by omega)) (ev_cons ev_c ev_nil))) ⟨p0, p1, p2, one, other, _, true, ls ++ nl, ps, os, rfl, sw2, by rw [List.length_append]; omega, fun m3 f n1 o1 sw3 => hq _ _ ⟨nl ++ [f], by rw [List.length_append, k1]; rfl, by rw [List.map_append, List.map_append]; rfl, ?_, by rw [← List.append_assoc]; exact sw3⟩⟩⟩
    have := good_lane g2 n1 o1
    rw [List.map_append, ← List.append_assoc, ← List.append_assoc]
    exact this
  obtain ⟨nl, k1, rfl, g2, sw2⟩ := hI
  rw [rng_len] at k1
  refine k_extend (ys := (nl.map LaneA.nm).map D.str) (st_2 rfl) (ev_cons (ev_var rfl) ev_nil) sw2.h2 rfl (by rw [List.length_map, List.length_map, List.length_map, sizeLine_eq]; omega) (k_seq ?_)
  have sw3 := sw2.s2 (os' := os ++ nl.map LaneA.nm) (xs := os.map D.str ++ (nl.map LaneA.nm).map D.str) (by rw [List.map_append])
  generalize mset m2 p2 (.lst (os.map D.str ++ (nl.map LaneA.nm).map D.str)) = m3 at sw3
  have hl3 : (ls ++ nl).length ≤ 4 := by rw [List.length_append]; omega
  have ho3 : 1 ≤ (os ++ nl.map LaneA.nm).length ∧ (os ++ nl.map LaneA.nm).length ≤ 4 := by rw [List.length_append, List.length_map]; omega
  refine k_for (ei_rng1 (n := (steps : Int)) (ev_cons (ev_var rfl) ev_nil) (by omega) (by omega)) (fun i e' m' => ∃ (v : Option D) (ls' : List LaneA) (ps' : List PartA) (os' : List Str), e' = [some (.scr ns), some (.int (start : Int)), some (.int (steps : Int)), some (.bl odd), some (.int one), some (.int other), some (stD p0 p1 p2 one other), v, some (.lst ((nl.map LaneA.nm).map D.str)), none] ∧ SW m' p0 p1 p2 ls' ps' os' ∧ Good (wn one) (wn other) ls' ps' os' (nl.map LaneA.nm) ∧ ls'.length ≤ 4 + 2 * i ∧ ps'.length ≤ 2 + 2 * i ∧ 1 ≤ os'.length ∧ os'.length ≤ 4) ⟨_, ls ++ nl, ps, os ++ nl.map LaneA.nm, rfl, sw3, g2, hl3, by omega, ho3.1, ho3.2⟩ (fun _ _ _ _ => trivial) ?_ ?_
  · rintro i d e' m' hd ⟨v, ls', ps', os', rfl, s4, g4, q1, q2, q3, q4⟩
    have hi := (List.getElem?_eq_some_iff.mp hd).1
    rw [rng_len, Int.toNat_natCast] at hi
    obtain ⟨j, hj, rfl⟩ := rng_mem (List.mem_of_getElem? hd)
    rw [Int.toNat_natCast] at hj
    exact bnd_name _ _ _ (k_dropC (ev_cons (ev_var rfl) (ev_cons (ev__law_cell (ev_cons (ev_var rfl) (ev_cons (ev_op2 (ev_op2 (ev_var rfl) ev_c o_add) (ev_var rfl) o_add) ev_nil)) (by omega) (by omega)) (ev_cons (ev_var rfl) ev_nil))) ⟨p0, p1, p2, one, other, _, odd, ls', ps', os', _, rfl, hodd, s4, g4, q3, q4, by omega, by omega, fun m5 ls5 ps5 os5 g5 w1 w2 w3 w4 s5 => ⟨_, ls5, ps5, os5, rfl, s5, g5, by omega, by omega, w3, w4⟩⟩)
  rintro e' m' ⟨v, ls', ps', os', rfl, s4, g4, q1, q2, q3, q4⟩
  rw [rng_len, Int.toNat_natCast] at q1 q2
  refine k_seq (k_dropC (ev_cons (ev_var rfl) (ev_cons (ev_var rfl) (ev_cons (ev_var rfl) ev_nil))) ⟨p0, p1, p2, one, other, other, ls', ps', os', nl.map LaneA.nm, rfl, s4, g4, q3, q4, by rw [List.length_map]; omega, by omega, by omega, fun m5 ls5 ps5 ok los nm1 nm2 s5 => k_seq ?_⟩)
  have hlp : (ps5.map partT).length = ps5.length := List.length_map ..
  have np := ok ps5 (List.Perm.refl _)
  have p1' := np.p1
  have a0 := Int.emod_nonneg (mix one 7) (show ((ps5.map partT).length : Int) ≠ 0 by omega)
  refine k_set (ev_op2 (mx 7 rfl ev_c (by decide) (by decide)) (ev_opA (ev_cons (st_1 rfl) ev_nil) (o_lenC s5.h1)) (o_mod (by omega))) ?_
  generalize mix one 7 % ((ps5.map partT).length : Int) = at_ at *
  refine k_retX (x_tup (xa_consX (x_fzL (st_0 rfl) s5.h0 (xa_end (ev_cons (d := .lst (((ps5.drop at_.toNat) ++ (ps5.take at_.toNat)).map partT)) ?_ ev_nil) ⟨Nat.le_of_ble_eq_true rfl, h _ ls5 _ (ok _ (perm_rot ps5 at_.toNat)) los ⟨fun l hl => let ⟨i, hi, e⟩ := nm1 l hl; ⟨i, by omega, e⟩, fun p hp => let ⟨i, hi, e⟩ := nm2 p ((perm_rot ps5 at_.toNat).subset hp); ⟨i, by omega, e⟩⟩⟩))))
  have h5 : mdel m5 p0 p1 = some (.lst (ps5.map partT)) := by unfold mdel; rw [if_neg (Ne.symm s5.n01)]; exact s5.h1
  have e1 : ((ps5.drop at_.toNat) ++ (ps5.take at_.toNat)).map partT = cut (ps5.map partT) (some at_) none ++ cut (ps5.map partT) none (some at_) := by
    rw [cutL_from a0, cutL_to a0, List.map_append, List.map_drop, List.map_take]
  rw [e1]
  have cl : ∀ {l h : Option Int}, (cut (ps5.map partT) l h).length ≤ ps5.length := fun {l h} => by
    unfold cut
    rw [List.length_take, List.length_drop, hlp]; omega
  have p2' := np.p2
  refine ev_op2 (x := .lst (cut (ps5.map partT) (some at_) none)) (y := .lst (cut (ps5.map partT) none (some at_))) (ev_sl (x := .cell p1) (st_1 rfl) (ev_P (ev_var rfl)) ev_noP ?_) (ev_sl (x := .cell p1) (st_1 rfl) ev_noP (ev_P (ev_var rfl)) ?_) (o_addLL (by have a := cl (l := some at_) (h := none); have b := cl (l := none) (h := some at_); rw [sizeLine_eq]; omega))
  · exact fun Q q => ⟨_, by show oL (mdel m5 p0 p1) = _; rw [h5]; rfl, q⟩
  · exact fun Q q => ⟨_, by show oL (mdel m5 p0 p1) = _; rw [h5]; rfl, q⟩
/-! law -/
def t_law (K : PySem.W.Frag) : AS :=
    (aSeq (aAsg (aCall sp__law_net [] (aCons (aVar 0) (aCons (aC (.int 1)) (aCons (aOp (bAdd false) (aC (.int 1)) (aOp bMod (aCall sp__law_cell [] (aCons (aVar 0) (aCons (aC (.int 0)) aNil))) (aC (.int 4)))) (aCons (aC (.bl true)) aNil))))) (agTup 2 (agCons (agName 4) (agCons (agName 10) agNil))))
    (aSeq (aSet 1 (aOp bDiv (aCall sp__law_cell [] (aCons (aVar 0) (aCons (aC (.int 0)) aNil))) (aC (.int 4))))
    (aSeq (aAsg (aOp bIx (aVar 4) (aOp bMod (aVar 1) (aCB bLen (aCons (aVar 4) aNil)))) (agTup 3 (agCons (agName 11) (agCons (agName 3) (agCons (agName 2) agNil)))))
    (aSeq (aSet 2 (aOp (bAdd false) (aVar 2) (aLc false (aiRng1 (aCons (aOp bMod (aOp bDiv (aVar 1) (aC (.int 17))) (aC (.int 190))) aNil)) (agName 12) aYes (aCall sp__law_value [] (aCons (aVar 1) (aCons (aOp (bAdd false) (aC (.int 40)) (aVar 12)) aNil))) [12])))
    (aSeq (aSet 3 (aCB bMax2 (aCons (aVar 3) (aCons (aCB bLen (aCons (aVar 2) aNil)) aNil))))
    (aSeq (aSet 4 (aLc false (aiSeq (aVar 4)) (agName 13) aYes (aIf (aB (aOp bEqT (aOp bIx (aVar 13) (aC (.int 0))) (aVar 11))) (aTup (aCons (aVar 11) (aCons (aVar 3) (aCons (aVar 2) aNil)))) (aVar 13)) [13]))
    (aSeq (aSet 5 (aCall sp__law_told [] (aCons (aVar 4) (aCons (aVar 10) aNil))))
    (aSeq (aSet 6 (aFzN (aMake (He.ga K "Net") (sp_Net___init__ K) [] (aCons (aVar 4) (aCons (aVar 10) aNil)))))
    (aSeq (aSet 7 (aBM "str" bJoin (aC (.str "\n")) (aCons (aCall sp__law_rows [] (aCons (aVar 4) (aCons (aVar 10) aNil))) aNil)))
    (aSeq (aSet 8 (aCall (sp_show_net K) [] (aCons (aVar 6) aNil)))
    (aSeq (aIfS (aOr (aNot (aB (aIsi K "str" (aVar 8)))) (aB (aOp bNeT (aVar 8) (aVar 7))))
    (aRet (aC (.bl false)))
    aNext)
    (aSeq (aSet 9 (aCall (sp_read_net K) [] (aCons (aVar 7) aNil)))
    (aRet (aAndV (aOp bEqT (aMeth "told" (T_told K) (aVar 9) aNil) (aVar 5)) (aAndV (aOp bEqT (aCall (sp_show_net K) [] (aCons (aVar 9) aNil)) (aVar 7)) (aAndV (aOp bEqT (aMeth "told" (T_told K) (aVar 6) aNil) (aVar 5)) (aOp bEqT (aCall (sp_show_net K) [] (aCons (aVar 6) aNil)) (aVar 7))))))))))))))))))
abbrev N_law : List Str := ["_law_script", "_law_more", "_law_first", "_law_room", "_law_lanes", "_law_due", "_law_net_here", "_law_text", "_law_found", "_law_other", "_law_parts", "_law_name", "_law_k", "_law_lane_here"]
def sp_law (K : PySem.W.Frag) : ASp := fun ds m Q _ => KN K ∧ ∃ ns : List Int, ds = [.scr ns] ∧ ∀ m', Q (.bl true) m'
theorem len_law {K : PySem.W.Frag} (ds : List D) (m : Mu) (Q : QD) (XX : XA) (h : sp_law K ds m Q XX) : ds.length = 1 := by
  obtain ⟨_, a, rfl, _⟩ := h; rfl
theorem told_dok {ls : List LaneA} {ps : List PartA} (ok : NetOk ls ps) : DOk (.tup [.lst (ls.map laneTD), .lst (ps.map partTD)]) := by
  have kd : ∀ i, i < 11 → PyData.strOk (kt i).kind = true := by
    refine cases11 ?_ ?_ ?_ ?_ ?_ ?_ ?_ ?_ ?_ ?_ ?_ <;> decide +kernel
  refine ⟨4, by decide, .tup fun x hx => ?_⟩
  simp only [List.mem_cons, List.not_mem_nil, or_false] at hx
  rcases hx with rfl | rfl
  · refine .lst fun y hy => ?_
    obtain ⟨l, hl, rfl⟩ := List.mem_map.mp hy
    refine .tup fun z hz => ?_
    simp only [List.mem_cons, List.not_mem_nil, or_false] at hz
    rcases hz with rfl | rfl | rfl
    · exact .str (ok.li l hl).2.2
    · exact .int
    · refine .tup fun w hw => ?_
      obtain ⟨n, _, rfl⟩ := List.mem_map.mp hw
      exact .int
  · refine .lst fun y hy => ?_
    obtain ⟨p, hp, rfl⟩ := List.mem_map.mp hy
    refine .tup fun z hz => ?_
    simp only [List.mem_cons, List.not_mem_nil, or_false] at hz
    rcases hz with rfl | rfl | rfl | rfl | rfl
    · exact .str (kd _ (ok.pok p hp).k)
    · exact .str (ok.pl p hp).2.2
    · refine .tup fun w hw => ?_
      obtain ⟨n, _, rfl⟩ := List.mem_map.mp hw
      exact .int
    · refine .tup fun w hw => ?_
      obtain ⟨s, hs, rfl⟩ := List.mem_map.mp hw
      exact .str (part_inc ok hp (List.mem_append_left _ hs)).2.2
    · refine .tup fun w hw => ?_
      obtain ⟨s, hs, rfl⟩ := List.mem_map.mp hw
      exact .str (part_inc ok hp (List.mem_append_right _ hs)).2.2
theorem net_swap {ls ls' : List LaneA} {ps : List PartA} (ok : NetOk ls ps) (hn : ls'.map LaneA.nm = ls.map LaneA.nm) (lok : ∀ l, l ∈ ls' → LaneOk l) : NetOk ls' ps := by
  have hl : ls'.length = ls.length := by have := congrArg List.length hn; rw [List.length_map, List.length_map] at this; exact this
  refine ⟨hl ▸ ok.l1, hl ▸ ok.l2, ok.p1, ok.p2, by rw [hn]; exact ok.ld, fun l h => ?_, lok, ok.pd, ok.pl, ok.pok, by rw [hn]; exact ok.pi, by rw [hn]; exact ok.po, ok.cn⟩
  have : l.nm ∈ ls'.map LaneA.nm := List.mem_map.mpr ⟨l, h, rfl⟩
  rw [hn] at this
  obtain ⟨l0, h0, e⟩ := List.mem_map.mp this
  rw [← e]; exact ok.li l0 h0
def swapL (nm : Str) (room : Int) (first : List Int) (q : LaneA) : LaneA := if q.nm = nm then ⟨nm, room, first⟩ else q
theorem eqT_self {x : D} {m : Mu} (h : DOk (vw2 m x)) : Op2 bEqT x x m (.bl true) := fun Q q => .inl ⟨h, h, by rw [eqD_refl h]; exact q⟩
theorem o_eqTS {s t : Str} {m : Mu} : Op2 bEqT (.str s) (.str t) m (.bl (decide (s = t))) := fun Q q => .inr (o_eqS Q q)
theorem pure_law {K : PySem.W.Frag} (ds : List D) (m : Mu) (Q : QD) (XX : XA) (h : sp_law K ds m Q XX) : t_law K (endsOf Q XX) (slots N_law ds) m := by
  obtain ⟨kn, ns, rfl, h⟩ := h
  have hs := sizeLine_eq
  have cellE : ∀ {e : De} {m : Mu}, e[0]? = some (some (.scr ns)) → Ev (aCall sp__law_cell [] (aCons (aVar 0) (aCons (aC (.int 0)) aNil))) e m (.int (cel ns 0)) := fun he => ev__law_cell (ev_cons (ev_var he) (ev_cons ev_c ev_nil)) (by decide) (by decide)
  have s0 := Int.emod_nonneg (cel ns 0) (show (4 : Int) ≠ 0 by decide)
  have s1 := Int.emod_lt_of_pos (cel ns 0) (show (0 : Int) < 4 by decide)
  refine k_seq (k_asgC (ev_cons (ev_var rfl) (ev_cons ev_c (ev_cons ((ev_op2 ev_c (ev_op2 (cellE rfl) ev_c (o_mod (by decide))) o_add).to (congrArg D.int (Int.toNat_of_nonneg (show 0 ≤ 1 + cel ns 0 % 4 by omega)).symm)) (ev_cons ev_c ev_nil)))) ⟨ns, 1, (1 + cel ns 0 % 4).toNat, true, rfl, by decide, by omega, fun _ => by decide, fun m1 ls ps ok los nms => bnd_tup (bnds_cons bnd_name (bnds_cons bnd_name bnds_nil)) rfl _ _ _ (k_seq ?_)⟩)
  refine k_set (ev_op2 (cellE rfl) ev_c (o_divI (by walk_at "sd"))) (k_seq ?_)
  generalize cel ns 0 / 4 = more
  have l1 := ok.l1
  have l2 := ok.l2
  have j0 := Int.emod_nonneg more (show ((ls.map laneD).length : Int) ≠ 0 by rw [List.length_map]; omega)
  have j1 := Int.emod_lt_of_pos more (show (0 : Int) < ((ls.map laneD).length : Int) by rw [List.length_map]; omega)
  have jl : (more % ((ls.map laneD).length : Int)).toNat < ls.length := by rw [List.length_map] at j1 j0 ⊢; omega
  obtain ⟨l, hl⟩ : ∃ l, ls[(more % ((ls.map laneD).length : Int)).toNat]? = some l := ⟨_, List.getElem?_eq_getElem jl⟩
  have hm := List.mem_of_getElem? hl
  have okl := los l hm
  have r0 := okl.r0
  have r1 := okl.r1
  have fl := okl.fl
  have f9 := okl.f9
  refine k_asg (d := laneD l) (ev_op2 (ev_var rfl) (ev_op2 (ev_var rfl) (ev_opA (ev_cons (ev_var rfl) ev_nil) o_lenL) (o_mod (by rw [List.length_map]; omega))) (o_ixL (atI_int j0 (by rw [List.getElem?_map, hl]; rfl)))) (bnd_tup (bnds_cons bnd_name (bnds_cons bnd_name (bnds_cons bnd_name bnds_nil)))) (k_seq ?_)
  have k0 := Int.emod_nonneg (more / 17) (show (190 : Int) ≠ 0 by decide)
  have k1 := Int.emod_lt_of_pos (more / 17) (show (0 : Int) < 190 by decide)
  refine k_setX (x_op2 (ev_var rfl _ _ (x_lcP IsV (ei_rng1 (n := more / 17 % 190) (ev_cons (ev_op2 (ev_op2 (ev_var rfl) ev_c (o_divI (by walk_at "sd"))) ev_c (o_mod (by decide))) ev_nil) (by omega) (by omega)) trivial (by rw [rng_len, hs]; omega) (fun d hd => ?_) fun xs lx hx => ?_)))
  · obtain ⟨j, hj, rfl⟩ := rng_mem hd
    exact ⟨_, bnd_name, fun Q X q => x_call (ev_cons (ev_var rfl) (ev_cons (ev_op2 ev_c (ev_var rfl) o_add) ev_nil)) ⟨more, _, rfl, by omega, by omega, fun v hv => q _ ⟨v, rfl, hv⟩⟩⟩
  obtain ⟨vs, rfl, ln, hv⟩ := ints_of xs hx
  rw [lx, rng_len] at ln
  refine o_addLL (xs := l.first.map D.int) (ys := vs.map D.int) (by rw [List.length_map, List.length_map, hs]; omega) _ (k_seq ?_)
  rw [← List.map_append]
  have fv : ∀ v, v ∈ l.first ++ vs → isVal v = true := fun v hv' => (List.mem_append.mp hv').elim (okl.fv v) (hv v)
  have fn : (l.first ++ vs).length ≤ 198 := by rw [List.length_append]; omega
  generalize l.first ++ vs = first at fv fn
  refine k_set (ev_opA (ev_cons (ev_var rfl) (ev_cons (ev_opA (ev_cons (ev_var rfl) ev_nil) o_lenL) ev_nil)) o_max2) (k_seq ?_)
  rw [List.length_map]
  have q0 : 1 ≤ max l.room (first.length : Int) ∧ max l.room (first.length : Int) ≤ 199 ∧ (first.length : Int) ≤ max l.room (first.length : Int) := by omega
  generalize max l.room (first.length : Int) = room at q0
  have ok' : NetOk (ls.map (swapL l.nm room first)) ps := by
    refine net_swap ok ?_ fun q hq => ?_
    · rw [List.map_map]
      refine List.map_congr_left fun q _ => ?_
      show (if q.nm = l.nm then (⟨l.nm, room, first⟩ : LaneA) else q).nm = q.nm
      split
      · rename_i e; exact e.symm
      · rfl
    · obtain ⟨q, hq0, rfl⟩ := List.mem_map.mp hq
      unfold swapL
      split
      · exact ⟨q0.1, q0.2.1, q0.2.2, fv⟩
      · exact ok.lok q hq0
  refine k_set (d := .lst ((ls.map (swapL l.nm room first)).map laneD)) ((ev_lcG ls laneD (fun _ => true) (fun q => laneD (swapL l.nm room first q)) (ei_seq (xs := ls.map laneD) (ev_var rfl) rfl) rfl (by rw [hs]; omega) fun q hq => ⟨_, bnd_name, fun _ _ z => z, fun _ => ev_if (b := decide (q.nm = l.nm)) (et_B (ev_op2 (ev_op2 (ev_var rfl) ev_c (o_ixT (d := .str q.nm) rfl)) (ev_var rfl) o_eqTS)) (fun z => ?_) fun z => ?_⟩).to (by rw [List.filter_eq_self.mpr (fun _ _ => rfl), List.map_map]; rfl)) (k_seq ?_)
  · have e : swapL l.nm room first q = ⟨l.nm, room, first⟩ := if_pos (of_decide_eq_true z)
    rw [e]
    exact ev_tup (ev_cons (ev_var rfl) (ev_cons (ev_var rfl) (ev_cons (ev_var rfl) ev_nil)))
  · have e : swapL l.nm room first q = q := if_neg (of_decide_eq_false z)
    rw [e]
    exact ev_var rfl
  generalize ls.map (swapL l.nm room first) = ls2 at ok'
  have td := told_dok ok'
  have tn := netTx_len ok'
  refine k_set (ev__law_told (ev_cons (ev_var rfl) (ev_cons (ev_var rfl) ev_nil)) ok') (k_seq ?_)
  refine k_setX (x_net kn (ev_cons (ev_var rfl) (ev_cons (ev_var rfl) ev_nil)) rfl rfl (rows_map (f := laneD) (laneR_D _) ls2) (rows_map (f := partT) (partR_T _) ps) ok' (k_seq ?_))
  refine k_set (d := .str (netTx ls2 ps)) (ev_opM ev_c (ev_cons (ev__law_rows (ev_cons (ev_var rfl) (ev_cons (ev_var rfl) ev_nil)) ok') ev_nil) (o_join (ys := netRows ls2 ps) rfl (rows_fit ok')) td_str) (k_seq ?_)
  refine k_set (ev_show_net kn (ev_cons (ev_var rfl) ev_nil) ok') (k_seq ?_)
  refine k_ifF (et_or (b := false) (c := false) ((et_not (et_B (ev_isi (ev_var rfl) ty_str))).to rfl) fun _ => (et_B (ev_op2 (ev_var rfl) (ev_var rfl) (o_neTb o_neS))).to (by rw [decide_eq_true rfl]; rfl)) rfl (k_next (k_seq ?_))
  refine k_setX (x_read_net kn (ev_cons (ev_var rfl) ev_nil) ok' fun m2 _ => ?_)
  have ot : ∀ {e : De} {m : Mu} {i : Nat}, e[i]? = some (some (netD K ls2 ps)) → e[5]? = some (some (.tup [.lst (ls2.map laneTD), .lst (ps.map partTD)])) → Ev (aOp bEqT (aMeth "told" (T_told K) (aVar i) aNil) (aVar 5)) e m (.bl true) := fun hi h5 => ev_op2 (ev_methO (ev_var hi) rfl (List.mem_of_getElem? (i := 0) rfl) ev_nil fun Q X q => ⟨kn, ls2, ps, rfl, ok', q⟩) (ev_var h5) (eqT_self td)
  have sh : ∀ {e : De} {m : Mu} {i : Nat}, e[i]? = some (some (netD K ls2 ps)) → e[7]? = some (some (.str (netTx ls2 ps))) → Ev (aOp bEqT (aCall (sp_show_net K) [] (aCons (aVar i) aNil)) (aVar 7)) e m (.bl true) := fun hi h7 => (ev_op2 (ev_show_net kn (ev_cons (ev_var hi) ev_nil) ok') (ev_var h7) o_eqTS).to (by rw [decide_eq_true rfl])
  exact k_ret ((ev_andV (ot rfl rfl) fun _ => ev_andV (sh rfl rfl) fun _ => ev_andV (ot rfl rfl) fun _ => sh rfl rfl).to rfl) (h _)
theorem pfs_in : ∀ f, f ∈ PFs → f ∈ (["name", "numbers", "ins", "outs", "rooms", "firsts", "givers", "takers", "members"] : List Str) := by decide +kernel
theorem nfs_in : ∀ f, f ∈ (["rooms", "firsts", "givers", "takers", "members"] : List Str) → f ∈ (["name", "numbers", "ins", "outs", "rooms", "firsts", "givers", "takers", "members"] : List Str) := by decide +kernel
theorem law_true {K : PySem.W.Frag} (kx : KX K) (hk : KF K) (ns : List Int) (_ : ns.length ≤ 63) : sp_law K [.scr ns] (fun _ => none) (fun d _ => d = .bl true) (fun _ _ => False) :=
  ⟨⟨by
    refine cases11 ?_ ?_ ?_ ?_ ?_ ?_ ?_ ?_ ?_ ?_ ?_ <;> exact fun f hf => hk _ (by decide +kernel) f (pfs_in f hf), fun f hf => hk _ (by decide +kernel) f (nfs_in f hf)⟩, ns, rfl, fun _ => rfl⟩
/-- what the top has written -/
structure Gf (K : PySem.W.Frag) (mg : Str → Option Value) : Prop where
  free_str : mg "str" = none
  free_list : mg "list" = none
  free_isinstance : mg "isinstance" = none
  free_int : mg "int" = none
  free_bool : mg "bool" = none
  gint_VALUES : ∃ t, mg "VALUES" = some (.int 1000000000 t)
  free_tuple : mg "tuple" = none
  free_len : mg "len" = none
  gstr_LETTERS : ∃ t, mg "LETTERS" = some (.str "abcdefghijklmnopqrstuvwxyz" t)
  gstr_FIGURES : ∃ t, mg "FIGURES" = some (.str "0123456789" t)
  gint_MOST_ROOM : ∃ t, mg "MOST_ROOM" = some (.int 199 t)
  gint_MOST_LANES : ∃ t, mg "MOST_LANES" = some (.int 24 t)
  gint_MOST_PARTS : ∃ t, mg "MOST_PARTS" = some (.int 16 t)
  free_all : mg "all" = none
  exc_BadWord : ExF K mg "BadWord"
  gint_MOST_NUMBER : ∃ t, mg "MOST_NUMBER" = some (.int 999999999 t)
  free_enumerate : mg "enumerate" = none
  free_range : mg "range" = none
  free_max : mg "max" = none
section
variable {P : Program} {w : World} {K : PySem.W.Frag} {mg : Str → Option Value} {base : Heap}
theorem sc_part_shown : FnScope N_part_shown ["one"] (defScope (topS 54)) := ⟨rfl, rfl, rfl, by decide +kernel, rfl, by decide +kernel, by decide +kernel⟩
theorem ok_part_shown (T : Gf K mg) {f : Addr} {fd : FuncData} (F : FunD K "part_shown" "part_shown" (defArgs (topS 54)) (defBody (topS 54)) (defScope (topS 54)) [] [] f fd) : FnOk P w K mg base (L2.CX P w) 1 f fd ["one"] (spOf K sp_part_shown) :=
  mkFn (t := t_part_shown) F sc_part_shown len_part_shown (fun cdv A outer s H E hr => by
    unfold t_part_shown
    exact (qss_cons (qs_asg (qg_tup rfl (qgs_cons (qg_name 2 sc_part_shown.nd) (qgs_cons (qg_name 3 sc_part_shown.nd) (qgs_cons (qg_name 4 sc_part_shown.nd) (qgs_cons (qg_name 5 sc_part_shown.nd) (qgs_cons (qg_name 6 sc_part_shown.nd) qgs_nil)))))) (qv 0))
    (qss_cons (qs_set 1 sc_part_shown.nd (q_add false (q_lst false (qa_cons (qv 2) (qa_cons (qv 3) qa_nil))) (q_lc false [("number", 7)] rfl sc_part_shown.nd (qi_seq (qv 4)) (blkOk_by (N := N_part_shown) (sc := defScope (topS 54)) (by decide +kernel)) (fun _ _ _ _ _ => (qg_name 7 sc_part_shown.nd)) (fun _ _ _ _ _ => qts_nil) (fun _ _ _ _ _ => (q_str_ T.free_str (qa_cons (qv 7) qa_nil))))))
    (qss_one (qs_ret (q_bm s_join PySem.F.plainAttrs_str PySem.F.slot_str_join PySem.F.type_str_join mt_join q_str (qa_cons (q_add false (q_add false (q_add false (q_add false (qv 1) (q_lst false (qa_cons q_str qa_nil))) (q_list false rfl T.free_list (qa_cons (qv 5) qa_nil))) (q_lst false (qa_cons q_str qa_nil))) (q_list false rfl T.free_list (qa_cons (qv 6) qa_nil))) qa_nil))))))) pure_part_shown
theorem sc_lane_shown : FnScope N_lane_shown ["lane"] (defScope (topS 53)) := ⟨rfl, rfl, rfl, by decide +kernel, rfl, by decide +kernel, by decide +kernel⟩
theorem ok_lane_shown (T : Gf K mg) {f : Addr} {fd : FuncData} (F : FunD K "lane_shown" "lane_shown" (defArgs (topS 53)) (defBody (topS 53)) (defScope (topS 53)) [] [] f fd) : FnOk P w K mg base (L2.CX P w) 1 f fd ["lane"] (spOf K sp_lane_shown) :=
  mkFn (t := t_lane_shown) F sc_lane_shown len_lane_shown (fun cdv A outer s H E hr => by
    unfold t_lane_shown
    exact (qss_cons (qs_asg (qg_tup rfl (qgs_cons (qg_name 1 sc_lane_shown.nd) (qgs_cons (qg_name 2 sc_lane_shown.nd) (qgs_cons (qg_name 3 sc_lane_shown.nd) qgs_nil)))) (qv 0))
    (qss_one (qs_ret (q_bm s_join PySem.F.plainAttrs_str PySem.F.slot_str_join PySem.F.type_str_join mt_join q_str (qa_cons (q_add false (q_lst false (qa_cons q_str (qa_cons (qv 1) (qa_cons (q_str_ T.free_str (qa_cons (qv 2) qa_nil)) qa_nil)))) (q_lc false [("value", 4)] rfl sc_lane_shown.nd (qi_seq (qv 3)) (blkOk_by (N := N_lane_shown) (sc := defScope (topS 53)) (by decide +kernel)) (fun _ _ _ _ _ => (qg_name 4 sc_lane_shown.nd)) (fun _ _ _ _ _ => qts_nil) (fun _ _ _ _ _ => (q_str_ T.free_str (qa_cons (qv 4) qa_nil))))) qa_nil)))))) pure_lane_shown
theorem sc_Give_kind : FnScope N_Give_kind ["self"] (defScope (inClass (topS 25) 0)) := ⟨rfl, rfl, rfl, by decide +kernel, rfl, by decide +kernel, by decide +kernel⟩
theorem ok_Give_kind (T : Gf K mg) {f : Addr} {fd : FuncData} (F : FunD K "kind" "Give.kind" (defArgs (inClass (topS 25) 0)) (defBody (inClass (topS 25) 0)) (defScope (inClass (topS 25) 0)) [] [] f fd) : FnOk P w K mg base (L2.CX P w) 1 f fd ["self"] (spOf K sp_Give_kind) :=
  mkFn (t := t_Give_kind) F sc_Give_kind len_Give_kind (fun cdv A outer s H E hr => by
    unfold t_Give_kind
    exact (qss_one (qs_ret q_str))) pure_Give_kind
theorem sc_Take_kind : FnScope N_Take_kind ["self"] (defScope (inClass (topS 26) 0)) := ⟨rfl, rfl, rfl, by decide +kernel, rfl, by decide +kernel, by decide +kernel⟩
theorem ok_Take_kind (T : Gf K mg) {f : Addr} {fd : FuncData} (F : FunD K "kind" "Take.kind" (defArgs (inClass (topS 26) 0)) (defBody (inClass (topS 26) 0)) (defScope (inClass (topS 26) 0)) [] [] f fd) : FnOk P w K mg base (L2.CX P w) 1 f fd ["self"] (spOf K sp_Take_kind) :=
  mkFn (t := t_Take_kind) F sc_Take_kind len_Take_kind (fun cdv A outer s H E hr => by
    unfold t_Take_kind
    exact (qss_one (qs_ret q_str))) pure_Take_kind
theorem sc_Pass_kind : FnScope N_Pass_kind ["self"] (defScope (inClass (topS 27) 0)) := ⟨rfl, rfl, rfl, by decide +kernel, rfl, by decide +kernel, by decide +kernel⟩
theorem ok_Pass_kind (T : Gf K mg) {f : Addr} {fd : FuncData} (F : FunD K "kind" "Pass.kind" (defArgs (inClass (topS 27) 0)) (defBody (inClass (topS 27) 0)) (defScope (inClass (topS 27) 0)) [] [] f fd) : FnOk P w K mg base (L2.CX P w) 1 f fd ["self"] (spOf K sp_Pass_kind) :=
  mkFn (t := t_Pass_kind) F sc_Pass_kind len_Pass_kind (fun cdv A outer s H E hr => by
    unfold t_Pass_kind
    exact (qss_one (qs_ret q_str))) pure_Pass_kind
theorem sc_Copy_kind : FnScope N_Copy_kind ["self"] (defScope (inClass (topS 28) 0)) := ⟨rfl, rfl, rfl, by decide +kernel, rfl, by decide +kernel, by decide +kernel⟩
theorem ok_Copy_kind (T : Gf K mg) {f : Addr} {fd : FuncData} (F : FunD K "kind" "Copy.kind" (defArgs (inClass (topS 28) 0)) (defBody (inClass (topS 28) 0)) (defScope (inClass (topS 28) 0)) [] [] f fd) : FnOk P w K mg base (L2.CX P w) 1 f fd ["self"] (spOf K sp_Copy_kind) :=
  mkFn (t := t_Copy_kind) F sc_Copy_kind len_Copy_kind (fun cdv A outer s H E hr => by
    unfold t_Copy_kind
    exact (qss_one (qs_ret q_str))) pure_Copy_kind
theorem sc_Turn_kind : FnScope N_Turn_kind ["self"] (defScope (inClass (topS 29) 0)) := ⟨rfl, rfl, rfl, by decide +kernel, rfl, by decide +kernel, by decide +kernel⟩
theorem ok_Turn_kind (T : Gf K mg) {f : Addr} {fd : FuncData} (F : FunD K "kind" "Turn.kind" (defArgs (inClass (topS 29) 0)) (defBody (inClass (topS 29) 0)) (defScope (inClass (topS 29) 0)) [] [] f fd) : FnOk P w K mg base (L2.CX P w) 1 f fd ["self"] (spOf K sp_Turn_kind) :=
  mkFn (t := t_Turn_kind) F sc_Turn_kind len_Turn_kind (fun cdv A outer s H E hr => by
    unfold t_Turn_kind
    exact (qss_one (qs_ret q_str))) pure_Turn_kind
theorem sc_Heap_kind : FnScope N_Heap_kind ["self"] (defScope (inClass (topS 30) 0)) := ⟨rfl, rfl, rfl, by decide +kernel, rfl, by decide +kernel, by decide +kernel⟩
theorem ok_Heap_kind (T : Gf K mg) {f : Addr} {fd : FuncData} (F : FunD K "kind" "Heap.kind" (defArgs (inClass (topS 30) 0)) (defBody (inClass (topS 30) 0)) (defScope (inClass (topS 30) 0)) [] [] f fd) : FnOk P w K mg base (L2.CX P w) 1 f fd ["self"] (spOf K sp_Heap_kind) :=
  mkFn (t := t_Heap_kind) F sc_Heap_kind len_Heap_kind (fun cdv A outer s H E hr => by
    unfold t_Heap_kind
    exact (qss_one (qs_ret q_str))) pure_Heap_kind
theorem sc_Add_kind : FnScope N_Add_kind ["self"] (defScope (inClass (topS 31) 0)) := ⟨rfl, rfl, rfl, by decide +kernel, rfl, by decide +kernel, by decide +kernel⟩
theorem ok_Add_kind (T : Gf K mg) {f : Addr} {fd : FuncData} (F : FunD K "kind" "Add.kind" (defArgs (inClass (topS 31) 0)) (defBody (inClass (topS 31) 0)) (defScope (inClass (topS 31) 0)) [] [] f fd) : FnOk P w K mg base (L2.CX P w) 1 f fd ["self"] (spOf K sp_Add_kind) :=
  mkFn (t := t_Add_kind) F sc_Add_kind len_Add_kind (fun cdv A outer s H E hr => by
    unfold t_Add_kind
    exact (qss_one (qs_ret q_str))) pure_Add_kind
theorem sc_Less_kind : FnScope N_Less_kind ["self"] (defScope (inClass (topS 32) 0)) := ⟨rfl, rfl, rfl, by decide +kernel, rfl, by decide +kernel, by decide +kernel⟩
theorem ok_Less_kind (T : Gf K mg) {f : Addr} {fd : FuncData} (F : FunD K "kind" "Less.kind" (defArgs (inClass (topS 32) 0)) (defBody (inClass (topS 32) 0)) (defScope (inClass (topS 32) 0)) [] [] f fd) : FnOk P w K mg base (L2.CX P w) 1 f fd ["self"] (spOf K sp_Less_kind) :=
  mkFn (t := t_Less_kind) F sc_Less_kind len_Less_kind (fun cdv A outer s H E hr => by
    unfold t_Less_kind
    exact (qss_one (qs_ret q_str))) pure_Less_kind
theorem sc_Order_kind : FnScope N_Order_kind ["self"] (defScope (inClass (topS 33) 0)) := ⟨rfl, rfl, rfl, by decide +kernel, rfl, by decide +kernel, by decide +kernel⟩
theorem ok_Order_kind (T : Gf K mg) {f : Addr} {fd : FuncData} (F : FunD K "kind" "Order.kind" (defArgs (inClass (topS 33) 0)) (defBody (inClass (topS 33) 0)) (defScope (inClass (topS 33) 0)) [] [] f fd) : FnOk P w K mg base (L2.CX P w) 1 f fd ["self"] (spOf K sp_Order_kind) :=
  mkFn (t := t_Order_kind) F sc_Order_kind len_Order_kind (fun cdv A outer s H E hr => by
    unfold t_Order_kind
    exact (qss_one (qs_ret q_str))) pure_Order_kind
theorem sc_Choose_kind : FnScope N_Choose_kind ["self"] (defScope (inClass (topS 34) 0)) := ⟨rfl, rfl, rfl, by decide +kernel, rfl, by decide +kernel, by decide +kernel⟩
theorem ok_Choose_kind (T : Gf K mg) {f : Addr} {fd : FuncData} (F : FunD K "kind" "Choose.kind" (defArgs (inClass (topS 34) 0)) (defBody (inClass (topS 34) 0)) (defScope (inClass (topS 34) 0)) [] [] f fd) : FnOk P w K mg base (L2.CX P w) 1 f fd ["self"] (spOf K sp_Choose_kind) :=
  mkFn (t := t_Choose_kind) F sc_Choose_kind len_Choose_kind (fun cdv A outer s H E hr => by
    unfold t_Choose_kind
    exact (qss_one (qs_ret q_str))) pure_Choose_kind
theorem sc_Split_kind : FnScope N_Split_kind ["self"] (defScope (inClass (topS 35) 0)) := ⟨rfl, rfl, rfl, by decide +kernel, rfl, by decide +kernel, by decide +kernel⟩
theorem ok_Split_kind (T : Gf K mg) {f : Addr} {fd : FuncData} (F : FunD K "kind" "Split.kind" (defArgs (inClass (topS 35) 0)) (defBody (inClass (topS 35) 0)) (defScope (inClass (topS 35) 0)) [] [] f fd) : FnOk P w K mg base (L2.CX P w) 1 f fd ["self"] (spOf K sp_Split_kind) :=
  mkFn (t := t_Split_kind) F sc_Split_kind len_Split_kind (fun cdv A outer s H E hr => by
    unfold t_Split_kind
    exact (qss_one (qs_ret q_str))) pure_Split_kind
theorem sc_Net_told : FnScope N_Net_told ["self"] (defScope (inClass (topS 45) 16)) := ⟨rfl, rfl, rfl, by decide +kernel, rfl, by decide +kernel, by decide +kernel⟩
theorem ok_Net_told (T : Gf K mg) (H_kind : MtT P w K mg base 1 "kind" (T_kind K)) {f : Addr} {fd : FuncData} (F : FunD K "told" "Net.told" (defArgs (inClass (topS 45) 16)) (defBody (inClass (topS 45) 16)) (defScope (inClass (topS 45) 16)) [] [] f fd) : FnOk P w K mg base (L2.CX P w) 2 f fd ["self"] (spOf K (sp_Net_told K)) :=
  mkFn (t := t_Net_told K) F sc_Net_told len_Net_told (fun cdv A outer s H E hr => by
    unfold t_Net_told
    exact (qss_cons (qs_setLcD false 1 [("name", 3)] dw_keys (fun h => pi_keysL h) rfl sc_Net_told.nd (q_fld (qv 0)) (blkOk_by (N := N_Net_told) (sc := defScope (inClass (topS 45) 16)) (by decide +kernel)) (fun _ _ _ _ _ => (qg_name 3 sc_Net_told.nd)) (fun _ _ _ _ _ => qts_nil) (fun _ _ _ _ _ => (q_tup (qa_cons (qv 3) (qa_cons (q_ix (hu_of hr) (q_fld (qv 0)) (qv 3)) (qa_cons (q_ix (hu_of hr) (q_fld (qv 0)) (qv 3)) qa_nil))))) (sw_true rfl rfl rfl (by decide +kernel)))
    (qss_cons (qs_set 2 sc_Net_told.nd (q_lst true qa_nil))
    (qss_cons (qs_forD dw_items (fun h => pi_itemsL h) rfl (q_fld (qv 0)) (qg_tup rfl (qgs_cons (qg_name 3 sc_Net_told.nd) (qgs_cons (qg_name 4 sc_Net_told.nd) qgs_nil)))
    (qss_one (qs_expr (q_bm s_append PySem.F.plainAttrs_list PySem.F.slot_list_append PySem.F.type_list_append mt_append (qv 2) (qa_cons (q_tup (qa_cons (q_meth0 (pl := _) H_kind hr (by decide) (qv 4)) (qa_cons (qv 3) (qa_cons (q_fld (qv 4)) (qa_cons (q_fld (qv 4)) (qa_cons (q_fld (qv 4)) qa_nil)))))) qa_nil)))))
    (qss_one (qs_ret (q_tup (qa_cons (qv 1) (qa_cons (q_fz (qv 2)) qa_nil))))))))) pure_Net_told
theorem sc_show_net : FnScope N_show_net ["net"] (defScope (topS 55)) := ⟨rfl, rfl, rfl, by decide +kernel, rfl, by decide +kernel, by decide +kernel⟩
theorem ok_show_net (T : Gf K mg) (G_part_shown : Df P w K mg base 1 "part_shown" [] sp_part_shown) (G_lane_shown : Df P w K mg base 1 "lane_shown" [] sp_lane_shown) (H_told : MtT P w K mg base 2 "told" (T_told K)) {f : Addr} {fd : FuncData} (F : FunD K "show_net" "show_net" (defArgs (topS 55)) (defBody (topS 55)) (defScope (topS 55)) [] [] f fd) : FnOk P w K mg base (L2.CX P w) 3 f fd ["net"] (spOf K (sp_show_net K)) :=
  mkFn (t := t_show_net K) F sc_show_net len_show_net (fun cdv A outer s H E hr => by
    unfold t_show_net
    exact (qss_cons (qs_asg (qg_tup rfl (qgs_cons (qg_name 1 sc_show_net.nd) (qgs_cons (qg_name 2 sc_show_net.nd) qgs_nil))) (q_meth0 (pl := _) H_told hr (by decide) (qv 0)))
    (qss_one (qs_ret (q_bm s_join PySem.F.plainAttrs_str PySem.F.slot_str_join PySem.F.type_str_join mt_join q_str (qa_cons (q_add false (q_lc false [("lane", 3)] rfl sc_show_net.nd (qi_seq (qv 1)) (blkOk_by (N := N_show_net) (sc := defScope (topS 55)) (by decide +kernel)) (fun _ _ _ _ _ => (qg_name 3 sc_show_net.nd)) (fun _ _ _ _ _ => qts_nil) (fun _ _ _ _ _ => (q_call G_lane_shown hr (by decide) (qa_cons (qv 3) qa_nil)))) (q_lc false [("one", 4)] rfl sc_show_net.nd (qi_seq (qv 2)) (blkOk_by (N := N_show_net) (sc := defScope (topS 55)) (by decide +kernel)) (fun _ _ _ _ _ => (qg_name 4 sc_show_net.nd)) (fun _ _ _ _ _ => qts_nil) (fun _ _ _ _ _ => (q_call G_part_shown hr (by decide) (qa_cons (qv 4) qa_nil))))) qa_nil)))))) pure_show_net
theorem sc_Net_joined : FnScope N_Net_joined ["self"] (defScope (inClass (topS 45) 3)) := ⟨rfl, rfl, rfl, by decide +kernel, rfl, by decide +kernel, by decide +kernel⟩
theorem ok_Net_joined (T : Gf K mg) {f : Addr} {fd : FuncData} (F : FunD K "joined" "Net.joined" (defArgs (inClass (topS 45) 3)) (defBody (inClass (topS 45) 3)) (defScope (inClass (topS 45) 3)) [] [] f fd) : FnOk P w K mg base (L2.CX P w) 1 f fd ["self"] (spOf K (sp_Net_joined K)) :=
  mkFn (t := t_Net_joined K) F sc_Net_joined len_Net_joined (fun cdv A outer s H E hr => by
    unfold t_Net_joined
    exact (qss_cons (qs_set 1 sc_Net_joined.nd q_dict0)
    (qss_cons (qs_forD dw_keys (fun h => pi_keysL h) rfl (q_fld (qv 0)) (qg_name 2 sc_Net_joined.nd)
    (qss_cons (qs_asg (qg_sub (hu_of hr) (qv 1) (qv 2) fun h1 h2 => pg_sub h1 h2 (set_u (hu_of hr))) q_bl)
    (qss_one qs_break)))
    (qss_cons (qs_set 3 sc_Net_joined.nd q_bl)
    (qss_cons (qs_while (qt_val (qv 3))
    (qss_cons (qs_set 3 sc_Net_joined.nd q_bl)
    (qss_one (qs_forD dw_keys (fun h => pi_keysL h) rfl (q_fld (qv 0)) (qg_name 4 sc_Net_joined.nd)
    (qss_cons (qs_set 5 sc_Net_joined.nd (q_lst false (qa_cons (q_ix (hu_of hr) (q_fld (qv 0)) (qv 4)) (qa_cons (q_ix (hu_of hr) (q_fld (qv 0)) (qv 4)) qa_nil))))
    (qss_one (qs_if (qt_c (c_ne hr.units) (q_c (c_in (hu_of hr)) (q_ix (hu_of hr) (qv 5) q_int) (qv 1)) (q_c (c_in (hu_of hr)) (q_ix (hu_of hr) (qv 5) q_int) (qv 1)))
    (qss_cons (qs_asg (qg_sub (hu_of hr) (qv 1) (q_ix (hu_of hr) (qv 5) q_int) fun h1 h2 => pg_sub h1 h2 (set_u (hu_of hr))) q_bl)
    (qss_cons (qs_asg (qg_sub (hu_of hr) (qv 1) (q_ix (hu_of hr) (qv 5) q_int) fun h1 h2 => pg_sub h1 h2 (set_u (hu_of hr))) q_bl)
    (qss_one (qs_set 3 sc_Net_joined.nd q_bl))))
    qss_nil)))))))
    (qss_one (qs_ret (q_fz (qv 1))))))))) pure_Net_joined
theorem sc_Net_lay_hold : FnScope N_Net_lay_hold ["self", "name", "lanes", "ends"] (defScope (inClass (topS 45) 2)) := ⟨rfl, rfl, rfl, by decide +kernel, rfl, by decide +kernel, by decide +kernel⟩
theorem ok_Net_lay_hold (T : Gf K mg) {f : Addr} {fd : FuncData} (F : FunD K "lay_hold" "Net.lay_hold" (defArgs (inClass (topS 45) 2)) (defBody (inClass (topS 45) 2)) (defScope (inClass (topS 45) 2)) [] [] f fd) : FnOk P w K mg base (L2.CX P w) 1 f fd ["self", "name", "lanes", "ends"] (spOf K (sp_Net_lay_hold K)) :=
  mkFn (t := t_Net_lay_hold K) F sc_Net_lay_hold len_Net_lay_hold (fun cdv A outer s H E hr => by
    unfold t_Net_lay_hold
    exact (qss_one (qs_for rfl (qi_seq (qv 2)) (qg_name 4 sc_Net_lay_hold.nd)
    (qss_cons (qs_if (QW.pt (qw_or (qt_c (c_notin (hu_of hr)) (qv 4) (q_fld (qv 0))) (qw_or1 (qt_c (c_in (hu_of hr)) (qv 4) (qv 3)))))
    (qss_one qs_stop)
    qss_nil)
    (qss_one (qs_asg (qg_sub (hu_of hr) (qv 3) (qv 4) fun h1 h2 => pg_sub h1 h2 (set_u (hu_of hr))) (qv 1))))))) pure_Net_lay_hold
theorem sc_is_whole : FnScope N_is_whole ["thing"] (defScope (topS 18)) := ⟨rfl, rfl, rfl, by decide +kernel, rfl, by decide +kernel, by decide +kernel⟩
theorem ok_is_whole (T : Gf K mg) {f : Addr} {fd : FuncData} (F : FunD K "is_whole" "is_whole" (defArgs (topS 18)) (defBody (topS 18)) (defScope (topS 18)) [] [] f fd) : FnOk P w K mg base (L2.CX P w) 1 f fd ["thing"] (spOf K (sp_is_whole K)) :=
  mkFn (t := t_is_whole K) F sc_is_whole len_is_whole (fun cdv A outer s H E hr => by
    unfold t_is_whole
    exact (qss_one (qs_ret (q_and (q_isi T.free_isinstance T.free_int (by decide +kernel) (qv 0)) (q_one (q_not (q_isi T.free_isinstance T.free_bool (by decide +kernel) (qv 0)))))))) pure_is_whole
theorem sc_is_value : FnScope N_is_value ["thing"] (defScope (topS 19)) := ⟨rfl, rfl, rfl, by decide +kernel, rfl, by decide +kernel, by decide +kernel⟩
theorem ok_is_value (T : Gf K mg) (G_is_whole : Df P w K mg base 1 "is_whole" [] (sp_is_whole K)) {f : Addr} {fd : FuncData} (F : FunD K "is_value" "is_value" (defArgs (topS 19)) (defBody (topS 19)) (defScope (topS 19)) [] [] f fd) : FnOk P w K mg base (L2.CX P w) 2 f fd ["thing"] (spOf K (sp_is_value K)) :=
  mkFn (t := t_is_value K) F sc_is_value len_is_value (fun cdv A outer s H E hr => by
    unfold t_is_value
    exact (qss_one (qs_ret (q_and (q_call G_is_whole hr (by decide) (qa_cons (qv 0) qa_nil)) (q_one (q_chain c_le c_lt q_int (qv 0) (q_gI T.gint_VALUES))))))) pure_is_value
theorem sc_Give_wants : FnScope N_Give_wants ["self"] (defScope (inClass (topS 25) 1)) := ⟨rfl, rfl, rfl, by decide +kernel, rfl, by decide +kernel, by decide +kernel⟩
theorem ok_Give_wants (T : Gf K mg) {f : Addr} {fd : FuncData} (F : FunD K "wants" "Give.wants" (defArgs (inClass (topS 25) 1)) (defBody (inClass (topS 25) 1)) (defScope (inClass (topS 25) 1)) [] [] f fd) : FnOk P w K mg base (L2.CX P w) 1 f fd ["self"] (spOf K sp_Give_wants) :=
  mkFn (t := t_Give_wants) F sc_Give_wants len_Give_wants (fun cdv A outer s H E hr => by
    unfold t_Give_wants
    exact (qss_one (qs_ret (q_tup (qa_cons q_int (qa_cons q_int (qa_cons q_int qa_nil))))))) pure_Give_wants
theorem sc_Take_wants : FnScope N_Take_wants ["self"] (defScope (inClass (topS 26) 1)) := ⟨rfl, rfl, rfl, by decide +kernel, rfl, by decide +kernel, by decide +kernel⟩
theorem ok_Take_wants (T : Gf K mg) {f : Addr} {fd : FuncData} (F : FunD K "wants" "Take.wants" (defArgs (inClass (topS 26) 1)) (defBody (inClass (topS 26) 1)) (defScope (inClass (topS 26) 1)) [] [] f fd) : FnOk P w K mg base (L2.CX P w) 1 f fd ["self"] (spOf K sp_Take_wants) :=
  mkFn (t := t_Take_wants) F sc_Take_wants len_Take_wants (fun cdv A outer s H E hr => by
    unfold t_Take_wants
    exact (qss_one (qs_ret (q_tup (qa_cons q_int (qa_cons q_int (qa_cons q_int qa_nil))))))) pure_Take_wants
theorem sc_Part_wants : FnScope N_Part_wants ["self"] (defScope (inClass (topS 24) 2)) := ⟨rfl, rfl, rfl, by decide +kernel, rfl, by decide +kernel, by decide +kernel⟩
theorem ok_Part_wants (T : Gf K mg) {f : Addr} {fd : FuncData} (F : FunD K "wants" "Part.wants" (defArgs (inClass (topS 24) 2)) (defBody (inClass (topS 24) 2)) (defScope (inClass (topS 24) 2)) [] [] f fd) : FnOk P w K mg base (L2.CX P w) 1 f fd ["self"] (spOf K sp_Part_wants) :=
  mkFn (t := t_Part_wants) F sc_Part_wants len_Part_wants (fun cdv A outer s H E hr => by
    unfold t_Part_wants
    exact (qss_one (qs_ret (q_tup (qa_cons q_int (qa_cons q_int (qa_cons q_int qa_nil))))))) pure_Part_wants
theorem sc_Copy_wants : FnScope N_Copy_wants ["self"] (defScope (inClass (topS 28) 1)) := ⟨rfl, rfl, rfl, by decide +kernel, rfl, by decide +kernel, by decide +kernel⟩
theorem ok_Copy_wants (T : Gf K mg) {f : Addr} {fd : FuncData} (F : FunD K "wants" "Copy.wants" (defArgs (inClass (topS 28) 1)) (defBody (inClass (topS 28) 1)) (defScope (inClass (topS 28) 1)) [] [] f fd) : FnOk P w K mg base (L2.CX P w) 1 f fd ["self"] (spOf K sp_Copy_wants) :=
  mkFn (t := t_Copy_wants) F sc_Copy_wants len_Copy_wants (fun cdv A outer s H E hr => by
    unfold t_Copy_wants
    exact (qss_one (qs_ret (q_tup (qa_cons q_int (qa_cons q_int (qa_cons q_int qa_nil))))))) pure_Copy_wants
theorem sc_Turn_wants : FnScope N_Turn_wants ["self"] (defScope (inClass (topS 29) 1)) := ⟨rfl, rfl, rfl, by decide +kernel, rfl, by decide +kernel, by decide +kernel⟩
theorem ok_Turn_wants (T : Gf K mg) {f : Addr} {fd : FuncData} (F : FunD K "wants" "Turn.wants" (defArgs (inClass (topS 29) 1)) (defBody (inClass (topS 29) 1)) (defScope (inClass (topS 29) 1)) [] [] f fd) : FnOk P w K mg base (L2.CX P w) 1 f fd ["self"] (spOf K sp_Turn_wants) :=
  mkFn (t := t_Turn_wants) F sc_Turn_wants len_Turn_wants (fun cdv A outer s H E hr => by
    unfold t_Turn_wants
    exact (qss_one (qs_ret (q_tup (qa_cons q_int (qa_cons q_int (qa_cons q_int qa_nil))))))) pure_Turn_wants
theorem sc_Heap_wants : FnScope N_Heap_wants ["self"] (defScope (inClass (topS 30) 1)) := ⟨rfl, rfl, rfl, by decide +kernel, rfl, by decide +kernel, by decide +kernel⟩
theorem ok_Heap_wants (T : Gf K mg) {f : Addr} {fd : FuncData} (F : FunD K "wants" "Heap.wants" (defArgs (inClass (topS 30) 1)) (defBody (inClass (topS 30) 1)) (defScope (inClass (topS 30) 1)) [] [] f fd) : FnOk P w K mg base (L2.CX P w) 1 f fd ["self"] (spOf K sp_Heap_wants) :=
  mkFn (t := t_Heap_wants) F sc_Heap_wants len_Heap_wants (fun cdv A outer s H E hr => by
    unfold t_Heap_wants
    exact (qss_one (qs_ret (q_tup (qa_cons q_int (qa_cons q_int (qa_cons q_int qa_nil))))))) pure_Heap_wants
theorem sc_Add_wants : FnScope N_Add_wants ["self"] (defScope (inClass (topS 31) 1)) := ⟨rfl, rfl, rfl, by decide +kernel, rfl, by decide +kernel, by decide +kernel⟩
theorem ok_Add_wants (T : Gf K mg) {f : Addr} {fd : FuncData} (F : FunD K "wants" "Add.wants" (defArgs (inClass (topS 31) 1)) (defBody (inClass (topS 31) 1)) (defScope (inClass (topS 31) 1)) [] [] f fd) : FnOk P w K mg base (L2.CX P w) 1 f fd ["self"] (spOf K sp_Add_wants) :=
  mkFn (t := t_Add_wants) F sc_Add_wants len_Add_wants (fun cdv A outer s H E hr => by
    unfold t_Add_wants
    exact (qss_one (qs_ret (q_tup (qa_cons q_int (qa_cons q_int (qa_cons q_int qa_nil))))))) pure_Add_wants
theorem sc_Less_wants : FnScope N_Less_wants ["self"] (defScope (inClass (topS 32) 1)) := ⟨rfl, rfl, rfl, by decide +kernel, rfl, by decide +kernel, by decide +kernel⟩
theorem ok_Less_wants (T : Gf K mg) {f : Addr} {fd : FuncData} (F : FunD K "wants" "Less.wants" (defArgs (inClass (topS 32) 1)) (defBody (inClass (topS 32) 1)) (defScope (inClass (topS 32) 1)) [] [] f fd) : FnOk P w K mg base (L2.CX P w) 1 f fd ["self"] (spOf K sp_Less_wants) :=
  mkFn (t := t_Less_wants) F sc_Less_wants len_Less_wants (fun cdv A outer s H E hr => by
    unfold t_Less_wants
    exact (qss_one (qs_ret (q_tup (qa_cons q_int (qa_cons q_int (qa_cons q_int qa_nil))))))) pure_Less_wants
theorem sc_Order_wants : FnScope N_Order_wants ["self"] (defScope (inClass (topS 33) 1)) := ⟨rfl, rfl, rfl, by decide +kernel, rfl, by decide +kernel, by decide +kernel⟩
theorem ok_Order_wants (T : Gf K mg) {f : Addr} {fd : FuncData} (F : FunD K "wants" "Order.wants" (defArgs (inClass (topS 33) 1)) (defBody (inClass (topS 33) 1)) (defScope (inClass (topS 33) 1)) [] [] f fd) : FnOk P w K mg base (L2.CX P w) 1 f fd ["self"] (spOf K sp_Order_wants) :=
  mkFn (t := t_Order_wants) F sc_Order_wants len_Order_wants (fun cdv A outer s H E hr => by
    unfold t_Order_wants
    exact (qss_one (qs_ret (q_tup (qa_cons q_int (qa_cons q_int (qa_cons q_int qa_nil))))))) pure_Order_wants
theorem sc_Choose_wants : FnScope N_Choose_wants ["self"] (defScope (inClass (topS 34) 1)) := ⟨rfl, rfl, rfl, by decide +kernel, rfl, by decide +kernel, by decide +kernel⟩
theorem ok_Choose_wants (T : Gf K mg) {f : Addr} {fd : FuncData} (F : FunD K "wants" "Choose.wants" (defArgs (inClass (topS 34) 1)) (defBody (inClass (topS 34) 1)) (defScope (inClass (topS 34) 1)) [] [] f fd) : FnOk P w K mg base (L2.CX P w) 1 f fd ["self"] (spOf K sp_Choose_wants) :=
  mkFn (t := t_Choose_wants) F sc_Choose_wants len_Choose_wants (fun cdv A outer s H E hr => by
    unfold t_Choose_wants
    exact (qss_one (qs_ret (q_tup (qa_cons q_int (qa_cons q_int (qa_cons q_int qa_nil))))))) pure_Choose_wants
theorem sc_Split_wants : FnScope N_Split_wants ["self"] (defScope (inClass (topS 35) 1)) := ⟨rfl, rfl, rfl, by decide +kernel, rfl, by decide +kernel, by decide +kernel⟩
theorem ok_Split_wants (T : Gf K mg) {f : Addr} {fd : FuncData} (F : FunD K "wants" "Split.wants" (defArgs (inClass (topS 35) 1)) (defBody (inClass (topS 35) 1)) (defScope (inClass (topS 35) 1)) [] [] f fd) : FnOk P w K mg base (L2.CX P w) 1 f fd ["self"] (spOf K sp_Split_wants) :=
  mkFn (t := t_Split_wants) F sc_Split_wants len_Split_wants (fun cdv A outer s H E hr => by
    unfold t_Split_wants
    exact (qss_one (qs_ret (q_tup (qa_cons q_int (qa_cons q_int (qa_cons q_int qa_nil))))))) pure_Split_wants
theorem sc_Part___init__ : FnScope N_Part___init__ ["self", "name", "numbers", "ins", "outs"] (defScope (inClass (topS 24) 0)) := ⟨rfl, rfl, rfl, by decide +kernel, rfl, by decide +kernel, by decide +kernel⟩
theorem ok_Part___init__ (T : Gf K mg) {f : Addr} {fd : FuncData} (F : FunD K "__init__" "Part.__init__" (defArgs (inClass (topS 24) 0)) (defBody (inClass (topS 24) 0)) (defScope (inClass (topS 24) 0)) [] [] f fd) : FnOk P w K mg base (L2.CX P w) 1 f fd ["self", "name", "numbers", "ins", "outs"] (spOf K (sp_Part___init__ K)) :=
  mkFn (t := t_Part___init__ K) F sc_Part___init__ len_Part___init__ (fun cdv A outer s H E hr => by
    unfold t_Part___init__
    exact (qss_cons (qs_fld (qv 0) (qv 1))
    (qss_cons (qs_fld (qv 0) (q_tuple T.free_tuple (qa_cons (qv 2) qa_nil)))
    (qss_cons (qs_fld (qv 0) (q_tuple T.free_tuple (qa_cons (qv 3) qa_nil)))
    (qss_one (qs_fld (qv 0) (q_tuple T.free_tuple (qa_cons (qv 4) qa_nil)))))))) pure_Part___init__
theorem sc_made_as : FnScope N_made_as ["kind", "name", "numbers", "ins", "outs"] (defScope (topS 37)) := ⟨rfl, rfl, rfl, by decide +kernel, rfl, by decide +kernel, by decide +kernel⟩
theorem ok_made_as (T : Gf K mg) (M_Add : Mkr P w K mg base 1 "Add" (He.ga K "Add") [] (sp_Part___init__ K)) (M_Choose : Mkr P w K mg base 1 "Choose" (He.ga K "Choose") [] (sp_Part___init__ K)) (M_Copy : Mkr P w K mg base 1 "Copy" (He.ga K "Copy") [] (sp_Part___init__ K)) (M_Give : Mkr P w K mg base 1 "Give" (He.ga K "Give") [] (sp_Part___init__ K)) (M_Heap : Mkr P w K mg base 1 "Heap" (He.ga K "Heap") [] (sp_Part___init__ K)) (M_Less : Mkr P w K mg base 1 "Less" (He.ga K "Less") [] (sp_Part___init__ K)) (M_Order : Mkr P w K mg base 1 "Order" (He.ga K "Order") [] (sp_Part___init__ K)) (M_Pass : Mkr P w K mg base 1 "Pass" (He.ga K "Pass") [] (sp_Part___init__ K)) (M_Split : Mkr P w K mg base 1 "Split" (He.ga K "Split") [] (sp_Part___init__ K)) (M_Take : Mkr P w K mg base 1 "Take" (He.ga K "Take") [] (sp_Part___init__ K)) (M_Turn : Mkr P w K mg base 1 "Turn" (He.ga K "Turn") [] (sp_Part___init__ K)) {f : Addr} {fd : FuncData} (F : FunD K "made_as" "made_as" (defArgs (topS 37)) (defBody (topS 37)) (defScope (topS 37)) [] [] f fd) : FnOk P w K mg base (L2.CX P w) 3 f fd ["kind", "name", "numbers", "ins", "outs"] (spOf K (sp_made_as K)) :=
  mkFn (t := t_made_as K) F sc_made_as len_made_as (fun cdv A outer s H E hr => by
    unfold t_made_as
    exact (qss_cons (qs_if (qt_c (c_eq hr.units) (qv 0) q_str)
    (qss_one (qs_ret (q_fz (q_make M_Give hr (by decide) (qa_cons (qv 1) (qa_cons (qv 2) (qa_cons (qv 3) (qa_cons (qv 4) qa_nil))))))))
    qss_nil)
    (qss_cons (qs_if (qt_c (c_eq hr.units) (qv 0) q_str)
    (qss_one (qs_ret (q_fz (q_make M_Take hr (by decide) (qa_cons (qv 1) (qa_cons (qv 2) (qa_cons (qv 3) (qa_cons (qv 4) qa_nil))))))))
    qss_nil)
    (qss_cons (qs_if (qt_c (c_eq hr.units) (qv 0) q_str)
    (qss_one (qs_ret (q_fz (q_make M_Pass hr (by decide) (qa_cons (qv 1) (qa_cons (qv 2) (qa_cons (qv 3) (qa_cons (qv 4) qa_nil))))))))
    qss_nil)
    (qss_cons (qs_if (qt_c (c_eq hr.units) (qv 0) q_str)
    (qss_one (qs_ret (q_fz (q_make M_Copy hr (by decide) (qa_cons (qv 1) (qa_cons (qv 2) (qa_cons (qv 3) (qa_cons (qv 4) qa_nil))))))))
    qss_nil)
    (qss_cons (qs_if (qt_c (c_eq hr.units) (qv 0) q_str)
    (qss_one (qs_ret (q_fz (q_make M_Turn hr (by decide) (qa_cons (qv 1) (qa_cons (qv 2) (qa_cons (qv 3) (qa_cons (qv 4) qa_nil))))))))
    qss_nil)
    (qss_cons (qs_if (qt_c (c_eq hr.units) (qv 0) q_str)
    (qss_one (qs_ret (q_fz (q_make M_Heap hr (by decide) (qa_cons (qv 1) (qa_cons (qv 2) (qa_cons (qv 3) (qa_cons (qv 4) qa_nil))))))))
    qss_nil)
    (qss_cons (qs_if (qt_c (c_eq hr.units) (qv 0) q_str)
    (qss_one (qs_ret (q_fz (q_make M_Add hr (by decide) (qa_cons (qv 1) (qa_cons (qv 2) (qa_cons (qv 3) (qa_cons (qv 4) qa_nil))))))))
    qss_nil)
    (qss_cons (qs_if (qt_c (c_eq hr.units) (qv 0) q_str)
    (qss_one (qs_ret (q_fz (q_make M_Less hr (by decide) (qa_cons (qv 1) (qa_cons (qv 2) (qa_cons (qv 3) (qa_cons (qv 4) qa_nil))))))))
    qss_nil)
    (qss_cons (qs_if (qt_c (c_eq hr.units) (qv 0) q_str)
    (qss_one (qs_ret (q_fz (q_make M_Order hr (by decide) (qa_cons (qv 1) (qa_cons (qv 2) (qa_cons (qv 3) (qa_cons (qv 4) qa_nil))))))))
    qss_nil)
    (qss_cons (qs_if (qt_c (c_eq hr.units) (qv 0) q_str)
    (qss_one (qs_ret (q_fz (q_make M_Choose hr (by decide) (qa_cons (qv 1) (qa_cons (qv 2) (qa_cons (qv 3) (qa_cons (qv 4) qa_nil))))))))
    qss_nil)
    (qss_one (qs_ret (q_fz (q_make M_Split hr (by decide) (qa_cons (qv 1) (qa_cons (qv 2) (qa_cons (qv 3) (qa_cons (qv 4) qa_nil))))))))))))))))))) pure_made_as
theorem sc_is_kind : FnScope N_is_kind ["word"] (defScope (topS 36)) := ⟨rfl, rfl, rfl, by decide +kernel, rfl, by decide +kernel, by decide +kernel⟩
theorem ok_is_kind (T : Gf K mg) {f : Addr} {fd : FuncData} (F : FunD K "is_kind" "is_kind" (defArgs (topS 36)) (defBody (topS 36)) (defScope (topS 36)) [] [] f fd) : FnOk P w K mg base (L2.CX P w) 1 f fd ["word"] (spOf K sp_is_kind) :=
  mkFn (t := t_is_kind) F sc_is_kind len_is_kind (fun cdv A outer s H E hr => by
    unfold t_is_kind
    exact (qss_cons (qs_set 1 sc_is_kind.nd (q_tup (qa_cons q_str (qa_cons q_str qa_nil))))
    (qss_one (qs_ret (q_or (q_c (c_in (hu_of hr)) (qv 0) (qv 1)) (q_one (q_c (c_in (hu_of hr)) (qv 0) (q_tup (qa_cons q_str (qa_cons q_str (qa_cons q_str (qa_cons q_str (qa_cons q_str (qa_cons q_str (qa_cons q_str (qa_cons q_str (qa_cons q_str qa_nil))))))))))))))))) pure_is_kind
theorem sc_part_made : FnScope N_part_made ["kind", "name", "numbers", "ins", "outs"] (defScope (topS 38)) := ⟨rfl, rfl, rfl, by decide +kernel, rfl, by decide +kernel, by decide +kernel⟩
theorem ok_part_made (T : Gf K mg) (G_is_value : Df P w K mg base 2 "is_value" [] (sp_is_value K)) (G_made_as : Df P w K mg base 3 "made_as" [] (sp_made_as K)) (G_is_kind : Df P w K mg base 1 "is_kind" [] sp_is_kind) (H_wants : MtT P w K mg base 1 "wants" (T_wants K)) {f : Addr} {fd : FuncData} (F : FunD K "part_made" "part_made" (defArgs (topS 38)) (defBody (topS 38)) (defScope (topS 38)) [] [] f fd) : FnOk P w K mg base (L2.CX P w) 4 f fd ["kind", "name", "numbers", "ins", "outs"] (spOf K (sp_part_made K)) :=
  mkFn (t := t_part_made K) F sc_part_made len_part_made (fun cdv A outer s H E hr => by
    unfold t_part_made
    exact (qss_cons (qs_if (qt_not (qt_val (q_call G_is_kind hr (by decide) (qa_cons (qv 0) qa_nil))))
    (qss_one qs_stop)
    qss_nil)
    (qss_cons (qs_set 5 sc_part_made.nd (q_call G_made_as hr (by decide) (qa_cons (qv 0) (qa_cons (qv 1) (qa_cons (qv 2) (qa_cons (qv 3) (qa_cons (qv 4) qa_nil)))))))
    (qss_cons (qs_asg (qg_tup rfl (qgs_cons (qg_name 7 sc_part_made.nd) (qgs_cons (qg_name 8 sc_part_made.nd) (qgs_cons (qg_name 9 sc_part_made.nd) qgs_nil)))) (q_meth0 (pl := _) H_wants hr (by decide) (qv 5)))
    (qss_cons (qs_if (qt_c (c_ne hr.units) (q_len T.free_len (qa_cons (q_fld (qv 5)) qa_nil)) (qv 7))
    (qss_one qs_stop)
    qss_nil)
    (qss_cons (qs_for rfl (qi_seq (q_fld (qv 5))) (qg_name 6 sc_part_made.nd)
    (qss_one (qs_if (qt_not (qt_val (q_call G_is_value hr (by decide) (qa_cons (qv 6) qa_nil))))
    (qss_one qs_stop)
    qss_nil)))
    (qss_cons (qs_if (QW.pt (qw_or (qt_c (c_ne hr.units) (q_len T.free_len (qa_cons (q_fld (qv 5)) qa_nil)) (qv 8)) (qw_or1 (qt_c (c_ne hr.units) (q_len T.free_len (qa_cons (q_fld (qv 5)) qa_nil)) (qv 9)))))
    (qss_one qs_stop)
    qss_nil)
    (qss_one (qs_ret (qv 5)))))))))) pure_part_made
theorem sc_is_name : FnScope N_is_name ["thing"] (defScope (topS 20)) := ⟨rfl, rfl, rfl, by decide +kernel, rfl, by decide +kernel, by decide +kernel⟩
theorem ok_is_name (T : Gf K mg) {f : Addr} {fd : FuncData} (F : FunD K "is_name" "is_name" (defArgs (topS 20)) (defBody (topS 20)) (defScope (topS 20)) [] [] f fd) : FnOk P w K mg base (L2.CX P w) 1 f fd ["thing"] (spOf K (sp_is_name K)) :=
  mkFn (t := t_is_name K) F sc_is_name len_is_name (fun cdv A outer s H E hr => by
    unfold t_is_name
    exact (qss_cons (qs_if (QW.pt (qw_or (qt_not (qt_val (q_isi T.free_isinstance T.free_str (by decide +kernel) (qv 0)))) (qw_or1 (qt_not (qt_chain c_le c_le q_int (q_len T.free_len (qa_cons (qv 0) qa_nil)) q_int)))))
    (qss_one (qs_ret q_bl))
    qss_nil)
    (qss_cons (qs_for rfl (qi_seq (qv 0)) (qg_name 1 sc_is_name.nd)
    (qss_one (qs_if (QW.pt (qw_and (qt_c (c_notin (hu_of hr)) (qv 1) (q_gS T.gstr_LETTERS)) (qw_and1 (qt_c (c_notin (hu_of hr)) (qv 1) (q_gS T.gstr_FIGURES)))))
    (qss_one (qs_ret q_bl))
    qss_nil)))
    (qss_one (qs_ret (q_c (c_in (hu_of hr)) (q_ix (hu_of hr) (qv 0) q_int) (q_gS T.gstr_LETTERS))))))) pure_is_name
theorem sc_need_name : FnScope N_need_name ["name", "known"] (defScope (topS 43)) := ⟨rfl, rfl, rfl, by decide +kernel, rfl, by decide +kernel, by decide +kernel⟩
theorem ok_need_name (T : Gf K mg) (G_is_name : Df P w K mg base 1 "is_name" [] (sp_is_name K)) {f : Addr} {fd : FuncData} (F : FunD K "need_name" "need_name" (defArgs (topS 43)) (defBody (topS 43)) (defScope (topS 43)) [] [] f fd) : FnOk P w K mg base (L2.CX P w) 2 f fd ["name", "known"] (spOf K (sp_need_name K)) :=
  mkFn (t := t_need_name K) F sc_need_name len_need_name (fun cdv A outer s H E hr => by
    unfold t_need_name
    exact (qss_cons (qs_if (qt_not (qt_val (q_call G_is_name hr (by decide) (qa_cons (qv 0) qa_nil))))
    (qss_one qs_stop)
    qss_nil)
    (qss_one (qs_if (qt_c (c_in (hu_of hr)) (qv 0) (qv 1))
    (qss_one qs_stop)
    qss_nil)))) pure_need_name
theorem sc_Net_put_in : FnScope N_Net_put_in ["self", "kind", "name", "numbers", "ins", "outs"] (defScope (inClass (topS 45) 1)) := ⟨rfl, rfl, rfl, by decide +kernel, rfl, by decide +kernel, by decide +kernel⟩
theorem ok_Net_put_in (T : Gf K mg) (G_is_kind : Df P w K mg base 1 "is_kind" [] sp_is_kind) (G_part_made : Df P w K mg base 4 "part_made" [] (sp_part_made K)) (G_need_name : Df P w K mg base 2 "need_name" [] (sp_need_name K)) (H_lay_hold : MtT P w K mg base 1 "lay_hold" (T_lay_hold K)) {f : Addr} {fd : FuncData} (F : FunD K "put_in" "Net.put_in" (defArgs (inClass (topS 45) 1)) (defBody (inClass (topS 45) 1)) (defScope (inClass (topS 45) 1)) [] [] f fd) : FnOk P w K mg base (L2.CX P w) 5 f fd ["self", "kind", "name", "numbers", "ins", "outs"] (spOf K (sp_Net_put_in K)) :=
  mkFn (t := t_Net_put_in K) F sc_Net_put_in len_Net_put_in (fun cdv A outer s H E hr => by
    unfold t_Net_put_in
    exact (qss_cons (qs_if (qt_not (qt_val (q_call G_is_kind hr (by decide) (qa_cons (qv 1) qa_nil))))
    (qss_one qs_stop)
    qss_nil)
    (qss_cons (qs_expr (q_call G_need_name hr (by decide) (qa_cons (qv 2) (qa_cons (q_fld (qv 0)) qa_nil))))
    (qss_cons (qs_set 6 sc_Net_put_in.nd (q_call G_part_made hr (by decide) (qa_cons (qv 1) (qa_cons (qv 2) (qa_cons (qv 3) (qa_cons (qv 4) (qa_cons (qv 5) qa_nil)))))))
    (qss_cons (qs_expr (q_meth (pl := _) H_lay_hold hr (by decide) (qv 0) (qa_cons (qv 2) (qa_cons (q_fld (qv 6)) (qa_cons (q_fld (qv 0)) qa_nil)))))
    (qss_cons (qs_expr (q_meth (pl := _) H_lay_hold hr (by decide) (qv 0) (qa_cons (qv 2) (qa_cons (q_fld (qv 6)) (qa_cons (q_fld (qv 0)) qa_nil)))))
    (qss_one (qs_asg (qg_sub (hu_of hr) (q_fld (qv 0)) (qv 2) fun h1 h2 => pg_sub h1 h2 (set_u (hu_of hr))) (qv 6))))))))) pure_Net_put_in
theorem sc_need_room : FnScope N_need_room ["name", "room", "first"] (defScope (topS 44)) := ⟨rfl, rfl, rfl, by decide +kernel, rfl, by decide +kernel, by decide +kernel⟩
theorem ok_need_room (T : Gf K mg) (G_is_whole : Df P w K mg base 1 "is_whole" [] (sp_is_whole K)) (G_is_value : Df P w K mg base 2 "is_value" [] (sp_is_value K)) {f : Addr} {fd : FuncData} (F : FunD K "need_room" "need_room" (defArgs (topS 44)) (defBody (topS 44)) (defScope (topS 44)) [] [] f fd) : FnOk P w K mg base (L2.CX P w) 3 f fd ["name", "room", "first"] (spOf K (sp_need_room K)) :=
  mkFn (t := t_need_room K) F sc_need_room len_need_room (fun cdv A outer s H E hr => by
    unfold t_need_room
    exact (qss_cons (qs_if (QW.pt (qw_or (qt_not (qt_val (q_call G_is_whole hr (by decide) (qa_cons (qv 1) qa_nil)))) (qw_or (qt_not (qt_chain c_le c_le (q_len T.free_len (qa_cons (qv 2) qa_nil)) (qv 1) (q_gI T.gint_MOST_ROOM))) (qw_or1 (qt_c (c_eq hr.units) (qv 1) q_int)))))
    (qss_one qs_stop)
    qss_nil)
    (qss_one (qs_for rfl (qi_seq (qv 2)) (qg_name 3 sc_need_room.nd)
    (qss_one (qs_if (qt_not (qt_val (q_call G_is_value hr (by decide) (qa_cons (qv 3) qa_nil))))
    (qss_one qs_stop)
    qss_nil)))))) pure_need_room
theorem sc_Net___init__ : FnScope N_Net___init__ ["self", "lanes", "parts"] (defScope (inClass (topS 45) 0)) := ⟨rfl, rfl, rfl, by decide +kernel, rfl, by decide +kernel, by decide +kernel⟩
theorem ok_Net___init__ (T : Gf K mg) (G_need_name : Df P w K mg base 2 "need_name" [] (sp_need_name K)) (G_need_room : Df P w K mg base 3 "need_room" [] (sp_need_room K)) (H_joined : MtT P w K mg base 1 "joined" (T_joined K)) (H_put_in : MtT P w K mg base 5 "put_in" (T_put_in K)) {f : Addr} {fd : FuncData} (F : FunD K "__init__" "Net.__init__" (defArgs (inClass (topS 45) 0)) (defBody (inClass (topS 45) 0)) (defScope (inClass (topS 45) 0)) [] [] f fd) : FnOk P w K mg base (L2.CX P w) 6 f fd ["self", "lanes", "parts"] (spOf K (sp_Net___init__ K)) :=
  mkFn (t := t_Net___init__ K) F sc_Net___init__ len_Net___init__ (fun cdv A outer s H E hr => by
    unfold t_Net___init__
    exact (qss_cons (qs_if (QW.pt (qw_or (qt_not (qt_chain c_le c_le q_int (q_len T.free_len (qa_cons (qv 1) qa_nil)) (q_gI T.gint_MOST_LANES))) (qw_or1 (qt_not (qt_chain c_le c_le q_int (q_len T.free_len (qa_cons (qv 2) qa_nil)) (q_gI T.gint_MOST_PARTS))))))
    (qss_one qs_stop)
    qss_nil)
    (qss_cons (qs_fld (qv 0) q_dict0)
    (qss_cons (qs_fld (qv 0) q_dict0)
    (qss_cons (qs_fld (qv 0) q_dict0)
    (qss_cons (qs_fld (qv 0) q_dict0)
    (qss_cons (qs_fld (qv 0) q_dict0)
    (qss_cons (qs_for rfl (qi_seq (qv 1)) (qg_tup rfl (qgs_cons (qg_name 3 sc_Net___init__.nd) (qgs_cons (qg_name 5 sc_Net___init__.nd) (qgs_cons (qg_name 6 sc_Net___init__.nd) qgs_nil))))
    (qss_cons (qs_expr (q_call G_need_name hr (by decide) (qa_cons (qv 3) (qa_cons (q_fld (qv 0)) qa_nil))))
    (qss_cons (qs_expr (q_call G_need_room hr (by decide) (qa_cons (qv 3) (qa_cons (qv 5) (qa_cons (qv 6) qa_nil)))))
    (qss_cons (qs_asg (qg_sub (hu_of hr) (q_fld (qv 0)) (qv 3) fun h1 h2 => pg_sub h1 h2 (set_u (hu_of hr))) (qv 5))
    (qss_one (qs_asg (qg_sub (hu_of hr) (q_fld (qv 0)) (qv 3) fun h1 h2 => pg_sub h1 h2 (set_u (hu_of hr))) (q_tuple T.free_tuple (qa_cons (qv 6) qa_nil))))))))
    (qss_cons (qs_for rfl (qi_seq (qv 2)) (qg_tup rfl (qgs_cons (qg_name 7 sc_Net___init__.nd) (qgs_cons (qg_name 3 sc_Net___init__.nd) (qgs_cons (qg_name 8 sc_Net___init__.nd) (qgs_cons (qg_name 9 sc_Net___init__.nd) (qgs_cons (qg_name 10 sc_Net___init__.nd) qgs_nil))))))
    (qss_one (qs_expr (q_meth (pl := _) H_put_in hr (by decide) (qv 0) (qa_cons (qv 7) (qa_cons (qv 3) (qa_cons (qv 8) (qa_cons (qv 9) (qa_cons (qv 10) qa_nil)))))))))
    (qss_cons (qs_forD dw_keys (fun h => pi_keysL h) rfl (q_fld (qv 0)) (qg_name 3 sc_Net___init__.nd)
    (qss_one (qs_if (QW.pt (qw_or (qt_c (c_notin (hu_of hr)) (qv 3) (q_fld (qv 0))) (qw_or1 (qt_c (c_notin (hu_of hr)) (qv 3) (q_fld (qv 0))))))
    (qss_one qs_stop)
    qss_nil)))
    (qss_cons (qs_set 4 sc_Net___init__.nd (q_meth0 (pl := _) H_joined hr (by decide) (qv 0)))
    (qss_one (qs_forD dw_keys (fun h => pi_keysL h) rfl (q_fld (qv 0)) (qg_name 3 sc_Net___init__.nd)
    (qss_one (qs_if (qt_c (c_notin (hu_of hr)) (qv 3) (qv 4))
    (qss_one qs_stop)
    qss_nil))))))))))))))) pure_Net___init__
theorem sc_are_names : FnScope N_are_names ["words"] (defScope (topS 49)) := ⟨rfl, rfl, rfl, by decide +kernel, rfl, by decide +kernel, by decide +kernel⟩
theorem ok_are_names (T : Gf K mg) (G_is_name : Df P w K mg base 1 "is_name" [] (sp_is_name K)) {f : Addr} {fd : FuncData} (F : FunD K "are_names" "are_names" (defArgs (topS 49)) (defBody (topS 49)) (defScope (topS 49)) [] [] f fd) : FnOk P w K mg base (L2.CX P w) 2 f fd ["words"] (spOf K (sp_are_names K)) :=
  mkFn (t := t_are_names K) F sc_are_names len_are_names (fun cdv A outer s H E hr => by
    unfold t_are_names
    exact (qss_one (qs_ret (q_allB rfl T.free_all (qa_cons (q_lc false [("word", 1)] rfl sc_are_names.nd (qi_seq (qv 0)) (blkOk_by (N := N_are_names) (sc := defScope (topS 49)) (by decide +kernel)) (fun _ _ _ _ _ => (qg_name 1 sc_are_names.nd)) (fun _ _ _ _ _ => qts_nil) (fun _ _ _ _ _ => (q_call G_is_name hr (by decide) (qa_cons (qv 1) qa_nil)))) qa_nil))))) pure_are_names
theorem sc_number_in : FnScope N_number_in ["word", "low", "high"] (defScope (topS 21)) := ⟨rfl, rfl, rfl, by decide +kernel, rfl, by decide +kernel, by decide +kernel⟩
theorem ok_number_in (T : Gf K mg) {f : Addr} {fd : FuncData} (F : FunD K "number_in" "number_in" (defArgs (topS 21)) (defBody (topS 21)) (defScope (topS 21)) [] [] f fd) : FnOk P w K mg base (L2.CX P w) 1 f fd ["word", "low", "high"] (spOf K (sp_number_in K)) :=
  mkFn (t := t_number_in K) F sc_number_in len_number_in (fun cdv A outer s H E hr => by
    unfold t_number_in
    exact (qss_cons (qs_if (QW.pt (qw_or (qt_c (c_eq hr.units) (qv 0) q_str) (qw_or1 (qt_c c_gt (q_len T.free_len (qa_cons (qv 0) qa_nil)) q_int))))
    (qss_one (qs_raise0 rfl T.exc_BadWord q_str))
    qss_nil)
    (qss_cons (qs_for rfl (qi_seq (qv 0)) (qg_name 3 sc_number_in.nd)
    (qss_one (qs_if (qt_c (c_notin (hu_of hr)) (qv 3) (q_gS T.gstr_FIGURES))
    (qss_one (qs_raise0 rfl T.exc_BadWord q_str))
    qss_nil)))
    (qss_cons (qs_if (QW.pt (qw_and (qt_c (c_eq hr.units) (q_ix (hu_of hr) (qv 0) q_int) q_str) (qw_and1 (qt_c c_gt (q_len T.free_len (qa_cons (qv 0) qa_nil)) q_int))))
    (qss_one (qs_raise0 rfl T.exc_BadWord q_str))
    qss_nil)
    (qss_cons (qs_set 4 sc_number_in.nd (q_int_ T.free_int (qa_cons (qv 0) qa_nil)))
    (qss_cons (qs_if (qt_not (qt_chain c_le c_le (qv 1) (qv 4) (qv 2)))
    (qss_one (qs_raise0 rfl T.exc_BadWord q_str))
    qss_nil)
    (qss_one (qs_ret (qv 4))))))))) pure_number_in
theorem sc_numbers_of : FnScope N_numbers_of ["words"] (defScope (topS 48)) := ⟨rfl, rfl, rfl, by decide +kernel, rfl, by decide +kernel, by decide +kernel⟩
theorem ok_numbers_of (T : Gf K mg) (G_number_in : Df P w K mg base 1 "number_in" [] (sp_number_in K)) {f : Addr} {fd : FuncData} (F : FunD K "numbers_of" "numbers_of" (defArgs (topS 48)) (defBody (topS 48)) (defScope (topS 48)) [] [] f fd) : FnOk P w K mg base (L2.CX P w) 2 f fd ["words"] (spOf K (sp_numbers_of K)) :=
  mkFn (t := t_numbers_of K) F sc_numbers_of len_numbers_of (fun cdv A outer s H E hr => by
    unfold t_numbers_of
    exact (qss_one (qs_tryThru (qss_one (qs_setLc false 1 [("word", 2)] rfl sc_numbers_of.nd (qi_seq (qv 0)) (blkOk_by (N := N_numbers_of) (sc := defScope (topS 48)) (by decide +kernel)) (fun _ _ _ _ _ => (qg_name 2 sc_numbers_of.nd)) (fun _ _ _ _ _ => qts_nil) (fun _ _ _ _ _ => (q_call G_number_in hr (by decide) (qa_cons (qv 2) (qa_cons q_int (qa_cons (q_gI T.gint_MOST_NUMBER) qa_nil))))) (sw_true rfl rfl rfl (by decide +kernel))))
    (qss_one (qs_ret (qv 1)))))) pure_numbers_of
theorem sc_part_told : FnScope N_part_told ["words"] (defScope (topS 51)) := ⟨rfl, rfl, rfl, by decide +kernel, rfl, by decide +kernel, by decide +kernel⟩
theorem ok_part_told (T : Gf K mg) (G_are_names : Df P w K mg base 2 "are_names" [] (sp_are_names K)) (G_numbers_of : Df P w K mg base 2 "numbers_of" [] (sp_numbers_of K)) {f : Addr} {fd : FuncData} (F : FunD K "part_told" "part_told" (defArgs (topS 51)) (defBody (topS 51)) (defScope (topS 51)) [] [] f fd) : FnOk P w K mg base (L2.CX P w) 3 f fd ["words"] (spOf K (sp_part_told K)) :=
  mkFn (t := t_part_told K) F sc_part_told len_part_told (fun cdv A outer s H E hr => by
    unfold t_part_told
    exact (qss_cons (qs_if (QW.pt (qw_or (qt_c (c_ne hr.units) (q_bm s_countL PySem.F.plainAttrs_list PySem.F.slot_list_count PySem.F.type_list_count mt_countL (qv 0) (qa_cons q_str qa_nil)) q_int) (qw_or1 (qt_c (c_ne hr.units) (q_bm s_countL PySem.F.plainAttrs_list PySem.F.slot_list_count PySem.F.type_list_count mt_countL (qv 0) (qa_cons q_str qa_nil)) q_int))))
    (qss_one (qs_ret q_non))
    qss_nil)
    (qss_cons (qs_set 1 sc_part_told.nd (q_bm s_index PySem.F.plainAttrs_list PySem.F.slot_list_index PySem.F.type_list_index mt_index (qv 0) (qa_cons q_str qa_nil)))
    (qss_cons (qs_set 2 sc_part_told.nd (q_bm s_index PySem.F.plainAttrs_list PySem.F.slot_list_index PySem.F.type_list_index mt_index (qv 0) (qa_cons q_str qa_nil)))
    (qss_cons (qs_if (QW.pt (qw_or (qt_not (qt_chain c_le c_lt q_int (qv 1) (qv 2))) (qw_or1 (qt_not (qt_val (q_call G_are_names hr (by decide) (qa_cons (q_slice false (qv 0) qo_none (qo_some q_int)) qa_nil)))))))
    (qss_one (qs_ret q_non))
    qss_nil)
    (qss_cons (qs_set 3 sc_part_told.nd (q_call G_numbers_of hr (by decide) (qa_cons (q_slice false (qv 0) (qo_some q_int) (qo_some (qv 1))) qa_nil)))
    (qss_cons (qs_set 4 sc_part_told.nd (q_slice false (qv 0) (qo_some (q_add false (qv 1) q_int)) (qo_some (qv 2))))
    (qss_cons (qs_set 5 sc_part_told.nd (q_slice false (qv 0) (qo_some (q_add false (qv 2) q_int)) qo_none))
    (qss_cons (qs_if (QW.pt (qw_or (qt_c c_is (qv 3) q_non) (qw_or1 (qt_not (qt_val (q_call G_are_names hr (by decide) (qa_cons (q_add false (qv 4) (qv 5)) qa_nil)))))))
    (qss_one (qs_ret q_non))
    qss_nil)
    (qss_one (qs_ret (q_tup (qa_cons (q_ix (hu_of hr) (qv 0) q_int) (qa_cons (q_ix (hu_of hr) (qv 0) q_int) (qa_cons (qv 3) (qa_cons (qv 4) (qa_cons (qv 5) qa_nil))))))))))))))))) pure_part_told
theorem sc_lane_of : FnScope N_lane_of ["words"] (defScope (topS 50)) := ⟨rfl, rfl, rfl, by decide +kernel, rfl, by decide +kernel, by decide +kernel⟩
theorem ok_lane_of (T : Gf K mg) (G_is_name : Df P w K mg base 1 "is_name" [] (sp_is_name K)) (G_numbers_of : Df P w K mg base 2 "numbers_of" [] (sp_numbers_of K)) {f : Addr} {fd : FuncData} (F : FunD K "lane_of" "lane_of" (defArgs (topS 50)) (defBody (topS 50)) (defScope (topS 50)) [] [] f fd) : FnOk P w K mg base (L2.CX P w) 3 f fd ["words"] (spOf K (sp_lane_of K)) :=
  mkFn (t := t_lane_of K) F sc_lane_of len_lane_of (fun cdv A outer s H E hr => by
    unfold t_lane_of
    exact (qss_cons (qs_if (QW.pt (qw_or (qt_c c_lt (q_len T.free_len (qa_cons (qv 0) qa_nil)) q_int) (qw_or1 (qt_not (qt_val (q_call G_is_name hr (by decide) (qa_cons (q_ix (hu_of hr) (qv 0) q_int) qa_nil)))))))
    (qss_one (qs_ret q_non))
    qss_nil)
    (qss_cons (qs_set 1 sc_lane_of.nd (q_call G_numbers_of hr (by decide) (qa_cons (q_slice false (qv 0) (qo_some q_int) qo_none) qa_nil)))
    (qss_cons (qs_if (qt_c c_is (qv 1) q_non)
    (qss_one (qs_ret q_non))
    qss_nil)
    (qss_one (qs_ret (q_tup (qa_cons (q_ix (hu_of hr) (qv 0) q_int) (qa_cons (q_ix (hu_of hr) (qv 1) q_int) (qa_cons (q_slice false (qv 1) (qo_some q_int) qo_none) qa_nil)))))))))) pure_lane_of
theorem sc_words_of : FnScope N_words_of ["row"] (defScope (topS 22)) := ⟨rfl, rfl, rfl, by decide +kernel, rfl, by decide +kernel, by decide +kernel⟩
theorem ok_words_of (T : Gf K mg) {f : Addr} {fd : FuncData} (F : FunD K "words_of" "words_of" (defArgs (topS 22)) (defBody (topS 22)) (defScope (topS 22)) [] [] f fd) : FnOk P w K mg base (L2.CX P w) 1 f fd ["row"] (spOf K sp_words_of) :=
  mkFn (t := t_words_of) F sc_words_of len_words_of (fun cdv A outer s H E hr => by
    unfold t_words_of
    exact (qss_one (qs_ret (q_bm (s_split false) PySem.F.plainAttrs_str PySem.F.slot_str_split PySem.F.type_str_split mt_split (qv 0) (qa_cons q_str qa_nil))))) pure_words_of
theorem sc_read_net : FnScope N_read_net ["text"] (defScope (topS 52)) := ⟨rfl, rfl, rfl, by decide +kernel, rfl, by decide +kernel, by decide +kernel⟩
theorem ok_read_net (T : Gf K mg) (G_part_told : Df P w K mg base 3 "part_told" [] (sp_part_told K)) (G_lane_of : Df P w K mg base 3 "lane_of" [] (sp_lane_of K)) (G_words_of : Df P w K mg base 1 "words_of" [] sp_words_of) (M_Net : Mkr P w K mg base 6 "Net" (He.ga K "Net") [] (sp_Net___init__ K)) {f : Addr} {fd : FuncData} (F : FunD K "read_net" "read_net" (defArgs (topS 52)) (defBody (topS 52)) (defScope (topS 52)) [] [] f fd) : FnOk P w K mg base (L2.CX P w) 8 f fd ["text"] (spOf K (sp_read_net K)) :=
  mkFn (t := t_read_net K) F sc_read_net len_read_net (fun cdv A outer s H E hr => by
    unfold t_read_net
    exact (qss_cons (qs_set 1 sc_read_net.nd (q_lst true qa_nil))
    (qss_cons (qs_set 2 sc_read_net.nd (q_lst true qa_nil))
    (qss_cons (qs_for rfl (qi_enum T.free_enumerate (qa_cons (q_bm (s_split false) PySem.F.plainAttrs_str PySem.F.slot_str_split PySem.F.type_str_split mt_split (qv 0) (qa_cons q_str qa_nil)) qa_nil)) (qg_tup rfl (qgs_cons (qg_name 3 sc_read_net.nd) (qgs_cons (qg_name 4 sc_read_net.nd) qgs_nil)))
    (qss_cons (qs_set 5 sc_read_net.nd (q_call G_words_of hr (by decide) (qa_cons (qv 4) qa_nil)))
    (qss_cons (qs_if (QW.pt (qw_and (qt_c (c_eq hr.units) (q_ix (hu_of hr) (qv 5) q_int) q_str) (qw_and1 (qt_c (c_eq hr.units) (qv 2) (q_lst false qa_nil)))))
    (qss_cons (qs_set 6 sc_read_net.nd (q_call G_lane_of hr (by decide) (qa_cons (qv 5) qa_nil)))
    (qss_one (qs_expr (q_bm s_append PySem.F.plainAttrs_list PySem.F.slot_list_append PySem.F.type_list_append mt_append (qv 1) (qa_cons (qv 6) qa_nil)))))
    (qss_one (qs_if (qt_c (c_eq hr.units) (q_ix (hu_of hr) (qv 5) q_int) q_str)
    (qss_one (qs_set 6 sc_read_net.nd q_non))
    (qss_cons (qs_set 6 sc_read_net.nd (q_call G_part_told hr (by decide) (qa_cons (qv 5) qa_nil)))
    (qss_one (qs_expr (q_bm s_append PySem.F.plainAttrs_list PySem.F.slot_list_append PySem.F.type_list_append mt_append (qv 2) (qa_cons (qv 6) qa_nil))))))))
    (qss_one (qs_if (qt_c c_is (qv 6) q_non)
    (qss_one qs_stop)
    qss_nil)))))
    (qss_one (qs_ret (q_fzN (q_make M_Net hr (by decide) (qa_cons (qv 1) (qa_cons (qv 2) qa_nil)))))))))) pure_read_net
theorem sc__law_rows : FnScope N__law_rows ["_law_lanes", "_law_parts"] (defScope (topS 70)) := ⟨rfl, rfl, rfl, by decide +kernel, rfl, by decide +kernel, by decide +kernel⟩
theorem ok__law_rows (T : Gf K mg) {f : Addr} {fd : FuncData} (F : FunD K "_law_rows" "_law_rows" (defArgs (topS 70)) (defBody (topS 70)) (defScope (topS 70)) [] [] f fd) : FnOk P w K mg base (L2.CX P w) 1 f fd ["_law_lanes", "_law_parts"] (spOf K sp__law_rows) :=
  mkFn (t := t__law_rows) F sc__law_rows len__law_rows (fun cdv A outer s H E hr => by
    unfold t__law_rows
    exact (qss_cons (qs_set 2 sc__law_rows.nd (q_lst true qa_nil))
    (qss_cons (qs_for rfl (qi_seq (qv 0)) (qg_tup rfl (qgs_cons (qg_name 3 sc__law_rows.nd) (qgs_cons (qg_name 4 sc__law_rows.nd) (qgs_cons (qg_name 5 sc__law_rows.nd) qgs_nil))))
    (qss_one (qs_expr (q_bm s_append PySem.F.plainAttrs_list PySem.F.slot_list_append PySem.F.type_list_append mt_append (qv 2) (qa_cons (q_bm s_join PySem.F.plainAttrs_str PySem.F.slot_str_join PySem.F.type_str_join mt_join q_str (qa_cons (q_add false (q_lst false (qa_cons q_str (qa_cons (qv 3) (qa_cons (q_str_ T.free_str (qa_cons (qv 4) qa_nil)) qa_nil)))) (q_lc false [("_law_value_here", 11)] rfl sc__law_rows.nd (qi_seq (qv 5)) (blkOk_by (N := N__law_rows) (sc := defScope (topS 70)) (by decide +kernel)) (fun _ _ _ _ _ => (qg_name 11 sc__law_rows.nd)) (fun _ _ _ _ _ => qts_nil) (fun _ _ _ _ _ => (q_str_ T.free_str (qa_cons (qv 11) qa_nil))))) qa_nil)) qa_nil)))))
    (qss_cons (qs_for rfl (qi_seq (qv 1)) (qg_tup rfl (qgs_cons (qg_name 6 sc__law_rows.nd) (qgs_cons (qg_name 3 sc__law_rows.nd) (qgs_cons (qg_name 7 sc__law_rows.nd) (qgs_cons (qg_name 8 sc__law_rows.nd) (qgs_cons (qg_name 9 sc__law_rows.nd) qgs_nil))))))
    (qss_cons (qs_set 10 sc__law_rows.nd (q_add false (q_add false (q_add false (q_add false (q_add false (q_lst false (qa_cons (qv 6) (qa_cons (qv 3) qa_nil))) (q_lc false [("_law_number", 12)] rfl sc__law_rows.nd (qi_seq (qv 7)) (blkOk_by (N := N__law_rows) (sc := defScope (topS 70)) (by decide +kernel)) (fun _ _ _ _ _ => (qg_name 12 sc__law_rows.nd)) (fun _ _ _ _ _ => qts_nil) (fun _ _ _ _ _ => (q_str_ T.free_str (qa_cons (qv 12) qa_nil))))) (q_lst false (qa_cons q_str qa_nil))) (q_list false rfl T.free_list (qa_cons (qv 8) qa_nil))) (q_lst false (qa_cons q_str qa_nil))) (q_list false rfl T.free_list (qa_cons (qv 9) qa_nil))))
    (qss_one (qs_expr (q_bm s_append PySem.F.plainAttrs_list PySem.F.slot_list_append PySem.F.type_list_append mt_append (qv 2) (qa_cons (q_bm s_join PySem.F.plainAttrs_str PySem.F.slot_str_join PySem.F.type_str_join mt_join q_str (qa_cons (qv 10) qa_nil)) qa_nil))))))
    (qss_one (qs_ret (q_fz (qv 2)))))))) pure__law_rows
theorem sc__law_told : FnScope N__law_told ["_law_lanes", "_law_parts"] (defScope (topS 69)) := ⟨rfl, rfl, rfl, by decide +kernel, rfl, by decide +kernel, by decide +kernel⟩
theorem ok__law_told (T : Gf K mg) {f : Addr} {fd : FuncData} (F : FunD K "_law_told" "_law_told" (defArgs (topS 69)) (defBody (topS 69)) (defScope (topS 69)) [] [] f fd) : FnOk P w K mg base (L2.CX P w) 1 f fd ["_law_lanes", "_law_parts"] (spOf K sp__law_told) :=
  mkFn (t := t__law_told) F sc__law_told len__law_told (fun cdv A outer s H E hr => by
    unfold t__law_told
    exact (qss_cons (qs_setLc false 2 [("_law_name", 4), ("_law_room", 5), ("_law_values", 6)] rfl sc__law_told.nd (qi_seq (qv 0)) (blkOk_by (N := N__law_told) (sc := defScope (topS 69)) (by decide +kernel)) (fun _ _ _ _ _ => (qg_tupB rfl (qgs_cons (qg_name 4 sc__law_told.nd) (qgs_cons (qg_name 5 sc__law_told.nd) (qgs_cons (qg_name 6 sc__law_told.nd) qgs_nil))))) (fun _ _ _ _ _ => qts_nil) (fun _ _ _ _ _ => (q_tup (qa_cons (qv 4) (qa_cons (qv 5) (qa_cons (q_tuple T.free_tuple (qa_cons (qv 6) qa_nil)) qa_nil))))) (sw_true rfl rfl rfl (by decide +kernel)))
    (qss_cons (qs_setLc false 3 [("_law_kind", 7), ("_law_name", 4), ("_law_numbers", 8), ("_law_ins", 9), ("_law_outs", 10)] rfl sc__law_told.nd (qi_seq (qv 1)) (blkOk_by (N := N__law_told) (sc := defScope (topS 69)) (by decide +kernel)) (fun _ _ _ _ _ => (qg_tupB rfl (qgs_cons (qg_name 7 sc__law_told.nd) (qgs_cons (qg_name 4 sc__law_told.nd) (qgs_cons (qg_name 8 sc__law_told.nd) (qgs_cons (qg_name 9 sc__law_told.nd) (qgs_cons (qg_name 10 sc__law_told.nd) qgs_nil))))))) (fun _ _ _ _ _ => qts_nil) (fun _ _ _ _ _ => (q_tup (qa_cons (qv 7) (qa_cons (qv 4) (qa_cons (q_tuple T.free_tuple (qa_cons (qv 8) qa_nil)) (qa_cons (q_tuple T.free_tuple (qa_cons (qv 9) qa_nil)) (qa_cons (q_tuple T.free_tuple (qa_cons (qv 10) qa_nil)) qa_nil))))))) (sw_true rfl rfl rfl (by decide +kernel)))
    (qss_one (qs_ret (q_tup (qa_cons (qv 2) (qa_cons (qv 3) qa_nil)))))))) pure__law_told
theorem sc__law_mix : FnScope N__law_mix ["_law_cell_here", "_law_k"] (defScope (topS 58)) := ⟨rfl, rfl, rfl, by decide +kernel, rfl, by decide +kernel, by decide +kernel⟩
theorem ok__law_mix (T : Gf K mg) {f : Addr} {fd : FuncData} (F : FunD K "_law_mix" "_law_mix" (defArgs (topS 58)) (defBody (topS 58)) (defScope (topS 58)) [] [] f fd) : FnOk P w K mg base (L2.CX P w) 1 f fd ["_law_cell_here", "_law_k"] (spOf K sp__law_mix) :=
  mkFn (t := t__law_mix) F sc__law_mix len__law_mix (fun cdv A outer s H E hr => by
    unfold t__law_mix
    exact (qss_cons (qs_set 2 sc__law_mix.nd (q_mod (q_add false (q_add false (q_mul (q_mod (qv 0) q_int) q_int) (q_mul q_int (qv 1))) q_int) q_int))
    (qss_cons (qs_set 2 sc__law_mix.nd (q_mod (q_mul (qv 2) (qv 2)) q_int))
    (qss_one (qs_ret (q_mod (q_mul (q_add false (qv 2) (q_mul q_int (qv 1))) (qv 2)) q_int)))))) pure__law_mix
theorem sc__law_value : FnScope N__law_value ["_law_cell_here", "_law_k"] (defScope (topS 59)) := ⟨rfl, rfl, rfl, by decide +kernel, rfl, by decide +kernel, by decide +kernel⟩
theorem ok__law_value (T : Gf K mg) (G__law_mix : Df P w K mg base 1 "_law_mix" [] sp__law_mix) {f : Addr} {fd : FuncData} (F : FunD K "_law_value" "_law_value" (defArgs (topS 59)) (defBody (topS 59)) (defScope (topS 59)) [] [] f fd) : FnOk P w K mg base (L2.CX P w) 2 f fd ["_law_cell_here", "_law_k"] (spOf K sp__law_value) :=
  mkFn (t := t__law_value) F sc__law_value len__law_value (fun cdv A outer s H E hr => by
    unfold t__law_value
    exact (qss_cons (qs_set 2 sc__law_value.nd (q_call G__law_mix hr (by decide) (qa_cons (qv 0) (qa_cons (qv 1) qa_nil))))
    (qss_cons (qs_set 3 sc__law_value.nd (q_mod (q_div (qv 2) q_int) q_int))
    (qss_cons (qs_if (qt_c (c_eq hr.units) (qv 3) q_int)
    (qss_one (qs_ret (q_mod (qv 2) q_int)))
    qss_nil)
    (qss_cons (qs_if (qt_c (c_eq hr.units) (qv 3) q_int)
    (qss_one (qs_ret (q_mod (qv 2) (q_pow q_int q_int))))
    qss_nil)
    (qss_one (qs_ret (q_sub (q_sub (q_pow q_int q_int) q_int) (q_mod (qv 2) q_int))))))))) pure__law_value
theorem sc__law_cell : FnScope N__law_cell ["_law_script", "_law_k"] (defScope (topS 57)) := ⟨rfl, rfl, rfl, by decide +kernel, rfl, by decide +kernel, by decide +kernel⟩
theorem ok__law_cell (T : Gf K mg) {f : Addr} {fd : FuncData} (F : FunD K "_law_cell" "_law_cell" (defArgs (topS 57)) (defBody (topS 57)) (defScope (topS 57)) [] [] f fd) : FnOk P w K mg base (L2.CX P w) 1 f fd ["_law_script", "_law_k"] (spOf K sp__law_cell) :=
  mkFn (t := t__law_cell) F sc__law_cell len__law_cell (fun cdv A outer s H E hr => by
    unfold t__law_cell
    exact (qss_cons (qs_if (qt_c c_lt (qv 1) (q_len T.free_len (qa_cons (qv 0) qa_nil)))
    (qss_one (qs_ret (q_ix (hu_of hr) (qv 0) (qv 1))))
    qss_nil)
    (qss_one (qs_ret (q_add false (q_mul q_int (qv 1)) q_int))))) pure__law_cell
theorem sc__law_word : FnScope N__law_word ["_law_cell_here", "_law_k"] (defScope (topS 60)) := ⟨rfl, rfl, rfl, by decide +kernel, rfl, by decide +kernel, by decide +kernel⟩
theorem ok__law_word (T : Gf K mg) (G__law_mix : Df P w K mg base 1 "_law_mix" [] sp__law_mix) {f : Addr} {fd : FuncData} (F : FunD K "_law_word" "_law_word" (defArgs (topS 60)) (defBody (topS 60)) (defScope (topS 60)) [] [] f fd) : FnOk P w K mg base (L2.CX P w) 2 f fd ["_law_cell_here", "_law_k"] (spOf K sp__law_word) :=
  mkFn (t := t__law_word) F sc__law_word len__law_word (fun cdv A outer s H E hr => by
    unfold t__law_word
    exact (qss_cons (qs_set 2 sc__law_word.nd q_str)
    (qss_cons (qs_if (qt_c (c_eq hr.units) (q_mod (q_call G__law_mix hr (by decide) (qa_cons (qv 0) (qa_cons q_int qa_nil))) q_int) q_int)
    (qss_one (qs_ret (q_add false (q_ix (hu_of hr) (qv 2) (q_mod (q_call G__law_mix hr (by decide) (qa_cons (qv 0) (qa_cons q_int qa_nil))) q_int)) (q_str_ T.free_str (qa_cons (q_add false (q_mod (q_call G__law_mix hr (by decide) (qa_cons (qv 0) (qa_cons q_int qa_nil))) q_int) (q_mul q_int (qv 1))) qa_nil)))))
    qss_nil)
    (qss_cons (qs_set 3 sc__law_word.nd (q_mod (q_call G__law_mix hr (by decide) (qa_cons (qv 0) (qa_cons q_int qa_nil))) q_int))
    (qss_cons (qs_set 4 sc__law_word.nd (q_bm s_join PySem.F.plainAttrs_str PySem.F.slot_str_join PySem.F.type_str_join mt_join q_str (qa_cons (q_lc false [("_law_j", 6)] rfl sc__law_word.nd (qi_range1 T.free_range (qa_cons (qv 3) qa_nil)) (blkOk_by (N := N__law_word) (sc := defScope (topS 60)) (by decide +kernel)) (fun _ _ _ _ _ => (qg_name 6 sc__law_word.nd)) (fun _ _ _ _ _ => qts_nil) (fun _ _ _ _ _ => (q_ix (hu_of hr) (qv 2) (q_mod (q_call G__law_mix hr (by decide) (qa_cons (qv 0) (qa_cons (q_add false q_int (qv 6)) qa_nil))) q_int)))) qa_nil)))
    (qss_cons (qs_set 5 sc__law_word.nd (q_mod (q_call G__law_mix hr (by decide) (qa_cons (qv 0) (qa_cons q_int qa_nil))) (q_add false (qv 3) q_int)))
    (qss_one (qs_ret (q_add false (q_add false (q_slice false (qv 4) qo_none (qo_some (qv 5))) (q_ix (hu_of hr) (qv 2) (q_mod (q_add false (q_call G__law_mix hr (by decide) (qa_cons (qv 0) (qa_cons q_int qa_nil))) (qv 1)) q_int))) (q_slice false (qv 4) (qo_some (qv 5)) qo_none)))))))))) pure__law_word
theorem sc__law_lane : FnScope N__law_lane ["_law_state", "_law_cell_here", "_law_back"] (defScope (topS 61)) := ⟨rfl, rfl, rfl, by decide +kernel, rfl, by decide +kernel, by decide +kernel⟩
theorem ok__law_lane (T : Gf K mg) (G__law_mix : Df P w K mg base 1 "_law_mix" [] sp__law_mix) (G__law_value : Df P w K mg base 2 "_law_value" [] sp__law_value) (G__law_word : Df P w K mg base 2 "_law_word" [] sp__law_word) {f : Addr} {fd : FuncData} (F : FunD K "_law_lane" "_law_lane" (defArgs (topS 61)) (defBody (topS 61)) (defScope (topS 61)) [] [] f fd) : FnOk P w K mg base (L2.CX P w) 3 f fd ["_law_state", "_law_cell_here", "_law_back"] (spOf K sp__law_lane) :=
  mkFn (t := t__law_lane) F sc__law_lane len__law_lane (fun cdv A outer s H E hr => by
    unfold t__law_lane
    exact (qss_cons (qs_set 3 sc__law_lane.nd (q_ix (hu_of hr) (q_lst false (qa_cons q_int (qa_cons q_int (qa_cons q_int (qa_cons q_int (qa_cons q_int qa_nil)))))) (q_mod (q_call G__law_mix hr (by decide) (qa_cons (qv 1) (qa_cons q_int qa_nil))) q_int)))
    (qss_cons (qs_if (qt_val (qv 2))
    (qss_one (qs_set 3 sc__law_lane.nd (q_mod (q_call G__law_mix hr (by decide) (qa_cons (qv 1) (qa_cons q_int qa_nil))) q_int)))
    qss_nil)
    (qss_cons (qs_setLc false 4 [("_law_k", 7)] rfl sc__law_lane.nd (qi_range1 T.free_range (qa_cons (qv 3) qa_nil)) (blkOk_by (N := N__law_lane) (sc := defScope (topS 61)) (by decide +kernel)) (fun _ _ _ _ _ => (qg_name 7 sc__law_lane.nd)) (fun _ _ _ _ _ => qts_nil) (fun _ _ _ _ _ => (q_call G__law_value hr (by decide) (qa_cons (qv 1) (qa_cons (q_add false q_int (qv 7)) qa_nil)))) (sw_true rfl rfl rfl (by decide +kernel)))
    (qss_cons (qs_set 5 sc__law_lane.nd (q_add false (q_max2 rfl T.free_max (qa_cons q_int (qa_cons (qv 3) qa_nil))) (q_ix (hu_of hr) (q_lst false (qa_cons q_int (qa_cons q_int (qa_cons q_int (qa_cons q_int (qa_cons q_int (qa_cons q_int qa_nil))))))) (q_mod (q_call G__law_mix hr (by decide) (qa_cons (qv 1) (qa_cons q_int qa_nil))) q_int))))
    (qss_cons (qs_set 6 sc__law_lane.nd (q_call G__law_word hr (by decide) (qa_cons (q_ix (hu_of hr) (qv 0) q_int) (qa_cons (q_len T.free_len (qa_cons (q_ix (hu_of hr) (qv 0) q_int) qa_nil)) qa_nil))))
    (qss_cons (qs_expr (q_bm s_append PySem.F.plainAttrs_list PySem.F.slot_list_append PySem.F.type_list_append mt_append (q_ix (hu_of hr) (qv 0) q_int) (qa_cons (q_tup (qa_cons (qv 6) (qa_cons (qv 5) (qa_cons (qv 4) qa_nil)))) qa_nil)))
    (qss_one (qs_ret (qv 6)))))))))) pure__law_lane
theorem sc__law_part : FnScope N__law_part ["_law_state", "_law_cell_here", "_law_kind", "_law_numbers", "_law_ins", "_law_many"] (defScope (topS 62)) := ⟨rfl, rfl, rfl, by decide +kernel, rfl, by decide +kernel, by decide +kernel⟩
theorem ok__law_part (T : Gf K mg) (G__law_mix : Df P w K mg base 1 "_law_mix" [] sp__law_mix) (G__law_word : Df P w K mg base 2 "_law_word" [] sp__law_word) (G__law_lane : Df P w K mg base 3 "_law_lane" [] sp__law_lane) {f : Addr} {fd : FuncData} (F : FunD K "_law_part" "_law_part" (defArgs (topS 62)) (defBody (topS 62)) (defScope (topS 62)) [] [] f fd) : FnOk P w K mg base (L2.CX P w) 4 f fd ["_law_state", "_law_cell_here", "_law_kind", "_law_numbers", "_law_ins", "_law_many"] (spOf K sp__law_part) :=
  mkFn (t := t__law_part) F sc__law_part len__law_part (fun cdv A outer s H E hr => by
    unfold t__law_part
    exact (qss_cons (qs_setLc false 6 [("_law_k", 7)] rfl sc__law_part.nd (qi_range1 T.free_range (qa_cons (qv 5) qa_nil)) (blkOk_by (N := N__law_part) (sc := defScope (topS 62)) (by decide +kernel)) (fun _ _ _ _ _ => (qg_name 7 sc__law_part.nd)) (fun _ _ _ _ _ => qts_nil) (fun _ _ _ _ _ => (q_call G__law_lane hr (by decide) (qa_cons (qv 0) (qa_cons (q_call G__law_mix hr (by decide) (qa_cons (qv 1) (qa_cons (q_add false q_int (qv 7)) qa_nil))) (qa_cons q_bl qa_nil))))) (sw_true rfl rfl rfl (by decide +kernel)))
    (qss_cons (qs_expr (q_bm s_append PySem.F.plainAttrs_list PySem.F.slot_list_append PySem.F.type_list_append mt_append (q_ix (hu_of hr) (qv 0) q_int) (qa_cons (q_tup (qa_cons (qv 2) (qa_cons (q_call G__law_word hr (by decide) (qa_cons (q_ix (hu_of hr) (qv 0) q_int) (qa_cons (q_len T.free_len (qa_cons (q_ix (hu_of hr) (qv 0) q_int) qa_nil)) qa_nil))) (qa_cons (qv 3) (qa_cons (qv 4) (qa_cons (qv 6) qa_nil)))))) qa_nil)))
    (qss_one (qs_expr (q_bm s_extend PySem.F.plainAttrs_list PySem.F.slot_list_extend PySem.F.type_list_extend mt_extend (q_ix (hu_of hr) (qv 0) q_int) (qa_cons (qv 6) qa_nil))))))) pure__law_part
theorem sc__law_closed : FnScope N__law_closed ["_law_state", "_law_cell_here", "_law_back"] (defScope (topS 67)) := ⟨rfl, rfl, rfl, by decide +kernel, rfl, by decide +kernel, by decide +kernel⟩
theorem ok__law_closed (T : Gf K mg) (G__law_mix : Df P w K mg base 1 "_law_mix" [] sp__law_mix) (G__law_word : Df P w K mg base 2 "_law_word" [] sp__law_word) (G__law_lane : Df P w K mg base 3 "_law_lane" [] sp__law_lane) (G__law_part : Df P w K mg base 4 "_law_part" [] sp__law_part) {f : Addr} {fd : FuncData} (F : FunD K "_law_closed" "_law_closed" (defArgs (topS 67)) (defBody (topS 67)) (defScope (topS 67)) [] [] f fd) : FnOk P w K mg base (L2.CX P w) 5 f fd ["_law_state", "_law_cell_here", "_law_back"] (spOf K sp__law_closed) :=
  mkFn (t := t__law_closed) F sc__law_closed len__law_closed (fun cdv A outer s H E hr => by
    unfold t__law_closed
    exact (qss_cons (qs_while (qt_c c_gt (q_len T.free_len (qa_cons (q_ix (hu_of hr) (qv 0) q_int) qa_nil)) q_int)
    (qss_cons (qs_set 4 sc__law_closed.nd (q_bm s_popAt PySem.F.plainAttrs_list PySem.F.slot_list_pop PySem.F.type_list_pop mt_popAt (q_ix (hu_of hr) (qv 0) q_int) (qa_cons q_int qa_nil)))
    (qss_cons (qs_set 5 sc__law_closed.nd (q_bm s_popAt PySem.F.plainAttrs_list PySem.F.slot_list_pop PySem.F.type_list_pop mt_popAt (q_ix (hu_of hr) (qv 0) q_int) (qa_cons q_int qa_nil)))
    (qss_cons (qs_set 6 sc__law_closed.nd (q_ix (hu_of hr) (q_lst false (qa_cons q_str (qa_cons q_str (qa_cons q_str qa_nil)))) (q_mod (q_call G__law_mix hr (by decide) (qa_cons (qv 1) (qa_cons (q_len T.free_len (qa_cons (q_ix (hu_of hr) (qv 0) q_int) qa_nil)) qa_nil))) q_int)))
    (qss_one (qs_expr (q_call G__law_part hr (by decide) (qa_cons (qv 0) (qa_cons (q_call G__law_mix hr (by decide) (qa_cons (qv 1) (qa_cons (q_add false q_int (q_len T.free_len (qa_cons (q_ix (hu_of hr) (qv 0) q_int) qa_nil))) qa_nil))) (qa_cons (qv 6) (qa_cons (q_lst false qa_nil) (qa_cons (q_lst false (qa_cons (qv 4) (qa_cons (qv 5) qa_nil))) (qa_cons q_int qa_nil)))))))))))))
    (qss_cons (qs_for rfl (qi_seq (qv 2)) (qg_name 3 sc__law_closed.nd)
    (qss_cons (qs_set 4 sc__law_closed.nd (q_bm0 s_pop PySem.F.plainAttrs_list PySem.F.slot_list_pop PySem.F.type_list_pop mt_pop (q_ix (hu_of hr) (qv 0) q_int)))
    (qss_cons (qs_set 7 sc__law_closed.nd (q_call G__law_lane hr (by decide) (qa_cons (qv 0) (qa_cons (q_call G__law_mix hr (by decide) (qa_cons (qv 1) (qa_cons (q_add false q_int (q_len T.free_len (qa_cons (q_ix (hu_of hr) (qv 0) q_int) qa_nil))) qa_nil))) (qa_cons q_bl qa_nil)))))
    (qss_cons (qs_expr (q_bm s_append PySem.F.plainAttrs_list PySem.F.slot_list_append PySem.F.type_list_append mt_append (q_ix (hu_of hr) (qv 0) q_int) (qa_cons (q_tup (qa_cons q_str (qa_cons (q_call G__law_word hr (by decide) (qa_cons (q_ix (hu_of hr) (qv 0) q_int) (qa_cons (q_len T.free_len (qa_cons (q_ix (hu_of hr) (qv 0) q_int) qa_nil)) qa_nil))) (qa_cons (q_lst false qa_nil) (qa_cons (q_lst false (qa_cons (qv 4) qa_nil)) (qa_cons (q_lst false (qa_cons (qv 3) (qa_cons (qv 7) qa_nil))) qa_nil)))))) qa_nil)))
    (qss_one (qs_expr (q_bm s_append PySem.F.plainAttrs_list PySem.F.slot_list_append PySem.F.type_list_append mt_append (q_ix (hu_of hr) (qv 0) q_int) (qa_cons (qv 7) qa_nil))))))))
    (qss_one (qs_expr (q_call G__law_part hr (by decide) (qa_cons (qv 0) (qa_cons (qv 1) (qa_cons q_str (qa_cons (q_lst false qa_nil) (qa_cons (q_lst false (qa_cons (q_bm0 s_pop PySem.F.plainAttrs_list PySem.F.slot_list_pop PySem.F.type_list_pop mt_pop (q_ix (hu_of hr) (qv 0) q_int)) qa_nil)) (qa_cons q_int qa_nil)))))))))))) pure__law_closed
theorem sc__law_loop : FnScope N__law_loop ["_law_state", "_law_cell_here", "_law_one"] (defScope (topS 65)) := ⟨rfl, rfl, rfl, by decide +kernel, rfl, by decide +kernel, by decide +kernel⟩
theorem ok__law_loop (T : Gf K mg) (G__law_mix : Df P w K mg base 1 "_law_mix" [] sp__law_mix) (G__law_word : Df P w K mg base 2 "_law_word" [] sp__law_word) (G__law_lane : Df P w K mg base 3 "_law_lane" [] sp__law_lane) {f : Addr} {fd : FuncData} (F : FunD K "_law_loop" "_law_loop" (defArgs (topS 65)) (defBody (topS 65)) (defScope (topS 65)) [] [] f fd) : FnOk P w K mg base (L2.CX P w) 4 f fd ["_law_state", "_law_cell_here", "_law_one"] (spOf K sp__law_loop) :=
  mkFn (t := t__law_loop) F sc__law_loop len__law_loop (fun cdv A outer s H E hr => by
    unfold t__law_loop
    exact (qss_cons (qs_set 3 sc__law_loop.nd (q_call G__law_lane hr (by decide) (qa_cons (qv 0) (qa_cons (q_call G__law_mix hr (by decide) (qa_cons (qv 1) (qa_cons q_int qa_nil))) (qa_cons q_bl qa_nil)))))
    (qss_cons (qs_set 4 sc__law_loop.nd (q_call G__law_lane hr (by decide) (qa_cons (qv 0) (qa_cons (q_call G__law_mix hr (by decide) (qa_cons (qv 1) (qa_cons q_int qa_nil))) (qa_cons q_bl qa_nil)))))
    (qss_cons (qs_expr (q_bm s_append PySem.F.plainAttrs_list PySem.F.slot_list_append PySem.F.type_list_append mt_append (q_ix (hu_of hr) (qv 0) q_int) (qa_cons (q_tup (qa_cons q_str (qa_cons (q_call G__law_word hr (by decide) (qa_cons (q_ix (hu_of hr) (qv 0) q_int) (qa_cons (q_len T.free_len (qa_cons (q_ix (hu_of hr) (qv 0) q_int) qa_nil)) qa_nil))) (qa_cons (q_lst false qa_nil) (qa_cons (q_lst false (qa_cons (qv 2) (qa_cons (qv 3) qa_nil))) (qa_cons (q_lst false (qa_cons (qv 3) (qa_cons (qv 4) qa_nil))) qa_nil)))))) qa_nil)))
    (qss_one (qs_expr (q_bm s_append PySem.F.plainAttrs_list PySem.F.slot_list_append PySem.F.type_list_append mt_append (q_ix (hu_of hr) (qv 0) q_int) (qa_cons (qv 4) qa_nil)))))))) pure__law_loop
theorem sc__law_pick : FnScope N__law_pick ["_law_state", "_law_number"] (defScope (topS 63)) := ⟨rfl, rfl, rfl, by decide +kernel, rfl, by decide +kernel, by decide +kernel⟩
theorem ok__law_pick (T : Gf K mg) {f : Addr} {fd : FuncData} (F : FunD K "_law_pick" "_law_pick" (defArgs (topS 63)) (defBody (topS 63)) (defScope (topS 63)) [] [] f fd) : FnOk P w K mg base (L2.CX P w) 1 f fd ["_law_state", "_law_number"] (spOf K sp__law_pick) :=
  mkFn (t := t__law_pick) F sc__law_pick len__law_pick (fun cdv A outer s H E hr => by
    unfold t__law_pick
    exact (qss_one (qs_ret (q_bm s_popAt PySem.F.plainAttrs_list PySem.F.slot_list_pop PySem.F.type_list_pop mt_popAt (q_ix (hu_of hr) (qv 0) q_int) (qa_cons (q_mod (qv 1) (q_len T.free_len (qa_cons (q_ix (hu_of hr) (qv 0) q_int) qa_nil))) qa_nil))))) pure__law_pick
theorem sc__law_two : FnScope N__law_two ["_law_state", "_law_cell_here", "_law_one", "_law_odd"] (defScope (topS 64)) := ⟨rfl, rfl, rfl, by decide +kernel, rfl, by decide +kernel, by decide +kernel⟩
theorem ok__law_two (T : Gf K mg) (G__law_mix : Df P w K mg base 1 "_law_mix" [] sp__law_mix) (G__law_part : Df P w K mg base 4 "_law_part" [] sp__law_part) (G__law_pick : Df P w K mg base 1 "_law_pick" [] sp__law_pick) {f : Addr} {fd : FuncData} (F : FunD K "_law_two" "_law_two" (defArgs (topS 64)) (defBody (topS 64)) (defScope (topS 64)) [] [] f fd) : FnOk P w K mg base (L2.CX P w) 5 f fd ["_law_state", "_law_cell_here", "_law_one", "_law_odd"] (spOf K sp__law_two) :=
  mkFn (t := t__law_two) F sc__law_two len__law_two (fun cdv A outer s H E hr => by
    unfold t__law_two
    exact (qss_cons (qs_set 4 sc__law_two.nd (q_call G__law_pick hr (by decide) (qa_cons (qv 0) (qa_cons (q_call G__law_mix hr (by decide) (qa_cons (qv 1) (qa_cons q_int qa_nil))) qa_nil))))
    (qss_cons (qs_set 5 sc__law_two.nd (q_mod (q_call G__law_mix hr (by decide) (qa_cons (qv 1) (qa_cons q_int qa_nil))) q_int))
    (qss_one (qs_if (QW.pt (qw_and (qt_val (qv 3)) (qw_and (qt_c c_lt (qv 5) q_int) (qw_and1 (qt_c c_gt (q_len T.free_len (qa_cons (q_ix (hu_of hr) (qv 0) q_int) qa_nil)) q_int)))))
    (qss_cons (qs_set 6 sc__law_two.nd (q_call G__law_pick hr (by decide) (qa_cons (qv 0) (qa_cons (q_call G__law_mix hr (by decide) (qa_cons (qv 1) (qa_cons q_int qa_nil))) qa_nil))))
    (qss_one (qs_expr (q_call G__law_part hr (by decide) (qa_cons (qv 0) (qa_cons (qv 1) (qa_cons q_str (qa_cons (q_lst false qa_nil) (qa_cons (q_lst false (qa_cons (qv 2) (qa_cons (qv 4) (qa_cons (qv 6) qa_nil)))) (qa_cons q_int qa_nil))))))))))
    (qss_one (qs_if (QW.pt (qw_and (qt_val (qv 3)) (qw_and1 (qt_c c_lt (qv 5) q_int))))
    (qss_one (qs_expr (q_call G__law_part hr (by decide) (qa_cons (qv 0) (qa_cons (qv 1) (qa_cons q_str (qa_cons (q_lst false qa_nil) (qa_cons (q_lst false (qa_cons (qv 2) (qa_cons (qv 4) qa_nil))) (qa_cons q_int qa_nil)))))))))
    (qss_one (qs_if (qt_c (c_eq hr.units) (q_mod (qv 5) q_int) q_int)
    (qss_one (qs_expr (q_call G__law_part hr (by decide) (qa_cons (qv 0) (qa_cons (qv 1) (qa_cons q_str (qa_cons (q_lst false qa_nil) (qa_cons (q_lst false (qa_cons (qv 2) (qa_cons (qv 4) qa_nil))) (qa_cons q_int qa_nil)))))))))
    (qss_one (qs_expr (q_call G__law_part hr (by decide) (qa_cons (qv 0) (qa_cons (qv 1) (qa_cons (q_ix (hu_of hr) (q_lst false (qa_cons q_str (qa_cons q_str qa_nil))) (q_mod (qv 5) q_int)) (qa_cons (q_lst false qa_nil) (qa_cons (q_lst false (qa_cons (qv 2) (qa_cons (qv 4) qa_nil))) (qa_cons q_int qa_nil)))))))))))))))))) pure__law_two
theorem sc__law_step : FnScope N__law_step ["_law_state", "_law_cell_here", "_law_odd"] (defScope (topS 66)) := ⟨rfl, rfl, rfl, by decide +kernel, rfl, by decide +kernel, by decide +kernel⟩
theorem ok__law_step (T : Gf K mg) (G__law_mix : Df P w K mg base 1 "_law_mix" [] sp__law_mix) (G__law_value : Df P w K mg base 2 "_law_value" [] sp__law_value) (G__law_part : Df P w K mg base 4 "_law_part" [] sp__law_part) (G__law_loop : Df P w K mg base 4 "_law_loop" [] sp__law_loop) (G__law_pick : Df P w K mg base 1 "_law_pick" [] sp__law_pick) (G__law_two : Df P w K mg base 5 "_law_two" [] sp__law_two) {f : Addr} {fd : FuncData} (F : FunD K "_law_step" "_law_step" (defArgs (topS 66)) (defBody (topS 66)) (defScope (topS 66)) [] [] f fd) : FnOk P w K mg base (L2.CX P w) 6 f fd ["_law_state", "_law_cell_here", "_law_odd"] (spOf K sp__law_step) :=
  mkFn (t := t__law_step) F sc__law_step len__law_step (fun cdv A outer s H E hr => by
    unfold t__law_step
    exact (qss_cons (qs_set 3 sc__law_step.nd (q_mod (q_call G__law_mix hr (by decide) (qa_cons (qv 1) (qa_cons q_int qa_nil))) q_int))
    (qss_cons (qs_set 4 sc__law_step.nd (q_call G__law_pick hr (by decide) (qa_cons (qv 0) (qa_cons (q_call G__law_mix hr (by decide) (qa_cons (qv 1) (qa_cons q_int qa_nil))) qa_nil))))
    (qss_one (qs_if (QW.pt (qw_and (qt_c c_lt (qv 3) q_int) (qw_and1 (qt_c c_lt (q_len T.free_len (qa_cons (q_ix (hu_of hr) (qv 0) q_int) qa_nil)) q_int))))
    (qss_one (qs_expr (q_call G__law_part hr (by decide) (qa_cons (qv 0) (qa_cons (qv 1) (qa_cons q_str (qa_cons (q_lst false qa_nil) (qa_cons (q_lst false (qa_cons (qv 4) qa_nil)) (qa_cons q_int qa_nil)))))))))
    (qss_one (qs_if (qt_c (c_eq hr.units) (qv 3) q_int)
    (qss_cons (qs_expr (q_call G__law_part hr (by decide) (qa_cons (qv 0) (qa_cons (qv 1) (qa_cons q_str (qa_cons (q_lst false qa_nil) (qa_cons (q_lst false (qa_cons (qv 4) qa_nil)) (qa_cons q_int qa_nil))))))))
    (qss_one (qs_expr (q_call G__law_part hr (by decide) (qa_cons (qv 0) (qa_cons (qv 1) (qa_cons q_str (qa_cons (q_lst false qa_nil) (qa_cons (q_lst false (qa_cons (q_bm0 s_pop PySem.F.plainAttrs_list PySem.F.slot_list_pop PySem.F.type_list_pop mt_pop (q_ix (hu_of hr) (qv 0) q_int)) qa_nil)) (qa_cons q_int qa_nil))))))))))
    (qss_one (qs_if (QW.pt (qw_and (qt_c c_lt (qv 3) q_int) (qw_and1 (qt_c c_gt (q_len T.free_len (qa_cons (q_ix (hu_of hr) (qv 0) q_int) qa_nil)) q_int))))
    (qss_one (qs_expr (q_call G__law_two hr (by decide) (qa_cons (qv 0) (qa_cons (qv 1) (qa_cons (qv 4) (qa_cons (qv 2) qa_nil)))))))
    (qss_one (qs_if (qt_c c_lt (qv 3) q_int)
    (qss_one (qs_expr (q_call G__law_part hr (by decide) (qa_cons (qv 0) (qa_cons (qv 1) (qa_cons q_str (qa_cons (q_lst false (qa_cons (q_call G__law_value hr (by decide) (qa_cons (qv 1) (qa_cons q_int qa_nil))) (qa_cons (q_call G__law_value hr (by decide) (qa_cons (qv 1) (qa_cons q_int qa_nil))) qa_nil))) (qa_cons (q_lst false (qa_cons (qv 4) qa_nil)) (qa_cons q_int qa_nil)))))))))
    (qss_one (qs_if (qt_c (c_eq hr.units) (qv 3) q_int)
    (qss_one (qs_expr (q_call G__law_part hr (by decide) (qa_cons (qv 0) (qa_cons (qv 1) (qa_cons q_str (qa_cons (q_lst false (qa_cons (q_call G__law_value hr (by decide) (qa_cons (qv 1) (qa_cons q_int qa_nil))) qa_nil)) (qa_cons (q_lst false (qa_cons (qv 4) qa_nil)) (qa_cons q_int qa_nil)))))))))
    (qss_one (qs_if (qt_c (c_eq hr.units) (q_mod (q_call G__law_mix hr (by decide) (qa_cons (qv 1) (qa_cons q_int qa_nil))) q_int) q_int)
    (qss_one (qs_expr (q_call G__law_loop hr (by decide) (qa_cons (qv 0) (qa_cons (qv 1) (qa_cons (qv 4) qa_nil))))))
    (qss_one (qs_expr (q_call G__law_part hr (by decide) (qa_cons (qv 0) (qa_cons (qv 1) (qa_cons q_str (qa_cons (q_lst false qa_nil) (qa_cons (q_lst false (qa_cons (qv 4) qa_nil)) (qa_cons q_int qa_nil)))))))))))))))))))))))) pure__law_step
theorem sc__law_net : FnScope N__law_net ["_law_script", "_law_start", "_law_steps", "_law_odd"] (defScope (topS 68)) := ⟨rfl, rfl, rfl, by decide +kernel, rfl, by decide +kernel, by decide +kernel⟩
theorem ok__law_net (T : Gf K mg) (G__law_mix : Df P w K mg base 1 "_law_mix" [] sp__law_mix) (G__law_cell : Df P w K mg base 1 "_law_cell" [] sp__law_cell) (G__law_lane : Df P w K mg base 3 "_law_lane" [] sp__law_lane) (G__law_part : Df P w K mg base 4 "_law_part" [] sp__law_part) (G__law_closed : Df P w K mg base 5 "_law_closed" [] sp__law_closed) (G__law_step : Df P w K mg base 6 "_law_step" [] sp__law_step) {f : Addr} {fd : FuncData} (F : FunD K "_law_net" "_law_net" (defArgs (topS 68)) (defBody (topS 68)) (defScope (topS 68)) [] [] f fd) : FnOk P w K mg base (L2.CX P w) 7 f fd ["_law_script", "_law_start", "_law_steps", "_law_odd"] (spOf K sp__law_net) :=
  mkFn (t := t__law_net) F sc__law_net len__law_net (fun cdv A outer s H E hr => by
    unfold t__law_net
    exact (qss_cons (qs_set 4 sc__law_net.nd (q_call G__law_cell hr (by decide) (qa_cons (qv 0) (qa_cons (qv 1) qa_nil))))
    (qss_cons (qs_set 5 sc__law_net.nd (q_call G__law_cell hr (by decide) (qa_cons (qv 0) (qa_cons (q_add false (qv 1) q_int) qa_nil))))
    (qss_cons (qs_set 6 sc__law_net.nd (q_lst false (qa_cons (q_lst true qa_nil) (qa_cons (q_lst true qa_nil) (qa_cons (q_lst true qa_nil) (qa_cons (qv 4) (qa_cons (qv 5) qa_nil)))))))
    (qss_cons (qs_for rfl (qi_range1 T.free_range (qa_cons (q_add false q_int (q_mod (q_call G__law_mix hr (by decide) (qa_cons (qv 4) (qa_cons q_int qa_nil))) q_int)) qa_nil)) (qg_name 7 sc__law_net.nd)
    (qss_one (qs_expr (q_call G__law_part hr (by decide) (qa_cons (qv 6) (qa_cons (q_call G__law_mix hr (by decide) (qa_cons (qv 5) (qa_cons (qv 7) qa_nil))) (qa_cons q_str (qa_cons (q_lst false qa_nil) (qa_cons (q_lst false qa_nil) (qa_cons q_int qa_nil))))))))))
    (qss_cons (qs_setLc false 8 [("_law_k", 7)] rfl sc__law_net.nd (qi_range1 T.free_range (qa_cons (q_mod (q_call G__law_mix hr (by decide) (qa_cons (qv 4) (qa_cons q_int qa_nil))) q_int) qa_nil)) (blkOk_by (N := N__law_net) (sc := defScope (topS 68)) (by decide +kernel)) (fun _ _ _ _ _ => (qg_name 7 sc__law_net.nd)) (fun _ _ _ _ _ => qts_nil) (fun _ _ _ _ _ => (q_call G__law_lane hr (by decide) (qa_cons (qv 6) (qa_cons (q_call G__law_mix hr (by decide) (qa_cons (qv 5) (qa_cons (q_add false q_int (qv 7)) qa_nil))) (qa_cons q_bl qa_nil))))) (sw_true rfl rfl rfl (by decide +kernel)))
    (qss_cons (qs_expr (q_bm s_extend PySem.F.plainAttrs_list PySem.F.slot_list_extend PySem.F.type_list_extend mt_extend (q_ix (hu_of hr) (qv 6) q_int) (qa_cons (qv 8) qa_nil)))
    (qss_cons (qs_for rfl (qi_range1 T.free_range (qa_cons (qv 2) qa_nil)) (qg_name 7 sc__law_net.nd)
    (qss_one (qs_expr (q_call G__law_step hr (by decide) (qa_cons (qv 6) (qa_cons (q_call G__law_cell hr (by decide) (qa_cons (qv 0) (qa_cons (q_add false (q_add false (qv 1) q_int) (qv 7)) qa_nil))) (qa_cons (qv 3) qa_nil)))))))
    (qss_cons (qs_expr (q_call G__law_closed hr (by decide) (qa_cons (qv 6) (qa_cons (qv 5) (qa_cons (qv 8) qa_nil)))))
    (qss_cons (qs_set 9 sc__law_net.nd (q_mod (q_call G__law_mix hr (by decide) (qa_cons (qv 4) (qa_cons q_int qa_nil))) (q_len T.free_len (qa_cons (q_ix (hu_of hr) (qv 6) q_int) qa_nil))))
    (qss_one (qs_ret (q_tup (qa_cons (q_fz (q_ix (hu_of hr) (qv 6) q_int)) (qa_cons (q_add false (q_slice false (q_ix (hu_of hr) (qv 6) q_int) (qo_some (qv 9)) qo_none) (q_slice false (q_ix (hu_of hr) (qv 6) q_int) qo_none (qo_some (qv 9)))) qa_nil))))))))))))))) pure__law_net
theorem sc_law : FnScope N_law ["_law_script"] (defScope (topS 71)) := ⟨rfl, rfl, rfl, by decide +kernel, rfl, by decide +kernel, by decide +kernel⟩
theorem ok_law (T : Gf K mg) (G_show_net : Df P w K mg base 3 "show_net" [] (sp_show_net K)) (G_read_net : Df P w K mg base 8 "read_net" [] (sp_read_net K)) (G__law_rows : Df P w K mg base 1 "_law_rows" [] sp__law_rows) (G__law_told : Df P w K mg base 1 "_law_told" [] sp__law_told) (G__law_value : Df P w K mg base 2 "_law_value" [] sp__law_value) (G__law_cell : Df P w K mg base 1 "_law_cell" [] sp__law_cell) (G__law_net : Df P w K mg base 7 "_law_net" [] sp__law_net) (H_told : MtT P w K mg base 2 "told" (T_told K)) (M_Net : Mkr P w K mg base 6 "Net" (He.ga K "Net") [] (sp_Net___init__ K)) {f : Addr} {fd : FuncData} (F : FunD K "law" "law" (defArgs (topS 71)) (defBody (topS 71)) (defScope (topS 71)) [] [] f fd) : FnOk P w K mg base (L2.CX P w) 9 f fd ["_law_script"] (spOf K (sp_law K)) :=
  mkFn (t := t_law K) F sc_law len_law (fun cdv A outer s H E hr => by
    unfold t_law
    exact (qss_cons (qs_asg (qg_tup rfl (qgs_cons (qg_name 4 sc_law.nd) (qgs_cons (qg_name 10 sc_law.nd) qgs_nil))) (q_call G__law_net hr (by decide) (qa_cons (qv 0) (qa_cons q_int (qa_cons (q_add false q_int (q_mod (q_call G__law_cell hr (by decide) (qa_cons (qv 0) (qa_cons q_int qa_nil))) q_int)) (qa_cons q_bl qa_nil))))))
    (qss_cons (qs_set 1 sc_law.nd (q_div (q_call G__law_cell hr (by decide) (qa_cons (qv 0) (qa_cons q_int qa_nil))) q_int))
    (qss_cons (qs_asg (qg_tup rfl (qgs_cons (qg_name 11 sc_law.nd) (qgs_cons (qg_name 3 sc_law.nd) (qgs_cons (qg_name 2 sc_law.nd) qgs_nil)))) (q_ix (hu_of hr) (qv 4) (q_mod (qv 1) (q_len T.free_len (qa_cons (qv 4) qa_nil)))))
    (qss_cons (qs_set 2 sc_law.nd (q_add false (qv 2) (q_lc false [("_law_k", 12)] rfl sc_law.nd (qi_range1 T.free_range (qa_cons (q_mod (q_div (qv 1) q_int) q_int) qa_nil)) (blkOk_by (N := N_law) (sc := defScope (topS 71)) (by decide +kernel)) (fun _ _ _ _ _ => (qg_name 12 sc_law.nd)) (fun _ _ _ _ _ => qts_nil) (fun _ _ _ _ _ => (q_call G__law_value hr (by decide) (qa_cons (qv 1) (qa_cons (q_add false q_int (qv 12)) qa_nil)))))))
    (qss_cons (qs_set 3 sc_law.nd (q_max2 rfl T.free_max (qa_cons (qv 3) (qa_cons (q_len T.free_len (qa_cons (qv 2) qa_nil)) qa_nil))))
    (qss_cons (qs_setLc false 4 [("_law_lane_here", 13)] rfl sc_law.nd (qi_seq (qv 4)) (blkOk_by (N := N_law) (sc := defScope (topS 71)) (by decide +kernel)) (fun _ _ _ _ _ => (qg_name 13 sc_law.nd)) (fun _ _ _ _ _ => qts_nil) (fun _ _ _ _ _ => (q_if (qt_c (c_eqT hr.units) (q_ix (hu_of hr) (qv 13) q_int) (qv 11)) (q_tup (qa_cons (qv 11) (qa_cons (qv 3) (qa_cons (qv 2) qa_nil)))) (qv 13))) (sw_true rfl rfl rfl (by decide +kernel)))
    (qss_cons (qs_set 5 sc_law.nd (q_call G__law_told hr (by decide) (qa_cons (qv 4) (qa_cons (qv 10) qa_nil))))
    (qss_cons (qs_set 6 sc_law.nd (q_fzN (q_make M_Net hr (by decide) (qa_cons (qv 4) (qa_cons (qv 10) qa_nil)))))
    (qss_cons (qs_set 7 sc_law.nd (q_bm s_join PySem.F.plainAttrs_str PySem.F.slot_str_join PySem.F.type_str_join mt_join q_str (qa_cons (q_call G__law_rows hr (by decide) (qa_cons (qv 4) (qa_cons (qv 10) qa_nil))) qa_nil)))
    (qss_cons (qs_set 8 sc_law.nd (q_call G_show_net hr (by decide) (qa_cons (qv 6) qa_nil)))
    (qss_cons (qs_if (QW.pt (qw_or (qt_not (qt_val (q_isi T.free_isinstance T.free_str (by decide +kernel) (qv 8)))) (qw_or1 (qt_c (c_neT hr.units) (qv 8) (qv 7)))))
    (qss_one (qs_ret q_bl))
    qss_nil)
    (qss_cons (qs_set 9 sc_law.nd (q_call G_read_net hr (by decide) (qa_cons (qv 7) qa_nil)))
    (qss_one (qs_ret (q_and (q_c (c_eqT hr.units) (q_meth0 (pl := _) H_told hr (by decide) (qv 9)) (qv 5)) (q_and (q_c (c_eqT hr.units) (q_call G_show_net hr (by decide) (qa_cons (qv 9) qa_nil)) (qv 7)) (q_and (q_c (c_eqT hr.units) (q_meth0 (pl := _) H_told hr (by decide) (qv 6)) (qv 5)) (q_one (q_c (c_eqT hr.units) (q_call G_show_net hr (by decide) (qa_cons (qv 6) qa_nil)) (qv 7))))))))))))))))))))) pure_law
end
theorem facts {P : Program} {w : World} {K : PySem.W.Frag} {h : Heap} {mg : Str → Option Value} {f : Addr} (X : K.In h) (G : h.Ns mainGlobals mg) (hfa : mg ("law" : Str) = some (.ref f)) (c0 : SaysE fa fn xa K) :
    ∃ fd : FuncData, KX K ∧ KF K ∧ (∀ (s : Shared) (v : Value), BindsTo s fd ⟨[v], []⟩ [("_law_script", v)]) ∧ ∀ base : Heap, K.In base → base.Ns mainGlobals mg → FnOk P w K mg base (CXe P) 9 f fd ["_law_script"] (spOf K (sp_law K)) := by
  have c := c0.d
  have T : Gf K mg := ⟨He.free_ok X G (c.fact 0), He.free_ok X G (c.fact 1), He.free_ok X G (c.fact 2), He.free_ok X G (c.fact 3), He.free_ok X G (c.fact 4), He.int_ok X G (c.fact 5), He.free_ok X G (c.fact 6), He.free_ok X G (c.fact 7), He.str_ok X G (c.fact 8), He.str_ok X G (c.fact 9), He.int_ok X G (c.fact 10), He.int_ok X G (c.fact 11), He.int_ok X G (c.fact 12), He.free_ok X G (c.fact 13), (let q := He.exc_ok (x := "BadWord") (c.fact 14); ⟨q.1, q.2.1, q.2.2.1, q.2.2.2, He.glo_ok X G (c.fact 15)⟩), He.int_ok X G (c.fact 16), He.free_ok X G (c.fact 17), He.free_ok X G (c.fact 18), He.free_ok X G (c.fact 19)⟩
  obtain ⟨fd_part_shown, F_part_shown⟩ := c.def_ 0 (d := fn[0]) rfl
  obtain ⟨fd_lane_shown, F_lane_shown⟩ := c.def_ 1 (d := fn[1]) rfl
  obtain ⟨fd_show_net, F_show_net⟩ := c.def_ 2 (d := fn[2]) rfl
  obtain ⟨fd_is_whole, F_is_whole⟩ := c.def_ 3 (d := fn[3]) rfl
  obtain ⟨fd_is_value, F_is_value⟩ := c.def_ 4 (d := fn[4]) rfl
  obtain ⟨fd_made_as, F_made_as⟩ := c.def_ 5 (d := fn[5]) rfl
  obtain ⟨fd_is_kind, F_is_kind⟩ := c.def_ 6 (d := fn[6]) rfl
  obtain ⟨fd_part_made, F_part_made⟩ := c.def_ 7 (d := fn[7]) rfl
  obtain ⟨fd_is_name, F_is_name⟩ := c.def_ 8 (d := fn[8]) rfl
  obtain ⟨fd_need_name, F_need_name⟩ := c.def_ 9 (d := fn[9]) rfl
  obtain ⟨fd_need_room, F_need_room⟩ := c.def_ 10 (d := fn[10]) rfl
  obtain ⟨fd_are_names, F_are_names⟩ := c.def_ 11 (d := fn[11]) rfl
  obtain ⟨fd_number_in, F_number_in⟩ := c.def_ 12 (d := fn[12]) rfl
  obtain ⟨fd_numbers_of, F_numbers_of⟩ := c.def_ 13 (d := fn[13]) rfl
  obtain ⟨fd_part_told, F_part_told⟩ := c.def_ 14 (d := fn[14]) rfl
  obtain ⟨fd_lane_of, F_lane_of⟩ := c.def_ 15 (d := fn[15]) rfl
  obtain ⟨fd_words_of, F_words_of⟩ := c.def_ 16 (d := fn[16]) rfl
  obtain ⟨fd_read_net, F_read_net⟩ := c.def_ 17 (d := fn[17]) rfl
  obtain ⟨fd__law_rows, F__law_rows⟩ := c.def_ 18 (d := fn[18]) rfl
  obtain ⟨fd__law_told, F__law_told⟩ := c.def_ 19 (d := fn[19]) rfl
  obtain ⟨fd__law_mix, F__law_mix⟩ := c.def_ 20 (d := fn[20]) rfl
  obtain ⟨fd__law_value, F__law_value⟩ := c.def_ 21 (d := fn[21]) rfl
  obtain ⟨fd__law_cell, F__law_cell⟩ := c.def_ 22 (d := fn[22]) rfl
  obtain ⟨fd__law_word, F__law_word⟩ := c.def_ 23 (d := fn[23]) rfl
  obtain ⟨fd__law_lane, F__law_lane⟩ := c.def_ 24 (d := fn[24]) rfl
  obtain ⟨fd__law_part, F__law_part⟩ := c.def_ 25 (d := fn[25]) rfl
  obtain ⟨fd__law_closed, F__law_closed⟩ := c.def_ 26 (d := fn[26]) rfl
  obtain ⟨fd__law_loop, F__law_loop⟩ := c.def_ 27 (d := fn[27]) rfl
  obtain ⟨fd__law_pick, F__law_pick⟩ := c.def_ 28 (d := fn[28]) rfl
  obtain ⟨fd__law_two, F__law_two⟩ := c.def_ 29 (d := fn[29]) rfl
  obtain ⟨fd__law_step, F__law_step⟩ := c.def_ 30 (d := fn[30]) rfl
  obtain ⟨fd__law_net, F__law_net⟩ := c.def_ 31 (d := fn[31]) rfl
  obtain ⟨fd_law, F_law⟩ := c.def_ 32 (d := fn[32]) rfl
  obtain ⟨fd_Net_joined, F_Net_joined⟩ := c.def_ 33 (d := fn[33]) rfl
  obtain ⟨fd_Give_kind, F_Give_kind⟩ := c.def_ 34 (d := fn[34]) rfl
  obtain ⟨fd_Take_kind, F_Take_kind⟩ := c.def_ 35 (d := fn[35]) rfl
  obtain ⟨fd_Pass_kind, F_Pass_kind⟩ := c.def_ 36 (d := fn[36]) rfl
  obtain ⟨fd_Copy_kind, F_Copy_kind⟩ := c.def_ 37 (d := fn[37]) rfl
  obtain ⟨fd_Turn_kind, F_Turn_kind⟩ := c.def_ 38 (d := fn[38]) rfl
  obtain ⟨fd_Heap_kind, F_Heap_kind⟩ := c.def_ 39 (d := fn[39]) rfl
  obtain ⟨fd_Add_kind, F_Add_kind⟩ := c.def_ 40 (d := fn[40]) rfl
  obtain ⟨fd_Less_kind, F_Less_kind⟩ := c.def_ 41 (d := fn[41]) rfl
  obtain ⟨fd_Order_kind, F_Order_kind⟩ := c.def_ 42 (d := fn[42]) rfl
  obtain ⟨fd_Choose_kind, F_Choose_kind⟩ := c.def_ 43 (d := fn[43]) rfl
  obtain ⟨fd_Split_kind, F_Split_kind⟩ := c.def_ 44 (d := fn[44]) rfl
  obtain ⟨fd_Net_lay_hold, F_Net_lay_hold⟩ := c.def_ 45 (d := fn[45]) rfl
  obtain ⟨fd_Net_put_in, F_Net_put_in⟩ := c.def_ 46 (d := fn[46]) rfl
  obtain ⟨fd_Net_told, F_Net_told⟩ := c.def_ 47 (d := fn[47]) rfl
  obtain ⟨fd_Give_wants, F_Give_wants⟩ := c.def_ 48 (d := fn[48]) rfl
  obtain ⟨fd_Take_wants, F_Take_wants⟩ := c.def_ 49 (d := fn[49]) rfl
  obtain ⟨fd_Pass_wants, F_Pass_wants⟩ := c.def_ 50 (d := fn[50]) rfl
  obtain ⟨fd_Copy_wants, F_Copy_wants⟩ := c.def_ 51 (d := fn[51]) rfl
  obtain ⟨fd_Turn_wants, F_Turn_wants⟩ := c.def_ 52 (d := fn[52]) rfl
  obtain ⟨fd_Heap_wants, F_Heap_wants⟩ := c.def_ 53 (d := fn[53]) rfl
  obtain ⟨fd_Add_wants, F_Add_wants⟩ := c.def_ 54 (d := fn[54]) rfl
  obtain ⟨fd_Less_wants, F_Less_wants⟩ := c.def_ 55 (d := fn[55]) rfl
  obtain ⟨fd_Order_wants, F_Order_wants⟩ := c.def_ 56 (d := fn[56]) rfl
  obtain ⟨fd_Choose_wants, F_Choose_wants⟩ := c.def_ 57 (d := fn[57]) rfl
  obtain ⟨fd_Split_wants, F_Split_wants⟩ := c.def_ 58 (d := fn[58]) rfl
  obtain ⟨fd_Add___init__, F_Add___init__⟩ := c.def_ 59 (d := fn[59]) rfl
  obtain ⟨fd_Choose___init__, F_Choose___init__⟩ := c.def_ 60 (d := fn[60]) rfl
  obtain ⟨fd_Copy___init__, F_Copy___init__⟩ := c.def_ 61 (d := fn[61]) rfl
  obtain ⟨fd_Give___init__, F_Give___init__⟩ := c.def_ 62 (d := fn[62]) rfl
  obtain ⟨fd_Heap___init__, F_Heap___init__⟩ := c.def_ 63 (d := fn[63]) rfl
  obtain ⟨fd_Less___init__, F_Less___init__⟩ := c.def_ 64 (d := fn[64]) rfl
  obtain ⟨fd_Net___init__, F_Net___init__⟩ := c.def_ 65 (d := fn[65]) rfl
  obtain ⟨fd_Order___init__, F_Order___init__⟩ := c.def_ 66 (d := fn[66]) rfl
  obtain ⟨fd_Pass___init__, F_Pass___init__⟩ := c.def_ 67 (d := fn[67]) rfl
  obtain ⟨fd_Split___init__, F_Split___init__⟩ := c.def_ 68 (d := fn[68]) rfl
  obtain ⟨fd_Take___init__, F_Take___init__⟩ := c.def_ 69 (d := fn[69]) rfl
  obtain ⟨fd_Turn___init__, F_Turn___init__⟩ := c.def_ 70 (d := fn[70]) rfl
  have e := hfa.symm.trans (He.glo_ok X G (c.fact 52 (f := .glo "law") rfl))
  cases e
  have b := FunD.bindsA (ps := ["_law_script"]) F_law fun _ _ _ _ _ _ us hl => match us, hl with | [_], _ => rfl
  have hkf : KF K := (kf_cons (kf_cons ⟨He.cls_ok (c.fact 53 (f := .cls "Give") rfl), He.noat_ok (c.fact 54 (f := .noat "Give" "name") rfl)⟩ (kf_cons ⟨He.cls_ok (c.fact 53 (f := .cls "Give") rfl), He.noat_ok (c.fact 55 (f := .noat "Give" "numbers") rfl)⟩ (kf_cons ⟨He.cls_ok (c.fact 53 (f := .cls "Give") rfl), He.noat_ok (c.fact 56 (f := .noat "Give" "ins") rfl)⟩ (kf_cons ⟨He.cls_ok (c.fact 53 (f := .cls "Give") rfl), He.noat_ok (c.fact 57 (f := .noat "Give" "outs") rfl)⟩ (kf_cons ⟨He.cls_ok (c.fact 53 (f := .cls "Give") rfl), He.noat_ok (c.fact 58 (f := .noat "Give" "rooms") rfl)⟩ (kf_cons ⟨He.cls_ok (c.fact 53 (f := .cls "Give") rfl), He.noat_ok (c.fact 59 (f := .noat "Give" "firsts") rfl)⟩ (kf_cons ⟨He.cls_ok (c.fact 53 (f := .cls "Give") rfl), He.noat_ok (c.fact 60 (f := .noat "Give" "givers") rfl)⟩ (kf_cons ⟨He.cls_ok (c.fact 53 (f := .cls "Give") rfl), He.noat_ok (c.fact 61 (f := .noat "Give" "takers") rfl)⟩ (kf_cons ⟨He.cls_ok (c.fact 53 (f := .cls "Give") rfl), He.noat_ok (c.fact 62 (f := .noat "Give" "members") rfl)⟩ kf_nil))))))))) (kf_cons (kf_cons ⟨He.cls_ok (c.fact 63 (f := .cls "Take") rfl), He.noat_ok (c.fact 64 (f := .noat "Take" "name") rfl)⟩ (kf_cons ⟨He.cls_ok (c.fact 63 (f := .cls "Take") rfl), He.noat_ok (c.fact 65 (f := .noat "Take" "numbers") rfl)⟩ (kf_cons ⟨He.cls_ok (c.fact 63 (f := .cls "Take") rfl), He.noat_ok (c.fact 66 (f := .noat "Take" "ins") rfl)⟩ (kf_cons ⟨He.cls_ok (c.fact 63 (f := .cls "Take") rfl), He.noat_ok (c.fact 67 (f := .noat "Take" "outs") rfl)⟩ (kf_cons ⟨He.cls_ok (c.fact 63 (f := .cls "Take") rfl), He.noat_ok (c.fact 68 (f := .noat "Take" "rooms") rfl)⟩ (kf_cons ⟨He.cls_ok (c.fact 63 (f := .cls "Take") rfl), He.noat_ok (c.fact 69 (f := .noat "Take" "firsts") rfl)⟩ (kf_cons ⟨He.cls_ok (c.fact 63 (f := .cls "Take") rfl), He.noat_ok (c.fact 70 (f := .noat "Take" "givers") rfl)⟩ (kf_cons ⟨He.cls_ok (c.fact 63 (f := .cls "Take") rfl), He.noat_ok (c.fact 71 (f := .noat "Take" "takers") rfl)⟩ (kf_cons ⟨He.cls_ok (c.fact 63 (f := .cls "Take") rfl), He.noat_ok (c.fact 72 (f := .noat "Take" "members") rfl)⟩ kf_nil))))))))) (kf_cons (kf_cons ⟨He.cls_ok (c.fact 73 (f := .cls "Pass") rfl), He.noat_ok (c.fact 74 (f := .noat "Pass" "name") rfl)⟩ (kf_cons ⟨He.cls_ok (c.fact 73 (f := .cls "Pass") rfl), He.noat_ok (c.fact 75 (f := .noat "Pass" "numbers") rfl)⟩ (kf_cons ⟨He.cls_ok (c.fact 73 (f := .cls "Pass") rfl), He.noat_ok (c.fact 76 (f := .noat "Pass" "ins") rfl)⟩ (kf_cons ⟨He.cls_ok (c.fact 73 (f := .cls "Pass") rfl), He.noat_ok (c.fact 77 (f := .noat "Pass" "outs") rfl)⟩ (kf_cons ⟨He.cls_ok (c.fact 73 (f := .cls "Pass") rfl), He.noat_ok (c.fact 78 (f := .noat "Pass" "rooms") rfl)⟩ (kf_cons ⟨He.cls_ok (c.fact 73 (f := .cls "Pass") rfl), He.noat_ok (c.fact 79 (f := .noat "Pass" "firsts") rfl)⟩ (kf_cons ⟨He.cls_ok (c.fact 73 (f := .cls "Pass") rfl), He.noat_ok (c.fact 80 (f := .noat "Pass" "givers") rfl)⟩ (kf_cons ⟨He.cls_ok (c.fact 73 (f := .cls "Pass") rfl), He.noat_ok (c.fact 81 (f := .noat "Pass" "takers") rfl)⟩ (kf_cons ⟨He.cls_ok (c.fact 73 (f := .cls "Pass") rfl), He.noat_ok (c.fact 82 (f := .noat "Pass" "members") rfl)⟩ kf_nil))))))))) (kf_cons (kf_cons ⟨He.cls_ok (c.fact 83 (f := .cls "Copy") rfl), He.noat_ok (c.fact 84 (f := .noat "Copy" "name") rfl)⟩ (kf_cons ⟨He.cls_ok (c.fact 83 (f := .cls "Copy") rfl), He.noat_ok (c.fact 85 (f := .noat "Copy" "numbers") rfl)⟩ (kf_cons ⟨He.cls_ok (c.fact 83 (f := .cls "Copy") rfl), He.noat_ok (c.fact 86 (f := .noat "Copy" "ins") rfl)⟩ (kf_cons ⟨He.cls_ok (c.fact 83 (f := .cls "Copy") rfl), He.noat_ok (c.fact 87 (f := .noat "Copy" "outs") rfl)⟩ (kf_cons ⟨He.cls_ok (c.fact 83 (f := .cls "Copy") rfl), He.noat_ok (c.fact 88 (f := .noat "Copy" "rooms") rfl)⟩ (kf_cons ⟨He.cls_ok (c.fact 83 (f := .cls "Copy") rfl), He.noat_ok (c.fact 89 (f := .noat "Copy" "firsts") rfl)⟩ (kf_cons ⟨He.cls_ok (c.fact 83 (f := .cls "Copy") rfl), He.noat_ok (c.fact 90 (f := .noat "Copy" "givers") rfl)⟩ (kf_cons ⟨He.cls_ok (c.fact 83 (f := .cls "Copy") rfl), He.noat_ok (c.fact 91 (f := .noat "Copy" "takers") rfl)⟩ (kf_cons ⟨He.cls_ok (c.fact 83 (f := .cls "Copy") rfl), He.noat_ok (c.fact 92 (f := .noat "Copy" "members") rfl)⟩ kf_nil))))))))) (kf_cons (kf_cons ⟨He.cls_ok (c.fact 93 (f := .cls "Turn") rfl), He.noat_ok (c.fact 94 (f := .noat "Turn" "name") rfl)⟩ (kf_cons ⟨He.cls_ok (c.fact 93 (f := .cls "Turn") rfl), He.noat_ok (c.fact 95 (f := .noat "Turn" "numbers") rfl)⟩ (kf_cons ⟨He.cls_ok (c.fact 93 (f := .cls "Turn") rfl), He.noat_ok (c.fact 96 (f := .noat "Turn" "ins") rfl)⟩ (kf_cons ⟨He.cls_ok (c.fact 93 (f := .cls "Turn") rfl), He.noat_ok (c.fact 97 (f := .noat "Turn" "outs") rfl)⟩ (kf_cons ⟨He.cls_ok (c.fact 93 (f := .cls "Turn") rfl), He.noat_ok (c.fact 98 (f := .noat "Turn" "rooms") rfl)⟩ (kf_cons ⟨He.cls_ok (c.fact 93 (f := .cls "Turn") rfl), He.noat_ok (c.fact 99 (f := .noat "Turn" "firsts") rfl)⟩ (kf_cons ⟨He.cls_ok (c.fact 93 (f := .cls "Turn") rfl), He.noat_ok (c.fact 100 (f := .noat "Turn" "givers") rfl)⟩ (kf_cons ⟨He.cls_ok (c.fact 93 (f := .cls "Turn") rfl), He.noat_ok (c.fact 101 (f := .noat "Turn" "takers") rfl)⟩ (kf_cons ⟨He.cls_ok (c.fact 93 (f := .cls "Turn") rfl), He.noat_ok (c.fact 102 (f := .noat "Turn" "members") rfl)⟩ kf_nil))))))))) (kf_cons (kf_cons ⟨He.cls_ok (c.fact 103 (f := .cls "Heap") rfl), He.noat_ok (c.fact 104 (f := .noat "Heap" "name") rfl)⟩ (kf_cons ⟨He.cls_ok (c.fact 103 (f := .cls "Heap") rfl), He.noat_ok (c.fact 105 (f := .noat "Heap" "numbers") rfl)⟩ (kf_cons ⟨He.cls_ok (c.fact 103 (f := .cls "Heap") rfl), He.noat_ok (c.fact 106 (f := .noat "Heap" "ins") rfl)⟩ (kf_cons ⟨He.cls_ok (c.fact 103 (f := .cls "Heap") rfl), He.noat_ok (c.fact 107 (f := .noat "Heap" "outs") rfl)⟩ (kf_cons ⟨He.cls_ok (c.fact 103 (f := .cls "Heap") rfl), He.noat_ok (c.fact 108 (f := .noat "Heap" "rooms") rfl)⟩ (kf_cons ⟨He.cls_ok (c.fact 103 (f := .cls "Heap") rfl), He.noat_ok (c.fact 109 (f := .noat "Heap" "firsts") rfl)⟩ (kf_cons ⟨He.cls_ok (c.fact 103 (f := .cls "Heap") rfl), He.noat_ok (c.fact 110 (f := .noat "Heap" "givers") rfl)⟩ (kf_cons ⟨He.cls_ok (c.fact 103 (f := .cls "Heap") rfl), He.noat_ok (c.fact 111 (f := .noat "Heap" "takers") rfl)⟩ (kf_cons ⟨He.cls_ok (c.fact 103 (f := .cls "Heap") rfl), He.noat_ok (c.fact 112 (f := .noat "Heap" "members") rfl)⟩ kf_nil))))))))) (kf_cons (kf_cons ⟨He.cls_ok (c.fact 113 (f := .cls "Add") rfl), He.noat_ok (c.fact 114 (f := .noat "Add" "name") rfl)⟩ (kf_cons ⟨He.cls_ok (c.fact 113 (f := .cls "Add") rfl), He.noat_ok (c.fact 115 (f := .noat "Add" "numbers") rfl)⟩ (kf_cons ⟨He.cls_ok (c.fact 113 (f := .cls "Add") rfl), He.noat_ok (c.fact 116 (f := .noat "Add" "ins") rfl)⟩ (kf_cons ⟨He.cls_ok (c.fact 113 (f := .cls "Add") rfl), He.noat_ok (c.fact 117 (f := .noat "Add" "outs") rfl)⟩ (kf_cons ⟨He.cls_ok (c.fact 113 (f := .cls "Add") rfl), He.noat_ok (c.fact 118 (f := .noat "Add" "rooms") rfl)⟩ (kf_cons ⟨He.cls_ok (c.fact 113 (f := .cls "Add") rfl), He.noat_ok (c.fact 119 (f := .noat "Add" "firsts") rfl)⟩ (kf_cons ⟨He.cls_ok (c.fact 113 (f := .cls "Add") rfl), He.noat_ok (c.fact 120 (f := .noat "Add" "givers") rfl)⟩ (kf_cons ⟨He.cls_ok (c.fact 113 (f := .cls "Add") rfl), He.noat_ok (c.fact 121 (f := .noat "Add" "takers") rfl)⟩ (kf_cons ⟨He.cls_ok (c.fact 113 (f := .cls "Add") rfl), He.noat_ok (c.fact 122 (f := .noat "Add" "members") rfl)⟩ kf_nil))))))))) (kf_cons (kf_cons ⟨He.cls_ok (c.fact 123 (f := .cls "Less") rfl), He.noat_ok (c.fact 124 (f := .noat "Less" "name") rfl)⟩ (kf_cons ⟨He.cls_ok (c.fact 123 (f := .cls "Less") rfl), He.noat_ok (c.fact 125 (f := .noat "Less" "numbers") rfl)⟩ (kf_cons ⟨He.cls_ok (c.fact 123 (f := .cls "Less") rfl), He.noat_ok (c.fact 126 (f := .noat "Less" "ins") rfl)⟩ (kf_cons ⟨He.cls_ok (c.fact 123 (f := .cls "Less") rfl), He.noat_ok (c.fact 127 (f := .noat "Less" "outs") rfl)⟩ (kf_cons ⟨He.cls_ok (c.fact 123 (f := .cls "Less") rfl), He.noat_ok (c.fact 128 (f := .noat "Less" "rooms") rfl)⟩ (kf_cons ⟨He.cls_ok (c.fact 123 (f := .cls "Less") rfl), He.noat_ok (c.fact 129 (f := .noat "Less" "firsts") rfl)⟩ (kf_cons ⟨He.cls_ok (c.fact 123 (f := .cls "Less") rfl), He.noat_ok (c.fact 130 (f := .noat "Less" "givers") rfl)⟩ (kf_cons ⟨He.cls_ok (c.fact 123 (f := .cls "Less") rfl), He.noat_ok (c.fact 131 (f := .noat "Less" "takers") rfl)⟩ (kf_cons ⟨He.cls_ok (c.fact 123 (f := .cls "Less") rfl), He.noat_ok (c.fact 132 (f := .noat "Less" "members") rfl)⟩ kf_nil))))))))) (kf_cons (kf_cons ⟨He.cls_ok (c.fact 133 (f := .cls "Order") rfl), He.noat_ok (c.fact 134 (f := .noat "Order" "name") rfl)⟩ (kf_cons ⟨He.cls_ok (c.fact 133 (f := .cls "Order") rfl), He.noat_ok (c.fact 135 (f := .noat "Order" "numbers") rfl)⟩ (kf_cons ⟨He.cls_ok (c.fact 133 (f := .cls "Order") rfl), He.noat_ok (c.fact 136 (f := .noat "Order" "ins") rfl)⟩ (kf_cons ⟨He.cls_ok (c.fact 133 (f := .cls "Order") rfl), He.noat_ok (c.fact 137 (f := .noat "Order" "outs") rfl)⟩ (kf_cons ⟨He.cls_ok (c.fact 133 (f := .cls "Order") rfl), He.noat_ok (c.fact 138 (f := .noat "Order" "rooms") rfl)⟩ (kf_cons ⟨He.cls_ok (c.fact 133 (f := .cls "Order") rfl), He.noat_ok (c.fact 139 (f := .noat "Order" "firsts") rfl)⟩ (kf_cons ⟨He.cls_ok (c.fact 133 (f := .cls "Order") rfl), He.noat_ok (c.fact 140 (f := .noat "Order" "givers") rfl)⟩ (kf_cons ⟨He.cls_ok (c.fact 133 (f := .cls "Order") rfl), He.noat_ok (c.fact 141 (f := .noat "Order" "takers") rfl)⟩ (kf_cons ⟨He.cls_ok (c.fact 133 (f := .cls "Order") rfl), He.noat_ok (c.fact 142 (f := .noat "Order" "members") rfl)⟩ kf_nil))))))))) (kf_cons (kf_cons ⟨He.cls_ok (c.fact 143 (f := .cls "Choose") rfl), He.noat_ok (c.fact 144 (f := .noat "Choose" "name") rfl)⟩ (kf_cons ⟨He.cls_ok (c.fact 143 (f := .cls "Choose") rfl), He.noat_ok (c.fact 145 (f := .noat "Choose" "numbers") rfl)⟩ (kf_cons ⟨He.cls_ok (c.fact 143 (f := .cls "Choose") rfl), He.noat_ok (c.fact 146 (f := .noat "Choose" "ins") rfl)⟩ (kf_cons ⟨He.cls_ok (c.fact 143 (f := .cls "Choose") rfl), He.noat_ok (c.fact 147 (f := .noat "Choose" "outs") rfl)⟩ (kf_cons ⟨He.cls_ok (c.fact 143 (f := .cls "Choose") rfl), He.noat_ok (c.fact 148 (f := .noat "Choose" "rooms") rfl)⟩ (kf_cons ⟨He.cls_ok (c.fact 143 (f := .cls "Choose") rfl), He.noat_ok (c.fact 149 (f := .noat "Choose" "firsts") rfl)⟩ (kf_cons ⟨He.cls_ok (c.fact 143 (f := .cls "Choose") rfl), He.noat_ok (c.fact 150 (f := .noat "Choose" "givers") rfl)⟩ (kf_cons ⟨He.cls_ok (c.fact 143 (f := .cls "Choose") rfl), He.noat_ok (c.fact 151 (f := .noat "Choose" "takers") rfl)⟩ (kf_cons ⟨He.cls_ok (c.fact 143 (f := .cls "Choose") rfl), He.noat_ok (c.fact 152 (f := .noat "Choose" "members") rfl)⟩ kf_nil))))))))) (kf_cons (kf_cons ⟨He.cls_ok (c.fact 153 (f := .cls "Split") rfl), He.noat_ok (c.fact 154 (f := .noat "Split" "name") rfl)⟩ (kf_cons ⟨He.cls_ok (c.fact 153 (f := .cls "Split") rfl), He.noat_ok (c.fact 155 (f := .noat "Split" "numbers") rfl)⟩ (kf_cons ⟨He.cls_ok (c.fact 153 (f := .cls "Split") rfl), He.noat_ok (c.fact 156 (f := .noat "Split" "ins") rfl)⟩ (kf_cons ⟨He.cls_ok (c.fact 153 (f := .cls "Split") rfl), He.noat_ok (c.fact 157 (f := .noat "Split" "outs") rfl)⟩ (kf_cons ⟨He.cls_ok (c.fact 153 (f := .cls "Split") rfl), He.noat_ok (c.fact 158 (f := .noat "Split" "rooms") rfl)⟩ (kf_cons ⟨He.cls_ok (c.fact 153 (f := .cls "Split") rfl), He.noat_ok (c.fact 159 (f := .noat "Split" "firsts") rfl)⟩ (kf_cons ⟨He.cls_ok (c.fact 153 (f := .cls "Split") rfl), He.noat_ok (c.fact 160 (f := .noat "Split" "givers") rfl)⟩ (kf_cons ⟨He.cls_ok (c.fact 153 (f := .cls "Split") rfl), He.noat_ok (c.fact 161 (f := .noat "Split" "takers") rfl)⟩ (kf_cons ⟨He.cls_ok (c.fact 153 (f := .cls "Split") rfl), He.noat_ok (c.fact 162 (f := .noat "Split" "members") rfl)⟩ kf_nil))))))))) (kf_cons (kf_cons ⟨He.cls_ok (c.fact 163 (f := .cls "Net") rfl), He.noat_ok (c.fact 164 (f := .noat "Net" "name") rfl)⟩ (kf_cons ⟨He.cls_ok (c.fact 163 (f := .cls "Net") rfl), He.noat_ok (c.fact 165 (f := .noat "Net" "numbers") rfl)⟩ (kf_cons ⟨He.cls_ok (c.fact 163 (f := .cls "Net") rfl), He.noat_ok (c.fact 166 (f := .noat "Net" "ins") rfl)⟩ (kf_cons ⟨He.cls_ok (c.fact 163 (f := .cls "Net") rfl), He.noat_ok (c.fact 167 (f := .noat "Net" "outs") rfl)⟩ (kf_cons ⟨He.cls_ok (c.fact 163 (f := .cls "Net") rfl), He.noat_ok (c.fact 168 (f := .noat "Net" "rooms") rfl)⟩ (kf_cons ⟨He.cls_ok (c.fact 163 (f := .cls "Net") rfl), He.noat_ok (c.fact 169 (f := .noat "Net" "firsts") rfl)⟩ (kf_cons ⟨He.cls_ok (c.fact 163 (f := .cls "Net") rfl), He.noat_ok (c.fact 170 (f := .noat "Net" "givers") rfl)⟩ (kf_cons ⟨He.cls_ok (c.fact 163 (f := .cls "Net") rfl), He.noat_ok (c.fact 171 (f := .noat "Net" "takers") rfl)⟩ (kf_cons ⟨He.cls_ok (c.fact 163 (f := .cls "Net") rfl), He.noat_ok (c.fact 172 (f := .noat "Net" "members") rfl)⟩ kf_nil))))))))) kf_nil))))))))))))
  have hkx : KX K := ⟨of_decide_eq_true (c0.x 0 (f := .exm "BadWord" "BadWord" true) rfl)⟩
  refine ⟨fd_law, hkx, hkf, fun s v => b s [v] rfl, fun base _ _ => ?_⟩
  have G_part_shown : Df P w K mg base 1 "part_shown" [] sp_part_shown := ⟨_, fd_part_shown, ["one"], [], [], ok_part_shown T F_part_shown, He.glo_ok X G (c.fact 20 (f := .glo "part_shown") rfl), F_part_shown.kp, FunD.bindsN F_part_shown (fun _ _ _ _ _ _ us hl => match us, hl with | [_], _ => rfl), .nil, fun _ => .nil⟩
  have G_lane_shown : Df P w K mg base 1 "lane_shown" [] sp_lane_shown := ⟨_, fd_lane_shown, ["lane"], [], [], ok_lane_shown T F_lane_shown, He.glo_ok X G (c.fact 21 (f := .glo "lane_shown") rfl), F_lane_shown.kp, FunD.bindsN F_lane_shown (fun _ _ _ _ _ _ us hl => match us, hl with | [_], _ => rfl), .nil, fun _ => .nil⟩
  have H_kind : MtT P w K mg base 1 "kind" (T_kind K) := (mtT_cons ⟨⟨_, fd_Give_kind, ["self"], [], [], (ok_Give_kind T F_Give_kind).mono (by decide), He.cls_ok (c.fact 53 (f := .cls "Give") rfl), He.meth_ok (c.fact 183 (f := .meth "Give" "kind") rfl), FunD.bindsN F_Give_kind (fun _ _ _ _ _ _ us hl => match us, hl with | [_], _ => rfl), .nil, fun _ => .nil⟩⟩ (mtT_cons ⟨⟨_, fd_Take_kind, ["self"], [], [], (ok_Take_kind T F_Take_kind).mono (by decide), He.cls_ok (c.fact 63 (f := .cls "Take") rfl), He.meth_ok (c.fact 182 (f := .meth "Take" "kind") rfl), FunD.bindsN F_Take_kind (fun _ _ _ _ _ _ us hl => match us, hl with | [_], _ => rfl), .nil, fun _ => .nil⟩⟩ (mtT_cons ⟨⟨_, fd_Pass_kind, ["self"], [], [], (ok_Pass_kind T F_Pass_kind).mono (by decide), He.cls_ok (c.fact 73 (f := .cls "Pass") rfl), He.meth_ok (c.fact 181 (f := .meth "Pass" "kind") rfl), FunD.bindsN F_Pass_kind (fun _ _ _ _ _ _ us hl => match us, hl with | [_], _ => rfl), .nil, fun _ => .nil⟩⟩ (mtT_cons ⟨⟨_, fd_Copy_kind, ["self"], [], [], (ok_Copy_kind T F_Copy_kind).mono (by decide), He.cls_ok (c.fact 83 (f := .cls "Copy") rfl), He.meth_ok (c.fact 180 (f := .meth "Copy" "kind") rfl), FunD.bindsN F_Copy_kind (fun _ _ _ _ _ _ us hl => match us, hl with | [_], _ => rfl), .nil, fun _ => .nil⟩⟩ (mtT_cons ⟨⟨_, fd_Turn_kind, ["self"], [], [], (ok_Turn_kind T F_Turn_kind).mono (by decide), He.cls_ok (c.fact 93 (f := .cls "Turn") rfl), He.meth_ok (c.fact 179 (f := .meth "Turn" "kind") rfl), FunD.bindsN F_Turn_kind (fun _ _ _ _ _ _ us hl => match us, hl with | [_], _ => rfl), .nil, fun _ => .nil⟩⟩ (mtT_cons ⟨⟨_, fd_Heap_kind, ["self"], [], [], (ok_Heap_kind T F_Heap_kind).mono (by decide), He.cls_ok (c.fact 103 (f := .cls "Heap") rfl), He.meth_ok (c.fact 178 (f := .meth "Heap" "kind") rfl), FunD.bindsN F_Heap_kind (fun _ _ _ _ _ _ us hl => match us, hl with | [_], _ => rfl), .nil, fun _ => .nil⟩⟩ (mtT_cons ⟨⟨_, fd_Add_kind, ["self"], [], [], (ok_Add_kind T F_Add_kind).mono (by decide), He.cls_ok (c.fact 113 (f := .cls "Add") rfl), He.meth_ok (c.fact 177 (f := .meth "Add" "kind") rfl), FunD.bindsN F_Add_kind (fun _ _ _ _ _ _ us hl => match us, hl with | [_], _ => rfl), .nil, fun _ => .nil⟩⟩ (mtT_cons ⟨⟨_, fd_Less_kind, ["self"], [], [], (ok_Less_kind T F_Less_kind).mono (by decide), He.cls_ok (c.fact 123 (f := .cls "Less") rfl), He.meth_ok (c.fact 176 (f := .meth "Less" "kind") rfl), FunD.bindsN F_Less_kind (fun _ _ _ _ _ _ us hl => match us, hl with | [_], _ => rfl), .nil, fun _ => .nil⟩⟩ (mtT_cons ⟨⟨_, fd_Order_kind, ["self"], [], [], (ok_Order_kind T F_Order_kind).mono (by decide), He.cls_ok (c.fact 133 (f := .cls "Order") rfl), He.meth_ok (c.fact 175 (f := .meth "Order" "kind") rfl), FunD.bindsN F_Order_kind (fun _ _ _ _ _ _ us hl => match us, hl with | [_], _ => rfl), .nil, fun _ => .nil⟩⟩ (mtT_cons ⟨⟨_, fd_Choose_kind, ["self"], [], [], (ok_Choose_kind T F_Choose_kind).mono (by decide), He.cls_ok (c.fact 143 (f := .cls "Choose") rfl), He.meth_ok (c.fact 174 (f := .meth "Choose" "kind") rfl), FunD.bindsN F_Choose_kind (fun _ _ _ _ _ _ us hl => match us, hl with | [_], _ => rfl), .nil, fun _ => .nil⟩⟩ (mtT_cons ⟨⟨_, fd_Split_kind, ["self"], [], [], (ok_Split_kind T F_Split_kind).mono (by decide), He.cls_ok (c.fact 153 (f := .cls "Split") rfl), He.meth_ok (c.fact 173 (f := .meth "Split" "kind") rfl), FunD.bindsN F_Split_kind (fun _ _ _ _ _ _ us hl => match us, hl with | [_], _ => rfl), .nil, fun _ => .nil⟩⟩ mtT_nil)))))))))))
  have H_told : MtT P w K mg base 2 "told" (T_told K) := (mtT_cons ⟨⟨_, fd_Net_told, ["self"], [], [], (ok_Net_told T H_kind F_Net_told).mono (by decide), He.cls_ok (c.fact 163 (f := .cls "Net") rfl), He.meth_ok (c.fact 184 (f := .meth "Net" "told") rfl), FunD.bindsN F_Net_told (fun _ _ _ _ _ _ us hl => match us, hl with | [_], _ => rfl), .nil, fun _ => .nil⟩⟩ mtT_nil)
  have G_show_net : Df P w K mg base 3 "show_net" [] (sp_show_net K) := ⟨_, fd_show_net, ["net"], [], [], ok_show_net T G_part_shown G_lane_shown H_told F_show_net, He.glo_ok X G (c.fact 22 (f := .glo "show_net") rfl), F_show_net.kp, FunD.bindsN F_show_net (fun _ _ _ _ _ _ us hl => match us, hl with | [_], _ => rfl), .nil, fun _ => .nil⟩
  have G_is_whole : Df P w K mg base 1 "is_whole" [] (sp_is_whole K) := ⟨_, fd_is_whole, ["thing"], [], [], ok_is_whole T F_is_whole, He.glo_ok X G (c.fact 23 (f := .glo "is_whole") rfl), F_is_whole.kp, FunD.bindsN F_is_whole (fun _ _ _ _ _ _ us hl => match us, hl with | [_], _ => rfl), .nil, fun _ => .nil⟩
  have G_is_value : Df P w K mg base 2 "is_value" [] (sp_is_value K) := ⟨_, fd_is_value, ["thing"], [], [], ok_is_value T G_is_whole F_is_value, He.glo_ok X G (c.fact 24 (f := .glo "is_value") rfl), F_is_value.kp, FunD.bindsN F_is_value (fun _ _ _ _ _ _ us hl => match us, hl with | [_], _ => rfl), .nil, fun _ => .nil⟩
  have M_Add : Mkr P w K mg base 1 "Add" (He.ga K "Add") [] (sp_Part___init__ K) := ⟨⟨_, fd_Add___init__, ["self", "name", "numbers", "ins", "outs"], [], [], ok_Part___init__ T F_Add___init__, He.glo_ok X G (c.fact 185 (f := .glo "Add") rfl), He.mkr_ok (c.fact 186 (f := .mkr "Add") rfl), FunD.bindsN F_Add___init__ (fun _ _ _ _ _ _ us hl => match us, hl with | [_, _, _, _, _], _ => rfl), .nil, fun _ => .nil⟩⟩
  have M_Choose : Mkr P w K mg base 1 "Choose" (He.ga K "Choose") [] (sp_Part___init__ K) := ⟨⟨_, fd_Choose___init__, ["self", "name", "numbers", "ins", "outs"], [], [], ok_Part___init__ T F_Choose___init__, He.glo_ok X G (c.fact 187 (f := .glo "Choose") rfl), He.mkr_ok (c.fact 188 (f := .mkr "Choose") rfl), FunD.bindsN F_Choose___init__ (fun _ _ _ _ _ _ us hl => match us, hl with | [_, _, _, _, _], _ => rfl), .nil, fun _ => .nil⟩⟩
  have M_Copy : Mkr P w K mg base 1 "Copy" (He.ga K "Copy") [] (sp_Part___init__ K) := ⟨⟨_, fd_Copy___init__, ["self", "name", "numbers", "ins", "outs"], [], [], ok_Part___init__ T F_Copy___init__, He.glo_ok X G (c.fact 189 (f := .glo "Copy") rfl), He.mkr_ok (c.fact 190 (f := .mkr "Copy") rfl), FunD.bindsN F_Copy___init__ (fun _ _ _ _ _ _ us hl => match us, hl with | [_, _, _, _, _], _ => rfl), .nil, fun _ => .nil⟩⟩
  have M_Give : Mkr P w K mg base 1 "Give" (He.ga K "Give") [] (sp_Part___init__ K) := ⟨⟨_, fd_Give___init__, ["self", "name", "numbers", "ins", "outs"], [], [], ok_Part___init__ T F_Give___init__, He.glo_ok X G (c.fact 191 (f := .glo "Give") rfl), He.mkr_ok (c.fact 192 (f := .mkr "Give") rfl), FunD.bindsN F_Give___init__ (fun _ _ _ _ _ _ us hl => match us, hl with | [_, _, _, _, _], _ => rfl), .nil, fun _ => .nil⟩⟩
  have M_Heap : Mkr P w K mg base 1 "Heap" (He.ga K "Heap") [] (sp_Part___init__ K) := ⟨⟨_, fd_Heap___init__, ["self", "name", "numbers", "ins", "outs"], [], [], ok_Part___init__ T F_Heap___init__, He.glo_ok X G (c.fact 193 (f := .glo "Heap") rfl), He.mkr_ok (c.fact 194 (f := .mkr "Heap") rfl), FunD.bindsN F_Heap___init__ (fun _ _ _ _ _ _ us hl => match us, hl with | [_, _, _, _, _], _ => rfl), .nil, fun _ => .nil⟩⟩
  have M_Less : Mkr P w K mg base 1 "Less" (He.ga K "Less") [] (sp_Part___init__ K) := ⟨⟨_, fd_Less___init__, ["self", "name", "numbers", "ins", "outs"], [], [], ok_Part___init__ T F_Less___init__, He.glo_ok X G (c.fact 195 (f := .glo "Less") rfl), He.mkr_ok (c.fact 196 (f := .mkr "Less") rfl), FunD.bindsN F_Less___init__ (fun _ _ _ _ _ _ us hl => match us, hl with | [_, _, _, _, _], _ => rfl), .nil, fun _ => .nil⟩⟩
  have M_Order : Mkr P w K mg base 1 "Order" (He.ga K "Order") [] (sp_Part___init__ K) := ⟨⟨_, fd_Order___init__, ["self", "name", "numbers", "ins", "outs"], [], [], ok_Part___init__ T F_Order___init__, He.glo_ok X G (c.fact 197 (f := .glo "Order") rfl), He.mkr_ok (c.fact 198 (f := .mkr "Order") rfl), FunD.bindsN F_Order___init__ (fun _ _ _ _ _ _ us hl => match us, hl with | [_, _, _, _, _], _ => rfl), .nil, fun _ => .nil⟩⟩
  have M_Pass : Mkr P w K mg base 1 "Pass" (He.ga K "Pass") [] (sp_Part___init__ K) := ⟨⟨_, fd_Pass___init__, ["self", "name", "numbers", "ins", "outs"], [], [], ok_Part___init__ T F_Pass___init__, He.glo_ok X G (c.fact 199 (f := .glo "Pass") rfl), He.mkr_ok (c.fact 200 (f := .mkr "Pass") rfl), FunD.bindsN F_Pass___init__ (fun _ _ _ _ _ _ us hl => match us, hl with | [_, _, _, _, _], _ => rfl), .nil, fun _ => .nil⟩⟩
  have M_Split : Mkr P w K mg base 1 "Split" (He.ga K "Split") [] (sp_Part___init__ K) := ⟨⟨_, fd_Split___init__, ["self", "name", "numbers", "ins", "outs"], [], [], ok_Part___init__ T F_Split___init__, He.glo_ok X G (c.fact 201 (f := .glo "Split") rfl), He.mkr_ok (c.fact 202 (f := .mkr "Split") rfl), FunD.bindsN F_Split___init__ (fun _ _ _ _ _ _ us hl => match us, hl with | [_, _, _, _, _], _ => rfl), .nil, fun _ => .nil⟩⟩
  have M_Take : Mkr P w K mg base 1 "Take" (He.ga K "Take") [] (sp_Part___init__ K) := ⟨⟨_, fd_Take___init__, ["self", "name", "numbers", "ins", "outs"], [], [], ok_Part___init__ T F_Take___init__, He.glo_ok X G (c.fact 203 (f := .glo "Take") rfl), He.mkr_ok (c.fact 204 (f := .mkr "Take") rfl), FunD.bindsN F_Take___init__ (fun _ _ _ _ _ _ us hl => match us, hl with | [_, _, _, _, _], _ => rfl), .nil, fun _ => .nil⟩⟩
  have M_Turn : Mkr P w K mg base 1 "Turn" (He.ga K "Turn") [] (sp_Part___init__ K) := ⟨⟨_, fd_Turn___init__, ["self", "name", "numbers", "ins", "outs"], [], [], ok_Part___init__ T F_Turn___init__, He.glo_ok X G (c.fact 205 (f := .glo "Turn") rfl), He.mkr_ok (c.fact 206 (f := .mkr "Turn") rfl), FunD.bindsN F_Turn___init__ (fun _ _ _ _ _ _ us hl => match us, hl with | [_, _, _, _, _], _ => rfl), .nil, fun _ => .nil⟩⟩
  have G_made_as : Df P w K mg base 3 "made_as" [] (sp_made_as K) := ⟨_, fd_made_as, ["kind", "name", "numbers", "ins", "outs"], [], [], ok_made_as T M_Add M_Choose M_Copy M_Give M_Heap M_Less M_Order M_Pass M_Split M_Take M_Turn F_made_as, He.glo_ok X G (c.fact 25 (f := .glo "made_as") rfl), F_made_as.kp, FunD.bindsN F_made_as (fun _ _ _ _ _ _ us hl => match us, hl with | [_, _, _, _, _], _ => rfl), .nil, fun _ => .nil⟩
  have G_is_kind : Df P w K mg base 1 "is_kind" [] sp_is_kind := ⟨_, fd_is_kind, ["word"], [], [], ok_is_kind T F_is_kind, He.glo_ok X G (c.fact 26 (f := .glo "is_kind") rfl), F_is_kind.kp, FunD.bindsN F_is_kind (fun _ _ _ _ _ _ us hl => match us, hl with | [_], _ => rfl), .nil, fun _ => .nil⟩
  have H_wants : MtT P w K mg base 1 "wants" (T_wants K) := (mtT_cons ⟨⟨_, fd_Give_wants, ["self"], [], [], (ok_Give_wants T F_Give_wants).mono (by decide), He.cls_ok (c.fact 53 (f := .cls "Give") rfl), He.meth_ok (c.fact 217 (f := .meth "Give" "wants") rfl), FunD.bindsN F_Give_wants (fun _ _ _ _ _ _ us hl => match us, hl with | [_], _ => rfl), .nil, fun _ => .nil⟩⟩ (mtT_cons ⟨⟨_, fd_Take_wants, ["self"], [], [], (ok_Take_wants T F_Take_wants).mono (by decide), He.cls_ok (c.fact 63 (f := .cls "Take") rfl), He.meth_ok (c.fact 216 (f := .meth "Take" "wants") rfl), FunD.bindsN F_Take_wants (fun _ _ _ _ _ _ us hl => match us, hl with | [_], _ => rfl), .nil, fun _ => .nil⟩⟩ (mtT_cons ⟨⟨_, fd_Pass_wants, ["self"], [], [], (ok_Part_wants T F_Pass_wants).mono (by decide), He.cls_ok (c.fact 73 (f := .cls "Pass") rfl), He.meth_ok (c.fact 215 (f := .meth "Pass" "wants") rfl), FunD.bindsN F_Pass_wants (fun _ _ _ _ _ _ us hl => match us, hl with | [_], _ => rfl), .nil, fun _ => .nil⟩⟩ (mtT_cons ⟨⟨_, fd_Copy_wants, ["self"], [], [], (ok_Copy_wants T F_Copy_wants).mono (by decide), He.cls_ok (c.fact 83 (f := .cls "Copy") rfl), He.meth_ok (c.fact 214 (f := .meth "Copy" "wants") rfl), FunD.bindsN F_Copy_wants (fun _ _ _ _ _ _ us hl => match us, hl with | [_], _ => rfl), .nil, fun _ => .nil⟩⟩ (mtT_cons ⟨⟨_, fd_Turn_wants, ["self"], [], [], (ok_Turn_wants T F_Turn_wants).mono (by decide), He.cls_ok (c.fact 93 (f := .cls "Turn") rfl), He.meth_ok (c.fact 213 (f := .meth "Turn" "wants") rfl), FunD.bindsN F_Turn_wants (fun _ _ _ _ _ _ us hl => match us, hl with | [_], _ => rfl), .nil, fun _ => .nil⟩⟩ (mtT_cons ⟨⟨_, fd_Heap_wants, ["self"], [], [], (ok_Heap_wants T F_Heap_wants).mono (by decide), He.cls_ok (c.fact 103 (f := .cls "Heap") rfl), He.meth_ok (c.fact 212 (f := .meth "Heap" "wants") rfl), FunD.bindsN F_Heap_wants (fun _ _ _ _ _ _ us hl => match us, hl with | [_], _ => rfl), .nil, fun _ => .nil⟩⟩ (mtT_cons ⟨⟨_, fd_Add_wants, ["self"], [], [], (ok_Add_wants T F_Add_wants).mono (by decide), He.cls_ok (c.fact 113 (f := .cls "Add") rfl), He.meth_ok (c.fact 211 (f := .meth "Add" "wants") rfl), FunD.bindsN F_Add_wants (fun _ _ _ _ _ _ us hl => match us, hl with | [_], _ => rfl), .nil, fun _ => .nil⟩⟩ (mtT_cons ⟨⟨_, fd_Less_wants, ["self"], [], [], (ok_Less_wants T F_Less_wants).mono (by decide), He.cls_ok (c.fact 123 (f := .cls "Less") rfl), He.meth_ok (c.fact 210 (f := .meth "Less" "wants") rfl), FunD.bindsN F_Less_wants (fun _ _ _ _ _ _ us hl => match us, hl with | [_], _ => rfl), .nil, fun _ => .nil⟩⟩ (mtT_cons ⟨⟨_, fd_Order_wants, ["self"], [], [], (ok_Order_wants T F_Order_wants).mono (by decide), He.cls_ok (c.fact 133 (f := .cls "Order") rfl), He.meth_ok (c.fact 209 (f := .meth "Order" "wants") rfl), FunD.bindsN F_Order_wants (fun _ _ _ _ _ _ us hl => match us, hl with | [_], _ => rfl), .nil, fun _ => .nil⟩⟩ (mtT_cons ⟨⟨_, fd_Choose_wants, ["self"], [], [], (ok_Choose_wants T F_Choose_wants).mono (by decide), He.cls_ok (c.fact 143 (f := .cls "Choose") rfl), He.meth_ok (c.fact 208 (f := .meth "Choose" "wants") rfl), FunD.bindsN F_Choose_wants (fun _ _ _ _ _ _ us hl => match us, hl with | [_], _ => rfl), .nil, fun _ => .nil⟩⟩ (mtT_cons ⟨⟨_, fd_Split_wants, ["self"], [], [], (ok_Split_wants T F_Split_wants).mono (by decide), He.cls_ok (c.fact 153 (f := .cls "Split") rfl), He.meth_ok (c.fact 207 (f := .meth "Split" "wants") rfl), FunD.bindsN F_Split_wants (fun _ _ _ _ _ _ us hl => match us, hl with | [_], _ => rfl), .nil, fun _ => .nil⟩⟩ mtT_nil)))))))))))
  have G_part_made : Df P w K mg base 4 "part_made" [] (sp_part_made K) := ⟨_, fd_part_made, ["kind", "name", "numbers", "ins", "outs"], [], [], ok_part_made T G_is_value G_made_as G_is_kind H_wants F_part_made, He.glo_ok X G (c.fact 27 (f := .glo "part_made") rfl), F_part_made.kp, FunD.bindsN F_part_made (fun _ _ _ _ _ _ us hl => match us, hl with | [_, _, _, _, _], _ => rfl), .nil, fun _ => .nil⟩
  have G_is_name : Df P w K mg base 1 "is_name" [] (sp_is_name K) := ⟨_, fd_is_name, ["thing"], [], [], ok_is_name T F_is_name, He.glo_ok X G (c.fact 28 (f := .glo "is_name") rfl), F_is_name.kp, FunD.bindsN F_is_name (fun _ _ _ _ _ _ us hl => match us, hl with | [_], _ => rfl), .nil, fun _ => .nil⟩
  have G_need_name : Df P w K mg base 2 "need_name" [] (sp_need_name K) := ⟨_, fd_need_name, ["name", "known"], [], [], ok_need_name T G_is_name F_need_name, He.glo_ok X G (c.fact 29 (f := .glo "need_name") rfl), F_need_name.kp, FunD.bindsN F_need_name (fun _ _ _ _ _ _ us hl => match us, hl with | [_, _], _ => rfl), .nil, fun _ => .nil⟩
  have H_lay_hold : MtT P w K mg base 1 "lay_hold" (T_lay_hold K) := (mtT_cons ⟨⟨_, fd_Net_lay_hold, ["self", "name", "lanes", "ends"], [], [], (ok_Net_lay_hold T F_Net_lay_hold).mono (by decide), He.cls_ok (c.fact 163 (f := .cls "Net") rfl), He.meth_ok (c.fact 218 (f := .meth "Net" "lay_hold") rfl), FunD.bindsN F_Net_lay_hold (fun _ _ _ _ _ _ us hl => match us, hl with | [_, _, _, _], _ => rfl), .nil, fun _ => .nil⟩⟩ mtT_nil)
  have G_need_room : Df P w K mg base 3 "need_room" [] (sp_need_room K) := ⟨_, fd_need_room, ["name", "room", "first"], [], [], ok_need_room T G_is_whole G_is_value F_need_room, He.glo_ok X G (c.fact 30 (f := .glo "need_room") rfl), F_need_room.kp, FunD.bindsN F_need_room (fun _ _ _ _ _ _ us hl => match us, hl with | [_, _, _], _ => rfl), .nil, fun _ => .nil⟩
  have H_joined : MtT P w K mg base 1 "joined" (T_joined K) := (mtT_cons ⟨⟨_, fd_Net_joined, ["self"], [], [], (ok_Net_joined T F_Net_joined).mono (by decide), He.cls_ok (c.fact 163 (f := .cls "Net") rfl), He.meth_ok (c.fact 219 (f := .meth "Net" "joined") rfl), FunD.bindsN F_Net_joined (fun _ _ _ _ _ _ us hl => match us, hl with | [_], _ => rfl), .nil, fun _ => .nil⟩⟩ mtT_nil)
  have H_put_in : MtT P w K mg base 5 "put_in" (T_put_in K) := (mtT_cons ⟨⟨_, fd_Net_put_in, ["self", "kind", "name", "numbers", "ins", "outs"], [], [], (ok_Net_put_in T G_is_kind G_part_made G_need_name H_lay_hold F_Net_put_in).mono (by decide), He.cls_ok (c.fact 163 (f := .cls "Net") rfl), He.meth_ok (c.fact 220 (f := .meth "Net" "put_in") rfl), FunD.bindsN F_Net_put_in (fun _ _ _ _ _ _ us hl => match us, hl with | [_, _, _, _, _, _], _ => rfl), .nil, fun _ => .nil⟩⟩ mtT_nil)
  have G_are_names : Df P w K mg base 2 "are_names" [] (sp_are_names K) := ⟨_, fd_are_names, ["words"], [], [], ok_are_names T G_is_name F_are_names, He.glo_ok X G (c.fact 31 (f := .glo "are_names") rfl), F_are_names.kp, FunD.bindsN F_are_names (fun _ _ _ _ _ _ us hl => match us, hl with | [_], _ => rfl), .nil, fun _ => .nil⟩
  have G_number_in : Df P w K mg base 1 "number_in" [] (sp_number_in K) := ⟨_, fd_number_in, ["word", "low", "high"], [], [], ok_number_in T F_number_in, He.glo_ok X G (c.fact 32 (f := .glo "number_in") rfl), F_number_in.kp, FunD.bindsN F_number_in (fun _ _ _ _ _ _ us hl => match us, hl with | [_, _, _], _ => rfl), .nil, fun _ => .nil⟩
  have G_numbers_of : Df P w K mg base 2 "numbers_of" [] (sp_numbers_of K) := ⟨_, fd_numbers_of, ["words"], [], [], ok_numbers_of T G_number_in F_numbers_of, He.glo_ok X G (c.fact 33 (f := .glo "numbers_of") rfl), F_numbers_of.kp, FunD.bindsN F_numbers_of (fun _ _ _ _ _ _ us hl => match us, hl with | [_], _ => rfl), .nil, fun _ => .nil⟩
  have G_part_told : Df P w K mg base 3 "part_told" [] (sp_part_told K) := ⟨_, fd_part_told, ["words"], [], [], ok_part_told T G_are_names G_numbers_of F_part_told, He.glo_ok X G (c.fact 34 (f := .glo "part_told") rfl), F_part_told.kp, FunD.bindsN F_part_told (fun _ _ _ _ _ _ us hl => match us, hl with | [_], _ => rfl), .nil, fun _ => .nil⟩
  have G_lane_of : Df P w K mg base 3 "lane_of" [] (sp_lane_of K) := ⟨_, fd_lane_of, ["words"], [], [], ok_lane_of T G_is_name G_numbers_of F_lane_of, He.glo_ok X G (c.fact 35 (f := .glo "lane_of") rfl), F_lane_of.kp, FunD.bindsN F_lane_of (fun _ _ _ _ _ _ us hl => match us, hl with | [_], _ => rfl), .nil, fun _ => .nil⟩
  have G_words_of : Df P w K mg base 1 "words_of" [] sp_words_of := ⟨_, fd_words_of, ["row"], [], [], ok_words_of T F_words_of, He.glo_ok X G (c.fact 36 (f := .glo "words_of") rfl), F_words_of.kp, FunD.bindsN F_words_of (fun _ _ _ _ _ _ us hl => match us, hl with | [_], _ => rfl), .nil, fun _ => .nil⟩
  have M_Net : Mkr P w K mg base 6 "Net" (He.ga K "Net") [] (sp_Net___init__ K) := ⟨⟨_, fd_Net___init__, ["self", "lanes", "parts"], [], [], ok_Net___init__ T G_need_name G_need_room H_joined H_put_in F_Net___init__, He.glo_ok X G (c.fact 221 (f := .glo "Net") rfl), He.mkr_ok (c.fact 222 (f := .mkr "Net") rfl), FunD.bindsN F_Net___init__ (fun _ _ _ _ _ _ us hl => match us, hl with | [_, _, _], _ => rfl), .nil, fun _ => .nil⟩⟩
  have G_read_net : Df P w K mg base 8 "read_net" [] (sp_read_net K) := ⟨_, fd_read_net, ["text"], [], [], ok_read_net T G_part_told G_lane_of G_words_of M_Net F_read_net, He.glo_ok X G (c.fact 37 (f := .glo "read_net") rfl), F_read_net.kp, FunD.bindsN F_read_net (fun _ _ _ _ _ _ us hl => match us, hl with | [_], _ => rfl), .nil, fun _ => .nil⟩
  have G__law_rows : Df P w K mg base 1 "_law_rows" [] sp__law_rows := ⟨_, fd__law_rows, ["_law_lanes", "_law_parts"], [], [], ok__law_rows T F__law_rows, He.glo_ok X G (c.fact 38 (f := .glo "_law_rows") rfl), F__law_rows.kp, FunD.bindsN F__law_rows (fun _ _ _ _ _ _ us hl => match us, hl with | [_, _], _ => rfl), .nil, fun _ => .nil⟩
  have G__law_told : Df P w K mg base 1 "_law_told" [] sp__law_told := ⟨_, fd__law_told, ["_law_lanes", "_law_parts"], [], [], ok__law_told T F__law_told, He.glo_ok X G (c.fact 39 (f := .glo "_law_told") rfl), F__law_told.kp, FunD.bindsN F__law_told (fun _ _ _ _ _ _ us hl => match us, hl with | [_, _], _ => rfl), .nil, fun _ => .nil⟩
  have G__law_mix : Df P w K mg base 1 "_law_mix" [] sp__law_mix := ⟨_, fd__law_mix, ["_law_cell_here", "_law_k"], [], [], ok__law_mix T F__law_mix, He.glo_ok X G (c.fact 40 (f := .glo "_law_mix") rfl), F__law_mix.kp, FunD.bindsN F__law_mix (fun _ _ _ _ _ _ us hl => match us, hl with | [_, _], _ => rfl), .nil, fun _ => .nil⟩
  have G__law_value : Df P w K mg base 2 "_law_value" [] sp__law_value := ⟨_, fd__law_value, ["_law_cell_here", "_law_k"], [], [], ok__law_value T G__law_mix F__law_value, He.glo_ok X G (c.fact 41 (f := .glo "_law_value") rfl), F__law_value.kp, FunD.bindsN F__law_value (fun _ _ _ _ _ _ us hl => match us, hl with | [_, _], _ => rfl), .nil, fun _ => .nil⟩
  have G__law_cell : Df P w K mg base 1 "_law_cell" [] sp__law_cell := ⟨_, fd__law_cell, ["_law_script", "_law_k"], [], [], ok__law_cell T F__law_cell, He.glo_ok X G (c.fact 42 (f := .glo "_law_cell") rfl), F__law_cell.kp, FunD.bindsN F__law_cell (fun _ _ _ _ _ _ us hl => match us, hl with | [_, _], _ => rfl), .nil, fun _ => .nil⟩
  have G__law_word : Df P w K mg base 2 "_law_word" [] sp__law_word := ⟨_, fd__law_word, ["_law_cell_here", "_law_k"], [], [], ok__law_word T G__law_mix F__law_word, He.glo_ok X G (c.fact 43 (f := .glo "_law_word") rfl), F__law_word.kp, FunD.bindsN F__law_word (fun _ _ _ _ _ _ us hl => match us, hl with | [_, _], _ => rfl), .nil, fun _ => .nil⟩
  have G__law_lane : Df P w K mg base 3 "_law_lane" [] sp__law_lane := ⟨_, fd__law_lane, ["_law_state", "_law_cell_here", "_law_back"], [], [], ok__law_lane T G__law_mix G__law_value G__law_word F__law_lane, He.glo_ok X G (c.fact 44 (f := .glo "_law_lane") rfl), F__law_lane.kp, FunD.bindsN F__law_lane (fun _ _ _ _ _ _ us hl => match us, hl with | [_, _, _], _ => rfl), .nil, fun _ => .nil⟩
  have G__law_part : Df P w K mg base 4 "_law_part" [] sp__law_part := ⟨_, fd__law_part, ["_law_state", "_law_cell_here", "_law_kind", "_law_numbers", "_law_ins", "_law_many"], [], [], ok__law_part T G__law_mix G__law_word G__law_lane F__law_part, He.glo_ok X G (c.fact 45 (f := .glo "_law_part") rfl), F__law_part.kp, FunD.bindsN F__law_part (fun _ _ _ _ _ _ us hl => match us, hl with | [_, _, _, _, _, _], _ => rfl), .nil, fun _ => .nil⟩
  have G__law_closed : Df P w K mg base 5 "_law_closed" [] sp__law_closed := ⟨_, fd__law_closed, ["_law_state", "_law_cell_here", "_law_back"], [], [], ok__law_closed T G__law_mix G__law_word G__law_lane G__law_part F__law_closed, He.glo_ok X G (c.fact 46 (f := .glo "_law_closed") rfl), F__law_closed.kp, FunD.bindsN F__law_closed (fun _ _ _ _ _ _ us hl => match us, hl with | [_, _, _], _ => rfl), .nil, fun _ => .nil⟩
  have G__law_loop : Df P w K mg base 4 "_law_loop" [] sp__law_loop := ⟨_, fd__law_loop, ["_law_state", "_law_cell_here", "_law_one"], [], [], ok__law_loop T G__law_mix G__law_word G__law_lane F__law_loop, He.glo_ok X G (c.fact 47 (f := .glo "_law_loop") rfl), F__law_loop.kp, FunD.bindsN F__law_loop (fun _ _ _ _ _ _ us hl => match us, hl with | [_, _, _], _ => rfl), .nil, fun _ => .nil⟩
  have G__law_pick : Df P w K mg base 1 "_law_pick" [] sp__law_pick := ⟨_, fd__law_pick, ["_law_state", "_law_number"], [], [], ok__law_pick T F__law_pick, He.glo_ok X G (c.fact 48 (f := .glo "_law_pick") rfl), F__law_pick.kp, FunD.bindsN F__law_pick (fun _ _ _ _ _ _ us hl => match us, hl with | [_, _], _ => rfl), .nil, fun _ => .nil⟩
  have G__law_two : Df P w K mg base 5 "_law_two" [] sp__law_two := ⟨_, fd__law_two, ["_law_state", "_law_cell_here", "_law_one", "_law_odd"], [], [], ok__law_two T G__law_mix G__law_part G__law_pick F__law_two, He.glo_ok X G (c.fact 49 (f := .glo "_law_two") rfl), F__law_two.kp, FunD.bindsN F__law_two (fun _ _ _ _ _ _ us hl => match us, hl with | [_, _, _, _], _ => rfl), .nil, fun _ => .nil⟩
  have G__law_step : Df P w K mg base 6 "_law_step" [] sp__law_step := ⟨_, fd__law_step, ["_law_state", "_law_cell_here", "_law_odd"], [], [], ok__law_step T G__law_mix G__law_value G__law_part G__law_loop G__law_pick G__law_two F__law_step, He.glo_ok X G (c.fact 50 (f := .glo "_law_step") rfl), F__law_step.kp, FunD.bindsN F__law_step (fun _ _ _ _ _ _ us hl => match us, hl with | [_, _, _], _ => rfl), .nil, fun _ => .nil⟩
  have G__law_net : Df P w K mg base 7 "_law_net" [] sp__law_net := ⟨_, fd__law_net, ["_law_script", "_law_start", "_law_steps", "_law_odd"], [], [], ok__law_net T G__law_mix G__law_cell G__law_lane G__law_part G__law_closed G__law_step F__law_net, He.glo_ok X G (c.fact 51 (f := .glo "_law_net") rfl), F__law_net.kp, FunD.bindsN F__law_net (fun _ _ _ _ _ _ us hl => match us, hl with | [_, _, _, _], _ => rfl), .nil, fun _ => .nil⟩
  exact FnOk.toE (ok_law T G_show_net G_read_net G__law_rows G__law_told G__law_value G__law_cell G__law_net H_told M_Net F_law)
end L_k24
open PySem PySem.W PySem.Calls PyProof.Rows
set_option maxRecDepth 100000 in
set_option maxHeartbeats 0 in
theorem PySem.Challenge.cw_holdlane_k24_nets_written_holds : PySem.Challenge.rw_holdlane_k24_nets_written.Holds := by
  w_on; o_law
  refine HandSHeadRun.head_any (r := OpenLaw.row PySem.Challenge.rw_holdlane_k24_nets_written) (q := view (OpenLaw.row PySem.Challenge.rw_holdlane_k24_nets_written).prog [71]) (H := L_k24.hk) (ob := L_k24.ob) (M := 40000) (loose := L_k24.loose) (d := HandSHeadRun.topDef (OpenLaw.row PySem.Challenge.rw_holdlane_k24_nets_written).prog 71) (kwd := []) L_k24.ob_eq
    (by kernel_rfl) (fun s => by kernel_rfl) L_k24.run (by kernel_rfl) (by kernel_rfl) (by kernel_rfl) (by rfl) (by first | assumption | decide +kernel) (by decide +kernel) ⟨rfl, rfl, rfl, rfl, rfl, by decide +kernel⟩ ?hw ?hc
  case hw => w_witness2
  case hc =>
    refine L2.walk_ofE (l := PySem.Challenge.rw_holdlane_k24_nets_written) (n := 63) (k := 9) (x := "_law_script") (CX := Ab.CXe (PySem.Challenge.rw_holdlane_k24_nets_written).prog) rfl (by decide) (by kernel_rfl) ⟨rfl, by decide, by decide⟩ ?F ?C
    case F =>
      intro w mg fa h Y G hmg0
      obtain ⟨K, KX, c⟩ := Y
      have hmg : mg ("law" : PySem.Str) = some (.ref fa) := by
        have e : (HandSHeadRun.topDef (OpenLaw.row PySem.Challenge.rw_holdlane_k24_nets_written).prog 71).name = ("law" : PySem.Str) := by kernel_rfl
        rw [← e]
        exact hmg0
      obtain ⟨fd, hkx, hkf, hb, hF⟩ := L_k24.facts (P := (PySem.Challenge.rw_holdlane_k24_nets_written).prog) (w := w) KX G hmg c
      exact ⟨K, fd, Ab.spOf K (L_k24.sp_law K), KX, hb, fun H a ns hl hO hS => Ab.lawEnd (L_k24.law_true hkx hkf) H a ns hl hO hS, hF⟩
    case C => exact Ab.cxe_none
