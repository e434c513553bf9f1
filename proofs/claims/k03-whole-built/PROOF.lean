import PyProof.Rows.All
import Wide.All
import OpenK.AllK
import Wide.FinOn
import HandS.ForMost
import HandS.Exc
import HandS.ExcOwn
import HandS.TryOnly
import HandS.WordsExc
import HandS.TupAny
import HandS.Zip
import HandS.Walk
import HandS.TupMul
import HandS.Style
import HandS.Set
import HandS.HeadHook1
import HandS.SetFor
import PyProof.SetRoads
import PyProof.Rows.SortShellAny
import HandS.Iter
import HandS.Flow
import HandS.Defaults
import HandS.HeadHook2
import HandS.HeadEnd
import KE.GoesMore
import HandS.IsInst
import HandS.ExcIs
import HandS.Deep
import HandS.HeadHook3
import PyProof.ExcBaseAll.ValueError
import HandS.Dict
import HandS.More
import KE.GoesRaise
import KE.IntTextLaws
import HandS.Head0
import HandS.Head1
import HandS.Head2
import PySem.Challenge.RW_routeboard_k03_whole_built
set_option Elab.async false
set_option linter.all false
set_option maxRecDepth 100000
namespace L2.RB
open PySem PySem.Spec PyProof.Rows
/-! ### plain data -/
inductive D where
  | non | bl (b : Bool) | int (i : Int) | str (x : Str) | tup (xs : List D) | lst (xs : List D)
  | set (xs : List Str) | dct (kvs : List (D × D)) | exc (c : Str) | scr (ns : List Int)
  | obj (c : Str) (fs : List (Str × D)) | dcu (kvs : List (D × D))
def keyD : Key → D
  | .inl i => .int i
  | .inr x => .str x
def cut (H : Hp) (O : List Addr) : Hp := fun b => if b ∈ O then none else H b
theorem cut_nil (H : Hp) : cut H [] = H := by
  funext b
  unfold cut
  rw [if_neg List.not_mem_nil]
theorem cut_of {H : Hp} {O : List Addr} {b : Addr} (h : b ∉ O) : cut H O b = H b := if_neg h
theorem of_cut {H : Hp} {O : List Addr} {b : Addr} {o : HO} (h : cut H O b = some o) : b ∉ O ∧ H b = some o := by
  unfold cut at h
  by_cases e : b ∈ O
  · rw [if_pos e] at h; cases h
  · rw [if_neg e] at h; exact ⟨e, h⟩
theorem cut_le (H : Hp) (O : List Addr) : Same (cut H O) H := fun _ _ h => (of_cut h).2
theorem cut_same {H H' : Hp} {O : List Addr} (s : Same H H') : Same (cut H O) (cut H' O) := fun b o h => by
  obtain ⟨h1, h2⟩ := of_cut h
  rw [cut_of h1]
  exact s b o h2
/-! ### sets of texts, with what their walk asks -/
def txt (v : Value) : Str := match v with
  | .str x _ => x
  | _ => Str.empty
def RowT (w : World) (e : Int × Value) : Prop := ∃ x tk, e.2 = .str x tk ∧ e.1 = hashStr w x
def TabT (w : World) (t : SetTable) (n : Nat) : Prop := t.fits n = true ∧ Ris t.place.toList ∧ (w.params.followText "set-order" = true ∨ t.led = true)
def names (l : List (Int × Value)) : List Str := l.map fun e => txt e.2
/-- the set at a holds just xs -/
def SetT (w : World) (h : Heap) (a : Addr) (xs : List Str) : Prop := ∃ o es ep t, h.get? a = some o ∧ o.ExactSet ∧ o.data = .set es ep t ∧ (∀ e ∈ es.toList, RowT w e) ∧ (names es.toList).Perm xs ∧ xs.Nodup ∧ es.size < scanBound ∧ TabT w t es.size
/-- a set of texts -/
def SetS (P : Program) (w : World) (a : Addr) (xs : List Str) : HO := .ext fun h => SetT w h a xs
/-- a refusal that was caught: of the class c, nothing else is known -/
def ExK (K : PySem.W.Frag) (c : Str) (a : Addr) : HO := .ext fun h => ∃ (oe : Obj) (vs : Array Value), h.get? a = some oe ∧ Zc (.ref (He.ga K c)) none oe ∧ oe.data = .fields vs
structure KW where
  K : PySem.W.Frag
  P : Program
  w : World
mutual
inductive Rep (K : KW) (G : Hp) : V → D → Prop
  | non : Rep K G .non .non
  | bl (b : Bool) : Rep K G (.bl b) (.bl b)
  | int (i : Int) : Rep K G (.int i) (.int i)
  | str (x : Str) : Rep K G (.str x) (.str x)
  | tup {a : Addr} {vs : List V} {ds : List D} : SqT K.K G a vs → Reps K G vs ds → Rep K G (.ref a) (.tup ds)
  | lst {a : Addr} {vs : List V} {ds : List D} : G a = some (.lst vs) → Reps K G vs ds → Rep K G (.ref a) (.lst ds)
  | scr {a : Addr} {ns : List Int} : SqL K.K G a (ns.map V.int) → Rep K G (.ref a) (.scr ns)
  | set {a : Addr} {xs : List Str} : G a = some (SetS K.P K.w a xs) → xs.Nodup → Rep K G (.ref a) (.set xs)
  | dK {a : Addr} {kvs : List (Key × V)} {ds : List (D × D)} : G a = some (.dK kvs) → RepKs K G kvs ds → Rep K G (.ref a) (.dct ds)
  | dT {a : Addr} {kvs : List (List Key × V)} {ds : List (D × D)} : G a = some (.dT kvs) → RepTs K G kvs ds → Rep K G (.ref a) (.dcu ds)
  | exc {a : Addr} {c : Str} : G a = some (ExK K.K c a) → Rep K G (.ref a) (.exc c)
  | obj {a dx : Addr} {c : Str} {fs : List (Str × V)} {ds : List (Str × D)} : G a = some (.ins (He.ga K.K c) dx fs) → RepFs K G fs ds → Rep K G (.ref a) (.obj c ds)
inductive Reps (K : KW) (G : Hp) : List V → List D → Prop
  | nil : Reps K G [] []
  | cons {v : V} {vs : List V} {d : D} {ds : List D} : Rep K G v d → Reps K G vs ds → Reps K G (v :: vs) (d :: ds)
inductive RepKs (K : KW) (G : Hp) : List (Key × V) → List (D × D) → Prop
  | nil : RepKs K G [] []
  | cons {k : Key} {v : V} {kvs : List (Key × V)} {d : D} {ds : List (D × D)} : Rep K G v d → RepKs K G kvs ds → RepKs K G ((k, v) :: kvs) ((keyD k, d) :: ds)
inductive RepTs (K : KW) (G : Hp) : List (List Key × V) → List (D × D) → Prop
  | nil : RepTs K G [] []
  | cons {k : List Key} {v : V} {kvs : List (List Key × V)} {d : D} {ds : List (D × D)} : Rep K G v d → RepTs K G kvs ds → RepTs K G ((k, v) :: kvs) ((.tup (k.map keyD), d) :: ds)
inductive RepFs (K : KW) (G : Hp) : List (Str × V) → List (Str × D) → Prop
  | nil : RepFs K G [] []
  | cons {k : Str} {v : V} {kvs : List (Str × V)} {d : D} {ds : List (Str × D)} : Rep K G v d → RepFs K G kvs ds → RepFs K G ((k, v) :: kvs) ((k, d) :: ds)
end
theorem sqT_mono {K : PySem.W.Frag} {H H' : Hp} {a : Addr} {xs : List V} (e : Same H H') (h : SqT K H a xs) : SqT K H' a xs := by
  rcases h with (h | ⟨o, h⟩) | h
  · exact .inl (.inl (e _ _ h))
  · exact .inl (.inr ⟨o, e _ _ h⟩)
  · exact .inr h
mutual
theorem Rep.mono {K : KW} {G G' : Hp} (s : Same G G') : ∀ {v : V} {d : D}, Rep K G v d → Rep K G' v d
  | _, _, .non => .non
  | _, _, .bl b => .bl b
  | _, _, .int i => .int i
  | _, _, .str x => .str x
  | _, _, .tup h r => .tup (sqT_mono s h) (r.mono s)
  | _, _, .lst h r => .lst (s _ _ h) (r.mono s)
  | _, _, .scr h => .scr (s.seq h)
  | _, _, .set h n => .set (s _ _ h) n
  | _, _, .dK h r => .dK (s _ _ h) (r.mono s)
  | _, _, .dT h r => .dT (s _ _ h) (r.mono s)
  | _, _, .exc h => .exc (s _ _ h)
  | _, _, .obj h r => .obj (s _ _ h) (r.mono s)
theorem Reps.mono {K : KW} {G G' : Hp} (s : Same G G') : ∀ {v : List V} {d : List D}, Reps K G v d → Reps K G' v d
  | _, _, .nil => .nil
  | _, _, .cons h r => .cons (h.mono s) (r.mono s)
theorem RepKs.mono {K : KW} {G G' : Hp} (s : Same G G') : ∀ {v : List (Key × V)} {d : List (D × D)}, RepKs K G v d → RepKs K G' v d
  | _, _, .nil => .nil
  | _, _, .cons h r => .cons (h.mono s) (r.mono s)
theorem RepTs.mono {K : KW} {G G' : Hp} (s : Same G G') : ∀ {v : List (List Key × V)} {d : List (D × D)}, RepTs K G v d → RepTs K G' v d
  | _, _, .nil => .nil
  | _, _, .cons h r => .cons (h.mono s) (r.mono s)
theorem RepFs.mono {K : KW} {G G' : Hp} (s : Same G G') : ∀ {v : List (Str × V)} {d : List (Str × D)}, RepFs K G v d → RepFs K G' v d
  | _, _, .nil => .nil
  | _, _, .cons h r => .cons (h.mono s) (r.mono s)
end
section
variable {K : KW} {G : Hp}
theorem Reps.length : ∀ {vs : List V} {ds : List D}, Reps K G vs ds → vs.length = ds.length
  | _, _, .nil => rfl
  | _, _, .cons _ t => congrArg (· + 1) t.length
theorem Reps.get : ∀ {vs : List V} {ds : List D} {i : Nat} {d : D}, Reps K G vs ds → ds[i]? = some d → ∃ v, vs[i]? = some v ∧ Rep K G v d
  | _, _, _, _, .nil, e => by simp at e
  | _, _, 0, _, .cons r _, e => by simp at e; subst e; exact ⟨_, rfl, r⟩
  | _, _, i + 1, _, .cons _ t, e => by
    obtain ⟨v, h1, h2⟩ := t.get (i := i) (by simpa using e)
    exact ⟨v, by simpa using h1, h2⟩
theorem Reps.get' : ∀ {vs : List V} {ds : List D} {i : Nat} {v : V}, Reps K G vs ds → vs[i]? = some v → ∃ d, ds[i]? = some d ∧ Rep K G v d
  | _, _, _, _, .nil, e => by simp at e
  | _, _, 0, _, .cons r _, e => by simp at e; subst e; exact ⟨_, rfl, r⟩
  | _, _, i + 1, _, .cons _ t, e => by
    obtain ⟨d, h1, h2⟩ := t.get' (i := i) (by simpa using e)
    exact ⟨d, by simpa using h1, h2⟩
theorem Reps.append : ∀ {xs ys : List V} {ds es : List D}, Reps K G xs ds → Reps K G ys es → Reps K G (xs ++ ys) (ds ++ es)
  | _, _, _, _, .nil, s => s
  | _, _, _, _, .cons r t, s => .cons r (t.append s)
theorem Reps.take : ∀ {xs : List V} {ds : List D} (n : Nat), Reps K G xs ds → Reps K G (xs.take n) (ds.take n)
  | _, _, 0, _ => .nil
  | _, _, _ + 1, .nil => .nil
  | _, _, n + 1, .cons r t => .cons r (t.take n)
theorem Reps.drop : ∀ {xs : List V} {ds : List D} (n : Nat), Reps K G xs ds → Reps K G (xs.drop n) (ds.drop n)
  | _, _, 0, r => r
  | _, _, _ + 1, .nil => .nil
  | _, _, n + 1, .cons _ t => t.drop n
theorem Reps.reverse : ∀ {xs : List V} {ds : List D}, Reps K G xs ds → Reps K G xs.reverse ds.reverse
  | _, _, .nil => .nil
  | _, _, .cons r t => by
    rw [List.reverse_cons, List.reverse_cons]
    exact t.reverse.append (.cons r .nil)
theorem Reps.set {d : D} {v : V} (r : Rep K G v d) : ∀ {xs : List V} {ds : List D} (i : Nat), Reps K G xs ds → Reps K G (xs.set i v) (ds.set i d)
  | _, _, _, .nil => .nil
  | _, _, 0, .cons _ t => .cons r t
  | _, _, i + 1, .cons q t => .cons q (Reps.set r i t)
theorem Reps.insertIdx {d : D} {v : V} (r : Rep K G v d) : ∀ {xs : List V} {ds : List D} (i : Nat), Reps K G xs ds → Reps K G (xs.insertIdx i v) (ds.insertIdx i d)
  | _, _, 0, t => .cons r t
  | _, _, _ + 1, .nil => .nil
  | _, _, i + 1, .cons q t => by
    rw [List.insertIdx_succ_cons, List.insertIdx_succ_cons]
    exact .cons q (Reps.insertIdx r i t)
theorem Reps.eraseIdx : ∀ {xs : List V} {ds : List D} (i : Nat), Reps K G xs ds → Reps K G (xs.eraseIdx i) (ds.eraseIdx i)
  | _, _, _, .nil => .nil
  | _, _, 0, .cons _ t => t
  | _, _, i + 1, .cons q t => .cons q (t.eraseIdx i)
theorem Reps.replicate {d : D} {v : V} (r : Rep K G v d) : ∀ n : Nat, Reps K G (List.replicate n v) (List.replicate n d)
  | 0 => .nil
  | n + 1 => .cons r (Reps.replicate r n)
theorem Reps.flatten_rep {xs : List V} {ds : List D} (r : Reps K G xs ds) : ∀ n : Nat, Reps K G (List.replicate n xs).flatten (List.replicate n ds).flatten
  | 0 => .nil
  | n + 1 => r.append (Reps.flatten_rep r n)
end
/-! ### results -/
inductive Res (α : Type) where
  | ok (a : α) | exc (c : Str) | stuck
namespace Res
variable {α β : Type}
@[inline] def bind (r : Res α) (k : α → Res β) : Res β := match r with
  | .ok a => k a
  | .exc c => .exc c
  | .stuck => .stuck
end Res
instance : Monad Res where
  pure := Res.ok
  bind := Res.bind
section
variable {α β : Type}
@[simp] theorem ok_bind (a : α) (k : α → Res β) : (Res.ok a >>= k) = k a := rfl
@[simp] theorem exc_bind (c : Str) (k : α → Res β) : (Res.exc c >>= k) = .exc c := rfl
@[simp] theorem stuck_bind (k : α → Res β) : ((Res.stuck : Res α) >>= k) = .stuck := rfl
@[simp] theorem pure_ok (a : α) : (pure a : Res α) = .ok a := rfl
/-- what is wanted of a result -/
def RP (r : Res α) (P : α → Prop) (E : Str → Prop) : Prop := match r with
  | .ok a => P a
  | .exc c => E c
  | .stuck => False
theorem RP_bind {r : Res α} {k : α → Res β} {P : β → Prop} {E : Str → Prop} : RP (r >>= k) P E ↔ RP r (fun a => RP (k a) P E) E := by
  cases r <;> exact Iff.rfl
theorem RP.mono {r : Res α} {P P' : α → Prop} {E E' : Str → Prop} (h : RP r P E) (hp : ∀ a, P a → P' a) (he : ∀ c, E c → E' c) : RP r P' E' := by
  cases r with
  | ok a => exact hp a h
  | exc c => exact he c h
  | stuck => exact h
theorem RP.and {r : Res α} {P : α → Prop} {E : Str → Prop} (h : RP r P E) {Pc : α → Prop} : RP r (fun a => P a ∧ r = .ok a) E := by
  cases r with
  | ok a => exact ⟨h, rfl⟩
  | exc c => exact h
  | stuck => exact h
end
/-- an exception is not looked for -/
def Res.nox {α : Type} : Res α → Res α
  | .ok a => .ok a
  | _ => .stuck
theorem RP_nox {α : Type} {r : Res α} {P : α → Prop} {E E' : Str → Prop} (h : RP r.nox P E) : RP r P E' := by
  cases r with
  | ok a => exact h
  | exc c => exact False.elim h
  | stuck => exact h
/-- all of a list, in order -/
def mapR {α β : Type} (f : α → Res β) : List α → Res (List β)
  | [] => .ok []
  | x :: xs => do let y ← f x; let ys ← mapR f xs; .ok (y :: ys)
def filtR {α β : Type} (f : α → Res (Option β)) : List α → Res (List β)
  | [] => .ok []
  | x :: xs => do
    let y ← f x
    let ys ← filtR f xs
    .ok (match y with
      | some z => z :: ys
      | none => ys)
/-! ### slots -/
inductive Sl where
  | un | sh (d : D) | ow (ds : List D) | od (kvs : List (D × D))
abbrev En := List Sl
def Sl.own : Sl → Bool
  | .ow _ => true
  | .od _ => true
  | _ => false
def RelSl (K : KW) (H : Hp) (O : List Addr) (v : Option V) : Sl → Prop
  | .un => True
  | .sh d => ∃ x, v = some x ∧ Rep K (cut H O) x d
  | .ow ds => ∃ a vs, v = some (.ref a) ∧ a ∈ O ∧ H a = some (.lst vs) ∧ Reps K (cut H O) vs ds
  | .od ds => ∃ a kvs, v = some (.ref a) ∧ a ∈ O ∧ H a = some (.dK kvs) ∧ RepKs K (cut H O) kvs ds
/-- what is owned stands -/
def Own (O : List Addr) (H : Hp) : Prop := ∀ a ∈ O, ∃ o, H a = some o
structure Rp (K : KW) (O : List Addr) (e : En) (σ : St) (H : Hp) : Prop where
  dom : Own O H
  len : e.length = σ.length
  at_ : ∀ (i : Nat) s, e[i]? = some s → ∃ v, σ[i]? = some v ∧ RelSl K H O v s
  apart : ∀ (i j : Nat) si sj a, e[i]? = some si → e[j]? = some sj → si.own = true → sj.own = true → σ[i]? = some (some (.ref a)) → σ[j]? = some (some (.ref a)) → i = j
/-- what was frozen stays -/
def Ext (O : List Addr) (H : Hp) (O' : List Addr) (H' : Hp) : Prop := Same (cut H O) (cut H' O')
theorem Ext.refl {O : List Addr} {H : Hp} : Ext O H O H := Same.refl _
theorem Ext.trans {O O' O2 : List Addr} {H H' H2 : Hp} (a : Ext O H O' H') (b : Ext O' H' O2 H2) : Ext O H O2 H2 := Same.trans a b
theorem Ext.same {O : List Addr} {H H' : Hp} (s : Same H H') : Ext O H O H' := cut_same s
section
variable {K : KW} {O : List Addr} {e : En} {σ : St} {H H' : Hp}
theorem RelSl.mono {v : Option V} {s : Sl} (h : Same H H') (r : RelSl K H O v s) : RelSl K H' O v s := by
  cases s with
  | un => trivial
  | sh d => obtain ⟨x, e, q⟩ := r; exact ⟨x, e, q.mono (cut_same h)⟩
  | ow ds => obtain ⟨a, vs, e, m, ha, q⟩ := r; exact ⟨a, vs, e, m, h _ _ ha, q.mono (cut_same h)⟩
  | od ds => obtain ⟨a, vs, e, m, ha, q⟩ := r; exact ⟨a, vs, e, m, h _ _ ha, q.mono (cut_same h)⟩
theorem Rp.mono (h : Same H H') (r : Rp K O e σ H) : Rp K O e σ H' :=
  ⟨fun a m => let ⟨o, e⟩ := r.dom a m; ⟨o, h _ _ e⟩, r.len, fun i s q => let ⟨v, e1, e2⟩ := r.at_ i s q; ⟨v, e1, e2.mono h⟩, r.apart⟩
end
end L2.RB
namespace L2.RB
open PySem PySem.Spec PyProof.Rows
abbrev kw (X : Cx) : KW := ⟨X.K, X.prog, X.w⟩
/-! ### == of plain data -/
mutual
def D.eqv : D → D → Bool
  | .non, e => match e with
    | .non => true
    | _ => false
  | .bl a, e => match e with
    | .bl b => a == b
    | .int j => (if a then 1 else 0) == j
    | _ => false
  | .int i, e => match e with
    | .bl b => i == (if b then 1 else 0)
    | .int j => i == j
    | _ => false
  | .str x, e => match e with
    | .str y => x == y
    | _ => false
  | .tup ds, e => match e with
    | .tup es => D.eqvs ds es
    | _ => false
  | .lst ds, e => match e with
    | .lst es => D.eqvs ds es
    | _ => false
  | .set _, _ => false
  | .dct _, _ => false
  | .exc _, _ => false
  | .scr _, _ => false
  | .obj _ _, _ => false
  | .dcu _, _ => false
def D.eqvs : List D → List D → Bool
  | [], es => es.isEmpty
  | d :: ds, es => match es with
    | [] => false
    | e :: es => D.eqv d e && D.eqvs ds es
end
-- plain, at most so deep
mutual
def D.pl : D → Nat → Bool
  | .tup ds, n => match n with
    | 0 => false
    | n + 1 => D.pls ds n
  | .lst ds, n => match n with
    | 0 => false
    | n + 1 => D.pls ds n
  | .set _, _ => false
  | .dct _, _ => false
  | .exc _, _ => false
  | .scr _, _ => false
  | .obj _ _, _ => false
  | .dcu _, _ => false
  | .non, _ => true
  | .bl _, _ => true
  | .int _, _ => true
  | .str _, _ => true
def D.pls : List D → Nat → Bool
  | [], _ => true
  | d :: ds, n => D.pl d n && D.pls ds n
end
theorem D.pls_at : ∀ {ds : List D} {n i : Nat} {d : D}, D.pls ds n = true → ds[i]? = some d → d.pl n = true
  | [], _, _, _, _, e => by simp at e
  | x :: xs, n, 0, d, h, e => by
    simp at e; subst e
    unfold D.pls at h
    exact (Bool.and_eq_true_iff.mp h).1
  | x :: xs, n, i + 1, d, h, e => by
    unfold D.pls at h
    exact D.pls_at (Bool.and_eq_true_iff.mp h).2 (by simpa using e)
def nthE (ds es : List D) (i : Nat) : Bool := match ds[i]?, es[i]? with
  | some d, some e => D.eqv d e
  | _, _ => false
theorem eqvs_all : ∀ {ds es : List D}, ds.length = es.length → D.eqvs ds es = (List.range ds.length).all (nthE ds es)
  | [], [], _ => rfl
  | [], _ :: _, h => by simp at h
  | _ :: _, [], h => by simp at h
  | d :: ds, e :: es, h => by
    have h' : ds.length = es.length := by simpa using h
    show (D.eqv d e && D.eqvs ds es) = _
    rw [eqvs_all h', List.length_cons, List.range_succ_eq_map, List.all_cons, List.all_map]
    rfl
theorem eqvs_ne : ∀ {ds es : List D}, ds.length ≠ es.length → D.eqvs ds es = false
  | [], [], h => absurd rfl h
  | [], _ :: _, _ => rfl
  | _ :: _, [], _ => rfl
  | d :: ds, e :: es, h => by
    show (D.eqv d e && D.eqvs ds es) = false
    rw [eqvs_ne (ds := ds) (es := es) (by simpa using h), Bool.and_false]
theorem eqvs_tup (ds es : List D) : D.eqvs ds es = ((List.range (min ds.length es.length)).all (nthE ds es) && ds.length == es.length) := by
  by_cases h : ds.length = es.length
  · rw [eqvs_all h, h, Nat.min_self, beq_self_eq_true, Bool.and_true]
  · rw [eqvs_ne h, beq_eq_false_iff_ne.mpr h, Bool.and_false]
section
variable {K : KW} {G : Hp} {v : V}
theorem Rep.tup_inv {ds : List D} (h : Rep K G v (.tup ds)) : ∃ a vs, v = .ref a ∧ SqT K.K G a vs ∧ Reps K G vs ds := by
  cases h with
  | tup s r => exact ⟨_, _, rfl, s, r⟩
theorem Rep.lst_inv {ds : List D} (h : Rep K G v (.lst ds)) : ∃ a vs, v = .ref a ∧ G a = some (.lst vs) ∧ Reps K G vs ds := by
  cases h with
  | lst s r => exact ⟨_, _, rfl, s, r⟩
end
section
variable {X : Cx} {pins : List (Addr × Obj)} {σ : L2.St} {H : Hp} {s : Shared}
mutual
theorem D.eqv_self : ∀ {n : Nat} {d : D}, d.pl n = true → d.eqv d = true
  | _, .non, _ => rfl
  | _, .bl b, _ => by simp [D.eqv]
  | _, .int i, _ => by simp [D.eqv]
  | _, .str x, _ => by simp [D.eqv]
  | 0, .tup ds, h => nomatch h
  | n + 1, .tup ds, h => D.eqvs_self (n := n) h
  | 0, .lst ds, h => nomatch h
  | n + 1, .lst ds, h => D.eqvs_self (n := n) h
  | _, .set _, h => nomatch h
  | _, .dct _, h => nomatch h
  | _, .exc _, h => nomatch h
  | _, .scr _, h => nomatch h
  | _, .obj _ _, h => nomatch h
  | _, .dcu _, h => nomatch h
theorem D.eqvs_self : ∀ {n : Nat} {ds : List D}, D.pls ds n = true → D.eqvs ds ds = true
  | _, [], _ => rfl
  | n, d :: ds, h => by
    unfold D.pls at h
    obtain ⟨h1, h2⟩ := Bool.and_eq_true_iff.mp h
    show (D.eqv d d && D.eqvs ds ds) = true
    rw [D.eqv_self h1, D.eqvs_self h2]
    rfl
end
-- a value is one datum's
mutual
theorem Rep.det (I : Inv X pins σ H s) : ∀ {d e : D} {x : V}, Rep (kw X) H x d → Rep (kw X) H x e → (∃ n, d.pl n = true) → (∃ n, e.pl n = true) → d = e
  | .non, _, _, h, h', _, _ => by cases h; cases h'; rfl
  | .bl _, _, _, h, h', _, _ => by cases h; cases h'; rfl
  | .int _, _, _, h, h', _, _ => by cases h; cases h'; rfl
  | .str _, _, _, h, h', _, _ => by cases h; cases h'; rfl
  | .tup ds, e, x, h, h', ⟨n, p⟩, ⟨m, q⟩ => by
    cases h with
    | tup s1 r1 =>
      cases h' with
      | tup s2 r2 =>
        have e1 := I.tuple_inj s1 s2
        subst e1
        cases n with
        | zero => cases p
        | succ n =>
          cases m with
          | zero => cases q
          | succ m => rw [Reps.det I r1 r2 ⟨n, p⟩ ⟨m, q⟩]
      | lst s2 r2 =>
        obtain ⟨_, _, ⟨o, e1, c1, _⟩, _⟩ := I.tuple s1
        obtain ⟨_, _, ⟨o2, _, e2, c2, _⟩, _⟩ := I.list (.of s2)
        rw [e1] at e2; cases e2
        have z := c1.symm.trans c2
        injection z with z
        exact absurd z (by decide)
      | set _ _ => cases q
      | dK _ _ => cases q
      | dT _ _ => cases q
      | exc _ => cases q
      | obj _ _ => cases q
      | scr _ => cases q
  | .lst ds, e, x, h, h', ⟨n, p⟩, ⟨m, q⟩ => by
    cases h with
    | lst s1 r1 =>
      cases h' with
      | lst s2 r2 =>
        have e1 := I.list_inj (.of s1) (.of s2)
        subst e1
        cases n with
        | zero => cases p
        | succ n =>
          cases m with
          | zero => cases q
          | succ m => rw [Reps.det I r1 r2 ⟨n, p⟩ ⟨m, q⟩]
      | tup s2 r2 =>
        obtain ⟨_, _, ⟨o, e1, c1, _⟩, _⟩ := I.tuple s2
        obtain ⟨_, _, ⟨o2, _, e2, c2, _⟩, _⟩ := I.list (.of s1)
        rw [e1] at e2; cases e2
        have z := c1.symm.trans c2
        injection z with z
        exact absurd z (by decide)
      | set _ _ => cases q
      | dK _ _ => cases q
      | dT _ _ => cases q
      | exc _ => cases q
      | obj _ _ => cases q
      | scr _ => cases q
  | .set _, _, _, _, _, ⟨_, p⟩, _ => nomatch p
  | .dct _, _, _, _, _, ⟨_, p⟩, _ => nomatch p
  | .exc _, _, _, _, _, ⟨_, p⟩, _ => nomatch p
  | .scr _, _, _, _, _, ⟨_, p⟩, _ => nomatch p
  | .obj _ _, _, _, _, _, ⟨_, p⟩, _ => nomatch p
  | .dcu _, _, _, _, _, ⟨_, p⟩, _ => nomatch p
theorem Reps.det (I : Inv X pins σ H s) : ∀ {ds es : List D} {xs : List V}, Reps (kw X) H xs ds → Reps (kw X) H xs es → (∃ n, D.pls ds n = true) → (∃ n, D.pls es n = true) → ds = es
  | [], _, _, h, h', _, _ => by cases h; cases h'; rfl
  | d :: ds, _, _, h, h', ⟨n, p⟩, ⟨m, q⟩ => by
    cases h with
    | cons h1 h2 =>
      cases h' with
      | cons k1 k2 =>
        unfold D.pls at p q
        obtain ⟨p1, p2⟩ := Bool.and_eq_true_iff.mp p
        obtain ⟨q1, q2⟩ := Bool.and_eq_true_iff.mp q
        rw [Rep.det I h1 k1 ⟨n, p1⟩ ⟨m, q1⟩, Reps.det I h2 k2 ⟨n, p2⟩ ⟨m, q2⟩]
end
/-- == of data up to depth n is known -/
def EqN (X : Cx) (s : Shared) (H : Hp) (n : Nat) : Prop := ∀ (d e : D) (x y : V) (u v : Value) (A : Around), d.pl n = true → e.pl n = true → A.units + n < cLine → Rep (kw X) H x d → Rep (kw X) H y e → RelV x u → RelV y v → SeqAt.EqAt A s u v (D.eqv d e)
theorem itemsEq {n : Nat} {ds1 ds2 : List D} {A : Around} {vs1 vs2 : List V} {its1 its2 : List Value} (ih : EqN X s H n) (g1 : D.pls ds1 n = true) (g2 : D.pls ds2 n = true) (hu : A.units + (n + 1) < cLine) (rv1 : Vals vs1 its1) (rv2 : Vals vs2 its2) (q1 : Reps (kw X) H vs1 ds1) (q2 : Reps (kw X) H vs2 ds2) :
    ∀ j (h1 : j < its1.toArray.size) (h2 : j < its2.toArray.size), SeqAt.EqAt A.in1 s its1.toArray[j] its2.toArray[j] (nthE ds1 ds2 j) := fun j h1 h2 => by
  have l1 := rv1.length
  have l2 := rv2.length
  have m1 := q1.length
  have m2 := q2.length
  rw [List.size_toArray] at h1 h2
  have j1 : j < ds1.length := by omega
  have j2 : j < ds2.length := by omega
  have e1 : ds1[j]? = some ds1[j] := List.getElem?_eq_getElem j1
  have e2 : ds2[j]? = some ds2[j] := List.getElem?_eq_getElem j2
  obtain ⟨x1, f1, r1⟩ := q1.get e1
  obtain ⟨x2, f2, r2⟩ := q2.get e2
  obtain ⟨u1, k1, w1⟩ := rv1.get f1
  obtain ⟨u2, k2, w2⟩ := rv2.get f2
  have i1 : its1.toArray[j] = u1 := by
    rw [List.getElem?_eq_getElem h1] at k1
    simpa using k1
  have i2 : its2.toArray[j] = u2 := by
    rw [List.getElem?_eq_getElem h2] at k2
    simpa using k2
  rw [i1, i2]
  unfold nthE
  rw [e1, e2]
  exact ih _ _ _ _ _ _ _ (D.pls_at g1 e1) (D.pls_at g2 e2) (by show A.units + 1 + n < cLine; omega) r1 r2 w1 w2
section
variable {n : Nat} {ds1 ds2 : List D} {A : Around} {a1 a2 : Addr} {vs1 vs2 : List V} {its1 its2 : List Value} (ih : EqN X s H n) (g1 : D.pls ds1 n = true) (g2 : D.pls ds2 n = true) (hu : A.units + (n + 1) < cLine)
  (rv1 : Vals vs1 its1) (rv2 : Vals vs2 its2) (q1 : Reps (kw X) H vs1 ds1) (q2 : Reps (kw X) H vs2 ds2)
include ih g1 g2 hu rv1 rv2 q1 q2
theorem listsRcAt (p1 : PlainL s.heap a1 its1.toArray) (p2 : PlainL s.heap a2 its2.toArray) : SeqAt.RcAt A s (.ref a1) (.ref a2) (D.eqvs ds1 ds2) := by
  have he := itemsEq ih g1 g2 hu rv1 rv2 q1 q2
  have l1 := rv1.length
  have l2 := rv2.length
  have m1 := q1.length
  have m2 := q2.length
  by_cases hl : ds1.length = ds2.length
  · rw [eqvs_all hl]
    have z : ds1.length = its1.toArray.size := by rw [List.size_toArray]; omega
    rw [z]
    exact SeqAt.RcAt.lists p1.isList p2.isList (by rw [List.size_toArray, List.size_toArray]; omega) (by omega) he
  · rw [eqvs_ne hl]
    exact SeqAt.RcAt.lists_lengths p1.isList p2.isList (by rw [List.size_toArray, List.size_toArray]; simp; omega) (by omega)
theorem listsRcNeAt (p1 : PlainL s.heap a1 its1.toArray) (p2 : PlainL s.heap a2 its2.toArray) : SeqAt.RcNeAt A s (.ref a1) (.ref a2) (!D.eqvs ds1 ds2) := by
  have he := itemsEq ih g1 g2 hu rv1 rv2 q1 q2
  have l1 := rv1.length
  have l2 := rv2.length
  have m1 := q1.length
  have m2 := q2.length
  by_cases hl : ds1.length = ds2.length
  · rw [eqvs_all hl]
    have z : ds1.length = its1.toArray.size := by rw [List.size_toArray]; omega
    rw [z]
    exact SeqAt.RcNeAt.lists p1.isList p2.isList (by rw [List.size_toArray, List.size_toArray]; omega) (by omega) he
  · rw [eqvs_ne hl]
    exact SeqAt.RcNeAt.lists_lengths p1.isList p2.isList (by rw [List.size_toArray, List.size_toArray]; simp; omega) (by omega)
theorem tupsRcAt (p1 : IsTup s.heap a1 its1.toArray) (p2 : IsTup s.heap a2 its2.toArray) : SeqAt.RcAt A s (.ref a1) (.ref a2) (D.eqvs ds1 ds2) := by
  have he := itemsEq ih g1 g2 hu rv1 rv2 q1 q2
  have l1 := rv1.length
  have l2 := rv2.length
  have m1 := q1.length
  have m2 := q2.length
  have z1 : ds1.length = its1.toArray.size := by rw [List.size_toArray]; omega
  have z2 : ds2.length = its2.toArray.size := by rw [List.size_toArray]; omega
  rw [eqvs_tup, z1, z2]
  exact SeqAt.RcAt.tuples p1 p2 (by omega) he
theorem tupsRcNeAt (p1 : IsTup s.heap a1 its1.toArray) (p2 : IsTup s.heap a2 its2.toArray) : SeqAt.RcNeAt A s (.ref a1) (.ref a2) (!D.eqvs ds1 ds2) := by
  have he := itemsEq ih g1 g2 hu rv1 rv2 q1 q2
  have l1 := rv1.length
  have l2 := rv2.length
  have m1 := q1.length
  have m2 := q2.length
  have z1 : ds1.length = its1.toArray.size := by rw [List.size_toArray]; omega
  have z2 : ds2.length = its2.toArray.size := by rw [List.size_toArray]; omega
  rw [eqvs_tup, z1, z2]
  exact SeqAt.RcNeAt.tuples p1 p2 (by omega) he
end
theorem rcAt1 {n : Nat} (ih : EqN X s H n) (I : Inv X pins σ H s) : ∀ (d e : D) (x y : V) (u v : Value) (A : Around), d.pl (n + 1) = true → e.pl (n + 1) = true → A.units + (n + 1) < cLine → Rep (kw X) H x d → Rep (kw X) H y e → RelV x u → RelV y v → SeqAt.RcAt A s u v (D.eqv d e)
  | .non, .non, _, _, _, _, A, g1, g2, hu, h1, h2, r1, r2 => by
    cases h1; cases r1
    cases h2; cases r2
    exact SeqAt.RcAt.none_none 
  | .non, .bl b2, _, _, _, _, A, g1, g2, hu, h1, h2, r1, r2 => by
    cases h1; cases r1
    cases h2; cases r2
    exact SeqAt.RcAt.none_bool b2
  | .non, .int i2, _, _, _, _, A, g1, g2, hu, h1, h2, r1, r2 => by
    cases h1; cases r1
    cases h2; obtain ⟨t2, rfl⟩ := r2
    exact SeqAt.RcAt.none_int i2 t2
  | .non, .str x2, _, _, _, _, A, g1, g2, hu, h1, h2, r1, r2 => by
    cases h1; cases r1
    cases h2; obtain ⟨t2, rfl⟩ := r2
    exact SeqAt.RcAt.none_str x2 t2
  | .non, .lst ds2, _, _, _, _, A, g1, g2, hu, h1, h2, r1, r2 => by
    cases h1; cases r1
    obtain ⟨a2, vs2, rfl, s2, q2⟩ := id h2.lst_inv
    cases r2
    obtain ⟨its2, rv2, p2, z2⟩ := I.list (.of s2)
    have hu0 : A.units < cLine := by omega
    exact SeqAt.RcAt.none_list p2.isList hu0
  | .non, .tup ds2, _, _, _, _, A, g1, g2, hu, h1, h2, r1, r2 => by
    cases h1; cases r1
    obtain ⟨a2, vs2, rfl, s2, q2⟩ := id h2.tup_inv
    cases r2
    obtain ⟨its2, rv2, p2, z2⟩ := I.tuple ( s2)
    have hu0 : A.units < cLine := by omega
    exact SeqAt.RcAt.none_tuple p2 hu0
  | .bl b1, .non, _, _, _, _, A, g1, g2, hu, h1, h2, r1, r2 => by
    cases h1; cases r1
    cases h2; cases r2
    exact SeqAt.RcAt.bool_none b1
  | .bl b1, .bl b2, _, _, _, _, A, g1, g2, hu, h1, h2, r1, r2 => by
    cases h1; cases r1
    cases h2; cases r2
    exact SeqAt.RcAt.bool_bool b1 b2
  | .bl b1, .int i2, _, _, _, _, A, g1, g2, hu, h1, h2, r1, r2 => by
    cases h1; cases r1
    cases h2; obtain ⟨t2, rfl⟩ := r2
    exact SeqAt.RcAt.bool_int b1 i2 t2
  | .bl b1, .str x2, _, _, _, _, A, g1, g2, hu, h1, h2, r1, r2 => by
    cases h1; cases r1
    cases h2; obtain ⟨t2, rfl⟩ := r2
    exact SeqAt.RcAt.bool_str b1 x2 t2
  | .bl b1, .lst ds2, _, _, _, _, A, g1, g2, hu, h1, h2, r1, r2 => by
    cases h1; cases r1
    obtain ⟨a2, vs2, rfl, s2, q2⟩ := id h2.lst_inv
    cases r2
    obtain ⟨its2, rv2, p2, z2⟩ := I.list (.of s2)
    have hu0 : A.units < cLine := by omega
    exact SeqAt.RcAt.bool_list b1 p2.isList hu0
  | .bl b1, .tup ds2, _, _, _, _, A, g1, g2, hu, h1, h2, r1, r2 => by
    cases h1; cases r1
    obtain ⟨a2, vs2, rfl, s2, q2⟩ := id h2.tup_inv
    cases r2
    obtain ⟨its2, rv2, p2, z2⟩ := I.tuple ( s2)
    have hu0 : A.units < cLine := by omega
    exact SeqAt.RcAt.bool_tuple b1 p2 hu0
  | .int i1, .non, _, _, _, _, A, g1, g2, hu, h1, h2, r1, r2 => by
    cases h1; obtain ⟨t1, rfl⟩ := r1
    cases h2; cases r2
    exact SeqAt.RcAt.int_none i1 t1
  | .int i1, .bl b2, _, _, _, _, A, g1, g2, hu, h1, h2, r1, r2 => by
    cases h1; obtain ⟨t1, rfl⟩ := r1
    cases h2; cases r2
    exact SeqAt.RcAt.int_bool i1 t1 b2
  | .int i1, .int i2, _, _, _, _, A, g1, g2, hu, h1, h2, r1, r2 => by
    cases h1; obtain ⟨t1, rfl⟩ := r1
    cases h2; obtain ⟨t2, rfl⟩ := r2
    exact SeqAt.RcAt.int_int i1 t1 i2 t2
  | .int i1, .str x2, _, _, _, _, A, g1, g2, hu, h1, h2, r1, r2 => by
    cases h1; obtain ⟨t1, rfl⟩ := r1
    cases h2; obtain ⟨t2, rfl⟩ := r2
    exact SeqAt.RcAt.int_str i1 t1 x2 t2
  | .int i1, .lst ds2, _, _, _, _, A, g1, g2, hu, h1, h2, r1, r2 => by
    cases h1; obtain ⟨t1, rfl⟩ := r1
    obtain ⟨a2, vs2, rfl, s2, q2⟩ := id h2.lst_inv
    cases r2
    obtain ⟨its2, rv2, p2, z2⟩ := I.list (.of s2)
    have hu0 : A.units < cLine := by omega
    exact SeqAt.RcAt.int_list i1 t1 p2.isList hu0
  | .int i1, .tup ds2, _, _, _, _, A, g1, g2, hu, h1, h2, r1, r2 => by
    cases h1; obtain ⟨t1, rfl⟩ := r1
    obtain ⟨a2, vs2, rfl, s2, q2⟩ := id h2.tup_inv
    cases r2
    obtain ⟨its2, rv2, p2, z2⟩ := I.tuple ( s2)
    have hu0 : A.units < cLine := by omega
    exact SeqAt.RcAt.int_tuple i1 t1 p2 hu0
  | .str x1, .non, _, _, _, _, A, g1, g2, hu, h1, h2, r1, r2 => by
    cases h1; obtain ⟨t1, rfl⟩ := r1
    cases h2; cases r2
    exact SeqAt.RcAt.str_none x1 t1
  | .str x1, .bl b2, _, _, _, _, A, g1, g2, hu, h1, h2, r1, r2 => by
    cases h1; obtain ⟨t1, rfl⟩ := r1
    cases h2; cases r2
    exact SeqAt.RcAt.str_bool x1 t1 b2
  | .str x1, .int i2, _, _, _, _, A, g1, g2, hu, h1, h2, r1, r2 => by
    cases h1; obtain ⟨t1, rfl⟩ := r1
    cases h2; obtain ⟨t2, rfl⟩ := r2
    exact SeqAt.RcAt.str_int x1 t1 i2 t2
  | .str x1, .str x2, _, _, _, _, A, g1, g2, hu, h1, h2, r1, r2 => by
    cases h1; obtain ⟨t1, rfl⟩ := r1
    cases h2; obtain ⟨t2, rfl⟩ := r2
    exact SeqAt.RcAt.str_str x1 t1 x2 t2
  | .str x1, .lst ds2, _, _, _, _, A, g1, g2, hu, h1, h2, r1, r2 => by
    cases h1; obtain ⟨t1, rfl⟩ := r1
    obtain ⟨a2, vs2, rfl, s2, q2⟩ := id h2.lst_inv
    cases r2
    obtain ⟨its2, rv2, p2, z2⟩ := I.list (.of s2)
    have hu0 : A.units < cLine := by omega
    exact SeqAt.RcAt.str_list x1 t1 p2.isList hu0
  | .str x1, .tup ds2, _, _, _, _, A, g1, g2, hu, h1, h2, r1, r2 => by
    cases h1; obtain ⟨t1, rfl⟩ := r1
    obtain ⟨a2, vs2, rfl, s2, q2⟩ := id h2.tup_inv
    cases r2
    obtain ⟨its2, rv2, p2, z2⟩ := I.tuple ( s2)
    have hu0 : A.units < cLine := by omega
    exact SeqAt.RcAt.str_tuple x1 t1 p2 hu0
  | .lst ds1, .non, _, _, _, _, A, g1, g2, hu, h1, h2, r1, r2 => by
    obtain ⟨a1, vs1, rfl, s1, q1⟩ := id h1.lst_inv
    cases r1
    obtain ⟨its1, rv1, p1, z1⟩ := I.list (.of s1)
    cases h2; cases r2
    have hu0 : A.units < cLine := by omega
    exact SeqAt.RcAt.list_none p1.isList hu0
  | .lst ds1, .bl b2, _, _, _, _, A, g1, g2, hu, h1, h2, r1, r2 => by
    obtain ⟨a1, vs1, rfl, s1, q1⟩ := id h1.lst_inv
    cases r1
    obtain ⟨its1, rv1, p1, z1⟩ := I.list (.of s1)
    cases h2; cases r2
    have hu0 : A.units < cLine := by omega
    exact SeqAt.RcAt.list_bool b2 p1.isList hu0
  | .lst ds1, .int i2, _, _, _, _, A, g1, g2, hu, h1, h2, r1, r2 => by
    obtain ⟨a1, vs1, rfl, s1, q1⟩ := id h1.lst_inv
    cases r1
    obtain ⟨its1, rv1, p1, z1⟩ := I.list (.of s1)
    cases h2; obtain ⟨t2, rfl⟩ := r2
    have hu0 : A.units < cLine := by omega
    exact SeqAt.RcAt.list_int i2 t2 p1.isList hu0
  | .lst ds1, .str x2, _, _, _, _, A, g1, g2, hu, h1, h2, r1, r2 => by
    obtain ⟨a1, vs1, rfl, s1, q1⟩ := id h1.lst_inv
    cases r1
    obtain ⟨its1, rv1, p1, z1⟩ := I.list (.of s1)
    cases h2; obtain ⟨t2, rfl⟩ := r2
    have hu0 : A.units < cLine := by omega
    exact SeqAt.RcAt.list_str x2 t2 p1.isList hu0
  | .lst ds1, .lst ds2, _, _, _, _, A, g1, g2, hu, h1, h2, r1, r2 => by
    obtain ⟨a1, vs1, rfl, s1, q1⟩ := id h1.lst_inv
    cases r1
    obtain ⟨its1, rv1, p1, z1⟩ := I.list (.of s1)
    obtain ⟨a2, vs2, rfl, s2, q2⟩ := id h2.lst_inv
    cases r2
    obtain ⟨its2, rv2, p2, z2⟩ := I.list (.of s2)
    have hu0 : A.units < cLine := by omega
    exact listsRcAt ih g1 g2 hu rv1 rv2 q1 q2 p1 p2
  | .lst ds1, .tup ds2, _, _, _, _, A, g1, g2, hu, h1, h2, r1, r2 => by
    obtain ⟨a1, vs1, rfl, s1, q1⟩ := id h1.lst_inv
    cases r1
    obtain ⟨its1, rv1, p1, z1⟩ := I.list (.of s1)
    obtain ⟨a2, vs2, rfl, s2, q2⟩ := id h2.tup_inv
    cases r2
    obtain ⟨its2, rv2, p2, z2⟩ := I.tuple ( s2)
    have hu0 : A.units < cLine := by omega
    exact SeqAt.RcAt.list_tuple p1.isList p2 hu0
  | .tup ds1, .non, _, _, _, _, A, g1, g2, hu, h1, h2, r1, r2 => by
    obtain ⟨a1, vs1, rfl, s1, q1⟩ := id h1.tup_inv
    cases r1
    obtain ⟨its1, rv1, p1, z1⟩ := I.tuple ( s1)
    cases h2; cases r2
    have hu0 : A.units < cLine := by omega
    exact SeqAt.RcAt.tuple_none p1 hu0
  | .tup ds1, .bl b2, _, _, _, _, A, g1, g2, hu, h1, h2, r1, r2 => by
    obtain ⟨a1, vs1, rfl, s1, q1⟩ := id h1.tup_inv
    cases r1
    obtain ⟨its1, rv1, p1, z1⟩ := I.tuple ( s1)
    cases h2; cases r2
    have hu0 : A.units < cLine := by omega
    exact SeqAt.RcAt.tuple_bool b2 p1 hu0
  | .tup ds1, .int i2, _, _, _, _, A, g1, g2, hu, h1, h2, r1, r2 => by
    obtain ⟨a1, vs1, rfl, s1, q1⟩ := id h1.tup_inv
    cases r1
    obtain ⟨its1, rv1, p1, z1⟩ := I.tuple ( s1)
    cases h2; obtain ⟨t2, rfl⟩ := r2
    have hu0 : A.units < cLine := by omega
    exact SeqAt.RcAt.tuple_int i2 t2 p1 hu0
  | .tup ds1, .str x2, _, _, _, _, A, g1, g2, hu, h1, h2, r1, r2 => by
    obtain ⟨a1, vs1, rfl, s1, q1⟩ := id h1.tup_inv
    cases r1
    obtain ⟨its1, rv1, p1, z1⟩ := I.tuple ( s1)
    cases h2; obtain ⟨t2, rfl⟩ := r2
    have hu0 : A.units < cLine := by omega
    exact SeqAt.RcAt.tuple_str x2 t2 p1 hu0
  | .tup ds1, .lst ds2, _, _, _, _, A, g1, g2, hu, h1, h2, r1, r2 => by
    obtain ⟨a1, vs1, rfl, s1, q1⟩ := id h1.tup_inv
    cases r1
    obtain ⟨its1, rv1, p1, z1⟩ := I.tuple ( s1)
    obtain ⟨a2, vs2, rfl, s2, q2⟩ := id h2.lst_inv
    cases r2
    obtain ⟨its2, rv2, p2, z2⟩ := I.list (.of s2)
    have hu0 : A.units < cLine := by omega
    exact SeqAt.RcAt.tuple_list p1 p2.isList hu0
  | .tup ds1, .tup ds2, _, _, _, _, A, g1, g2, hu, h1, h2, r1, r2 => by
    obtain ⟨a1, vs1, rfl, s1, q1⟩ := id h1.tup_inv
    cases r1
    obtain ⟨its1, rv1, p1, z1⟩ := I.tuple ( s1)
    obtain ⟨a2, vs2, rfl, s2, q2⟩ := id h2.tup_inv
    cases r2
    obtain ⟨its2, rv2, p2, z2⟩ := I.tuple ( s2)
    have hu0 : A.units < cLine := by omega
    exact tupsRcAt ih g1 g2 hu rv1 rv2 q1 q2 p1 p2
  | .set _, _, _, _, _, _, _, g1, _, _, _, _, _, _ => nomatch g1
  | .dct _, _, _, _, _, _, _, g1, _, _, _, _, _, _ => nomatch g1
  | .exc _, _, _, _, _, _, _, g1, _, _, _, _, _, _ => nomatch g1
  | .scr _, _, _, _, _, _, _, g1, _, _, _, _, _, _ => nomatch g1
  | .obj _ _, _, _, _, _, _, _, g1, _, _, _, _, _, _ => nomatch g1
  | .dcu _, _, _, _, _, _, _, g1, _, _, _, _, _, _ => nomatch g1
  | .non, .obj _ _, _, _, _, _, _, _, g2, _, _, _, _, _ => nomatch g2
  | .non, .dcu _, _, _, _, _, _, _, g2, _, _, _, _, _ => nomatch g2
  | .non, .set _, _, _, _, _, _, _, g2, _, _, _, _, _ => nomatch g2
  | .non, .dct _, _, _, _, _, _, _, g2, _, _, _, _, _ => nomatch g2
  | .non, .exc _, _, _, _, _, _, _, g2, _, _, _, _, _ => nomatch g2
  | .non, .scr _, _, _, _, _, _, _, g2, _, _, _, _, _ => nomatch g2
  | .bl b1, .obj _ _, _, _, _, _, _, _, g2, _, _, _, _, _ => nomatch g2
  | .bl b1, .dcu _, _, _, _, _, _, _, g2, _, _, _, _, _ => nomatch g2
  | .bl b1, .set _, _, _, _, _, _, _, g2, _, _, _, _, _ => nomatch g2
  | .bl b1, .dct _, _, _, _, _, _, _, g2, _, _, _, _, _ => nomatch g2
  | .bl b1, .exc _, _, _, _, _, _, _, g2, _, _, _, _, _ => nomatch g2
  | .bl b1, .scr _, _, _, _, _, _, _, g2, _, _, _, _, _ => nomatch g2
  | .int i1, .obj _ _, _, _, _, _, _, _, g2, _, _, _, _, _ => nomatch g2
  | .int i1, .dcu _, _, _, _, _, _, _, g2, _, _, _, _, _ => nomatch g2
  | .int i1, .set _, _, _, _, _, _, _, g2, _, _, _, _, _ => nomatch g2
  | .int i1, .dct _, _, _, _, _, _, _, g2, _, _, _, _, _ => nomatch g2
  | .int i1, .exc _, _, _, _, _, _, _, g2, _, _, _, _, _ => nomatch g2
  | .int i1, .scr _, _, _, _, _, _, _, g2, _, _, _, _, _ => nomatch g2
  | .str x1, .obj _ _, _, _, _, _, _, _, g2, _, _, _, _, _ => nomatch g2
  | .str x1, .dcu _, _, _, _, _, _, _, g2, _, _, _, _, _ => nomatch g2
  | .str x1, .set _, _, _, _, _, _, _, g2, _, _, _, _, _ => nomatch g2
  | .str x1, .dct _, _, _, _, _, _, _, g2, _, _, _, _, _ => nomatch g2
  | .str x1, .exc _, _, _, _, _, _, _, g2, _, _, _, _, _ => nomatch g2
  | .str x1, .scr _, _, _, _, _, _, _, g2, _, _, _, _, _ => nomatch g2
  | .lst ds1, .obj _ _, _, _, _, _, _, _, g2, _, _, _, _, _ => nomatch g2
  | .lst ds1, .dcu _, _, _, _, _, _, _, g2, _, _, _, _, _ => nomatch g2
  | .lst ds1, .set _, _, _, _, _, _, _, g2, _, _, _, _, _ => nomatch g2
  | .lst ds1, .dct _, _, _, _, _, _, _, g2, _, _, _, _, _ => nomatch g2
  | .lst ds1, .exc _, _, _, _, _, _, _, g2, _, _, _, _, _ => nomatch g2
  | .lst ds1, .scr _, _, _, _, _, _, _, g2, _, _, _, _, _ => nomatch g2
  | .tup ds1, .obj _ _, _, _, _, _, _, _, g2, _, _, _, _, _ => nomatch g2
  | .tup ds1, .dcu _, _, _, _, _, _, _, g2, _, _, _, _, _ => nomatch g2
  | .tup ds1, .set _, _, _, _, _, _, _, g2, _, _, _, _, _ => nomatch g2
  | .tup ds1, .dct _, _, _, _, _, _, _, g2, _, _, _, _, _ => nomatch g2
  | .tup ds1, .exc _, _, _, _, _, _, _, g2, _, _, _, _, _ => nomatch g2
  | .tup ds1, .scr _, _, _, _, _, _, _, g2, _, _, _, _, _ => nomatch g2
theorem rcNe1 {n : Nat} (ih : EqN X s H n) (I : Inv X pins σ H s) : ∀ (d e : D) (x y : V) (u v : Value) (A : Around), d.pl (n + 1) = true → e.pl (n + 1) = true → A.units + (n + 1) < cLine → Rep (kw X) H x d → Rep (kw X) H y e → RelV x u → RelV y v → SeqAt.RcNeAt A s u v (!D.eqv d e)
  | .non, .non, _, _, _, _, A, g1, g2, hu, h1, h2, r1, r2 => by
    cases h1; cases r1
    cases h2; cases r2
    exact SeqAt.RcNeAt.none_none 
  | .non, .bl b2, _, _, _, _, A, g1, g2, hu, h1, h2, r1, r2 => by
    cases h1; cases r1
    cases h2; cases r2
    exact SeqAt.RcNeAt.none_bool b2
  | .non, .int i2, _, _, _, _, A, g1, g2, hu, h1, h2, r1, r2 => by
    cases h1; cases r1
    cases h2; obtain ⟨t2, rfl⟩ := r2
    exact SeqAt.RcNeAt.none_int i2 t2
  | .non, .str x2, _, _, _, _, A, g1, g2, hu, h1, h2, r1, r2 => by
    cases h1; cases r1
    cases h2; obtain ⟨t2, rfl⟩ := r2
    exact SeqAt.RcNeAt.none_str x2 t2
  | .non, .lst ds2, _, _, _, _, A, g1, g2, hu, h1, h2, r1, r2 => by
    cases h1; cases r1
    obtain ⟨a2, vs2, rfl, s2, q2⟩ := id h2.lst_inv
    cases r2
    obtain ⟨its2, rv2, p2, z2⟩ := I.list (.of s2)
    have hu0 : A.units < cLine := by omega
    exact SeqAt.RcNeAt.none_list p2.isList hu0
  | .non, .tup ds2, _, _, _, _, A, g1, g2, hu, h1, h2, r1, r2 => by
    cases h1; cases r1
    obtain ⟨a2, vs2, rfl, s2, q2⟩ := id h2.tup_inv
    cases r2
    obtain ⟨its2, rv2, p2, z2⟩ := I.tuple ( s2)
    have hu0 : A.units < cLine := by omega
    exact SeqAt.RcNeAt.none_tuple p2 hu0
  | .bl b1, .non, _, _, _, _, A, g1, g2, hu, h1, h2, r1, r2 => by
    cases h1; cases r1
    cases h2; cases r2
    exact SeqAt.RcNeAt.bool_none b1
  | .bl b1, .bl b2, _, _, _, _, A, g1, g2, hu, h1, h2, r1, r2 => by
    cases h1; cases r1
    cases h2; cases r2
    exact SeqAt.RcNeAt.bool_bool b1 b2
  | .bl b1, .int i2, _, _, _, _, A, g1, g2, hu, h1, h2, r1, r2 => by
    cases h1; cases r1
    cases h2; obtain ⟨t2, rfl⟩ := r2
    exact SeqAt.RcNeAt.bool_int b1 i2 t2
  | .bl b1, .str x2, _, _, _, _, A, g1, g2, hu, h1, h2, r1, r2 => by
    cases h1; cases r1
    cases h2; obtain ⟨t2, rfl⟩ := r2
    exact SeqAt.RcNeAt.bool_str b1 x2 t2
  | .bl b1, .lst ds2, _, _, _, _, A, g1, g2, hu, h1, h2, r1, r2 => by
    cases h1; cases r1
    obtain ⟨a2, vs2, rfl, s2, q2⟩ := id h2.lst_inv
    cases r2
    obtain ⟨its2, rv2, p2, z2⟩ := I.list (.of s2)
    have hu0 : A.units < cLine := by omega
    exact SeqAt.RcNeAt.bool_list b1 p2.isList hu0
  | .bl b1, .tup ds2, _, _, _, _, A, g1, g2, hu, h1, h2, r1, r2 => by
    cases h1; cases r1
    obtain ⟨a2, vs2, rfl, s2, q2⟩ := id h2.tup_inv
    cases r2
    obtain ⟨its2, rv2, p2, z2⟩ := I.tuple ( s2)
    have hu0 : A.units < cLine := by omega
    exact SeqAt.RcNeAt.bool_tuple b1 p2 hu0
  | .int i1, .non, _, _, _, _, A, g1, g2, hu, h1, h2, r1, r2 => by
    cases h1; obtain ⟨t1, rfl⟩ := r1
    cases h2; cases r2
    exact SeqAt.RcNeAt.int_none i1 t1
  | .int i1, .bl b2, _, _, _, _, A, g1, g2, hu, h1, h2, r1, r2 => by
    cases h1; obtain ⟨t1, rfl⟩ := r1
    cases h2; cases r2
    exact SeqAt.RcNeAt.int_bool i1 t1 b2
  | .int i1, .int i2, _, _, _, _, A, g1, g2, hu, h1, h2, r1, r2 => by
    cases h1; obtain ⟨t1, rfl⟩ := r1
    cases h2; obtain ⟨t2, rfl⟩ := r2
    exact SeqAt.RcNeAt.int_int i1 t1 i2 t2
  | .int i1, .str x2, _, _, _, _, A, g1, g2, hu, h1, h2, r1, r2 => by
    cases h1; obtain ⟨t1, rfl⟩ := r1
    cases h2; obtain ⟨t2, rfl⟩ := r2
    exact SeqAt.RcNeAt.int_str i1 t1 x2 t2
  | .int i1, .lst ds2, _, _, _, _, A, g1, g2, hu, h1, h2, r1, r2 => by
    cases h1; obtain ⟨t1, rfl⟩ := r1
    obtain ⟨a2, vs2, rfl, s2, q2⟩ := id h2.lst_inv
    cases r2
    obtain ⟨its2, rv2, p2, z2⟩ := I.list (.of s2)
    have hu0 : A.units < cLine := by omega
    exact SeqAt.RcNeAt.int_list i1 t1 p2.isList hu0
  | .int i1, .tup ds2, _, _, _, _, A, g1, g2, hu, h1, h2, r1, r2 => by
    cases h1; obtain ⟨t1, rfl⟩ := r1
    obtain ⟨a2, vs2, rfl, s2, q2⟩ := id h2.tup_inv
    cases r2
    obtain ⟨its2, rv2, p2, z2⟩ := I.tuple ( s2)
    have hu0 : A.units < cLine := by omega
    exact SeqAt.RcNeAt.int_tuple i1 t1 p2 hu0
  | .str x1, .non, _, _, _, _, A, g1, g2, hu, h1, h2, r1, r2 => by
    cases h1; obtain ⟨t1, rfl⟩ := r1
    cases h2; cases r2
    exact SeqAt.RcNeAt.str_none x1 t1
  | .str x1, .bl b2, _, _, _, _, A, g1, g2, hu, h1, h2, r1, r2 => by
    cases h1; obtain ⟨t1, rfl⟩ := r1
    cases h2; cases r2
    exact SeqAt.RcNeAt.str_bool x1 t1 b2
  | .str x1, .int i2, _, _, _, _, A, g1, g2, hu, h1, h2, r1, r2 => by
    cases h1; obtain ⟨t1, rfl⟩ := r1
    cases h2; obtain ⟨t2, rfl⟩ := r2
    exact SeqAt.RcNeAt.str_int x1 t1 i2 t2
  | .str x1, .str x2, _, _, _, _, A, g1, g2, hu, h1, h2, r1, r2 => by
    cases h1; obtain ⟨t1, rfl⟩ := r1
    cases h2; obtain ⟨t2, rfl⟩ := r2
    exact SeqAt.RcNeAt.str_str x1 t1 x2 t2
  | .str x1, .lst ds2, _, _, _, _, A, g1, g2, hu, h1, h2, r1, r2 => by
    cases h1; obtain ⟨t1, rfl⟩ := r1
    obtain ⟨a2, vs2, rfl, s2, q2⟩ := id h2.lst_inv
    cases r2
    obtain ⟨its2, rv2, p2, z2⟩ := I.list (.of s2)
    have hu0 : A.units < cLine := by omega
    exact SeqAt.RcNeAt.str_list x1 t1 p2.isList hu0
  | .str x1, .tup ds2, _, _, _, _, A, g1, g2, hu, h1, h2, r1, r2 => by
    cases h1; obtain ⟨t1, rfl⟩ := r1
    obtain ⟨a2, vs2, rfl, s2, q2⟩ := id h2.tup_inv
    cases r2
    obtain ⟨its2, rv2, p2, z2⟩ := I.tuple ( s2)
    have hu0 : A.units < cLine := by omega
    exact SeqAt.RcNeAt.str_tuple x1 t1 p2 hu0
  | .lst ds1, .non, _, _, _, _, A, g1, g2, hu, h1, h2, r1, r2 => by
    obtain ⟨a1, vs1, rfl, s1, q1⟩ := id h1.lst_inv
    cases r1
    obtain ⟨its1, rv1, p1, z1⟩ := I.list (.of s1)
    cases h2; cases r2
    have hu0 : A.units < cLine := by omega
    exact SeqAt.RcNeAt.list_none p1.isList hu0
  | .lst ds1, .bl b2, _, _, _, _, A, g1, g2, hu, h1, h2, r1, r2 => by
    obtain ⟨a1, vs1, rfl, s1, q1⟩ := id h1.lst_inv
    cases r1
    obtain ⟨its1, rv1, p1, z1⟩ := I.list (.of s1)
    cases h2; cases r2
    have hu0 : A.units < cLine := by omega
    exact SeqAt.RcNeAt.list_bool b2 p1.isList hu0
  | .lst ds1, .int i2, _, _, _, _, A, g1, g2, hu, h1, h2, r1, r2 => by
    obtain ⟨a1, vs1, rfl, s1, q1⟩ := id h1.lst_inv
    cases r1
    obtain ⟨its1, rv1, p1, z1⟩ := I.list (.of s1)
    cases h2; obtain ⟨t2, rfl⟩ := r2
    have hu0 : A.units < cLine := by omega
    exact SeqAt.RcNeAt.list_int i2 t2 p1.isList hu0
  | .lst ds1, .str x2, _, _, _, _, A, g1, g2, hu, h1, h2, r1, r2 => by
    obtain ⟨a1, vs1, rfl, s1, q1⟩ := id h1.lst_inv
    cases r1
    obtain ⟨its1, rv1, p1, z1⟩ := I.list (.of s1)
    cases h2; obtain ⟨t2, rfl⟩ := r2
    have hu0 : A.units < cLine := by omega
    exact SeqAt.RcNeAt.list_str x2 t2 p1.isList hu0
  | .lst ds1, .lst ds2, _, _, _, _, A, g1, g2, hu, h1, h2, r1, r2 => by
    obtain ⟨a1, vs1, rfl, s1, q1⟩ := id h1.lst_inv
    cases r1
    obtain ⟨its1, rv1, p1, z1⟩ := I.list (.of s1)
    obtain ⟨a2, vs2, rfl, s2, q2⟩ := id h2.lst_inv
    cases r2
    obtain ⟨its2, rv2, p2, z2⟩ := I.list (.of s2)
    have hu0 : A.units < cLine := by omega
    exact listsRcNeAt ih g1 g2 hu rv1 rv2 q1 q2 p1 p2
  | .lst ds1, .tup ds2, _, _, _, _, A, g1, g2, hu, h1, h2, r1, r2 => by
    obtain ⟨a1, vs1, rfl, s1, q1⟩ := id h1.lst_inv
    cases r1
    obtain ⟨its1, rv1, p1, z1⟩ := I.list (.of s1)
    obtain ⟨a2, vs2, rfl, s2, q2⟩ := id h2.tup_inv
    cases r2
    obtain ⟨its2, rv2, p2, z2⟩ := I.tuple ( s2)
    have hu0 : A.units < cLine := by omega
    exact SeqAt.RcNeAt.list_tuple p1.isList p2 hu0
  | .tup ds1, .non, _, _, _, _, A, g1, g2, hu, h1, h2, r1, r2 => by
    obtain ⟨a1, vs1, rfl, s1, q1⟩ := id h1.tup_inv
    cases r1
    obtain ⟨its1, rv1, p1, z1⟩ := I.tuple ( s1)
    cases h2; cases r2
    have hu0 : A.units < cLine := by omega
    exact SeqAt.RcNeAt.tuple_none p1 hu0
  | .tup ds1, .bl b2, _, _, _, _, A, g1, g2, hu, h1, h2, r1, r2 => by
    obtain ⟨a1, vs1, rfl, s1, q1⟩ := id h1.tup_inv
    cases r1
    obtain ⟨its1, rv1, p1, z1⟩ := I.tuple ( s1)
    cases h2; cases r2
    have hu0 : A.units < cLine := by omega
    exact SeqAt.RcNeAt.tuple_bool b2 p1 hu0
  | .tup ds1, .int i2, _, _, _, _, A, g1, g2, hu, h1, h2, r1, r2 => by
    obtain ⟨a1, vs1, rfl, s1, q1⟩ := id h1.tup_inv
    cases r1
    obtain ⟨its1, rv1, p1, z1⟩ := I.tuple ( s1)
    cases h2; obtain ⟨t2, rfl⟩ := r2
    have hu0 : A.units < cLine := by omega
    exact SeqAt.RcNeAt.tuple_int i2 t2 p1 hu0
  | .tup ds1, .str x2, _, _, _, _, A, g1, g2, hu, h1, h2, r1, r2 => by
    obtain ⟨a1, vs1, rfl, s1, q1⟩ := id h1.tup_inv
    cases r1
    obtain ⟨its1, rv1, p1, z1⟩ := I.tuple ( s1)
    cases h2; obtain ⟨t2, rfl⟩ := r2
    have hu0 : A.units < cLine := by omega
    exact SeqAt.RcNeAt.tuple_str x2 t2 p1 hu0
  | .tup ds1, .lst ds2, _, _, _, _, A, g1, g2, hu, h1, h2, r1, r2 => by
    obtain ⟨a1, vs1, rfl, s1, q1⟩ := id h1.tup_inv
    cases r1
    obtain ⟨its1, rv1, p1, z1⟩ := I.tuple ( s1)
    obtain ⟨a2, vs2, rfl, s2, q2⟩ := id h2.lst_inv
    cases r2
    obtain ⟨its2, rv2, p2, z2⟩ := I.list (.of s2)
    have hu0 : A.units < cLine := by omega
    exact SeqAt.RcNeAt.tuple_list p1 p2.isList hu0
  | .tup ds1, .tup ds2, _, _, _, _, A, g1, g2, hu, h1, h2, r1, r2 => by
    obtain ⟨a1, vs1, rfl, s1, q1⟩ := id h1.tup_inv
    cases r1
    obtain ⟨its1, rv1, p1, z1⟩ := I.tuple ( s1)
    obtain ⟨a2, vs2, rfl, s2, q2⟩ := id h2.tup_inv
    cases r2
    obtain ⟨its2, rv2, p2, z2⟩ := I.tuple ( s2)
    have hu0 : A.units < cLine := by omega
    exact tupsRcNeAt ih g1 g2 hu rv1 rv2 q1 q2 p1 p2
  | .set _, _, _, _, _, _, _, g1, _, _, _, _, _, _ => nomatch g1
  | .dct _, _, _, _, _, _, _, g1, _, _, _, _, _, _ => nomatch g1
  | .exc _, _, _, _, _, _, _, g1, _, _, _, _, _, _ => nomatch g1
  | .scr _, _, _, _, _, _, _, g1, _, _, _, _, _, _ => nomatch g1
  | .obj _ _, _, _, _, _, _, _, g1, _, _, _, _, _, _ => nomatch g1
  | .dcu _, _, _, _, _, _, _, g1, _, _, _, _, _, _ => nomatch g1
  | .non, .obj _ _, _, _, _, _, _, _, g2, _, _, _, _, _ => nomatch g2
  | .non, .dcu _, _, _, _, _, _, _, g2, _, _, _, _, _ => nomatch g2
  | .non, .set _, _, _, _, _, _, _, g2, _, _, _, _, _ => nomatch g2
  | .non, .dct _, _, _, _, _, _, _, g2, _, _, _, _, _ => nomatch g2
  | .non, .exc _, _, _, _, _, _, _, g2, _, _, _, _, _ => nomatch g2
  | .non, .scr _, _, _, _, _, _, _, g2, _, _, _, _, _ => nomatch g2
  | .bl b1, .obj _ _, _, _, _, _, _, _, g2, _, _, _, _, _ => nomatch g2
  | .bl b1, .dcu _, _, _, _, _, _, _, g2, _, _, _, _, _ => nomatch g2
  | .bl b1, .set _, _, _, _, _, _, _, g2, _, _, _, _, _ => nomatch g2
  | .bl b1, .dct _, _, _, _, _, _, _, g2, _, _, _, _, _ => nomatch g2
  | .bl b1, .exc _, _, _, _, _, _, _, g2, _, _, _, _, _ => nomatch g2
  | .bl b1, .scr _, _, _, _, _, _, _, g2, _, _, _, _, _ => nomatch g2
  | .int i1, .obj _ _, _, _, _, _, _, _, g2, _, _, _, _, _ => nomatch g2
  | .int i1, .dcu _, _, _, _, _, _, _, g2, _, _, _, _, _ => nomatch g2
  | .int i1, .set _, _, _, _, _, _, _, g2, _, _, _, _, _ => nomatch g2
  | .int i1, .dct _, _, _, _, _, _, _, g2, _, _, _, _, _ => nomatch g2
  | .int i1, .exc _, _, _, _, _, _, _, g2, _, _, _, _, _ => nomatch g2
  | .int i1, .scr _, _, _, _, _, _, _, g2, _, _, _, _, _ => nomatch g2
  | .str x1, .obj _ _, _, _, _, _, _, _, g2, _, _, _, _, _ => nomatch g2
  | .str x1, .dcu _, _, _, _, _, _, _, g2, _, _, _, _, _ => nomatch g2
  | .str x1, .set _, _, _, _, _, _, _, g2, _, _, _, _, _ => nomatch g2
  | .str x1, .dct _, _, _, _, _, _, _, g2, _, _, _, _, _ => nomatch g2
  | .str x1, .exc _, _, _, _, _, _, _, g2, _, _, _, _, _ => nomatch g2
  | .str x1, .scr _, _, _, _, _, _, _, g2, _, _, _, _, _ => nomatch g2
  | .lst ds1, .obj _ _, _, _, _, _, _, _, g2, _, _, _, _, _ => nomatch g2
  | .lst ds1, .dcu _, _, _, _, _, _, _, g2, _, _, _, _, _ => nomatch g2
  | .lst ds1, .set _, _, _, _, _, _, _, g2, _, _, _, _, _ => nomatch g2
  | .lst ds1, .dct _, _, _, _, _, _, _, g2, _, _, _, _, _ => nomatch g2
  | .lst ds1, .exc _, _, _, _, _, _, _, g2, _, _, _, _, _ => nomatch g2
  | .lst ds1, .scr _, _, _, _, _, _, _, g2, _, _, _, _, _ => nomatch g2
  | .tup ds1, .obj _ _, _, _, _, _, _, _, g2, _, _, _, _, _ => nomatch g2
  | .tup ds1, .dcu _, _, _, _, _, _, _, g2, _, _, _, _, _ => nomatch g2
  | .tup ds1, .set _, _, _, _, _, _, _, g2, _, _, _, _, _ => nomatch g2
  | .tup ds1, .dct _, _, _, _, _, _, _, g2, _, _, _, _, _ => nomatch g2
  | .tup ds1, .exc _, _, _, _, _, _, _, g2, _, _, _, _, _ => nomatch g2
  | .tup ds1, .scr _, _, _, _, _, _, _, g2, _, _, _, _, _ => nomatch g2
theorem pl_up : ∀ (n : Nat) (d : D), d.pl n = true → d.pl (n + 1) = true := by
  have h : ∀ (n : Nat), (∀ d : D, d.pl n = true → d.pl (n + 1) = true) ∧ ∀ ds : List D, D.pls ds n = true → D.pls ds (n + 1) = true := by
    intro n
    induction n with
    | zero =>
      have a : ∀ d : D, d.pl 0 = true → d.pl 1 = true := fun d g => by
        cases d <;> first | rfl | exact nomatch g
      refine ⟨a, fun ds => ?_⟩
      induction ds with
      | nil => intro _; rfl
      | cons d ds ih =>
        intro g
        unfold D.pls at g ⊢
        obtain ⟨g1, g2⟩ := Bool.and_eq_true_iff.mp g
        rw [a d g1, ih g2]
        rfl
    | succ n ih =>
      have a : ∀ d : D, d.pl (n + 1) = true → d.pl (n + 1 + 1) = true := fun d g => by
        cases d with
        | tup ds => exact ih.2 ds g
        | lst ds => exact ih.2 ds g
        | _ => first | rfl | exact nomatch g
      refine ⟨a, fun ds => ?_⟩
      induction ds with
      | nil => intro _; rfl
      | cons d ds ih =>
        intro g
        unfold D.pls at g ⊢
        obtain ⟨g1, g2⟩ := Bool.and_eq_true_iff.mp g
        rw [a d g1, ih g2]
        rfl
  exact fun n => (h n).1
theorem eqAt_of_rc (I : Inv X pins σ H s) {n : Nat} {d e : D} {a b : Addr} {A : Around} (g1 : d.pl n = true) (g2 : e.pl n = true) (h1 : Rep (kw X) H (.ref a) d) (h2 : Rep (kw X) H (.ref b) e)
    (h : SeqAt.RcAt A s (.ref a) (.ref b) (D.eqv d e)) : SeqAt.EqAt A s (.ref a) (.ref b) (D.eqv d e) := by
  by_cases q : a = b
  · subst q
    rw [Rep.det I h1 h2 ⟨n, g1⟩ ⟨n, g2⟩, D.eqv_self g2]
    exact SeqAt.EqAt.same _
  · exact SeqAt.EqAt.of_refs q h
theorem eqAt1 {n : Nat} (ih : EqN X s H n) (I : Inv X pins σ H s) : ∀ (d e : D) (x y : V) (u v : Value) (A : Around), d.pl (n + 1) = true → e.pl (n + 1) = true → A.units + (n + 1) < cLine → Rep (kw X) H x d → Rep (kw X) H y e → RelV x u → RelV y v → SeqAt.EqAt A s u v (D.eqv d e)
  | .non, .non, _, _, _, _, A, g1, g2, hu, h1, h2, r1, r2 => by
    cases h1; cases r1
    cases h2; cases r2
    exact SeqAt.EqAt.same _
  | .non, .bl b2, _, _, _, _, A, g1, g2, hu, h1, h2, r1, r2 => by
    cases h1; cases r1
    cases h2; cases r2
    exact SeqAt.EqAt.none_bool b2
  | .non, .int i2, _, _, _, _, A, g1, g2, hu, h1, h2, r1, r2 => by
    cases h1; cases r1
    cases h2; obtain ⟨t2, rfl⟩ := r2
    exact SeqAt.EqAt.none_int i2 t2
  | .non, .str x2, _, _, _, _, A, g1, g2, hu, h1, h2, r1, r2 => by
    cases h1; cases r1
    cases h2; obtain ⟨t2, rfl⟩ := r2
    exact SeqAt.EqAt.none_str x2 t2
  | .non, .lst ds2, _, _, _, _, A, g1, g2, hu, h1, h2, r1, r2 => by
    cases h1; cases r1
    obtain ⟨a2, vs2, rfl, s2, q2⟩ := id h2.lst_inv
    cases r2
    obtain ⟨its2, rv2, p2, z2⟩ := I.list (.of s2)
    have hu0 : A.units < cLine := by omega
    exact SeqAt.EqAt.none_list p2.isList hu0
  | .non, .tup ds2, _, _, _, _, A, g1, g2, hu, h1, h2, r1, r2 => by
    cases h1; cases r1
    obtain ⟨a2, vs2, rfl, s2, q2⟩ := id h2.tup_inv
    cases r2
    obtain ⟨its2, rv2, p2, z2⟩ := I.tuple ( s2)
    have hu0 : A.units < cLine := by omega
    exact SeqAt.EqAt.none_tuple p2 hu0
  | .bl b1, .non, _, _, _, _, A, g1, g2, hu, h1, h2, r1, r2 => by
    cases h1; cases r1
    cases h2; cases r2
    exact SeqAt.EqAt.bool_none b1
  | .bl b1, .bl b2, _, _, _, _, A, g1, g2, hu, h1, h2, r1, r2 => by
    cases h1; cases r1
    cases h2; cases r2
    exact SeqAt.EqAt.bool_bool b1 b2
  | .bl b1, .int i2, _, _, _, _, A, g1, g2, hu, h1, h2, r1, r2 => by
    cases h1; cases r1
    cases h2; obtain ⟨t2, rfl⟩ := r2
    exact SeqAt.EqAt.bool_int b1 i2 t2
  | .bl b1, .str x2, _, _, _, _, A, g1, g2, hu, h1, h2, r1, r2 => by
    cases h1; cases r1
    cases h2; obtain ⟨t2, rfl⟩ := r2
    exact SeqAt.EqAt.bool_str b1 x2 t2
  | .bl b1, .lst ds2, _, _, _, _, A, g1, g2, hu, h1, h2, r1, r2 => by
    cases h1; cases r1
    obtain ⟨a2, vs2, rfl, s2, q2⟩ := id h2.lst_inv
    cases r2
    obtain ⟨its2, rv2, p2, z2⟩ := I.list (.of s2)
    have hu0 : A.units < cLine := by omega
    exact SeqAt.EqAt.bool_list b1 p2.isList hu0
  | .bl b1, .tup ds2, _, _, _, _, A, g1, g2, hu, h1, h2, r1, r2 => by
    cases h1; cases r1
    obtain ⟨a2, vs2, rfl, s2, q2⟩ := id h2.tup_inv
    cases r2
    obtain ⟨its2, rv2, p2, z2⟩ := I.tuple ( s2)
    have hu0 : A.units < cLine := by omega
    exact SeqAt.EqAt.bool_tuple b1 p2 hu0
  | .int i1, .non, _, _, _, _, A, g1, g2, hu, h1, h2, r1, r2 => by
    cases h1; obtain ⟨t1, rfl⟩ := r1
    cases h2; cases r2
    exact SeqAt.EqAt.int_none i1 t1
  | .int i1, .bl b2, _, _, _, _, A, g1, g2, hu, h1, h2, r1, r2 => by
    cases h1; obtain ⟨t1, rfl⟩ := r1
    cases h2; cases r2
    exact SeqAt.EqAt.int_bool i1 t1 b2
  | .int i1, .int i2, _, _, _, _, A, g1, g2, hu, h1, h2, r1, r2 => by
    cases h1; obtain ⟨t1, rfl⟩ := r1
    cases h2; obtain ⟨t2, rfl⟩ := r2
    exact SeqAt.EqAt.int_int i1 t1 i2 t2
  | .int i1, .str x2, _, _, _, _, A, g1, g2, hu, h1, h2, r1, r2 => by
    cases h1; obtain ⟨t1, rfl⟩ := r1
    cases h2; obtain ⟨t2, rfl⟩ := r2
    exact SeqAt.EqAt.int_str i1 t1 x2 t2
  | .int i1, .lst ds2, _, _, _, _, A, g1, g2, hu, h1, h2, r1, r2 => by
    cases h1; obtain ⟨t1, rfl⟩ := r1
    obtain ⟨a2, vs2, rfl, s2, q2⟩ := id h2.lst_inv
    cases r2
    obtain ⟨its2, rv2, p2, z2⟩ := I.list (.of s2)
    have hu0 : A.units < cLine := by omega
    exact SeqAt.EqAt.int_list i1 t1 p2.isList hu0
  | .int i1, .tup ds2, _, _, _, _, A, g1, g2, hu, h1, h2, r1, r2 => by
    cases h1; obtain ⟨t1, rfl⟩ := r1
    obtain ⟨a2, vs2, rfl, s2, q2⟩ := id h2.tup_inv
    cases r2
    obtain ⟨its2, rv2, p2, z2⟩ := I.tuple ( s2)
    have hu0 : A.units < cLine := by omega
    exact SeqAt.EqAt.int_tuple i1 t1 p2 hu0
  | .str x1, .non, _, _, _, _, A, g1, g2, hu, h1, h2, r1, r2 => by
    cases h1; obtain ⟨t1, rfl⟩ := r1
    cases h2; cases r2
    exact SeqAt.EqAt.str_none x1 t1
  | .str x1, .bl b2, _, _, _, _, A, g1, g2, hu, h1, h2, r1, r2 => by
    cases h1; obtain ⟨t1, rfl⟩ := r1
    cases h2; cases r2
    exact SeqAt.EqAt.str_bool x1 t1 b2
  | .str x1, .int i2, _, _, _, _, A, g1, g2, hu, h1, h2, r1, r2 => by
    cases h1; obtain ⟨t1, rfl⟩ := r1
    cases h2; obtain ⟨t2, rfl⟩ := r2
    exact SeqAt.EqAt.str_int x1 t1 i2 t2
  | .str x1, .str x2, _, _, _, _, A, g1, g2, hu, h1, h2, r1, r2 => by
    cases h1; obtain ⟨t1, rfl⟩ := r1
    cases h2; obtain ⟨t2, rfl⟩ := r2
    exact SeqAt.EqAt.str_str x1 t1 x2 t2
  | .str x1, .lst ds2, _, _, _, _, A, g1, g2, hu, h1, h2, r1, r2 => by
    cases h1; obtain ⟨t1, rfl⟩ := r1
    obtain ⟨a2, vs2, rfl, s2, q2⟩ := id h2.lst_inv
    cases r2
    obtain ⟨its2, rv2, p2, z2⟩ := I.list (.of s2)
    have hu0 : A.units < cLine := by omega
    exact SeqAt.EqAt.str_list x1 t1 p2.isList hu0
  | .str x1, .tup ds2, _, _, _, _, A, g1, g2, hu, h1, h2, r1, r2 => by
    cases h1; obtain ⟨t1, rfl⟩ := r1
    obtain ⟨a2, vs2, rfl, s2, q2⟩ := id h2.tup_inv
    cases r2
    obtain ⟨its2, rv2, p2, z2⟩ := I.tuple ( s2)
    have hu0 : A.units < cLine := by omega
    exact SeqAt.EqAt.str_tuple x1 t1 p2 hu0
  | .lst ds1, .non, _, _, _, _, A, g1, g2, hu, h1, h2, r1, r2 => by
    obtain ⟨a1, vs1, rfl, s1, q1⟩ := id h1.lst_inv
    cases r1
    obtain ⟨its1, rv1, p1, z1⟩ := I.list (.of s1)
    cases h2; cases r2
    have hu0 : A.units < cLine := by omega
    exact SeqAt.EqAt.list_none p1.isList hu0
  | .lst ds1, .bl b2, _, _, _, _, A, g1, g2, hu, h1, h2, r1, r2 => by
    obtain ⟨a1, vs1, rfl, s1, q1⟩ := id h1.lst_inv
    cases r1
    obtain ⟨its1, rv1, p1, z1⟩ := I.list (.of s1)
    cases h2; cases r2
    have hu0 : A.units < cLine := by omega
    exact SeqAt.EqAt.list_bool b2 p1.isList hu0
  | .lst ds1, .int i2, _, _, _, _, A, g1, g2, hu, h1, h2, r1, r2 => by
    obtain ⟨a1, vs1, rfl, s1, q1⟩ := id h1.lst_inv
    cases r1
    obtain ⟨its1, rv1, p1, z1⟩ := I.list (.of s1)
    cases h2; obtain ⟨t2, rfl⟩ := r2
    have hu0 : A.units < cLine := by omega
    exact SeqAt.EqAt.list_int i2 t2 p1.isList hu0
  | .lst ds1, .str x2, _, _, _, _, A, g1, g2, hu, h1, h2, r1, r2 => by
    obtain ⟨a1, vs1, rfl, s1, q1⟩ := id h1.lst_inv
    cases r1
    obtain ⟨its1, rv1, p1, z1⟩ := I.list (.of s1)
    cases h2; obtain ⟨t2, rfl⟩ := r2
    have hu0 : A.units < cLine := by omega
    exact SeqAt.EqAt.list_str x2 t2 p1.isList hu0
  | .lst ds1, .lst ds2, _, _, _, _, A, g1, g2, hu, h1, h2, r1, r2 => by
    obtain ⟨a1, vs1, rfl, s1, q1⟩ := id h1.lst_inv
    cases r1
    obtain ⟨its1, rv1, p1, z1⟩ := I.list (.of s1)
    obtain ⟨a2, vs2, rfl, s2, q2⟩ := id h2.lst_inv
    cases r2
    obtain ⟨its2, rv2, p2, z2⟩ := I.list (.of s2)
    have hu0 : A.units < cLine := by omega
    exact eqAt_of_rc I g1 g2 h1 h2 (listsRcAt ih g1 g2 hu rv1 rv2 q1 q2 p1 p2)
  | .lst ds1, .tup ds2, _, _, _, _, A, g1, g2, hu, h1, h2, r1, r2 => by
    obtain ⟨a1, vs1, rfl, s1, q1⟩ := id h1.lst_inv
    cases r1
    obtain ⟨its1, rv1, p1, z1⟩ := I.list (.of s1)
    obtain ⟨a2, vs2, rfl, s2, q2⟩ := id h2.tup_inv
    cases r2
    obtain ⟨its2, rv2, p2, z2⟩ := I.tuple ( s2)
    have hu0 : A.units < cLine := by omega
    exact SeqAt.EqAt.list_tuple p1.isList p2 hu0
  | .tup ds1, .non, _, _, _, _, A, g1, g2, hu, h1, h2, r1, r2 => by
    obtain ⟨a1, vs1, rfl, s1, q1⟩ := id h1.tup_inv
    cases r1
    obtain ⟨its1, rv1, p1, z1⟩ := I.tuple ( s1)
    cases h2; cases r2
    have hu0 : A.units < cLine := by omega
    exact SeqAt.EqAt.tuple_none p1 hu0
  | .tup ds1, .bl b2, _, _, _, _, A, g1, g2, hu, h1, h2, r1, r2 => by
    obtain ⟨a1, vs1, rfl, s1, q1⟩ := id h1.tup_inv
    cases r1
    obtain ⟨its1, rv1, p1, z1⟩ := I.tuple ( s1)
    cases h2; cases r2
    have hu0 : A.units < cLine := by omega
    exact SeqAt.EqAt.tuple_bool b2 p1 hu0
  | .tup ds1, .int i2, _, _, _, _, A, g1, g2, hu, h1, h2, r1, r2 => by
    obtain ⟨a1, vs1, rfl, s1, q1⟩ := id h1.tup_inv
    cases r1
    obtain ⟨its1, rv1, p1, z1⟩ := I.tuple ( s1)
    cases h2; obtain ⟨t2, rfl⟩ := r2
    have hu0 : A.units < cLine := by omega
    exact SeqAt.EqAt.tuple_int i2 t2 p1 hu0
  | .tup ds1, .str x2, _, _, _, _, A, g1, g2, hu, h1, h2, r1, r2 => by
    obtain ⟨a1, vs1, rfl, s1, q1⟩ := id h1.tup_inv
    cases r1
    obtain ⟨its1, rv1, p1, z1⟩ := I.tuple ( s1)
    cases h2; obtain ⟨t2, rfl⟩ := r2
    have hu0 : A.units < cLine := by omega
    exact SeqAt.EqAt.tuple_str x2 t2 p1 hu0
  | .tup ds1, .lst ds2, _, _, _, _, A, g1, g2, hu, h1, h2, r1, r2 => by
    obtain ⟨a1, vs1, rfl, s1, q1⟩ := id h1.tup_inv
    cases r1
    obtain ⟨its1, rv1, p1, z1⟩ := I.tuple ( s1)
    obtain ⟨a2, vs2, rfl, s2, q2⟩ := id h2.lst_inv
    cases r2
    obtain ⟨its2, rv2, p2, z2⟩ := I.list (.of s2)
    have hu0 : A.units < cLine := by omega
    exact SeqAt.EqAt.tuple_list p1 p2.isList hu0
  | .tup ds1, .tup ds2, _, _, _, _, A, g1, g2, hu, h1, h2, r1, r2 => by
    obtain ⟨a1, vs1, rfl, s1, q1⟩ := id h1.tup_inv
    cases r1
    obtain ⟨its1, rv1, p1, z1⟩ := I.tuple ( s1)
    obtain ⟨a2, vs2, rfl, s2, q2⟩ := id h2.tup_inv
    cases r2
    obtain ⟨its2, rv2, p2, z2⟩ := I.tuple ( s2)
    have hu0 : A.units < cLine := by omega
    exact eqAt_of_rc I g1 g2 h1 h2 (tupsRcAt ih g1 g2 hu rv1 rv2 q1 q2 p1 p2)
  | .set _, _, _, _, _, _, _, g1, _, _, _, _, _, _ => nomatch g1
  | .dct _, _, _, _, _, _, _, g1, _, _, _, _, _, _ => nomatch g1
  | .exc _, _, _, _, _, _, _, g1, _, _, _, _, _, _ => nomatch g1
  | .scr _, _, _, _, _, _, _, g1, _, _, _, _, _, _ => nomatch g1
  | .obj _ _, _, _, _, _, _, _, g1, _, _, _, _, _, _ => nomatch g1
  | .dcu _, _, _, _, _, _, _, g1, _, _, _, _, _, _ => nomatch g1
  | .non, .obj _ _, _, _, _, _, _, _, g2, _, _, _, _, _ => nomatch g2
  | .non, .dcu _, _, _, _, _, _, _, g2, _, _, _, _, _ => nomatch g2
  | .non, .set _, _, _, _, _, _, _, g2, _, _, _, _, _ => nomatch g2
  | .non, .dct _, _, _, _, _, _, _, g2, _, _, _, _, _ => nomatch g2
  | .non, .exc _, _, _, _, _, _, _, g2, _, _, _, _, _ => nomatch g2
  | .non, .scr _, _, _, _, _, _, _, g2, _, _, _, _, _ => nomatch g2
  | .bl b1, .obj _ _, _, _, _, _, _, _, g2, _, _, _, _, _ => nomatch g2
  | .bl b1, .dcu _, _, _, _, _, _, _, g2, _, _, _, _, _ => nomatch g2
  | .bl b1, .set _, _, _, _, _, _, _, g2, _, _, _, _, _ => nomatch g2
  | .bl b1, .dct _, _, _, _, _, _, _, g2, _, _, _, _, _ => nomatch g2
  | .bl b1, .exc _, _, _, _, _, _, _, g2, _, _, _, _, _ => nomatch g2
  | .bl b1, .scr _, _, _, _, _, _, _, g2, _, _, _, _, _ => nomatch g2
  | .int i1, .obj _ _, _, _, _, _, _, _, g2, _, _, _, _, _ => nomatch g2
  | .int i1, .dcu _, _, _, _, _, _, _, g2, _, _, _, _, _ => nomatch g2
  | .int i1, .set _, _, _, _, _, _, _, g2, _, _, _, _, _ => nomatch g2
  | .int i1, .dct _, _, _, _, _, _, _, g2, _, _, _, _, _ => nomatch g2
  | .int i1, .exc _, _, _, _, _, _, _, g2, _, _, _, _, _ => nomatch g2
  | .int i1, .scr _, _, _, _, _, _, _, g2, _, _, _, _, _ => nomatch g2
  | .str x1, .obj _ _, _, _, _, _, _, _, g2, _, _, _, _, _ => nomatch g2
  | .str x1, .dcu _, _, _, _, _, _, _, g2, _, _, _, _, _ => nomatch g2
  | .str x1, .set _, _, _, _, _, _, _, g2, _, _, _, _, _ => nomatch g2
  | .str x1, .dct _, _, _, _, _, _, _, g2, _, _, _, _, _ => nomatch g2
  | .str x1, .exc _, _, _, _, _, _, _, g2, _, _, _, _, _ => nomatch g2
  | .str x1, .scr _, _, _, _, _, _, _, g2, _, _, _, _, _ => nomatch g2
  | .lst ds1, .obj _ _, _, _, _, _, _, _, g2, _, _, _, _, _ => nomatch g2
  | .lst ds1, .dcu _, _, _, _, _, _, _, g2, _, _, _, _, _ => nomatch g2
  | .lst ds1, .set _, _, _, _, _, _, _, g2, _, _, _, _, _ => nomatch g2
  | .lst ds1, .dct _, _, _, _, _, _, _, g2, _, _, _, _, _ => nomatch g2
  | .lst ds1, .exc _, _, _, _, _, _, _, g2, _, _, _, _, _ => nomatch g2
  | .lst ds1, .scr _, _, _, _, _, _, _, g2, _, _, _, _, _ => nomatch g2
  | .tup ds1, .obj _ _, _, _, _, _, _, _, g2, _, _, _, _, _ => nomatch g2
  | .tup ds1, .dcu _, _, _, _, _, _, _, g2, _, _, _, _, _ => nomatch g2
  | .tup ds1, .set _, _, _, _, _, _, _, g2, _, _, _, _, _ => nomatch g2
  | .tup ds1, .dct _, _, _, _, _, _, _, g2, _, _, _, _, _ => nomatch g2
  | .tup ds1, .exc _, _, _, _, _, _, _, g2, _, _, _, _, _ => nomatch g2
  | .tup ds1, .scr _, _, _, _, _, _, _, g2, _, _, _, _, _ => nomatch g2
theorem eqN_all (I : Inv X pins σ H s) : ∀ n, EqN X s H n
  | 0 => fun d e x y u v A g1 g2 hu h1 h2 r1 r2 => by
    have fl : ∀ {d : D}, d.pl 0 = true → d = .non ∨ (∃ b, d = .bl b) ∨ (∃ i, d = .int i) ∨ ∃ x, d = .str x := fun {d} g => by
      cases d <;> first | exact .inl rfl | exact .inr (.inl ⟨_, rfl⟩) | exact .inr (.inr (.inl ⟨_, rfl⟩)) | exact .inr (.inr (.inr ⟨_, rfl⟩)) | exact nomatch g
    rcases fl g1 with rfl | ⟨b, rfl⟩ | ⟨i, rfl⟩ | ⟨z, rfl⟩ <;> rcases fl g2 with rfl | ⟨b', rfl⟩ | ⟨i', rfl⟩ | ⟨z', rfl⟩ <;> cases h1 <;> cases h2
    · cases r1; cases r2; exact SeqAt.EqAt.same _
    · cases r1; cases r2; exact SeqAt.EqAt.none_bool _
    · cases r1; obtain ⟨t, rfl⟩ := r2; exact SeqAt.EqAt.none_int _ _
    · cases r1; obtain ⟨t, rfl⟩ := r2; exact SeqAt.EqAt.none_str _ _
    · cases r1; cases r2; exact SeqAt.EqAt.bool_none _
    · cases r1; cases r2; exact SeqAt.EqAt.bool_bool _ _
    · cases r1; obtain ⟨t, rfl⟩ := r2; exact SeqAt.EqAt.bool_int _ _ _
    · cases r1; obtain ⟨t, rfl⟩ := r2; exact SeqAt.EqAt.bool_str _ _ _
    · obtain ⟨t, rfl⟩ := r1; cases r2; exact SeqAt.EqAt.int_none _ _
    · obtain ⟨t, rfl⟩ := r1; cases r2; exact SeqAt.EqAt.int_bool _ _ _
    · obtain ⟨t, rfl⟩ := r1; obtain ⟨t', rfl⟩ := r2; exact SeqAt.EqAt.int_int _ _ _ _
    · obtain ⟨t, rfl⟩ := r1; obtain ⟨t', rfl⟩ := r2; exact SeqAt.EqAt.int_str _ _ _ _
    · obtain ⟨t, rfl⟩ := r1; cases r2; exact SeqAt.EqAt.str_none _ _
    · obtain ⟨t, rfl⟩ := r1; cases r2; exact SeqAt.EqAt.str_bool _ _ _
    · obtain ⟨t, rfl⟩ := r1; obtain ⟨t', rfl⟩ := r2; exact SeqAt.EqAt.str_int _ _ _ _
    · obtain ⟨t, rfl⟩ := r1; obtain ⟨t', rfl⟩ := r2; exact SeqAt.EqAt.str_str _ _ _ _
  | n + 1 => fun d e x y u v A g1 g2 hu h1 h2 r1 r2 => eqAt1 (eqN_all I n) I d e x y u v A g1 g2 hu h1 h2 r1 r2
end
end L2.RB
namespace L2.RB
open PySem PySem.Spec PyProof.Rows
/-! ### borrowed values, what is wanted of a value -/
inductive RepB (K : KW) (O : List Addr) (H : Hp) : V → D → Prop
  | fr {v : V} {d : D} : Rep K (cut H O) v d → RepB K O H v d
  | ow {a : Addr} {vs : List V} {ds : List D} : a ∈ O → H a = some (.lst vs) → Reps K (cut H O) vs ds → RepB K O H (.ref a) (.lst ds)
  | od {a : Addr} {kvs : List (Key × V)} {ds : List (D × D)} : a ∈ O → H a = some (.dK kvs) → RepKs K (cut H O) kvs ds → RepB K O H (.ref a) (.dct ds)
section
variable {K : KW} {O : List Addr} {H H' : Hp} {v : V} {d : D}
theorem RepB.mono (s : Same H H') (h : RepB K O H v d) : RepB K O H' v d := by
  cases h with
  | fr h => exact .fr (h.mono (cut_same s))
  | ow m e r => exact .ow m (s _ _ e) (r.mono (cut_same s))
  | od m e r => exact .od m (s _ _ e) (r.mono (cut_same s))
theorem RepB.weak (h : RepB K O H v d) : Rep K H v d := by
  cases h with
  | fr h => exact h.mono (cut_le _ _)
  | ow m e r => exact .lst e (r.mono (cut_le _ _))
  | od m e r => exact .dK e (r.mono (cut_le _ _))
theorem RepB.lst_inv {ds : List D} (h : RepB K O H v (.lst ds)) : ∃ a vs, v = .ref a ∧ H a = some (.lst vs) ∧ Reps K (cut H O) vs ds := by
  cases h with
  | fr h =>
    obtain ⟨a, vs, e, q, r⟩ := h.lst_inv
    exact ⟨a, vs, e, (of_cut q).2, r⟩
  | ow m e r => exact ⟨_, _, rfl, e, r⟩
theorem RepB.tup_inv {ds : List D} (h : RepB K O H v (.tup ds)) : ∃ a vs, v = .ref a ∧ SqT K.K H a vs ∧ Reps K (cut H O) vs ds := by
  cases h with
  | fr h =>
    obtain ⟨a, vs, e, q, r⟩ := h.tup_inv
    exact ⟨a, vs, e, sqT_mono (cut_le _ _) q, r⟩
theorem RepB.int_inv {i : Int} (h : RepB K O H v (.int i)) : v = .int i := by
  cases h with
  | fr h => cases h; rfl
theorem RepB.str_inv {i : Str} (h : RepB K O H v (.str i)) : v = .str i := by
  cases h with
  | fr h => cases h; rfl
theorem RepB.bl_inv {i : Bool} (h : RepB K O H v (.bl i)) : v = .bl i := by
  cases h with
  | fr h => cases h; rfl
theorem RepB.non_inv (h : RepB K O H v .non) : v = .non := by
  cases h with
  | fr h => cases h; rfl
theorem RepB.scr_inv {ns : List Int} (h : RepB K O H v (.scr ns)) : ∃ a, v = .ref a ∧ SqL K.K H a (ns.map V.int) := by
  cases h with
  | fr h =>
    cases h with
    | scr h => exact ⟨_, rfl, (cut_le _ _ : Same _ _).seq h⟩
theorem RepB.set_inv {xs : List Str} (h : RepB K O H v (.set xs)) : ∃ a, v = .ref a ∧ H a = some (SetS K.P K.w a xs) ∧ xs.Nodup := by
  cases h with
  | fr h =>
    cases h with
    | set h n => exact ⟨_, rfl, (of_cut h).2, n⟩
theorem RepB.dct_inv {ds : List (D × D)} (h : RepB K O H v (.dct ds)) : ∃ a kvs, v = .ref a ∧ H a = some (.dK kvs) ∧ RepKs K (cut H O) kvs ds := by
  cases h with
  | fr h =>
    cases h with
    | dK e r => exact ⟨_, _, rfl, (of_cut e).2, r⟩
  | od m e r => exact ⟨_, _, rfl, e, r⟩
end
inductive RepBs (K : KW) (O : List Addr) (H : Hp) : List V → List D → Prop
  | nil : RepBs K O H [] []
  | cons {v : V} {vs : List V} {d : D} {ds : List D} : RepB K O H v d → RepBs K O H vs ds → RepBs K O H (v :: vs) (d :: ds)
theorem RepBs.mono {K : KW} {O : List Addr} {H H' : Hp} (s : Same H H') : ∀ {vs : List V} {ds : List D}, RepBs K O H vs ds → RepBs K O H' vs ds
  | _, _, .nil => .nil
  | _, _, .cons h t => .cons (h.mono s) (t.mono s)
theorem RepBs.of {K : KW} {O : List Addr} {H : Hp} : ∀ {vs : List V} {ds : List D}, Reps K (cut H O) vs ds → RepBs K O H vs ds
  | _, _, .nil => .nil
  | _, _, .cons h t => .cons (.fr h) (RepBs.of t)
/-- what follows a value -/
def Post (K : KW) (O : List Addr) (H : Hp) (Q : VK) (r : D) : Prop := ∀ v H', Same H H' → Rep K (cut H' O) v r → Q v H'
def PostB (K : KW) (O : List Addr) (H : Hp) (Q : VK) (r : D) : Prop := ∀ v H', Same H H' → RepB K O H' v r → Q v H'
/-- .. of a new list of one's own -/
def PostF (K : KW) (O : List Addr) (H : Hp) (Q : VK) (r : D) : Prop := ∃ ds, r = .lst ds ∧ ∀ a vs H', H a = none → Same H H' → H' a = some (.lst vs) → Reps K (cut H' (a :: O)) vs ds → Q (.ref a) H'
section
variable {K : KW} {O : List Addr} {H H' : Hp} {Q : VK} {d : D}
theorem Post.weak (h : PostB K O H Q d) : Post K O H Q d := fun v H' s r => h v H' s (.fr r)
theorem Post.mono (s : Same H H') (h : Post K O H Q d) : Post K O H' Q d := fun v H2 s2 r => h v H2 (s.trans s2) r
theorem Post.here {v : V} (h : Post K O H Q d) (r : Rep K (cut H O) v d) : Q v H := h v H (Same.refl _) r
theorem Post.int {i : Int} (h : Post K O H Q (.int i)) : Q (.int i) H := h.here (.int i)
theorem Post.bl {i : Bool} (h : Post K O H Q (.bl i)) : Q (.bl i) H := h.here (.bl i)
theorem Post.str {i : Str} (h : Post K O H Q (.str i)) : Q (.str i) H := h.here (.str i)
theorem Post.non (h : Post K O H Q .non) : Q .non H := h.here .non
theorem Own.fresh {p : Addr} (o : Own O H) (h : H p = none) : p ∉ O := fun m => by
  obtain ⟨u, e⟩ := o p m
  rw [h] at e; cases e
theorem same_new {p : Addr} {u : HO} (h : H p = none) : Same H (upd H p u) := fun b x e => by
  rw [upd_ne (ne_of_none e h)]
  exact e
theorem Post.tup {p : Addr} {vs : List V} {ds : List D} (h : Post K O H Q (.tup ds)) (o : Own O H) (hp : H p = none) (r : Reps K (cut H O) vs ds) : Q (.ref p) (upd H p (.tup vs)) :=
  h _ _ (same_new hp) (.tup (.of (by rw [cut_of (o.fresh hp)]; exact upd_same)) (r.mono (cut_same (same_new hp))))
theorem Post.lst {p : Addr} {vs : List V} {ds : List D} (h : Post K O H Q (.lst ds)) (o : Own O H) (hp : H p = none) (r : Reps K (cut H O) vs ds) : Q (.ref p) (upd H p (.lst vs)) :=
  h _ _ (same_new hp) (.lst (by rw [cut_of (o.fresh hp)]; exact upd_same) (r.mono (cut_same (same_new hp))))
end
/-! ### rules by data -/
def rD2 (X : Cx) (f : D → D → Res D) : R2 := fun x y H Q => ∃ O d e r, Own O H ∧ RepB (kw X) O H x d ∧ RepB (kw X) O H y e ∧ f d e = .ok r ∧ Post (kw X) O H Q r
def rD1 (X : Cx) (f : D → Res D) : V → Hp → VK → Prop := fun x H Q => ∃ O d r, Own O H ∧ RepB (kw X) O H x d ∧ f d = .ok r ∧ Post (kw X) O H Q r
def rDs (X : Cx) (f : List D → Res D) : List V → Hp → VK → Prop := fun xs H Q => ∃ O ds r, Own O H ∧ RepBs (kw X) O H xs ds ∧ f ds = .ok r ∧ Post (kw X) O H Q r
def LIM : Nat := 16777216
theorem lim_eq : LIM = sizeLine := by rw [sizeLine_eq]; rfl
/-! ### + - * // % -/
def addD (d e : D) : Res D := match d, e with
  | .int i, .int j => .ok (.int (i + j))
  | .str x, .str y => if x.length + y.length ≤ LIM then .ok (.str (x ++ y)) else .stuck
  | .tup xs, .tup ys => if xs.length + ys.length ≤ LIM then .ok (.tup (xs ++ ys)) else .stuck
  | .lst xs, .lst ys => if xs.length + ys.length ≤ LIM then .ok (.lst (xs ++ ys)) else .stuck
  | _, _ => .stuck
theorem op_addD {X : Cx} : OpR X (binaryOp .Add) (rD2 X addD) := by
  intro pins s σ H x y v u Q I rx ry ⟨O, d, e, r, ow, h1, h2, hf, q⟩
  unfold addD at hf
  split at hf
  · cases hf
    exact op_add pins s σ H x y v u Q I rx ry ⟨_, _, h1.int_inv, h2.int_inv, q.int⟩
  · split at hf
    · rename_i hz
      cases hf
      exact op_add_str pins s σ H x y v u Q I rx ry ⟨_, _, h1.str_inv, h2.str_inv, by rw [← lim_eq]; exact hz, q.str⟩
    · cases hf
  · split at hf
    · rename_i xs ys hz
      cases hf
      obtain ⟨a, vs, rfl, s1, r1⟩ := h1.tup_inv
      obtain ⟨b, ws, rfl, s2, r2⟩ := h2.tup_inv
      have l1 := r1.length
      have l2 := r2.length
      refine op_catA pins s σ H _ _ v u Q I rx ry ⟨a, b, vs, ws, rfl, rfl, s1, s2, by rw [l1, l2, ← lim_eq]; exact hz, fun e => ?_, fun _ e => ?_, fun _ _ p hp => q.tup ow hp (r1.append r2)⟩
      · subst e
        have e1 : xs = [] := List.eq_nil_of_length_eq_zero l1.symm
        subst e1
        cases h2 with
        | fr h2 => exact q.here h2
      · subst e
        have e1 : ys = [] := List.eq_nil_of_length_eq_zero l2.symm
        subst e1
        rw [List.append_nil] at q
        cases h1 with
        | fr h1 => exact q.here h1
    · cases hf
  · split at hf
    · rename_i xs ys hz
      cases hf
      obtain ⟨a, vs, rfl, s1, r1⟩ := h1.lst_inv
      obtain ⟨b, ws, rfl, s2, r2⟩ := h2.lst_inv
      exact op_cat pins s σ H _ _ v u Q I rx ry ⟨a, b, vs, ws, rfl, rfl, s1, s2, by rw [r1.length, r2.length, ← lim_eq]; exact hz, fun p hp => q.lst ow hp (r1.append r2)⟩
    · cases hf
  · cases hf
def subD (d e : D) : Res D := match d, e with
  | .int i, .int j => .ok (.int (i - j))
  | _, _ => .stuck
theorem op_subD {X : Cx} : OpR X (binaryOp .Sub) (rD2 X subD) := by
  intro pins s σ H x y v u Q I rx ry ⟨O, d, e, r, ow, h1, h2, hf, q⟩
  unfold subD at hf
  split at hf
  · cases hf
    exact op_sub pins s σ H x y v u Q I rx ry ⟨_, _, h1.int_inv, h2.int_inv, q.int⟩
  · cases hf
/-- a text so many times -/
def repS (x : Str) (k : Int) : Str := if k < 1 then Str.empty else ⟨(List.replicate k.toNat x.cps).foldl (· ++ ·) #[]⟩
theorem repS_one (x : Str) : repS x 1 = x := by
  unfold repS
  rw [if_neg (by decide)]
  obtain ⟨a⟩ := x
  show Str.mk (#[] ++ a) = _
  rw [Array.empty_append]
theorem repS_nil {x : Str} (h : (x.length == 0) = true) (k : Int) (hk : ¬ k < 1) : repS x k = x := by
  have hx : x = Str.empty := by
    obtain ⟨a⟩ := x
    have : a.size = 0 := eq_of_beq h
    rw [Array.eq_empty_of_size_eq_zero this]; rfl
  subst hx
  unfold repS
  rw [if_neg hk]
  show Str.mk ((List.replicate k.toNat (#[] : Array Nat)).foldl (· ++ ·) #[]) = Str.mk #[]
  congr 1
  generalize k.toNat = n
  induction n with
  | zero => rfl
  | succ n ih => rw [List.replicate_succ, List.foldl_cons, Array.empty_append]; exact ih
theorem fold_size (a : Array Nat) : ∀ (n : Nat) (b : Array Nat), ((List.replicate n a).foldl (· ++ ·) b).size = b.size + a.size * n
  | 0, b => by simp
  | n + 1, b => by rw [List.replicate_succ, List.foldl_cons, fold_size a n, Array.size_append, Nat.mul_succ]; omega
def mulD (d e : D) : Res D := match d, e with
  | .str x, .int k => if 0 ≤ k ∧ k ≤ 1000 ∧ x.length ≤ 1000 then .ok (.str (repS x k)) else .stuck
  | .int i, .int j => if (-(2 ^ 64) < i ∧ i < 2 ^ 64) ∨ (-(2 ^ 64) < j ∧ j < 2 ^ 64) then .ok (.int (i * j)) else .stuck
  | .lst xs, .int k => if 0 ≤ k ∧ k ≤ 1000 ∧ xs.length ≤ 1000 then .ok (.lst (List.replicate k.toNat xs).flatten) else .stuck
  | .tup xs, .int k => if 2 ≤ k ∧ k ≤ 1000 ∧ 1 ≤ xs.length ∧ xs.length ≤ 1000 then .ok (.tup (List.replicate k.toNat xs).flatten) else .stuck
  | _, _ => .stuck
theorem op_mulD {X : Cx} : OpR X (binaryOp .Mult) (rD2 X mulD) := by
  intro pins s σ H x y v u Q I rx ry ⟨O, d, e, r, ow, h1, h2, hf, q⟩
  unfold mulD at hf
  split at hf
  · split at hf
    · rename_i z k hc
      cases hf
      cases h1.str_inv
      cases h2.int_inv
      obtain ⟨t1, rfl⟩ := rx
      obtain ⟨t2, rfl⟩ := ry
      have hb : z.length * k.toNat ≤ 1000 * 1000 := Nat.mul_le_mul hc.2.2 (by omega)
      refine P.mul_str (by rw [decide_eq_false (by omega), decide_eq_false (by omega)]; rfl) (fun h1 _ => ?_) (fun _ _ => ?_) ?_
      · have : (1000 : Int) ≤ (2 ^ 63 - 1) / k := by
          rw [Int.le_ediv_iff_mul_le (by omega)]
          have : 1000 * k ≤ 1000 * 1000 := by omega
          exact Int.le_trans this (by decide)
        omega
      · unfold Builtin.Str.tooLong
        simp only [decide_eq_false_iff_not]
        have := sizeLine_eq
        omega
      · by_cases k1 : k < 1
        · rw [if_pos k1]
          have e : repS z k = Str.empty := if_pos k1
          rw [e] at q
          exact ⟨by decide, .str Str.empty, H, I.tok _, ⟨_, rfl⟩, q.str⟩
        · rw [if_neg k1]
          by_cases k2 : (k == 1 || z.length == 0) = true
          · rw [if_pos k2]
            have e : repS z k = z := by
              rcases Bool.or_eq_true_iff.mp k2 with k2 | k2
              · have : k = 1 := eq_of_beq k2
                subst this; exact repS_one z
              · exact repS_nil k2 k k1
            rw [e] at q
            exact ⟨.str z, H, I, ⟨_, rfl⟩, q.str⟩
          · rw [if_neg k2]
            have e : repS z k = ⟨(List.replicate k.toNat z.cps).foldl (· ++ ·) #[]⟩ := if_neg k1
            rw [e] at q
            refine ⟨?_, .str _, H, I.tok _, ⟨_, rfl⟩, q.str⟩
            show Str.length _ ≤ sizeLine
            have : (⟨(List.replicate k.toNat z.cps).foldl (· ++ ·) #[]⟩ : Str).length = z.length * k.toNat := by
              show ((List.replicate k.toNat z.cps).foldl (· ++ ·) #[]).size = z.cps.size * k.toNat
              rw [fold_size]; simp
            rw [this]
            have := sizeLine_eq
            omega
    · cases hf
  · split at hf
    · rename_i hc
      cases hf
      exact op_mul pins s σ H x y v u Q I rx ry ⟨_, _, h1.int_inv, h2.int_inv, hc, q.int⟩
    · cases hf
  · split at hf
    · rename_i xs k hc
      cases hf
      obtain ⟨a, vs, rfl, s1, r1⟩ := h1.lst_inv
      have l1 := r1.length
      have bd : xs.length * k.toNat ≤ 1000 * 1000 := Nat.mul_le_mul hc.2.2 (by omega)
      refine op_rep pins s σ H _ _ v u Q I rx ry ⟨a, k, vs, rfl, h2.int_inv, s1, by omega, by omega, by rw [l1, sizeLine_eq]; omega, fun p hp => q.lst ow hp (Reps.flatten_rep r1 k.toNat)⟩
    · cases hf
  · split at hf
    · rename_i xs k hc
      cases hf
      obtain ⟨a, vs, rfl, s1, r1⟩ := h1.tup_inv
      have l1 := r1.length
      refine op_repT pins s σ H _ _ v u Q I rx ry ⟨a, k, vs, rfl, h2.int_inv, s1, fun e => ?_, hc.1, hc.2.1, by omega, fun p hp => q.tup ow hp (Reps.flatten_rep r1 k.toNat)⟩
      subst e
      have := hc.2.2.1
      rw [← l1] at this
      exact absurd this (by decide)
    · cases hf
  · cases hf
def fdivD (d e : D) : Res D := match d, e with
  | .int i, .int j => if 0 < j ∧ j < 1073741824 then .ok (.int (i / j)) else .stuck
  | _, _ => .stuck
theorem op_fdivD {X : Cx} : OpR X (binaryOp .FloorDiv) (rD2 X fdivD) := by
  intro pins s σ H x y v u Q I rx ry ⟨O, d, e, r, ow, h1, h2, hf, q⟩
  unfold fdivD at hf
  split at hf
  · split at hf
    · rename_i hc
      cases hf
      exact op_fdiv pins s σ H x y v u Q I rx ry ⟨_, _, h1.int_inv, h2.int_inv, hc, q.int⟩
    · cases hf
  · cases hf
def modD (d e : D) : Res D := match d, e with
  | .int i, .int j => if 0 < j then .ok (.int (i % j)) else .stuck
  | _, _ => .stuck
theorem op_modD {X : Cx} : OpR X (binaryOp .Mod) (rD2 X modD) := by
  intro pins s σ H x y v u Q I rx ry ⟨O, d, e, r, ow, h1, h2, hf, q⟩
  unfold modD at hf
  split at hf
  · split at hf
    · rename_i hc
      cases hf
      exact op_mod pins s σ H x y v u Q I rx ry ⟨_, _, h1.int_inv, h2.int_inv, hc, q.int⟩
    · cases hf
  · cases hf
def negD (d : D) : Res D := match d with
  | .int i => .ok (.int (-i))
  | _ => .stuck
theorem un_negD {X : Cx} : UnR X (unaryOp .USub) (rD1 X negD) := by
  intro pins s σ H x v Q I rx ⟨O, d, r, ow, h1, hf, q⟩
  unfold negD at hf
  split at hf
  · cases hf
    exact un_neg pins s σ H x v Q I rx ⟨_, h1.int_inv, q.int⟩
  · cases hf
/-! ### comparisons -/
def eqB (d e : D) : Option Bool := match d, e with
  | .scr ns, .lst ds => if ds.isEmpty then some ns.isEmpty else none
  | d, e => if d.pl 60 && e.pl 60 then some (D.eqv d e) else none
def eqD (d e : D) : Res D := match eqB d e with
  | some b => .ok (.bl b)
  | none => .stuck
def neD (d e : D) : Res D := match eqB d e with
  | some b => .ok (.bl (!b))
  | none => .stuck
section
variable {X : Cx} {pins : List (Addr × Obj)} {σ : L2.St} {H : Hp} {s : Shared} {O : List Addr} {d e : D} {x y : V} {u v : Value}
theorem scr_eq (I : Inv X pins σ H s) {ns : List Int} (h1 : RepB (kw X) O H x (.scr ns)) (h2 : RepB (kw X) O H y (.lst [])) (r1 : RelV x u) (r2 : RelV y v) (hu : X.A.units < cLine) : SeqAt.RcAt X.A s u v ns.isEmpty := by
  obtain ⟨a, rfl, s1⟩ := h1.scr_inv
  obtain ⟨b, vs, rfl, s2, q2⟩ := h2.lst_inv
  cases q2
  cases r1
  cases r2
  obtain ⟨its1, rv1, p1, z1⟩ := I.list s1
  obtain ⟨its2, rv2, p2, z2⟩ := I.list (.of s2)
  cases rv2
  have l1 := rv1.length
  rw [List.length_map] at l1
  cases ns with
  | nil =>
    cases rv1
    exact SeqAt.RcAt.lists (e := fun _ => true) p1.isList p2.isList rfl hu fun j h1 _ => absurd h1 (by simp)
  | cons n ns =>
    exact SeqAt.RcAt.lists_lengths p1.isList p2.isList (by rw [List.size_toArray, List.size_toArray, ← l1]; rfl) hu
theorem op_eqR {X : Cx} (hu : X.A.units + 64 < cLine) : OpR X (compareOp .Eq) (rD2 X eqD) := by
  intro pins s σ H x y v u Q I rx ry ⟨O, d, e, r, ow, h1, h2, hf, q⟩
  unfold eqD at hf
  cases hb : eqB d e with
  | none => rw [hb] at hf; cases hf
  | some b =>
    rw [hb] at hf
    cases hf
    have key : SeqAt.RcAt X.A s v u b := by
      unfold eqB at hb
      split at hb
      · rename_i ns ds
        split at hb
        · rename_i hc
          have : ds = [] := List.isEmpty_iff.mp hc
          subst this
          cases hb
          exact scr_eq I h1 h2 rx ry (by omega)
        · cases hb
      · split at hb
        · rename_i hc
          cases hb
          obtain ⟨g1, g2⟩ := Bool.and_eq_true_iff.mp hc
          exact rcAt1 (eqN_all I 59) I _ _ _ _ _ _ _ g1 g2 (by omega) h1.weak h2.weak rx ry
        · cases hb
    exact key X.prog X.w X.xe _ (fin_bl I q.bl rfl)
theorem op_neR {X : Cx} (hu : X.A.units + 64 < cLine) : OpR X (compareOp .NotEq) (rD2 X neD) := by
  intro pins s σ H x y v u Q I rx ry ⟨O, d, e, r, ow, h1, h2, hf, q⟩
  unfold neD at hf
  cases hb : eqB d e with
  | none => rw [hb] at hf; cases hf
  | some b =>
    rw [hb] at hf
    cases hf
    have key : SeqAt.RcNeAt X.A s v u (!b) := by
      unfold eqB at hb
      split at hb
      · rename_i ns ds
        split at hb
        · rename_i hc
          have : ds = [] := List.isEmpty_iff.mp hc
          subst this
          cases hb
          obtain ⟨a, rfl, s1⟩ := h1.scr_inv
          obtain ⟨b, vs, rfl, s2, q2⟩ := h2.lst_inv
          cases q2
          cases rx
          cases ry
          obtain ⟨its1, rv1, p1, z1⟩ := I.list s1
          obtain ⟨its2, rv2, p2, z2⟩ := I.list (.of s2)
          cases rv2
          have l1 := rv1.length
          rw [List.length_map] at l1
          cases ns with
          | nil =>
            cases rv1
            exact SeqAt.RcNeAt.lists (e := fun _ => true) p1.isList p2.isList rfl (by omega) fun j h1 _ => absurd h1 (by simp)
          | cons n ns =>
            exact SeqAt.RcNeAt.lists_lengths p1.isList p2.isList (by rw [List.size_toArray, List.size_toArray, ← l1]; rfl) (by omega)
        · cases hb
      · split at hb
        · rename_i hc
          cases hb
          obtain ⟨g1, g2⟩ := Bool.and_eq_true_iff.mp hc
          exact rcNe1 (eqN_all I 59) I _ _ _ _ _ _ _ g1 g2 (by omega) h1.weak h2.weak rx ry
        · cases hb
    exact key X.prog X.w X.xe _ (fin_bl I q.bl rfl)
end
def cmpI (f : Int → Int → Bool) (d e : D) : Res D := match d, e with
  | .int i, .int j => .ok (.bl (f i j))
  | _, _ => .stuck
theorem op_cmpI {X : Cx} {op : CmpOp} {f : Int → Int → Bool} (h : OpR X (compareOp op) (rI0 fun i j => .bl (f i j))) : OpR X (compareOp op) (rD2 X (cmpI f)) := by
  intro pins s σ H x y v u Q I rx ry ⟨O, d, e, r, ow, h1, h2, hf, q⟩
  unfold cmpI at hf
  split at hf
  · cases hf
    exact h pins s σ H x y v u Q I rx ry ⟨_, _, h1.int_inv, h2.int_inv, q.bl⟩
  · cases hf
/-- is None -/
def isN (d : D) : Bool := match d with
  | .non => true
  | _ => false
def isD (d e : D) : Res D := match e with
  | .non => .ok (.bl (isN d))
  | .bl b => match d with
    | .bl a => .ok (.bl (a == b))
    | _ => .stuck
  | _ => .stuck
def isNotD (d e : D) : Res D := match e with
  | .non => .ok (.bl (!isN d))
  | .bl b => match d with
    | .bl a => .ok (.bl (!(a == b)))
    | _ => .stuck
  | _ => .stuck
theorem isN_v {K : KW} {O : List Addr} {H : Hp} {x : V} {d : D} (h : RepB K O H x d) : decide (x = .non) = isN d := by
  cases h with
  | fr h => cases h <;> simp [isN]
  | ow _ _ _ => simp [isN]
  | od _ _ _ => simp [isN]
end L2.RB
namespace L2.RB
open PySem PySem.Spec PyProof.Rows
section
variable {X : Cx} {pins : List (Addr × Obj)} {σ : L2.St} {H : Hp} {s : Shared} {O : List Addr} {d e : D} {x y : V} {u v : Value}
/-- == of an object with d, by the object -/
noncomputable def eqW (X : Cx) (H : Hp) (d : D) (w : Value) : Bool := @decide (∃ y d', RelV y w ∧ Rep (kw X) H y d' ∧ d'.pl 60 = true ∧ D.eqv d' d = true) (Classical.propDecidable _)
theorem eqW_at (I : Inv X pins σ H s) {d d' : D} {y : V} {w : Value} (r : RelV y w) (h : Rep (kw X) H y d') (p : d'.pl 60 = true) : eqW X H d w = D.eqv d' d := by
  unfold eqW
  cases e : D.eqv d' d with
  | true => exact @decide_eq_true _ (Classical.propDecidable _) ⟨y, d', r, h, p, e⟩
  | false =>
    refine @decide_eq_false _ (Classical.propDecidable _) ?_
    rintro ⟨y2, d2, r2, h2, p2, e2⟩
    have : y2 = y := r2.inj r
    subst this
    rw [Rep.det I h2 h ⟨60, p2⟩ ⟨60, p⟩] at e2
    rw [e] at e2
    cases e2
theorem any_eqW (I : Inv X pins σ H s) {d : D} : ∀ {ds : List D} {vs : List V} {us : List Value}, Reps (kw X) H vs ds → Vals vs us → D.pls ds 60 = true → us.any (eqW X H d) = ds.any fun z => D.eqv z d
  | [], _, _, h, r, _ => by cases h; cases r; rfl
  | z :: ds, _, _, h, r, p => by
    cases h with
    | cons h1 h2 =>
      cases r with
      | cons r1 r2 =>
        unfold D.pls at p
        obtain ⟨p1, p2⟩ := Bool.and_eq_true_iff.mp p
        rw [List.any_cons, List.any_cons, eqW_at I r1 h1 p1, any_eqW I h2 r2 p2]
theorem mem_eqW (I : Inv X pins σ H s) (hu : X.A.units + 64 < cLine) {d : D} {x : V} {v : Value} (hx : Rep (kw X) H x d) (rx : RelV x v) (px : d.pl 60 = true) : ∀ {ds : List D} {vs : List V} {us : List Value}, Reps (kw X) H vs ds → Vals vs us → D.pls ds 60 = true →
    ∀ w ∈ us, SeqAt.EqAt X.A.in1 s w v (eqW X H d w)
  | [], _, _, h, r, _ => by cases h; cases r; intro w hw; cases hw
  | z :: ds, _, _, h, r, p => by
    cases h with
    | cons h1 h2 =>
      cases r with
      | cons r1 r2 =>
        unfold D.pls at p
        obtain ⟨p1, p2⟩ := Bool.and_eq_true_iff.mp p
        intro w hw
        rcases List.mem_cons.mp hw with rfl | hw
        · rw [eqW_at I r1 h1 p1]
          exact eqN_all I 60 _ _ _ _ _ _ _ p1 px (by show X.A.units + 1 + 60 < cLine; omega) h1 hx r1 rx
        · exact mem_eqW I hu hx rx px h2 r2 p2 w hw
end
/-! ### in -/
def keyOf : D → Option Key
  | .int i => some (.inl i)
  | .str x => some (.inr x)
  | _ => none
def keyIsD (k : D) (d : D) : Bool := match k, d with
  | .int i, .int j => i == j
  | .str x, .str y => x == y
  | _, _ => false
def look (kvs : List (D × D)) (k : D) : Option D := (kvs.find? fun p => keyIsD p.1 k).map (·.2)
def inB (d e : D) : Option Bool := match e with
  | .str z => match d with
    | .str c => if c.length = 1 then some (decide (c.cps.getD 0 0 ∈ z.cps.toList)) else none
    | _ => none
  | .tup ds => if d.pl 60 && D.pls ds 60 then some (ds.any fun z => D.eqv z d) else none
  | .lst ds => if d.pl 60 && D.pls ds 60 then some (ds.any fun z => D.eqv z d) else none
  | .dct kvs => match keyOf d with
    | some _ => some (look kvs d).isSome
    | none => none
  | _ => none
def inD (d e : D) : Res D := match inB d e with
  | some b => .ok (.bl b)
  | none => .stuck
def notInD (d e : D) : Res D := match inB d e with
  | some b => .ok (.bl (!b))
  | none => .stuck
theorem keyOf_eq {d : D} {k : Key} (h : keyOf d = some k) : d = keyD k := by
  cases d <;> simp [keyOf] at h <;> subst h <;> rfl
theorem keyIsD_key (k k' : Key) : keyIsD (keyD k) (keyD k') = decide (k = k') := by
  cases k with
  | inl i =>
    cases k' with
    | inl j => rw [key_ll]; rfl
    | inr y => exact (key_lr i y).symm
  | inr x =>
    cases k' with
    | inl j => exact (key_rl x j).symm
    | inr y => rw [key_rr]; show (x == y) = _; rw [Bool.beq_eq_decide_eq]
theorem look_none {K : KW} {G : Hp} : ∀ {kvs : List (Key × V)} {ds : List (D × D)} (k : Key), RepKs K G kvs ds → (look ds (keyD k) = none ∧ valV kvs k = none) ∨ ∃ v d, look ds (keyD k) = some d ∧ valV kvs k = some v ∧ Rep K G v d
  | _, _, _, .nil => .inl ⟨rfl, rfl⟩
  | _, _, k, .cons (k := k0) (v := v0) (d := d0) (kvs := kvs) (ds := ds) r t => by
    by_cases h : k0 = k
    · refine .inr ⟨v0, d0, ?_, ?_, r⟩
      · unfold look
        rw [List.find?_cons_of_pos (by show keyIsD (keyD k0) (keyD k) = true; rw [keyIsD_key]; exact decide_eq_true h)]
        rfl
      · unfold valV
        rw [List.find?_cons_of_pos (by exact decide_eq_true h)]
        rfl
    · have e1 : look ((keyD k0, d0) :: ds) (keyD k) = look ds (keyD k) := by
        unfold look
        rw [List.find?_cons_of_neg (by show ¬ keyIsD (keyD k0) (keyD k) = true; rw [keyIsD_key, decide_eq_false h]; exact Bool.false_ne_true)]
      have e2 : valV ((k0, v0) :: kvs) k = valV kvs k := by
        unfold valV
        rw [List.find?_cons_of_neg (by show ¬ decide (k0 = k) = true; rw [decide_eq_false h]; exact Bool.false_ne_true)]
      rw [e1, e2]
      exact look_none k t
theorem sign_of {c : Str} (h : c.length = 1) : c = ⟨#[c.cps.getD 0 0]⟩ := by
  obtain ⟨a⟩ := c
  have h : a.size = 1 := h
  have : a = #[a.getD 0 0] := by
    apply Array.ext
    · simpa using h
    · intro i h1 h2
      have : i = 0 := by omega
      subst this
      simp [Array.getD, h]
  exact congrArg Str.mk this
theorem op_inDR {X : Cx} (hu : X.A.units + 64 < cLine) : OpR X (compareOp .In) (rD2 X inD) := by
  intro pins s σ H x y v u Q I rx ry ⟨O, d, e, r, ow, h1, h2, hf, q⟩
  unfold inD at hf
  cases hb : inB d e with
  | none => rw [hb] at hf; cases hf
  | some b =>
    rw [hb] at hf
    cases hf
    unfold inB at hb
    split at hb
    · split at hb
      · split at hb
        · rename_i hc
          cases hb
          exact op_in_sign pins s σ H x y v u Q I rx ry ⟨_, _, by rw [h1.str_inv]; exact congrArg V.str (sign_of hc), h2.str_inv, q.bl⟩
        · cases hb
      · cases hb
    · split at hb
      · rename_i ds hc
        cases hb
        obtain ⟨g1, g2⟩ := Bool.and_eq_true_iff.mp hc
        obtain ⟨a, vs, rfl, s2, r2⟩ := h2.tup_inv
        cases ry
        obtain ⟨its, rv, pl, _⟩ := I.tuple s2
        have r2' := r2.mono (cut_le H O)
        refine SeqAt.in_tupleAt (eqW X H d) pl (fun w hw => mem_eqW I hu h1.weak rx g1 r2' rv g2 w (by simpa using hw)) ?_
        rw [show its.toArray.any (eqW X H d) = its.any (eqW X H d) by simp, any_eqW I r2' rv g2]
        exact fin_bl I q.bl rfl
      · cases hb
    · split at hb
      · rename_i ds hc
        cases hb
        obtain ⟨g1, g2⟩ := Bool.and_eq_true_iff.mp hc
        obtain ⟨a, vs, rfl, s2, r2⟩ := h2.lst_inv
        cases ry
        obtain ⟨its, rv, pl, _⟩ := I.list (.of s2)
        have r2' := r2.mono (cut_le H O)
        refine SeqAt.in_listAt (eqW X H d) pl.isList (fun w hw => mem_eqW I hu h1.weak rx g1 r2' rv g2 w (by simpa using hw)) ?_
        rw [show its.toArray.any (eqW X H d) = its.any (eqW X H d) by simp, any_eqW I r2' rv g2]
        exact fin_bl I q.bl rfl
      · cases hb
    · split at hb
      · rename_i kvs k hk
        cases hb
        have ed := keyOf_eq hk
        subst ed
        obtain ⟨a, ks, rfl, s2, r2⟩ := h2.dct_inv
        cases ry
        have ex : x = kV k := by
          cases k with
          | inl i => exact h1.int_inv
          | inr z => exact h1.str_inv
        subst ex
        refine d_in (by omega) I (DGet.k (k := k) s2) rx fun s3 I3 => fin_bl I3 q.bl ?_
        rcases look_none k r2 with ⟨e1, e2⟩ | ⟨v1, d1, e1, e2, _⟩ <;> rw [e1, e2] <;> rfl
      · cases hb
    · cases hb
theorem op_notInDR {X : Cx} (hu : X.A.units + 64 < cLine) : OpR X (compareOp .NotIn) (rD2 X notInD) := by
  intro pins s σ H x y v u Q I rx ry ⟨O, d, e, r, ow, h1, h2, hf, q⟩
  unfold notInD at hf
  cases hb : inB d e with
  | none => rw [hb] at hf; cases hf
  | some b =>
    rw [hb] at hf
    cases hf
    unfold inB at hb
    split at hb
    · split at hb
      · split at hb
        · rename_i hc
          cases hb
          exact op_notIn_sign pins s σ H x y v u Q I rx ry ⟨_, _, by rw [h1.str_inv]; exact congrArg V.str (sign_of hc), h2.str_inv, q.bl⟩
        · cases hb
      · cases hb
    · split at hb
      · rename_i ds hc
        cases hb
        obtain ⟨g1, g2⟩ := Bool.and_eq_true_iff.mp hc
        obtain ⟨a, vs, rfl, s2, r2⟩ := h2.tup_inv
        cases ry
        obtain ⟨its, rv, pl, _⟩ := I.tuple s2
        have r2' := r2.mono (cut_le H O)
        refine SeqAt.notIn_tupleAt (eqW X H d) pl (fun w hw => mem_eqW I hu h1.weak rx g1 r2' rv g2 w (by simpa using hw)) ?_
        rw [show its.toArray.any (eqW X H d) = its.any (eqW X H d) by simp, any_eqW I r2' rv g2]
        exact fin_bl I q.bl rfl
      · cases hb
    · split at hb
      · rename_i ds hc
        cases hb
        obtain ⟨g1, g2⟩ := Bool.and_eq_true_iff.mp hc
        obtain ⟨a, vs, rfl, s2, r2⟩ := h2.lst_inv
        cases ry
        obtain ⟨its, rv, pl, _⟩ := I.list (.of s2)
        have r2' := r2.mono (cut_le H O)
        refine SeqAt.notIn_listAt (eqW X H d) pl.isList (fun w hw => mem_eqW I hu h1.weak rx g1 r2' rv g2 w (by simpa using hw)) ?_
        rw [show its.toArray.any (eqW X H d) = its.any (eqW X H d) by simp, any_eqW I r2' rv g2]
        exact fin_bl I q.bl rfl
      · cases hb
    · split at hb
      · rename_i kvs k hk
        cases hb
        have ed := keyOf_eq hk
        subst ed
        obtain ⟨a, ks, rfl, s2, r2⟩ := h2.dct_inv
        cases ry
        have ex : x = kV k := by
          cases k with
          | inl i => exact h1.int_inv
          | inr z => exact h1.str_inv
        subst ex
        refine d_notIn (by omega) I (DGet.k (k := k) s2) rx fun s3 I3 => fin_bl I3 q.bl ?_
        rcases look_none k r2 with ⟨e1, e2⟩ | ⟨v1, d1, e1, e2, _⟩ <;> rw [e1, e2] <;> rfl
      · cases hb
    · cases hb
end L2.RB
namespace L2.RB
open PySem PySem.Spec PyProof.Rows
section
variable {P : Program} {w : World} {h h' : Heap} {a : Addr} {xs : List Str}
theorem SetT.at (R : SetT w h a xs) (k : ∀ o, h.get? a = some o → h'.get? a = some o) : SetT w h' a xs :=
  let ⟨o, es, ep, t, ho, r⟩ := R
  ⟨o, es, ep, t, k o ho, r⟩
theorem rowT_key (P : Program) {e : Int × Value} (g : RowT w e) (k : Str) : (PySem.strKind P w).is k e.2 = decide (txt e.2 = k) := by
  obtain ⟨x, tk, e1, _⟩ := g
  rw [e1]
  show (Value.str x tk).isStrOf k = decide (x = k)
  exact Bool.beq_eq_decide_eq x k
theorem rowT_elems (P : Program) {l : List (Int × Value)} (g : ∀ e ∈ l, RowT w e) : ElemsOf (PySem.strKind P w) l := fun e m => by
  obtain ⟨x, tk, e1, e2⟩ := g e m
  exact ⟨⟨x, by rw [e1]; exact strKind_is P w x tk, e2⟩, by rw [e1]; rfl⟩
theorem SetT.size (R : SetT w h a xs) : ∃ o es ep t, h.get? a = some o ∧ o.ExactSet ∧ o.data = .set es ep t ∧ t.fits es.size = true ∧ es.size = xs.length ∧ es.size < scanBound := by
  obtain ⟨o, es, ep, t, ho, hx, hd, g, p, nd, hb, hf, _⟩ := R
  refine ⟨o, es, ep, t, ho, hx, hd, hf, ?_, hb⟩
  rw [← p.length_eq, names, List.length_map, Array.length_toList]
end
section
variable {P : Program} {w : World} {A : Around} {E : Value → Shared → Prop} {s : Shared} {a : Addr} {xs : List Str}
/-- what follows the laying of one more -/
theorem layT_tail {o : Obj} {es es1 : Array (Int × Value)} {ep : Nat} {t t1 : SetTable} {ys : List Str} {dm : Bool} {R : Option Bool → Shared → Prop} {g : Bool → Sem Unit}
    (hg : ∀ (b : Bool) (s₁ : Shared) (Q' : Unit → Shared → Prop), Q' () s₁ → wpAny (model P w) A (g b) Q' E s₁)
    (ho : s.heap.get? a = some o) (hx : o.ExactSet) (hd : o.data = .set es ep t) (g1 : ∀ e ∈ es1.toList, RowT w e) (p1 : (names es1.toList).Perm ys) (nd : ys.Nodup) (hb : es1.size < scanBound) (tb : TabT w t1 es1.size)
    (fin : ∀ h', Heap.SameBut a s.heap h' → SetT w h' a ys → R (some true) { s with heap := h' }) :
    wpAny (model P w) A (do storeSet a es1 t1; if (!dm && t1.tooFull) = true then (do g (relayAll t1 es1 (SetTable.grown es1.size)).2.2; storeSet a (relayAll t1 es1 (SetTable.grown es1.size)).1 (relayAll t1 es1 (SetTable.grown es1.size)).2.1; pure (some true)) else pure (some true)) R E s := by
  have z1 := fits_of_scanBound hb
  refine wpAny_bind (wpAny_storeSet_of ho hd ?_ z1)
  have o1 := store_at (es' := es1) (t' := t1) ho hd
  have b1 := Heap.SameBut.update s.heap a (Obj.putSet es1 t1)
  by_cases full : (!dm && t1.tooFull) = true
  · rw [if_pos full]
    have q1 := relayAll_perm t1 es1 (SetTable.grown es1.size)
    have q2 := relayAll_fits t1 es1 (SetTable.grown es1.size)
    have q3 := relayAll_ris t1 es1 (SetTable.grown es1.size)
    have q4 := relayAll_led t1 es1 (SetTable.grown es1.size)
    revert q1 q2 q3 q4
    rcases relayAll t1 es1 (SetTable.grown es1.size) with ⟨es2, t2, gave⟩
    intro q1 q2 q3 q4
    have n2 : es2.size = es1.size := by have := q1.length_eq; rw [Array.length_toList, Array.length_toList] at this; exact this
    have hb2 : es2.size < scanBound := n2 ▸ hb
    refine wpAny_bind (hg gave _ _ (wpAny_bind (wpAny_storeSet_of o1 rfl (wpAny_pure (fin _ (b1.trans (.update _ a _)) ?_)) (fits_of_scanBound hb2))))
    exact ⟨_, es2, _, t2, store_at (es' := es2) (t' := t2) o1 rfl, hx, rfl, fun e m => g1 e (q1.mem_iff.mp m), (q1.map _).trans p1, nd, hb2, q2, q3, tb.2.2.imp (fun z => z) fun z => q4.trans z⟩
  · rw [if_neg full]
    exact wpAny_pure (fin _ b1 ⟨_, es1, _, t1, o1, hx, rfl, g1, p1, nd, hb, tb⟩)
theorem addT {k : Str} {tk : Tok} {Q : Bool → Shared → Prop} (R : SetT w s.heap a xs) (room : xs.length + 1 < scanBound)
    (hQ : ∀ h', Heap.SameBut a s.heap h' → SetT w h' a (if k ∈ xs then xs else xs ++ [k]) → Q (!decide (k ∈ xs)) { s with heap := h' }) :
    wpAny (model P w) A (setAddHashed a (.str k tk) (hashStr w k)) Q E s := by
  obtain ⟨o, es, ep, t, ho, hx, hd, g, p, nd, hb, hf, hr, hl⟩ := id R
  have n1 : es.size = xs.length := by rw [← p.length_eq, names, List.length_map, Array.length_toList]
  have sc : (Value.str k tk).scannable = true := rfl
  have el := rowT_elems P g
  show wpAny (model P w) A (setAddHashed a (.str k tk) ((PySem.strKind P w).hash k)) Q E s
  unfold setAddHashed
  unfold setAddHashedIn
  refine wpAny_holding (wpAny_bind (wpAny_setState_of ho hd hf ?_)); dsimp only
  rw [byScan_of sc hb el]; simp only [↓reduceIte]
  unfold setAddByScan
  refine wpAny_bind (wpAny_bind (wpAny_rule (wpAny_bind (wpAny_setScan_of (strKind_is P w k tk) ho hd hf el ?_))))
  have mem_iff : k ∈ xs ↔ ∃ e ∈ es.toList, (PySem.strKind P w).is k e.2 = true := by
    rw [← p.mem_iff, names, List.mem_map]
    exact ⟨fun ⟨e, m, q⟩ => ⟨e, m, by rw [rowT_key P (g e m)]; exact decide_eq_true q⟩, fun ⟨e, m, q⟩ => ⟨e, m, by rw [rowT_key P (g e m)] at q; exact of_decide_eq_true q⟩⟩
  cases hfi : es.toList.findIdx? fun e => (PySem.strKind P w).is k e.2 with
  | some j =>
    dsimp only
    obtain ⟨hj, pj, _⟩ := List.findIdx?_eq_some_iff_getElem.mp hfi
    have km : k ∈ xs := mem_iff.mpr ⟨_, List.getElem_mem hj, pj⟩
    have q := hQ s.heap (.refl a s.heap) (by rw [if_pos km]; exact R)
    rw [decide_eq_true km] at q
    exact wpAny_pure (wpAny_pure q)
  | none =>
    dsimp only
    have km : ¬ k ∈ xs := fun m => by
      obtain ⟨e, me, q⟩ := mem_iff.mp m
      have := List.findIdx?_eq_none_iff.mp hfi e me
      rw [q] at this
      cases this
    have q0 := hQ
    rw [decide_eq_false km] at q0
    simp only [if_neg km] at q0
    have gw : ∀ (b : Bool) {s₁ : Shared} {Q' : Unit → Shared → Prop}, Q' () s₁ → wpAny (model P w) A (match b with | true => rule "set.scan.the-table-gave-way" | false => pure ()) Q' E s₁ := fun b _ _ q => by
      cases b
      · exact wpAny_pure q
      · exact wpAny_rule q
    have l1 := layNew_perm t es ((PySem.strKind P w).hash k) (.str k tk)
    have l2 := layNew_fits t es ((PySem.strKind P w).hash k) (.str k tk)
    have l3 := layNew_ris t es ((PySem.strKind P w).hash k) (.str k tk) hr
    have l4 := layNew_led t es ((PySem.strKind P w).hash k) (.str k tk)
    revert l1 l2 l3 l4
    rcases layNew t es ((PySem.strKind P w).hash k) (.str k tk) with ⟨es1, t1, dm, gave⟩
    intro l1 l2 l3 l4
    dsimp only at l1 l2 l3 l4 ⊢
    have l1' : es1.toList.Perm (es.toList ++ [((PySem.strKind P w).hash k, Value.str k tk)]) := by rw [← Array.toList_push]; exact l1
    have g1 : ∀ e ∈ es1.toList, RowT w e := fun e m => by
      rcases List.mem_append.mp (l1'.mem_iff.mp m) with m | m
      · exact g e m
      · rw [List.mem_singleton.mp m]; exact ⟨k, tk, rfl, rfl⟩
    have p1 : (names es1.toList).Perm (xs ++ [k]) := by
      have z := l1'.map fun e => txt e.2
      rw [List.map_append] at z
      exact z.trans (p.append_right [k])
    have nd1 : (xs ++ [k]).Nodup := List.nodup_append.mpr ⟨nd, by simp, fun x m y m' e => km (by rw [List.mem_singleton.mp m'] at e; rw [← e]; exact m)⟩
    have s1 : es1.size = xs.length + 1 := by
      have := p1.length_eq
      rw [names, List.length_map, Array.length_toList, List.length_append] at this
      exact this
    have hb1 : es1.size < scanBound := s1 ▸ room
    have led1 : w.params.followText "set-order" = true ∨ t1.led = true := hl.imp (fun z => z) fun z => l4.trans z
    refine wpAny_bind (gw gave ?_)
    by_cases pl : t1.plain = true
    · rw [if_pos pl]
      refine wpAny_bind ?_
      rw [hashByValue_scannable 8 sc]
      refine wpAny_pure (layT_tail (fun b s₁ Q' q => gw b q) ho hx hd g1 p1 nd1 hb1 ?_ fun h' sb r => ?_)
      · split
        · exact ⟨l2, l3, led1⟩
        · exact ⟨SetTable.fits_plain_off l2, l3, led1⟩
      · exact wpAny_pure (q0 h' sb r)
    · rw [if_neg pl]
      refine wpAny_bind (wpAny_pure ?_)
      simp only [↓reduceIte]
      refine layT_tail (fun b s₁ Q' q => gw b q) ho hx hd g1 p1 nd1 hb1 ⟨l2, l3, led1⟩ fun h' sb r => ?_
      exact wpAny_pure (q0 h' sb r)
end
end L2.RB
namespace L2.RB
open PySem PySem.Spec PyProof.Rows
/-- each once, in the order of the first ones -/
def addOne (ys : List Str) (x : Str) : List Str := if x ∈ ys then ys else ys ++ [x]
def ddup (xs : List Str) : List Str := xs.foldl addOne []
abbrev newSetO (w : World) : Obj := { cls := .type "set", dict := none, data := .set #[] 0 (.fresh 0 0 (!w.params.followText "set-order")) }
theorem ddup_len (xs : List Str) : (ddup xs).length ≤ xs.length := by
  have h : ∀ (xs ys : List Str), (xs.foldl addOne ys).length ≤ ys.length + xs.length := by
    intro xs
    induction xs with
    | nil => intro ys; exact Nat.le_refl _
    | cons x xs ih =>
      intro ys
      have := ih (addOne ys x)
      have l : (addOne ys x).length ≤ ys.length + 1 := by
        unfold addOne
        split
        · exact Nat.le_succ _
        · rw [List.length_append]; exact Nat.le_refl _
      rw [List.foldl_cons, List.length_cons]
      omega
  have := h xs []
  simpa [ddup] using this
theorem strs_get : ∀ {us : List Value} {xs : List Str}, StrsAre us xs → ∀ (i : Nat) (v : Value), us[i]? = some v → ∃ x t, xs[i]? = some x ∧ v = .str x t
  | _, _, .nil, i, v, e => by simp at e
  | _, _, .cons y t r, 0, v, e => ⟨y, t, rfl, (Option.some.inj (by simpa using e)).symm⟩
  | _, _, .cons y t r, i + 1, v, e => by
    obtain ⟨x, t', e1, e2⟩ := strs_get r i v (by simpa using e)
    exact ⟨x, t', by simpa using e1, e2⟩
theorem setT_new {w : World} {h : Heap} {a : Addr} (e : h.get? a = some (newSetO w)) : SetT w h a [] :=
  ⟨_, #[], 0, _, e, ⟨rfl, rfl, rfl⟩, rfl, fun _ m => absurd m (by simp), .refl _, List.nodup_nil, by decide, rfl, List.Pairwise.nil, by
    show _ ∨ (!w.params.followText "set-order") = true
    by_cases q : w.params.followText "set-order" = true
    · exact .inl q
    · exact .inr (by simpa using q)⟩
section
variable {P : Program} {w : World} {A : Around} {E : Value → Shared → Prop} {s : Shared}
theorem fillT {I : Addr} {fp wr : List Addr} {G : Array GenState → Array GenState → Prop} {n : Nat} {Pv : Nat → Value → Prop} {St : Nat → Shared → Prop} {R : Result → Shared → Prop}
    (W : WalksS P w A.in1 I fp wr G n Pv St) (S : Addr) (hS : S ∉ fp) (xs : List Str) (hn : n = xs.length) (hb : xs.length + 1 < scanBound) (hv : ∀ i v, Pv i v → ∃ x t, xs[i]? = some x ∧ v = .str x t) :
    ∀ (k i : Nat) (s : Shared), n - i = k → i ≤ n → St i s → SetT w s.heap S (ddup (xs.take i)) → (∀ s', Moved (S :: wr) G s s' → SetT w s'.heap S (ddup xs) → R (.ok (.ret .none)) s') →
      codeAny (model P w) A (.builtin "set.update.loop" ⟨[.ref S, .ref I], []⟩) R s := by
  have out : S ∉ wr := fun m => hS (W.sub _ m)
  have more : ∀ b ∈ wr, b ∈ S :: wr := fun _ m => .tail _ m
  intro k
  induction k with
  | zero =>
    intro i s hk hi st T fin
    have ei : xs.take i = xs := List.take_of_length_le (by omega)
    rw [ei] at T
    obtain rfl : i = n := by omega
    refine codeAny_builtin F.entry_set_update_loop ?_
    rw [Around.under_plainId F.plain_set_update_loop _]
    refine (show wpAny _ A.in1 (pyNext (.ref I) >>= _) _ _ s from wpAny_bind (W.done s _ _ st fun s1 mv => ?_))
    exact (show wpAny _ A.in1 (ret Value.none) _ _ s1 from wpAny_pure (fin s1 (mv.mono more) (T.at fun o e => mv.heap S o out e)))
  | succ k ih =>
    intro i s hk hi st T fin
    have lt : i < n := by omega
    refine codeAny_builtin F.entry_set_update_loop ?_
    rw [Around.under_plainId F.plain_set_update_loop _]
    refine (show wpAny _ A.in1 (pyNext (.ref I) >>= _) _ _ s from wpAny_bind (W.item i s _ _ lt st fun v s1 hp st1 mv => ?_))
    obtain ⟨x, t, ex, rfl⟩ := hv i v hp
    have T1 : SetT w s1.heap S (ddup (xs.take i)) := T.at fun o e => mv.heap S o out e
    refine (show wpAny _ A.in1 (holding [Value.str x t] (setAdd S (.str x t)) >>= _) _ _ s1 from wpAny_bind (wpAny_holding ?_))
    unfold setAdd
    refine wpAny_holding (wpAny_bind ((PySem.strKind P w).pyHash (k := x) (strKind_is P w x t) ?_))
    have dl : (ddup (xs.take i)).length ≤ i := Nat.le_trans (ddup_len _) (by rw [List.length_take]; omega)
    refine addT (s := { s1 with toks := s1.toks + 1 }) T1 (by omega) fun h2 sb T2 => ?_
    have T3 : SetT w h2 S (ddup (xs.take (i + 1))) := by
      rw [List.take_add_one, ex]
      show SetT w h2 S ((xs.take i ++ [x]).foldl addOne [])
      rw [List.foldl_append]
      exact T2
    refine wpAny_pure ⟨plainId_quiet F.plain_set_update_loop _, ih (i + 1) _ (by omega) lt (W.frame _ s1 _ _ st1 (Nat.le_succ _) fun b m o e => ?_) T3 fun s3 mv3 T4 => fin s3 (Moved.trans W.gtrans ((mv.mono more).then_heap (Nat.le_succ _) fun b o m e => ?_) mv3) T4⟩
    · exact (sb.2 b fun q => hS (q ▸ m)).trans e
    · exact (sb.2 b fun q => m (q ▸ .head _)).trans e
set_option maxHeartbeats 4000000 in
theorem call_setlist {l : Addr} {its : Array Value} (xs : List Str) {Q : Value → Shared → Prop} (hh : A.handled = none) (hl : s.heap.IsList l its) (hi : StrsAre its.toList xs) (hb : xs.length + 1 < scanBound)
    (fin : ∀ (h' : Heap) (tk : Nat), SetT w h' s.heap.objs.size (ddup xs) → (∀ b o, s.heap.get? b = some o → h'.get? b = some o) → Q (.ref s.heap.objs.size) { s with heap := h', toks := tk }) :
    wpAny (model P w) A (call (.type "set") [.ref l]) Q E s := by
  have nits : its.size = xs.length := by rw [← Array.length_toList]; exact StrsAre.len_eq hi
  have ob := newSetO w
  obtain ⟨mc, mt, mro⟩ := F.called_set.mro
  have f1 := F.called_set.made; have f2 := F.called_set.sub; have f3 := F.called_set.notType; have f4 := F.called_set.canCreate; have f5 := F.typeCall_set_1 (.ref l)
  refine wpAny_call (codeAny_of_tree (show wpAny _ _ (callAny (.type "set") _) _ _ _ from wpAny_pure ⟨Code.quiet_builtin _ (by decide +kernel), codeAny_builtin F.entry_type_call ?_⟩))
  rw [Around.under_plain (weight_type_call_type "set" [.ref l] []) rfl]
  repeat any_goals first | assumption | wp_step
  refine codeAny_mono (code_set_led1 (.ref l) (E := E) (Q₁ := fun v s1 => v = .ref s.heap.objs.size ∧ s1 = { s with heap := s.heap.push (newSetO w) }) ⟨rfl, rfl⟩) fun r s1 hr => ?_
  rcases r with er | fl
  · exact hr
  cases fl with
  | next => exact hr.elim
  | brk => exact hr.elim
  | cont => exact hr.elim
  | ret v =>
  obtain ⟨rfl, rfl⟩ := hr
  have at0 : (s.heap.push (newSetO w)).get? s.heap.objs.size = some (newSetO w) := Heap.get?_push_size _ rfl
  have ty0 : Shared.TypeIs { s with heap := s.heap.push (newSetO w) } (.ref s.heap.objs.size) "set" := ⟨_, at0, rfl⟩
  have f6 := F.called_set.init.lookup; have f7 := F.called_set.init.bind (.ref s.heap.objs.size)
  repeat any_goals first | assumption | wp_step
  refine codeAny_mono (codeAny_call_builtin (R := wants (fun r s2 => r = .none ∧ ∃ h' tk, s2 = { s with heap := h', toks := tk } ∧ SetT w h' s.heap.objs.size (ddup xs) ∧ ∀ b o, s.heap.get? b = some o → h'.get? b = some o) E) F.called_set.init.plain F.entry_set_init (check_set_init_1 ty0 ?_)) fun r s2 hr => ?_
  · obtain ⟨⟨oc, od, oda, osl⟩, hol, hcl, nl, hdl⟩ := hl
    simp only at hcl hdl
    subst hcl hdl
    have lt0 : l < s.heap.objs.size := Heap.lt_size hol
    have hol1 : (s.heap.push (newSetO w)).get? l = some { cls := .type "list", dict := od, data := .seq its nl, slots := osl } := Heap.get?_push_of_some _ hol
    have isl : (s.heap.push (newSetO w)).IsList l its := ⟨_, hol1, rfl, nl, rfl⟩
    have f8 := F.sub_list_set; have f9 := F.sub_list_frozenset
    have f10 : (Value.type "list" == Value.type "dict") = false := by decide
    have sz0 : (s.heap.push (newSetO w)).objs.size = s.heap.objs.size + 1 := Heap.size_push ..
    unfold Builtin.«set.__init__» noKeywords
    unfold Builtin.Frozenset.updateFrom
    generalize hit : pyIter = it
    wp_walk
    subst hit
    refine wpAny_pyIter_list isl (wpAny_bind (wpAny_runValue ?_))
    have ne1 : l ≠ (s.heap.push (newSetO w)).objs.size := by rw [sz0]; exact Nat.ne_of_lt (Nat.lt_succ_of_lt lt0)
    have no0 : s.heap.objs.size ∉ [(s.heap.push (newSetO w)).objs.size, l] := by
      rw [sz0]; intro m
      rcases List.mem_cons.mp m with m | m
      · exact absurd m (Nat.ne_of_lt (Nat.lt_succ_self _))
      · exact absurd (List.mem_singleton.mp m) (Nat.ne_of_gt lt0)
    refine fillT ((Walks.list (show A.in1.in1.in1.handled = none from hh) _ l ne1 its).toS) s.heap.objs.size no0 xs nits hb (fun i v e => strs_get hi i v (by rw [Array.getElem?_toList]; exact e)) its.size 0 _ rfl (Nat.zero_le _) ⟨⟨_, Heap.get?_push_size _ rfl, rfl, rfl⟩, isl.push _⟩ ?_ ?_
    · exact setT_new (Heap.get?_push_of_some _ at0)
    · rintro ⟨h2, g2, d2, t2, os2⟩ mv R2
      obtain rfl : g2 = s.gens := mv.gens
      obtain rfl : d2 = s.drawn := mv.drawn
      obtain rfl : os2 = s.os := mv.os
      refine wpAny_pure (wpAny_pure ⟨rfl, h2, t2, rfl, R2, fun b o e => mv.heap b o (fun m => ?_) (Heap.get?_push_of_some _ (Heap.get?_push_of_some _ e))⟩)
      have lb := Heap.lt_size e
      rcases List.mem_cons.mp m with m | m
      · exact absurd m (Nat.ne_of_lt lb)
      · rw [sz0] at m
        exact absurd (List.mem_singleton.mp m) (Nat.ne_of_lt (Nat.lt_succ_of_lt lb))
  · rcases r with er | fl
    · exact hr
    cases fl with
    | next => exact hr.elim
    | brk => exact hr.elim
    | cont => exact hr.elim
    | ret v =>
    obtain ⟨rfl, h2, t2, rfl, R2, k2⟩ := hr
    repeat any_goals first | assumption | wp_step
    exact fin h2 _ R2 k2
set_option maxHeartbeats 4000000 in
theorem call_settuple {l : Addr} {its : Array Value} (xs : List Str) {Q : Value → Shared → Prop} (hh : A.handled = none) (hl : s.heap.IsTuple l its) (hi : StrsAre its.toList xs) (hb : xs.length + 1 < scanBound)
    (fin : ∀ (h' : Heap) (tk : Nat), SetT w h' s.heap.objs.size (ddup xs) → (∀ b o, s.heap.get? b = some o → h'.get? b = some o) → Q (.ref s.heap.objs.size) { s with heap := h', toks := tk }) :
    wpAny (model P w) A (call (.type "set") [.ref l]) Q E s := by
  have nits : its.size = xs.length := by rw [← Array.length_toList]; exact StrsAre.len_eq hi
  have ob := newSetO w
  obtain ⟨mc, mt, mro⟩ := F.called_set.mro
  have f1 := F.called_set.made; have f2 := F.called_set.sub; have f3 := F.called_set.notType; have f4 := F.called_set.canCreate; have f5 := F.typeCall_set_1 (.ref l)
  refine wpAny_call (codeAny_of_tree (show wpAny _ _ (callAny (.type "set") _) _ _ _ from wpAny_pure ⟨Code.quiet_builtin _ (by decide +kernel), codeAny_builtin F.entry_type_call ?_⟩))
  rw [Around.under_plain (weight_type_call_type "set" [.ref l] []) rfl]
  repeat any_goals first | assumption | wp_step
  refine codeAny_mono (code_set_led1 (.ref l) (E := E) (Q₁ := fun v s1 => v = .ref s.heap.objs.size ∧ s1 = { s with heap := s.heap.push (newSetO w) }) ⟨rfl, rfl⟩) fun r s1 hr => ?_
  rcases r with er | fl
  · exact hr
  cases fl with
  | next => exact hr.elim
  | brk => exact hr.elim
  | cont => exact hr.elim
  | ret v =>
  obtain ⟨rfl, rfl⟩ := hr
  have at0 : (s.heap.push (newSetO w)).get? s.heap.objs.size = some (newSetO w) := Heap.get?_push_size _ rfl
  have ty0 : Shared.TypeIs { s with heap := s.heap.push (newSetO w) } (.ref s.heap.objs.size) "set" := ⟨_, at0, rfl⟩
  have f6 := F.called_set.init.lookup; have f7 := F.called_set.init.bind (.ref s.heap.objs.size)
  repeat any_goals first | assumption | wp_step
  refine codeAny_mono (codeAny_call_builtin (R := wants (fun r s2 => r = .none ∧ ∃ h' tk, s2 = { s with heap := h', toks := tk } ∧ SetT w h' s.heap.objs.size (ddup xs) ∧ ∀ b o, s.heap.get? b = some o → h'.get? b = some o) E) F.called_set.init.plain F.entry_set_init (check_set_init_1 ty0 ?_)) fun r s2 hr => ?_
  · obtain ⟨⟨oc, od, oda, osl⟩, hol, hcl, nl, hdl⟩ := hl
    simp only at hcl hdl
    subst hcl hdl
    have lt0 : l < s.heap.objs.size := Heap.lt_size hol
    have hol1 : (s.heap.push (newSetO w)).get? l = some { cls := .type "tuple", dict := od, data := .seq its nl, slots := osl } := Heap.get?_push_of_some _ hol
    have isl : (s.heap.push (newSetO w)).IsTuple l its := ⟨_, hol1, rfl, nl, rfl⟩
    have f8 := F.sub_tuple_set; have f9 := F.sub_tuple_frozenset
    have f10 : (Value.type "tuple" == Value.type "dict") = false := by decide
    have sz0 : (s.heap.push (newSetO w)).objs.size = s.heap.objs.size + 1 := Heap.size_push ..
    unfold Builtin.«set.__init__» noKeywords
    unfold Builtin.Frozenset.updateFrom
    generalize hit : pyIter = it
    wp_walk
    subst hit
    refine wpAny_pyIter_tuple isl (wpAny_bind (wpAny_runValue ?_))
    have ne1 : l ≠ (s.heap.push (newSetO w)).objs.size := by rw [sz0]; exact Nat.ne_of_lt (Nat.lt_succ_of_lt lt0)
    have no0 : s.heap.objs.size ∉ [(s.heap.push (newSetO w)).objs.size, l] := by
      rw [sz0]; intro m
      rcases List.mem_cons.mp m with m | m
      · exact absurd m (Nat.ne_of_lt (Nat.lt_succ_self _))
      · exact absurd (List.mem_singleton.mp m) (Nat.ne_of_gt lt0)
    refine fillT ((Walks.tuple (show A.in1.in1.in1.handled = none from hh) _ l ne1 its).toS) s.heap.objs.size no0 xs nits hb (fun i v e => strs_get hi i v (by rw [Array.getElem?_toList]; exact e)) its.size 0 _ rfl (Nat.zero_le _) ⟨⟨_, Heap.get?_push_size _ rfl, rfl, rfl⟩, isl.push _⟩ ?_ ?_
    · exact setT_new (Heap.get?_push_of_some _ at0)
    · rintro ⟨h2, g2, d2, t2, os2⟩ mv R2
      obtain rfl : g2 = s.gens := mv.gens
      obtain rfl : d2 = s.drawn := mv.drawn
      obtain rfl : os2 = s.os := mv.os
      refine wpAny_pure (wpAny_pure ⟨rfl, h2, t2, rfl, R2, fun b o e => mv.heap b o (fun m => ?_) (Heap.get?_push_of_some _ (Heap.get?_push_of_some _ e))⟩)
      have lb := Heap.lt_size e
      rcases List.mem_cons.mp m with m | m
      · exact absurd m (Nat.ne_of_lt lb)
      · rw [sz0] at m
        exact absurd (List.mem_singleton.mp m) (Nat.ne_of_lt (Nat.lt_succ_of_lt lb))
  · rcases r with er | fl
    · exact hr
    cases fl with
    | next => exact hr.elim
    | brk => exact hr.elim
    | cont => exact hr.elim
    | ret v =>
    obtain ⟨rfl, h2, t2, rfl, R2, k2⟩ := hr
    repeat any_goals first | assumption | wp_step
    exact fin h2 _ R2 k2
end
end L2.RB
namespace L2.RB
open PySem PySem.Spec PyProof.Rows
/-! ### calls of built-ins, by data -/
section
variable {K : KW} {O : List Addr} {H : Hp}
theorem RepBs.one {xs : List V} {d : D} (h : RepBs K O H xs [d]) : ∃ x, xs = [x] ∧ RepB K O H x d := by
  cases h with
  | cons h t => cases t; exact ⟨_, rfl, h⟩
theorem RepBs.two {xs : List V} {d e : D} (h : RepBs K O H xs [d, e]) : ∃ x y, xs = [x, y] ∧ RepB K O H x d ∧ RepB K O H y e := by
  cases h with
  | cons h t =>
    cases t with
    | cons h2 t => cases t; exact ⟨_, _, rfl, h, h2⟩
/-- data that are texts -/
def strsOf : List D → Option (List Str)
  | [] => some []
  | d :: ds => match d with
    | .str x => (strsOf ds).map (x :: ·)
    | _ => none
def boolsOf : List D → Option (List Bool)
  | [] => some []
  | d :: ds => match d with
    | .bl x => (boolsOf ds).map (x :: ·)
    | _ => none
def intsOf : List D → Option (List Int)
  | [] => some []
  | d :: ds => match d with
    | .int x => (intsOf ds).map (x :: ·)
    | _ => none
theorem strsOf_eq : ∀ {ds : List D} {xs : List Str}, strsOf ds = some xs → ds = xs.map D.str
  | [], xs, h => by cases h; rfl
  | d :: ds, xs, h => by
    unfold strsOf at h
    split at h
    · cases e : strsOf ds with
      | none => rw [e] at h; cases h
      | some ys =>
        rw [e] at h
        cases h
        rw [strsOf_eq e]; rfl
    · cases h
theorem boolsOf_eq : ∀ {ds : List D} {xs : List Bool}, boolsOf ds = some xs → ds = xs.map D.bl
  | [], xs, h => by cases h; rfl
  | d :: ds, xs, h => by
    unfold boolsOf at h
    split at h
    · cases e : boolsOf ds with
      | none => rw [e] at h; cases h
      | some ys =>
        rw [e] at h
        cases h
        rw [boolsOf_eq e]; rfl
    · cases h
theorem intsOf_eq : ∀ {ds : List D} {xs : List Int}, intsOf ds = some xs → ds = xs.map D.int
  | [], xs, h => by cases h; rfl
  | d :: ds, xs, h => by
    unfold intsOf at h
    split at h
    · cases e : intsOf ds with
      | none => rw [e] at h; cases h
      | some ys =>
        rw [e] at h
        cases h
        rw [intsOf_eq e]; rfl
    · cases h
@[simp] theorem strsOf_map (xs : List Str) : strsOf (xs.map D.str) = some xs := by
  induction xs with
  | nil => rfl
  | cons x xs ih => simp [strsOf, ih]
@[simp] theorem boolsOf_map (xs : List Bool) : boolsOf (xs.map D.bl) = some xs := by
  induction xs with
  | nil => rfl
  | cons x xs ih => simp [boolsOf, ih]
@[simp] theorem intsOf_map (xs : List Int) : intsOf (xs.map D.int) = some xs := by
  induction xs with
  | nil => rfl
  | cons x xs ih => simp [intsOf, ih]
theorem Reps.strs : ∀ {xs : List Str} {vs : List V} {G : Hp}, Reps K G vs (xs.map D.str) → vs = xs.map V.str
  | [], _, _, h => by cases h; rfl
  | x :: xs, _, _, h => by
    cases h with
    | cons h t => cases h; rw [Reps.strs t]; rfl
theorem Reps.bools : ∀ {xs : List Bool} {vs : List V} {G : Hp}, Reps K G vs (xs.map D.bl) → vs = xs.map V.bl
  | [], _, _, h => by cases h; rfl
  | x :: xs, _, _, h => by
    cases h with
    | cons h t => cases h; rw [Reps.bools t]; rfl
theorem Reps.ints : ∀ {xs : List Int} {vs : List V} {G : Hp}, Reps K G vs (xs.map D.int) → vs = xs.map V.int
  | [], _, _, h => by cases h; rfl
  | x :: xs, _, _, h => by
    cases h with
    | cons h t => cases h; rw [Reps.ints t]; rfl
theorem reps_strs {G : Hp} : ∀ xs : List Str, Reps K G (xs.map V.str) (xs.map D.str)
  | [] => .nil
  | x :: xs => .cons (.str x) (reps_strs xs)
theorem reps_ints {G : Hp} : ∀ xs : List Int, Reps K G (xs.map V.int) (xs.map D.int)
  | [] => .nil
  | x :: xs => .cons (.int x) (reps_ints xs)
theorem repsKs_strs {G : Hp} {kvs : List (Key × V)} {ds : List (D × D)} (h : RepKs K G kvs ds) : kvs.map (·.1) = kvs.map (·.1) := rfl
end
def lenD (ds : List D) : Res D := match ds with
  | [.tup xs] => .ok (.int xs.length)
  | [.lst xs] => .ok (.int xs.length)
  | [.scr xs] => .ok (.int xs.length)
  | [.set xs] => .ok (.int xs.length)
  | [.str x] => if x.length ≤ LIM then .ok (.int x.length) else .stuck
  | _ => .stuck
def listD (ds : List D) : Res D := match ds with
  | [.tup xs] => .ok (.lst xs)
  | [.lst xs] => .ok (.lst xs)
  | _ => .stuck
def tupleD (ds : List D) : Res D := match ds with
  | [.tup xs] => .ok (.tup xs)
  | [.lst xs] => .ok (.tup xs)
  | _ => .stuck
def allD (ds : List D) : Res D := match ds with
  | [.lst xs] => match boolsOf xs with
    | some bs => .ok (.bl (bs.all id))
    | none => .stuck
  | _ => .stuck
def anyD (ds : List D) : Res D := match ds with
  | [.lst xs] => match boolsOf xs with
    | some bs => .ok (.bl (bs.any id))
    | none => .stuck
  | _ => .stuck
def strD (ds : List D) : Res D := match ds with
  | [.int i] => if i.natAbs < 2 ^ 1900 then .ok (.str (toString i : String)) else .stuck
  | _ => .stuck
def intD (ds : List D) : Res D := match ds with
  | [.int i] => .ok (.int i)
  | [.bl b] => .ok (.int (if b then 1 else 0))
  | [.str x] => match PySem.intText? x with
    | some n => if x.length ≤ 640 then .ok (.int n) else .stuck
    | none => .stuck
  | _ => .stuck
def setD (ds : List D) : Res D := match ds with
  | [.lst xs] => match strsOf xs with
    | some ys => if ys.length < 4000 then .ok (.set (ddup ys)) else .stuck
    | none => .stuck
  | [.tup xs] => match strsOf xs with
    | some ys => if ys.length < 4000 then .ok (.set (ddup ys)) else .stuck
    | none => .stuck
  | _ => .stuck
/-- texts in their order -/
def leS (x y : Str) : Bool := !decide (y.cps.toList < x.cps.toList)
def insS (x : Str) : List Str → List Str
  | [] => [x]
  | y :: ys => if leS x y then x :: y :: ys else y :: insS x ys
def sortS (xs : List Str) : List Str := xs.foldr insS []
def sortedD (ds : List D) : Res D := match ds with
  | [.lst xs] => match strsOf xs with
    | some ys => .ok (.lst ((sortS ys).map D.str))
    | none => .stuck
  | [.set xs] => if xs.length < 4000 then .ok (.lst ((sortS xs).map D.str)) else .stuck
  | _ => .stuck
def sumD (ds : List D) : Res D := match ds with
  | [.lst xs] => match intsOf xs with
    | some ns => .ok (.int ns.sum)
    | none => .stuck
  | _ => .stuck
end L2.RB
namespace L2.RB
open PySem PySem.Spec PyProof.Rows
/-! ### the order of texts -/
theorem leS_iff {x y : Str} : leS x y = true ↔ x.cps.toList ≤ y.cps.toList := by
  unfold leS
  rw [Bool.not_eq_true', decide_eq_false_iff_not]
  exact List.not_lt
theorem str_ext {x y : Str} (h : x.cps.toList = y.cps.toList) : x = y := by
  obtain ⟨a⟩ := x
  obtain ⟨b⟩ := y
  exact congrArg Str.mk (Array.toList_inj.mp h)
theorem leS_refl (x : Str) : leS x x = true := leS_iff.mpr (List.le_refl _)
theorem leS_trans {x y z : Str} (h1 : leS x y = true) (h2 : leS y z = true) : leS x z = true := leS_iff.mpr (List.le_trans (leS_iff.mp h1) (leS_iff.mp h2))
theorem leS_antisymm {x y : Str} (h1 : leS x y = true) (h2 : leS y x = true) : x = y := str_ext (List.le_antisymm (leS_iff.mp h1) (leS_iff.mp h2))
theorem leS_total (x y : Str) : leS x y = true ∨ leS y x = true := by
  rcases List.le_total x.cps.toList y.cps.toList with h | h
  · exact .inl (leS_iff.mpr h)
  · exact .inr (leS_iff.mpr h)
abbrev Up (xs : List Str) : Prop := xs.Pairwise fun x y => leS x y = true
theorem insS_perm (x : Str) : ∀ xs : List Str, (insS x xs).Perm (x :: xs)
  | [] => .refl _
  | y :: ys => by
    unfold insS
    split
    · exact .refl _
    · exact ((insS_perm x ys).cons y).trans (.swap x y ys)
theorem insS_up (x : Str) : ∀ {xs : List Str}, Up xs → Up (insS x xs)
  | [], _ => List.pairwise_singleton _ _
  | y :: ys, h => by
    obtain ⟨h1, h2⟩ := List.pairwise_cons.mp h
    unfold insS
    split
    · rename_i hxy
      refine List.pairwise_cons.mpr ⟨fun z m => ?_, h⟩
      rcases List.mem_cons.mp m with rfl | m
      · exact hxy
      · exact leS_trans hxy (h1 z m)
    · rename_i hxy
      refine List.pairwise_cons.mpr ⟨fun z m => ?_, insS_up x h2⟩
      rcases List.mem_cons.mp ((insS_perm x ys).mem_iff.mp m) with rfl | m
      · exact (leS_total z y).resolve_left hxy
      · exact h1 z m
theorem sortS_perm : ∀ xs : List Str, (sortS xs).Perm xs
  | [] => .refl _
  | x :: xs => (insS_perm x (sortS xs)).trans ((sortS_perm xs).cons x)
theorem sortS_up : ∀ xs : List Str, Up (sortS xs)
  | [] => List.Pairwise.nil
  | x :: xs => insS_up x (sortS_up xs)
/-- two rising rows of the same texts are one -/
theorem up_one : ∀ {xs ys : List Str}, xs.Perm ys → Up xs → Up ys → xs = ys
  | [], ys, p, _, _ => (List.nil_perm.mp p).symm
  | x :: xs, [], p, _, _ => absurd p.length_eq (by simp)
  | x :: xs, y :: ys, p, h, k => by
    obtain ⟨h1, h2⟩ := List.pairwise_cons.mp h
    obtain ⟨k1, k2⟩ := List.pairwise_cons.mp k
    have e : x = y := by
      have m1 : x ∈ y :: ys := p.mem_iff.mp (.head _)
      have m2 : y ∈ x :: xs := p.mem_iff.mpr (.head _)
      rcases List.mem_cons.mp m1 with e | m1
      · exact e
      · rcases List.mem_cons.mp m2 with e | m2
        · exact e.symm
        · exact leS_antisymm (h1 y m2) (k1 x m1)
    subst e
    rw [up_one (List.Perm.cons_inv p) h2 k2]
theorem sortS_of {xs ys : List Str} (p : ys.Perm xs) (u : Up ys) : ys = sortS xs := up_one (p.trans (sortS_perm xs).symm) u (sortS_up xs)
theorem ltCps_lt : ∀ a b : List Nat, ltCps a b = decide (a < b)
  | [], [] => by simp [ltCps]
  | [], _ :: _ => by simp [ltCps]
  | _ :: _, [] => by simp [ltCps]
  | a :: r, b :: t => by
    unfold ltCps
    rw [ltCps_lt r t, Bool.eq_iff_iff]
    simp [List.cons_lt_cons_iff]
theorem up_of_rising : ∀ (p : Str) (xs : List Str), risingS p xs = true → Up (p :: xs)
  | p, [], _ => List.pairwise_singleton _ _
  | p, x :: xs, h => by
    have h' : (!ltCps x.cps.toList p.cps.toList && risingS x xs) = true := h
    obtain ⟨h1, h2⟩ := Bool.and_eq_true_iff.mp h'
    have px : leS p x = true := by rw [ltCps_lt] at h1; exact h1
    have u := up_of_rising x xs h2
    refine List.pairwise_cons.mpr ⟨fun z m => ?_, u⟩
    rcases List.mem_cons.mp m with rfl | m
    · exact px
    · exact leS_trans px ((List.pairwise_cons.mp u).1 z m)
theorem up_of_sorted : ∀ {xs : List Str}, sortedS xs = true → Up xs
  | [], _ => List.Pairwise.nil
  | p :: xs, h => up_of_rising p xs h
/-! ### the rules -/
section
variable {X : Cx} (hc : X.calm = true)
theorem one_val {x : V} {us : List Value} (r : Vals [x] us) : ∃ u, us = [u] ∧ RelV x u := by
  cases r with
  | cons h t => cases t; exact ⟨_, rfl, h⟩
theorem cr_lenD : CallR X (.builtin "len") (rDs X lenD) := by
  intro pins s σ H xs us Q I r ⟨O, ds, d, ow, h, hf, q⟩
  unfold lenD at hf
  split at hf
  · cases hf
    obtain ⟨x, rfl, hx⟩ := h.one
    obtain ⟨a, vs, rfl, s1, r1⟩ := hx.tup_inv
    exact call_len_seq pins s σ H _ us Q I r ⟨a, vs, rfl, .inr s1, by rw [r1.length]; exact q.int⟩
  · cases hf
    obtain ⟨x, rfl, hx⟩ := h.one
    obtain ⟨a, vs, rfl, s1, r1⟩ := hx.lst_inv
    exact call_len_seq pins s σ H _ us Q I r ⟨a, vs, rfl, .inl (.of s1), by rw [r1.length]; exact q.int⟩
  · cases hf
    obtain ⟨x, rfl, hx⟩ := h.one
    obtain ⟨a, rfl, s1⟩ := hx.scr_inv
    exact call_len_seq pins s σ H _ us Q I r ⟨a, _, rfl, .inl s1, by rw [List.length_map]; exact q.int⟩
  · cases hf
    obtain ⟨x, rfl, hx⟩ := h.one
    obtain ⟨a, rfl, s1, nd⟩ := hx.set_inv
    obtain ⟨u, rfl, rx⟩ := one_val r
    cases rx
    obtain ⟨R, _, _⟩ := I.hok a _ s1
    obtain ⟨o, es, ep, t, ho, hex, hd, hfi, hn, hb⟩ := SetT.size R
    have l63 : scanBound < 2 ^ 63 := by decide
    exact call_len_set ho hex hd hfi (by omega) ⟨.int _, H, I.tok _, ⟨_, by rw [hn]⟩, q.int⟩
  · split at hf
    · rename_i hz
      cases hf
      obtain ⟨x, rfl, hx⟩ := h.one
      exact call_len_str pins s σ H _ us Q I r ⟨_, by rw [hx.str_inv], by rw [← lim_eq]; exact hz, q.int⟩
    · cases hf
  · cases hf
theorem cr_listD : CallR X (.type "list") (rDs X listD) := by
  intro pins s σ H xs us Q I r ⟨O, ds, d, ow, h, hf, q⟩
  unfold listD at hf
  split at hf
  · cases hf
    obtain ⟨x, rfl, hx⟩ := h.one
    obtain ⟨a, vs, rfl, s1, r1⟩ := hx.tup_inv
    exact call_list_of pins s σ H _ us Q I r ⟨a, vs, rfl, .inr s1, fun l hl => q.lst ow hl r1⟩
  · cases hf
    obtain ⟨x, rfl, hx⟩ := h.one
    obtain ⟨a, vs, rfl, s1, r1⟩ := hx.lst_inv
    exact call_list_of pins s σ H _ us Q I r ⟨a, vs, rfl, .inl (.of s1), fun l hl => q.lst ow hl r1⟩
  · cases hf
theorem cr_tupleD : CallR X (.type "tuple") (rDs X tupleD) := by
  intro pins s σ H xs us Q I r ⟨O, ds, d, ow, h, hf, q⟩
  unfold tupleD at hf
  split at hf
  · cases hf
    obtain ⟨x, rfl, hx⟩ := h.one
    obtain ⟨a, vs, rfl, s1, r1⟩ := id hx.tup_inv
    refine call_tuple_of pins s σ H _ us Q I r ⟨a, vs, rfl, .inr ⟨s1, ?_⟩⟩
    cases hx with
    | fr hx => exact q.here hx
  · cases hf
    obtain ⟨x, rfl, hx⟩ := h.one
    obtain ⟨a, vs, rfl, s1, r1⟩ := hx.lst_inv
    exact call_tuple_of pins s σ H _ us Q I r ⟨a, vs, rfl, .inl ⟨.of s1, fun l hl => q.tup ow hl r1⟩⟩
  · cases hf
include hc in
theorem cr_allD : CallR X (.builtin "all") (rDs X allD) := by
  intro pins s σ H xs us Q I r ⟨O, ds, d, ow, h, hf, q⟩
  unfold allD at hf
  split at hf
  · split at hf
    · rename_i hb
      cases hf
      have e := boolsOf_eq hb
      subst e
      obtain ⟨x, rfl, hx⟩ := h.one
      obtain ⟨a, vs, rfl, s1, r1⟩ := hx.lst_inv
      rw [r1.bools] at s1
      exact cr_all hc pins s σ H _ us Q I r ⟨a, _, rfl, .of s1, q.bl⟩
    · cases hf
  · cases hf
include hc in
theorem cr_anyD : CallR X (.builtin "any") (rDs X anyD) := by
  intro pins s σ H xs us Q I r ⟨O, ds, d, ow, h, hf, q⟩
  unfold anyD at hf
  split at hf
  · split at hf
    · rename_i hb
      cases hf
      have e := boolsOf_eq hb
      subst e
      obtain ⟨x, rfl, hx⟩ := h.one
      obtain ⟨a, vs, rfl, s1, r1⟩ := hx.lst_inv
      rw [r1.bools] at s1
      exact cr_any hc pins s σ H _ us Q I r ⟨a, _, rfl, .of s1, q.bl⟩
    · cases hf
  · cases hf
include hc in
theorem cr_sumD : CallR X (.builtin "sum") (rDs X sumD) := by
  intro pins s σ H xs us Q I r ⟨O, ds, d, ow, h, hf, q⟩
  unfold sumD at hf
  split at hf
  · split at hf
    · rename_i hb
      cases hf
      have e := intsOf_eq hb
      subst e
      obtain ⟨x, rfl, hx⟩ := h.one
      obtain ⟨a, vs, rfl, s1, r1⟩ := hx.lst_inv
      rw [r1.ints] at s1
      exact cr_sum hc pins s σ H _ us Q I r ⟨a, _, rfl, .of s1, q.int⟩
    · cases hf
  · cases hf
theorem cr_strD : CallR X (.type "str") (rDs X strD) := by
  intro pins s σ H xs us Q I r ⟨O, ds, d, ow, h, hf, q⟩
  unfold strD at hf
  split at hf
  · split at hf
    · rename_i i hb
      cases hf
      obtain ⟨x, rfl, hx⟩ := h.one
      refine call_str_int pins s σ H _ us Q I r ⟨i, by rw [hx.int_inv], ?_, q.str⟩
      by_cases z : i.natAbs = 0
      · rw [z]; decide
      · exact Nat.lt_of_lt_of_le ((Nat.log2_lt z).mpr hb) (by decide)
    · cases hf
  · cases hf
theorem cr_intD : CallR X (.type "int") (rDs X intD) := by
  intro pins s σ H xs us Q I r ⟨O, ds, d, ow, h, hf, q⟩
  unfold intD at hf
  split at hf
  · cases hf
    obtain ⟨x, rfl, hx⟩ := h.one
    exact call_int1 pins s σ H _ us Q I r (.inl ⟨_, by rw [hx.int_inv], q.int⟩)
  · cases hf
    obtain ⟨x, rfl, hx⟩ := h.one
    exact call_int1 pins s σ H _ us Q I r (.inr ⟨_, by rw [hx.bl_inv], q.int⟩)
  · split at hf
    · split at hf
      · rename_i he hz
        cases hf
        obtain ⟨x, rfl, hx⟩ := h.one
        exact call_int_str pins s σ H _ us Q I r ⟨_, _, by rw [hx.str_inv], he, hz, q.int⟩
      · cases hf
    · cases hf
  · cases hf
end
end L2.RB
namespace L2.RB
open PySem PySem.Spec PyProof.Rows
section
variable {X : Cx} (hc : X.calm = true)
theorem ddup_mem_aux : ∀ (xs ys : List Str) (z : Str), z ∈ xs.foldl addOne ys ↔ z ∈ ys ∨ z ∈ xs
  | [], ys, z => by simp
  | x :: xs, ys, z => by
    rw [List.foldl_cons, ddup_mem_aux xs, List.mem_cons]
    unfold addOne
    split
    · rename_i h
      constructor
      · rintro (m | m)
        · exact .inl m
        · exact .inr (.inr m)
      · rintro (m | rfl | m)
        · exact .inl m
        · exact .inl h
        · exact .inr m
    · rw [List.mem_append, List.mem_singleton, or_assoc]
theorem ddup_mem {xs : List Str} {z : Str} : z ∈ ddup xs ↔ z ∈ xs := by
  unfold ddup
  rw [ddup_mem_aux]
  simp
theorem ddup_nodup (xs : List Str) : (ddup xs).Nodup := by
  have h : ∀ xs ys : List Str, ys.Nodup → (xs.foldl addOne ys).Nodup := by
    intro xs
    induction xs with
    | nil => intro ys n; exact n
    | cons x xs ih =>
      intro ys n
      refine ih _ ?_
      unfold addOne
      split
      · exact n
      · rename_i q
        refine List.nodup_append.mpr ⟨n, by simp, fun a m b m' e => q ?_⟩
        rw [List.mem_singleton.mp m'] at e
        rw [← e]; exact m
  exact h xs [] List.nodup_nil
theorem setS_new {P : Program} {w : World} {H : Hp} {h : Heap} {a : Addr} {xs : List Str} (R : SetT w h a xs) : ObjOk P w H h a (SetS P w a xs) := by
  obtain ⟨o, _, _, _, ho, _⟩ := id R
  exact ⟨R, ⟨o, ho⟩, fun h1 h2 p k => p.at k⟩
theorem cr_setD (hcalm : X.calm = true) : CallR X (.type "set") (rDs X setD) := by
  intro pins s σ H xs us Q I r ⟨O, ds, d, ow, h, hf, q⟩
  have fin : ∀ {a : Addr} {ys : List Str} {us : List Value}, Vals [V.ref a] us → Post (kw X) O H Q (.set (ddup ys)) → (∀ (Q' : Value → Shared → Prop), (∀ (h' : Heap) (tk : Nat), SetT X.w h' s.heap.objs.size (ddup ys) → (∀ b o, s.heap.get? b = some o → h'.get? b = some o) → Q' (.ref s.heap.objs.size) { s with heap := h', toks := tk }) → wpAny (model X.prog X.w) X.A (call (.type "set") [.ref a]) Q' X.xe s) →
      wpAny (model X.prog X.w) X.A (call (.type "set") us) (EP X pins σ Q) X.xe s := fun {a ys us} r q k => by
    obtain ⟨u, rfl, rx⟩ := one_val r
    cases rx
    refine k _ fun h' tk T kp => ?_
    have hp : H s.heap.objs.size = none := I.hok.fresh (Nat.le_refl _)
    refine ⟨.ref s.heap.objs.size, upd H s.heap.objs.size (SetS X.prog X.w s.heap.objs.size (ddup ys)), I.laid (t' := tk) kp (Nat.le_refl _) (setS_new T), rfl, ?_⟩
    exact q _ _ (same_new hp) (.set (by rw [cut_of (ow.fresh hp)]; exact upd_same) (ddup_nodup ys))
  have bd : (4001 : Nat) ≤ scanBound := by decide
  unfold setD at hf
  split at hf
  · split at hf
    · split at hf
      · rename_i hs hz
        cases hf
        have e := strsOf_eq hs
        subst e
        obtain ⟨x, rfl, hx⟩ := h.one
        obtain ⟨a, vs, rfl, s1, r1⟩ := hx.lst_inv
        rw [r1.strs] at s1
        obtain ⟨its, rv, pl, _⟩ := I.list (.of s1)
        exact fin r q fun Q' f => call_setlist _ (I.ok.hd hcalm) pl.isList (by simpa using rv.strs) (by omega) f
      · cases hf
    · cases hf
  · split at hf
    · split at hf
      · rename_i hs hz
        cases hf
        have e := strsOf_eq hs
        subst e
        obtain ⟨x, rfl, hx⟩ := h.one
        obtain ⟨a, vs, rfl, s1, r1⟩ := hx.tup_inv
        rw [r1.strs] at s1
        obtain ⟨its, rv, pl, _⟩ := I.tuple s1
        exact fin r q fun Q' f => call_settuple _ (I.ok.hd hcalm) pl (by simpa using rv.strs) (by omega) f
      · cases hf
    · cases hf
  · cases hf
/-- the texts of a set, put in their order -/
theorem sort_setT {a : Addr} {xs : List Str} {P : Program} {w : World} {A : Around} {E : Value → Shared → Prop} {s : Shared} {Q : Value → Shared → Prop} (R : SetT w s.heap a xs) (hh : A.handled = none) (hz : xs.length < 4000)
    (fin : ∀ s' p (out : Array Value) (c : Nat), (∀ b o, s.heap.get? b = some o → s'.heap.get? b = some o) → s'.gens = s.gens → s'.os = s.os → s.heap.objs.size ≤ p → s'.heap.get? p = some (seqObj "list" out c) → StrsAre out.toList (sortS xs) → Q (.ref p) s') :
    wpAny (model P w) A (call (.builtin "sorted") [.ref a]) Q E s := by
  obtain ⟨o, es, ep, t, ho, hx, hd, g, p, nd, hb, hf, hr, hl⟩ := R
  have sl := sizeLine_eq
  refine Calls.call_function_entry kind_sorted plain_sorted entry_sorted (args_sorted1 (.ref a)) ?_
  unfold Builtin.«sorted»
  refine wpAny_bind (m := checkCount "sorted" 1 1 _) (wpAny_pure (wpAny_bind (collect_set (A := A.in1) hh ⟨o, ho, hx.1, hd⟩ hf hb hr hl fun s1 vs k1 z1 g1 o1 pm => ?_)))
  have sv : StrsAre vs (vs.map txt) := by
    have all : ∀ v ∈ vs, ∃ x tk, v = Value.str x tk := fun v m => by
      obtain ⟨e, me, q⟩ := List.mem_map.mp (pm.mem_iff.mp m)
      obtain ⟨x, tk, e1, _⟩ := g e me
      exact ⟨x, tk, q ▸ e1⟩
    clear pm
    induction vs with
    | nil => exact .nil
    | cons v vs ih =>
      obtain ⟨x, tk, rfl⟩ := all v (.head _)
      exact .cons x tk (ih fun u m => all u (.tail _ m))
  have pv : (vs.map txt).Perm xs := by
    have z := pm.map txt
    rw [List.map_map] at z
    exact z.trans p
  have lv : vs.length = xs.length := by rw [← pv.length_eq, List.length_map]
  refine wpAny_bind (wpAny_newList ?_ (by omega))
  have at1 : (s1.heap.push (seqObj "list" vs.toArray 0)).get? s1.heap.objs.size = some (seqObj "list" vs.toArray 0) := Heap.get?_push_size _ rfl
  refine wpAny_bind (wpAny_holding (wpAny_call_entry slot_list_sort ⟨_, at1, rfl⟩ entry_list_sort (list_sort_treeKAny strKind_oneLt at1 sv.keysOf (fun v1 v2 r e => keyKind_strs (by rw [← e]; exact sv)) (by omega) fun st hp hs => ⟨_, rfl, ?_⟩) (args_list_sort _)))
  obtain ⟨ys, y1, y2, y3⟩ := sorted_out_str sv hp hs
  obtain ⟨c, hcc⟩ := sortedHeap_at (vs := vs) (out := (arrOf st).map (·.2)) at1
  have ey : ys = sortS xs := sortS_of (y2.trans pv) (up_of_sorted y3)
  refine wpAny_pure ⟨_, rfl, fin _ s1.heap.objs.size _ c (fun b u e => ?_) g1 o1 z1 hcc (ey ▸ y1)⟩
  have e1 := k1 b u e
  have l1 := Heap.lt_size e1
  show (sortedHeap (s1.heap.push (seqObj "list" vs.toArray 0)) s1.heap.objs.size vs _).get? b = some u
  rw [sortedHeap_old (Nat.ne_of_lt l1) (by rw [size_push']; exact Nat.lt_succ_of_lt l1)]
  exact Heap.get?_push_of_some _ e1
theorem cr_sortedD (hcalm : X.calm = true) : CallR X (.builtin "sorted") (rDs X sortedD) := by
  intro pins s σ H xs us Q I r ⟨O, ds, d, ow, h, hf, q⟩
  unfold sortedD at hf
  split at hf
  · split at hf
    · rename_i ys hs
      cases hf
      have e := strsOf_eq hs
      subst e
      obtain ⟨x, rfl, hx⟩ := h.one
      obtain ⟨a, vs, rfl, s1, r1⟩ := hx.lst_inv
      rw [r1.strs] at s1
      obtain ⟨its, rv, pl, hz⟩ := I.list (.of s1)
      obtain ⟨u, rfl, rx⟩ := one_val r
      cases rx
      have l1 := rv.length
      refine sorted_strsAny pl.isList rv.strs (by omega) fun out ys h1 h2 h3 => ?_
      have ey := sortS_of h2 (up_of_sorted h3)
      subst ey
      obtain ⟨ep, he⟩ := sortedAll_at s.heap its out
      have hp : H (s.heap.objs.size + 1) = none := I.hok.fresh (Nat.le_succ _)
      have hl : (List.map V.str (sortS ys)).length ≤ sizeLine := by
        rw [List.length_map, h2.length_eq]
        rw [List.length_map] at hz
        exact hz
      refine ⟨.ref _, upd H (s.heap.objs.size + 1) (.lst ((sortS ys).map V.str)), I.laid (t' := s.toks) (fun _ _ => sortedAll_old) (Nat.le_succ _) ⟨hl, out.toList, ep, vals_of_strs h1, he⟩, rfl, q.lst ow hp (reps_strs _)⟩
    · cases hf
  · split at hf
    · rename_i zs hz
      cases hf
      obtain ⟨x, rfl, hx⟩ := h.one
      obtain ⟨a, rfl, s1, nd⟩ := hx.set_inv
      obtain ⟨u, rfl, rx⟩ := one_val r
      cases rx
      obtain ⟨R, _, _⟩ := I.hok a _ s1
      refine sort_setT R (I.ok.hd hcalm) hz fun s' p out c k g o hp ho hS => ?_
      have hn : H p = none := I.hok.fresh hp
      have hl : (List.map V.str (sortS zs)).length ≤ sizeLine := by rw [List.length_map, (sortS_perm zs).length_eq, sizeLine_eq]; omega
      refine ⟨.ref p, _, ?_, rfl, q.lst ow hn (reps_strs _)⟩
      refine I.call' (ch := []) o (Un.laid k hp hn) (I.hok.laid k hp ⟨hl, out.toList, c, vals_of_strs hS, ho⟩) (by rw [g]; exact I.bare) fun _ z => nomatch z
    · cases hf
  · cases hf
end
end L2.RB
namespace L2.RB
open PySem PySem.Spec PyProof.Rows
/-! ### items, slices -/
def optD {α : Type} (f : α → D) (o : Option α) : Res D := match o with
  | some a => .ok (f a)
  | none => .stuck
def idxD (d e : D) : Res D := match d with
  | .tup xs => match e with
    | .int i => optD id (atI xs i)
    | _ => .stuck
  | .lst xs => match e with
    | .int i => optD id (atI xs i)
    | _ => .stuck
  | .scr xs => match e with
    | .int i => optD D.int (atI xs i)
    | _ => .stuck
  | .str z => match e with
    | .int i => if z.length ≤ LIM then optD (fun c => D.str ⟨#[c]⟩) (atI z.cps.toList i) else .stuck
    | _ => .stuck
  | .dct kvs => match keyOf e with
    | some _ => optD id (look kvs e)
    | none => .stuck
  | _ => .stuck
theorem optD_ok {α : Type} {f : α → D} {o : Option α} {r : D} (h : optD f o = .ok r) : ∃ a, o = some a ∧ f a = r := by
  cases o with
  | none => cases h
  | some a => cases h; exact ⟨a, rfl, rfl⟩
theorem atI_map {α β : Type} {f : α → β} {xs : List α} {i : Int} : atI (xs.map f) i = (atI xs i).map f := by
  unfold atI
  rw [List.length_map]
  cases ixN xs.length i with
  | none => rfl
  | some j => simp
theorem atI_reps {K : KW} {G : Hp} {vs : List V} {ds : List D} {i : Int} {d : D} (r : Reps K G vs ds) (h : atI ds i = some d) : ∃ v, atI vs i = some v ∧ Rep K G v d := by
  unfold atI at h ⊢
  rw [r.length]
  cases e : ixN ds.length i with
  | none => rw [e] at h; cases h
  | some j =>
    rw [e] at h
    exact r.get h
theorem ix_D {X : Cx} (hu : X.A.units + 64 < cLine) : IxR X (rD2 X idxD) := by
  intro value slice pins s σ H x y v u Q I rx ry ⟨O, d, e, r, ow, h1, h2, hf, q⟩ hs
  unfold idxD at hf
  split at hf
  · split at hf
    · obtain ⟨a, ha, rfl⟩ := optD_ok hf
      obtain ⟨p, vs, rfl, s1, r1⟩ := h1.tup_inv
      obtain ⟨z, hz, rz⟩ := atI_reps r1 ha
      exact ix_tup value slice pins s σ H _ y v u Q I rx ry ⟨p, vs, _, z, rfl, h2.int_inv, s1, hz, q.here rz⟩ hs
    · cases hf
  · split at hf
    · obtain ⟨a, ha, rfl⟩ := optD_ok hf
      obtain ⟨p, vs, rfl, s1, r1⟩ := h1.lst_inv
      obtain ⟨z, hz, rz⟩ := atI_reps r1 ha
      exact ix_list value slice pins s σ H _ y v u Q I rx ry ⟨p, vs, _, z, rfl, h2.int_inv, .of s1, hz, q.here rz⟩ hs
    · cases hf
  · split at hf
    · obtain ⟨a, ha, rfl⟩ := optD_ok hf
      obtain ⟨p, rfl, s1⟩ := h1.scr_inv
      exact ix_list value slice pins s σ H _ y v u Q I rx ry ⟨p, _, _, .int a, rfl, h2.int_inv, s1, by rw [atI_map, ha]; rfl, q.int⟩ hs
    · cases hf
  · split at hf
    · split at hf
      · rename_i hz
        obtain ⟨a, ha, rfl⟩ := optD_ok hf
        exact ix_str value slice pins s σ H _ y v u Q I rx ry ⟨_, _, a, h1.str_inv, h2.int_inv, by rw [← lim_eq]; exact hz, ha, q.str⟩ hs
      · cases hf
    · cases hf
  · split at hf
    · rename_i kvs k hk
      obtain ⟨a, ha, rfl⟩ := optD_ok hf
      have ed := keyOf_eq hk
      subst ed
      obtain ⟨p, ks, rfl, s2, r2⟩ := h1.dct_inv
      cases rx
      have ey : y = kV k := by
        cases k with
        | inl i => exact h2.int_inv
        | inr z => exact h2.str_inv
      subst ey
      rcases look_none k r2 with ⟨e1, e2⟩ | ⟨v1, d1, e1, e2, rv⟩
      · rw [e1] at ha; cases ha
      · rw [e1] at ha
        cases ha
        have g : DGet H p (kV k) (some v1) := by rw [← e2]; exact DGet.k s2
        exact tail_any (dict_typeIs I g) PySem.F.slot_dict_getitem.lookup (d_getItem (by omega) I g ry fun w' s3 I3 rw' => ⟨v1, H, I3, rw', q.here rv⟩) hs
    · cases hf
  · cases hf
def cutL {α : Type} (xs : List α) (lo hi : Option Int) : List α := (xs.drop (HT.sIx xs.length 0 lo)).take (HT.sIx xs.length xs.length hi - HT.sIx xs.length 0 lo)
def sliceD (d : D) (lo hi : Option Int) : Res D := match d with
  | .tup xs => .ok (.tup (cutL xs lo hi))
  | .lst xs => .ok (.lst (cutL xs lo hi))
  | .str z => if z.length ≤ LIM then .ok (.str ⟨(cutL z.cps.toList lo hi).toArray⟩) else .stuck
  | _ => .stuck
def rSlD (X : Cx) : V → Option Int → Option Int → Hp → VK → Prop := fun x lo hi H Q => ∃ O d r, Own O H ∧ RepB (kw X) O H x d ∧ sliceD d lo hi = .ok r ∧ Post (kw X) O H Q r
theorem cut_reps {K : KW} {G : Hp} {vs : List V} {ds : List D} (r : Reps K G vs ds) (lo hi : Option Int) : Reps K G (cutV vs lo hi) (cutL ds lo hi) := by
  unfold cutV cutL
  rw [r.length]
  exact (r.drop _).take _
theorem sl_D {X : Cx} : SlR X (rSlD X) := by
  intro pins s σ H x v vl vu lo hi sl Q I rx hs pl pu ⟨O, d, r, ow, h, hf, q⟩
  unfold sliceD at hf
  split at hf
  · rename_i xs
    cases hf
    obtain ⟨a, vs, rfl, s1, r1⟩ := id h.tup_inv
    refine sl_tupA pins s σ H _ v vl vu lo hi sl Q I rx hs pl pu ⟨a, vs, rfl, s1, fun w => ?_, fun _ p hp => q.tup ow hp (cut_reps r1 lo hi)⟩
    have e : cutL xs lo hi = xs := by
      unfold cutL
      rw [← r1.length, w.1, w.2, Nat.sub_zero, List.drop_zero, r1.length]
      exact List.take_length
    rw [e] at q
    cases h with
    | fr h => exact q.here h
  · cases hf
    obtain ⟨a, vs, rfl, s1, r1⟩ := h.lst_inv
    exact sl_list pins s σ H _ v vl vu lo hi sl Q I rx hs pl pu ⟨a, vs, rfl, .of s1, fun p hp => q.lst ow hp (cut_reps r1 lo hi)⟩
  · split at hf
    · rename_i z hz
      cases hf
      refine sl_str pins s σ H _ v vl vu lo hi sl Q I rx hs pl pu ⟨z, h.str_inv, by rw [← lim_eq]; exact hz, ?_⟩
      have e : cutS z lo hi = ⟨(cutL z.cps.toList lo hi).toArray⟩ := by
        unfold cutS cutL
        rw [Array.length_toList]
        rfl
      rw [e]
      exact q.str
    · cases hf
  · cases hf
/-- xs[::-1] -/
def revD (d : D) : Res D := match d with
  | .lst xs => .ok (.lst xs.reverse)
  | _ => .stuck
end L2.RB
namespace L2.RB
open PySem PySem.Spec PyProof.Rows
/-! ### readings of expressions -/
abbrev ED := En → Res D
abbrev AD := En → Res (List D)
abbrev TD := En → Res Bool
section
variable (X : Cx) (W : WX) (ea : Str → Addr)
/-- what a refusal asks -/
def exK (σ : St) (H : Hp) : Str → Prop := fun c => ∀ H', Same H H' → W (.ref (ea c)) none σ H'
def tE (φ : ED) : TE := fun σ H Q => ∃ O e, Rp (kw X) O e σ H ∧ RP (φ e) (Post (kw X) O H Q) (exK W ea σ H)
def tEB (φ : ED) : TE := fun σ H Q => ∃ O e, Rp (kw X) O e σ H ∧ RP (φ e) (PostB (kw X) O H Q) (exK W ea σ H)
def tEF (φ : ED) : TE := fun σ H Q => ∃ O e, Rp (kw X) O e σ H ∧ RP (φ e) (PostF (kw X) O H Q) (exK W ea σ H)
def PostA (K : KW) (O : List Addr) (H : Hp) (Q : List V → Hp → Prop) (ds : List D) : Prop := ∀ vs H', Same H H' → Reps K (cut H' O) vs ds → Q vs H'
def PostAB (K : KW) (O : List Addr) (H : Hp) (Q : List V → Hp → Prop) (ds : List D) : Prop := ∀ vs H', Same H H' → RepBs K O H' vs ds → Q vs H'
def PostT (H : Hp) (Q : Bool → Hp → Prop) (b : Bool) : Prop := ∀ H', Same H H' → Q b H'
def tA (φ : AD) : TA := fun σ H Q => ∃ O e, Rp (kw X) O e σ H ∧ RP (φ e) (PostA (kw X) O H Q) (exK W ea σ H)
def tAB (φ : AD) : TA := fun σ H Q => ∃ O e, Rp (kw X) O e σ H ∧ RP (φ e) (PostAB (kw X) O H Q) (exK W ea σ H)
def tT (φ : TD) : TT := fun σ H Q => ∃ O e, Rp (kw X) O e σ H ∧ RP (φ e) (PostT H Q) (exK W ea σ H)
/-- e reads as φ: frozen, borrowed, new -/
abbrev RE (e : Expr) (φ : ED) : Prop := PE X e (tE X W ea φ)
abbrev RB (e : Expr) (φ : ED) : Prop := PE X e (tEB X W ea φ)
abbrev RF (e : Expr) (φ : ED) : Prop := PE X e (tEF X W ea φ)
abbrev RA (es : List Expr) (φ : AD) : Prop := PA X es (tA X W ea φ)
abbrev RAB (es : List Expr) (φ : AD) : Prop := PA X es (tAB X W ea φ)
abbrev RT (e : Expr) (φ : TD) : Prop := PT X e (tT X W ea φ)
end
theorem PEby {X : Cx} {e : Expr} {t t' : TE} (h : PE X e t) (k : ∀ σ H Q, t' σ H Q → t σ H Q) : PE X e t' := ⟨fun pins s σ H Q I q => h.run pins s σ H Q I (k σ H Q q)⟩
theorem PTby {X : Cx} {e : Expr} {t t' : TT} (h : PT X e t) (k : ∀ σ H Q, t' σ H Q → t σ H Q) : PT X e t' := ⟨fun pins s σ H Q I q => h.run pins s σ H Q I (k σ H Q q)⟩
theorem PAby {X : Cx} {e : List Expr} {t t' : TA} (h : PA X e t) (k : ∀ σ H Q, t' σ H Q → t σ H Q) : PA X e t' := ⟨fun pos pins s σ H Q I q => h.run pos pins s σ H Q I (k σ H Q q)⟩
section
variable {X : Cx} {W : WX} {ea : Str → Addr}
theorem exK.mono {σ : St} {H H' : Hp} {c : Str} (h : exK W ea σ H c) (s : Same H H') : exK W ea σ H' c := fun H2 s2 => h H2 (s.trans s2)
theorem RE.bor {e : Expr} {φ : ED} (h : RE X W ea e φ) : RB X W ea e φ :=
  PEby h fun σ H Q ⟨O, en, rp, q⟩ => ⟨O, en, rp, q.mono (fun _ z => Post.weak z) fun _ z => z⟩
theorem RA.bor {e : List Expr} {φ : AD} (h : RA X W ea e φ) : RAB X W ea e φ :=
  PAby h fun σ H Q ⟨O, en, rp, q⟩ => ⟨O, en, rp, q.mono (fun _ z vs H' s r => z vs H' s (.of r)) fun _ z => z⟩
/-- the one step of all: two operands -/
theorem bnd2 {φ ψ : ED} {f : D → D → Res D} {O : List Addr} {en : En} {σ : St} {H : Hp} {Q : VK} {Z : V → V → Hp → Prop} (rp : Rp (kw X) O en σ H)
    (h : RP (do let x ← φ en; let y ← ψ en; f x y) (Post (kw X) O H Q) (exK W ea σ H))
    (k : ∀ x y H' d e, Same H H' → RepB (kw X) O H' x d → RepB (kw X) O H' y e → RP (f d e) (Post (kw X) O H' Q) (exK W ea σ H') → Z x y H') :
    tEB X W ea φ σ H fun x H1 => tEB X W ea ψ σ H1 fun y H2 => Z x y H2 := by
  refine ⟨O, en, rp, (RP_bind.mp h).mono (fun d hd x H1 s1 r1 => ⟨O, en, rp.mono s1, (RP_bind.mp hd).mono (fun e he y H2 s2 r2 => ?_) fun c z => z.mono s1⟩) fun c z => z⟩
  exact k x y H2 d e (s1.trans s2) (r1.mono s2) r2 (he.mono (fun r z => z.mono (s1.trans s2)) fun c z => z.mono (s1.trans s2))
theorem bnd1 {φ : ED} {f : D → Res D} {O : List Addr} {en : En} {σ : St} {H : Hp} {Q : VK} {Z : V → Hp → Prop} (rp : Rp (kw X) O en σ H)
    (h : RP (do let x ← φ en; f x) (Post (kw X) O H Q) (exK W ea σ H))
    (k : ∀ x H' d, Same H H' → RepB (kw X) O H' x d → RP (f d) (Post (kw X) O H' Q) (exK W ea σ H') → Z x H') :
    tEB X W ea φ σ H fun x H1 => Z x H1 :=
  ⟨O, en, rp, (RP_bind.mp h).mono (fun d hd x H1 s1 r1 => k x H1 d s1 r1 (hd.mono (fun r z => z.mono s1) fun c z => z.mono s1)) fun c z => z⟩
theorem bndA {φ : AD} {f : List D → Res D} {O : List Addr} {en : En} {σ : St} {H : Hp} {Q : VK} {Z : List V → Hp → Prop} (rp : Rp (kw X) O en σ H)
    (h : RP (do let x ← φ en; f x) (Post (kw X) O H Q) (exK W ea σ H))
    (k : ∀ x H' d, Same H H' → RepBs (kw X) O H' x d → RP (f d) (Post (kw X) O H' Q) (exK W ea σ H') → Z x H') :
    tAB X W ea φ σ H fun x H1 => Z x H1 :=
  ⟨O, en, rp, (RP_bind.mp h).mono (fun d hd x H1 s1 r1 => k x H1 d s1 r1 (hd.mono (fun r z => z.mono s1) fun c z => z.mono s1)) fun c z => z⟩
/-! ### names, constants -/
def eVar (i : Nat) : ED := fun e => match e[i]? with
  | some (.sh d) => .ok d
  | _ => .stuck
def eVarB (i : Nat) : ED := fun e => match e[i]? with
  | some (.sh d) => .ok d
  | some (.ow ds) => .ok (.lst ds)
  | some (.od ds) => .ok (.dct ds)
  | _ => .stuck
def eC (d : D) : ED := fun _ => .ok d
theorem r_var {i : Nat} {x : Str} {pos : Pos} (hx : X.N[i]? = some x) (hv : Vis X.env.scope x) (h1 : (x == Str.ofString "__debug__") = false) (h2 : (x == Str.ofString "__classdict__") = false) : RE X W ea (.Name x pos) (eVar i) := by
  refine PEby (pe_var hx hv h1 h2) fun σ H Q ⟨O, en, rp, q⟩ => ?_
  unfold eVar at q
  split at q
  · rename_i d e
    obtain ⟨v, e1, v', e2, r⟩ := rp.at_ _ _ e
    subst e2
    exact ⟨v', e1, q v' H (Same.refl _) r⟩
  · exact False.elim q
theorem r_varB {i : Nat} {x : Str} {pos : Pos} (hx : X.N[i]? = some x) (hv : Vis X.env.scope x) (h1 : (x == Str.ofString "__debug__") = false) (h2 : (x == Str.ofString "__classdict__") = false) : RB X W ea (.Name x pos) (eVarB i) := by
  refine PEby (pe_var hx hv h1 h2) fun σ H Q ⟨O, en, rp, q⟩ => ?_
  unfold eVarB at q
  split at q
  · rename_i d e
    obtain ⟨v, e1, v', e2, r⟩ := rp.at_ _ _ e
    subst e2
    exact ⟨v', e1, q v' H (Same.refl _) (.fr r)⟩
  · rename_i d e
    obtain ⟨v, e1, a, vs, e2, m, ha, r⟩ := rp.at_ _ _ e
    subst e2
    exact ⟨_, e1, q _ H (Same.refl _) (.ow m ha r)⟩
  · rename_i d e
    obtain ⟨v, e1, a, vs, e2, m, ha, r⟩ := rp.at_ _ _ e
    subst e2
    exact ⟨_, e1, q _ H (Same.refl _) (.od m ha r)⟩
  · exact False.elim q
theorem r_int {i : Int} {j : Nat} {pos : Pos} : RE X W ea (.Constant (.int i) j pos) (eC (.int i)) := PEby pe_int fun σ H Q ⟨O, en, rp, q⟩ => Post.int q
theorem r_str {i : Str} {j : Nat} {pos : Pos} : RE X W ea (.Constant (.str i) j pos) (eC (.str i)) := PEby pe_str fun σ H Q ⟨O, en, rp, q⟩ => Post.str q
theorem r_bl {i : Bool} {j : Nat} {pos : Pos} : RE X W ea (.Constant (.bool i) j pos) (eC (.bl i)) := PEby pe_bl fun σ H Q ⟨O, en, rp, q⟩ => Post.bl q
theorem r_non {j : Nat} {pos : Pos} : RE X W ea (.Constant .none j pos) (eC .non) := PEby pe_non fun σ H Q ⟨O, en, rp, q⟩ => Post.non q
theorem r_globS {x : Str} {i : Str} {t : Tok} {pos : Pos} (hg : Gl X x) (hm : X.mg x = some (.str i t)) (hd : (x == Str.ofString "__debug__") = false) : RE X W ea (.Name x pos) (eC (.str i)) :=
  PEby (pe_glob (v := .str i) hg hm ⟨t, rfl⟩ hd) fun σ H Q ⟨O, en, rp, q⟩ => Post.str q
theorem r_globI {x : Str} {i : Int} {t : Tok} {pos : Pos} (hg : Gl X x) (hm : X.mg x = some (.int i t)) (hd : (x == Str.ofString "__debug__") = false) : RE X W ea (.Name x pos) (eC (.int i)) :=
  PEby (pe_glob (v := .int i) hg hm ⟨t, rfl⟩ hd) fun σ H Q ⟨O, en, rp, q⟩ => Post.int q
/-! ### lists of expressions -/
def aNil : AD := fun _ => .ok []
def aCons (φ : ED) (ψ : AD) : AD := fun e => do let x ← φ e; let xs ← ψ e; .ok (x :: xs)
theorem ra_nil : RA X W ea [] aNil := PAby pa_nil fun σ H Q ⟨O, en, rp, q⟩ => q [] H (Same.refl _) .nil
theorem ra_cons {e : Expr} {es : List Expr} {φ : ED} {ψ : AD} (h : RE X W ea e φ) (t : RA X W ea es ψ) (hs : starEach (e :: es) X.env = (false, eval e X.env) :: starEach es X.env) : RA X W ea (e :: es) (aCons φ ψ) := by
  refine PAby (pa_cons h t hs) fun σ H Q ⟨O, en, rp, q⟩ => ?_
  exact ⟨O, en, rp, (RP_bind.mp q).mono (fun d hd x H1 s1 r1 => ⟨O, en, rp.mono s1, (RP_bind.mp hd).mono (fun ds hds xs H2 s2 r2 => hds (x :: xs) H2 (s1.trans s2) (.cons (r1.mono (cut_same s2)) r2)) fun c z => z.mono s1⟩) fun c z => z⟩
theorem rab_nil : RAB X W ea [] aNil := RA.bor ra_nil
theorem rab_cons {e : Expr} {es : List Expr} {φ : ED} {ψ : AD} (h : RB X W ea e φ) (t : RAB X W ea es ψ) (hs : starEach (e :: es) X.env = (false, eval e X.env) :: starEach es X.env) : RAB X W ea (e :: es) (aCons φ ψ) := by
  refine PAby (pa_cons h t hs) fun σ H Q ⟨O, en, rp, q⟩ => ?_
  exact ⟨O, en, rp, (RP_bind.mp q).mono (fun d hd x H1 s1 r1 => ⟨O, en, rp.mono s1, (RP_bind.mp hd).mono (fun ds hds xs H2 s2 r2 => hds (x :: xs) H2 (s1.trans s2) (.cons (r1.mono s2) r2)) fun c z => z.mono s1⟩) fun c z => z⟩
def eTup (φ : AD) : ED := fun e => do let xs ← φ e; if xs.length ≤ LIM then .ok (.tup xs) else .stuck
def eLst (φ : AD) : ED := fun e => do let xs ← φ e; if xs.length ≤ LIM then .ok (.lst xs) else .stuck
theorem r_tup {es : List Expr} {φ : AD} {k : Nat} {pos : Pos} (h : RA X W ea es φ) : RE X W ea (.Tuple es k pos) (eTup φ) := by
  refine PEby (pe_tup h) fun σ H Q ⟨O, en, rp, q⟩ => ⟨O, en, rp, (RP_bind.mp q).mono (fun ds hd vs H1 s1 r1 => ?_) fun c z => z⟩
  by_cases hl : ds.length ≤ LIM
  · rw [if_pos hl] at hd
    exact ⟨by rw [r1.length, ← lim_eq]; exact hl, fun p hp => (Post.mono s1 hd).tup (rp.mono s1).dom hp r1⟩
  · rw [if_neg hl] at hd; exact False.elim hd
theorem r_lst {es : List Expr} {φ : AD} {pos : Pos} (h : RA X W ea es φ) : RE X W ea (.List es pos) (eLst φ) := by
  refine PEby (pe_lst h) fun σ H Q ⟨O, en, rp, q⟩ => ⟨O, en, rp, (RP_bind.mp q).mono (fun ds hd vs H1 s1 r1 => ?_) fun c z => z⟩
  by_cases hl : ds.length ≤ LIM
  · rw [if_pos hl] at hd
    exact ⟨by rw [r1.length, ← lim_eq]; exact hl, fun p hp => (Post.mono s1 hd).lst (rp.mono s1).dom hp r1⟩
  · rw [if_neg hl] at hd; exact False.elim hd
theorem rf_lst {es : List Expr} {φ : AD} {pos : Pos} (h : RA X W ea es φ) : RF X W ea (.List es pos) (eLst φ) := by
  refine PEby (pe_lst h) fun σ H Q ⟨O, en, rp, q⟩ => ⟨O, en, rp, (RP_bind.mp q).mono (fun ds hd vs H1 s1 r1 => ?_) fun c z => z⟩
  by_cases hl : ds.length ≤ LIM
  · rw [if_pos hl] at hd
    obtain ⟨ds', e, k⟩ := hd
    cases e
    refine ⟨by rw [r1.length, ← lim_eq]; exact hl, fun p hp => ?_⟩
    have hp0 : H p = none := by
      cases e : H p with
      | none => rfl
      | some o => rw [s1 _ _ e] at hp; cases hp
    refine k p vs _ hp0 (s1.trans (same_new hp)) upd_same (r1.mono fun b o hb => ?_)
    obtain ⟨h1, h2⟩ := of_cut hb
    have hne : b ≠ p := ne_of_none h2 hp
    rw [cut_of (by simp [hne, h1])]
    exact same_new hp _ _ h2
  · rw [if_neg hl] at hd; exact False.elim hd
/-! ### operators -/
def eOp (f : D → D → Res D) (φ ψ : ED) : ED := fun e => do let x ← φ e; let y ← ψ e; f x y
def eUn (f : D → Res D) (φ : ED) : ED := fun e => do let x ← φ e; f x
theorem rD2_of {f : D → D → Res D} {O : List Addr} {σ : St} {H : Hp} {Q : VK} {x y : V} {d e : D} (o : Own O H) (r1 : RepB (kw X) O H x d) (r2 : RepB (kw X) O H y e) (q : RP (f d e) (Post (kw X) O H Q) (exK W ea σ H)) (nx : ∀ c, f d e ≠ .exc c) : rD2 X f x y H Q := by
  cases hf : f d e with
  | ok r => rw [hf] at q; exact ⟨O, d, e, r, o, r1, r2, hf, q⟩
  | exc c => exact absurd hf (nx c)
  | stuck => rw [hf] at q; exact False.elim q
abbrev Nx2 (f : D → D → Res D) : Prop := ∀ d e c, f d e ≠ .exc c
abbrev Nx1 (f : D → Res D) : Prop := ∀ d c, f d ≠ .exc c
abbrev NxA (f : List D → Res D) : Prop := ∀ d c, f d ≠ .exc c
theorem tOp_of {f : D → D → Res D} {φ ψ : ED} (nx : Nx2 f) {σ : St} {H : Hp} {Q : VK} (h : tE X W ea (eOp f φ ψ) σ H Q) : tOp (rD2 X f) (tEB X W ea φ) (tEB X W ea ψ) σ H Q := by
  obtain ⟨O, en, rp, q⟩ := h
  exact bnd2 rp q fun x y H' d e s r1 r2 q' => rD2_of (rp.mono s).dom r1 r2 q' (nx d e)
theorem r_op {a b : Expr} {op : Operator} {pos : Pos} {φ ψ : ED} {f : D → D → Res D} (nx : Nx2 f) (ho : OpR X (binaryOp op) (rD2 X f)) (ha : RB X W ea a φ) (hb : RB X W ea b ψ) : RE X W ea (.BinOp a op b pos) (eOp f φ ψ) :=
  PEby (pe_op ho ha hb) fun σ H Q h => tOp_of nx h
theorem r_un {a : Expr} {op : UnaryOp} {pos : Pos} {φ : ED} {f : D → Res D} (nx : Nx1 f) (ho : UnR X (unaryOp op) (rD1 X f)) (ha : RB X W ea a φ) : RE X W ea (.UnaryOp op a pos) (eUn f φ) := by
  refine PEby (pe_un ho ha) fun σ H Q ⟨O, en, rp, q⟩ => bnd1 rp q fun x H' d s r1 q' => ?_
  cases hf : f d with
  | ok r => rw [hf] at q'; exact ⟨O, d, r, (rp.mono s).dom, r1, hf, q'⟩
  | exc c => exact absurd hf (nx d c)
  | stuck => rw [hf] at q'; exact False.elim q'
theorem r_cmp {a b : Expr} {op : CmpOp} {pos : Pos} {φ ψ : ED} {f : D → D → Res D} (nx : Nx2 f) (ho : OpR X (compareOp op) (rD2 X f)) (ha : RB X W ea a φ) (hb : RB X W ea b ψ) (hm : behindInMarks op b = false) : RE X W ea (.Compare a [op] [b] pos) (eOp f φ ψ) :=
  PEby (pe_cmpR ho ha hb hm) fun σ H Q h => tOp_of nx h
theorem r_ix {a b : Expr} {pos : Pos} {φ ψ : ED} (hu : X.A.units + 64 < cLine) (nx : Nx2 idxD) (ha : RB X W ea a φ) (hb : RB X W ea b ψ) (hp : PlainIx b) : RE X W ea (.Subscript a b pos) (eOp idxD φ ψ) :=
  PEby (pe_ix (ix_D hu) ha hb hp) fun σ H Q h => tOp_of nx h
/-- a value as a test -/
def bT : D → Res Bool
  | .bl b => .ok b
  | _ => .stuck
def tV (φ : ED) : TD := fun e => do let x ← φ e; bT x
theorem rt_val {e : Expr} {φ : ED} (h : RB X W ea e φ) (hw : ∀ (whole : Sem Value), PySem.isTrue e X.env whole = (do let v ← whole; standAt e.pos; holding [v] (truthy v))) : RT X W ea e (tV φ) := by
  refine PTby (pt_val h hw) fun σ H Q ⟨O, en, rp, q⟩ => ⟨O, en, rp, (RP_bind.mp q).mono (fun d hd x H1 s1 r1 => ?_) fun c z => z⟩
  cases d with
  | bl b => exact ⟨b, r1.bl_inv, hd H1 s1⟩
  | _ => exact False.elim hd
theorem rt_cmp {a b : Expr} {op : CmpOp} {pos : Pos} {φ ψ : ED} {f : D → D → Res D} (nx : Nx2 f) (ho : OpR X (compareOp op) (rD2 X f)) (ha : RB X W ea a φ) (hb : RB X W ea b ψ) (hm : behindInMarks op b = false) : RT X W ea (.Compare a [op] [b] pos) (tV (eOp f φ ψ)) := by
  refine PTby (pt_cmpR ho ha hb hm) fun σ H Q ⟨O, en, rp, q⟩ => ?_
  refine tOp_of (W := W) (ea := ea) nx ⟨O, en, rp, (RP_bind.mp q).mono (fun d hd x H1 s1 r1 => ?_) fun c z => z⟩
  cases d with
  | bl b => exact ⟨b, by cases r1; rfl, hd H1 s1⟩
  | _ => exact False.elim hd
/-! ### and, or, not, if -/
def tAndD (φ ψ : TD) : TD := fun e => do let b ← φ e; if b then ψ e else .ok false
def tOrD (φ ψ : TD) : TD := fun e => do let b ← φ e; if b then .ok true else ψ e
def tNotD (φ : TD) : TD := fun e => do let b ← φ e; .ok (!b)
def eOfT (φ : TD) : ED := fun e => do let b ← φ e; .ok (.bl b)
abbrev RW (X : Cx) (W : WX) (ea : Str → Addr) (e : Expr) (φ : TD) : Prop := PW X e (tT X W ea φ)
theorem PWby {X : Cx} {e : Expr} {t t' : TT} (h : PW X e t) (k : ∀ σ H Q, t' σ H Q → t σ H Q) : PW X e t' := ⟨fun wh pins s σ H Q I q => h.run wh pins s σ H Q I (k σ H Q q)⟩
theorem tAnd_of {φ ψ : TD} {σ : St} {H : Hp} {Q : Bool → Hp → Prop} (h : tT X W ea (tAndD φ ψ) σ H Q) : tAnd (tT X W ea φ) (tT X W ea ψ) σ H Q := by
  obtain ⟨O, en, rp, q⟩ := h
  refine ⟨O, en, rp, (RP_bind.mp q).mono (fun b hb H1 s1 => ?_) fun c z => z⟩
  cases b with
  | true => exact ⟨O, en, rp.mono s1, RP.mono hb (fun c z H2 s2 => z H2 (s1.trans s2)) fun c z => z.mono s1⟩
  | false => exact hb H1 s1
theorem tOr_of {φ ψ : TD} {σ : St} {H : Hp} {Q : Bool → Hp → Prop} (h : tT X W ea (tOrD φ ψ) σ H Q) : tOr (tT X W ea φ) (tT X W ea ψ) σ H Q := by
  obtain ⟨O, en, rp, q⟩ := h
  refine ⟨O, en, rp, (RP_bind.mp q).mono (fun b hb H1 s1 => ?_) fun c z => z⟩
  cases b with
  | true => exact hb H1 s1
  | false => exact ⟨O, en, rp.mono s1, RP.mono hb (fun c z H2 s2 => z H2 (s1.trans s2)) fun c z => z.mono s1⟩
theorem rw_and {a b : Expr} {rest : List Expr} {pos : Pos} {φ ψ : TD} (ha : RT X W ea a φ) (hb : RW X W ea (.BoolOp .And (b :: rest) pos) ψ) : RW X W ea (.BoolOp .And (a :: b :: rest) pos) (tAndD φ ψ) :=
  PWby (pw_and ha hb) fun σ H Q h => tAnd_of h
theorem rw_or {a b : Expr} {rest : List Expr} {pos : Pos} {φ ψ : TD} (ha : RT X W ea a φ) (hb : RW X W ea (.BoolOp .Or (b :: rest) pos) ψ) : RW X W ea (.BoolOp .Or (a :: b :: rest) pos) (tOrD φ ψ) :=
  PWby (pw_or ha hb) fun σ H Q h => tOr_of h
theorem rw_and1 {a : Expr} {pos : Pos} {φ : TD} (ha : RT X W ea a φ) : RW X W ea (.BoolOp .And [a] pos) φ := pw_and1 ha
theorem rw_or1 {a : Expr} {pos : Pos} {φ : TD} (ha : RT X W ea a φ) : RW X W ea (.BoolOp .Or [a] pos) φ := pw_or1 ha
theorem RW.rt {e : Expr} {φ : TD} (h : RW X W ea e φ) : RT X W ea e φ := PW.pt h
theorem rt_not {a : Expr} {pos : Pos} {φ : TD} (ha : RT X W ea a φ) : RT X W ea (.UnaryOp .Not a pos) (tNotD φ) := by
  refine PTby (pt_not ha) fun σ H Q ⟨O, en, rp, q⟩ => ⟨O, en, rp, (RP_bind.mp q).mono (fun b hb H1 s1 => hb H1 s1) fun c z => z⟩
/-- and, or of truth values -/
def eAnd (φ ψ : ED) : ED := fun e => do let x ← φ e; let b ← bT x; if b then ψ e else .ok (.bl false)
def eOr (φ ψ : ED) : ED := fun e => do let x ← φ e; let b ← bT x; if b then .ok (.bl true) else ψ e
def eNot (φ : ED) : ED := fun e => do let x ← φ e; let b ← bT x; .ok (.bl (!b))
theorem r_and {a b : Expr} {rest : List Expr} {pos : Pos} {φ ψ : ED} (ha : RB X W ea a φ) (hb : RE X W ea (.BoolOp .And (b :: rest) pos) ψ) : RE X W ea (.BoolOp .And (a :: b :: rest) pos) (eAnd φ ψ) := by
  refine PEby (pe_and ha hb) fun σ H Q ⟨O, en, rp, q⟩ => ⟨O, en, rp, (RP_bind.mp q).mono (fun d hd x H1 s1 r1 => ?_) fun c z => z⟩
  cases d with
  | bl b =>
    refine ⟨b, r1.bl_inv, ?_⟩
    cases b with
    | true => exact ⟨O, en, rp.mono s1, RP.mono hd (fun r z => Post.mono s1 z) fun c z => z.mono s1⟩
    | false => exact (Post.mono s1 hd).bl
  | _ => exact False.elim hd
theorem r_or {a b : Expr} {rest : List Expr} {pos : Pos} {φ ψ : ED} (ha : RB X W ea a φ) (hb : RE X W ea (.BoolOp .Or (b :: rest) pos) ψ) : RE X W ea (.BoolOp .Or (a :: b :: rest) pos) (eOr φ ψ) := by
  refine PEby (pe_or ha hb) fun σ H Q ⟨O, en, rp, q⟩ => ⟨O, en, rp, (RP_bind.mp q).mono (fun d hd x H1 s1 r1 => ?_) fun c z => z⟩
  cases d with
  | bl b =>
    refine ⟨b, r1.bl_inv, ?_⟩
    cases b with
    | true => exact (Post.mono s1 hd).bl
    | false => exact ⟨O, en, rp.mono s1, RP.mono hd (fun r z => Post.mono s1 z) fun c z => z.mono s1⟩
  | _ => exact False.elim hd
theorem r_one {a : Expr} {op : BoolOp} {pos : Pos} {φ : ED} (ha : RE X W ea a φ) : RE X W ea (.BoolOp op [a] pos) φ := pe_one ha
theorem r_not {a : Expr} {pos : Pos} {φ : ED} (ha : RB X W ea a φ) : RE X W ea (.UnaryOp .Not a pos) (eNot φ) := by
  refine PEby (pe_not ha) fun σ H Q ⟨O, en, rp, q⟩ => ⟨O, en, rp, (RP_bind.mp q).mono (fun d hd x H1 s1 r1 => ?_) fun c z => z⟩
  cases d with
  | bl b => exact ⟨b, r1.bl_inv, (Post.mono s1 hd).bl⟩
  | _ => exact False.elim hd
def eIf (τ : TD) (φ ψ : ED) : ED := fun e => do let b ← τ e; if b then φ e else ψ e
theorem r_if {a b c : Expr} {pos : Pos} {τ : TD} {φ ψ : ED} (hc : RT X W ea c τ) (ha : RE X W ea a φ) (hb : RE X W ea b ψ) : RE X W ea (.IfExp c a b pos) (eIf τ φ ψ) := by
  refine PEby (pe_ifExp hc ha hb) fun σ H Q ⟨O, en, rp, q⟩ => ⟨O, en, rp, (RP_bind.mp q).mono (fun b hb H1 s1 => ?_) fun c z => z⟩
  cases b with
  | true => exact ⟨O, en, rp.mono s1, RP.mono hb (fun c z => Post.mono s1 z) fun c z => z.mono s1⟩
  | false => exact ⟨O, en, rp.mono s1, RP.mono hb (fun c z => Post.mono s1 z) fun c z => z.mono s1⟩
/-- a < b < c -/
def eChain (f g : D → D → Res D) (φ ψ χ : ED) : ED := fun e => do let x ← φ e; let y ← ψ e; let r ← f x y; let b ← bT r; if b then (do let z ← χ e; g y z) else .ok (.bl false)
theorem tChain_of {f g : D → D → Res D} {φ ψ χ : ED} (nf : Nx2 f) (ng : Nx2 g) {σ : St} {H : Hp} {Q : VK} (h : tE X W ea (eChain f g φ ψ χ) σ H Q) : tChain (rD2 X f) (rD2 X g) (tEB X W ea φ) (tEB X W ea ψ) (tEB X W ea χ) σ H Q := by
  obtain ⟨O, en, rp, q⟩ := h
  refine ⟨O, en, rp, (RP_bind.mp q).mono (fun d hd x H1 s1 r1 => ⟨O, en, rp.mono s1, (RP_bind.mp hd).mono (fun e he y H2 s2 r2 => ?_) fun c z => z.mono s1⟩) fun c z => z⟩
  have s12 := s1.trans s2
  cases hf : f d e with
  | exc c => exact absurd hf (nf d e c)
  | stuck => rw [hf] at he; exact False.elim he
  | ok r =>
    rw [hf] at he
    refine ⟨O, d, e, r, (rp.mono s12).dom, r1.mono s2, r2, hf, fun z H3 s3 rz => ?_⟩
    cases r with
    | bl b =>
      refine ⟨b, by cases rz; rfl, ?_⟩
      have s13 := s12.trans s3
      cases b with
      | true =>
        have he' : RP (do let z ← χ en; g e z) (Post (kw X) O H Q) (exK W ea σ H) := he
        refine ⟨O, en, rp.mono s13, (RP_bind.mp he').mono (fun u hu z2 H4 s4 r4 => ?_) fun c z => z.mono s13⟩
        exact rD2_of (W := W) (ea := ea) (σ := σ) (rp.mono (s13.trans s4)).dom ((r2.mono s3).mono s4) r4 (hu.mono (fun r z => Post.mono (s13.trans s4) z) fun c z => z.mono (s13.trans s4)) (ng _ _)
      | false => exact (Post.mono s13 he).bl
    | _ => exact False.elim he
theorem r_chain {a b c : Expr} {op op' : CmpOp} {pos : Pos} {f g : D → D → Res D} {φ ψ χ : ED} (nf : Nx2 f) (ng : Nx2 g) (h1 : OpR X (compareOp op) (rD2 X f)) (h2 : OpR X (compareOp op') (rD2 X g)) (ha : RB X W ea a φ) (hb : RB X W ea b ψ) (hc : RB X W ea c χ)
    (hm : lastMarks [op, op'] [b, c] = false) : RE X W ea (.Compare a [op, op'] [b, c] pos) (eChain f g φ ψ χ) := PEby (pe_chain h1 h2 ha hb hc hm) fun σ H Q h => tChain_of nf ng h
theorem rt_chain {a b c : Expr} {op op' : CmpOp} {pos : Pos} {f g : D → D → Res D} {φ ψ χ : ED} (nf : Nx2 f) (ng : Nx2 g) (h1 : OpR X (compareOp op) (rD2 X f)) (h2 : OpR X (compareOp op') (rD2 X g)) (ha : RB X W ea a φ) (hb : RB X W ea b ψ) (hc : RB X W ea c χ)
    (hm : lastMarks [op, op'] [b, c] = false) : RT X W ea (.Compare a [op, op'] [b, c] pos) (tV (eChain f g φ ψ χ)) := by
  refine PTby (pt_chain h1 h2 ha hb hc hm) fun σ H Q ⟨O, en, rp, q⟩ => ?_
  refine tChain_of (W := W) (ea := ea) nf ng ⟨O, en, rp, (RP_bind.mp q).mono (fun d hd x H1 s1 r1 => ?_) fun c z => z⟩
  cases d with
  | bl b => exact ⟨b, by cases r1; rfl, hd H1 s1⟩
  | _ => exact False.elim hd
/-! ### calls of built-ins -/
def eCall (f : List D → Res D) (φ : AD) : ED := fun e => do let xs ← φ e; f xs
theorem tCB_of {f : List D → Res D} {φ : AD} (nx : NxA f) {σ : St} {H : Hp} {Q : VK} (h : tE X W ea (eCall f φ) σ H Q) : tCB (rDs X f) (tAB X W ea φ) σ H Q := by
  obtain ⟨O, en, rp, q⟩ := h
  refine bndA rp q fun x H' d s r1 q' => ?_
  cases hf : f d with
  | ok r => rw [hf] at q'; exact ⟨O, d, r, (rp.mono s).dom, r1, hf, q'⟩
  | exc c => exact absurd hf (nx d c)
  | stuck => rw [hf] at q'; exact False.elim q'
theorem r_callB {x : Str} {p pos : Pos} {e : Expr} {es : List Expr} {φ : AD} {id : String} {f : List D → Res D} (nx : NxA f) (hc : CallR X (.builtin id) (rDs X f)) (hg : Gl X x) (hm : X.mg x = none) (hb : bootBuiltins x = some (.builtin id)) (ha : RAB X W ea (e :: es) φ)
    (hn : x ≠ Str.ofString "__name__") (hd : (x == Str.ofString "__debug__") = false) (h1 : starEach (e :: es) X.env = (false, eval e X.env) :: starEach es X.env) (h2 : ((backTo pos (starEach es X.env)).any fun x => x.fst) = false) :
    RE X W ea (.Call (.Name x p) (e :: es) [] pos) (eCall f φ) := PEby (pe_callB hc hg hm hb ha hn hd h1 h2) fun σ H Q h => tCB_of nx h
theorem r_callTy {x : Str} {p pos : Pos} {e : Expr} {es : List Expr} {φ : AD} {id : String} {f : List D → Res D} (nx : NxA f) (hc : CallR X (.type id) (rDs X f)) (hg : Gl X x) (hm : X.mg x = none) (hb : bootBuiltins x = some (.type id)) (ha : RAB X W ea (e :: es) φ)
    (hn : x ≠ Str.ofString "__name__") (hd : (x == Str.ofString "__debug__") = false) (h1 : starEach (e :: es) X.env = (false, eval e X.env) :: starEach es X.env) (h2 : ((backTo pos (starEach es X.env)).any fun x => x.fst) = false) :
    RE X W ea (.Call (.Name x p) (e :: es) [] pos) (eCall f φ) := PEby (pe_callTy hc hg hm hb ha hn hd h1 h2) fun σ H Q h => tCB_of nx h
/-! ### calls of the program's functions -/
/-- what a function keeps -/
def spD (K : KW) (ea : Str → Addr) (φ : List D → Res D) : Sp := fun vs H Q E => ∃ O ds, Own O H ∧ Reps K (cut H O) vs ds ∧ RP (φ ds) (Post K O H Q) fun c => ∀ H', Same H H' → E (.ref (ea c)) none H'
theorem r_callS {k : Nat} {f : Addr} {fd : FuncData} {ps : List Str} {φ : AD} {g : List D → Res D} {x : Str} {p pos : Pos} {e : Expr} {es : List Expr} (F : FnOk X.prog X.w X.K X.mg X.base (CX X.prog X.w) k f fd ps (spD (kw X) ea g)) (hr : Room k X.A) (hg : Gl X x)
    (hm : X.mg x = some (.ref f)) (hk : PySem.W.keepIn X.K (.ref f) = true) (hb : L2.Binds X.K fd ps []) (tk : Takes X W) (ha : RA X W ea (e :: es) φ)
    (hd : (x == Str.ofString "__debug__") = false) (h1 : starEach (e :: es) X.env = (false, eval e X.env) :: starEach es X.env) (h2 : ((backTo pos (starEach es X.env)).any fun x => x.fst) = false) :
    RE X W ea (.Call (.Name x p) (e :: es) [] pos) (eCall g φ) := by
  refine PEby (pe_callS F hr hg hm hk hb (passAt tk) ha hd h1 h2) fun σ H Q ⟨O, en, rp, q⟩ => ?_
  exact ⟨O, en, rp, (RP_bind.mp q).mono (fun ds hds vs H1 s1 r1 => ⟨O, ds, (rp.mono s1).dom, r1, hds.mono (fun r z => Post.mono s1 z) fun c z => z.mono s1⟩) fun c z => z⟩
/-- .. that tells a flat thing: its arguments may be one's own -/
def flatD : D → Bool
  | .non => true
  | .bl _ => true
  | .int _ => true
  | .str _ => true
  | _ => false
def flatR : Res D → Res D
  | .ok d => if flatD d then .ok d else .stuck
  | r => r
theorem RepBs.weak {K : KW} {O : List Addr} {H : Hp} : ∀ {vs : List V} {ds : List D}, RepBs K O H vs ds → Reps K H vs ds
  | _, _, .nil => .nil
  | _, _, .cons h t => .cons h.weak t.weak
theorem rep_flat {K : KW} {G G' : Hp} {v : V} {d : D} (h : Rep K G v d) (f : flatD d = true) : Rep K G' v d := by
  cases h with
  | non => exact .non
  | bl b => exact .bl b
  | int b => exact .int b
  | str b => exact .str b
  | _ => cases f
theorem r_callW {k : Nat} {f : Addr} {fd : FuncData} {ps : List Str} {φ : AD} {g : List D → Res D} {x : Str} {p pos : Pos} {e : Expr} {es : List Expr} (F : FnOk X.prog X.w X.K X.mg X.base (CX X.prog X.w) k f fd ps (spD (kw X) ea g)) (hr : Room k X.A) (hg : Gl X x)
    (hm : X.mg x = some (.ref f)) (hk : PySem.W.keepIn X.K (.ref f) = true) (hb : L2.Binds X.K fd ps []) (tk : Takes X W) (ha : RAB X W ea (e :: es) φ)
    (hd : (x == Str.ofString "__debug__") = false) (h1 : starEach (e :: es) X.env = (false, eval e X.env) :: starEach es X.env) (h2 : ((backTo pos (starEach es X.env)).any fun x => x.fst) = false) :
    RE X W ea (.Call (.Name x p) (e :: es) [] pos) (eCall (fun ds => flatR (g ds)) φ) := by
  refine PEby (pe_callS F hr hg hm hk hb (passAt tk) ha hd h1 h2) fun σ H Q ⟨O, en, rp, q⟩ => ?_
  refine ⟨O, en, rp, (RP_bind.mp q).mono (fun ds hds vs H1 s1 r1 => ⟨[], ds, fun _ m => absurd m (List.not_mem_nil), by rw [cut_nil]; exact r1.weak, ?_⟩) fun c z => z⟩
  have hds : RP (flatR (g ds)) (Post (kw X) O H Q) (exK W ea σ H) := hds
  cases hgd : g ds with
  | stuck => rw [hgd] at hds; exact False.elim hds
  | exc c => rw [hgd] at hds; exact fun H' s => hds H' (s1.trans s)
  | ok d =>
    rw [hgd] at hds
    unfold flatR at hds
    by_cases hf : flatD d = true
    · simp only [hf, if_true] at hds
      exact fun v H' s r => hds v H' (s1.trans s) (rep_flat r hf)
    · simp only [hf] at hds
      exact False.elim hds
/-! ### slices -/
def oNone : En → Res (Option Int) := fun _ => .ok none
def oSome (φ : ED) : En → Res (Option Int) := fun e => do
  let x ← φ e
  match x with
  | .int i => .ok (some i)
  | _ => .stuck
def eSl (φ : ED) (l u : En → Res (Option Int)) : ED := fun e => do let x ← φ e; let i ← l e; let j ← u e; sliceD x i j
def tO (X : Cx) (W : WX) (ea : Str → Addr) (φ : En → Res (Option Int)) : TO := fun σ H Q => ∃ O e, Rp (kw X) O e σ H ∧ RP (φ e) (fun i => ∀ H', Same H H' → Q i H') (exK W ea σ H)
abbrev RO (X : Cx) (W : WX) (ea : Str → Addr) (e : Option Expr) (φ : En → Res (Option Int)) : Prop := PO X e (tO X W ea φ)
theorem ro_none : RO X W ea none oNone := ⟨fun pins s σ H Q I ⟨O, en, rp, q⟩ => po_none.run pins s σ H Q I (q H (Same.refl _))⟩
theorem ro_some {e : Expr} {φ : ED} (h : RB X W ea e φ) : RO X W ea (some e) (oSome φ) := by
  refine ⟨fun pins s σ H Q I ⟨O, en, rp, q⟩ => (po_some h).run pins s σ H Q I ⟨O, en, rp, (RP_bind.mp q).mono (fun d hd x H1 s1 r1 => ?_) fun c z => z⟩⟩
  cases d with
  | int i => exact ⟨i, r1.int_inv, hd H1 s1⟩
  | _ => exact False.elim hd
theorem sliceD_nx {d : D} {i j : Option Int} {c : Str} : sliceD d i j ≠ .exc c := by
  unfold sliceD
  repeat' split
  all_goals exact fun z => nomatch z
theorem r_slice {e : Expr} {lo hi : Option Expr} {pos p2 : Pos} {φ : ED} {l u : En → Res (Option Int)} (h : RB X W ea e φ) (h1 : RO X W ea lo l) (h2 : RO X W ea hi u) : RE X W ea (.Subscript e (.Slice lo hi none p2) pos) (eSl φ l u) := by
  refine PEby (pe_slice sl_D h h1 h2) fun σ H Q ⟨O, en, rp, q⟩ => ?_
  refine ⟨O, en, rp, (RP_bind.mp q).mono (fun d hd x H1 s1 r1 => ⟨O, en, rp.mono s1, (RP_bind.mp hd).mono (fun i hi H2 s2 => ⟨O, en, rp.mono (s1.trans s2), (RP_bind.mp hi).mono (fun j hj H3 s3 => ?_) fun c z => z.mono (s1.trans s2)⟩) fun c z => z.mono s1⟩) fun c z => z⟩
  have s := (s1.trans s2).trans s3
  cases hf : sliceD d i j with
  | ok r => rw [hf] at hj; exact ⟨O, d, r, (rp.mono s).dom, (r1.mono s2).mono s3, hf, Post.mono s hj⟩
  | exc c => exact absurd hf sliceD_nx
  | stuck => rw [hf] at hj; exact False.elim hj
end
end L2.RB
namespace L2.RB
open PySem PySem.Spec PyProof.Rows
/-! ### what is walked -/
/-- the walk J goes over ds while G stands; G0 what is frozen -/
def Yields (K : KW) (G G0 : Hp) (J : It) (ds : List D) : Prop := ∀ i H, Same G H → (i = ds.length → J.stop i H) ∧ ∀ d, ds[i]? = some d → J.go i H ∧ ∀ x H', J.yld i H x H' → Same H H' ∧ ∀ O, Own O H → Same G0 (cut H O) → Rep K (cut H' O) x d
def tI (X : Cx) (W : WX) (ea : Str → Addr) (φ : AD) : TI := fun σ H R => ∃ O e, Rp (kw X) O e σ H ∧ RP (φ e) (fun ds => ∀ J H1, Same H H1 → Yields (kw X) (cut H1 O) (cut H1 O) J ds → R J H1) (exK W ea σ H)
def tIB (X : Cx) (W : WX) (ea : Str → Addr) (φ : AD) : TI := fun σ H R => ∃ O e, Rp (kw X) O e σ H ∧ RP (φ e) (fun ds => ∀ J H1, Same H H1 → Yields (kw X) H1 (cut H1 O) J ds → R J H1) (exK W ea σ H)
abbrev RI (X : Cx) (W : WX) (ea : Str → Addr) (tg e : Expr) (φ : AD) : Prop := PI X tg e (tI X W ea φ)
abbrev RIB (X : Cx) (W : WX) (ea : Str → Addr) (tg e : Expr) (φ : AD) : Prop := PI X tg e (tIB X W ea φ)
theorem Yields.weak {K : KW} {G G' G0 : Hp} {J : It} {ds : List D} (s : Same G G') (h : Yields K G G0 J ds) : Yields K G' G0 J ds := fun i H sm => h i H (s.trans sm)
def signsD (x : Str) : List D := x.cps.toList.map fun c => D.str ⟨#[c]⟩
def srcD : D → Res (List D)
  | .lst ds => .ok ds
  | .tup ds => .ok ds
  | .str x => .ok (signsD x)
  | .scr ns => .ok (ns.map D.int)
  | _ => .stuck
theorem Rep.of_reps {K : KW} {G : Hp} {vs : List V} {ds : List D} {i : Nat} {x : V} {d : D} (r : Reps K G vs ds) (h1 : vs[i]? = some x) (h2 : ds[i]? = some d) : Rep K G x d := by
  obtain ⟨d', e, rr⟩ := r.get' h1
  rw [e] at h2; cases h2
  exact rr
theorem y_list {K : KW} {G G0 : Hp} {a : Addr} {vs : List V} {ds : List D} (h : ∀ H, Same G H → SqL K.K H a vs) (r : Reps K G0 vs ds) : Yields K G G0 (Itl K.K a) ds := fun i H s => by
  refine ⟨fun hi => ⟨vs, h H s, by rw [r.length, hi]; exact Nat.le_refl _⟩, fun d hd => ?_⟩
  obtain ⟨v, hv, rv⟩ := r.get hd
  refine ⟨⟨vs, v, h H s, hv⟩, fun x H' hy => ?_⟩
  obtain ⟨rfl, hx⟩ := hy
  have e := hx vs (h H' s)
  rw [hv] at e; cases e
  exact ⟨Same.refl _, fun O _ sm => rv.mono sm⟩
theorem y_tup {K : KW} {G G0 : Hp} {a : Addr} {vs : List V} {ds : List D} (h : ∀ H, Same G H → SqT K.K H a vs) (r : Reps K G0 vs ds) : Yields K G G0 (Itt K.K a) ds := fun i H s => by
  refine ⟨fun hi => ⟨vs, h H s, by rw [r.length, hi]; exact Nat.le_refl _⟩, fun d hd => ?_⟩
  obtain ⟨v, hv, rv⟩ := r.get hd
  refine ⟨⟨vs, v, h H s, hv⟩, fun x H' hy => ?_⟩
  obtain ⟨rfl, hx⟩ := hy
  have e := hx vs (h H' s)
  rw [hv] at e; cases e
  exact ⟨Same.refl _, fun O _ sm => rv.mono sm⟩
theorem y_str {K : KW} {G G0 : Hp} (z : Str) : Yields K G G0 (Its z) (signsD z) := fun i H s => by
  refine ⟨fun hi => ?_, fun d hd => ?_⟩
  · unfold signsD at hi
    rw [List.length_map, Array.length_toList] at hi
    exact Nat.le_of_eq hi.symm
  · unfold signsD at hd
    rw [List.getElem?_map] at hd
    cases e : z.cps.toList[i]? with
    | none => rw [e] at hd; cases hd
    | some c =>
      rw [e] at hd; cases hd
      refine ⟨?_, fun x H' hy => ?_⟩
      · have := (List.getElem?_eq_some_iff.mp e).1
        rw [Array.length_toList] at this
        exact this
      · obtain ⟨rfl, c', hc, rfl⟩ := hy
        rw [Array.getElem?_toList] at e
        rw [e] at hc; cases hc
        exact ⟨Same.refl _, fun O _ sm => .str _⟩
def rngD (lo : Int) (n : Nat) : List D := (List.range n).map fun (i : Nat) => D.int (lo + (i : Int))
theorem y_rng {K : KW} {G G0 : Hp} (lo : Int) (n : Nat) : Yields K G G0 (Itr lo n) (rngD lo n) := fun i H s => by
  unfold rngD
  rw [List.length_map, List.length_range]
  refine ⟨fun hi => Nat.le_of_eq hi.symm, fun d hd => ?_⟩
  rw [List.getElem?_map] at hd
  cases e : (List.range n)[i]? with
  | none => rw [e] at hd; cases hd
  | some j =>
    rw [e] at hd; cases hd
    obtain ⟨h1, h2⟩ := List.getElem?_eq_some_iff.mp e
    rw [List.getElem_range] at h2
    subst h2
    rw [List.length_range] at h1
    refine ⟨h1, fun x H' hy => ?_⟩
    obtain ⟨rfl, rfl⟩ := hy
    exact ⟨Same.refl _, fun O _ sm => .int _⟩
/-- pairs -/
def pairD (x y : D) : D := .tup [x, y]
theorem own_same {H H' : Hp} {O : List Addr} (o : Own O H) (s : Same H H') : Own O H' := fun a m => let ⟨u, e⟩ := o a m; ⟨u, s _ _ e⟩
theorem rep_pair {K : KW} {H : Hp} {O : List Addr} {T : Addr} {x y : V} {d e : D} (o : Own O H) (n : H T = none) (r1 : Rep K (cut H O) x d) (r2 : Rep K (cut H O) y e) : Rep K (cut (upd H T (.tup [x, y])) O) (.ref T) (pairD d e) :=
  .tup (.of (by rw [cut_of (o.fresh n)]; exact upd_same)) (.cons (r1.mono (cut_same (same_new n))) (.cons (r2.mono (cut_same (same_new n))) .nil))
theorem zip_get {ds es : List D} {i : Nat} {d : D} (h : (List.zipWith pairD ds es)[i]? = some d) : ∃ x y, ds[i]? = some x ∧ es[i]? = some y ∧ d = pairD x y := by
  rw [List.getElem?_zipWith] at h
  cases e1 : ds[i]? with
  | none => rw [e1] at h; simp at h
  | some x =>
    cases e2 : es[i]? with
    | none => rw [e1, e2] at h; simp at h
    | some y => rw [e1, e2] at h; simp at h; exact ⟨x, y, rfl, rfl, h.symm⟩
theorem y_zip {K : KW} {G G0 : Hp} {a b : Addr} {vs ws : List V} {ds es : List D} (h1 : ∀ H, Same G H → SqL K.K H a vs) (h2 : ∀ H, Same G H → SqL K.K H b ws) (r1 : Reps K G0 vs ds) (r2 : Reps K G0 ws es) : Yields K G G0 (Itz K.K a b) (List.zipWith pairD ds es) := fun i H s => by
  refine ⟨fun hi => ⟨vs, ws, h1 H s, h2 H s, ?_⟩, fun d hd => ?_⟩
  · rw [List.length_zipWith] at hi
    rw [r1.length, r2.length]
    omega
  · obtain ⟨x, y, e1, e2, rfl⟩ := zip_get hd
    obtain ⟨v, hv, rv⟩ := r1.get e1
    obtain ⟨w, hw, rw'⟩ := r2.get e2
    refine ⟨⟨vs, ws, v, w, h1 H s, h2 H s, hv, hw⟩, fun z H' hy => ?_⟩
    obtain ⟨T, x', y', rfl, nT, rfl, f1, f2⟩ := hy
    have q1 := f1 vs (h1 H s)
    have q2 := f2 ws (h2 H s)
    rw [hv] at q1; cases q1
    rw [hw] at q2; cases q2
    exact ⟨same_new nT, fun O o sm => rep_pair o nT (rv.mono sm) (rw'.mono sm)⟩
theorem y_zipT {K : KW} {G G0 : Hp} {a b : Addr} {vs ws : List V} {ds es : List D} (h1 : ∀ H, Same G H → SqT K.K H a vs) (h2 : ∀ H, Same G H → SqT K.K H b ws) (r1 : Reps K G0 vs ds) (r2 : Reps K G0 ws es) : Yields K G G0 (RZ.ItzT K.K a b) (List.zipWith pairD ds es) := fun i H s => by
  refine ⟨fun hi => ⟨vs, ws, h1 H s, h2 H s, ?_⟩, fun d hd => ?_⟩
  · rw [List.length_zipWith] at hi
    rw [r1.length, r2.length]
    omega
  · obtain ⟨x, y, e1, e2, rfl⟩ := zip_get hd
    obtain ⟨v, hv, rv⟩ := r1.get e1
    obtain ⟨w, hw, rw'⟩ := r2.get e2
    refine ⟨⟨vs, ws, v, w, h1 H s, h2 H s, hv, hw⟩, fun z H' hy => ?_⟩
    obtain ⟨T, x', y', rfl, nT, rfl, f1, f2⟩ := hy
    have q1 := f1 vs (h1 H s)
    have q2 := f2 ws (h2 H s)
    rw [hv] at q1; cases q1
    rw [hw] at q2; cases q2
    exact ⟨same_new nT, fun O o sm => rep_pair o nT (rv.mono sm) (rw'.mono sm)⟩
def enumL (ds : List D) : List D := (List.range ds.length).zipWith (fun (i : Nat) d => pairD (.int (i : Int)) d) ds
theorem enum_get {ds : List D} {i : Nat} {d : D} (h : (enumL ds)[i]? = some d) : ∃ x, ds[i]? = some x ∧ d = pairD (.int (i : Int)) x := by
  unfold enumL at h
  rw [List.getElem?_zipWith] at h
  cases e1 : (List.range ds.length)[i]? with
  | none => rw [e1] at h; simp at h
  | some j =>
    obtain ⟨h1, h2⟩ := List.getElem?_eq_some_iff.mp e1
    rw [List.getElem_range] at h2
    subst h2
    cases e2 : ds[i]? with
    | none => rw [e1, e2] at h; simp at h
    | some y => rw [e1, e2] at h; simp at h; exact ⟨y, rfl, h.symm⟩
theorem enum_len (ds : List D) : (enumL ds).length = ds.length := by
  unfold enumL
  rw [List.length_zipWith, List.length_range, Nat.min_self]
theorem y_enum {K : KW} {G G0 : Hp} {a : Addr} {vs : List V} {ds : List D} (h1 : ∀ H, Same G H → SqL K.K H a vs) (r1 : Reps K G0 vs ds) : Yields K G G0 (Ite K.K a) (enumL ds) := fun i H s => by
  refine ⟨fun hi => ⟨vs, h1 H s, ?_⟩, fun d hd => ?_⟩
  · rw [enum_len] at hi
    rw [r1.length, hi]
    exact Nat.le_refl _
  · obtain ⟨x, e1, rfl⟩ := enum_get hd
    obtain ⟨v, hv, rv⟩ := r1.get e1
    refine ⟨⟨vs, v, h1 H s, hv⟩, fun z H' hy => ?_⟩
    obtain ⟨T, x', rfl, nT, rfl, f1⟩ := hy
    have q1 := f1 vs (h1 H s)
    rw [hv] at q1; cases q1
    exact ⟨same_new nT, fun O o sm => rep_pair o nT (.int _) (rv.mono sm)⟩
section
variable {X : Cx} {W : WX} {ea : Str → Addr}
theorem RI.bor {tg e : Expr} {φ : AD} (h : RI X W ea tg e φ) : RIB X W ea tg e φ :=
  ⟨fun pins s σ H R I ⟨O, en, rp, q⟩ => h.run pins s σ H R I ⟨O, en, rp, q.mono (fun ds z J H1 s1 y => z J H1 s1 (y.weak (cut_le _ _))) fun _ z => z⟩⟩
def iSrc (φ : ED) : AD := fun e => do let x ← φ e; srcD x
theorem ri_src {tg e : Expr} {φ : ED} (h : RE X W ea e φ) : RI X W ea tg e (iSrc φ) := by
  refine ⟨fun pins s σ H R I ⟨O, en, rp, q⟩ => ?_⟩
  have q := RP_bind.mp q
  cases hd : φ en with
  | stuck => rw [hd] at q; exact False.elim q
  | exc c =>
    refine (pi_list (tg := tg) h).run pins s σ H R I ⟨O, en, rp, ?_⟩
    rw [hd] at q ⊢
    exact q
  | ok d =>
    rw [hd] at q
    cases d with
    | lst ds =>
      refine (pi_list (tg := tg) h).run pins s σ H R I ⟨O, en, rp, ?_⟩
      rw [hd]
      intro v H1 s1 r1
      obtain ⟨a, vs, rfl, ha, rr⟩ := r1.lst_inv
      exact ⟨a, rfl, ⟨vs, .of (of_cut ha).2⟩, q _ H1 s1 (y_list (vs := vs) (fun H sm => .of (sm _ _ ha)) rr)⟩
    | scr ns =>
      refine (pi_list (tg := tg) h).run pins s σ H R I ⟨O, en, rp, ?_⟩
      rw [hd]
      intro v H1 s1 r1
      cases r1 with
      | scr ha => exact ⟨_, rfl, ⟨_, (cut_le _ _ : Same _ _).seq ha⟩, q _ H1 s1 (y_list (fun H sm => sm.seq ha) (reps_ints ns))⟩
    | tup ds =>
      refine (pi_tup (tg := tg) h).run pins s σ H R I ⟨O, en, rp, ?_⟩
      rw [hd]
      intro v H1 s1 r1
      obtain ⟨a, vs, rfl, ha, rr⟩ := r1.tup_inv
      exact ⟨a, rfl, ⟨vs, sqT_mono (cut_le _ _) ha⟩, q _ H1 s1 (y_tup (fun H sm => sqT_mono sm ha) rr)⟩
    | str z =>
      refine (pi_str (tg := tg) h).run pins s σ H R I ⟨O, en, rp, ?_⟩
      rw [hd]
      intro v H1 s1 r1
      cases r1
      exact ⟨z, rfl, q _ H1 s1 (y_str z)⟩
    | _ => exact False.elim q
theorem rib_src {tg e : Expr} {φ : ED} (h : RB X W ea e φ) : RIB X W ea tg e (iSrc φ) := by
  refine ⟨fun pins s σ H R I ⟨O, en, rp, q⟩ => ?_⟩
  have q := RP_bind.mp q
  cases hd : φ en with
  | stuck => rw [hd] at q; exact False.elim q
  | exc c =>
    refine (pi_list (tg := tg) h).run pins s σ H R I ⟨O, en, rp, ?_⟩
    rw [hd] at q ⊢
    exact q
  | ok d =>
    rw [hd] at q
    cases d with
    | lst ds =>
      refine (pi_list (tg := tg) h).run pins s σ H R I ⟨O, en, rp, ?_⟩
      rw [hd]
      intro v H1 s1 r1
      obtain ⟨a, vs, rfl, ha, rr⟩ := r1.lst_inv
      exact ⟨a, rfl, ⟨vs, .of ha⟩, q _ H1 s1 (y_list (vs := vs) (fun H sm => .of (sm _ _ ha)) rr)⟩
    | scr ns =>
      refine (pi_list (tg := tg) h).run pins s σ H R I ⟨O, en, rp, ?_⟩
      rw [hd]
      intro v H1 s1 r1
      obtain ⟨a, rfl, ha⟩ := r1.scr_inv
      exact ⟨_, rfl, ⟨_, ha⟩, q _ H1 s1 (y_list (fun H sm => sm.seq ha) (reps_ints ns))⟩
    | tup ds =>
      refine (pi_tup (tg := tg) h).run pins s σ H R I ⟨O, en, rp, ?_⟩
      rw [hd]
      intro v H1 s1 r1
      obtain ⟨a, vs, rfl, ha, rr⟩ := r1.tup_inv
      exact ⟨a, rfl, ⟨vs, ha⟩, q _ H1 s1 (y_tup (fun H sm => sqT_mono sm ha) rr)⟩
    | str z =>
      refine (pi_str (tg := tg) h).run pins s σ H R I ⟨O, en, rp, ?_⟩
      rw [hd]
      intro v H1 s1 r1
      cases r1.str_inv
      exact ⟨z, rfl, q _ H1 s1 (y_str z)⟩
    | _ => exact False.elim q
/-! range, zip, enumerate -/
def rng1D (ds : List D) : Res (List D) := match ds with
  | [.int j] => if j.natAbs ≤ 100000 then .ok (rngD 0 j.toNat) else .stuck
  | _ => .stuck
def rng2D (ds : List D) : Res (List D) := match ds with
  | [.int i, .int j] => if i.natAbs ≤ 100000 ∧ j.natAbs ≤ 100000 then .ok (rngD i (j - i).toNat) else .stuck
  | _ => .stuck
def zipD (ds : List D) : Res (List D) := match ds with
  | [.lst xs, .lst ys] => .ok (List.zipWith pairD xs ys)
  | [.tup xs, .tup ys] => .ok (List.zipWith pairD xs ys)
  | _ => .stuck
def enumD (ds : List D) : Res (List D) := match ds with
  | [.lst xs] => .ok (enumL xs)
  | _ => .stuck
def iCall (f : List D → Res (List D)) (φ : AD) : AD := fun e => do let xs ← φ e; f xs
theorem RepBs.two' {K : KW} {O : List Addr} {H : Hp} {xs : List V} {d e : D} (h : RepBs K O H xs [d, e]) : ∃ x y, xs = [x, y] ∧ RepB K O H x d ∧ RepB K O H y e := h.two
theorem ri_rng1 {tg a : Expr} {φ : AD} {p pos : Pos} (hg : Gl X (Str.ofString "range")) (hm : X.mg (Str.ofString "range") = none) (ha : RAB X W ea [a] φ) (hs : starEach [a] X.env = [(false, eval a X.env)]) :
    RI X W ea tg (.Call (.Name (Str.ofString "range") p) [a] [] pos) (iCall rng1D φ) := by
  refine ⟨fun pins s σ H R I ⟨O, en, rp, q⟩ => (pi_range1 hg hm ha hs).run pins s σ H R I ⟨O, en, rp, (RP_bind.mp q).mono (fun ds hd vs H1 s1 r1 => ?_) fun c z => z⟩⟩
  unfold rng1D at hd
  split at hd
  · split at hd
    · rename_i j hj
      obtain ⟨x, rfl, r⟩ := r1.one
      cases r.int_inv
      exact ⟨j, rfl, by omega, by omega, hd _ H1 s1 (y_rng _ _)⟩
    · exact False.elim hd
  · exact False.elim hd
theorem ri_rng2 {tg a b : Expr} {φ : AD} {p pos : Pos} (hg : Gl X (Str.ofString "range")) (hm : X.mg (Str.ofString "range") = none) (ha : RAB X W ea [a, b] φ) (hs : starEach [a, b] X.env = [(false, eval a X.env), (false, eval b X.env)]) (hs2 : starEach [b] X.env = [(false, eval b X.env)]) :
    RI X W ea tg (.Call (.Name (Str.ofString "range") p) [a, b] [] pos) (iCall rng2D φ) := by
  refine ⟨fun pins s σ H R I ⟨O, en, rp, q⟩ => (pi_range2 hg hm ha hs hs2).run pins s σ H R I ⟨O, en, rp, (RP_bind.mp q).mono (fun ds hd vs H1 s1 r1 => ?_) fun c z => z⟩⟩
  unfold rng2D at hd
  split at hd
  · split at hd
    · rename_i i j hj
      obtain ⟨x, y, rfl, r, r'⟩ := r1.two
      cases r.int_inv
      cases r'.int_inv
      exact ⟨i, j, rfl, ⟨by omega, by omega, by omega, by omega⟩, hd _ H1 s1 (y_rng _ _)⟩
    · exact False.elim hd
  · exact False.elim hd
theorem Reps.two {K : KW} {G : Hp} {xs : List V} {d e : D} (h : Reps K G xs [d, e]) : ∃ x y, xs = [x, y] ∧ Rep K G x d ∧ Rep K G y e := by
  cases h with
  | cons h1 t => cases t with
    | cons h2 t => cases t; exact ⟨_, _, rfl, h1, h2⟩
theorem Reps.one {K : KW} {G : Hp} {xs : List V} {d : D} (h : Reps K G xs [d]) : ∃ x, xs = [x] ∧ Rep K G x d := by
  cases h with
  | cons h1 t => cases t; exact ⟨_, rfl, h1⟩
theorem ri_zip {a b : Expr} {φ : AD} {p pos tpos : Pos} {elts : List Expr} {kk : Nat} (hg : Gl X (Str.ofString "zip")) (hm : X.mg (Str.ofString "zip") = none) (ha : RA X W ea [a, b] φ)
    (hs : starEach [a, b] X.env = (false, eval a X.env) :: starEach [b] X.env) (hs2 : ((backTo pos (starEach [b] X.env)).any fun x => x.fst) = false) :
    RI X W ea (.Tuple elts kk tpos) (.Call (.Name (Str.ofString "zip") p) [a, b] [] pos) (iCall zipD φ) := by
  refine ⟨fun pins s σ H R I ⟨O, en, rp, q⟩ => (RZ.pi_zipA hg hm ha hs hs2).run pins s σ H R I ⟨O, en, rp, (RP_bind.mp q).mono (fun ds hd vs H1 s1 r1 => ?_) fun c z => z⟩⟩
  unfold zipD at hd
  split at hd
  · obtain ⟨x, y, rfl, r, r'⟩ := r1.two
    obtain ⟨a1, vs, rfl, ha, rr⟩ := r.lst_inv
    obtain ⟨a2, ws, rfl, hb, rr'⟩ := r'.lst_inv
    exact ⟨a1, a2, vs, ws, rfl, .inl ⟨.of (of_cut ha).2, .of (of_cut hb).2, hd _ H1 s1 (y_zip (fun H sm => .of (sm _ _ ha)) (fun H sm => .of (sm _ _ hb)) rr rr')⟩⟩
  · obtain ⟨x, y, rfl, r, r'⟩ := r1.two
    obtain ⟨a1, vs, rfl, ha, rr⟩ := r.tup_inv
    obtain ⟨a2, ws, rfl, hb, rr'⟩ := r'.tup_inv
    exact ⟨a1, a2, vs, ws, rfl, .inr ⟨sqT_mono (cut_le _ _) ha, sqT_mono (cut_le _ _) hb, hd _ H1 s1 (y_zipT (fun H sm => sqT_mono sm ha) (fun H sm => sqT_mono sm hb) rr rr')⟩⟩
  · exact False.elim hd
theorem ri_enumL {a : Expr} {φ : AD} {p pos tpos : Pos} {elts : List Expr} {kk : Nat} (hg : Gl X (Str.ofString "enumerate")) (hm : X.mg (Str.ofString "enumerate") = none) (ha : RA X W ea [a] φ) (hs : starEach [a] X.env = [(false, eval a X.env)]) :
    RI X W ea (.Tuple elts kk tpos) (.Call (.Name (Str.ofString "enumerate") p) [a] [] pos) (iCall enumD φ) := by
  refine ⟨fun pins s σ H R I ⟨O, en, rp, q⟩ => (pi_enum hg hm ha hs).run pins s σ H R I ⟨O, en, rp, (RP_bind.mp q).mono (fun ds hd vs H1 s1 r1 => ?_) fun c z => z⟩⟩
  unfold enumD at hd
  split at hd
  · obtain ⟨x, rfl, r⟩ := r1.one
    obtain ⟨a1, vs, rfl, ha, rr⟩ := r.lst_inv
    exact ⟨a1, vs, rfl, .of (of_cut ha).2, hd _ H1 s1 (y_enum (fun H sm => .of (sm _ _ ha)) rr)⟩
  · exact False.elim hd
end
end L2.RB
namespace L2.RB
open PySem PySem.Spec PyProof.Rows
/-! ### slots set, wiped -/
structure Rq (K : KW) (O0 O : List Addr) (e : En) (σ : St) (H : Hp) : Prop where
  rp : Rp K O e σ H
  sub : ∀ a ∈ O0, a ∈ O
  fr : ∀ (i : Nat) s a, e[i]? = some s → s.own = true → σ[i]? = some (some (.ref a)) → a ∉ O0
section
variable {K : KW} {O0 O : List Addr} {e : En} {σ : St} {H H' : Hp}
theorem Rq.of (r : Rp K O e σ H) : Rq K [] O e σ H := ⟨r, fun _ m => absurd m List.not_mem_nil, fun _ _ _ _ _ _ => List.not_mem_nil⟩
theorem Rq.mono (s : Same H H') (r : Rq K O0 O e σ H) : Rq K O0 O e σ H' := ⟨r.rp.mono s, r.sub, r.fr⟩
theorem set_get {α : Type} {l : List α} {i j : Nat} {x y : α} (h : (l.set i x)[j]? = some y) : (j = i ∧ y = x) ∨ (j ≠ i ∧ l[j]? = some y) := by
  rw [List.getElem?_set] at h
  split at h
  · rename_i hj
    split at h
    · cases h; exact .inl ⟨hj.symm, rfl⟩
    · cases h
  · rename_i hj
    exact .inr ⟨fun z => hj z.symm, h⟩
theorem Rq.set {v : V} {s : Sl} {i : Nat} (r : Rq K O0 O e σ H) (hi : i < e.length) (q : RelSl K H O (some v) s) (no : s.own = false) : Rq K O0 O (e.set i s) (σ.set i (some v)) H := by
  have hi' : i < σ.length := r.rp.len ▸ hi
  refine ⟨⟨r.rp.dom, by rw [List.length_set, List.length_set]; exact r.rp.len, fun j t ht => ?_, fun j k sj sk a hj hk oj ok vj vk => ?_⟩, r.sub, fun j t a ht ot vt => ?_⟩
  · rcases set_get ht with ⟨rfl, rfl⟩ | ⟨hne, ht⟩
    · exact ⟨some v, by rw [List.getElem?_set_self hi'], q⟩
    · obtain ⟨u, e1, e2⟩ := r.rp.at_ j t ht
      exact ⟨u, by rw [List.getElem?_set_ne (Ne.symm hne)]; exact e1, e2⟩
  · rcases set_get hj with ⟨rfl, rfl⟩ | ⟨hne, hj⟩
    · rw [no] at oj; cases oj
    · rcases set_get hk with ⟨rfl, rfl⟩ | ⟨hne2, hk⟩
      · rw [no] at ok; cases ok
      · rw [List.getElem?_set_ne (Ne.symm hne)] at vj
        rw [List.getElem?_set_ne (Ne.symm hne2)] at vk
        exact r.rp.apart j k sj sk a hj hk oj ok vj vk
  · rcases set_get ht with ⟨rfl, rfl⟩ | ⟨hne, ht⟩
    · rw [no] at ot; cases ot
    · rw [List.getElem?_set_ne (Ne.symm hne)] at vt
      exact r.fr j t a ht ot vt
end
def wipeE (e : En) : List Nat → En
  | [] => e
  | i :: r => (wipeE e r).set i .un
theorem wipe_cons (σ : St) (i : Nat) (r : List Nat) : wipe σ (i :: r) = (wipe σ r).set i none := rfl
theorem wipe_nil (σ : St) : wipe σ [] = σ := rfl
theorem wipe_get : ∀ (vs : List Nat) (σ : St) (j : Nat), (wipe σ vs)[j]? = if j ∈ vs then (if j < σ.length then some none else none) else σ[j]?
  | [], σ, j => by rw [wipe_nil]; simp
  | i :: r, σ, j => by
    rw [wipe_cons]
    by_cases h2 : j = i
    · subst h2
      rw [if_pos List.mem_cons_self, List.getElem?_set, wipe_length]
      simp
    · rw [List.getElem?_set_ne (Ne.symm h2), wipe_get r]
      by_cases h1 : j ∈ r
      · rw [if_pos h1, if_pos (List.mem_cons_of_mem _ h1)]
      · rw [if_neg h1, if_neg (by simp [h1, h2])]
theorem wipe_same {σ σ' : St} {vs : List Nat} (hl : σ'.length = σ.length) (h : ∀ j, j ∉ vs → σ'[j]? = σ[j]?) : wipe σ' vs = wipe σ vs := by
  refine List.ext_getElem? fun j => ?_
  rw [wipe_get, wipe_get, hl]
  by_cases m : j ∈ vs
  · rw [if_pos m, if_pos m]
  · rw [if_neg m, if_neg m]
    exact h j m
theorem wipe_wipe (σ : St) (vs : List Nat) : wipe (wipe σ vs) vs = wipe σ vs :=
  wipe_same (wipe_length σ vs) fun j m => by rw [wipe_get, if_neg m]
theorem Rp.wipe1 {K : KW} {O : List Addr} {e : En} {σ : St} {H : Hp} (i : Nat) (r : Rp K O e σ H) : Rp K O (e.set i .un) (σ.set i none) H := by
  refine ⟨r.dom, by rw [List.length_set, List.length_set]; exact r.len, fun j t ht => ?_, fun j k sj sk a hj hk oj ok vj vk => ?_⟩
  · rcases set_get ht with ⟨rfl, rfl⟩ | ⟨hne, ht⟩
    · have := (List.getElem?_eq_some_iff.mp ht).1
      rw [List.length_set, r.len] at this
      exact ⟨none, by rw [List.getElem?_set_self this], trivial⟩
    · obtain ⟨u, e1, e2⟩ := r.at_ j t ht
      exact ⟨u, by rw [List.getElem?_set_ne (Ne.symm hne)]; exact e1, e2⟩
  · rcases set_get hj with ⟨rfl, rfl⟩ | ⟨hne, hj⟩
    · cases oj
    · rcases set_get hk with ⟨rfl, rfl⟩ | ⟨hne2, hk⟩
      · cases ok
      · rw [List.getElem?_set_ne (Ne.symm hne)] at vj
        rw [List.getElem?_set_ne (Ne.symm hne2)] at vk
        exact r.apart j k sj sk a hj hk oj ok vj vk
theorem Rp.wipe {K : KW} {O : List Addr} {H : Hp} : ∀ (vs : List Nat) {e : En} {σ : St}, Rp K O e σ H → Rp K O (wipeE e vs) (L2.wipe σ vs) H
  | [], _, _, r => r
  | i :: vs, _, _, r => (Rp.wipe vs r).wipe1 i
/-- a new list under way is one's own, too -/
theorem Rp.more {K : KW} {O : List Addr} {e : En} {σ : St} {H1 H : Hp} {p : Addr} {o : HO} (n : H1 p = none) (s : Same H1 H) (hp : H p = some o) (r : Rp K O e σ H1) : Rp K (p :: O) e σ H := by
  have sc : Same (cut H1 O) (cut H (p :: O)) := fun b u hb => by
    obtain ⟨h1, h2⟩ := of_cut hb
    rw [cut_of (by simp [ne_of_none h2 n, h1])]
    exact s _ _ h2
  refine ⟨fun a m => ?_, r.len, fun j t ht => ?_, r.apart⟩
  · rcases List.mem_cons.mp m with rfl | m
    · exact ⟨o, hp⟩
    · obtain ⟨u, hu⟩ := r.dom a m
      exact ⟨u, s _ _ hu⟩
  · obtain ⟨v, e1, e2⟩ := r.at_ j t ht
    refine ⟨v, e1, ?_⟩
    cases t with
    | un => trivial
    | sh d => obtain ⟨x, ev, q⟩ := e2; exact ⟨x, ev, q.mono sc⟩
    | ow ds => obtain ⟨a, vs, ev, m, ha, q⟩ := e2; exact ⟨a, vs, ev, List.mem_cons_of_mem _ m, s _ _ ha, q.mono sc⟩
    | od ds => obtain ⟨a, vs, ev, m, ha, q⟩ := e2; exact ⟨a, vs, ev, List.mem_cons_of_mem _ m, s _ _ ha, q.mono sc⟩
/-! ### targets -/
abbrev GD := D → En → Res En
abbrev GDs := List D → En → Res En
def tG (X : Cx) (γ : GD) (js : List Nat) : TG := fun v σ H Q => ∃ O0 O e d, Rq (kw X) O0 O e σ H ∧ Rep (kw X) (cut H O) v d ∧ RP (γ d e) (fun e' => ∀ σ', Rq (kw X) O0 O e' σ' H → σ'.length = σ.length → (∀ j, j ∉ js → σ'[j]? = σ[j]?) → Q σ' H) fun _ => False
def tGs (X : Cx) (γ : GDs) (js : List Nat) : TGs := fun vs σ H Q => ∃ O0 O e ds, Rq (kw X) O0 O e σ H ∧ Reps (kw X) (cut H O) vs ds ∧ RP (γ ds e) (fun e' => ∀ σ', Rq (kw X) O0 O e' σ' H → σ'.length = σ.length → (∀ j, j ∉ js → σ'[j]? = σ[j]?) → Q σ' H) fun _ => False
abbrev RG (X : Cx) (tg : Expr) (γ : GD) (js : List Nat) : Prop := PG X tg (tG X γ js)
abbrev RGs (X : Cx) (tg : List Expr) (γ : GDs) (js : List Nat) : Prop := PGs X tg (tGs X γ js)
theorem PGby {X : Cx} {e : Expr} {t t' : TG} (h : PG X e t) (k : ∀ v σ H Q, t' v σ H Q → t v σ H Q) : PG X e t' := ⟨fun pins s σ H v u Q I r q => h.run pins s σ H v u Q I r (k v σ H Q q)⟩
theorem PGsby {X : Cx} {e : List Expr} {t t' : TGs} (h : PGs X e t) (k : ∀ v σ H Q, t' v σ H Q → t v σ H Q) : PGs X e t' := ⟨fun pins s σ H v u Q I r q => h.run pins s σ H v u Q I r (k v σ H Q q)⟩
def gNm (i : Nat) : GD := fun d e => if i < e.length then .ok (e.set i (.sh d)) else .stuck
def gNl : GDs := fun ds e => match ds with
  | [] => .ok e
  | _ => .stuck
def gCn (γ : GD) (δ : GDs) : GDs := fun ds e => match ds with
  | d :: r => do let e1 ← γ d e; δ r e1
  | [] => .stuck
def gTp (n : Nat) (δ : GDs) : GD := fun d e => match d with
  | .tup ds => if ds.length = n then δ ds e else .stuck
  | _ => .stuck
section
variable {X : Cx} {W : WX} {ea : Str → Addr}
theorem rg_name {i : Nat} {x : Str} {pos : Pos} (nd : X.N.Nodup) (hx : X.N[i]? = some x) (hl : L2.Loc X.env.scope x) (hf : X.fn x = true ∨ List.lookup x X.env.scope.names = some NameKind.local) : RG X (.Name x pos) (gNm i) [i] := by
  refine PGby (pg_name nd hx hl hf) fun v σ H Q ⟨O0, O, e, d, rq, r, q⟩ => ?_
  unfold gNm at q
  by_cases hi : i < e.length
  · rw [if_pos hi] at q
    refine q _ (rq.set hi ⟨v, rfl, r⟩ rfl) (List.length_set ..) fun j m => ?_
    rw [List.getElem?_set_ne]
    intro z
    exact m (by rw [z]; exact List.mem_singleton_self _)
  · rw [if_neg hi] at q; exact False.elim q
theorem rgs_nil : RGs X [] gNl [] := by
  refine PGsby pgs_nil fun v σ H Q ⟨O0, O, e, ds, rq, r, q⟩ => ?_
  cases ds with
  | nil => cases r; exact ⟨rfl, q σ rq rfl fun _ _ => rfl⟩
  | cons d r => exact False.elim q
theorem rgs_cons {e : Expr} {es : List Expr} {γ : GD} {δ : GDs} {js ks : List Nat} (h : RG X e γ js) (t : RGs X es δ ks) (hs : List.map (fun x => x.snd) (assignEach (e :: es) X.env) = assign e X.env :: List.map (fun x => x.snd) (assignEach es X.env)) : RGs X (e :: es) (gCn γ δ) (js ++ ks) := by
  refine PGsby (pgs_cons h t hs) fun v σ H Q ⟨O0, O, en, ds, rq, r, q⟩ => ?_
  cases ds with
  | nil => exact False.elim q
  | cons d ds =>
    cases r with
    | cons r1 rs =>
      refine ⟨_, _, rfl, O0, O, en, d, rq, r1, (RP_bind.mp q).mono (fun e1 h1 σ1 rq1 l1 k1 => ⟨O0, O, e1, ds, rq1, rs, RP.mono h1 (fun e2 h2 σ2 rq2 l2 k2 => h2 σ2 rq2 (l2.trans l1) fun j m => ?_) fun c z => z⟩) fun c z => z⟩
      rw [k2 j fun z => m (List.mem_append_right _ z), k1 j fun z => m (List.mem_append_left _ z)]
theorem rg_tup {es : List Expr} {k n : Nat} {pos : Pos} {δ : GDs} {js : List Nat} (hc : X.calm = true) (h : RGs X es δ js) (h1 : (assignEach es X.env).length = n) (h2 : List.findIdx? (fun x => x.fst) (assignEach es X.env) = none) : RG X (.Tuple es k pos) (gTp n δ) js := by
  refine PGby (pg_tup hc h h1 h2) fun v σ H Q ⟨O0, O, e, d, rq, r, q⟩ => ?_
  cases d with
  | tup ds =>
    obtain ⟨a, vs, rfl, ha, rr⟩ := r.tup_inv
    unfold gTp at q
    by_cases hn : ds.length = n
    · simp only [hn, if_true] at q
      exact ⟨a, vs, rfl, sqT_mono (cut_le _ _) ha, by rw [rr.length]; exact hn, O0, O, e, ds, rq, rr, q⟩
    · simp only [hn, if_false] at q
      exact False.elim q
  | _ => exact False.elim q
/-! ### list comprehensions -/
abbrev W0 : WX := fun _ _ _ _ => False
def tTrue : TD := fun _ => .ok true
abbrev RTs (X : Cx) (W : WX) (ea : Str → Addr) (e : List Expr) (φ : TD) : Prop := PTs X e (tT X W ea φ)
theorem PTsby {X : Cx} {e : List Expr} {t t' : TT} (h : PTs X e t) (k : ∀ σ H Q, t' σ H Q → t σ H Q) : PTs X e t' := ⟨fun pins s σ H Q I q => h.run pins s σ H Q I (k σ H Q q)⟩
theorem rts_nil : RTs X W ea [] tTrue := PTsby pts_nil fun σ H Q ⟨O, en, rp, q⟩ => q H (Same.refl _)
theorem rts_one {e : Expr} {φ : TD} (h : RT X W ea e φ) : RTs X W ea [e] φ := pts_one h
def stepLc (γ : GD) (τ : TD) (φ : ED) (vs : List Nat) (e : En) (d : D) : Res (Option D) := do
  let e1 ← γ d (wipeE e vs)
  let b ← τ e1
  if b then (do let y ← φ e1; .ok (some y)) else .ok none
def filtN {α β : Type} (f : α → Res (Option β)) (l : List α) : Res (List β) := (filtR f l).nox
def eLc (src : AD) (γ : GD) (τ : TD) (φ : ED) (vs : List Nat) : ED := fun e => do
  let ds ← src e
  if ds.length ≤ LIM then (do let ys ← filtN (stepLc γ τ φ vs e) ds; .ok (.lst ys)) else .stuck
def consO {α : Type} (y : Option α) (ys : List α) : List α := match y with
  | some z => z :: ys
  | none => ys
theorem filt_len {α β : Type} {f : α → Res (Option β)} : ∀ {l : List α} {ys : List β}, filtR f l = .ok ys → ys.length ≤ l.length
  | [], ys, h => by cases h; exact Nat.le_refl _
  | x :: l, ys, h => by
    simp only [filtR] at h
    cases e : f x with
    | stuck => rw [e] at h; cases h
    | exc c => rw [e] at h; cases h
    | ok y =>
      rw [e] at h
      cases e2 : filtR f l with
      | stuck => rw [e2] at h; cases h
      | exc c => rw [e2] at h; cases h
      | ok zs =>
        rw [e2] at h
        have il := filt_len e2
        cases y with
        | none => cases h; exact Nat.le_succ_of_le il
        | some z => cases h; exact Nat.succ_le_succ il
theorem lc_core {src : AD} {γ : GD} {τ : TD} {φ : ED} {vs js : List Nat} {O : List Addr} {en : En} {σ : St} {H : Hp} {Q : VK} (hj : ∀ j ∈ js, j ∈ vs) (rp : Rp (kw X) O en σ H)
    (h : RP (eLc src γ τ φ vs en) (fun r => ∃ ys, r = .lst ys ∧ ∀ a us H', H a = none → Same H H' → H' a = some (.lst us) → Reps (kw X) (cut H' (a :: O)) us ys → Q (.ref a) H') (exK W ea σ H)) :
    tLc (tIB X W ea src) (tG X γ js) (tT X W0 ea τ) (tE X W0 ea φ) vs σ H Q := by
  refine ⟨O, en, rp, (RP_bind.mp h).mono (fun ds hd J H1 s1 yl D hD => ?_) fun c z => z⟩
  by_cases hl : ds.length ≤ LIM
  case neg => rw [if_neg hl] at hd; exact False.elim hd
  rw [if_pos hl] at hd
  -- the whole is told
  have hx : ∃ ys, filtR (stepLc γ τ φ vs en) ds = .ok ys ∧ ∀ a us H', H a = none → Same H H' → H' a = some (.lst us) → Reps (kw X) (cut H' (a :: O)) us ys → Q (.ref a) H' := by
    unfold filtN at hd
    cases e : filtR (stepLc γ τ φ vs en) ds with
    | stuck => rw [e] at hd; exact False.elim hd
    | exc c => rw [e] at hd; exact False.elim hd
    | ok ys =>
      rw [e] at hd
      obtain ⟨ys', e', k⟩ := hd
      cases e'
      exact ⟨ys, rfl, k⟩
  obtain ⟨ys, hys, kq⟩ := hx
  have hD0 : H D = none := by
    cases e : H D with
    | none => rfl
    | some o => rw [s1 _ _ e] at hD; cases hD
  have dn : Own O H1 := (rp.mono s1).dom
  have base : Same H1 (upd H1 D (.lst [])) := same_new hD
  refine ⟨fun i m H2 => m = ds.length - i ∧ i ≤ ds.length ∧ Same H1 H2 ∧ ∃ acc done rest, H2 D = some (.lst acc) ∧ Reps (kw X) (cut H2 (D :: O)) acc done ∧ done.length ≤ i ∧ filtR (stepLc γ τ φ vs en) (ds.drop i) = .ok rest ∧ done ++ rest = ys,
    ⟨ds.length, by simp, Nat.zero_le _, base, [], [], ys, upd_same, .nil, Nat.le_refl _, hys, rfl⟩, fun i m H2 hW => ?_⟩
  obtain ⟨em, hi, s2, acc, done, rest, hacc, racc, hlen, hrest, hdone⟩ := hW
  obtain ⟨y1, y2⟩ := yl i H2 s2
  by_cases hend : i = ds.length
  · subst hend
    refine .inl ⟨y1 rfl, ?_⟩
    rw [List.drop_length] at hrest
    cases hrest
    rw [List.append_nil] at hdone
    subst hdone
    exact kq D acc H2 hD0 (s1.trans s2) hacc racc
  · have hlt : i < ds.length := Nat.lt_of_le_of_ne hi hend
    obtain ⟨d, hd2⟩ : ∃ d, ds[i]? = some d := ⟨_, List.getElem?_eq_getElem hlt⟩
    obtain ⟨hgo, hy⟩ := y2 d hd2
    have hdrop : ds.drop i = d :: ds.drop (i + 1) := by
      rw [List.drop_eq_getElem_cons hlt]
      congr 1
      have := List.getElem?_eq_getElem hlt
      rw [hd2] at this
      exact (Option.some.inj this).symm
    rw [hdrop] at hrest
    simp only [filtR] at hrest
    cases hst : stepLc γ τ φ vs en d with
    | stuck => rw [hst] at hrest; cases hrest
    | exc c => rw [hst] at hrest; cases hrest
    | ok y =>
      rw [hst] at hrest
      cases hr2 : filtR (stepLc γ τ φ vs en) (ds.drop (i + 1)) with
      | stuck => rw [hr2] at hrest; cases hrest
      | exc c => rw [hr2] at hrest; cases hrest
      | ok rest2 =>
        rw [hr2] at hrest
        have her : consO y rest2 = rest := Res.ok.inj hrest
        refine .inr ⟨hgo, fun H' => Same H1 H' ∧ ∃ acc' done', H' D = some (.lst acc') ∧ Reps (kw X) (cut H' (D :: O)) acc' done' ∧ done'.length ≤ i + 1 ∧ done' ++ rest2 = ys, fun H' ⟨sn, acc', done', a1, a2, a3, a4⟩ => ⟨m - 1, by omega, by omega, hlt, sn, acc', done', rest2, a1, a2, a3, hr2, a4⟩, fun x H' hyld => ?_⟩
        obtain ⟨s3, hitem⟩ := hy x H' hyld
        have s13 : Same H1 H' := s2.trans s3
        have hDacc : H' D = some (.lst acc) := s3 _ _ hacc
        have rpm : Rp (kw X) (D :: O) en σ H' := (rp.mono s1).more hD s13 hDacc
        have sc : Same (cut H1 O) (cut H2 (D :: O)) := fun b u hb => by
          obtain ⟨q1, q2⟩ := of_cut hb
          rw [cut_of (by simp [ne_of_none q2 hD, q1])]
          exact s2 _ _ q2
        have own2 : Own (D :: O) H2 := fun a ma => by
          rcases List.mem_cons.mp ma with rfl | ma
          · exact ⟨_, hacc⟩
          · obtain ⟨u, hu⟩ := dn a ma
            exact ⟨u, s2 _ _ hu⟩
        have ritem : Rep (kw X) (cut H' (D :: O)) x d := hitem (D :: O) own2 sc
        unfold stepLc at hst
        cases hg : γ d (wipeE en vs) with
        | stuck => rw [hg] at hst; cases hst
        | exc c => rw [hg] at hst; cases hst
        | ok e1 =>
          rw [hg] at hst
          refine ⟨[], D :: O, wipeE en vs, d, .of (rpm.wipe vs), ritem, ?_⟩
          rw [hg]
          intro σ' rq' hl' hk'
          refine ⟨?_, D :: O, e1, rq'.rp, ?_⟩
          · rw [← wipe_wipe σ vs]
            exact wipe_same hl' fun j mj => hk' j fun z => mj (hj j z)
          cases hb : τ e1 with
          | stuck => rw [ok_bind, hb] at hst; cases hst
          | exc c => rw [ok_bind, hb] at hst; cases hst
          | ok b =>
            rw [ok_bind, hb, ok_bind] at hst
            intro H3 s4
            cases b with
            | false =>
              rw [if_neg Bool.false_ne_true] at hst ⊢
              cases hst
              exact ⟨s13.trans s4, acc, done, s4 _ _ hDacc, (racc.mono (cut_same s3)).mono (cut_same s4), Nat.le_succ_of_le hlen, by have e : rest2 = rest := her; rw [e]; exact hdone⟩
            | true =>
              rw [if_pos rfl] at hst ⊢
              cases hp : φ e1 with
              | stuck => rw [hp] at hst; cases hst
              | exc c => rw [hp] at hst; cases hst
              | ok z =>
                rw [hp] at hst
                cases hst
                refine ⟨D :: O, e1, rq'.rp.mono s4, ?_⟩
                rw [hp]
                intro v H4 s5 rv
                have hD4 : H4 D = some (.lst acc) := s5 _ _ (s4 _ _ hDacc)
                have la : acc.length = done.length := racc.length
                refine ⟨acc, hD4, by rw [la, ← lim_eq]; omega, fun b o hb => ?_, acc ++ [v], done ++ [z], upd_same, ?_, by rw [List.length_append]; simpa using hlen, by have e : z :: rest2 = rest := her; rw [List.append_assoc]; show done ++ (z :: rest2) = ys; rw [e]; exact hdone⟩
                · rw [upd_ne (ne_of_none hb hD)]
                  exact s5 _ _ (s4 _ _ (s13 _ _ hb))
                · have sm : Same (cut H4 (D :: O)) (cut (upd H4 D (.lst (acc ++ [v]))) (D :: O)) := fun b o hb => by
                    obtain ⟨q1, q2⟩ := of_cut hb
                    rw [cut_of q1, upd_ne (fun z => q1 (by rw [z]; exact List.mem_cons_self))]
                    exact q2
                  exact (((racc.mono (cut_same s3)).mono (cut_same s4)).mono (cut_same s5) |>.append (.cons rv .nil)).mono sm
abbrev RB.Blk (X : Cx) (s : Shared) (H : Hp) (scope : Scope) (C : Addr) (cl : List (Str × Addr)) (fp : List Addr) : Cx := X.blk s H scope (compEnvC scope cl C X.env) fp
theorem rf_lc {elt tg iter : Expr} {ifs : List Expr} {scope : Scope} {own : List (Str × Nat)} {vs : List Nat} {pos : Pos} {src : AD} {γ : GD} {js : List Nat} {τ : TD} {φ : ED} (hc : X.calm = true) (nd : X.N.Nodup) (hi : RIB X W ea tg iter src) (hb : BlkOk X.N X.env.scope scope own)
    (hg : ∀ (s : Shared) (H : Hp) (C : Addr) (cl : List (Str × Addr)) (fp : List Addr), RG (RB.Blk X s H scope C cl fp) tg γ js)
    (ht : ∀ (s : Shared) (H : Hp) (C : Addr) (cl : List (Str × Addr)) (fp : List Addr), RTs (RB.Blk X s H scope C cl fp) W0 ea ifs τ)
    (he : ∀ (s : Shared) (H : Hp) (C : Addr) (cl : List (Str × Addr)) (fp : List Addr), RE (RB.Blk X s H scope C cl fp) W0 ea elt φ)
    (hj : ∀ j ∈ js, j ∈ vs) (hvs : List.map (fun x => x.snd) own = vs) (hs : ∀ (x : Value), foldedSetIterable iter X.env x = pure x) :
    RF X W ea (.ListComp elt [{ target := tg, iter := iter, ifs := ifs, is_async := 0 }] scope pos) (eLc src γ τ φ vs) := by
  subst hvs
  refine PEby (pe_lc (g := tG X γ js) (tt := tT X W0 ea τ) (te := tE X W0 ea φ) hc nd hi hb hg ht he hs) fun σ H Q ⟨O, en, rp, q⟩ => ?_
  exact lc_core hj rp q
theorem lc_post {src : AD} {γ : GD} {τ : TD} {φ : ED} {vs : List Nat} {O : List Addr} {en : En} {H : Hp} {Q : VK} {Ex : Str → Prop} (ow : Own O H) (q : RP (eLc src γ τ φ vs en) (Post (kw X) O H Q) Ex) :
    RP (eLc src γ τ φ vs en) (fun r => ∃ ys, r = .lst ys ∧ ∀ a us H', H a = none → Same H H' → H' a = some (.lst us) → Reps (kw X) (cut H' (a :: O)) us ys → Q (.ref a) H') Ex := by
  refine (RP_bind.mpr ((RP_bind.mp q).mono (fun ds hd => ?_) fun c z => z))
  by_cases hl : ds.length ≤ LIM
  · rw [if_pos hl] at hd ⊢
    refine (RP_bind.mpr ((RP_bind.mp hd).mono (fun ys z => ?_) fun c z => z))
    refine ⟨ys, rfl, fun a us H' n s e r => ?_⟩
    have ha : a ∉ O := ow.fresh n
    refine z _ H' s (.lst (by rw [cut_of ha]; exact e) (r.mono fun b o hb => ?_))
    obtain ⟨q1, q2⟩ := of_cut hb
    rw [cut_of fun m => q1 (List.mem_cons_of_mem _ m)]
    exact q2
  · rw [if_neg hl] at hd; exact False.elim hd
theorem r_lc {elt tg iter : Expr} {ifs : List Expr} {scope : Scope} {own : List (Str × Nat)} {vs : List Nat} {pos : Pos} {src : AD} {γ : GD} {js : List Nat} {τ : TD} {φ : ED} (hc : X.calm = true) (nd : X.N.Nodup) (hi : RIB X W ea tg iter src) (hb : BlkOk X.N X.env.scope scope own)
    (hg : ∀ (s : Shared) (H : Hp) (C : Addr) (cl : List (Str × Addr)) (fp : List Addr), RG (RB.Blk X s H scope C cl fp) tg γ js)
    (ht : ∀ (s : Shared) (H : Hp) (C : Addr) (cl : List (Str × Addr)) (fp : List Addr), RTs (RB.Blk X s H scope C cl fp) W0 ea ifs τ)
    (he : ∀ (s : Shared) (H : Hp) (C : Addr) (cl : List (Str × Addr)) (fp : List Addr), RE (RB.Blk X s H scope C cl fp) W0 ea elt φ)
    (hj : ∀ j ∈ js, j ∈ vs) (hvs : List.map (fun x => x.snd) own = vs) (hs : ∀ (x : Value), foldedSetIterable iter X.env x = pure x) :
    RE X W ea (.ListComp elt [{ target := tg, iter := iter, ifs := ifs, is_async := 0 }] scope pos) (eLc src γ τ φ vs) := by
  subst hvs
  refine PEby (pe_lc (g := tG X γ js) (tt := tT X W0 ea τ) (te := tE X W0 ea φ) hc nd hi hb hg ht he hs) fun σ H Q ⟨O, en, rp, q⟩ => ?_
  exact lc_core hj rp (lc_post rp.dom q)
end
end L2.RB
namespace L2.RB
open PySem PySem.Spec PyProof.Rows
/-! ### statements -/
inductive Fl where
  | nx (e : En) | rt (d : D) | bk (e : En) | ct (e : En) | xc (c : Str) (e : En)
abbrev SD := En → Option Fl
def Ex0 (O0 O : List Addr) (H : Hp) (O' : List Addr) (H' : Hp) : Prop := Same (cut H O) (cut H' O') ∧ ∀ a ∈ O0, H' a = H a
def FP (K : KW) (W : WX) (ea : Str → Addr) (O0 O : List Addr) (H : Hp) (D : Ends) : Fl → Prop
  | .nx e => ∀ σ' H' O', Rq K O0 O' e σ' H' → Ex0 O0 O H O' H' → D.nx σ' H'
  | .bk e => ∀ σ' H' O', Rq K O0 O' e σ' H' → Ex0 O0 O H O' H' → D.bk σ' H'
  | .ct e => ∀ σ' H' O', Rq K O0 O' e σ' H' → Ex0 O0 O H O' H' → D.ct σ' H'
  | .rt d => ∀ v H' O', (∀ a ∈ O0, a ∈ O') → Ex0 O0 O H O' H' → Rep K (cut H' O0) v d → D.rt v H'
  | .xc c e => ∀ σ' H' O', Rq K O0 O' e σ' H' → Ex0 O0 O H O' H' → W (.ref (ea c)) none σ' H'
def tS (X : Cx) (W : WX) (ea : Str → Addr) (O0 : List Addr) (φ : SD) : TS := fun D σ H => ∃ O e fl, Rq (kw X) O0 O e σ H ∧ φ e = some fl ∧ FP (kw X) W ea O0 O H D fl
abbrev RS (X : Cx) (W : WX) (ea : Str → Addr) (O0 : List Addr) (st : Stmt) (φ : SD) : Prop := PS X st (tS X W ea O0 φ)
abbrev RSs (X : Cx) (W : WX) (ea : Str → Addr) (O0 : List Addr) (st : List Stmt) (φ : SD) : Prop := PSs X st (tS X W ea O0 φ)
theorem PSby {X : Cx} {e : Stmt} {t t' : TS} (h : PS X e t) (k : ∀ D σ H, t' D σ H → t D σ H) : PS X e t' := ⟨fun pins s σ H D I q => h.run pins s σ H D I (k D σ H q)⟩
theorem PSsby {X : Cx} {e : List Stmt} {t t' : TS} (h : PSs X e t) (k : ∀ D σ H, t' D σ H → t D σ H) : PSs X e t' := ⟨fun pins s σ H D I q => h.run pins s σ H D I (k D σ H q)⟩
section
variable {K : KW} {W : WX} {ea : Str → Addr} {O0 O O' O2 : List Addr} {H H' H2 : Hp} {De : Ends} {e : En} {σ : St}
theorem Ex0.refl : Ex0 O0 O H O H := ⟨Same.refl _, fun _ _ => rfl⟩
theorem Ex0.trans (a : Ex0 O0 O H O' H') (b : Ex0 O0 O' H' O2 H2) : Ex0 O0 O H O2 H2 := ⟨a.1.trans b.1, fun x m => (b.2 x m).trans (a.2 x m)⟩
theorem Ex0.same (o : Own O H) (sub : ∀ a ∈ O0, a ∈ O) (s : Same H H') : Ex0 O0 O H O H' := ⟨cut_same s, fun a m => by
  obtain ⟨u, e⟩ := o a (sub a m)
  rw [e, s _ _ e]⟩
theorem Rq.ex (r : Rq K O0 O e σ H) (s : Same H H') : Ex0 O0 O H O H' := .same r.rp.dom r.sub s
theorem FP.mono {fl : Fl} (h : FP K W ea O0 O H De fl) (x : Ex0 O0 O H O' H') : FP K W ea O0 O' H' De fl := by
  cases fl with
  | nx e => exact fun σ2 H2 O2 r y => h σ2 H2 O2 r (x.trans y)
  | bk e => exact fun σ2 H2 O2 r y => h σ2 H2 O2 r (x.trans y)
  | ct e => exact fun σ2 H2 O2 r y => h σ2 H2 O2 r (x.trans y)
  | xc c e => exact fun σ2 H2 O2 r y => h σ2 H2 O2 r (x.trans y)
  | rt d => exact fun v H2 O2 m y => h v H2 O2 m (x.trans y)
theorem FP.same {fl : Fl} (h : FP K W ea O0 O H De fl) (r : Rq K O0 O e σ H) (s : Same H H') : FP K W ea O0 O H' De fl := h.mono (r.ex s)
/-- a new list in a slot -/
theorem Rq.setOwn {a : Addr} {vs : List V} {ds : List D} {i : Nat} (r : Rq K O0 O e σ H) (n : H a = none) (s : Same H H') (ha : H' a = some (.lst vs)) (q : Reps K (cut H' (a :: O)) vs ds) (hi : i < e.length) :
    Rq K O0 (a :: O) (e.set i (.ow ds)) (σ.set i (some (.ref a))) H' ∧ Ex0 O0 O H (a :: O) H' := by
  have hi' : i < σ.length := r.rp.len ▸ hi
  have fa : a ∉ O := r.rp.dom.fresh n
  have m := r.rp.more n s ha
  have old : ∀ (j : Nat) t b, e[j]? = some t → t.own = true → σ[j]? = some (some (.ref b)) → b ∈ O := fun j t b ht ot vt => by
    obtain ⟨v, e1, e2⟩ := r.rp.at_ j t ht
    rw [vt] at e1; cases e1
    cases t with
    | ow ds => obtain ⟨b', vs, ev, mb, _⟩ := e2; cases ev; exact mb
    | od ds => obtain ⟨b', vs, ev, mb, _⟩ := e2; cases ev; exact mb
    | un => cases ot
    | sh d => cases ot
  refine ⟨⟨⟨m.dom, by rw [List.length_set, List.length_set]; exact m.len, fun j t ht => ?_, fun j k sj sk b hj hk oj ok vj vk => ?_⟩, fun b mb => List.mem_cons_of_mem _ (r.sub b mb), fun j t b ht ot vt => ?_⟩, fun b o hb => ?_, fun b mb => ?_⟩
  · rcases set_get ht with ⟨rfl, rfl⟩ | ⟨hne, ht⟩
    · exact ⟨_, by rw [List.getElem?_set_self hi'], a, vs, rfl, List.mem_cons_self, ha, q⟩
    · obtain ⟨u, e1, e2⟩ := m.at_ j t ht
      exact ⟨u, by rw [List.getElem?_set_ne (Ne.symm hne)]; exact e1, e2⟩
  · rcases set_get hj with ⟨rfl, rfl⟩ | ⟨hne, hj2⟩
    · rcases set_get hk with ⟨rfl, rfl⟩ | ⟨hne2, hk⟩
      · rfl
      · rw [List.getElem?_set_self hi'] at vj
        rw [List.getElem?_set_ne (Ne.symm hne2)] at vk
        cases vj
        exact absurd (old k sk _ hk ok vk) fa
    · rw [List.getElem?_set_ne (Ne.symm hne)] at vj
      have mj := old j sj b hj2 oj vj
      rcases set_get hk with ⟨rfl, rfl⟩ | ⟨hne2, hk2⟩
      · rw [List.getElem?_set_self hi'] at vk
        cases vk
        exact absurd mj fa
      · rw [List.getElem?_set_ne (Ne.symm hne2)] at vk
        exact m.apart j k sj sk b hj2 hk2 oj ok vj vk
  · rcases set_get ht with ⟨rfl, rfl⟩ | ⟨hne, ht⟩
    · rw [List.getElem?_set_self hi'] at vt
      cases vt
      exact fun z => fa (r.sub _ z)
    · rw [List.getElem?_set_ne (Ne.symm hne)] at vt
      exact r.fr j t b ht ot vt
  · obtain ⟨q1, q2⟩ := of_cut hb
    rw [cut_of (by simp [ne_of_none q2 n, q1])]
    exact s _ _ q2
  · obtain ⟨u, hu⟩ := r.rp.dom b (r.sub b mb)
    rw [hu, s _ _ hu]
theorem cut_upd {a : Addr} {o : HO} (m : a ∈ O) : cut (upd H a o) O = cut H O := by
  funext b
  by_cases hb : b ∈ O
  · unfold cut; rw [if_pos hb, if_pos hb]
  · rw [cut_of hb, cut_of hb, upd_ne (fun z => hb (by rw [z]; exact m))]
/-- one's own list has changed -/
theorem Rq.chg {i : Nat} {ds ds' : List D} {a : Addr} {vs' : List V} (r : Rq K O0 O e σ H) (he : e[i]? = some (.ow ds)) (hv : σ[i]? = some (some (.ref a))) (q : Reps K (cut H O) vs' ds') :
    Rq K O0 O (e.set i (.ow ds')) σ (upd H a (.lst vs')) ∧ Ex0 O0 O H O (upd H a (.lst vs')) := by
  have hi : i < e.length := (List.getElem?_eq_some_iff.mp he).1
  obtain ⟨v, e1, e2⟩ := r.rp.at_ i _ he
  rw [hv] at e1
  cases e1
  obtain ⟨a', vs, ev, ma, ha, qa⟩ := e2
  cases ev
  have na : a ∉ O0 := r.fr i _ a he rfl hv
  refine ⟨⟨⟨fun b mb => ?_, by rw [List.length_set]; exact r.rp.len, fun j t ht => ?_, fun j k sj sk b hj hk oj ok vj vk => ?_⟩, r.sub, fun j t b ht ot vt => ?_⟩, by rw [cut_upd ma]; exact Same.refl _, fun b mb => ?_⟩
  · by_cases hb : b = a
    · subst hb; exact ⟨_, upd_same⟩
    · rw [upd_ne hb]; exact r.rp.dom b mb
  · rcases set_get ht with ⟨rfl, rfl⟩ | ⟨hne, ht⟩
    · exact ⟨_, hv, a, vs', rfl, ma, upd_same, by rw [cut_upd ma]; exact q⟩
    · obtain ⟨u, e1, e2⟩ := r.rp.at_ j t ht
      refine ⟨u, e1, ?_⟩
      cases t with
      | un => trivial
      | sh d => obtain ⟨x, ev, q⟩ := e2; exact ⟨x, ev, by rw [cut_upd ma]; exact q⟩
      | ow ds2 =>
        obtain ⟨b, us, ev, mb, hb, q⟩ := e2
        have nb : b ≠ a := fun z => hne (r.rp.apart j i _ _ a ht he rfl rfl (by rw [e1, ev, z]) hv)
        exact ⟨b, us, ev, mb, by rw [upd_ne nb]; exact hb, by rw [cut_upd ma]; exact q⟩
      | od ds2 =>
        obtain ⟨b, us, ev, mb, hb, q⟩ := e2
        have nb : b ≠ a := fun z => hne (r.rp.apart j i _ _ a ht he rfl rfl (by rw [e1, ev, z]) hv)
        exact ⟨b, us, ev, mb, by rw [upd_ne nb]; exact hb, by rw [cut_upd ma]; exact q⟩
  · have g : ∀ (n : Nat) t, (e.set i (.ow ds'))[n]? = some t → t.own = true → ∃ t', e[n]? = some t' ∧ t'.own = true := fun n t hn on => by
      rcases set_get hn with ⟨rfl, rfl⟩ | ⟨_, hn⟩
      · exact ⟨_, he, rfl⟩
      · exact ⟨t, hn, on⟩
    obtain ⟨tj, g1, g2⟩ := g j sj hj oj
    obtain ⟨tk, g3, g4⟩ := g k sk hk ok
    exact r.rp.apart j k tj tk b g1 g3 g2 g4 vj vk
  · rcases set_get ht with ⟨rfl, rfl⟩ | ⟨hne, ht⟩
    · rw [hv] at vt; cases vt; exact na
    · exact r.fr j t b ht ot vt
  · rw [upd_ne (fun z => na (by rw [← z]; exact mb))]
/-- one's own list is frozen -/
theorem Rq.frz {i : Nat} {ds : List D} (r : Rq K O0 O e σ H) (he : e[i]? = some (.ow ds)) : ∃ O', Rq K O0 O' (e.set i (.sh (.lst ds))) σ H ∧ Ex0 O0 O H O' H := by
  have hi : i < e.length := (List.getElem?_eq_some_iff.mp he).1
  obtain ⟨v, e1, a, vs, ev, ma, ha, qa⟩ := r.rp.at_ i _ he
  subst ev
  have na : a ∉ O0 := r.fr i _ a he rfl e1
  have sc : Same (cut H O) (cut H (O.filter (· ≠ a))) := fun b u hb => by
    obtain ⟨q1, q2⟩ := of_cut hb
    rw [cut_of fun z => q1 (List.mem_filter.mp z).1]
    exact q2
  have mem : ∀ b, b ∈ O → b ≠ a → b ∈ O.filter (· ≠ a) := fun b m n => List.mem_filter.mpr ⟨m, by simpa using n⟩
  refine ⟨O.filter (· ≠ a), ⟨⟨fun b mb => r.rp.dom b (List.mem_filter.mp mb).1, by rw [List.length_set]; exact r.rp.len, fun j t ht => ?_, fun j k sj sk b hj hk oj ok vj vk => ?_⟩, fun b mb => mem b (r.sub b mb) fun z => na (by rw [← z]; exact mb), fun j t b ht ot vt => ?_⟩, sc, fun _ _ => rfl⟩
  · rcases set_get ht with ⟨rfl, rfl⟩ | ⟨hne, ht⟩
    · exact ⟨_, e1, _, rfl, .lst (by rw [cut_of (by simp)]; exact ha) (qa.mono sc)⟩
    · obtain ⟨u, f1, f2⟩ := r.rp.at_ j t ht
      refine ⟨u, f1, ?_⟩
      cases t with
      | un => trivial
      | sh d => obtain ⟨x, ev, q⟩ := f2; exact ⟨x, ev, q.mono sc⟩
      | ow ds2 =>
        obtain ⟨b, us, ev, mb, hb, q⟩ := f2
        have nb : b ≠ a := fun z => hne (r.rp.apart j i _ _ a ht he rfl rfl (by rw [f1, ev, z]) e1)
        exact ⟨b, us, ev, mem b mb nb, hb, q.mono sc⟩
      | od ds2 =>
        obtain ⟨b, us, ev, mb, hb, q⟩ := f2
        have nb : b ≠ a := fun z => hne (r.rp.apart j i _ _ a ht he rfl rfl (by rw [f1, ev, z]) e1)
        exact ⟨b, us, ev, mem b mb nb, hb, q.mono sc⟩
  · rcases set_get hj with ⟨rfl, rfl⟩ | ⟨hne, hj⟩
    · cases oj
    · rcases set_get hk with ⟨rfl, rfl⟩ | ⟨hne2, hk⟩
      · cases ok
      · exact r.rp.apart j k sj sk b hj hk oj ok vj vk
  · rcases set_get ht with ⟨rfl, rfl⟩ | ⟨hne, ht⟩
    · cases ot
    · exact r.fr j t b ht ot vt
end
/-! ### the statements' readings -/
def lft {α : Type} (r : Res α) (e : En) (k : α → Option Fl) : Option Fl := match r with
  | .ok a => k a
  | .exc c => some (.xc c e)
  | .stuck => none
def sNil : SD := fun e => some (.nx e)
def sSeq (φ ψ : SD) : SD := fun e => match φ e with
  | some (.nx e1) => ψ e1
  | r => r
def sSet (i : Nat) (φ : ED) : SD := fun e => lft (φ e) e fun d => if i < e.length then some (.nx (e.set i (.sh d))) else none
def sOwn (i : Nat) (φ : ED) : SD := fun e => lft (φ e) e fun d => match d with
  | .lst ds => if i < e.length then some (.nx (e.set i (.ow ds))) else none
  | _ => none
def sAsg (γ : GD) (φ : ED) : SD := fun e => lft (φ e) e fun d => lft (γ d e).nox e fun e1 => some (.nx e1)
def sDrop (φ : ED) : SD := fun e => lft (φ e) e fun _ => some (.nx e)
def sRet (φ : ED) : SD := fun e => lft (φ e) e fun d => some (.rt d)
def sRetV (i : Nat) : SD := fun e => match e[i]? with
  | some (.sh d) => some (.rt d)
  | some (.ow ds) => some (.rt (.lst ds))
  | some (.od ds) => some (.rt (.dct ds))
  | _ => none
def sRetN : SD := fun _ => some (.rt .non)
def sIf (τ : TD) (φ ψ : SD) : SD := fun e => lft (τ e) e fun b => if b then φ e else ψ e
def sBrk : SD := fun e => some (.bk e)
def sCnt : SD := fun e => some (.ct e)
def sFrz (i : Nat) : SD := fun e => match e[i]? with
  | some (.ow ds) => some (.nx (e.set i (.sh (.lst ds))))
  | _ => none
def loopD (γ : GD) (b : SD) : List D → En → Option Fl
  | [], e => some (.nx e)
  | x :: xs, e => match (γ x e).nox with
    | .ok e1 => match b e1 with
      | some (.nx e2) => loopD γ b xs e2
      | some (.ct e2) => loopD γ b xs e2
      | some (.bk e2) => some (.nx e2)
      | r => r
    | _ => none
def sFor (src : AD) (γ : GD) (b : SD) : SD := fun e => lft (src e) e fun ds => loopD γ b ds e
def loopW (τ : TD) (b : SD) : Nat → En → Option Fl
  | 0, _ => none
  | n + 1, e => match τ e with
    | .ok true => match b e with
      | some (.nx e2) => loopW τ b n e2
      | some (.ct e2) => loopW τ b n e2
      | some (.bk e2) => some (.nx e2)
      | r => r
    | .ok false => some (.nx e)
    | .exc c => some (.xc c e)
    | .stuck => none
def sWhile (n : En → Nat) (τ : TD) (b : SD) : SD := fun e => loopW τ b (n e) e
section
variable {X : Cx} {W : WX} {ea : Str → Addr} {O0 : List Addr}
theorem lft_some {α : Type} {r : Res α} {e : En} {k : α → Option Fl} {fl : Fl} (h : lft r e k = some fl) : (∃ a, r = .ok a ∧ k a = some fl) ∨ (∃ c, r = .exc c ∧ fl = .xc c e) := by
  cases r with
  | ok a => exact .inl ⟨a, rfl, h⟩
  | exc c => cases h; exact .inr ⟨c, rfl, rfl⟩
  | stuck => cases h
/-- a refusal on the way -/
theorem FP.exk {K : KW} {O : List Addr} {H : Hp} {D : Ends} {c : Str} {e : En} {σ : St} (h : FP K W ea O0 O H D (.xc c e)) (r : Rq K O0 O e σ H) : exK W ea σ H c := fun H' s => h σ H' O (r.mono s) (r.ex s)
theorem rss_nil : RSs X W ea O0 [] sNil := PSsby pss_nil fun D σ H ⟨O, e, fl, rq, hf, q⟩ => by
  cases hf
  exact q σ H O rq .refl
theorem seq_of {φ ψ : SD} {D : Ends} {σ : St} {H : Hp} (h : tS X W ea O0 (sSeq φ ψ) D σ H) : tSeq (tS X W ea O0 φ) (tS X W ea O0 ψ) D σ H := by
  obtain ⟨O, e, fl, rq, hf, q⟩ := h
  unfold sSeq at hf
  cases h1 : φ e with
  | none => rw [h1] at hf; cases hf
  | some f1 =>
    rw [h1] at hf
    refine ⟨O, e, f1, rq, h1, ?_⟩
    cases f1 with
    | nx e1 => exact fun σ' H' O' r x => ⟨O', e1, fl, r, hf, q.mono x⟩
    | _ => cases hf; exact q
theorem rss_cons {st : Stmt} {rest : List Stmt} {φ ψ : SD} (h : RS X W ea O0 st φ) (t : RSs X W ea O0 rest ψ) : RSs X W ea O0 (st :: rest) (sSeq φ ψ) := PSsby (pss_cons h t) fun D σ H h => seq_of h
theorem rss_one {st : Stmt} {φ : SD} (h : RS X W ea O0 st φ) : RSs X W ea O0 [st] φ := pss_one h
/-- a silent step ahead -/
theorem rss_frz {st : List Stmt} {i : Nat} {ψ : SD} (t : RSs X W ea O0 st ψ) : RSs X W ea O0 st (sSeq (sFrz i) ψ) := PSsby t fun D σ H ⟨O, e, fl, rq, hf, q⟩ => by
  unfold sSeq sFrz at hf
  cases he : e[i]? with
  | none => rw [he] at hf; cases hf
  | some s =>
    rw [he] at hf
    cases s with
    | ow ds =>
      obtain ⟨O', r', x⟩ := rq.frz he
      exact ⟨O', _, fl, r', hf, q.mono x⟩
    | _ => cases hf
theorem rs_setOf {st : Stmt} {te : TE} {i : Nat} {φ : ED} (h : PS X st (tAsg te (gName i))) (k : ∀ σ H Q, tE X W ea φ σ H Q → te σ H Q) : RS X W ea O0 st (sSet i φ) := PSby h fun D σ H ⟨O, e, fl, rq, hf, q⟩ => by
  refine k _ _ _ ⟨O, e, rq.rp, ?_⟩
  rcases lft_some hf with ⟨d, hd, hk⟩ | ⟨c, hc, rfl⟩
  · rw [hd]
    by_cases hi : i < e.length
    · rw [if_pos hi] at hk
      cases hk
      exact fun v H' s r => q _ H' O ((rq.mono s).set hi ⟨v, rfl, r⟩ rfl) (rq.ex s)
    · rw [if_neg hi] at hk; cases hk
  · rw [hc]; exact q.exk rq
theorem rs_ownOf {st : Stmt} {te : TE} {i : Nat} {φ : ED} (h : PS X st (tAsg te (gName i))) (k : ∀ σ H Q, tEF X W ea φ σ H Q → te σ H Q) : RS X W ea O0 st (sOwn i φ) := PSby h fun D σ H ⟨O, e, fl, rq, hf, q⟩ => by
  refine k _ _ _ ⟨O, e, rq.rp, ?_⟩
  rcases lft_some hf with ⟨d, hd, hk⟩ | ⟨c, hc, rfl⟩
  · rw [hd]
    cases d with
    | lst ds =>
      simp only at hk
      by_cases hi : i < e.length
      · rw [if_pos hi] at hk
        cases hk
        refine ⟨ds, rfl, fun a vs H' n s ha r => ?_⟩
        obtain ⟨r1, x1⟩ := rq.setOwn n s ha r hi
        exact q _ H' _ r1 x1
      · rw [if_neg hi] at hk; cases hk
    | _ => cases hk
  · rw [hc]; exact q.exk rq
theorem rs_set {x : Str} {i : Nat} {e : Expr} {φ : ED} {pos pos' : Pos} (nd : X.N.Nodup) (hx : X.N[i]? = some x) (hl : L2.Loc X.env.scope x) (he : RE X W ea e φ) (hs : swapsWith e (some (.Name x pos')) pos.line X.env = pure false) (hf : X.fn x = true ∨ List.lookup x X.env.scope.names = some NameKind.local) :
    RS X W ea O0 (.Assign [.Name x pos'] e pos) (sSet i φ) := rs_setOf (ps_set nd hx hl he hs hf) fun _ _ _ h => h
theorem rs_own {x : Str} {i : Nat} {e : Expr} {φ : ED} {pos pos' : Pos} (nd : X.N.Nodup) (hx : X.N[i]? = some x) (hl : L2.Loc X.env.scope x) (he : RF X W ea e φ) (hs : swapsWith e (some (.Name x pos')) pos.line X.env = pure false) (hf : X.fn x = true ∨ List.lookup x X.env.scope.names = some NameKind.local) :
    RS X W ea O0 (.Assign [.Name x pos'] e pos) (sOwn i φ) := rs_ownOf (ps_set nd hx hl he hs hf) fun _ _ _ h => h
theorem rs_ownLc {y : Str} {py spos : Pos} {i : Nat} {elt tg iter : Expr} {ifs : List Expr} {scope : Scope} {own : List (Str × Nat)} {vs : List Nat} {pos : Pos} {src : AD} {γ : GD} {js : List Nat} {τ : TD} {φ : ED} (hc : X.calm = true) (nd : X.N.Nodup) (hy : X.N[i]? = some y) (hyl : List.lookup y X.env.scope.names = some NameKind.local)
    (hsw : swapsWith (.ListComp elt [{ target := tg, iter := iter, ifs := ifs, is_async := 0 }] scope pos) (some (.Name y py)) spos.line X.env = pure true) (hi : RIB X W ea tg iter src) (hb : BlkOk X.N X.env.scope scope own)
    (hg : ∀ (s : Shared) (H : Hp) (C : Addr) (cl : List (Str × Addr)) (fp : List Addr), RG (RB.Blk X s H scope C cl fp) tg γ js)
    (ht : ∀ (s : Shared) (H : Hp) (C : Addr) (cl : List (Str × Addr)) (fp : List Addr), RTs (RB.Blk X s H scope C cl fp) W0 ea ifs τ)
    (he : ∀ (s : Shared) (H : Hp) (C : Addr) (cl : List (Str × Addr)) (fp : List Addr), RE (RB.Blk X s H scope C cl fp) W0 ea elt φ)
    (hj : ∀ j ∈ js, j ∈ vs) (hvs : List.map (fun x => x.snd) own = vs) (hs : ∀ (x : Value), foldedSetIterable iter X.env x = pure x) :
    RS X W ea O0 (.Assign [.Name y py] (.ListComp elt [{ target := tg, iter := iter, ifs := ifs, is_async := 0 }] scope pos) spos) (sOwn i (eLc src γ τ φ vs)) := by
  subst hvs
  exact rs_ownOf (ps_setLc (g := tG X γ js) (tt := tT X W0 ea τ) (te := tE X W0 ea φ) hc nd hy hyl hsw hi hb hg ht he hs) fun σ H Q ⟨O, en, rp, q⟩ => lc_core hj rp q
theorem rs_setLc {y : Str} {py spos : Pos} {i : Nat} {elt tg iter : Expr} {ifs : List Expr} {scope : Scope} {own : List (Str × Nat)} {vs : List Nat} {pos : Pos} {src : AD} {γ : GD} {js : List Nat} {τ : TD} {φ : ED} (hc : X.calm = true) (nd : X.N.Nodup) (hy : X.N[i]? = some y) (hyl : List.lookup y X.env.scope.names = some NameKind.local)
    (hsw : swapsWith (.ListComp elt [{ target := tg, iter := iter, ifs := ifs, is_async := 0 }] scope pos) (some (.Name y py)) spos.line X.env = pure true) (hi : RIB X W ea tg iter src) (hb : BlkOk X.N X.env.scope scope own)
    (hg : ∀ (s : Shared) (H : Hp) (C : Addr) (cl : List (Str × Addr)) (fp : List Addr), RG (RB.Blk X s H scope C cl fp) tg γ js)
    (ht : ∀ (s : Shared) (H : Hp) (C : Addr) (cl : List (Str × Addr)) (fp : List Addr), RTs (RB.Blk X s H scope C cl fp) W0 ea ifs τ)
    (he : ∀ (s : Shared) (H : Hp) (C : Addr) (cl : List (Str × Addr)) (fp : List Addr), RE (RB.Blk X s H scope C cl fp) W0 ea elt φ)
    (hj : ∀ j ∈ js, j ∈ vs) (hvs : List.map (fun x => x.snd) own = vs) (hs : ∀ (x : Value), foldedSetIterable iter X.env x = pure x) :
    RS X W ea O0 (.Assign [.Name y py] (.ListComp elt [{ target := tg, iter := iter, ifs := ifs, is_async := 0 }] scope pos) spos) (sSet i (eLc src γ τ φ vs)) := by
  subst hvs
  exact rs_setOf (ps_setLc (g := tG X γ js) (tt := tT X W0 ea τ) (te := tE X W0 ea φ) hc nd hy hyl hsw hi hb hg ht he hs) fun σ H Q ⟨O, en, rp, q⟩ => lc_core hj rp (lc_post rp.dom q)
theorem rs_asg {tg e : Expr} {γ : GD} {js : List Nat} {φ : ED} {pos : Pos} (he : RE X W ea e φ) (hg : RG X tg γ js) (h1 : swapsWithSole [tg] e pos.line X.env = pure false) (h2 : swappedStores [tg] e X.env = pure none) (h3 : List.map (fun x => x.snd) (assignEach [tg] X.env) = [assign tg X.env]) :
    RS X W ea O0 (.Assign [tg] e pos) (sAsg γ φ) := PSby (ps_asg he hg h1 h2 h3) fun D σ H ⟨O, e, fl, rq, hf, q⟩ => by
  refine ⟨O, e, rq.rp, ?_⟩
  rcases lft_some hf with ⟨d, hd, hk⟩ | ⟨c, hc, rfl⟩
  · rw [hd]
    intro v H' s r
    refine ⟨O0, O, e, d, rq.mono s, r, ?_⟩
    rcases lft_some hk with ⟨e1, hd1, hk1⟩ | ⟨c, hc, rfl⟩
    · cases hk1
      cases hg1 : γ d e with
      | ok e2 => rw [hg1] at hd1; cases hd1; exact fun σ' r1 _ _ => q σ' H' O r1 (rq.ex s)
      | _ => rw [hg1] at hd1; cases hd1
    · cases hg1 : γ d e with
      | _ => rw [hg1] at hc; cases hc
  · rw [hc]; exact q.exk rq
theorem rs_drop {e : Expr} {φ : ED} {pos : Pos} (he : RB X W ea e φ) (h1 : swapsWith e none pos.line X.env = pure false) : RS X W ea O0 (.Expr e pos) (sDrop φ) := PSby (ps_expr he h1) fun D σ H ⟨O, e, fl, rq, hf, q⟩ => by
  refine ⟨O, e, rq.rp, ?_⟩
  rcases lft_some hf with ⟨d, hd, hk⟩ | ⟨c, hc, rfl⟩
  · rw [hd]
    cases hk
    exact fun v H' s r => q σ H' O (rq.mono s) (rq.ex s)
  · rw [hc]; exact q.exk rq
theorem cut_sub {H : Hp} {O0 O : List Addr} (s : ∀ a ∈ O0, a ∈ O) : Same (cut H O) (cut H O0) := fun b u hb => by
  obtain ⟨q1, q2⟩ := of_cut hb
  rw [cut_of fun z => q1 (s b z)]
  exact q2
theorem rs_ret {e : Expr} {φ : ED} {pos : Pos} (he : RE X W ea e φ) : RS X W ea O0 (.Return (some e) pos) (sRet φ) := PSby (ps_ret he) fun D σ H ⟨O, e, fl, rq, hf, q⟩ => by
  refine ⟨O, e, rq.rp, ?_⟩
  rcases lft_some hf with ⟨d, hd, hk⟩ | ⟨c, hc, rfl⟩
  · rw [hd]
    cases hk
    exact fun v H' s r => q v H' O rq.sub (rq.ex s) (r.mono (cut_sub rq.sub))
  · rw [hc]; exact q.exk rq
theorem rs_retN {pos : Pos} : RS X W ea O0 (.Return none pos) sRetN := PSby ps_retN fun D σ H ⟨O, e, fl, rq, hf, q⟩ => by
  cases hf
  exact q .non H O rq.sub .refl .non
theorem rs_retV {i : Nat} {x : Str} {p pos : Pos} (hx : X.N[i]? = some x) (hv : Vis X.env.scope x) (h1 : (x == Str.ofString "__debug__") = false) (h2 : (x == Str.ofString "__classdict__") = false) : RS X W ea O0 (.Return (some (.Name x p)) pos) (sRetV i) := by
  refine PSby (ps_ret (pe_var hx hv h1 h2)) fun D σ H ⟨O, e, fl, rq, hf, q⟩ => ?_
  unfold sRetV at hf
  split at hf
  · rename_i d he
    obtain ⟨v, e1, x, ev, r⟩ := rq.rp.at_ _ _ he
    cases hf; subst ev
    exact ⟨x, e1, q x H O rq.sub .refl (r.mono (cut_sub rq.sub))⟩
  · rename_i d he
    obtain ⟨v, e1, a, vs, ev, m, ha, r⟩ := rq.rp.at_ _ _ he
    cases hf; subst ev
    exact ⟨_, e1, q _ H O rq.sub .refl (.lst (by rw [cut_of (rq.fr _ _ _ he rfl e1)]; exact ha) (r.mono (cut_sub rq.sub)))⟩
  · rename_i d he
    obtain ⟨v, e1, a, vs, ev, m, ha, r⟩ := rq.rp.at_ _ _ he
    cases hf; subst ev
    exact ⟨_, e1, q _ H O rq.sub .refl (.dK (by rw [cut_of (rq.fr _ _ _ he rfl e1)]; exact ha) (r.mono (cut_sub rq.sub)))⟩
  · cases hf
theorem rs_if {c : Expr} {a b : List Stmt} {τ : TD} {φ ψ : SD} {pos : Pos} (hc : RT X W ea c τ) (ha : RSs X W ea O0 a φ) (hb : RSs X W ea O0 b ψ) : RS X W ea O0 (.If c a b pos) (sIf τ φ ψ) := PSby (ps_if hc ha hb) fun D σ H ⟨O, e, fl, rq, hf, q⟩ => by
  refine ⟨O, e, rq.rp, ?_⟩
  rcases lft_some hf with ⟨b, hd, hk⟩ | ⟨c, hc, rfl⟩
  · rw [hd]
    intro H' s
    cases b with
    | true => exact ⟨O, e, fl, rq.mono s, hk, q.same rq s⟩
    | false => exact ⟨O, e, fl, rq.mono s, hk, q.same rq s⟩
  · rw [hc]; exact q.exk rq
theorem rs_pass {pos : Pos} : RS X W ea O0 (.Pass pos) sNil := PSby ps_pass fun D σ H ⟨O, e, fl, rq, hf, q⟩ => by
  cases hf
  exact q σ H O rq .refl
theorem rs_brk {pos : Pos} : RS X W ea O0 (.Break pos) sBrk := PSby ps_break fun D σ H ⟨O, e, fl, rq, hf, q⟩ => by
  cases hf
  exact q σ H O rq .refl
theorem rs_cnt {pos : Pos} : RS X W ea O0 (.Continue pos) sCnt := PSby ps_continue fun D σ H ⟨O, e, fl, rq, hf, q⟩ => by
  cases hf
  exact q σ H O rq .refl
theorem rs_for {tg iter : Expr} {body : List Stmt} {pos : Pos} {src : AD} {γ : GD} {js : List Nat} {φ : SD} (hp : PassesOwn (model X.prog X.w) X.A X.env X.xe) (hc : X.calm = true) (hi : RI X W ea tg iter src) (hg : RG X tg γ js) (hb : RSs X W ea O0 body φ)
    (hs : ∀ (x : Value), foldedSetIterable iter X.env x = pure x) : RS X W ea O0 (.For tg iter body [] pos) (sFor src γ φ) := PSby (ps_for hp hc hi hg hb hs) fun D σ H ⟨O, e, fl, rq, hf, q⟩ => by
  refine ⟨O, e, rq.rp, ?_⟩
  rcases lft_some hf with ⟨ds, hd, hk⟩ | ⟨c, hc, rfl⟩
  case inr => rw [hc]; exact q.exk rq
  rw [hd]
  intro J H1 s1 yl
  refine ⟨fun i m σ H2 => m = ds.length - i ∧ i ≤ ds.length ∧ ∃ O2 e2, Rq (kw X) O0 O2 e2 σ H2 ∧ Same (cut H1 O) (cut H2 O2) ∧ loopD γ φ (ds.drop i) e2 = some fl ∧ FP (kw X) W ea O0 O2 H2 D fl,
    ⟨ds.length, by simp, Nat.zero_le _, O, e, rq.mono s1, Same.refl _, hk, q.same rq s1⟩, fun i m σ2 H2 hW => ?_⟩
  obtain ⟨em, hi, O2, e2, r2, sc, hl, q2⟩ := hW
  obtain ⟨y1, y2⟩ := yl i H2 (sc.trans (cut_le _ _))
  by_cases hend : i = ds.length
  · subst hend
    rw [List.drop_length] at hl
    cases hl
    exact .inl ⟨y1 rfl, q2 σ2 H2 O2 r2 .refl⟩
  · have hlt : i < ds.length := Nat.lt_of_le_of_ne hi hend
    obtain ⟨d, hd2⟩ : ∃ d, ds[i]? = some d := ⟨_, List.getElem?_eq_getElem hlt⟩
    obtain ⟨hgo, hy⟩ := y2 d hd2
    have hdrop : ds.drop i = d :: ds.drop (i + 1) := by
      rw [List.drop_eq_getElem_cons hlt]
      congr 1
      have := List.getElem?_eq_getElem hlt
      rw [hd2] at this
      exact (Option.some.inj this).symm
    rw [hdrop] at hl
    unfold loopD at hl
    refine .inr ⟨hgo, fun σ' H' => ∃ O3 e3, Rq (kw X) O0 O3 e3 σ' H' ∧ Same (cut H1 O) (cut H' O3) ∧ loopD γ φ (ds.drop (i + 1)) e3 = some fl ∧ FP (kw X) W ea O0 O3 H' D fl, fun σ' H' hN => ⟨m - 1, by omega, by omega, hlt, hN⟩, fun x H' hyld => ?_⟩
    obtain ⟨s3, hitem⟩ := hy x H' hyld
    refine ⟨O0, O2, e2, d, r2.mono s3, hitem O2 r2.rp.dom sc, ?_⟩
    cases hg1 : γ d e2 with
    | stuck => rw [hg1] at hl; cases hl
    | exc c => rw [hg1] at hl; cases hl
    | ok e3 =>
      rw [hg1] at hl
      intro σ3 r3 _ _
      have hl : (match φ e3 with
        | some (.nx e2) => loopD γ φ (ds.drop (i + 1)) e2
        | some (.ct e2) => loopD γ φ (ds.drop (i + 1)) e2
        | some (.bk e2) => some (.nx e2)
        | r => r) = some fl := hl
      have q3 : FP (kw X) W ea O0 O2 H' D fl := q2.same r2 s3
      have sc3 : Same (cut H1 O) (cut H' O2) := sc.trans (cut_same s3)
      cases hb1 : φ e3 with
      | none => rw [hb1] at hl; cases hl
      | some f3 =>
        rw [hb1] at hl
        refine ⟨O2, e3, f3, r3, hb1, ?_⟩
        cases f3 with
        | nx e4 => exact fun σ4 H4 O4 r4 x4 => ⟨O4, e4, r4, sc3.trans x4.1, hl, q3.mono x4⟩
        | ct e4 => exact fun σ4 H4 O4 r4 x4 => ⟨O4, e4, r4, sc3.trans x4.1, hl, q3.mono x4⟩
        | bk e4 => cases hl; exact fun σ4 H4 O4 r4 x4 => q3 σ4 H4 O4 r4 x4
        | rt d => cases hl; exact q3
        | xc c e => cases hl; exact q3
theorem rs_while {c : Expr} {body : List Stmt} {pos : Pos} {τ : TD} {φ : SD} (n : En → Nat) (hp : PassesOwn (model X.prog X.w) X.A X.env X.xe) (hc : RT X W ea c τ) (hb : RSs X W ea O0 body φ) : RS X W ea O0 (.While c body [] pos) (sWhile n τ φ) := PSby (ps_while hp hc hb) fun D σ H ⟨O, e, fl, rq, hf, q⟩ => by
  refine ⟨fun m σ H2 => ∃ O2 e2, Rq (kw X) O0 O2 e2 σ H2 ∧ loopW τ φ m e2 = some fl ∧ FP (kw X) W ea O0 O2 H2 D fl, ⟨n e, O, e, rq, hf, q⟩, fun m σ2 H2 ⟨O2, e2, r2, hl, q2⟩ => ⟨O2, e2, r2.rp, ?_⟩⟩
  cases m with
  | zero => cases hl
  | succ m =>
    unfold loopW at hl
    cases ht : τ e2 with
    | stuck => rw [ht] at hl; cases hl
    | exc c => rw [ht] at hl; cases hl; exact q2.exk r2
    | ok b =>
      rw [ht] at hl
      intro H3 s3
      cases b with
      | false => cases hl; exact q2 σ2 H3 O2 (r2.mono s3) (r2.ex s3)
      | true =>
        have hl : (match φ e2 with
          | some (.nx e2) => loopW τ φ m e2
          | some (.ct e2) => loopW τ φ m e2
          | some (.bk e2) => some (.nx e2)
          | r => r) = some fl := hl
        have q3 : FP (kw X) W ea O0 O2 H3 D fl := q2.same r2 s3
        refine ⟨fun σ' H' => ∃ O2 e2, Rq (kw X) O0 O2 e2 σ' H' ∧ loopW τ φ m e2 = some fl ∧ FP (kw X) W ea O0 O2 H' D fl, fun σ' H' h => ⟨m, Nat.lt_succ_self _, h⟩, ?_⟩
        cases hb1 : φ e2 with
        | none => rw [hb1] at hl; cases hl
        | some f3 =>
          rw [hb1] at hl
          refine ⟨O2, e2, f3, r2.mono s3, hb1, ?_⟩
          cases f3 with
          | nx e4 => exact fun σ4 H4 O4 r4 x4 => ⟨O4, e4, r4, hl, q3.mono x4⟩
          | ct e4 => exact fun σ4 H4 O4 r4 x4 => ⟨O4, e4, r4, hl, q3.mono x4⟩
          | bk e4 => cases hl; exact fun σ4 H4 O4 r4 x4 => q3 σ4 H4 O4 r4 x4
          | rt d => cases hl; exact q3
          | xc c e => cases hl; exact q3
/-! ### methods that change one's own list -/
def sMet (i : Nat) (f : List D → List D → Option (List D)) (φ : AD) : SD := fun e => match e[i]? with
  | some (.ow ds) => lft (φ e) e fun as => match f ds as with
    | some ds' => some (.nx (e.set i (.ow ds')))
    | none => none
  | _ => none
def fApp (ds as : List D) : Option (List D) := match as with
  | [d] => if ds.length < LIM then some (ds ++ [d]) else none
  | _ => none
def fExt (ds as : List D) : Option (List D) := match as with
  | [.lst es] => if ds.length + es.length ≤ LIM then some (ds ++ es) else none
  | _ => none
def fIns (ds as : List D) : Option (List D) := match as with
  | [.int i, d] => if ds.length < LIM ∧ 0 ≤ i ∧ i < 2 ^ 63 then some (ds.take i.toNat ++ [d] ++ ds.drop i.toNat) else none
  | _ => none
/-- what the method does -/
def MtC (X : Cx) (r : V → List V → Hp → VK → Prop) (f : List D → List D → Option (List D)) : Prop := ∀ (K : KW) (G : Hp) (a : Addr) (vs as : List V) (ds es ds' : List D) (H : Hp) (Q : VK), H a = some (.lst vs) → Reps K G vs ds → Reps K G as es → Same G H → f ds es = some ds' →
  (∀ us v, Reps K G us ds' → Q v (upd H a (.lst us))) → r (.ref a) as H Q
theorem mc_app : MtC X rAppend fApp := fun K G a vs as ds es ds' H Q ha r1 r2 sg hf k => by
  unfold fApp at hf
  split at hf
  · split at hf
    · rename_i d hl
      cases hf
      obtain ⟨v, rfl, rv⟩ := r2.one
      exact ⟨a, vs, v, rfl, rfl, ha, by rw [r1.length, ← lim_eq]; exact hl, k _ _ (r1.append (.cons rv .nil))⟩
    · cases hf
  · cases hf
theorem mc_ext : MtC X rExtend fExt := fun K G a vs as ds es ds' H Q ha r1 r2 sg hf k => by
  unfold fExt at hf
  split at hf
  · split at hf
    · rename_i zs hl
      cases hf
      obtain ⟨v, rfl, rv⟩ := r2.one
      obtain ⟨b, ws, rfl, hb, rr⟩ := rv.lst_inv
      exact ⟨a, b, vs, ws, rfl, rfl, ha, sg _ _ hb, by rw [r1.length, rr.length, ← lim_eq]; exact hl, k _ _ (r1.append rr)⟩
    · cases hf
  · cases hf
theorem mc_ins : MtC X (fun x vs H Q => ∃ l xs i y, x = V.ref l ∧ vs = [V.int i, y] ∧ H l = some (HO.lst xs) ∧ xs.length < sizeLine ∧ 0 ≤ i ∧ i < 2 ^ 63 ∧ Q V.non (upd H l (HO.lst (List.take i.toNat xs ++ [y] ++ List.drop i.toNat xs)))) fIns := fun K G a vs as ds es ds' H Q ha r1 r2 sg hf k => by
  unfold fIns at hf
  split at hf
  · split at hf
    · rename_i i d hl
      cases hf
      obtain ⟨x, v, rfl, rx, rv⟩ := r2.two
      cases rx
      exact ⟨a, vs, i, v, rfl, rfl, ha, by rw [r1.length, ← lim_eq]; exact hl.1, hl.2.1, hl.2.2, k _ _ (((r1.take _).append (.cons rv .nil)).append (r1.drop _))⟩
    · cases hf
  · cases hf
theorem rs_met {i : Nat} {x : Str} {p apos cpos pos : Pos} {name : Str} {id : String} {r : V → List V → Hp → VK → Prop} {f : List D → List D → Option (List D)} {a : Expr} {es : List Expr} {φ : AD} (hx : X.N[i]? = some x) (hv : Vis X.env.scope x)
    (hsl : Slot "list" name id) (hty : typeOf (Value.builtin id) = pure (Value.type "method_descriptor")) (hm : MtR X id r) (hc : MtC X r f) (ha : RA X W ea (a :: es) φ)
    (h1 : attributeBase (.Name x p) name X.env (eval (.Name x p) X.env) = eval (.Name x p) X.env)
    (h2 : ((((backTo cpos (starEach (a :: es) X.env)).all fun x => !x.fst) && (backToKw cpos (keywordEach [] X.env)).all fun x => x.fst.isSome) && decide (((a :: es).length + ([] : List Keyword).length + if ([] : List Keyword).isEmpty = true then 0 else 1) < 30)) = true)
    (h3 : (apos.endLine == cpos.line) = true) (h4 : starEach (a :: es) X.env = (false, eval a X.env) :: starEach es X.env) (h5 : ((backTo cpos (starEach es X.env)).any fun x => x.fst) = false)
    (h6 : swapsWith (.Call (.Attribute (.Name x p) name apos) (a :: es) [] cpos) none pos.line X.env = pure false)
    (hd1 : (x == Str.ofString "__debug__") = false) (hd2 : (x == Str.ofString "__classdict__") = false) :
    RS X W ea O0 (.Expr (.Call (.Attribute (.Name x p) name apos) (a :: es) [] cpos) pos) (sMet i f φ) := by
  refine PSby (ps_expr (pe_bm PySem.F.plainAttrs_list hsl hty hm (pe_var hx hv hd1 hd2) ha h1 h2 h3 h4 h5) h6) fun D σ H ⟨O, e, fl, rq, hf, q⟩ => ?_
  unfold sMet at hf
  split at hf
  · rename_i ds he
    obtain ⟨v, e1, b, vs, ev, m, hb, rr⟩ := rq.rp.at_ _ _ he
    subst ev
    refine ⟨_, e1, .inl ⟨rfl, vs, .of hb⟩, O, e, rq.rp, ?_⟩
    rcases lft_some hf with ⟨as, hd, hk⟩ | ⟨c, hc, rfl⟩
    · rw [hd]
      intro us H' s ru
      cases hfa : f ds as with
      | none => rw [hfa] at hk; cases hk
      | some ds' =>
        rw [hfa] at hk
        cases hk
        refine hc (kw X) (cut H' O) b vs us ds as ds' H' _ (s _ _ hb) (rr.mono (cut_same s)) ru (cut_le _ _) hfa fun ws v rw' => ?_
        obtain ⟨r1, x1⟩ := (rq.mono s).chg he e1 rw'
        exact q σ _ O r1 ((rq.ex s).trans x1)
    · rw [hc]; exact q.exk rq
  · cases hf
/-! ### functions -/
def startD (n : Nat) (ds : List D) : En := ds.map Sl.sh ++ List.replicate (n - ds.length) .un
def outD : Option Fl → Res D
  | some (.rt d) => .ok d
  | some (.nx _) => .ok .non
  | some (.xc c _) => .exc c
  | _ => .stuck
def fnD (np n : Nat) (b : SD) (ds : List D) : Res D := if ds.length = np then outD (b (startD n ds)) else .stuck
theorem start_rq {K : KW} {O : List Addr} {H : Hp} {N : List Str} {vs : List V} {ds : List D} (ow : Own O H) (r : Reps K (cut H O) vs ds) (hl : vs.length ≤ N.length) : Rq K O O (startD N.length ds) (L2.start N vs) H := by
  have lv := r.length
  have no : ∀ (i : Nat) s, (startD N.length ds)[i]? = some s → s.own = true → False := fun i s h o => by
    unfold startD at h
    rw [List.getElem?_append] at h
    split at h
    · rw [List.getElem?_map] at h
      cases e : ds[i]? with
      | none => rw [e] at h; cases h
      | some d => rw [e] at h; cases h; cases o
    · rw [List.getElem?_replicate] at h
      split at h
      · cases h; cases o
      · cases h
  refine ⟨⟨ow, ?_, fun i s h => ?_, fun i j si sj a hi hj oi oj vi vj => (no i si hi oi).elim⟩, fun _ m => m, fun i s a h o v => (no i s h o).elim⟩
  · unfold startD L2.start
    simp only [List.length_append, List.length_map, List.length_replicate, lv]
  · unfold startD at h
    unfold L2.start
    rw [List.getElem?_append] at h ⊢
    rw [List.length_map] at h ⊢
    rw [← lv] at h
    split at h
    · rename_i hi
      rw [if_pos hi]
      rw [List.getElem?_map] at h ⊢
      cases e : ds[i]? with
      | none => rw [e] at h; cases h
      | some d =>
        rw [e] at h; cases h
        obtain ⟨v, hv, rv⟩ := r.get e
        exact ⟨some v, by rw [hv]; rfl, v, rfl, rv⟩
    · rename_i hi
      rw [if_neg hi]
      rw [List.getElem?_replicate] at h ⊢
      split at h
      · rename_i hk
        cases h
        exact ⟨none, by rw [if_pos hk], trivial⟩
      · cases h
end
end L2.RB
namespace L2.RB
open PySem PySem.Spec PyProof.Rows
/-! ### functions kept -/
theorem fun_of {K : PySem.W.Frag} {x qual : Str} {st : Stmt} {kws : List (Str × V)} {f : Addr} {fd : FuncData} (F : FunD K x qual (defArgs st) (defBody st) (defScope st) [] kws f fd) : Fun K x qual st f fd := by
  obtain ⟨oc, od, dV, kV, doc, pm, an, cdv, ct, osl, e, l, c, d, k⟩ := F.ex
  rcases d with ⟨_, rfl⟩ | ⟨h, _⟩
  · exact ⟨⟨oc, od, kV, doc, pm, an, cdv, ct, osl, e, l, c⟩, F.kp⟩
  · exact absurd rfl h
/-- within a def -/
abbrev cxF (P : Program) (w : World) (K : PySem.W.Frag) (mg : Str → Option Value) (base : Heap) (N : List Str) (qual : Str) (sc : Scope) (f : Addr) (cdv : Value) (A : Around) (outer : List Env) (s : Shared) (H : Hp) (E : XK) : Cx := cxOf (CX P w) P w K mg base N qual sc f cdv A outer s H E
abbrev wF (E : XK) : WX := fun cls d _ H => E cls d H
theorem fn_okD {P : Program} {w : World} {K : PySem.W.Frag} {mg : Str → Option Value} {base : Heap} {ea : Str → Addr} {x qual : Str} {st : Stmt} {f : Addr} {fd : FuncData} {N ps : List Str} {k : Nat} {b : SD} (F : Fun K x qual st f fd) (S : FnScope N ps (defScope st)) (hN : ps.length ≤ N.length)
    (hb : ∀ (O0 : List Addr) (cdv : Value) (A : Around) (outer : List Env) (s : Shared) (H : Hp) (E : XK), Room k (cxF P w K mg base N qual (defScope st) f cdv A outer s H E).A → Takes (cxF P w K mg base N qual (defScope st) f cdv A outer s H E) (wF E) →
      RSs (cxF P w K mg base N qual (defScope st) f cdv A outer s H E) (wF E) ea O0 (defBody st) b) :
    FnOk P w K mg base (CX P w) (k + 1) f fd ps (spD ⟨K, P, w⟩ ea (fnD ps.length N.length b)) := by
  have hlen : ∀ (vs : List V) (H : Hp) (Q : VK) (E : XK), spD ⟨K, P, w⟩ ea (fnD ps.length N.length b) vs H Q E → vs.length = ps.length := fun vs H Q E ⟨O, ds, ow, r, q⟩ => by
    unfold fnD at q
    by_cases h : ds.length = ps.length
    · rw [r.length, h]
    · rw [if_neg h] at q; exact False.elim q
  refine F.okX S hlen fun cdv A outer s H vs Q E hr h => ?_
  have hl := hlen vs H Q E h
  obtain ⟨O, ds, ow, r, q⟩ := h
  refine ⟨_, hb O cdv A outer s H E hr (takes_of rfl rfl rfl rfl), ?_⟩
  have hd : ds.length = ps.length := r.length.symm.trans hl
  unfold fnD at q
  rw [if_pos hd] at q
  cases e : b (startD N.length ds) with
  | none => rw [e] at q; exact False.elim q
  | some fl =>
    rw [e] at q
    have back : ∀ {O' : List Addr} {H' : Hp}, (∀ a ∈ O, a ∈ O') → Ex0 O O H O' H' → Same H H' := fun {O' H'} m x b o hbo => by
      by_cases mb : b ∈ O
      · rw [x.2 b mb]; exact hbo
      · exact (of_cut (x.1 b o (by rw [cut_of mb]; exact hbo))).2
    refine ⟨O, _, fl, start_rq ow r (by rw [hl]; exact hN), e, ?_⟩
    cases fl with
    | nx e' => exact fun σ' H' O' rq x => q .non H' (back rq.sub x) .non
    | rt d => exact fun v H' O' m x rv => q v H' (back m x) rv
    | bk e' => exact False.elim q
    | ct e' => exact False.elim q
    | xc c e' => exact fun σ' H' O' rq x => q H' (back rq.sub x)
/-- a mirror: where it tells something, it tells what the def tells -/
def Mir (f g : List D → Res D) : Prop := ∀ ds, g ds ≠ .stuck → f ds = g ds
theorem Mir.refl (f : List D → Res D) : Mir f f := fun _ _ => rfl
theorem spD_mir {K : KW} {ea : Str → Addr} {f g : List D → Res D} (m : Mir f g) {vs : List V} {H : Hp} {Q : VK} {E : XK} (h : spD K ea g vs H Q E) : spD K ea f vs H Q E := by
  obtain ⟨O, ds, ow, r, q⟩ := h
  refine ⟨O, ds, ow, r, ?_⟩
  rw [m ds fun z => by rw [z] at q; exact q]
  exact q
theorem FnOk.mir {P : Program} {w : World} {K : PySem.W.Frag} {mg : Str → Option Value} {base : Heap} {CX : CXT} {k : Nat} {f : Addr} {fd : FuncData} {ps : List Str} {sp sp' : Sp} (F : FnOk P w K mg base CX k f fd ps sp) (h : ∀ vs H Q E, sp' vs H Q E → sp vs H Q E) : FnOk P w K mg base CX k f fd ps sp' :=
  ⟨fun vs H Q E z => F.len vs H Q E (h vs H Q E z), fun A outer s H args us vs Q E hr e b v z => F.run A outer s H args us vs Q E hr e b v (h vs H Q E z)⟩
/-- a def as it is called -/
structure Cal (P : Program) (w : World) (K : PySem.W.Frag) (mg : Str → Option Value) (base : Heap) (ea : Str → Addr) (k : Nat) (x : Str) (g : List D → Res D) : Prop where
  ex : ∃ f fd ps, mg x = some (.ref f) ∧ PySem.W.keepIn K (.ref f) = true ∧ L2.Binds K fd ps [] ∧ FnOk P w K mg base (CX P w) k f fd ps (spD ⟨K, P, w⟩ ea g)
section
variable {P : Program} {w : World} {K : PySem.W.Frag} {mg : Str → Option Value} {base : Heap} {ea : Str → Addr}
theorem Cal.mir {k : Nat} {x : Str} {f g : List D → Res D} (c : Cal P w K mg base ea k x f) (m : Mir f g) : Cal P w K mg base ea k x g := by
  obtain ⟨a, fd, ps, h1, h2, h3, h4⟩ := c.ex
  exact ⟨a, fd, ps, h1, h2, h3, FnOk.mir h4 fun vs H Q E z => spD_mir m z⟩
theorem Cal.up {j k : Nat} {x : Str} {f : List D → Res D} (c : Cal P w K mg base ea j x f) (h : j ≤ k) : Cal P w K mg base ea k x f := by
  obtain ⟨a, fd, ps, h1, h2, h3, h4⟩ := c.ex
  exact ⟨a, fd, ps, h1, h2, h3, h4.mono h⟩
end
section
variable {X : Cx} {W : WX} {ea : Str → Addr} {O0 : List Addr}
theorem r_call {j k : Nat} {φ : AD} {g : List D → Res D} {x : Str} {p pos : Pos} {e : Expr} {es : List Expr} (c : Cal X.prog X.w X.K X.mg X.base ea j x g) (hr : Room k X.A) (tk : Takes X W) (hg : Gl X x) (ha : RA X W ea (e :: es) φ) (hj : j ≤ k)
    (hd : (x == Str.ofString "__debug__") = false) (h1 : starEach (e :: es) X.env = (false, eval e X.env) :: starEach es X.env) (h2 : ((backTo pos (starEach es X.env)).any fun x => x.fst) = false) :
    RE X W ea (.Call (.Name x p) (e :: es) [] pos) (eCall g φ) := by
  obtain ⟨f, fd, ps, c1, c2, c3, c4⟩ := (c.up hj).ex
  exact r_callS c4 hr hg c1 c2 c3 tk ha hd h1 h2
theorem r_callF {j k : Nat} {φ : AD} {g : List D → Res D} {x : Str} {p pos : Pos} {e : Expr} {es : List Expr} (c : Cal X.prog X.w X.K X.mg X.base ea j x g) (hr : Room k X.A) (tk : Takes X W) (hg : Gl X x) (ha : RAB X W ea (e :: es) φ) (hj : j ≤ k)
    (hd : (x == Str.ofString "__debug__") = false) (h1 : starEach (e :: es) X.env = (false, eval e X.env) :: starEach es X.env) (h2 : ((backTo pos (starEach es X.env)).any fun x => x.fst) = false) :
    RE X W ea (.Call (.Name x p) (e :: es) [] pos) (eCall (fun ds => flatR (g ds)) φ) := by
  obtain ⟨f, fd, ps, c1, c2, c3, c4⟩ := (c.up hj).ex
  exact r_callW c4 hr hg c1 c2 c3 tk ha hd h1 h2
/-! ### raise, try -/
def sRaise (c : Str) : SD := fun e => some (.xc c e)
/-- what is known of an own class -/
structure ExcC (K : PySem.W.Frag) (mg : Str → Option Value) (ea : Str → Addr) (x : Str) : Prop where
  ex : ∃ B newId initId bmB, ExcBaseFacts B newId initId bmB ∧ PySem.W.excIn K (ea x) bmB newId = true
  gl : mg x = some (.ref (ea x))
  kp : PySem.W.keepIn K (.ref (ea x)) = true
  sb : ∀ (M : Model) (h : Heap), K.In h → PySem.W.Looks M h (isSubtype (.ref (ea x)) (.type "BaseException")) true ∧ PySem.W.Looks M h (typeOf (.ref (ea x))) (.type "type")
theorem rs_raise {x m : Str} {j : Nat} {p p2 pos pos2 : Pos} (hc : X.calm = true) (tk : Takes X W) (c : ExcC X.K X.mg ea x) (hg : Gl X x) (hd : (x == Str.ofString "__debug__") = false) :
    RS X W ea O0 (.Raise (some (.Call (.Name x p) [.Constant (.str m) j p2] [] pos)) none pos2) (sRaise x) := by
  obtain ⟨B, newId, initId, bmB, c1, c2⟩ := c.ex
  refine PSby (ps_raise hc tk (pmk_own c1 c2 c.gl c.kp c.sb hg hd)) fun D σ H ⟨O, e, fl, rq, hf, q⟩ => ?_
  cases hf
  exact q σ H O rq .refl
/-- which class takes which -/
abbrev SubT := Str → Option Bool
def sTry (sub : SubT) (b h : SD) : SD := fun e => match b e with
  | some (.xc c e1) => match sub c with
    | some true => match h e1 with
      | some (.xc _ _) => none
      | r => r
    | some false => some (.xc c e1)
    | none => none
  | r => r
theorem rs_try {x : Str} {c : Value} {body suite : List Stmt} {b₀ : Stmt} {np pos pos' : Pos} {sub : SubT} {φ ψ : SD} (h1 : X.stack = X.env :: X.outer) (h2 : X.env.frame = some X.env.locals) (hn : Names X x c) (tk : Takes X W)
    (hs : ∀ k b, sub k = some b → PySem.W.exmOne X.K (.ref (ea k)) c = some b)
    (hb : ∀ (W' : WX) (pn : List (Addr × Obj)) (xe : Value → Shared → Prop), Takes (X.tr pn xe) W' → PassesOwn (model X.prog X.w) X.A X.env xe → RSs (X.tr pn xe) W' ea O0 body φ)
    (hh : ∀ (a : Addr) (oe : Obj) (pn : List (Addr × Obj)), RSs (X.suite a ((a, oe) :: pn)) W0 ea O0 (b₀ :: suite) ψ) :
    RS X W ea O0 (.Try body [.ExceptHandler (some (.Name x np)) none (b₀ :: suite) pos'] [] [] pos) (sTry sub φ ψ) := by
  refine PSby (ps_try_only (tb := fun W' => tS X W' ea O0 φ) (ts := fun _ _ _ => tS X W0 ea O0 ψ) h1 h2 hn tk (fun W' pn xe t p => hb W' pn xe t p) (fun a oe cls d pn _ _ => hh a oe pn)) fun D σ H ⟨O, e, fl, rq, hf, q⟩ => ?_
  unfold sTry at hf
  cases hbd : φ e with
  | none => rw [hbd] at hf; cases hf
  | some f1 =>
    rw [hbd] at hf
    refine ⟨O, e, f1, rq, hbd, ?_⟩
    cases f1 with
    | nx e1 => cases hf; exact q
    | rt e1 => cases hf; exact q
    | bk e1 => cases hf; exact q
    | ct e1 => cases hf; exact q
    | xc k e1 =>
      simp only at hf
      intro σ' H' O' rq' x'
      cases hk : sub k with
      | none => rw [hk] at hf; cases hf
      | some b =>
        rw [hk] at hf
        refine ⟨b, hs k b hk, fun hb1 a _ => ?_, fun hb1 => ?_⟩
        · subst hb1
          cases hh1 : ψ e1 with
          | none => rw [hh1] at hf; cases hf
          | some f2 =>
            rw [hh1] at hf
            refine ⟨O', e1, f2, rq', hh1, ?_⟩
            cases f2 with
            | xc c e => cases hf
            | _ => cases hf; exact q.mono x'
        · subst hb1
          cases hf
          exact q σ' H' O' rq' x'
end
end L2.RB
namespace L2.RB
open PySem PySem.Spec PyProof.Rows
/-! ### no refusals -/
theorem nx_add : Nx2 addD := by intro d e c; unfold addD; repeat' split
                                all_goals exact fun z => nomatch z
theorem nx_sub : Nx2 subD := by intro d e c; unfold subD; repeat' split
                                all_goals exact fun z => nomatch z
theorem nx_mul : Nx2 mulD := by intro d e c; unfold mulD; repeat' split
                                all_goals exact fun z => nomatch z
theorem nx_fdiv : Nx2 fdivD := by intro d e c; unfold fdivD; repeat' split
                                  all_goals exact fun z => nomatch z
theorem nx_mod : Nx2 modD := by intro d e c; unfold modD; repeat' split
                                all_goals exact fun z => nomatch z
theorem nx_neg : Nx1 negD := by intro d c; unfold negD; repeat' split
                                all_goals exact fun z => nomatch z
theorem nx_eq : Nx2 eqD := by intro d e c; unfold eqD; repeat' split
                              all_goals exact fun z => nomatch z
theorem nx_ne : Nx2 neD := by intro d e c; unfold neD; repeat' split
                              all_goals exact fun z => nomatch z
theorem nx_in : Nx2 inD := by intro d e c; unfold inD; repeat' split
                              all_goals exact fun z => nomatch z
theorem nx_notIn : Nx2 notInD := by intro d e c; unfold notInD; repeat' split
                                    all_goals exact fun z => nomatch z
theorem nx_cmp (f : Int → Int → Bool) : Nx2 (cmpI f) := by intro d e c; unfold cmpI; repeat' split
                                                           all_goals exact fun z => nomatch z
theorem nx_is : Nx2 isD := by intro d e c; unfold isD; repeat' split
                              all_goals exact fun z => nomatch z
theorem nx_isNot : Nx2 isNotD := by intro d e c; unfold isNotD; repeat' split
                                    all_goals exact fun z => nomatch z
theorem nx_idx : Nx2 idxD := by
  intro d e c; unfold idxD optD; repeat' split
  all_goals exact fun z => nomatch z
theorem nx_len : NxA lenD := by intro d c; unfold lenD; repeat' split
                                all_goals exact fun z => nomatch z
theorem nx_list : NxA listD := by intro d c; unfold listD; repeat' split
                                  all_goals exact fun z => nomatch z
theorem nx_tuple : NxA tupleD := by intro d c; unfold tupleD; repeat' split
                                    all_goals exact fun z => nomatch z
theorem nx_all : NxA allD := by intro d c; unfold allD; repeat' split
                                all_goals exact fun z => nomatch z
theorem nx_any : NxA anyD := by intro d c; unfold anyD; repeat' split
                                all_goals exact fun z => nomatch z
theorem nx_int : NxA intD := by intro d c; unfold intD; repeat' split
                                all_goals exact fun z => nomatch z
theorem nx_str : NxA strD := by intro d c; unfold strD; repeat' split
                                all_goals exact fun z => nomatch z
theorem nx_set : NxA setD := by intro d c; unfold setD; repeat' split
                                all_goals exact fun z => nomatch z
theorem nx_sorted : NxA sortedD := by intro d c; unfold sortedD; repeat' split
                                      all_goals exact fun z => nomatch z
theorem nx_sum : NxA sumD := by intro d c; unfold sumD; repeat' split
                                all_goals exact fun z => nomatch z
/-! ### is -/
theorem op_isR {X : Cx} : OpR X (compareOp .Is) (rD2 X isD) := by
  intro pins s σ H x y v u Q I rx ry ⟨O, d, e, r, ow, h1, h2, hf, q⟩
  cases e with
  | non =>
    cases hf
    refine op_isN pins s σ H x y v u Q I rx ry ⟨h2.non_inv, ?_⟩
    rw [isN_v h1]
    exact q.bl
  | bl b =>
    cases d with
    | bl a =>
      cases hf
      refine op_isBl pins s σ H x y v u Q I rx ry ⟨a, b, h1.bl_inv, h2.bl_inv, ?_⟩
      have : decide (a = b) = (a == b) := by cases a <;> cases b <;> rfl
      rw [this]
      exact q.bl
    | _ => cases hf
  | _ => cases hf
theorem op_isNotR {X : Cx} : OpR X (compareOp .IsNot) (rD2 X isNotD) := by
  intro pins s σ H x y v u Q I rx ry ⟨O, d, e, r, ow, h1, h2, hf, q⟩
  cases e with
  | non =>
    cases hf
    refine op_notN pins s σ H x y v u Q I rx ry ⟨h2.non_inv, ?_⟩
    rw [isN_v h1]
    exact q.bl
  | bl b =>
    cases d with
    | bl a =>
      cases hf
      refine op_notBl pins s σ H x y v u Q I rx ry ⟨a, b, h1.bl_inv, h2.bl_inv, ?_⟩
      have : decide (a = b) = (a == b) := by cases a <;> cases b <;> rfl
      rw [this]
      exact q.bl
    | _ => cases hf
  | _ => cases hf
def ltI : D → D → Res D := cmpI fun i j => decide (i < j)
def leI : D → D → Res D := cmpI fun i j => decide (i ≤ j)
def gtI : D → D → Res D := cmpI fun i j => decide (j < i)
def geI : D → D → Res D := cmpI fun i j => decide (j ≤ i)
section
variable {X : Cx} {W : WX} {ea : Str → Addr} {O0 : List Addr} {a b c : Expr} {φ ψ χ : ED} {pos : Pos} {k : Nat}
theorem hu_of (hr : Room k X.A) : X.A.units + 64 < cLine := by have := hr.un; omega
theorem x_add (ha : RB X W ea a φ) (hb : RB X W ea b ψ) : RE X W ea (.BinOp a .Add b pos) (eOp addD φ ψ) := r_op nx_add op_addD ha hb
theorem x_sub (ha : RB X W ea a φ) (hb : RB X W ea b ψ) : RE X W ea (.BinOp a .Sub b pos) (eOp subD φ ψ) := r_op nx_sub op_subD ha hb
theorem x_mul (ha : RB X W ea a φ) (hb : RB X W ea b ψ) : RE X W ea (.BinOp a .Mult b pos) (eOp mulD φ ψ) := r_op nx_mul op_mulD ha hb
theorem x_fdiv (ha : RB X W ea a φ) (hb : RB X W ea b ψ) : RE X W ea (.BinOp a .FloorDiv b pos) (eOp fdivD φ ψ) := r_op nx_fdiv op_fdivD ha hb
theorem x_mod (ha : RB X W ea a φ) (hb : RB X W ea b ψ) : RE X W ea (.BinOp a .Mod b pos) (eOp modD φ ψ) := r_op nx_mod op_modD ha hb
theorem x_neg (ha : RB X W ea a φ) : RE X W ea (.UnaryOp .USub a pos) (eUn negD φ) := r_un nx_neg un_negD ha
theorem x_eq (hr : Room k X.A) (ha : RB X W ea a φ) (hb : RB X W ea b ψ) : RE X W ea (.Compare a [.Eq] [b] pos) (eOp eqD φ ψ) := r_cmp nx_eq (op_eqR (hu_of hr)) ha hb (nomark _)
theorem x_ne (hr : Room k X.A) (ha : RB X W ea a φ) (hb : RB X W ea b ψ) : RE X W ea (.Compare a [.NotEq] [b] pos) (eOp neD φ ψ) := r_cmp nx_ne (op_neR (hu_of hr)) ha hb (nomark _)
theorem x_lt (ha : RB X W ea a φ) (hb : RB X W ea b ψ) : RE X W ea (.Compare a [.Lt] [b] pos) (eOp ltI φ ψ) := r_cmp (nx_cmp _) (op_cmpI op_lt) ha hb (nomark _)
theorem x_le (ha : RB X W ea a φ) (hb : RB X W ea b ψ) : RE X W ea (.Compare a [.LtE] [b] pos) (eOp leI φ ψ) := r_cmp (nx_cmp _) (op_cmpI op_le) ha hb (nomark _)
theorem x_gt (ha : RB X W ea a φ) (hb : RB X W ea b ψ) : RE X W ea (.Compare a [.Gt] [b] pos) (eOp gtI φ ψ) := r_cmp (nx_cmp _) (op_cmpI op_gt) ha hb (nomark _)
theorem x_ge (ha : RB X W ea a φ) (hb : RB X W ea b ψ) : RE X W ea (.Compare a [.GtE] [b] pos) (eOp geI φ ψ) := r_cmp (nx_cmp _) (op_cmpI op_ge) ha hb (nomark _)
theorem x_is (ha : RB X W ea a φ) (hb : RB X W ea b ψ) : RE X W ea (.Compare a [.Is] [b] pos) (eOp isD φ ψ) := r_cmp nx_is op_isR ha hb (nomark _)
theorem x_isNot (ha : RB X W ea a φ) (hb : RB X W ea b ψ) : RE X W ea (.Compare a [.IsNot] [b] pos) (eOp isNotD φ ψ) := r_cmp nx_isNot op_isNotR ha hb (nomark _)
theorem x_in (hr : Room k X.A) (ha : RB X W ea a φ) (hb : RB X W ea b ψ) (hm : behindInMarks .In b = false) : RE X W ea (.Compare a [.In] [b] pos) (eOp inD φ ψ) := r_cmp nx_in (op_inDR (hu_of hr)) ha hb hm
theorem x_notIn (hr : Room k X.A) (ha : RB X W ea a φ) (hb : RB X W ea b ψ) (hm : behindInMarks .NotIn b = false) : RE X W ea (.Compare a [.NotIn] [b] pos) (eOp notInD φ ψ) := r_cmp nx_notIn (op_notInDR (hu_of hr)) ha hb hm
theorem t_eq (hr : Room k X.A) (ha : RB X W ea a φ) (hb : RB X W ea b ψ) : RT X W ea (.Compare a [.Eq] [b] pos) (tV (eOp eqD φ ψ)) := rt_cmp nx_eq (op_eqR (hu_of hr)) ha hb (nomark _)
theorem t_ne (hr : Room k X.A) (ha : RB X W ea a φ) (hb : RB X W ea b ψ) : RT X W ea (.Compare a [.NotEq] [b] pos) (tV (eOp neD φ ψ)) := rt_cmp nx_ne (op_neR (hu_of hr)) ha hb (nomark _)
theorem t_lt (ha : RB X W ea a φ) (hb : RB X W ea b ψ) : RT X W ea (.Compare a [.Lt] [b] pos) (tV (eOp ltI φ ψ)) := rt_cmp (nx_cmp _) (op_cmpI op_lt) ha hb (nomark _)
theorem t_le (ha : RB X W ea a φ) (hb : RB X W ea b ψ) : RT X W ea (.Compare a [.LtE] [b] pos) (tV (eOp leI φ ψ)) := rt_cmp (nx_cmp _) (op_cmpI op_le) ha hb (nomark _)
theorem t_gt (ha : RB X W ea a φ) (hb : RB X W ea b ψ) : RT X W ea (.Compare a [.Gt] [b] pos) (tV (eOp gtI φ ψ)) := rt_cmp (nx_cmp _) (op_cmpI op_gt) ha hb (nomark _)
theorem t_ge (ha : RB X W ea a φ) (hb : RB X W ea b ψ) : RT X W ea (.Compare a [.GtE] [b] pos) (tV (eOp geI φ ψ)) := rt_cmp (nx_cmp _) (op_cmpI op_ge) ha hb (nomark _)
theorem t_is (ha : RB X W ea a φ) (hb : RB X W ea b ψ) : RT X W ea (.Compare a [.Is] [b] pos) (tV (eOp isD φ ψ)) := rt_cmp nx_is op_isR ha hb (nomark _)
theorem t_isNot (ha : RB X W ea a φ) (hb : RB X W ea b ψ) : RT X W ea (.Compare a [.IsNot] [b] pos) (tV (eOp isNotD φ ψ)) := rt_cmp nx_isNot op_isNotR ha hb (nomark _)
theorem t_in (hr : Room k X.A) (ha : RB X W ea a φ) (hb : RB X W ea b ψ) (hm : behindInMarks .In b = false) : RT X W ea (.Compare a [.In] [b] pos) (tV (eOp inD φ ψ)) := rt_cmp nx_in (op_inDR (hu_of hr)) ha hb hm
theorem t_notIn (hr : Room k X.A) (ha : RB X W ea a φ) (hb : RB X W ea b ψ) (hm : behindInMarks .NotIn b = false) : RT X W ea (.Compare a [.NotIn] [b] pos) (tV (eOp notInD φ ψ)) := rt_cmp nx_notIn (op_notInDR (hu_of hr)) ha hb hm
theorem x_ix (hr : Room k X.A) (ha : RB X W ea a φ) (hb : RB X W ea b ψ) (hp : PlainIx b) : RE X W ea (.Subscript a b pos) (eOp idxD φ ψ) := r_ix (hu_of hr) nx_idx ha hb hp
theorem x_lele (ha : RB X W ea a φ) (hb : RB X W ea b ψ) (hc : RB X W ea c χ) (hm : lastMarks [.LtE, .LtE] [b, c] = false) : RE X W ea (.Compare a [.LtE, .LtE] [b, c] pos) (eChain leI leI φ ψ χ) := r_chain (nx_cmp _) (nx_cmp _) (op_cmpI op_le) (op_cmpI op_le) ha hb hc hm
theorem x_lelt (ha : RB X W ea a φ) (hb : RB X W ea b ψ) (hc : RB X W ea c χ) (hm : lastMarks [.LtE, .Lt] [b, c] = false) : RE X W ea (.Compare a [.LtE, .Lt] [b, c] pos) (eChain leI ltI φ ψ χ) := r_chain (nx_cmp _) (nx_cmp _) (op_cmpI op_le) (op_cmpI op_lt) ha hb hc hm
theorem t_lele (ha : RB X W ea a φ) (hb : RB X W ea b ψ) (hc : RB X W ea c χ) (hm : lastMarks [.LtE, .LtE] [b, c] = false) : RT X W ea (.Compare a [.LtE, .LtE] [b, c] pos) (tV (eChain leI leI φ ψ χ)) := rt_chain (nx_cmp _) (nx_cmp _) (op_cmpI op_le) (op_cmpI op_le) ha hb hc hm
theorem t_lelt (ha : RB X W ea a φ) (hb : RB X W ea b ψ) (hc : RB X W ea c χ) (hm : lastMarks [.LtE, .Lt] [b, c] = false) : RT X W ea (.Compare a [.LtE, .Lt] [b, c] pos) (tV (eChain leI ltI φ ψ χ)) := rt_chain (nx_cmp _) (nx_cmp _) (op_cmpI op_le) (op_cmpI op_lt) ha hb hc hm
end
/-! ### the built-ins called -/
section
variable {X : Cx} {W : WX} {ea : Str → Addr} {e : Expr} {es : List Expr} {φ : AD} {p pos : Pos}
theorem b_len (hg : Gl X (Str.ofString "len")) (hm : X.mg (Str.ofString "len") = none) (ha : RAB X W ea (e :: es) φ) (h1 : starEach (e :: es) X.env = (false, eval e X.env) :: starEach es X.env) (h2 : ((backTo pos (starEach es X.env)).any fun x => x.fst) = false) : RE X W ea (.Call (.Name (Str.ofString "len") p) (e :: es) [] pos) (eCall lenD φ) :=
  r_callB nx_len cr_lenD hg hm PySem.boot_len ha (by decide) (by decide) h1 h2
theorem b_all (hc : X.calm = true) (hg : Gl X (Str.ofString "all")) (hm : X.mg (Str.ofString "all") = none) (ha : RAB X W ea (e :: es) φ) (h1 : starEach (e :: es) X.env = (false, eval e X.env) :: starEach es X.env) (h2 : ((backTo pos (starEach es X.env)).any fun x => x.fst) = false) : RE X W ea (.Call (.Name (Str.ofString "all") p) (e :: es) [] pos) (eCall allD φ) :=
  r_callB nx_all (cr_allD hc) hg hm (by rfl) ha (by decide) (by decide) h1 h2
theorem b_any (hc : X.calm = true) (hg : Gl X (Str.ofString "any")) (hm : X.mg (Str.ofString "any") = none) (ha : RAB X W ea (e :: es) φ) (h1 : starEach (e :: es) X.env = (false, eval e X.env) :: starEach es X.env) (h2 : ((backTo pos (starEach es X.env)).any fun x => x.fst) = false) : RE X W ea (.Call (.Name (Str.ofString "any") p) (e :: es) [] pos) (eCall anyD φ) :=
  r_callB nx_any (cr_anyD hc) hg hm (by rfl) ha (by decide) (by decide) h1 h2
theorem b_sum (hc : X.calm = true) (hg : Gl X (Str.ofString "sum")) (hm : X.mg (Str.ofString "sum") = none) (ha : RAB X W ea (e :: es) φ) (h1 : starEach (e :: es) X.env = (false, eval e X.env) :: starEach es X.env) (h2 : ((backTo pos (starEach es X.env)).any fun x => x.fst) = false) : RE X W ea (.Call (.Name (Str.ofString "sum") p) (e :: es) [] pos) (eCall sumD φ) :=
  r_callB nx_sum (cr_sumD hc) hg hm (by rfl) ha (by decide) (by decide) h1 h2
theorem b_sorted (hc : X.calm = true) (hg : Gl X (Str.ofString "sorted")) (hm : X.mg (Str.ofString "sorted") = none) (ha : RAB X W ea (e :: es) φ) (h1 : starEach (e :: es) X.env = (false, eval e X.env) :: starEach es X.env) (h2 : ((backTo pos (starEach es X.env)).any fun x => x.fst) = false) : RE X W ea (.Call (.Name (Str.ofString "sorted") p) (e :: es) [] pos) (eCall sortedD φ) :=
  r_callB nx_sorted (cr_sortedD hc) hg hm (by rfl) ha (by decide) (by decide) h1 h2
theorem b_list (hg : Gl X (Str.ofString "list")) (hm : X.mg (Str.ofString "list") = none) (ha : RAB X W ea (e :: es) φ) (h1 : starEach (e :: es) X.env = (false, eval e X.env) :: starEach es X.env) (h2 : ((backTo pos (starEach es X.env)).any fun x => x.fst) = false) : RE X W ea (.Call (.Name (Str.ofString "list") p) (e :: es) [] pos) (eCall listD φ) :=
  r_callTy nx_list cr_listD hg hm (by rfl) ha (by decide) (by decide) h1 h2
theorem b_tuple (hg : Gl X (Str.ofString "tuple")) (hm : X.mg (Str.ofString "tuple") = none) (ha : RAB X W ea (e :: es) φ) (h1 : starEach (e :: es) X.env = (false, eval e X.env) :: starEach es X.env) (h2 : ((backTo pos (starEach es X.env)).any fun x => x.fst) = false) : RE X W ea (.Call (.Name (Str.ofString "tuple") p) (e :: es) [] pos) (eCall tupleD φ) :=
  r_callTy nx_tuple cr_tupleD hg hm (by rfl) ha (by decide) (by decide) h1 h2
theorem b_int (hg : Gl X (Str.ofString "int")) (hm : X.mg (Str.ofString "int") = none) (ha : RAB X W ea (e :: es) φ) (h1 : starEach (e :: es) X.env = (false, eval e X.env) :: starEach es X.env) (h2 : ((backTo pos (starEach es X.env)).any fun x => x.fst) = false) : RE X W ea (.Call (.Name (Str.ofString "int") p) (e :: es) [] pos) (eCall intD φ) :=
  r_callTy nx_int cr_intD hg hm (by rfl) ha (by decide) (by decide) h1 h2
theorem b_str (hg : Gl X (Str.ofString "str")) (hm : X.mg (Str.ofString "str") = none) (ha : RAB X W ea (e :: es) φ) (h1 : starEach (e :: es) X.env = (false, eval e X.env) :: starEach es X.env) (h2 : ((backTo pos (starEach es X.env)).any fun x => x.fst) = false) : RE X W ea (.Call (.Name (Str.ofString "str") p) (e :: es) [] pos) (eCall strD φ) :=
  r_callTy nx_str cr_strD hg hm (by rfl) ha (by decide) (by decide) h1 h2
theorem b_set (hc : X.calm = true) (hg : Gl X (Str.ofString "set")) (hm : X.mg (Str.ofString "set") = none) (ha : RAB X W ea (e :: es) φ) (h1 : starEach (e :: es) X.env = (false, eval e X.env) :: starEach es X.env) (h2 : ((backTo pos (starEach es X.env)).any fun x => x.fst) = false) : RE X W ea (.Call (.Name (Str.ofString "set") p) (e :: es) [] pos) (eCall setD φ) :=
  r_callTy nx_set (cr_setD hc) hg hm (by rfl) ha (by decide) (by decide) h1 h2
end
/-! ### xs[::-1] -/
def eRev (φ : ED) : ED := fun e => do let x ← φ e; revD x
theorem x_rev {X : Cx} {W : WX} {ea : Str → Addr} {e : Expr} {φ : ED} {k : Nat} {p1 p2 p3 pos : Pos} (h : RB X W ea e φ) : RE X W ea (.Subscript e (.Slice none none (some (.UnaryOp .USub (.Constant (.int 1) k p1) p2)) p3) pos) (eRev φ) := by
  refine PEby (pe_revL h) fun σ H Q ⟨O, en, rp, q⟩ => ⟨O, en, rp, (RP_bind.mp q).mono (fun d hd x H1 s1 r1 => ?_) fun c z => z⟩
  cases d with
  | lst ds =>
    obtain ⟨a, vs, rfl, ha, rr⟩ := r1.lst_inv
    exact ⟨a, vs, rfl, .of ha, fun p hp => (Post.mono s1 hd).lst (rp.mono s1).dom hp rr.reverse⟩
  | _ => exact False.elim hd
/-! ### one's own list methods -/
section
variable {X : Cx} {W : WX} {ea : Str → Addr} {O0 : List Addr} {i : Nat} {x : Str} {p apos cpos pos : Pos} {a : Expr} {es : List Expr} {φ : AD}
theorem m_app (hx : X.N[i]? = some x) (hv : Vis X.env.scope x) (ha : RA X W ea (a :: es) φ)
    (h1 : attributeBase (.Name x p) (Str.ofString "append") X.env (eval (.Name x p) X.env) = eval (.Name x p) X.env)
    (h2 : ((((backTo cpos (starEach (a :: es) X.env)).all fun x => !x.fst) && (backToKw cpos (keywordEach [] X.env)).all fun x => x.fst.isSome) && decide (((a :: es).length + ([] : List Keyword).length + if ([] : List Keyword).isEmpty = true then 0 else 1) < 30)) = true)
    (h3 : (apos.endLine == cpos.line) = true) (h4 : starEach (a :: es) X.env = (false, eval a X.env) :: starEach es X.env) (h5 : ((backTo cpos (starEach es X.env)).any fun x => x.fst) = false)
    (h6 : swapsWith (.Call (.Attribute (.Name x p) (Str.ofString "append") apos) (a :: es) [] cpos) none pos.line X.env = pure false)
    (hd1 : (x == Str.ofString "__debug__") = false) (hd2 : (x == Str.ofString "__classdict__") = false) :
    RS X W ea O0 (.Expr (.Call (.Attribute (.Name x p) (Str.ofString "append") apos) (a :: es) [] cpos) pos) (sMet i fApp φ) :=
  rs_met hx hv PySem.F.slot_list_append PySem.F.type_list_append mt_append mc_app ha h1 h2 h3 h4 h5 h6 hd1 hd2
theorem m_ext (hx : X.N[i]? = some x) (hv : Vis X.env.scope x) (ha : RA X W ea (a :: es) φ)
    (h1 : attributeBase (.Name x p) (Str.ofString "extend") X.env (eval (.Name x p) X.env) = eval (.Name x p) X.env)
    (h2 : ((((backTo cpos (starEach (a :: es) X.env)).all fun x => !x.fst) && (backToKw cpos (keywordEach [] X.env)).all fun x => x.fst.isSome) && decide (((a :: es).length + ([] : List Keyword).length + if ([] : List Keyword).isEmpty = true then 0 else 1) < 30)) = true)
    (h3 : (apos.endLine == cpos.line) = true) (h4 : starEach (a :: es) X.env = (false, eval a X.env) :: starEach es X.env) (h5 : ((backTo cpos (starEach es X.env)).any fun x => x.fst) = false)
    (h6 : swapsWith (.Call (.Attribute (.Name x p) (Str.ofString "extend") apos) (a :: es) [] cpos) none pos.line X.env = pure false)
    (hd1 : (x == Str.ofString "__debug__") = false) (hd2 : (x == Str.ofString "__classdict__") = false) :
    RS X W ea O0 (.Expr (.Call (.Attribute (.Name x p) (Str.ofString "extend") apos) (a :: es) [] cpos) pos) (sMet i fExt φ) :=
  rs_met hx hv PySem.F.slot_list_extend PySem.F.type_list_extend mt_extend mc_ext ha h1 h2 h3 h4 h5 h6 hd1 hd2
end
end L2.RB
namespace L2.RB
open PySem PySem.Spec PyProof.Rows
set_option maxHeartbeats 4000000 in
theorem meets_enumT (l : Addr) (items : Array Value) : Meets (Builtin.«enumerate.__new__» { pos := [.type "enumerate", .ref l] }) fun _ R s =>
    s.heap.IsTuple l items ∧ R (.ok (.ret (.ref (s.heap.objs.size + 1)))) { s with heap := (s.heap.push { cls := .type "tuple_iterator", data := .fields #[.ref l, .int 0 0] }).push { cls := .type "enumerate", data := .fields #[.none, .bool false, .ref s.heap.objs.size, rawInt 0, .none, .none] } } :=
  Meets.of_wp fun prog w A R s h => by
    obtain ⟨hp, g, d, tk, os⟩ := s
    obtain ⟨h1, h2⟩ := h
    have hsub := sub_enumerate
    have hz : (hp.push { cls := .type "tuple_iterator", data := .fields #[.ref l, .int 0 0] }).objs.size = hp.objs.size + 1 := Heap.size_push ..
    unfold Builtin.«enumerate.__new__»
    generalize hit : pyIter = it
    wp_walk
    refine wpAny_stack_any fun st => wpAny_pure ?_
    split
    · rename_i c tail kw snd tail1 hst
      cases hc : (c == Value.type "enumerate")
      · wp_walk
        subst hit
        refine wpAny_pyIter_tuple h1 ?_
        wp_walk
        exact ⟨_, rfl, by rw [hz]; exact h2⟩
      · wp_walk
        subst hit
        refine wpAny_pyIter_tuple h1 ?_
        wp_walk
        exact ⟨_, rfl, by rw [hz]; exact h2⟩
    · wp_walk
      subst hit
      refine wpAny_pyIter_tuple h1 ?_
      wp_walk
      exact ⟨_, rfl, by rw [hz]; exact h2⟩
theorem call_enumT {prog : Program} {w : World} {A : Around} {E : Value → Shared → Prop} {s : Shared} {l : Addr} {items : Array Value} {Q : Value → Shared → Prop} (hl : s.heap.IsTuple l items)
    (h : ∀ h' : Heap, IsEnum h' (s.heap.objs.size + 1) s.heap.objs.size 0 Value.none → h'.IsTupleIter s.heap.objs.size l 0 → h'.objs.size = s.heap.objs.size + 2 → (∀ (b : Addr) (o : Obj), s.heap.get? b = some o → h'.get? b = some o) → Q (.ref (s.heap.objs.size + 1)) { s with heap := h' }) :
    wpAny (model prog w) A (call (.type "enumerate") [.ref l]) Q E s := by
  refine callType_new F.called_enumerate (by decide) (F.typeCall_enumerate_1 (.ref l)) (F.newCall_enumerate_1 (.ref l)) (fun obj => F.args_object_init_2 obj (.ref l)) F.entry_enumerate_new (meets_enumT l items) ⟨hl, ?_⟩
  have hz : (s.heap.push { cls := .type "tuple_iterator", data := .fields #[.ref l, .int 0 0] }).objs.size = s.heap.objs.size + 1 := Heap.size_push ..
  have he : ((s.heap.push { cls := .type "tuple_iterator", data := .fields #[.ref l, .int 0 0] }).push { cls := .type "enumerate", data := .fields #[.none, .bool false, .ref s.heap.objs.size, rawInt 0, .none, .none] }).get? (s.heap.objs.size + 1) = some { cls := .type "enumerate", data := .fields #[.none, .bool false, .ref s.heap.objs.size, rawInt 0, .none, .none] } := by
    have := Heap.get?_push_size (s.heap.push { cls := .type "tuple_iterator", data := .fields #[.ref l, .int 0 0] }) (o := { cls := .type "enumerate", data := .fields #[.none, .bool false, .ref s.heap.objs.size, rawInt 0, .none, .none] }) rfl
    rw [hz] at this
    exact this
  refine ⟨⟨_, he, rfl⟩, h _ he ⟨_, Heap.get?_push_of_some _ (Heap.get?_push_size _ rfl), rfl, rfl⟩ ?_ fun b o y => Heap.get?_push_of_some _ (Heap.get?_push_of_some _ y)⟩
  rw [Heap.size_push, hz]
/-- enumerate over a tuple -/
def IteT (K : PySem.W.Frag) (a : Addr) : It :=
  { go := fun i H => ∃ xs x, SqT K H a xs ∧ xs[i]? = some x
    yld := fun i H v H' => ∃ T x, v = V.ref T ∧ H T = none ∧ H' = upd H T (HO.tup [V.int (i : Int), x]) ∧ ∀ (xs : List V), SqT K H a xs → xs[i]? = some x
    stop := fun i H => ∃ xs, SqT K H a xs ∧ xs.length = i }
theorem turn_enumT {P : Program} {w : World} {K : PySem.W.Frag} {elts : List Expr} {kk : Nat} {tpos : Pos} (a e it : Addr) :
    Turn P w K (.Tuple elts kk tpos) (IteT K a) [e, it] e fun i h => (∃ old, IsEnum h e it (i : Int) old) ∧ h.IsTupleIter it a i ∧ e ≠ it ∧ a ≠ it ∧ a ≠ e where
  mem := by simp
  obj := fun i h ⟨⟨old, he⟩, ⟨o, ho, hc, hd⟩, hne⟩ b hb => by
    rcases (by simpa using hb : b = e ∨ b = it) with rfl | rfl
    · exact ⟨_, he, fun v q => nomatch q⟩
    · refine ⟨o, ho, fun v q => ?_⟩
      rw [hd] at q; cases q
  keep := fun i h h' ⟨⟨old, he⟩, hi, hne⟩ k => ⟨⟨old, k e (by simp) _ he⟩, hi.at fun o q => k it (by simp) o q, hne⟩
  item := fun X hP hw hK hc i pins s σ H E I hf st hg => by
    subst hP; subst hw; subst hK
    obtain ⟨⟨old, he⟩, hit, hne, nai, nae⟩ := st
    obtain ⟨xs, x, hq, hx⟩ := hg
    obtain ⟨its, rv, p, hz⟩ := I.tuple hq
    obtain ⟨u, hu, ru⟩ := rv.get hx
    have hel := Heap.lt_size he
    have hil : it < s.heap.objs.size := by obtain ⟨o, q, _⟩ := hit; exact Heap.lt_size q
    have hn : i < its.toArray.size := by rw [List.size_toArray]; exact (List.getElem?_eq_some_iff.mp hu).1
    refine wpAny_pyNext_enum_itemD (e := e) (it := it) (Draws.tuple (prog := X.prog) (w := X.w) (A := X.A.in1) (show X.A.in1.handled = none from I.ok.hd hc) it a nai its.toArray) he ⟨hit, p⟩ hn hne (by simp [Ne.symm nae, hne]) fun v h' tk hv ho st' hT hsz hk => ?_
    have ev : v = u := by
      rw [List.getElem?_toArray, hu] at hv
      exact (Option.some.inj hv).symm
    subst ev
    refine ⟨_, rfl, wpAny_letOwnedTupleGo_enum ho fun h'' he' sb => ?_⟩
    have hT2 : h''.get? s.heap.objs.size = some { cls := .type "tuple", data := .seq #[.int (i : Int) tk, v] } := (sb.2 _ (Nat.ne_of_gt hel)).trans hT
    have new : ObjOk X.prog X.w (upd H s.heap.objs.size (.tup [.int (i : Int), x])) h'' s.heap.objs.size (.tup [.int (i : Int), x]) :=
      ⟨by simp [sizeLine_eq], [.int (i : Int) tk, v], .cons ⟨tk, rfl⟩ (.cons ru .nil), _, hT2, rfl, 0, rfl⟩
    have I1 := Inv.turnedNew (t' := tk + 1) (ch := [e, it]) I (fun b ob hb q => (sb.2 b fun z => hb (by simp [z])).trans (hk b ob (fun z => hb (by simp [z])) (fun z => hb (by simp [z])) q)) hf (Nat.le_refl _) new
    refine ⟨.ref s.heap.objs.size, _, I1, rfl, ⟨_, x, rfl, I.hok.fresh (Nat.le_refl _), rfl, fun ys hy => ?_⟩, ⟨⟨v, by simpa using he'⟩, st'.1.at fun o q => (sb.2 it (Ne.symm hne)).trans q, hne, nai, nae⟩, fun b hb => ?_⟩
    · obtain ⟨its2, rv2, p2, _⟩ := I.tuple hy
      obtain ⟨o1, g1, g2, n1, g3⟩ := p
      obtain ⟨o2, k1, k2, n2, k3⟩ := p2
      rw [g1] at k1; cases k1
      rw [g3] at k3
      have ei : its2 = its := by injection k3 with z _; exact (congrArg Array.toList z).symm
      subst ei
      rw [rv2.inj rv]
      exact hx
    · have hb' : b < s.heap.objs.size := by
        rcases (by simpa using hb : b = e ∨ b = it) with rfl | rfl
        · exact hel
        · exact hil
      rw [upd_ne (Nat.ne_of_lt hb')]
      exact (hf b hb).1
  done := fun X hP hw hK hc i pins s σ H E I hf st hg => by
    subst hP; subst hw; subst hK
    obtain ⟨⟨old, he⟩, hit, hne, nai, nae⟩ := st
    obtain ⟨xs, hq, hx⟩ := hg
    obtain ⟨its, rv, p, hz⟩ := I.tuple hq
    obtain ⟨f0, f1, f2, f3, f4, f5⟩ := hf it (by simp)
    have hl := rv.length
    have hn : its.toArray.size = i := by rw [List.size_toArray, ← hl]; exact hx
    subst hn
    exact wpAny_pyNext_enum_endD (Draws.tuple (prog := X.prog) (w := X.w) (A := X.A.in1) (show X.A.in1.handled = none from I.ok.hd hc) it a nai its.toArray) he ⟨hit, p⟩ fun h' eb => ⟨rfl, I.turned (fun b o hb q => eb b o hb q) f0 f1 f3 f4 f5⟩
  self := fun A i s Q E ⟨⟨_, he⟩, _⟩ h => wpAny_pyIter_enum he h
theorem y_enumT {K : KW} {G G0 : Hp} {a : Addr} {vs : List V} {ds : List D} (h1 : ∀ H, Same G H → SqT K.K H a vs) (r1 : Reps K G0 vs ds) : Yields K G G0 (IteT K.K a) (enumL ds) := fun i H s => by
  refine ⟨fun hi => ⟨vs, h1 H s, ?_⟩, fun d hd => ?_⟩
  · rw [enum_len] at hi
    rw [r1.length, hi]
  · obtain ⟨x, e1, rfl⟩ := enum_get hd
    obtain ⟨v, hv, rv⟩ := r1.get e1
    refine ⟨⟨vs, v, h1 H s, hv⟩, fun z H' hy => ?_⟩
    obtain ⟨T, x', rfl, nT, rfl, f1⟩ := hy
    have q1 := f1 vs (h1 H s)
    rw [hv] at q1; cases q1
    exact ⟨same_new nT, fun O o sm => rep_pair o nT (.int _) (rv.mono sm)⟩
def enumT (ds : List D) : Res (List D) := match ds with
  | [.tup xs] => .ok (enumL xs)
  | _ => .stuck
section
variable {X : Cx} {W : WX} {ea : Str → Addr}
def iEnumT (K : PySem.W.Frag) (ta : TA) : TI := fun σ H R => ta σ H fun vs H1 => ∃ a xs, vs = [.ref a] ∧ SqT K H1 a xs ∧ R (IteT K a) H1
theorem pi_enumT {e : Expr} {ta : TA} {p pos tpos : Pos} {elts : List Expr} {kk : Nat} (hg : Gl X (Str.ofString "enumerate")) (hm : X.mg (Str.ofString "enumerate") = none) (ha : PA X [e] ta) (hs : starEach [e] X.env = [(false, eval e X.env)]) :
    PI X (.Tuple elts kk tpos) (.Call (.Name (Str.ofString "enumerate") p) [e] [] pos) (iEnumT X.K ta) := by
  refine ⟨fun pins s σ H R I h => ?_⟩
  refine Call_ (ld_blt I hg hm boot_enumerate (PyProof.Rows.callWith_type1 (thn (ha.run pos pins s σ H _ I h) fun us s1 hh => ?_) hs rfl) (by decide) (by decide)) rfl
  obtain ⟨vs, H1, I1, r1, a, xs, ev, hq, q⟩ := hh
  subst ev
  cases r1 with
  | cons rv rn =>
    cases rn
    cases rv
    obtain ⟨its, rv, p', hz⟩ := I1.tuple hq
    refine call_enumT p' fun h' he hit hsz hk => wpAny_pyIter_enum he ?_
    have I2 := I1.kept (t' := s1.toks) hk
    have lt : a < s1.heap.objs.size := by obtain ⟨o, q, _⟩ := p'; exact Heap.lt_size q
    refine ⟨s1.heap.objs.size + 1, [s1.heap.objs.size + 1, s1.heap.objs.size], _, IteT X.K a, H1, rfl, I2, turn_enumT a (s1.heap.objs.size + 1) s1.heap.objs.size, ⟨⟨_, he⟩, hit, Nat.ne_of_gt (Nat.lt_succ_self _), Nat.ne_of_lt lt, Nat.ne_of_lt (Nat.lt_succ_of_lt lt)⟩, fun b hb => ?_, q⟩
    rcases (by simpa using hb : b = s1.heap.objs.size + 1 ∨ b = s1.heap.objs.size) with rfl | rfl
    · have f := I1.fpOk (b := s1.heap.objs.size + 1) (Nat.le_succ _) (I1.hok.fresh (Nat.le_succ _))
      exact f
    · exact I1.fpOk (Nat.le_refl _) (I1.hok.fresh (Nat.le_refl _))
theorem ri_enumT {a : Expr} {φ : AD} {p pos tpos : Pos} {elts : List Expr} {kk : Nat} (hg : Gl X (Str.ofString "enumerate")) (hm : X.mg (Str.ofString "enumerate") = none) (ha : RA X W ea [a] φ) (hs : starEach [a] X.env = [(false, eval a X.env)]) :
    RI X W ea (.Tuple elts kk tpos) (.Call (.Name (Str.ofString "enumerate") p) [a] [] pos) (iCall enumT φ) := by
  refine ⟨fun pins s σ H R I ⟨O, en, rp, q⟩ => (pi_enumT hg hm ha hs).run pins s σ H R I ⟨O, en, rp, (RP_bind.mp q).mono (fun ds hd vs H1 s1 r1 => ?_) fun c z => z⟩⟩
  unfold enumT at hd
  split at hd
  · obtain ⟨x, rfl, r⟩ := r1.one
    obtain ⟨a1, vs, rfl, ha, rr⟩ := r.tup_inv
    exact ⟨a1, vs, rfl, sqT_mono (cut_le _ _) ha, hd _ H1 s1 (y_enumT (fun H sm => sqT_mono sm ha) rr)⟩
  · exact False.elim hd
/-- .. over either -/
def enumA (ds : List D) : Res (List D) := match ds with
  | [.tup xs] => .ok (enumL xs)
  | [.lst xs] => .ok (enumL xs)
  | _ => .stuck
theorem ri_enum {a : Expr} {φ : AD} {p pos tpos : Pos} {elts : List Expr} {kk : Nat} (hg : Gl X (Str.ofString "enumerate")) (hm : X.mg (Str.ofString "enumerate") = none) (ha : RA X W ea [a] φ) (hs : starEach [a] X.env = [(false, eval a X.env)]) :
    RI X W ea (.Tuple elts kk tpos) (.Call (.Name (Str.ofString "enumerate") p) [a] [] pos) (iCall enumA φ) := by
  refine ⟨fun pins s σ H R I ⟨O, en, rp, q⟩ => ?_⟩
  cases hf : φ en with
  | stuck => simp only [iCall, hf] at q; exact False.elim q
  | exc c =>
    refine (ri_enumT hg hm ha hs).run pins s σ H R I ⟨O, en, rp, ?_⟩
    simp only [iCall, hf] at q ⊢
    exact q
  | ok ds =>
    simp only [iCall, hf] at q
    have q : RP (enumA ds) (fun ds => ∀ J H1, Same H H1 → Yields (kw X) (cut H1 O) (cut H1 O) J ds → R J H1) (exK W ea σ H) := q
    unfold enumA at q
    split at q
    · refine (ri_enumT hg hm ha hs).run pins s σ H R I ⟨O, en, rp, ?_⟩
      simp only [iCall, hf]
      exact q
    · refine (ri_enumL hg hm ha hs).run pins s σ H R I ⟨O, en, rp, ?_⟩
      simp only [iCall, hf]
      exact q
    · exact False.elim q
end
end L2.RB
namespace L2.RB
open PySem PySem.Spec PyProof.Rows
theorem gl {X : Cx} {x : Str} (h : X.env.kindOf x = some .globalImplicit) : Gl X x := h
/-! ### new lists -/
def rFadd (X : Cx) : R2 := fun x y H Q => ∃ O d e r, Own O H ∧ RepB (kw X) O H x d ∧ RepB (kw X) O H y e ∧ addD d e = .ok r ∧ PostF (kw X) O H Q r
theorem op_addF {X : Cx} : OpR X (binaryOp .Add) (rFadd X) := by
  intro pins s σ H x y v u Q I rx ry ⟨O, d, e, r, ow, h1, h2, hf, ds, er, q⟩
  subst er
  unfold addD at hf
  split at hf
  · cases hf
  · split at hf <;> cases hf
  · split at hf <;> cases hf
  · split at hf
    · rename_i xs ys hz
      cases hf
      obtain ⟨a, vs, rfl, s1, r1⟩ := h1.lst_inv
      obtain ⟨b, ws, rfl, s2, r2⟩ := h2.lst_inv
      refine op_cat pins s σ H _ _ v u Q I rx ry ⟨a, b, vs, ws, rfl, rfl, s1, s2, by rw [r1.length, r2.length, ← lim_eq]; exact hz, fun p hp => q p _ _ hp (same_new hp) upd_same ((r1.append r2).mono fun b o hb => ?_)⟩
      obtain ⟨q1, q2⟩ := of_cut hb
      rw [cut_of (by simp [ne_of_none q2 hp, q1])]
      exact same_new hp _ _ q2
    · cases hf
  · cases hf
theorem rf_add {X : Cx} {W : WX} {ea : Str → Addr} {a b : Expr} {pos : Pos} {φ ψ : ED} (ha : RB X W ea a φ) (hb : RB X W ea b ψ) : RF X W ea (.BinOp a .Add b pos) (eOp addD φ ψ) := by
  refine PEby (pe_op op_addF ha hb) fun σ H Q ⟨O, en, rp, q⟩ => ?_
  refine ⟨O, en, rp, (RP_bind.mp q).mono (fun d hd x H1 s1 r1 => ⟨O, en, rp.mono s1, (RP_bind.mp hd).mono (fun e he y H2 s2 r2 => ?_) fun c z => z.mono s1⟩) fun c z => z⟩
  have s := s1.trans s2
  cases hf : addD d e with
  | exc c => exact absurd hf (nx_add d e c)
  | stuck => rw [hf] at he; exact False.elim he
  | ok r =>
    rw [hf] at he
    obtain ⟨ds, er, q⟩ := he
    refine ⟨O, d, e, r, (rp.mono s).dom, r1.mono s2, r2, hf, ds, er, fun a vs H' n s' => q a vs H' ?_ (s.trans s')⟩
    cases e : H a with
    | none => rfl
    | some o => rw [s _ _ e] at n; cases n
def rFlist (X : Cx) : List V → Hp → VK → Prop := fun xs H Q => ∃ O ds r, Own O H ∧ RepBs (kw X) O H xs ds ∧ listD ds = .ok r ∧ PostF (kw X) O H Q r
theorem more_new {K : KW} {H : Hp} {O : List Addr} {l : Addr} {o : HO} {vs : List V} {ds : List D} (n : H l = none) (r : Reps K (cut H O) vs ds) : Reps K (cut (upd H l o) (l :: O)) vs ds := r.mono fun b u hb => by
  obtain ⟨q1, q2⟩ := of_cut hb
  rw [cut_of (by simp [ne_of_none q2 n, q1])]
  exact same_new n _ _ q2
theorem cr_listF {X : Cx} : CallR X (.type "list") (rFlist X) := by
  intro pins s σ H xs us Q I r ⟨O, ds, d, ow, h, hf, es, ed, q⟩
  unfold listD at hf
  split at hf
  · cases hf; cases ed
    obtain ⟨x, rfl, hx⟩ := h.one
    obtain ⟨a, vs, rfl, s1, r1⟩ := hx.tup_inv
    exact call_list_of pins s σ H _ us Q I r ⟨a, vs, rfl, .inr s1, fun l hl => q l _ _ hl (same_new hl) upd_same (more_new hl r1)⟩
  · cases hf; cases ed
    obtain ⟨x, rfl, hx⟩ := h.one
    obtain ⟨a, vs, rfl, s1, r1⟩ := hx.lst_inv
    exact call_list_of pins s σ H _ us Q I r ⟨a, vs, rfl, .inl (.of s1), fun l hl => q l _ _ hl (same_new hl) upd_same (more_new hl r1)⟩
  · cases hf
theorem rf_list {X : Cx} {W : WX} {ea : Str → Addr} {e : Expr} {es : List Expr} {φ : AD} {p pos : Pos} (hg : Gl X (Str.ofString "list")) (hm : X.mg (Str.ofString "list") = none) (ha : RAB X W ea (e :: es) φ) (h1 : starEach (e :: es) X.env = (false, eval e X.env) :: starEach es X.env) (h2 : ((backTo pos (starEach es X.env)).any fun x => x.fst) = false) :
    RF X W ea (.Call (.Name (Str.ofString "list") p) (e :: es) [] pos) (eCall listD φ) := by
  refine PEby (pe_callTy cr_listF hg hm (by rfl) ha (by decide) (by decide) h1 h2) fun σ H Q ⟨O, en, rp, q⟩ => ?_
  refine ⟨O, en, rp, (RP_bind.mp q).mono (fun ds hd vs H1 s1 r1 => ?_) fun c z => z⟩
  cases hf : listD ds with
  | exc c => exact absurd hf (nx_list ds c)
  | stuck => rw [hf] at hd; exact False.elim hd
  | ok r =>
    rw [hf] at hd
    obtain ⟨es, er, q⟩ := hd
    refine ⟨O, ds, r, (rp.mono s1).dom, r1, hf, es, er, fun a vs H' n s' => q a vs H' ?_ (s1.trans s')⟩
    cases e : H a with
    | none => rfl
    | some o => rw [s1 _ _ e] at n; cases n
end L2.RB
namespace L2.RB
open PySem PySem.Spec PyProof.Rows
/-! ### the law itself, the defs told -/
def spLaw (K : PySem.W.Frag) : Sp := fun vs H Q _ => ∃ (a : Addr) (ns : List Int), vs = [.ref a] ∧ SqL K H a (ns.map V.int) ∧ ns.length ≤ 63 ∧ ∀ H', Q (.bl true) H'
theorem fn_ok0 {P : Program} {w : World} {K : PySem.W.Frag} {mg : Str → Option Value} {base : Heap} {ea : Str → Addr} {x qual p : Str} {params : Arguments} {body : List Stmt} {scope : Scope} {kws : List (Str × V)} {f : Addr} {fd : FuncData} {N : List Str} {k : Nat} {b : SD}
    (F : FunD K x qual params body scope [] kws f fd) (S : FnScope N [p] scope) (hN : 1 ≤ N.length)
    (hb : ∀ (cdv : Value) (A : Around) (outer : List Env) (s : Shared) (H : Hp) (E : XK), Room k (cxOf CX0 P w K mg base N qual scope f cdv A outer s H E).A → RSs (cxOf CX0 P w K mg base N qual scope f cdv A outer s H E) W0 ea [] body b)
    (hm : ∀ ns : List Int, ns.length ≤ 63 → fnD 1 N.length b [.scr ns] = .ok (.bl true)) :
    FnOk P w K mg base CX0 (k + 1) f fd [p] (spLaw K) := by
  refine F.ok S (fun vs H Q E h => ?_) fun cdv A outer s H vs Q E hr h => ?_
  · obtain ⟨a, ns, rfl, _⟩ := h
    rfl
  · obtain ⟨a, ns, rfl, hS, hl, q⟩ := h
    refine ⟨_, hb cdv A outer s H E hr, ?_⟩
    have e := hm ns hl
    unfold fnD at e
    rw [if_pos (show [D.scr ns].length = 1 from rfl)] at e
    have rq : Rq ⟨K, P, w⟩ [] [] (startD N.length [.scr ns]) (L2.start N [.ref a]) H := start_rq (fun _ m => absurd m List.not_mem_nil) (.cons (.scr (by rw [cut_nil]; exact hS)) .nil) hN
    cases eb : b (startD N.length [.scr ns]) with
    | none => rw [eb] at e; cases e
    | some fl =>
      rw [eb] at e
      refine ⟨[], _, fl, rq, eb, ?_⟩
      cases fl with
      | nx e' => cases e
      | rt d =>
        cases e
        intro v H' O' _ _ rv
        cases rv
        exact q H'
      | bk e' => cases e
      | ct e' => cases e
      | xc c e' => cases e
section
variable {P : Program} {w : World} {K : PySem.W.Frag} {mg : Str → Option Value} {base : Heap} {ea : Str → Addr}
theorem cal_stuck {x : Str} {f : Addr} {fd : FuncData} {ps : List Str} (h1 : mg x = some (.ref f)) (h2 : PySem.W.keepIn K (.ref f) = true) (h3 : L2.Binds K fd ps []) (k : Nat) : Cal P w K mg base ea k x (fun _ => .stuck) :=
  ⟨f, fd, ps, h1, h2, h3, ⟨fun vs H Q E ⟨O, ds, ow, r, q⟩ => False.elim q, fun A outer s H args us vs Q E hr e b v ⟨O, ds, ow, r, q⟩ => False.elim q⟩⟩
/-- a def of the top -/
theorem cal_of {x : Str} {st : Stmt} {kws : List (Str × V)} {f : Addr} {fd : FuncData} {N ps : List Str} {k : Nat} {b : SD} (F : FunD K x x (defArgs st) (defBody st) (defScope st) [] kws f fd) (S : FnScope N ps (defScope st)) (hN : ps.length ≤ N.length) (h1 : mg x = some (.ref f))
    (hbd : ∀ (kV doc pm : Value) (an : Option Addr) (cdv ct : Value) (us : List Value), us.length = ps.length → bindArgs (PySem.W.fnOf x x (defArgs st) (defBody st) (defScope st) Value.none kV doc pm an cdv ct) { pos := us } = pure (ps.zip us))
    (hb : ∀ (O0 : List Addr) (cdv : Value) (A : Around) (outer : List Env) (s : Shared) (H : Hp) (E : XK), Room k (cxOf (CX P w) P w K mg base N x (defScope st) f cdv A outer s H E).A → Takes (cxOf (CX P w) P w K mg base N x (defScope st) f cdv A outer s H E) (wF E) →
      RSs (cxOf (CX P w) P w K mg base N x (defScope st) f cdv A outer s H E) (wF E) ea O0 (defBody st) b) : Cal P w K mg base ea (k + 1) x (fnD ps.length N.length b) :=
  ⟨f, fd, ps, h1, F.kp, FunD.bindsN F hbd, fn_okD (fun_of F) S hN hb⟩
end
end L2.RB
namespace L2.RB
open PySem PySem.Spec PyProof.Rows
/-! ### reading the readings -/
theorem ev0 {d : D} {r : En} : eVar 0 (.sh d :: r) = .ok d := rfl
theorem evS {s : Sl} {n : Nat} {r : En} : eVar (n + 1) (s :: r) = eVar n r := rfl
theorem evB0 {d : D} {r : En} : eVarB 0 (.sh d :: r) = .ok d := rfl
theorem evB0o {d : List D} {r : En} : eVarB 0 (.ow d :: r) = .ok (.lst d) := rfl
theorem evBS {s : Sl} {n : Nat} {r : En} : eVarB (n + 1) (s :: r) = eVarB n r := rfl
theorem lim_lit : LIM = 16777216 := rfl
theorem eLc_ok {src : AD} {γ : GD} {τ : TD} {φ : ED} {vs : List Nat} {e : En} {ds ys : List D} (h1 : src e = .ok ds) (h2 : ds.length ≤ 100000) (h3 : filtR (stepLc γ τ φ vs e) ds = .ok ys) : eLc src γ τ φ vs e = .ok (.lst ys) := by
  have hl : ds.length ≤ LIM := Nat.le_trans h2 (by decide)
  unfold eLc filtN
  rw [h1, ok_bind, if_pos hl, h3]
  rfl
/-! ### plain data: what is equal -/
theorem pls_map {α : Type} {f : α → D} {n : Nat} (h : ∀ a, (f a).pl n = true) : ∀ l : List α, D.pls (l.map f) n = true
  | [] => by simp [D.pls]
  | a :: l => by
    rw [List.map_cons]
    simp only [D.pls, h a, pls_map h l, Bool.and_self]
theorem pl_le : ∀ {m n : Nat} {d : D}, d.pl m = true → m ≤ n → d.pl n = true := fun {m n d} h hl => by
  induction hl with
  | refl => exact h
  | step _ ih => exact pl_up _ _ ih
theorem eqB_pl {d e : D} (hd : d.pl 60 = true) (he : e.pl 60 = true) : eqB d e = some (D.eqv d e) := by
  have ns : ∀ ns, d ≠ .scr ns := fun ns z => by subst z; simp [D.pl] at hd
  unfold eqB
  split
  · exact absurd rfl (ns _)
  · rw [hd, he]; rfl
theorem eqD_pl {d e : D} (hd : d.pl 60 = true) (he : e.pl 60 = true) : eqD d e = .ok (.bl (D.eqv d e)) := by
  unfold eqD
  rw [eqB_pl hd he]
theorem neD_pl {d e : D} (hd : d.pl 60 = true) (he : e.pl 60 = true) : neD d e = .ok (.bl (!D.eqv d e)) := by
  unfold neD
  rw [eqB_pl hd he]
end L2.RB
namespace L2.RB
open PySem PySem.Spec PyProof.Rows
/-! ### isinstance with a type of the language -/
def tyS : D → Option String
  | .non => some "NoneType"
  | .bl _ => some "bool"
  | .int _ => some "int"
  | .str _ => some "str"
  | .tup _ => some "tuple"
  | .lst _ => some "list"
  | .dct _ => some "dict"
  | _ => none
/-- what isinstance tells, a table -/
structure IsT (T : String) (g : D → Res D) : Prop where
  ok : ∀ d r, g d = .ok r → ∃ t b, tyS d = some t ∧ r = .bl b ∧ kitB t T = some b
  nx : ∀ d c, g d ≠ .exc c
def isStr (d : D) : Res D := match d with
  | .str _ => .ok (.bl true)
  | .non => .ok (.bl false)
  | .bl _ => .ok (.bl false)
  | .int _ => .ok (.bl false)
  | .tup _ => .ok (.bl false)
  | .lst _ => .ok (.bl false)
  | .dct _ => .ok (.bl false)
  | _ => .stuck
def isTup (d : D) : Res D := match d with
  | .str _ => .ok (.bl false)
  | .non => .ok (.bl false)
  | .bl _ => .ok (.bl false)
  | .int _ => .ok (.bl false)
  | .tup _ => .ok (.bl true)
  | .lst _ => .ok (.bl false)
  | .dct _ => .ok (.bl false)
  | _ => .stuck
def isLst (d : D) : Res D := match d with
  | .str _ => .ok (.bl false)
  | .non => .ok (.bl false)
  | .bl _ => .ok (.bl false)
  | .int _ => .ok (.bl false)
  | .tup _ => .ok (.bl false)
  | .lst _ => .ok (.bl true)
  | .dct _ => .ok (.bl false)
  | _ => .stuck
def isInt (d : D) : Res D := match d with
  | .str _ => .ok (.bl false)
  | .non => .ok (.bl false)
  | .bl _ => .ok (.bl true)
  | .int _ => .ok (.bl true)
  | .tup _ => .ok (.bl false)
  | .lst _ => .ok (.bl false)
  | .dct _ => .ok (.bl false)
  | _ => .stuck
def isBool (d : D) : Res D := match d with
  | .str _ => .ok (.bl false)
  | .non => .ok (.bl false)
  | .bl _ => .ok (.bl true)
  | .int _ => .ok (.bl false)
  | .tup _ => .ok (.bl false)
  | .lst _ => .ok (.bl false)
  | .dct _ => .ok (.bl false)
  | _ => .stuck
theorem ist_str : IsT "str" isStr := ⟨fun d r h => by
  cases d <;> cases h
  · exact ⟨_, _, rfl, rfl, by decide +kernel⟩
  · exact ⟨_, _, rfl, rfl, by decide +kernel⟩
  · exact ⟨_, _, rfl, rfl, by decide +kernel⟩
  · exact ⟨_, _, rfl, rfl, by decide +kernel⟩
  · exact ⟨_, _, rfl, rfl, by decide +kernel⟩
  · exact ⟨_, _, rfl, rfl, by decide +kernel⟩
  · exact ⟨_, _, rfl, rfl, by decide +kernel⟩, fun d c h => by cases d <;> cases h⟩
theorem ist_tup : IsT "tuple" isTup := ⟨fun d r h => by
  cases d <;> cases h
  · exact ⟨_, _, rfl, rfl, by decide +kernel⟩
  · exact ⟨_, _, rfl, rfl, by decide +kernel⟩
  · exact ⟨_, _, rfl, rfl, by decide +kernel⟩
  · exact ⟨_, _, rfl, rfl, by decide +kernel⟩
  · exact ⟨_, _, rfl, rfl, by decide +kernel⟩
  · exact ⟨_, _, rfl, rfl, by decide +kernel⟩
  · exact ⟨_, _, rfl, rfl, by decide +kernel⟩, fun d c h => by cases d <;> cases h⟩
theorem ist_lst : IsT "list" isLst := ⟨fun d r h => by
  cases d <;> cases h
  · exact ⟨_, _, rfl, rfl, by decide +kernel⟩
  · exact ⟨_, _, rfl, rfl, by decide +kernel⟩
  · exact ⟨_, _, rfl, rfl, by decide +kernel⟩
  · exact ⟨_, _, rfl, rfl, by decide +kernel⟩
  · exact ⟨_, _, rfl, rfl, by decide +kernel⟩
  · exact ⟨_, _, rfl, rfl, by decide +kernel⟩
  · exact ⟨_, _, rfl, rfl, by decide +kernel⟩, fun d c h => by cases d <;> cases h⟩
theorem ist_int : IsT "int" isInt := ⟨fun d r h => by
  cases d <;> cases h
  · exact ⟨_, _, rfl, rfl, by decide +kernel⟩
  · exact ⟨_, _, rfl, rfl, by decide +kernel⟩
  · exact ⟨_, _, rfl, rfl, by decide +kernel⟩
  · exact ⟨_, _, rfl, rfl, by decide +kernel⟩
  · exact ⟨_, _, rfl, rfl, by decide +kernel⟩
  · exact ⟨_, _, rfl, rfl, by decide +kernel⟩
  · exact ⟨_, _, rfl, rfl, by decide +kernel⟩, fun d c h => by cases d <;> cases h⟩
theorem ist_bool : IsT "bool" isBool := ⟨fun d r h => by
  cases d <;> cases h
  · exact ⟨_, _, rfl, rfl, by decide +kernel⟩
  · exact ⟨_, _, rfl, rfl, by decide +kernel⟩
  · exact ⟨_, _, rfl, rfl, by decide +kernel⟩
  · exact ⟨_, _, rfl, rfl, by decide +kernel⟩
  · exact ⟨_, _, rfl, rfl, by decide +kernel⟩
  · exact ⟨_, _, rfl, rfl, by decide +kernel⟩
  · exact ⟨_, _, rfl, rfl, by decide +kernel⟩, fun d c h => by cases d <;> cases h⟩
theorem tyX_of {K : KW} {O : List Addr} {H : Hp} {x : V} {d : D} {t : String} (r : RepB K O H x d) (h : tyS d = some t) : TyX K.K H x (.type t) := by
  cases d with
  | non => cases h; rw [r.non_inv]; exact .base .non
  | bl b => cases h; rw [r.bl_inv]; exact .base (.bl b)
  | int i => cases h; rw [r.int_inv]; exact .base (.int i)
  | str s => cases h; rw [r.str_inv]; exact .base (.str s)
  | tup ds =>
    cases h
    obtain ⟨a, vs, rfl, s, _⟩ := r.tup_inv
    rcases s with (s | ⟨o, s⟩) | ⟨o, its, n, hk, hc, _⟩
    · exact .base (.tup s)
    · exact .fTuple s
    · exact .kTuple hk hc
  | lst ds =>
    cases h
    obtain ⟨a, vs, rfl, s, _⟩ := r.lst_inv
    exact .base (.lst s)
  | dct ds =>
    cases h
    obtain ⟨a, vs, rfl, s, _⟩ := r.dct_inv
    exact .base (.dK s)
  | _ => cases h
theorem pe_tyN {X : Cx} {x : Str} {T : String} {pos : Pos} (hg : Gl X x) (hm : X.mg x = none) (hb : bootBuiltins x = some (.type T)) (hn : x ≠ Str.ofString "__name__") (hd : (x == Str.ofString "__debug__") = false) : PE X (.Name x pos) (tC (.ty T)) :=
  ⟨fun pins s σ H Q I q => ld_blt I hg hm hb ⟨.ty T, H, I, rfl, q⟩ hn hd⟩
def eIsT (g : D → Res D) (φ : ED) : ED := fun e => do let x ← φ e; g x
theorem r_isT {X : Cx} {W : WX} {ea : Str → Addr} {e : Expr} {φ : ED} {T : String} {g : D → Res D} {x : Str} {p pt pos : Pos} (hT : IsT T g) (hg : Gl X (Str.ofString "isinstance")) (hm : X.mg (Str.ofString "isinstance") = none) (ha : RB X W ea e φ)
    (gx : Gl X x) (mx : X.mg x = none) (bx : bootBuiltins x = some (.type T)) (nx : x ≠ Str.ofString "__name__") (dx : (x == Str.ofString "__debug__") = false)
    (h1 : starEach [e, .Name x pt] X.env = (false, eval e X.env) :: starEach [.Name x pt] X.env) (h2 : starEach [.Name x pt] X.env = (false, eval (.Name x pt) X.env) :: starEach [] X.env) (h3 : ((backTo pos (starEach [.Name x pt] X.env)).any fun x => x.fst) = false) :
    RE X W ea (.Call (.Name (Str.ofString "isinstance") p) [e, .Name x pt] [] pos) (eIsT g φ) := by
  refine PEby (pe_callB call_isi hg hm (by rfl) (pa_cons ha (pa_cons (pe_tyN gx mx bx nx dx) pa_nil h2) h1) (by decide) (by decide) h1 h3) fun σ H Q ⟨O, en, rp, q⟩ => ?_
  refine ⟨O, en, rp, (RP_bind.mp q).mono (fun d hd v H1 s1 r1 => ?_) fun c z => z⟩
  cases hr : g d with
  | stuck => rw [hr] at hd; exact False.elim hd
  | exc c => exact absurd hr (hT.nx d c)
  | ok r =>
    rw [hr] at hd
    obtain ⟨t, b, ht, rfl, hk⟩ := hT.ok d r hr
    exact ⟨v, .ty T, .type t, .type T, b, rfl, .ty T, tyX_of r1 ht, kit_ty hk, (Post.mono s1 hd).bl⟩
/-! ### powers -/
def powD (d e : D) : Res D := match d, e with
  | .int i, .int j => if 0 ≤ j ∧ j.natAbs ≤ 100 ∧ i.natAbs ≤ 1000 then .ok (.int (i ^ j.toNat)) else .stuck
  | _, _ => .stuck
theorem nx_pow : Nx2 powD := by
  intro d e c; unfold powD; repeat' split
  all_goals exact fun z => nomatch z
theorem op_powD {X : Cx} : OpR X (binaryOp .Pow) (rD2 X powD) := by
  intro pins s σ H x y v u Q I rx ry ⟨O, d, e, r, ow, h1, h2, hf, q⟩
  unfold powD at hf
  split at hf
  · split at hf
    · rename_i hc
      cases hf
      exact op_pow pins s σ H x y v u Q I rx ry ⟨_, _, h1.int_inv, h2.int_inv, ⟨hc.1, by omega, by have := hc.2.2; omega⟩, q.int⟩
    · cases hf
  · cases hf
theorem x_pow {X : Cx} {W : WX} {ea : Str → Addr} {a b : Expr} {φ ψ : ED} {pos : Pos} (ha : RB X W ea a φ) (hb : RB X W ea b ψ) : RE X W ea (.BinOp a .Pow b pos) (eOp powD φ ψ) := r_op nx_pow op_powD ha hb
end L2.RB
namespace L2.RB
open PySem PySem.Spec PyProof.Rows
/-! ### a refusal that is kept: except X as n: y = n -/
section
variable {X : Cx} {pins : List (Addr × Obj)} {σ : L2.St} {H : Hp} {s : Shared}
/-- a pinned object, new since the def began, is tracked -/
theorem track {a : Addr} {oe : Obj} {o : HO} (I : Inv X ((a, oe) :: pins) σ H s) (n0 : X.s_0.heap.get? a = none) (np : ∀ p ∈ X.pn ++ pins, p.1 ≠ a) (ok : ObjOk X.prog X.w (upd H a o) s.heap a o) : Inv X pins σ (upd H a o) s := by
  obtain ⟨e1, na, nL, nF, nc⟩ := I.pin (a, oe) (List.mem_append_right _ List.mem_cons_self)
  have old : ∀ b u, X.s_0.heap.get? b = some u → b ≠ a := fun b u e z => by subst z; rw [n0] at e; cases e
  have trk : ∀ b u, H b = some u → b ≠ a := fun b u e z => by
    have na : H a = none := na
    subst z; rw [na] at e; cases e
  refine ⟨I.ok, I.os, I.bare, ⟨I.base.keep, I.base.slot, fun b u e h0 hx => ?_, I.base.there, fun b xs e => ?_, fun b u v e => ?_, fun b ps e => ?_⟩, I.loc, I.cell, ?_, fun x c e => ?_, fun p hp => ?_, fun b u e => ?_, I.len⟩
  · rw [upd_ne (old b u e)]; exact I.base.free b u e h0 hx
  · have z := I.base.tups b xs e
    rw [upd_ne (trk b _ z)]; exact z
  · have z := I.base.frzs b u v e
    rw [upd_ne (trk b _ z)]; exact z
  · obtain ⟨m, z⟩ := I.base.tbls b ps e
    exact ⟨m, by rw [upd_ne (trk b _ z)]; exact z⟩
  · rw [upd_ne (Ne.symm nL)]; exact I.free
  · have : c ≠ a := fun z => by
      subst z
      obtain ⟨v, hv⟩ := I.cell x c e
      obtain ⟨oc, ho, hd⟩ := hv
      rw [e1] at ho; cases ho
      exact nc _ hd
    rw [upd_ne this]; exact I.freeC x c e
  · have hp' : p ∈ X.pn ++ ((a, oe) :: pins) := by
      rcases List.mem_append.mp hp with m | m
      · exact List.mem_append_left _ m
      · exact List.mem_append_right _ (List.mem_cons_of_mem _ m)
    obtain ⟨f1, f2, f3⟩ := I.pin p hp'
    exact ⟨f1, by rw [upd_ne (np p hp)]; exact f2, f3⟩
  · by_cases hb : b = a
    · subst hb; rw [upd_same] at e; cases e; exact ok
    · rw [upd_ne hb] at e
      refine (I.hok b u e).stay (fun c v _ q => q) (fun c q => ?_) fun c xs q => ?_
      · rw [upd_ne (trk c _ q)]; exact q
      · rw [upd_ne (trk c _ q)]; exact q
theorem unsuiteK {a : Addr} {q : Addr × Obj} {pn' : List (Addr × Obj)} (I : Inv (X.suite a (q :: (X.pn ++ pins))) pn' σ H s) (ok : X.Ok) : Inv X (q :: pins) σ H s :=
  ⟨ok, I.os, I.bare, I.base, I.loc, I.cell, I.free, I.freeC, fun p hp => I.pin p (by
    refine List.mem_append_left _ ?_
    rcases List.mem_append.mp hp with m | m
    · exact List.mem_cons_of_mem _ (List.mem_append_left _ m)
    · rcases List.mem_cons.mp m with m | m
      · rw [m]; exact List.mem_cons_self
      · exact List.mem_cons_of_mem _ (List.mem_append_right _ m)), I.hok, I.len⟩
end
/-- what the clause 'except x as n: y = n' wishes of an exception of the body: slot i is n's, slot j is y's -/
def wKeep (K : PySem.W.Frag) (c : Value) (i j : Nat) (Wout : WX) (D : Ends) : WX := fun cls d σ H =>
  ∃ b, PySem.W.exmOne K cls c = some b ∧ (b = true → d = none ∧ ∃ k, cls = .ref (He.ga K k) ∧ ∀ a, H a = none → D.nx (((σ.set i (some (.ref a))).set j (some (.ref a))).set i none) (upd H a (ExK K k a))) ∧ (b = false → Wout cls d σ H)
section
variable {X : Cx} {x n y : Str} {c : Value} {body : List Stmt} {np p1 p2 p3 pos pos' : Pos} {tb : WX → TS} {Wout : WX} {i j : Nat}
theorem ps_try_keep (hex : X.ex = []) (hs : X.stack = X.env :: X.outer) (hf : X.env.frame = some X.env.locals) (hN : X.N.Nodup) (hi : X.N[i]? = some n) (hln : X.env.kindOf n = some .local) (hj : X.N[j]? = some y) (hly : L2.Loc X.env.scope y) (hfy : X.fn y = true ∨ List.lookup y X.env.scope.names = some NameKind.local)
    (hvn : Vis X.env.scope n) (d1 : (n == Str.ofString "__debug__") = false) (d2 : (n == Str.ofString "__classdict__") = false) (hij : i ≠ j) (hc : Names X x c) (tk : Takes X Wout) (hsw : swapsWith (.Name n p2) (some (.Name y p1)) p3.line X.env = pure false)
    (hb : ∀ (W : WX) (pn : List (Addr × Obj)) (xe : Value → Shared → Prop), Takes (X.tr pn xe) W → PassesOwn (model X.prog X.w) X.A X.env xe → PSs (X.tr pn xe) body (tb W)) :
    PS X (.Try body [.ExceptHandler (some (.Name x np)) (some n) [.Assign [.Name y p1] (.Name n p2) p3] pos'] [] [] pos) (fun D σ H => tb (wKeep X.K c i j Wout D) D σ H) := by
  refine ⟨fun pins s σ H D I h => ?_⟩
  have ok := I.ok
  have hfr : X.A.frames = some (X.env :: X.outer) := by rw [ok.frames, hs]
  have hloc : Loc X.env.scope n := .inl hln
  refine wpAny_Try_except ?_
  refine wpAny_mono ((hb (wKeep X.K c i j Wout D) (X.pn ++ pins) (fun e s₁ => wpAny (model X.prog X.w) X.A (noteFrame e X.env) (fun _ s₂ => wpAny (model X.prog X.w) X.A (setFlight e none) (fun _ s₃ =>
    wpAny (model X.prog X.w) X.A (handleBy e X.env [.ExceptHandler (some (.Name x np)) (some n) [.Assign [.Name y p1] (.Name n p2) p3] pos']) (SP X pins D) X.xe s₃) X.xe s₂) X.xe s₁) (fun u s' xx => ?_) PassesOwn.looking).run [] s σ H D (I.toTry _) h) (fun f s1 hsp => ?_) (fun e s1 he => he)
  · -- the catch
    obtain ⟨a, B, sI, pins', σ', H', cls, d, rfl, J', nb, up, sky, na, os, ag, b, hb1, hyes, hno⟩ := xx
    have J : Inv X pins σ' H' sI := J'.ofTry ok
    have sky' : Sky B (X.env :: X.outer) a (Zc cls d) X.env.locals s'.heap := by rw [← hs]; exact sky
    show wpAny (model X.prog X.w) X.A (noteFrame (.ref a) X.env) _ _ _
    refine Sky.land Zc.steady hfr hf sky' fun h3 fl3 up3 => ?_
    have J3 : Inv X pins σ' H' { s' with heap := h3 } := J.landed nb fl3.1 (up.trans up3) os ag
    obtain ⟨oe3, vs3, he3, hz3, hd3⟩ := fl3.there
    have notFr : ∀ {h : Heap} {o : Obj} {vs : Array Value}, h.FunFrames B (X.env :: X.outer) → h.get? a = some o → o.data = .fields vs → a ∉ frs (X.env :: X.outer) := fun {h o vs} ff e dd hm => by
      obtain ⟨_, o', e', hnf⟩ := ff.mem hm
      rw [e] at e'; cases e'
      exact hnf _ dd
    have nfr := notFr fl3.2.2.1 he3 hd3
    have nL : a ≠ X.env.locals := fun z => nfr (List.mem_filterMap.mpr ⟨X.env, List.mem_cons_self, by rw [hf, z]⟩)
    have nF : a ∉ X.fs := fun hm => by
      obtain ⟨e, he, q⟩ := List.mem_filterMap.mp hm
      exact nfr (List.mem_filterMap.mpr ⟨e, List.mem_cons_of_mem _ he, q⟩)
    have nfr' : a ∉ frs X.stack := by rw [hs]; exact nfr
    have nI : sI.heap.get? a = none := by
      cases e : sI.heap.get? a with
      | none => rfl
      | some o =>
        have z := nb a o e nfr'
        rw [fl3.2.1] at z; cases z
    have n0 : X.s_0.heap.get? a = none := by
      cases e : X.s_0.heap.get? a with
      | none => rfl
      | some o =>
        obtain ⟨o', z⟩ := J.base.there a o e (by rw [hex]; exact List.not_mem_nil)
        rw [nI] at z; cases z
    have npn : ∀ p ∈ X.pn ++ pins, p.1 ≠ a := fun p hp z => by
      have := (J.pin p hp).1
      rw [z, nI] at this; cases this
    have S3 := J3.suite he3 hd3 na nL nF
    refine wpAny_handleBy_cons (codeAny_handlers_test ?_) (by intro q; cases q)
    have LT : PySem.W.Looks (model X.prog X.w) h3 (typeOf (.ref a)) cls := fun A Q E s k q => wpAny_typeOf_ref (k _ _ he3) (by rw [hz3.1]; exact q)
    have LM := PySem.W.exm_one (M := model X.prog X.w) (J3.kIn) LT hb1
    have test : ∀ {Q : Value → Shared → Prop} {E : Value → Shared → Prop}, Q c { s' with heap := h3 } → wpAny (model X.prog X.w) (X.A.mark (some (.ref a))) (eval (.Name x np) X.env) Q E { s' with heap := h3 } := fun {Q E} q => by
      obtain ⟨hg, hdbg, hm | ⟨hm, hv, hnn⟩⟩ := hc
      · exact ld_glob (X := X.suite a ((a, oe3) :: (X.pn ++ pins))) S3 hg hm q hdbg
      · exact ld_blt (X := X.suite a ((a, oe3) :: (X.pn ++ pins))) S3 hg hm hv q hnn hdbg
    refine test (LM.here ?_)
    cases b with
    | true =>
      refine codeAny_handlers_suite_as ?_
      refine HandSPX.lands_againZ fl3 fun h4 fl4 up4 => ?_
      have J4 : Inv X pins σ' H' { s' with heap := h4 } := J.landed nb fl4.1 ((up.trans up3).trans up4) os ag
      obtain ⟨oe4, vs4, he4, hz4, hd4⟩ := fl4.there
      have S4 := J4.suite he4 hd4 na nL nF
      refine store_ok (X := X.suite a ((a, oe4) :: (X.pn ++ pins))) (v := .ref a) S4 hN hi hloc rfl (fun s5 S5 => ?_) (.inr hln)
      obtain ⟨rfl, k, rfl, hq⟩ := hyes rfl
      have st : PSs (X.suite a ((a, oe4) :: (X.pn ++ pins))) [.Assign [.Name y p1] (.Name n p2) p3] _ := pss_one (ps_set (X := X.suite a ((a, oe4) :: (X.pn ++ pins))) hN hj hly (pe_var (X := X.suite a ((a, oe4) :: (X.pn ++ pins))) hi hvn d1 d2) hsw hfy)
      have li : i < σ'.length := by
        rw [S4.len]
        exact (List.getElem?_eq_some_iff.mp hi).1
      let D' : Ends := ⟨fun σ2 H2 => σ2 = (σ'.set i (some (.ref a))).set j (some (.ref a)) ∧ H2 = H', fun _ _ => False, fun _ _ => False, fun _ _ => False⟩
      refine wpAny_mono (st.run [] s5 _ H' D' S5 ⟨.ref a, List.getElem?_set_self li, rfl, rfl⟩) (fun f s6 hsp => ?_) (fun _ _ z => False.elim z)
      cases f with
      | next =>
        obtain ⟨σ6, H6, S6, e6, eh6⟩ := hsp
        subst e6 eh6
        refine gone_ok (unsuiteK S6 ok) hN hi hln fun s7 J7 => ?_
        have e7 := (J7.pin (a, oe4) (List.mem_append_right _ List.mem_cons_self)).1
        exact ⟨_, _, track (o := ExK X.K k a) J7 n0 npn ⟨⟨oe4, vs4, e7, hz4, hd4⟩, ⟨oe4, e7⟩, fun h1 h2 ⟨o, v, q, r⟩ kk => ⟨o, v, kk o q, r⟩⟩, hq a na⟩
      | brk =>
        obtain ⟨σ6, H6, S6, q6⟩ := hsp
        exact False.elim q6
      | cont =>
        obtain ⟨σ6, H6, S6, q6⟩ := hsp
        exact False.elim q6
      | ret u =>
        obtain ⟨v6, σ6, H6, S6, r6, q6⟩ := hsp
        exact False.elim q6
    | false =>
      show wpAny _ X.A (handleBy (.ref a) X.env []) _ _ _
      refine wpAny_handleBy_nil ?_
      obtain ⟨k1, k2, k3, oe, vs, T, oT, ts', he, hz, hd, h1, hr⟩ := id fl3
      unfold PySem.passOn
      refine wpAny_bind (wpAny_field he hd h1 ?_)
      rw [if_neg (show ¬ ((Value.ref T == Value.none) = true) from by simp)]
      have fin : wpAny (model X.prog X.w) X.A (setFlight (.ref a) X.env.frame) (fun _ s4 => wpAny (model X.prog X.w) X.A (throw (.ref a) : Sem Flow) (SP X pins D) X.xe s4) X.xe { s' with heap := h3 } := by
        rw [hf]
        refine HandSPX.setFlight_upZ fl3 fun h4 hh4 up4 => wpAny_throw (tk _ _ ?_)
        exact ⟨a, B, sI, pins, σ', H', cls, d, rfl, J, nb, (up.trans up3).trans up4, .inr (.inr (by rw [hs]; exact hh4)), na, os, ag, hno rfl⟩
      first
        | exact wpAny_bind (wpAny_pure (wpAny_bind fin))
        | exact wpAny_bind fin
  · cases f with
    | next =>
      obtain ⟨σ', H', J', q⟩ := hsp
      exact wpAny_execs_nil ⟨σ', H', J'.ofTry ok, q⟩
    | brk =>
      obtain ⟨σ', H', J', q⟩ := hsp
      exact ⟨σ', H', J'.ofTry ok, q⟩
    | cont =>
      obtain ⟨σ', H', J', q⟩ := hsp
      exact ⟨σ', H', J'.ofTry ok, q⟩
    | ret u =>
      obtain ⟨v, σ', H', J', r, q⟩ := hsp
      exact ⟨v, σ', H', J'.ofTry ok, r, q⟩
end
end L2.RB
namespace L2.RB
open PySem PySem.Spec PyProof.Rows
/-! ### the facts of the head, with what isinstance asks of refusals -/
/-- is the class c below y? of the classes cs of refusals -/
def subB (cs : List Str) (y : Str) : Str → Option Bool := fun c => if c ∈ cs then some (c == y || y == ("RouteError" : Str)) else none
def eisB (K : PySem.W.Frag) (x : Str) : Bool := He.eqO (PySem.W.findIn K (.ref (He.ga K x)) "__getattribute__") (some (some (.builtin "BaseException.__getattribute__"))) && (He.eqO (PySem.W.findIn K (.ref (He.ga K x)) "__getattr__") (some none) &&
  (decide (PySem.W.subIn K (.ref (He.ga K x)) (.type "BaseException") = some true) && (PySem.W.hasDictIn K (He.ga K x) && (He.eqO (PySem.W.findIn K (.ref (He.ga K x)) "__class__") (some (some (.builtin "object.__class__"))) &&
  (He.eqO (PySem.W.specialIn K (.builtin "object.__class__") "__get__") (some (some (.builtin "getset_descriptor.__get__"))) && (decide (PySem.W.takesIn K (.builtin "object.__class__") = some true) && decide (PySem.W.mroIn K (He.ga K x) (.type "object") = some true)))))))
theorem eisB_ok {K : PySem.W.Frag} {x : Str} (h : eisB K x = true) : L2.ExcC K (He.ga K x) := by
  obtain ⟨h1, h⟩ := He.ba h
  obtain ⟨h2, h⟩ := He.ba h
  obtain ⟨h3, h⟩ := He.ba h
  obtain ⟨h4, h⟩ := He.ba h
  obtain ⟨h5, h⟩ := He.ba h
  obtain ⟨h6, h⟩ := He.ba h
  obtain ⟨h7, h8⟩ := He.ba h
  exact ⟨He.eqO_ok h1, He.eqO_ok h2, of_decide_eq_true h3, h4, He.eqO_ok h5, He.eqO_ok h6, of_decide_eq_true h7, of_decide_eq_true h8⟩
inductive Fx where
  | eis (x : Str)
  | kit (cs : List Str) (y : Str)
  | kitV (cs : List Str)
  | exm (cs : List Str) (y : Str)
  | tup (x : Str) (vs : List He.Dv)
def Fx.ok (K : PySem.W.Frag) : Fx → Bool
  | .eis x => eisB K x
  | .kit cs y => cs.all fun c => decide (PySem.W.kitOne K (.ref (He.ga K c)) (.ref (He.ga K y)) = some (c == y || y == ("RouteError" : Str)))
  | .kitV cs => cs.all fun c => decide (PySem.W.kitOne K (.ref (He.ga K c)) (.type "ValueError") = some true)
  | .exm cs y => cs.all fun c => decide (PySem.W.exmOne K (.ref (He.ga K c)) (.ref (He.ga K y)) = some (c == y || y == ("RouteError" : Str)))
  | .tup x vs => He.tupB K x vs
abbrev AlR : Type := He.AlT × Bool
def obsR (fa : List He.Fa) (fn : List He.DefD) (ts : List He.Tab) (fx : List Fx) (K : PySem.W.Frag) : AlR := (He.obsT fa fn ts K, fx.all fun f => f.ok K)
def valR (fn : List He.DefD) (ts : List He.Tab) (w : World) : AlR := (He.valT fn ts w, true)
def obsRG (n : Nat) (fa : List He.Fa) (fn : List He.DefD) (ts : List He.Tab) (fx : List Fx) (g : Addr → Option Obj) : AlR := obsR fa fn ts fx (He.frG g (He.asD g n))
def SaysR (fa : List He.Fa) (fn : List He.DefD) (ts : List He.Tab) (fx : List Fx) (w : World) (K : PySem.W.Frag) : Prop := obsR fa fn ts fx K = valR fn ts w
def hookR (n : Nat) (fa : List He.Fa) (fn : List He.DefD) (ts : List He.Tab) (fx : List Fx) : PySem.W.Hook where
  α := AlR
  obs := fun s => obsRG n fa fn ts fx s.heap.get?
  val := fun w => valR fn ts w
  says := fun w h => ∃ K : PySem.W.Frag, K.In h ∧ SaysR fa fn ts fx w K
  of := fun _ _ e => ⟨_, He.frG_in, e⟩
  keeps := fun _ _ _ ⟨K, hK, c⟩ k => ⟨K, PySem.W.Frag.In.keeps hK k, c⟩
theorem obsRG_eq {n : Nat} {fa : List He.Fa} {fn : List He.DefD} {ts : List He.Tab} {fx : List Fx} {g : Addr → Option Obj} {s : Shared} (h : ∀ a, g a = s.heap.get? a) : obsRG n fa fn ts fx g = (hookR n fa fn ts fx).obs s := by
  have e : g = s.heap.get? := funext h
  rw [e] <;> rfl
section
variable {fa : List He.Fa} {fn : List He.DefD} {ts : List He.Tab} {fx : List Fx} {w : World} {K : PySem.W.Frag}
theorem SaysR.d (c : SaysR fa fn ts fx w K) : He.SaysD fa fn K := He.SaysT.d (congrArg (fun z : AlR => z.1) c)
theorem SaysR.x (c : SaysR fa fn ts fx w K) (i : Nat) {f : Fx} (h : fx[i]? = some f := by rfl) : f.ok K = true := by
  have c1 : (fx.all fun f => f.ok K) = true := congrArg (fun z : AlR => z.2) c
  exact List.all_eq_true.mp c1 f (List.mem_of_getElem? h)
end
/-- a class of refusals as it is raised -/
theorem excC_of {K : PySem.W.Frag} {h : Heap} {mg : Str → Option Value} {x : Str} (X : K.In h) (G : h.Ns mainGlobals mg) (g : (He.Fa.glo x).ok K = true) (c : (He.Fa.exc x).ok K = true) : ExcC K mg (He.ga K) x := by
  obtain ⟨c1, c2, c3, c4⟩ := He.exc_ok c
  exact ⟨⟨_, _, _, _, PySem.F.excBase_ValueError, c1⟩, He.glo_ok X G g, c2, fun M h k => ⟨PySem.W.looks_subIn k c3, PySem.W.looks_typeIn k c4⟩⟩
theorem names_of {K : PySem.W.Frag} {X : Cx} {x : Str} (hg : Gl X x) (hm : X.mg x = some (.ref (He.ga K x))) (hd : (x == ("__debug__" : Str)) = false) : Names X x (.ref (He.ga K x)) := ⟨hg, hd, .inl hm⟩
/-- what isinstance tells of refusals -/
structure IsE (K : PySem.W.Frag) (sub : Str → Option Bool) (y : Value) : Prop where
  ok : ∀ c b, sub c = some b → L2.ExcC K (He.ga K c) ∧ PySem.W.kitOne K (.ref (He.ga K c)) y = some b
theorem isE_of {K : PySem.W.Frag} {cs : List Str} {y : Str} (h1 : ∀ c ∈ cs, (Fx.eis c).ok K = true) (h2 : (Fx.kit cs y).ok K = true) : IsE K (subB cs y) (.ref (He.ga K y)) := ⟨fun c b e => by
  unfold subB at e
  split at e
  · rename_i m
    cases e
    exact ⟨eisB_ok (h1 c m), of_decide_eq_true (List.all_eq_true.mp h2 c m)⟩
  · cases e⟩
def subV (cs : List Str) : Str → Option Bool := fun c => if c ∈ cs then some true else none
theorem isV_of {K : PySem.W.Frag} {cs : List Str} (h1 : ∀ c ∈ cs, (Fx.eis c).ok K = true) (h2 : (Fx.kitV cs).ok K = true) : IsE K (subV cs) (.type "ValueError") := ⟨fun c b e => by
  unfold subV at e
  split at e
  · rename_i m
    cases e
    exact ⟨eisB_ok (h1 c m), of_decide_eq_true (List.all_eq_true.mp h2 c m)⟩
  · cases e⟩
theorem exmS_of {K : PySem.W.Frag} {cs : List Str} {y : Str} (h2 : (Fx.exm cs y).ok K = true) : ∀ k b, subB cs y k = some b → PySem.W.exmOne K (.ref (He.ga K k)) (.ref (He.ga K y)) = some b := fun c b e => by
  unfold subB at e
  split at e
  · rename_i m
    cases e
    exact of_decide_eq_true (List.all_eq_true.mp h2 c m)
  · cases e
def isEx (sub : Str → Option Bool) (d : D) : Res D := match d with
  | .exc c => match sub c with
    | some b => .ok (.bl b)
    | none => .stuck
  | _ => .stuck
theorem nx_isEx (sub : Str → Option Bool) : ∀ d c, isEx sub d ≠ .exc c := by
  intro d c h
  unfold isEx at h
  split at h
  · split at h <;> cases h
  · cases h
/-- isinstance(e, c), e a refusal that was kept -/
def rIsK (X : Cx) (sub : Str → Option Bool) (cv : Value) : List V → Hp → VK → Prop := fun xs H Q => ∃ (O : List Addr) (x c : V) (d r : D), xs = [x, c] ∧ (∀ u, RelV c u → u = cv) ∧ RepB (kw X) O H x d ∧ isEx sub d = .ok r ∧ ∀ b, r = .bl b → Q (.bl b) H
theorem call_isK {X : Cx} {sub : Str → Option Bool} {cv : Value} (F : IsE X.K sub cv) : CallR X (.builtin "isinstance") (rIsK X sub cv) := by
  intro pins s σ H xs us Q I r hh
  obtain ⟨O, x, c, d, r0, rfl, hcv, rp, hf, q⟩ := hh
  unfold isEx at hf
  split at hf
  · rename_i k
    split at hf
    · rename_i b hb
      cases hf
      obtain ⟨C, e⟩ := F.ok k b hb
      cases rp with
      | fr rp =>
        cases rp with
        | exc hk =>
          rename_i a
          cases r with
          | cons rx rr =>
            cases rr with
            | cons rt rr =>
              cases rr
              cases rx
              have ec := hcv _ rt
              subst ec
              obtain ⟨⟨oe, vs, he, hz, hd⟩, _⟩ := I.hok a _ (of_cut hk).2
              have J : PySem.W.InstAt s.heap a oe (He.ga X.K k) none := by
                obtain ⟨oc, od, oda, osl⟩ := oe
                obtain ⟨h1, h2⟩ := hz
                dsimp only at h1 h2 hd
                subst h1 h2 hd
                exact ⟨he, rfl, rfl, trivial⟩
              exact PySem.W.kia_one (PySem.W.handS_kitx_exc C.hg C.hk C.hs C.hd C.ha C.hn C.ht C.hm) I.kIn J e (fun z => nomatch z) fun tk => ⟨.bl b, H, I.kept (t' := tk) fun _ _ z => z, rfl, q b rfl⟩
    · cases hf
  · cases hf
def eIsE (sub : Str → Option Bool) (φ : ED) : ED := fun e => do let x ← φ e; isEx sub x
section
variable {X : Cx} {W : WX} {ea : Str → Addr} {O0 : List Addr}
theorem r_isK {e : Expr} {φ : ED} {sub : Str → Option Bool} {x : Str} {cv : Value} {c : V} {p pt pos : Pos} (F : IsE X.K sub cv) (hg : Gl X (Str.ofString "isinstance")) (hm : X.mg (Str.ofString "isinstance") = none) (ha : RB X W ea e φ)
    (hc : PE X (.Name x pt) (tC c)) (hcv : ∀ u, RelV c u → u = cv)
    (h1 : starEach [e, .Name x pt] X.env = (false, eval e X.env) :: starEach [.Name x pt] X.env) (h2 : starEach [.Name x pt] X.env = (false, eval (.Name x pt) X.env) :: starEach [] X.env) (h3 : ((backTo pos (starEach [.Name x pt] X.env)).any fun x => x.fst) = false) :
    RE X W ea (.Call (.Name (Str.ofString "isinstance") p) [e, .Name x pt] [] pos) (eIsE sub φ) := by
  refine PEby (pe_callB (call_isK F) hg hm (by rfl) (pa_cons ha (pa_cons hc pa_nil h2) h1) (by decide) (by decide) h1 h3) fun σ H Q ⟨O, en, rp, q⟩ => ?_
  refine ⟨O, en, rp, (RP_bind.mp q).mono (fun d hd v H1 s1 r1 => ?_) fun c z => z⟩
  cases hr : isEx sub d with
  | stuck => rw [hr] at hd; exact False.elim hd
  | exc c => exact absurd hr (nx_isEx sub d c)
  | ok r =>
    rw [hr] at hd
    refine ⟨O, v, c, d, r, rfl, hcv, r1, hr, fun b eb => ?_⟩
    subst eb
    exact (Post.mono s1 hd).bl
theorem r_isC {e : Expr} {φ : ED} {sub : Str → Option Bool} {y : Str} {p pt pos : Pos} (F : IsE X.K sub (.ref (He.ga X.K y))) (hg : Gl X (Str.ofString "isinstance")) (hm : X.mg (Str.ofString "isinstance") = none) (ha : RB X W ea e φ)
    (gy : Gl X y) (my : X.mg y = some (.ref (He.ga X.K y))) (dy : (y == Str.ofString "__debug__") = false)
    (h1 : starEach [e, .Name y pt] X.env = (false, eval e X.env) :: starEach [.Name y pt] X.env) (h2 : starEach [.Name y pt] X.env = (false, eval (.Name y pt) X.env) :: starEach [] X.env) (h3 : ((backTo pos (starEach [.Name y pt] X.env)).any fun x => x.fst) = false) :
    RE X W ea (.Call (.Name (Str.ofString "isinstance") p) [e, .Name y pt] [] pos) (eIsE sub φ) :=
  r_isK (c := .ref (He.ga X.K y)) F hg hm ha (pe_glob gy my rfl dy) (fun u h => h) h1 h2 h3
theorem r_isV {e : Expr} {φ : ED} {sub : Str → Option Bool} {p pt pos : Pos} (F : IsE X.K sub (.type "ValueError")) (hg : Gl X (Str.ofString "isinstance")) (hm : X.mg (Str.ofString "isinstance") = none) (ha : RB X W ea e φ)
    (gy : Gl X (Str.ofString "ValueError")) (my : X.mg (Str.ofString "ValueError") = none)
    (h1 : starEach [e, .Name (Str.ofString "ValueError") pt] X.env = (false, eval e X.env) :: starEach [.Name (Str.ofString "ValueError") pt] X.env) (h2 : starEach [.Name (Str.ofString "ValueError") pt] X.env = (false, eval (.Name (Str.ofString "ValueError") pt) X.env) :: starEach [] X.env) (h3 : ((backTo pos (starEach [.Name (Str.ofString "ValueError") pt] X.env)).any fun x => x.fst) = false) :
    RE X W ea (.Call (.Name (Str.ofString "isinstance") p) [e, .Name (Str.ofString "ValueError") pt] [] pos) (eIsE sub φ) :=
  r_isK (c := .ty "ValueError") F hg hm ha (pe_tyN gy my (by rfl) (by decide) (by decide)) (fun u h => h) h1 h2 h3
/-! ### try: .. except X as n: y = n -/
theorem Rq.wipe1 {K : KW} {O0 O : List Addr} {e : En} {σ : St} {H : Hp} (i : Nat) (r : Rq K O0 O e σ H) : Rq K O0 O (e.set i .un) (σ.set i none) H := by
  refine ⟨r.rp.wipe1 i, r.sub, fun j t a ht ot vt => ?_⟩
  rcases set_get ht with ⟨rfl, rfl⟩ | ⟨hne, ht⟩
  · cases ot
  · rw [List.getElem?_set_ne (Ne.symm hne)] at vt
    exact r.fr j t a ht ot vt
def sTryK (sub : SubT) (i j : Nat) (b : SD) : SD := fun e => match b e with
  | some (.xc c e1) => match sub c with
    | some true => if i < e1.length ∧ j < e1.length then some (.nx (((e1.set i (.sh (.exc c))).set j (.sh (.exc c))).set i .un)) else none
    | some false => some (.xc c e1)
    | none => none
  | r => r
theorem rs_tryK {x n y : Str} {body : List Stmt} {np p1 p2 p3 pos pos' : Pos} {i j : Nat} {sub : SubT} {φ : SD} (hea : ea = He.ga X.K) (hs : ∀ k b, sub k = some b → PySem.W.exmOne X.K (.ref (He.ga X.K k)) (.ref (He.ga X.K x)) = some b)
    (h0 : X.ex = []) (h1 : X.stack = X.env :: X.outer) (h2 : X.env.frame = some X.env.locals) (hN : X.N.Nodup) (hi : X.N[i]? = some n) (hln : X.env.kindOf n = some .local) (hj : X.N[j]? = some y) (hly : L2.Loc X.env.scope y) (hfy : X.fn y = true ∨ List.lookup y X.env.scope.names = some NameKind.local)
    (hvn : Vis X.env.scope n) (d1 : (n == Str.ofString "__debug__") = false) (d2 : (n == Str.ofString "__classdict__") = false) (hij : i ≠ j) (gx : Gl X x) (mx : X.mg x = some (.ref (He.ga X.K x))) (dx : (x == ("__debug__" : Str)) = false) (tk : Takes X W)
    (hsw : swapsWith (.Name n p2) (some (.Name y p1)) p3.line X.env = pure false)
    (hb : ∀ (W' : WX) (pn : List (Addr × Obj)) (xe : Value → Shared → Prop), Takes (X.tr pn xe) W' → PassesOwn (model X.prog X.w) X.A X.env xe → RSs (X.tr pn xe) W' ea O0 body φ) :
    RS X W ea O0 (.Try body [.ExceptHandler (some (.Name x np)) (some n) [.Assign [.Name y p1] (.Name n p2) p3] pos'] [] [] pos) (sTryK sub i j φ) := by
  subst hea
  refine PSby (ps_try_keep (tb := fun W' => tS X W' (He.ga X.K) O0 φ) h0 h1 h2 hN hi hln hj hly hfy hvn d1 d2 hij (names_of gx mx dx) tk hsw (fun W' pn xe t p => hb W' pn xe t p)) fun D σ H ⟨O, e, fl, rq, hf, q⟩ => ?_
  unfold sTryK at hf
  cases hbd : φ e with
  | none => rw [hbd] at hf; cases hf
  | some f1 =>
    rw [hbd] at hf
    refine ⟨O, e, f1, rq, hbd, ?_⟩
    cases f1 with
    | nx e1 => cases hf; exact q
    | rt e1 => cases hf; exact q
    | bk e1 => cases hf; exact q
    | ct e1 => cases hf; exact q
    | xc k e1 =>
      simp only at hf
      intro σ' H' O' rq' x'
      cases hk : sub k with
      | none => rw [hk] at hf; cases hf
      | some b =>
        rw [hk] at hf
        refine ⟨b, hs k b hk, fun hb1 => ⟨rfl, k, rfl, fun a na => ?_⟩, fun hb1 => ?_⟩
        · subst hb1
          simp only at hf
          by_cases hl : i < e1.length ∧ j < e1.length
          · rw [if_pos hl] at hf
            cases hf
            have sm := same_new (u := ExK X.K k a) na
            have rr := rq'.mono sm
            have rk : Rep (kw X) (cut (upd H' a (ExK X.K k a)) O') (.ref a) (.exc k) := .exc (by rw [cut_of (rq'.rp.dom.fresh na)]; exact upd_same)
            have r1 := rr.set (v := .ref a) (s := .sh (.exc k)) hl.1 ⟨_, rfl, rk⟩ rfl
            have r2 := r1.set (v := .ref a) (s := .sh (.exc k)) (i := j) (by rw [List.length_set]; exact hl.2) ⟨_, rfl, rk⟩ rfl
            exact q _ _ O' (r2.wipe1 i) (x'.trans (rq'.ex sm))
          · rw [if_neg hl] at hf; cases hf
        · subst hb1
          cases hf
          exact q σ' H' O' rq' x'
end
end L2.RB
namespace L2.RB
open PySem PySem.Spec PyProof.Rows
/-! ### methods of values, as expressions -/
def rDm (X : Cx) (f : D → List D → Res D) : V → List V → Hp → VK → Prop := fun x xs H Q => ∃ (O : List Addr) (d : D) (ds : List D) (r : D), Own O H ∧ RepB (kw X) O H x d ∧ RepBs (kw X) O H xs ds ∧ f d ds = .ok r ∧ Post (kw X) O H Q r
def tyD (T : String) (d : D) : Bool := match d with
  | .str _ => T == "str"
  | .lst _ => T == "list"
  | .dct _ => T == "dict"
  | .dcu _ => T == "dict"
  | _ => false
theorem tyV_of {K : KW} {O : List Addr} {H : Hp} {x : V} {d : D} {T : String} (r : RepB K O H x d) (h : tyD T d = true) : tyV K.K T x H := by
  unfold tyD at h
  split at h
  · rw [r.str_inv]; exact eq_of_beq h
  · obtain ⟨a, vs, rfl, s, _⟩ := r.lst_inv
    exact .inl ⟨eq_of_beq h, vs, .of s⟩
  · obtain ⟨a, vs, rfl, s, _⟩ := r.dct_inv
    exact .inr (.inr (.inl ⟨eq_of_beq h, .inl ⟨vs, s⟩⟩))
  · cases r with
    | fr r => cases r with
      | dT h1 _ => exact .inr (.inr (.inl ⟨eq_of_beq h, .inr ⟨_, (of_cut h1).2⟩⟩))
  · cases h
def eMet (T : String) (f : D → List D → Res D) (φ : ED) (ψ : AD) : ED := fun e => do let x ← φ e; if tyD T x then (do let xs ← ψ e; f x xs) else .stuck
abbrev NxM (f : D → List D → Res D) : Prop := ∀ d ds c, f d ds ≠ .exc c
section
variable {X : Cx} {W : WX} {ea : Str → Addr} {O0 : List Addr}
theorem met_core {T : String} {f : D → List D → Res D} {φ : ED} {ψ : AD} {σ : St} {H : Hp} {Q : VK} (nx : NxM f) (h : tE X W ea (eMet T f φ ψ) σ H Q) :
    tEB X W ea φ σ H fun x H1 => tyV X.K T x H1 ∧ tAB X W ea ψ σ H1 fun xs H2 => rDm X f x xs H2 Q := by
  obtain ⟨O, en, rp, q⟩ := h
  refine ⟨O, en, rp, (RP_bind.mp q).mono (fun d hd x H1 s1 r1 => ?_) fun c z => z⟩
  by_cases ht : tyD T d = true
  · rw [if_pos ht] at hd
    refine ⟨tyV_of r1 ht, O, en, rp.mono s1, (RP_bind.mp hd).mono (fun ds hds xs H2 s2 r2 => ?_) fun c z => z.mono s1⟩
    cases hf : f d ds with
    | ok r => rw [hf] at hds; exact ⟨O, d, ds, r, ((rp.mono s1).mono s2).dom, r1.mono s2, r2, hf, Post.mono (s1.trans s2) hds⟩
    | exc c => exact absurd hf (nx d ds c)
    | stuck => rw [hf] at hds; exact False.elim hds
  · rw [if_neg ht] at hd; exact False.elim hd
theorem r_met {T id : String} {f : D → List D → Res D} {φ : ED} {ψ : AD} {o e : Expr} {es : List Expr} {name : Str} {apos cpos : Pos} (nx : NxM f) (pa : PlainAttrs T) (slot : Slot T name id) (hty : typeOf (.builtin id) = pure (.type "method_descriptor")) (hm : MtR X id (rDm X f)) (ho : RB X W ea o φ) (ha : RAB X W ea (e :: es) ψ)
    (hbase : attributeBase o name X.env (eval o X.env) = eval o X.env)
    (hfew : ((backTo cpos (starEach (e :: es) X.env)).all (fun x => !x.1) && (backToKw cpos (keywordEach [] X.env)).all (fun x => x.1.isSome)
      && decide ((e :: es).length + ([] : List Keyword).length + (if ([] : List Keyword).isEmpty then 0 else 1) < 30)) = true)
    (hline : (apos.endLine == cpos.line) = true) (hs : starEach (e :: es) X.env = (false, eval e X.env) :: starEach es X.env) (hplain : (backTo cpos (starEach es X.env)).any (·.1) = false) :
    RE X W ea (.Call (.Attribute o name apos) (e :: es) [] cpos) (eMet T f φ ψ) :=
  PEby (pe_bm pa slot hty hm ho ha hbase hfew hline hs hplain) fun σ H Q h => met_core nx h
theorem r_met0 {T id : String} {f : D → List D → Res D} {φ : ED} {o : Expr} {name : Str} {apos cpos : Pos} (nx : NxM f) (pa : PlainAttrs T) (slot : Slot T name id) (hty : typeOf (.builtin id) = pure (.type "method_descriptor")) (hm : MtR X id (rDm X f)) (ho : RB X W ea o φ)
    (hbase : attributeBase o name X.env (eval o X.env) = eval o X.env) (hline : (apos.endLine == cpos.line) = true) :
    RE X W ea (.Call (.Attribute o name apos) [] [] cpos) (eMet T f φ aNil) := by
  refine PEby (pe_bm0 pa slot hty hm ho hbase hline) fun σ H Q ⟨O, en, rp, q⟩ => ?_
  refine ⟨O, en, rp, (RP_bind.mp q).mono (fun d hd x H1 s1 r1 => ?_) fun c z => z⟩
  by_cases ht : tyD T d = true
  · rw [if_pos ht] at hd
    refine ⟨tyV_of r1 ht, ?_⟩
    have hd : RP (f d []) (Post (kw X) O H Q) (exK W ea σ H) := hd
    cases hf : f d [] with
    | ok r => rw [hf] at hd; exact ⟨O, d, [], r, (rp.mono s1).dom, r1, .nil, hf, Post.mono s1 hd⟩
    | exc c => exact absurd hf (nx d [] c)
    | stuck => rw [hf] at hd; exact False.elim hd
  · rw [if_neg ht] at hd; exact False.elim hd
/-! ### list.count, list.index -/
def cntD (d : D) (ds : List D) : Res D := match d, ds with
  | .lst xs, [e] => if e.pl 60 && D.pls xs 60 then .ok (.int ((xs.countP fun z => D.eqv z e : Nat) : Int)) else .stuck
  | _, _ => .stuck
theorem nx_cnt : NxM cntD := by
  intro d ds c; unfold cntD; repeat' split
  all_goals exact fun z => nomatch z
theorem cnt_eqW {pins : List (Addr × Obj)} {σ : L2.St} {H : Hp} {s : Shared} (I : Inv X pins σ H s) {d : D} : ∀ {ds : List D} {vs : List V} {us : List Value}, Reps (kw X) H vs ds → Vals vs us → D.pls ds 60 = true → us.countP (eqW X H d) = ds.countP fun z => D.eqv z d
  | [], _, _, h, r, _ => by cases h; cases r; rfl
  | z :: ds, _, _, h, r, p => by
    cases h with
    | cons h1 h2 =>
      cases r with
      | cons r1 r2 =>
        unfold D.pls at p
        obtain ⟨p1, p2⟩ := Bool.and_eq_true_iff.mp p
        rw [List.countP_cons, List.countP_cons, eqW_at I r1 h1 p1, cnt_eqW I h2 r2 p2]
theorem mt_cnt (hu : X.A.units + 64 < cLine) : MtR X "list.count" (rDm X cntD) := by
  intro pins s σ H x xs v us Q I rx rxs ⟨O, d, ds, r, ow, h1, h2, hf, q⟩
  unfold cntD at hf
  split at hf
  · split at hf
    · rename_i ys e hc
      cases hf
      obtain ⟨g1, g2⟩ := Bool.and_eq_true_iff.mp hc
      obtain ⟨a, vs, rfl, s2, r2⟩ := h1.lst_inv
      obtain ⟨y, rfl, ry⟩ := h2.one
      obtain ⟨u, rfl, ru⟩ := one_val rxs
      cases rx
      have r2' := r2.mono (cut_le H O)
      obtain ⟨its, rv, ⟨⟨cls, dd, data, sl⟩, n, ho, hc, hdn, hdt⟩, hlen⟩ := I.list (.of s2)
      simp only at hc hdt
      subst hc hdt
      refine call_meets PySem.F.slot_list_count ⟨_, ho, rfl⟩ PySem.F.entry_list_count (PySem.F.args_list_count_2 _ _)
        (SeqAt.list_countAt a its.toArray n dd sl u (eqW X H e)) ⟨ho, fun w hw => mem_eqW I hu ry.weak ru g1 r2' rv g2 w (by simpa using hw), ?_⟩
      have ec : its.toArray.toList.countP (eqW X H e) = ys.countP fun z => D.eqv z e := cnt_eqW I r2' rv g2
      refine ⟨.int ((ys.countP fun z => D.eqv z e : Nat) : Int), H, I.tok _, ⟨s.toks, ?_⟩, q.int⟩
      rw [ec]
    · cases hf
  · cases hf
def idxOf (e : D) : List D → Option Nat
  | [] => none
  | z :: r => if D.eqv z e then some 0 else (idxOf e r).map (· + 1)
theorem idxOf_some {e : D} : ∀ {xs : List D} {j : Nat}, idxOf e xs = some j → ∃ z, xs[j]? = some z ∧ D.eqv z e = true ∧ ∀ m z', m < j → xs[m]? = some z' → D.eqv z' e = false
  | [], j, h => by cases h
  | z :: r, j, h => by
    unfold idxOf at h
    by_cases hz : D.eqv z e = true
    · rw [if_pos hz] at h; cases h
      exact ⟨z, rfl, hz, fun m _ hm => absurd hm (Nat.not_lt_zero _)⟩
    · rw [if_neg hz] at h
      cases hr : idxOf e r with
      | none => rw [hr] at h; cases h
      | some k =>
        rw [hr] at h; cases h
        obtain ⟨z2, h1, h2, h3⟩ := idxOf_some hr
        refine ⟨z2, by simpa using h1, h2, fun m z' hm hz' => ?_⟩
        cases m with
        | zero => simp at hz'; subst hz'; simpa using hz
        | succ m => exact h3 m z' (by simpa using hm) (by simpa using hz')
def lixD (d : D) (ds : List D) : Res D := match d, ds with
  | .lst xs, [e] => if e.pl 60 && D.pls xs 60 then optD (fun (j : Nat) => D.int (j : Int)) (idxOf e xs) else .stuck
  | _, _ => .stuck
theorem nx_lix : NxM lixD := by
  intro d ds c; unfold lixD optD; repeat' split
  all_goals exact fun z => nomatch z
theorem mt_lix (hu : X.A.units + 64 < cLine) : MtR X "list.index" (rDm X lixD) := by
  intro pins s σ H x xs v us Q I rx rxs ⟨O, d, ds, r, ow, h1, h2, hf, q⟩
  unfold lixD at hf
  split at hf
  · split at hf
    · rename_i ys e hc
      obtain ⟨j, hj, rfl⟩ := optD_ok hf
      obtain ⟨g1, g2⟩ := Bool.and_eq_true_iff.mp hc
      obtain ⟨a, vs, rfl, s2, r2⟩ := h1.lst_inv
      obtain ⟨y, rfl, ry⟩ := h2.one
      obtain ⟨u, rfl, ru⟩ := one_val rxs
      cases rx
      have r2' := r2.mono (cut_le H O)
      obtain ⟨its, rv, ⟨⟨cls, dd, data, sl⟩, n, ho, hc, hdn, hdt⟩, hlen⟩ := I.list (.of s2)
      simp only at hc hdt
      subst hc hdt
      have hsl := sizeLine_eq
      have lv := rv.length
      have lr := r2.length
      obtain ⟨z, hz, ez, hno⟩ := idxOf_some hj
      have at_ : ∀ (m : Nat) (hm : m < its.toArray.size) z', ys[m]? = some z' → eqW X H e its.toArray[m] = D.eqv z' e := fun m hm z' hz' => by
        obtain ⟨x1, f1, q1⟩ := r2'.get hz'
        obtain ⟨u1, k1, w1⟩ := rv.get f1
        have i1 : its.toArray[m] = u1 := by
          have hm' : m < its.length := by simpa using hm
          rw [List.getElem?_eq_getElem hm'] at k1
          simpa using k1
        rw [i1]
        exact eqW_at I w1 q1 (D.pls_at g2 hz')
      have jl : j < ys.length := (List.getElem?_eq_some_iff.mp hz).1
      have jl2 : j < its.toArray.size := by rw [List.size_toArray]; omega
      refine call_meets PySem.F.slot_list_index ⟨_, ho, rfl⟩ PySem.F.entry_list_index (PySem.F.args_list_index_2 _ _)
        (SeqAt.list_indexAt a its.toArray n dd sl u (eqW X H e) j jl2 (by omega) ?_ ?_) ⟨ho, fun w hw => mem_eqW I hu ry.weak ru g1 r2' rv g2 w (by simpa using hw), ?_⟩
      · rw [at_ j jl2 z hz]; exact ez
      · intro m hm hmj
        have hm' : m < ys.length := by omega
        rw [at_ m hm _ (List.getElem?_eq_getElem hm')]
        exact hno m _ hmj (List.getElem?_eq_getElem hm')
      · exact ⟨.int (j : Int), H, I.tok _, ⟨_, rfl⟩, q.int⟩
    · cases hf
  · cases hf
theorem m_cnt {k : Nat} {φ : ED} {ψ : AD} {o e : Expr} {es : List Expr} {apos cpos : Pos} (hr : Room k X.A) (ho : RB X W ea o φ) (ha : RAB X W ea (e :: es) ψ)
    (hbase : attributeBase o "count" X.env (eval o X.env) = eval o X.env)
    (hfew : ((backTo cpos (starEach (e :: es) X.env)).all (fun x => !x.1) && (backToKw cpos (keywordEach [] X.env)).all (fun x => x.1.isSome)
      && decide ((e :: es).length + ([] : List Keyword).length + (if ([] : List Keyword).isEmpty then 0 else 1) < 30)) = true)
    (hline : (apos.endLine == cpos.line) = true) (hs : starEach (e :: es) X.env = (false, eval e X.env) :: starEach es X.env) (hplain : (backTo cpos (starEach es X.env)).any (·.1) = false) :
    RE X W ea (.Call (.Attribute o "count" apos) (e :: es) [] cpos) (eMet "list" cntD φ ψ) :=
  r_met nx_cnt PySem.F.plainAttrs_list PySem.F.slot_list_count PySem.F.type_list_count (mt_cnt (hu_of hr)) ho ha hbase hfew hline hs hplain
theorem m_lix {k : Nat} {φ : ED} {ψ : AD} {o e : Expr} {es : List Expr} {apos cpos : Pos} (hr : Room k X.A) (ho : RB X W ea o φ) (ha : RAB X W ea (e :: es) ψ)
    (hbase : attributeBase o "index" X.env (eval o X.env) = eval o X.env)
    (hfew : ((backTo cpos (starEach (e :: es) X.env)).all (fun x => !x.1) && (backToKw cpos (keywordEach [] X.env)).all (fun x => x.1.isSome)
      && decide ((e :: es).length + ([] : List Keyword).length + (if ([] : List Keyword).isEmpty then 0 else 1) < 30)) = true)
    (hline : (apos.endLine == cpos.line) = true) (hs : starEach (e :: es) X.env = (false, eval e X.env) :: starEach es X.env) (hplain : (backTo cpos (starEach es X.env)).any (·.1) = false) :
    RE X W ea (.Call (.Attribute o "index" apos) (e :: es) [] cpos) (eMet "list" lixD φ ψ) :=
  r_met nx_lix PySem.F.plainAttrs_list PySem.F.slot_list_index PySem.F.type_list_index (mt_lix (hu_of hr)) ho ha hbase hfew hline hs hplain
theorem Rq.setSh {K : KW} {O0 O : List Addr} {e : En} {σ : St} {H : Hp} {v : V} {d : D} {i : Nat} (r : Rq K O0 O e σ H) (hi : i < e.length) (q : Rep K (cut H O) v d) : Rq K O0 O (e.set i (.sh d)) (σ.set i (some v)) H := r.set hi ⟨v, rfl, q⟩ rfl
/-! ### a, b = x, y -/
def sPar (i j : Nat) (φ : AD) : SD := fun e => lft (φ e) e fun ds => match ds with
  | [x, y] => if i < e.length ∧ j < e.length then some (.nx ((e.set i (.sh x)).set j (.sh y))) else none
  | _ => none
def sPar3 (i j l : Nat) (φ : AD) : SD := fun e => lft (φ e) e fun ds => match ds with
  | [x, y, z] => if i < e.length ∧ j < e.length ∧ l < e.length then some (.nx (((e.set i (.sh x)).set j (.sh y)).set l (.sh z))) else none
  | _ => none
theorem rs_par {i j : Nat} {x y : Str} {a b : Expr} {φ : AD} {px py pt pos : Pos} {kt k2 pt2} (hc : X.calm = true) (hN : X.N.Nodup) (hi : X.N[i]? = some x) (hj : X.N[j]? = some y) (hij : i ≠ j)
    (hx : X.env.scope.names.lookup x = some .local) (hy : X.env.scope.names.lookup y = some .local) (ha : RA X W ea [a, b] φ)
    (hw : swappedStores [.Tuple [.Name x px, .Name y py] kt pt] (.Tuple [a, b] k2 pt2) X.env = pure (some [x, y]))
    (hs : swapsWithSole [.Tuple [.Name x px, .Name y py] kt pt] (.Tuple [a, b] k2 pt2) pos.line X.env = pure false) :
    RS X W ea O0 (.Assign [.Tuple [.Name x px, .Name y py] kt pt] (.Tuple [a, b] k2 pt2) pos) (sPar i j φ) := PSby (ps_par hc hN hi hj hij hx hy ha hw hs) fun D σ H ⟨O, e, fl, rq, hf, q⟩ => by
  refine ⟨O, e, rq.rp, ?_⟩
  rcases lft_some hf with ⟨ds, hd, hk⟩ | ⟨c, hc, rfl⟩
  · rw [hd]
    intro vs H' s r
    split at hk
    · obtain ⟨v, w, rfl, r1, r2⟩ := r.two
      split at hk
      · rename_i hl
        cases hk
        have rr := ((rq.mono s).setSh hl.1 r1).setSh (i := j) (by rw [List.length_set]; exact hl.2) r2
        exact ⟨v, w, rfl, q _ H' O rr (rq.ex s)⟩
      · cases hk
    · cases hk
  · rw [hc]; exact q.exk rq
theorem Reps.three {K : KW} {G : Hp} {xs : List V} {d e f : D} (h : Reps K G xs [d, e, f]) : ∃ x y z, xs = [x, y, z] ∧ Rep K G x d ∧ Rep K G y e ∧ Rep K G z f := by
  cases h with
  | cons h1 t => obtain ⟨y, z, rfl, r1, r2⟩ := t.two; exact ⟨_, _, _, rfl, h1, r1, r2⟩
theorem rs_par3 {i j l : Nat} {x y z : Str} {a b c : Expr} {φ : AD} {px py pz pt pos : Pos} {kt k2 pt2} (hc : X.calm = true) (hN : X.N.Nodup) (hi : X.N[i]? = some x) (hj : X.N[j]? = some y) (hl : X.N[l]? = some z) (hij : i ≠ j) (hil : i ≠ l) (hjl : j ≠ l)
    (hx : X.env.scope.names.lookup x = some .local) (hy : X.env.scope.names.lookup y = some .local) (hz : X.env.scope.names.lookup z = some .local) (ha : RA X W ea [a, b, c] φ)
    (hw : swappedStores [.Tuple [.Name x px, .Name y py, .Name z pz] kt pt] (.Tuple [a, b, c] k2 pt2) X.env = pure (some [x, y, z]))
    (hs : swapsWithSole [.Tuple [.Name x px, .Name y py, .Name z pz] kt pt] (.Tuple [a, b, c] k2 pt2) pos.line X.env = pure false) :
    RS X W ea O0 (.Assign [.Tuple [.Name x px, .Name y py, .Name z pz] kt pt] (.Tuple [a, b, c] k2 pt2) pos) (sPar3 i j l φ) := PSby (ps_par3 hc hN hi hj hl hij hil hjl hx hy hz ha hw hs) fun D σ H ⟨O, e, fl, rq, hf, q⟩ => by
  refine ⟨O, e, rq.rp, ?_⟩
  rcases lft_some hf with ⟨ds, hd, hk⟩ | ⟨c, hc, rfl⟩
  · rw [hd]
    intro vs H' s r
    split at hk
    · obtain ⟨v, w, u, rfl, r1, r2, r3⟩ := r.three
      split at hk
      · rename_i hl
        cases hk
        have rr := (((rq.mono s).setSh hl.1 r1).setSh (i := j) (by rw [List.length_set]; exact hl.2.1) r2).setSh (i := l) (by rw [List.length_set, List.length_set]; exact hl.2.2) r3
        exact ⟨v, w, u, rfl, q _ H' O rr (rq.ex s)⟩
      · cases hk
    · cases hk
  · rw [hc]; exact q.exk rq
end
end L2.RB
namespace L2.RB
open PySem PySem.Spec PyProof.Rows
/-! ### a list comprehension whose element may raise -/
section
variable {M : Model} {A : Around} {E₁ : Value → Shared → Prop} {s : Shared} {env : Env} {outer : List Env} {L L' a : Addr} {B : Heap} {Z : Obj → Prop} {Q : Unit → Shared → Prop}
/-- noted by the frame at L, whoever has noted it ahead -/
theorem traced_note {fl : Value} (hZ : HandSPX.Steady Z) (hfr : A.frames = some (env :: outer)) (hf : env.frame = some L) (hkb : B.StaysIn s.heap) (hen : B.get? a = none) (hl : s.heap.FunFrames B (env :: outer)) (ht : HandSPX.TracedZ s.heap B a Z fl) (hne : fl ≠ rawInt L)
    (hQ : ∀ h', HandSPX.HeldZ B (env :: outer) a Z L h' → s.heap.UpToSlots h' → Q () { s with heap := h' }) : wpAny M A (noteFrame (.ref a) env) Q E₁ s := by
  obtain ⟨oe, vs, T, oT, ts, he, hz, hd, h1, hnT, hTe, hT, hdT, h3⟩ := ht
  unfold noteFrame
  simp only [hf]
  refine wpAny_bind (wpAny_field he hd h1 ?_)
  rw [if_pos (show (Value.ref T != Value.none) = true from by simp)]
  refine wpAny_bind (wpAny_field hT hdT h3 ?_)
  rw [if_neg (fun q => hne (eq_of_beq q))]
  refine wpAny_bind (wpAny_setField hT hdT (Array.getElem?_eq_some_iff.mp h3).1 ?_)
  have other : ∀ b, b ≠ T → (s.heap.update T (Obj.mapFields (·.setIfInBounds 3 Value.none))).get? b = s.heap.get? b := fun b hb => Heap.get?_update_other _ _ (Ne.symm hb)
  have rec_ : ∀ b o, s.heap.get? b = some o → (∀ vs, o.data ≠ .fields vs) → b ≠ T := fun b o hb hnf q => by
    rw [q, hT] at hb
    injection hb with hb
    subst hb
    exact hnf ts hdT
  refine HandSPX.wpAny_entryZ hZ hfr (hl.of_keeps fun b o hb hnf => ⟨o, (other b (rec_ b o hb hnf)).trans hb, rfl⟩) hf ((other a (Ne.symm hTe)).trans he)
    (fun b o hbo => (other b fun q => by rw [q, hnT] at hbo; cases hbo).trans (hkb b o hbo)) hen hd (Array.getElem?_eq_some_iff.mp h1).1 hz fun h' hN => ?_
  obtain ⟨x1, x2, x3, x4⟩ := hN
  exact hQ h' ⟨x1, hen, x2, x3⟩ fun b o hb hnf => x4 b o ((other b (rec_ b o hb hnf)).trans hb) hnf
theorem sky_note (hZ : HandSPX.Steady Z) (hfr : A.frames = some (env :: outer)) (hf : env.frame = some L) (hne : L' ≠ L) (x : Sky B (env :: outer) a Z L' s.heap)
    (hQ : ∀ h', HandSPX.HeldZ B (env :: outer) a Z L h' → s.heap.UpToSlots h' → Q () { s with heap := h' }) : wpAny M A (noteFrame (.ref a) env) Q E₁ s := by
  rcases x with ⟨hB, hn, hl, oe, vs, he, hz, hd, h1⟩ | fl | ⟨f1, f2, f3, f4⟩
  · exact HandSPX.look_newZ hZ hfr hl hf he hB hn hd h1 hz hQ
  · exact HandSPX.looks_onZ hZ hfr hf fl hQ
  · refine traced_note hZ hfr hf f1 f2 f3 f4 (fun q => hne ?_) hQ
    have q' : (Value.int (L' : Int) 0 : Value) = .int (L : Int) 0 := q
    injection q' with q' _
    exact Int.ofNat.inj q'
end
section
variable {X : Cx} {pins : List (Addr × Obj)} {σ : L2.St} {H : Hp}
/-- what the block lets out is in the def's air -/
theorem blk_takes {Wout : WX} {s3 : Shared} {H3 : Hp} {scope : Scope} {cl : List (Str × Addr)} {fp : List Addr} {pn : List (Addr × Obj)} {use : Option (Value → Sem Unit)} {Qf : Value → Shared → Prop} {D : Value} {ce : Env}
    (hs : X.stack = X.env :: X.outer) (hf : X.env.frame = some X.env.locals) (tk : Takes X Wout) (I3 : Inv X pins σ H3 s3) (hce : ce = compEnvC scope cl s3.heap.objs.size X.env)
    (f3 : ∀ b ∈ fp, FpOk X pins H3 b ∧ b < s3.heap.objs.size) :
    Takes ((X.blk s3 H3 scope ce fp).tr pn (notedBy (model X.prog X.w) X.A ce fun e s' => compEnds (model X.prog X.w) X.A X.xe use Qf D ce (.error e) s')) (fun cls d _ H' => Wout cls d σ H') := by
  intro u s' x
  obtain ⟨a, B, sI, pins', σb, Hb, cls, d, rfl, Ib, nb, up, sky, na, os, ag, w⟩ := x
  have ok := I3.ok
  have hfr : X.A.frames = some (X.env :: X.outer) := by rw [ok.frames, hs]
  have hcf : ce.frame = X.env.frame := by subst hce; rfl
  have hcL : ce.locals = s3.heap.objs.size := by subst hce; rfl
  generalize hC : s3.heap.objs.size = C at *
  have cL : C ≠ X.env.locals := fun z => by
    have := I3.lt
    rw [← z, ← hC] at this
    exact absurd this (Nat.lt_irrefl _)
  have cF : C ∉ frs X.stack := fun m => by
    rcases List.mem_cons.mp (I3.stkSub C m) with z | z
    · exact cL z
    · exact I3.nofs (Nat.le_of_eq hC) z
  obtain ⟨mC, hnC, _⟩ := Ib.loc
  have hnC : sI.heap.Ns C mC := by rw [← hcL]; exact hnC
  have hCI : ∃ o, sI.heap.get? C = some o := by
    obtain ⟨o, _, _, e, _⟩ := hnC
    exact ⟨o, e⟩
  obtain ⟨oC, eC⟩ := hCI
  have bC : B.get? C = some oC := nb C oC eC cF
  have HC : Hb C = none := by
    have z : Hb ce.locals = none := Ib.free
    rw [hcL] at z; exact z
  have sky' : Sky B (X.env :: X.outer) a (Zc cls d) C s'.heap := by
    have z : Sky B X.stack a (Zc cls d) ce.locals s'.heap := sky
    rw [hs, hcL] at z; exact z
  show wpAny (model X.prog X.w) X.A (noteFrame (.ref a) ce) _ _ s'
  rw [noteFrame_env _ hcf]
  refine sky_note Zc.steady hfr hf cL sky' fun h1 held up1 => ?_
  have fails : CompFails (model X.prog X.w) X.A X.xe ce (.ref a) { s' with heap := h1 } := by
    obtain ⟨k1, k2, k3, oe, vs, T, oT, ts, he, hz, hd, hv, hnT, hTa, hT, hdT, h3⟩ := held
    have aC : a ≠ C := fun z => by subst z; rw [k2] at bC; cases bC
    have tC : T ≠ C := fun z => by subst z; rw [hnT] at bC; cases bC
    refine ⟨mC, by rw [hcL]; exact (up.trans up1).ns hnC, fun h2 m2 hn2 hs2 => ?_⟩
    rw [hcL] at hn2 hs2
    have keep : ∀ b, b ≠ C → h2.get? b = h1.get? b := fun b hb => hs2.2 b hb
    let B' := PySem.W.hideAll B [C]
    have stB : B'.StaysIn h2 := fun b o e => by
      have e1 := PySem.W.of_hideAll [C] e
      have hb : b ≠ C := fun z => by
        have := PySem.W.hideAll_none [C] (h := B) (b := b) (by rw [z]; exact List.mem_singleton_self _)
        rw [this] at e; cases e
      rw [keep b hb]
      exact k1 b o e1
    have ff2 : h2.FunFrames B (X.env :: X.outer) := Heap.FunFrames.sameBut hs2 hn2 k3
    have hid : ∀ b, B.get? b = none → B'.get? b = none := fun b e => by
      cases q : B'.get? b with
      | none => rfl
      | some o =>
        have := PySem.W.of_hideAll [C] q
        rw [e] at this; cases this
    have ff' : h2.FunFrames B' (X.env :: X.outer) := funFrames_none ff2 fun b m => hid b (ff2.mem m).1
    have held2 : HandSPX.HeldZ B' (X.env :: X.outer) a (Zc cls d) X.env.locals h2 := ⟨stB, hid a k2, ff', oe, vs, T, oT, ts, (keep a aC).trans he, hz, hd, hv, hid T hnT, hTa, (keep T tC).trans hT, hdT, h3⟩
    unfold PySem.passOn
    refine wpAny_bind (wpAny_field ((keep a aC).trans he) hd hv ?_)
    rw [if_neg (show ¬ ((Value.ref T == Value.none) = true) from by simp)]
    have fin : wpAny (model X.prog X.w) X.A (setFlight (.ref a) ce.frame) (fun _ s4 => wpAny (model X.prog X.w) X.A (throw (.ref a) : Sem Value) (fun _ _ => False) X.xe s4) X.xe { s' with heap := h2 } := by
      rw [hcf, hf]
      refine HandSPX.setFlight_onZ held2 fun h4 hh4 up4 => wpAny_throw (tk _ _ ?_)
      obtain ⟨G, g1, g2⟩ := restrict sI.heap fun b => !decide (b = C)
      have gn : ∀ b, b ≠ C → G.get? b = sI.heap.get? b := fun b hb => g1 b (by simp [hb])
      have gC : G.get? C = none := g2 C (by simp)
      have gne : ∀ b o, G.get? b = some o → b ≠ C := fun b o e z => by rw [z, gC] at e; cases e
      have old : ∀ b o, s3.heap.get? b = some o → b ≠ C := fun b o e z => by
        have := Heap.lt_size e
        rw [z, ← hC] at this
        exact absurd this (Nat.lt_irrefl _)
      have bs : Un (frs X.stack) fp H3 Hb s3.heap sI.heap := Ib.base
      have un : Un (frs X.stack) fp H3 Hb s3.heap G := ⟨fun b o e n h5 h6 => (gn b (old b o e)).trans (bs.keep b o e n h5 h6), fun b o e n h5 h6 => by
        obtain ⟨sl, z⟩ := bs.slot b o e n h5 h6
        exact ⟨sl, (gn b (old b o e)).trans z⟩, bs.free, fun b o e h6 => by
        obtain ⟨o', z⟩ := bs.there b o e h6
        exact ⟨o', (gn b (old b o e)).trans z⟩, bs.tups, bs.frzs, bs.tbls⟩
      have hokG : HOk X.prog X.w Hb G := fun b u e => by
        have hk : HOk X.prog X.w Hb sI.heap := Ib.hok
        refine (hk b u e).stay (fun c v hc q => ?_) (fun _ q => q) fun _ _ q => q
        refine (gn c fun z => ?_).trans q
        subst z
        rcases hc with hc | hc
        · rw [← hc, HC] at e; cases e
        · rw [HC] at hc; cases hc
      have I5 : Inv X pins σ Hb { sI with heap := G } := I3.call' (ch := fp) Ib.os un hokG Ib.bare fun b hb => ⟨(f3 b hb).1.2.2.2.1, (f3 b hb).1.2.1, (f3 b hb).1.2.2.2.2.1, (f3 b hb).1.2.2.2.2.2⟩
      refine ⟨a, B', { sI with heap := G }, pins, σ, Hb, cls, d, rfl, I5, fun b o e hb => ?_, fun b o e hnf => ?_, .inr (.inr (by rw [hs]; exact hh4)), na, os, ag, w⟩
      · have hne := gne b o e
        have e' : sI.heap.get? b = some o := (gn b hne).symm.trans e
        exact PySem.W.hideAll_get [C] (nb b o e' hb) (by simpa using hne)
      · have hne := gne b o e
        have e' : sI.heap.get? b = some o := (gn b hne).symm.trans e
        obtain ⟨sl, z⟩ := (up.trans up1) b o e' hnf
        have z2 : h2.get? b = some { o with slots := sl } := (keep b hne).trans z
        obtain ⟨sl', z3⟩ := up4 b { o with slots := sl } z2 (fun vs => hnf vs)
        exact ⟨sl', z3⟩
    first
      | exact wpAny_bind (wpAny_pure (wpAny_bind fin))
      | exact wpAny_bind fin
  cases use <;> exact fails
def tLcX (wi : TI) (g : TG) (tt : TT) (te : WX → TE) (vs : List Nat) (Wout : WX) : TE := fun σ H Q => tLc wi g tt (te fun cls d _ H' => Wout cls d σ H') vs σ H Q
theorem lcx_core {s : Shared} {Q : VK} {elt tg iter : Expr} {ifs : List Expr} {scope : Scope} {own : List (Str × Nat)} {pos pos' : Pos} {wi : TI} {g : TG} {tt : TT} {te : WX → TE} {Wout : WX} {use : Option (Value → Sem Unit)} {Qf : Value → Shared → Prop}
    (hst : X.stack = X.env :: X.outer) (hfm : X.env.frame = some X.env.locals) (tk : Takes X Wout)
    (hc : X.calm = true) (hN : X.N.Nodup) (I : Inv X pins σ H s) (hi : PI X tg iter wi) (ok : BlkOk X.N X.env.scope scope own)
    (hg : ∀ (s : Shared) (H : Hp) (C : Addr) (cl : List (Str × Addr)) (fp : List Addr), PG (X.blk s H scope (compEnvC scope cl C X.env) fp) tg g) (ht : ∀ (s : Shared) (H : Hp) (C : Addr) (cl : List (Str × Addr)) (fp : List Addr), PTs (X.blk s H scope (compEnvC scope cl C X.env) fp) ifs tt)
    (he : ∀ (s : Shared) (H : Hp) (C : Addr) (cl : List (Str × Addr)) (fp : List Addr) (pn : List (Addr × Obj)) (xe : Value → Shared → Prop) (W' : WX), Takes ((X.blk s H scope (compEnvC scope cl C X.env) fp).tr pn xe) W' → PE ((X.blk s H scope (compEnvC scope cl C X.env) fp).tr pn xe) elt (te W')) (hs : ∀ x, foldedSetIterable iter X.env x = pure x)
    (h : tLcX wi g tt te (own.map (·.2)) Wout σ H Q)
    (hRR : ∀ D ce s' m H', Inv X pins σ H' s' → Q (.ref D) H' → s'.heap.Ns ce.locals m → FpOk X pins H' ce.locals → compEnds (model X.prog X.w) X.A X.xe use Qf (.ref D) ce (.ok .next) s') :
    wpAny (model X.prog X.w) X.A (comprehension (.ListComp elt [⟨tg, iter, ifs, 0⟩] scope pos) scope X.env pos' (newList []) false (eval iter X.env) use) Qf X.xe s := by
  have hfree : ∀ y ∈ scope.names, y.2 = .free → ∃ c, X.env.cells.lookup y.1 = some c := fun y hy e => by
    rcases ok.free y hy e with k | k
    · exact I.ok.has _ (.inl k)
    · exact I.ok.has _ (.inr k)
  refine comprehension_at (use := use) rfl hs (closure_ok hfree) ok.kind (fun y hy e => by rw [ok.uniq y hy, e])
    (thn (hi.run pins s σ H _ I h) fun xv s1 hx => thn hx fun itv s2 h2 => ?_)
  obtain ⟨it, fp, tn, J, H2, e, I2, T, st2, f2, q⟩ := h2
  subst e
  refine wpAny_newObj_type (newEnv_comp ?_) (by show 0 ≤ sizeLine; decide)
  generalize hD : s2.heap.objs.size = D
  have hDn : H2 D = none := I2.hok.fresh (Nat.le_of_eq hD)
  obtain ⟨W, ⟨m0, w0⟩, turn⟩ := q D hDn
  generalize hs3 : ({ s2 with heap := s2.heap.push { cls := .type "list", data := .seq ([] : List Value).toArray } } : Shared) = s3
  have I3 : Inv X pins σ (upd H2 D (.lst [])) s3 := by
    rw [← hs3]
    refine I2.laid (t' := s2.toks) (fun b o e => Heap.get?_push_of_some _ e) (Nat.le_of_eq hD) ⟨Nat.zero_le _, [], 0, .nil, ?_⟩
    rw [← hD]
    exact Heap.get?_push_size _ rfl
  have h3 : s3.heap = s2.heap.push { cls := .type "list", data := .seq ([] : List Value).toArray } := by rw [← hs3]
  have sz : ∀ b ∈ fp, b < s2.heap.objs.size := fun b hb => by
    obtain ⟨o, e, _⟩ := T.obj _ _ st2 b hb
    exact Heap.lt_size e
  have f3 : ∀ b ∈ fp, FpOk X pins (upd H2 D (.lst [])) b ∧ b < s3.heap.objs.size := fun b hb => by
    have hlt := sz b hb
    refine ⟨⟨?_, (f2 b hb).2⟩, by rw [h3, Heap.size_push]; exact Nat.lt_succ_of_lt hlt⟩
    rw [upd_ne (by rw [← hD]; exact Nat.ne_of_lt hlt)]
    exact (f2 b hb).1
  have st3 : tn 0 s3.heap := T.keep _ _ _ st2 fun b _ o e => by rw [h3]; exact Heap.get?_push_of_some _ e
  have I4 := block_start I3 ok hN f3
  have pg := hg s3 (upd H2 D (.lst [])) s3.heap.objs.size (cellsFrom (s3.heap.objs.size + 1) scope.names (cloFrom X.env.cells scope.names [])) fp
  have pt := ht s3 (upd H2 D (.lst [])) s3.heap.objs.size (cellsFrom (s3.heap.objs.size + 1) scope.names (cloFrom X.env.cells scope.names [])) fp
  have pe := he s3 (upd H2 D (.lst [])) s3.heap.objs.size (cellsFrom (s3.heap.objs.size + 1) scope.names (cloFrom X.env.cells scope.names [])) fp
  show codeAny _ _ (.compStart (.ListComp elt [⟨tg, iter, ifs, 0⟩] scope pos) 0 (.ref it) (.ref D) (compEnvC scope (cellsFrom (s3.heap.objs.size + 1) scope.names (cloFrom X.env.cells scope.names [])) s3.heap.objs.size X.env)) (compEnds (model X.prog X.w) X.A X.xe use Qf (.ref D) (compEnvC scope (cellsFrom (s3.heap.objs.size + 1) scope.names (cloFrom X.env.cells scope.names [])) s3.heap.objs.size X.env)) { s3 with heap := pushCells (s3.heap.push { cls := .type "dict", data := .dict #[] }) scope.names }
  have nfp : ∀ b ∈ fp, (upd H2 D (.lst [])) b = none := fun b hb => (f3 b hb).1.1
  generalize hce : compEnvC scope (cellsFrom (s3.heap.objs.size + 1) scope.names (cloFrom X.env.cells scope.names [])) s3.heap.objs.size X.env = ce at I4 pg pt pe ⊢
  have cL : ce.locals = s3.heap.objs.size := by subst hce; rfl
  generalize hH3 : upd H2 D (.lst []) = H3 at I3 I4 pg pt pe w0 nfp f3
  generalize hs4 : ({ s3 with heap := pushCells (s3.heap.push { cls := .type "dict", data := .dict #[] }) scope.names } : Shared) = s4 at I4 ⊢
  have st4 : tn 0 s4.heap := T.keep _ _ _ st3 fun b _ o e => by rw [← hs4]; exact pushCells_keeps _ _ _ _ (Heap.get?_push_of_some _ e)
  have stat : ∀ {σ' : St} {H' : Hp} {s' : Shared}, Inv (X.blk s3 H3 scope ce fp) [] σ' H' s' → (∀ b ∈ fp, H' b = none) → ∀ b ∈ fp, FpOk (X.blk s3 H3 scope ce fp) [] H' b := fun {σ' H' s'} I' hn b hb =>
    ⟨hn b hb, (I'.ok.exf b hb).1, I'.ok.exfs b hb, .inl hb, fun x c e => (I'.ok.exf b hb).2 x c e, fun p hp => absurd (show p ∈ ([] : List (Addr × Obj)) ++ [] from hp) (by simp)⟩
  have loop : codeAny (model X.prog X.w) X.A (.compLoop (.ListComp elt [⟨tg, iter, ifs, 0⟩] scope pos) 0 (.ref it) (.ref D) ce) (compEnds (model X.prog X.w) X.A X.xe use Qf (.ref D) ce) s4 := by
    refine compLoop_any (fun n s' => ∃ i H', Inv (X.blk s3 H3 scope ce fp) [] (wipe σ (own.map (·.2))) H' s' ∧ tn i s'.heap ∧ (∀ b ∈ fp, H' b = none) ∧ W i n H') ?_ m0 ⟨0, H3, I4, st4, nfp, w0⟩
    rintro n s5 ⟨i, H5, I5, st5, n5, w5⟩
    rcases turn i n H5 w5 with ⟨stop, qq⟩ | ⟨go, Nx, hNx, step⟩
    · have td := T.done (X.blk s3 H3 scope ce fp) rfl rfl rfl hc i [] s5 _ H5 (fun _ _ => False) I5 (stat I5 n5) st5 stop
      refine thnF td fun r s6 ⟨hr, I6⟩ => ?_
      subst hr
      have I7 : Inv X pins σ H5 s6 := I3.call' (ch := fp) I6.os I6.base I6.hok I6.bare fun b hb => ⟨(f3 b hb).1.2.2.2.1, (f3 b hb).1.2.1, (f3 b hb).1.2.2.2.2.1, (f3 b hb).1.2.2.2.2.2⟩
      have nC : H5 ce.locals = none := I6.free
      obtain ⟨m, hn, _⟩ := I6.loc
      have hn : s6.heap.Ns ce.locals m := hn
      exact hRR D ce s6 m H5 I7 qq hn (by rw [cL] at nC ⊢; exact I3.fpOk (Nat.le_refl _) nC)
    · have ti := T.item (X.blk s3 H3 scope ce fp) rfl rfl rfl hc i [] s5 _ H5 (fun _ _ => False) I5 (stat I5 n5) st5 go
      refine thnF ti fun r s6 ⟨u, hr, h6⟩ => ?_
      subst hr
      refine thnF h6 fun _ s7 ⟨x, H7, I7, r7, y7, st7, n7⟩ => ?_
      have I7' := I7.pinned (stat I7 n7) (T.obj _ _ st7)
      refine thnF (pg.run _ s7 _ H7 x u _ I7' r7 (step x H7 y7)) fun _ s8 ⟨σ8, H8, I8, hw8, q8⟩ => ?_
      refine thnF (pt.run _ s8 σ8 H8 _ I8 q8) fun b s9 ⟨H9, I9, q9⟩ => ?_
      have fin : ∀ {s' : Shared} {H' : Hp}, Inv (X.blk s3 H3 scope ce fp) ([] ++ pinsAt fp s7.heap) σ8 H' s' → Nx H' → ∃ m, m < n ∧ ∃ i H', Inv (X.blk s3 H3 scope ce fp) [] (wipe σ (own.map (·.2))) H' s' ∧ tn i s'.heap ∧ (∀ b ∈ fp, H' b = none) ∧ W i m H' := fun {s' H'} I' nx => by
        obtain ⟨m', hm, w'⟩ := hNx H' nx
        have pin' : ∀ b ∈ fp, ∀ o, s7.heap.get? b = some o → s'.heap.get? b = some o ∧ H' b = none := fun b hb o e =>
          let z := I'.pin (b, o) (List.mem_append_right _ (List.mem_append_right _ (mem_pinsAt hb e)))
          ⟨z.1, z.2.1⟩
        have hl : (wipe σ (own.map (·.2))).length = σ8.length := by rw [← hw8, wipe_length]
        refine ⟨m', hm, i + 1, H', (I'.unpinned (pins := [])).weak hl (fun j v e => ?_), T.keep _ _ _ st7 fun b hb o e => (pin' b hb o e).1, fun b hb => ?_, w'⟩
        · rw [← hw8] at e
          exact (wipe_some e).1
        · obtain ⟨o, e, _⟩ := T.obj _ _ st7 b hb
          exact (pin' b hb o e).2
      cases b with
      | false =>
        simp only [Bool.false_eq_true, if_false] at q9 ⊢
        exact fin I9 q9
      | true =>
        simp only [if_true] at q9 ⊢
        have bt := blk_takes (pn := (X.blk s3 H3 scope ce fp).pn ++ ([] ++ pinsAt fp s7.heap)) (use := use) (Qf := Qf) (D := .ref D) hst hfm tk I3 hce.symm f3
        refine wpAny_mono ((pe _ _ _ bt).run [] s9 σ8 H9 _ (I9.toTry _) q9) (fun z s10 hz => ?_) fun _ _ z => z
        obtain ⟨yv, H10, I10, r10, acc, hD10, hz10, nx⟩ := hz
        exact app_ok (X := X.blk s3 H3 scope ce fp) (I10.ofTry I9.ok) hD10 hz10 r10 fun s11 I11 => fin I11 nx
  exact codeAny_compStart_list loop (T.self X.A 0 _ _ _ st4 loop)
end
end L2.RB
namespace L2.RB
open PySem PySem.Spec PyProof.Rows
section
variable {X : Cx} {W : WX} {ea : Str → Addr} {O0 : List Addr}
theorem pe_lcx {elt tg iter : Expr} {ifs : List Expr} {scope : Scope} {own : List (Str × Nat)} {pos : Pos} {wi : TI} {g : TG} {tt : TT} {te : WX → TE} {Wout : WX} (hst : X.stack = X.env :: X.outer) (hfm : X.env.frame = some X.env.locals) (tk : Takes X Wout) (hc : X.calm = true) (hN : X.N.Nodup) (hi : PI X tg iter wi) (ok : BlkOk X.N X.env.scope scope own)
    (hg : ∀ (s : Shared) (H : Hp) (C : Addr) (cl : List (Str × Addr)) (fp : List Addr), PG (X.blk s H scope (compEnvC scope cl C X.env) fp) tg g) (ht : ∀ (s : Shared) (H : Hp) (C : Addr) (cl : List (Str × Addr)) (fp : List Addr), PTs (X.blk s H scope (compEnvC scope cl C X.env) fp) ifs tt)
    (he : ∀ (s : Shared) (H : Hp) (C : Addr) (cl : List (Str × Addr)) (fp : List Addr) (pn : List (Addr × Obj)) (xe : Value → Shared → Prop) (W' : WX), Takes ((X.blk s H scope (compEnvC scope cl C X.env) fp).tr pn xe) W' → PE ((X.blk s H scope (compEnvC scope cl C X.env) fp).tr pn xe) elt (te W')) (hs : ∀ x, foldedSetIterable iter X.env x = pure x) :
    PE X (.ListComp elt [⟨tg, iter, ifs, 0⟩] scope pos) (tLcX wi g tt te (own.map (·.2)) Wout) := by
  refine ⟨fun pins s σ H Q I h => ?_⟩
  rw [eval_ListComp]
  refine lcx_core hst hfm tk hc hN I hi ok hg ht he hs h fun D ce s' m H' I' q hn f => ⟨m, hn, fun h'' sb => ?_⟩
  obtain ⟨f0, f1, f2, f3, f4, f5⟩ := f
  exact ⟨.ref D, H', I'.turned (t' := s'.toks) (fun b o hb e => (sb.2 b hb).trans e) f0 f1 f3 f4 f5, rfl, q⟩
/-! readings -/
def stepLcX (γ : GD) (τ : TD) (φ : ED) (vs : List Nat) (e : En) (d : D) : Res (Option D) := do
  let e1 ← (γ d (wipeE e vs)).nox
  let b ← (τ e1).nox
  if b then (do let y ← φ e1; .ok (some y)) else .ok none
def eLcX (src : AD) (γ : GD) (τ : TD) (φ : ED) (vs : List Nat) : ED := fun e => do
  let ds ← src e
  if ds.length ≤ LIM then (do let ys ← filtR (stepLcX γ τ φ vs e) ds; .ok (.lst ys)) else .stuck
theorem lcx_D {src : AD} {γ : GD} {τ : TD} {φ : ED} {vs js : List Nat} {O : List Addr} {en : En} {σ : St} {H : Hp} {Q : VK} (hj : ∀ j ∈ js, j ∈ vs) (rp : Rp (kw X) O en σ H)
    (h : RP (eLcX src γ τ φ vs en) (fun r => ∃ ys, r = .lst ys ∧ ∀ a us H', H a = none → Same H H' → H' a = some (.lst us) → Reps (kw X) (cut H' (a :: O)) us ys → Q (.ref a) H') (exK W ea σ H)) :
    tLcX (tIB X W ea src) (tG X γ js) (tT X W0 ea τ) (fun W' => tE X W' ea φ) vs W σ H Q := by
  refine ⟨O, en, rp, (RP_bind.mp h).mono (fun ds hd J H1 s1 yl D hD => ?_) fun c z => z⟩
  by_cases hl : ds.length ≤ LIM
  case neg => rw [if_neg hl] at hd; exact False.elim hd
  rw [if_pos hl] at hd
  have hx : RP (filtR (stepLcX γ τ φ vs en) ds) (fun ys => ∀ a us H', H a = none → Same H H' → H' a = some (.lst us) → Reps (kw X) (cut H' (a :: O)) us ys → Q (.ref a) H') (exK W ea σ H) :=
    (RP_bind.mp hd).mono (fun ys hy => by obtain ⟨ys', e', k⟩ := hy; cases e'; exact k) fun c z => z
  have hD0 : H D = none := by
    cases e : H D with
    | none => rfl
    | some o => rw [s1 _ _ e] at hD; cases hD
  have dn : Own O H1 := (rp.mono s1).dom
  have base : Same H1 (upd H1 D (.lst [])) := same_new hD
  refine ⟨fun i m H2 => m = ds.length - i ∧ i ≤ ds.length ∧ Same H1 H2 ∧ ∃ acc done, H2 D = some (.lst acc) ∧ Reps (kw X) (cut H2 (D :: O)) acc done ∧ done.length ≤ i ∧
      RP (filtR (stepLcX γ τ φ vs en) (ds.drop i)) (fun rest => ∀ a us H', H a = none → Same H H' → H' a = some (.lst us) → Reps (kw X) (cut H' (a :: O)) us (done ++ rest) → Q (.ref a) H') (exK W ea σ H),
    ⟨ds.length, by simp, Nat.zero_le _, base, [], [], upd_same, .nil, Nat.le_refl _, hx⟩, fun i m H2 hW => ?_⟩
  obtain ⟨em, hi, s2, acc, done, hacc, racc, hlen, hrest⟩ := hW
  obtain ⟨y1, y2⟩ := yl i H2 s2
  by_cases hend : i = ds.length
  · subst hend
    refine .inl ⟨y1 rfl, ?_⟩
    rw [List.drop_length] at hrest
    have k := hrest D acc H2 hD0 (s1.trans s2) hacc
    rw [List.append_nil] at k
    exact k racc
  · have hlt : i < ds.length := Nat.lt_of_le_of_ne hi hend
    obtain ⟨d, hd2⟩ : ∃ d, ds[i]? = some d := ⟨_, List.getElem?_eq_getElem hlt⟩
    obtain ⟨hgo, hy⟩ := y2 d hd2
    have hdrop : ds.drop i = d :: ds.drop (i + 1) := by
      rw [List.drop_eq_getElem_cons hlt]
      congr 1
      have := List.getElem?_eq_getElem hlt
      rw [hd2] at this
      exact (Option.some.inj this).symm
    rw [hdrop] at hrest
    have hrest := RP_bind.mp hrest
    refine .inr ⟨hgo, fun H' => Same H1 H' ∧ ∃ acc' done', H' D = some (.lst acc') ∧ Reps (kw X) (cut H' (D :: O)) acc' done' ∧ done'.length ≤ i + 1 ∧
        RP (filtR (stepLcX γ τ φ vs en) (ds.drop (i + 1))) (fun rest => ∀ a us H', H a = none → Same H H' → H' a = some (.lst us) → Reps (kw X) (cut H' (a :: O)) us (done' ++ rest) → Q (.ref a) H') (exK W ea σ H),
      fun H' ⟨sn, acc', done', a1, a2, a3, a4⟩ => ⟨m - 1, by omega, by omega, hlt, sn, acc', done', a1, a2, a3, a4⟩, fun x H' hyld => ?_⟩
    obtain ⟨s3, hitem⟩ := hy x H' hyld
    have s13 : Same H1 H' := s2.trans s3
    have hDacc : H' D = some (.lst acc) := s3 _ _ hacc
    have rpm : Rp (kw X) (D :: O) en σ H' := (rp.mono s1).more hD s13 hDacc
    have sc : Same (cut H1 O) (cut H2 (D :: O)) := fun b u hb => by
      obtain ⟨q1, q2⟩ := of_cut hb
      rw [cut_of (by simp [ne_of_none q2 hD, q1])]
      exact s2 _ _ q2
    have own2 : Own (D :: O) H2 := fun a ma => by
      rcases List.mem_cons.mp ma with rfl | ma
      · exact ⟨_, hacc⟩
      · obtain ⟨u, hu⟩ := dn a ma
        exact ⟨u, s2 _ _ hu⟩
    have ritem : Rep (kw X) (cut H' (D :: O)) x d := hitem (D :: O) own2 sc
    unfold stepLcX at hrest
    cases hg : γ d (wipeE en vs) with
    | stuck => rw [hg] at hrest; exact False.elim hrest
    | exc c => rw [hg] at hrest; exact False.elim hrest
    | ok e1 =>
      rw [hg] at hrest
      refine ⟨[], D :: O, wipeE en vs, d, .of (rpm.wipe vs), ritem, ?_⟩
      rw [hg]
      intro σ' rq' hl' hk'
      refine ⟨?_, D :: O, e1, rq'.rp, ?_⟩
      · rw [← wipe_wipe σ vs]
        exact wipe_same hl' fun j mj => hk' j fun z => mj (hj j z)
      cases hb : τ e1 with
      | stuck =>
        have hrest : RP ((τ e1).nox >>= _) _ _ := hrest
        rw [hb] at hrest; exact False.elim hrest
      | exc c =>
        have hrest : RP ((τ e1).nox >>= _) _ _ := hrest
        rw [hb] at hrest; exact False.elim hrest
      | ok b =>
        have hrest : RP ((τ e1).nox >>= _) _ _ := hrest
        rw [hb] at hrest
        intro H3 s4
        cases b with
        | false =>
          have hrest : RP (do let ys ← filtR (stepLcX γ τ φ vs en) (ds.drop (i + 1)); Res.ok ys) _ _ := hrest
          rw [if_neg Bool.false_ne_true]
          refine ⟨s13.trans s4, acc, done, s4 _ _ hDacc, (racc.mono (cut_same s3)).mono (cut_same s4), Nat.le_succ_of_le hlen, (RP_bind.mp hrest).mono (fun ys z => z) fun c z => z⟩
        | true =>
          rw [if_pos rfl]
          have hrest : RP ((do let y ← φ e1; Res.ok (some y)) : Res (Option _)) _ _ := hrest
          have hrest := RP_bind.mp hrest
          refine ⟨D :: O, e1, rq'.rp.mono s4, hrest.mono (fun z hz v H4 s5 rv => ?_) fun c hc2 H5 s5 => hc2 H5 (((s1.trans s13).trans s4).trans s5)⟩
          have hz : RP (do let ys ← filtR (stepLcX γ τ φ vs en) (ds.drop (i + 1)); Res.ok (z :: ys)) _ _ := hz
          have hD4 : H4 D = some (.lst acc) := s5 _ _ (s4 _ _ hDacc)
          have la : acc.length = done.length := racc.length
          refine ⟨acc, hD4, by rw [la, ← lim_eq]; omega, fun b o hb => ?_, acc ++ [v], done ++ [z], upd_same, ?_, by rw [List.length_append]; simpa using hlen, (RP_bind.mp hz).mono (fun ys k => ?_) fun c z => z⟩
          · rw [upd_ne (ne_of_none hb hD)]
            exact s5 _ _ (s4 _ _ (s13 _ _ hb))
          · have sm : Same (cut H4 (D :: O)) (cut (upd H4 D (.lst (acc ++ [v]))) (D :: O)) := fun b o hb => by
              obtain ⟨q1, q2⟩ := of_cut hb
              rw [cut_of q1, upd_ne (fun z => q1 (by rw [z]; exact List.mem_cons_self))]
              exact q2
            exact (((racc.mono (cut_same s3)).mono (cut_same s4)).mono (cut_same s5) |>.append (.cons rv .nil)).mono sm
          · rw [List.append_assoc]
            exact k
theorem lcx_post {src : AD} {γ : GD} {τ : TD} {φ : ED} {vs : List Nat} {O : List Addr} {en : En} {H : Hp} {Q : VK} {Ex : Str → Prop} (ow : Own O H) (q : RP (eLcX src γ τ φ vs en) (Post (kw X) O H Q) Ex) :
    RP (eLcX src γ τ φ vs en) (fun r => ∃ ys, r = .lst ys ∧ ∀ a us H', H a = none → Same H H' → H' a = some (.lst us) → Reps (kw X) (cut H' (a :: O)) us ys → Q (.ref a) H') Ex := by
  refine (RP_bind.mpr ((RP_bind.mp q).mono (fun ds hd => ?_) fun c z => z))
  by_cases hl : ds.length ≤ LIM
  · rw [if_pos hl] at hd ⊢
    refine (RP_bind.mpr ((RP_bind.mp hd).mono (fun ys z => ?_) fun c z => z))
    refine ⟨ys, rfl, fun a us H' n s e r => ?_⟩
    have ha : a ∉ O := ow.fresh n
    refine z _ H' s (.lst (by rw [cut_of ha]; exact e) (r.mono fun b o hb => ?_))
    obtain ⟨q1, q2⟩ := of_cut hb
    rw [cut_of fun m => q1 (List.mem_cons_of_mem _ m)]
    exact q2
  · rw [if_neg hl] at hd; exact False.elim hd
theorem r_lcx {elt tg iter : Expr} {ifs : List Expr} {scope : Scope} {own : List (Str × Nat)} {vs : List Nat} {pos : Pos} {src : AD} {γ : GD} {js : List Nat} {τ : TD} {φ : ED} (hst : X.stack = X.env :: X.outer) (hfm : X.env.frame = some X.env.locals) (tk : Takes X W) (hc : X.calm = true) (nd : X.N.Nodup) (hi : RIB X W ea tg iter src) (hb : BlkOk X.N X.env.scope scope own)
    (hg : ∀ (s : Shared) (H : Hp) (C : Addr) (cl : List (Str × Addr)) (fp : List Addr), RG (RB.Blk X s H scope C cl fp) tg γ js)
    (ht : ∀ (s : Shared) (H : Hp) (C : Addr) (cl : List (Str × Addr)) (fp : List Addr), RTs (RB.Blk X s H scope C cl fp) W0 ea ifs τ)
    (he : ∀ (s : Shared) (H : Hp) (C : Addr) (cl : List (Str × Addr)) (fp : List Addr) (pn : List (Addr × Obj)) (xe : Value → Shared → Prop) (W' : WX), Takes ((RB.Blk X s H scope C cl fp).tr pn xe) W' → RE ((RB.Blk X s H scope C cl fp).tr pn xe) W' ea elt φ)
    (hj : ∀ j ∈ js, j ∈ vs) (hvs : List.map (fun x => x.snd) own = vs) (hs : ∀ (x : Value), foldedSetIterable iter X.env x = pure x) :
    RE X W ea (.ListComp elt [{ target := tg, iter := iter, ifs := ifs, is_async := 0 }] scope pos) (eLcX src γ τ φ vs) := by
  subst hvs
  refine PEby (pe_lcx (g := tG X γ js) (tt := tT X W0 ea τ) (te := fun W' => tE X W' ea φ) hst hfm tk hc nd hi hb hg ht (fun s H C cl fp pn xe W' tk' => he s H C cl fp pn xe W' tk') hs) fun σ H Q ⟨O, en, rp, q⟩ => ?_
  exact lcx_D hj rp (lcx_post rp.dom q)
end
end L2.RB
namespace L2.RB
open PySem PySem.Spec PyProof.Rows
/-! ### dicts of pairs, d.get(k) -/
def putD (kvs : List (D × D)) (k v : D) : List (D × D) := if (kvs.any fun kv => keyIsD kv.1 k) = true then kvs.map (fun kv => if keyIsD kv.1 k then (kv.1, v) else kv) else kvs ++ [(k, v)]
def mergeD (kvs more : List (D × D)) : List (D × D) := more.foldl (fun acc kv => putD acc kv.1 kv.2) kvs
def pairKV (d : D) : Option (D × D) := match d with
  | .tup [k, v] => (keyOf k).map fun _ => (k, v)
  | _ => none
def pairsKV : List D → Option (List (D × D))
  | [] => some []
  | d :: ds => match pairKV d with
    | some kv => (pairsKV ds).map (kv :: ·)
    | none => none
def dictD (ds : List D) : Res D := match ds with
  | [.lst xs] => match pairsKV xs with
    | some kvs => .ok (.dct (mergeD [] kvs))
    | none => .stuck
  | [.dct kvs] => .ok (.dct kvs)
  | _ => .stuck
theorem nx_dict : NxA dictD := by
  intro d c; unfold dictD; repeat' split
  all_goals exact fun z => nomatch z
section
variable {K : KW} {G : Hp}
theorem any_keys : ∀ {kvs : List (Key × V)} {ds : List (D × D)} (k : Key), RepKs K G kvs ds → (ds.any fun kv => keyIsD kv.1 (keyD k)) = kvs.any fun kv => decide (kv.1 = k)
  | _, _, _, .nil => rfl
  | _, _, k, .cons (k := k0) r t => by
    rw [List.any_cons, List.any_cons, any_keys k t, keyIsD_key]
theorem RepKs.app : ∀ {a b : List (Key × V)} {x y : List (D × D)}, RepKs K G a x → RepKs K G b y → RepKs K G (a ++ b) (x ++ y)
  | _, _, _, _, .nil, s => s
  | _, _, _, _, .cons r t, s => .cons r (t.app s)
theorem RepKs.putMap {v : V} {d : D} (rv : Rep K G v d) (k : Key) : ∀ {kvs : List (Key × V)} {ds : List (D × D)}, RepKs K G kvs ds → RepKs K G (kvs.map fun kv => if kv.1 = k then (kv.1, v) else kv) (ds.map fun kv => if keyIsD kv.1 (keyD k) then (kv.1, d) else kv)
  | _, _, .nil => .nil
  | _, _, .cons (k := k0) r t => by
    rw [List.map_cons, List.map_cons]
    have e := keyIsD_key k0 k
    by_cases h : k0 = k
    · rw [decide_eq_true h] at e
      simp only [e, if_true, if_pos h]
      exact .cons rv (t.putMap rv k)
    · rw [decide_eq_false h] at e
      simp only [e, Bool.false_eq_true, if_false, if_neg h]
      exact .cons r (t.putMap rv k)
theorem RepKs.put {v : V} {d : D} (rv : Rep K G v d) (k : Key) {kvs : List (Key × V)} {ds : List (D × D)} (r : RepKs K G kvs ds) : RepKs K G (putK kvs k v) (putD ds (keyD k) d) := by
  unfold putK putD
  rw [any_keys k r]
  by_cases h : (kvs.any fun kv => decide (kv.1 = k)) = true
  · rw [if_pos h, if_pos h]; exact r.putMap rv k
  · rw [if_neg h, if_neg h]; exact r.app (.cons rv .nil)
theorem RepKs.merge : ∀ {more : List (Key × V)} {md : List (D × D)} {kvs : List (Key × V)} {ds : List (D × D)}, RepKs K G more md → RepKs K G kvs ds → RepKs K G (mergeK kvs more) (mergeD ds md)
  | _, _, _, _, .nil, s => s
  | _, _, _, _, .cons r t, s => t.merge (s.put r _)
theorem pairs_rep : ∀ {xs : List D} {vs : List V} {ds : List (D × D)}, Reps K G vs xs → pairsKV xs = some ds → ∃ (ps : List Addr) (kvs : List (Key × V)), vs = ps.map V.ref ∧ RepKs K G kvs ds ∧ Paired (fun p kv => SqT K.K G p [kV kv.1, kv.2]) ps kvs
  | [], _, _, .nil, h => by cases h; exact ⟨[], [], rfl, .nil, .nil⟩
  | d :: xs, _, _, .cons r t, h => by
    unfold pairsKV at h
    cases hp : pairKV d with
    | none => rw [hp] at h; cases h
    | some kv =>
      rw [hp] at h
      cases hx : pairsKV xs with
      | none => rw [hx] at h; cases h
      | some rest =>
        rw [hx] at h
        cases h
        obtain ⟨ps, kvs, e1, r1, p1⟩ := pairs_rep t hx
        unfold pairKV at hp
        split at hp
        · rename_i k v
          cases hk : keyOf k with
          | none => rw [hk] at hp; cases hp
          | some key =>
            rw [hk] at hp
            cases hp
            have ek := keyOf_eq hk
            subst ek
            obtain ⟨a, ws, rfl, s, rr⟩ := r.tup_inv
            obtain ⟨x, y, rfl, rx, ry⟩ := rr.two
            have ex : x = kV key := by
              cases key with
              | inl i => cases rx; rfl
              | inr z => cases rx; rfl
            subst ex
            exact ⟨a :: ps, (key, y) :: kvs, by rw [e1]; rfl, .cons ry r1, .cons s p1⟩
        · cases hp
end
section
variable {X : Cx} {W : WX} {ea : Str → Addr} {O0 : List Addr}
theorem Paired.sqmono {K : PySem.W.Frag} {H H' : Hp} (s : Same H H') : ∀ {ps : List Addr} {kvs : List (Key × V)}, Paired (fun p kv => SqT K H p [kV kv.1, kv.2]) ps kvs → Paired (fun p kv => SqT K H' p [kV kv.1, kv.2]) ps kvs
  | _, _, .nil => .nil
  | _, _, .cons h t => .cons (sqT_mono s h) (Paired.sqmono s t)
theorem cr_dict (hc : X.calm = true) : CallR X (.type "dict") (rDs X dictD) := by
  intro pins s σ H xs us Q I r hh
  obtain ⟨O, ds, d, ow, h, hf, q⟩ := hh
  unfold dictD at hf
  split at hf
  · split at hf
    · rename_i xs0 kvs0 hp
      cases hf
      obtain ⟨x, rfl, rx⟩ := h.one
      obtain ⟨a, vs, rfl, ha, rr⟩ := rx.lst_inv
      obtain ⟨ps, kvs, rfl, r1, p1⟩ := pairs_rep rr hp
      refine call_dictP hc pins s σ H _ us Q I r ⟨a, ps, kvs, rfl, .of ha, Paired.sqmono (cut_le _ _) p1, fun p hp => ?_⟩
      exact q _ _ (same_new hp) (.dK (by rw [cut_of (ow.fresh hp)]; exact upd_same) ((r1.merge .nil).mono (cut_same (same_new hp))))
    · cases hf
  · cases hf
    obtain ⟨x, rfl, rx⟩ := h.one
    obtain ⟨a, kvs, rfl, ha, rr⟩ := rx.dct_inv
    refine call_dictD pins s σ H _ us Q I r ⟨a, kvs, rfl, .of ha, fun p hp => ?_⟩
    exact q _ _ (same_new hp) (.dK (by rw [cut_of (ow.fresh hp)]; exact upd_same) (rr.mono (cut_same (same_new hp))))
  · cases hf
theorem b_dict {e : Expr} {es : List Expr} {φ : AD} {p pos : Pos} (hc : X.calm = true) (hg : Gl X (Str.ofString "dict")) (hm : X.mg (Str.ofString "dict") = none) (ha : RAB X W ea (e :: es) φ) (h1 : starEach (e :: es) X.env = (false, eval e X.env) :: starEach es X.env) (h2 : ((backTo pos (starEach es X.env)).any fun x => x.fst) = false) : RE X W ea (.Call (.Name (Str.ofString "dict") p) (e :: es) [] pos) (eCall dictD φ) :=
  r_callTy nx_dict (cr_dict hc) hg hm (by rfl) ha (by decide) (by decide) h1 h2
def getD1 (d e : D) : Res D := match d with
  | .dct kvs => match keyOf e with
    | some _ => .ok ((look kvs e).getD .non)
    | none => .stuck
  | _ => .stuck
def eGet (φ ψ : ED) : ED := fun e => do let x ← φ e; if tyD "dict" x then (do let y ← ψ e; getD1 x y) else .stuck
theorem r_get {o k : Expr} {φ ψ : ED} {apos cpos : Pos} {n : Nat} (hr : Room n X.A) (m : M1 X o "get" apos k cpos) (ho : RB X W ea o φ) (hk : RE X W ea k ψ) :
    RE X W ea (.Call (.Attribute o "get" apos) [k] [] cpos) (eGet φ ψ) := by
  refine PEby (pe_dget1 (by have := hu_of hr; omega) ho hk.bor m) fun σ H Q ⟨O, en, rp, q⟩ => ?_
  refine ⟨O, en, rp, (RP_bind.mp q).mono (fun d hd x H1 s1 r1 => ?_) fun c z => z⟩
  by_cases ht : tyD "dict" d = true
  case neg => rw [if_neg ht] at hd; exact False.elim hd
  rw [if_pos ht] at hd
  have isd : ∃ a, x = .ref a ∧ IsD H1 a := by
    cases d with
    | dct kvs => obtain ⟨a, ks, rfl, s, _⟩ := r1.dct_inv; exact ⟨a, rfl, .inl ⟨ks, .of s⟩⟩
    | dcu kvs => cases r1 with
      | fr r => cases r with
        | dT h1 _ => exact ⟨_, rfl, .inr ⟨_, .of (of_cut h1).2⟩⟩
    | str _ => exact absurd (show ("dict" == "str") = true from ht) (by decide)
    | lst _ => exact absurd (show ("dict" == "list") = true from ht) (by decide)
    | _ => cases ht
  obtain ⟨a, rfl, ha⟩ := isd
  refine ⟨a, rfl, ha, O, en, rp.mono s1, (RP_bind.mp hd).mono (fun e he y H2 s2 r2 => ?_) fun c z => z.mono s1⟩
  unfold getD1 at he
  cases d with
  | dct kvs =>
    cases hk : keyOf e with
    | none => rw [hk] at he; exact False.elim he
    | some key =>
      rw [hk] at he
      have ek := keyOf_eq hk
      subst ek
      obtain ⟨a', ks, ea', s, rr⟩ := (r1.mono s2).dct_inv
      cases ea'
      have ey : y = kV key := by
        cases key with
        | inl i => exact r2.int_inv
        | inr z => exact r2.str_inv
      subst ey
      have he : Post (kw X) O H Q ((look kvs (keyD key)).getD .non) := he
      refine ⟨valV ks key, DGet.k s, ?_⟩
      rcases look_none key rr with ⟨e1, e2⟩ | ⟨v1, d1, e1, e2, rv⟩
      · rw [e1] at he; rw [e2]
        exact he .non H2 (s1.trans s2) .non
      · rw [e1] at he; rw [e2]
        exact he v1 H2 (s1.trans s2) rv
  | _ => exact False.elim he
end
end L2.RB
namespace L2.RB
open PySem PySem.Spec PyProof.Rows
/-! ### patterns, addresses as data -/
inductive Part where
  | word (w : Str) | one (n : Str) (cs : List Str) | num (n : Str) | any (n : Str)
structure Pat where
  ps : List Part
  rest : Option Str
abbrev sd (s : Str) : D := .str s
def encW (l : List Str) : D := .tup (l.map D.str)
def Part.enc : Part → D
  | .word w => .tup [.str "word", .str w]
  | .one n cs => .tup [.str "one", .str n, encW cs]
  | .num n => .tup [.str "number", .str n]
  | .any n => .tup [.str "any", .str n]
def encR (r : Str) : D := .tup [.str "rest", .str r]
def Pat.encs (p : Pat) : List D := p.ps.map Part.enc ++ (match p.rest with
  | some r => [encR r]
  | none => [])
def Pat.enc (p : Pat) : D := .tup p.encs
theorem encW_pl (l : List Str) : (encW l).pl 1 = true := by
  unfold encW
  simp only [D.pl]
  exact pls_map (fun a => by simp [D.pl]) l
theorem Part.pl (p : Part) : p.enc.pl 2 = true := by
  cases p with
  | one n cs => simp only [Part.enc, D.pl, D.pls, encW_pl, Bool.and_self]
  | _ => simp only [Part.enc, D.pl, D.pls, Bool.and_self]
theorem pls_append : ∀ {a b : List D} {n : Nat}, D.pls a n = true → D.pls b n = true → D.pls (a ++ b) n = true
  | [], _, _, _, h => h
  | x :: a, b, n, h1, h2 => by
    simp only [D.pls, Bool.and_eq_true] at h1
    simp only [List.cons_append, D.pls, h1.1, pls_append h1.2 h2, Bool.and_self]
theorem Pat.pl (p : Pat) : p.enc.pl 3 = true := by
  simp only [Pat.enc, D.pl]
  refine pls_append (pls_map Part.pl _) ?_
  cases p.rest with
  | none => simp [D.pls]
  | some r => simp [encR, D.pl, D.pls]
theorem encW_pl60 (l : List Str) : (encW l).pl 60 = true := pl_le (encW_pl l) (by decide)
theorem Pat.pl60 (p : Pat) : p.enc.pl 60 = true := pl_le p.pl (by decide)
theorem Part.pl60 (p : Part) : p.enc.pl 60 = true := pl_le p.pl (by decide)
theorem str_pl60 (s : Str) : (D.str s).pl 60 = true := by simp [D.pl]
theorem nil_pl60 : (D.tup []).pl 60 = true := by simp [D.pl, D.pls]
theorem lnil_pl60 : (D.lst []).pl 60 = true := by simp [D.pl, D.pls]
theorem eq_str (s t : Str) : eqD (.str s) (.str t) = .ok (.bl (s == t)) := by rw [eqD_pl (str_pl60 _) (str_pl60 _)]; simp [D.eqv]
theorem ne_str (s t : Str) : neD (.str s) (.str t) = .ok (.bl (!(s == t))) := by rw [neD_pl (str_pl60 _) (str_pl60 _)]; simp [D.eqv]
theorem eq_int (i j : Int) : eqD (.int i) (.int j) = .ok (.bl (i == j)) := by rw [eqD_pl (by simp [D.pl]) (by simp [D.pl])]; simp [D.eqv]
theorem eq_nilT {xs : List D} (h : (D.tup xs).pl 60 = true) : eqD (.tup xs) (.tup []) = .ok (.bl xs.isEmpty) := by
  rw [eqD_pl h nil_pl60]
  cases xs <;> simp [D.eqv, D.eqvs]
theorem ne_nilT {xs : List D} (h : (D.tup xs).pl 60 = true) : neD (.tup xs) (.tup []) = .ok (.bl (!xs.isEmpty)) := by
  rw [neD_pl h nil_pl60]
  cases xs <;> simp [D.eqv, D.eqvs]
theorem eqv_words : ∀ a b : List Str, D.eqvs (a.map D.str) (b.map D.str) = decide (a = b)
  | [], [] => by simp [D.eqvs]
  | [], _ :: _ => by simp [D.eqvs]
  | _ :: _, [] => by simp [D.eqvs]
  | x :: a, y :: b => by
    simp only [List.map_cons, D.eqvs, D.eqv, eqv_words a b]
    by_cases h : x = y <;> simp [h]
theorem atI_last {α : Type} (xs : List α) (x : α) : atI (xs ++ [x]) (-1) = some x := by
  have h1 : ixN (xs ++ [x]).length (-1) = some xs.length := by
    unfold ixN
    rw [List.length_append, List.length_singleton, if_neg (by decide), if_pos (by omega)]
    congr 1
    omega
  unfold atI
  rw [h1]
  simp
theorem atI_0 {α : Type} (x : α) (xs : List α) : atI (x :: xs) 0 = some x := by
  unfold atI ixN
  simp
theorem atI_nat {α : Type} (xs : List α) (n : Nat) : atI xs (n : Int) = xs[n]? := by
  unfold atI ixN
  by_cases h : n < xs.length
  · simp [h]
  · simp [h]
theorem idx_tup {xs : List D} {i : Int} {d : D} (h : atI xs i = some d) : idxD (.tup xs) (.int i) = .ok d := by
  simp only [idxD, h, optD, id]
theorem idx_lst {xs : List D} {i : Int} {d : D} (h : atI xs i = some d) : idxD (.lst xs) (.int i) = .ok d := by
  simp only [idxD, h, optD, id]
theorem idx0 (x : D) (xs : List D) : idxD (.tup (x :: xs)) (.int 0) = .ok x := idx_tup (atI_0 _ _)
theorem idx1 (x y : D) (xs : List D) : idxD (.tup (x :: y :: xs)) (.int 1) = .ok y := idx_tup (by rw [show (1 : Int) = ((1 : Nat) : Int) from rfl, atI_nat]; rfl)
theorem idx2 (x y z : D) (xs : List D) : idxD (.tup (x :: y :: z :: xs)) (.int 2) = .ok z := idx_tup (by rw [show (2 : Int) = ((2 : Nat) : Int) from rfl, atI_nat]; rfl)
theorem neg1 : negD (.int 1) = .ok (.int (-1)) := rfl
theorem idx_last (xs : List D) (x : D) : idxD (.tup (xs ++ [x])) (.int (-1)) = .ok x := idx_tup (atI_last _ _)
/-- kinds -/
def Part.kind : Part → Str
  | .word _ => "word"
  | .one _ _ => "one"
  | .num _ => "number"
  | .any _ => "any"
theorem Part.k0 (p : Part) : idxD p.enc (.int 0) = .ok (.str p.kind) := by cases p <;> exact idx0 _ _
def Part.nm : Part → Str
  | .word w => w
  | .one n _ => n
  | .num n => n
  | .any n => n
theorem Part.k1 (p : Part) : idxD p.enc (.int 1) = .ok (.str p.nm) := by cases p <;> exact idx1 _ _ _
theorem cut_to {α : Type} (xs : List α) (n : Nat) : cutL xs none (some (n : Int)) = xs.take n := by
  unfold cutL
  rw [HT.sIx_nat, HT.sIx_none, Nat.sub_zero, List.drop_zero]
  by_cases h : n ≤ xs.length
  · rw [Nat.min_eq_left h]
  · rw [Nat.min_eq_right (by omega), List.take_length, List.take_of_length_le (by omega)]
theorem cut_from {α : Type} (xs : List α) (n : Nat) : cutL xs (some (n : Int)) none = xs.drop n := by
  unfold cutL
  rw [HT.sIx_nat, HT.sIx_none]
  by_cases h : n ≤ xs.length
  · rw [Nat.min_eq_left h, List.take_of_length_le (by rw [List.length_drop]; omega)]
  · rw [Nat.min_eq_right (by omega), Nat.sub_self, List.take_zero, List.drop_of_length_le (by omega)]
theorem cut_init {α : Type} (xs : List α) : cutL xs none (some (-1)) = xs.dropLast := by
  have h : HT.sIx xs.length xs.length (some (-1)) = xs.length - 1 := by
    show (if (-1 : Int) < 0 then ((-1 : Int) + (xs.length : Int)).toNat else min (-1 : Int).toNat xs.length) = xs.length - 1
    rw [if_pos (by decide)]
    omega
  unfold cutL
  rw [h, HT.sIx_none, Nat.sub_zero, List.drop_zero, List.dropLast_eq_take]
theorem cut_init1 {α : Type} (xs : List α) (x : α) : cutL (xs ++ [x]) none (some (-1)) = xs := by
  rw [cut_init, List.dropLast_concat]
/-! lists walked -/
theorem filtR_map {α β : Type} {f : α → Res (Option β)} {g : α → β} : ∀ {l : List α}, (∀ x ∈ l, f x = .ok (some (g x))) → filtR f l = .ok (l.map g)
  | [], _ => rfl
  | x :: l, h => by
    simp only [filtR, h x List.mem_cons_self, filtR_map fun y m => h y (List.mem_cons_of_mem _ m), ok_bind, List.map_cons]
theorem filtN_map {α β : Type} {f : α → Res (Option β)} {g : α → β} {l : List α} (h : ∀ x ∈ l, f x = .ok (some (g x))) : filtN f l = .ok (l.map g) := by
  unfold filtN
  rw [filtR_map h]; rfl
/-- all of a list have a property, by any way -/
theorem filtN_ex {α β : Type} {f : α → Res (Option β)} {Q : β → Prop} : ∀ {l : List α}, (∀ x ∈ l, ∃ y, f x = .ok (some y) ∧ Q y) → ∃ ys, filtR f l = .ok ys ∧ ys.length = l.length ∧ ∀ y ∈ ys, Q y
  | [], _ => ⟨[], rfl, rfl, fun _ m => absurd m List.not_mem_nil⟩
  | x :: l, h => by
    obtain ⟨y, e, q⟩ := h x List.mem_cons_self
    obtain ⟨ys, e2, l2, q2⟩ := filtN_ex fun z m => h z (List.mem_cons_of_mem _ m)
    refine ⟨y :: ys, by simp only [filtR, e, e2, ok_bind], by simp [l2], fun z m => ?_⟩
    rcases List.mem_cons.mp m with rfl | m
    · exact q
    · exact q2 z m
theorem len_tup (xs : List D) : lenD [.tup xs] = .ok (.int xs.length) := rfl
theorem len_lst (xs : List D) : lenD [.lst xs] = .ok (.int xs.length) := rfl
theorem in_words (w : Str) (cs : List Str) : inD (.str w) (encW cs) = .ok (.bl (decide (w ∈ cs))) := by
  have hp : D.pls (cs.map D.str) 60 = true := pls_map (fun a => str_pl60 a) cs
  have ha : (cs.map D.str).any (fun z => D.eqv z (.str w)) = decide (w ∈ cs) := by
    clear hp
    induction cs with
    | nil => simp
    | cons c cs ih =>
      simp only [List.map_cons, List.any_cons, ih, D.eqv]
      by_cases h : c = w
      · simp [h]
      · have h' : ¬ w = c := fun z => h z.symm
        simp [h, h']
  unfold inD
  have : inB (.str w) (encW cs) = some (decide (w ∈ cs)) := by
    unfold inB encW
    simp [hp, ha, str_pl60]
  rw [this]
end L2.RB
namespace L2.RB.P
open PySem PySem.Spec PyProof.Rows
def d_law_cell : SD :=
  (sSeq (sIf (tV (eOp ltI (eVar 1) (eCall lenD (aCons (eVar 0) aNil)))) (sSeq (sRet (eOp idxD (eVar 0) (eVar 1))) sNil) sNil) (sSeq (sIf (tV (eOp eqD (eVar 0) (eLst aNil))) (sSeq (sRet (eC (.int 0))) sNil) sNil) (sSeq (sRet (eOp addD (eOp mulD (eOp idxD (eVar 0) (eOp modD (eVar 1) (eCall lenD (aCons (eVar 0) aNil)))) (eC (.int 31))) (eVar 1))) sNil)))
def m_law_cell : List D → Res D := fnD 2 2 d_law_cell
def d_law_pick : SD :=
  (sSeq (sSet 3 (eOp modD (eOp mulD (eOp addD (eCall m_law_cell (aCons (eVar 0) (aCons (eVar 1) aNil))) (eOp mulD (eC (.int 6151)) (eOp addD (eVar 1) (eC (.int 1))))) (eC (.int 40692))) (eC (.int 2147483399)))) (sSeq (sRet (eOp modD (eOp modD (eOp addD (eOp mulD (eVar 3) (eVar 3)) (eOp fdivD (eVar 3) (eC (.int 31)))) (eC (.int 2147483629))) (eVar 2))) sNil))
def m_law_pick : List D → Res D := fnD 3 4 d_law_pick
abbrev lc1_law_part : ED :=
  (eLc (iCall rng1D (aCons (eOp addD (eC (.int 1)) (eCall m_law_pick (aCons (eVar 0) (aCons (eOp addD (eVar 1) (eC (.int 1))) (aCons (eC (.int 3)) aNil))))) aNil)) (gNm 6) tTrue (eOp idxD (eVar 3) (eCall m_law_pick (aCons (eVar 0) (aCons (eOp addD (eOp addD (eVar 1) (eC (.int 2))) (eVar 6)) (aCons (eC (.int 4)) aNil))))) [6])
def d_law_part : SD :=
  (sSeq (sSet 3 (eLst (aCons (eC (.str "a")) (aCons (eC (.str "b")) (aCons (eC (.str "7")) (aCons (eC (.str "0")) aNil)))))) (sSeq (sSet 4 (eCall m_law_pick (aCons (eVar 0) (aCons (eVar 1) (aCons (eC (.int 8)) aNil))))) (sSeq (sIf (tV (eOp ltI (eVar 4) (eC (.int 4)))) (sSeq (sRet (eTup (aCons (eC (.str "word")) (aCons (eOp idxD (eVar 3) (eCall m_law_pick (aCons (eVar 0) (aCons (eOp addD (eVar 1) (eC (.int 1))) (aCons (eC (.int 4)) aNil))))) aNil)))) sNil) sNil) (sSeq (sIf (tV (eOp eqD (eVar 4) (eC (.int 4)))) (sSeq (sSet 5 lc1_law_part) (sSeq (sRet (eTup (aCons (eC (.str "one")) (aCons (eVar 2) (aCons (eCall tupleD (aCons (eCall sortedD (aCons (eCall setD (aCons (eVar 5) aNil)) aNil)) aNil)) aNil))))) sNil)) sNil) (sSeq (sRet (eTup (aCons (eOp idxD (eLst (aCons (eC (.str "any")) (aCons (eC (.str "number")) (aCons (eC (.str "any")) aNil)))) (eOp subD (eVar 4) (eC (.int 5)))) (aCons (eVar 2) aNil)))) sNil)))))
def m_law_part : List D → Res D := fnD 3 7 d_law_part
abbrev lc1_law_pattern : ED :=
  (eLc (iCall rng1D (aCons (eCall m_law_pick (aCons (eVar 0) (aCons (eVar 1) (aCons (eOp addD (eVar 2) (eC (.int 1))) aNil)))) aNil)) (gNm 5) tTrue (eCall m_law_part (aCons (eVar 0) (aCons (eOp addD (eOp addD (eVar 1) (eC (.int 2))) (eOp mulD (eC (.int 5)) (eVar 5))) (aCons (eOp idxD (eVar 3) (eVar 5)) aNil)))) [5])
def d_law_pattern : SD :=
  (sSeq (sSet 3 (eLst (aCons (eC (.str "y")) (aCons (eC (.str "id")) (aCons (eC (.str "z")) (aCons (eC (.str "x")) aNil)))))) (sSeq (sOwn 4 lc1_law_pattern) (sSeq (sIf (tV (eOp eqD (eCall m_law_pick (aCons (eVar 0) (aCons (eOp addD (eVar 1) (eC (.int 1))) (aCons (eC (.int 4)) aNil)))) (eC (.int 0)))) (sSeq (sMet 4 fApp (aCons (eTup (aCons (eC (.str "rest")) (aCons (eC (.str "r")) aNil))) aNil)) sNil) sNil) (sSeq (sRet (eCall tupleD (aCons (eVarB 4) aNil))) sNil))))
def m_law_pattern : List D → Res D := fnD 3 6 d_law_pattern
abbrev lc1_is_number : ED :=
  (eLc (iSrc (eVar 0)) (gNm 1) tTrue (eOp inD (eVar 1) (eC (.str "0123456789"))) [1])
def d_is_number : SD :=
  (sSeq (sRet (eAnd (eCall allD (aCons lc1_is_number aNil)) (eOr (eOp neD (eOp idxD (eVar 0) (eC (.int 0))) (eC (.str "0"))) (eOp eqD (eVar 0) (eC (.str "0")))))) sNil)
def m_is_number : List D → Res D := fnD 1 2 d_is_number
def d_lets : SD :=
  (sSeq (sIf (tV (eOp eqD (eOp idxD (eVar 0) (eC (.int 0))) (eC (.str "word")))) (sSeq (sRet (eOp eqD (eOp idxD (eVar 0) (eC (.int 1))) (eVar 1))) sNil) sNil) (sSeq (sIf (tV (eOp eqD (eOp idxD (eVar 0) (eC (.int 0))) (eC (.str "one")))) (sSeq (sRet (eOp inD (eVar 1) (eOp idxD (eVar 0) (eC (.int 2))))) sNil) sNil) (sSeq (sRet (eOr (eOp eqD (eOp idxD (eVar 0) (eC (.int 0))) (eC (.str "any"))) (eCall m_is_number (aCons (eVar 1) aNil)))) sNil)))
def m_lets : List D → Res D := fnD 2 2 d_lets
def d_has_rest : SD :=
  (sSeq (sRet (eAnd (eOp neD (eVar 0) (eTup aNil)) (eOp eqD (eOp idxD (eOp idxD (eVar 0) (eUn negD (eC (.int 1)))) (eC (.int 0))) (eC (.str "rest"))))) sNil)
def m_has_rest : List D → Res D := fnD 1 1 d_has_rest
def d_fixed_of : SD :=
  (sSeq (sRet (eIf (tV (eCall m_has_rest (aCons (eVar 0) aNil))) (eSl (eVar 0) oNone (oSome (eUn negD (eC (.int 1))))) (eVar 0))) sNil)
def m_fixed_of : List D → Res D := fnD 1 1 d_fixed_of
abbrev lc1_does_match : ED :=
  (eLc (iCall zipD (aCons (eVar 2) (aCons (eVar 1) aNil))) (gTp 2 (gCn (gNm 3) (gCn (gNm 4) gNl))) tTrue (eCall m_lets (aCons (eVar 3) (aCons (eVar 4) aNil))) [3, 4])
def d_does_match : SD :=
  (sSeq (sSet 2 (eCall m_fixed_of (aCons (eVar 0) aNil))) (sSeq (sIf (tOrD (tV (eOp ltI (eCall lenD (aCons (eVar 1) aNil)) (eCall lenD (aCons (eVar 2) aNil)))) (tAndD (tV (eOp gtI (eCall lenD (aCons (eVar 1) aNil)) (eCall lenD (aCons (eVar 2) aNil)))) (tNotD (tV (eCall m_has_rest (aCons (eVar 0) aNil)))))) (sSeq (sRet (eC (.bl false))) sNil) sNil) (sSeq (sRet (eCall allD (aCons lc1_does_match aNil))) sNil)))
def m_does_match : List D → Res D := fnD 2 5 d_does_match
abbrev lc1_is_word : ED :=
  (eLc (iSrc (eVar 0)) (gNm 1) tTrue (eOp inD (eVar 1) (eC (.str "abcdefghijklmnopqrstuvwxyz0123456789-"))) [1])
def d_is_word : SD :=
  (sSeq (sRet (eAnd (eIsT isStr (eVar 0)) (eAnd (eChain leI leI (eC (.int 1)) (eCall lenD (aCons (eVar 0) aNil)) (eC (.int 8))) (eCall allD (aCons lc1_is_word aNil))))) sNil)
def m_is_word : List D → Res D := fnD 1 2 d_is_word
abbrev lc1_holes_of : ED :=
  (eLc (iSrc (eVar 0)) (gNm 1) (tV (eOp neD (eOp idxD (eVar 1) (eC (.int 0))) (eC (.str "word")))) (eOp idxD (eVar 1) (eC (.int 1))) [1])
def d_holes_of : SD :=
  (sSeq (sRet lc1_holes_of) sNil)
def m_holes_of : List D → Res D := fnD 1 2 d_holes_of
def d_law_any_word : SD :=
  (sSeq (sRet (eOp idxD (eLst (aCons (eC (.str "a")) (aCons (eC (.str "b")) (aCons (eC (.str "7")) (aCons (eC (.str "0")) (aCons (eC (.str "new")) (aCons (eC (.str "zz")) (aCons (eC (.str "55")) (aCons (eC (.str "01")) (aCons (eC (.str "-")) aNil)))))))))) (eCall m_law_pick (aCons (eVar 0) (aCons (eVar 1) (aCons (eC (.int 9)) aNil)))))) sNil)
def m_law_any_word : List D → Res D := fnD 2 2 d_law_any_word
abbrev lc2_law_near : ED :=
  (eLc (iCall rng1D (aCons (eCall m_law_pick (aCons (eVar 0) (aCons (eOp addD (eVar 1) (eC (.int 39))) (aCons (eC (.int 3)) aNil)))) aNil)) (gNm 7) tTrue (eCall m_law_any_word (aCons (eVar 0) (aCons (eOp addD (eOp addD (eVar 1) (eC (.int 40))) (eVar 7)) aNil))) [7])
abbrev fb1_law_near : SD :=
  (sSeq (sSet 6 (eCall m_law_pick (aCons (eVar 0) (aCons (eOp addD (eVar 1) (eOp mulD (eC (.int 3)) (eVar 4))) (aCons (eC (.int 9)) aNil))))) (sSeq (sIf (tV (eOp eqD (eOp idxD (eVar 5) (eC (.int 0))) (eC (.str "rest")))) (sSeq (sMet 3 fExt (aCons lc2_law_near aNil)) sNil) (sSeq (sIf (tOrD (tV (eOp eqD (eVar 6) (eC (.int 0)))) (tV (eOp eqD (eOp idxD (eVar 5) (eC (.int 0))) (eC (.str "any"))))) (sSeq (sMet 3 fApp (aCons (eCall m_law_any_word (aCons (eVar 0) (aCons (eOp addD (eOp addD (eVar 1) (eOp mulD (eC (.int 3)) (eVar 4))) (eC (.int 1))) aNil))) aNil)) sNil) (sSeq (sIf (tV (eOp eqD (eOp idxD (eVar 5) (eC (.int 0))) (eC (.str "word")))) (sSeq (sMet 3 fApp (aCons (eOp idxD (eVar 5) (eC (.int 1))) aNil)) sNil) (sSeq (sIf (tV (eOp eqD (eOp idxD (eVar 5) (eC (.int 0))) (eC (.str "number")))) (sSeq (sMet 3 fApp (aCons (eOp idxD (eLst (aCons (eC (.str "7")) (aCons (eC (.str "0")) (aCons (eC (.str "55")) aNil)))) (eCall m_law_pick (aCons (eVar 0) (aCons (eOp addD (eOp addD (eVar 1) (eOp mulD (eC (.int 3)) (eVar 4))) (eC (.int 2))) (aCons (eC (.int 3)) aNil))))) aNil)) sNil) (sSeq (sMet 3 fApp (aCons (eOp idxD (eOp idxD (eVar 5) (eC (.int 2))) (eCall m_law_pick (aCons (eVar 0) (aCons (eOp addD (eOp addD (eVar 1) (eOp mulD (eC (.int 3)) (eVar 4))) (eC (.int 2))) (aCons (eCall lenD (aCons (eOp idxD (eVar 5) (eC (.int 2))) aNil)) aNil))))) aNil)) sNil)) sNil)) sNil)) sNil)) sNil))
def d_law_near : SD :=
  (sSeq (sOwn 3 (eLst aNil)) (sSeq (sFor (iCall enumA (aCons (eVar 2) aNil)) (gTp 2 (gCn (gNm 4) (gCn (gNm 5) gNl))) fb1_law_near) (sSeq (sRet (eCall tupleD (aCons (eVarB 3) aNil))) sNil)))
def m_law_near : List D → Res D := fnD 3 8 d_law_near
abbrev lc1_law_table : ED :=
  (eLc (iCall rng1D (aCons (eVar 5) aNil)) (gNm 6) tTrue (eTup (aCons (eOp idxD (eVar 4) (eVar 6)) (aCons (eCall m_law_pattern (aCons (eVar 0) (aCons (eOp addD (eOp addD (eVar 1) (eC (.int 1))) (eOp mulD (eC (.int 30)) (eVar 6))) (aCons (eVar 2) aNil)))) aNil))) [6])
def d_law_table : SD :=
  (sSeq (sSet 4 (eLst (aCons (eC (.str "t")) (aCons (eC (.str "p")) (aCons (eC (.str "v")) (aCons (eC (.str "q")) (aCons (eC (.str "u")) (aCons (eC (.str "s")) aNil)))))))) (sSeq (sSet 5 (eCall m_law_pick (aCons (eVar 0) (aCons (eVar 1) (aCons (eOp addD (eVar 3) (eC (.int 1))) aNil))))) (sSeq (sRet (eCall tupleD (aCons lc1_law_table aNil))) sNil)))
def m_law_table : List D → Res D := fnD 4 7 d_law_table
abbrev lc1_is_name : ED :=
  (eLc (iSrc (eVar 0)) (gNm 1) tTrue (eOp inD (eVar 1) (eC (.str "abcdefghijklmnopqrstuvwxyz"))) [1])
def d_is_name : SD :=
  (sSeq (sRet (eAnd (eIsT isStr (eVar 0)) (eAnd (eChain leI leI (eC (.int 1)) (eCall lenD (aCons (eVar 0) aNil)) (eC (.int 4))) (eCall allD (aCons lc1_is_name aNil))))) sNil)
def m_is_name : List D → Res D := fnD 1 2 d_is_name
abbrev lc1_are_choices : ED :=
  (eLc (iSrc (eVar 0)) (gNm 1) tTrue (eCall m_is_word (aCons (eVar 1) aNil)) [1])
def d_are_choices : SD :=
  (sSeq (sIf (tOrD (tNotD (tV (eIsT isTup (eVar 0)))) (tNotD (tV (eChain leI leI (eC (.int 1)) (eCall lenD (aCons (eVar 0) aNil)) (eC (.int 4)))))) (sSeq (sRet (eC (.bl false))) sNil) sNil) (sSeq (sRet (eAnd (eCall allD (aCons lc1_are_choices aNil)) (eOp eqD (eCall listD (aCons (eVar 0) aNil)) (eCall sortedD (aCons (eCall setD (aCons (eVar 0) aNil)) aNil))))) sNil))
def m_are_choices : List D → Res D := fnD 1 2 d_are_choices
def d_is_part : SD :=
  (sSeq (sIf (tOrD (tNotD (tV (eIsT isTup (eVar 0)))) (tOrD (tV (eOp ltI (eCall lenD (aCons (eVar 0) aNil)) (eC (.int 2)))) (tNotD (tV (eIsT isStr (eOp idxD (eVar 0) (eC (.int 0)))))))) (sSeq (sRet (eC (.bl false))) sNil) sNil) (sSeq (sIf (tV (eOp eqD (eOp idxD (eVar 0) (eC (.int 0))) (eC (.str "word")))) (sSeq (sRet (eAnd (eOp eqD (eCall lenD (aCons (eVar 0) aNil)) (eC (.int 2))) (eCall m_is_word (aCons (eOp idxD (eVar 0) (eC (.int 1))) aNil)))) sNil) sNil) (sSeq (sIf (tNotD (tV (eCall m_is_name (aCons (eOp idxD (eVar 0) (eC (.int 1))) aNil)))) (sSeq (sRet (eC (.bl false))) sNil) sNil) (sSeq (sIf (tV (eOp eqD (eOp idxD (eVar 0) (eC (.int 0))) (eC (.str "one")))) (sSeq (sRet (eAnd (eOp eqD (eCall lenD (aCons (eVar 0) aNil)) (eC (.int 3))) (eCall m_are_choices (aCons (eOp idxD (eVar 0) (eC (.int 2))) aNil)))) sNil) sNil) (sSeq (sRet (eAnd (eOp eqD (eCall lenD (aCons (eVar 0) aNil)) (eC (.int 2))) (eOp inD (eOp idxD (eVar 0) (eC (.int 0))) (eTup (aCons (eC (.str "any")) (aCons (eC (.str "number")) (aCons (eC (.str "rest")) aNil))))))) sNil)))))
def m_is_part : List D → Res D := fnD 1 1 d_is_part
abbrev lc2_is_pattern : ED :=
  (eLc (iSrc (eVar 0)) (gNm 1) tTrue (eCall m_is_part (aCons (eVar 1) aNil)) [1])
abbrev lc1_is_pattern : ED :=
  (eLc (iSrc (eSl (eVar 0) oNone (oSome (eUn negD (eC (.int 1)))))) (gNm 1) tTrue (eOp eqD (eOp idxD (eVar 1) (eC (.int 0))) (eC (.str "rest"))) [1])
def d_is_pattern : SD :=
  (sSeq (sIf (tOrD (tNotD (tV (eIsT isTup (eVar 0)))) (tOrD (tV (eOp gtI (eCall lenD (aCons (eVar 0) aNil)) (eC (.int 6)))) (tNotD (tV (eCall allD (aCons lc2_is_pattern aNil)))))) (sSeq (sRet (eC (.bl false))) sNil) sNil) (sSeq (sIf (tV (eCall anyD (aCons lc1_is_pattern aNil))) (sSeq (sRet (eC (.bl false))) sNil) sNil) (sSeq (sRet (eOp eqD (eCall lenD (aCons (eCall setD (aCons (eCall m_holes_of (aCons (eVar 0) aNil)) aNil)) aNil)) (eCall lenD (aCons (eCall m_holes_of (aCons (eVar 0) aNil)) aNil)))) sNil)))
def m_is_pattern : List D → Res D := fnD 1 2 d_is_pattern
abbrev lc1_all_rows : ED :=
  (eLc (iSrc (eVar 0)) (gTp 2 (gCn (gNm 2) (gCn (gNm 3) gNl))) (tV (eCall m_does_match (aCons (eVar 3) (aCons (eVar 1) aNil)))) (eVar 2) [2, 3])
def d_all_rows : SD :=
  (sSeq (sRet lc1_all_rows) sNil)
def m_all_rows : List D → Res D := fnD 2 4 d_all_rows
def d_first : SD :=
  (sSeq (sRet (eOp idxD (eOp addD (eCall m_all_rows (aCons (eVar 0) (aCons (eVar 1) aNil))) (eLst (aCons (eC .non) aNil))) (eC (.int 0)))) sNil)
def m_first : List D → Res D := fnD 2 2 d_first
abbrev lc1_law_is_number : ED :=
  (eLc (iSrc (eVar 0)) (gNm 1) (tV (eOp notInD (eVar 1) (eC (.str "0123456789")))) (eVar 1) [1])
def d_law_is_number : SD :=
  (sSeq (sRet (eAnd (eOp eqD lc1_law_is_number (eLst aNil)) (eOr (eOp eqD (eVar 0) (eC (.str "0"))) (eOp neD (eOp idxD (eVar 0) (eC (.int 0))) (eC (.str "0")))))) sNil)
def m_law_is_number : List D → Res D := fnD 1 2 d_law_is_number
def d_law_matched (me : List D → Res D) : SD :=
  (sSeq (sIf (tV (eOp eqD (eVar 0) (eTup aNil))) (sSeq (sRet (eIf (tV (eOp eqD (eVar 1) (eTup aNil))) (eLst aNil) (eC .non))) sNil) sNil) (sSeq (sSet 2 (eOp idxD (eVar 0) (eC (.int 0)))) (sSeq (sIf (tV (eOp eqD (eOp idxD (eVar 2) (eC (.int 0))) (eC (.str "rest")))) (sSeq (sRet (eLst (aCons (eTup (aCons (eOp idxD (eVar 2) (eC (.int 1))) (aCons (eVar 1) aNil))) aNil))) sNil) sNil) (sSeq (sIf (tV (eOp eqD (eVar 1) (eTup aNil))) (sSeq (sRet (eC .non)) sNil) sNil) (sSeq (sSet 3 (eOp idxD (eVar 1) (eC (.int 0)))) (sSeq (sIf (tOrD (tAndD (tV (eOp eqD (eOp idxD (eVar 2) (eC (.int 0))) (eC (.str "word")))) (tV (eOp neD (eOp idxD (eVar 2) (eC (.int 1))) (eVar 3)))) (tAndD (tV (eOp eqD (eOp idxD (eVar 2) (eC (.int 0))) (eC (.str "one")))) (tV (eOp notInD (eVar 3) (eOp idxD (eVar 2) (eC (.int 2))))))) (sSeq (sRet (eC .non)) sNil) sNil) (sSeq (sIf (tAndD (tV (eOp eqD (eOp idxD (eVar 2) (eC (.int 0))) (eC (.str "number")))) (tNotD (tV (eCall m_law_is_number (aCons (eVar 3) aNil))))) (sSeq (sRet (eC .non)) sNil) sNil) (sSeq (sSet 4 (eCall me (aCons (eSl (eVar 0) (oSome (eC (.int 1))) oNone) (aCons (eSl (eVar 1) (oSome (eC (.int 1))) oNone) aNil)))) (sSeq (sIf (tOrD (tV (eOp isD (eVar 4) (eC .non))) (tV (eOp eqD (eOp idxD (eVar 2) (eC (.int 0))) (eC (.str "word"))))) (sSeq (sRetV 4) sNil) sNil) (sSeq (sRet (eOp addD (eLst (aCons (eTup (aCons (eOp idxD (eVar 2) (eC (.int 1))) (aCons (eIf (tV (eOp eqD (eOp idxD (eVar 2) (eC (.int 0))) (eC (.str "number")))) (eCall intD (aCons (eVar 3) aNil)) (eVar 3)) aNil))) aNil)) (eVar 4))) sNil))))))))))
def m_law_matched_ : Nat → List D → Res D
  | 0 => fun _ => .stuck
  | k + 1 => fnD 2 5 (d_law_matched (m_law_matched_ k))
def m_law_matched : List D → Res D := m_law_matched_ 10
abbrev fb2_all_told : SD :=
  (sSeq (sIf (tV (eOp eqD (eOp idxD (eVar 3) (eC (.int 0))) (eC (.str "word")))) (sSeq (sMet 1 fApp (aCons (eOp idxD (eVar 3) (eC (.int 1))) aNil)) sNil) (sSeq (sIf (tV (eOp eqD (eOp idxD (eVar 3) (eC (.int 0))) (eC (.str "one")))) (sSeq (sMet 1 fExt (aCons (eCall listD (aCons (eOp idxD (eVar 3) (eC (.int 2))) aNil)) aNil)) sNil) sNil) sNil)) sNil)
abbrev fb1_all_told : SD :=
  (sSeq (sFor (iSrc (eVar 2)) (gNm 3) fb2_all_told) sNil)
def d_all_told : SD :=
  (sSeq (sOwn 1 (eLst aNil)) (sSeq (sFor (iSrc (eVar 0)) (gNm 2) fb1_all_told) (sSeq (sRet (eCall sortedD (aCons (eCall setD (aCons (eVarB 1) aNil)) aNil))) sNil)))
def m_all_told : List D → Res D := fnD 1 4 d_all_told
abbrev wb1_new_number : SD :=
  (sSeq (sSet 1 (eOp addD (eVar 1) (eC (.int 1)))) sNil)
def d_new_number : SD :=
  (sSeq (sSet 1 (eC (.int 0))) (sSeq (sWhile (fun _ => 1000) (tV (eOp inD (eCall strD (aCons (eVar 1) aNil)) (eVar 0))) wb1_new_number) (sSeq (sRet (eCall strD (aCons (eVar 1) aNil))) sNil)))
def m_new_number : List D → Res D := fnD 1 2 d_new_number
abbrev lc4_new_word : ED :=
  (eLc (iSrc (eC (.str "abcdefghijklmnopqrstuvwxyz"))) (gNm 5) tTrue (eOp addD (eVar 4) (eVar 5)) [5])
abbrev fb2_new_word : SD :=
  (sSeq (sMet 3 fExt (aCons lc4_new_word aNil)) sNil)
abbrev lc3_new_word : ED :=
  (eLc (iSrc (eVarB 3)) (gNm 4) (tV (eOp notInD (eVar 4) (eVar 0))) (eVar 4) [4])
abbrev wb1_new_word : SD :=
  (sSeq (sOwn 3 (eLst aNil)) (sSeq (sFor (iSrc (eVar 1)) (gNm 4) fb2_new_word) (sSeq (sSet 2 lc3_new_word) (sSeq (sFrz 3) (sSeq (sSet 1 (eVar 3)) sNil)))))
def d_new_word : SD :=
  (sSeq (sSet 1 (eLst (aCons (eC (.str "")) aNil))) (sSeq (sSet 2 (eLst aNil)) (sSeq (sWhile (fun _ => 1000) (tV (eOp eqD (eVar 2) (eLst aNil))) wb1_new_word) (sSeq (sRet (eOp idxD (eVar 2) (eC (.int 0)))) sNil))))
def m_new_word : List D → Res D := fnD 1 6 d_new_word
def d_samples : SD :=
  (sSeq (sSet 1 (eCall m_all_told (aCons (eVar 0) aNil))) (sSeq (sRet (eOp addD (eVar 1) (eLst (aCons (eCall m_new_number (aCons (eVar 1) aNil)) (aCons (eCall m_new_word (aCons (eVar 1) aNil)) aNil))))) sNil))
def m_samples : List D → Res D := fnD 1 2 d_samples
abbrev fb1_matched_now : SD :=
  (sSeq (sSet 5 (eCall lenD (aCons (eCall m_fixed_of (aCons (eOp idxD (eVar 0) (eVar 4)) aNil)) aNil))) (sSeq (sIf (tOrD (tV (eOp eqD (eVar 2) (eVar 5))) (tAndD (tV (eOp gtI (eVar 2) (eVar 5))) (tV (eCall m_has_rest (aCons (eOp idxD (eVar 0) (eVar 4)) aNil))))) (sSeq (sMet 3 fApp (aCons (eVar 4) aNil)) sNil) sNil) sNil))
def d_matched_now : SD :=
  (sSeq (sOwn 3 (eLst aNil)) (sSeq (sFor (iSrc (eVar 1)) (gNm 4) fb1_matched_now) (sSeq (sRetV 3) sNil)))
def m_matched_now : List D → Res D := fnD 3 6 d_matched_now
abbrev fb1_gone_on : SD :=
  (sSeq (sSet 6 (eCall m_fixed_of (aCons (eOp idxD (eVar 0) (eVar 5)) aNil))) (sSeq (sIf (tOrD (tAndD (tV (eOp ltI (eVar 2) (eCall lenD (aCons (eVar 6) aNil)))) (tV (eCall m_lets (aCons (eOp idxD (eVar 6) (eVar 2)) (aCons (eVar 3) aNil))))) (tAndD (tV (eOp geI (eVar 2) (eCall lenD (aCons (eVar 6) aNil)))) (tV (eCall m_has_rest (aCons (eOp idxD (eVar 0) (eVar 5)) aNil))))) (sSeq (sMet 4 fApp (aCons (eVar 5) aNil)) sNil) sNil) sNil))
def d_gone_on : SD :=
  (sSeq (sOwn 4 (eLst aNil)) (sSeq (sFor (iSrc (eVar 1)) (gNm 5) fb1_gone_on) (sSeq (sRet (eCall tupleD (aCons (eVarB 4) aNil))) sNil)))
def m_gone_on : List D → Res D := fnD 4 7 d_gone_on
abbrev fb1_matched : SD :=
  (sSeq (sIf (tV (eOp eqD (eOp idxD (eVar 4) (eC (.int 0))) (eC (.str "number")))) (sSeq (sMet 2 fApp (aCons (eTup (aCons (eOp idxD (eVar 4) (eC (.int 1))) (aCons (eCall intD (aCons (eVar 5) aNil)) aNil))) aNil)) sNil) (sSeq (sIf (tV (eOp neD (eOp idxD (eVar 4) (eC (.int 0))) (eC (.str "word")))) (sSeq (sMet 2 fApp (aCons (eTup (aCons (eOp idxD (eVar 4) (eC (.int 1))) (aCons (eVar 5) aNil))) aNil)) sNil) sNil) sNil)) sNil)
def d_matched : SD :=
  (sSeq (sIf (tNotD (tV (eCall m_does_match (aCons (eVar 0) (aCons (eVar 1) aNil))))) (sSeq (sRet (eC .non)) sNil) sNil) (sSeq (sOwn 2 (eLst aNil)) (sSeq (sSet 3 (eCall m_fixed_of (aCons (eVar 0) aNil))) (sSeq (sFor (iCall zipD (aCons (eVar 3) (aCons (eVar 1) aNil))) (gTp 2 (gCn (gNm 4) (gCn (gNm 5) gNl))) fb1_matched) (sSeq (sIf (tV (eCall m_has_rest (aCons (eVar 0) aNil))) (sSeq (sMet 2 fApp (aCons (eTup (aCons (eOp idxD (eOp idxD (eVar 0) (eUn negD (eC (.int 1)))) (eC (.int 1))) (aCons (eSl (eVar 1) (oSome (eCall lenD (aCons (eVar 3) aNil))) oNone) aNil))) aNil)) sNil) sNil) (sSeq (sRetV 2) sNil))))))
def m_matched : List D → Res D := fnD 2 6 d_matched
def d_is_row : SD :=
  (sSeq (sRet (eAnd (eIsT isTup (eVar 0)) (eAnd (eOp eqD (eCall lenD (aCons (eVar 0) aNil)) (eC (.int 2))) (eAnd (eCall m_is_name (aCons (eOp idxD (eVar 0) (eC (.int 0))) aNil)) (eCall m_is_pattern (aCons (eOp idxD (eVar 0) (eC (.int 1))) aNil)))))) sNil)
def m_is_row : List D → Res D := fnD 1 1 d_is_row
abbrev lc1_is_table : ED :=
  (eLc (iSrc (eVar 0)) (gNm 1) tTrue (eCall m_is_row (aCons (eVar 1) aNil)) [1])
abbrev lc2_is_table : ED :=
  (eLc (iSrc (eVar 0)) (gNm 1) tTrue (eOp idxD (eVar 1) (eC (.int 0))) [1])
def d_is_table : SD :=
  (sSeq (sIf (tOrD (tNotD (tV (eIsT isTup (eVar 0)))) (tOrD (tV (eOp gtI (eCall lenD (aCons (eVar 0) aNil)) (eC (.int 8)))) (tNotD (tV (eCall allD (aCons lc1_is_table aNil)))))) (sSeq (sRet (eC (.bl false))) sNil) sNil) (sSeq (sRet (eOp eqD (eCall lenD (aCons (eCall setD (aCons lc2_is_table aNil)) aNil)) (eCall lenD (aCons (eVar 0) aNil)))) sNil))
def m_is_table : List D → Res D := fnD 1 2 d_is_table
abbrev lc1_is_address : ED :=
  (eLc (iSrc (eVar 0)) (gNm 1) tTrue (eCall m_is_word (aCons (eVar 1) aNil)) [1])
def d_is_address : SD :=
  (sSeq (sRet (eAnd (eIsT isTup (eVar 0)) (eAnd (eOp leI (eCall lenD (aCons (eVar 0) aNil)) (eC (.int 8))) (eCall allD (aCons lc1_is_address aNil))))) sNil)
def m_is_address : List D → Res D := fnD 1 2 d_is_address
abbrev fb1_pattern_of : SD :=
  (sSeq (sIf (tV (eOp eqD (eOp idxD (eVar 2) (eC (.int 0))) (eVar 1))) (sSeq (sRet (eOp idxD (eVar 2) (eC (.int 1)))) sNil) sNil) sNil)
def d_pattern_of : SD :=
  (sSeq (sFor (iSrc (eVar 0)) (gNm 2) fb1_pattern_of) (sSeq (sRaise "NoRow") sNil))
def m_pattern_of : List D → Res D := fnD 2 3 d_pattern_of
def d_law_word : SD :=
  (sSeq (sOwn 1 (eLst (aCons (eIsE (subB ["BadLead", "BadValues", "NoRow", "NoText", "Taken", "TooMany"] "BadLead") (eVar 0)) (aCons (eIsE (subB ["BadLead", "BadValues", "NoRow", "NoText", "Taken", "TooMany"] "BadValues") (eVar 0)) (aCons (eIsE (subB ["BadLead", "BadValues", "NoRow", "NoText", "Taken", "TooMany"] "NoRow") (eVar 0)) (aCons (eIsE (subB ["BadLead", "BadValues", "NoRow", "NoText", "Taken", "TooMany"] "NoText") (eVar 0)) aNil)))))) (sSeq (sMet 1 fExt (aCons (eLst (aCons (eIsE (subB ["BadLead", "BadValues", "NoRow", "NoText", "Taken", "TooMany"] "Taken") (eVar 0)) (aCons (eIsE (subB ["BadLead", "BadValues", "NoRow", "NoText", "Taken", "TooMany"] "TooMany") (eVar 0)) aNil))) aNil)) (sSeq (sIf (tOrD (tV (eOp neD (eMet "list" cntD (eVarB 1) (aCons (eC (.bl true)) aNil)) (eC (.int 1)))) (tNotD (tV (eIsE (subV ["BadLead", "BadValues", "NoRow", "NoText", "Taken", "TooMany"]) (eVar 0))))) (sSeq (sRet (eC (.str "wrong"))) sNil) sNil) (sSeq (sRet (eOp idxD (eLst (aCons (eC (.str "bad lead")) (aCons (eC (.str "bad values")) (aCons (eC (.str "no row")) (aCons (eC (.str "no text")) (aCons (eC (.str "taken")) (aCons (eC (.str "too many")) aNil))))))) (eMet "list" lixD (eVarB 1) (aCons (eC (.bl true)) aNil)))) sNil))))
def m_law_word : List D → Res D := fnD 1 2 d_law_word
def d_law_class : SD :=
  (sSeq (sSet 1 (eLst (aCons (eIsE (subB ["BadLead", "BadValues", "NoBack", "NoHole", "NoRow", "NoSite", "NoText", "Taken", "TooMany"] "BadLead") (eVar 0)) (aCons (eIsE (subB ["BadLead", "BadValues", "NoBack", "NoHole", "NoRow", "NoSite", "NoText", "Taken", "TooMany"] "BadValues") (eVar 0)) (aCons (eIsE (subB ["BadLead", "BadValues", "NoBack", "NoHole", "NoRow", "NoSite", "NoText", "Taken", "TooMany"] "NoBack") (eVar 0)) aNil))))) (sSeq (sSet 1 (eOp addD (eVar 1) (eLst (aCons (eIsE (subB ["BadLead", "BadValues", "NoBack", "NoHole", "NoRow", "NoSite", "NoText", "Taken", "TooMany"] "NoHole") (eVar 0)) (aCons (eIsE (subB ["BadLead", "BadValues", "NoBack", "NoHole", "NoRow", "NoSite", "NoText", "Taken", "TooMany"] "NoRow") (eVar 0)) (aCons (eIsE (subB ["BadLead", "BadValues", "NoBack", "NoHole", "NoRow", "NoSite", "NoText", "Taken", "TooMany"] "NoSite") (eVar 0)) aNil)))))) (sSeq (sSet 1 (eOp addD (eVar 1) (eLst (aCons (eIsE (subB ["BadLead", "BadValues", "NoBack", "NoHole", "NoRow", "NoSite", "NoText", "Taken", "TooMany"] "NoText") (eVar 0)) (aCons (eIsE (subB ["BadLead", "BadValues", "NoBack", "NoHole", "NoRow", "NoSite", "NoText", "Taken", "TooMany"] "Taken") (eVar 0)) (aCons (eIsE (subB ["BadLead", "BadValues", "NoBack", "NoHole", "NoRow", "NoSite", "NoText", "Taken", "TooMany"] "TooMany") (eVar 0)) aNil)))))) (sSeq (sIf (tOrD (tV (eOp neD (eMet "list" cntD (eVar 1) (aCons (eC (.bl true)) aNil)) (eC (.int 1)))) (tNotD (tV (eIsE (subV ["BadLead", "BadValues", "NoBack", "NoHole", "NoRow", "NoSite", "NoText", "Taken", "TooMany"]) (eVar 0))))) (sSeq (sRet (eC (.str "wrong"))) sNil) sNil) (sSeq (sSet 2 (eLst (aCons (eC (.str "bad lead")) (aCons (eC (.str "bad values")) (aCons (eC (.str "no back")) (aCons (eC (.str "no hole")) (aCons (eC (.str "no row")) (aCons (eC (.str "no site")) (aCons (eC (.str "no text")) (aCons (eC (.str "taken")) (aCons (eC (.str "too many")) aNil))))))))))) (sSeq (sRet (eOp idxD (eVar 2) (eMet "list" lixD (eVar 1) (aCons (eC (.bl true)) aNil)))) sNil))))))
def m_law_class : List D → Res D := fnD 1 3 d_law_class
def d_word_for : SD :=
  (sSeq (sIf (tV (eOp eqD (eOp idxD (eVar 0) (eC (.int 0))) (eC (.str "word")))) (sSeq (sRet (eOp idxD (eVar 0) (eC (.int 1)))) sNil) sNil) (sSeq (sIf (tV (eOp neD (eOp idxD (eVar 0) (eC (.int 0))) (eC (.str "number")))) (sSeq (sRetV 1) sNil) sNil) (sSeq (sIf (tOrD (tNotD (tV (eIsT isInt (eVar 1)))) (tOrD (tV (eIsT isBool (eVar 1))) (tV (eOp ltI (eVar 1) (eC (.int 0)))))) (sSeq (sRaise "BadValues") sNil) sNil) (sSeq (sRet (eCall strD (aCons (eVar 1) aNil))) sNil))))
def m_word_for : List D → Res D := fnD 2 2 d_word_for
abbrev lc2_built : ED :=
  (eLc (iSrc (eVar 1)) (gTp 2 (gCn (gNm 6) (gCn (gNm 7) gNl))) tTrue (eVar 6) [6, 7])
abbrev lc1_built : ED :=
  (eLcX (iSrc (eCall m_fixed_of (aCons (eVar 0) aNil))) (gNm 5) tTrue (eCall m_word_for (aCons (eVar 5) (aCons (eGet (eVar 2) (eOp idxD (eVar 5) (eC (.int 1)))) aNil))) [5])
def d_built : SD :=
  (sSeq (sIf (tV (eOp neD (eCall sortedD (aCons lc2_built aNil)) (eCall sortedD (aCons (eCall m_holes_of (aCons (eVar 0) aNil)) aNil)))) (sSeq (sRaise "BadValues") sNil) sNil) (sSeq (sSet 2 (eCall dictD (aCons (eVar 1) aNil))) (sSeq (sSet 3 (eCall tupleD (aCons lc1_built aNil))) (sSeq (sIf (tV (eCall m_has_rest (aCons (eVar 0) aNil))) (sSeq (sSet 4 (eOp idxD (eVar 2) (eOp idxD (eOp idxD (eVar 0) (eUn negD (eC (.int 1)))) (eC (.int 1))))) (sSeq (sIf (tNotD (tV (eIsT isTup (eVar 4)))) (sSeq (sRaise "BadValues") sNil) sNil) (sSeq (sSet 3 (eOp addD (eVar 3) (eVar 4))) sNil))) sNil) (sSeq (sIf (tOrD (tNotD (tV (eCall m_is_address (aCons (eVar 3) aNil)))) (tNotD (tV (eCall m_does_match (aCons (eVar 0) (aCons (eVar 3) aNil)))))) (sSeq (sRaise "BadValues") sNil) sNil) (sSeq (sRetV 3) sNil))))))
def m_built : List D → Res D := fnD 2 8 d_built
abbrev lc3_all_addresses : ED :=
  (eLc (iSrc (eVar 0)) (gNm 6) tTrue (eOp addD (eVar 5) (eTup (aCons (eVar 6) aNil))) [6])
abbrev fb2_all_addresses : SD :=
  (sSeq (sMet 4 fExt (aCons lc3_all_addresses aNil)) sNil)
abbrev fb1_all_addresses : SD :=
  (sSeq (sOwn 4 (eLst aNil)) (sSeq (sFor (iSrc (eVar 2)) (gNm 5) fb2_all_addresses) (sSeq (sFrz 4) (sSeq (sSet 2 (eVar 4)) sNil))))
def d_all_addresses : SD :=
  (sSeq (sSet 2 (eLst (aCons (eTup aNil) aNil))) (sSeq (sFor (iCall rng1D (aCons (eVar 1) aNil)) (gNm 3) fb1_all_addresses) (sSeq (sRetV 2) sNil)))
def m_all_addresses : List D → Res D := fnD 2 7 d_all_addresses
abbrev lc1_tallies : ED :=
  (eLc (iSrc (eCall m_all_addresses (aCons (eVar 1) (aCons (eVar 2) aNil)))) (gNm 4) tTrue (eCall m_first (aCons (eVar 0) (aCons (eVar 4) aNil))) [4])
abbrev lc2_tallies : ED :=
  (eLc (iSrc (eVar 0)) (gTp 2 (gCn (gNm 5) (gCn (gNm 6) gNl))) tTrue (eTup (aCons (eVar 5) (aCons (eMet "list" cntD (eVar 3) (aCons (eVar 5) aNil)) aNil))) [5, 6])
def d_tallies : SD :=
  (sSeq (sSet 3 lc1_tallies) (sSeq (sRet (eOp addD lc2_tallies (eLst (aCons (eTup (aCons (eC .non) (aCons (eMet "list" cntD (eVar 3) (aCons (eC .non) aNil)) aNil))) aNil)))) sNil))
def m_tallies : List D → Res D := fnD 3 7 d_tallies
abbrev fb3_law_every : SD :=
  (sSeq (sIf (tV (eOp eqD (eOp idxD (eVar 7) (eC (.int 0))) (eC (.str "word")))) (sSeq (sMet 2 fApp (aCons (eOp idxD (eVar 7) (eC (.int 1))) aNil)) sNil) sNil) (sSeq (sIf (tV (eOp eqD (eOp idxD (eVar 7) (eC (.int 0))) (eC (.str "one")))) (sSeq (sMet 2 fExt (aCons (eCall listD (aCons (eOp idxD (eVar 7) (eC (.int 2))) aNil)) aNil)) sNil) sNil) sNil))
abbrev fb1_law_every : SD :=
  (sSeq (sFor (iSrc (eVar 3)) (gNm 7) fb3_law_every) sNil)
abbrev lc5_law_every : ED :=
  (eLc (iSrc (eVar 2)) (gNm 10) tTrue (eOp addD (eVar 9) (eTup (aCons (eVar 10) aNil))) [10])
abbrev fb4_law_every : SD :=
  (sSeq (sMet 8 fExt (aCons lc5_law_every aNil)) sNil)
abbrev fb2_law_every : SD :=
  (sSeq (sOwn 8 (eLst aNil)) (sSeq (sFor (iSrc (eVar 4)) (gNm 9) fb4_law_every) (sSeq (sFrz 8) (sSeq (sSet 4 (eVar 8)) (sSeq (sMet 5 fExt (aCons (eVar 4) aNil)) sNil)))))
def d_law_every : SD :=
  (sSeq (sOwn 2 (eLst (aCons (eC (.str "zz")) (aCons (eC (.str "55")) aNil)))) (sSeq (sFor (iSrc (eVar 0)) (gNm 3) fb1_law_every) (sSeq (sSet 2 (eCall sortedD (aCons (eCall setD (aCons (eVarB 2) aNil)) aNil))) (sSeq (sSet 4 (eLst (aCons (eTup aNil) aNil))) (sSeq (sOwn 5 (eLst (aCons (eTup aNil) aNil))) (sSeq (sFor (iCall rng1D (aCons (eVar 1) aNil)) (gNm 6) fb2_law_every) (sSeq (sRetV 5) sNil)))))))
def m_law_every : List D → Res D := fnD 2 11 d_law_every
def d_look_hole : SD :=
  (sSeq (sIf (tV (eOp notInD (eVar 1) (eCall m_holes_of (aCons (eVar 0) aNil)))) (sSeq (sRaise "NoHole") sNil) sNil) sNil)
def m_look_hole : List D → Res D := fnD 2 2 d_look_hole
abbrev lc1_law_deed : ED :=
  (eLc (iSrc (eVar 6)) (gNm 8) tTrue (eTup (aCons (eOp addD (eVar 7) (eOp idxD (eVar 8) (eC (.int 0)))) (aCons (eOp idxD (eVar 8) (eC (.int 1))) aNil))) [8])
def d_law_deed : SD :=
  (sSeq (sSet 2 (eLst (aCons (eC (.str "a")) (aCons (eC (.str "b")) (aCons (eC (.str "home")) (aCons (eC (.str "x")) aNil)))))) (sSeq (sPar 4 5 (aCons (eOp idxD (eVar 2) (eCall m_law_pick (aCons (eVar 0) (aCons (eVar 1) (aCons (eC (.int 4)) aNil))))) (aCons (eCall m_law_pick (aCons (eVar 0) (aCons (eOp addD (eVar 1) (eC (.int 1))) (aCons (eC (.int 6)) aNil)))) aNil))) (sSeq (sIf (tV (eOp ltI (eVar 5) (eC (.int 3)))) (sSeq (sSet 6 (eCall m_law_table (aCons (eVar 0) (aCons (eOp addD (eVar 1) (eC (.int 10))) (aCons (eC (.int 2)) (aCons (eC (.int 3)) aNil)))))) (sSeq (sSet 7 (eOp idxD (eC (.str "abcdefgh")) (eCall m_law_pick (aCons (eVar 0) (aCons (eOp addD (eVar 1) (eC (.int 3))) (aCons (eC (.int 3)) aNil)))))) (sSeq (sRet (eTup (aCons (eC (.str "put")) (aCons (eVar 4) (aCons (eCall tupleD (aCons lc1_law_deed aNil)) aNil))))) sNil))) sNil) (sSeq (sIf (tV (eOp eqD (eVar 5) (eC (.int 3)))) (sSeq (sRet (eTup (aCons (eC (.str "take")) (aCons (eVar 4) aNil)))) sNil) sNil) (sSeq (sSet 3 (eCall m_law_pattern (aCons (eVar 0) (aCons (eOp addD (eVar 1) (eC (.int 200))) (aCons (eC (.int 2)) aNil))))) (sSeq (sRet (eTup (aCons (eC (.str "mount")) (aCons (eVar 4) (aCons (eVar 3) (aCons (eOp idxD (eVar 2) (eCall m_law_pick (aCons (eVar 0) (aCons (eOp addD (eVar 1) (eC (.int 4))) (aCons (eC (.int 4)) aNil))))) aNil)))))) sNil))))))
def m_law_deed : List D → Res D := fnD 2 9 d_law_deed
def d_led : SD :=
  (sSeq (sSet 2 (eCall m_first (aCons (eVar 0) (aCons (eVar 1) aNil)))) (sSeq (sIf (tV (eOp isD (eVar 2) (eC .non))) (sSeq (sRet (eC .non)) sNil) sNil) (sSeq (sRet (eTup (aCons (eVar 2) (aCons (eCall m_matched (aCons (eCall m_pattern_of (aCons (eVar 0) (aCons (eVar 2) aNil))) (aCons (eVar 1) aNil))) aNil)))) sNil)))
def m_led : List D → Res D := fnD 2 3 d_led
abbrev fb1_mounted : SD :=
  (sSeq (sSet 5 (eOp addD (eVar 0) (eVar 4))) (sSeq (sIf (tNotD (tV (eCall m_is_pattern (aCons (eVar 5) aNil)))) (sSeq (sRaise "TooMany") sNil) sNil) (sSeq (sMet 2 fApp (aCons (eTup (aCons (eVar 3) (aCons (eVar 5) aNil))) aNil)) sNil)))
def d_mounted : SD :=
  (sSeq (sOwn 2 (eLst aNil)) (sSeq (sFor (iSrc (eVar 1)) (gTp 2 (gCn (gNm 3) (gCn (gNm 4) gNl))) fb1_mounted) (sSeq (sRet (eCall tupleD (aCons (eVarB 2) aNil))) sNil)))
def m_mounted : List D → Res D := fnD 2 6 d_mounted
def d_behind_word : SD :=
  (sSeq (sIf (tV (eOp eqD (eVar 0) (eTup aNil))) (sSeq (sRet (eC .non)) sNil) sNil) (sSeq (sIf (tV (eOp eqD (eOp idxD (eOp idxD (eVar 0) (eC (.int 0))) (eC (.int 0))) (eC (.str "rest")))) (sSeq (sRetV 0) sNil) sNil) (sSeq (sRet (eIf (tV (eCall m_lets (aCons (eOp idxD (eVar 0) (eC (.int 0))) (aCons (eVar 1) aNil)))) (eSl (eVar 0) (oSome (eC (.int 1))) oNone) (eC .non))) sNil)))
def m_behind_word : List D → Res D := fnD 2 2 d_behind_word
abbrev fb1_below : SD :=
  (sSeq (sSet 5 (eCall m_behind_word (aCons (eVar 4) (aCons (eVar 1) aNil)))) (sSeq (sIf (tV (eOp isNotD (eVar 5) (eC .non))) (sSeq (sMet 2 fApp (aCons (eTup (aCons (eVar 3) (aCons (eVar 5) aNil))) aNil)) sNil) sNil) sNil))
def d_below : SD :=
  (sSeq (sOwn 2 (eLst aNil)) (sSeq (sFor (iSrc (eVar 0)) (gTp 2 (gCn (gNm 3) (gCn (gNm 4) gNl))) fb1_below) (sSeq (sRet (eCall tupleD (aCons (eVarB 2) aNil))) sNil)))
def m_below : List D → Res D := fnD 2 6 d_below
abbrev lc1_does_fit : ED :=
  (eLc (iSrc (eOp idxD (eVar 0) (eC (.int 2)))) (gNm 2) tTrue (eOp inD (eVar 2) (eOp idxD (eVar 1) (eC (.int 2)))) [2])
def d_does_fit : SD :=
  (sSeq (sIf (tOrD (tV (eOp eqD (eOp idxD (eVar 0) (eC (.int 0))) (eC (.str "rest")))) (tV (eOp eqD (eOp idxD (eVar 1) (eC (.int 0))) (eC (.str "rest"))))) (sSeq (sRet (eOp eqD (eOp idxD (eVar 0) (eC (.int 0))) (eOp idxD (eVar 1) (eC (.int 0))))) sNil) sNil) (sSeq (sIf (tV (eOp eqD (eOp idxD (eVar 1) (eC (.int 0))) (eC (.str "any")))) (sSeq (sRet (eOp neD (eOp idxD (eVar 0) (eC (.int 0))) (eC (.str "number")))) sNil) sNil) (sSeq (sIf (tV (eOp eqD (eOp idxD (eVar 1) (eC (.int 0))) (eC (.str "number")))) (sSeq (sRet (eOp eqD (eOp idxD (eVar 0) (eC (.int 0))) (eC (.str "number")))) sNil) sNil) (sSeq (sRet (eAnd (eOp eqD (eOp idxD (eVar 0) (eC (.int 0))) (eC (.str "one"))) (eCall allD (aCons lc1_does_fit aNil)))) sNil))))
def m_does_fit : List D → Res D := fnD 2 3 d_does_fit
abbrev lc1_part_by : ED :=
  (eLc (iSrc (eVar 0)) (gNm 2) (tAndD (tV (eOp neD (eOp idxD (eVar 2) (eC (.int 0))) (eC (.str "word")))) (tV (eOp eqD (eOp idxD (eVar 2) (eC (.int 1))) (eVar 1)))) (eVar 2) [2])
def d_part_by : SD :=
  (sSeq (sRet (eOp idxD lc1_part_by (eC (.int 0)))) sNil)
def m_part_by : List D → Res D := fnD 2 3 d_part_by
abbrev lc2_is_lead : ED :=
  (eLc (iSrc (eCall m_holes_of (aCons (eOp idxD (eVar 0) (eC (.int 2))) aNil))) (gNm 1) tTrue (eOp inD (eVar 1) (eCall m_holes_of (aCons (eOp idxD (eVar 0) (eC (.int 1))) aNil))) [1])
abbrev lc1_is_lead : ED :=
  (eLc (iSrc (eCall m_holes_of (aCons (eOp idxD (eVar 0) (eC (.int 2))) aNil))) (gNm 1) tTrue (eCall m_does_fit (aCons (eCall m_part_by (aCons (eOp idxD (eVar 0) (eC (.int 1))) (aCons (eVar 1) aNil))) (aCons (eCall m_part_by (aCons (eOp idxD (eVar 0) (eC (.int 2))) (aCons (eVar 1) aNil))) aNil))) [1])
def d_is_lead : SD :=
  (sSeq (sIf (tOrD (tNotD (tV (eIsT isTup (eVar 0)))) (tOrD (tV (eOp neD (eCall lenD (aCons (eVar 0) aNil)) (eC (.int 3)))) (tNotD (tV (eCall m_is_name (aCons (eOp idxD (eVar 0) (eC (.int 0))) aNil)))))) (sSeq (sRet (eC (.bl false))) sNil) sNil) (sSeq (sIf (tOrD (tNotD (tV (eCall m_is_pattern (aCons (eOp idxD (eVar 0) (eC (.int 1))) aNil)))) (tNotD (tV (eCall m_is_pattern (aCons (eOp idxD (eVar 0) (eC (.int 2))) aNil))))) (sSeq (sRet (eC (.bl false))) sNil) sNil) (sSeq (sIf (tNotD (tV (eCall allD (aCons lc2_is_lead aNil)))) (sSeq (sRet (eC (.bl false))) sNil) sNil) (sSeq (sRet (eCall allD (aCons lc1_is_lead aNil))) sNil))))
def m_is_lead : List D → Res D := fnD 1 2 d_is_lead
abbrev lc1_are_leads : ED :=
  (eLc (iSrc (eVar 0)) (gNm 1) tTrue (eCall m_is_lead (aCons (eVar 1) aNil)) [1])
abbrev lc2_are_leads : ED :=
  (eLc (iSrc (eVar 0)) (gNm 1) tTrue (eOp idxD (eVar 1) (eC (.int 0))) [1])
def d_are_leads : SD :=
  (sSeq (sIf (tOrD (tNotD (tV (eIsT isTup (eVar 0)))) (tOrD (tV (eOp gtI (eCall lenD (aCons (eVar 0) aNil)) (eC (.int 6)))) (tNotD (tV (eCall allD (aCons lc1_are_leads aNil)))))) (sSeq (sRet (eC (.bl false))) sNil) sNil) (sSeq (sRet (eOp eqD (eCall lenD (aCons (eCall setD (aCons lc2_are_leads aNil)) aNil)) (eCall lenD (aCons (eVar 0) aNil)))) sNil))
def m_are_leads : List D → Res D := fnD 1 2 d_are_leads
abbrev lc3_narrowed : ED :=
  (eLc (iSrc (eVar 2)) (gNm 5) tTrue (eCall m_is_word (aCons (eVar 5) aNil)) [5])
abbrev lc2_narrowed : ED :=
  (eLc (iSrc (eVar 2)) (gNm 5) tTrue (eTup (aCons (eC (.str "word")) (aCons (eVar 5) aNil))) [5])
abbrev fb1_narrowed : SD :=
  (sSeq (sIf (tOrD (tV (eOp eqD (eOp idxD (eVar 4) (eC (.int 0))) (eC (.str "word")))) (tV (eOp neD (eOp idxD (eVar 4) (eC (.int 1))) (eVar 1)))) (sSeq (sMet 3 fApp (aCons (eVar 4) aNil)) sNil) (sSeq (sIf (tV (eOp eqD (eOp idxD (eVar 4) (eC (.int 0))) (eC (.str "rest")))) (sSeq (sIf (tOrD (tNotD (tV (eIsT isTup (eVar 2)))) (tNotD (tV (eCall allD (aCons lc3_narrowed aNil))))) (sSeq (sRaise "BadValues") sNil) sNil) (sSeq (sMet 3 fExt (aCons lc2_narrowed aNil)) sNil)) (sSeq (sIf (tOrD (tNotD (tV (eCall m_is_word (aCons (eVar 2) aNil)))) (tNotD (tV (eCall m_lets (aCons (eVar 4) (aCons (eVar 2) aNil)))))) (sSeq (sRaise "BadValues") sNil) sNil) (sSeq (sMet 3 fApp (aCons (eTup (aCons (eC (.str "word")) (aCons (eVar 2) aNil))) aNil)) sNil))) sNil)) sNil)
def d_narrowed : SD :=
  (sSeq (sDrop (eCall m_look_hole (aCons (eVar 0) (aCons (eVar 1) aNil)))) (sSeq (sOwn 3 (eLst aNil)) (sSeq (sFor (iSrc (eVar 0)) (gNm 4) fb1_narrowed) (sSeq (sIf (tNotD (tV (eCall m_is_pattern (aCons (eCall tupleD (aCons (eVarB 3) aNil)) aNil)))) (sSeq (sRaise "TooMany") sNil) sNil) (sSeq (sRet (eCall tupleD (aCons (eVarB 3) aNil))) sNil)))))
def m_narrowed : List D → Res D := fnD 3 6 d_narrowed
def d_swapped : SD :=
  (sSeq (sRet (eOp addD (eOp addD (eSl (eVar 0) oNone (oSome (eVar 1))) (eTup (aCons (eOp idxD (eVar 0) (eOp addD (eVar 1) (eC (.int 1)))) (aCons (eOp idxD (eVar 0) (eVar 1)) aNil)))) (eSl (eVar 0) (oSome (eOp addD (eVar 1) (eC (.int 2)))) oNone))) sNil)
def m_swapped : List D → Res D := fnD 2 2 d_swapped
abbrev lc1_joined : ED :=
  (eLc (iSrc (eOp addD (eVar 0) (eVar 1))) (gNm 3) tTrue (eOp idxD (eVar 3) (eC (.int 0))) [3])
def d_joined : SD :=
  (sSeq (sSet 2 lc1_joined) (sSeq (sIf (tOrD (tV (eOp gtI (eCall lenD (aCons (eVar 2) aNil)) (eC (.int 8)))) (tV (eOp ltI (eCall lenD (aCons (eCall setD (aCons (eVar 2) aNil)) aNil)) (eCall lenD (aCons (eVar 2) aNil))))) (sSeq (sRaise "TooMany") sNil) sNil) (sSeq (sRet (eOp addD (eVar 0) (eVar 1))) sNil)))
def m_joined : List D → Res D := fnD 2 4 d_joined
def d_law_spoilt : SD :=
  (sSeq (sSet 3 (eOp modD (eVar 1) (eOp addD (eCall lenD (aCons (eVar 0) aNil)) (eC (.int 1))))) (sSeq (sSet 4 (eOp idxD (eVar 2) (eOp modD (eOp fdivD (eVar 1) (eC (.int 1000))) (eCall lenD (aCons (eVar 2) aNil))))) (sSeq (sSet 5 (eOp addD (eOp addD (eVar 3) (eC (.int 1))) (eOp modD (eOp fdivD (eVar 1) (eC (.int 7))) (eC (.int 9))))) (sSeq (sSet 6 (eOp modD (eOp fdivD (eVar 1) (eC (.int 100000))) (eC (.int 8)))) (sSeq (sIf (tV (eOp ltI (eVar 6) (eC (.int 2)))) (sSeq (sRet (eOp addD (eOp addD (eSl (eVar 0) oNone (oSome (eVar 3))) (eVar 4)) (eSl (eVar 0) (oSome (eVar 3)) oNone))) sNil) sNil) (sSeq (sIf (tV (eOp eqD (eVar 6) (eC (.int 2)))) (sSeq (sRet (eOp addD (eSl (eVar 0) oNone (oSome (eVar 3))) (eSl (eVar 0) (oSome (eOp addD (eVar 3) (eC (.int 1)))) oNone))) sNil) sNil) (sSeq (sIf (tV (eOp ltI (eVar 6) (eC (.int 5)))) (sSeq (sRet (eOp addD (eOp addD (eSl (eVar 0) oNone (oSome (eVar 3))) (eVar 4)) (eSl (eVar 0) (oSome (eOp addD (eVar 3) (eC (.int 1)))) oNone))) sNil) sNil) (sSeq (sIf (tV (eOp eqD (eVar 6) (eC (.int 5)))) (sSeq (sRet (eOp addD (eSl (eVar 0) oNone (oSome (eVar 3))) (eSl (eVar 0) (oSome (eVar 5)) oNone))) sNil) sNil) (sSeq (sIf (tV (eOp eqD (eVar 6) (eC (.int 6)))) (sSeq (sRet (eOp addD (eSl (eVar 0) oNone (oSome (eVar 5))) (eSl (eVar 0) (oSome (eVar 3)) oNone))) sNil) sNil) (sSeq (sRet (eOp idxD (eLst (aCons (eOp addD (eVar 0) (eC (.str " "))) (aCons (eOp addD (eC (.str " ")) (eVar 0)) (aCons (eOp addD (eSl (eVar 0) (oSome (eVar 3)) oNone) (eSl (eVar 0) oNone (oSome (eVar 3)))) (aCons (eC (.str "")) (aCons (eOp addD (eVar 0) (eVar 0)) aNil)))))) (eOp modD (eVar 1) (eC (.int 5))))) sNil))))))))))
def m_law_spoilt : List D → Res D := fnD 3 7 d_law_spoilt
def d_bounds : SD :=
  (sSeq (sIf (tV (eCall m_has_rest (aCons (eVar 0) aNil))) (sSeq (sRet (eTup (aCons (eOp subD (eCall lenD (aCons (eVar 0) aNil)) (eC (.int 1))) (aCons (eC (.int 8)) aNil)))) sNil) sNil) (sSeq (sRet (eTup (aCons (eCall lenD (aCons (eVar 0) aNil)) (aCons (eCall lenD (aCons (eVar 0) aNil)) aNil)))) sNil))
def m_bounds : List D → Res D := fnD 1 1 d_bounds
abbrev lc1_widened : ED :=
  (eLc (iSrc (eTup (aCons (eC (.str "r")) (aCons (eC (.str "s")) (aCons (eC (.str "t")) (aCons (eC (.str "u")) (aCons (eC (.str "v")) (aCons (eC (.str "w")) (aCons (eC (.str "x")) aNil))))))))) (gNm 3) (tV (eOp notInD (eVar 3) (eCall m_holes_of (aCons (eSl (eVar 0) oNone (oSome (eVar 1))) aNil)))) (eVar 3) [3])
def d_widened : SD :=
  (sSeq (sIf (tNotD (tV (eChain leI ltI (eC (.int 0)) (eVar 1) (eCall lenD (aCons (eVar 0) aNil))))) (sSeq (sRaise "NoHole") sNil) sNil) (sSeq (sIf (tV (eOp eqD (eOp idxD (eOp idxD (eVar 0) (eVar 1)) (eC (.int 0))) (eC (.str "rest")))) (sSeq (sRetV 0) sNil) sNil) (sSeq (sSet 2 (eOp idxD lc1_widened (eC (.int 0)))) (sSeq (sRet (eOp addD (eSl (eVar 0) oNone (oSome (eVar 1))) (eTup (aCons (eTup (aCons (eC (.str "rest")) (aCons (eVar 2) aNil))) aNil)))) sNil))))
def m_widened : List D → Res D := fnD 2 4 d_widened
abbrev lc1_tally : ED :=
  (eLc (iSrc (eCall m_all_addresses (aCons (eVar 1) (aCons (eVar 2) aNil)))) (gNm 3) (tV (eCall m_does_match (aCons (eVar 0) (aCons (eVar 3) aNil)))) (eC (.int 1)) [3])
def d_tally : SD :=
  (sSeq (sRet (eCall lenD (aCons lc1_tally aNil))) sNil)
def m_tally : List D → Res D := fnD 3 4 d_tally
abbrev lc3_crossings : ED :=
  (eLc (iSrc (eCall m_all_addresses (aCons (eVar 1) (aCons (eVar 2) aNil)))) (gNm 10) (tAndD (tV (eCall m_does_match (aCons (eVar 6) (aCons (eVar 10) aNil)))) (tV (eCall m_does_match (aCons (eVar 8) (aCons (eVar 10) aNil))))) (eVar 10) [10])
abbrev fb2_crossings : SD :=
  (sSeq (sSet 9 lc3_crossings) (sSeq (sIf (tV (eOp neD (eVar 9) (eLst aNil))) (sSeq (sMet 3 fApp (aCons (eTup (aCons (eVar 5) (aCons (eVar 7) (aCons (eCall lenD (aCons (eVar 9) aNil)) aNil)))) aNil)) sNil) sNil) sNil))
abbrev fb1_crossings : SD :=
  (sSeq (sFor (iSrc (eSl (eVar 0) (oSome (eOp addD (eVar 4) (eC (.int 1)))) oNone)) (gTp 2 (gCn (gNm 7) (gCn (gNm 8) gNl))) fb2_crossings) sNil)
def d_crossings : SD :=
  (sSeq (sOwn 3 (eLst aNil)) (sSeq (sFor (iCall enumA (aCons (eVar 0) aNil)) (gTp 2 (gCn (gNm 4) (gCn (gTp 2 (gCn (gNm 5) (gCn (gNm 6) gNl))) gNl))) fb1_crossings) (sSeq (sRetV 3) sNil)))
def m_crossings : List D → Res D := fnD 3 11 d_crossings
def d_law_bad_part : SD :=
  (sSeq (sOwn 1 (eLst (aCons (eTup (aCons (eC (.str "word")) aNil)) (aCons (eTup (aCons (eC (.str "word")) (aCons (eC (.str "A")) aNil))) (aCons (eTup (aCons (eC (.str "word")) (aCons (eC (.str "")) aNil))) (aCons (eTup (aCons (eC (.str "word")) (aCons (eC (.str "abcdefghi")) aNil))) (aCons (eTup (aCons (eC (.str "word")) (aCons (eC (.str "a")) (aCons (eC (.str "b")) aNil)))) (aCons (eTup (aCons (eC (.str "any")) aNil)) (aCons (eC .non) aNil))))))))) (sSeq (sMet 1 fApp (aCons (eTup (aCons (eC (.str "any")) (aCons (eC (.str "X")) aNil))) aNil)) (sSeq (sMet 1 fExt (aCons (eLst (aCons (eTup (aCons (eC (.str "any")) (aCons (eC (.str "abcde")) aNil))) (aCons (eTup (aCons (eC (.str "any")) (aCons (eC (.str "")) aNil))) (aCons (eTup (aCons (eC (.str "one")) (aCons (eC (.str "w")) aNil))) (aCons (eTup (aCons (eC (.str "one")) (aCons (eC (.str "w")) (aCons (eTup aNil) aNil)))) (aCons (eTup (aCons (eC (.str "one")) (aCons (eC (.str "w")) (aCons (eTup (aCons (eC (.str "b")) (aCons (eC (.str "a")) aNil))) aNil)))) aNil)))))) aNil)) (sSeq (sMet 1 fApp (aCons (eTup (aCons (eC (.str "one")) (aCons (eC (.str "w")) (aCons (eLst (aCons (eC (.str "a")) aNil)) aNil)))) aNil)) (sSeq (sMet 1 fExt (aCons (eLst (aCons (eTup (aCons (eC (.str "one")) (aCons (eC (.str "w")) (aCons (eTup (aCons (eC (.str "a")) (aCons (eC (.str "a")) aNil))) aNil)))) (aCons (eTup (aCons (eC (.str "one")) (aCons (eC (.str "w")) (aCons (eTup (aCons (eC (.str "A")) aNil)) aNil)))) (aCons (eTup (aCons (eC (.str "number")) (aCons (eC (.str "w")) (aCons (eC (.int 1)) aNil)))) (aCons (eTup (aCons (eC (.str "rest")) (aCons (eC (.int 1)) aNil))) (aCons (eTup (aCons (eC (.str "all")) (aCons (eC (.str "w")) aNil))) aNil)))))) aNil)) (sSeq (sMet 1 fApp (aCons (eLst (aCons (eC (.str "any")) (aCons (eC (.str "w")) aNil))) aNil)) (sSeq (sMet 1 fExt (aCons (eLst (aCons (eTup (aCons (eC (.str "one")) (aCons (eC (.str "w")) (aCons (eTup (aCons (eC (.str "a")) (aCons (eC (.str "b")) (aCons (eC (.str "c")) (aCons (eC (.str "d")) (aCons (eC (.str "e")) aNil)))))) aNil)))) (aCons (eTup (aCons (eC (.int 1)) (aCons (eC (.str "w")) aNil))) (aCons (eTup aNil) (aCons (eC (.str "a")) aNil))))) aNil)) (sSeq (sRet (eOp idxD (eVarB 1) (eOp modD (eVar 0) (eC (.int 24))))) sNil))))))))
def m_law_bad_part : List D → Res D := fnD 1 2 d_law_bad_part
abbrev b1_0_law_once : SD :=
  sNil
abbrev fb1_law_once : SD :=
  (sSeq (sIf (tV (eOp isNotD (eCall m_is_pattern (aCons (eVar 9) aNil)) (eC (.bl false)))) (sSeq (sRet (eC (.bl false))) sNil) sNil) b1_0_law_once)
abbrev lc2_law_once : ED :=
  (eLc (iSrc (eVar 13)) (gNm 14) tTrue (eTup (aCons (eVar 14) (aCons (eTup aNil) aNil))) [14])
abbrev t0_law_once : SD :=
  sNil
abbrev t1_law_once : SD :=
  (sSeq (sRet (eOp eqD (eCall m_is_table (aCons (eCall tupleD (aCons lc2_law_once aNil)) aNil)) (eOp ltI (eVar 12) (eC (.int 8))))) t0_law_once)
abbrev t2_law_once : SD :=
  (sSeq (sSet 13 (eSl (eLst (aCons (eC (.str "a")) (aCons (eC (.str "b")) (aCons (eC (.str "c")) (aCons (eC (.str "d")) (aCons (eC (.str "e")) (aCons (eC (.str "f")) (aCons (eC (.str "g")) (aCons (eC (.str "h")) (aCons (eC (.str "i")) aNil)))))))))) oNone (oSome (eOp addD (eVar 12) (eC (.int 1)))))) t1_law_once)
abbrev t3_law_once : SD :=
  (sSeq (sIf (tOrD (tV (eOp neD (eCall m_is_pattern (aCons (eOp mulD (eTup (aCons (eTup (aCons (eC (.str "word")) (aCons (eC (.str "a")) aNil))) aNil)) (eVar 12)) aNil)) (eOp ltI (eVar 12) (eC (.int 7))))) (tV (eOp neD (eCall m_is_address (aCons (eOp mulD (eTup (aCons (eC (.str "a")) aNil)) (eOp addD (eVar 12) (eC (.int 1)))) aNil)) (eOp ltI (eVar 12) (eC (.int 8)))))) (sSeq (sRet (eC (.bl false))) sNil) sNil) t2_law_once)
abbrev t4_law_once : SD :=
  (sSeq (sSet 12 (eOp addD (eC (.int 6)) (eOp modD (eVar 4) (eC (.int 3))))) t3_law_once)
abbrev t5_law_once : SD :=
  (sSeq (sIf (tV (eOp isNotD (eCall m_is_table (aCons (eOp idxD (eVarB 11) (eOp modD (eVar 4) (eC (.int 7)))) aNil)) (eC (.bl false)))) (sSeq (sRet (eC (.bl false))) sNil) sNil) t4_law_once)
abbrev t6_law_once : SD :=
  (sSeq (sMet 11 fExt (aCons (eLst (aCons (eC .non) (aCons (eTup (aCons (eC (.str "p")) (aCons (eVar 1) aNil))) aNil))) aNil)) t5_law_once)
abbrev t7_law_once : SD :=
  (sSeq (sOwn 11 (eLst (aCons (eTup (aCons (eTup (aCons (eC (.str "p")) (aCons (eVar 6) aNil))) aNil)) (aCons (eTup (aCons (eTup (aCons (eC (.str "p")) (aCons (eVar 1) aNil))) (aCons (eTup (aCons (eC (.str "p")) (aCons (eTup aNil) aNil))) aNil))) (aCons (eTup (aCons (eTup (aCons (eC (.str "P")) (aCons (eVar 1) aNil))) aNil)) (aCons (eLst (aCons (eTup (aCons (eC (.str "p")) (aCons (eVar 1) aNil))) aNil)) (aCons (eTup (aCons (eTup (aCons (eC (.str "p")) aNil)) aNil)) aNil))))))) t6_law_once)
abbrev t8_law_once : SD :=
  (sSeq (sIf (tV (eOp isNotD (eCall m_is_address (aCons (eOp idxD (eVar 10) (eOp modD (eVar 4) (eC (.int 7)))) aNil)) (eC (.bl false)))) (sSeq (sRet (eC (.bl false))) sNil) sNil) t7_law_once)
abbrev t9_law_once : SD :=
  (sSeq (sSet 10 (eLst (aCons (eOp addD (eVar 2) (eTup (aCons (eC (.str "A")) aNil))) (aCons (eCall listD (aCons (eVar 2) aNil)) (aCons (eC .non) (aCons (eOp addD (eVar 2) (eTup (aCons (eC (.str "")) aNil))) (aCons (eOp addD (eVar 2) (eTup (aCons (eC (.int 7)) aNil))) (aCons (eC (.str "a")) (aCons (eOp addD (eVar 2) (eTup (aCons (eC (.str "abcdefghi")) aNil))) aNil))))))))) t8_law_once)
abbrev t10_law_once : SD :=
  (sSeq (sFor (iSrc (eTup (aCons (eVar 6) (aCons (eCall listD (aCons (eVar 1) aNil)) (aCons (eC .non) (aCons (eC (.str "/a")) (aCons (eVar 7) (aCons (eVar 8) (aCons (eTup (aCons (eVar 1) aNil)) aNil))))))))) (gNm 9) fb1_law_once) t9_law_once)
abbrev t11_law_once : SD :=
  (sSeq (sSet 8 (eOp addD (eVar 1) (eTup (aCons (eTup (aCons (eC (.str "any")) (aCons (eC (.str "w")) aNil))) (aCons (eTup (aCons (eC (.str "number")) (aCons (eC (.str "w")) aNil))) aNil))))) t10_law_once)
abbrev t12_law_once : SD :=
  (sSeq (sSet 7 (eOp addD (eVar 1) (eTup (aCons (eTup (aCons (eC (.str "rest")) (aCons (eC (.str "w")) aNil))) (aCons (eTup (aCons (eC (.str "word")) (aCons (eC (.str "a")) aNil))) aNil))))) t11_law_once)
abbrev t13_law_once : SD :=
  (sSeq (sSet 6 (eOp addD (eOp addD (eSl (eVar 1) oNone (oSome (eVar 5))) (eTup (aCons (eCall m_law_bad_part (aCons (eVar 4) aNil)) aNil))) (eSl (eVar 1) (oSome (eVar 5)) oNone))) t12_law_once)
abbrev t14_law_once : SD :=
  (sSeq (sSet 5 (eCall m_law_pick (aCons (eVar 0) (aCons (eC (.int 301)) (aCons (eOp addD (eCall lenD (aCons (eVar 1) aNil)) (eC (.int 1))) aNil))))) t13_law_once)
abbrev t15_law_once : SD :=
  (sSeq (sSet 4 (eCall m_law_pick (aCons (eVar 0) (aCons (eC (.int 300)) (aCons (eOp powD (eC (.int 10)) (eC (.int 6))) aNil))))) t14_law_once)
abbrev t16_law_once : SD :=
  (sSeq (sIf (tOrD (tV (eOp isNotD (eCall m_is_pattern (aCons (eVar 1) aNil)) (eC (.bl true)))) (tOrD (tV (eOp isNotD (eCall m_is_address (aCons (eVar 2) aNil)) (eC (.bl true)))) (tV (eOp isNotD (eCall m_is_table (aCons (eVar 3) aNil)) (eC (.bl true)))))) (sSeq (sRet (eC (.bl false))) sNil) sNil) t15_law_once)
abbrev t17_law_once : SD :=
  (sSeq (sSet 3 (eCall m_law_table (aCons (eVar 0) (aCons (eC (.int 100)) (aCons (eC (.int 3)) (aCons (eC (.int 4)) aNil)))))) t16_law_once)
abbrev t18_law_once : SD :=
  (sSeq (sSet 2 (eCall m_law_near (aCons (eVar 0) (aCons (eC (.int 40)) (aCons (eVar 1) aNil))))) t17_law_once)
def d_law_once : SD :=
  (sSeq (sSet 1 (eCall m_law_pattern (aCons (eVar 0) (aCons (eC (.int 0)) (aCons (eC (.int 4)) aNil))))) t18_law_once)
def m_law_once : List D → Res D := fnD 1 15 d_law_once
def d_law_tried : SD :=
  (sSeq (sSet 2 (eC .non)) (sSeq (sSet 3 (eC .non)) (sSeq (sTryK (subB ["BadLead", "BadValues", "NoRow", "NoText", "Taken", "TooMany"] "RouteError") 4 2 (sSeq (sSet 3 (eCall m_built (aCons (eVar 0) (aCons (eVar 1) aNil)))) sNil)) (sSeq (sIf (tV (eOp isD (eVar 2) (eC .non))) (sSeq (sRetV 3) sNil) sNil) (sSeq (sRet (eCall m_law_word (aCons (eVar 2) aNil))) sNil)))))
def m_law_tried : List D → Res D := fnD 2 5 d_law_tried
abbrev fb1_label_by_words : SD :=
  (sSeq (sSet 0 (eCall m_below (aCons (eVar 0) (aCons (eVar 2) aNil)))) sNil)
abbrev lc2_label_by_words : ED :=
  (eLc (iSrc (eVar 0)) (gTp 2 (gCn (gNm 4) (gCn (gNm 5) gNl))) (tOrD (tV (eOp eqD (eVar 5) (eTup aNil))) (tV (eOp eqD (eOp idxD (eOp idxD (eVar 5) (eC (.int 0))) (eC (.int 0))) (eC (.str "rest"))))) (eVar 4) [4, 5])
def d_label_by_words : SD :=
  (sSeq (sFor (iSrc (eVar 1)) (gNm 2) fb1_label_by_words) (sSeq (sSet 3 lc2_label_by_words) (sSeq (sRet (eOp idxD (eOp addD (eVar 3) (eLst (aCons (eC .non) aNil))) (eC (.int 0)))) sNil)))
def m_label_by_words : List D → Res D := fnD 2 6 d_label_by_words
abbrev fb2_law_led_on : SD :=
  (sSeq (sIf (tV (eOp eqD (eOp idxD (eVar 8) (eC (.int 0))) (eC (.str "rest")))) (sSeq (sSet 7 (eOp addD (eVar 7) (eOp idxD (eVar 6) (eOp idxD (eVar 8) (eC (.int 1)))))) sNil) (sSeq (sIf (tV (eOp eqD (eOp idxD (eVar 8) (eC (.int 0))) (eC (.str "word")))) (sSeq (sSet 7 (eOp addD (eVar 7) (eTup (aCons (eOp idxD (eVar 8) (eC (.int 1))) aNil)))) sNil) (sSeq (sSet 7 (eOp addD (eVar 7) (eTup (aCons (eCall strD (aCons (eOp idxD (eVar 6) (eOp idxD (eVar 8) (eC (.int 1)))) aNil)) aNil)))) sNil)) sNil)) sNil)
abbrev fb1_law_led_on : SD :=
  (sSeq (sSet 5 (eCall m_law_matched (aCons (eVar 3) (aCons (eVar 1) aNil)))) (sSeq (sIf (tV (eOp isNotD (eVar 5) (eC .non))) (sSeq (sSet 6 (eCall dictD (aCons (eVar 5) aNil))) (sSeq (sSet 7 (eTup aNil)) (sSeq (sFor (iSrc (eVar 4)) (gNm 8) fb2_law_led_on) (sSeq (sRet (eIf (tV (eOp ltI (eCall lenD (aCons (eVar 7) aNil)) (eC (.int 9)))) (eTup (aCons (eVar 2) (aCons (eVar 7) aNil))) (eC (.str "bad lead")))) sNil)))) sNil) sNil))
def d_law_led_on : SD :=
  (sSeq (sFor (iSrc (eVar 0)) (gTp 3 (gCn (gNm 2) (gCn (gNm 3) (gCn (gNm 4) gNl)))) fb1_law_led_on) (sSeq (sRet (eC .non)) sNil))
def m_law_led_on : List D → Res D := fnD 2 9 d_law_led_on
def d_turned : SD :=
  (sSeq (sAsg (gTp 3 (gCn (gNm 2) (gCn (gNm 3) (gCn (gNm 4) gNl)))) (eVar 0)) (sSeq (sSet 1 (eTup (aCons (eVar 2) (aCons (eVar 4) (aCons (eVar 3) aNil))))) (sSeq (sRet (eIf (tV (eCall m_is_lead (aCons (eVar 1) aNil))) (eVar 1) (eC .non))) sNil)))
def m_turned : List D → Res D := fnD 1 5 d_turned
abbrev lc1_renamed : ED :=
  (eLc (iSrc (eVar 0)) (gNm 3) tTrue (eIf (tOrD (tV (eOp eqD (eOp idxD (eVar 3) (eC (.int 0))) (eC (.str "word")))) (tV (eOp neD (eOp idxD (eVar 3) (eC (.int 1))) (eVar 1)))) (eVar 3) (eOp addD (eTup (aCons (eOp idxD (eVar 3) (eC (.int 0))) (aCons (eVar 2) aNil))) (eSl (eVar 3) (oSome (eC (.int 2))) oNone))) [3])
def d_renamed : SD :=
  (sSeq (sDrop (eCall m_look_hole (aCons (eVar 0) (aCons (eVar 1) aNil)))) (sSeq (sIf (tAndD (tV (eOp neD (eVar 2) (eVar 1))) (tV (eOp inD (eVar 2) (eCall m_holes_of (aCons (eVar 0) aNil))))) (sSeq (sRaise "Taken") sNil) sNil) (sSeq (sRet (eCall tupleD (aCons lc1_renamed aNil))) sNil)))
def m_renamed : List D → Res D := fnD 3 4 d_renamed
def d_law_other_values : SD :=
  (sSeq (sSet 3 (eCall m_law_pick (aCons (eVar 0) (aCons (eVar 1) (aCons (eC (.int 4)) aNil))))) (sSeq (sIf (tOrD (tV (eOp eqD (eVar 2) (eLst aNil))) (tV (eOp eqD (eVar 3) (eC (.int 0))))) (sSeq (sRet (eOp addD (eVar 2) (eLst (aCons (eTup (aCons (eC (.str "w")) (aCons (eC (.str "a")) aNil))) aNil)))) sNil) sNil) (sSeq (sSet 4 (eCall m_law_pick (aCons (eVar 0) (aCons (eOp addD (eVar 1) (eC (.int 1))) (aCons (eCall lenD (aCons (eVar 2) aNil)) aNil))))) (sSeq (sIf (tV (eOp eqD (eVar 3) (eC (.int 1)))) (sSeq (sRet (eOp addD (eSl (eVar 2) oNone (oSome (eVar 4))) (eSl (eVar 2) (oSome (eOp addD (eVar 4) (eC (.int 1)))) oNone))) sNil) sNil) (sSeq (sSet 5 (eLst (aCons (eC (.str "a")) (aCons (eC (.str "b")) (aCons (eC (.str "")) (aCons (eC (.str "A")) (aCons (eC (.int 7)) (aCons (eC (.int 0)) (aCons (eUn negD (eC (.int 1))) (aCons (eC (.bl true)) (aCons (eC .non) (aCons (eTup (aCons (eC (.str "a")) aNil)) (aCons (eTup aNil) (aCons (eTup (aCons (eC (.str "a")) (aCons (eC (.str "A")) aNil))) (aCons (eC (.str "7")) (aCons (eLst (aCons (eC (.str "a")) aNil)) (aCons (eOp mulD (eTup (aCons (eC (.str "a")) aNil)) (eC (.int 9))) (aCons (eOp powD (eC (.int 10)) (eC (.int 9))) aNil)))))))))))))))))) (sSeq (sRet (eOp addD (eOp addD (eSl (eVar 2) oNone (oSome (eVar 4))) (eLst (aCons (eTup (aCons (eOp idxD (eOp idxD (eVar 2) (eVar 4)) (eC (.int 0))) (aCons (eOp idxD (eVar 5) (eCall m_law_pick (aCons (eVar 0) (aCons (eOp addD (eVar 1) (eC (.int 2))) (aCons (eC (.int 16)) aNil))))) aNil))) aNil))) (eSl (eVar 2) (oSome (eOp addD (eVar 4) (eC (.int 1)))) oNone))) sNil))))))
def m_law_other_values : List D → Res D := fnD 3 6 d_law_other_values
def d_law_pattern_of : SD :=
  (sSeq (sSet 2 (eC .non)) (sSeq (sSet 3 (eC .non)) (sSeq (sTryK (subB ["BadLead", "BadValues", "NoRow", "NoText", "Taken", "TooMany"] "RouteError") 4 2 (sSeq (sSet 3 (eCall m_pattern_of (aCons (eVar 0) (aCons (eVar 1) aNil)))) sNil)) (sSeq (sIf (tV (eOp isD (eVar 2) (eC .non))) (sSeq (sRetV 3) sNil) sNil) (sSeq (sRet (eCall m_law_word (aCons (eVar 2) aNil))) sNil)))))
def m_law_pattern_of : List D → Res D := fnD 2 5 d_law_pattern_of
abbrev lc1_law_ranks : ED :=
  (eLc (iSrc (eVar 0)) (gNm 3) tTrue (eMet "list" lixD (eVar 1) (aCons (eOp idxD (eVar 3) (eC (.int 0))) aNil)) [3])
def d_law_ranks : SD :=
  (sSeq (sSet 1 (eLst (aCons (eC (.str "end")) (aCons (eC (.str "word")) (aCons (eC (.str "one")) (aCons (eC (.str "number")) (aCons (eC (.str "any")) (aCons (eC (.str "rest")) aNil)))))))) (sSeq (sSet 2 lc1_law_ranks) (sSeq (sRet (eIf (tAndD (tV (eOp neD (eVar 0) (eTup aNil))) (tV (eOp eqD (eOp idxD (eOp idxD (eVar 0) (eUn negD (eC (.int 1)))) (eC (.int 0))) (eC (.str "rest"))))) (eVar 2) (eOp addD (eVar 2) (eLst (aCons (eC (.int 0)) aNil))))) sNil)))
def m_law_ranks : List D → Res D := fnD 1 4 d_law_ranks
def d_law_other : SD :=
  (sSeq (sSet 3 (eCall m_law_pick (aCons (eVar 0) (aCons (eVar 1) (aCons (eC (.int 4)) aNil))))) (sSeq (sIf (tOrD (tV (eOp eqD (eVar 3) (eC (.int 0)))) (tV (eOp eqD (eVar 2) (eTup aNil)))) (sSeq (sRet (eCall m_law_table (aCons (eVar 0) (aCons (eOp addD (eVar 1) (eC (.int 10))) (aCons (eC (.int 2)) (aCons (eC (.int 2)) aNil)))))) sNil) sNil) (sSeq (sSet 4 (eCall m_law_pick (aCons (eVar 0) (aCons (eOp addD (eVar 1) (eC (.int 1))) (aCons (eCall lenD (aCons (eVar 2) aNil)) aNil))))) (sSeq (sIf (tV (eOp eqD (eVar 3) (eC (.int 1)))) (sSeq (sSet 5 (eTup (aCons (eOp idxD (eOp idxD (eVar 2) (eVar 4)) (eC (.int 0))) (aCons (eCall m_law_pattern (aCons (eVar 0) (aCons (eOp addD (eVar 1) (eC (.int 10))) (aCons (eC (.int 2)) aNil)))) aNil)))) (sSeq (sRet (eOp addD (eOp addD (eSl (eVar 2) oNone (oSome (eVar 4))) (eTup (aCons (eVar 5) aNil))) (eSl (eVar 2) (oSome (eOp addD (eVar 4) (eC (.int 1)))) oNone))) sNil)) sNil) (sSeq (sIf (tV (eOp eqD (eVar 3) (eC (.int 2)))) (sSeq (sRet (eOp addD (eSl (eVar 2) oNone (oSome (eVar 4))) (eSl (eVar 2) (oSome (eOp addD (eVar 4) (eC (.int 1)))) oNone))) sNil) sNil) (sSeq (sRet (eOp addD (eSl (eVar 2) (oSome (eVar 4)) oNone) (eSl (eVar 2) oNone (oSome (eVar 4))))) sNil))))))
def m_law_other : List D → Res D := fnD 3 6 d_law_other
abbrev lc1_law_first : ED :=
  (eLc (iSrc (eVar 0)) (gTp 2 (gCn (gNm 3) (gCn (gNm 4) gNl))) (tV (eOp isNotD (eCall m_law_matched (aCons (eVar 4) (aCons (eVar 1) aNil))) (eC .non))) (eVar 3) [3, 4])
def d_law_first : SD :=
  (sSeq (sSet 2 lc1_law_first) (sSeq (sRet (eOp idxD (eOp addD (eVar 2) (eLst (aCons (eC .non) aNil))) (eC (.int 0)))) sNil))
def m_law_first : List D → Res D := fnD 2 5 d_law_first
def d_law_wider : SD :=
  (sSeq (sIf (tV (eOp eqD (eCall m_law_pick (aCons (eVar 0) (aCons (eVar 1) (aCons (eC (.int 3)) aNil)))) (eC (.int 0)))) (sSeq (sRet (eCall m_law_pattern (aCons (eVar 0) (aCons (eOp addD (eVar 1) (eC (.int 1))) (aCons (eC (.int 2)) aNil))))) sNil) sNil) (sSeq (sIf (tOrD (tV (eOp eqD (eVar 2) (eTup aNil))) (tV (eOp eqD (eCall m_law_pick (aCons (eVar 0) (aCons (eOp addD (eVar 1) (eC (.int 40))) (aCons (eC (.int 3)) aNil)))) (eC (.int 0))))) (sSeq (sRet (eTup (aCons (eTup (aCons (eC (.str "rest")) (aCons (eC (.str "r")) aNil))) aNil))) sNil) sNil) (sSeq (sSet 3 (eCall m_law_pick (aCons (eVar 0) (aCons (eOp addD (eVar 1) (eC (.int 41))) (aCons (eCall lenD (aCons (eVar 2) aNil)) aNil))))) (sSeq (sSet 4 (eOp idxD (eVar 2) (eVar 3))) (sSeq (sIf (tV (eOp eqD (eOp idxD (eVar 4) (eC (.int 0))) (eC (.str "rest")))) (sSeq (sRetV 2) sNil) sNil) (sSeq (sRet (eOp addD (eOp addD (eSl (eVar 2) oNone (oSome (eVar 3))) (eTup (aCons (eTup (aCons (eC (.str "any")) (aCons (eOp addD (eC (.str "w")) (eOp idxD (eC (.str "abc")) (eVar 3))) aNil))) aNil))) (eSl (eVar 2) (oSome (eOp addD (eVar 3) (eC (.int 1)))) oNone))) sNil))))))
def m_law_wider : List D → Res D := fnD 3 5 d_law_wider
abbrev wb1_law_way : SD :=
  (sSeq (sSet 4 (eCall m_law_led_on (aCons (eVar 0) (aCons (eOp idxD (eVarB 2) (eUn negD (eC (.int 1)))) aNil)))) (sSeq (sIf (tV (eOp eqD (eVar 4) (eC (.str "bad lead")))) (sSeq (sRetV 4) sNil) sNil) (sSeq (sIf (tV (eOp isD (eVar 4) (eC .non))) (sSeq (sFrz 3) (sSeq (sFrz 2) (sSeq (sRet (eTup (aCons (eTup (aCons (eVar 2) (aCons (eC (.bl false)) aNil))) (aCons (eVar 3) aNil)))) sNil))) sNil) (sSeq (sMet 3 fApp (aCons (eOp idxD (eVar 4) (eC (.int 0))) aNil)) (sSeq (sIf (tV (eOp inD (eOp idxD (eVar 4) (eC (.int 1))) (eVarB 2))) (sSeq (sFrz 3) (sSeq (sFrz 2) (sSeq (sRet (eTup (aCons (eTup (aCons (eVar 2) (aCons (eC (.bl true)) aNil))) (aCons (eVar 3) aNil)))) sNil))) sNil) (sSeq (sMet 2 fApp (aCons (eOp idxD (eVar 4) (eC (.int 1))) aNil)) sNil))))))
def d_law_way : SD :=
  (sSeq (sOwn 2 (eLst (aCons (eVar 1) aNil))) (sSeq (sOwn 3 (eLst aNil)) (sSeq (sWhile (fun _ => 1000) (tV (eOp ltI (eCall lenD (aCons (eVarB 2) aNil)) (eC (.int 400)))) wb1_law_way) (sSeq (sRet (eC (.str "long"))) sNil))))
def m_law_way : List D → Res D := fnD 2 5 d_law_way
abbrev lc2_law_sides : ED :=
  (eLc (iSrc (eVar 1)) (gNm 2) (tV (eOp neD (eOp idxD (eVar 2) (eC (.int 0))) (eC (.str "word")))) (eTup (aCons (eOp idxD (eVar 2) (eC (.int 1))) (aCons (eVar 2) aNil))) [2])
abbrev lc1_law_sides : ED :=
  (eLc (iSrc (eSl (eVar 0) (oSome (eC (.int 1))) oNone)) (gNm 1) tTrue (eCall dictD (aCons lc2_law_sides aNil)) [1])
def d_law_sides : SD :=
  (sSeq (sRet lc1_law_sides) sNil)
def m_law_sides : List D → Res D := fnD 1 3 d_law_sides
abbrev lc1_law_are_leads_told : ED :=
  (eLc (iSrc (eC (.str "abcdefg"))) (gNm 5) tTrue (eTup (aCons (eVar 5) (aCons (eVar 0) (aCons (eTup aNil) aNil)))) [5])
abbrev lc2_law_are_leads_told : ED :=
  (eLc (iSrc (eTup (aCons (eC (.int 0)) (aCons (eC (.int 6)) (aCons (eC (.int 7)) aNil))))) (gNm 6) tTrue (eCall m_are_leads (aCons (eSl (eVar 1) oNone (oSome (eVar 6))) aNil)) [6])
abbrev lc3_law_are_leads_told : ED :=
  (eLc (iSrc (eVarB 3)) (gNm 7) tTrue (eCall m_are_leads (aCons (eTup (aCons (eTup (aCons (eC (.str "a")) (aCons (eVar 0) (aCons (eTup (aCons (eVar 7) aNil)) aNil)))) aNil)) aNil)) [7])
abbrev lc4_law_are_leads_told : ED :=
  (eLc (iSrc (eVarB 4)) (gNm 7) tTrue (eCall m_are_leads (aCons (eTup (aCons (eTup (aCons (eC (.str "a")) (aCons (eVar 0) (aCons (eTup (aCons (eVar 7) aNil)) aNil)))) aNil)) aNil)) [7])
def d_law_are_leads_told : SD :=
  (sSeq (sSet 0 (eTup (aCons (eTup (aCons (eC (.str "any")) (aCons (eC (.str "a")) aNil))) (aCons (eTup (aCons (eC (.str "number")) (aCons (eC (.str "n")) aNil))) (aCons (eTup (aCons (eC (.str "one")) (aCons (eC (.str "o")) (aCons (eTup (aCons (eC (.str "p")) (aCons (eC (.str "q")) aNil))) aNil)))) (aCons (eTup (aCons (eC (.str "rest")) (aCons (eC (.str "r")) aNil))) aNil)))))) (sSeq (sSet 1 (eCall tupleD (aCons lc1_law_are_leads_told aNil))) (sSeq (sOwn 2 (eOp addD lc2_law_are_leads_told (eLst (aCons (eCall m_are_leads (aCons (eOp mulD (eSl (eVar 1) oNone (oSome (eC (.int 1)))) (eC (.int 2))) aNil)) (aCons (eCall m_are_leads (aCons (eCall listD (aCons (eSl (eVar 1) oNone (oSome (eC (.int 1)))) aNil)) aNil)) aNil))))) (sSeq (sMet 2 fExt (aCons (eLst (aCons (eCall m_are_leads (aCons (eTup (aCons (eTup (aCons (eC (.str "abcde")) (aCons (eTup aNil) (aCons (eTup aNil) aNil)))) aNil)) aNil)) (aCons (eCall m_are_leads (aCons (eTup (aCons (eTup (aCons (eC (.str "a")) (aCons (eTup aNil) (aCons (eTup aNil) (aCons (eTup aNil) aNil))))) aNil)) aNil)) aNil))) aNil)) (sSeq (sMet 2 fExt (aCons (eLst (aCons (eCall m_are_leads (aCons (eTup (aCons (eTup (aCons (eC (.str "a")) (aCons (eTup aNil) (aCons (eTup (aCons (eTup (aCons (eC (.str "any")) (aCons (eC (.str "a")) aNil))) aNil)) aNil)))) aNil)) aNil)) aNil)) aNil)) (sSeq (sMet 2 fExt (aCons (eLst (aCons (eCall m_are_leads (aCons (eTup (aCons (eTup (aCons (eC (.str "a")) (aCons (eC .non) (aCons (eTup aNil) aNil)))) aNil)) aNil)) (aCons (eCall m_are_leads (aCons (eTup (aCons (eTup (aCons (eC (.str "a")) (aCons (eTup aNil) (aCons (eC .non) aNil)))) aNil)) aNil)) (aCons (eCall m_are_leads (aCons (eTup (aCons (eTup (aCons (eC (.str "a")) (aCons (eTup aNil) (aCons (eLst (aCons (eC (.str "a")) aNil)) aNil)))) aNil)) aNil)) aNil)))) aNil)) (sSeq (sIf (tV (eOp neD (eVarB 2) (eOp addD (eLst (aCons (eC (.bl true)) (aCons (eC (.bl true)) aNil))) (eOp mulD (eLst (aCons (eC (.bl false)) aNil)) (eC (.int 9)))))) (sSeq (sRet (eC (.bl false))) sNil) sNil) (sSeq (sOwn 3 (eLst (aCons (eTup (aCons (eC (.str "any")) (aCons (eC (.str "a")) aNil))) (aCons (eTup (aCons (eC (.str "any")) (aCons (eC (.str "o")) aNil))) (aCons (eTup (aCons (eC (.str "number")) (aCons (eC (.str "n")) aNil))) (aCons (eTup (aCons (eC (.str "one")) (aCons (eC (.str "o")) (aCons (eTup (aCons (eC (.str "p")) (aCons (eC (.str "q")) aNil))) aNil)))) aNil)))))) (sSeq (sMet 3 fExt (aCons (eLst (aCons (eTup (aCons (eC (.str "one")) (aCons (eC (.str "o")) (aCons (eTup (aCons (eC (.str "a")) (aCons (eC (.str "p")) (aCons (eC (.str "q")) aNil)))) aNil)))) (aCons (eTup (aCons (eC (.str "rest")) (aCons (eC (.str "r")) aNil))) aNil))) aNil)) (sSeq (sOwn 4 (eLst (aCons (eTup (aCons (eC (.str "any")) (aCons (eC (.str "n")) aNil))) (aCons (eTup (aCons (eC (.str "any")) (aCons (eC (.str "r")) aNil))) (aCons (eTup (aCons (eC (.str "number")) (aCons (eC (.str "a")) aNil))) (aCons (eTup (aCons (eC (.str "number")) (aCons (eC (.str "o")) aNil))) (aCons (eTup (aCons (eC (.str "number")) (aCons (eC (.str "r")) aNil))) aNil))))))) (sSeq (sMet 4 fExt (aCons (eLst (aCons (eTup (aCons (eC (.str "one")) (aCons (eC (.str "a")) (aCons (eTup (aCons (eC (.str "p")) aNil)) aNil)))) (aCons (eTup (aCons (eC (.str "rest")) (aCons (eC (.str "a")) aNil))) aNil))) aNil)) (sSeq (sMet 4 fExt (aCons (eLst (aCons (eTup (aCons (eC (.str "one")) (aCons (eC (.str "o")) (aCons (eTup (aCons (eC (.str "p")) aNil)) aNil)))) (aCons (eTup (aCons (eC (.str "one")) (aCons (eC (.str "o")) (aCons (eTup (aCons (eC (.str "p")) (aCons (eC (.str "r")) aNil))) aNil)))) (aCons (eTup (aCons (eC (.str "one")) (aCons (eC (.str "n")) (aCons (eTup (aCons (eC (.str "p")) aNil)) aNil)))) (aCons (eTup (aCons (eC (.str "one")) (aCons (eC (.str "r")) (aCons (eTup (aCons (eC (.str "p")) aNil)) aNil)))) aNil))))) aNil)) (sSeq (sMet 4 fExt (aCons (eLst (aCons (eTup (aCons (eC (.str "rest")) (aCons (eC (.str "o")) aNil))) aNil)) aNil)) (sSeq (sIf (tV (eOp neD lc3_law_are_leads_told (eOp mulD (eLst (aCons (eC (.bl true)) aNil)) (eC (.int 6))))) (sSeq (sRet (eC (.bl false))) sNil) sNil) (sSeq (sRet (eOp eqD lc4_law_are_leads_told (eOp mulD (eLst (aCons (eC (.bl false)) aNil)) (eC (.int 12))))) sNil)))))))))))))))
def m_law_are_leads_told : List D → Res D := fnD 0 8 d_law_are_leads_told
end L2.RB.P
namespace L2.RB.P
open PySem PySem.Spec PyProof.Rows
def pool : List Str := ["a", "b", "7", "0", "new", "zz", "55", "01", "-"]
theorem pool_cases {P : Str → Prop} (h : P "a" ∧ P "b" ∧ P "7" ∧ P "0" ∧ P "new" ∧ P "zz" ∧ P "55" ∧ P "01" ∧ P "-") : ∀ w ∈ pool, P w := by
  intro w m
  obtain ⟨h1, h2, h3, h4, h5, h6, h7, h8, h9⟩ := h
  simp only [pool, List.mem_cons, List.not_mem_nil, or_false] at m
  rcases m with rfl | rfl | rfl | rfl | rfl | rfl | rfl | rfl | rfl <;> assumption
theorem kind_rest (p : Part) : (p.kind == ("rest" : Str)) = false := by
  cases p with
  | word w => exact (by decide : (("word" : Str) == "rest") = false)
  | one n cs => exact (by decide : (("one" : Str) == "rest") = false)
  | num n => exact (by decide : (("number" : Str) == "rest") = false)
  | any n => exact (by decide : (("any" : Str) == "rest") = false)
theorem encs_none (ps : List Part) : Pat.encs ⟨ps, none⟩ = ps.map Part.enc := by simp [Pat.encs]
theorem encs_some (ps : List Part) (r : Str) : Pat.encs ⟨ps, some r⟩ = ps.map Part.enc ++ [encR r] := rfl
theorem encR0 (r : Str) : idxD (encR r) (.int 0) = .ok (.str "rest") := idx0 _ _
theorem encR1 (r : Str) : idxD (encR r) (.int 1) = .ok (.str r) := idx1 _ _ _
theorem lt_int (i j : Int) : ltI (.int i) (.int j) = .ok (.bl (decide (i < j))) := rfl
theorem gt_int (i j : Int) : gtI (.int i) (.int j) = .ok (.bl (decide (j < i))) := rfl
theorem all_ok (l : List Bool) : allD [.lst (l.map D.bl)] = .ok (.bl (l.all id)) := by
  show (match boolsOf (l.map D.bl) with
    | some bs => Res.ok (D.bl (bs.all id))
    | none => Res.stuck) = _
  rw [boolsOf_map]
theorem fApp_ok (ds : List D) (d : D) (h : ds.length ≤ 100000) : fApp ds [d] = some (ds ++ [d]) := by
  have h' : ds.length < LIM := by rw [lim_lit]; omega
  show (if ds.length < LIM then some (ds ++ [d]) else none) = _
  rw [if_pos h']
theorem encs_cons (p : Part) (ps : List Part) (rest : Option Str) : Pat.encs ⟨p :: ps, rest⟩ = p.enc :: Pat.encs ⟨ps, rest⟩ := by
  simp [Pat.encs]
theorem add_int (i j : Int) : addD (.int i) (.int j) = .ok (.int (i + j)) := rfl
theorem sub_int (i j : Int) : subD (.int i) (.int j) = .ok (.int (i - j)) := rfl
theorem mod_int (i : Int) {j : Int} (h : 0 < j) : modD (.int i) (.int j) = .ok (.int (i % j)) := if_pos h
theorem fdiv_int (i : Int) {j : Int} (h : 0 < j ∧ j < 1073741824) : fdivD (.int i) (.int j) = .ok (.int (i / j)) := if_pos h
theorem mul_r (i : Int) {j : Int} (h : -(2 ^ 64) < j ∧ j < 2 ^ 64) : mulD (.int i) (.int j) = .ok (.int (i * j)) := if_pos (.inr h)
theorem mul_l {i : Int} (j : Int) (h : -(2 ^ 64) < i ∧ i < 2 ^ 64) : mulD (.int i) (.int j) = .ok (.int (i * j)) := if_pos (.inl h)
/-- a script, or a list of whole numbers made of it -/
def IsScr (S : D) : Prop := (∃ ns, S = .scr ns) ∨ ∃ ns : List Int, S = .lst (ns.map D.int)
theorem ints_pl (ns : List Int) : (D.lst (ns.map D.int)).pl 60 = true := by
  simp only [D.pl]
  exact pls_map (fun a => by simp [D.pl]) ns
theorem cell_S {S : D} (ns : List Int) (hl : lenD [S] = .ok (.int ns.length)) (he : eqD S (.lst []) = .ok (.bl ns.isEmpty)) (hi : ∀ (k : Nat) (h : k < ns.length), idxD S (.int (k : Int)) = .ok (.int ns[k])) (k : Nat) : ∃ c : Int, m_law_cell [S, .int k] = .ok (.int c) := by
  have e : m_law_cell [S, .int k] = outD (d_law_cell [.sh S, .sh (.int k)]) := rfl
  rw [e]
  by_cases h : k < ns.length
  · have i1 := hi k h
    have d1 : decide ((k : Int) < (ns.length : Int)) = true := by simpa using h
    generalize ns[k] = c at i1
    generalize ns.length = L at hl d1
    exact ⟨c, by simp only [d_law_cell, sSeq, sNil, sRet, sRetV, sRetN, sSet, sOwn, sAsg, sDrop, sIf, sFor, sMet, sFrz, sBrk, sCnt, lft, outD, eC, aNil, aCons, eTup, eLst, eOp, eUn, tV, bT, tAndD, tOrD, tNotD, eAnd, eOr, eNot, eIf, eChain, eCall, eSl, oNone, oSome, iSrc, iCall, srcD, gNm, ev0, evS, evB0, evB0o, evBS, ok_bind, exc_bind, stuck_bind, if_true, if_false, List.length_cons, List.length_nil, List.set_cons_zero, List.set_cons_succ, lim_lit, Bool.false_eq_true, ite_true, ite_false, reduceIte, List.getElem?_cons_zero, List.getElem?_cons_succ, Nat.zero_le, Nat.reduceLeDiff, Nat.reduceAdd, Nat.reduceLT, Nat.reduceSub, Nat.zero_lt_succ, Bool.not_true, Bool.not_false, hl, lt_int, d1, i1]⟩
  · have d1 : decide ((k : Int) < (ns.length : Int)) = false := by simpa using h
    by_cases hz : ns.isEmpty = true
    · rw [hz] at he
      generalize ns.length = L at hl d1
      exact ⟨0, by simp only [d_law_cell, sSeq, sNil, sRet, sRetV, sRetN, sSet, sOwn, sAsg, sDrop, sIf, sFor, sMet, sFrz, sBrk, sCnt, lft, outD, eC, aNil, aCons, eTup, eLst, eOp, eUn, tV, bT, tAndD, tOrD, tNotD, eAnd, eOr, eNot, eIf, eChain, eCall, eSl, oNone, oSome, iSrc, iCall, srcD, gNm, ev0, evS, evB0, evB0o, evBS, ok_bind, exc_bind, stuck_bind, if_true, if_false, List.length_cons, List.length_nil, List.set_cons_zero, List.set_cons_succ, lim_lit, Bool.false_eq_true, ite_true, ite_false, reduceIte, List.getElem?_cons_zero, List.getElem?_cons_succ, Nat.zero_le, Nat.reduceLeDiff, Nat.reduceAdd, Nat.reduceLT, Nat.reduceSub, Nat.zero_lt_succ, Bool.not_true, Bool.not_false, hl, lt_int, d1, he]⟩
    · have hz : ns.isEmpty = false := by simpa using hz
      rw [hz] at he
      have hp : 0 < ns.length := by
        cases ns with
        | nil => cases hz
        | cons n ns => simp
      have lt : k % ns.length < ns.length := Nat.mod_lt _ hp
      have m1 : modD (.int (k : Int)) (.int (ns.length : Int)) = .ok (.int ((k % ns.length : Nat) : Int)) := by
        rw [mod_int _ (by omega)]; rfl
      have i1 := hi _ lt
      generalize ns[k % ns.length] = c at i1
      generalize ((k % ns.length : Nat) : Int) = j at m1 i1
      generalize ns.length = L at hl d1 m1
      exact ⟨c * 31 + k, by simp only [d_law_cell, sSeq, sNil, sRet, sRetV, sRetN, sSet, sOwn, sAsg, sDrop, sIf, sFor, sMet, sFrz, sBrk, sCnt, lft, outD, eC, aNil, aCons, eTup, eLst, eOp, eUn, tV, bT, tAndD, tOrD, tNotD, eAnd, eOr, eNot, eIf, eChain, eCall, eSl, oNone, oSome, iSrc, iCall, srcD, gNm, ev0, evS, evB0, evB0o, evBS, ok_bind, exc_bind, stuck_bind, if_true, if_false, List.length_cons, List.length_nil, List.set_cons_zero, List.set_cons_succ, lim_lit, Bool.false_eq_true, ite_true, ite_false, reduceIte, List.getElem?_cons_zero, List.getElem?_cons_succ, Nat.zero_le, Nat.reduceLeDiff, Nat.reduceAdd, Nat.reduceLT, Nat.reduceSub, Nat.zero_lt_succ, Bool.not_true, Bool.not_false, hl, lt_int, d1, he, m1, i1, mul_r _ (by decide : -(2 ^ 64) < (31 : Int) ∧ (31 : Int) < 2 ^ 64), add_int]⟩
theorem cell_ok {S : D} (hS : IsScr S) (k : Nat) : ∃ c : Int, m_law_cell [S, .int k] = .ok (.int c) := by
  rcases hS with ⟨ns, rfl⟩ | ⟨ns, rfl⟩
  · refine cell_S ns rfl rfl (fun k h => ?_) k
    show optD D.int (atI ns (k : Int)) = _
    rw [atI_nat, List.getElem?_eq_getElem h]; rfl
  · refine cell_S ns (by rw [len_lst, List.length_map]) ?_ (fun k h => idx_lst (by rw [atI_nat, List.getElem?_map, List.getElem?_eq_getElem h]; rfl)) k
    rw [eqD_pl (ints_pl ns) lnil_pl60]
    cases ns <;> simp [D.eqv, D.eqvs]
theorem pick_ok {S : D} (hS : IsScr S) (k : Nat) (m : Int) (hm : 0 < m) : ∃ r : Nat, m_law_pick [S, .int k, .int m] = .ok (.int r) ∧ (r : Int) < m := by
  have e : m_law_pick [S, .int k, .int m] = outD (d_law_pick [.sh S, .sh (.int k), .sh (.int m), .un]) := rfl
  obtain ⟨c, hc⟩ := cell_ok hS k
  have key : ∀ d : Int, 0 ≤ d → d < 2147483399 → mulD (.int d) (.int d) = .ok (.int (d * d)) := fun d h1 h2 => mul_l _ ⟨by omega, by omega⟩
  have b1 : 0 ≤ (c + 6151 * ((k : Int) + 1)) * 40692 % 2147483399 := Int.emod_nonneg _ (by decide)
  have b2 : (c + 6151 * ((k : Int) + 1)) * 40692 % 2147483399 < 2147483399 := Int.emod_lt_of_pos _ (by decide)
  have hk := key _ b1 b2
  generalize hD : (c + 6151 * ((k : Int) + 1)) * 40692 % 2147483399 = d at *
  have c1 : 0 ≤ (d * d + d / 31) % 2147483629 % m := Int.emod_nonneg _ (by omega)
  have c2 : (d * d + d / 31) % 2147483629 % m < m := Int.emod_lt_of_pos _ hm
  refine ⟨((d * d + d / 31) % 2147483629 % m).toNat, ?_, by omega⟩
  rw [e, Int.toNat_of_nonneg c1]
  simp only [d_law_pick, sSeq, sNil, sRet, sRetV, sRetN, sSet, sOwn, sAsg, sDrop, sIf, sFor, sMet, sFrz, sBrk, sCnt, lft, outD, eC, aNil, aCons, eTup, eLst, eOp, eUn, tV, bT, tAndD, tOrD, tNotD, eAnd, eOr, eNot, eIf, eChain, eCall, eSl, oNone, oSome, iSrc, iCall, srcD, gNm, ev0, evS, evB0, evB0o, evBS, ok_bind, exc_bind, stuck_bind, if_true, if_false, List.length_cons, List.length_nil, List.set_cons_zero, List.set_cons_succ, lim_lit, Bool.false_eq_true, ite_true, ite_false, reduceIte, List.getElem?_cons_zero, List.getElem?_cons_succ, Nat.zero_le, Nat.reduceLeDiff, Nat.reduceAdd, Nat.reduceLT, Nat.reduceSub, Nat.zero_lt_succ, Bool.not_true, Bool.not_false, hc, add_int, mul_l _ (by decide : -(2 ^ 64) < (6151 : Int) ∧ (6151 : Int) < 2 ^ 64), mul_r _ (by decide : -(2 ^ 64) < (40692 : Int) ∧ (40692 : Int) < 2 ^ 64), mod_int _ (by decide : (0 : Int) < 2147483399), hD, hk, fdiv_int _ (by decide : (0 : Int) < 31 ∧ (31 : Int) < 1073741824), mod_int _ (by decide : (0 : Int) < 2147483629), mod_int _ hm]
theorem idx_strs (l : List Str) (r : Nat) (h : r < l.length) : idxD (.lst (l.map D.str)) (.int (r : Int)) = .ok (.str l[r]) := by
  refine idx_lst ?_
  rw [atI_nat, List.getElem?_map, List.getElem?_eq_getElem h]; rfl
theorem any_word_ok {S : D} (hS : IsScr S) (k : Nat) : ∃ w ∈ pool, m_law_any_word [S, .int k] = .ok (.str w) := by
  have e : m_law_any_word [S, .int k] = outD (d_law_any_word [.sh S, .sh (.int k)]) := rfl
  obtain ⟨r, hr, hb⟩ := pick_ok hS k 9 (by decide)
  have hb' : r < pool.length := by simp [pool]; omega
  refine ⟨pool[r], List.getElem_mem _, ?_⟩
  have hi := idx_strs pool r hb'
  have hp : pool.map D.str = [.str "a", .str "b", .str "7", .str "0", .str "new", .str "zz", .str "55", .str "01", .str "-"] := rfl
  rw [hp] at hi
  rw [e]
  simp only [d_law_any_word, sSeq, sNil, sRet, sRetV, sRetN, sSet, sOwn, sAsg, sDrop, sIf, sFor, sMet, sFrz, sBrk, sCnt, lft, outD, eC, aNil, aCons, eTup, eLst, eOp, eUn, tV, bT, tAndD, tOrD, tNotD, eAnd, eOr, eNot, eIf, eChain, eCall, eSl, oNone, oSome, iSrc, iCall, srcD, gNm, ev0, evS, evB0, evB0o, evBS, ok_bind, exc_bind, stuck_bind, if_true, if_false, List.length_cons, List.length_nil, List.set_cons_zero, List.set_cons_succ, lim_lit, Bool.false_eq_true, ite_true, ite_false, reduceIte, List.getElem?_cons_zero, List.getElem?_cons_succ, Nat.zero_le, Nat.reduceLeDiff, Nat.reduceAdd, Nat.reduceLT, Nat.reduceSub, Nat.zero_lt_succ, Bool.not_true, Bool.not_false, hr, hi]
def GoodP : Part → Prop
  | .word w => w ∈ pool
  | .one _ cs => cs ≠ [] ∧ ∀ c ∈ cs, c ∈ pool
  | _ => True
theorem rng1_ok (n : Nat) (h : n ≤ 1000) : rng1D [.int (n : Int)] = .ok (rngD 0 n) := by
  have h1 : ((n : Int)).natAbs ≤ 100000 := by omega
  have h2 : ((n : Int)).toNat = n := Int.toNat_natCast n
  simp only [rng1D, if_pos h1, h2]
theorem rng_mem {n : Nat} {d : D} (h : d ∈ rngD 0 n) : ∃ k : Nat, k < n ∧ d = .int k := by
  unfold rngD at h
  obtain ⟨k, hk, rfl⟩ := List.mem_map.mp h
  exact ⟨k, List.mem_range.mp hk, by simp⟩
theorem rng_len (n : Nat) : (rngD 0 n).length = n := by simp [rngD]
/-- texts told one by one -/
theorem filt_strs {f : D → Res (Option D)} {Q : Str → Prop} {l : List D} (h : ∀ d ∈ l, ∃ w, f d = .ok (some (.str w)) ∧ Q w) : ∃ ws : List Str, filtR f l = .ok (ws.map D.str) ∧ ws.length = l.length ∧ ∀ w ∈ ws, Q w := by
  induction l with
  | nil => exact ⟨[], rfl, rfl, fun _ m => absurd m List.not_mem_nil⟩
  | cons d l ih =>
    obtain ⟨w, e1, q1⟩ := h d List.mem_cons_self
    obtain ⟨ws, e2, l2, q2⟩ := ih fun x m => h x (List.mem_cons_of_mem _ m)
    refine ⟨w :: ws, by simp only [filtR, e1, e2, ok_bind, List.map_cons], by simp [l2], fun v m => ?_⟩
    rcases List.mem_cons.mp m with rfl | m
    · exact q1
    · exact q2 v m
def Named (nm : Str) : Part → Prop
  | .word _ => True
  | .one n cs => n = nm ∧ cs.length ≤ 3 ∧ ∃ ws, cs = sortS (ddup ws)
  | .num n => n = nm
  | .any n => n = nm
theorem part_ok {S : D} (hS : IsScr S) (k : Nat) (nm : Str) : ∃ p : Part, (GoodP p ∧ Named nm p) ∧ m_law_part [S, .int k, .str nm] = .ok p.enc := by
  have e : m_law_part [S, .int k, .str nm] = outD (d_law_part [.sh S, .sh (.int k), .sh (.str nm), .un, .un, .un, .un]) := rfl
  rw [e]
  obtain ⟨r, hr, hb⟩ := pick_ok hS k 8 (by decide)
  obtain ⟨r1, hr1, hb1⟩ := pick_ok hS (k + 1) 4 (by decide)
  obtain ⟨r3, hr3, hb3⟩ := pick_ok hS (k + 1) 3 (by decide)
  have k1 : (k : Int) + 1 = ((k + 1 : Nat) : Int) := by omega
  let p4 : List Str := ["a", "b", "7", "0"]
  have p4m : ∀ w ∈ p4, w ∈ pool := by
    intro w m
    simp only [p4, List.mem_cons, List.not_mem_nil, or_false] at m
    rcases m with rfl | rfl | rfl | rfl <;> decide
  by_cases h : r < 4
  · have d1 : decide ((r : Int) < 4) = true := by simp; omega
    have hb1' : r1 < p4.length := by simp [p4]; omega
    have hi := idx_strs p4 r1 hb1'
    refine ⟨.word (p4[r1]'hb1'), ⟨p4m _ (List.getElem_mem _), trivial⟩, ?_⟩
    have hp : p4.map D.str = [.str "a", .str "b", .str "7", .str "0"] := rfl
    rw [hp] at hi
    simp only [d_law_part, sSeq, sNil, sRet, sRetV, sRetN, sSet, sOwn, sAsg, sDrop, sIf, sFor, sMet, sFrz, sBrk, sCnt, lft, outD, eC, aNil, aCons, eTup, eLst, eOp, eUn, tV, bT, tAndD, tOrD, tNotD, eAnd, eOr, eNot, eIf, eChain, eCall, eSl, oNone, oSome, iSrc, iCall, srcD, gNm, ev0, evS, evB0, evB0o, evBS, ok_bind, exc_bind, stuck_bind, if_true, if_false, List.length_cons, List.length_nil, List.set_cons_zero, List.set_cons_succ, lim_lit, Bool.false_eq_true, ite_true, ite_false, reduceIte, List.getElem?_cons_zero, List.getElem?_cons_succ, Nat.zero_le, Nat.reduceLeDiff, Nat.reduceAdd, Nat.reduceLT, Nat.reduceSub, Nat.zero_lt_succ, Bool.not_true, Bool.not_false, hr, lt_int, d1, add_int, k1, hr1, hi]
    rfl
  · have d1 : decide ((r : Int) < 4) = false := by simp; omega
    by_cases h4 : r = 4
    · subst h4
      have q1 : ((4 : Nat) : Int) == (4 : Int) := by decide
      have n3 : (1 : Int) + (r3 : Int) = ((1 + r3 : Nat) : Int) := by omega
      let st : D → Res (Option D) := stepLc (gNm 6) tTrue (eOp idxD (eVar 3) (eCall m_law_pick (aCons (eVar 0) (aCons (eOp addD (eOp addD (eVar 1) (eC (.int 2))) (eVar 6)) (aCons (eC (.int 4)) aNil))))) [6] [.sh S, .sh (.int k), .sh (.str nm), .sh (.lst [.str "a", .str "b", .str "7", .str "0"]), .sh (.int 4), .un, .un]
      have hst : ∀ d ∈ rngD 0 (1 + r3), ∃ w, st d = .ok (some (.str w)) ∧ w ∈ pool := by
        intro d m
        obtain ⟨j, hj, rfl⟩ := rng_mem m
        obtain ⟨u, hu, hbu⟩ := pick_ok hS (k + 2 + j) 4 (by decide)
        have hbu' : u < p4.length := by simp [p4]; omega
        have hi := idx_strs p4 u hbu'
        have hp : p4.map D.str = [.str "a", .str "b", .str "7", .str "0"] := rfl
        rw [hp] at hi
        have kk : (k : Int) + 2 + (j : Int) = ((k + 2 + j : Nat) : Int) := by omega
        refine ⟨p4[u]'hbu', ?_, p4m _ (List.getElem_mem _)⟩
        simp only [st, stepLc, wipeE, tTrue, sSeq, sNil, sRet, sRetV, sRetN, sSet, sOwn, sAsg, sDrop, sIf, sFor, sMet, sFrz, sBrk, sCnt, lft, outD, eC, aNil, aCons, eTup, eLst, eOp, eUn, tV, bT, tAndD, tOrD, tNotD, eAnd, eOr, eNot, eIf, eChain, eCall, eSl, oNone, oSome, iSrc, iCall, srcD, gNm, ev0, evS, evB0, evB0o, evBS, ok_bind, exc_bind, stuck_bind, if_true, if_false, List.length_cons, List.length_nil, List.set_cons_zero, List.set_cons_succ, lim_lit, Bool.false_eq_true, ite_true, ite_false, reduceIte, List.getElem?_cons_zero, List.getElem?_cons_succ, Nat.zero_le, Nat.reduceLeDiff, Nat.reduceAdd, Nat.reduceLT, Nat.reduceSub, Nat.zero_lt_succ, Bool.not_true, Bool.not_false, add_int, kk, hu, hi]
      obtain ⟨ws, hws, lws, qws⟩ := filt_strs hst
      rw [rng_len] at lws
      have hlc : eLc (iCall rng1D (aCons (eOp addD (eC (.int 1)) (eCall m_law_pick (aCons (eVar 0) (aCons (eOp addD (eVar 1) (eC (.int 1))) (aCons (eC (.int 3)) aNil))))) aNil)) (gNm 6) tTrue (eOp idxD (eVar 3) (eCall m_law_pick (aCons (eVar 0) (aCons (eOp addD (eOp addD (eVar 1) (eC (.int 2))) (eVar 6)) (aCons (eC (.int 4)) aNil))))) [6] [.sh S, .sh (.int k), .sh (.str nm), .sh (.lst [.str "a", .str "b", .str "7", .str "0"]), .sh (.int 4), .un, .un] = .ok (.lst (ws.map D.str)) := by
        refine eLc_ok (ds := rngD 0 (1 + r3)) ?_ (by rw [rng_len]; omega) hws
        simp only [sSeq, sNil, sRet, sRetV, sRetN, sSet, sOwn, sAsg, sDrop, sIf, sFor, sMet, sFrz, sBrk, sCnt, lft, outD, eC, aNil, aCons, eTup, eLst, eOp, eUn, tV, bT, tAndD, tOrD, tNotD, eAnd, eOr, eNot, eIf, eChain, eCall, eSl, oNone, oSome, iSrc, iCall, srcD, gNm, ev0, evS, evB0, evB0o, evBS, ok_bind, exc_bind, stuck_bind, if_true, if_false, List.length_cons, List.length_nil, List.set_cons_zero, List.set_cons_succ, lim_lit, Bool.false_eq_true, ite_true, ite_false, reduceIte, List.getElem?_cons_zero, List.getElem?_cons_succ, Nat.zero_le, Nat.reduceLeDiff, Nat.reduceAdd, Nat.reduceLT, Nat.reduceSub, Nat.zero_lt_succ, Bool.not_true, Bool.not_false, add_int, k1, hr3, n3, rng1_ok (1 + r3) (by omega)]
      have lt1 : ws.length < 4000 := by omega
      have ldd := ddup_len ws
      have lt2 : (ddup ws).length < 4000 := by omega
      have hset : setD [.lst (ws.map D.str)] = .ok (.set (ddup ws)) := by
        simp only [setD, strsOf_map, if_pos lt1]
      have hsort : sortedD [.set (ddup ws)] = .ok (.lst ((sortS (ddup ws)).map D.str)) := by
        simp only [sortedD, if_pos lt2]
      have htup : tupleD [.lst ((sortS (ddup ws)).map D.str)] = .ok (encW (sortS (ddup ws))) := rfl
      refine ⟨.one nm (sortS (ddup ws)), ⟨⟨fun z => ?_, fun c m => qws c (ddup_mem.mp ((sortS_perm _).mem_iff.mp m))⟩, rfl, by rw [(sortS_perm _).length_eq]; omega, ws, rfl⟩, ?_⟩
      · have h1 : ws ≠ [] := fun z => by rw [z] at lws; simp at lws; omega
        obtain ⟨w, r, rfl⟩ := List.exists_cons_of_ne_nil h1
        have : w ∈ sortS (ddup (w :: r)) := (sortS_perm _).mem_iff.mpr (ddup_mem.mpr List.mem_cons_self)
        rw [z] at this
        exact List.not_mem_nil this
      · simp only [d_law_part, sSeq, sNil, sRet, sRetV, sRetN, sSet, sOwn, sAsg, sDrop, sIf, sFor, sMet, sFrz, sBrk, sCnt, lft, outD, eC, aNil, aCons, eTup, eLst, eOp, eUn, tV, bT, tAndD, tOrD, tNotD, eAnd, eOr, eNot, eIf, eChain, eCall, eSl, oNone, oSome, iSrc, iCall, srcD, gNm, ev0, evS, evB0, evB0o, evBS, ok_bind, exc_bind, stuck_bind, if_true, if_false, List.length_cons, List.length_nil, List.set_cons_zero, List.set_cons_succ, lim_lit, Bool.false_eq_true, ite_true, ite_false, reduceIte, List.getElem?_cons_zero, List.getElem?_cons_succ, Nat.zero_le, Nat.reduceLeDiff, Nat.reduceAdd, Nat.reduceLT, Nat.reduceSub, Nat.zero_lt_succ, Bool.not_true, Bool.not_false, hr, lt_int, d1, eq_int, q1]
        have q2 : ((4 : Nat) : Int) = (4 : Int) := rfl
        simp only [q2, hlc, sSeq, sNil, sRet, sRetV, sRetN, sSet, sOwn, sAsg, sDrop, sIf, sFor, sMet, sFrz, sBrk, sCnt, lft, outD, eC, aNil, aCons, eTup, eLst, eOp, eUn, tV, bT, tAndD, tOrD, tNotD, eAnd, eOr, eNot, eIf, eChain, eCall, eSl, oNone, oSome, iSrc, iCall, srcD, gNm, ev0, evS, evB0, evB0o, evBS, ok_bind, exc_bind, stuck_bind, if_true, if_false, List.length_cons, List.length_nil, List.set_cons_zero, List.set_cons_succ, lim_lit, Bool.false_eq_true, ite_true, ite_false, reduceIte, List.getElem?_cons_zero, List.getElem?_cons_succ, Nat.zero_le, Nat.reduceLeDiff, Nat.reduceAdd, Nat.reduceLT, Nat.reduceSub, Nat.zero_lt_succ, Bool.not_true, Bool.not_false, hset, hsort, htup]
        rfl
    · have q1 : ((r : Int) == (4 : Int)) = false := by simp; omega
      have hb5 : r = 5 ∨ r = 6 ∨ r = 7 := by omega
      rcases hb5 with rfl | rfl | rfl
      · exact ⟨.any nm, ⟨trivial, rfl⟩, by simp only [d_law_part, sSeq, sNil, sRet, sRetV, sRetN, sSet, sOwn, sAsg, sDrop, sIf, sFor, sMet, sFrz, sBrk, sCnt, lft, outD, eC, aNil, aCons, eTup, eLst, eOp, eUn, tV, bT, tAndD, tOrD, tNotD, eAnd, eOr, eNot, eIf, eChain, eCall, eSl, oNone, oSome, iSrc, iCall, srcD, gNm, ev0, evS, evB0, evB0o, evBS, ok_bind, exc_bind, stuck_bind, if_true, if_false, List.length_cons, List.length_nil, List.set_cons_zero, List.set_cons_succ, lim_lit, Bool.false_eq_true, ite_true, ite_false, reduceIte, List.getElem?_cons_zero, List.getElem?_cons_succ, Nat.zero_le, Nat.reduceLeDiff, Nat.reduceAdd, Nat.reduceLT, Nat.reduceSub, Nat.zero_lt_succ, Bool.not_true, Bool.not_false, hr, lt_int, d1, eq_int, q1, sub_int]; rfl⟩
      · exact ⟨.num nm, ⟨trivial, rfl⟩, by simp only [d_law_part, sSeq, sNil, sRet, sRetV, sRetN, sSet, sOwn, sAsg, sDrop, sIf, sFor, sMet, sFrz, sBrk, sCnt, lft, outD, eC, aNil, aCons, eTup, eLst, eOp, eUn, tV, bT, tAndD, tOrD, tNotD, eAnd, eOr, eNot, eIf, eChain, eCall, eSl, oNone, oSome, iSrc, iCall, srcD, gNm, ev0, evS, evB0, evB0o, evBS, ok_bind, exc_bind, stuck_bind, if_true, if_false, List.length_cons, List.length_nil, List.set_cons_zero, List.set_cons_succ, lim_lit, Bool.false_eq_true, ite_true, ite_false, reduceIte, List.getElem?_cons_zero, List.getElem?_cons_succ, Nat.zero_le, Nat.reduceLeDiff, Nat.reduceAdd, Nat.reduceLT, Nat.reduceSub, Nat.zero_lt_succ, Bool.not_true, Bool.not_false, hr, lt_int, d1, eq_int, q1, sub_int]; rfl⟩
      · exact ⟨.any nm, ⟨trivial, rfl⟩, by simp only [d_law_part, sSeq, sNil, sRet, sRetV, sRetN, sSet, sOwn, sAsg, sDrop, sIf, sFor, sMet, sFrz, sBrk, sCnt, lft, outD, eC, aNil, aCons, eTup, eLst, eOp, eUn, tV, bT, tAndD, tOrD, tNotD, eAnd, eOr, eNot, eIf, eChain, eCall, eSl, oNone, oSome, iSrc, iCall, srcD, gNm, ev0, evS, evB0, evB0o, evBS, ok_bind, exc_bind, stuck_bind, if_true, if_false, List.length_cons, List.length_nil, List.set_cons_zero, List.set_cons_succ, lim_lit, Bool.false_eq_true, ite_true, ite_false, reduceIte, List.getElem?_cons_zero, List.getElem?_cons_succ, Nat.zero_le, Nat.reduceLeDiff, Nat.reduceAdd, Nat.reduceLT, Nat.reduceSub, Nat.zero_lt_succ, Bool.not_true, Bool.not_false, hr, lt_int, d1, eq_int, q1, sub_int]; rfl⟩
theorem filt_ix {f : D → Res (Option D)} {Q : Nat → Part → Prop} : ∀ (l : List D) (a : Nat), (∀ (j : Nat) d, l[j]? = some d → ∃ p : Part, f d = .ok (some p.enc) ∧ Q (a + j) p) → ∃ ps : List Part, filtR f l = .ok (ps.map Part.enc) ∧ ps.length = l.length ∧ ∀ (j : Nat) p, ps[j]? = some p → Q (a + j) p
  | [], _, _ => ⟨[], rfl, rfl, fun j p h => by simp at h⟩
  | d :: l, a, h => by
    obtain ⟨p, e1, q1⟩ := h 0 d rfl
    obtain ⟨ps, e2, l2, q2⟩ := filt_ix l (a + 1) (Q := Q) fun j x hx => by
      obtain ⟨p, e, q⟩ := h (j + 1) x (by simpa using hx)
      exact ⟨p, e, by rw [Nat.add_right_comm, Nat.add_assoc]; exact q⟩
    refine ⟨p :: ps, by simp only [filtR, e1, e2, ok_bind, List.map_cons], by simp [l2], fun j x hx => ?_⟩
    cases j with
    | zero => simp at hx; subst hx; exact q1
    | succ j =>
      have := q2 j x (by simpa using hx)
      rw [Nat.add_right_comm, Nat.add_assoc] at this
      exact this
theorem rng_get {n j : Nat} {d : D} (h : (rngD 0 n)[j]? = some d) : j < n ∧ d = .int j := by
  unfold rngD at h
  rw [List.getElem?_map] at h
  cases e : (List.range n)[j]? with
  | none => rw [e] at h; cases h
  | some i =>
    rw [e] at h; cases h
    obtain ⟨h1, h2⟩ := List.getElem?_eq_some_iff.mp e
    rw [List.getElem_range] at h2
    subst h2
    rw [List.length_range] at h1
    exact ⟨h1, by simp⟩
abbrev names4 : List Str := ["y", "id", "z", "x"]
abbrev names4D : D := .lst [.str "y", .str "id", .str "z", .str "x"]
abbrev pStep : D → ED := fun _ => eCall m_law_part (aCons (eVar 0) (aCons (eOp addD (eOp addD (eVar 1) (eC (.int 2))) (eOp mulD (eC (.int 5)) (eVar 5))) (aCons (eOp idxD (eVar 3) (eVar 5)) aNil)))
theorem pattern_ok {S : D} (hS : IsScr S) (at_ mo : Nat) (hmo : mo ≤ 4) : ∃ p : Pat, m_law_pattern [S, .int at_, .int mo] = .ok p.enc ∧ p.ps.length ≤ mo ∧ (p.rest = none ∨ p.rest = some ("r" : Str)) ∧ ∀ (j : Nat) q, p.ps[j]? = some q → GoodP q ∧ Named (names4.getD j "") q := by
  have e : m_law_pattern [S, .int at_, .int mo] = outD (d_law_pattern [.sh S, .sh (.int at_), .sh (.int mo), .un, .un, .un]) := rfl
  obtain ⟨m, hm, bm⟩ := pick_ok hS at_ ((mo + 1 : Nat) : Int) (by omega)
  obtain ⟨t, ht, bt⟩ := pick_ok hS (at_ + 1) 4 (by decide)
  have k1 : (at_ : Int) + 1 = ((at_ + 1 : Nat) : Int) := by omega
  have hst : ∀ (j : Nat) d, (rngD 0 m)[j]? = some d → ∃ p : Part, stepLc (gNm 5) tTrue (eCall m_law_part (aCons (eVar 0) (aCons (eOp addD (eOp addD (eVar 1) (eC (.int 2))) (eOp mulD (eC (.int 5)) (eVar 5))) (aCons (eOp idxD (eVar 3) (eVar 5)) aNil)))) [5] [.sh S, .sh (.int at_), .sh (.int mo), .sh names4D, .un, .un] d = .ok (some p.enc) ∧ (GoodP p ∧ Named (names4.getD (0 + j) "") p) := by
    intro j d md
    obtain ⟨hj, rfl⟩ := rng_get md
    have hj4 : j < names4.length := by simp [names4]; omega
    obtain ⟨p, gp, hp⟩ := part_ok hS (at_ + 2 + 5 * j) (names4[j])
    have hi := idx_strs names4 j hj4
    have hn : D.lst (names4.map D.str) = names4D := rfl
    rw [hn] at hi
    have kk : (at_ : Int) + 2 + 5 * (j : Int) = ((at_ + 2 + 5 * j : Nat) : Int) := by omega
    have gp' : GoodP p ∧ Named (names4.getD (0 + j) "") p := by
      rw [Nat.zero_add, List.getD_eq_getElem?_getD, List.getElem?_eq_getElem hj4]
      exact gp
    refine ⟨p, ?_, gp'⟩
    simp only [stepLc, wipeE, tTrue, sSeq, sNil, sRet, sRetV, sRetN, sSet, sOwn, sAsg, sDrop, sIf, sFor, sMet, sFrz, sBrk, sCnt, lft, outD, eC, aNil, aCons, eTup, eLst, eOp, eUn, tV, bT, tAndD, tOrD, tNotD, eAnd, eOr, eNot, eIf, eChain, eCall, eSl, oNone, oSome, iSrc, iCall, srcD, gNm, ev0, evS, evB0, evB0o, evBS, ok_bind, exc_bind, stuck_bind, if_true, if_false, List.length_cons, List.length_nil, List.set_cons_zero, List.set_cons_succ, lim_lit, Bool.false_eq_true, ite_true, ite_false, reduceIte, List.getElem?_cons_zero, List.getElem?_cons_succ, Nat.zero_le, Nat.reduceLeDiff, Nat.reduceAdd, Nat.reduceLT, Nat.reduceSub, Nat.zero_lt_succ, Bool.not_true, Bool.not_false, add_int, mul_l _ (by decide : -(2 ^ 64) < (5 : Int) ∧ (5 : Int) < 2 ^ 64), kk, hi, hp]
  obtain ⟨ps, hps, lps, qps⟩ := filt_ix (Q := fun j p => GoodP p ∧ Named (names4.getD j "") p) _ 0 hst
  have qps : ∀ (j : Nat) q, ps[j]? = some q → GoodP q ∧ Named (names4.getD j "") q := fun j q h => by
    have := qps j q h
    rw [Nat.zero_add] at this
    exact this
  rw [rng_len] at lps
  have hlc : eLc (iCall rng1D (aCons (eCall m_law_pick (aCons (eVar 0) (aCons (eVar 1) (aCons (eOp addD (eVar 2) (eC (.int 1))) aNil)))) aNil)) (gNm 5) tTrue (eCall m_law_part (aCons (eVar 0) (aCons (eOp addD (eOp addD (eVar 1) (eC (.int 2))) (eOp mulD (eC (.int 5)) (eVar 5))) (aCons (eOp idxD (eVar 3) (eVar 5)) aNil)))) [5] [.sh S, .sh (.int at_), .sh (.int mo), .sh names4D, .un, .un] = .ok (.lst (ps.map Part.enc)) := by
    refine eLc_ok (ds := rngD 0 m) ?_ (by rw [rng_len]; omega) hps
    have f5 : (mo : Int) + 1 = ((mo + 1 : Nat) : Int) := by omega
    simp only [sSeq, sNil, sRet, sRetV, sRetN, sSet, sOwn, sAsg, sDrop, sIf, sFor, sMet, sFrz, sBrk, sCnt, lft, outD, eC, aNil, aCons, eTup, eLst, eOp, eUn, tV, bT, tAndD, tOrD, tNotD, eAnd, eOr, eNot, eIf, eChain, eCall, eSl, oNone, oSome, iSrc, iCall, srcD, gNm, ev0, evS, evB0, evB0o, evBS, ok_bind, exc_bind, stuck_bind, if_true, if_false, List.length_cons, List.length_nil, List.set_cons_zero, List.set_cons_succ, lim_lit, Bool.false_eq_true, ite_true, ite_false, reduceIte, List.getElem?_cons_zero, List.getElem?_cons_succ, Nat.zero_le, Nat.reduceLeDiff, Nat.reduceAdd, Nat.reduceLT, Nat.reduceSub, Nat.zero_lt_succ, Bool.not_true, Bool.not_false, add_int, f5, hm, rng1_ok m (by omega)]
  have tup : ∀ l : List D, tupleD [.lst l] = .ok (.tup l) := fun _ => rfl
  by_cases h0 : t = 0
  · subst h0
    refine ⟨⟨ps, some ("r" : Str)⟩, ?_, by simp only; omega, .inr rfl, qps⟩
    have q1 : (((0 : Nat) : Int) == (0 : Int)) = true := by decide
    have fa : fApp (ps.map Part.enc) [.tup [.str "rest", .str "r"]] = some (ps.map Part.enc ++ [.tup [.str "rest", .str "r"]]) := fApp_ok _ _ (by rw [List.length_map]; omega)
    rw [e]
    simp only [d_law_pattern, sSeq, sNil, sRet, sRetV, sRetN, sSet, sOwn, sAsg, sDrop, sIf, sFor, sMet, sFrz, sBrk, sCnt, lft, outD, eC, aNil, aCons, eTup, eLst, eOp, eUn, tV, bT, tAndD, tOrD, tNotD, eAnd, eOr, eNot, eIf, eChain, eCall, eSl, oNone, oSome, iSrc, iCall, srcD, gNm, ev0, evS, evB0, evB0o, evBS, ok_bind, exc_bind, stuck_bind, if_true, if_false, List.length_cons, List.length_nil, List.set_cons_zero, List.set_cons_succ, lim_lit, Bool.false_eq_true, ite_true, ite_false, reduceIte, List.getElem?_cons_zero, List.getElem?_cons_succ, Nat.zero_le, Nat.reduceLeDiff, Nat.reduceAdd, Nat.reduceLT, Nat.reduceSub, Nat.zero_lt_succ, Bool.not_true, Bool.not_false, hlc, add_int, k1, ht, eq_int, q1, fa, tup]
    rfl
  · refine ⟨⟨ps, none⟩, ?_, by simp only; omega, .inl rfl, qps⟩
    have q1 : ((t : Int) == (0 : Int)) = false := by simp; omega
    rw [e]
    simp only [d_law_pattern, sSeq, sNil, sRet, sRetV, sRetN, sSet, sOwn, sAsg, sDrop, sIf, sFor, sMet, sFrz, sBrk, sCnt, lft, outD, eC, aNil, aCons, eTup, eLst, eOp, eUn, tV, bT, tAndD, tOrD, tNotD, eAnd, eOr, eNot, eIf, eChain, eCall, eSl, oNone, oSome, iSrc, iCall, srcD, gNm, ev0, evS, evB0, evB0o, evBS, ok_bind, exc_bind, stuck_bind, if_true, if_false, List.length_cons, List.length_nil, List.set_cons_zero, List.set_cons_succ, lim_lit, Bool.false_eq_true, ite_true, ite_false, reduceIte, List.getElem?_cons_zero, List.getElem?_cons_succ, Nat.zero_le, Nat.reduceLeDiff, Nat.reduceAdd, Nat.reduceLT, Nat.reduceSub, Nat.zero_lt_succ, Bool.not_true, Bool.not_false, hlc, add_int, k1, ht, eq_int, q1, tup]
    simp [Pat.enc, encs_none]
/-! an address near a pattern -/
abbrev nearB : SD := (sSeq (sSet 6 (eCall m_law_pick (aCons (eVar 0) (aCons (eOp addD (eVar 1) (eOp mulD (eC (.int 3)) (eVar 4))) (aCons (eC (.int 9)) aNil))))) (sSeq (sIf (tV (eOp eqD (eOp idxD (eVar 5) (eC (.int 0))) (eC (.str "rest")))) (sSeq (sMet 3 fExt (aCons (eLc (iCall rng1D (aCons (eCall m_law_pick (aCons (eVar 0) (aCons (eOp addD (eVar 1) (eC (.int 39))) (aCons (eC (.int 3)) aNil)))) aNil)) (gNm 7) tTrue (eCall m_law_any_word (aCons (eVar 0) (aCons (eOp addD (eOp addD (eVar 1) (eC (.int 40))) (eVar 7)) aNil))) [7]) aNil)) sNil) (sSeq (sIf (tOrD (tV (eOp eqD (eVar 6) (eC (.int 0)))) (tV (eOp eqD (eOp idxD (eVar 5) (eC (.int 0))) (eC (.str "any"))))) (sSeq (sMet 3 fApp (aCons (eCall m_law_any_word (aCons (eVar 0) (aCons (eOp addD (eOp addD (eVar 1) (eOp mulD (eC (.int 3)) (eVar 4))) (eC (.int 1))) aNil))) aNil)) sNil) (sSeq (sIf (tV (eOp eqD (eOp idxD (eVar 5) (eC (.int 0))) (eC (.str "word")))) (sSeq (sMet 3 fApp (aCons (eOp idxD (eVar 5) (eC (.int 1))) aNil)) sNil) (sSeq (sIf (tV (eOp eqD (eOp idxD (eVar 5) (eC (.int 0))) (eC (.str "number")))) (sSeq (sMet 3 fApp (aCons (eOp idxD (eLst (aCons (eC (.str "7")) (aCons (eC (.str "0")) (aCons (eC (.str "55")) aNil)))) (eCall m_law_pick (aCons (eVar 0) (aCons (eOp addD (eOp addD (eVar 1) (eOp mulD (eC (.int 3)) (eVar 4))) (eC (.int 2))) (aCons (eC (.int 3)) aNil))))) aNil)) sNil) (sSeq (sMet 3 fApp (aCons (eOp idxD (eOp idxD (eVar 5) (eC (.int 2))) (eCall m_law_pick (aCons (eVar 0) (aCons (eOp addD (eOp addD (eVar 1) (eOp mulD (eC (.int 3)) (eVar 4))) (eC (.int 2))) (aCons (eCall lenD (aCons (eOp idxD (eVar 5) (eC (.int 2))) aNil)) aNil))))) aNil)) sNil)) sNil)) sNil)) sNil)) sNil))
theorem fApp_strs (ws : List Str) (w : Str) (h : ws.length ≤ 1000) : fApp (ws.map D.str) [.str w] = some ((ws ++ [w]).map D.str) := by
  rw [fApp_ok _ _ (by rw [List.length_map]; omega), List.map_append]; rfl
theorem fExt_strs (ws vs : List Str) (h : ws.length ≤ 1000) (h2 : vs.length ≤ 1000) : fExt (ws.map D.str) [.lst (vs.map D.str)] = some ((ws ++ vs).map D.str) := by
  have hl : (ws.map D.str).length + (vs.map D.str).length ≤ LIM := by rw [List.length_map, List.length_map, lim_lit]; omega
  simp only [fExt, if_pos hl, List.map_append]
theorem near_word {S : D} (hS : IsScr S) (at_ k r : Nat) (P : D) (p : Part) (gp : GoodP p) (ws : List Str) (hl : ws.length ≤ 1000) (hq : ∀ w ∈ ws, w ∈ pool) (s4 s5 s6 s7 : Sl) :
    ∃ (ws' : List Str) (t6 t7 : Sl), nearB [.sh S, .sh (.int at_), .sh P, .ow (ws.map D.str), .sh (.int k), .sh p.enc, s6, s7] = some (.nx [.sh S, .sh (.int at_), .sh P, .ow (ws'.map D.str), .sh (.int k), .sh p.enc, t6, t7]) ∧ ws'.length ≤ ws.length + 1 ∧ ∀ w ∈ ws', w ∈ pool := by
  have kk : (at_ : Int) + 3 * (k : Int) = ((at_ + 3 * k : Nat) : Int) := by omega
  have kk1 : ((at_ + 3 * k : Nat) : Int) + 1 = ((at_ + 3 * k + 1 : Nat) : Int) := by omega
  have kk2 : ((at_ + 3 * k : Nat) : Int) + 2 = ((at_ + 3 * k + 2 : Nat) : Int) := by omega
  have m3 := fun j : Int => mul_l (i := 3) j (by decide)
  obtain ⟨u, hu, bu⟩ := pick_ok hS (at_ + 3 * k) 9 (by decide)
  obtain ⟨v, hv, ev⟩ := any_word_ok hS (at_ + 3 * k + 1)
  have one : ∀ w ∈ pool, (ws ++ [w]).length ≤ ws.length + 1 ∧ ∀ z ∈ ws ++ [w], z ∈ pool := fun w hw => ⟨by simp, fun z mz => by
    rcases List.mem_append.mp mz with mz | mz
    · exact hq z mz
    · rw [List.mem_singleton.mp mz]; exact hw⟩
  have kr := kind_rest p
  by_cases hz : ((u : Int) == (0 : Int)) = true
  · refine ⟨ws ++ [v], .sh (.int u), s7, ?_, one v hv⟩
    simp only [nearB, sSeq, sNil, sRet, sRetV, sRetN, sSet, sOwn, sAsg, sDrop, sIf, sFor, sMet, sFrz, sBrk, sCnt, lft, outD, eC, aNil, aCons, eTup, eLst, eOp, eUn, tV, bT, tAndD, tOrD, tNotD, eAnd, eOr, eNot, eIf, eChain, eCall, eSl, oNone, oSome, iSrc, iCall, srcD, gNm, ev0, evS, evB0, evB0o, evBS, ok_bind, exc_bind, stuck_bind, if_true, if_false, List.length_cons, List.length_nil, List.set_cons_zero, List.set_cons_succ, lim_lit, Bool.false_eq_true, ite_true, ite_false, reduceIte, List.getElem?_cons_zero, List.getElem?_cons_succ, Nat.zero_le, Nat.reduceLeDiff, Nat.reduceAdd, Nat.reduceLT, Nat.reduceSub, Nat.zero_lt_succ, Bool.not_true, Bool.not_false, m3, add_int, kk, kk1, hu, Part.k0, eq_str, kr, eq_int, hz, ev, fApp_strs ws v hl]
  · have hz : ((u : Int) == (0 : Int)) = false := by simpa using hz
    cases p with
    | word w =>
      refine ⟨ws ++ [w], .sh (.int u), s7, ?_, one w gp⟩
      simp only [nearB, sSeq, sNil, sRet, sRetV, sRetN, sSet, sOwn, sAsg, sDrop, sIf, sFor, sMet, sFrz, sBrk, sCnt, lft, outD, eC, aNil, aCons, eTup, eLst, eOp, eUn, tV, bT, tAndD, tOrD, tNotD, eAnd, eOr, eNot, eIf, eChain, eCall, eSl, oNone, oSome, iSrc, iCall, srcD, gNm, ev0, evS, evB0, evB0o, evBS, ok_bind, exc_bind, stuck_bind, if_true, if_false, List.length_cons, List.length_nil, List.set_cons_zero, List.set_cons_succ, lim_lit, Bool.false_eq_true, ite_true, ite_false, reduceIte, List.getElem?_cons_zero, List.getElem?_cons_succ, Nat.zero_le, Nat.reduceLeDiff, Nat.reduceAdd, Nat.reduceLT, Nat.reduceSub, Nat.zero_lt_succ, Bool.not_true, Bool.not_false, m3, add_int, kk, kk1, hu, Part.k0, Part.k1, Part.kind, Part.nm, eq_str, (by decide : (("word" : Str) == "rest") = false), (by decide : (("word" : Str) == "any") = false), BEq.rfl, eq_int, hz, fApp_strs ws w hl]
    | any n =>
      refine ⟨ws ++ [v], .sh (.int u), s7, ?_, one v hv⟩
      simp only [nearB, sSeq, sNil, sRet, sRetV, sRetN, sSet, sOwn, sAsg, sDrop, sIf, sFor, sMet, sFrz, sBrk, sCnt, lft, outD, eC, aNil, aCons, eTup, eLst, eOp, eUn, tV, bT, tAndD, tOrD, tNotD, eAnd, eOr, eNot, eIf, eChain, eCall, eSl, oNone, oSome, iSrc, iCall, srcD, gNm, ev0, evS, evB0, evB0o, evBS, ok_bind, exc_bind, stuck_bind, if_true, if_false, List.length_cons, List.length_nil, List.set_cons_zero, List.set_cons_succ, lim_lit, Bool.false_eq_true, ite_true, ite_false, reduceIte, List.getElem?_cons_zero, List.getElem?_cons_succ, Nat.zero_le, Nat.reduceLeDiff, Nat.reduceAdd, Nat.reduceLT, Nat.reduceSub, Nat.zero_lt_succ, Bool.not_true, Bool.not_false, m3, add_int, kk, kk1, hu, Part.k0, Part.k1, Part.kind, Part.nm, eq_str, (by decide : (("any" : Str) == "rest") = false), BEq.rfl, eq_int, hz, ev, fApp_strs ws v hl]
    | num n =>
      obtain ⟨x, hx, bx⟩ := pick_ok hS (at_ + 3 * k + 2) 3 (by decide)
      let l3 : List Str := ["7", "0", "55"]
      have hx3 : x < l3.length := by simp [l3]; omega
      have hi := idx_strs l3 x hx3
      have hm : ∀ w ∈ l3, w ∈ pool := by
        intro w m
        simp only [l3, List.mem_cons, List.not_mem_nil, or_false] at m
        rcases m with rfl | rfl | rfl <;> decide
      have hw := hm _ (List.getElem_mem hx3)
      generalize l3[x] = w at hi hw
      have hl3 : D.lst (l3.map D.str) = .lst [.str "7", .str "0", .str "55"] := rfl
      rw [hl3] at hi
      refine ⟨ws ++ [w], .sh (.int u), s7, ?_, one w hw⟩
      simp only [nearB, sSeq, sNil, sRet, sRetV, sRetN, sSet, sOwn, sAsg, sDrop, sIf, sFor, sMet, sFrz, sBrk, sCnt, lft, outD, eC, aNil, aCons, eTup, eLst, eOp, eUn, tV, bT, tAndD, tOrD, tNotD, eAnd, eOr, eNot, eIf, eChain, eCall, eSl, oNone, oSome, iSrc, iCall, srcD, gNm, ev0, evS, evB0, evB0o, evBS, ok_bind, exc_bind, stuck_bind, if_true, if_false, List.length_cons, List.length_nil, List.set_cons_zero, List.set_cons_succ, lim_lit, Bool.false_eq_true, ite_true, ite_false, reduceIte, List.getElem?_cons_zero, List.getElem?_cons_succ, Nat.zero_le, Nat.reduceLeDiff, Nat.reduceAdd, Nat.reduceLT, Nat.reduceSub, Nat.zero_lt_succ, Bool.not_true, Bool.not_false, m3, add_int, kk, kk1, kk2, hu, hx, hi, Part.k0, Part.k1, Part.kind, Part.nm, eq_str, (by decide : (("number" : Str) == "rest") = false), (by decide : (("number" : Str) == "any") = false), (by decide : (("number" : Str) == "word") = false), BEq.rfl, eq_int, hz, fApp_strs ws w hl]
    | one n cs =>
      have hc : 0 < cs.length := List.length_pos_iff.mpr gp.1
      obtain ⟨x, hx, bx⟩ := pick_ok hS (at_ + 3 * k + 2) cs.length (by omega)
      have hx3 : x < cs.length := by omega
      have hi : idxD (encW cs) (.int (x : Int)) = .ok (.str cs[x]) := idx_tup (by rw [atI_nat, List.getElem?_map, List.getElem?_eq_getElem hx3]; rfl)
      have hw := gp.2 _ (List.getElem_mem hx3)
      have h2 : idxD (Part.enc (.one n cs)) (.int 2) = .ok (encW cs) := idx2 _ _ _ _
      have h3 : lenD [encW cs] = .ok (.int cs.length) := by
        show Res.ok (D.int ((cs.map D.str).length : Int)) = _
        rw [List.length_map]
      generalize cs[x] = w at hi hw
      refine ⟨ws ++ [w], .sh (.int u), s7, ?_, one w hw⟩
      simp only [nearB, sSeq, sNil, sRet, sRetV, sRetN, sSet, sOwn, sAsg, sDrop, sIf, sFor, sMet, sFrz, sBrk, sCnt, lft, outD, eC, aNil, aCons, eTup, eLst, eOp, eUn, tV, bT, tAndD, tOrD, tNotD, eAnd, eOr, eNot, eIf, eChain, eCall, eSl, oNone, oSome, iSrc, iCall, srcD, gNm, ev0, evS, evB0, evB0o, evBS, ok_bind, exc_bind, stuck_bind, if_true, if_false, List.length_cons, List.length_nil, List.set_cons_zero, List.set_cons_succ, lim_lit, Bool.false_eq_true, ite_true, ite_false, reduceIte, List.getElem?_cons_zero, List.getElem?_cons_succ, Nat.zero_le, Nat.reduceLeDiff, Nat.reduceAdd, Nat.reduceLT, Nat.reduceSub, Nat.zero_lt_succ, Bool.not_true, Bool.not_false, m3, add_int, kk, kk1, kk2, hu, hx, hi, h2, h3, Part.k0, Part.k1, Part.kind, Part.nm, eq_str, (by decide : (("one" : Str) == "rest") = false), (by decide : (("one" : Str) == "any") = false), (by decide : (("one" : Str) == "word") = false), (by decide : (("one" : Str) == "number") = false), BEq.rfl, eq_int, hz, fApp_strs ws w hl]
theorem near_rest {S : D} (hS : IsScr S) (at_ k : Nat) (P : D) (r : Str) (ws : List Str) (hl : ws.length ≤ 1000) (hq : ∀ w ∈ ws, w ∈ pool) (s6 s7 : Sl) :
    ∃ (ws' : List Str) (t6 t7 : Sl), nearB [.sh S, .sh (.int at_), .sh P, .ow (ws.map D.str), .sh (.int k), .sh (encR r), s6, s7] = some (.nx [.sh S, .sh (.int at_), .sh P, .ow (ws'.map D.str), .sh (.int k), .sh (encR r), t6, t7]) ∧ ws'.length ≤ ws.length + 2 ∧ ∀ w ∈ ws', w ∈ pool := by
  have kk : (at_ : Int) + 3 * (k : Int) = ((at_ + 3 * k : Nat) : Int) := by omega
  have m3 := fun j : Int => mul_l (i := 3) j (by decide)
  obtain ⟨u, hu, bu⟩ := pick_ok hS (at_ + 3 * k) 9 (by decide)
  obtain ⟨m, hm, bm⟩ := pick_ok hS (at_ + 39) 3 (by decide)
  have k39 : (at_ : Int) + 39 = ((at_ + 39 : Nat) : Int) := by omega
  let env : En := [.sh S, .sh (.int at_), .sh P, .ow (ws.map D.str), .sh (.int k), .sh (encR r), .sh (.int u), s7]
  have hst : ∀ d ∈ rngD 0 m, ∃ w, stepLc (gNm 7) tTrue (eCall m_law_any_word (aCons (eVar 0) (aCons (eOp addD (eOp addD (eVar 1) (eC (.int 40))) (eVar 7)) aNil))) [7] env d = .ok (some (.str w)) ∧ w ∈ pool := by
    intro d md
    obtain ⟨j, hj, rfl⟩ := rng_mem md
    obtain ⟨w, hw, ew⟩ := any_word_ok hS (at_ + 40 + j)
    have kj : (at_ : Int) + 40 + (j : Int) = ((at_ + 40 + j : Nat) : Int) := by omega
    refine ⟨w, ?_, hw⟩
    simp only [env, stepLc, wipeE, tTrue, sSeq, sNil, sRet, sRetV, sRetN, sSet, sOwn, sAsg, sDrop, sIf, sFor, sMet, sFrz, sBrk, sCnt, lft, outD, eC, aNil, aCons, eTup, eLst, eOp, eUn, tV, bT, tAndD, tOrD, tNotD, eAnd, eOr, eNot, eIf, eChain, eCall, eSl, oNone, oSome, iSrc, iCall, srcD, gNm, ev0, evS, evB0, evB0o, evBS, ok_bind, exc_bind, stuck_bind, if_true, if_false, List.length_cons, List.length_nil, List.set_cons_zero, List.set_cons_succ, lim_lit, Bool.false_eq_true, ite_true, ite_false, reduceIte, List.getElem?_cons_zero, List.getElem?_cons_succ, Nat.zero_le, Nat.reduceLeDiff, Nat.reduceAdd, Nat.reduceLT, Nat.reduceSub, Nat.zero_lt_succ, Bool.not_true, Bool.not_false, add_int, kj, ew]
  obtain ⟨vs, hvs, lvs, qvs⟩ := filt_strs hst
  rw [rng_len] at lvs
  have hlc : eLc (iCall rng1D (aCons (eCall m_law_pick (aCons (eVar 0) (aCons (eOp addD (eVar 1) (eC (.int 39))) (aCons (eC (.int 3)) aNil)))) aNil)) (gNm 7) tTrue (eCall m_law_any_word (aCons (eVar 0) (aCons (eOp addD (eOp addD (eVar 1) (eC (.int 40))) (eVar 7)) aNil))) [7] [.sh S, .sh (.int at_), .sh P, .ow (ws.map D.str), .sh (.int k), .sh (encR r), .sh (.int u), s7] = .ok (.lst (vs.map D.str)) := by
    refine eLc_ok (ds := rngD 0 m) ?_ (by rw [rng_len]; omega) hvs
    simp only [sSeq, sNil, sRet, sRetV, sRetN, sSet, sOwn, sAsg, sDrop, sIf, sFor, sMet, sFrz, sBrk, sCnt, lft, outD, eC, aNil, aCons, eTup, eLst, eOp, eUn, tV, bT, tAndD, tOrD, tNotD, eAnd, eOr, eNot, eIf, eChain, eCall, eSl, oNone, oSome, iSrc, iCall, srcD, gNm, ev0, evS, evB0, evB0o, evBS, ok_bind, exc_bind, stuck_bind, if_true, if_false, List.length_cons, List.length_nil, List.set_cons_zero, List.set_cons_succ, lim_lit, Bool.false_eq_true, ite_true, ite_false, reduceIte, List.getElem?_cons_zero, List.getElem?_cons_succ, Nat.zero_le, Nat.reduceLeDiff, Nat.reduceAdd, Nat.reduceLT, Nat.reduceSub, Nat.zero_lt_succ, Bool.not_true, Bool.not_false, add_int, k39, hm, rng1_ok m (by omega)]
  refine ⟨ws ++ vs, .sh (.int u), s7, ?_, by rw [List.length_append]; omega, fun z mz => ?_⟩
  · simp only [nearB, sSeq, sNil, sRet, sRetV, sRetN, sSet, sOwn, sAsg, sDrop, sIf, sFor, sMet, sFrz, sBrk, sCnt, lft, outD, eC, aNil, aCons, eTup, eLst, eOp, eUn, tV, bT, tAndD, tOrD, tNotD, eAnd, eOr, eNot, eIf, eChain, eCall, eSl, oNone, oSome, iSrc, iCall, srcD, gNm, ev0, evS, evB0, evB0o, evBS, ok_bind, exc_bind, stuck_bind, if_true, if_false, List.length_cons, List.length_nil, List.set_cons_zero, List.set_cons_succ, lim_lit, Bool.false_eq_true, ite_true, ite_false, reduceIte, List.getElem?_cons_zero, List.getElem?_cons_succ, Nat.zero_le, Nat.reduceLeDiff, Nat.reduceAdd, Nat.reduceLT, Nat.reduceSub, Nat.zero_lt_succ, Bool.not_true, Bool.not_false, m3, add_int, kk, hu, encR0, eq_str, BEq.rfl, hlc, fExt_strs ws vs hl (by omega)]
  · rcases List.mem_append.mp mz with mz | mz
    · exact hq z mz
    · exact qvs z mz
/-- the items of a pattern, one by one, and how many words they may bring -/
inductive Items : List D → Nat → Prop
  | nil : Items [] 0
  | part (p : Part) (l : List D) (n : Nat) : GoodP p → Items l n → Items (p.enc :: l) (n + 1)
  | rest (r : Str) (l : List D) (n : Nat) : Items l n → Items (encR r :: l) (n + 2)
theorem items_pat (p : Pat) (h : ∀ q ∈ p.ps, GoodP q) : ∃ n, Items p.encs n ∧ n ≤ p.ps.length + 2 := by
  obtain ⟨ps, rest⟩ := p
  induction ps with
  | nil =>
    cases rest with
    | none => exact ⟨0, .nil, by omega⟩
    | some r => exact ⟨2, .rest r [] 0 .nil, by simp⟩
  | cons q ps ih =>
    rw [encs_cons]
    obtain ⟨n, h1, h2⟩ := ih fun x m => h x (List.mem_cons_of_mem _ m)
    exact ⟨n + 1, .part q _ n (h q List.mem_cons_self) h1, by simp only [List.length_cons] at *; omega⟩
def numb : Nat → List D → List D
  | _, [] => []
  | k, d :: l => pairD (.int k) d :: numb (k + 1) l
theorem enum_numb (l : List D) : enumL l = numb 0 l := by
  have g : ∀ (l : List D) (k : Nat), (List.range' k l.length).zipWith (fun (i : Nat) d => pairD (.int (i : Int)) d) l = numb k l := by
    intro l
    induction l with
    | nil => intro k; rfl
    | cons d l ih =>
      intro k
      rw [List.length_cons, List.range'_succ, List.zipWith_cons_cons, ih]
      rfl
  unfold enumL
  rw [List.range_eq_range', g]
theorem near_loop {S : D} (hS : IsScr S) (at_ : Nat) (P : D) {l : List D} {n : Nat} (hI : Items l n) : ∀ (k : Nat) (ws : List Str) (s4 s5 s6 s7 : Sl), ws.length + n ≤ 1000 → (∀ w ∈ ws, w ∈ pool) →
    ∃ (ws' : List Str) (t4 t5 t6 t7 : Sl), loopD (gTp 2 (gCn (gNm 4) (gCn (gNm 5) gNl))) nearB (numb k l) [.sh S, .sh (.int at_), .sh P, .ow (ws.map D.str), s4, s5, s6, s7] = some (.nx [.sh S, .sh (.int at_), .sh P, .ow (ws'.map D.str), t4, t5, t6, t7]) ∧ ws'.length ≤ ws.length + n ∧ ∀ w ∈ ws', w ∈ pool := by
  have go : ∀ (k : Nat) (d : D) (l : List D) (ws : List Str) (s4 s5 s6 s7 : Sl) (ws1 : List Str) (t6 t7 : Sl), nearB [.sh S, .sh (.int at_), .sh P, .ow (ws.map D.str), .sh (.int k), .sh d, s6, s7] = some (.nx [.sh S, .sh (.int at_), .sh P, .ow (ws1.map D.str), .sh (.int k), .sh d, t6, t7]) →
      loopD (gTp 2 (gCn (gNm 4) (gCn (gNm 5) gNl))) nearB (numb k (d :: l)) [.sh S, .sh (.int at_), .sh P, .ow (ws.map D.str), s4, s5, s6, s7] = loopD (gTp 2 (gCn (gNm 4) (gCn (gNm 5) gNl))) nearB (numb (k + 1) l) [.sh S, .sh (.int at_), .sh P, .ow (ws1.map D.str), .sh (.int k), .sh d, t6, t7] := by
    intro k d l ws s4 s5 s6 s7 ws1 t6 t7 h
    show (match nearB [.sh S, .sh (.int at_), .sh P, .ow (ws.map D.str), .sh (.int k), .sh d, s6, s7] with
      | some (.nx e2) => loopD (gTp 2 (gCn (gNm 4) (gCn (gNm 5) gNl))) nearB (numb (k + 1) l) e2
      | some (.ct e2) => loopD (gTp 2 (gCn (gNm 4) (gCn (gNm 5) gNl))) nearB (numb (k + 1) l) e2
      | some (.bk e2) => some (.nx e2)
      | r => r) = _
    rw [h]
  induction hI with
  | nil => exact fun k ws s4 s5 s6 s7 _ hq => ⟨ws, s4, s5, s6, s7, rfl, by omega, hq⟩
  | part p l n gp _ ih =>
    intro k ws s4 s5 s6 s7 hl hq
    obtain ⟨ws1, t6, t7, e1, l1, q1⟩ := near_word hS at_ k 0 P p gp ws (by omega) hq s4 s5 s6 s7
    obtain ⟨ws2, u4, u5, u6, u7, e2, l2, q2⟩ := ih (k + 1) ws1 (.sh (.int k)) (.sh p.enc) t6 t7 (by omega) q1
    exact ⟨ws2, u4, u5, u6, u7, (go k p.enc l ws s4 s5 s6 s7 ws1 t6 t7 e1).trans e2, by omega, q2⟩
  | rest r l n _ ih =>
    intro k ws s4 s5 s6 s7 hl hq
    obtain ⟨ws1, t6, t7, e1, l1, q1⟩ := near_rest hS at_ k P r ws (by omega) hq s6 s7
    obtain ⟨ws2, u4, u5, u6, u7, e2, l2, q2⟩ := ih (k + 1) ws1 (.sh (.int k)) (.sh (encR r)) t6 t7 (by omega) q1
    exact ⟨ws2, u4, u5, u6, u7, (go k (encR r) l ws s4 s5 s6 s7 ws1 t6 t7 e1).trans e2, by omega, q2⟩
theorem near_ok {S : D} (hS : IsScr S) (at_ : Nat) (p : Pat) (hp : p.ps.length ≤ 4) (gp : ∀ q ∈ p.ps, GoodP q) : ∃ a : List Str, m_law_near [S, .int at_, p.enc] = .ok (encW a) ∧ a.length ≤ p.ps.length + 2 ∧ ∀ w ∈ a, w ∈ pool := by
  have e : m_law_near [S, .int at_, p.enc] = outD (d_law_near [.sh S, .sh (.int at_), .sh p.enc, .un, .un, .un, .un, .un]) := rfl
  obtain ⟨n, hI, hn⟩ := items_pat p gp
  obtain ⟨ws, t4, t5, t6, t7, lp, l1, q1⟩ := near_loop hS at_ p.enc hI 0 [] .un .un .un .un (by simp; omega) (fun _ m => absurd m List.not_mem_nil)
  rw [← enum_numb] at lp
  refine ⟨ws, ?_, by simp at l1; omega, q1⟩
  have he : enumA [p.enc] = .ok (enumL p.encs) := rfl
  have lp : loopD (gTp 2 (gCn (gNm 4) (gCn (gNm 5) gNl))) nearB (enumL p.encs) [.sh S, .sh (.int at_), .sh p.enc, .ow [], .un, .un, .un, .un] = _ := lp
  have tup : ∀ l : List D, tupleD [.lst l] = .ok (.tup l) := fun _ => rfl
  rw [e]
  simp only [d_law_near, sSeq, sNil, sRet, sRetV, sRetN, sSet, sOwn, sAsg, sDrop, sIf, sFor, sMet, sFrz, sBrk, sCnt, lft, outD, eC, aNil, aCons, eTup, eLst, eOp, eUn, tV, bT, tAndD, tOrD, tNotD, eAnd, eOr, eNot, eIf, eChain, eCall, eSl, oNone, oSome, iSrc, iCall, srcD, gNm, ev0, evS, evB0, evB0o, evBS, ok_bind, exc_bind, stuck_bind, if_true, if_false, List.length_cons, List.length_nil, List.set_cons_zero, List.set_cons_succ, lim_lit, Bool.false_eq_true, ite_true, ite_false, reduceIte, List.getElem?_cons_zero, List.getElem?_cons_succ, Nat.zero_le, Nat.reduceLeDiff, Nat.reduceAdd, Nat.reduceLT, Nat.reduceSub, Nat.zero_lt_succ, Bool.not_true, Bool.not_false, he, lp, tup]
  rfl
end L2.RB.P
namespace L2.RB.P
open PySem PySem.Spec PyProof.Rows
theorem filt_bools {f : D → Res (Option D)} {g : D → Bool} : ∀ {l : List D}, (∀ d ∈ l, f d = .ok (some (.bl (g d)))) → filtR f l = .ok ((l.map g).map D.bl)
  | [], _ => rfl
  | d :: l, h => by
    simp only [filtR, h d List.mem_cons_self, filt_bools fun x m => h x (List.mem_cons_of_mem _ m), ok_bind, List.map_cons]
def fig (c : Nat) : Bool := decide (48 ≤ c ∧ c ≤ 57)
def sg (w : Str) : Nat := w.cps.toList.headD 0
/-- a whole number, as numbers are written -/
def isNum (w : Str) : Bool := w.cps.toList.all fig && (!(sg w == 48) || w == "0")
theorem WordOk_pool : ∀ w ∈ pool, 0 < w.length ∧ w.length ≤ 1000 := pool_cases ⟨by decide, by decide, by decide, by decide, by decide, by decide, by decide, by decide, by decide⟩
theorem idx_sg {w : Str} (h0 : 0 < w.length) (h1 : w.length ≤ 1000) : idxD (.str w) (.int 0) = .ok (.str ⟨#[sg w]⟩) := by
  have hl : w.length ≤ LIM := by rw [lim_lit]; omega
  obtain ⟨⟨l⟩⟩ := w
  cases l with
  | nil => exact absurd h0 (by simp [Str.length])
  | cons c l =>
    simp only [idxD, if_pos hl, atI_0, optD, sg, List.headD_cons]
theorem one_eq (c d : Nat) : ((⟨#[c]⟩ : Str) == ⟨#[d]⟩) = (c == d) := by
  by_cases h : c = d
  · subst h; simp
  · have h1 : ¬ ((⟨#[c]⟩ : Str) = ⟨#[d]⟩) := fun z => h (by injection z with z; simpa using z)
    rw [beq_eq_false_iff_ne.mpr h1, beq_eq_false_iff_ne.mpr h]
theorem in_sign (c : Nat) (z : Str) : inD (.str ⟨#[c]⟩) (.str z) = .ok (.bl (decide (c ∈ z.cps.toList))) := rfl
theorem fig_mem (c : Nat) : decide (c ∈ ("0123456789" : Str).cps.toList) = fig c := by
  have e : ("0123456789" : Str).cps.toList = [48, 49, 50, 51, 52, 53, 54, 55, 56, 57] := by decide
  rw [e]
  unfold fig
  refine decide_eq_decide.mpr ?_
  simp only [List.mem_cons, List.not_mem_nil, or_false]
  omega
theorem is_number_ok (w : Str) (h0 : 0 < w.length) (h1 : w.length ≤ 1000) : m_is_number [.str w] = .ok (.bl (isNum w)) := by
  have e : m_is_number [.str w] = outD (d_is_number [.sh (.str w), .un]) := rfl
  rw [e]
  have step : ∀ d ∈ signsD w, stepLc (gNm 1) tTrue (eOp inD (eVar 1) (eC (.str "0123456789"))) [1] [.sh (.str w), .un] d = .ok (some (.bl (match d with | .str x => fig (x.cps.toList.headD 0) | _ => false))) := by
    intro d m
    unfold signsD at m
    obtain ⟨c, _, rfl⟩ := List.mem_map.mp m
    have hi := in_sign c "0123456789"
    rw [fig_mem] at hi
    simp only [stepLc, wipeE, tTrue, sSeq, sNil, sRet, sRetV, sRetN, sSet, sOwn, sAsg, sDrop, sIf, sFor, sMet, sFrz, sBrk, sCnt, lft, outD, eC, aNil, aCons, eTup, eLst, eOp, eUn, tV, bT, tAndD, tOrD, tNotD, eAnd, eOr, eNot, eIf, eChain, eCall, eSl, oNone, oSome, iSrc, iCall, srcD, gNm, ev0, evS, evB0, evB0o, evBS, ok_bind, exc_bind, stuck_bind, if_true, if_false, List.length_cons, List.length_nil, List.set_cons_zero, List.set_cons_succ, lim_lit, Bool.false_eq_true, ite_true, ite_false, reduceIte, List.getElem?_cons_zero, List.getElem?_cons_succ, Nat.zero_le, Nat.reduceLeDiff, Nat.reduceAdd, Nat.reduceLT, Nat.reduceSub, Nat.zero_lt_succ, Bool.not_true, Bool.not_false, hi, List.headD_cons]
  have hf := filt_bools step
  have ea : ((signsD w).map fun d => match d with | .str x => fig (x.cps.toList.headD 0) | _ => false) = w.cps.toList.map fig := by
    unfold signsD
    rw [List.map_map]
    rfl
  rw [ea] at hf
  have hlc : eLc (iSrc (eVar 0)) (gNm 1) tTrue (eOp inD (eVar 1) (eC (.str "0123456789"))) [1] [.sh (.str w), .un] = .ok (.lst ((w.cps.toList.map fig).map D.bl)) := by
    refine eLc_ok (ds := signsD w) rfl ?_ hf
    unfold signsD
    rw [List.length_map, Array.length_toList]
    have : w.cps.size ≤ 1000 := h1
    omega
  have hall := all_ok (w.cps.toList.map fig)
  rw [List.all_map] at hall
  have hx := idx_sg h0 h1
  have hne : neD (.str ⟨#[sg w]⟩) (.str "0") = .ok (.bl (!(sg w == 48))) := by
    rw [ne_str]
    have : ("0" : Str) = ⟨#[48]⟩ := by decide
    rw [this, one_eq]
  have heq := eq_str w "0"
  unfold isNum
  have ef : (List.all w.cps.toList (id ∘ fig)) = List.all w.cps.toList fig := rfl
  rw [ef] at hall
  cases hA : List.all w.cps.toList fig <;> cases hB : (sg w == 48) <;> cases hC : (w == ("0" : Str)) <;> rw [hA] at hall <;> rw [hB] at hne <;> rw [hC] at heq <;> simp only [d_is_number, sSeq, sNil, sRet, sRetV, sRetN, sSet, sOwn, sAsg, sDrop, sIf, sFor, sMet, sFrz, sBrk, sCnt, lft, outD, eC, aNil, aCons, eTup, eLst, eOp, eUn, tV, bT, tAndD, tOrD, tNotD, eAnd, eOr, eNot, eIf, eChain, eCall, eSl, oNone, oSome, iSrc, iCall, srcD, gNm, ev0, evS, evB0, evB0o, evBS, ok_bind, exc_bind, stuck_bind, if_true, if_false, List.length_cons, List.length_nil, List.set_cons_zero, List.set_cons_succ, lim_lit, Bool.false_eq_true, ite_true, ite_false, reduceIte, List.getElem?_cons_zero, List.getElem?_cons_succ, Nat.zero_le, Nat.reduceLeDiff, Nat.reduceAdd, Nat.reduceLT, Nat.reduceSub, Nat.zero_lt_succ, Bool.not_true, Bool.not_false, hlc, hall, hx, hne, heq, Bool.not_true, Bool.not_false] <;> rfl
theorem law_is_number_ok (w : Str) (h0 : 0 < w.length) (h1 : w.length ≤ 1000) : m_law_is_number [.str w] = .ok (.bl (isNum w)) := by
  have e : m_law_is_number [.str w] = outD (d_law_is_number [.sh (.str w), .un]) := rfl
  rw [e]
  have step : ∀ l : List Nat, filtR (stepLc (gNm 1) (tV (eOp notInD (eVar 1) (eC (.str "0123456789")))) (eVar 1) [1] [.sh (.str w), .un]) (l.map fun c => D.str ⟨#[c]⟩) = .ok ((l.filter fun c => !fig c).map fun c => D.str ⟨#[c]⟩) := by
    intro l
    induction l with
    | nil => rfl
    | cons c l ih =>
      have hi : notInD (.str ⟨#[c]⟩) (.str "0123456789") = .ok (.bl (!fig c)) := by rw [← fig_mem]; rfl
      cases hc : fig c <;> rw [hc] at hi <;> simp only [List.map_cons, filtR, ih, stepLc, wipeE, sSeq, sNil, sRet, sRetV, sRetN, sSet, sOwn, sAsg, sDrop, sIf, sFor, sMet, sFrz, sBrk, sCnt, lft, outD, eC, aNil, aCons, eTup, eLst, eOp, eUn, tV, bT, tAndD, tOrD, tNotD, eAnd, eOr, eNot, eIf, eChain, eCall, eSl, oNone, oSome, iSrc, iCall, srcD, gNm, ev0, evS, evB0, evB0o, evBS, ok_bind, exc_bind, stuck_bind, if_true, if_false, List.length_cons, List.length_nil, List.set_cons_zero, List.set_cons_succ, lim_lit, Bool.false_eq_true, ite_true, ite_false, reduceIte, List.getElem?_cons_zero, List.getElem?_cons_succ, Nat.zero_le, Nat.reduceLeDiff, Nat.reduceAdd, Nat.reduceLT, Nat.reduceSub, Nat.zero_lt_succ, Bool.not_true, Bool.not_false, hi, hc, List.filter_cons, Bool.not_true, Bool.not_false]
  have hlc : eLc (iSrc (eVar 0)) (gNm 1) (tV (eOp notInD (eVar 1) (eC (.str "0123456789")))) (eVar 1) [1] [.sh (.str w), .un] = .ok (.lst ((w.cps.toList.filter fun c => !fig c).map fun c => D.str ⟨#[c]⟩)) := by
    refine eLc_ok (ds := signsD w) rfl ?_ (step _)
    unfold signsD
    rw [List.length_map, Array.length_toList]
    have : w.cps.size ≤ 1000 := h1
    omega
  have hpl : ∀ l : List Nat, (D.lst (l.map fun c => D.str ⟨#[c]⟩)).pl 60 = true := fun l => by
    simp only [D.pl]
    exact pls_map (fun a => by simp [D.pl]) l
  have hq : eqD (.lst ((w.cps.toList.filter fun c => !fig c).map fun c => D.str ⟨#[c]⟩)) (.lst []) = .ok (.bl (w.cps.toList.all fig)) := by
    rw [eqD_pl (hpl _) lnil_pl60]
    congr 2
    generalize w.cps.toList = l
    induction l with
    | nil => rfl
    | cons c l ih =>
      cases hc : fig c
      · simp [hc, D.eqv, D.eqvs]
      · simp only [List.filter_cons, hc, Bool.not_true, Bool.false_eq_true, if_false, List.all_cons, Bool.true_and]; exact ih
  have hx := idx_sg h0 h1
  have hne : neD (.str ⟨#[sg w]⟩) (.str "0") = .ok (.bl (!(sg w == 48))) := by
    rw [ne_str]
    have : ("0" : Str) = ⟨#[48]⟩ := by decide
    rw [this, one_eq]
  have heq := eq_str w "0"
  unfold isNum
  cases hA : List.all w.cps.toList fig <;> cases hB : (sg w == 48) <;> cases hC : (w == ("0" : Str)) <;> rw [hA] at hq <;> rw [hB] at hne <;> rw [hC] at heq <;> simp only [d_law_is_number, sSeq, sNil, sRet, sRetV, sRetN, sSet, sOwn, sAsg, sDrop, sIf, sFor, sMet, sFrz, sBrk, sCnt, lft, outD, eC, aNil, aCons, eTup, eLst, eOp, eUn, tV, bT, tAndD, tOrD, tNotD, eAnd, eOr, eNot, eIf, eChain, eCall, eSl, oNone, oSome, iSrc, iCall, srcD, gNm, ev0, evS, evB0, evB0o, evBS, ok_bind, exc_bind, stuck_bind, if_true, if_false, List.length_cons, List.length_nil, List.set_cons_zero, List.set_cons_succ, lim_lit, Bool.false_eq_true, ite_true, ite_false, reduceIte, List.getElem?_cons_zero, List.getElem?_cons_succ, Nat.zero_le, Nat.reduceLeDiff, Nat.reduceAdd, Nat.reduceLT, Nat.reduceSub, Nat.zero_lt_succ, Bool.not_true, Bool.not_false, hlc, hq, hx, hne, heq, Bool.not_true, Bool.not_false] <;> rfl
/-- a text that may be a word -/
abbrev WOk (w : Str) : Prop := 0 < w.length ∧ w.length ≤ 600
theorem wok_pool : ∀ w ∈ pool, WOk w := pool_cases ⟨by decide, by decide, by decide, by decide, by decide, by decide, by decide, by decide, by decide⟩
def valN (w : Str) : Int := ((NumText.digitsVal w.cps.toList : Nat) : Int)
theorem int_ok (w : Str) (h : WOk w) (hn : isNum w = true) : intD [.str w] = .ok (.int (valN w)) := by
  have ht : intText? w = some (valN w) := by
    unfold isNum at hn
    have h1 := (Bool.and_eq_true_iff.mp hn).1
    have hne : w.cps.toList ≠ [] := fun z => by
      have h0 : 0 < w.cps.size := h.1
      rw [← Array.length_toList, z] at h0
      exact absurd h0 (by simp)
    refine intText_digits (fun c m => ?_) hne (Nat.le_trans h.2 (by decide))
    have := List.all_eq_true.mp h1 c m
    unfold fig at this
    exact of_decide_eq_true this
  have hl : w.length ≤ 640 := Nat.le_trans h.2 (by decide)
  simp only [intD, ht, if_pos hl]
theorem has_rest_ok (p : Pat) : m_has_rest [p.enc] = .ok (.bl p.rest.isSome) := by
  have e : m_has_rest [p.enc] = outD (d_has_rest [.sh p.enc]) := rfl
  rw [e]
  have hn : neD p.enc (.tup []) = .ok (.bl (!p.encs.isEmpty)) := ne_nilT p.pl60
  obtain ⟨ps, rest⟩ := p
  cases rest with
  | some r =>
    have ne : (Pat.encs ⟨ps, some r⟩).isEmpty = false := by simp [Pat.encs]
    have hl : idxD (Pat.enc ⟨ps, some r⟩) (.int (-1)) = .ok (encR r) := idx_last _ _
    simp only [d_has_rest, sSeq, sNil, sRet, sRetV, sRetN, sSet, sOwn, sAsg, sDrop, sIf, sFor, sMet, sFrz, sBrk, sCnt, lft, outD, eC, aNil, aCons, eTup, eLst, eOp, eUn, tV, bT, tAndD, tOrD, tNotD, eAnd, eOr, eNot, eIf, eChain, eCall, eSl, oNone, oSome, iSrc, iCall, srcD, gNm, ev0, evS, evB0, evB0o, evBS, ok_bind, exc_bind, stuck_bind, if_true, if_false, List.length_cons, List.length_nil, List.set_cons_zero, List.set_cons_succ, lim_lit, Bool.false_eq_true, ite_true, ite_false, reduceIte, List.getElem?_cons_zero, List.getElem?_cons_succ, Nat.zero_le, Nat.reduceLeDiff, Nat.reduceAdd, Nat.reduceLT, Nat.reduceSub, Nat.zero_lt_succ, Bool.not_true, Bool.not_false, hn, ne, neg1, hl, encR0, eq_str]
    simp
  | none =>
    rcases List.eq_nil_or_concat ps with rfl | ⟨L, b, hL⟩
    · have ne : (Pat.encs ⟨[], none⟩).isEmpty = true := by simp [Pat.encs]
      simp only [d_has_rest, sSeq, sNil, sRet, sRetV, sRetN, sSet, sOwn, sAsg, sDrop, sIf, sFor, sMet, sFrz, sBrk, sCnt, lft, outD, eC, aNil, aCons, eTup, eLst, eOp, eUn, tV, bT, tAndD, tOrD, tNotD, eAnd, eOr, eNot, eIf, eChain, eCall, eSl, oNone, oSome, iSrc, iCall, srcD, gNm, ev0, evS, evB0, evB0o, evBS, ok_bind, exc_bind, stuck_bind, if_true, if_false, List.length_cons, List.length_nil, List.set_cons_zero, List.set_cons_succ, lim_lit, Bool.false_eq_true, ite_true, ite_false, reduceIte, List.getElem?_cons_zero, List.getElem?_cons_succ, Nat.zero_le, Nat.reduceLeDiff, Nat.reduceAdd, Nat.reduceLT, Nat.reduceSub, Nat.zero_lt_succ, Bool.not_true, Bool.not_false, hn, ne]
      simp
    · rw [List.concat_eq_append] at hL
      subst hL
      have ne : (Pat.encs ⟨L ++ [b], none⟩).isEmpty = false := by simp [Pat.encs]
      have hl : idxD (Pat.enc ⟨L ++ [b], none⟩) (.int (-1)) = .ok b.enc := by
        unfold Pat.enc
        rw [encs_none, List.map_append]
        exact idx_last _ _
      simp only [d_has_rest, sSeq, sNil, sRet, sRetV, sRetN, sSet, sOwn, sAsg, sDrop, sIf, sFor, sMet, sFrz, sBrk, sCnt, lft, outD, eC, aNil, aCons, eTup, eLst, eOp, eUn, tV, bT, tAndD, tOrD, tNotD, eAnd, eOr, eNot, eIf, eChain, eCall, eSl, oNone, oSome, iSrc, iCall, srcD, gNm, ev0, evS, evB0, evB0o, evBS, ok_bind, exc_bind, stuck_bind, if_true, if_false, List.length_cons, List.length_nil, List.set_cons_zero, List.set_cons_succ, lim_lit, Bool.false_eq_true, ite_true, ite_false, reduceIte, List.getElem?_cons_zero, List.getElem?_cons_succ, Nat.zero_le, Nat.reduceLeDiff, Nat.reduceAdd, Nat.reduceLT, Nat.reduceSub, Nat.zero_lt_succ, Bool.not_true, Bool.not_false, hn, ne, neg1, hl, Part.k0, eq_str, kind_rest]
      simp
theorem fixed_of_ok (p : Pat) : m_fixed_of [p.enc] = .ok (.tup (p.ps.map Part.enc)) := by
  have e : m_fixed_of [p.enc] = outD (d_fixed_of [.sh p.enc]) := rfl
  rw [e]
  obtain ⟨ps, rest⟩ := p
  cases rest with
  | some r =>
    have hs : sliceD (Pat.enc ⟨ps, some r⟩) none (some (-1)) = .ok (.tup (ps.map Part.enc)) := by
      show Res.ok (D.tup (cutL (ps.map Part.enc ++ [encR r]) none (some (-1)))) = _
      rw [cut_init1]
    simp only [d_fixed_of, sSeq, sNil, sRet, sRetV, sRetN, sSet, sOwn, sAsg, sDrop, sIf, sFor, sMet, sFrz, sBrk, sCnt, lft, outD, eC, aNil, aCons, eTup, eLst, eOp, eUn, tV, bT, tAndD, tOrD, tNotD, eAnd, eOr, eNot, eIf, eChain, eCall, eSl, oNone, oSome, iSrc, iCall, srcD, gNm, ev0, evS, evB0, evB0o, evBS, ok_bind, exc_bind, stuck_bind, if_true, if_false, List.length_cons, List.length_nil, List.set_cons_zero, List.set_cons_succ, lim_lit, Bool.false_eq_true, ite_true, ite_false, reduceIte, List.getElem?_cons_zero, List.getElem?_cons_succ, Nat.zero_le, Nat.reduceLeDiff, Nat.reduceAdd, Nat.reduceLT, Nat.reduceSub, Nat.zero_lt_succ, Bool.not_true, Bool.not_false, has_rest_ok, neg1, hs]
    simp
  | none =>
    simp only [d_fixed_of, sSeq, sNil, sRet, sRetV, sRetN, sSet, sOwn, sAsg, sDrop, sIf, sFor, sMet, sFrz, sBrk, sCnt, lft, outD, eC, aNil, aCons, eTup, eLst, eOp, eUn, tV, bT, tAndD, tOrD, tNotD, eAnd, eOr, eNot, eIf, eChain, eCall, eSl, oNone, oSome, iSrc, iCall, srcD, gNm, ev0, evS, evB0, evB0o, evBS, ok_bind, exc_bind, stuck_bind, if_true, if_false, List.length_cons, List.length_nil, List.set_cons_zero, List.set_cons_succ, lim_lit, Bool.false_eq_true, ite_true, ite_false, reduceIte, List.getElem?_cons_zero, List.getElem?_cons_succ, Nat.zero_le, Nat.reduceLeDiff, Nat.reduceAdd, Nat.reduceLT, Nat.reduceSub, Nat.zero_lt_succ, Bool.not_true, Bool.not_false, has_rest_ok]
    simp [Pat.enc, encs_none]
def letsP (p : Part) (w : Str) : Bool := match p with
  | .word v => v == w
  | .one _ cs => decide (w ∈ cs)
  | .num _ => isNum w
  | .any _ => true
theorem lets_ok (p : Part) (w : Str) (hw : WOk w) : m_lets [p.enc, .str w] = .ok (.bl (letsP p w)) := by
  have e : m_lets [p.enc, .str w] = outD (d_lets [.sh p.enc, .sh (.str w)]) := rfl
  rw [e]
  have h2 := is_number_ok w hw.1 (Nat.le_trans hw.2 (by decide))
  cases p with
  | word v => simp only [d_lets, sSeq, sNil, sRet, sRetV, sRetN, sSet, sOwn, sAsg, sDrop, sIf, sFor, sMet, sFrz, sBrk, sCnt, lft, outD, eC, aNil, aCons, eTup, eLst, eOp, eUn, tV, bT, tAndD, tOrD, tNotD, eAnd, eOr, eNot, eIf, eChain, eCall, eSl, oNone, oSome, iSrc, iCall, srcD, gNm, ev0, evS, evB0, evB0o, evBS, ok_bind, exc_bind, stuck_bind, if_true, if_false, List.length_cons, List.length_nil, List.set_cons_zero, List.set_cons_succ, lim_lit, Bool.false_eq_true, ite_true, ite_false, reduceIte, List.getElem?_cons_zero, List.getElem?_cons_succ, Nat.zero_le, Nat.reduceLeDiff, Nat.reduceAdd, Nat.reduceLT, Nat.reduceSub, Nat.zero_lt_succ, Bool.not_true, Bool.not_false, Part.k0, Part.k1, Part.kind, Part.nm, eq_str, letsP, BEq.rfl]
  | one n cs =>
    have h3 : idxD (Part.enc (.one n cs)) (.int 2) = .ok (encW cs) := idx2 _ _ _ _
    have c1 : (("one" : Str) == "word") = false := by decide
    simp only [d_lets, sSeq, sNil, sRet, sRetV, sRetN, sSet, sOwn, sAsg, sDrop, sIf, sFor, sMet, sFrz, sBrk, sCnt, lft, outD, eC, aNil, aCons, eTup, eLst, eOp, eUn, tV, bT, tAndD, tOrD, tNotD, eAnd, eOr, eNot, eIf, eChain, eCall, eSl, oNone, oSome, iSrc, iCall, srcD, gNm, ev0, evS, evB0, evB0o, evBS, ok_bind, exc_bind, stuck_bind, if_true, if_false, List.length_cons, List.length_nil, List.set_cons_zero, List.set_cons_succ, lim_lit, Bool.false_eq_true, ite_true, ite_false, reduceIte, List.getElem?_cons_zero, List.getElem?_cons_succ, Nat.zero_le, Nat.reduceLeDiff, Nat.reduceAdd, Nat.reduceLT, Nat.reduceSub, Nat.zero_lt_succ, Bool.not_true, Bool.not_false, Part.k0, Part.kind, eq_str, c1, h3, in_words, letsP, BEq.rfl]
  | num n =>
    have c1 : (("number" : Str) == "word") = false := by decide
    have c2 : (("number" : Str) == "one") = false := by decide
    have c3 : (("number" : Str) == "any") = false := by decide
    simp only [d_lets, sSeq, sNil, sRet, sRetV, sRetN, sSet, sOwn, sAsg, sDrop, sIf, sFor, sMet, sFrz, sBrk, sCnt, lft, outD, eC, aNil, aCons, eTup, eLst, eOp, eUn, tV, bT, tAndD, tOrD, tNotD, eAnd, eOr, eNot, eIf, eChain, eCall, eSl, oNone, oSome, iSrc, iCall, srcD, gNm, ev0, evS, evB0, evB0o, evBS, ok_bind, exc_bind, stuck_bind, if_true, if_false, List.length_cons, List.length_nil, List.set_cons_zero, List.set_cons_succ, lim_lit, Bool.false_eq_true, ite_true, ite_false, reduceIte, List.getElem?_cons_zero, List.getElem?_cons_succ, Nat.zero_le, Nat.reduceLeDiff, Nat.reduceAdd, Nat.reduceLT, Nat.reduceSub, Nat.zero_lt_succ, Bool.not_true, Bool.not_false, Part.k0, Part.kind, eq_str, c1, c2, c3, h2, letsP]
  | any n =>
    have c1 : (("any" : Str) == "word") = false := by decide
    have c2 : (("any" : Str) == "one") = false := by decide
    simp only [d_lets, sSeq, sNil, sRet, sRetV, sRetN, sSet, sOwn, sAsg, sDrop, sIf, sFor, sMet, sFrz, sBrk, sCnt, lft, outD, eC, aNil, aCons, eTup, eLst, eOp, eUn, tV, bT, tAndD, tOrD, tNotD, eAnd, eOr, eNot, eIf, eChain, eCall, eSl, oNone, oSome, iSrc, iCall, srcD, gNm, ev0, evS, evB0, evB0o, evBS, ok_bind, exc_bind, stuck_bind, if_true, if_false, List.length_cons, List.length_nil, List.set_cons_zero, List.set_cons_succ, lim_lit, Bool.false_eq_true, ite_true, ite_false, reduceIte, List.getElem?_cons_zero, List.getElem?_cons_succ, Nat.zero_le, Nat.reduceLeDiff, Nat.reduceAdd, Nat.reduceLT, Nat.reduceSub, Nat.zero_lt_succ, Bool.not_true, Bool.not_false, Part.k0, Part.kind, eq_str, c1, c2, letsP, BEq.rfl]
theorem zip_ok (xs ys : List D) : zipD [.tup xs, .tup ys] = .ok (List.zipWith pairD xs ys) := rfl
def zipP (ps : List Part) (a : List Str) : List D := List.zipWith pairD (ps.map Part.enc) (a.map D.str)
theorem zipP_len (ps : List Part) (a : List Str) : (zipP ps a).length ≤ ps.length := by
  unfold zipP
  rw [List.length_zipWith, List.length_map]
  exact Nat.min_le_left _ _
theorem filt_zip {f : D → Res (Option D)} {g : Part → Str → D} (h : ∀ p w, WOk w → f (pairD p.enc (.str w)) = .ok (some (g p w))) : ∀ (ps : List Part) (a : List Str), (∀ w ∈ a, WOk w) → filtR f (zipP ps a) = .ok (List.zipWith g ps a)
  | [], _, _ => rfl
  | _ :: _, [], _ => rfl
  | p :: ps, w :: a, hw => by
    have ih := filt_zip h ps a fun v m => hw v (List.mem_cons_of_mem _ m)
    have e : zipP (p :: ps) (w :: a) = pairD p.enc (.str w) :: zipP ps a := rfl
    rw [e]
    simp only [filtR, h p w (hw w List.mem_cons_self), ih, ok_bind, List.zipWith_cons_cons]
def doesP (ps : List Part) (rest : Option Str) (a : List Str) : Bool :=
  !(decide (a.length < ps.length) || (decide (ps.length < a.length) && !rest.isSome)) && (List.zipWith letsP ps a).all id
theorem zw_bl : ∀ (ps : List Part) (a : List Str), List.zipWith (fun p w => D.bl (letsP p w)) ps a = (List.zipWith letsP ps a).map D.bl
  | [], _ => rfl
  | _ :: _, [] => rfl
  | p :: ps, w :: a => by
    show D.bl (letsP p w) :: List.zipWith (fun p w => D.bl (letsP p w)) ps a = D.bl (letsP p w) :: (List.zipWith letsP ps a).map D.bl
    rw [zw_bl ps a]
theorem does_match_ok (p : Pat) (a : List Str) (hp : p.ps.length ≤ 1000) (hw : ∀ w ∈ a, WOk w) : m_does_match [p.enc, encW a] = .ok (.bl (doesP p.ps p.rest a)) := by
  have e : m_does_match [p.enc, encW a] = outD (d_does_match [.sh p.enc, .sh (encW a), .un, .un, .un]) := rfl
  rw [e]
  have l1 : lenD [encW a] = .ok (.int a.length) := by
    show Res.ok (D.int ((a.map D.str).length : Int)) = _
    rw [List.length_map]
  have l2 : lenD [.tup (p.ps.map Part.enc)] = .ok (.int p.ps.length) := by rw [len_tup, List.length_map]
  have z : zipD [.tup (p.ps.map Part.enc), encW a] = .ok (zipP p.ps a) := rfl
  have hz := zipP_len p.ps a
  have step : ∀ q w, WOk w → stepLc (gTp 2 (gCn (gNm 3) (gCn (gNm 4) gNl))) tTrue (eCall m_lets (aCons (eVar 3) (aCons (eVar 4) aNil))) [3, 4] [.sh p.enc, .sh (encW a), .sh (.tup (p.ps.map Part.enc)), .un, .un] (pairD q.enc (.str w)) = .ok (some (.bl (letsP q w))) := fun q w hq => by
    show (do let y ← m_lets [q.enc, .str w]; Res.ok (some y)) = _
    rw [lets_ok q w hq]; rfl
  have hf := filt_zip (g := fun q w => D.bl (letsP q w)) step p.ps a hw
  rw [zw_bl] at hf
  have hlc : eLc (iCall zipD (aCons (eVar 2) (aCons (eVar 1) aNil))) (gTp 2 (gCn (gNm 3) (gCn (gNm 4) gNl))) tTrue (eCall m_lets (aCons (eVar 3) (aCons (eVar 4) aNil))) [3, 4] [.sh p.enc, .sh (encW a), .sh (.tup (p.ps.map Part.enc)), .un, .un] = .ok (.lst ((List.zipWith letsP p.ps a).map D.bl)) := by
    unfold eLc filtN
    simp only [sSeq, sNil, sRet, sRetV, sRetN, sSet, sOwn, sAsg, sDrop, sIf, sFor, sMet, sFrz, sBrk, sCnt, lft, outD, eC, aNil, aCons, eTup, eLst, eOp, eUn, tV, bT, tAndD, tOrD, tNotD, eAnd, eOr, eNot, eIf, eChain, eCall, eSl, oNone, oSome, iSrc, iCall, srcD, gNm, ev0, evS, evB0, evB0o, evBS, ok_bind, exc_bind, stuck_bind, if_true, if_false, List.length_cons, List.length_nil, List.set_cons_zero, List.set_cons_succ, lim_lit, Bool.false_eq_true, ite_true, ite_false, reduceIte, List.getElem?_cons_zero, List.getElem?_cons_succ, Nat.zero_le, Nat.reduceLeDiff, Nat.reduceAdd, Nat.reduceLT, Nat.reduceSub, Nat.zero_lt_succ, Bool.not_true, Bool.not_false, z, hf, Res.nox]
    rw [if_pos (by omega)]
  have d1 : decide ((a.length : Int) < (p.ps.length : Int)) = decide (a.length < p.ps.length) := by simp
  have d2 : decide ((p.ps.length : Int) < (a.length : Int)) = decide (p.ps.length < a.length) := by simp
  have h1 := fixed_of_ok p
  have h2 := has_rest_ok p
  unfold doesP
  generalize hA : decide (a.length < p.ps.length) = A at d1
  generalize hB : decide (p.ps.length < a.length) = B at d2
  cases A <;> cases B <;> cases hR : p.rest.isSome <;> rw [hR] at h2 <;> simp only [d_does_match, sSeq, sNil, sRet, sRetV, sRetN, sSet, sOwn, sAsg, sDrop, sIf, sFor, sMet, sFrz, sBrk, sCnt, lft, outD, eC, aNil, aCons, eTup, eLst, eOp, eUn, tV, bT, tAndD, tOrD, tNotD, eAnd, eOr, eNot, eIf, eChain, eCall, eSl, oNone, oSome, iSrc, iCall, srcD, gNm, ev0, evS, evB0, evB0o, evBS, ok_bind, exc_bind, stuck_bind, if_true, if_false, List.length_cons, List.length_nil, List.set_cons_zero, List.set_cons_succ, lim_lit, Bool.false_eq_true, ite_true, ite_false, reduceIte, List.getElem?_cons_zero, List.getElem?_cons_succ, Nat.zero_le, Nat.reduceLeDiff, Nat.reduceAdd, Nat.reduceLT, Nat.reduceSub, Nat.zero_lt_succ, Bool.not_true, Bool.not_false, h1, l1, l2, lt_int, gt_int, d1, d2, h2, hlc, all_ok] <;> simp
def bindP (p : Part) (w : Str) : List D := match p with
  | .word _ => []
  | .num n => [.tup [.str n, .int (valN w)]]
  | .one n _ => [.tup [.str n, .str w]]
  | .any n => [.tup [.str n, .str w]]
def binds : List Part → List Str → List D
  | p :: ps, w :: a => bindP p w ++ binds ps a
  | _, _ => []
theorem bindP_len (p : Part) (w : Str) : (bindP p w).length ≤ 1 := by cases p <;> simp [bindP]
theorem binds_len : ∀ (ps : List Part) (a : List Str), (binds ps a).length ≤ ps.length
  | [], _ => by simp [binds]
  | _ :: _, [] => by simp [binds]
  | p :: ps, w :: a => by
    have := binds_len ps a
    have := bindP_len p w
    simp only [binds, List.length_append, List.length_cons]
    omega
abbrev loopB : SD := sSeq (sIf (tV (eOp eqD (eOp idxD (eVar 4) (eC (.int 0))) (eC (.str "number")))) (sSeq (sMet 2 fApp (aCons (eTup (aCons (eOp idxD (eVar 4) (eC (.int 1))) (aCons (eCall intD (aCons (eVar 5) aNil)) aNil))) aNil)) sNil) (sSeq (sIf (tV (eOp neD (eOp idxD (eVar 4) (eC (.int 0))) (eC (.str "word")))) (sSeq (sMet 2 fApp (aCons (eTup (aCons (eOp idxD (eVar 4) (eC (.int 1))) (aCons (eVar 5) aNil))) aNil)) sNil) sNil) sNil)) sNil
theorem turn_ok (x0 x1 x3 s4 s5 : Sl) (p : Part) (w : Str) (acc : List D) (hw : WOk w) (hl : letsP p w = true) (ha : acc.length ≤ 100000) :
    loopB [x0, x1, .ow acc, x3, .sh p.enc, .sh (.str w)] = some (.nx [x0, x1, .ow (acc ++ bindP p w), x3, .sh p.enc, .sh (.str w)]) := by
  have n1 : (("word" : Str) == "number") = false := by decide
  have n2 : (("one" : Str) == "number") = false := by decide
  have n3 : (("one" : Str) == "word") = false := by decide
  have n4 : (("any" : Str) == "number") = false := by decide
  have n5 : (("any" : Str) == "word") = false := by decide
  cases p with
  | word v => simp only [loopB, sSeq, sNil, sRet, sRetV, sRetN, sSet, sOwn, sAsg, sDrop, sIf, sFor, sMet, sFrz, sBrk, sCnt, lft, outD, eC, aNil, aCons, eTup, eLst, eOp, eUn, tV, bT, tAndD, tOrD, tNotD, eAnd, eOr, eNot, eIf, eChain, eCall, eSl, oNone, oSome, iSrc, iCall, srcD, gNm, ev0, evS, evB0, evB0o, evBS, ok_bind, exc_bind, stuck_bind, if_true, if_false, List.length_cons, List.length_nil, List.set_cons_zero, List.set_cons_succ, lim_lit, Bool.false_eq_true, ite_true, ite_false, reduceIte, List.getElem?_cons_zero, List.getElem?_cons_succ, Nat.zero_le, Nat.reduceLeDiff, Nat.reduceAdd, Nat.reduceLT, Nat.reduceSub, Nat.zero_lt_succ, Bool.not_true, Bool.not_false, Part.k0, Part.kind, eq_str, ne_str, n1, BEq.rfl, bindP, List.append_nil]
  | one n cs => simp only [loopB, sSeq, sNil, sRet, sRetV, sRetN, sSet, sOwn, sAsg, sDrop, sIf, sFor, sMet, sFrz, sBrk, sCnt, lft, outD, eC, aNil, aCons, eTup, eLst, eOp, eUn, tV, bT, tAndD, tOrD, tNotD, eAnd, eOr, eNot, eIf, eChain, eCall, eSl, oNone, oSome, iSrc, iCall, srcD, gNm, ev0, evS, evB0, evB0o, evBS, ok_bind, exc_bind, stuck_bind, if_true, if_false, List.length_cons, List.length_nil, List.set_cons_zero, List.set_cons_succ, lim_lit, Bool.false_eq_true, ite_true, ite_false, reduceIte, List.getElem?_cons_zero, List.getElem?_cons_succ, Nat.zero_le, Nat.reduceLeDiff, Nat.reduceAdd, Nat.reduceLT, Nat.reduceSub, Nat.zero_lt_succ, Bool.not_true, Bool.not_false, Part.k0, Part.k1, Part.kind, Part.nm, eq_str, ne_str, n2, n3, bindP, fApp_ok _ _ ha]
  | num n =>
    have hi := int_ok w hw hl
    simp only [loopB, sSeq, sNil, sRet, sRetV, sRetN, sSet, sOwn, sAsg, sDrop, sIf, sFor, sMet, sFrz, sBrk, sCnt, lft, outD, eC, aNil, aCons, eTup, eLst, eOp, eUn, tV, bT, tAndD, tOrD, tNotD, eAnd, eOr, eNot, eIf, eChain, eCall, eSl, oNone, oSome, iSrc, iCall, srcD, gNm, ev0, evS, evB0, evB0o, evBS, ok_bind, exc_bind, stuck_bind, if_true, if_false, List.length_cons, List.length_nil, List.set_cons_zero, List.set_cons_succ, lim_lit, Bool.false_eq_true, ite_true, ite_false, reduceIte, List.getElem?_cons_zero, List.getElem?_cons_succ, Nat.zero_le, Nat.reduceLeDiff, Nat.reduceAdd, Nat.reduceLT, Nat.reduceSub, Nat.zero_lt_succ, Bool.not_true, Bool.not_false, Part.k0, Part.k1, Part.kind, Part.nm, eq_str, ne_str, BEq.rfl, hi, bindP, fApp_ok _ _ ha]
  | any n => simp only [loopB, sSeq, sNil, sRet, sRetV, sRetN, sSet, sOwn, sAsg, sDrop, sIf, sFor, sMet, sFrz, sBrk, sCnt, lft, outD, eC, aNil, aCons, eTup, eLst, eOp, eUn, tV, bT, tAndD, tOrD, tNotD, eAnd, eOr, eNot, eIf, eChain, eCall, eSl, oNone, oSome, iSrc, iCall, srcD, gNm, ev0, evS, evB0, evB0o, evBS, ok_bind, exc_bind, stuck_bind, if_true, if_false, List.length_cons, List.length_nil, List.set_cons_zero, List.set_cons_succ, lim_lit, Bool.false_eq_true, ite_true, ite_false, reduceIte, List.getElem?_cons_zero, List.getElem?_cons_succ, Nat.zero_le, Nat.reduceLeDiff, Nat.reduceAdd, Nat.reduceLT, Nat.reduceSub, Nat.zero_lt_succ, Bool.not_true, Bool.not_false, Part.k0, Part.k1, Part.kind, Part.nm, eq_str, ne_str, n4, n5, bindP, fApp_ok _ _ ha]
theorem loop_ok (x0 x1 x3 : Sl) : ∀ (ps : List Part) (a : List Str) (acc : List D) (s4 s5 : Sl), (∀ w ∈ a, WOk w) → (List.zipWith letsP ps a).all id = true → acc.length + ps.length ≤ 100000 →
    ∃ t4 t5, loopD (gTp 2 (gCn (gNm 4) (gCn (gNm 5) gNl))) loopB (zipP ps a) [x0, x1, .ow acc, x3, s4, s5] = some (.nx [x0, x1, .ow (acc ++ binds ps a), x3, t4, t5])
  | [], a, acc, s4, s5, _, _, _ => ⟨s4, s5, by simp [zipP, loopD, binds]⟩
  | _ :: _, [], acc, s4, s5, _, _, _ => ⟨s4, s5, by simp [zipP, loopD, binds]⟩
  | p :: ps, w :: a, acc, s4, s5, hw, hl, ha => by
    simp only [List.zipWith_cons_cons, List.all_cons, id, Bool.and_eq_true] at hl
    have l1 := bindP_len p w
    rw [List.length_cons] at ha
    obtain ⟨t4, t5, ih⟩ := loop_ok x0 x1 x3 ps a (acc ++ bindP p w) (.sh p.enc) (.sh (.str w)) (fun v m => hw v (List.mem_cons_of_mem _ m)) (by simpa using hl.2) (by rw [List.length_append]; omega)
    refine ⟨t4, t5, ?_⟩
    have tk := turn_ok x0 x1 x3 s4 s5 p w acc (hw w List.mem_cons_self) hl.1 (by omega)
    show (match loopB [x0, x1, .ow acc, x3, .sh p.enc, .sh (.str w)] with
      | some (.nx e2) => loopD (gTp 2 (gCn (gNm 4) (gCn (gNm 5) gNl))) loopB (zipP ps a) e2
      | some (.ct e2) => loopD (gTp 2 (gCn (gNm 4) (gCn (gNm 5) gNl))) loopB (zipP ps a) e2
      | some (.bk e2) => some (.nx e2)
      | r => r) = _
    rw [tk]
    show loopD (gTp 2 (gCn (gNm 4) (gCn (gNm 5) gNl))) loopB (zipP ps a) [x0, x1, .ow (acc ++ bindP p w), x3, .sh p.enc, .sh (.str w)] = _
    rw [ih, List.append_assoc]
    rfl
def restB (p : Pat) (a : List Str) : List D := match p.rest with
  | some r => [.tup [.str r, encW (a.drop p.ps.length)]]
  | none => []
def matchD (p : Pat) (a : List Str) : D := if doesP p.ps p.rest a then .lst (binds p.ps a ++ restB p a) else .non
theorem matched_ok (p : Pat) (a : List Str) (hp : p.ps.length ≤ 1000) (hw : ∀ w ∈ a, WOk w) : m_matched [p.enc, encW a] = .ok (matchD p a) := by
  have e : m_matched [p.enc, encW a] = outD (d_matched [.sh p.enc, .sh (encW a), .un, .un, .un, .un]) := rfl
  rw [e]
  have h0 := does_match_ok p a hp hw
  have h1 := fixed_of_ok p
  have h2 := has_rest_ok p
  have z : zipD [.tup (p.ps.map Part.enc), encW a] = .ok (zipP p.ps a) := rfl
  unfold matchD
  cases hd : doesP p.ps p.rest a with
  | false =>
    rw [hd] at h0
    simp only [d_matched, sSeq, sNil, sRet, sRetV, sRetN, sSet, sOwn, sAsg, sDrop, sIf, sFor, sMet, sFrz, sBrk, sCnt, lft, outD, eC, aNil, aCons, eTup, eLst, eOp, eUn, tV, bT, tAndD, tOrD, tNotD, eAnd, eOr, eNot, eIf, eChain, eCall, eSl, oNone, oSome, iSrc, iCall, srcD, gNm, ev0, evS, evB0, evB0o, evBS, ok_bind, exc_bind, stuck_bind, if_true, if_false, List.length_cons, List.length_nil, List.set_cons_zero, List.set_cons_succ, lim_lit, Bool.false_eq_true, ite_true, ite_false, reduceIte, List.getElem?_cons_zero, List.getElem?_cons_succ, Nat.zero_le, Nat.reduceLeDiff, Nat.reduceAdd, Nat.reduceLT, Nat.reduceSub, Nat.zero_lt_succ, Bool.not_true, Bool.not_false, h0]
  | true =>
    rw [hd] at h0
    have hl : (List.zipWith letsP p.ps a).all id = true := by
      unfold doesP at hd
      exact (Bool.and_eq_true_iff.mp hd).2
    obtain ⟨t4, t5, lp⟩ := loop_ok (.sh p.enc) (.sh (encW a)) (.sh (.tup (p.ps.map Part.enc))) p.ps a [] .un .un hw hl (by simp; omega)
    rw [List.nil_append] at lp
    have bl := binds_len p.ps a
    have l2 : lenD [.tup (p.ps.map Part.enc)] = .ok (.int p.ps.length) := by rw [len_tup, List.length_map]
    have sl : sliceD (encW a) (some (p.ps.length : Int)) none = .ok (encW (a.drop p.ps.length)) := by
      show Res.ok (D.tup (cutL (a.map D.str) (some (p.ps.length : Int)) none)) = _
      rw [cut_from, ← List.map_drop]; rfl
    cases hR : p.rest with
    | none =>
      rw [hR] at h2
      simp only [d_matched, sSeq, sNil, sRet, sRetV, sRetN, sSet, sOwn, sAsg, sDrop, sIf, sFor, sMet, sFrz, sBrk, sCnt, lft, outD, eC, aNil, aCons, eTup, eLst, eOp, eUn, tV, bT, tAndD, tOrD, tNotD, eAnd, eOr, eNot, eIf, eChain, eCall, eSl, oNone, oSome, iSrc, iCall, srcD, gNm, ev0, evS, evB0, evB0o, evBS, ok_bind, exc_bind, stuck_bind, if_true, if_false, List.length_cons, List.length_nil, List.set_cons_zero, List.set_cons_succ, lim_lit, Bool.false_eq_true, ite_true, ite_false, reduceIte, List.getElem?_cons_zero, List.getElem?_cons_succ, Nat.zero_le, Nat.reduceLeDiff, Nat.reduceAdd, Nat.reduceLT, Nat.reduceSub, Nat.zero_lt_succ, Bool.not_true, Bool.not_false, h0, h1, h2, z, lp, Option.isSome, restB, hR, List.append_nil]
    | some r =>
      rw [hR] at h2
      have hl : idxD p.enc (.int (-1)) = .ok (encR r) := by
        obtain ⟨ps, rest⟩ := p
        simp only at hR
        subst hR
        exact idx_last _ _
      simp only [d_matched, sSeq, sNil, sRet, sRetV, sRetN, sSet, sOwn, sAsg, sDrop, sIf, sFor, sMet, sFrz, sBrk, sCnt, lft, outD, eC, aNil, aCons, eTup, eLst, eOp, eUn, tV, bT, tAndD, tOrD, tNotD, eAnd, eOr, eNot, eIf, eChain, eCall, eSl, oNone, oSome, iSrc, iCall, srcD, gNm, ev0, evS, evB0, evB0o, evBS, ok_bind, exc_bind, stuck_bind, if_true, if_false, List.length_cons, List.length_nil, List.set_cons_zero, List.set_cons_succ, lim_lit, Bool.false_eq_true, ite_true, ite_false, reduceIte, List.getElem?_cons_zero, List.getElem?_cons_succ, Nat.zero_le, Nat.reduceLeDiff, Nat.reduceAdd, Nat.reduceLT, Nat.reduceSub, Nat.zero_lt_succ, Bool.not_true, Bool.not_false, h0, h1, h2, z, lp, Option.isSome, restB, hR, neg1, hl, encR1, l2, sl, fApp_ok _ _ (Nat.le_trans bl (Nat.le_trans hp (by decide)))]
/-! the law's own matching -/
def lawB (ps : List Part) (rest : Option Str) (a : List Str) : D := matchD ⟨ps, rest⟩ a
theorem law_nil (rest : Option Str) (a : List Str) : lawB [] rest a = match rest with
    | some r => .lst [.tup [.str r, encW a]]
    | none => if a = [] then .lst [] else .non := by
  cases rest with
  | some r => simp [lawB, matchD, doesP, binds, restB]
  | none =>
    cases a with
    | nil => simp [lawB, matchD, doesP, binds, restB]
    | cons w a => simp [lawB, matchD, doesP]
theorem law_cons_nil (p : Part) (ps : List Part) (rest : Option Str) : lawB (p :: ps) rest [] = .non := by
  simp [lawB, matchD, doesP]
def consB (l : List D) (d : D) : D := match d with
  | .lst xs => .lst (l ++ xs)
  | d => d
theorem law_cons (p : Part) (ps : List Part) (rest : Option Str) (w : Str) (a : List Str) : lawB (p :: ps) rest (w :: a) = if letsP p w then consB (bindP p w) (lawB ps rest a) else .non := by
  cases hl : letsP p w with
  | false => simp [lawB, matchD, doesP, hl]
  | true =>
    have e : doesP (p :: ps) rest (w :: a) = doesP ps rest a := by
      simp [doesP, hl]
    simp only [lawB, matchD, e, if_true]
    cases doesP ps rest a with
    | false => rfl
    | true => simp [consB, binds, restB]
theorem cut_tail {α : Type} (x : α) (xs : List α) : cutL (x :: xs) (some 1) none = xs := by
  rw [show (1 : Int) = ((1 : Nat) : Int) from rfl, cut_from]; rfl
theorem isN_lawB (ps : List Part) (rest : Option Str) (a : List Str) : (∃ xs, lawB ps rest a = .lst xs) ∨ lawB ps rest a = .non := by
  unfold lawB matchD
  split
  · exact .inl ⟨_, rfl⟩
  · exact .inr rfl
theorem notIn_words (w : Str) (cs : List Str) : notInD (.str w) (encW cs) = .ok (.bl (!decide (w ∈ cs))) := by
  have h := in_words w cs
  unfold inD at h
  unfold notInD
  cases e : inB (.str w) (encW cs) with
  | none => rw [e] at h; cases h
  | some b =>
    rw [e] at h
    simp only [Res.ok.injEq, D.bl.injEq] at h
    rw [h]
theorem lawB_len (ps : List Part) (rest : Option Str) (a : List Str) (xs : List D) (h : lawB ps rest a = .lst xs) : xs.length ≤ ps.length + 1 := by
  unfold lawB matchD at h
  split at h
  · simp only [D.lst.injEq] at h
    rw [← h, List.length_append]
    have := binds_len ps a
    have : (restB ⟨ps, rest⟩ a).length ≤ 1 := by unfold restB; split <;> simp
    simp only at *
    omega
  · cases h
theorem add_lst (xs ys : List D) (h : xs.length + ys.length ≤ 100000) : addD (.lst xs) (.lst ys) = .ok (.lst (xs ++ ys)) := by
  have h' : xs.length + ys.length ≤ LIM := by rw [lim_lit]; omega
  show (if xs.length + ys.length ≤ LIM then Res.ok (D.lst (xs ++ ys)) else .stuck) = _
  rw [if_pos h']
theorem is_non (d : D) : isD d .non = .ok (.bl (isN d)) := rfl
theorem law_matched_ok (rest : Option Str) : ∀ (ps : List Part) (a : List Str) (k : Nat), ps.length < k → ps.length ≤ 1000 → (∀ w ∈ a, WOk w) → m_law_matched_ k [Pat.enc ⟨ps, rest⟩, encW a] = .ok (lawB ps rest a)
  | ps, a, 0, h, _, _ => absurd h (Nat.not_lt_zero _)
  | [], a, k + 1, _, _, hw => by
    have e : m_law_matched_ (k + 1) [Pat.enc ⟨[], rest⟩, encW a] = outD (d_law_matched (m_law_matched_ k) [.sh (Pat.enc ⟨[], rest⟩), .sh (encW a), .un, .un, .un]) := rfl
    rw [e, law_nil]
    cases rest with
    | some r =>
      have n1 : eqD (Pat.enc ⟨[], some r⟩) (.tup []) = .ok (.bl false) := eq_nilT (Pat.pl60 ⟨[], some r⟩)
      have i1 : idxD (Pat.enc ⟨[], some r⟩) (.int 0) = .ok (encR r) := idx0 _ _
      simp only [d_law_matched, sSeq, sNil, sRet, sRetV, sRetN, sSet, sOwn, sAsg, sDrop, sIf, sFor, sMet, sFrz, sBrk, sCnt, lft, outD, eC, aNil, aCons, eTup, eLst, eOp, eUn, tV, bT, tAndD, tOrD, tNotD, eAnd, eOr, eNot, eIf, eChain, eCall, eSl, oNone, oSome, iSrc, iCall, srcD, gNm, ev0, evS, evB0, evB0o, evBS, ok_bind, exc_bind, stuck_bind, if_true, if_false, List.length_cons, List.length_nil, List.set_cons_zero, List.set_cons_succ, lim_lit, Bool.false_eq_true, ite_true, ite_false, reduceIte, List.getElem?_cons_zero, List.getElem?_cons_succ, Nat.zero_le, Nat.reduceLeDiff, Nat.reduceAdd, Nat.reduceLT, Nat.reduceSub, Nat.zero_lt_succ, Bool.not_true, Bool.not_false, n1, i1, encR0, encR1, eq_str, BEq.rfl]
    | none =>
      have n1 : eqD (Pat.enc ⟨[], none⟩) (.tup []) = .ok (.bl true) := eq_nilT (Pat.pl60 ⟨[], none⟩)
      have n2 : eqD (encW a) (.tup []) = .ok (.bl (a.map D.str).isEmpty) := eq_nilT (encW_pl60 a)
      cases a with
      | nil => simp only [d_law_matched, sSeq, sNil, sRet, sRetV, sRetN, sSet, sOwn, sAsg, sDrop, sIf, sFor, sMet, sFrz, sBrk, sCnt, lft, outD, eC, aNil, aCons, eTup, eLst, eOp, eUn, tV, bT, tAndD, tOrD, tNotD, eAnd, eOr, eNot, eIf, eChain, eCall, eSl, oNone, oSome, iSrc, iCall, srcD, gNm, ev0, evS, evB0, evB0o, evBS, ok_bind, exc_bind, stuck_bind, if_true, if_false, List.length_cons, List.length_nil, List.set_cons_zero, List.set_cons_succ, lim_lit, Bool.false_eq_true, ite_true, ite_false, reduceIte, List.getElem?_cons_zero, List.getElem?_cons_succ, Nat.zero_le, Nat.reduceLeDiff, Nat.reduceAdd, Nat.reduceLT, Nat.reduceSub, Nat.zero_lt_succ, Bool.not_true, Bool.not_false, n1, n2, List.map_nil, List.isEmpty_nil]
      | cons w a => simp only [d_law_matched, sSeq, sNil, sRet, sRetV, sRetN, sSet, sOwn, sAsg, sDrop, sIf, sFor, sMet, sFrz, sBrk, sCnt, lft, outD, eC, aNil, aCons, eTup, eLst, eOp, eUn, tV, bT, tAndD, tOrD, tNotD, eAnd, eOr, eNot, eIf, eChain, eCall, eSl, oNone, oSome, iSrc, iCall, srcD, gNm, ev0, evS, evB0, evB0o, evBS, ok_bind, exc_bind, stuck_bind, if_true, if_false, List.length_cons, List.length_nil, List.set_cons_zero, List.set_cons_succ, lim_lit, Bool.false_eq_true, ite_true, ite_false, reduceIte, List.getElem?_cons_zero, List.getElem?_cons_succ, Nat.zero_le, Nat.reduceLeDiff, Nat.reduceAdd, Nat.reduceLT, Nat.reduceSub, Nat.zero_lt_succ, Bool.not_true, Bool.not_false, n1, n2, List.map_cons, List.isEmpty_cons, reduceCtorEq]
  | p :: ps, [], k + 1, _, _, hw => by
    have e : m_law_matched_ (k + 1) [Pat.enc ⟨p :: ps, rest⟩, encW []] = outD (d_law_matched (m_law_matched_ k) [.sh (Pat.enc ⟨p :: ps, rest⟩), .sh (encW []), .un, .un, .un]) := rfl
    rw [e, law_cons_nil]
    have n1 : eqD (Pat.enc ⟨p :: ps, rest⟩) (.tup []) = .ok (.bl false) := by
      have := eq_nilT (Pat.pl60 ⟨p :: ps, rest⟩)
      rw [encs_cons] at this
      exact this
    have i1 : idxD (Pat.enc ⟨p :: ps, rest⟩) (.int 0) = .ok p.enc := by unfold Pat.enc; rw [encs_cons]; exact idx0 _ _
    have n2 : eqD (encW []) (.tup []) = .ok (.bl true) := eq_nilT (encW_pl60 [])
    simp only [d_law_matched, sSeq, sNil, sRet, sRetV, sRetN, sSet, sOwn, sAsg, sDrop, sIf, sFor, sMet, sFrz, sBrk, sCnt, lft, outD, eC, aNil, aCons, eTup, eLst, eOp, eUn, tV, bT, tAndD, tOrD, tNotD, eAnd, eOr, eNot, eIf, eChain, eCall, eSl, oNone, oSome, iSrc, iCall, srcD, gNm, ev0, evS, evB0, evB0o, evBS, ok_bind, exc_bind, stuck_bind, if_true, if_false, List.length_cons, List.length_nil, List.set_cons_zero, List.set_cons_succ, lim_lit, Bool.false_eq_true, ite_true, ite_false, reduceIte, List.getElem?_cons_zero, List.getElem?_cons_succ, Nat.zero_le, Nat.reduceLeDiff, Nat.reduceAdd, Nat.reduceLT, Nat.reduceSub, Nat.zero_lt_succ, Bool.not_true, Bool.not_false, n1, i1, n2, Part.k0, eq_str, kind_rest]
  | p :: ps, w :: a, k + 1, hk, hp, hw => by
    have e : m_law_matched_ (k + 1) [Pat.enc ⟨p :: ps, rest⟩, encW (w :: a)] = outD (d_law_matched (m_law_matched_ k) [.sh (Pat.enc ⟨p :: ps, rest⟩), .sh (encW (w :: a)), .un, .un, .un]) := rfl
    rw [List.length_cons] at hk hp
    have ih := law_matched_ok rest ps a k (by omega) (by omega) fun v m => hw v (List.mem_cons_of_mem _ m)
    have hwp := hw w List.mem_cons_self
    rw [e, law_cons]
    have n1 : eqD (Pat.enc ⟨p :: ps, rest⟩) (.tup []) = .ok (.bl false) := by
      have := eq_nilT (Pat.pl60 ⟨p :: ps, rest⟩)
      rw [encs_cons] at this
      exact this
    have i1 : idxD (Pat.enc ⟨p :: ps, rest⟩) (.int 0) = .ok p.enc := by unfold Pat.enc; rw [encs_cons]; exact idx0 _ _
    have n2 : eqD (encW (w :: a)) (.tup []) = .ok (.bl false) := eq_nilT (encW_pl60 (w :: a))
    have i2 : idxD (encW (w :: a)) (.int 0) = .ok (.str w) := idx0 _ _
    have s1 : sliceD (Pat.enc ⟨p :: ps, rest⟩) (some 1) none = .ok (Pat.enc ⟨ps, rest⟩) := by
      unfold Pat.enc
      rw [encs_cons]
      show Res.ok (D.tup (cutL _ _ _)) = _
      rw [cut_tail]
    have s2 : sliceD (encW (w :: a)) (some 1) none = .ok (encW a) := by
      show Res.ok (D.tup (cutL (D.str w :: a.map D.str) _ _)) = _
      rw [cut_tail]; rfl
    have hn := law_is_number_ok w hwp.1 (Nat.le_trans hwp.2 (by decide))
    rcases isN_lawB ps rest a with ⟨xs, hx⟩ | hx
    · rw [hx] at ih
      have lx := lawB_len ps rest a xs hx
      have nn : isN (D.lst xs) = false := rfl
      cases p with
      | word v =>
        cases hv : v == w <;> simp only [d_law_matched, sSeq, sNil, sRet, sRetV, sRetN, sSet, sOwn, sAsg, sDrop, sIf, sFor, sMet, sFrz, sBrk, sCnt, lft, outD, eC, aNil, aCons, eTup, eLst, eOp, eUn, tV, bT, tAndD, tOrD, tNotD, eAnd, eOr, eNot, eIf, eChain, eCall, eSl, oNone, oSome, iSrc, iCall, srcD, gNm, ev0, evS, evB0, evB0o, evBS, ok_bind, exc_bind, stuck_bind, if_true, if_false, List.length_cons, List.length_nil, List.set_cons_zero, List.set_cons_succ, lim_lit, Bool.false_eq_true, ite_true, ite_false, reduceIte, List.getElem?_cons_zero, List.getElem?_cons_succ, Nat.zero_le, Nat.reduceLeDiff, Nat.reduceAdd, Nat.reduceLT, Nat.reduceSub, Nat.zero_lt_succ, Bool.not_true, Bool.not_false, n1, i1, n2, i2, s1, s2, ih, Part.k0, Part.k1, Part.kind, Part.nm, eq_str, ne_str, (by decide : (("word" : Str) == "rest") = false), (by decide : (("word" : Str) == "one") = false), (by decide : (("word" : Str) == "number") = false), BEq.rfl, hv, is_non, nn, letsP, hx, consB, bindP, List.nil_append]
      | one n cs =>
        have i3 : idxD (Part.enc (.one n cs)) (.int 2) = .ok (encW cs) := idx2 _ _ _ _
        cases hv : decide (w ∈ cs) <;> simp only [d_law_matched, sSeq, sNil, sRet, sRetV, sRetN, sSet, sOwn, sAsg, sDrop, sIf, sFor, sMet, sFrz, sBrk, sCnt, lft, outD, eC, aNil, aCons, eTup, eLst, eOp, eUn, tV, bT, tAndD, tOrD, tNotD, eAnd, eOr, eNot, eIf, eChain, eCall, eSl, oNone, oSome, iSrc, iCall, srcD, gNm, ev0, evS, evB0, evB0o, evBS, ok_bind, exc_bind, stuck_bind, if_true, if_false, List.length_cons, List.length_nil, List.set_cons_zero, List.set_cons_succ, lim_lit, Bool.false_eq_true, ite_true, ite_false, reduceIte, List.getElem?_cons_zero, List.getElem?_cons_succ, Nat.zero_le, Nat.reduceLeDiff, Nat.reduceAdd, Nat.reduceLT, Nat.reduceSub, Nat.zero_lt_succ, Bool.not_true, Bool.not_false, n1, i1, n2, i2, i3, s1, s2, ih, Part.k0, Part.k1, Part.kind, Part.nm, eq_str, ne_str, notIn_words, (by decide : (("one" : Str) == "rest") = false), (by decide : (("one" : Str) == "word") = false), (by decide : (("one" : Str) == "number") = false), BEq.rfl, hv, is_non, nn, letsP, hx, consB, bindP, add_lst _ _ (show ([D.tup [.str n, .str w]] : List D).length + xs.length ≤ 100000 by simp; omega)]
      | num n =>
        cases hv : isNum w with
        | false => rw [hv] at hn; simp only [d_law_matched, sSeq, sNil, sRet, sRetV, sRetN, sSet, sOwn, sAsg, sDrop, sIf, sFor, sMet, sFrz, sBrk, sCnt, lft, outD, eC, aNil, aCons, eTup, eLst, eOp, eUn, tV, bT, tAndD, tOrD, tNotD, eAnd, eOr, eNot, eIf, eChain, eCall, eSl, oNone, oSome, iSrc, iCall, srcD, gNm, ev0, evS, evB0, evB0o, evBS, ok_bind, exc_bind, stuck_bind, if_true, if_false, List.length_cons, List.length_nil, List.set_cons_zero, List.set_cons_succ, lim_lit, Bool.false_eq_true, ite_true, ite_false, reduceIte, List.getElem?_cons_zero, List.getElem?_cons_succ, Nat.zero_le, Nat.reduceLeDiff, Nat.reduceAdd, Nat.reduceLT, Nat.reduceSub, Nat.zero_lt_succ, Bool.not_true, Bool.not_false, n1, i1, n2, i2, s1, s2, ih, Part.k0, Part.k1, Part.kind, Part.nm, eq_str, ne_str, (by decide : (("number" : Str) == "rest") = false), (by decide : (("number" : Str) == "word") = false), (by decide : (("number" : Str) == "one") = false), BEq.rfl, hn, letsP, hv]
        | true =>
          rw [hv] at hn
          have hi := int_ok w hwp hv
          simp only [d_law_matched, sSeq, sNil, sRet, sRetV, sRetN, sSet, sOwn, sAsg, sDrop, sIf, sFor, sMet, sFrz, sBrk, sCnt, lft, outD, eC, aNil, aCons, eTup, eLst, eOp, eUn, tV, bT, tAndD, tOrD, tNotD, eAnd, eOr, eNot, eIf, eChain, eCall, eSl, oNone, oSome, iSrc, iCall, srcD, gNm, ev0, evS, evB0, evB0o, evBS, ok_bind, exc_bind, stuck_bind, if_true, if_false, List.length_cons, List.length_nil, List.set_cons_zero, List.set_cons_succ, lim_lit, Bool.false_eq_true, ite_true, ite_false, reduceIte, List.getElem?_cons_zero, List.getElem?_cons_succ, Nat.zero_le, Nat.reduceLeDiff, Nat.reduceAdd, Nat.reduceLT, Nat.reduceSub, Nat.zero_lt_succ, Bool.not_true, Bool.not_false, n1, i1, n2, i2, s1, s2, ih, Part.k0, Part.k1, Part.kind, Part.nm, eq_str, ne_str, (by decide : (("number" : Str) == "rest") = false), (by decide : (("number" : Str) == "word") = false), (by decide : (("number" : Str) == "one") = false), BEq.rfl, hn, hi, is_non, nn, letsP, hv, hx, consB, bindP, add_lst _ _ (show ([D.tup [.str n, .int (valN w)]] : List D).length + xs.length ≤ 100000 by simp; omega)]
      | any n =>
        simp only [d_law_matched, sSeq, sNil, sRet, sRetV, sRetN, sSet, sOwn, sAsg, sDrop, sIf, sFor, sMet, sFrz, sBrk, sCnt, lft, outD, eC, aNil, aCons, eTup, eLst, eOp, eUn, tV, bT, tAndD, tOrD, tNotD, eAnd, eOr, eNot, eIf, eChain, eCall, eSl, oNone, oSome, iSrc, iCall, srcD, gNm, ev0, evS, evB0, evB0o, evBS, ok_bind, exc_bind, stuck_bind, if_true, if_false, List.length_cons, List.length_nil, List.set_cons_zero, List.set_cons_succ, lim_lit, Bool.false_eq_true, ite_true, ite_false, reduceIte, List.getElem?_cons_zero, List.getElem?_cons_succ, Nat.zero_le, Nat.reduceLeDiff, Nat.reduceAdd, Nat.reduceLT, Nat.reduceSub, Nat.zero_lt_succ, Bool.not_true, Bool.not_false, n1, i1, n2, i2, s1, s2, ih, Part.k0, Part.k1, Part.kind, Part.nm, eq_str, ne_str, (by decide : (("any" : Str) == "rest") = false), (by decide : (("any" : Str) == "word") = false), (by decide : (("any" : Str) == "one") = false), (by decide : (("any" : Str) == "number") = false), is_non, nn, letsP, hx, consB, bindP, add_lst _ _ (show ([D.tup [.str n, .str w]] : List D).length + xs.length ≤ 100000 by simp; omega)]
    · rw [hx] at ih
      have nn : isN D.non = true := rfl
      cases p with
      | word v =>
        cases hv : v == w <;> simp only [d_law_matched, sSeq, sNil, sRet, sRetV, sRetN, sSet, sOwn, sAsg, sDrop, sIf, sFor, sMet, sFrz, sBrk, sCnt, lft, outD, eC, aNil, aCons, eTup, eLst, eOp, eUn, tV, bT, tAndD, tOrD, tNotD, eAnd, eOr, eNot, eIf, eChain, eCall, eSl, oNone, oSome, iSrc, iCall, srcD, gNm, ev0, evS, evB0, evB0o, evBS, ok_bind, exc_bind, stuck_bind, if_true, if_false, List.length_cons, List.length_nil, List.set_cons_zero, List.set_cons_succ, lim_lit, Bool.false_eq_true, ite_true, ite_false, reduceIte, List.getElem?_cons_zero, List.getElem?_cons_succ, Nat.zero_le, Nat.reduceLeDiff, Nat.reduceAdd, Nat.reduceLT, Nat.reduceSub, Nat.zero_lt_succ, Bool.not_true, Bool.not_false, n1, i1, n2, i2, s1, s2, ih, Part.k0, Part.k1, Part.kind, Part.nm, eq_str, ne_str, (by decide : (("word" : Str) == "rest") = false), (by decide : (("word" : Str) == "one") = false), (by decide : (("word" : Str) == "number") = false), BEq.rfl, hv, is_non, nn, letsP, hx, consB]
      | one n cs =>
        have i3 : idxD (Part.enc (.one n cs)) (.int 2) = .ok (encW cs) := idx2 _ _ _ _
        cases hv : decide (w ∈ cs) <;> simp only [d_law_matched, sSeq, sNil, sRet, sRetV, sRetN, sSet, sOwn, sAsg, sDrop, sIf, sFor, sMet, sFrz, sBrk, sCnt, lft, outD, eC, aNil, aCons, eTup, eLst, eOp, eUn, tV, bT, tAndD, tOrD, tNotD, eAnd, eOr, eNot, eIf, eChain, eCall, eSl, oNone, oSome, iSrc, iCall, srcD, gNm, ev0, evS, evB0, evB0o, evBS, ok_bind, exc_bind, stuck_bind, if_true, if_false, List.length_cons, List.length_nil, List.set_cons_zero, List.set_cons_succ, lim_lit, Bool.false_eq_true, ite_true, ite_false, reduceIte, List.getElem?_cons_zero, List.getElem?_cons_succ, Nat.zero_le, Nat.reduceLeDiff, Nat.reduceAdd, Nat.reduceLT, Nat.reduceSub, Nat.zero_lt_succ, Bool.not_true, Bool.not_false, n1, i1, n2, i2, i3, s1, s2, ih, Part.k0, Part.k1, Part.kind, Part.nm, eq_str, ne_str, notIn_words, (by decide : (("one" : Str) == "rest") = false), (by decide : (("one" : Str) == "word") = false), (by decide : (("one" : Str) == "number") = false), BEq.rfl, hv, is_non, nn, letsP, hx, consB]
      | num n =>
        cases hv : isNum w <;> rw [hv] at hn <;> simp only [d_law_matched, sSeq, sNil, sRet, sRetV, sRetN, sSet, sOwn, sAsg, sDrop, sIf, sFor, sMet, sFrz, sBrk, sCnt, lft, outD, eC, aNil, aCons, eTup, eLst, eOp, eUn, tV, bT, tAndD, tOrD, tNotD, eAnd, eOr, eNot, eIf, eChain, eCall, eSl, oNone, oSome, iSrc, iCall, srcD, gNm, ev0, evS, evB0, evB0o, evBS, ok_bind, exc_bind, stuck_bind, if_true, if_false, List.length_cons, List.length_nil, List.set_cons_zero, List.set_cons_succ, lim_lit, Bool.false_eq_true, ite_true, ite_false, reduceIte, List.getElem?_cons_zero, List.getElem?_cons_succ, Nat.zero_le, Nat.reduceLeDiff, Nat.reduceAdd, Nat.reduceLT, Nat.reduceSub, Nat.zero_lt_succ, Bool.not_true, Bool.not_false, n1, i1, n2, i2, s1, s2, ih, Part.k0, Part.k1, Part.kind, Part.nm, eq_str, ne_str, (by decide : (("number" : Str) == "rest") = false), (by decide : (("number" : Str) == "word") = false), (by decide : (("number" : Str) == "one") = false), BEq.rfl, hn, letsP, hv, is_non, nn, hx, consB]
      | any n =>
        simp only [d_law_matched, sSeq, sNil, sRet, sRetV, sRetN, sSet, sOwn, sAsg, sDrop, sIf, sFor, sMet, sFrz, sBrk, sCnt, lft, outD, eC, aNil, aCons, eTup, eLst, eOp, eUn, tV, bT, tAndD, tOrD, tNotD, eAnd, eOr, eNot, eIf, eChain, eCall, eSl, oNone, oSome, iSrc, iCall, srcD, gNm, ev0, evS, evB0, evB0o, evBS, ok_bind, exc_bind, stuck_bind, if_true, if_false, List.length_cons, List.length_nil, List.set_cons_zero, List.set_cons_succ, lim_lit, Bool.false_eq_true, ite_true, ite_false, reduceIte, List.getElem?_cons_zero, List.getElem?_cons_succ, Nat.zero_le, Nat.reduceLeDiff, Nat.reduceAdd, Nat.reduceLT, Nat.reduceSub, Nat.zero_lt_succ, Bool.not_true, Bool.not_false, n1, i1, n2, i2, s1, s2, ih, Part.k0, Part.k1, Part.kind, Part.nm, eq_str, ne_str, (by decide : (("any" : Str) == "rest") = false), (by decide : (("any" : Str) == "word") = false), (by decide : (("any" : Str) == "one") = false), (by decide : (("any" : Str) == "number") = false), is_non, nn, letsP, hx, consB]
end L2.RB.P
namespace L2.RB.P
open PySem PySem.Spec PyProof.Rows
theorem gt_int' (i j : Int) : gtI (.int i) (.int j) = .ok (.bl (decide (j < i))) := rfl
theorem le_int (i j : Int) : leI (.int i) (.int j) = .ok (.bl (decide (i ≤ j))) := rfl
/-- truth values told one by one -/
theorem any_ok (l : List Bool) : anyD [.lst (l.map D.bl)] = .ok (.bl (l.any id)) := by
  simp only [anyD, boolsOf_map]
theorem is_word_ok : ∀ w ∈ pool, m_is_word [.str w] = .ok (.bl true) := pool_cases ⟨by kernel_rfl, by kernel_rfl, by kernel_rfl, by kernel_rfl, by kernel_rfl, by kernel_rfl, by kernel_rfl, by kernel_rfl, by kernel_rfl⟩
/-- is_address of a tuple of things of which each is known to be a word or not -/
theorem is_address_of (ds : List D) (g : D → Bool) (hl : ds.length ≤ 1000) (h : ∀ d ∈ ds, m_is_word [d] = .ok (.bl (g d))) : m_is_address [.tup ds] = .ok (.bl (decide (ds.length ≤ 8) && ds.all g)) := by
  have e : m_is_address [.tup ds] = outD (d_is_address [.sh (.tup ds), .un]) := rfl
  have t : isTup (.tup ds) = .ok (.bl true) := rfl
  have hf : filtR (stepLc (gNm 1) tTrue (eCall m_is_word (aCons (eVar 1) aNil)) [1] [.sh (.tup ds), .un]) ds = .ok ((ds.map g).map D.bl) := filt_bools fun d m => by
    show (do let y ← m_is_word [d]; Res.ok (some y)) = _
    rw [h d m]; rfl
  have hlc : eLc (iSrc (eVar 0)) (gNm 1) tTrue (eCall m_is_word (aCons (eVar 1) aNil)) [1] [.sh (.tup ds), .un] = .ok (.lst ((ds.map g).map D.bl)) := eLc_ok (ds := ds) rfl (by omega) hf
  have ha : (ds.map g).all id = ds.all g := by simp [List.all_map]
  have d1 : decide ((ds.length : Int) ≤ 8) = decide (ds.length ≤ 8) := by
    by_cases h : ds.length ≤ 8
    · rw [decide_eq_true h, decide_eq_true (by omega)]
    · rw [decide_eq_false h, decide_eq_false (by omega)]
  rw [e]
  generalize hb : decide (ds.length ≤ 8) = b at *
  cases b <;> simp only [d_is_address, sSeq, sNil, sRet, sRetV, sRetN, sSet, sOwn, sAsg, sDrop, sIf, sFor, sMet, sFrz, sBrk, sCnt, lft, outD, eC, aNil, aCons, eTup, eLst, eOp, eUn, tV, bT, tAndD, tOrD, tNotD, eAnd, eOr, eNot, eIf, eChain, eCall, eSl, oNone, oSome, iSrc, iCall, srcD, gNm, ev0, evS, evB0, evB0o, evBS, ok_bind, exc_bind, stuck_bind, if_true, if_false, List.length_cons, List.length_nil, List.set_cons_zero, List.set_cons_succ, lim_lit, Bool.false_eq_true, ite_true, ite_false, reduceIte, List.getElem?_cons_zero, List.getElem?_cons_succ, Nat.zero_le, Nat.reduceLeDiff, Nat.reduceAdd, Nat.reduceLT, Nat.reduceSub, Nat.zero_lt_succ, Bool.not_true, Bool.not_false, eIsT, t, len_tup, le_int, d1, hlc, all_ok, ha, Bool.true_and, Bool.false_and]
/-- what is_part tells of a thing -/
def PB (d : D) (b : Bool) : Prop := m_is_part [d] = .ok (.bl b)
theorem parts_lc (ds : List D) (g : D → Bool) (hl : ds.length ≤ 1000) (h : ∀ d ∈ ds, PB d (g d)) : eLc (iSrc (eVar 0)) (gNm 1) tTrue (eCall m_is_part (aCons (eVar 1) aNil)) [1] [.sh (.tup ds), .un] = .ok (.lst ((ds.map g).map D.bl)) :=
  eLc_ok (ds := ds) rfl (by omega) (filt_bools fun d m => by
    show (do let y ← m_is_part [d]; Res.ok (some y)) = _
    rw [h d m]; rfl)
theorem gt6 (n : Nat) : decide ((6 : Int) < (n : Int)) = decide (6 < n) := by
  by_cases h : 6 < n
  · rw [decide_eq_true h, decide_eq_true (by omega)]
  · rw [decide_eq_false h, decide_eq_false (by omega)]
/-- one bad part: no pattern -/
theorem is_pattern_bad (ds : List D) (g : D → Bool) (hl : ds.length ≤ 1000) (h : ∀ d ∈ ds, PB d (g d)) (hb : ds.all g = false ∨ 6 < ds.length) : m_is_pattern [.tup ds] = .ok (.bl false) := by
  have e : m_is_pattern [.tup ds] = outD (d_is_pattern [.sh (.tup ds), .un]) := rfl
  have t : isTup (.tup ds) = .ok (.bl true) := rfl
  have hlc := parts_lc ds g hl h
  have ha : (ds.map g).all id = ds.all g := by simp [List.all_map]
  have d1 := gt6 ds.length
  rw [e]
  by_cases h6 : 6 < ds.length
  · rw [decide_eq_true h6] at d1
    simp only [d_is_pattern, sSeq, sNil, sRet, sRetV, sRetN, sSet, sOwn, sAsg, sDrop, sIf, sFor, sMet, sFrz, sBrk, sCnt, lft, outD, eC, aNil, aCons, eTup, eLst, eOp, eUn, tV, bT, tAndD, tOrD, tNotD, eAnd, eOr, eNot, eIf, eChain, eCall, eSl, oNone, oSome, iSrc, iCall, srcD, gNm, ev0, evS, evB0, evB0o, evBS, ok_bind, exc_bind, stuck_bind, if_true, if_false, List.length_cons, List.length_nil, List.set_cons_zero, List.set_cons_succ, lim_lit, Bool.false_eq_true, ite_true, ite_false, reduceIte, List.getElem?_cons_zero, List.getElem?_cons_succ, Nat.zero_le, Nat.reduceLeDiff, Nat.reduceAdd, Nat.reduceLT, Nat.reduceSub, Nat.zero_lt_succ, Bool.not_true, Bool.not_false, eIsT, t, len_tup, gt_int, d1]
  · have hb : ds.all g = false := hb.resolve_right h6
    rw [decide_eq_false h6] at d1
    rw [hb] at ha
    simp only [d_is_pattern, sSeq, sNil, sRet, sRetV, sRetN, sSet, sOwn, sAsg, sDrop, sIf, sFor, sMet, sFrz, sBrk, sCnt, lft, outD, eC, aNil, aCons, eTup, eLst, eOp, eUn, tV, bT, tAndD, tOrD, tNotD, eAnd, eOr, eNot, eIf, eChain, eCall, eSl, oNone, oSome, iSrc, iCall, srcD, gNm, ev0, evS, evB0, evB0o, evBS, ok_bind, exc_bind, stuck_bind, if_true, if_false, List.length_cons, List.length_nil, List.set_cons_zero, List.set_cons_succ, lim_lit, Bool.false_eq_true, ite_true, ite_false, reduceIte, List.getElem?_cons_zero, List.getElem?_cons_succ, Nat.zero_le, Nat.reduceLeDiff, Nat.reduceAdd, Nat.reduceLT, Nat.reduceSub, Nat.zero_lt_succ, Bool.not_true, Bool.not_false, eIsT, t, len_tup, gt_int, d1, hlc, all_ok, ha]
/-- a right part: its kind, its name -/
structure Tri where
  d : D
  k : Str
  nm : Str
structure Tri.Ok (t : Tri) : Prop where
  pb : PB t.d true
  k0 : idxD t.d (.int 0) = .ok (.str t.k)
  k1 : idxD t.d (.int 1) = .ok (.str t.nm)
def holesT (l : List Tri) : List Str := (l.filter fun t => !(t.k == ("word" : Str))).map Tri.nm
theorem filt_holes : ∀ {l : List Tri}, (∀ t ∈ l, t.Ok) → filtR (stepLc (gNm 1) (tV (eOp neD (eOp idxD (eVar 1) (eC (.int 0))) (eC (.str "word")))) (eOp idxD (eVar 1) (eC (.int 1))) [1] [.sh (.tup (l.map Tri.d)), .un]) (l.map Tri.d) = .ok ((holesT l).map D.str) := by
  have g : ∀ (P : D) (l : List Tri), (∀ t ∈ l, t.Ok) → filtR (stepLc (gNm 1) (tV (eOp neD (eOp idxD (eVar 1) (eC (.int 0))) (eC (.str "word")))) (eOp idxD (eVar 1) (eC (.int 1))) [1] [.sh P, .un]) (l.map Tri.d) = .ok ((holesT l).map D.str) := by
    intro P l
    induction l with
    | nil => intro _; rfl
    | cons t l ih =>
      intro h
      have ih := ih fun x m => h x (List.mem_cons_of_mem _ m)
      have ot := h t List.mem_cons_self
      rw [List.map_cons]
      cases hk : t.k == ("word" : Str) with
      | true =>
        have s1 : stepLc (gNm 1) (tV (eOp neD (eOp idxD (eVar 1) (eC (.int 0))) (eC (.str "word")))) (eOp idxD (eVar 1) (eC (.int 1))) [1] [.sh P, .un] t.d = .ok none := by
          simp only [stepLc, wipeE, sSeq, sNil, sRet, sRetV, sRetN, sSet, sOwn, sAsg, sDrop, sIf, sFor, sMet, sFrz, sBrk, sCnt, lft, outD, eC, aNil, aCons, eTup, eLst, eOp, eUn, tV, bT, tAndD, tOrD, tNotD, eAnd, eOr, eNot, eIf, eChain, eCall, eSl, oNone, oSome, iSrc, iCall, srcD, gNm, ev0, evS, evB0, evB0o, evBS, ok_bind, exc_bind, stuck_bind, if_true, if_false, List.length_cons, List.length_nil, List.set_cons_zero, List.set_cons_succ, lim_lit, Bool.false_eq_true, ite_true, ite_false, reduceIte, List.getElem?_cons_zero, List.getElem?_cons_succ, Nat.zero_le, Nat.reduceLeDiff, Nat.reduceAdd, Nat.reduceLT, Nat.reduceSub, Nat.zero_lt_succ, Bool.not_true, Bool.not_false, ot.k0, ne_str, hk]
        simp only [filtR, s1, ih, ok_bind, holesT, List.filter_cons, hk, Bool.not_true, Bool.false_eq_true, if_false]
      | false =>
        have s1 : stepLc (gNm 1) (tV (eOp neD (eOp idxD (eVar 1) (eC (.int 0))) (eC (.str "word")))) (eOp idxD (eVar 1) (eC (.int 1))) [1] [.sh P, .un] t.d = .ok (some (.str t.nm)) := by
          simp only [stepLc, wipeE, sSeq, sNil, sRet, sRetV, sRetN, sSet, sOwn, sAsg, sDrop, sIf, sFor, sMet, sFrz, sBrk, sCnt, lft, outD, eC, aNil, aCons, eTup, eLst, eOp, eUn, tV, bT, tAndD, tOrD, tNotD, eAnd, eOr, eNot, eIf, eChain, eCall, eSl, oNone, oSome, iSrc, iCall, srcD, gNm, ev0, evS, evB0, evB0o, evBS, ok_bind, exc_bind, stuck_bind, if_true, if_false, List.length_cons, List.length_nil, List.set_cons_zero, List.set_cons_succ, lim_lit, Bool.false_eq_true, ite_true, ite_false, reduceIte, List.getElem?_cons_zero, List.getElem?_cons_succ, Nat.zero_le, Nat.reduceLeDiff, Nat.reduceAdd, Nat.reduceLT, Nat.reduceSub, Nat.zero_lt_succ, Bool.not_true, Bool.not_false, ot.k0, ot.k1, ne_str, hk]
        simp only [filtR, s1, ih, ok_bind, holesT, List.filter_cons, hk, Bool.not_false, if_true, List.map_cons]
  exact fun {l} h => g _ l h
theorem holes_len (l : List Tri) : (holesT l).length ≤ l.length := by
  unfold holesT
  rw [List.length_map]
  exact List.length_filter_le _ _
theorem holes_of_ok (l : List Tri) (hl : l.length ≤ 1000) (h : ∀ t ∈ l, t.Ok) : m_holes_of [.tup (l.map Tri.d)] = .ok (.lst ((holesT l).map D.str)) := by
  have e : m_holes_of [.tup (l.map Tri.d)] = outD (d_holes_of [.sh (.tup (l.map Tri.d)), .un]) := rfl
  have hlc : eLc (iSrc (eVar 0)) (gNm 1) (tV (eOp neD (eOp idxD (eVar 1) (eC (.int 0))) (eC (.str "word")))) (eOp idxD (eVar 1) (eC (.int 1))) [1] [.sh (.tup (l.map Tri.d)), .un] = .ok (.lst ((holesT l).map D.str)) := eLc_ok (ds := l.map Tri.d) rfl (by rw [List.length_map]; omega) (filt_holes h)
  rw [e]
  simp only [d_holes_of, sSeq, sNil, sRet, sRetV, sRetN, sSet, sOwn, sAsg, sDrop, sIf, sFor, sMet, sFrz, sBrk, sCnt, lft, outD, eC, aNil, aCons, eTup, eLst, eOp, eUn, tV, bT, tAndD, tOrD, tNotD, eAnd, eOr, eNot, eIf, eChain, eCall, eSl, oNone, oSome, iSrc, iCall, srcD, gNm, ev0, evS, evB0, evB0o, evBS, ok_bind, exc_bind, stuck_bind, if_true, if_false, List.length_cons, List.length_nil, List.set_cons_zero, List.set_cons_succ, lim_lit, Bool.false_eq_true, ite_true, ite_false, reduceIte, List.getElem?_cons_zero, List.getElem?_cons_succ, Nat.zero_le, Nat.reduceLeDiff, Nat.reduceAdd, Nat.reduceLT, Nat.reduceSub, Nat.zero_lt_succ, Bool.not_true, Bool.not_false, hlc]
def patB (l : List Tri) : Bool := decide (l.length ≤ 6) && (!(l.dropLast.any fun t => t.k == ("rest" : Str)) && decide ((ddup (holesT l)).length = (holesT l).length))
theorem filt_ixs {l : List Tri} {P : D} (h : ∀ t ∈ l, t.Ok) : filtR (stepLc (gNm 1) tTrue (eOp eqD (eOp idxD (eVar 1) (eC (.int 0))) (eC (.str "rest"))) [1] [.sh P, .un]) (l.map Tri.d) = .ok ((l.map fun t => t.k == ("rest" : Str)).map D.bl) := by
  induction l with
  | nil => rfl
  | cons t l ih =>
    have ih := ih fun x m => h x (List.mem_cons_of_mem _ m)
    have ot := h t List.mem_cons_self
    have s1 : stepLc (gNm 1) tTrue (eOp eqD (eOp idxD (eVar 1) (eC (.int 0))) (eC (.str "rest"))) [1] [.sh P, .un] t.d = .ok (some (.bl (t.k == ("rest" : Str)))) := by
      simp only [stepLc, tTrue, wipeE, sSeq, sNil, sRet, sRetV, sRetN, sSet, sOwn, sAsg, sDrop, sIf, sFor, sMet, sFrz, sBrk, sCnt, lft, outD, eC, aNil, aCons, eTup, eLst, eOp, eUn, tV, bT, tAndD, tOrD, tNotD, eAnd, eOr, eNot, eIf, eChain, eCall, eSl, oNone, oSome, iSrc, iCall, srcD, gNm, ev0, evS, evB0, evB0o, evBS, ok_bind, exc_bind, stuck_bind, if_true, if_false, List.length_cons, List.length_nil, List.set_cons_zero, List.set_cons_succ, lim_lit, Bool.false_eq_true, ite_true, ite_false, reduceIte, List.getElem?_cons_zero, List.getElem?_cons_succ, Nat.zero_le, Nat.reduceLeDiff, Nat.reduceAdd, Nat.reduceLT, Nat.reduceSub, Nat.zero_lt_succ, Bool.not_true, Bool.not_false, ot.k0, eq_str]
    simp only [List.map_cons, filtR, s1, ih, ok_bind]
theorem is_pattern_ok (l : List Tri) (hl : l.length ≤ 1000) (h : ∀ t ∈ l, t.Ok) : m_is_pattern [.tup (l.map Tri.d)] = .ok (.bl (patB l)) := by
  have hpb : ∀ d ∈ l.map Tri.d, PB d ((fun _ => true) d) := fun d m => by
    obtain ⟨t, mt, rfl⟩ := List.mem_map.mp m
    exact (h t mt).pb
  by_cases h6 : l.length ≤ 6
  · have e : m_is_pattern [.tup (l.map Tri.d)] = outD (d_is_pattern [.sh (.tup (l.map Tri.d)), .un]) := rfl
    have t : isTup (.tup (l.map Tri.d)) = .ok (.bl true) := rfl
    have hlc := parts_lc (l.map Tri.d) (fun _ => true) (by rw [List.length_map]; exact hl) hpb
    have ha : ((l.map Tri.d).map fun _ => true).all id = true := by simp
    have d1 : decide ((6 : Int) < ((l.map Tri.d).length : Int)) = false := by rw [List.length_map]; exact decide_eq_false (by omega)
    have sl : sliceD (.tup (l.map Tri.d)) none (some (-1)) = .ok (.tup (l.dropLast.map Tri.d)) := by
      show Res.ok (D.tup (cutL (l.map Tri.d) none (some (-1)))) = _
      rw [cut_init, List.map_dropLast]
    have hr : eLc (iSrc (eSl (eVar 0) oNone (oSome (eUn negD (eC (.int 1)))))) (gNm 1) tTrue (eOp eqD (eOp idxD (eVar 1) (eC (.int 0))) (eC (.str "rest"))) [1] [.sh (.tup (l.map Tri.d)), .un] = .ok (.lst ((l.dropLast.map fun t => t.k == ("rest" : Str)).map D.bl)) := by
      refine eLc_ok (ds := l.dropLast.map Tri.d) ?_ (by rw [List.length_map, List.length_dropLast]; omega) (filt_ixs fun x m => h x (List.dropLast_subset _ m))
      simp only [sSeq, sNil, sRet, sRetV, sRetN, sSet, sOwn, sAsg, sDrop, sIf, sFor, sMet, sFrz, sBrk, sCnt, lft, outD, eC, aNil, aCons, eTup, eLst, eOp, eUn, tV, bT, tAndD, tOrD, tNotD, eAnd, eOr, eNot, eIf, eChain, eCall, eSl, oNone, oSome, iSrc, iCall, srcD, gNm, ev0, evS, evB0, evB0o, evBS, ok_bind, exc_bind, stuck_bind, if_true, if_false, List.length_cons, List.length_nil, List.set_cons_zero, List.set_cons_succ, lim_lit, Bool.false_eq_true, ite_true, ite_false, reduceIte, List.getElem?_cons_zero, List.getElem?_cons_succ, Nat.zero_le, Nat.reduceLeDiff, Nat.reduceAdd, Nat.reduceLT, Nat.reduceSub, Nat.zero_lt_succ, Bool.not_true, Bool.not_false, neg1, sl]
    have hh := holes_of_ok l hl h
    have hl3 := holes_len l
    have lt : (holesT l).length < 4000 := by omega
    have hset : setD [.lst ((holesT l).map D.str)] = .ok (.set (ddup (holesT l))) := by simp only [setD, strsOf_map, if_pos lt]
    have ls : lenD [.set (ddup (holesT l))] = .ok (.int (ddup (holesT l)).length) := rfl
    have ll : lenD [.lst ((holesT l).map D.str)] = .ok (.int (holesT l).length) := by rw [len_lst, List.length_map]
    have hany : (l.dropLast.map fun t => t.k == ("rest" : Str)).any id = l.dropLast.any fun t => t.k == ("rest" : Str) := by
      rw [List.any_map]; rfl
    have hq : (((ddup (holesT l)).length : Int) == ((holesT l).length : Int)) = decide ((ddup (holesT l)).length = (holesT l).length) := by
      by_cases z : (ddup (holesT l)).length = (holesT l).length
      · rw [decide_eq_true z, z]; simp
      · rw [decide_eq_false z]; simp; omega
    rw [e]
    unfold patB
    rw [decide_eq_true h6]
    generalize hA : (l.dropLast.any fun t => t.k == ("rest" : Str)) = A at *
    cases A <;> simp only [d_is_pattern, sSeq, sNil, sRet, sRetV, sRetN, sSet, sOwn, sAsg, sDrop, sIf, sFor, sMet, sFrz, sBrk, sCnt, lft, outD, eC, aNil, aCons, eTup, eLst, eOp, eUn, tV, bT, tAndD, tOrD, tNotD, eAnd, eOr, eNot, eIf, eChain, eCall, eSl, oNone, oSome, iSrc, iCall, srcD, gNm, ev0, evS, evB0, evB0o, evBS, ok_bind, exc_bind, stuck_bind, if_true, if_false, List.length_cons, List.length_nil, List.set_cons_zero, List.set_cons_succ, lim_lit, Bool.false_eq_true, ite_true, ite_false, reduceIte, List.getElem?_cons_zero, List.getElem?_cons_succ, Nat.zero_le, Nat.reduceLeDiff, Nat.reduceAdd, Nat.reduceLT, Nat.reduceSub, Nat.zero_lt_succ, Bool.not_true, Bool.not_false, eIsT, t, len_tup, gt_int, d1, hlc, all_ok, ha, hr, any_ok, hany, hh, hset, ls, ll, eq_int, hq, Bool.true_and, Bool.false_and]
  · have := is_pattern_bad (l.map Tri.d) (fun _ => true) (by rw [List.length_map]; exact hl) hpb (.inr (by rw [List.length_map]; omega))
    rw [this]
    unfold patB
    rw [decide_eq_false h6]
    rfl
end L2.RB.P
namespace L2.RB.P
open PySem PySem.Spec PyProof.Rows
theorem ddup_go : ∀ (xs ys : List Str), (∀ x ∈ xs, x ∉ ys) → xs.Nodup → xs.foldl addOne ys = ys ++ xs
  | [], ys, _, _ => by simp
  | x :: xs, ys, h, n => by
    rw [List.foldl_cons, show addOne ys x = ys ++ [x] from if_neg (h x List.mem_cons_self), ddup_go xs (ys ++ [x]) ?_ (List.nodup_cons.mp n).2, List.append_assoc]
    · rfl
    · intro z m q
      rcases List.mem_append.mp q with q | q
      · exact h z (List.mem_cons_of_mem _ m) q
      · rw [List.mem_singleton.mp q] at m
        exact (List.nodup_cons.mp n).1 m
theorem ddup_id {xs : List Str} (n : xs.Nodup) : ddup xs = xs := (ddup_go xs [] (fun _ _ => List.not_mem_nil) n).trans (List.nil_append _)
theorem sorted_again (ws : List Str) : sortS (ddup (sortS (ddup ws))) = sortS (ddup ws) := by
  have n : (sortS (ddup ws)).Nodup := (sortS_perm _).nodup_iff.mpr (ddup_nodup ws)
  rw [ddup_id n]
  exact (sortS_of (List.Perm.refl _) (sortS_up _)).symm
theorem are_choices_ok (cs : List Str) (h1 : 0 < cs.length) (h2 : cs.length ≤ 4) (hp : ∀ c ∈ cs, c ∈ pool) (hs : sortS (ddup cs) = cs) : m_are_choices [encW cs] = .ok (.bl true) := by
  have e : m_are_choices [encW cs] = outD (d_are_choices [.sh (encW cs), .un]) := rfl
  have t : isTup (encW cs) = .ok (.bl true) := rfl
  have l1 : lenD [encW cs] = .ok (.int cs.length) := by
    show Res.ok (D.int ((cs.map D.str).length : Int)) = _
    rw [List.length_map]
  have b1 : decide ((1 : Int) ≤ (cs.length : Int)) = true := decide_eq_true (by omega)
  have b2 : decide ((cs.length : Int) ≤ 4) = true := decide_eq_true (by omega)
  have hf : filtR (stepLc (gNm 1) tTrue (eCall m_is_word (aCons (eVar 1) aNil)) [1] [.sh (encW cs), .un]) (cs.map D.str) = .ok (((cs.map D.str).map fun _ => true).map D.bl) := filt_bools fun d m => by
    obtain ⟨w, mw, rfl⟩ := List.mem_map.mp m
    show (do let y ← m_is_word [.str w]; Res.ok (some y)) = _
    rw [is_word_ok w (hp w mw)]; rfl
  have hlc : eLc (iSrc (eVar 0)) (gNm 1) tTrue (eCall m_is_word (aCons (eVar 1) aNil)) [1] [.sh (encW cs), .un] = .ok (.lst (((cs.map D.str).map fun _ => true).map D.bl)) := eLc_ok (ds := cs.map D.str) rfl (by rw [List.length_map]; omega) hf
  have ha : ((cs.map D.str).map fun _ => true).all id = true := by simp
  have li : listD [encW cs] = .ok (.lst (cs.map D.str)) := rfl
  have lt : cs.length < 4000 := by omega
  have se : setD [encW cs] = .ok (.set (ddup cs)) := by simp only [encW, setD, strsOf_map, if_pos lt]
  have ld := ddup_len cs
  have lt2 : (ddup cs).length < 4000 := by omega
  have so : sortedD [.set (ddup cs)] = .ok (.lst (cs.map D.str)) := by simp only [sortedD, if_pos lt2, hs]
  have pl : (D.lst (cs.map D.str)).pl 60 = true := by
    simp only [D.pl]
    exact pls_map (fun a => str_pl60 a |> fun _ => by simp [D.pl]) cs
  have q : eqD (.lst (cs.map D.str)) (.lst (cs.map D.str)) = .ok (.bl true) := by rw [eqD_pl pl pl, D.eqv_self pl]
  rw [e]
  simp only [d_are_choices, sSeq, sNil, sRet, sRetV, sRetN, sSet, sOwn, sAsg, sDrop, sIf, sFor, sMet, sFrz, sBrk, sCnt, lft, outD, eC, aNil, aCons, eTup, eLst, eOp, eUn, tV, bT, tAndD, tOrD, tNotD, eAnd, eOr, eNot, eIf, eChain, eCall, eSl, oNone, oSome, iSrc, iCall, srcD, gNm, ev0, evS, evB0, evB0o, evBS, ok_bind, exc_bind, stuck_bind, if_true, if_false, List.length_cons, List.length_nil, List.set_cons_zero, List.set_cons_succ, lim_lit, Bool.false_eq_true, ite_true, ite_false, reduceIte, List.getElem?_cons_zero, List.getElem?_cons_succ, Nat.zero_le, Nat.reduceLeDiff, Nat.reduceAdd, Nat.reduceLT, Nat.reduceSub, Nat.zero_lt_succ, Bool.not_true, Bool.not_false, eIsT, t, l1, le_int, b1, b2, hlc, all_ok, ha, li, se, so, q]
theorem name_ok : ∀ nm ∈ names4, m_is_name [.str nm] = .ok (.bl true) := by
  intro nm m
  simp only [names4, List.mem_cons, List.not_mem_nil, or_false] at m
  rcases m with rfl | rfl | rfl | rfl <;> kernel_rfl
theorem part_pb {p : Part} (g : GoodP p) {nm : Str} (hn : nm ∈ names4) (h : Named nm p) : PB p.enc true := by
  unfold PB
  cases p with
  | word w =>
    have hw := is_word_ok w g
    have e : m_is_part [Part.enc (.word w)] = outD (d_is_part [.sh (Part.enc (.word w))]) := rfl
    have t : isTup (Part.enc (.word w)) = .ok (.bl true) := rfl
    have t2 : isStr (.str "word") = .ok (.bl true) := rfl
    have l : lenD [Part.enc (.word w)] = .ok (.int 2) := rfl
    have b : decide ((2 : Int) < 2) = false := by decide
    have b2 : ((2 : Int) == 2) = true := by decide
    rw [e]
    simp only [d_is_part, sSeq, sNil, sRet, sRetV, sRetN, sSet, sOwn, sAsg, sDrop, sIf, sFor, sMet, sFrz, sBrk, sCnt, lft, outD, eC, aNil, aCons, eTup, eLst, eOp, eUn, tV, bT, tAndD, tOrD, tNotD, eAnd, eOr, eNot, eIf, eChain, eCall, eSl, oNone, oSome, iSrc, iCall, srcD, gNm, ev0, evS, evB0, evB0o, evBS, ok_bind, exc_bind, stuck_bind, if_true, if_false, List.length_cons, List.length_nil, List.set_cons_zero, List.set_cons_succ, lim_lit, Bool.false_eq_true, ite_true, ite_false, reduceIte, List.getElem?_cons_zero, List.getElem?_cons_succ, Nat.zero_le, Nat.reduceLeDiff, Nat.reduceAdd, Nat.reduceLT, Nat.reduceSub, Nat.zero_lt_succ, Bool.not_true, Bool.not_false, eIsT, t, l, lt_int, b, Part.k0, Part.k1, Part.kind, Part.nm, t2, eq_str, BEq.rfl, eq_int, hw]
  | num n =>
    cases h
    simp only [names4, List.mem_cons, List.not_mem_nil, or_false] at hn
    rcases hn with rfl | rfl | rfl | rfl <;> kernel_rfl
  | any n =>
    cases h
    simp only [names4, List.mem_cons, List.not_mem_nil, or_false] at hn
    rcases hn with rfl | rfl | rfl | rfl <;> kernel_rfl
  | one n cs =>
    obtain ⟨rfl, hl, ws, rfl⟩ := h
    have hc := are_choices_ok _ (List.length_pos_iff.mpr g.1) (by omega) g.2 (sorted_again ws)
    have hnm := name_ok n hn
    generalize sortS (ddup ws) = cs at *
    have e : m_is_part [Part.enc (.one n cs)] = outD (d_is_part [.sh (Part.enc (.one n cs))]) := rfl
    have t : isTup (Part.enc (.one n cs)) = .ok (.bl true) := rfl
    have t2 : isStr (.str "one") = .ok (.bl true) := rfl
    have l : lenD [Part.enc (.one n cs)] = .ok (.int 3) := rfl
    have b : decide ((3 : Int) < 2) = false := by decide
    have i2 : idxD (Part.enc (.one n cs)) (.int 2) = .ok (encW cs) := idx2 _ _ _ _
    rw [e]
    simp only [d_is_part, sSeq, sNil, sRet, sRetV, sRetN, sSet, sOwn, sAsg, sDrop, sIf, sFor, sMet, sFrz, sBrk, sCnt, lft, outD, eC, aNil, aCons, eTup, eLst, eOp, eUn, tV, bT, tAndD, tOrD, tNotD, eAnd, eOr, eNot, eIf, eChain, eCall, eSl, oNone, oSome, iSrc, iCall, srcD, gNm, ev0, evS, evB0, evB0o, evBS, ok_bind, exc_bind, stuck_bind, if_true, if_false, List.length_cons, List.length_nil, List.set_cons_zero, List.set_cons_succ, lim_lit, Bool.false_eq_true, ite_true, ite_false, reduceIte, List.getElem?_cons_zero, List.getElem?_cons_succ, Nat.zero_le, Nat.reduceLeDiff, Nat.reduceAdd, Nat.reduceLT, Nat.reduceSub, Nat.zero_lt_succ, Bool.not_true, Bool.not_false, eIsT, t, l, lt_int, b, Part.k0, Part.k1, Part.kind, Part.nm, t2, eq_str, (by decide : (("one" : Str) == "word") = false), hnm, BEq.rfl, eq_int, i2, hc]
def triP (q : Part) : Tri := ⟨q.enc, q.kind, q.nm⟩
def triR (r : Str) : Tri := ⟨encR r, "rest", r⟩
theorem triR_ok : (triR "r").Ok := ⟨by unfold PB; kernel_rfl, encR0 _, encR1 _⟩
theorem triP_ok {q : Part} (g : GoodP q) {nm : Str} (hn : nm ∈ names4) (h : Named nm q) : (triP q).Ok := ⟨part_pb g hn h, q.k0, q.k1⟩
def tris (p : Pat) : List Tri := p.ps.map triP ++ (match p.rest with
  | some r => [triR r]
  | none => [])
theorem tris_enc (p : Pat) : p.enc = .tup ((tris p).map Tri.d) := by
  obtain ⟨ps, rest⟩ := p
  cases rest <;> simp [tris, Pat.enc, Pat.encs, triP, triR, Function.comp_def]
/-- a pattern as it is drawn -/
structure Drawn (p : Pat) : Prop where
  len : p.ps.length ≤ 4
  rest : p.rest = none ∨ p.rest = some ("r" : Str)
  at_ : ∀ (j : Nat) q, p.ps[j]? = some q → GoodP q ∧ Named (names4.getD j "") q
theorem names4_mem {j : Nat} (h : j < 4) : names4.getD j "" ∈ names4 := by
  rcases (by omega : j = 0 ∨ j = 1 ∨ j = 2 ∨ j = 3) with rfl | rfl | rfl | rfl <;> decide
theorem Drawn.ok {p : Pat} (d : Drawn p) : ∀ t ∈ tris p, t.Ok := by
  intro t m
  rcases List.mem_append.mp m with m | m
  · obtain ⟨q, mq, rfl⟩ := List.mem_map.mp m
    obtain ⟨j, hj, e⟩ := List.getElem_of_mem mq
    have ej : p.ps[j]? = some q := by rw [List.getElem?_eq_getElem hj, e]
    have := d.at_ j q ej
    have l4 := d.len
    exact triP_ok this.1 (names4_mem (by omega)) this.2
  · rcases d.rest with h | h
    · rw [h] at m; exact absurd m List.not_mem_nil
    · rw [h] at m
      rw [List.mem_singleton.mp m]
      exact triR_ok
theorem Drawn.len5 {p : Pat} (d : Drawn p) : (tris p).length ≤ 5 := by
  have := d.len
  unfold tris
  rw [List.length_append, List.length_map]
  cases p.rest <;> simp <;> omega
theorem holes_sub : ∀ (ps : List Part) (names : List Str), ps.length ≤ names.length → (∀ (j : Nat) q, ps[j]? = some q → Named (names.getD j "") q) → (holesT (ps.map triP)).Sublist names
  | [], names, _, _ => by simp [holesT]
  | p :: ps, [], h, _ => by simp at h
  | p :: ps, n :: names, h, hq => by
    have ih := holes_sub ps names (by simpa using h) fun j q e => by simpa using hq (j + 1) q (by simpa using e)
    have h0 := hq 0 p rfl
    unfold holesT at ih ⊢
    rw [List.map_cons, List.filter_cons]
    cases p with
    | word w => exact ih.cons _
    | num m => obtain rfl : m = n := h0; exact ih.cons_cons _
    | any m => obtain rfl : m = n := h0; exact ih.cons_cons _
    | one m cs => obtain ⟨rfl, _⟩ : m = n ∧ _ := h0; exact ih.cons_cons _
theorem Drawn.nodup {p : Pat} (d : Drawn p) : (holesT (tris p)).Nodup := by
  have s := holes_sub p.ps names4 d.len fun j q e => (d.at_ j q e).2
  have n5 : (names4 ++ [("r" : Str)] : List Str).Nodup := by decide
  have e : holesT (tris p) = holesT (p.ps.map triP) ++ holesT (match p.rest with
    | some r => [triR r]
    | none => []) := by
    unfold tris holesT
    rw [List.filter_append, List.map_append]
  rw [e]
  refine List.Nodup.sublist (List.Sublist.append s ?_) n5
  rcases d.rest with h | h <;> rw [h]
  · exact List.nil_sublist _
  · exact List.Sublist.refl _
theorem kindP (q : Part) : ((triP q).k == ("rest" : Str)) = false := kind_rest q
theorem Drawn.pat {p : Pat} (d : Drawn p) : patB (tris p) = true := by
  have h5 := d.len5
  have hn := ddup_id d.nodup
  unfold patB
  rw [hn, decide_eq_true (by omega : (tris p).length ≤ 6), decide_eq_true rfl, Bool.true_and, Bool.and_true, Bool.not_eq_true', List.any_eq_false]
  intro t m
  have : t ∈ p.ps.map triP := by
    unfold tris at m
    rcases d.rest with h | h
    · rw [h, List.append_nil] at m
      exact List.dropLast_subset _ m
    · rw [h] at m
      rw [List.dropLast_concat] at m
      exact m
  obtain ⟨q, _, rfl⟩ := List.mem_map.mp this
  rw [kindP]
  exact Bool.false_ne_true
theorem Drawn.is_pattern {p : Pat} (d : Drawn p) : m_is_pattern [p.enc] = .ok (.bl true) := by
  have h5 := d.len5
  rw [tris_enc, is_pattern_ok (tris p) (by omega) d.ok, d.pat]
end L2.RB.P
namespace L2.RB.P
open PySem PySem.Spec PyProof.Rows
def RwB (d : D) (b : Bool) : Prop := m_is_row [d] = .ok (.bl b)
theorem row_of {lab : Str} {P : D} {a b : Bool} (h1 : m_is_name [.str lab] = .ok (.bl a)) (h2 : m_is_pattern [P] = .ok (.bl b)) : RwB (.tup [.str lab, P]) (a && b) := by
  unfold RwB
  have e : m_is_row [.tup [.str lab, P]] = outD (d_is_row [.sh (.tup [.str lab, P])]) := rfl
  have t : isTup (.tup [.str lab, P]) = .ok (.bl true) := rfl
  have l : lenD [.tup [.str lab, P]] = .ok (.int 2) := rfl
  have b2 : ((2 : Int) == 2) = true := by decide
  rw [e]
  cases a <;> simp only [d_is_row, sSeq, sNil, sRet, sRetV, sRetN, sSet, sOwn, sAsg, sDrop, sIf, sFor, sMet, sFrz, sBrk, sCnt, lft, outD, eC, aNil, aCons, eTup, eLst, eOp, eUn, tV, bT, tAndD, tOrD, tNotD, eAnd, eOr, eNot, eIf, eChain, eCall, eSl, oNone, oSome, iSrc, iCall, srcD, gNm, ev0, evS, evB0, evB0o, evBS, ok_bind, exc_bind, stuck_bind, if_true, if_false, List.length_cons, List.length_nil, List.set_cons_zero, List.set_cons_succ, lim_lit, Bool.false_eq_true, ite_true, ite_false, reduceIte, List.getElem?_cons_zero, List.getElem?_cons_succ, Nat.zero_le, Nat.reduceLeDiff, Nat.reduceAdd, Nat.reduceLT, Nat.reduceSub, Nat.zero_lt_succ, Bool.not_true, Bool.not_false, eIsT, t, l, eq_int, b2, idx0, idx1, h1, h2, Bool.true_and, Bool.false_and]
theorem rows_lc (ds : List D) (g : D → Bool) (hl : ds.length ≤ 1000) (h : ∀ d ∈ ds, RwB d (g d)) : eLc (iSrc (eVar 0)) (gNm 1) tTrue (eCall m_is_row (aCons (eVar 1) aNil)) [1] [.sh (.tup ds), .un] = .ok (.lst ((ds.map g).map D.bl)) :=
  eLc_ok (ds := ds) rfl (by omega) (filt_bools fun d m => by
    show (do let y ← m_is_row [d]; Res.ok (some y)) = _
    rw [h d m]; rfl)
theorem gt8 (n : Nat) : decide ((8 : Int) < (n : Int)) = decide (8 < n) := by
  by_cases h : 8 < n
  · rw [decide_eq_true h, decide_eq_true (by omega)]
  · rw [decide_eq_false h, decide_eq_false (by omega)]
theorem is_table_bad (ds : List D) (g : D → Bool) (hl : ds.length ≤ 1000) (h : ∀ d ∈ ds, RwB d (g d)) (hb : ds.all g = false ∨ 8 < ds.length) : m_is_table [.tup ds] = .ok (.bl false) := by
  have e : m_is_table [.tup ds] = outD (d_is_table [.sh (.tup ds), .un]) := rfl
  have t : isTup (.tup ds) = .ok (.bl true) := rfl
  have hlc := rows_lc ds g hl h
  have ha : (ds.map g).all id = ds.all g := by simp [List.all_map]
  have d1 := gt8 ds.length
  rw [e]
  by_cases h6 : 8 < ds.length
  · rw [decide_eq_true h6] at d1
    simp only [d_is_table, sSeq, sNil, sRet, sRetV, sRetN, sSet, sOwn, sAsg, sDrop, sIf, sFor, sMet, sFrz, sBrk, sCnt, lft, outD, eC, aNil, aCons, eTup, eLst, eOp, eUn, tV, bT, tAndD, tOrD, tNotD, eAnd, eOr, eNot, eIf, eChain, eCall, eSl, oNone, oSome, iSrc, iCall, srcD, gNm, ev0, evS, evB0, evB0o, evBS, ok_bind, exc_bind, stuck_bind, if_true, if_false, List.length_cons, List.length_nil, List.set_cons_zero, List.set_cons_succ, lim_lit, Bool.false_eq_true, ite_true, ite_false, reduceIte, List.getElem?_cons_zero, List.getElem?_cons_succ, Nat.zero_le, Nat.reduceLeDiff, Nat.reduceAdd, Nat.reduceLT, Nat.reduceSub, Nat.zero_lt_succ, Bool.not_true, Bool.not_false, eIsT, t, len_tup, gt_int, d1]
  · have hb : ds.all g = false := hb.resolve_right h6
    rw [decide_eq_false h6] at d1
    rw [hb] at ha
    simp only [d_is_table, sSeq, sNil, sRet, sRetV, sRetN, sSet, sOwn, sAsg, sDrop, sIf, sFor, sMet, sFrz, sBrk, sCnt, lft, outD, eC, aNil, aCons, eTup, eLst, eOp, eUn, tV, bT, tAndD, tOrD, tNotD, eAnd, eOr, eNot, eIf, eChain, eCall, eSl, oNone, oSome, iSrc, iCall, srcD, gNm, ev0, evS, evB0, evB0o, evBS, ok_bind, exc_bind, stuck_bind, if_true, if_false, List.length_cons, List.length_nil, List.set_cons_zero, List.set_cons_succ, lim_lit, Bool.false_eq_true, ite_true, ite_false, reduceIte, List.getElem?_cons_zero, List.getElem?_cons_succ, Nat.zero_le, Nat.reduceLeDiff, Nat.reduceAdd, Nat.reduceLT, Nat.reduceSub, Nat.zero_lt_succ, Bool.not_true, Bool.not_false, eIsT, t, len_tup, gt_int, d1, hlc, all_ok, ha]
/-- a table of right rows: labels and patterns -/
def encT (rows : List (Str × D)) : List D := rows.map fun r => .tup [.str r.1, r.2]
def tabB (rows : List (Str × D)) : Bool := decide (rows.length ≤ 8) && decide ((ddup (rows.map Prod.fst)).length = rows.length)
theorem is_table_ok (rows : List (Str × D)) (hl : rows.length ≤ 1000) (h : ∀ r ∈ rows, RwB (.tup [.str r.1, r.2]) true) : m_is_table [.tup (encT rows)] = .ok (.bl (tabB rows)) := by
  have hpb : ∀ d ∈ encT rows, RwB d ((fun _ => true) d) := fun d m => by
    obtain ⟨t, mt, rfl⟩ := List.mem_map.mp m
    exact h t mt
  have le : (encT rows).length = rows.length := by unfold encT; rw [List.length_map]
  by_cases h6 : rows.length ≤ 8
  · have e : m_is_table [.tup (encT rows)] = outD (d_is_table [.sh (.tup (encT rows)), .un]) := rfl
    have t : isTup (.tup (encT rows)) = .ok (.bl true) := rfl
    have hlc := rows_lc (encT rows) (fun _ => true) (by omega) hpb
    have ha : ((encT rows).map fun _ => true).all id = true := by simp
    have d1 : decide ((8 : Int) < ((encT rows).length : Int)) = false := by rw [le]; exact decide_eq_false (by omega)
    have hl0 : filtR (stepLc (gNm 1) tTrue (eOp idxD (eVar 1) (eC (.int 0))) [1] [.sh (.tup (encT rows)), .un]) (encT rows) = .ok ((rows.map Prod.fst).map D.str) := by
      generalize (D.tup (encT rows)) = P
      clear hpb le e t hlc ha d1 h6 hl h
      induction rows with
      | nil => rfl
      | cons r rows ih =>
        have s1 : stepLc (gNm 1) tTrue (eOp idxD (eVar 1) (eC (.int 0))) [1] [.sh P, .un] (.tup [.str r.1, r.2]) = .ok (some (.str r.1)) := by
          simp only [stepLc, tTrue, wipeE, sSeq, sNil, sRet, sRetV, sRetN, sSet, sOwn, sAsg, sDrop, sIf, sFor, sMet, sFrz, sBrk, sCnt, lft, outD, eC, aNil, aCons, eTup, eLst, eOp, eUn, tV, bT, tAndD, tOrD, tNotD, eAnd, eOr, eNot, eIf, eChain, eCall, eSl, oNone, oSome, iSrc, iCall, srcD, gNm, ev0, evS, evB0, evB0o, evBS, ok_bind, exc_bind, stuck_bind, if_true, if_false, List.length_cons, List.length_nil, List.set_cons_zero, List.set_cons_succ, lim_lit, Bool.false_eq_true, ite_true, ite_false, reduceIte, List.getElem?_cons_zero, List.getElem?_cons_succ, Nat.zero_le, Nat.reduceLeDiff, Nat.reduceAdd, Nat.reduceLT, Nat.reduceSub, Nat.zero_lt_succ, Bool.not_true, Bool.not_false, idx0]
        have e2 : encT (r :: rows) = .tup [.str r.1, r.2] :: encT rows := rfl
        rw [e2]
        simp only [filtR, s1, ih, ok_bind, List.map_cons]
    have hlb : eLc (iSrc (eVar 0)) (gNm 1) tTrue (eOp idxD (eVar 1) (eC (.int 0))) [1] [.sh (.tup (encT rows)), .un] = .ok (.lst ((rows.map Prod.fst).map D.str)) := eLc_ok (ds := encT rows) rfl (by omega) hl0
    have lt : (rows.map Prod.fst).length < 4000 := by rw [List.length_map]; omega
    have hset : setD [.lst ((rows.map Prod.fst).map D.str)] = .ok (.set (ddup (rows.map Prod.fst))) := by simp only [setD, strsOf_map, if_pos lt]
    have ls : lenD [.set (ddup (rows.map Prod.fst))] = .ok (.int (ddup (rows.map Prod.fst)).length) := rfl
    have lr : lenD [.tup (encT rows)] = .ok (.int rows.length) := by rw [len_tup, le]
    have hq : (((ddup (rows.map Prod.fst)).length : Int) == (rows.length : Int)) = decide ((ddup (rows.map Prod.fst)).length = rows.length) := by
      by_cases z : (ddup (rows.map Prod.fst)).length = rows.length
      · rw [decide_eq_true z, z]; simp
      · rw [decide_eq_false z]; simp; omega
    rw [le] at d1
    rw [e]
    unfold tabB
    rw [decide_eq_true h6]
    simp only [d_is_table, sSeq, sNil, sRet, sRetV, sRetN, sSet, sOwn, sAsg, sDrop, sIf, sFor, sMet, sFrz, sBrk, sCnt, lft, outD, eC, aNil, aCons, eTup, eLst, eOp, eUn, tV, bT, tAndD, tOrD, tNotD, eAnd, eOr, eNot, eIf, eChain, eCall, eSl, oNone, oSome, iSrc, iCall, srcD, gNm, ev0, evS, evB0, evB0o, evBS, ok_bind, exc_bind, stuck_bind, if_true, if_false, List.length_cons, List.length_nil, List.set_cons_zero, List.set_cons_succ, lim_lit, Bool.false_eq_true, ite_true, ite_false, reduceIte, List.getElem?_cons_zero, List.getElem?_cons_succ, Nat.zero_le, Nat.reduceLeDiff, Nat.reduceAdd, Nat.reduceLT, Nat.reduceSub, Nat.zero_lt_succ, Bool.not_true, Bool.not_false, eIsT, t, lr, gt_int, d1, hlc, all_ok, ha, hlb, hset, ls, eq_int, hq, Bool.true_and]
  · have := is_table_bad (encT rows) (fun _ => true) (by omega) hpb (.inr (by omega))
    rw [this]
    unfold tabB
    rw [decide_eq_false h6]
    rfl
/-! the drawn table -/
abbrev labs : List Str := ["t", "p", "v", "q", "u", "s"]
theorem labs_ok : ∀ l ∈ labs, m_is_name [.str l] = .ok (.bl true) := by
  intro nm m
  simp only [labs, List.mem_cons, List.not_mem_nil, or_false] at m
  rcases m with rfl | rfl | rfl | rfl | rfl | rfl <;> kernel_rfl
theorem drawn_of {S : D} (hS : IsScr S) (at_ mo : Nat) (hmo : mo ≤ 4) : ∃ p : Pat, m_law_pattern [S, .int at_, .int mo] = .ok p.enc ∧ Drawn p := by
  obtain ⟨p, e, l, r, a⟩ := pattern_ok hS at_ mo hmo
  exact ⟨p, e, ⟨by omega, r, a⟩⟩
theorem filt_rows {f : D → Res (Option D)} : ∀ (l : List D) (names : List Str), l.length ≤ names.length → (∀ (j : Nat) d, l[j]? = some d → ∃ p : Pat, f d = .ok (some (.tup [.str (names.getD j ""), p.enc])) ∧ Drawn p) → ∃ rows : List (Str × D), filtR f l = .ok (encT rows) ∧ rows.length = l.length ∧ (rows.map Prod.fst).Sublist names ∧ ∀ r ∈ rows, ∃ p : Pat, r.2 = p.enc ∧ Drawn p
  | [], names, _, _ => ⟨[], rfl, rfl, by simp, fun r m => absurd m List.not_mem_nil⟩
  | d :: l, [], h, _ => by simp at h
  | d :: l, n :: names, h, hq => by
    obtain ⟨p, e1, q1⟩ := hq 0 d rfl
    obtain ⟨rows, e2, l2, s2, q2⟩ := filt_rows l names (by simpa using h) fun j x hx => by simpa using hq (j + 1) x (by simpa using hx)
    have e1 : f d = .ok (some (.tup [.str n, p.enc])) := e1
    refine ⟨(n, p.enc) :: rows, ?_, by simp [l2], by simpa using s2, fun r m => ?_⟩
    · simp only [filtR, e1, e2, ok_bind]
      rfl
    · rcases List.mem_cons.mp m with rfl | m
      · exact ⟨p, rfl, q1⟩
      · exact q2 r m
theorem table_ok {S : D} (hS : IsScr S) : ∃ rows : List (Str × D), m_law_table [S, .int 100, .int 3, .int 4] = .ok (.tup (encT rows)) ∧ rows.length ≤ 4 ∧ (rows.map Prod.fst).Sublist labs ∧ ∀ r ∈ rows, ∃ p : Pat, r.2 = p.enc ∧ Drawn p := by
  have e : m_law_table [S, .int 100, .int 3, .int 4] = outD (d_law_table [.sh S, .sh (.int 100), .sh (.int 3), .sh (.int 4), .un, .un, .un]) := rfl
  obtain ⟨m, hm, bm⟩ := pick_ok hS 100 5 (by decide)
  let labsD : D := .lst [.str "t", .str "p", .str "v", .str "q", .str "u", .str "s"]
  have hst : ∀ (j : Nat) d, (rngD 0 m)[j]? = some d → ∃ p : Pat, stepLc (gNm 6) tTrue (eTup (aCons (eOp idxD (eVar 4) (eVar 6)) (aCons (eCall m_law_pattern (aCons (eVar 0) (aCons (eOp addD (eOp addD (eVar 1) (eC (.int 1))) (eOp mulD (eC (.int 30)) (eVar 6))) (aCons (eVar 2) aNil)))) aNil))) [6] [.sh S, .sh (.int 100), .sh (.int 3), .sh (.int 4), .sh labsD, .sh (.int m), .un] d = .ok (some (.tup [.str (labs.getD j ""), p.enc])) ∧ Drawn p := by
    intro j d md
    obtain ⟨hj, rfl⟩ := rng_get md
    have hj6 : j < labs.length := by simp [labs]; omega
    obtain ⟨p, hp, dp⟩ := drawn_of hS (100 + 1 + 30 * j) 3 (by decide)
    have hi := idx_strs labs j hj6
    have hn : D.lst (labs.map D.str) = labsD := rfl
    rw [hn] at hi
    have kk : (100 : Int) + 1 + 30 * (j : Int) = ((100 + 1 + 30 * j : Nat) : Int) := by omega
    have gl : labs.getD j "" = labs[j] := by rw [List.getD_eq_getElem?_getD, List.getElem?_eq_getElem hj6]; rfl
    have hp : m_law_pattern [S, .int ((100 + 1 + 30 * j : Nat) : Int), .int 3] = .ok p.enc := hp
    refine ⟨p, ?_, dp⟩
    rw [gl]
    simp only [stepLc, wipeE, tTrue, sSeq, sNil, sRet, sRetV, sRetN, sSet, sOwn, sAsg, sDrop, sIf, sFor, sMet, sFrz, sBrk, sCnt, lft, outD, eC, aNil, aCons, eTup, eLst, eOp, eUn, tV, bT, tAndD, tOrD, tNotD, eAnd, eOr, eNot, eIf, eChain, eCall, eSl, oNone, oSome, iSrc, iCall, srcD, gNm, ev0, evS, evB0, evB0o, evBS, ok_bind, exc_bind, stuck_bind, if_true, if_false, List.length_cons, List.length_nil, List.set_cons_zero, List.set_cons_succ, lim_lit, Bool.false_eq_true, ite_true, ite_false, reduceIte, List.getElem?_cons_zero, List.getElem?_cons_succ, Nat.zero_le, Nat.reduceLeDiff, Nat.reduceAdd, Nat.reduceLT, Nat.reduceSub, Nat.zero_lt_succ, Bool.not_true, Bool.not_false, add_int, mul_l _ (by decide : -(2 ^ 64) < (30 : Int) ∧ (30 : Int) < 2 ^ 64), kk, hi, hp]
  obtain ⟨rows, hr, lr, sr, qr⟩ := filt_rows (rngD 0 m) labs (by rw [rng_len]; simp [labs]; omega) hst
  rw [rng_len] at lr
  have hlc : eLc (iCall rng1D (aCons (eVar 5) aNil)) (gNm 6) tTrue (eTup (aCons (eOp idxD (eVar 4) (eVar 6)) (aCons (eCall m_law_pattern (aCons (eVar 0) (aCons (eOp addD (eOp addD (eVar 1) (eC (.int 1))) (eOp mulD (eC (.int 30)) (eVar 6))) (aCons (eVar 2) aNil)))) aNil))) [6] [.sh S, .sh (.int 100), .sh (.int 3), .sh (.int 4), .sh labsD, .sh (.int m), .un] = .ok (.lst (encT rows)) := by
    refine eLc_ok (ds := rngD 0 m) ?_ (by rw [rng_len]; omega) hr
    simp only [sSeq, sNil, sRet, sRetV, sRetN, sSet, sOwn, sAsg, sDrop, sIf, sFor, sMet, sFrz, sBrk, sCnt, lft, outD, eC, aNil, aCons, eTup, eLst, eOp, eUn, tV, bT, tAndD, tOrD, tNotD, eAnd, eOr, eNot, eIf, eChain, eCall, eSl, oNone, oSome, iSrc, iCall, srcD, gNm, ev0, evS, evB0, evB0o, evBS, ok_bind, exc_bind, stuck_bind, if_true, if_false, List.length_cons, List.length_nil, List.set_cons_zero, List.set_cons_succ, lim_lit, Bool.false_eq_true, ite_true, ite_false, reduceIte, List.getElem?_cons_zero, List.getElem?_cons_succ, Nat.zero_le, Nat.reduceLeDiff, Nat.reduceAdd, Nat.reduceLT, Nat.reduceSub, Nat.zero_lt_succ, Bool.not_true, Bool.not_false, rng1_ok m (by omega)]
  have tup : ∀ l : List D, tupleD [.lst l] = .ok (.tup l) := fun _ => rfl
  have f5 : (4 : Int) + 1 = 5 := rfl
  have hm : m_law_pick [S, .int 100, .int 5] = .ok (.int m) := hm
  simp only [labsD] at hlc
  refine ⟨rows, ?_, by omega, sr, qr⟩
  rw [e]
  simp only [d_law_table, sSeq, sNil, sRet, sRetV, sRetN, sSet, sOwn, sAsg, sDrop, sIf, sFor, sMet, sFrz, sBrk, sCnt, lft, outD, eC, aNil, aCons, eTup, eLst, eOp, eUn, tV, bT, tAndD, tOrD, tNotD, eAnd, eOr, eNot, eIf, eChain, eCall, eSl, oNone, oSome, iSrc, iCall, srcD, gNm, ev0, evS, evB0, evB0o, evBS, ok_bind, exc_bind, stuck_bind, if_true, if_false, List.length_cons, List.length_nil, List.set_cons_zero, List.set_cons_succ, lim_lit, Bool.false_eq_true, ite_true, ite_false, reduceIte, List.getElem?_cons_zero, List.getElem?_cons_succ, Nat.zero_le, Nat.reduceLeDiff, Nat.reduceAdd, Nat.reduceLT, Nat.reduceSub, Nat.zero_lt_succ, Bool.not_true, Bool.not_false, add_int, f5, hm, hlc, tup]
theorem table_is {rows : List (Str × D)} (hl : rows.length ≤ 4) (hs : (rows.map Prod.fst).Sublist labs) (hp : ∀ r ∈ rows, ∃ p : Pat, r.2 = p.enc ∧ Drawn p) : m_is_table [.tup (encT rows)] = .ok (.bl true) := by
  have nd : (rows.map Prod.fst).Nodup := hs.nodup (by decide)
  rw [is_table_ok rows (by omega) fun r m => by
    obtain ⟨p, e, d⟩ := hp r m
    have h1 := labs_ok r.1 (hs.subset (List.mem_map.mpr ⟨r, m, rfl⟩))
    have h2 := d.is_pattern
    rw [← e] at h2
    exact row_of h1 h2]
  unfold tabB
  rw [ddup_id nd, List.length_map, decide_eq_true rfl, decide_eq_true (by omega)]
  rfl
end L2.RB.P
namespace L2.RB.P
open PySem PySem.Spec PyProof.Rows
/-! ### lists and loops, by what one turn does -/
theorem filtR_fm {α : Type} {f : D → Res (Option D)} {enc : α → D} {p : α → Bool} {g : α → D} : ∀ {l : List α}, (∀ x ∈ l, f (enc x) = .ok (if p x then some (g x) else none)) → filtR f (l.map enc) = .ok ((l.filter p).map g)
  | [], _ => rfl
  | x :: l, h => by
    have ih := filtR_fm (f := f) (enc := enc) (p := p) (g := g) (l := l) fun y m => h y (List.mem_cons_of_mem _ m)
    rw [List.map_cons]
    cases hp : p x <;> simp only [filtR, h x List.mem_cons_self, ih, ok_bind, List.filter_cons, hp, if_true, if_false, Bool.false_eq_true, List.map_cons]
theorem filtR_m {α : Type} {f : D → Res (Option D)} {enc : α → D} {g : α → D} : ∀ {l : List α}, (∀ x ∈ l, f (enc x) = .ok (some (g x))) → filtR f (l.map enc) = .ok (l.map g)
  | [], _ => rfl
  | x :: l, h => by
    have ih := filtR_m (f := f) (enc := enc) (g := g) (l := l) fun y m => h y (List.mem_cons_of_mem _ m)
    simp only [List.map_cons, filtR, h x List.mem_cons_self, ih, ok_bind]
theorem loop_cons {γ : GD} {b : SD} {x : D} {xs : List D} {e e1 e2 : En} (h1 : γ x e = .ok e1) (h2 : b e1 = some (.nx e2)) : loopD γ b (x :: xs) e = loopD γ b xs e2 := by
  simp only [loopD, h1, Res.nox, h2]
theorem loop_exc {γ : GD} {b : SD} {x : D} {xs : List D} {e e1 e2 : En} {c : Str} (h1 : γ x e = .ok e1) (h2 : b e1 = some (.xc c e2)) : loopD γ b (x :: xs) e = some (.xc c e2) := by
  simp only [loopD, h1, Res.nox, h2]
theorem loop_ret {γ : GD} {b : SD} {x : D} {xs : List D} {e e1 : En} {d : D} (h1 : γ x e = .ok e1) (h2 : b e1 = some (.rt d)) : loopD γ b (x :: xs) e = some (.rt d) := by
  simp only [loopD, h1, Res.nox, h2]
theorem loop_inv {α β : Type} {γ : GD} {b : SD} {enc : α → D} {E : β → En → Prop} {step : β → α → β} : ∀ {l : List α} {s : β} {e : En}, (∀ x ∈ l, ∀ s e, E s e → ∃ e1 e2, γ (enc x) e = .ok e1 ∧ b e1 = some (.nx e2) ∧ E (step s x) e2) → E s e → ∃ e', loopD γ b (l.map enc) e = some (.nx e') ∧ E (l.foldl step s) e'
  | [], s, e, _, h => ⟨e, rfl, h⟩
  | x :: l, s, e, hs, h => by
    obtain ⟨e1, e2, h1, h2, h3⟩ := hs x List.mem_cons_self s e h
    obtain ⟨e', h4, h5⟩ := loop_inv (l := l) (fun y m => hs y (List.mem_cons_of_mem _ m)) h3
    exact ⟨e', by rw [List.map_cons, loop_cons h1 h2]; exact h4, h5⟩
theorem tup_lst (l : List D) : tupleD [.lst l] = .ok (.tup l) := rfl
theorem fApp_lt (ds : List D) (d : D) (h : ds.length < 100000) : fApp ds [d] = some (ds ++ [d]) := fApp_ok ds d (by omega)
/-! ### rows as data -/
abbrev Row := Str × D
def encRw (r : Row) : D := .tup [.str r.1, r.2]
theorem encT_eq (rows : List Row) : encT rows = rows.map encRw := rfl
theorem g_pair (i j : Nat) (x y : D) (e : En) (hi : i < e.length) (hj : j < e.length) : gTp 2 (gCn (gNm i) (gCn (gNm j) gNl)) (.tup [x, y]) e = .ok ((e.set i (.sh x)).set j (.sh y)) := by
  simp only [gTp, List.length_cons, List.length_nil, if_true, gCn, gNm, if_pos hi, ok_bind, List.length_set, if_pos hj, gNl]
/-! mounted -/
theorem mounted_ok (A : D) (rows : List Row) (whole : D → D) (good : D → Bool) (hl : rows.length ≤ 1000) (h : ∀ r ∈ rows, addD A r.2 = .ok (whole r.2) ∧ m_is_pattern [whole r.2] = .ok (.bl (good (whole r.2)))) :
    m_mounted [A, .tup (encT rows)] = if rows.all (fun r => good (whole r.2)) then .ok (.tup (encT (rows.map fun r => (r.1, whole r.2)))) else .exc "TooMany" := by
  have e : m_mounted [A, .tup (encT rows)] = outD (d_mounted [.sh A, .sh (.tup (encT rows)), .un, .un, .un, .un]) := rfl
  have key : ∀ (l : List Row) (acc : List D) (s3 s4 s5 : Sl), acc.length + l.length ≤ 1000 → (∀ r ∈ l, addD A r.2 = .ok (whole r.2) ∧ m_is_pattern [whole r.2] = .ok (.bl (good (whole r.2)))) →
      if l.all (fun r => good (whole r.2)) then ∃ t3 t4 t5, loopD (gTp 2 (gCn (gNm 3) (gCn (gNm 4) gNl))) fb1_mounted (l.map encRw) [.sh A, .sh (.tup (encT rows)), .ow acc, s3, s4, s5] = some (.nx [.sh A, .sh (.tup (encT rows)), .ow (acc ++ l.map fun r => encRw (r.1, whole r.2)), t3, t4, t5])
      else ∃ e', loopD (gTp 2 (gCn (gNm 3) (gCn (gNm 4) gNl))) fb1_mounted (l.map encRw) [.sh A, .sh (.tup (encT rows)), .ow acc, s3, s4, s5] = some (.xc "TooMany" e') := by
    intro l
    induction l with
    | nil => intro acc s3 s4 s5 _ _; exact ⟨s3, s4, s5, by simp [loopD]⟩
    | cons r l ih =>
      intro acc s3 s4 s5 ha hq
      obtain ⟨h1, h2⟩ := hq r List.mem_cons_self
      rw [List.length_cons] at ha
      have g1 : gTp 2 (gCn (gNm 3) (gCn (gNm 4) gNl)) (encRw r) [.sh A, .sh (.tup (encT rows)), .ow acc, s3, s4, s5] = .ok [.sh A, .sh (.tup (encT rows)), .ow acc, .sh (.str r.1), .sh r.2, s5] := rfl
      cases hg : good (whole r.2) with
      | true =>
        rw [hg] at h2
        have b1 : fb1_mounted [.sh A, .sh (.tup (encT rows)), .ow acc, .sh (.str r.1), .sh r.2, s5] = some (.nx [.sh A, .sh (.tup (encT rows)), .ow (acc ++ [encRw (r.1, whole r.2)]), .sh (.str r.1), .sh r.2, .sh (whole r.2)]) := by
          simp only [fb1_mounted, sSeq, sNil, sRet, sRetV, sRetN, sSet, sOwn, sAsg, sDrop, sIf, sFor, sMet, sFrz, sBrk, sCnt, lft, outD, eC, aNil, aCons, eTup, eLst, eOp, eUn, tV, bT, tAndD, tOrD, tNotD, eAnd, eOr, eNot, eIf, eChain, eCall, eSl, oNone, oSome, iSrc, iCall, srcD, gNm, ev0, evS, evB0, evB0o, evBS, ok_bind, exc_bind, stuck_bind, if_true, if_false, List.length_cons, List.length_nil, List.set_cons_zero, List.set_cons_succ, lim_lit, Bool.false_eq_true, ite_true, ite_false, reduceIte, List.getElem?_cons_zero, List.getElem?_cons_succ, Nat.zero_le, Nat.reduceLeDiff, Nat.reduceAdd, Nat.reduceLT, Nat.reduceSub, Nat.zero_lt_succ, Bool.not_true, Bool.not_false, h1, h2, fApp_lt _ _ (show acc.length < 100000 by omega)]
          rfl
        rw [List.map_cons, loop_cons g1 b1]
        have := ih (acc ++ [encRw (r.1, whole r.2)]) (.sh (.str r.1)) (.sh r.2) (.sh (whole r.2)) (by rw [List.length_append, List.length_singleton]; omega) fun x m => hq x (List.mem_cons_of_mem _ m)
        simp only [List.all_cons, hg, Bool.true_and, List.map_cons]
        simpa using this
      | false =>
        rw [hg] at h2
        have b1 : fb1_mounted [.sh A, .sh (.tup (encT rows)), .ow acc, .sh (.str r.1), .sh r.2, s5] = some (.xc "TooMany" [.sh A, .sh (.tup (encT rows)), .ow acc, .sh (.str r.1), .sh r.2, .sh (whole r.2)]) := by
          simp only [fb1_mounted, sSeq, sNil, sRet, sRetV, sRetN, sSet, sOwn, sAsg, sDrop, sIf, sFor, sMet, sFrz, sBrk, sCnt, lft, outD, eC, aNil, aCons, eTup, eLst, eOp, eUn, tV, bT, tAndD, tOrD, tNotD, eAnd, eOr, eNot, eIf, eChain, eCall, eSl, oNone, oSome, iSrc, iCall, srcD, gNm, ev0, evS, evB0, evB0o, evBS, ok_bind, exc_bind, stuck_bind, if_true, if_false, List.length_cons, List.length_nil, List.set_cons_zero, List.set_cons_succ, lim_lit, Bool.false_eq_true, ite_true, ite_false, reduceIte, List.getElem?_cons_zero, List.getElem?_cons_succ, Nat.zero_le, Nat.reduceLeDiff, Nat.reduceAdd, Nat.reduceLT, Nat.reduceSub, Nat.zero_lt_succ, Bool.not_true, Bool.not_false, h1, h2, sRaise]
        simp only [List.all_cons, hg, Bool.false_and, Bool.false_eq_true, if_false]
        exact ⟨_, by rw [List.map_cons, loop_exc g1 b1]⟩
  have k := key rows [] .un .un .un (by simpa using hl) h
  rw [e]
  cases hg : rows.all (fun r => good (whole r.2)) with
  | true =>
    rw [hg, if_pos rfl] at k
    obtain ⟨t3, t4, t5, k⟩ := k
    rw [← encT_eq, List.nil_append] at k
    have em : (rows.map fun r => encRw (r.1, whole r.2)) = encT (rows.map fun r => (r.1, whole r.2)) := by rw [encT_eq, List.map_map]; rfl
    rw [em] at k
    simp only [d_mounted, sSeq, sNil, sRet, sRetV, sRetN, sSet, sOwn, sAsg, sDrop, sIf, sFor, sMet, sFrz, sBrk, sCnt, lft, outD, eC, aNil, aCons, eTup, eLst, eOp, eUn, tV, bT, tAndD, tOrD, tNotD, eAnd, eOr, eNot, eIf, eChain, eCall, eSl, oNone, oSome, iSrc, iCall, srcD, gNm, ev0, evS, evB0, evB0o, evBS, ok_bind, exc_bind, stuck_bind, if_true, if_false, List.length_cons, List.length_nil, List.set_cons_zero, List.set_cons_succ, lim_lit, Bool.false_eq_true, ite_true, ite_false, reduceIte, List.getElem?_cons_zero, List.getElem?_cons_succ, Nat.zero_le, Nat.reduceLeDiff, Nat.reduceAdd, Nat.reduceLT, Nat.reduceSub, Nat.zero_lt_succ, Bool.not_true, Bool.not_false, k, tup_lst]
  | false =>
    rw [hg, if_neg Bool.false_ne_true] at k
    obtain ⟨e', k⟩ := k
    rw [← encT_eq] at k
    simp only [d_mounted, sSeq, sNil, sRet, sRetV, sRetN, sSet, sOwn, sAsg, sDrop, sIf, sFor, sMet, sFrz, sBrk, sCnt, lft, outD, eC, aNil, aCons, eTup, eLst, eOp, eUn, tV, bT, tAndD, tOrD, tNotD, eAnd, eOr, eNot, eIf, eChain, eCall, eSl, oNone, oSome, iSrc, iCall, srcD, gNm, ev0, evS, evB0, evB0o, evBS, ok_bind, exc_bind, stuck_bind, if_true, if_false, List.length_cons, List.length_nil, List.set_cons_zero, List.set_cons_succ, lim_lit, Bool.false_eq_true, ite_true, ite_false, reduceIte, List.getElem?_cons_zero, List.getElem?_cons_succ, Nat.zero_le, Nat.reduceLeDiff, Nat.reduceAdd, Nat.reduceLT, Nat.reduceSub, Nat.zero_lt_succ, Bool.not_true, Bool.not_false, k]
/-! joined -/
theorem add_tups (xs ys : List D) (h : xs.length + ys.length ≤ 100000) : addD (.tup xs) (.tup ys) = .ok (.tup (xs ++ ys)) := by
  have h' : xs.length + ys.length ≤ LIM := by rw [lim_lit]; omega
  show (if xs.length + ys.length ≤ LIM then Res.ok (D.tup (xs ++ ys)) else .stuck) = _
  rw [if_pos h']
theorem encT_app (a b : List Row) : encT a ++ encT b = encT (a ++ b) := by simp [encT]
theorem encT_len (a : List Row) : (encT a).length = a.length := by simp [encT]
theorem filt_labs (rows : List Row) (i : Nat) (e : En) (he : (wipeE e [i]).length = e.length) (hi : i < e.length) (hw : ∀ d : D, eVar i ((wipeE e [i]).set i (.sh d)) = .ok d) : filtR (stepLc (gNm i) tTrue (eOp idxD (eVar i) (eC (.int 0))) [i] e) (encT rows) = .ok (rows.map fun r => .str r.1) := by
  refine filtR_m (enc := encRw) fun r _ => ?_
  have h1 : gNm i (encRw r) (wipeE e [i]) = .ok ((wipeE e [i]).set i (.sh (encRw r))) := by unfold gNm; rw [if_pos (by rw [he]; exact hi)]
  have h2 : idxD (encRw r) (.int 0) = .ok (.str r.1) := idx0 _ _
  simp only [stepLc, h1, ok_bind, tTrue, if_true, eOp, hw, eC, h2]
theorem ddup_full {L : List Str} (h : (ddup L).length = L.length) : ddup L = L := by
  have key : ∀ (xs ys : List Str), (xs.foldl addOne ys).length ≤ ys.length + xs.length ∧ ((xs.foldl addOne ys).length = ys.length + xs.length → xs.foldl addOne ys = ys ++ xs) := by
    intro xs
    induction xs with
    | nil => intro ys; simp
    | cons x xs ih =>
      intro ys
      rw [List.foldl_cons]
      obtain ⟨i1, i2⟩ := ih (addOne ys x)
      by_cases m : x ∈ ys
      · have e : addOne ys x = ys := by unfold addOne; rw [if_pos m]
        rw [e] at i1 i2 ⊢
        rw [List.length_cons]
        exact ⟨by omega, fun z => by omega⟩
      · have e : addOne ys x = ys ++ [x] := by unfold addOne; rw [if_neg m]
        rw [e] at i1 i2 ⊢
        rw [List.length_append, List.length_singleton] at i1 i2
        rw [List.length_cons]
        refine ⟨by omega, fun z => ?_⟩
        rw [i2 (by omega), List.append_assoc]; rfl
  have := (key L []).2 (by simpa [ddup] using h)
  simpa [ddup] using this
theorem joined_ok (a b : List Row) (hl : a.length + b.length ≤ 1000) :
    m_joined [.tup (encT a), .tup (encT b)] = if (a ++ b).length ≤ 8 ∧ ddup ((a ++ b).map Prod.fst) = (a ++ b).map Prod.fst then .ok (.tup (encT (a ++ b))) else .exc "TooMany" := by
  have e : m_joined [.tup (encT a), .tup (encT b)] = outD (d_joined [.sh (.tup (encT a)), .sh (.tup (encT b)), .un, .un]) := rfl
  have h1 : addD (.tup (encT a)) (.tup (encT b)) = .ok (.tup (encT (a ++ b))) := by
    rw [add_tups _ _ (by rw [encT_len, encT_len]; omega), encT_app]
  have hf := filt_labs (a ++ b) 3 [.sh (.tup (encT a)), .sh (.tup (encT b)), .un, .un] rfl (by simp) fun d => rfl
  have hm : ((a ++ b).map fun r => D.str r.1) = ((a ++ b).map Prod.fst).map D.str := by rw [List.map_map]; rfl
  rw [hm] at hf
  have ll : ((a ++ b).map Prod.fst).length = (a ++ b).length := List.length_map ..
  have la : (a ++ b).length ≤ 1000 := by rw [List.length_append]; exact hl
  have hlc : lc1_joined [.sh (.tup (encT a)), .sh (.tup (encT b)), .un, .un] = .ok (.lst (((a ++ b).map Prod.fst).map D.str)) := by
    refine eLc_ok (ds := encT (a ++ b)) ?_ (by rw [encT_len]; omega) hf
    simp only [sSeq, sNil, sRet, sRetV, sRetN, sSet, sOwn, sAsg, sDrop, sIf, sFor, sMet, sFrz, sBrk, sCnt, lft, outD, eC, aNil, aCons, eTup, eLst, eOp, eUn, tV, bT, tAndD, tOrD, tNotD, eAnd, eOr, eNot, eIf, eChain, eCall, eSl, oNone, oSome, iSrc, iCall, srcD, gNm, ev0, evS, evB0, evB0o, evBS, ok_bind, exc_bind, stuck_bind, if_true, if_false, List.length_cons, List.length_nil, List.set_cons_zero, List.set_cons_succ, lim_lit, Bool.false_eq_true, ite_true, ite_false, reduceIte, List.getElem?_cons_zero, List.getElem?_cons_succ, Nat.zero_le, Nat.reduceLeDiff, Nat.reduceAdd, Nat.reduceLT, Nat.reduceSub, Nat.zero_lt_succ, Bool.not_true, Bool.not_false, h1]
  generalize hL : (a ++ b).map Prod.fst = L at *
  have l1 : lenD [.lst (L.map D.str)] = .ok (.int (L.length : Int)) := by rw [len_lst, List.length_map]
  have hs : setD [.lst (L.map D.str)] = .ok (.set (ddup L)) := by simp only [setD, strsOf_map, if_pos (show L.length < 4000 by omega)]
  have l2 : lenD [.set (ddup L)] = .ok (.int ((ddup L).length : Int)) := rfl
  rw [e]
  have dl := ddup_len L
  have dd : ddup L = L ↔ ¬ (ddup L).length < L.length := by
    constructor
    · intro z; rw [z]; exact Nat.lt_irrefl _
    · intro z
      have hz : (ddup L).length = L.length := by omega
      exact ddup_full hz
  by_cases c1 : L.length ≤ 8
  · have d1 : decide ((8 : Int) < (L.length : Int)) = false := decide_eq_false (by omega)
    by_cases c2 : (ddup L).length < L.length
    · have d2 : decide (((ddup L).length : Int) < (L.length : Int)) = true := decide_eq_true (by omega)
      rw [if_neg (fun z => (dd.mp z.2) c2)]
      simp only [d_joined, sSeq, sNil, sRet, sRetV, sRetN, sSet, sOwn, sAsg, sDrop, sIf, sFor, sMet, sFrz, sBrk, sCnt, lft, outD, eC, aNil, aCons, eTup, eLst, eOp, eUn, tV, bT, tAndD, tOrD, tNotD, eAnd, eOr, eNot, eIf, eChain, eCall, eSl, oNone, oSome, iSrc, iCall, srcD, gNm, ev0, evS, evB0, evB0o, evBS, ok_bind, exc_bind, stuck_bind, if_true, if_false, List.length_cons, List.length_nil, List.set_cons_zero, List.set_cons_succ, lim_lit, Bool.false_eq_true, ite_true, ite_false, reduceIte, List.getElem?_cons_zero, List.getElem?_cons_succ, Nat.zero_le, Nat.reduceLeDiff, Nat.reduceAdd, Nat.reduceLT, Nat.reduceSub, Nat.zero_lt_succ, Bool.not_true, Bool.not_false, hlc, l1, gt_int, d1, hs, l2, lt_int, d2, sRaise]
    · have d2 : decide (((ddup L).length : Int) < (L.length : Int)) = false := decide_eq_false (by omega)
      rw [if_pos ⟨by omega, dd.mpr c2⟩]
      simp only [d_joined, sSeq, sNil, sRet, sRetV, sRetN, sSet, sOwn, sAsg, sDrop, sIf, sFor, sMet, sFrz, sBrk, sCnt, lft, outD, eC, aNil, aCons, eTup, eLst, eOp, eUn, tV, bT, tAndD, tOrD, tNotD, eAnd, eOr, eNot, eIf, eChain, eCall, eSl, oNone, oSome, iSrc, iCall, srcD, gNm, ev0, evS, evB0, evB0o, evBS, ok_bind, exc_bind, stuck_bind, if_true, if_false, List.length_cons, List.length_nil, List.set_cons_zero, List.set_cons_succ, lim_lit, Bool.false_eq_true, ite_true, ite_false, reduceIte, List.getElem?_cons_zero, List.getElem?_cons_succ, Nat.zero_le, Nat.reduceLeDiff, Nat.reduceAdd, Nat.reduceLT, Nat.reduceSub, Nat.zero_lt_succ, Bool.not_true, Bool.not_false, hlc, l1, gt_int, d1, hs, l2, lt_int, d2, h1]
  · have d1 : decide ((8 : Int) < (L.length : Int)) = true := decide_eq_true (by omega)
    rw [if_neg (fun z => c1 (by omega))]
    simp only [d_joined, sSeq, sNil, sRet, sRetV, sRetN, sSet, sOwn, sAsg, sDrop, sIf, sFor, sMet, sFrz, sBrk, sCnt, lft, outD, eC, aNil, aCons, eTup, eLst, eOp, eUn, tV, bT, tAndD, tOrD, tNotD, eAnd, eOr, eNot, eIf, eChain, eCall, eSl, oNone, oSome, iSrc, iCall, srcD, gNm, ev0, evS, evB0, evB0o, evBS, ok_bind, exc_bind, stuck_bind, if_true, if_false, List.length_cons, List.length_nil, List.set_cons_zero, List.set_cons_succ, lim_lit, Bool.false_eq_true, ite_true, ite_false, reduceIte, List.getElem?_cons_zero, List.getElem?_cons_succ, Nat.zero_le, Nat.reduceLeDiff, Nat.reduceAdd, Nat.reduceLT, Nat.reduceSub, Nat.zero_lt_succ, Bool.not_true, Bool.not_false, hlc, l1, gt_int, d1, sRaise]
end L2.RB.P
namespace L2.RB.P
open PySem PySem.Spec PyProof.Rows
/-! ### tables of patterns -/
abbrev PRow := Str × Pat
def rowsD (T : List PRow) : List Row := T.map fun r => (r.1, r.2.enc)
/-- a table as data -/
def encTb (T : List PRow) : D := .tup (encT (rowsD T))
def encPr (r : PRow) : D := .tup [.str r.1, r.2.enc]
theorem encTb_eq (T : List PRow) : encTb T = .tup (T.map encPr) := by
  unfold encTb rowsD
  rw [encT_eq, List.map_map]; rfl
def does (p : Pat) (a : List Str) : Bool := doesP p.ps p.rest a
/-- what may be asked -/
structure TbOk (T : List PRow) : Prop where
  len : T.length ≤ 100
  ps : ∀ r ∈ T, r.2.ps.length ≤ 1000
theorem all_rows_ok (T : List PRow) (a : List Str) (hT : TbOk T) (ha : ∀ w ∈ a, WOk w) : m_all_rows [encTb T, encW a] = .ok (.lst (((T.filter fun r => does r.2 a).map Prod.fst).map D.str)) := by
  have e : m_all_rows [encTb T, encW a] = outD (d_all_rows [.sh (encTb T), .sh (encW a), .un, .un]) := rfl
  have hf : filtR (stepLc (gTp 2 (gCn (gNm 2) (gCn (gNm 3) gNl))) (tV (eCall m_does_match (aCons (eVar 3) (aCons (eVar 1) aNil)))) (eVar 2) [2, 3] [.sh (encTb T), .sh (encW a), .un, .un]) (T.map encPr) = .ok ((T.filter fun r => does r.2 a).map fun r => D.str r.1) := by
    refine filtR_fm fun r m => ?_
    have hd := does_match_ok r.2 a (hT.ps r m) ha
    have hg : gTp 2 (gCn (gNm 2) (gCn (gNm 3) gNl)) (encPr r) (wipeE [.sh (encTb T), .sh (encW a), .un, .un] [2, 3]) = .ok [.sh (encTb T), .sh (encW a), .sh (.str r.1), .sh r.2.enc] := rfl
    have hd : m_does_match [r.2.enc, encW a] = .ok (.bl (does r.2 a)) := hd
    cases hb : does r.2 a <;> rw [hb] at hd <;> simp only [stepLc, hg, sSeq, sNil, sRet, sRetV, sRetN, sSet, sOwn, sAsg, sDrop, sIf, sFor, sMet, sFrz, sBrk, sCnt, lft, outD, eC, aNil, aCons, eTup, eLst, eOp, eUn, tV, bT, tAndD, tOrD, tNotD, eAnd, eOr, eNot, eIf, eChain, eCall, eSl, oNone, oSome, iSrc, iCall, srcD, gNm, ev0, evS, evB0, evB0o, evBS, ok_bind, exc_bind, stuck_bind, if_true, if_false, List.length_cons, List.length_nil, List.set_cons_zero, List.set_cons_succ, lim_lit, Bool.false_eq_true, ite_true, ite_false, reduceIte, List.getElem?_cons_zero, List.getElem?_cons_succ, Nat.zero_le, Nat.reduceLeDiff, Nat.reduceAdd, Nat.reduceLT, Nat.reduceSub, Nat.zero_lt_succ, Bool.not_true, Bool.not_false, hd]
  have hlc : lc1_all_rows [.sh (encTb T), .sh (encW a), .un, .un] = .ok (.lst (((T.filter fun r => does r.2 a).map Prod.fst).map D.str)) := by
    rw [List.map_map]
    refine eLc_ok (ds := T.map encPr) ?_ (by rw [List.length_map]; have := hT.len; omega) hf
    rw [encTb_eq]; rfl
  rw [e]
  simp only [d_all_rows, sSeq, sNil, sRet, sRetV, sRetN, sSet, sOwn, sAsg, sDrop, sIf, sFor, sMet, sFrz, sBrk, sCnt, lft, outD, eC, aNil, aCons, eTup, eLst, eOp, eUn, tV, bT, tAndD, tOrD, tNotD, eAnd, eOr, eNot, eIf, eChain, eCall, eSl, oNone, oSome, iSrc, iCall, srcD, gNm, ev0, evS, evB0, evB0o, evBS, ok_bind, exc_bind, stuck_bind, if_true, if_false, List.length_cons, List.length_nil, List.set_cons_zero, List.set_cons_succ, lim_lit, Bool.false_eq_true, ite_true, ite_false, reduceIte, List.getElem?_cons_zero, List.getElem?_cons_succ, Nat.zero_le, Nat.reduceLeDiff, Nat.reduceAdd, Nat.reduceLT, Nat.reduceSub, Nat.zero_lt_succ, Bool.not_true, Bool.not_false, hlc]
/-- the first row that matches -/
def firstB (T : List PRow) (a : List Str) : Option PRow := T.find? fun r => does r.2 a
def encO (o : Option Str) : D := match o with
  | some s => .str s
  | none => .non
def firstL (T : List PRow) (a : List Str) : Option Str := (firstB T a).map Prod.fst
theorem head_ok (l : List Str) (hl : l.length ≤ 1000) : (do let z ← addD (.lst (l.map D.str)) (.lst [.non]); idxD z (.int 0)) = .ok (encO l.head?) := by
  rw [add_lst _ _ (by rw [List.length_map]; simp; omega)]
  cases l with
  | nil => rfl
  | cons x l => exact idx_lst (atI_0 _ _)
theorem first_ok (T : List PRow) (a : List Str) (hT : TbOk T) (ha : ∀ w ∈ a, WOk w) : m_first [encTb T, encW a] = .ok (encO (firstL T a)) := by
  have e : m_first [encTb T, encW a] = outD (d_first [.sh (encTb T), .sh (encW a)]) := rfl
  have h1 := all_rows_ok T a hT ha
  have hl : ((T.filter fun r => does r.2 a).map Prod.fst).length ≤ 1000 := by
    rw [List.length_map]
    have := List.length_filter_le (fun r : PRow => does r.2 a) T
    have := hT.len
    omega
  have h2 := head_ok _ hl
  have h3 : ((T.filter fun r => does r.2 a).map Prod.fst).head? = firstL T a := by
    unfold firstL firstB
    rw [List.head?_map, List.head?_filter]
  rw [h3] at h2
  rw [e]
  generalize (T.filter fun r => does r.2 a).map Prod.fst = L at *
  simp only [d_first, sSeq, sNil, sRet, sRetV, sRetN, sSet, sOwn, sAsg, sDrop, sIf, sFor, sMet, sFrz, sBrk, sCnt, lft, outD, eC, aNil, aCons, eTup, eLst, eOp, eUn, tV, bT, tAndD, tOrD, tNotD, eAnd, eOr, eNot, eIf, eChain, eCall, eSl, oNone, oSome, iSrc, iCall, srcD, gNm, ev0, evS, evB0, evB0o, evBS, ok_bind, exc_bind, stuck_bind, if_true, if_false, List.length_cons, List.length_nil, List.set_cons_zero, List.set_cons_succ, lim_lit, Bool.false_eq_true, ite_true, ite_false, reduceIte, List.getElem?_cons_zero, List.getElem?_cons_succ, Nat.zero_le, Nat.reduceLeDiff, Nat.reduceAdd, Nat.reduceLT, Nat.reduceSub, Nat.zero_lt_succ, Bool.not_true, Bool.not_false, h1]
  cases hz : addD (.lst (L.map D.str)) (.lst [.non]) with
  | ok z => rw [hz] at h2; simp only [ok_bind] at h2; simp only [sSeq, sNil, sRet, sRetV, sRetN, sSet, sOwn, sAsg, sDrop, sIf, sFor, sMet, sFrz, sBrk, sCnt, lft, outD, eC, aNil, aCons, eTup, eLst, eOp, eUn, tV, bT, tAndD, tOrD, tNotD, eAnd, eOr, eNot, eIf, eChain, eCall, eSl, oNone, oSome, iSrc, iCall, srcD, gNm, ev0, evS, evB0, evB0o, evBS, ok_bind, exc_bind, stuck_bind, if_true, if_false, List.length_cons, List.length_nil, List.set_cons_zero, List.set_cons_succ, lim_lit, Bool.false_eq_true, ite_true, ite_false, reduceIte, List.getElem?_cons_zero, List.getElem?_cons_succ, Nat.zero_le, Nat.reduceLeDiff, Nat.reduceAdd, Nat.reduceLT, Nat.reduceSub, Nat.zero_lt_succ, Bool.not_true, Bool.not_false, h2]
  | exc c => rw [hz] at h2; cases h2
  | stuck => rw [hz] at h2; cases h2
/-! behind a word -/
def tailP (p : Pat) : Pat := ⟨p.ps.tail, p.rest⟩
def behindW (p : Pat) (w : Str) : Option Pat := match p.ps with
  | [] => if p.rest.isSome then some p else none
  | q :: ps => if letsP q w then some ⟨ps, p.rest⟩ else none
def encOP (o : Option Pat) : D := match o with
  | some p => p.enc
  | none => .non
theorem behind_word_ok (p : Pat) (w : Str) (hw : WOk w) : m_behind_word [p.enc, .str w] = .ok (encOP (behindW p w)) := by
  have e : m_behind_word [p.enc, .str w] = outD (d_behind_word [.sh p.enc, .sh (.str w)]) := rfl
  rw [e]
  have hn : eqD p.enc (.tup []) = .ok (.bl p.encs.isEmpty) := eq_nilT p.pl60
  obtain ⟨ps, rest⟩ := p
  cases ps with
  | nil =>
    cases rest with
    | none =>
      have ne : (Pat.encs ⟨[], none⟩).isEmpty = true := rfl
      simp only [d_behind_word, sSeq, sNil, sRet, sRetV, sRetN, sSet, sOwn, sAsg, sDrop, sIf, sFor, sMet, sFrz, sBrk, sCnt, lft, outD, eC, aNil, aCons, eTup, eLst, eOp, eUn, tV, bT, tAndD, tOrD, tNotD, eAnd, eOr, eNot, eIf, eChain, eCall, eSl, oNone, oSome, iSrc, iCall, srcD, gNm, ev0, evS, evB0, evB0o, evBS, ok_bind, exc_bind, stuck_bind, if_true, if_false, List.length_cons, List.length_nil, List.set_cons_zero, List.set_cons_succ, lim_lit, Bool.false_eq_true, ite_true, ite_false, reduceIte, List.getElem?_cons_zero, List.getElem?_cons_succ, Nat.zero_le, Nat.reduceLeDiff, Nat.reduceAdd, Nat.reduceLT, Nat.reduceSub, Nat.zero_lt_succ, Bool.not_true, Bool.not_false, hn, ne, behindW, Option.isSome, encOP]
    | some r =>
      have ne : (Pat.encs ⟨[], some r⟩).isEmpty = false := rfl
      have h0 : idxD (Pat.enc ⟨[], some r⟩) (.int 0) = .ok (encR r) := idx0 _ _
      simp only [d_behind_word, sSeq, sNil, sRet, sRetV, sRetN, sSet, sOwn, sAsg, sDrop, sIf, sFor, sMet, sFrz, sBrk, sCnt, lft, outD, eC, aNil, aCons, eTup, eLst, eOp, eUn, tV, bT, tAndD, tOrD, tNotD, eAnd, eOr, eNot, eIf, eChain, eCall, eSl, oNone, oSome, iSrc, iCall, srcD, gNm, ev0, evS, evB0, evB0o, evBS, ok_bind, exc_bind, stuck_bind, if_true, if_false, List.length_cons, List.length_nil, List.set_cons_zero, List.set_cons_succ, lim_lit, Bool.false_eq_true, ite_true, ite_false, reduceIte, List.getElem?_cons_zero, List.getElem?_cons_succ, Nat.zero_le, Nat.reduceLeDiff, Nat.reduceAdd, Nat.reduceLT, Nat.reduceSub, Nat.zero_lt_succ, Bool.not_true, Bool.not_false, hn, ne, h0, encR0, eq_str, BEq.rfl, behindW, Option.isSome, encOP, List.getElem?_cons_zero]
  | cons q ps =>
    have ne : (Pat.encs ⟨q :: ps, rest⟩).isEmpty = false := by rw [encs_cons]; rfl
    have h0 : idxD (Pat.enc ⟨q :: ps, rest⟩) (.int 0) = .ok q.enc := by unfold Pat.enc; rw [encs_cons]; exact idx0 _ _
    have h1 := lets_ok q w hw
    have s1 : sliceD (Pat.enc ⟨q :: ps, rest⟩) (some 1) none = .ok (Pat.enc ⟨ps, rest⟩) := by
      unfold Pat.enc
      rw [encs_cons]
      show Res.ok (D.tup (cutL _ _ _)) = _
      rw [cut_tail]
    cases hb : letsP q w <;> rw [hb] at h1 <;> simp only [d_behind_word, sSeq, sNil, sRet, sRetV, sRetN, sSet, sOwn, sAsg, sDrop, sIf, sFor, sMet, sFrz, sBrk, sCnt, lft, outD, eC, aNil, aCons, eTup, eLst, eOp, eUn, tV, bT, tAndD, tOrD, tNotD, eAnd, eOr, eNot, eIf, eChain, eCall, eSl, oNone, oSome, iSrc, iCall, srcD, gNm, ev0, evS, evB0, evB0o, evBS, ok_bind, exc_bind, stuck_bind, if_true, if_false, List.length_cons, List.length_nil, List.set_cons_zero, List.set_cons_succ, lim_lit, Bool.false_eq_true, ite_true, ite_false, reduceIte, List.getElem?_cons_zero, List.getElem?_cons_succ, Nat.zero_le, Nat.reduceLeDiff, Nat.reduceAdd, Nat.reduceLT, Nat.reduceSub, Nat.zero_lt_succ, Bool.not_true, Bool.not_false, hn, ne, h0, Part.k0, eq_str, kind_rest, h1, s1, behindW, hb, encOP, Bool.false_eq_true, if_false, if_true]
def belowT (T : List PRow) (w : Str) : List PRow := T.filterMap fun r => (behindW r.2 w).map fun p => (r.1, p)
theorem isN_enc (p : Pat) : isN p.enc = false := rfl
theorem below_ok (T : List PRow) (w : Str) (hT : T.length ≤ 100) (hw : WOk w) : m_below [encTb T, .str w] = .ok (encTb (belowT T w)) := by
  have e : m_below [encTb T, .str w] = outD (d_below [.sh (encTb T), .sh (.str w), .un, .un, .un, .un]) := rfl
  let E : List PRow → En → Prop := fun acc en => acc.length ≤ 100 ∧ ∃ s3 s4 s5, en = [.sh (encTb T), .sh (.str w), .ow (acc.map encPr), s3, s4, s5]
  have key : ∀ (l : List PRow) (acc : List PRow) (s3 s4 s5 : Sl), acc.length + l.length ≤ 100 → ∃ t3 t4 t5, loopD (gTp 2 (gCn (gNm 3) (gCn (gNm 4) gNl))) fb1_below (l.map encPr) [.sh (encTb T), .sh (.str w), .ow (acc.map encPr), s3, s4, s5] = some (.nx [.sh (encTb T), .sh (.str w), .ow ((acc ++ belowT l w).map encPr), t3, t4, t5]) := by
    intro l
    induction l with
    | nil => intro acc s3 s4 s5 _; exact ⟨s3, s4, s5, by simp [loopD, belowT]⟩
    | cons r l ih =>
      intro acc s3 s4 s5 ha
      rw [List.length_cons] at ha
      have hb := behind_word_ok r.2 w hw
      have g1 : gTp 2 (gCn (gNm 3) (gCn (gNm 4) gNl)) (encPr r) [.sh (encTb T), .sh (.str w), .ow (acc.map encPr), s3, s4, s5] = .ok [.sh (encTb T), .sh (.str w), .ow (acc.map encPr), .sh (.str r.1), .sh r.2.enc, s5] := rfl
      cases hc : behindW r.2 w with
      | none =>
        rw [hc] at hb
        have b1 : fb1_below [.sh (encTb T), .sh (.str w), .ow (acc.map encPr), .sh (.str r.1), .sh r.2.enc, s5] = some (.nx [.sh (encTb T), .sh (.str w), .ow (acc.map encPr), .sh (.str r.1), .sh r.2.enc, .sh .non]) := by
          simp only [fb1_below, sSeq, sNil, sRet, sRetV, sRetN, sSet, sOwn, sAsg, sDrop, sIf, sFor, sMet, sFrz, sBrk, sCnt, lft, outD, eC, aNil, aCons, eTup, eLst, eOp, eUn, tV, bT, tAndD, tOrD, tNotD, eAnd, eOr, eNot, eIf, eChain, eCall, eSl, oNone, oSome, iSrc, iCall, srcD, gNm, ev0, evS, evB0, evB0o, evBS, ok_bind, exc_bind, stuck_bind, if_true, if_false, List.length_cons, List.length_nil, List.set_cons_zero, List.set_cons_succ, lim_lit, Bool.false_eq_true, ite_true, ite_false, reduceIte, List.getElem?_cons_zero, List.getElem?_cons_succ, Nat.zero_le, Nat.reduceLeDiff, Nat.reduceAdd, Nat.reduceLT, Nat.reduceSub, Nat.zero_lt_succ, Bool.not_true, Bool.not_false, hb, encOP, isNotD, isN]
        obtain ⟨t3, t4, t5, h⟩ := ih acc (.sh (.str r.1)) (.sh r.2.enc) (.sh .non) (by omega)
        refine ⟨t3, t4, t5, ?_⟩
        rw [List.map_cons, loop_cons g1 b1, h]
        simp [belowT, hc]
      | some p =>
        rw [hc] at hb
        have l1 : (acc.map encPr).length < 100000 := by rw [List.length_map]; omega
        have b1 : fb1_below [.sh (encTb T), .sh (.str w), .ow (acc.map encPr), .sh (.str r.1), .sh r.2.enc, s5] = some (.nx [.sh (encTb T), .sh (.str w), .ow ((acc ++ [(r.1, p)]).map encPr), .sh (.str r.1), .sh r.2.enc, .sh p.enc]) := by
          simp only [fb1_below, sSeq, sNil, sRet, sRetV, sRetN, sSet, sOwn, sAsg, sDrop, sIf, sFor, sMet, sFrz, sBrk, sCnt, lft, outD, eC, aNil, aCons, eTup, eLst, eOp, eUn, tV, bT, tAndD, tOrD, tNotD, eAnd, eOr, eNot, eIf, eChain, eCall, eSl, oNone, oSome, iSrc, iCall, srcD, gNm, ev0, evS, evB0, evB0o, evBS, ok_bind, exc_bind, stuck_bind, if_true, if_false, List.length_cons, List.length_nil, List.set_cons_zero, List.set_cons_succ, lim_lit, Bool.false_eq_true, ite_true, ite_false, reduceIte, List.getElem?_cons_zero, List.getElem?_cons_succ, Nat.zero_le, Nat.reduceLeDiff, Nat.reduceAdd, Nat.reduceLT, Nat.reduceSub, Nat.zero_lt_succ, Bool.not_true, Bool.not_false, hb, encOP, isNotD, isN_enc, fApp_lt _ _ l1, List.map_append]
          rfl
        obtain ⟨t3, t4, t5, h⟩ := ih (acc ++ [(r.1, p)]) (.sh (.str r.1)) (.sh r.2.enc) (.sh p.enc) (by rw [List.length_append, List.length_singleton]; omega)
        refine ⟨t3, t4, t5, ?_⟩
        rw [List.map_cons, loop_cons g1 b1, h]
        simp [belowT, hc]
  obtain ⟨t3, t4, t5, k⟩ := key T [] .un .un .un (by simpa using hT)
  rw [e]
  have es : encTb T = .tup (T.map encPr) := encTb_eq T
  have sr : srcD (encTb T) = .ok (T.map encPr) := by rw [es]; rfl
  simp only [List.map_nil, List.nil_append] at k
  simp only [srcD] at sr
  rw [encTb_eq (belowT T w)]
  simp only [d_below, sSeq, sNil, sRet, sRetV, sRetN, sSet, sOwn, sAsg, sDrop, sIf, sFor, sMet, sFrz, sBrk, sCnt, lft, outD, eC, aNil, aCons, eTup, eLst, eOp, eUn, tV, bT, tAndD, tOrD, tNotD, eAnd, eOr, eNot, eIf, eChain, eCall, eSl, oNone, oSome, iSrc, iCall, srcD, gNm, ev0, evS, evB0, evB0o, evBS, ok_bind, exc_bind, stuck_bind, if_true, if_false, List.length_cons, List.length_nil, List.set_cons_zero, List.set_cons_succ, lim_lit, Bool.false_eq_true, ite_true, ite_false, reduceIte, List.getElem?_cons_zero, List.getElem?_cons_succ, Nat.zero_le, Nat.reduceLeDiff, Nat.reduceAdd, Nat.reduceLT, Nat.reduceSub, Nat.zero_lt_succ, Bool.not_true, Bool.not_false]
  rw [es] at k ⊢
  simp only [sSeq, sNil, sRet, sRetV, sRetN, sSet, sOwn, sAsg, sDrop, sIf, sFor, sMet, sFrz, sBrk, sCnt, lft, outD, eC, aNil, aCons, eTup, eLst, eOp, eUn, tV, bT, tAndD, tOrD, tNotD, eAnd, eOr, eNot, eIf, eChain, eCall, eSl, oNone, oSome, iSrc, iCall, srcD, gNm, ev0, evS, evB0, evB0o, evBS, ok_bind, exc_bind, stuck_bind, if_true, if_false, List.length_cons, List.length_nil, List.set_cons_zero, List.set_cons_succ, lim_lit, Bool.false_eq_true, ite_true, ite_false, reduceIte, List.getElem?_cons_zero, List.getElem?_cons_succ, Nat.zero_le, Nat.reduceLeDiff, Nat.reduceAdd, Nat.reduceLT, Nat.reduceSub, Nat.zero_lt_succ, Bool.not_true, Bool.not_false, k, tup_lst]
/-! refusals by their words -/
theorem law_word_tm : m_law_word [.exc "TooMany"] = .ok (.str "too many") := by kernel_rfl
theorem law_word_nr : m_law_word [.exc "NoRow"] = .ok (.str "no row") := by kernel_rfl
theorem law_word_bv : m_law_word [.exc "BadValues"] = .ok (.str "bad values") := by kernel_rfl
theorem law_word_bl : m_law_word [.exc "BadLead"] = .ok (.str "bad lead") := by kernel_rfl
theorem law_word_nt : m_law_word [.exc "NoText"] = .ok (.str "no text") := by kernel_rfl
theorem law_word_tk : m_law_word [.exc "Taken"] = .ok (.str "taken") := by kernel_rfl
end L2.RB.P
namespace L2.RB.P
open PySem PySem.Spec PyProof.Rows
/-! ### what is a word, a name, a part, a pattern, a table: of any such data -/
def signsIn (s z : Str) : Bool := s.cps.toList.all fun c => decide (c ∈ z.cps.toList)
def SIGNS : Str := "abcdefghijklmnopqrstuvwxyz0123456789-"
def SMALL : Str := "abcdefghijklmnopqrstuvwxyz"
def isWordB (s : Str) : Bool := decide (1 ≤ s.length) && (decide (s.length ≤ 8) && signsIn s SIGNS)
def isNameB (s : Str) : Bool := decide (1 ≤ s.length) && (decide (s.length ≤ 4) && signsIn s SMALL)
theorem signs_lc (s z : Str) (lc : ED) (hlc : lc = eLc (iSrc (eVar 0)) (gNm 1) tTrue (eOp inD (eVar 1) (eC (.str z))) [1]) (hl : s.length ≤ 1000) : lc [.sh (.str s), .un] = .ok (.lst ((s.cps.toList.map fun c => decide (c ∈ z.cps.toList)).map D.bl)) := by
  subst hlc
  have step : ∀ c ∈ s.cps.toList, stepLc (gNm 1) tTrue (eOp inD (eVar 1) (eC (.str z))) [1] [.sh (.str s), .un] (D.str ⟨#[c]⟩) = .ok (some (D.bl (decide (c ∈ z.cps.toList)))) := fun c _ => by
    have hi := in_sign c z
    simp only [stepLc, wipeE, tTrue, sSeq, sNil, sRet, sRetV, sRetN, sSet, sOwn, sAsg, sDrop, sIf, sFor, sMet, sFrz, sBrk, sCnt, lft, outD, eC, aNil, aCons, eTup, eLst, eOp, eUn, tV, bT, tAndD, tOrD, tNotD, eAnd, eOr, eNot, eIf, eChain, eCall, eSl, oNone, oSome, iSrc, iCall, srcD, gNm, ev0, evS, evB0, evB0o, evBS, ok_bind, exc_bind, stuck_bind, if_true, if_false, List.length_cons, List.length_nil, List.set_cons_zero, List.set_cons_succ, lim_lit, Bool.false_eq_true, ite_true, ite_false, reduceIte, List.getElem?_cons_zero, List.getElem?_cons_succ, Nat.zero_le, Nat.reduceLeDiff, Nat.reduceAdd, Nat.reduceLT, Nat.reduceSub, Nat.zero_lt_succ, Bool.not_true, Bool.not_false, hi]
  have hf := filtR_m (enc := fun c => D.str ⟨#[c]⟩) (g := fun c => D.bl (decide (c ∈ z.cps.toList))) step
  rw [List.map_map]
  refine eLc_ok (ds := signsD s) rfl ?_ hf
  unfold signsD
  rw [List.length_map, Array.length_toList]
  have : s.cps.size ≤ 1000 := hl
  omega
theorem le_int' (i j : Int) : leI (.int i) (.int j) = .ok (.bl (decide (i ≤ j))) := rfl
theorem len_str (s : Str) (hl : s.length ≤ 1000000) : lenD [.str s] = .ok (.int (s.length : Int)) := by
  have : s.length ≤ LIM := by rw [lim_lit]; omega
  show (if s.length ≤ LIM then Res.ok (D.int (s.length : Int)) else .stuck) = _
  rw [if_pos this]
theorem wordlike (s : Str) (hl : s.length ≤ 1000000) (n : Nat) (hn : n ≤ 1000) (z : Str) (lc : ED) (hlc : lc = eLc (iSrc (eVar 0)) (gNm 1) tTrue (eOp inD (eVar 1) (eC (.str z))) [1]) :
    outD (sSeq (sRet (eAnd (eIsT isStr (eVar 0)) (eAnd (eChain leI leI (eC (.int 1)) (eCall lenD (aCons (eVar 0) aNil)) (eC (.int (n : Int)))) (eCall allD (aCons lc aNil))))) sNil [.sh (.str s), .un]) = .ok (.bl (decide (1 ≤ s.length) && (decide (s.length ≤ n) && signsIn s z))) := by
  have t : isStr (.str s) = .ok (.bl true) := rfl
  have l1 := len_str s hl
  by_cases c1 : 1 ≤ s.length
  · have d1 : decide ((1 : Int) ≤ (s.length : Int)) = true := decide_eq_true (by omega)
    by_cases c2 : s.length ≤ n
    · have d2 : decide ((s.length : Int) ≤ (n : Int)) = true := decide_eq_true (by omega)
      have h := signs_lc s z lc hlc (by omega)
      have ha := all_ok (s.cps.toList.map fun c => decide (c ∈ z.cps.toList))
      rw [List.all_map] at ha
      rw [decide_eq_true c1, decide_eq_true c2, Bool.true_and, Bool.true_and]
      have he : signsIn s z = s.cps.toList.all (id ∘ fun c => decide (c ∈ z.cps.toList)) := rfl
      rw [he]
      simp only [sSeq, sNil, sRet, sRetV, sRetN, sSet, sOwn, sAsg, sDrop, sIf, sFor, sMet, sFrz, sBrk, sCnt, lft, outD, eC, aNil, aCons, eTup, eLst, eOp, eUn, tV, bT, tAndD, tOrD, tNotD, eAnd, eOr, eNot, eIf, eChain, eCall, eSl, oNone, oSome, iSrc, iCall, srcD, gNm, ev0, evS, evB0, evB0o, evBS, ok_bind, exc_bind, stuck_bind, if_true, if_false, List.length_cons, List.length_nil, List.set_cons_zero, List.set_cons_succ, lim_lit, Bool.false_eq_true, ite_true, ite_false, reduceIte, List.getElem?_cons_zero, List.getElem?_cons_succ, Nat.zero_le, Nat.reduceLeDiff, Nat.reduceAdd, Nat.reduceLT, Nat.reduceSub, Nat.zero_lt_succ, Bool.not_true, Bool.not_false, eIsT, t, l1, le_int', d1, d2, h, ha]
    · have d2 : decide ((s.length : Int) ≤ (n : Int)) = false := decide_eq_false (by omega)
      rw [decide_eq_true c1, decide_eq_false c2, Bool.true_and, Bool.false_and]
      simp only [sSeq, sNil, sRet, sRetV, sRetN, sSet, sOwn, sAsg, sDrop, sIf, sFor, sMet, sFrz, sBrk, sCnt, lft, outD, eC, aNil, aCons, eTup, eLst, eOp, eUn, tV, bT, tAndD, tOrD, tNotD, eAnd, eOr, eNot, eIf, eChain, eCall, eSl, oNone, oSome, iSrc, iCall, srcD, gNm, ev0, evS, evB0, evB0o, evBS, ok_bind, exc_bind, stuck_bind, if_true, if_false, List.length_cons, List.length_nil, List.set_cons_zero, List.set_cons_succ, lim_lit, Bool.false_eq_true, ite_true, ite_false, reduceIte, List.getElem?_cons_zero, List.getElem?_cons_succ, Nat.zero_le, Nat.reduceLeDiff, Nat.reduceAdd, Nat.reduceLT, Nat.reduceSub, Nat.zero_lt_succ, Bool.not_true, Bool.not_false, eIsT, t, l1, le_int', d1, d2]
  · have d1 : decide ((1 : Int) ≤ (s.length : Int)) = false := decide_eq_false (by omega)
    rw [decide_eq_false c1, Bool.false_and]
    simp only [sSeq, sNil, sRet, sRetV, sRetN, sSet, sOwn, sAsg, sDrop, sIf, sFor, sMet, sFrz, sBrk, sCnt, lft, outD, eC, aNil, aCons, eTup, eLst, eOp, eUn, tV, bT, tAndD, tOrD, tNotD, eAnd, eOr, eNot, eIf, eChain, eCall, eSl, oNone, oSome, iSrc, iCall, srcD, gNm, ev0, evS, evB0, evB0o, evBS, ok_bind, exc_bind, stuck_bind, if_true, if_false, List.length_cons, List.length_nil, List.set_cons_zero, List.set_cons_succ, lim_lit, Bool.false_eq_true, ite_true, ite_false, reduceIte, List.getElem?_cons_zero, List.getElem?_cons_succ, Nat.zero_le, Nat.reduceLeDiff, Nat.reduceAdd, Nat.reduceLT, Nat.reduceSub, Nat.zero_lt_succ, Bool.not_true, Bool.not_false, eIsT, t, l1, le_int', d1]
theorem is_word_s (s : Str) (hl : s.length ≤ 1000000) : m_is_word [.str s] = .ok (.bl (isWordB s)) := wordlike s hl 8 (by decide) SIGNS lc1_is_word rfl
theorem is_name_s (s : Str) (hl : s.length ≤ 1000000) : m_is_name [.str s] = .ok (.bl (isNameB s)) := wordlike s hl 4 (by decide) SMALL lc1_is_name rfl
theorem is_word_n (d : D) (h : isStr d = .ok (.bl false)) : m_is_word [d] = .ok (.bl false) := by
  have e : m_is_word [d] = outD (d_is_word [.sh d, .un]) := rfl
  rw [e]
  simp only [d_is_word, sSeq, sNil, sRet, sRetV, sRetN, sSet, sOwn, sAsg, sDrop, sIf, sFor, sMet, sFrz, sBrk, sCnt, lft, outD, eC, aNil, aCons, eTup, eLst, eOp, eUn, tV, bT, tAndD, tOrD, tNotD, eAnd, eOr, eNot, eIf, eChain, eCall, eSl, oNone, oSome, iSrc, iCall, srcD, gNm, ev0, evS, evB0, evB0o, evBS, ok_bind, exc_bind, stuck_bind, if_true, if_false, List.length_cons, List.length_nil, List.set_cons_zero, List.set_cons_succ, lim_lit, Bool.false_eq_true, ite_true, ite_false, reduceIte, List.getElem?_cons_zero, List.getElem?_cons_succ, Nat.zero_le, Nat.reduceLeDiff, Nat.reduceAdd, Nat.reduceLT, Nat.reduceSub, Nat.zero_lt_succ, Bool.not_true, Bool.not_false, eIsT, h]
theorem is_name_n (d : D) (h : isStr d = .ok (.bl false)) : m_is_name [d] = .ok (.bl false) := by
  have e : m_is_name [d] = outD (d_is_name [.sh d, .un]) := rfl
  rw [e]
  simp only [d_is_name, sSeq, sNil, sRet, sRetV, sRetN, sSet, sOwn, sAsg, sDrop, sIf, sFor, sMet, sFrz, sBrk, sCnt, lft, outD, eC, aNil, aCons, eTup, eLst, eOp, eUn, tV, bT, tAndD, tOrD, tNotD, eAnd, eOr, eNot, eIf, eChain, eCall, eSl, oNone, oSome, iSrc, iCall, srcD, gNm, ev0, evS, evB0, evB0o, evBS, ok_bind, exc_bind, stuck_bind, if_true, if_false, List.length_cons, List.length_nil, List.set_cons_zero, List.set_cons_succ, lim_lit, Bool.false_eq_true, ite_true, ite_false, reduceIte, List.getElem?_cons_zero, List.getElem?_cons_succ, Nat.zero_le, Nat.reduceLeDiff, Nat.reduceAdd, Nat.reduceLT, Nat.reduceSub, Nat.zero_lt_succ, Bool.not_true, Bool.not_false, eIsT, h]
/-! addresses -/
theorem words_lc (a : List Str) (lc : ED) (hlc : lc = eLc (iSrc (eVar 0)) (gNm 1) tTrue (eCall m_is_word (aCons (eVar 1) aNil)) [1]) (hl : a.length ≤ 1000) (hw : ∀ w ∈ a, w.length ≤ 1000000) : lc [.sh (encW a), .un] = .ok (.lst ((a.map isWordB).map D.bl)) := by
  subst hlc
  have step : ∀ w ∈ a, stepLc (gNm 1) tTrue (eCall m_is_word (aCons (eVar 1) aNil)) [1] [.sh (encW a), .un] (D.str w) = .ok (some (D.bl (isWordB w))) := fun w m => by
    have hi := is_word_s w (hw w m)
    simp only [stepLc, wipeE, tTrue, sSeq, sNil, sRet, sRetV, sRetN, sSet, sOwn, sAsg, sDrop, sIf, sFor, sMet, sFrz, sBrk, sCnt, lft, outD, eC, aNil, aCons, eTup, eLst, eOp, eUn, tV, bT, tAndD, tOrD, tNotD, eAnd, eOr, eNot, eIf, eChain, eCall, eSl, oNone, oSome, iSrc, iCall, srcD, gNm, ev0, evS, evB0, evB0o, evBS, ok_bind, exc_bind, stuck_bind, if_true, if_false, List.length_cons, List.length_nil, List.set_cons_zero, List.set_cons_succ, lim_lit, Bool.false_eq_true, ite_true, ite_false, reduceIte, List.getElem?_cons_zero, List.getElem?_cons_succ, Nat.zero_le, Nat.reduceLeDiff, Nat.reduceAdd, Nat.reduceLT, Nat.reduceSub, Nat.zero_lt_succ, Bool.not_true, Bool.not_false, hi]
  have hf := filtR_m (enc := D.str) (g := fun w => D.bl (isWordB w)) step
  rw [List.map_map]
  exact eLc_ok (ds := a.map D.str) rfl (by rw [List.length_map]; omega) hf
def isAddrB (a : List Str) : Bool := decide (a.length ≤ 8) && a.all isWordB
theorem is_address_w (a : List Str) (hl : a.length ≤ 1000) (hw : ∀ w ∈ a, w.length ≤ 1000000) : m_is_address [encW a] = .ok (.bl (isAddrB a)) := by
  have e : m_is_address [encW a] = outD (d_is_address [.sh (encW a), .un]) := rfl
  have t : isTup (encW a) = .ok (.bl true) := rfl
  have l1 : lenD [encW a] = .ok (.int (a.length : Int)) := by unfold encW; rw [len_tup, List.length_map]
  have h := words_lc a lc1_is_address rfl hl hw
  have ha := all_ok (a.map isWordB)
  rw [List.all_map] at ha
  rw [e]
  unfold isAddrB
  have he : a.all isWordB = a.all (id ∘ isWordB) := rfl
  rw [he]
  by_cases c : a.length ≤ 8
  · have d1 : decide ((a.length : Int) ≤ 8) = true := decide_eq_true (by omega)
    rw [decide_eq_true c, Bool.true_and]
    simp only [d_is_address, sSeq, sNil, sRet, sRetV, sRetN, sSet, sOwn, sAsg, sDrop, sIf, sFor, sMet, sFrz, sBrk, sCnt, lft, outD, eC, aNil, aCons, eTup, eLst, eOp, eUn, tV, bT, tAndD, tOrD, tNotD, eAnd, eOr, eNot, eIf, eChain, eCall, eSl, oNone, oSome, iSrc, iCall, srcD, gNm, ev0, evS, evB0, evB0o, evBS, ok_bind, exc_bind, stuck_bind, if_true, if_false, List.length_cons, List.length_nil, List.set_cons_zero, List.set_cons_succ, lim_lit, Bool.false_eq_true, ite_true, ite_false, reduceIte, List.getElem?_cons_zero, List.getElem?_cons_succ, Nat.zero_le, Nat.reduceLeDiff, Nat.reduceAdd, Nat.reduceLT, Nat.reduceSub, Nat.zero_lt_succ, Bool.not_true, Bool.not_false, eIsT, t, l1, le_int', d1, h, ha]
  · have d1 : decide ((a.length : Int) ≤ 8) = false := decide_eq_false (by omega)
    rw [decide_eq_false c, Bool.false_and]
    simp only [d_is_address, sSeq, sNil, sRet, sRetV, sRetN, sSet, sOwn, sAsg, sDrop, sIf, sFor, sMet, sFrz, sBrk, sCnt, lft, outD, eC, aNil, aCons, eTup, eLst, eOp, eUn, tV, bT, tAndD, tOrD, tNotD, eAnd, eOr, eNot, eIf, eChain, eCall, eSl, oNone, oSome, iSrc, iCall, srcD, gNm, ev0, evS, evB0, evB0o, evBS, ok_bind, exc_bind, stuck_bind, if_true, if_false, List.length_cons, List.length_nil, List.set_cons_zero, List.set_cons_succ, lim_lit, Bool.false_eq_true, ite_true, ite_false, reduceIte, List.getElem?_cons_zero, List.getElem?_cons_succ, Nat.zero_le, Nat.reduceLeDiff, Nat.reduceAdd, Nat.reduceLT, Nat.reduceSub, Nat.zero_lt_succ, Bool.not_true, Bool.not_false, eIsT, t, l1, le_int', d1]
/-! choices -/
def choicesB (cs : List Str) : Bool := decide (1 ≤ cs.length ∧ cs.length ≤ 4) && (cs.all isWordB && decide (cs = sortS (ddup cs)))
theorem are_choices_w (cs : List Str) (hl : cs.length ≤ 1000) (hw : ∀ w ∈ cs, w.length ≤ 1000000) : m_are_choices [encW cs] = .ok (.bl (choicesB cs)) := by
  have e : m_are_choices [encW cs] = outD (d_are_choices [.sh (encW cs), .un]) := rfl
  have t : isTup (encW cs) = .ok (.bl true) := rfl
  have l1 : lenD [encW cs] = .ok (.int (cs.length : Int)) := by unfold encW; rw [len_tup, List.length_map]
  have h := words_lc cs lc1_are_choices rfl hl hw
  have ha := all_ok (cs.map isWordB)
  rw [List.all_map] at ha
  rw [e]
  unfold choicesB
  have he : cs.all isWordB = cs.all (id ∘ isWordB) := rfl
  rw [he]
  by_cases c1 : 1 ≤ cs.length
  · have d1 : decide ((1 : Int) ≤ (cs.length : Int)) = true := decide_eq_true (by omega)
    by_cases c2 : cs.length ≤ 4
    · have d2 : decide ((cs.length : Int) ≤ 4) = true := decide_eq_true (by omega)
      rw [decide_eq_true ⟨c1, c2⟩, Bool.true_and]
      cases hb : cs.all (id ∘ isWordB) with
      | false =>
        rw [hb] at ha
        simp only [d_are_choices, sSeq, sNil, sRet, sRetV, sRetN, sSet, sOwn, sAsg, sDrop, sIf, sFor, sMet, sFrz, sBrk, sCnt, lft, outD, eC, aNil, aCons, eTup, eLst, eOp, eUn, tV, bT, tAndD, tOrD, tNotD, eAnd, eOr, eNot, eIf, eChain, eCall, eSl, oNone, oSome, iSrc, iCall, srcD, gNm, ev0, evS, evB0, evB0o, evBS, ok_bind, exc_bind, stuck_bind, if_true, if_false, List.length_cons, List.length_nil, List.set_cons_zero, List.set_cons_succ, lim_lit, Bool.false_eq_true, ite_true, ite_false, reduceIte, List.getElem?_cons_zero, List.getElem?_cons_succ, Nat.zero_le, Nat.reduceLeDiff, Nat.reduceAdd, Nat.reduceLT, Nat.reduceSub, Nat.zero_lt_succ, Bool.not_true, Bool.not_false, eIsT, t, l1, le_int', d1, d2, h, ha, Bool.false_and]
      | true =>
        rw [hb] at ha
        have li : listD [encW cs] = .ok (.lst (cs.map D.str)) := rfl
        have se : setD [encW cs] = .ok (.set (ddup cs)) := by simp only [encW, setD, strsOf_map, if_pos (show cs.length < 4000 by omega)]
        have ld := ddup_len cs
        have so : sortedD [.set (ddup cs)] = .ok (.lst ((sortS (ddup cs)).map D.str)) := by simp only [sortedD, if_pos (show (ddup cs).length < 4000 by omega)]
        have pl : ∀ l : List Str, (D.lst (l.map D.str)).pl 60 = true := fun l => by
          simp only [D.pl]
          exact pls_map (fun a => by simp [D.pl]) l
        have q : eqD (.lst (cs.map D.str)) (.lst ((sortS (ddup cs)).map D.str)) = .ok (.bl (decide (cs = sortS (ddup cs)))) := by
          rw [eqD_pl (pl _) (pl _)]
          simp only [D.eqv, eqv_words]
        simp only [d_are_choices, sSeq, sNil, sRet, sRetV, sRetN, sSet, sOwn, sAsg, sDrop, sIf, sFor, sMet, sFrz, sBrk, sCnt, lft, outD, eC, aNil, aCons, eTup, eLst, eOp, eUn, tV, bT, tAndD, tOrD, tNotD, eAnd, eOr, eNot, eIf, eChain, eCall, eSl, oNone, oSome, iSrc, iCall, srcD, gNm, ev0, evS, evB0, evB0o, evBS, ok_bind, exc_bind, stuck_bind, if_true, if_false, List.length_cons, List.length_nil, List.set_cons_zero, List.set_cons_succ, lim_lit, Bool.false_eq_true, ite_true, ite_false, reduceIte, List.getElem?_cons_zero, List.getElem?_cons_succ, Nat.zero_le, Nat.reduceLeDiff, Nat.reduceAdd, Nat.reduceLT, Nat.reduceSub, Nat.zero_lt_succ, Bool.not_true, Bool.not_false, eIsT, t, l1, le_int', d1, d2, h, ha, li, se, so, q, Bool.true_and]
    · have d2 : decide ((cs.length : Int) ≤ 4) = false := decide_eq_false (by omega)
      rw [decide_eq_false (fun z => c2 z.2), Bool.false_and]
      simp only [d_are_choices, sSeq, sNil, sRet, sRetV, sRetN, sSet, sOwn, sAsg, sDrop, sIf, sFor, sMet, sFrz, sBrk, sCnt, lft, outD, eC, aNil, aCons, eTup, eLst, eOp, eUn, tV, bT, tAndD, tOrD, tNotD, eAnd, eOr, eNot, eIf, eChain, eCall, eSl, oNone, oSome, iSrc, iCall, srcD, gNm, ev0, evS, evB0, evB0o, evBS, ok_bind, exc_bind, stuck_bind, if_true, if_false, List.length_cons, List.length_nil, List.set_cons_zero, List.set_cons_succ, lim_lit, Bool.false_eq_true, ite_true, ite_false, reduceIte, List.getElem?_cons_zero, List.getElem?_cons_succ, Nat.zero_le, Nat.reduceLeDiff, Nat.reduceAdd, Nat.reduceLT, Nat.reduceSub, Nat.zero_lt_succ, Bool.not_true, Bool.not_false, eIsT, t, l1, le_int', d1, d2]
  · have d1 : decide ((1 : Int) ≤ (cs.length : Int)) = false := decide_eq_false (by omega)
    rw [decide_eq_false (fun z => c1 z.1), Bool.false_and]
    simp only [d_are_choices, sSeq, sNil, sRet, sRetV, sRetN, sSet, sOwn, sAsg, sDrop, sIf, sFor, sMet, sFrz, sBrk, sCnt, lft, outD, eC, aNil, aCons, eTup, eLst, eOp, eUn, tV, bT, tAndD, tOrD, tNotD, eAnd, eOr, eNot, eIf, eChain, eCall, eSl, oNone, oSome, iSrc, iCall, srcD, gNm, ev0, evS, evB0, evB0o, evBS, ok_bind, exc_bind, stuck_bind, if_true, if_false, List.length_cons, List.length_nil, List.set_cons_zero, List.set_cons_succ, lim_lit, Bool.false_eq_true, ite_true, ite_false, reduceIte, List.getElem?_cons_zero, List.getElem?_cons_succ, Nat.zero_le, Nat.reduceLeDiff, Nat.reduceAdd, Nat.reduceLT, Nat.reduceSub, Nat.zero_lt_succ, Bool.not_true, Bool.not_false, eIsT, t, l1, le_int', d1]
/-! parts -/
inductive Prt where
  | p (q : Part) | r (n : Str)
def Prt.enc : Prt → D
  | .p q => q.enc
  | .r n => encR n
def Prt.kind : Prt → Str
  | .p q => q.kind
  | .r _ => "rest"
def Prt.nm : Prt → Str
  | .p q => q.nm
  | .r n => n
def Part.valid : Part → Bool
  | .word w => isWordB w
  | .one n cs => isNameB n && choicesB cs
  | .num n => isNameB n
  | .any n => isNameB n
def Prt.valid : Prt → Bool
  | .p q => Part.valid q
  | .r n => isNameB n
/-- not too long to be looked at -/
def Part.fit : Part → Prop
  | .one n cs => n.length ≤ 1000000 ∧ cs.length ≤ 1000 ∧ ∀ w ∈ cs, w.length ≤ 1000000
  | q => q.nm.length ≤ 1000000
def Prt.fit : Prt → Prop
  | .p q => Part.fit q
  | .r n => n.length ≤ 1000000
theorem in_kinds (z : Str) : inD (.str z) (.tup [.str "any", .str "number", .str "rest"]) = .ok (.bl (decide (z = "any" ∨ z = "number" ∨ z = "rest"))) := by
  have h := in_words z ["any", "number", "rest"]
  have e : encW ["any", "number", "rest"] = .tup [.str "any", .str "number", .str "rest"] := rfl
  rw [e] at h
  rw [h]
  congr 2
  simp
theorem is_part_w (q : Prt) (hf : q.fit) : m_is_part [q.enc] = .ok (.bl q.valid) := by
  have e : ∀ d : D, m_is_part [d] = outD (d_is_part [.sh d]) := fun d => rfl
  have t2 : ∀ z : Str, isStr (.str z) = .ok (.bl true) := fun _ => rfl
  have b2 : decide ((2 : Int) < 2) = false := by decide
  have b3 : decide ((3 : Int) < 2) = false := by decide
  have q2 : ((2 : Int) == 2) = true := by decide
  have q3 : ((3 : Int) == 3) = true := by decide
  have two : ∀ k n : Str, isTup (.tup [.str k, .str n]) = .ok (.bl true) ∧ lenD [.tup [.str k, .str n]] = .ok (.int 2) ∧ idxD (.tup [.str k, .str n]) (.int 0) = .ok (.str k) ∧ idxD (.tup [.str k, .str n]) (.int 1) = .ok (.str n) := fun k n => ⟨rfl, rfl, idx0 _ _, idx1 _ _ _⟩
  cases q with
  | r n =>
    have hn := is_name_s n hf
    obtain ⟨t, l, i0, i1⟩ := two "rest" n
    have k := in_kinds "rest"
    rw [e]
    show outD (d_is_part [.sh (.tup [.str "rest", .str n])]) = .ok (.bl (isNameB n))
    cases hb : isNameB n <;> rw [hb] at hn <;> simp only [d_is_part, sSeq, sNil, sRet, sRetV, sRetN, sSet, sOwn, sAsg, sDrop, sIf, sFor, sMet, sFrz, sBrk, sCnt, lft, outD, eC, aNil, aCons, eTup, eLst, eOp, eUn, tV, bT, tAndD, tOrD, tNotD, eAnd, eOr, eNot, eIf, eChain, eCall, eSl, oNone, oSome, iSrc, iCall, srcD, gNm, ev0, evS, evB0, evB0o, evBS, ok_bind, exc_bind, stuck_bind, if_true, if_false, List.length_cons, List.length_nil, List.set_cons_zero, List.set_cons_succ, lim_lit, Bool.false_eq_true, ite_true, ite_false, reduceIte, List.getElem?_cons_zero, List.getElem?_cons_succ, Nat.zero_le, Nat.reduceLeDiff, Nat.reduceAdd, Nat.reduceLT, Nat.reduceSub, Nat.zero_lt_succ, Bool.not_true, Bool.not_false, eIsT, t, l, i0, i1, lt_int, b2, t2, eq_str, (by decide : (("rest" : Str) == "word") = false), (by decide : (("rest" : Str) == "one") = false), hn, eq_int, q2, k] <;> rfl
  | p q =>
    cases q with
    | word w =>
      have hw := is_word_s w hf
      obtain ⟨t, l, i0, i1⟩ := two "word" w
      rw [e]
      show outD (d_is_part [.sh (.tup [.str "word", .str w])]) = .ok (.bl (isWordB w))
      simp only [d_is_part, sSeq, sNil, sRet, sRetV, sRetN, sSet, sOwn, sAsg, sDrop, sIf, sFor, sMet, sFrz, sBrk, sCnt, lft, outD, eC, aNil, aCons, eTup, eLst, eOp, eUn, tV, bT, tAndD, tOrD, tNotD, eAnd, eOr, eNot, eIf, eChain, eCall, eSl, oNone, oSome, iSrc, iCall, srcD, gNm, ev0, evS, evB0, evB0o, evBS, ok_bind, exc_bind, stuck_bind, if_true, if_false, List.length_cons, List.length_nil, List.set_cons_zero, List.set_cons_succ, lim_lit, Bool.false_eq_true, ite_true, ite_false, reduceIte, List.getElem?_cons_zero, List.getElem?_cons_succ, Nat.zero_le, Nat.reduceLeDiff, Nat.reduceAdd, Nat.reduceLT, Nat.reduceSub, Nat.zero_lt_succ, Bool.not_true, Bool.not_false, eIsT, t, l, i0, i1, lt_int, b2, t2, eq_str, BEq.rfl, eq_int, hw]
    | num n =>
      have hn := is_name_s n hf
      obtain ⟨t, l, i0, i1⟩ := two "number" n
      have k := in_kinds "number"
      rw [e]
      show outD (d_is_part [.sh (.tup [.str "number", .str n])]) = .ok (.bl (isNameB n))
      cases hb : isNameB n <;> rw [hb] at hn <;> simp only [d_is_part, sSeq, sNil, sRet, sRetV, sRetN, sSet, sOwn, sAsg, sDrop, sIf, sFor, sMet, sFrz, sBrk, sCnt, lft, outD, eC, aNil, aCons, eTup, eLst, eOp, eUn, tV, bT, tAndD, tOrD, tNotD, eAnd, eOr, eNot, eIf, eChain, eCall, eSl, oNone, oSome, iSrc, iCall, srcD, gNm, ev0, evS, evB0, evB0o, evBS, ok_bind, exc_bind, stuck_bind, if_true, if_false, List.length_cons, List.length_nil, List.set_cons_zero, List.set_cons_succ, lim_lit, Bool.false_eq_true, ite_true, ite_false, reduceIte, List.getElem?_cons_zero, List.getElem?_cons_succ, Nat.zero_le, Nat.reduceLeDiff, Nat.reduceAdd, Nat.reduceLT, Nat.reduceSub, Nat.zero_lt_succ, Bool.not_true, Bool.not_false, eIsT, t, l, i0, i1, lt_int, b2, t2, eq_str, (by decide : (("number" : Str) == "word") = false), (by decide : (("number" : Str) == "one") = false), hn, eq_int, q2, k] <;> rfl
    | any n =>
      have hn := is_name_s n hf
      obtain ⟨t, l, i0, i1⟩ := two "any" n
      have k := in_kinds "any"
      rw [e]
      show outD (d_is_part [.sh (.tup [.str "any", .str n])]) = .ok (.bl (isNameB n))
      cases hb : isNameB n <;> rw [hb] at hn <;> simp only [d_is_part, sSeq, sNil, sRet, sRetV, sRetN, sSet, sOwn, sAsg, sDrop, sIf, sFor, sMet, sFrz, sBrk, sCnt, lft, outD, eC, aNil, aCons, eTup, eLst, eOp, eUn, tV, bT, tAndD, tOrD, tNotD, eAnd, eOr, eNot, eIf, eChain, eCall, eSl, oNone, oSome, iSrc, iCall, srcD, gNm, ev0, evS, evB0, evB0o, evBS, ok_bind, exc_bind, stuck_bind, if_true, if_false, List.length_cons, List.length_nil, List.set_cons_zero, List.set_cons_succ, lim_lit, Bool.false_eq_true, ite_true, ite_false, reduceIte, List.getElem?_cons_zero, List.getElem?_cons_succ, Nat.zero_le, Nat.reduceLeDiff, Nat.reduceAdd, Nat.reduceLT, Nat.reduceSub, Nat.zero_lt_succ, Bool.not_true, Bool.not_false, eIsT, t, l, i0, i1, lt_int, b2, t2, eq_str, (by decide : (("any" : Str) == "word") = false), (by decide : (("any" : Str) == "one") = false), hn, eq_int, q2, k] <;> rfl
    | one n cs =>
      have hn := is_name_s n hf.1
      have hc := are_choices_w cs hf.2.1 hf.2.2
      have t : isTup (Part.enc (.one n cs)) = .ok (.bl true) := rfl
      have l : lenD [Part.enc (.one n cs)] = .ok (.int 3) := rfl
      have i2 : idxD (Part.enc (.one n cs)) (.int 2) = .ok (encW cs) := idx2 _ _ _ _
      rw [e]
      show outD (d_is_part [.sh (Part.enc (.one n cs))]) = .ok (.bl (isNameB n && choicesB cs))
      cases hb : isNameB n <;> rw [hb] at hn <;> simp only [d_is_part, sSeq, sNil, sRet, sRetV, sRetN, sSet, sOwn, sAsg, sDrop, sIf, sFor, sMet, sFrz, sBrk, sCnt, lft, outD, eC, aNil, aCons, eTup, eLst, eOp, eUn, tV, bT, tAndD, tOrD, tNotD, eAnd, eOr, eNot, eIf, eChain, eCall, eSl, oNone, oSome, iSrc, iCall, srcD, gNm, ev0, evS, evB0, evB0o, evBS, ok_bind, exc_bind, stuck_bind, if_true, if_false, List.length_cons, List.length_nil, List.set_cons_zero, List.set_cons_succ, lim_lit, Bool.false_eq_true, ite_true, ite_false, reduceIte, List.getElem?_cons_zero, List.getElem?_cons_succ, Nat.zero_le, Nat.reduceLeDiff, Nat.reduceAdd, Nat.reduceLT, Nat.reduceSub, Nat.zero_lt_succ, Bool.not_true, Bool.not_false, eIsT, t, l, lt_int, b3, Part.k0, Part.k1, Part.kind, Part.nm, t2, eq_str, (by decide : (("one" : Str) == "word") = false), hn, BEq.rfl, eq_int, q3, i2, hc, Bool.true_and, Bool.false_and]
/-! patterns -/
abbrev PL := List Prt
def encL (l : PL) : D := .tup (l.map Prt.enc)
theorem Prt.k0 (q : Prt) : idxD q.enc (.int 0) = .ok (.str q.kind) := by
  cases q with
  | p q => exact q.k0
  | r n => exact encR0 n
theorem Prt.k1 (q : Prt) : idxD q.enc (.int 1) = .ok (.str q.nm) := by
  cases q with
  | p q => exact q.k1
  | r n => exact encR1 n
theorem Prt.pl (q : Prt) : q.enc.pl 2 = true := by
  cases q with
  | p q => exact Part.pl q
  | r n => simp [Prt.enc, encR, D.pl, D.pls]
theorem encL_pl (l : PL) : (encL l).pl 3 = true := by
  simp only [encL, D.pl]
  exact pls_map Prt.pl l
theorem encL_pl60 (l : PL) : (encL l).pl 60 = true := pl_le (encL_pl l) (by decide)
def holesL (l : PL) : List Str := (l.filter fun q => !(q.kind == ("word" : Str))).map Prt.nm
theorem holes_of_l (l : PL) (hl : l.length ≤ 1000) : m_holes_of [encL l] = .ok (.lst ((holesL l).map D.str)) := by
  have e : m_holes_of [encL l] = outD (d_holes_of [.sh (encL l), .un]) := rfl
  have hf : filtR (stepLc (gNm 1) (tV (eOp neD (eOp idxD (eVar 1) (eC (.int 0))) (eC (.str "word")))) (eOp idxD (eVar 1) (eC (.int 1))) [1] [.sh (encL l), .un]) (l.map Prt.enc) = .ok ((l.filter fun q => !(q.kind == ("word" : Str))).map fun q => D.str q.nm) := by
    refine filtR_fm fun q _ => ?_
    have k0 := q.k0
    have k1 := q.k1
    cases hb : (q.kind == ("word" : Str)) <;> simp only [stepLc, wipeE, sSeq, sNil, sRet, sRetV, sRetN, sSet, sOwn, sAsg, sDrop, sIf, sFor, sMet, sFrz, sBrk, sCnt, lft, outD, eC, aNil, aCons, eTup, eLst, eOp, eUn, tV, bT, tAndD, tOrD, tNotD, eAnd, eOr, eNot, eIf, eChain, eCall, eSl, oNone, oSome, iSrc, iCall, srcD, gNm, ev0, evS, evB0, evB0o, evBS, ok_bind, exc_bind, stuck_bind, if_true, if_false, List.length_cons, List.length_nil, List.set_cons_zero, List.set_cons_succ, lim_lit, Bool.false_eq_true, ite_true, ite_false, reduceIte, List.getElem?_cons_zero, List.getElem?_cons_succ, Nat.zero_le, Nat.reduceLeDiff, Nat.reduceAdd, Nat.reduceLT, Nat.reduceSub, Nat.zero_lt_succ, Bool.not_true, Bool.not_false, k0, k1, ne_str, hb] <;> rfl
  have hlc : lc1_holes_of [.sh (encL l), .un] = .ok (.lst ((holesL l).map D.str)) := by
    unfold holesL
    rw [List.map_map]
    exact eLc_ok (ds := l.map Prt.enc) rfl (by rw [List.length_map]; omega) hf
  rw [e]
  simp only [d_holes_of, sSeq, sNil, sRet, sRetV, sRetN, sSet, sOwn, sAsg, sDrop, sIf, sFor, sMet, sFrz, sBrk, sCnt, lft, outD, eC, aNil, aCons, eTup, eLst, eOp, eUn, tV, bT, tAndD, tOrD, tNotD, eAnd, eOr, eNot, eIf, eChain, eCall, eSl, oNone, oSome, iSrc, iCall, srcD, gNm, ev0, evS, evB0, evB0o, evBS, ok_bind, exc_bind, stuck_bind, if_true, if_false, List.length_cons, List.length_nil, List.set_cons_zero, List.set_cons_succ, lim_lit, Bool.false_eq_true, ite_true, ite_false, reduceIte, List.getElem?_cons_zero, List.getElem?_cons_succ, Nat.zero_le, Nat.reduceLeDiff, Nat.reduceAdd, Nat.reduceLT, Nat.reduceSub, Nat.zero_lt_succ, Bool.not_true, Bool.not_false, hlc]
def restLast (l : PL) : Bool := !(l.dropLast.any fun q => q.kind == ("rest" : Str))
def validL (l : PL) : Bool := decide (l.length ≤ 6) && (l.all Prt.valid && (restLast l && decide (holesL l).Nodup))
theorem ddup_len_iff (L : List Str) : decide ((ddup L).length = L.length) = decide L.Nodup := by
  by_cases h : L.Nodup
  · rw [decide_eq_true h, ddup_id h]; exact decide_eq_true rfl
  · rw [decide_eq_false h]
    refine decide_eq_false fun z => h ?_
    have := ddup_nodup L
    rw [ddup_full z] at this
    exact this
theorem holesL_len (l : PL) : (holesL l).length ≤ l.length := by
  unfold holesL
  rw [List.length_map]
  exact List.length_filter_le _ _
theorem gt6' (n : Nat) : decide ((6 : Int) < (n : Int)) = decide (6 < n) := gt6 n
theorem is_pattern_l (l : PL) (hl : l.length ≤ 1000) (hf : ∀ q ∈ l, q.fit) : m_is_pattern [encL l] = .ok (.bl (validL l)) := by
  have e : m_is_pattern [encL l] = outD (d_is_pattern [.sh (encL l), .un]) := rfl
  have t : isTup (encL l) = .ok (.bl true) := rfl
  have l1 : lenD [encL l] = .ok (.int (l.length : Int)) := by unfold encL; rw [len_tup, List.length_map]
  have h2 : filtR (stepLc (gNm 1) tTrue (eCall m_is_part (aCons (eVar 1) aNil)) [1] [.sh (encL l), .un]) (l.map Prt.enc) = .ok (l.map fun q => D.bl q.valid) := by
    refine filtR_m fun q m => ?_
    have hi := is_part_w q (hf q m)
    simp only [stepLc, wipeE, tTrue, sSeq, sNil, sRet, sRetV, sRetN, sSet, sOwn, sAsg, sDrop, sIf, sFor, sMet, sFrz, sBrk, sCnt, lft, outD, eC, aNil, aCons, eTup, eLst, eOp, eUn, tV, bT, tAndD, tOrD, tNotD, eAnd, eOr, eNot, eIf, eChain, eCall, eSl, oNone, oSome, iSrc, iCall, srcD, gNm, ev0, evS, evB0, evB0o, evBS, ok_bind, exc_bind, stuck_bind, if_true, if_false, List.length_cons, List.length_nil, List.set_cons_zero, List.set_cons_succ, lim_lit, Bool.false_eq_true, ite_true, ite_false, reduceIte, List.getElem?_cons_zero, List.getElem?_cons_succ, Nat.zero_le, Nat.reduceLeDiff, Nat.reduceAdd, Nat.reduceLT, Nat.reduceSub, Nat.zero_lt_succ, Bool.not_true, Bool.not_false, hi]
  have hlc2 : lc2_is_pattern [.sh (encL l), .un] = .ok (.lst ((l.map Prt.valid).map D.bl)) := by
    rw [List.map_map]
    exact eLc_ok (ds := l.map Prt.enc) rfl (by rw [List.length_map]; omega) h2
  have sl : sliceD (encL l) none (some (-1)) = .ok (.tup (l.dropLast.map Prt.enc)) := by
    show Res.ok (D.tup (cutL _ _ _)) = _
    rw [cut_init, List.map_dropLast]
  have h1 : filtR (stepLc (gNm 1) tTrue (eOp eqD (eOp idxD (eVar 1) (eC (.int 0))) (eC (.str "rest"))) [1] [.sh (encL l), .un]) (l.dropLast.map Prt.enc) = .ok (l.dropLast.map fun q => D.bl (q.kind == ("rest" : Str))) := by
    refine filtR_m fun q m => ?_
    have hi := q.k0
    simp only [stepLc, wipeE, tTrue, sSeq, sNil, sRet, sRetV, sRetN, sSet, sOwn, sAsg, sDrop, sIf, sFor, sMet, sFrz, sBrk, sCnt, lft, outD, eC, aNil, aCons, eTup, eLst, eOp, eUn, tV, bT, tAndD, tOrD, tNotD, eAnd, eOr, eNot, eIf, eChain, eCall, eSl, oNone, oSome, iSrc, iCall, srcD, gNm, ev0, evS, evB0, evB0o, evBS, ok_bind, exc_bind, stuck_bind, if_true, if_false, List.length_cons, List.length_nil, List.set_cons_zero, List.set_cons_succ, lim_lit, Bool.false_eq_true, ite_true, ite_false, reduceIte, List.getElem?_cons_zero, List.getElem?_cons_succ, Nat.zero_le, Nat.reduceLeDiff, Nat.reduceAdd, Nat.reduceLT, Nat.reduceSub, Nat.zero_lt_succ, Bool.not_true, Bool.not_false, hi, eq_str]
  have hlc1 : lc1_is_pattern [.sh (encL l), .un] = .ok (.lst ((l.dropLast.map fun q => q.kind == ("rest" : Str)).map D.bl)) := by
    rw [List.map_map]
    refine eLc_ok (ds := l.dropLast.map Prt.enc) ?_ (by rw [List.length_map, List.length_dropLast]; omega) h1
    simp only [sSeq, sNil, sRet, sRetV, sRetN, sSet, sOwn, sAsg, sDrop, sIf, sFor, sMet, sFrz, sBrk, sCnt, lft, outD, eC, aNil, aCons, eTup, eLst, eOp, eUn, tV, bT, tAndD, tOrD, tNotD, eAnd, eOr, eNot, eIf, eChain, eCall, eSl, oNone, oSome, iSrc, iCall, srcD, gNm, ev0, evS, evB0, evB0o, evBS, ok_bind, exc_bind, stuck_bind, if_true, if_false, List.length_cons, List.length_nil, List.set_cons_zero, List.set_cons_succ, lim_lit, Bool.false_eq_true, ite_true, ite_false, reduceIte, List.getElem?_cons_zero, List.getElem?_cons_succ, Nat.zero_le, Nat.reduceLeDiff, Nat.reduceAdd, Nat.reduceLT, Nat.reduceSub, Nat.zero_lt_succ, Bool.not_true, Bool.not_false, neg1, sl]
  have ha := all_ok (l.map Prt.valid)
  rw [List.all_map] at ha
  have hy := any_ok (l.dropLast.map fun q => q.kind == ("rest" : Str))
  rw [List.any_map] at hy
  have hh := holes_of_l l hl
  have hz := holesL_len l
  have se : setD [.lst ((holesL l).map D.str)] = .ok (.set (ddup (holesL l))) := by simp only [setD, strsOf_map, if_pos (show (holesL l).length < 4000 by omega)]
  have ls : lenD [.set (ddup (holesL l))] = .ok (.int ((ddup (holesL l)).length : Int)) := rfl
  have lh : lenD [.lst ((holesL l).map D.str)] = .ok (.int ((holesL l).length : Int)) := by rw [len_lst, List.length_map]
  have hq : (((ddup (holesL l)).length : Int) == ((holesL l).length : Int)) = decide (holesL l).Nodup := by
    rw [← ddup_len_iff]
    by_cases z : (ddup (holesL l)).length = (holesL l).length
    · rw [decide_eq_true z, z]; simp
    · rw [decide_eq_false z]; simp; omega
  rw [e]
  unfold validL restLast
  have ev : l.all Prt.valid = l.all (id ∘ Prt.valid) := rfl
  have ey : (l.dropLast.any fun q => q.kind == ("rest" : Str)) = l.dropLast.any (id ∘ fun q => q.kind == ("rest" : Str)) := rfl
  rw [ev, ey]
  by_cases c : l.length ≤ 6
  · have d1 : decide ((6 : Int) < (l.length : Int)) = false := decide_eq_false (by omega)
    rw [decide_eq_true c, Bool.true_and]
    cases hb : l.all (id ∘ Prt.valid) with
    | false =>
      rw [hb] at ha
      simp only [d_is_pattern, sSeq, sNil, sRet, sRetV, sRetN, sSet, sOwn, sAsg, sDrop, sIf, sFor, sMet, sFrz, sBrk, sCnt, lft, outD, eC, aNil, aCons, eTup, eLst, eOp, eUn, tV, bT, tAndD, tOrD, tNotD, eAnd, eOr, eNot, eIf, eChain, eCall, eSl, oNone, oSome, iSrc, iCall, srcD, gNm, ev0, evS, evB0, evB0o, evBS, ok_bind, exc_bind, stuck_bind, if_true, if_false, List.length_cons, List.length_nil, List.set_cons_zero, List.set_cons_succ, lim_lit, Bool.false_eq_true, ite_true, ite_false, reduceIte, List.getElem?_cons_zero, List.getElem?_cons_succ, Nat.zero_le, Nat.reduceLeDiff, Nat.reduceAdd, Nat.reduceLT, Nat.reduceSub, Nat.zero_lt_succ, Bool.not_true, Bool.not_false, eIsT, t, l1, gt_int, d1, hlc2, ha, Bool.false_and]
    | true =>
      rw [hb] at ha
      cases hr : l.dropLast.any (id ∘ fun q => q.kind == ("rest" : Str)) with
      | true =>
        rw [hr] at hy
        simp only [d_is_pattern, sSeq, sNil, sRet, sRetV, sRetN, sSet, sOwn, sAsg, sDrop, sIf, sFor, sMet, sFrz, sBrk, sCnt, lft, outD, eC, aNil, aCons, eTup, eLst, eOp, eUn, tV, bT, tAndD, tOrD, tNotD, eAnd, eOr, eNot, eIf, eChain, eCall, eSl, oNone, oSome, iSrc, iCall, srcD, gNm, ev0, evS, evB0, evB0o, evBS, ok_bind, exc_bind, stuck_bind, if_true, if_false, List.length_cons, List.length_nil, List.set_cons_zero, List.set_cons_succ, lim_lit, Bool.false_eq_true, ite_true, ite_false, reduceIte, List.getElem?_cons_zero, List.getElem?_cons_succ, Nat.zero_le, Nat.reduceLeDiff, Nat.reduceAdd, Nat.reduceLT, Nat.reduceSub, Nat.zero_lt_succ, Bool.not_true, Bool.not_false, eIsT, t, l1, gt_int, d1, hlc2, ha, hlc1, hy, Bool.true_and, Bool.false_and]
      | false =>
        rw [hr] at hy
        simp only [d_is_pattern, sSeq, sNil, sRet, sRetV, sRetN, sSet, sOwn, sAsg, sDrop, sIf, sFor, sMet, sFrz, sBrk, sCnt, lft, outD, eC, aNil, aCons, eTup, eLst, eOp, eUn, tV, bT, tAndD, tOrD, tNotD, eAnd, eOr, eNot, eIf, eChain, eCall, eSl, oNone, oSome, iSrc, iCall, srcD, gNm, ev0, evS, evB0, evB0o, evBS, ok_bind, exc_bind, stuck_bind, if_true, if_false, List.length_cons, List.length_nil, List.set_cons_zero, List.set_cons_succ, lim_lit, Bool.false_eq_true, ite_true, ite_false, reduceIte, List.getElem?_cons_zero, List.getElem?_cons_succ, Nat.zero_le, Nat.reduceLeDiff, Nat.reduceAdd, Nat.reduceLT, Nat.reduceSub, Nat.zero_lt_succ, Bool.not_true, Bool.not_false, eIsT, t, l1, gt_int, d1, hlc2, ha, hlc1, hy, hh, se, ls, lh, eq_int, hq, Bool.true_and]
  · have d1 : decide ((6 : Int) < (l.length : Int)) = true := decide_eq_true (by omega)
    rw [decide_eq_false c, Bool.false_and]
    simp only [d_is_pattern, sSeq, sNil, sRet, sRetV, sRetN, sSet, sOwn, sAsg, sDrop, sIf, sFor, sMet, sFrz, sBrk, sCnt, lft, outD, eC, aNil, aCons, eTup, eLst, eOp, eUn, tV, bT, tAndD, tOrD, tNotD, eAnd, eOr, eNot, eIf, eChain, eCall, eSl, oNone, oSome, iSrc, iCall, srcD, gNm, ev0, evS, evB0, evB0o, evBS, ok_bind, exc_bind, stuck_bind, if_true, if_false, List.length_cons, List.length_nil, List.set_cons_zero, List.set_cons_succ, lim_lit, Bool.false_eq_true, ite_true, ite_false, reduceIte, List.getElem?_cons_zero, List.getElem?_cons_succ, Nat.zero_le, Nat.reduceLeDiff, Nat.reduceAdd, Nat.reduceLT, Nat.reduceSub, Nat.zero_lt_succ, Bool.not_true, Bool.not_false, eIsT, t, l1, gt_int, d1]
/-! tables -/
abbrev LRow := Str × PL
def encLr (r : LRow) : D := .tup [.str r.1, encL r.2]
def encTL (T : List LRow) : D := .tup (T.map encLr)
def validT (T : List LRow) : Bool := decide (T.length ≤ 8) && (T.all (fun r => isNameB r.1 && validL r.2) && decide (T.map Prod.fst).Nodup)
theorem is_table_l (T : List LRow) (hl : T.length ≤ 1000) (hf : ∀ r ∈ T, r.1.length ≤ 1000000 ∧ r.2.length ≤ 1000 ∧ ∀ q ∈ r.2, q.fit) : m_is_table [encTL T] = .ok (.bl (validT T)) := by
  have er : ∀ r ∈ T, RwB (encLr r) (isNameB r.1 && validL r.2) := fun r m => row_of (is_name_s r.1 (hf r m).1) (is_pattern_l r.2 (hf r m).2.1 (hf r m).2.2)
  have ee : T.map encLr = encT (T.map fun r => (r.1, encL r.2)) := by rw [encT_eq, List.map_map]; rfl
  by_cases hb : T.all (fun r => isNameB r.1 && validL r.2) = true
  · have h := is_table_ok (T.map fun r => (r.1, encL r.2)) (by rw [List.length_map]; exact hl) (fun r m => by
      obtain ⟨r0, m0, rfl⟩ := List.mem_map.mp m
      have := er r0 m0
      rw [List.all_eq_true.mp hb r0 m0] at this
      exact this)
    unfold encTL validT
    rw [ee, h, hb, Bool.true_and]
    unfold tabB
    have em : (T.map fun r => (r.1, encL r.2)).map Prod.fst = T.map Prod.fst := by rw [List.map_map]; rfl
    rw [em, List.length_map]
    have := ddup_len_iff (T.map Prod.fst)
    rw [List.length_map] at this
    rw [this]
  · have hb' : T.all (fun r => isNameB r.1 && validL r.2) = false := by simpa using hb
    unfold validT
    rw [hb', Bool.false_and, Bool.and_false]
    classical
    have h := is_table_bad (T.map encLr) (fun d => decide (RwB d true)) (by rw [List.length_map]; exact hl) (fun d m => by
      obtain ⟨r, m0, rfl⟩ := List.mem_map.mp m
      have := er r m0
      cases hc : (isNameB r.1 && validL r.2) with
      | true => rw [hc] at this; rw [decide_eq_true this]; exact this
      | false =>
        rw [hc] at this
        have : ¬ RwB (encLr r) true := fun z => by
          unfold RwB at this z
          rw [this] at z
          cases z
        rw [decide_eq_false this]; assumption) (.inl (by
        rw [List.all_eq_false]
        obtain ⟨r, m0, hr⟩ := List.all_eq_false.mp hb'
        refine ⟨encLr r, List.mem_map.mpr ⟨r, m0, rfl⟩, ?_⟩
        have := er r m0
        have hr' : (isNameB r.1 && validL r.2) = false := by simpa using hr
        rw [hr'] at this
        intro z
        have z := of_decide_eq_true z
        unfold RwB at this z
        rw [this] at z
        cases z))
    exact h
/-! patterns of the one form as those of the other -/
def Pat.L (p : Pat) : PL := p.ps.map .p ++ (match p.rest with
  | some r => [.r r]
  | none => [])
theorem encL_pat (p : Pat) : encL (Pat.L p) = p.enc := by
  obtain ⟨ps, rest⟩ := p
  cases rest <;> simp [encL, Pat.L, Pat.enc, Pat.encs, Prt.enc, Function.comp_def]
end L2.RB.P
namespace L2.RB.P
open PySem PySem.Spec PyProof.Rows
/-! ### what is drawn -/
theorem pool_len : ∀ w ∈ pool, w.length ≤ 3 := pool_cases ⟨by decide, by decide, by decide, by decide, by decide, by decide, by decide, by decide, by decide⟩
theorem names4_len : ∀ n ∈ names4, n.length ≤ 2 := by
  intro n m
  simp only [names4, List.mem_cons, List.not_mem_nil, or_false] at m
  rcases m with rfl | rfl | rfl | rfl <;> decide
theorem Drawn.named {p : Pat} (d : Drawn p) {q : Part} (m : q ∈ p.ps) : GoodP q ∧ ∃ n ∈ names4, Named n q := by
  obtain ⟨j, hj, e⟩ := List.getElem_of_mem m
  have ej : p.ps[j]? = some q := by rw [List.getElem?_eq_getElem hj, e]
  have := d.at_ j q ej
  have l4 := d.len
  exact ⟨this.1, _, names4_mem (by omega), this.2⟩
theorem Drawn.good {p : Pat} (d : Drawn p) : ∀ q ∈ p.ps, GoodP q := fun q m => (d.named m).1
theorem part_fit {q : Part} (g : GoodP q) {n : Str} (hn : n ∈ names4) (h : Named n q) : Part.fit q := by
  have l2 := names4_len n hn
  cases q with
  | word w => exact Nat.le_trans (pool_len w g) (by decide)
  | num m => cases h; exact Nat.le_trans l2 (by decide)
  | any m => cases h; exact Nat.le_trans l2 (by decide)
  | one m cs =>
    obtain ⟨rfl, hl, _⟩ := h
    exact ⟨Nat.le_trans l2 (by decide), by omega, fun w mw => Nat.le_trans (pool_len w (g.2 w mw)) (by decide)⟩
theorem mem_L {p : Pat} {q : Prt} (m : q ∈ Pat.L p) : (∃ x ∈ p.ps, q = .p x) ∨ ∃ r, p.rest = some r ∧ q = .r r := by
  unfold Pat.L at m
  rcases List.mem_append.mp m with m | m
  · obtain ⟨x, mx, rfl⟩ := List.mem_map.mp m
    exact .inl ⟨x, mx, rfl⟩
  · cases h : p.rest with
    | none => rw [h] at m; exact absurd m List.not_mem_nil
    | some r => rw [h] at m; exact .inr ⟨r, rfl, List.mem_singleton.mp m⟩
theorem Drawn.fit {p : Pat} (d : Drawn p) : ∀ q ∈ Pat.L p, q.fit := fun q m => by
  rcases mem_L m with ⟨x, mx, rfl⟩ | ⟨r, hr, rfl⟩
  · obtain ⟨g, n, hn, h⟩ := d.named mx
    exact part_fit g hn h
  · rcases d.rest with h | h
    · rw [h] at hr; cases hr
    · rw [h] at hr; cases hr
      show ("r" : Str).length ≤ 1000000
      decide
theorem L_len (p : Pat) : (Pat.L p).length ≤ p.ps.length + 1 := by
  unfold Pat.L
  cases p.rest <;> simp
theorem Drawn.valid {p : Pat} (d : Drawn p) : validL (Pat.L p) = true := by
  have l4 := d.len
  have ll := L_len p
  have h1 := is_pattern_l (Pat.L p) (by omega) d.fit
  have h2 := d.is_pattern
  rw [← encL_pat, h1] at h2
  simpa using h2
theorem tb_ok {S : D} (hS : IsScr S) (at_ mo rw_ : Nat) (hmo : mo ≤ 4) (hrw : rw_ ≤ 6) : ∃ T : List PRow, m_law_table [S, .int (at_ : Int), .int (mo : Int), .int (rw_ : Int)] = .ok (encTb T) ∧ T.length ≤ rw_ ∧ T.map Prod.fst = labs.take T.length ∧ ∀ r ∈ T, Drawn r.2 ∧ r.2.ps.length ≤ mo := by
  have e : m_law_table [S, .int (at_ : Int), .int (mo : Int), .int (rw_ : Int)] = outD (d_law_table [.sh S, .sh (.int (at_ : Int)), .sh (.int (mo : Int)), .sh (.int (rw_ : Int)), .un, .un, .un]) := rfl
  have f5 : (rw_ : Int) + 1 = ((rw_ + 1 : Nat) : Int) := by omega
  obtain ⟨m, hm, bm⟩ := pick_ok hS at_ ((rw_ + 1 : Nat) : Int) (by omega)
  let labsD : D := .lst [.str "t", .str "p", .str "v", .str "q", .str "u", .str "s"]
  let env : En := [.sh S, .sh (.int (at_ : Int)), .sh (.int (mo : Int)), .sh (.int (rw_ : Int)), .sh labsD, .sh (.int (m : Int)), .un]
  have hst : ∀ j : Nat, j < m → ∃ p : Pat, (Drawn p ∧ p.ps.length ≤ mo) ∧ stepLc (gNm 6) tTrue (eTup (aCons (eOp idxD (eVar 4) (eVar 6)) (aCons (eCall m_law_pattern (aCons (eVar 0) (aCons (eOp addD (eOp addD (eVar 1) (eC (.int 1))) (eOp mulD (eC (.int 30)) (eVar 6))) (aCons (eVar 2) aNil)))) aNil))) [6] env (.int (j : Int)) = .ok (some (.tup [.str (labs.getD j ""), p.enc])) := by
    intro j hj
    have hj6 : j < labs.length := by simp [labs]; omega
    obtain ⟨p, hp, l, r, a⟩ := pattern_ok hS (at_ + 1 + 30 * j) mo hmo
    have hi := idx_strs labs j hj6
    have hn : D.lst (labs.map D.str) = labsD := rfl
    rw [hn] at hi
    have kk : (at_ : Int) + 1 + 30 * (j : Int) = ((at_ + 1 + 30 * j : Nat) : Int) := by omega
    have gl : labs.getD j "" = labs[j] := by rw [List.getD_eq_getElem?_getD, List.getElem?_eq_getElem hj6]; rfl
    refine ⟨p, ⟨⟨by omega, r, a⟩, l⟩, ?_⟩
    rw [gl]
    simp only [stepLc, env, wipeE, tTrue, sSeq, sNil, sRet, sRetV, sRetN, sSet, sOwn, sAsg, sDrop, sIf, sFor, sMet, sFrz, sBrk, sCnt, lft, outD, eC, aNil, aCons, eTup, eLst, eOp, eUn, tV, bT, tAndD, tOrD, tNotD, eAnd, eOr, eNot, eIf, eChain, eCall, eSl, oNone, oSome, iSrc, iCall, srcD, gNm, ev0, evS, evB0, evB0o, evBS, ok_bind, exc_bind, stuck_bind, if_true, if_false, List.length_cons, List.length_nil, List.set_cons_zero, List.set_cons_succ, lim_lit, Bool.false_eq_true, ite_true, ite_false, reduceIte, List.getElem?_cons_zero, List.getElem?_cons_succ, Nat.zero_le, Nat.reduceLeDiff, Nat.reduceAdd, Nat.reduceLT, Nat.reduceSub, Nat.zero_lt_succ, Bool.not_true, Bool.not_false, add_int, mul_l _ (by decide : -(2 ^ 64) < (30 : Int) ∧ (30 : Int) < 2 ^ 64), kk, hi, hp]
  have key : ∀ (n a : Nat), a + n ≤ m → ∃ T : List PRow, filtR (stepLc (gNm 6) tTrue (eTup (aCons (eOp idxD (eVar 4) (eVar 6)) (aCons (eCall m_law_pattern (aCons (eVar 0) (aCons (eOp addD (eOp addD (eVar 1) (eC (.int 1))) (eOp mulD (eC (.int 30)) (eVar 6))) (aCons (eVar 2) aNil)))) aNil))) [6] env) ((List.range' a n).map fun (j : Nat) => D.int (j : Int)) = .ok (T.map encPr) ∧ T.length = n ∧ T.map Prod.fst = (labs.drop a).take n ∧ ∀ r ∈ T, Drawn r.2 ∧ r.2.ps.length ≤ mo := by
    intro n
    induction n with
    | zero => intro a _; exact ⟨[], rfl, rfl, by simp, fun r h => absurd h List.not_mem_nil⟩
    | succ n ih =>
      intro a ha
      obtain ⟨p, dp, h1⟩ := hst a (by omega)
      obtain ⟨T, h2, lT, hT, qT⟩ := ih (a + 1) (by omega)
      have ha6 : a < labs.length := by simp [labs]; omega
      have gl : labs.getD a "" = labs[a] := by rw [List.getD_eq_getElem?_getD, List.getElem?_eq_getElem ha6]; rfl
      refine ⟨(labs.getD a "", p) :: T, ?_, by simp [lT], ?_, fun r h => ?_⟩
      · rw [List.range'_succ, List.map_cons]
        simp only [filtR, h1, h2, ok_bind]
        rfl
      · rw [List.map_cons, hT, List.drop_eq_getElem_cons ha6, List.take_succ_cons, gl]
      · rcases List.mem_cons.mp h with rfl | h
        · exact dp
        · exact qT r h
  obtain ⟨T, hr, lT, hT, qT⟩ := key m 0 (by omega)
  have er : rngD 0 m = (List.range' 0 m).map fun (j : Nat) => D.int (j : Int) := by
    unfold rngD
    rw [List.range_eq_range']
    refine List.map_congr_left fun j _ => ?_
    simp
  have hlc : lc1_law_table env = .ok (.lst (T.map encPr)) := by
    refine eLc_ok (ds := rngD 0 m) ?_ (by rw [rng_len]; omega) (by rw [er]; exact hr)
    simp only [env, sSeq, sNil, sRet, sRetV, sRetN, sSet, sOwn, sAsg, sDrop, sIf, sFor, sMet, sFrz, sBrk, sCnt, lft, outD, eC, aNil, aCons, eTup, eLst, eOp, eUn, tV, bT, tAndD, tOrD, tNotD, eAnd, eOr, eNot, eIf, eChain, eCall, eSl, oNone, oSome, iSrc, iCall, srcD, gNm, ev0, evS, evB0, evB0o, evBS, ok_bind, exc_bind, stuck_bind, if_true, if_false, List.length_cons, List.length_nil, List.set_cons_zero, List.set_cons_succ, lim_lit, Bool.false_eq_true, ite_true, ite_false, reduceIte, List.getElem?_cons_zero, List.getElem?_cons_succ, Nat.zero_le, Nat.reduceLeDiff, Nat.reduceAdd, Nat.reduceLT, Nat.reduceSub, Nat.zero_lt_succ, Bool.not_true, Bool.not_false, rng1_ok m (by omega)]
  refine ⟨T, ?_, by omega, by rw [hT, lT]; rfl, qT⟩
  simp only [env, labsD] at hlc
  rw [e, encTb_eq]
  simp only [d_law_table, sSeq, sNil, sRet, sRetV, sRetN, sSet, sOwn, sAsg, sDrop, sIf, sFor, sMet, sFrz, sBrk, sCnt, lft, outD, eC, aNil, aCons, eTup, eLst, eOp, eUn, tV, bT, tAndD, tOrD, tNotD, eAnd, eOr, eNot, eIf, eChain, eCall, eSl, oNone, oSome, iSrc, iCall, srcD, gNm, ev0, evS, evB0, evB0o, evBS, ok_bind, exc_bind, stuck_bind, if_true, if_false, List.length_cons, List.length_nil, List.set_cons_zero, List.set_cons_succ, lim_lit, Bool.false_eq_true, ite_true, ite_false, reduceIte, List.getElem?_cons_zero, List.getElem?_cons_succ, Nat.zero_le, Nat.reduceLeDiff, Nat.reduceAdd, Nat.reduceLT, Nat.reduceSub, Nat.zero_lt_succ, Bool.not_true, Bool.not_false, add_int, f5, hm, hlc, tup_lst]
theorem ne_self {d : D} (h : d.pl 60 = true) : neD d d = .ok (.bl false) := by
  rw [neD_pl h h, D.eqv_self h]; rfl
theorem eq_self {d : D} (h : d.pl 60 = true) : eqD d d = .ok (.bl true) := by
  rw [eqD_pl h h, D.eqv_self h]
theorem encTb_pl (T : List PRow) : (encTb T).pl 60 = true := by
  rw [encTb_eq]
  refine pl_le (m := 5) ?_ (by decide)
  show D.pls (T.map encPr) 4 = true
  exact pls_map (fun r => by
    show D.pls [.str r.1, r.2.enc] 3 = true
    simp only [D.pls, D.pl, pl_le r.2.pl (Nat.le_refl _), Bool.and_self]) T
theorem encTL_pl (T : List LRow) : (encTL T).pl 60 = true := by
  refine pl_le (m := 5) ?_ (by decide)
  show D.pls (T.map encLr) 4 = true
  exact pls_map (fun r => by
    show D.pls [.str r.1, encL r.2] 3 = true
    simp only [D.pls, D.pl, encL_pl r.2, Bool.and_self]) T
/-- a table by the parts of its rows -/
def TL (T : List PRow) : List LRow := T.map fun r => (r.1, Pat.L r.2)
theorem encTL_tb (T : List PRow) : encTL (TL T) = encTb T := by
  rw [encTb_eq]
  unfold encTL TL
  rw [List.map_map]
  congr 1
  refine List.map_congr_left fun r _ => ?_
  show encLr (r.1, Pat.L r.2) = encPr r
  unfold encLr encPr
  rw [encL_pat]
theorem labs_nd : labs.Nodup := by decide
theorem labs_name : ∀ l ∈ labs, isNameB l = true ∧ l.length ≤ 1 := by
  intro l m
  simp only [labs, List.mem_cons, List.not_mem_nil, or_false] at m
  rcases m with rfl | rfl | rfl | rfl | rfl | rfl <;> decide
end L2.RB.P
namespace L2.RB.P
open PySem PySem.Spec PyProof.Rows
theorem seq_nx {φ ψ : SD} {e e1 : En} (h : φ e = some (.nx e1)) : sSeq φ ψ e = ψ e1 := by
  unfold sSeq
  rw [h]
def whD (LA : PL) (d : D) : D := match d with
  | .tup xs => .tup (LA.map Prt.enc ++ xs)
  | d => d
theorem whD_enc (LA : PL) (p : Pat) : whD LA p.enc = encL (LA ++ Pat.L p) := by
  rw [← encL_pat]
  unfold encL
  rw [List.map_append]
  rfl
noncomputable def gdD (d : D) : Bool := @decide (m_is_pattern [d] = .ok (.bl true)) (Classical.propDecidable _)
theorem gdD_enc (l : PL) (hl : l.length ≤ 1000) (hf : ∀ q ∈ l, q.fit) : gdD (encL l) = validL l := by
  have h := is_pattern_l l hl hf
  unfold gdD
  rw [h]
  cases validL l with
  | true => exact @decide_eq_true _ (Classical.propDecidable _) rfl
  | false => exact @decide_eq_false _ (Classical.propDecidable _) (fun z => by cases z)
def TW (LA : PL) (T : List PRow) : List LRow := T.map fun r => (r.1, LA ++ Pat.L r.2)
structure AhOk (LA : PL) : Prop where
  len : LA.length ≤ 100
  fit : ∀ q ∈ LA, q.fit
structure TOk (T : List PRow) : Prop where
  len : T.length ≤ 6
  lab : ∀ r ∈ T, isNameB r.1 = true ∧ r.1.length ≤ 100
  nd : (T.map Prod.fst).Nodup
  pat : ∀ r ∈ T, Drawn r.2
theorem TW_fit {LA : PL} {T : List PRow} (hA : AhOk LA) (hT : TOk T) : ∀ r ∈ TW LA T, r.1.length ≤ 1000000 ∧ r.2.length ≤ 1000 ∧ ∀ q ∈ r.2, q.fit := by
  intro r m
  obtain ⟨r0, m0, rfl⟩ := List.mem_map.mp m
  have d := hT.pat r0 m0
  have h1 := L_len r0.2
  have h2 := d.len
  have h3 := hA.len
  refine ⟨Nat.le_trans (hT.lab r0 m0).2 (by decide), ?_, fun q mq => ?_⟩
  · show (LA ++ Pat.L r0.2).length ≤ 1000
    rw [List.length_append]; omega
  · rcases List.mem_append.mp mq with mq | mq
    · exact hA.fit q mq
    · exact d.fit q mq
theorem TW_valid {LA : PL} {T : List PRow} (hT : TOk T) : validT (TW LA T) = T.all fun r => validL (LA ++ Pat.L r.2) := by
  have hn : (TW LA T).map Prod.fst = T.map Prod.fst := by unfold TW; rw [List.map_map]; rfl
  unfold validT
  rw [hn, decide_eq_true hT.nd, Bool.and_true]
  have hl := hT.len
  rw [decide_eq_true (by unfold TW; rw [List.length_map]; omega), Bool.true_and]
  unfold TW
  rw [List.all_map]
  have hlab := hT.lab
  clear hn hl hT
  induction T with
  | nil => rfl
  | cons r T ih =>
    have h1 := (hlab r List.mem_cons_self).1
    rw [List.all_cons, List.all_cons, ih fun x m => hlab x (List.mem_cons_of_mem _ m)]
    show ((isNameB r.1 && validL (LA ++ Pat.L r.2)) && _) = _
    rw [h1, Bool.true_and]
theorem mount_ok {LA : PL} {T : List PRow} (hA : AhOk LA) (hT : TOk T) : m_mounted [encL LA, encTb T] = if T.all (fun r => validL (LA ++ Pat.L r.2)) then .ok (encTL (TW LA T)) else .exc "TooMany" := by
  have h := mounted_ok (encL LA) (rowsD T) (whD LA) gdD (by unfold rowsD; rw [List.length_map]; have := hT.len; omega) (fun r m => by
    obtain ⟨r0, m0, rfl⟩ := List.mem_map.mp m
    have f := TW_fit hA hT (r0.1, LA ++ Pat.L r0.2) (List.mem_map.mpr ⟨r0, m0, rfl⟩)
    show addD (encL LA) r0.2.enc = .ok (whD LA r0.2.enc) ∧ m_is_pattern [whD LA r0.2.enc] = _
    rw [whD_enc]
    refine ⟨?_, ?_⟩
    · rw [← encL_pat]
      have h1 := L_len r0.2
      have h2 := (hT.pat r0 m0).len
      have h3 := hA.len
      unfold encL
      rw [add_tups _ _ (by rw [List.length_map, List.length_map]; omega), List.map_append]
    · rw [gdD_enc _ f.2.1 f.2.2]
      exact is_pattern_l _ f.2.1 f.2.2)
  have e1 : (rowsD T).all (fun r => gdD (whD LA r.2)) = T.all (fun r => validL (LA ++ Pat.L r.2)) := by
    unfold rowsD
    rw [List.all_map]
    have key : ∀ r ∈ T, gdD (whD LA r.2.enc) = validL (LA ++ Pat.L r.2) := fun r m => by
      have f := TW_fit hA hT (r.1, LA ++ Pat.L r.2) (List.mem_map.mpr ⟨r, m, rfl⟩)
      rw [whD_enc, gdD_enc _ f.2.1 f.2.2]
    clear h
    rw [Bool.eq_iff_iff, List.all_eq_true, List.all_eq_true]
    exact ⟨fun z r m => by rw [← key r m]; exact z r m, fun z r m => by show gdD (whD LA r.2.enc) = true; rw [key r m]; exact z r m⟩
  have e2 : D.tup (encT ((rowsD T).map fun r => (r.1, whD LA r.2))) = encTL (TW LA T) := by
    unfold encTL TW rowsD
    rw [encT_eq, List.map_map, List.map_map, List.map_map]
    congr 1
    refine List.map_congr_left fun r _ => ?_
    show encRw (r.1, whD LA r.2.enc) = encLr (r.1, LA ++ Pat.L r.2)
    rw [whD_enc]; rfl
  rw [e1, e2] at h
  exact h
theorem tok_of {T : List PRow} (h1 : T.length ≤ 6) (h2 : T.map Prod.fst = labs.take T.length) (h3 : ∀ r ∈ T, Drawn r.2) : TOk T := by
  refine ⟨h1, fun r m => ?_, ?_, h3⟩
  · have : r.1 ∈ labs := List.mem_of_mem_take (by rw [← h2]; exact List.mem_map.mpr ⟨r, m, rfl⟩)
    have := labs_name r.1 this
    exact ⟨this.1, by omega⟩
  · rw [h2]
    exact List.Nodup.sublist (List.take_sublist ..) labs_nd
def dbl (T : List PRow) : List PRow := T.map fun r => (repS r.1 2, r.2)
theorem dbl_tok {T : List PRow} (h1 : T.length ≤ 6) (h2 : T.map Prod.fst = labs.take T.length) (h3 : ∀ r ∈ T, Drawn r.2) : TOk (dbl T) := by
  have h := tok_of h1 h2 h3
  have labs2 : ∀ l ∈ labs, isNameB (repS l 2) = true ∧ (repS l 2).length ≤ 100 := by
    intro l m
    simp only [labs, List.mem_cons, List.not_mem_nil, or_false] at m
    rcases m with rfl | rfl | rfl | rfl | rfl | rfl <;> decide +kernel
  have en : (dbl T).map Prod.fst = (labs.map fun l => repS l 2).take T.length := by
    unfold dbl
    rw [List.map_map, ← List.map_take, ← h2, List.map_map]; rfl
  refine ⟨by unfold dbl; rw [List.length_map]; exact h1, fun r m => ?_, ?_, fun r m => ?_⟩
  · obtain ⟨r0, m0, rfl⟩ := List.mem_map.mp m
    exact labs2 r0.1 (List.mem_of_mem_take (by rw [← h2]; exact List.mem_map.mpr ⟨r0, m0, rfl⟩))
  · rw [en]
    exact List.Nodup.sublist (List.take_sublist ..) (by decide +kernel)
  · obtain ⟨r0, m0, rfl⟩ := List.mem_map.mp m
    exact h3 r0 m0
theorem ne_tm : neD (.str "too many") (.str "too many") = .ok (.bl false) := ne_self (str_pl60 _)
/-! word by word -/
theorem does_nil (p : Pat) : does p [] = p.ps.isEmpty := by
  obtain ⟨ps, rest⟩ := p
  cases ps <;> simp [does, doesP]
theorem doesP_cons (q : Part) (ps : List Part) (rest : Option Str) (w : Str) (a : List Str) : doesP (q :: ps) rest (w :: a) = (letsP q w && doesP ps rest a) := by
  simp only [doesP, List.length_cons, Nat.add_lt_add_iff_right, List.zipWith_cons_cons, List.all_cons, id]
  cases letsP q w <;> simp
theorem doesP_nil_rest (r : Str) (a : List Str) : doesP [] (some r) a = true := by simp [doesP]
theorem does_cons (p : Pat) (w : Str) (a : List Str) : does p (w :: a) = (match behindW p w with | some p' => does p' a | none => false) := by
  obtain ⟨ps, rest⟩ := p
  cases ps with
  | nil =>
    cases rest with
    | none => simp [does, doesP, behindW]
    | some r => simp [does, behindW, doesP_nil_rest]
  | cons q ps =>
    show doesP (q :: ps) rest (w :: a) = _
    rw [doesP_cons]
    cases hl : letsP q w <;> simp [behindW, hl, does]
theorem firstL_cons (T : List PRow) (w : Str) (a : List Str) : firstL T (w :: a) = firstL (belowT T w) a := by
  unfold firstL firstB belowT
  induction T with
  | nil => rfl
  | cons r T ih =>
    rw [List.find?_cons, List.filterMap_cons]
    have h := does_cons r.2 w a
    cases hb : behindW r.2 w with
    | none =>
      rw [hb] at h
      rw [h]
      exact ih
    | some p =>
      rw [hb] at h
      simp only [Option.map_some]
      rw [List.find?_cons]
      simp only at h
      cases hd : does p a with
      | true => rw [hd] at h; rw [h]; rfl
      | false => rw [hd] at h; rw [h]; exact ih
theorem belowT_ok {T : List PRow} (hT : TbOk T) (w : Str) : TbOk (belowT T w) := by
  refine ⟨?_, fun r m => ?_⟩
  · have := List.length_filterMap_le (fun r : PRow => (behindW r.2 w).map fun p => (r.1, p)) T
    have := hT.len
    unfold belowT
    omega
  · obtain ⟨r0, m0, e⟩ := List.mem_filterMap.mp m
    cases hb : behindW r0.2 w with
    | none => rw [hb] at e; cases e
    | some p =>
      rw [hb] at e
      cases e
      have hl := hT.ps r0 m0
      unfold behindW at hb
      show p.ps.length ≤ 1000
      split at hb
      · split at hb
        · cases hb; rename_i h0 _; rw [h0]; exact Nat.zero_le _
        · cases hb
      · split at hb
        · cases hb
          rename_i h0 _
          rw [h0, List.length_cons] at hl
          exact Nat.le_of_succ_le hl
        · cases hb
theorem lbw_loop : ∀ (a : List Str) (T : List PRow) (x1 s2 x3 x4 x5 : Sl), TbOk T → (∀ w ∈ a, WOk w) → ∃ t2, loopD (gNm 2) fb1_label_by_words (a.map D.str) [.sh (encTb T), x1, s2, x3, x4, x5] = some (.nx [.sh (encTb (a.foldl belowT T)), x1, t2, x3, x4, x5])
  | [], T, x1, s2, x3, x4, x5, _, _ => ⟨s2, rfl⟩
  | w :: a, T, x1, s2, x3, x4, x5, hT, hw => by
    have hb := below_ok T w hT.len (hw w List.mem_cons_self)
    have g1 : gNm 2 (.str w) [.sh (encTb T), x1, s2, x3, x4, x5] = .ok [.sh (encTb T), x1, .sh (.str w), x3, x4, x5] := rfl
    have b1 : fb1_label_by_words [.sh (encTb T), x1, .sh (.str w), x3, x4, x5] = some (.nx [.sh (encTb (belowT T w)), x1, .sh (.str w), x3, x4, x5]) := by
      simp only [fb1_label_by_words, sSeq, sNil, sRet, sRetV, sRetN, sSet, sOwn, sAsg, sDrop, sIf, sFor, sMet, sFrz, sBrk, sCnt, lft, outD, eC, aNil, aCons, eTup, eLst, eOp, eUn, tV, bT, tAndD, tOrD, tNotD, eAnd, eOr, eNot, eIf, eChain, eCall, eSl, oNone, oSome, iSrc, iCall, srcD, gNm, ev0, evS, evB0, evB0o, evBS, ok_bind, exc_bind, stuck_bind, if_true, if_false, List.length_cons, List.length_nil, List.set_cons_zero, List.set_cons_succ, lim_lit, Bool.false_eq_true, ite_true, ite_false, reduceIte, List.getElem?_cons_zero, List.getElem?_cons_succ, Nat.zero_le, Nat.reduceLeDiff, Nat.reduceAdd, Nat.reduceLT, Nat.reduceSub, Nat.zero_lt_succ, Bool.not_true, Bool.not_false, hb]
    obtain ⟨t2, ih⟩ := lbw_loop a (belowT T w) x1 (.sh (.str w)) x3 x4 x5 (belowT_ok hT w) fun v m => hw v (List.mem_cons_of_mem _ m)
    exact ⟨t2, by rw [List.map_cons, loop_cons g1 b1, ih]; rfl⟩
theorem firstL_fold : ∀ (a : List Str) (T : List PRow), firstL (a.foldl belowT T) [] = firstL T a
  | [], T => rfl
  | w :: a, T => by rw [List.foldl_cons, firstL_fold a, firstL_cons]
theorem fold_ok : ∀ (a : List Str) (T : List PRow), TbOk T → TbOk (a.foldl belowT T)
  | [], T, h => h
  | w :: a, T, h => fold_ok a _ (belowT_ok h w)
theorem label_by_words_ok (T : List PRow) (a : List Str) (hT : TbOk T) (ha : ∀ w ∈ a, WOk w) : m_label_by_words [encTb T, encW a] = .ok (encO (firstL T a)) := by
  have e : m_label_by_words [encTb T, encW a] = outD (d_label_by_words [.sh (encTb T), .sh (encW a), .un, .un, .un, .un]) := rfl
  obtain ⟨t2, k⟩ := lbw_loop a T (.sh (encW a)) .un .un .un .un hT ha
  have hU := fold_ok a T hT
  generalize hUe : a.foldl belowT T = U at *
  have hsrc : (iSrc (eVar 1) : AD) [.sh (encTb T), .sh (encW a), .un, .un, .un, .un] = .ok (a.map D.str) := rfl
  have hfor : sFor (iSrc (eVar 1)) (gNm 2) fb1_label_by_words [.sh (encTb T), .sh (encW a), .un, .un, .un, .un] = some (.nx [.sh (encTb U), .sh (encW a), t2, .un, .un, .un]) := by
    unfold sFor
    rw [hsrc]
    exact k
  have hf : filtR (stepLc (gTp 2 (gCn (gNm 4) (gCn (gNm 5) gNl))) (tOrD (tV (eOp eqD (eVar 5) (eTup aNil))) (tV (eOp eqD (eOp idxD (eOp idxD (eVar 5) (eC (.int 0))) (eC (.int 0))) (eC (.str "rest"))))) (eVar 4) [4, 5] [.sh (encTb U), .sh (encW a), t2, .un, .un, .un]) (U.map encPr) = .ok ((U.filter fun r => does r.2 []).map fun r => D.str r.1) := by
    refine filtR_fm fun r m => ?_
    have hg : gTp 2 (gCn (gNm 4) (gCn (gNm 5) gNl)) (encPr r) (wipeE [.sh (encTb U), .sh (encW a), t2, .un, .un, .un] [4, 5]) = .ok [.sh (encTb U), .sh (encW a), t2, .un, .sh (.str r.1), .sh r.2.enc] := rfl
    have hn : eqD r.2.enc (.tup []) = .ok (.bl r.2.encs.isEmpty) := eq_nilT r.2.pl60
    rw [does_nil]
    obtain ⟨lab, ps, rest⟩ := r
    cases ps with
    | nil =>
      cases rest with
      | none =>
        have ne : (Pat.encs ⟨[], none⟩).isEmpty = true := rfl
        simp only [stepLc, hg, sSeq, sNil, sRet, sRetV, sRetN, sSet, sOwn, sAsg, sDrop, sIf, sFor, sMet, sFrz, sBrk, sCnt, lft, outD, eC, aNil, aCons, eTup, eLst, eOp, eUn, tV, bT, tAndD, tOrD, tNotD, eAnd, eOr, eNot, eIf, eChain, eCall, eSl, oNone, oSome, iSrc, iCall, srcD, gNm, ev0, evS, evB0, evB0o, evBS, ok_bind, exc_bind, stuck_bind, if_true, if_false, List.length_cons, List.length_nil, List.set_cons_zero, List.set_cons_succ, lim_lit, Bool.false_eq_true, ite_true, ite_false, reduceIte, List.getElem?_cons_zero, List.getElem?_cons_succ, Nat.zero_le, Nat.reduceLeDiff, Nat.reduceAdd, Nat.reduceLT, Nat.reduceSub, Nat.zero_lt_succ, Bool.not_true, Bool.not_false, hn, ne, List.isEmpty_nil]
      | some q =>
        have ne : (Pat.encs ⟨[], some q⟩).isEmpty = false := rfl
        have h0 : idxD (Pat.enc ⟨[], some q⟩) (.int 0) = .ok (encR q) := idx0 _ _
        simp only [stepLc, hg, sSeq, sNil, sRet, sRetV, sRetN, sSet, sOwn, sAsg, sDrop, sIf, sFor, sMet, sFrz, sBrk, sCnt, lft, outD, eC, aNil, aCons, eTup, eLst, eOp, eUn, tV, bT, tAndD, tOrD, tNotD, eAnd, eOr, eNot, eIf, eChain, eCall, eSl, oNone, oSome, iSrc, iCall, srcD, gNm, ev0, evS, evB0, evB0o, evBS, ok_bind, exc_bind, stuck_bind, if_true, if_false, List.length_cons, List.length_nil, List.set_cons_zero, List.set_cons_succ, lim_lit, Bool.false_eq_true, ite_true, ite_false, reduceIte, List.getElem?_cons_zero, List.getElem?_cons_succ, Nat.zero_le, Nat.reduceLeDiff, Nat.reduceAdd, Nat.reduceLT, Nat.reduceSub, Nat.zero_lt_succ, Bool.not_true, Bool.not_false, hn, ne, h0, encR0, eq_str, BEq.rfl, List.isEmpty_nil]
    | cons q ps =>
      have ne : (Pat.encs ⟨q :: ps, rest⟩).isEmpty = false := by rw [encs_cons]; rfl
      have h0 : idxD (Pat.enc ⟨q :: ps, rest⟩) (.int 0) = .ok q.enc := by unfold Pat.enc; rw [encs_cons]; exact idx0 _ _
      simp only [stepLc, hg, sSeq, sNil, sRet, sRetV, sRetN, sSet, sOwn, sAsg, sDrop, sIf, sFor, sMet, sFrz, sBrk, sCnt, lft, outD, eC, aNil, aCons, eTup, eLst, eOp, eUn, tV, bT, tAndD, tOrD, tNotD, eAnd, eOr, eNot, eIf, eChain, eCall, eSl, oNone, oSome, iSrc, iCall, srcD, gNm, ev0, evS, evB0, evB0o, evBS, ok_bind, exc_bind, stuck_bind, if_true, if_false, List.length_cons, List.length_nil, List.set_cons_zero, List.set_cons_succ, lim_lit, Bool.false_eq_true, ite_true, ite_false, reduceIte, List.getElem?_cons_zero, List.getElem?_cons_succ, Nat.zero_le, Nat.reduceLeDiff, Nat.reduceAdd, Nat.reduceLT, Nat.reduceSub, Nat.zero_lt_succ, Bool.not_true, Bool.not_false, hn, ne, h0, Part.k0, eq_str, kind_rest, List.isEmpty_cons]
  have hlc : lc2_label_by_words [.sh (encTb U), .sh (encW a), t2, .un, .un, .un] = .ok (.lst (((U.filter fun r => does r.2 []).map Prod.fst).map D.str)) := by
    rw [List.map_map]
    refine eLc_ok (ds := U.map encPr) ?_ (by rw [List.length_map]; have := hU.len; omega) hf
    rw [encTb_eq]; rfl
  have hl : ((U.filter fun r => does r.2 []).map Prod.fst).length ≤ 1000 := by
    rw [List.length_map]
    have := List.length_filter_le (fun r : PRow => does r.2 []) U
    have := hU.len
    omega
  have h2 := head_ok _ hl
  have h3 : ((U.filter fun r => does r.2 []).map Prod.fst).head? = firstL U [] := by
    unfold firstL firstB
    rw [List.head?_map, List.head?_filter]
  rw [h3, ← hUe, firstL_fold] at h2
  rw [e]
  unfold d_label_by_words
  rw [seq_nx hfor]
  rw [hUe] at h2
  generalize (U.filter fun r => does r.2 []).map Prod.fst = L at *
  cases hz : addD (.lst (L.map D.str)) (.lst [.non]) with
  | ok z => rw [hz] at h2; simp only [ok_bind] at h2; simp only [sSeq, sNil, sRet, sRetV, sRetN, sSet, sOwn, sAsg, sDrop, sIf, sFor, sMet, sFrz, sBrk, sCnt, lft, outD, eC, aNil, aCons, eTup, eLst, eOp, eUn, tV, bT, tAndD, tOrD, tNotD, eAnd, eOr, eNot, eIf, eChain, eCall, eSl, oNone, oSome, iSrc, iCall, srcD, gNm, ev0, evS, evB0, evB0o, evBS, ok_bind, exc_bind, stuck_bind, if_true, if_false, List.length_cons, List.length_nil, List.set_cons_zero, List.set_cons_succ, lim_lit, Bool.false_eq_true, ite_true, ite_false, reduceIte, List.getElem?_cons_zero, List.getElem?_cons_succ, Nat.zero_le, Nat.reduceLeDiff, Nat.reduceAdd, Nat.reduceLT, Nat.reduceSub, Nat.zero_lt_succ, Bool.not_true, Bool.not_false, hlc, hz, h2]
  | exc c => rw [hz] at h2; cases h2
  | stuck => rw [hz] at h2; cases h2
/-! mounted, joined: what is led -/
def mnt (A : List Part) (T : List PRow) : List PRow := T.map fun r => (r.1, ⟨A ++ r.2.ps, r.2.rest⟩)
theorem L_app (A : List Part) (p : Pat) : (A.map Prt.p) ++ Pat.L p = Pat.L ⟨A ++ p.ps, p.rest⟩ := by
  unfold Pat.L
  rw [List.map_append, List.append_assoc]
theorem TW_mnt (A : List Part) (T : List PRow) : encTL (TW (A.map Prt.p) T) = encTb (mnt A T) := by
  rw [← encTL_tb]
  unfold TW TL mnt
  rw [List.map_map]
  congr 1
  refine List.map_congr_left fun r _ => ?_
  show (r.1, (A.map Prt.p) ++ Pat.L r.2) = (r.1, Pat.L ⟨A ++ r.2.ps, r.2.rest⟩)
  rw [L_app]
theorem doesP_app (A : List Part) (ps : List Part) (rest : Option Str) : ∀ (A : List Part) (ws a : List Str), A.length = ws.length → doesP (A ++ ps) rest (ws ++ a) = ((List.zipWith letsP A ws).all id && doesP ps rest a)
  | [], [], a, _ => by simp
  | q :: A, w :: ws, a, h => by
    rw [List.cons_append, List.cons_append, doesP_cons, doesP_app A ps rest A ws a (by simpa using h), List.zipWith_cons_cons, List.all_cons, Bool.and_assoc]
    rfl
  | [], _ :: _, _, h => by simp at h
  | _ :: _, [], _, h => by simp at h
theorem doesP_exact (A : List Part) (ws : List Str) (h : A.length = ws.length) : doesP A none ws = (List.zipWith letsP A ws).all id := by
  unfold doesP
  rw [h]
  simp
theorem first_mnt (A : List Part) (T : List PRow) (ws a : List Str) (h : A.length = ws.length) : firstL (mnt A T) (ws ++ a) = if doesP A none ws then firstL T a else none := by
  unfold firstL firstB mnt
  rw [doesP_exact A ws h]
  induction T with
  | nil => simp
  | cons r T ih =>
    rw [List.map_cons, List.find?_cons, List.find?_cons]
    have hd : does ⟨A ++ r.2.ps, r.2.rest⟩ (ws ++ a) = ((List.zipWith letsP A ws).all id && does r.2 a) := doesP_app A r.2.ps r.2.rest A ws a h
    simp only [hd]
    cases hc : (List.zipWith letsP A ws).all id with
    | false => rw [hc] at ih; simpa using ih
    | true =>
      rw [hc] at ih
      cases hr : does r.2 a with
      | true => simp
      | false => simpa using ih
theorem first_app (T U : List PRow) (a : List Str) : firstL (T ++ U) a = match firstL T a with | some l => some l | none => firstL U a := by
  unfold firstL firstB
  rw [List.find?_append]
  cases T.find? fun r => does r.2 a <;> rfl
end L2.RB.P
namespace L2.RB.P
open PySem PySem.Spec PyProof.Rows
/-! ### addresses built of values -/
abbrev NV := Str × D
def encNV (x : NV) : D := .tup [.str x.1, x.2]
def encPs (L : List NV) : D := .lst (L.map encNV)
/-- values as they are handed in -/
def okV (d : D) : Prop := match d with
  | .str s => s.length ≤ 1000
  | .int i => i = 7 ∨ i = 0 ∨ i = 55 ∨ i = -1 ∨ i = 1000000000
  | .bl _ => True
  | .non => True
  | .lst _ => True
  | .tup xs => xs.length ≤ 500 ∧ ∀ x ∈ xs, ∃ s, x = .str s ∧ s.length ≤ 1000
  | _ => False
def wordD (d : D) : Bool := match d with
  | .str s => isWordB s
  | _ => false
theorem is_word_d (d : D) (h : okV d) : m_is_word [d] = .ok (.bl (wordD d)) := by
  cases d with
  | str s => exact is_word_s s (Nat.le_trans h (by decide))
  | int i => exact is_word_n _ rfl
  | bl b => exact is_word_n _ rfl
  | non => exact is_word_n _ rfl
  | lst l => exact is_word_n _ rfl
  | tup l => exact is_word_n _ rfl
  | _ => exact False.elim h
def wordF (lk : Str → D) (q : Part) : Res D := match q with
  | .word w => .ok (.str w)
  | .num n => match lk n with
    | .int i => if i < 0 then .exc "BadValues" else .ok (.str (toString i : String))
    | _ => .exc "BadValues"
  | .one n _ => .ok (lk n)
  | .any n => .ok (lk n)
theorem word_for_ok (q : Part) (lk : Str → D) (v : D) (hv : v = lk q.nm) (h : okV v) : m_word_for [q.enc, v] = wordF lk q := by
  have e : m_word_for [q.enc, v] = outD (d_word_for [.sh q.enc, .sh v]) := rfl
  rw [e]
  cases q with
  | word w => simp only [d_word_for, sSeq, sNil, sRet, sRetV, sRetN, sSet, sOwn, sAsg, sDrop, sIf, sFor, sMet, sFrz, sBrk, sCnt, lft, outD, eC, aNil, aCons, eTup, eLst, eOp, eUn, tV, bT, tAndD, tOrD, tNotD, eAnd, eOr, eNot, eIf, eChain, eCall, eSl, oNone, oSome, iSrc, iCall, srcD, gNm, ev0, evS, evB0, evB0o, evBS, ok_bind, exc_bind, stuck_bind, if_true, if_false, List.length_cons, List.length_nil, List.set_cons_zero, List.set_cons_succ, lim_lit, Bool.false_eq_true, ite_true, ite_false, reduceIte, List.getElem?_cons_zero, List.getElem?_cons_succ, Nat.zero_le, Nat.reduceLeDiff, Nat.reduceAdd, Nat.reduceLT, Nat.reduceSub, Nat.zero_lt_succ, Bool.not_true, Bool.not_false, Part.k0, Part.k1, Part.kind, Part.nm, eq_str, BEq.rfl, wordF]
  | one n cs => simp only [d_word_for, sSeq, sNil, sRet, sRetV, sRetN, sSet, sOwn, sAsg, sDrop, sIf, sFor, sMet, sFrz, sBrk, sCnt, lft, outD, eC, aNil, aCons, eTup, eLst, eOp, eUn, tV, bT, tAndD, tOrD, tNotD, eAnd, eOr, eNot, eIf, eChain, eCall, eSl, oNone, oSome, iSrc, iCall, srcD, gNm, ev0, evS, evB0, evB0o, evBS, ok_bind, exc_bind, stuck_bind, if_true, if_false, List.length_cons, List.length_nil, List.set_cons_zero, List.set_cons_succ, lim_lit, Bool.false_eq_true, ite_true, ite_false, reduceIte, List.getElem?_cons_zero, List.getElem?_cons_succ, Nat.zero_le, Nat.reduceLeDiff, Nat.reduceAdd, Nat.reduceLT, Nat.reduceSub, Nat.zero_lt_succ, Bool.not_true, Bool.not_false, Part.k0, Part.kind, eq_str, ne_str, (by decide : (("one" : Str) == "word") = false), (by decide : (("one" : Str) == "number") = false), wordF, hv, Part.nm]
  | any n => simp only [d_word_for, sSeq, sNil, sRet, sRetV, sRetN, sSet, sOwn, sAsg, sDrop, sIf, sFor, sMet, sFrz, sBrk, sCnt, lft, outD, eC, aNil, aCons, eTup, eLst, eOp, eUn, tV, bT, tAndD, tOrD, tNotD, eAnd, eOr, eNot, eIf, eChain, eCall, eSl, oNone, oSome, iSrc, iCall, srcD, gNm, ev0, evS, evB0, evB0o, evBS, ok_bind, exc_bind, stuck_bind, if_true, if_false, List.length_cons, List.length_nil, List.set_cons_zero, List.set_cons_succ, lim_lit, Bool.false_eq_true, ite_true, ite_false, reduceIte, List.getElem?_cons_zero, List.getElem?_cons_succ, Nat.zero_le, Nat.reduceLeDiff, Nat.reduceAdd, Nat.reduceLT, Nat.reduceSub, Nat.zero_lt_succ, Bool.not_true, Bool.not_false, Part.k0, Part.kind, eq_str, ne_str, (by decide : (("any" : Str) == "word") = false), (by decide : (("any" : Str) == "number") = false), wordF, hv, Part.nm]
  | num n =>
    have hv : v = lk n := hv
    have base : ∀ x : D, isInt x = .ok (.bl false) → (∀ i, x ≠ .int i) → lk n = x → outD (d_word_for [.sh (Part.enc (.num n)), .sh x]) = wordF lk (.num n) := fun x hx hn hl => by
      simp only [d_word_for, sSeq, sNil, sRet, sRetV, sRetN, sSet, sOwn, sAsg, sDrop, sIf, sFor, sMet, sFrz, sBrk, sCnt, lft, outD, eC, aNil, aCons, eTup, eLst, eOp, eUn, tV, bT, tAndD, tOrD, tNotD, eAnd, eOr, eNot, eIf, eChain, eCall, eSl, oNone, oSome, iSrc, iCall, srcD, gNm, ev0, evS, evB0, evB0o, evBS, ok_bind, exc_bind, stuck_bind, if_true, if_false, List.length_cons, List.length_nil, List.set_cons_zero, List.set_cons_succ, lim_lit, Bool.false_eq_true, ite_true, ite_false, reduceIte, List.getElem?_cons_zero, List.getElem?_cons_succ, Nat.zero_le, Nat.reduceLeDiff, Nat.reduceAdd, Nat.reduceLT, Nat.reduceSub, Nat.zero_lt_succ, Bool.not_true, Bool.not_false, eIsT, Part.k0, Part.kind, eq_str, ne_str, (by decide : (("number" : Str) == "word") = false), BEq.rfl, hx, sRaise, wordF, hl]
    subst hv
    cases hl : lk n with
    | int i =>
      have t1 : isInt (.int i) = .ok (.bl true) := rfl
      have t2 : isBool (.int i) = .ok (.bl false) := rfl
      have hs : strD [.int i] = .ok (.str (toString i : String)) := by
        rw [hl] at h
        have : i.natAbs < 2 ^ 1900 := by
          have h' : i.natAbs ≤ 1000000000 := by
            have h : i = 7 ∨ i = 0 ∨ i = 55 ∨ i = -1 ∨ i = 1000000000 := h
            omega
          exact Nat.lt_of_le_of_lt h' (by decide +kernel)
        simp only [strD, if_pos this]
      by_cases hi : i < 0
      · have d : decide (i < 0) = true := decide_eq_true hi
        simp only [d_word_for, sSeq, sNil, sRet, sRetV, sRetN, sSet, sOwn, sAsg, sDrop, sIf, sFor, sMet, sFrz, sBrk, sCnt, lft, outD, eC, aNil, aCons, eTup, eLst, eOp, eUn, tV, bT, tAndD, tOrD, tNotD, eAnd, eOr, eNot, eIf, eChain, eCall, eSl, oNone, oSome, iSrc, iCall, srcD, gNm, ev0, evS, evB0, evB0o, evBS, ok_bind, exc_bind, stuck_bind, if_true, if_false, List.length_cons, List.length_nil, List.set_cons_zero, List.set_cons_succ, lim_lit, Bool.false_eq_true, ite_true, ite_false, reduceIte, List.getElem?_cons_zero, List.getElem?_cons_succ, Nat.zero_le, Nat.reduceLeDiff, Nat.reduceAdd, Nat.reduceLT, Nat.reduceSub, Nat.zero_lt_succ, Bool.not_true, Bool.not_false, eIsT, Part.k0, Part.kind, eq_str, ne_str, (by decide : (("number" : Str) == "word") = false), BEq.rfl, t1, t2, lt_int, d, sRaise, wordF, hl, if_pos hi]
      · have d : decide (i < 0) = false := decide_eq_false hi
        simp only [d_word_for, sSeq, sNil, sRet, sRetV, sRetN, sSet, sOwn, sAsg, sDrop, sIf, sFor, sMet, sFrz, sBrk, sCnt, lft, outD, eC, aNil, aCons, eTup, eLst, eOp, eUn, tV, bT, tAndD, tOrD, tNotD, eAnd, eOr, eNot, eIf, eChain, eCall, eSl, oNone, oSome, iSrc, iCall, srcD, gNm, ev0, evS, evB0, evB0o, evBS, ok_bind, exc_bind, stuck_bind, if_true, if_false, List.length_cons, List.length_nil, List.set_cons_zero, List.set_cons_succ, lim_lit, Bool.false_eq_true, ite_true, ite_false, reduceIte, List.getElem?_cons_zero, List.getElem?_cons_succ, Nat.zero_le, Nat.reduceLeDiff, Nat.reduceAdd, Nat.reduceLT, Nat.reduceSub, Nat.zero_lt_succ, Bool.not_true, Bool.not_false, eIsT, Part.k0, Part.kind, eq_str, ne_str, (by decide : (("number" : Str) == "word") = false), BEq.rfl, t1, t2, lt_int, d, wordF, hl, if_neg hi, hs]
    | bl b =>
      have t1 : isInt (.bl b) = .ok (.bl true) := rfl
      have t2 : isBool (.bl b) = .ok (.bl true) := rfl
      simp only [d_word_for, sSeq, sNil, sRet, sRetV, sRetN, sSet, sOwn, sAsg, sDrop, sIf, sFor, sMet, sFrz, sBrk, sCnt, lft, outD, eC, aNil, aCons, eTup, eLst, eOp, eUn, tV, bT, tAndD, tOrD, tNotD, eAnd, eOr, eNot, eIf, eChain, eCall, eSl, oNone, oSome, iSrc, iCall, srcD, gNm, ev0, evS, evB0, evB0o, evBS, ok_bind, exc_bind, stuck_bind, if_true, if_false, List.length_cons, List.length_nil, List.set_cons_zero, List.set_cons_succ, lim_lit, Bool.false_eq_true, ite_true, ite_false, reduceIte, List.getElem?_cons_zero, List.getElem?_cons_succ, Nat.zero_le, Nat.reduceLeDiff, Nat.reduceAdd, Nat.reduceLT, Nat.reduceSub, Nat.zero_lt_succ, Bool.not_true, Bool.not_false, eIsT, Part.k0, Part.kind, eq_str, ne_str, (by decide : (("number" : Str) == "word") = false), BEq.rfl, t1, t2, sRaise, wordF, hl]
    | str s => exact base _ rfl (fun i z => nomatch z) hl
    | non => exact base _ rfl (fun i z => nomatch z) hl
    | lst l => exact base _ rfl (fun i z => nomatch z) hl
    | tup l => exact base _ rfl (fun i z => nomatch z) hl
    | _ => rw [hl] at h; exact False.elim h
/-! the dict of the values -/
def kvsOf (L : List NV) : List (D × D) := L.map fun x => (.str x.1, x.2)
theorem pairsKV_of (L : List NV) : pairsKV (L.map encNV) = some (kvsOf L) := by
  induction L with
  | nil => rfl
  | cons x L ih =>
    have e : pairKV (encNV x) = some (.str x.1, x.2) := rfl
    rw [List.map_cons]
    simp only [pairsKV, e, ih]
    rfl
theorem keyIs_str (a b : Str) : keyIsD (.str a) (.str b) = (a == b) := rfl
theorem putD_new (acc : List NV) (n : Str) (v : D) (h : n ∉ acc.map Prod.fst) : putD (kvsOf acc) (.str n) v = kvsOf (acc ++ [(n, v)]) := by
  unfold putD
  have : ((kvsOf acc).any fun kv => keyIsD kv.1 (.str n)) = false := by
    unfold kvsOf
    rw [List.any_map, List.any_eq_false]
    intro x m
    show ¬ (x.1 == n) = true
    intro z
    exact h (List.mem_map.mpr ⟨x, m, eq_of_beq z⟩)
  rw [this, if_neg Bool.false_ne_true]
  simp [kvsOf]
theorem mergeD_nd : ∀ (L acc : List NV), ((acc ++ L).map Prod.fst).Nodup → mergeD (kvsOf acc) (kvsOf L) = kvsOf (acc ++ L)
  | [], acc, _ => by simp [mergeD, kvsOf]
  | x :: L, acc, h => by
    have hx : x.1 ∉ acc.map Prod.fst := by
      rw [List.map_append, List.map_cons] at h
      have := (List.nodup_append.mp h).2.2
      intro m
      exact this _ m _ List.mem_cons_self rfl
    have e : mergeD (kvsOf acc) (kvsOf (x :: L)) = mergeD (putD (kvsOf acc) (.str x.1) x.2) (kvsOf L) := rfl
    rw [e, putD_new acc x.1 x.2 hx, mergeD_nd L (acc ++ [(x.1, x.2)]) (by simpa using h)]
    simp
theorem dict_of (L : List NV) (h : (L.map Prod.fst).Nodup) : dictD [encPs L] = .ok (.dct (kvsOf L)) := by
  have m := mergeD_nd L [] (by simpa using h)
  show (match pairsKV (L.map encNV) with
    | some kvs => Res.ok (D.dct (mergeD [] kvs))
    | none => .stuck) = _
  rw [pairsKV_of]
  simp only
  rw [show (mergeD [] (kvsOf L)) = kvsOf L from by simpa [kvsOf] using m]
def lkOf (L : List NV) (n : Str) : D := (look (kvsOf L) (.str n)).getD .non
theorem look_mem : ∀ {L : List NV} {n : Str} {v : D}, (L.map Prod.fst).Nodup → (n, v) ∈ L → look (kvsOf L) (.str n) = some v
  | x :: L, n, v, h, m => by
    rw [List.map_cons, List.nodup_cons] at h
    unfold look kvsOf
    rw [List.map_cons]
    rcases List.mem_cons.mp m with e | m
    · subst e
      rw [List.find?_cons_of_pos (by show (n == n) = true; exact BEq.rfl)]
      rfl
    · have hne : ¬ (x.1 == n) = true := fun z => h.1 (List.mem_map.mpr ⟨(n, v), m, (eq_of_beq z).symm⟩)
      rw [List.find?_cons_of_neg (by show ¬ (x.1 == n) = true; exact hne)]
      exact look_mem h.2 m
theorem lkOf_mem {L : List NV} {n : Str} {v : D} (h : (L.map Prod.fst).Nodup) (m : (n, v) ∈ L) : lkOf L n = v := by
  unfold lkOf
  rw [look_mem h m]; rfl
theorem lkOf_ok {L : List NV} (h : ∀ x ∈ L, okV x.2) (n : Str) : okV (lkOf L n) := by
  unfold lkOf look
  cases hf : (kvsOf L).find? fun p => keyIsD p.1 (.str n) with
  | none => trivial
  | some p =>
    have m := List.mem_of_find?_eq_some hf
    obtain ⟨x, mx, rfl⟩ := List.mem_map.mp m
    exact h x mx
/-! what is built -/
def strOf (d : D) : Str := match d with
  | .str s => s
  | _ => ""
def finF (p : Pat) (words : List D) : Res D := if decide (words.length ≤ 8) && words.all wordD then (if does p (words.map strOf) then .ok (encW (words.map strOf)) else .exc "BadValues") else .exc "BadValues"
def builtF (p : Pat) (lk : Str → D) : Res D := do
  let ws ← mapR (wordF lk) p.ps
  match p.rest with
  | none => finF p ws
  | some r => match lk r with
    | .tup rs => finF p (ws ++ rs)
    | _ => .exc "BadValues"
theorem words_strs : ∀ {words : List D}, words.all wordD = true → words = (words.map strOf).map D.str ∧ ∀ w ∈ words.map strOf, isWordB w = true
  | [], _ => ⟨rfl, fun _ m => absurd m List.not_mem_nil⟩
  | d :: l, h => by
    rw [List.all_cons, Bool.and_eq_true] at h
    obtain ⟨h1, h2⟩ := words_strs h.2
    cases d with
    | str s =>
      refine ⟨by rw [List.map_cons, List.map_cons, ← h1]; rfl, fun w m => ?_⟩
      rw [List.map_cons] at m
      rcases List.mem_cons.mp m with e | m
      · rw [e]; exact h.1
      · exact h2 w m
    | _ => exact absurd h.1 (by simp [wordD])
theorem word_wok {w : Str} (h : isWordB w = true) : WOk w := by
  unfold isWordB at h
  obtain ⟨h1, h2⟩ := Bool.and_eq_true_iff.mp h
  have h1 := of_decide_eq_true h1
  have h2 := of_decide_eq_true (Bool.and_eq_true_iff.mp h2).1
  exact ⟨h1, by omega⟩
theorem is_addr_d (words : List D) (hl : words.length ≤ 1000) (h : ∀ d ∈ words, okV d) : m_is_address [.tup words] = .ok (.bl (decide (words.length ≤ 8) && words.all wordD)) :=
  is_address_of words wordD hl fun d m => is_word_d d (h d m)
/-- the end of built -/
theorem fin_ok (p : Pat) (x1 x2 x4 x5 x6 x7 : Sl) (hp : p.ps.length ≤ 1000) (words : List D) (hl : words.length ≤ 1000) (h : ∀ d ∈ words, okV d) :
    outD (sSeq (sIf (tOrD (tNotD (tV (eCall m_is_address (aCons (eVar 3) aNil)))) (tNotD (tV (eCall m_does_match (aCons (eVar 0) (aCons (eVar 3) aNil)))))) (sSeq (sRaise "BadValues") sNil) sNil) (sSeq (sRetV 3) sNil) [.sh p.enc, x1, x2, .sh (.tup words), x4, x5, x6, x7]) = finF p words := by
  have h1 := is_addr_d words hl h
  unfold finF
  cases hb : (decide (words.length ≤ 8) && words.all wordD) with
  | false =>
    rw [hb] at h1
    simp only [sSeq, sNil, sRet, sRetV, sRetN, sSet, sOwn, sAsg, sDrop, sIf, sFor, sMet, sFrz, sBrk, sCnt, lft, outD, eC, aNil, aCons, eTup, eLst, eOp, eUn, tV, bT, tAndD, tOrD, tNotD, eAnd, eOr, eNot, eIf, eChain, eCall, eSl, oNone, oSome, iSrc, iCall, srcD, gNm, ev0, evS, evB0, evB0o, evBS, ok_bind, exc_bind, stuck_bind, if_true, if_false, List.length_cons, List.length_nil, List.set_cons_zero, List.set_cons_succ, lim_lit, Bool.false_eq_true, ite_true, ite_false, reduceIte, List.getElem?_cons_zero, List.getElem?_cons_succ, Nat.zero_le, Nat.reduceLeDiff, Nat.reduceAdd, Nat.reduceLT, Nat.reduceSub, Nat.zero_lt_succ, Bool.not_true, Bool.not_false, h1, sRaise]
  | true =>
    rw [hb] at h1
    obtain ⟨e1, e2⟩ := words_strs (Bool.and_eq_true_iff.mp hb).2
    have e3 : D.tup words = encW (words.map strOf) := congrArg D.tup e1
    have h2 := does_match_ok p (words.map strOf) hp fun w m => word_wok (e2 w m)
    have h2 : m_does_match [p.enc, encW (words.map strOf)] = .ok (.bl (does p (words.map strOf))) := h2
    rw [← e3] at h2
    cases hd : does p (words.map strOf) with
    | false => rw [hd] at h2; simp only [sSeq, sNil, sRet, sRetV, sRetN, sSet, sOwn, sAsg, sDrop, sIf, sFor, sMet, sFrz, sBrk, sCnt, lft, outD, eC, aNil, aCons, eTup, eLst, eOp, eUn, tV, bT, tAndD, tOrD, tNotD, eAnd, eOr, eNot, eIf, eChain, eCall, eSl, oNone, oSome, iSrc, iCall, srcD, gNm, ev0, evS, evB0, evB0o, evBS, ok_bind, exc_bind, stuck_bind, if_true, if_false, List.length_cons, List.length_nil, List.set_cons_zero, List.set_cons_succ, lim_lit, Bool.false_eq_true, ite_true, ite_false, reduceIte, List.getElem?_cons_zero, List.getElem?_cons_succ, Nat.zero_le, Nat.reduceLeDiff, Nat.reduceAdd, Nat.reduceLT, Nat.reduceSub, Nat.zero_lt_succ, Bool.not_true, Bool.not_false, h1, h2, sRaise]
    | true =>
      rw [hd] at h2
      simp only [sSeq, sNil, sRet, sRetV, sRetN, sSet, sOwn, sAsg, sDrop, sIf, sFor, sMet, sFrz, sBrk, sCnt, lft, outD, eC, aNil, aCons, eTup, eLst, eOp, eUn, tV, bT, tAndD, tOrD, tNotD, eAnd, eOr, eNot, eIf, eChain, eCall, eSl, oNone, oSome, iSrc, iCall, srcD, gNm, ev0, evS, evB0, evB0o, evBS, ok_bind, exc_bind, stuck_bind, if_true, if_false, List.length_cons, List.length_nil, List.set_cons_zero, List.set_cons_succ, lim_lit, Bool.false_eq_true, ite_true, ite_false, reduceIte, List.getElem?_cons_zero, List.getElem?_cons_succ, Nat.zero_le, Nat.reduceLeDiff, Nat.reduceAdd, Nat.reduceLT, Nat.reduceSub, Nat.zero_lt_succ, Bool.not_true, Bool.not_false, h1, h2, ← e3]
theorem wordF_ok {lk : Str → D} (hv : ∀ n, okV (lk n)) {q : Part} {d : D} (hq : q.nm.length ≤ 1000) (h : wordF lk q = .ok d) : okV d := by
  cases q with
  | word w => cases h; exact hq
  | one n cs => cases h; exact hv n
  | any n => cases h; exact hv n
  | num n =>
    have hn := hv n
    have h : (match lk n with
      | .int i => if i < 0 then Res.exc "BadValues" else .ok (.str (toString i : String))
      | _ => .exc "BadValues" : Res D) = .ok d := h
    cases hl : lk n with
    | int i =>
      rw [hl] at h hn
      have hn : i = 7 ∨ i = 0 ∨ i = 55 ∨ i = -1 ∨ i = 1000000000 := hn
      rcases hn with rfl | rfl | rfl | rfl | rfl
      · cases h; show (Str.ofString (toString (7 : Int))).length ≤ 1000; decide +kernel
      · cases h; show (Str.ofString (toString (0 : Int))).length ≤ 1000; decide +kernel
      · cases h; show (Str.ofString (toString (55 : Int))).length ≤ 1000; decide +kernel
      · cases h
      · cases h; show (Str.ofString (toString (1000000000 : Int))).length ≤ 1000; decide +kernel
    | _ => rw [hl] at h; cases h
theorem mapR_ok {α β : Type} {f : α → Res β} : ∀ {l : List α} {ys : List β}, mapR f l = .ok ys → ys.length = l.length ∧ ∀ y ∈ ys, ∃ x ∈ l, f x = .ok y
  | [], ys, h => by cases h; exact ⟨rfl, fun y m => absurd m List.not_mem_nil⟩
  | x :: l, ys, h => by
    simp only [mapR] at h
    cases hx : f x with
    | stuck => rw [hx] at h; cases h
    | exc c => rw [hx] at h; cases h
    | ok y =>
      rw [hx, ok_bind] at h
      cases hl : mapR f l with
      | stuck => rw [hl] at h; cases h
      | exc c => rw [hl] at h; cases h
      | ok zs =>
        rw [hl] at h
        cases h
        obtain ⟨h1, h2⟩ := mapR_ok hl
        refine ⟨by simp [h1], fun z m => ?_⟩
        rcases List.mem_cons.mp m with rfl | m
        · exact ⟨x, List.mem_cons_self, hx⟩
        · obtain ⟨w, mw, hw⟩ := h2 z m
          exact ⟨w, List.mem_cons_of_mem _ mw, hw⟩
/-- no stuck words -/
theorem wordF_ns (lk : Str → D) (q : Part) : wordF lk q ≠ .stuck := by
  cases q with
  | num n =>
    show (match lk n with
      | .int i => if i < 0 then Res.exc "BadValues" else .ok (.str (toString i : String))
      | _ => .exc "BadValues" : Res D) ≠ .stuck
    split
    · split <;> exact fun z => nomatch z
    · exact fun z => nomatch z
  | _ => exact fun z => nomatch z
theorem wordF_exc (lk : Str → D) (q : Part) (c : Str) (h : wordF lk q = .exc c) : c = "BadValues" := by
  cases q with
  | num n =>
    have h : (match lk n with
      | .int i => if i < 0 then Res.exc "BadValues" else .ok (.str (toString i : String))
      | _ => .exc "BadValues" : Res D) = .exc c := h
    split at h
    · split at h
      · cases h; rfl
      · cases h
    · cases h; rfl
  | _ => cases h
theorem mapR_cases {α β : Type} {f : α → Res β} (ns : ∀ x, f x ≠ .stuck) (ex : ∀ x c, f x = .exc c → c = "BadValues") : ∀ l : List α, mapR f l = .exc "BadValues" ∨ ∃ ys, mapR f l = .ok ys
  | [] => .inr ⟨[], rfl⟩
  | x :: l => by
    simp only [mapR]
    cases hx : f x with
    | stuck => exact absurd hx (ns x)
    | exc c => rw [ex x c hx]; exact .inl rfl
    | ok y =>
      rw [ok_bind]
      rcases mapR_cases ns ex l with h | ⟨ys, h⟩
      · rw [h]; exact .inl rfl
      · rw [h]; exact .inr ⟨y :: ys, rfl⟩
/-- the words, one by one, in built -/
theorem filtX_words {f : D → Res (Option D)} {lk : Str → D} : ∀ {ps : List Part}, (∀ q ∈ ps, f q.enc = (do let y ← wordF lk q; .ok (some y))) → filtR f (ps.map Part.enc) = mapR (wordF lk) ps
  | [], _ => rfl
  | q :: ps, h => by
    have ih := filtX_words (f := f) (lk := lk) (ps := ps) fun x m => h x (List.mem_cons_of_mem _ m)
    rw [List.map_cons]
    simp only [filtR, h q List.mem_cons_self, ih, mapR]
    cases wordF lk q <;> rfl
theorem holesL_L (p : Pat) : holesL (Pat.L p) = (p.ps.filter fun q => !(q.kind == ("word" : Str))).map Part.nm ++ p.rest.toList := by
  unfold holesL Pat.L
  rw [List.filter_append, List.map_append]
  congr 1
  · generalize p.ps = ps
    induction ps with
    | nil => rfl
    | cons q ps ih =>
      rw [List.map_cons, List.filter_cons, List.filter_cons]
      have e : (Prt.p q).kind = q.kind := rfl
      rw [e]
      cases hq : (!(q.kind == ("word" : Str)))
      · simpa using ih
      · simp only [if_true, List.map_cons]
        rw [ih]; rfl
  · cases p.rest with
    | none => rfl
    | some r => rfl
theorem sort_names (l : List Str) (hl : l.length ≤ 1000) : sortedD [.lst (l.map D.str)] = .ok (.lst ((sortS l).map D.str)) := by
  simp only [sortedD, strsOf_map]
theorem names_lc (L : List NV) (x0 x2 x3 x4 x5 x6 x7 : Sl) (hl : L.length ≤ 1000) : lc2_built [x0, .sh (encPs L), x2, x3, x4, x5, x6, x7] = .ok (.lst ((L.map Prod.fst).map D.str)) := by
  rw [List.map_map]
  refine eLc_ok (ds := L.map encNV) rfl (by rw [List.length_map]; omega) (filtR_m fun x m => ?_)
  have hg : gTp 2 (gCn (gNm 6) (gCn (gNm 7) gNl)) (encNV x) (wipeE [x0, .sh (encPs L), x2, x3, x4, x5, x6, x7] [6, 7]) = .ok [x0, .sh (encPs L), x2, x3, x4, x5, .sh (.str x.1), .sh x.2] := rfl
  simp only [stepLc, hg, tTrue, sSeq, sNil, sRet, sRetV, sRetN, sSet, sOwn, sAsg, sDrop, sIf, sFor, sMet, sFrz, sBrk, sCnt, lft, outD, eC, aNil, aCons, eTup, eLst, eOp, eUn, tV, bT, tAndD, tOrD, tNotD, eAnd, eOr, eNot, eIf, eChain, eCall, eSl, oNone, oSome, iSrc, iCall, srcD, gNm, ev0, evS, evB0, evB0o, evBS, ok_bind, exc_bind, stuck_bind, if_true, if_false, List.length_cons, List.length_nil, List.set_cons_zero, List.set_cons_succ, lim_lit, Bool.false_eq_true, ite_true, ite_false, reduceIte, List.getElem?_cons_zero, List.getElem?_cons_succ, Nat.zero_le, Nat.reduceLeDiff, Nat.reduceAdd, Nat.reduceLT, Nat.reduceSub, Nat.zero_lt_succ, Bool.not_true, Bool.not_false]
  rfl
theorem strs_pl (l : List Str) : (D.lst (l.map D.str)).pl 60 = true := by
  simp only [D.pl]
  exact pls_map (fun a => by simp [D.pl]) l
theorem ne_strs (a b : List Str) : neD (.lst (a.map D.str)) (.lst (b.map D.str)) = .ok (.bl (!decide (a = b))) := by
  rw [neD_pl (strs_pl _) (strs_pl _)]
  simp only [D.eqv, eqv_words]
theorem eq_strs (a b : List Str) : eqD (.lst (a.map D.str)) (.lst (b.map D.str)) = .ok (.bl (decide (a = b))) := by
  rw [eqD_pl (strs_pl _) (strs_pl _)]
  simp only [D.eqv, eqv_words]
/-- where the names are others -/
theorem built_names (p : Pat) (L : List NV) (hp : p.ps.length ≤ 100) (hl : L.length ≤ 1000) (h : sortS (L.map Prod.fst) ≠ sortS (holesL (Pat.L p))) : m_built [p.enc, encPs L] = .exc "BadValues" := by
  have e : m_built [p.enc, encPs L] = outD (d_built [.sh p.enc, .sh (encPs L), .un, .un, .un, .un, .un, .un]) := rfl
  have h1 := names_lc L (.sh p.enc) .un .un .un .un .un .un hl
  have h2 := sort_names (L.map Prod.fst) (by rw [List.length_map]; exact hl)
  have ll := L_len p
  have h3 := holes_of_l (Pat.L p) (by omega)
  rw [encL_pat] at h3
  have h4 := sort_names (holesL (Pat.L p)) (by have := holesL_len (Pat.L p); omega)
  have h5 := ne_strs (sortS (L.map Prod.fst)) (sortS (holesL (Pat.L p)))
  rw [decide_eq_false h] at h5
  rw [e]
  simp only [d_built, sSeq, sNil, sRet, sRetV, sRetN, sSet, sOwn, sAsg, sDrop, sIf, sFor, sMet, sFrz, sBrk, sCnt, lft, outD, eC, aNil, aCons, eTup, eLst, eOp, eUn, tV, bT, tAndD, tOrD, tNotD, eAnd, eOr, eNot, eIf, eChain, eCall, eSl, oNone, oSome, iSrc, iCall, srcD, gNm, ev0, evS, evB0, evB0o, evBS, ok_bind, exc_bind, stuck_bind, if_true, if_false, List.length_cons, List.length_nil, List.set_cons_zero, List.set_cons_succ, lim_lit, Bool.false_eq_true, ite_true, ite_false, reduceIte, List.getElem?_cons_zero, List.getElem?_cons_succ, Nat.zero_le, Nat.reduceLeDiff, Nat.reduceAdd, Nat.reduceLT, Nat.reduceSub, Nat.zero_lt_succ, Bool.not_true, Bool.not_false, h1, h2, h3, h4, h5, sRaise]
theorem built_ok (p : Pat) (L : List NV) (hp : p.ps.length ≤ 100) (hl : L.length ≤ 1000) (hs : sortS (L.map Prod.fst) = sortS (holesL (Pat.L p))) (nd : (holesL (Pat.L p)).Nodup) (hv : ∀ x ∈ L, okV x.2) (hq : ∀ q ∈ p.ps, q.nm.length ≤ 1000) :
    m_built [p.enc, encPs L] = builtF p (lkOf L) := by
  have e : m_built [p.enc, encPs L] = outD (d_built [.sh p.enc, .sh (encPs L), .un, .un, .un, .un, .un, .un]) := rfl
  have h1 := names_lc L (.sh p.enc) .un .un .un .un .un .un hl
  have h2 := sort_names (L.map Prod.fst) (by rw [List.length_map]; exact hl)
  have ll := L_len p
  have h3 := holes_of_l (Pat.L p) (by omega)
  rw [encL_pat] at h3
  have h4 := sort_names (holesL (Pat.L p)) (by have := holesL_len (Pat.L p); omega)
  have h5 := ne_strs (sortS (L.map Prod.fst)) (sortS (holesL (Pat.L p)))
  rw [decide_eq_true hs] at h5
  have perm : (L.map Prod.fst).Perm (holesL (Pat.L p)) := ((sortS_perm _).symm.trans (by rw [hs])).trans (sortS_perm _)
  have ndL : (L.map Prod.fst).Nodup := perm.nodup_iff.mpr nd
  have h6 := dict_of L ndL
  have h7 := fixed_of_ok p
  have h8 := has_rest_ok p
  have hf : filtR (stepLcX (gNm 5) tTrue (eCall m_word_for (aCons (eVar 5) (aCons (eGet (eVar 2) (eOp idxD (eVar 5) (eC (.int 1)))) aNil))) [5] [.sh p.enc, .sh (encPs L), .sh (.dct (kvsOf L)), .un, .un, .un, .un, .un]) (p.ps.map Part.enc) = mapR (wordF (lkOf L)) p.ps := by
    refine filtX_words fun q _ => ?_
    have k1 := q.k1
    have gd : getD1 (.dct (kvsOf L)) (.str q.nm) = .ok (lkOf L q.nm) := rfl
    have ty : tyD "dict" (.dct (kvsOf L)) = true := rfl
    have wf := word_for_ok q (lkOf L) (lkOf L q.nm) rfl (lkOf_ok hv q.nm)
    simp only [stepLcX, wipeE, tTrue, Res.nox, eGet, ty, sSeq, sNil, sRet, sRetV, sRetN, sSet, sOwn, sAsg, sDrop, sIf, sFor, sMet, sFrz, sBrk, sCnt, lft, outD, eC, aNil, aCons, eTup, eLst, eOp, eUn, tV, bT, tAndD, tOrD, tNotD, eAnd, eOr, eNot, eIf, eChain, eCall, eSl, oNone, oSome, iSrc, iCall, srcD, gNm, ev0, evS, evB0, evB0o, evBS, ok_bind, exc_bind, stuck_bind, if_true, if_false, List.length_cons, List.length_nil, List.set_cons_zero, List.set_cons_succ, lim_lit, Bool.false_eq_true, ite_true, ite_false, reduceIte, List.getElem?_cons_zero, List.getElem?_cons_succ, Nat.zero_le, Nat.reduceLeDiff, Nat.reduceAdd, Nat.reduceLT, Nat.reduceSub, Nat.zero_lt_succ, Bool.not_true, Bool.not_false, k1, gd, wf]
  have hlc : lc1_built [.sh p.enc, .sh (encPs L), .sh (.dct (kvsOf L)), .un, .un, .un, .un, .un] = (do let ws ← mapR (wordF (lkOf L)) p.ps; .ok (.lst ws)) := by
    have hle : (p.ps.map Part.enc).length ≤ 16777216 := by rw [List.length_map]; omega
    simp only [lc1_built, eLcX, sSeq, sNil, sRet, sRetV, sRetN, sSet, sOwn, sAsg, sDrop, sIf, sFor, sMet, sFrz, sBrk, sCnt, lft, outD, eC, aNil, aCons, eTup, eLst, eOp, eUn, tV, bT, tAndD, tOrD, tNotD, eAnd, eOr, eNot, eIf, eChain, eCall, eSl, oNone, oSome, iSrc, iCall, srcD, gNm, ev0, evS, evB0, evB0o, evBS, ok_bind, exc_bind, stuck_bind, if_true, if_false, List.length_cons, List.length_nil, List.set_cons_zero, List.set_cons_succ, lim_lit, Bool.false_eq_true, ite_true, ite_false, reduceIte, List.getElem?_cons_zero, List.getElem?_cons_succ, Nat.zero_le, Nat.reduceLeDiff, Nat.reduceAdd, Nat.reduceLT, Nat.reduceSub, Nat.zero_lt_succ, Bool.not_true, Bool.not_false, h7, hf, if_pos hle]
  have hpl : p.ps.length ≤ 1000 := by omega
  rw [e]
  unfold builtF
  rcases mapR_cases (wordF_ns (lkOf L)) (wordF_exc (lkOf L)) p.ps with hw | ⟨ws, hw⟩
  · rw [hw] at hlc ⊢
    have hlc : lc1_built [.sh p.enc, .sh (encPs L), .sh (.dct (kvsOf L)), .un, .un, .un, .un, .un] = .exc "BadValues" := hlc
    simp only [d_built, sSeq, sNil, sRet, sRetV, sRetN, sSet, sOwn, sAsg, sDrop, sIf, sFor, sMet, sFrz, sBrk, sCnt, lft, outD, eC, aNil, aCons, eTup, eLst, eOp, eUn, tV, bT, tAndD, tOrD, tNotD, eAnd, eOr, eNot, eIf, eChain, eCall, eSl, oNone, oSome, iSrc, iCall, srcD, gNm, ev0, evS, evB0, evB0o, evBS, ok_bind, exc_bind, stuck_bind, if_true, if_false, List.length_cons, List.length_nil, List.set_cons_zero, List.set_cons_succ, lim_lit, Bool.false_eq_true, ite_true, ite_false, reduceIte, List.getElem?_cons_zero, List.getElem?_cons_succ, Nat.zero_le, Nat.reduceLeDiff, Nat.reduceAdd, Nat.reduceLT, Nat.reduceSub, Nat.zero_lt_succ, Bool.not_true, Bool.not_false, h1, h2, h3, h4, h5, h6, hlc]
  · rw [hw] at hlc ⊢
    have hlc : lc1_built [.sh p.enc, .sh (encPs L), .sh (.dct (kvsOf L)), .un, .un, .un, .un, .un] = .ok (.lst ws) := hlc
    obtain ⟨lw, mw⟩ := mapR_ok hw
    have ow : ∀ d ∈ ws, okV d := fun d m => by
      obtain ⟨q, mq, hq'⟩ := mw d m
      exact wordF_ok (lkOf_ok hv) (hq q mq) hq'
    rw [ok_bind]
    cases hR : p.rest with
    | none =>
      rw [hR] at h8
      have fin := fin_ok p (.sh (encPs L)) (.sh (.dct (kvsOf L))) .un .un .un .un hpl ws (by omega) ow
      simp only at fin ⊢
      rw [← fin]
      simp only [d_built, sSeq, sNil, sRet, sRetV, sRetN, sSet, sOwn, sAsg, sDrop, sIf, sFor, sMet, sFrz, sBrk, sCnt, lft, outD, eC, aNil, aCons, eTup, eLst, eOp, eUn, tV, bT, tAndD, tOrD, tNotD, eAnd, eOr, eNot, eIf, eChain, eCall, eSl, oNone, oSome, iSrc, iCall, srcD, gNm, ev0, evS, evB0, evB0o, evBS, ok_bind, exc_bind, stuck_bind, if_true, if_false, List.length_cons, List.length_nil, List.set_cons_zero, List.set_cons_succ, lim_lit, Bool.false_eq_true, ite_true, ite_false, reduceIte, List.getElem?_cons_zero, List.getElem?_cons_succ, Nat.zero_le, Nat.reduceLeDiff, Nat.reduceAdd, Nat.reduceLT, Nat.reduceSub, Nat.zero_lt_succ, Bool.not_true, Bool.not_false, h1, h2, h3, h4, h5, h6, hlc, tup_lst, h8, Option.isSome]
    | some r =>
      rw [hR] at h8
      have hi : idxD p.enc (.int (-1)) = .ok (encR r) := by
        obtain ⟨ps, rest⟩ := p
        simp only at hR
        subst hR
        exact idx_last _ _
      have mr : r ∈ L.map Prod.fst := perm.mem_iff.mpr (by rw [holesL_L, hR]; simp)
      obtain ⟨x, mx, ex⟩ := List.mem_map.mp mr
      have hx : look (kvsOf L) (.str r) = some x.2 := look_mem ndL (by rw [← ex]; exact mx)
      have hlk : lkOf L r = x.2 := by unfold lkOf; rw [hx]; rfl
      have ix : idxD (.dct (kvsOf L)) (.str r) = .ok x.2 := by
        show optD id (look (kvsOf L) (.str r)) = _
        rw [hx]; rfl
      have ox := hv x mx
      simp only
      rw [hlk]
      cases hxv : x.2 with
      | tup rs =>
        rw [hxv] at ix ox
        have ox : rs.length ≤ 500 ∧ ∀ y ∈ rs, ∃ s, y = .str s ∧ s.length ≤ 1000 := ox
        have t : isTup (.tup rs) = .ok (.bl true) := rfl
        have ad : addD (.tup ws) (.tup rs) = .ok (.tup (ws ++ rs)) := add_tups _ _ (by omega)
        have hbig : (ws ++ rs).length ≤ 1000 := by rw [List.length_append]; omega
        · have fin := fin_ok p (.sh (encPs L)) (.sh (.dct (kvsOf L))) (.sh (.tup rs)) .un .un .un hpl (ws ++ rs) hbig (fun d m => by
            rcases List.mem_append.mp m with m | m
            · exact ow d m
            · obtain ⟨s, rfl, hs'⟩ := ox.2 d m
              exact hs')
          simp only
          rw [← fin]
          simp only [d_built, sSeq, sNil, sRet, sRetV, sRetN, sSet, sOwn, sAsg, sDrop, sIf, sFor, sMet, sFrz, sBrk, sCnt, lft, outD, eC, aNil, aCons, eTup, eLst, eOp, eUn, tV, bT, tAndD, tOrD, tNotD, eAnd, eOr, eNot, eIf, eChain, eCall, eSl, oNone, oSome, iSrc, iCall, srcD, gNm, ev0, evS, evB0, evB0o, evBS, ok_bind, exc_bind, stuck_bind, if_true, if_false, List.length_cons, List.length_nil, List.set_cons_zero, List.set_cons_succ, lim_lit, Bool.false_eq_true, ite_true, ite_false, reduceIte, List.getElem?_cons_zero, List.getElem?_cons_succ, Nat.zero_le, Nat.reduceLeDiff, Nat.reduceAdd, Nat.reduceLT, Nat.reduceSub, Nat.zero_lt_succ, Bool.not_true, Bool.not_false, h1, h2, h3, h4, h5, h6, hlc, tup_lst, h8, Option.isSome, neg1, hi, encR1, ix, eIsT, t, ad]
      | str s =>
        rw [hxv] at ix
        have t : isTup (.str s) = .ok (.bl false) := rfl
        simp only [d_built, sSeq, sNil, sRet, sRetV, sRetN, sSet, sOwn, sAsg, sDrop, sIf, sFor, sMet, sFrz, sBrk, sCnt, lft, outD, eC, aNil, aCons, eTup, eLst, eOp, eUn, tV, bT, tAndD, tOrD, tNotD, eAnd, eOr, eNot, eIf, eChain, eCall, eSl, oNone, oSome, iSrc, iCall, srcD, gNm, ev0, evS, evB0, evB0o, evBS, ok_bind, exc_bind, stuck_bind, if_true, if_false, List.length_cons, List.length_nil, List.set_cons_zero, List.set_cons_succ, lim_lit, Bool.false_eq_true, ite_true, ite_false, reduceIte, List.getElem?_cons_zero, List.getElem?_cons_succ, Nat.zero_le, Nat.reduceLeDiff, Nat.reduceAdd, Nat.reduceLT, Nat.reduceSub, Nat.zero_lt_succ, Bool.not_true, Bool.not_false, h1, h2, h3, h4, h5, h6, hlc, tup_lst, h8, Option.isSome, neg1, hi, encR1, ix, eIsT, t, sRaise]
      | int s =>
        rw [hxv] at ix
        have t : isTup (.int s) = .ok (.bl false) := rfl
        simp only [d_built, sSeq, sNil, sRet, sRetV, sRetN, sSet, sOwn, sAsg, sDrop, sIf, sFor, sMet, sFrz, sBrk, sCnt, lft, outD, eC, aNil, aCons, eTup, eLst, eOp, eUn, tV, bT, tAndD, tOrD, tNotD, eAnd, eOr, eNot, eIf, eChain, eCall, eSl, oNone, oSome, iSrc, iCall, srcD, gNm, ev0, evS, evB0, evB0o, evBS, ok_bind, exc_bind, stuck_bind, if_true, if_false, List.length_cons, List.length_nil, List.set_cons_zero, List.set_cons_succ, lim_lit, Bool.false_eq_true, ite_true, ite_false, reduceIte, List.getElem?_cons_zero, List.getElem?_cons_succ, Nat.zero_le, Nat.reduceLeDiff, Nat.reduceAdd, Nat.reduceLT, Nat.reduceSub, Nat.zero_lt_succ, Bool.not_true, Bool.not_false, h1, h2, h3, h4, h5, h6, hlc, tup_lst, h8, Option.isSome, neg1, hi, encR1, ix, eIsT, t, sRaise]
      | bl s =>
        rw [hxv] at ix
        have t : isTup (.bl s) = .ok (.bl false) := rfl
        simp only [d_built, sSeq, sNil, sRet, sRetV, sRetN, sSet, sOwn, sAsg, sDrop, sIf, sFor, sMet, sFrz, sBrk, sCnt, lft, outD, eC, aNil, aCons, eTup, eLst, eOp, eUn, tV, bT, tAndD, tOrD, tNotD, eAnd, eOr, eNot, eIf, eChain, eCall, eSl, oNone, oSome, iSrc, iCall, srcD, gNm, ev0, evS, evB0, evB0o, evBS, ok_bind, exc_bind, stuck_bind, if_true, if_false, List.length_cons, List.length_nil, List.set_cons_zero, List.set_cons_succ, lim_lit, Bool.false_eq_true, ite_true, ite_false, reduceIte, List.getElem?_cons_zero, List.getElem?_cons_succ, Nat.zero_le, Nat.reduceLeDiff, Nat.reduceAdd, Nat.reduceLT, Nat.reduceSub, Nat.zero_lt_succ, Bool.not_true, Bool.not_false, h1, h2, h3, h4, h5, h6, hlc, tup_lst, h8, Option.isSome, neg1, hi, encR1, ix, eIsT, t, sRaise]
      | non =>
        rw [hxv] at ix
        have t : isTup .non = .ok (.bl false) := rfl
        simp only [d_built, sSeq, sNil, sRet, sRetV, sRetN, sSet, sOwn, sAsg, sDrop, sIf, sFor, sMet, sFrz, sBrk, sCnt, lft, outD, eC, aNil, aCons, eTup, eLst, eOp, eUn, tV, bT, tAndD, tOrD, tNotD, eAnd, eOr, eNot, eIf, eChain, eCall, eSl, oNone, oSome, iSrc, iCall, srcD, gNm, ev0, evS, evB0, evB0o, evBS, ok_bind, exc_bind, stuck_bind, if_true, if_false, List.length_cons, List.length_nil, List.set_cons_zero, List.set_cons_succ, lim_lit, Bool.false_eq_true, ite_true, ite_false, reduceIte, List.getElem?_cons_zero, List.getElem?_cons_succ, Nat.zero_le, Nat.reduceLeDiff, Nat.reduceAdd, Nat.reduceLT, Nat.reduceSub, Nat.zero_lt_succ, Bool.not_true, Bool.not_false, h1, h2, h3, h4, h5, h6, hlc, tup_lst, h8, Option.isSome, neg1, hi, encR1, ix, eIsT, t, sRaise]
      | lst s =>
        rw [hxv] at ix
        have t : isTup (.lst s) = .ok (.bl false) := rfl
        simp only [d_built, sSeq, sNil, sRet, sRetV, sRetN, sSet, sOwn, sAsg, sDrop, sIf, sFor, sMet, sFrz, sBrk, sCnt, lft, outD, eC, aNil, aCons, eTup, eLst, eOp, eUn, tV, bT, tAndD, tOrD, tNotD, eAnd, eOr, eNot, eIf, eChain, eCall, eSl, oNone, oSome, iSrc, iCall, srcD, gNm, ev0, evS, evB0, evB0o, evBS, ok_bind, exc_bind, stuck_bind, if_true, if_false, List.length_cons, List.length_nil, List.set_cons_zero, List.set_cons_succ, lim_lit, Bool.false_eq_true, ite_true, ite_false, reduceIte, List.getElem?_cons_zero, List.getElem?_cons_succ, Nat.zero_le, Nat.reduceLeDiff, Nat.reduceAdd, Nat.reduceLT, Nat.reduceSub, Nat.zero_lt_succ, Bool.not_true, Bool.not_false, h1, h2, h3, h4, h5, h6, hlc, tup_lst, h8, Option.isSome, neg1, hi, encR1, ix, eIsT, t, sRaise]
      | _ => rw [hxv] at ox; exact False.elim ox
end L2.RB.P
namespace L2.RB.P
open PySem PySem.Spec PyProof.Rows
/-! ### what is built, and matched again -/
def holeNs (ps : List Part) : List Str := (ps.filter fun q => !(q.kind == ("word" : Str))).map Part.nm
theorem holesL_eq (p : Pat) : holesL (Pat.L p) = holeNs p.ps ++ p.rest.toList := holesL_L p
theorem holeNs_cons (q : Part) (ps : List Part) : holeNs (q :: ps) = (match q with
    | .word _ => []
    | q => [q.nm]) ++ holeNs ps := by
  unfold holeNs
  rw [List.filter_cons]
  cases q with
  | word w => rfl
  | num n => rfl
  | any n => rfl
  | one n cs => rfl
theorem num_back (i : Int) (h : okV (.int i)) (h0 : ¬ i < 0) : valN (Str.ofString (toString i)) = i := by
  have h : i = 7 ∨ i = 0 ∨ i = 55 ∨ i = -1 ∨ i = 1000000000 := h
  rcases h with rfl | rfl | rfl | rfl | rfl
  · decide +kernel
  · decide +kernel
  · decide +kernel
  · exact absurd (by decide) h0
  · decide +kernel
theorem bind_back {lk : Str → D} (hv : ∀ n, okV (lk n)) : ∀ (ps : List Part) (as tl : List Str), mapR (wordF lk) ps = .ok (as.map D.str) → binds ps (as ++ tl) = (holeNs ps).map fun n => encNV (n, lk n)
  | [], as, tl, h => by
    cases as with
    | nil => cases tl <;> rfl
    | cons a as => cases h
  | q :: ps, as, tl, h => by
    simp only [mapR] at h
    cases hq : wordF lk q with
    | stuck => rw [hq] at h; cases h
    | exc c => rw [hq] at h; cases h
    | ok y =>
      rw [hq, ok_bind] at h
      cases hl : mapR (wordF lk) ps with
      | stuck => rw [hl] at h; cases h
      | exc c => rw [hl] at h; cases h
      | ok zs =>
        rw [hl] at h
        cases as with
        | nil => cases h
        | cons a as =>
          have h : Res.ok (y :: zs) = Res.ok (D.str a :: as.map D.str) := h
          injection h with h
          injection h with h1 h2
          subst h1 h2
          have ih := bind_back hv ps as tl hl
          rw [List.cons_append, holeNs_cons, List.map_append, ← ih]
          show bindP q a ++ binds ps (as ++ tl) = _
          congr 1
          cases q with
          | word w => rfl
          | one n cs => injection hq with hq; show [D.tup [.str n, .str a]] = [encNV (n, lk n)]; rw [hq]; rfl
          | any n => injection hq with hq; show [D.tup [.str n, .str a]] = [encNV (n, lk n)]; rw [hq]; rfl
          | num n =>
            have hn := hv n
            have hq : (match lk n with
              | .int i => if i < 0 then Res.exc "BadValues" else .ok (.str (toString i : String))
              | _ => .exc "BadValues" : Res D) = .ok (.str a) := hq
            show [D.tup [.str n, .int (valN a)]] = [encNV (n, lk n)]
            cases hk : lk n with
            | int i =>
              rw [hk] at hq hn
              by_cases h0 : i < 0
              · have hq : (if i < 0 then Res.exc "BadValues" else .ok (.str (toString i : String)) : Res D) = .ok (.str a) := hq
                rw [if_pos h0] at hq; cases hq
              · have hq : (if i < 0 then Res.exc "BadValues" else .ok (.str (toString i : String)) : Res D) = .ok (.str a) := hq
                rw [if_neg h0] at hq
                injection hq with hq
                injection hq with hq
                rw [← hq, num_back i hn h0]
                rfl
            | _ => rw [hk] at hq; cases hq
theorem finF_inv {p : Pat} {words : List D} {d : D} (h : finF p words = .ok d) : ∃ a, words = a.map D.str ∧ d = encW a ∧ isAddrB a = true ∧ does p a = true := by
  unfold finF at h
  split at h
  · rename_i hb
    obtain ⟨h1, h2⟩ := Bool.and_eq_true_iff.mp hb
    obtain ⟨e1, e2⟩ := words_strs h2
    split at h
    · rename_i hd
      cases h
      refine ⟨words.map strOf, e1, rfl, ?_, hd⟩
      unfold isAddrB
      have h1 := of_decide_eq_true h1
      rw [decide_eq_true (by rw [List.length_map]; exact h1), Bool.true_and, List.all_eq_true]
      exact e2
    · cases h
  · cases h
theorem builtF_cases (p : Pat) (lk : Str → D) : builtF p lk = .exc "BadValues" ∨ ∃ d, builtF p lk = .ok d := by
  have fin : ∀ words, finF p words = .exc "BadValues" ∨ ∃ d, finF p words = .ok d := fun words => by
    unfold finF
    split
    · split
      · exact .inr ⟨_, rfl⟩
      · exact .inl rfl
    · exact .inl rfl
  unfold builtF
  rcases mapR_cases (wordF_ns lk) (wordF_exc lk) p.ps with hw | ⟨ws, hw⟩
  · rw [hw]; exact .inl rfl
  · rw [hw, ok_bind]
    cases p.rest with
    | none => exact fin ws
    | some r =>
      simp only
      cases lk r with
      | tup rs => exact fin (ws ++ rs)
      | _ => exact .inl rfl
theorem builtF_back {p : Pat} {lk : Str → D} {d : D} (hv : ∀ n, okV (lk n)) (h : builtF p lk = .ok d) : ∃ a, d = encW a ∧ isAddrB a = true ∧ matchD p a = .lst ((holesL (Pat.L p)).map fun n => encNV (n, lk n)) := by
  unfold builtF at h
  cases hw : mapR (wordF lk) p.ps with
  | stuck => rw [hw] at h; cases h
  | exc c => rw [hw] at h; cases h
  | ok ws =>
    rw [hw, ok_bind] at h
    have lw := (mapR_ok hw).1
    cases hR : p.rest with
    | none =>
      rw [hR] at h
      obtain ⟨a, e1, e2, e3, e4⟩ := finF_inv h
      refine ⟨a, e2, e3, ?_⟩
      have hb := bind_back hv p.ps a [] (by rw [hw, e1])
      rw [List.append_nil] at hb
      unfold matchD
      rw [show doesP p.ps p.rest a = true from e4, if_pos rfl, hb, holesL_eq]
      simp [restB, hR]
    | some r =>
      rw [hR] at h
      simp only at h
      cases hr : lk r with
      | tup rs =>
        rw [hr] at h
        have h : finF p (ws ++ rs) = .ok d := h
        obtain ⟨a, e1, e2, e3, e4⟩ := finF_inv h
        refine ⟨a, e2, e3, ?_⟩
        have s1 : ws = (a.take p.ps.length).map D.str := by
          rw [List.map_take, ← e1, List.take_append_of_le_length (by omega), List.take_of_length_le (by omega)]
        have s2 : rs = (a.drop p.ps.length).map D.str := by
          rw [List.map_drop, ← e1, List.drop_append_of_le_length (by omega), List.drop_of_length_le (by omega), List.nil_append]
        have hb := bind_back hv p.ps (a.take p.ps.length) (a.drop p.ps.length) (by rw [hw, s1])
        rw [List.take_append_drop] at hb
        unfold matchD
        rw [show doesP p.ps p.rest a = true from e4, if_pos rfl, hb, holesL_eq, hR, List.map_append]
        congr 2
        unfold restB
        rw [hR]
        show [D.tup [.str r, encW (a.drop p.ps.length)]] = [encNV (r, lk r)]
        rw [hr, s2]
        rfl
      | _ => rw [hr] at h; cases h
def FitQ (lk : Str → D) (q : Part) (w : Str) : Prop := wordF lk q = .ok (.str w) ∧ letsP q w = true ∧ isWordB w = true
theorem builtF_fit {p : Pat} {lk : Str → D} {as rs : List Str} (h : Paired (FitQ lk) p.ps as) (hr : match p.rest with
    | none => rs = []
    | some r => lk r = encW rs) (hw : ∀ w ∈ rs, isWordB w = true) (hl : (as ++ rs).length ≤ 8) : builtF p lk = .ok (encW (as ++ rs)) := by
  have key : ∀ {ps : List Part} {as : List Str}, Paired (FitQ lk) ps as → mapR (wordF lk) ps = .ok (as.map D.str) ∧ ps.length = as.length ∧ (List.zipWith letsP ps as).all id = true ∧ ∀ w ∈ as, isWordB w = true := by
    intro ps as h
    induction h with
    | nil => exact ⟨rfl, rfl, rfl, fun _ m => absurd m List.not_mem_nil⟩
    | cons h t ih =>
      obtain ⟨i1, i2, i3, i4⟩ := ih
      obtain ⟨h1, h2, h3⟩ := h
      refine ⟨by simp only [mapR, h1, i1, ok_bind, List.map_cons], by simp [i2], by rw [List.zipWith_cons_cons, List.all_cons, i3, h2]; rfl, fun w m => ?_⟩
      rcases List.mem_cons.mp m with rfl | m
      · exact h3
      · exact i4 w m
  obtain ⟨k1, k2, k3, k4⟩ := key h
  have hd : does p (as ++ rs) = true := by
    have := doesP_app p.ps [] p.rest p.ps as rs k2
    rw [List.append_nil] at this
    show doesP p.ps p.rest (as ++ rs) = true
    rw [this, k3, Bool.true_and]
    cases hR : p.rest with
    | none => rw [hR] at hr; rw [hr]; rfl
    | some r => exact doesP_nil_rest r rs
  have fin : finF p ((as ++ rs).map D.str) = .ok (encW (as ++ rs)) := by
    have e1 : ((as ++ rs).map D.str).all wordD = true := by
      rw [List.all_map, List.all_eq_true]
      intro w m
      rcases List.mem_append.mp m with m | m
      · exact k4 w m
      · exact hw w m
    have e2 : ((as ++ rs).map D.str).map strOf = as ++ rs := by rw [List.map_map]; exact List.map_id _
    unfold finF
    rw [e1, e2, hd, decide_eq_true (by rw [List.length_map]; exact hl)]
    rfl
  unfold builtF
  rw [k1, ok_bind]
  cases hR : p.rest with
  | none =>
    rw [hR] at hr
    subst hr
    simpa using fin
  | some r =>
    rw [hR] at hr
    simp only at hr ⊢
    rw [hr]
    rw [List.map_append] at fin
    exact fin
/-- the values that an address gives -/
def valP (q : Part) (w : Str) : List NV := match q with
  | .word _ => []
  | .num n => [(n, .int (valN w))]
  | .one n _ => [(n, .str w)]
  | .any n => [(n, .str w)]
def valsOf : List Part → List Str → List NV
  | q :: ps, w :: a => valP q w ++ valsOf ps a
  | _, _ => []
def restV (p : Pat) (a : List Str) : List NV := match p.rest with
  | some r => [(r, encW (a.drop p.ps.length))]
  | none => []
def allV (p : Pat) (a : List Str) : List NV := valsOf p.ps a ++ restV p a
theorem binds_vals : ∀ (ps : List Part) (a : List Str), binds ps a = (valsOf ps a).map encNV
  | [], _ => rfl
  | _ :: _, [] => rfl
  | q :: ps, w :: a => by
    show bindP q w ++ binds ps a = _
    rw [binds_vals ps a, valsOf, List.map_append]
    congr 1
    cases q <;> rfl
theorem matchD_vals (p : Pat) (a : List Str) (h : does p a = true) : matchD p a = encPs (allV p a) := by
  unfold matchD encPs allV
  rw [show doesP p.ps p.rest a = true from h, if_pos rfl, binds_vals, List.map_append]
  congr 2
  unfold restB restV
  cases p.rest <;> rfl
theorem vals_names : ∀ (ps : List Part) (a : List Str), ps.length ≤ a.length → (valsOf ps a).map Prod.fst = holeNs ps
  | [], _, _ => rfl
  | q :: ps, [], h => by simp at h
  | q :: ps, w :: a, h => by
    rw [holeNs_cons, valsOf, List.map_append, vals_names ps a (by simpa using h)]
    congr 1
    cases q <;> rfl
theorem allV_names (p : Pat) (a : List Str) (h : p.ps.length ≤ a.length) : (allV p a).map Prod.fst = holesL (Pat.L p) := by
  unfold allV
  rw [List.map_append, vals_names p.ps a h, holesL_eq]
  congr 1
  unfold restV
  cases p.rest <;> rfl
theorem does_len {p : Pat} {a : List Str} (h : does p a = true) : p.ps.length ≤ a.length ∧ (p.rest = none → a.length = p.ps.length) ∧ (List.zipWith letsP p.ps a).all id = true := by
  have h : doesP p.ps p.rest a = true := h
  unfold doesP at h
  obtain ⟨h1, h2⟩ := Bool.and_eq_true_iff.mp h
  have h1 := Bool.not_eq_true' _ |>.mp h1
  rw [Bool.or_eq_false_iff] at h1
  have h3 := of_decide_eq_false h1.1
  refine ⟨by omega, fun hr => ?_, h2⟩
  have h4 := h1.2
  rw [hr] at h4
  simp at h4
  omega
end L2.RB.P
namespace L2.RB.P
open PySem PySem.Spec PyProof.Rows
/-! ### for the list, and some more with greater cells -/
abbrev lcTurn : ED := (eLc (iSrc (eVar 0)) (gNm 2) tTrue (eOp addD (eVar 2) (eOp mulD (eC (.int 7919)) (eVar 1))) [2])
abbrev turnB (once : List D → Res D) : SD := (sSeq (sIf (tNotD (tV (eCall once (aCons lcTurn aNil)))) (sSeq (sRet (eC (.bl false))) sNil) sNil) (sSeq (sIf (tV (eOp eqD (eVar 0) (eLst aNil))) (sSeq sBrk sNil) sNil) sNil))
theorem filt_ints {f : D → Res (Option D)} {g : Int → Int} : ∀ (l : List Int), (∀ i, f (.int i) = .ok (some (.int (g i)))) → filtR f (l.map D.int) = .ok ((l.map g).map D.int)
  | [], _ => rfl
  | i :: l, h => by
    simp only [List.map_cons, filtR, h i, filt_ints l h, ok_bind]
theorem turn_ok8 {once : List D → Res D} (ho : ∀ S, IsScr S → once [S] = .ok (.bl true)) (ns : List Int) (hl : ns.length ≤ 63) (k : Int) (x2 : Sl) : turnB once [.sh (.scr ns), .sh (.int k), x2] = some (if ns.isEmpty then .bk [.sh (.scr ns), .sh (.int k), x2] else .nx [.sh (.scr ns), .sh (.int k), x2]) := by
  have hf := filt_ints (f := stepLc (gNm 2) tTrue (eOp addD (eVar 2) (eOp mulD (eC (.int 7919)) (eVar 1))) [2] [.sh (.scr ns), .sh (.int k), x2]) (g := fun i => i + 7919 * k) ns fun i => by
    simp only [stepLc, wipeE, tTrue, sSeq, sNil, sRet, sRetV, sRetN, sSet, sOwn, sAsg, sDrop, sIf, sFor, sMet, sFrz, sBrk, sCnt, lft, outD, eC, aNil, aCons, eTup, eLst, eOp, eUn, tV, bT, tAndD, tOrD, tNotD, eAnd, eOr, eNot, eIf, eChain, eCall, eSl, oNone, oSome, iSrc, iCall, srcD, gNm, ev0, evS, evB0, evB0o, evBS, ok_bind, exc_bind, stuck_bind, if_true, if_false, List.length_cons, List.length_nil, List.set_cons_zero, List.set_cons_succ, lim_lit, Bool.false_eq_true, ite_true, ite_false, reduceIte, List.getElem?_cons_zero, List.getElem?_cons_succ, Nat.zero_le, Nat.reduceLeDiff, Nat.reduceAdd, Nat.reduceLT, Nat.reduceSub, Nat.zero_lt_succ, Bool.not_true, Bool.not_false, mul_l _ (by decide : -(2 ^ 64) < (7919 : Int) ∧ (7919 : Int) < 2 ^ 64), add_int]
  have hlc : lcTurn [.sh (.scr ns), .sh (.int k), x2] = .ok (.lst ((ns.map fun i => i + 7919 * k).map D.int)) := eLc_ok (ds := ns.map D.int) rfl (by rw [List.length_map]; omega) hf
  have ho := ho (.lst ((ns.map fun i => i + 7919 * k).map D.int)) (.inr ⟨_, rfl⟩)
  have q1 : eqD (.scr ns) (.lst []) = .ok (.bl ns.isEmpty) := rfl
  cases hz : ns.isEmpty <;> rw [hz] at q1 <;> simp only [turnB, sSeq, sNil, sRet, sRetV, sRetN, sSet, sOwn, sAsg, sDrop, sIf, sFor, sMet, sFrz, sBrk, sCnt, lft, outD, eC, aNil, aCons, eTup, eLst, eOp, eUn, tV, bT, tAndD, tOrD, tNotD, eAnd, eOr, eNot, eIf, eChain, eCall, eSl, oNone, oSome, iSrc, iCall, srcD, gNm, ev0, evS, evB0, evB0o, evBS, ok_bind, exc_bind, stuck_bind, if_true, if_false, List.length_cons, List.length_nil, List.set_cons_zero, List.set_cons_succ, lim_lit, Bool.false_eq_true, ite_true, ite_false, reduceIte, List.getElem?_cons_zero, List.getElem?_cons_succ, Nat.zero_le, Nat.reduceLeDiff, Nat.reduceAdd, Nat.reduceLT, Nat.reduceSub, Nat.zero_lt_succ, Bool.not_true, Bool.not_false, hlc, ho, q1]
theorem turns_loop {once : List D → Res D} (ho : ∀ S, IsScr S → once [S] = .ok (.bl true)) (ns : List Int) (hl : ns.length ≤ 63) : ∀ (l : List Int) (x1 x2 : Sl), ∃ t1 t2, loopD (gNm 1) (turnB once) (l.map D.int) [.sh (.scr ns), x1, x2] = some (.nx [.sh (.scr ns), t1, t2])
  | [], x1, x2 => ⟨x1, x2, rfl⟩
  | k :: l, x1, x2 => by
    have tk := turn_ok8 ho ns hl k x2
    have go : loopD (gNm 1) (turnB once) ((k :: l).map D.int) [.sh (.scr ns), x1, x2] = (match turnB once [.sh (.scr ns), .sh (.int k), x2] with
      | some (.nx e2) => loopD (gNm 1) (turnB once) (l.map D.int) e2
      | some (.ct e2) => loopD (gNm 1) (turnB once) (l.map D.int) e2
      | some (.bk e2) => some (.nx e2)
      | r => r) := rfl
    rw [go, tk]
    cases ns.isEmpty with
    | true => exact ⟨_, _, rfl⟩
    | false => exact turns_loop ho ns hl l (.sh (.int k)) x2
theorem turns_ok {once : List D → Res D} (ho : ∀ S, IsScr S → once [S] = .ok (.bl true)) (ns : List Int) (hl : ns.length ≤ 63) (n : Nat) (hn : n ≤ 100) : fnD 1 3 (sSeq (sFor (iCall rng1D (aCons (eC (.int (n : Int))) aNil)) (gNm 1) (turnB once)) (sSeq (sRet (eC (.bl true))) sNil)) [.scr ns] = .ok (.bl true) := by
  obtain ⟨t1, t2, lp⟩ := turns_loop ho ns hl ((List.range n).map fun (i : Nat) => (i : Int)) .un .un
  have r8 : rng1D [.int (n : Int)] = .ok (((List.range n).map fun (i : Nat) => (i : Int)).map D.int) := by
    rw [rng1_ok n (by omega)]
    unfold rngD
    rw [List.map_map]
    congr 2
    funext i
    simp
  show outD (sSeq _ _ [.sh (.scr ns), .un, .un]) = _
  simp only [sSeq, sNil, sRet, sRetV, sRetN, sSet, sOwn, sAsg, sDrop, sIf, sFor, sMet, sFrz, sBrk, sCnt, lft, outD, eC, aNil, aCons, eTup, eLst, eOp, eUn, tV, bT, tAndD, tOrD, tNotD, eAnd, eOr, eNot, eIf, eChain, eCall, eSl, oNone, oSome, iSrc, iCall, srcD, gNm, ev0, evS, evB0, evB0o, evBS, ok_bind, exc_bind, stuck_bind, if_true, if_false, List.length_cons, List.length_nil, List.set_cons_zero, List.set_cons_succ, lim_lit, Bool.false_eq_true, ite_true, ite_false, reduceIte, List.getElem?_cons_zero, List.getElem?_cons_succ, Nat.zero_le, Nat.reduceLeDiff, Nat.reduceAdd, Nat.reduceLT, Nat.reduceSub, Nat.zero_lt_succ, Bool.not_true, Bool.not_false, r8, lp]
/-! lists cut -/
theorem slice_to (xs : List D) (k : Nat) : sliceD (.lst xs) none (some (k : Int)) = .ok (.lst (xs.take k)) := by
  show Res.ok (D.lst (cutL xs none (some (k : Int)))) = _
  rw [cut_to]
theorem slice_from (xs : List D) (k : Nat) : sliceD (.lst xs) (some (k : Int)) none = .ok (.lst (xs.drop k)) := by
  show Res.ok (D.lst (cutL xs (some (k : Int)) none)) = _
  rw [cut_from]
theorem encPs_pl {L : List NV} (h : ∀ x ∈ L, x.2.pl 50 = true) : (encPs L).pl 60 = true := by
  unfold encPs
  simp only [D.pl]
  induction L with
  | nil => rfl
  | cons x L ih =>
    rw [List.map_cons]
    have h1 := h x List.mem_cons_self
    have e : (encNV x).pl 59 = true := by
      show D.pls [.str x.1, x.2] 58 = true
      simp only [D.pls, D.pl, pl_le h1 (by decide : 50 ≤ 58), Bool.and_self]
    show (D.pl (encNV x) 59 && D.pls (L.map encNV) 59) = true
    rw [e, ih fun y m => h y (List.mem_cons_of_mem _ m)]
    rfl
theorem encNV_pl {x : NV} (h : x.2.pl 50 = true) : (encNV x).pl 60 = true := by
  show D.pls [.str x.1, x.2] 59 = true
  simp only [D.pls, D.pl, pl_le h (by decide : 50 ≤ 59), Bool.and_self]
/-! values that an address gives -/
theorem pool_num : ∀ w ∈ pool, isNum w = true → (valN w = 7 ∨ valN w = 0 ∨ valN w = 55) ∧ Str.ofString (toString (valN w)) = w := pool_cases
  ⟨fun h => absurd h (by decide), fun h => absurd h (by decide), fun _ => by decide +kernel, fun _ => by decide +kernel, fun h => absurd h (by decide), fun h => absurd h (by decide), fun _ => by decide +kernel, fun h => absurd h (by decide +kernel), fun h => absurd h (by decide)⟩
theorem pool_word : ∀ w ∈ pool, isWordB w = true := pool_cases ⟨by decide +kernel, by decide +kernel, by decide +kernel, by decide +kernel, by decide +kernel, by decide +kernel, by decide +kernel, by decide +kernel, by decide +kernel⟩
theorem okV_i {i : Int} (h : i = 7 ∨ i = 0 ∨ i = 55) : okV (.int i) := by
  show i = 7 ∨ i = 0 ∨ i = 55 ∨ i = -1 ∨ i = 1000000000
  omega
theorem vals_ok : ∀ (ps : List Part) (a : List Str), (List.zipWith letsP ps a).all id = true → (∀ w ∈ a, w ∈ pool) → ∀ x ∈ valsOf ps a, okV x.2 ∧ x.2.pl 50 = true
  | [], _, _, _, x, m => absurd m (by simp [valsOf])
  | _ :: _, [], _, _, x, m => absurd m (by simp [valsOf])
  | q :: ps, w :: a, hl, hw, x, m => by
    rw [List.zipWith_cons_cons, List.all_cons, Bool.and_eq_true] at hl
    have hp := hw w List.mem_cons_self
    rcases List.mem_append.mp (show x ∈ valP q w ++ valsOf ps a from m) with m | m
    · cases q with
      | word v => exact absurd m List.not_mem_nil
      | num n =>
        rw [List.mem_singleton.mp m]
        exact ⟨okV_i (pool_num w hp hl.1).1, by simp [D.pl]⟩
      | one n cs =>
        rw [List.mem_singleton.mp m]
        exact ⟨Nat.le_trans (pool_len w hp) (by decide), by simp [D.pl]⟩
      | any n =>
        rw [List.mem_singleton.mp m]
        exact ⟨Nat.le_trans (pool_len w hp) (by decide), by simp [D.pl]⟩
    · exact vals_ok ps a hl.2 (fun v mv => hw v (List.mem_cons_of_mem _ mv)) x m
theorem allV_ok {p : Pat} {a : List Str} (hd : does p a = true) (hw : ∀ w ∈ a, w ∈ pool) (ha : a.length ≤ 100) : ∀ x ∈ allV p a, okV x.2 ∧ x.2.pl 50 = true := by
  intro x m
  rcases List.mem_append.mp m with m | m
  · exact vals_ok p.ps a (does_len hd).2.2 hw x m
  · unfold restV at m
    cases hr : p.rest with
    | none => rw [hr] at m; exact absurd m List.not_mem_nil
    | some r =>
      rw [hr] at m
      rw [List.mem_singleton.mp m]
      refine ⟨?_, pl_le (encW_pl _) (by decide)⟩
      show ((a.drop p.ps.length).map D.str).length ≤ 500 ∧ _
      refine ⟨by rw [List.length_map, List.length_drop]; omega, fun y my => ?_⟩
      obtain ⟨w, mw, rfl⟩ := List.mem_map.mp my
      exact ⟨w, rfl, Nat.le_trans (pool_len w (hw w (List.mem_of_mem_drop mw))) (by decide)⟩
/-- they fit, also where numbers of one name are told otherwise -/
def chgW (nk : Str) (s : Str) (q : Part) (w : Str) : Str := match q with
  | .num m => if m = nk then s else w
  | _ => w
theorem fit_vals {lk : Str → D} {nk : Str} {i : Int} (hi : (i = 7 ∨ i = 0 ∨ i = 55)) : ∀ (ps : List Part) (a : List Str), ps.length ≤ a.length → (∀ q ∈ ps, GoodP q) → (List.zipWith letsP ps a).all id = true → (∀ w ∈ a, w ∈ pool) →
    (∀ x ∈ valsOf ps a, (x.1 ≠ nk → lk x.1 = x.2) ∧ (x.1 = nk → (∃ j, x.2 = .int j) ∧ lk x.1 = .int i)) → Paired (FitQ lk) ps (List.zipWith (chgW nk (Str.ofString (toString i))) ps a)
  | [], a, _, _, _, _, _ => .nil
  | q :: ps, [], h, _, _, _, _ => by simp at h
  | q :: ps, w :: a, h, hg, hl, hw, hx => by
    rw [List.zipWith_cons_cons, List.all_cons, Bool.and_eq_true] at hl
    have hp := hw w List.mem_cons_self
    have h1 : q.nm.length ≤ 1000 → True := fun _ => trivial
    have hl1 : letsP q w = true := hl.1
    rw [List.zipWith_cons_cons]
    refine .cons ?_ (fit_vals hi ps a (by simpa using h) (fun x m => hg x (List.mem_cons_of_mem _ m)) hl.2 (fun v m => hw v (List.mem_cons_of_mem _ m)) fun x m => hx x (List.mem_append_right _ m))
    have hh : ∀ x ∈ valP q w, (x.1 ≠ nk → lk x.1 = x.2) ∧ (x.1 = nk → (∃ j, x.2 = .int j) ∧ lk x.1 = .int i) := fun x m => hx x (List.mem_append_left _ m)
    cases q with
    | word v =>
      have e : v = w := eq_of_beq hl1
      subst e
      exact ⟨rfl, hl1, pool_word v hp⟩
    | one n cs =>
      obtain ⟨k1, k2⟩ := hh (n, .str w) (List.mem_singleton_self _)
      refine ⟨?_, hl1, pool_word w hp⟩
      show Res.ok (lk n) = _
      by_cases hn : n = nk
      · obtain ⟨⟨j, hj⟩, _⟩ := k2 hn
        cases hj
      · have k1 : lk n = .str w := k1 hn
        rw [k1]; rfl
    | any n =>
      obtain ⟨k1, k2⟩ := hh (n, .str w) (List.mem_singleton_self _)
      refine ⟨?_, hl1, pool_word w hp⟩
      show Res.ok (lk n) = _
      by_cases hn : n = nk
      · obtain ⟨⟨j, hj⟩, _⟩ := k2 hn
        cases hj
      · have k1 : lk n = .str w := k1 hn
        rw [k1]; rfl
    | num n =>
      obtain ⟨k1, k2⟩ := hh (n, .int (valN w)) (List.mem_singleton_self _)
      obtain ⟨pn, pw⟩ := pool_num w hp hl1
      by_cases hn : n = nk
      · have k2 : lk n = .int i := (k2 hn).2
        have ew : chgW nk (Str.ofString (toString i)) (.num n) w = Str.ofString (toString i) := if_pos hn
        rw [ew]
        refine ⟨?_, ?_, ?_⟩
        · show (match lk n with
            | .int i => if i < 0 then Res.exc "BadValues" else .ok (.str (toString i : String))
            | _ => .exc "BadValues" : Res D) = _
          rw [k2]
          show (if i < 0 then Res.exc "BadValues" else .ok (.str (toString i : String)) : Res D) = _
          rw [if_neg (by omega)]
        · show isNum (Str.ofString (toString i)) = true
          rcases hi with rfl | rfl | rfl <;> decide +kernel
        · rcases hi with rfl | rfl | rfl <;> decide +kernel
      · have k1 : lk n = .int (valN w) := k1 hn
        have ew : chgW nk (Str.ofString (toString i)) (.num n) w = w := if_neg hn
        rw [ew]
        refine ⟨?_, hl1, pool_word w hp⟩
        show (match lk n with
          | .int i => if i < 0 then Res.exc "BadValues" else .ok (.str (toString i : String))
          | _ => .exc "BadValues" : Res D) = _
        rw [k1]
        show (if valN w < 0 then Res.exc "BadValues" else .ok (.str (toString (valN w) : String)) : Res D) = _
        rw [if_neg (by omega), pw]
end L2.RB.P
set_option maxHeartbeats 400000
namespace L2.RB.P.K03
open PySem PySem.Spec PyProof.Rows
abbrev lc4_law_once : ED :=
  (eLc (iSrc (eVar 4)) (gNm 6) tTrue (eOp idxD (eVar 6) (eC (.int 0))) [6])
abbrev lc5_law_once : ED :=
  (eLc (iSrc (eVar 3)) (gNm 6) tTrue (eOp idxD (eVar 6) (eC (.int 0))) [6])
abbrev b1_0_law_once : SD :=
  sNil
abbrev fb1_law_once : SD :=
  (sSeq (sIf (tAndD (tV (eOp neD (eVar 6) (eVar 7))) (tAndD (tV (eIsT isInt (eOp idxD (eVar 6) (eC (.int 1))))) (tAndD (tNotD (tV (eIsT isBool (eOp idxD (eVar 6) (eC (.int 1)))))) (tV (eChain leI ltI (eC (.int 0)) (eOp idxD (eVar 6) (eC (.int 1))) (eOp powD (eC (.int 10)) (eC (.int 8)))))))) (sSeq (sIf (tV (eIsT isInt (eOp idxD (eVar 7) (eC (.int 1))))) (sSeq (sRet (eC (.bl false))) sNil) sNil) sNil) sNil) b1_0_law_once)
abbrev lc2_law_once : ED :=
  (eLc (iSrc (eVar 4)) (gNm 6) tTrue (eOp idxD (eVar 6) (eC (.int 0))) [6])
abbrev lc3_law_once : ED :=
  (eLc (iSrc (eVar 3)) (gNm 6) tTrue (eOp idxD (eVar 6) (eC (.int 0))) [6])
abbrev t0_law_once : SD :=
  sNil
abbrev t1_law_once : SD :=
  (sSeq (sRet (eOp eqD lc2_law_once lc3_law_once)) t0_law_once)
abbrev t2_law_once : SD :=
  (sSeq (sIf (tOrD (tV (eOp isNotD (eCall m_is_address (aCons (eVar 5) aNil)) (eC (.bl true)))) (tV (eOp neD (eCall m_matched (aCons (eVar 1) (aCons (eVar 5) aNil))) (eVar 4)))) (sSeq (sRet (eC (.bl false))) sNil) sNil) t1_law_once)
abbrev t3_law_once : SD :=
  (sSeq (sIf (tV (eOp eqD (eVar 5) (eC (.str "bad values")))) (sSeq (sIf (tV (eOp neD lc4_law_once lc5_law_once)) (sSeq (sRet (eC (.bl true))) sNil) sNil) (sSeq (sFor (iCall zipD (aCons (eVar 4) (aCons (eVar 3) aNil))) (gTp 2 (gCn (gNm 6) (gCn (gNm 7) gNl))) fb1_law_once) (sSeq (sRet (eC (.bl true))) sNil))) sNil) t2_law_once)
abbrev t4_law_once : SD :=
  (sSeq (sSet 5 (eCall m_law_tried (aCons (eVar 1) (aCons (eVar 4) aNil)))) t3_law_once)
abbrev t5_law_once : SD :=
  (sSeq (sSet 4 (eCall m_law_other_values (aCons (eVar 0) (aCons (eC (.int 200)) (aCons (eVar 3) aNil))))) t4_law_once)
abbrev t6_law_once : SD :=
  (sSeq (sIf (tOrD (tV (eOp neD (eCall m_law_tried (aCons (eVar 1) (aCons (eVar 3) aNil))) (eVar 2))) (tV (eOp neD (eCall m_law_tried (aCons (eVar 1) (aCons (eRev (eVar 3)) aNil))) (eVar 2)))) (sSeq (sRet (eC (.bl false))) sNil) sNil) t5_law_once)
abbrev t7_law_once : SD :=
  (sSeq (sIf (tV (eOp isD (eVar 3) (eC .non))) (sSeq (sRet (eC (.bl true))) sNil) sNil) t6_law_once)
abbrev t8_law_once : SD :=
  (sSeq (sSet 3 (eCall m_law_matched (aCons (eVar 1) (aCons (eVar 2) aNil)))) t7_law_once)
abbrev t9_law_once : SD :=
  (sSeq (sSet 2 (eCall m_law_near (aCons (eVar 0) (aCons (eC (.int 100)) (aCons (eVar 1) aNil))))) t8_law_once)
def d_law_once : SD :=
  (sSeq (sSet 1 (eCall m_law_pattern (aCons (eVar 0) (aCons (eC (.int 0)) (aCons (eC (.int 4)) aNil))))) t9_law_once)
def m_law_once : List D → Res D := fnD 1 8 d_law_once
abbrev lc2_law : ED :=
  (eLc (iSrc (eVar 0)) (gNm 2) tTrue (eOp addD (eVar 2) (eOp mulD (eC (.int 7919)) (eVar 1))) [2])
abbrev b1_0_law : SD :=
  sNil
abbrev b1_1_law : SD :=
  (sSeq (sIf (tV (eOp eqD (eVar 0) (eLst aNil))) (sSeq sBrk sNil) sNil) b1_0_law)
abbrev fb1_law : SD :=
  (sSeq (sIf (tNotD (tV (eCall m_law_once (aCons lc2_law aNil)))) (sSeq (sRet (eC (.bl false))) sNil) sNil) b1_1_law)
abbrev t0_law : SD :=
  sNil
abbrev t1_law : SD :=
  (sSeq (sRet (eC (.bl true))) t0_law)
def d_law : SD :=
  (sSeq (sFor (iCall rng1D (aCons (eC (.int 8)) aNil)) (gNm 1) fb1_law) t1_law)
def m_law : List D → Res D := fnD 1 3 d_law
end L2.RB.P.K03
namespace L2.RB.P.K03
open PySem PySem.Spec PyProof.Rows
theorem tried_ok {A T R : D} (h : m_built [A, T] = .ok R) : m_law_tried [A, T] = .ok R := by
  have e : m_law_tried [A, T] = outD (d_law_tried [.sh A, .sh T, .un, .un, .un]) := rfl
  rw [e]
  simp only [d_law_tried, sTryK, sSeq, sNil, sRet, sRetV, sRetN, sSet, sOwn, sAsg, sDrop, sIf, sFor, sMet, sFrz, sBrk, sCnt, lft, outD, eC, aNil, aCons, eTup, eLst, eOp, eUn, tV, bT, tAndD, tOrD, tNotD, eAnd, eOr, eNot, eIf, eChain, eCall, eSl, oNone, oSome, iSrc, iCall, srcD, gNm, ev0, evS, evB0, evB0o, evBS, ok_bind, exc_bind, stuck_bind, if_true, if_false, List.length_cons, List.length_nil, List.set_cons_zero, List.set_cons_succ, lim_lit, Bool.false_eq_true, ite_true, ite_false, reduceIte, List.getElem?_cons_zero, List.getElem?_cons_succ, Nat.zero_le, Nat.reduceLeDiff, Nat.reduceAdd, Nat.reduceLT, Nat.reduceSub, Nat.zero_lt_succ, Bool.not_true, Bool.not_false, h, isD, isN, List.set_cons_succ]
theorem tried_x {A T : D} (h : m_built [A, T] = .exc "BadValues") : m_law_tried [A, T] = .ok (.str "bad values") := by
  have e : m_law_tried [A, T] = outD (d_law_tried [.sh A, .sh T, .un, .un, .un]) := rfl
  have s : subB ["BadLead", "BadValues", "NoRow", "NoText", "Taken", "TooMany"] "RouteError" "BadValues" = some true := by decide
  rw [e]
  simp only [d_law_tried, sTryK, sSeq, sNil, sRet, sRetV, sRetN, sSet, sOwn, sAsg, sDrop, sIf, sFor, sMet, sFrz, sBrk, sCnt, lft, outD, eC, aNil, aCons, eTup, eLst, eOp, eUn, tV, bT, tAndD, tOrD, tNotD, eAnd, eOr, eNot, eIf, eChain, eCall, eSl, oNone, oSome, iSrc, iCall, srcD, gNm, ev0, evS, evB0, evB0o, evBS, ok_bind, exc_bind, stuck_bind, if_true, if_false, List.length_cons, List.length_nil, List.set_cons_zero, List.set_cons_succ, lim_lit, Bool.false_eq_true, ite_true, ite_false, reduceIte, List.getElem?_cons_zero, List.getElem?_cons_succ, Nat.zero_le, Nat.reduceLeDiff, Nat.reduceAdd, Nat.reduceLT, Nat.reduceSub, Nat.zero_lt_succ, Bool.not_true, Bool.not_false, h, s, isD, isN, law_word_bv, and_self, Nat.reduceLT, List.length_set]
/-! other values -/
def ODD : List D := [.str "a", .str "b", .str "", .str "A", .int 7, .int 0, .int (-1), .bl true, .non, .tup [.str "a"], .tup [], .tup [.str "a", .str "A"], .str "7", .lst [.str "a"], .tup (List.replicate 9 [D.str "a"]).flatten, .int 1000000000]
theorem ODD_ok : ∀ v ∈ ODD, okV v ∧ v.pl 50 = true := by
  intro v m
  have two : ∀ l : List Str, l.length ≤ 9 → (∀ s ∈ l, s.length ≤ 9) → okV (.tup (l.map D.str)) := fun l h1 h2 => by
    refine ⟨by rw [List.length_map]; omega, fun x mx => ?_⟩
    obtain ⟨s, ms, rfl⟩ := List.mem_map.mp mx
    exact ⟨s, rfl, Nat.le_trans (h2 s ms) (by decide)⟩
  have s1 : ∀ s : Str, s.length ≤ 9 → okV (.str s) := fun s h => Nat.le_trans h (by decide)
  have one : ∀ s ∈ [("a" : Str)], s.length ≤ 9 := by
    intro s ms; rw [List.mem_singleton.mp ms]; decide
  have nine : ∀ s ∈ (List.replicate 9 ("a" : Str)), s.length ≤ 9 := by
    intro s ms; rw [(List.mem_replicate.mp ms).2]; decide
  have aA : ∀ s ∈ [("a" : Str), "A"], s.length ≤ 9 := by
    intro s ms
    rcases List.mem_cons.mp ms with rfl | ms
    · decide
    · rw [List.mem_singleton.mp ms]; decide
  simp only [ODD, List.mem_cons, List.not_mem_nil, or_false] at m
  rcases m with rfl | rfl | rfl | rfl | rfl | rfl | rfl | rfl | rfl | rfl | rfl | rfl | rfl | rfl | rfl | rfl
  · exact ⟨s1 _ (by decide), by decide +kernel⟩
  · exact ⟨s1 _ (by decide), by decide +kernel⟩
  · exact ⟨s1 _ (by decide), by decide +kernel⟩
  · exact ⟨s1 _ (by decide), by decide +kernel⟩
  · exact ⟨.inl rfl, by decide +kernel⟩
  · exact ⟨.inr (.inl rfl), by decide +kernel⟩
  · exact ⟨.inr (.inr (.inr (.inl rfl))), by decide +kernel⟩
  · exact ⟨trivial, by decide +kernel⟩
  · exact ⟨trivial, by decide +kernel⟩
  · exact ⟨two ["a"] (by decide) one, by decide +kernel⟩
  · exact ⟨two [] (by decide) (fun s m => absurd m List.not_mem_nil), by decide +kernel⟩
  · exact ⟨two ["a", "A"] (by decide) aA, by decide +kernel⟩
  · exact ⟨s1 _ (by decide), by decide +kernel⟩
  · exact ⟨trivial, by decide +kernel⟩
  · exact ⟨two (List.replicate 9 "a") (by decide) nine, by decide +kernel⟩
  · exact ⟨.inr (.inr (.inr (.inr rfl))), by decide +kernel⟩
theorem lst_nil (L : List NV) (h : ∀ x ∈ L, x.2.pl 50 = true) : eqD (encPs L) (.lst []) = .ok (.bl L.isEmpty) := by
  rw [eqD_pl (encPs_pl h) lnil_pl60]
  cases L <;> simp [encPs, D.eqv, D.eqvs]
def wA : NV := ("w", D.str "a")
inductive Other (L : List NV) : List NV → Prop
  | more : Other L (L ++ [wA])
  | less (k : Nat) : k < L.length → Other L (L.take k ++ L.drop (k + 1))
  | odd (k : Nat) (h : k < L.length) (v : D) : v ∈ ODD → Other L (L.take k ++ [(L[k].1, v)] ++ L.drop (k + 1))
theorem other_ok {S : D} (hS : IsScr S) (L : List NV) (hl : L.length ≤ 100) (h : ∀ x ∈ L, x.2.pl 50 = true) : ∃ L', m_law_other_values [S, .int 200, encPs L] = .ok (encPs L') ∧ Other L L' := by
  have e : m_law_other_values [S, .int 200, encPs L] = outD (d_law_other_values [.sh S, .sh (.int 200), .sh (encPs L), .un, .un, .un]) := rfl
  obtain ⟨c, hc, bc⟩ := pick_ok hS 200 4 (by decide)
  have hc : m_law_pick [S, .int 200, .int 4] = .ok (.int c) := hc
  have hn := lst_nil L h
  have e0 : eqD (.int (c : Int)) (.int 0) = .ok (.bl (decide (c = 0))) := by
    rw [eq_int]; congr 2
    by_cases z : c = 0
    · subst z; rfl
    · rw [decide_eq_false z]; simp; omega
  have ad1 : addD (encPs L) (.lst [.tup [.str "w", .str "a"]]) = .ok (encPs (L ++ [wA])) := by
    have e1 : (D.lst [.tup [.str "w", .str "a"]]) = encPs [wA] := rfl
    rw [e1]
    unfold encPs
    rw [add_lst _ _ (by rw [List.length_map, List.length_map]; simp; omega), ← List.map_append]
  by_cases hL : L = []
  · subst hL
    have hn : eqD (encPs []) (.lst []) = .ok (.bl true) := hn
    exact ⟨_, by rw [e]; simp only [d_law_other_values, sSeq, sNil, sRet, sRetV, sRetN, sSet, sOwn, sAsg, sDrop, sIf, sFor, sMet, sFrz, sBrk, sCnt, lft, outD, eC, aNil, aCons, eTup, eLst, eOp, eUn, tV, bT, tAndD, tOrD, tNotD, eAnd, eOr, eNot, eIf, eChain, eCall, eSl, oNone, oSome, iSrc, iCall, srcD, gNm, ev0, evS, evB0, evB0o, evBS, ok_bind, exc_bind, stuck_bind, if_true, if_false, List.length_cons, List.length_nil, List.set_cons_zero, List.set_cons_succ, lim_lit, Bool.false_eq_true, ite_true, ite_false, reduceIte, List.getElem?_cons_zero, List.getElem?_cons_succ, Nat.zero_le, Nat.reduceLeDiff, Nat.reduceAdd, Nat.reduceLT, Nat.reduceSub, Nat.zero_lt_succ, Bool.not_true, Bool.not_false, hc, hn, ad1], .more⟩
  · have hn' : L.isEmpty = false := by cases L with
      | nil => exact absurd rfl hL
      | cons x L => rfl
    rw [hn'] at hn
    by_cases c0 : c = 0
    · rw [decide_eq_true c0] at e0
      exact ⟨_, by rw [e]; simp only [d_law_other_values, sSeq, sNil, sRet, sRetV, sRetN, sSet, sOwn, sAsg, sDrop, sIf, sFor, sMet, sFrz, sBrk, sCnt, lft, outD, eC, aNil, aCons, eTup, eLst, eOp, eUn, tV, bT, tAndD, tOrD, tNotD, eAnd, eOr, eNot, eIf, eChain, eCall, eSl, oNone, oSome, iSrc, iCall, srcD, gNm, ev0, evS, evB0, evB0o, evBS, ok_bind, exc_bind, stuck_bind, if_true, if_false, List.length_cons, List.length_nil, List.set_cons_zero, List.set_cons_succ, lim_lit, Bool.false_eq_true, ite_true, ite_false, reduceIte, List.getElem?_cons_zero, List.getElem?_cons_succ, Nat.zero_le, Nat.reduceLeDiff, Nat.reduceAdd, Nat.reduceLT, Nat.reduceSub, Nat.zero_lt_succ, Bool.not_true, Bool.not_false, hc, hn, e0, ad1], .more⟩
    · rw [decide_eq_false c0] at e0
      have lp : 0 < L.length := List.length_pos_iff.mpr hL
      have ll : lenD [encPs L] = .ok (.int (L.length : Int)) := by unfold encPs; rw [len_lst, List.length_map]
      obtain ⟨k, hk, bk⟩ := pick_ok hS 201 (L.length : Int) (by omega)
      have hk : m_law_pick [S, .int 201, .int (L.length : Int)] = .ok (.int k) := hk
      have bk' : k < L.length := by omega
      have k201 : (200 : Int) + 1 = 201 := rfl
      have kk : (k : Int) + 1 = ((k + 1 : Nat) : Int) := by omega
      have s1 : sliceD (encPs L) none (some (k : Int)) = .ok (encPs (L.take k)) := by
        unfold encPs; rw [slice_to, ← List.map_take]
      have s2 : sliceD (encPs L) (some ((k + 1 : Nat) : Int)) none = .ok (encPs (L.drop (k + 1))) := by
        unfold encPs; rw [slice_from, ← List.map_drop]
      have e1 : eqD (.int (c : Int)) (.int 1) = .ok (.bl (decide (c = 1))) := by
        rw [eq_int]; congr 2
        by_cases z : c = 1
        · subst z; rfl
        · rw [decide_eq_false z]; simp; omega
      by_cases c1 : c = 1
      · rw [decide_eq_true c1] at e1
        have ad : addD (encPs (L.take k)) (encPs (L.drop (k + 1))) = .ok (encPs (L.take k ++ L.drop (k + 1))) := by
          unfold encPs
          rw [add_lst _ _ (by rw [List.length_map, List.length_map, List.length_take, List.length_drop]; omega), ← List.map_append]
        exact ⟨_, by rw [e]; simp only [d_law_other_values, sSeq, sNil, sRet, sRetV, sRetN, sSet, sOwn, sAsg, sDrop, sIf, sFor, sMet, sFrz, sBrk, sCnt, lft, outD, eC, aNil, aCons, eTup, eLst, eOp, eUn, tV, bT, tAndD, tOrD, tNotD, eAnd, eOr, eNot, eIf, eChain, eCall, eSl, oNone, oSome, iSrc, iCall, srcD, gNm, ev0, evS, evB0, evB0o, evBS, ok_bind, exc_bind, stuck_bind, if_true, if_false, List.length_cons, List.length_nil, List.set_cons_zero, List.set_cons_succ, lim_lit, Bool.false_eq_true, ite_true, ite_false, reduceIte, List.getElem?_cons_zero, List.getElem?_cons_succ, Nat.zero_le, Nat.reduceLeDiff, Nat.reduceAdd, Nat.reduceLT, Nat.reduceSub, Nat.zero_lt_succ, Bool.not_true, Bool.not_false, hc, hn, e0, ll, add_int, k201, hk, e1, s1, kk, s2, ad], .less k bk'⟩
      · rw [decide_eq_false c1] at e1
        obtain ⟨j, hj, bj⟩ := pick_ok hS 202 16 (by decide)
        have hj : m_law_pick [S, .int 202, .int 16] = .ok (.int j) := hj
        have bj' : j < ODD.length := by simp [ODD]; omega
        have k202 : (200 : Int) + 2 = 202 := rfl
        have ix : idxD (.lst ODD) (.int (j : Int)) = .ok ODD[j] := idx_lst (by rw [atI_nat, List.getElem?_eq_getElem bj'])
        have mu : mulD (.tup [.str "a"]) (.int 9) = .ok (.tup (List.replicate 9 [D.str "a"]).flatten) := by kernel_rfl
        have po : powD (.int 10) (.int 9) = .ok (.int 1000000000) := by
          kernel_rfl
        have n1 : negD (.int 1) = .ok (.int (-1)) := rfl
        unfold ODD at ix
        have ik : idxD (encPs L) (.int (k : Int)) = .ok (encNV L[k]) := by
          refine idx_lst ?_
          rw [atI_nat, List.getElem?_map, List.getElem?_eq_getElem bk']; rfl
        have i0 : idxD (encNV L[k]) (.int 0) = .ok (.str L[k].1) := idx0 _ _
        have ad2 : addD (encPs (L.take k)) (.lst [.tup [.str L[k].1, ODD[j]]]) = .ok (encPs (L.take k ++ [(L[k].1, ODD[j])])) := by
          have e1 : (D.lst [.tup [.str L[k].1, ODD[j]]]) = encPs [(L[k].1, ODD[j])] := rfl
          rw [e1]
          unfold encPs
          rw [add_lst _ _ (by rw [List.length_map, List.length_map, List.length_take]; simp; omega), ← List.map_append]
        have ad3 : addD (encPs (L.take k ++ [(L[k].1, ODD[j])])) (encPs (L.drop (k + 1))) = .ok (encPs (L.take k ++ [(L[k].1, ODD[j])] ++ L.drop (k + 1))) := by
          unfold encPs
          rw [add_lst _ _ (by rw [List.length_map, List.length_map, List.length_append, List.length_take, List.length_drop]; simp; omega), ← List.map_append]
        refine ⟨_, ?_, .odd k bk' ODD[j] (List.getElem_mem _)⟩
        have ad2' := ad2
        have ad3' := ad3
        generalize hv : ODD[j] = v at *
        have ix' : idxD (.lst [.str "a", .str "b", .str "", .str "A", .int 7, .int 0, .int (-1), .bl true, .non, .tup [.str "a"], .tup [], .tup [.str "a", .str "A"], .str "7", .lst [.str "a"], .tup (List.replicate 9 [D.str "a"]).flatten, .int 1000000000]) (.int (j : Int)) = .ok v := by
          rw [ix]
          congr 1
        generalize hX : (D.tup (List.replicate 9 [D.str "a"]).flatten) = Y at *
        rw [e]
        simp only [d_law_other_values, sSeq, sNil, sRet, sRetV, sRetN, sSet, sOwn, sAsg, sDrop, sIf, sFor, sMet, sFrz, sBrk, sCnt, lft, outD, eC, aNil, aCons, eTup, eLst, eOp, eUn, tV, bT, tAndD, tOrD, tNotD, eAnd, eOr, eNot, eIf, eChain, eCall, eSl, oNone, oSome, iSrc, iCall, srcD, gNm, ev0, evS, evB0, evB0o, evBS, ok_bind, exc_bind, stuck_bind, if_true, if_false, List.length_cons, List.length_nil, List.set_cons_zero, List.set_cons_succ, lim_lit, Bool.false_eq_true, ite_true, ite_false, reduceIte, List.getElem?_cons_zero, List.getElem?_cons_succ, Nat.zero_le, Nat.reduceLeDiff, Nat.reduceAdd, Nat.reduceLT, Nat.reduceSub, Nat.zero_lt_succ, Bool.not_true, Bool.not_false, hc, hn, e0, ll, add_int, k201, hk, e1, s1, kk, s2, n1, mu, po, ik, i0, k202, hj, ix', ad2, ad3]
/-! the end -/
theorem bad_not (a : List Str) : eqD (encW a) (.str "bad values") = .ok (.bl false) := by
  rw [eqD_pl (encW_pl60 a) (str_pl60 _)]; rfl
theorem bad_is : eqD (.str "bad values") (.str "bad values") = .ok (.bl true) := eq_self (str_pl60 _)
def Cond (x y : NV) : Prop := (∃ i, x.2 = .int i ∧ 0 ≤ i ∧ i < 100000000) ∧ ∃ j, y.2 = .int j
theorem pow8 : powD (.int 10) (.int 8) = .ok (.int 100000000) := by
  kernel_rfl
theorem turn_z (x0 x1 x2 x3 x4 x5 : Sl) (x y : NV) (ox : okV x.2) (oy : okV y.2) (px : x.2.pl 50 = true) (py : y.2.pl 50 = true) (nb : ∀ b, y.2 ≠ .bl b) (h : x = y ∨ ¬ Cond x y) :
    fb1_law_once [x0, x1, x2, x3, x4, x5, .sh (encNV x), .sh (encNV y)] = some (.nx [x0, x1, x2, x3, x4, x5, .sh (encNV x), .sh (encNV y)]) := by
  have i1 : idxD (encNV x) (.int 1) = .ok x.2 := idx1 _ _ _
  have i2 : idxD (encNV y) (.int 1) = .ok y.2 := idx1 _ _ _
  have hne := neD_pl (encNV_pl px) (encNV_pl py)
  by_cases hq : D.eqv (encNV x) (encNV y) = true
  · rw [hq] at hne
    simp only [fb1_law_once, b1_0_law_once, sSeq, sNil, sRet, sRetV, sRetN, sSet, sOwn, sAsg, sDrop, sIf, sFor, sMet, sFrz, sBrk, sCnt, lft, outD, eC, aNil, aCons, eTup, eLst, eOp, eUn, tV, bT, tAndD, tOrD, tNotD, eAnd, eOr, eNot, eIf, eChain, eCall, eSl, oNone, oSome, iSrc, iCall, srcD, gNm, ev0, evS, evB0, evB0o, evBS, ok_bind, exc_bind, stuck_bind, if_true, if_false, List.length_cons, List.length_nil, List.set_cons_zero, List.set_cons_succ, lim_lit, Bool.false_eq_true, ite_true, ite_false, reduceIte, List.getElem?_cons_zero, List.getElem?_cons_succ, Nat.zero_le, Nat.reduceLeDiff, Nat.reduceAdd, Nat.reduceLT, Nat.reduceSub, Nat.zero_lt_succ, Bool.not_true, Bool.not_false, hne]
  · have hq' : D.eqv (encNV x) (encNV y) = false := by simpa using hq
    rw [hq'] at hne
    have h : ¬ Cond x y := by
      rcases h with h | h
      · subst h
        rw [D.eqv_self (encNV_pl px)] at hq'
        cases hq'
      · exact h
    generalize hxv : x.2 = v at *
    cases v with
    | str s => have t : isInt (.str s) = .ok (.bl false) := rfl
               simp only [fb1_law_once, b1_0_law_once, sSeq, sNil, sRet, sRetV, sRetN, sSet, sOwn, sAsg, sDrop, sIf, sFor, sMet, sFrz, sBrk, sCnt, lft, outD, eC, aNil, aCons, eTup, eLst, eOp, eUn, tV, bT, tAndD, tOrD, tNotD, eAnd, eOr, eNot, eIf, eChain, eCall, eSl, oNone, oSome, iSrc, iCall, srcD, gNm, ev0, evS, evB0, evB0o, evBS, ok_bind, exc_bind, stuck_bind, if_true, if_false, List.length_cons, List.length_nil, List.set_cons_zero, List.set_cons_succ, lim_lit, Bool.false_eq_true, ite_true, ite_false, reduceIte, List.getElem?_cons_zero, List.getElem?_cons_succ, Nat.zero_le, Nat.reduceLeDiff, Nat.reduceAdd, Nat.reduceLT, Nat.reduceSub, Nat.zero_lt_succ, Bool.not_true, Bool.not_false, eIsT, hne, i1, t]
    | non => have t : isInt .non = .ok (.bl false) := rfl
             simp only [fb1_law_once, b1_0_law_once, sSeq, sNil, sRet, sRetV, sRetN, sSet, sOwn, sAsg, sDrop, sIf, sFor, sMet, sFrz, sBrk, sCnt, lft, outD, eC, aNil, aCons, eTup, eLst, eOp, eUn, tV, bT, tAndD, tOrD, tNotD, eAnd, eOr, eNot, eIf, eChain, eCall, eSl, oNone, oSome, iSrc, iCall, srcD, gNm, ev0, evS, evB0, evB0o, evBS, ok_bind, exc_bind, stuck_bind, if_true, if_false, List.length_cons, List.length_nil, List.set_cons_zero, List.set_cons_succ, lim_lit, Bool.false_eq_true, ite_true, ite_false, reduceIte, List.getElem?_cons_zero, List.getElem?_cons_succ, Nat.zero_le, Nat.reduceLeDiff, Nat.reduceAdd, Nat.reduceLT, Nat.reduceSub, Nat.zero_lt_succ, Bool.not_true, Bool.not_false, eIsT, hne, i1, t]
    | lst s => have t : isInt (.lst s) = .ok (.bl false) := rfl
               simp only [fb1_law_once, b1_0_law_once, sSeq, sNil, sRet, sRetV, sRetN, sSet, sOwn, sAsg, sDrop, sIf, sFor, sMet, sFrz, sBrk, sCnt, lft, outD, eC, aNil, aCons, eTup, eLst, eOp, eUn, tV, bT, tAndD, tOrD, tNotD, eAnd, eOr, eNot, eIf, eChain, eCall, eSl, oNone, oSome, iSrc, iCall, srcD, gNm, ev0, evS, evB0, evB0o, evBS, ok_bind, exc_bind, stuck_bind, if_true, if_false, List.length_cons, List.length_nil, List.set_cons_zero, List.set_cons_succ, lim_lit, Bool.false_eq_true, ite_true, ite_false, reduceIte, List.getElem?_cons_zero, List.getElem?_cons_succ, Nat.zero_le, Nat.reduceLeDiff, Nat.reduceAdd, Nat.reduceLT, Nat.reduceSub, Nat.zero_lt_succ, Bool.not_true, Bool.not_false, eIsT, hne, i1, t]
    | tup s => have t : isInt (.tup s) = .ok (.bl false) := rfl
               simp only [fb1_law_once, b1_0_law_once, sSeq, sNil, sRet, sRetV, sRetN, sSet, sOwn, sAsg, sDrop, sIf, sFor, sMet, sFrz, sBrk, sCnt, lft, outD, eC, aNil, aCons, eTup, eLst, eOp, eUn, tV, bT, tAndD, tOrD, tNotD, eAnd, eOr, eNot, eIf, eChain, eCall, eSl, oNone, oSome, iSrc, iCall, srcD, gNm, ev0, evS, evB0, evB0o, evBS, ok_bind, exc_bind, stuck_bind, if_true, if_false, List.length_cons, List.length_nil, List.set_cons_zero, List.set_cons_succ, lim_lit, Bool.false_eq_true, ite_true, ite_false, reduceIte, List.getElem?_cons_zero, List.getElem?_cons_succ, Nat.zero_le, Nat.reduceLeDiff, Nat.reduceAdd, Nat.reduceLT, Nat.reduceSub, Nat.zero_lt_succ, Bool.not_true, Bool.not_false, eIsT, hne, i1, t]
    | bl s => have t : isInt (.bl s) = .ok (.bl true) := rfl
              have t2 : isBool (.bl s) = .ok (.bl true) := rfl
              simp only [fb1_law_once, b1_0_law_once, sSeq, sNil, sRet, sRetV, sRetN, sSet, sOwn, sAsg, sDrop, sIf, sFor, sMet, sFrz, sBrk, sCnt, lft, outD, eC, aNil, aCons, eTup, eLst, eOp, eUn, tV, bT, tAndD, tOrD, tNotD, eAnd, eOr, eNot, eIf, eChain, eCall, eSl, oNone, oSome, iSrc, iCall, srcD, gNm, ev0, evS, evB0, evB0o, evBS, ok_bind, exc_bind, stuck_bind, if_true, if_false, List.length_cons, List.length_nil, List.set_cons_zero, List.set_cons_succ, lim_lit, Bool.false_eq_true, ite_true, ite_false, reduceIte, List.getElem?_cons_zero, List.getElem?_cons_succ, Nat.zero_le, Nat.reduceLeDiff, Nat.reduceAdd, Nat.reduceLT, Nat.reduceSub, Nat.zero_lt_succ, Bool.not_true, Bool.not_false, eIsT, hne, i1, t, t2]
    | int i =>
      have t : isInt (.int i) = .ok (.bl true) := rfl
      have t2 : isBool (.int i) = .ok (.bl false) := rfl
      by_cases h0 : (0 : Int) ≤ i
      · have d0 : decide ((0 : Int) ≤ i) = true := decide_eq_true h0
        by_cases h1 : i < 100000000
        · have d1 : decide (i < 100000000) = true := decide_eq_true h1
          have hy : isInt y.2 = .ok (.bl false) ∨ ∃ b, y.2 = .bl b := by
            cases hyv : y.2 with
            | int j => exact absurd ⟨⟨i, hxv, h0, h1⟩, j, hyv⟩ h
            | bl b => exact .inr ⟨b, rfl⟩
            | str s => exact .inl rfl
            | non => exact .inl rfl
            | lst s => exact .inl rfl
            | tup s => exact .inl rfl
            | _ => rw [hyv] at oy; exact False.elim oy
          rcases hy with hy | ⟨b, hb⟩
          · simp only [fb1_law_once, b1_0_law_once, sSeq, sNil, sRet, sRetV, sRetN, sSet, sOwn, sAsg, sDrop, sIf, sFor, sMet, sFrz, sBrk, sCnt, lft, outD, eC, aNil, aCons, eTup, eLst, eOp, eUn, tV, bT, tAndD, tOrD, tNotD, eAnd, eOr, eNot, eIf, eChain, eCall, eSl, oNone, oSome, iSrc, iCall, srcD, gNm, ev0, evS, evB0, evB0o, evBS, ok_bind, exc_bind, stuck_bind, if_true, if_false, List.length_cons, List.length_nil, List.set_cons_zero, List.set_cons_succ, lim_lit, Bool.false_eq_true, ite_true, ite_false, reduceIte, List.getElem?_cons_zero, List.getElem?_cons_succ, Nat.zero_le, Nat.reduceLeDiff, Nat.reduceAdd, Nat.reduceLT, Nat.reduceSub, Nat.zero_lt_succ, Bool.not_true, Bool.not_false, eIsT, hne, i1, t, t2, le_int', lt_int, d0, pow8, d1, i2, hy]
          · exact absurd hb (nb b)
        · have d1 : decide (i < 100000000) = false := decide_eq_false h1
          simp only [fb1_law_once, b1_0_law_once, sSeq, sNil, sRet, sRetV, sRetN, sSet, sOwn, sAsg, sDrop, sIf, sFor, sMet, sFrz, sBrk, sCnt, lft, outD, eC, aNil, aCons, eTup, eLst, eOp, eUn, tV, bT, tAndD, tOrD, tNotD, eAnd, eOr, eNot, eIf, eChain, eCall, eSl, oNone, oSome, iSrc, iCall, srcD, gNm, ev0, evS, evB0, evB0o, evBS, ok_bind, exc_bind, stuck_bind, if_true, if_false, List.length_cons, List.length_nil, List.set_cons_zero, List.set_cons_succ, lim_lit, Bool.false_eq_true, ite_true, ite_false, reduceIte, List.getElem?_cons_zero, List.getElem?_cons_succ, Nat.zero_le, Nat.reduceLeDiff, Nat.reduceAdd, Nat.reduceLT, Nat.reduceSub, Nat.zero_lt_succ, Bool.not_true, Bool.not_false, eIsT, hne, i1, t, t2, le_int', lt_int, d0, pow8, d1]
      · have d0 : decide ((0 : Int) ≤ i) = false := decide_eq_false h0
        simp only [fb1_law_once, b1_0_law_once, sSeq, sNil, sRet, sRetV, sRetN, sSet, sOwn, sAsg, sDrop, sIf, sFor, sMet, sFrz, sBrk, sCnt, lft, outD, eC, aNil, aCons, eTup, eLst, eOp, eUn, tV, bT, tAndD, tOrD, tNotD, eAnd, eOr, eNot, eIf, eChain, eCall, eSl, oNone, oSome, iSrc, iCall, srcD, gNm, ev0, evS, evB0, evB0o, evBS, ok_bind, exc_bind, stuck_bind, if_true, if_false, List.length_cons, List.length_nil, List.set_cons_zero, List.set_cons_succ, lim_lit, Bool.false_eq_true, ite_true, ite_false, reduceIte, List.getElem?_cons_zero, List.getElem?_cons_succ, Nat.zero_le, Nat.reduceLeDiff, Nat.reduceAdd, Nat.reduceLT, Nat.reduceSub, Nat.zero_lt_succ, Bool.not_true, Bool.not_false, eIsT, hne, i1, t, t2, le_int', d0]
    | _ => exact False.elim ox
theorem zip_loop (x0 x1 x2 x3 x4 x5 : Sl) : ∀ (l : List (NV × NV)) (s6 s7 : Sl), (∀ z ∈ l, okV z.1.2 ∧ okV z.2.2 ∧ z.1.2.pl 50 = true ∧ z.2.2.pl 50 = true ∧ (∀ b, z.2.2 ≠ .bl b) ∧ (z.1 = z.2 ∨ ¬ Cond z.1 z.2)) →
    ∃ t6 t7, loopD (gTp 2 (gCn (gNm 6) (gCn (gNm 7) gNl))) fb1_law_once (l.map fun z => pairD (encNV z.1) (encNV z.2)) [x0, x1, x2, x3, x4, x5, s6, s7] = some (.nx [x0, x1, x2, x3, x4, x5, t6, t7])
  | [], s6, s7, _ => ⟨s6, s7, rfl⟩
  | z :: l, s6, s7, h => by
    obtain ⟨h1, h2, h3, h4, h5, h6⟩ := h z List.mem_cons_self
    have tk := turn_z x0 x1 x2 x3 x4 x5 z.1 z.2 h1 h2 h3 h4 h5 h6
    obtain ⟨t6, t7, ih⟩ := zip_loop x0 x1 x2 x3 x4 x5 l (.sh (encNV z.1)) (.sh (encNV z.2)) fun y m => h y (List.mem_cons_of_mem _ m)
    exact ⟨t6, t7, by rw [List.map_cons, loop_cons (e1 := [x0, x1, x2, x3, x4, x5, .sh (encNV z.1), .sh (encNV z.2)]) rfl tk, ih]⟩
theorem names_ok (L : List NV) (x0 x1 x2 x3 x4 x5 x6 x7 : Sl) (hl : L.length ≤ 1000) (i : Nat) (lc : ED) (hlc : lc = eLc (iSrc (eVar i)) (gNm 6) tTrue (eOp idxD (eVar 6) (eC (.int 0))) [6]) (hx : (iSrc (eVar i) : AD) [x0, x1, x2, x3, x4, x5, x6, x7] = .ok (L.map encNV)) : lc [x0, x1, x2, x3, x4, x5, x6, x7] = .ok (.lst ((L.map Prod.fst).map D.str)) := by
  subst hlc
  rw [List.map_map]
  refine eLc_ok (ds := L.map encNV) hx (by rw [List.length_map]; omega) (filtR_m fun x m => ?_)
  have i0 : idxD (encNV x) (.int 0) = .ok (.str x.1) := idx0 _ _
  simp only [stepLc, wipeE, tTrue, sSeq, sNil, sRet, sRetV, sRetN, sSet, sOwn, sAsg, sDrop, sIf, sFor, sMet, sFrz, sBrk, sCnt, lft, outD, eC, aNil, aCons, eTup, eLst, eOp, eUn, tV, bT, tAndD, tOrD, tNotD, eAnd, eOr, eNot, eIf, eChain, eCall, eSl, oNone, oSome, iSrc, iCall, srcD, gNm, ev0, evS, evB0, evB0o, evBS, ok_bind, exc_bind, stuck_bind, if_true, if_false, List.length_cons, List.length_nil, List.set_cons_zero, List.set_cons_succ, lim_lit, Bool.false_eq_true, ite_true, ite_false, reduceIte, List.getElem?_cons_zero, List.getElem?_cons_succ, Nat.zero_le, Nat.reduceLeDiff, Nat.reduceAdd, Nat.reduceLT, Nat.reduceSub, Nat.zero_lt_succ, Bool.not_true, Bool.not_false, i0]
  rfl
theorem zipW_map (a b : List NV) : List.zipWith pairD (a.map encNV) (b.map encNV) = (a.zip b).map fun z => pairD (encNV z.1) (encNV z.2) := by
  induction a generalizing b with
  | nil => rfl
  | cons x a ih => cases b with
    | nil => rfl
    | cons y b => simp [ih]
/-- told otherwise: the names are others -/
theorem t3_names (x0 x1 x2 : Sl) (L L' : List NV) (h1 : L.length ≤ 100) (h2 : L'.length ≤ 101) (hn : L'.map Prod.fst ≠ L.map Prod.fst) : t3_law_once [x0, x1, x2, .sh (encPs L), .sh (encPs L'), .sh (.str "bad values"), .un, .un] = some (.rt (.bl true)) := by
  have n1 := names_ok L' x0 x1 x2 (.sh (encPs L)) (.sh (encPs L')) (.sh (.str "bad values")) .un .un (by omega) 4 lc4_law_once rfl rfl
  have n2 := names_ok L x0 x1 x2 (.sh (encPs L)) (.sh (encPs L')) (.sh (.str "bad values")) .un .un (by omega) 3 lc5_law_once rfl rfl
  have n3 := ne_strs (L'.map Prod.fst) (L.map Prod.fst)
  rw [decide_eq_false hn] at n3
  unfold t3_law_once
  simp only [sSeq, sNil, sRet, sRetV, sRetN, sSet, sOwn, sAsg, sDrop, sIf, sFor, sMet, sFrz, sBrk, sCnt, lft, outD, eC, aNil, aCons, eTup, eLst, eOp, eUn, tV, bT, tAndD, tOrD, tNotD, eAnd, eOr, eNot, eIf, eChain, eCall, eSl, oNone, oSome, iSrc, iCall, srcD, gNm, ev0, evS, evB0, evB0o, evBS, ok_bind, exc_bind, stuck_bind, if_true, if_false, List.length_cons, List.length_nil, List.set_cons_zero, List.set_cons_succ, lim_lit, Bool.false_eq_true, ite_true, ite_false, reduceIte, List.getElem?_cons_zero, List.getElem?_cons_succ, Nat.zero_le, Nat.reduceLeDiff, Nat.reduceAdd, Nat.reduceLT, Nat.reduceSub, Nat.zero_lt_succ, Bool.not_true, Bool.not_false, bad_is, n1, n2, n3]
theorem t3_bad (x0 x1 x2 : Sl) (L L' : List NV) (h1 : L.length ≤ 100) (h2 : L'.length ≤ 101) (hn : L'.map Prod.fst = L.map Prod.fst) (hz : ∀ z ∈ L'.zip L, okV z.1.2 ∧ okV z.2.2 ∧ z.1.2.pl 50 = true ∧ z.2.2.pl 50 = true ∧ (∀ b, z.2.2 ≠ .bl b) ∧ (z.1 = z.2 ∨ ¬ Cond z.1 z.2)) :
    t3_law_once [x0, x1, x2, .sh (encPs L), .sh (encPs L'), .sh (.str "bad values"), .un, .un] = some (.rt (.bl true)) := by
  have n1 := names_ok L' x0 x1 x2 (.sh (encPs L)) (.sh (encPs L')) (.sh (.str "bad values")) .un .un (by omega) 4 lc4_law_once rfl rfl
  have n2 := names_ok L x0 x1 x2 (.sh (encPs L)) (.sh (encPs L')) (.sh (.str "bad values")) .un .un (by omega) 3 lc5_law_once rfl rfl
  have n3 := ne_strs (L'.map Prod.fst) (L.map Prod.fst)
  rw [decide_eq_true hn] at n3
  obtain ⟨t6, t7, lp⟩ := zip_loop x0 x1 x2 (.sh (encPs L)) (.sh (encPs L')) (.sh (.str "bad values")) (L'.zip L) .un .un hz
  have zp : zipD [encPs L', encPs L] = .ok ((L'.zip L).map fun z => pairD (encNV z.1) (encNV z.2)) := by
    rw [← zipW_map]; rfl
  unfold t3_law_once
  simp only [sSeq, sNil, sRet, sRetV, sRetN, sSet, sOwn, sAsg, sDrop, sIf, sFor, sMet, sFrz, sBrk, sCnt, lft, outD, eC, aNil, aCons, eTup, eLst, eOp, eUn, tV, bT, tAndD, tOrD, tNotD, eAnd, eOr, eNot, eIf, eChain, eCall, eSl, oNone, oSome, iSrc, iCall, srcD, gNm, ev0, evS, evB0, evB0o, evBS, ok_bind, exc_bind, stuck_bind, if_true, if_false, List.length_cons, List.length_nil, List.set_cons_zero, List.set_cons_succ, lim_lit, Bool.false_eq_true, ite_true, ite_false, reduceIte, List.getElem?_cons_zero, List.getElem?_cons_succ, Nat.zero_le, Nat.reduceLeDiff, Nat.reduceAdd, Nat.reduceLT, Nat.reduceSub, Nat.zero_lt_succ, Bool.not_true, Bool.not_false, bad_is, n1, n2, n3, zp, lp]
theorem t3_good (x0 x2 : Sl) (p : Pat) (hp : p.ps.length ≤ 100) (L L' : List NV) (a : List Str) (h1 : L.length ≤ 100) (h2 : L'.length ≤ 101) (hn : L'.map Prod.fst = L.map Prod.fst) (ha : isAddrB a = true) (hm : matchD p a = encPs L') (hpl : ∀ x ∈ L', x.2.pl 50 = true) :
    t3_law_once [x0, .sh p.enc, x2, .sh (encPs L), .sh (encPs L'), .sh (encW a), .un, .un] = some (.rt (.bl true)) := by
  have n1 := names_ok L' x0 (.sh p.enc) x2 (.sh (encPs L)) (.sh (encPs L')) (.sh (encW a)) .un .un (by omega) 4 lc2_law_once rfl rfl
  have n2 := names_ok L x0 (.sh p.enc) x2 (.sh (encPs L)) (.sh (encPs L')) (.sh (encW a)) .un .un (by omega) 3 lc3_law_once rfl rfl
  have n3 := eq_strs (L'.map Prod.fst) (L.map Prod.fst)
  rw [decide_eq_true hn] at n3
  have ha' := ha
  unfold isAddrB at ha'
  obtain ⟨a1, a2⟩ := Bool.and_eq_true_iff.mp ha'
  have a1 := of_decide_eq_true a1
  have ww : ∀ w ∈ a, isWordB w = true := List.all_eq_true.mp a2
  have ia := is_address_w a (by omega) fun w m => by have := (word_wok (ww w m)).2; omega
  rw [ha] at ia
  have im := matched_ok p a (by omega) fun w m => word_wok (ww w m)
  rw [hm] at im
  have nm := ne_self (encPs_pl hpl)
  have it : isNotD (.bl true) (.bl true) = .ok (.bl false) := rfl
  have bn := bad_not a
  unfold t3_law_once t2_law_once t1_law_once t0_law_once
  simp only [sSeq, sNil, sRet, sRetV, sRetN, sSet, sOwn, sAsg, sDrop, sIf, sFor, sMet, sFrz, sBrk, sCnt, lft, outD, eC, aNil, aCons, eTup, eLst, eOp, eUn, tV, bT, tAndD, tOrD, tNotD, eAnd, eOr, eNot, eIf, eChain, eCall, eSl, oNone, oSome, iSrc, iCall, srcD, gNm, ev0, evS, evB0, evB0o, evBS, ok_bind, exc_bind, stuck_bind, if_true, if_false, List.length_cons, List.length_nil, List.set_cons_zero, List.set_cons_succ, lim_lit, Bool.false_eq_true, ite_true, ite_false, reduceIte, List.getElem?_cons_zero, List.getElem?_cons_succ, Nat.zero_le, Nat.reduceLeDiff, Nat.reduceAdd, Nat.reduceLT, Nat.reduceSub, Nat.zero_lt_succ, Bool.not_true, Bool.not_false, bn, ia, it, im, nm, n1, n2, n3]
theorem set_names (L : List NV) (k : Nat) (h : k < L.length) (v : D) : (L.take k ++ [(L[k].1, v)] ++ L.drop (k + 1)).map Prod.fst = L.map Prod.fst := by
  have e : L = L.take k ++ [L[k]] ++ L.drop (k + 1) := by
    rw [List.append_assoc, List.singleton_append, ← List.drop_eq_getElem_cons h, List.take_append_drop]
  conv => rhs; rw [e]
  simp only [List.map_append, List.map_cons, List.map_nil]
theorem set_mem (L : List NV) (k : Nat) (h : k < L.length) (v : D) (nd : (L.map Prod.fst).Nodup) {x : NV} (m : x ∈ L) (hx : x.1 ≠ L[k].1) : x ∈ L.take k ++ [(L[k].1, v)] ++ L.drop (k + 1) := by
  have e : L = L.take k ++ [L[k]] ++ L.drop (k + 1) := by
    rw [List.append_assoc, List.singleton_append, ← List.drop_eq_getElem_cons h, List.take_append_drop]
  rw [e] at m
  rcases List.mem_append.mp m with m | m
  · rcases List.mem_append.mp m with m | m
    · exact List.mem_append_left _ (List.mem_append_left _ m)
    · exact absurd (by rw [List.mem_singleton.mp m]) hx
  · exact List.mem_append_right _ m
theorem mem_set (L : List NV) (k : Nat) (h : k < L.length) (v : D) {x : NV} (m : x ∈ L.take k ++ [(L[k].1, v)] ++ L.drop (k + 1)) : x ∈ L ∨ x.2 = v := by
  rcases List.mem_append.mp m with m | m
  · rcases List.mem_append.mp m with m | m
    · exact .inl (List.mem_of_mem_take m)
    · exact .inr (by rw [List.mem_singleton.mp m])
  · exact .inl (List.mem_of_mem_drop m)
theorem zip_set (L : List NV) (k : Nat) (h : k < L.length) (v : D) : ∀ z ∈ (L.take k ++ [(L[k].1, v)] ++ L.drop (k + 1)).zip L, (z.1 = z.2 ∧ z.2 ∈ L) ∨ (z.1 = (L[k].1, v) ∧ z.2 = L[k]) := by
  intro z m
  have e : L = L.take k ++ [L[k]] ++ L.drop (k + 1) := by
    rw [List.append_assoc, List.singleton_append, ← List.drop_eq_getElem_cons h, List.take_append_drop]
  have self : ∀ (l : List NV), ∀ z ∈ l.zip l, z.1 = z.2 ∧ z.2 ∈ l := by
    intro l z m
    obtain ⟨i, hi, ez⟩ := List.getElem_of_mem m
    rw [List.getElem_zip] at ez
    rw [← ez]
    exact ⟨rfl, List.getElem_mem _⟩
  have m2 : z ∈ (L.take k ++ [(L[k].1, v)] ++ L.drop (k + 1)).zip (L.take k ++ [L[k]] ++ L.drop (k + 1)) := by rw [← e]; exact m
  rw [List.zip_append (by simp; try omega), List.zip_append (by simp)] at m2
  rcases List.mem_append.mp m2 with m2 | m2
  · rcases List.mem_append.mp m2 with m2 | m2
    · obtain ⟨s1, s2⟩ := self _ z m2
      exact .inl ⟨s1, List.mem_of_mem_take s2⟩
    · have : z = ((L[k].1, v), L[k]) := List.mem_singleton.mp m2
      rw [this]
      exact .inr ⟨rfl, rfl⟩
  · obtain ⟨s1, s2⟩ := self _ z m2
    exact .inl ⟨s1, List.mem_of_mem_drop s2⟩
theorem names_back {L : List NV} {hs : List Str} (h : L.map Prod.fst = hs) (nd : hs.Nodup) : (hs.map fun n => encNV (n, lkOf L n)) = L.map encNV := by
  subst h
  rw [List.map_map]
  refine List.map_congr_left fun x m => ?_
  show encNV (x.1, lkOf L x.1) = encNV x
  rw [lkOf_mem nd m]
theorem once_ok {S : D} (hS : IsScr S) : m_law_once [S] = .ok (.bl true) := by
  have e : m_law_once [S] = outD (d_law_once [.sh S, .un, .un, .un, .un, .un, .un, .un]) := rfl
  obtain ⟨p, hp, d⟩ := drawn_of hS 0 4 (by decide)
  have hp : m_law_pattern [S, .int 0, .int 4] = .ok p.enc := hp
  have l4 := d.len
  obtain ⟨a, ha, la, pa⟩ := near_ok hS 100 p l4 d.good
  have ha : m_law_near [S, .int 100, p.enc] = .ok (encW a) := ha
  have wa : ∀ w ∈ a, WOk w := fun w m => wok_pool w (pa w m)
  have hm : m_law_matched [p.enc, encW a] = .ok (matchD p a) := law_matched_ok p.rest p.ps a 10 (by omega) (by omega) wa
  rw [e]
  unfold d_law_once
  rw [seq_nx (e1 := [.sh S, .sh p.enc, .un, .un, .un, .un, .un, .un]) (by simp only [sSeq, sNil, sRet, sRetV, sRetN, sSet, sOwn, sAsg, sDrop, sIf, sFor, sMet, sFrz, sBrk, sCnt, lft, outD, eC, aNil, aCons, eTup, eLst, eOp, eUn, tV, bT, tAndD, tOrD, tNotD, eAnd, eOr, eNot, eIf, eChain, eCall, eSl, oNone, oSome, iSrc, iCall, srcD, gNm, ev0, evS, evB0, evB0o, evBS, ok_bind, exc_bind, stuck_bind, if_true, if_false, List.length_cons, List.length_nil, List.set_cons_zero, List.set_cons_succ, lim_lit, Bool.false_eq_true, ite_true, ite_false, reduceIte, List.getElem?_cons_zero, List.getElem?_cons_succ, Nat.zero_le, Nat.reduceLeDiff, Nat.reduceAdd, Nat.reduceLT, Nat.reduceSub, Nat.zero_lt_succ, Bool.not_true, Bool.not_false, hp])]
  unfold t9_law_once
  rw [seq_nx (e1 := [.sh S, .sh p.enc, .sh (encW a), .un, .un, .un, .un, .un]) (by simp only [sSeq, sNil, sRet, sRetV, sRetN, sSet, sOwn, sAsg, sDrop, sIf, sFor, sMet, sFrz, sBrk, sCnt, lft, outD, eC, aNil, aCons, eTup, eLst, eOp, eUn, tV, bT, tAndD, tOrD, tNotD, eAnd, eOr, eNot, eIf, eChain, eCall, eSl, oNone, oSome, iSrc, iCall, srcD, gNm, ev0, evS, evB0, evB0o, evBS, ok_bind, exc_bind, stuck_bind, if_true, if_false, List.length_cons, List.length_nil, List.set_cons_zero, List.set_cons_succ, lim_lit, Bool.false_eq_true, ite_true, ite_false, reduceIte, List.getElem?_cons_zero, List.getElem?_cons_succ, Nat.zero_le, Nat.reduceLeDiff, Nat.reduceAdd, Nat.reduceLT, Nat.reduceSub, Nat.zero_lt_succ, Bool.not_true, Bool.not_false, ha])]
  unfold t8_law_once
  rw [seq_nx (e1 := [.sh S, .sh p.enc, .sh (encW a), .sh (matchD p a), .un, .un, .un, .un]) (by simp only [sSeq, sNil, sRet, sRetV, sRetN, sSet, sOwn, sAsg, sDrop, sIf, sFor, sMet, sFrz, sBrk, sCnt, lft, outD, eC, aNil, aCons, eTup, eLst, eOp, eUn, tV, bT, tAndD, tOrD, tNotD, eAnd, eOr, eNot, eIf, eChain, eCall, eSl, oNone, oSome, iSrc, iCall, srcD, gNm, ev0, evS, evB0, evB0o, evBS, ok_bind, exc_bind, stuck_bind, if_true, if_false, List.length_cons, List.length_nil, List.set_cons_zero, List.set_cons_succ, lim_lit, Bool.false_eq_true, ite_true, ite_false, reduceIte, List.getElem?_cons_zero, List.getElem?_cons_succ, Nat.zero_le, Nat.reduceLeDiff, Nat.reduceAdd, Nat.reduceLT, Nat.reduceSub, Nat.zero_lt_succ, Bool.not_true, Bool.not_false, hm])]
  unfold t7_law_once
  cases hd : does p a with
  | false =>
    have hmn : matchD p a = .non := by
      unfold matchD
      rw [show doesP p.ps p.rest a = false from hd]; rfl
    rw [hmn]
    simp only [sSeq, sNil, sRet, sRetV, sRetN, sSet, sOwn, sAsg, sDrop, sIf, sFor, sMet, sFrz, sBrk, sCnt, lft, outD, eC, aNil, aCons, eTup, eLst, eOp, eUn, tV, bT, tAndD, tOrD, tNotD, eAnd, eOr, eNot, eIf, eChain, eCall, eSl, oNone, oSome, iSrc, iCall, srcD, gNm, ev0, evS, evB0, evB0o, evBS, ok_bind, exc_bind, stuck_bind, if_true, if_false, List.length_cons, List.length_nil, List.set_cons_zero, List.set_cons_succ, lim_lit, Bool.false_eq_true, ite_true, ite_false, reduceIte, List.getElem?_cons_zero, List.getElem?_cons_succ, Nat.zero_le, Nat.reduceLeDiff, Nat.reduceAdd, Nat.reduceLT, Nat.reduceSub, Nat.zero_lt_succ, Bool.not_true, Bool.not_false, isD, isN]
  | true =>
    obtain ⟨dl, dn, dz⟩ := does_len hd
    have hmv := matchD_vals p a hd
    have nd : (holesL (Pat.L p)).Nodup := by
      have := d.valid
      unfold validL at this
      simp only [Bool.and_eq_true] at this
      exact of_decide_eq_true this.2.2.2
    have hnm := allV_names p a dl
    have hov := allV_ok hd pa (by omega)
    have hlen : (allV p a).length ≤ 5 := by
      have h1 : (allV p a).length = (holesL (Pat.L p)).length := by rw [← hnm, List.length_map]
      have h2 := holesL_len (Pat.L p)
      have h3 := L_len p
      omega
    have nmL : ∀ q ∈ p.ps, q.nm.length ≤ 1000 := fun q m => by
      have f := d.fit (.p q) (List.mem_append_left _ (List.mem_map.mpr ⟨q, m, rfl⟩))
      obtain ⟨g, n, hn, h⟩ := d.named m
      have l2 := names4_len n hn
      cases q with
      | word w => exact Nat.le_trans (pool_len w g) (by decide)
      | num m => cases h; exact Nat.le_trans l2 (by decide)
      | any m => cases h; exact Nat.le_trans l2 (by decide)
      | one m cs => obtain ⟨rfl, _⟩ := h; exact Nat.le_trans l2 (by decide)
    generalize hL0 : allV p a = L0 at *
    have nd0 : (L0.map Prod.fst).Nodup := by rw [hnm]; exact nd
    -- built of what was matched, in any order
    have back : ∀ L : List NV, L.Perm L0 → m_built [p.enc, encPs L] = .ok (encW a) := fun L pm => by
      have ndL : (L.map Prod.fst).Nodup := (pm.map Prod.fst).nodup_iff.mpr nd0
      have hs : sortS (L.map Prod.fst) = sortS (holesL (Pat.L p)) := by
        rw [← hnm]
        exact up_one (((sortS_perm _).trans (pm.map Prod.fst)).trans (sortS_perm _).symm) (sortS_up _) (sortS_up _)
      rw [built_ok p L (by omega) (by have := pm.length_eq; omega) hs nd (fun x m => (hov x (pm.mem_iff.mp m)).1) nmL]
      have look : ∀ x ∈ L0, lkOf L x.1 = x.2 := fun x m => lkOf_mem ndL (pm.mem_iff.mpr m)
      have fit := fit_vals (lk := lkOf L) (nk := "#") (i := 7) (.inl rfl) p.ps a dl d.good dz pa fun x m => by
        have mx : x ∈ L0 := by rw [← hL0]; exact List.mem_append_left _ m
        refine ⟨fun _ => look x mx, fun hx => ?_⟩
        have hin : x.1 ∈ holesL (Pat.L p) := by rw [← hnm]; exact List.mem_map.mpr ⟨x, mx, rfl⟩
        have hb : ∀ n ∈ holesL (Pat.L p), n ≠ "#" := fun n mn => by
          unfold holesL at mn
          obtain ⟨q, mq, rfl⟩ := List.mem_map.mp mn
          have := List.mem_filter.mp mq
          have hv := d.valid
          unfold validL at hv
          simp only [Bool.and_eq_true] at hv
          have hq := List.all_eq_true.mp hv.2.1 q this.1
          have nmv : isNameB q.nm = true := by
            cases q with
            | r n => exact hq
            | p q => cases q with
              | word w => exact absurd this.2 (by show ¬ (!(("word" : Str) == "word")) = true; decide)
              | num n => exact hq
              | any n => exact hq
              | one n cs =>
                have hq : (isNameB n && choicesB cs) = true := hq
                exact (Bool.and_eq_true_iff.mp hq).1
          intro z
          rw [z] at nmv
          exact absurd nmv (by decide +kernel)
        exact absurd hx (hb _ hin)
      have same : List.zipWith (chgW "#" (Str.ofString (toString (7 : Int)))) p.ps a = a.take p.ps.length := by
        have key : ∀ (ps : List Part) (a : List Str), ps.length ≤ a.length → (∀ q ∈ ps, q.nm ≠ "#" ∨ ∃ w, q = .word w) → List.zipWith (chgW "#" (Str.ofString (toString (7 : Int)))) ps a = a.take ps.length := by
          intro ps
          induction ps with
          | nil => intro a _ _; simp
          | cons q ps ih =>
            intro a hl hq
            cases a with
            | nil => simp at hl
            | cons w a =>
              rw [List.zipWith_cons_cons, List.length_cons, List.take_succ_cons, ih a (by simpa using hl) fun x m => hq x (List.mem_cons_of_mem _ m)]
              congr 1
              rcases hq q List.mem_cons_self with h | ⟨v, rfl⟩
              · cases q with
                | num n => exact if_neg h
                | _ => rfl
              · rfl
        refine key p.ps a dl fun q m => ?_
        obtain ⟨g, n, hn, h⟩ := d.named m
        have hb : ∀ n ∈ names4, n ≠ "#" := by
          intro n mn
          simp only [names4, List.mem_cons, List.not_mem_nil, or_false] at mn
          rcases mn with rfl | rfl | rfl | rfl <;> decide
        cases q with
        | word w => exact .inr ⟨w, rfl⟩
        | num m => cases h; exact .inl (hb _ hn)
        | any m => cases h; exact .inl (hb _ hn)
        | one m cs => obtain ⟨rfl, _⟩ := h; exact .inl (hb _ hn)
      rw [same] at fit
      have := builtF_fit (rs := a.drop p.ps.length) fit (by
        cases hR : p.rest with
        | none => exact List.drop_of_length_le (by rw [dn hR]; exact Nat.le_refl _)
        | some r =>
          refine look (r, encW (a.drop p.ps.length)) ?_
          rw [← hL0]
          refine List.mem_append_right _ ?_
          unfold restV
          rw [hR]
          exact List.mem_singleton_self _) (fun w m => pool_word w (pa w (List.mem_of_mem_drop m))) (by rw [List.take_append_drop]; omega)
      rw [List.take_append_drop] at this
      exact this
    have b1 := tried_ok (back L0 (List.Perm.refl _))
    have b2 := tried_ok (back L0.reverse L0.reverse_perm)
    have rv : revD (encPs L0) = .ok (encPs L0.reverse) := by
      show Res.ok (D.lst (L0.map encNV).reverse) = _
      rw [← List.map_reverse]; rfl
    have ni : isD (encPs L0) .non = .ok (.bl false) := rfl
    have nw := ne_self (encW_pl60 a)
    rw [hmv]
    rw [seq_nx (e1 := [.sh S, .sh p.enc, .sh (encW a), .sh (encPs L0), .un, .un, .un, .un]) (by simp only [sSeq, sNil, sRet, sRetV, sRetN, sSet, sOwn, sAsg, sDrop, sIf, sFor, sMet, sFrz, sBrk, sCnt, lft, outD, eC, aNil, aCons, eTup, eLst, eOp, eUn, tV, bT, tAndD, tOrD, tNotD, eAnd, eOr, eNot, eIf, eChain, eCall, eSl, oNone, oSome, iSrc, iCall, srcD, gNm, ev0, evS, evB0, evB0o, evBS, ok_bind, exc_bind, stuck_bind, if_true, if_false, List.length_cons, List.length_nil, List.set_cons_zero, List.set_cons_succ, lim_lit, Bool.false_eq_true, ite_true, ite_false, reduceIte, List.getElem?_cons_zero, List.getElem?_cons_succ, Nat.zero_le, Nat.reduceLeDiff, Nat.reduceAdd, Nat.reduceLT, Nat.reduceSub, Nat.zero_lt_succ, Bool.not_true, Bool.not_false, ni])]
    unfold t6_law_once
    rw [seq_nx (e1 := [.sh S, .sh p.enc, .sh (encW a), .sh (encPs L0), .un, .un, .un, .un]) (by simp only [sSeq, sNil, sRet, sRetV, sRetN, sSet, sOwn, sAsg, sDrop, sIf, sFor, sMet, sFrz, sBrk, sCnt, lft, outD, eC, aNil, aCons, eTup, eLst, eOp, eUn, tV, bT, tAndD, tOrD, tNotD, eAnd, eOr, eNot, eIf, eChain, eCall, eSl, oNone, oSome, iSrc, iCall, srcD, gNm, ev0, evS, evB0, evB0o, evBS, ok_bind, exc_bind, stuck_bind, if_true, if_false, List.length_cons, List.length_nil, List.set_cons_zero, List.set_cons_succ, lim_lit, Bool.false_eq_true, ite_true, ite_false, reduceIte, List.getElem?_cons_zero, List.getElem?_cons_succ, Nat.zero_le, Nat.reduceLeDiff, Nat.reduceAdd, Nat.reduceLT, Nat.reduceSub, Nat.zero_lt_succ, Bool.not_true, Bool.not_false, eRev, rv, b1, b2, nw])]
    obtain ⟨L', hL', oth⟩ := other_ok hS L0 (by omega) fun x m => (hov x m).2
    unfold t5_law_once
    rw [seq_nx (e1 := [.sh S, .sh p.enc, .sh (encW a), .sh (encPs L0), .sh (encPs L'), .un, .un, .un]) (by simp only [sSeq, sNil, sRet, sRetV, sRetN, sSet, sOwn, sAsg, sDrop, sIf, sFor, sMet, sFrz, sBrk, sCnt, lft, outD, eC, aNil, aCons, eTup, eLst, eOp, eUn, tV, bT, tAndD, tOrD, tNotD, eAnd, eOr, eNot, eIf, eChain, eCall, eSl, oNone, oSome, iSrc, iCall, srcD, gNm, ev0, evS, evB0, evB0o, evBS, ok_bind, exc_bind, stuck_bind, if_true, if_false, List.length_cons, List.length_nil, List.set_cons_zero, List.set_cons_succ, lim_lit, Bool.false_eq_true, ite_true, ite_false, reduceIte, List.getElem?_cons_zero, List.getElem?_cons_succ, Nat.zero_le, Nat.reduceLeDiff, Nat.reduceAdd, Nat.reduceLT, Nat.reduceSub, Nat.zero_lt_succ, Bool.not_true, Bool.not_false, hL'])]
    have other : ∀ L1 : List NV, L1.length ≠ L0.length → L1.length ≤ 100 → t4_law_once [.sh S, .sh p.enc, .sh (encW a), .sh (encPs L0), .sh (encPs L1), .un, .un, .un] = some (.rt (.bl true)) := fun L1 hne hl1 => by
      have hb := built_names p L1 (by omega) (by omega) (fun z => by
        have := congrArg List.length z
        rw [(sortS_perm _).length_eq, (sortS_perm _).length_eq, List.length_map, ← hnm, List.length_map] at this
        exact hne this)
      have hb := tried_x hb
      unfold t4_law_once
      rw [seq_nx (e1 := [.sh S, .sh p.enc, .sh (encW a), .sh (encPs L0), .sh (encPs L1), .sh (.str "bad values"), .un, .un]) (by simp only [sSeq, sNil, sRet, sRetV, sRetN, sSet, sOwn, sAsg, sDrop, sIf, sFor, sMet, sFrz, sBrk, sCnt, lft, outD, eC, aNil, aCons, eTup, eLst, eOp, eUn, tV, bT, tAndD, tOrD, tNotD, eAnd, eOr, eNot, eIf, eChain, eCall, eSl, oNone, oSome, iSrc, iCall, srcD, gNm, ev0, evS, evB0, evB0o, evBS, ok_bind, exc_bind, stuck_bind, if_true, if_false, List.length_cons, List.length_nil, List.set_cons_zero, List.set_cons_succ, lim_lit, Bool.false_eq_true, ite_true, ite_false, reduceIte, List.getElem?_cons_zero, List.getElem?_cons_succ, Nat.zero_le, Nat.reduceLeDiff, Nat.reduceAdd, Nat.reduceLT, Nat.reduceSub, Nat.zero_lt_succ, Bool.not_true, Bool.not_false, hb])]
      exact t3_names _ _ _ L0 L1 (by omega) (by omega) fun z => hne (by have := congrArg List.length z; simpa using this)
    cases oth with
    | more => rw [other _ (by simp) (by simp; omega)]; rfl
    | less k hk => rw [other _ (by rw [List.length_append, List.length_take, List.length_drop]; omega) (by rw [List.length_append, List.length_take, List.length_drop]; omega)]; rfl
    | odd k hk v hv =>
      obtain ⟨ov, pv⟩ := ODD_ok v hv
      have hn' := set_names L0 k hk v
      generalize hL1 : L0.take k ++ [(L0[k].1, v)] ++ L0.drop (k + 1) = L1 at *
      have ll : L1.length = L0.length := by have := congrArg List.length hn'; simpa using this
      have nd1 : (L1.map Prod.fst).Nodup := by rw [hn']; exact nd0
      have ok1 : ∀ x ∈ L1, okV x.2 ∧ x.2.pl 50 = true := fun x m => by
        rcases mem_set L0 k hk v (by rw [hL1]; exact m) with m | m
        · exact hov x m
        · rw [m]; exact ⟨ov, pv⟩
      have hb := built_ok p L1 (by omega) (by omega) (by rw [hn', hnm]) nd (fun x m => (ok1 x m).1) nmL
      unfold t4_law_once
      rcases builtF_cases p (lkOf L1) with hf | ⟨r, hf⟩
      · rw [hf] at hb
        have hb := tried_x hb
        rw [seq_nx (e1 := [.sh S, .sh p.enc, .sh (encW a), .sh (encPs L0), .sh (encPs L1), .sh (.str "bad values"), .un, .un]) (by simp only [sSeq, sNil, sRet, sRetV, sRetN, sSet, sOwn, sAsg, sDrop, sIf, sFor, sMet, sFrz, sBrk, sCnt, lft, outD, eC, aNil, aCons, eTup, eLst, eOp, eUn, tV, bT, tAndD, tOrD, tNotD, eAnd, eOr, eNot, eIf, eChain, eCall, eSl, oNone, oSome, iSrc, iCall, srcD, gNm, ev0, evS, evB0, evB0o, evBS, ok_bind, exc_bind, stuck_bind, if_true, if_false, List.length_cons, List.length_nil, List.set_cons_zero, List.set_cons_succ, lim_lit, Bool.false_eq_true, ite_true, ite_false, reduceIte, List.getElem?_cons_zero, List.getElem?_cons_succ, Nat.zero_le, Nat.reduceLeDiff, Nat.reduceAdd, Nat.reduceLT, Nat.reduceSub, Nat.zero_lt_succ, Bool.not_true, Bool.not_false, hb])]
        have notB : ∀ x ∈ L0, ∀ b, x.2 ≠ .bl b := by
          intro x m b z
          rw [← hL0] at m
          have key : ∀ (ps : List Part) (a : List Str), ∀ x ∈ valsOf ps a, ∀ b, x.2 ≠ .bl b := by
            intro ps
            induction ps with
            | nil => intro a x m; exact absurd m (by simp [valsOf])
            | cons q ps ih =>
              intro a x m
              cases a with
              | nil => exact absurd m (by simp [valsOf])
              | cons w a =>
                rcases List.mem_append.mp (show x ∈ valP q w ++ valsOf ps a from m) with m | m
                · cases q with
                  | word v => exact absurd m List.not_mem_nil
                  | num n => rw [List.mem_singleton.mp m]; exact fun b z => nomatch z
                  | one n cs => rw [List.mem_singleton.mp m]; exact fun b z => nomatch z
                  | any n => rw [List.mem_singleton.mp m]; exact fun b z => nomatch z
                · exact ih a x m
          rcases List.mem_append.mp m with m | m
          · exact key p.ps a x m b z
          · unfold restV at m
            cases hr : p.rest with
            | none => rw [hr] at m; exact absurd m List.not_mem_nil
            | some r => rw [hr] at m; rw [List.mem_singleton.mp m] at z; exact nomatch z
        rw [t3_bad _ _ _ L0 L1 (by omega) (by omega) hn' fun z m => by
          rcases zip_set L0 k hk v z (by rw [hL1]; exact m) with ⟨e1, m2⟩ | ⟨e1, e2⟩
          · rw [e1]
            exact ⟨(hov _ m2).1, (hov _ m2).1, (hov _ m2).2, (hov _ m2).2, notB _ m2, .inl rfl⟩
          · rw [e1, e2]
            have mk : L0[k] ∈ L0 := List.getElem_mem _
            refine ⟨ov, (hov _ mk).1, pv, (hov _ mk).2, notB _ mk, .inr ?_⟩
            rintro ⟨⟨i, hi, h0, h1⟩, j, hj⟩
            -- then it is built
            have hi : v = .int i := hi
            subst hi
            have hi3 : i = 7 ∨ i = 0 ∨ i = 55 := by
              have : i = 7 ∨ i = 0 ∨ i = 55 ∨ i = -1 ∨ i = 1000000000 := ov
              omega
            have mnew : (L0[k].1, D.int i) ∈ L1 := by rw [← hL1]; simp
            have lkk : lkOf L1 L0[k].1 = .int i := lkOf_mem nd1 mnew
            have uniq : ∀ x ∈ L0, x.1 = L0[k].1 → x = L0[k] := fun x m hx => by
              have h1 := look_mem nd0 (show (x.1, x.2) ∈ L0 from m)
              have h2 := look_mem nd0 (show (L0[k].1, L0[k].2) ∈ L0 from mk)
              rw [hx, h2] at h1
              injection h1 with h1
              exact Prod.ext hx h1.symm
            have fit := fit_vals (lk := lkOf L1) (nk := L0[k].1) (i := i) hi3 p.ps a dl d.good dz pa fun x m => by
              have mx : x ∈ L0 := by rw [← hL0]; exact List.mem_append_left _ m
              refine ⟨fun hx => ?_, fun hx => ?_⟩
              · have mm := set_mem L0 k hk (.int i) nd0 mx hx
                rw [hL1] at mm
                exact lkOf_mem nd1 mm
              · have ex := uniq x mx hx
                rw [ex]
                exact ⟨⟨j, hj⟩, lkk⟩
            have := builtF_fit (rs := a.drop p.ps.length) fit (by
              cases hR : p.rest with
              | none => exact List.drop_of_length_le (by rw [dn hR]; exact Nat.le_refl _)
              | some r =>
                have mr : (r, encW (a.drop p.ps.length)) ∈ L0 := by
                  rw [← hL0]
                  refine List.mem_append_right _ ?_
                  unfold restV
                  rw [hR]
                  exact List.mem_singleton_self _
                have hx : (r, encW (a.drop p.ps.length)).1 ≠ L0[k].1 := fun z => by
                  have := uniq _ mr z
                  rw [← this] at hj
                  exact nomatch hj
                have mm := set_mem L0 k hk (.int i) nd0 mr hx
                rw [hL1] at mm
                exact lkOf_mem nd1 mm) (fun w m => pool_word w (pa w (List.mem_of_mem_drop m))) (by
                rw [List.length_append, List.length_zipWith, List.length_drop]; omega)
            rw [hf] at this
            cases this]
        rfl
      · rw [hf] at hb
        obtain ⟨a', ea, ha', hm'⟩ := builtF_back (lkOf_ok fun x m => (ok1 x m).1) hf
        subst ea
        have hb := tried_ok hb
        rw [seq_nx (e1 := [.sh S, .sh p.enc, .sh (encW a), .sh (encPs L0), .sh (encPs L1), .sh (encW a'), .un, .un]) (by simp only [sSeq, sNil, sRet, sRetV, sRetN, sSet, sOwn, sAsg, sDrop, sIf, sFor, sMet, sFrz, sBrk, sCnt, lft, outD, eC, aNil, aCons, eTup, eLst, eOp, eUn, tV, bT, tAndD, tOrD, tNotD, eAnd, eOr, eNot, eIf, eChain, eCall, eSl, oNone, oSome, iSrc, iCall, srcD, gNm, ev0, evS, evB0, evB0o, evBS, ok_bind, exc_bind, stuck_bind, if_true, if_false, List.length_cons, List.length_nil, List.set_cons_zero, List.set_cons_succ, lim_lit, Bool.false_eq_true, ite_true, ite_false, reduceIte, List.getElem?_cons_zero, List.getElem?_cons_succ, Nat.zero_le, Nat.reduceLeDiff, Nat.reduceAdd, Nat.reduceLT, Nat.reduceSub, Nat.zero_lt_succ, Bool.not_true, Bool.not_false, hb])]
        have hm2 : matchD p a' = encPs L1 := by
          rw [hm', names_back (L := L1) (hs := holesL (Pat.L p)) (by rw [hn', hnm]) nd]; rfl
        rw [t3_good _ _ p (by omega) L0 L1 a' (by omega) (by omega) hn' ha' hm2 fun x m => (ok1 x m).2]
        rfl
theorem law_true (ns : List Int) (hl : ns.length ≤ 63) : m_law [.scr ns] = .ok (.bl true) := turns_ok (fun S hS => once_ok hS) ns hl 8 (by decide)
end L2.RB.P.K03
set_option maxHeartbeats 400000
namespace L2.RB.P.K03
open PySem PySem.Spec PyProof.Rows
def top (i : Nat) : Stmt := PySem.Challenge.pw_routeboard_k03_whole_built.main.body.getD i (.Pass ⟨0, 0, 0, 0⟩)
structure Fx (K : PySem.W.Frag) (mg : Str → Option Value) (ea : Str → Addr) : Prop where
  hea : ea = He.ga K
  x_BadValues : ExcC K mg ea "BadValues"
  m_BadLead : mg "BadLead" = some (.ref (He.ga K "BadLead"))
  m_BadValues : mg "BadValues" = some (.ref (He.ga K "BadValues"))
  m_NoRow : mg "NoRow" = some (.ref (He.ga K "NoRow"))
  m_NoText : mg "NoText" = some (.ref (He.ga K "NoText"))
  m_RouteError : mg "RouteError" = some (.ref (He.ga K "RouteError"))
  m_Taken : mg "Taken" = some (.ref (He.ga K "Taken"))
  m_TooMany : mg "TooMany" = some (.ref (He.ga K "TooMany"))
  e_BadLead : IsE K (subB ["BadLead", "BadValues", "NoRow", "NoText", "Taken", "TooMany"] "BadLead") (.ref (He.ga K "BadLead"))
  e_BadValues : IsE K (subB ["BadLead", "BadValues", "NoRow", "NoText", "Taken", "TooMany"] "BadValues") (.ref (He.ga K "BadValues"))
  e_NoRow : IsE K (subB ["BadLead", "BadValues", "NoRow", "NoText", "Taken", "TooMany"] "NoRow") (.ref (He.ga K "NoRow"))
  e_NoText : IsE K (subB ["BadLead", "BadValues", "NoRow", "NoText", "Taken", "TooMany"] "NoText") (.ref (He.ga K "NoText"))
  e_Taken : IsE K (subB ["BadLead", "BadValues", "NoRow", "NoText", "Taken", "TooMany"] "Taken") (.ref (He.ga K "Taken"))
  e_TooMany : IsE K (subB ["BadLead", "BadValues", "NoRow", "NoText", "Taken", "TooMany"] "TooMany") (.ref (He.ga K "TooMany"))
  v_V : IsE K (subV ["BadLead", "BadValues", "NoRow", "NoText", "Taken", "TooMany"]) (.type "ValueError")
  t_RouteError : ∀ k b, subB ["BadLead", "BadValues", "NoRow", "NoText", "Taken", "TooMany"] "RouteError" k = some b → PySem.W.exmOne K (.ref (He.ga K k)) (.ref (He.ga K "RouteError")) = some b
  b_ValueError : mg "ValueError" = none
  b_all : mg "all" = none
  b_bool : mg "bool" = none
  b_dict : mg "dict" = none
  b_enumerate : mg "enumerate" = none
  b_int : mg "int" = none
  b_isinstance : mg "isinstance" = none
  b_len : mg "len" = none
  b_range : mg "range" = none
  b_set : mg "set" = none
  b_sorted : mg "sorted" = none
  b_str : mg "str" = none
  b_tuple : mg "tuple" = none
  b_zip : mg "zip" = none
  g_FIGURES : ∃ t, mg "FIGURES" = some (.str "0123456789" t)
  g_SIGNS : ∃ t, mg "SIGNS" = some (.str "abcdefghijklmnopqrstuvwxyz0123456789-" t)
  g_LONGEST : ∃ t, mg "LONGEST" = some (.int 8 t)
  g_MOST_WORDS : ∃ t, mg "MOST_WORDS" = some (.int 8 t)
section
variable {P : Program} {w : World} {K : PySem.W.Frag} {mg : Str → Option Value} {base : Heap} {ea : Str → Addr}
abbrev s_law_cell : Stmt := top 26
abbrev n_law_cell : List Str := ["_law_script", "_law_k"]
theorem sc_law_cell : FnScope n_law_cell ["_law_script", "_law_k"] (defScope s_law_cell) := ⟨rfl, rfl, rfl, by decide +kernel, rfl, by decide +kernel, by decide +kernel⟩
structure Cs_law_cell (P : Program) (w : World) (K : PySem.W.Frag) (mg : Str → Option Value) (base : Heap) (ea : Str → Addr) : Prop where
  z : True
theorem w_law_cell (F : Fx K mg ea) (C : Cs_law_cell P w K mg base ea) {Z : CXT} {W : WX} {O0 : List Addr} {f : Addr} {cdv : Value} {A : Around} {outer : List Env} {s : Shared} {H : Hp} {E : XK} (hr : Room 0 (cxOf Z P w K mg base n_law_cell "_law_cell" (defScope s_law_cell) f cdv A outer s H E).A) (tk : Takes (cxOf Z P w K mg base n_law_cell "_law_cell" (defScope s_law_cell) f cdv A outer s H E) W) : RSs (cxOf Z P w K mg base n_law_cell "_law_cell" (defScope s_law_cell) f cdv A outer s H E) W ea O0 (defBody s_law_cell) d_law_cell :=
  have S := sc_law_cell
  (rss_cons (rs_if (t_lt (RE.bor (r_var (by kernel_rfl) (.inl (by kernel_rfl)) (by kernel_rfl) (by kernel_rfl))) (RE.bor (b_len (gl (by kernel_rfl)) F.b_len (rab_cons (RE.bor (r_var (by kernel_rfl) (.inl (by kernel_rfl)) (by kernel_rfl) (by kernel_rfl))) rab_nil (by kernel_rfl)) (by kernel_rfl) (by kernel_rfl)))) (rss_cons (rs_ret (x_ix hr (RE.bor (r_var (by kernel_rfl) (.inl (by kernel_rfl)) (by kernel_rfl) (by kernel_rfl))) (RE.bor (r_var (by kernel_rfl) (.inl (by kernel_rfl)) (by kernel_rfl) (by kernel_rfl))) (by intro _ _; kernel_rfl))) rss_nil) rss_nil) (rss_cons (rs_if (t_eq hr (RE.bor (r_var (by kernel_rfl) (.inl (by kernel_rfl)) (by kernel_rfl) (by kernel_rfl))) (RE.bor (r_lst ra_nil))) (rss_cons (rs_ret r_int) rss_nil) rss_nil) (rss_cons (rs_ret (x_add (RE.bor (x_mul (RE.bor (x_ix hr (RE.bor (r_var (by kernel_rfl) (.inl (by kernel_rfl)) (by kernel_rfl) (by kernel_rfl))) (RE.bor (x_mod (RE.bor (r_var (by kernel_rfl) (.inl (by kernel_rfl)) (by kernel_rfl) (by kernel_rfl))) (RE.bor (b_len (gl (by kernel_rfl)) F.b_len (rab_cons (RE.bor (r_var (by kernel_rfl) (.inl (by kernel_rfl)) (by kernel_rfl) (by kernel_rfl))) rab_nil (by kernel_rfl)) (by kernel_rfl) (by kernel_rfl))))) (by intro _ _; kernel_rfl))) (RE.bor r_int))) (RE.bor (r_var (by kernel_rfl) (.inl (by kernel_rfl)) (by kernel_rfl) (by kernel_rfl))))) rss_nil)))
abbrev s_law_pick : Stmt := top 27
abbrev n_law_pick : List Str := ["_law_script", "_law_k", "_law_many", "_law_drawn"]
theorem sc_law_pick : FnScope n_law_pick ["_law_script", "_law_k", "_law_many"] (defScope s_law_pick) := ⟨rfl, rfl, rfl, by decide +kernel, rfl, by decide +kernel, by decide +kernel⟩
structure Cs_law_pick (P : Program) (w : World) (K : PySem.W.Frag) (mg : Str → Option Value) (base : Heap) (ea : Str → Addr) : Prop where
  z : True
  c_law_cell : Cal P w K mg base ea 1 "_law_cell" m_law_cell
theorem w_law_pick (F : Fx K mg ea) (C : Cs_law_pick P w K mg base ea) {Z : CXT} {W : WX} {O0 : List Addr} {f : Addr} {cdv : Value} {A : Around} {outer : List Env} {s : Shared} {H : Hp} {E : XK} (hr : Room 1 (cxOf Z P w K mg base n_law_pick "_law_pick" (defScope s_law_pick) f cdv A outer s H E).A) (tk : Takes (cxOf Z P w K mg base n_law_pick "_law_pick" (defScope s_law_pick) f cdv A outer s H E) W) : RSs (cxOf Z P w K mg base n_law_pick "_law_pick" (defScope s_law_pick) f cdv A outer s H E) W ea O0 (defBody s_law_pick) d_law_pick :=
  have S := sc_law_pick
  (rss_cons (rs_set S.nd (by kernel_rfl) (.inl (by kernel_rfl)) (x_mod (RE.bor (x_mul (RE.bor (x_add (RE.bor (r_call C.c_law_cell hr tk (gl (by kernel_rfl)) (ra_cons (r_var (by kernel_rfl) (.inl (by kernel_rfl)) (by kernel_rfl) (by kernel_rfl)) (ra_cons (r_var (by kernel_rfl) (.inl (by kernel_rfl)) (by kernel_rfl) (by kernel_rfl)) ra_nil (by kernel_rfl)) (by kernel_rfl)) (by decide) (by kernel_rfl) (by kernel_rfl) (by kernel_rfl))) (RE.bor (x_mul (RE.bor r_int) (RE.bor (x_add (RE.bor (r_var (by kernel_rfl) (.inl (by kernel_rfl)) (by kernel_rfl) (by kernel_rfl))) (RE.bor r_int))))))) (RE.bor r_int))) (RE.bor r_int)) (by kernel_rfl) (.inl (by kernel_rfl))) (rss_cons (rs_ret (x_mod (RE.bor (x_mod (RE.bor (x_add (RE.bor (x_mul (RE.bor (r_var (by kernel_rfl) (.inl (by kernel_rfl)) (by kernel_rfl) (by kernel_rfl))) (RE.bor (r_var (by kernel_rfl) (.inl (by kernel_rfl)) (by kernel_rfl) (by kernel_rfl))))) (RE.bor (x_fdiv (RE.bor (r_var (by kernel_rfl) (.inl (by kernel_rfl)) (by kernel_rfl) (by kernel_rfl))) (RE.bor r_int))))) (RE.bor r_int))) (RE.bor (r_var (by kernel_rfl) (.inl (by kernel_rfl)) (by kernel_rfl) (by kernel_rfl))))) rss_nil))
abbrev s_law_part : Stmt := top 28
abbrev n_law_part : List Str := ["_law_script", "_law_at", "_law_name", "_law_pool", "_law_way", "_law_some", "_law_k"]
theorem sc_law_part : FnScope n_law_part ["_law_script", "_law_at", "_law_name"] (defScope s_law_part) := ⟨rfl, rfl, rfl, by decide +kernel, rfl, by decide +kernel, by decide +kernel⟩
structure Cs_law_part (P : Program) (w : World) (K : PySem.W.Frag) (mg : Str → Option Value) (base : Heap) (ea : Str → Addr) : Prop where
  z : True
  c_law_pick : Cal P w K mg base ea 2 "_law_pick" m_law_pick
theorem w_law_part (F : Fx K mg ea) (C : Cs_law_part P w K mg base ea) {Z : CXT} {W : WX} {O0 : List Addr} {f : Addr} {cdv : Value} {A : Around} {outer : List Env} {s : Shared} {H : Hp} {E : XK} (hr : Room 2 (cxOf Z P w K mg base n_law_part "_law_part" (defScope s_law_part) f cdv A outer s H E).A) (tk : Takes (cxOf Z P w K mg base n_law_part "_law_part" (defScope s_law_part) f cdv A outer s H E) W) : RSs (cxOf Z P w K mg base n_law_part "_law_part" (defScope s_law_part) f cdv A outer s H E) W ea O0 (defBody s_law_part) d_law_part :=
  have S := sc_law_part
  (rss_cons (rs_set S.nd (by kernel_rfl) (.inr (by kernel_rfl)) (r_lst (ra_cons r_str (ra_cons r_str (ra_cons r_str (ra_cons r_str ra_nil (by kernel_rfl)) (by kernel_rfl)) (by kernel_rfl)) (by kernel_rfl))) (by kernel_rfl) (.inl (by kernel_rfl))) (rss_cons (rs_set S.nd (by kernel_rfl) (.inl (by kernel_rfl)) (r_call C.c_law_pick hr tk (gl (by kernel_rfl)) (ra_cons (r_var (by kernel_rfl) (.inr (.inl (by kernel_rfl))) (by kernel_rfl) (by kernel_rfl)) (ra_cons (r_var (by kernel_rfl) (.inr (.inl (by kernel_rfl))) (by kernel_rfl) (by kernel_rfl)) (ra_cons r_int ra_nil (by kernel_rfl)) (by kernel_rfl)) (by kernel_rfl)) (by decide) (by kernel_rfl) (by kernel_rfl) (by kernel_rfl)) (by kernel_rfl) (.inl (by kernel_rfl))) (rss_cons (rs_if (t_lt (RE.bor (r_var (by kernel_rfl) (.inl (by kernel_rfl)) (by kernel_rfl) (by kernel_rfl))) (RE.bor r_int)) (rss_cons (rs_ret (r_tup (ra_cons r_str (ra_cons (x_ix hr (RE.bor (r_var (by kernel_rfl) (.inr (.inl (by kernel_rfl))) (by kernel_rfl) (by kernel_rfl))) (RE.bor (r_call C.c_law_pick hr tk (gl (by kernel_rfl)) (ra_cons (r_var (by kernel_rfl) (.inr (.inl (by kernel_rfl))) (by kernel_rfl) (by kernel_rfl)) (ra_cons (x_add (RE.bor (r_var (by kernel_rfl) (.inr (.inl (by kernel_rfl))) (by kernel_rfl) (by kernel_rfl))) (RE.bor r_int)) (ra_cons r_int ra_nil (by kernel_rfl)) (by kernel_rfl)) (by kernel_rfl)) (by decide) (by kernel_rfl) (by kernel_rfl) (by kernel_rfl))) (by intro _ _; kernel_rfl)) ra_nil (by kernel_rfl)) (by kernel_rfl)))) rss_nil) rss_nil) (rss_cons (rs_if (t_eq hr (RE.bor (r_var (by kernel_rfl) (.inl (by kernel_rfl)) (by kernel_rfl) (by kernel_rfl))) (RE.bor r_int)) (rss_cons (rs_setLc (by kernel_rfl) S.nd (by kernel_rfl) (by kernel_rfl) (sw_true (by kernel_rfl) (by kernel_rfl) (by kernel_rfl) (by kernel_rfl)) (RI.bor (ri_rng1 (gl (by kernel_rfl)) F.b_range (rab_cons (RE.bor (x_add (RE.bor r_int) (RE.bor (r_call C.c_law_pick hr tk (gl (by kernel_rfl)) (ra_cons (r_var (by kernel_rfl) (.inr (.inl (by kernel_rfl))) (by kernel_rfl) (by kernel_rfl)) (ra_cons (x_add (RE.bor (r_var (by kernel_rfl) (.inr (.inl (by kernel_rfl))) (by kernel_rfl) (by kernel_rfl))) (RE.bor r_int)) (ra_cons r_int ra_nil (by kernel_rfl)) (by kernel_rfl)) (by kernel_rfl)) (by decide) (by kernel_rfl) (by kernel_rfl) (by kernel_rfl))))) rab_nil (by kernel_rfl)) (by kernel_rfl))) (blkOk_by (own := [("_law_k", 6)]) (by kernel_rfl)) (fun _ _ _ _ _ => (rg_name S.nd (by kernel_rfl) (.inl (by kernel_rfl)) (.inr (by kernel_rfl)))) (fun _ _ _ _ _ => rts_nil) (fun _ _ _ _ _ => (x_ix hr (RE.bor (r_var (by kernel_rfl) (.inr (.inl (by kernel_rfl))) (by kernel_rfl) (by kernel_rfl))) (RE.bor (r_call C.c_law_pick hr takes0 (gl (by kernel_rfl)) (ra_cons (r_var (by kernel_rfl) (.inr (.inl (by kernel_rfl))) (by kernel_rfl) (by kernel_rfl)) (ra_cons (x_add (RE.bor (x_add (RE.bor (r_var (by kernel_rfl) (.inr (.inl (by kernel_rfl))) (by kernel_rfl) (by kernel_rfl))) (RE.bor r_int))) (RE.bor (r_var (by kernel_rfl) (.inl (by kernel_rfl)) (by kernel_rfl) (by kernel_rfl)))) (ra_cons r_int ra_nil (by kernel_rfl)) (by kernel_rfl)) (by kernel_rfl)) (by decide) (by kernel_rfl) (by kernel_rfl) (by kernel_rfl))) (by intro _ _; kernel_rfl))) (by decide) (by kernel_rfl) (by intro _; kernel_rfl)) (rss_cons (rs_ret (r_tup (ra_cons r_str (ra_cons (r_var (by kernel_rfl) (.inl (by kernel_rfl)) (by kernel_rfl) (by kernel_rfl)) (ra_cons (b_tuple (gl (by kernel_rfl)) F.b_tuple (rab_cons (RE.bor (b_sorted (by kernel_rfl) (gl (by kernel_rfl)) F.b_sorted (rab_cons (RE.bor (b_set (by kernel_rfl) (gl (by kernel_rfl)) F.b_set (rab_cons (RE.bor (r_var (by kernel_rfl) (.inl (by kernel_rfl)) (by kernel_rfl) (by kernel_rfl))) rab_nil (by kernel_rfl)) (by kernel_rfl) (by kernel_rfl))) rab_nil (by kernel_rfl)) (by kernel_rfl) (by kernel_rfl))) rab_nil (by kernel_rfl)) (by kernel_rfl) (by kernel_rfl)) ra_nil (by kernel_rfl)) (by kernel_rfl)) (by kernel_rfl)))) rss_nil)) rss_nil) (rss_cons (rs_ret (r_tup (ra_cons (x_ix hr (RE.bor (r_lst (ra_cons r_str (ra_cons r_str (ra_cons r_str ra_nil (by kernel_rfl)) (by kernel_rfl)) (by kernel_rfl)))) (RE.bor (x_sub (RE.bor (r_var (by kernel_rfl) (.inl (by kernel_rfl)) (by kernel_rfl) (by kernel_rfl))) (RE.bor r_int))) (by intro _ _; kernel_rfl)) (ra_cons (r_var (by kernel_rfl) (.inl (by kernel_rfl)) (by kernel_rfl) (by kernel_rfl)) ra_nil (by kernel_rfl)) (by kernel_rfl)))) rss_nil)))))
abbrev s_law_pattern : Stmt := top 29
abbrev n_law_pattern : List Str := ["_law_script", "_law_at", "_law_most", "_law_names", "_law_made", "_law_k"]
theorem sc_law_pattern : FnScope n_law_pattern ["_law_script", "_law_at", "_law_most"] (defScope s_law_pattern) := ⟨rfl, rfl, rfl, by decide +kernel, rfl, by decide +kernel, by decide +kernel⟩
structure Cs_law_pattern (P : Program) (w : World) (K : PySem.W.Frag) (mg : Str → Option Value) (base : Heap) (ea : Str → Addr) : Prop where
  z : True
  c_law_pick : Cal P w K mg base ea 2 "_law_pick" m_law_pick
  c_law_part : Cal P w K mg base ea 3 "_law_part" m_law_part
theorem w_law_pattern (F : Fx K mg ea) (C : Cs_law_pattern P w K mg base ea) {Z : CXT} {W : WX} {O0 : List Addr} {f : Addr} {cdv : Value} {A : Around} {outer : List Env} {s : Shared} {H : Hp} {E : XK} (hr : Room 3 (cxOf Z P w K mg base n_law_pattern "_law_pattern" (defScope s_law_pattern) f cdv A outer s H E).A) (tk : Takes (cxOf Z P w K mg base n_law_pattern "_law_pattern" (defScope s_law_pattern) f cdv A outer s H E) W) : RSs (cxOf Z P w K mg base n_law_pattern "_law_pattern" (defScope s_law_pattern) f cdv A outer s H E) W ea O0 (defBody s_law_pattern) d_law_pattern :=
  have S := sc_law_pattern
  (rss_cons (rs_set S.nd (by kernel_rfl) (.inr (by kernel_rfl)) (r_lst (ra_cons r_str (ra_cons r_str (ra_cons r_str (ra_cons r_str ra_nil (by kernel_rfl)) (by kernel_rfl)) (by kernel_rfl)) (by kernel_rfl))) (by kernel_rfl) (.inl (by kernel_rfl))) (rss_cons (rs_ownLc (by kernel_rfl) S.nd (by kernel_rfl) (by kernel_rfl) (sw_true (by kernel_rfl) (by kernel_rfl) (by kernel_rfl) (by kernel_rfl)) (RI.bor (ri_rng1 (gl (by kernel_rfl)) F.b_range (rab_cons (RE.bor (r_call C.c_law_pick hr tk (gl (by kernel_rfl)) (ra_cons (r_var (by kernel_rfl) (.inr (.inl (by kernel_rfl))) (by kernel_rfl) (by kernel_rfl)) (ra_cons (r_var (by kernel_rfl) (.inr (.inl (by kernel_rfl))) (by kernel_rfl) (by kernel_rfl)) (ra_cons (x_add (RE.bor (r_var (by kernel_rfl) (.inl (by kernel_rfl)) (by kernel_rfl) (by kernel_rfl))) (RE.bor r_int)) ra_nil (by kernel_rfl)) (by kernel_rfl)) (by kernel_rfl)) (by decide) (by kernel_rfl) (by kernel_rfl) (by kernel_rfl))) rab_nil (by kernel_rfl)) (by kernel_rfl))) (blkOk_by (own := [("_law_k", 5)]) (by kernel_rfl)) (fun _ _ _ _ _ => (rg_name S.nd (by kernel_rfl) (.inl (by kernel_rfl)) (.inr (by kernel_rfl)))) (fun _ _ _ _ _ => rts_nil) (fun _ _ _ _ _ => (r_call C.c_law_part hr takes0 (gl (by kernel_rfl)) (ra_cons (r_var (by kernel_rfl) (.inr (.inl (by kernel_rfl))) (by kernel_rfl) (by kernel_rfl)) (ra_cons (x_add (RE.bor (x_add (RE.bor (r_var (by kernel_rfl) (.inr (.inl (by kernel_rfl))) (by kernel_rfl) (by kernel_rfl))) (RE.bor r_int))) (RE.bor (x_mul (RE.bor r_int) (RE.bor (r_var (by kernel_rfl) (.inl (by kernel_rfl)) (by kernel_rfl) (by kernel_rfl)))))) (ra_cons (x_ix hr (RE.bor (r_var (by kernel_rfl) (.inr (.inl (by kernel_rfl))) (by kernel_rfl) (by kernel_rfl))) (RE.bor (r_var (by kernel_rfl) (.inl (by kernel_rfl)) (by kernel_rfl) (by kernel_rfl))) (by intro _ _; kernel_rfl)) ra_nil (by kernel_rfl)) (by kernel_rfl)) (by kernel_rfl)) (by decide) (by kernel_rfl) (by kernel_rfl) (by kernel_rfl))) (by decide) (by kernel_rfl) (by intro _; kernel_rfl)) (rss_cons (rs_if (t_eq hr (RE.bor (r_call C.c_law_pick hr tk (gl (by kernel_rfl)) (ra_cons (r_var (by kernel_rfl) (.inr (.inl (by kernel_rfl))) (by kernel_rfl) (by kernel_rfl)) (ra_cons (x_add (RE.bor (r_var (by kernel_rfl) (.inr (.inl (by kernel_rfl))) (by kernel_rfl) (by kernel_rfl))) (RE.bor r_int)) (ra_cons r_int ra_nil (by kernel_rfl)) (by kernel_rfl)) (by kernel_rfl)) (by decide) (by kernel_rfl) (by kernel_rfl) (by kernel_rfl))) (RE.bor r_int)) (rss_cons (m_app (by kernel_rfl) (.inl (by kernel_rfl)) (ra_cons (r_tup (ra_cons r_str (ra_cons r_str ra_nil (by kernel_rfl)) (by kernel_rfl))) ra_nil (by kernel_rfl)) (by kernel_rfl) (by kernel_rfl) (by kernel_rfl) (by kernel_rfl) (by kernel_rfl) (by kernel_rfl) (by kernel_rfl) (by kernel_rfl)) rss_nil) rss_nil) (rss_cons (rs_ret (b_tuple (gl (by kernel_rfl)) F.b_tuple (rab_cons (r_varB (by kernel_rfl) (.inl (by kernel_rfl)) (by kernel_rfl) (by kernel_rfl)) rab_nil (by kernel_rfl)) (by kernel_rfl) (by kernel_rfl))) rss_nil))))
abbrev s_law_any_word : Stmt := top 31
abbrev n_law_any_word : List Str := ["_law_script", "_law_at"]
theorem sc_law_any_word : FnScope n_law_any_word ["_law_script", "_law_at"] (defScope s_law_any_word) := ⟨rfl, rfl, rfl, by decide +kernel, rfl, by decide +kernel, by decide +kernel⟩
structure Cs_law_any_word (P : Program) (w : World) (K : PySem.W.Frag) (mg : Str → Option Value) (base : Heap) (ea : Str → Addr) : Prop where
  z : True
  c_law_pick : Cal P w K mg base ea 2 "_law_pick" m_law_pick
theorem w_law_any_word (F : Fx K mg ea) (C : Cs_law_any_word P w K mg base ea) {Z : CXT} {W : WX} {O0 : List Addr} {f : Addr} {cdv : Value} {A : Around} {outer : List Env} {s : Shared} {H : Hp} {E : XK} (hr : Room 2 (cxOf Z P w K mg base n_law_any_word "_law_any_word" (defScope s_law_any_word) f cdv A outer s H E).A) (tk : Takes (cxOf Z P w K mg base n_law_any_word "_law_any_word" (defScope s_law_any_word) f cdv A outer s H E) W) : RSs (cxOf Z P w K mg base n_law_any_word "_law_any_word" (defScope s_law_any_word) f cdv A outer s H E) W ea O0 (defBody s_law_any_word) d_law_any_word :=
  have S := sc_law_any_word
  (rss_cons (rs_ret (x_ix hr (RE.bor (r_lst (ra_cons r_str (ra_cons r_str (ra_cons r_str (ra_cons r_str (ra_cons r_str (ra_cons r_str (ra_cons r_str (ra_cons r_str (ra_cons r_str ra_nil (by kernel_rfl)) (by kernel_rfl)) (by kernel_rfl)) (by kernel_rfl)) (by kernel_rfl)) (by kernel_rfl)) (by kernel_rfl)) (by kernel_rfl)) (by kernel_rfl)))) (RE.bor (r_call C.c_law_pick hr tk (gl (by kernel_rfl)) (ra_cons (r_var (by kernel_rfl) (.inl (by kernel_rfl)) (by kernel_rfl) (by kernel_rfl)) (ra_cons (r_var (by kernel_rfl) (.inl (by kernel_rfl)) (by kernel_rfl) (by kernel_rfl)) (ra_cons r_int ra_nil (by kernel_rfl)) (by kernel_rfl)) (by kernel_rfl)) (by decide) (by kernel_rfl) (by kernel_rfl) (by kernel_rfl))) (by intro _ _; kernel_rfl))) rss_nil)
abbrev s_law_near : Stmt := top 32
abbrev n_law_near : List Str := ["_law_script", "_law_at", "_law_pattern_here", "_law_made", "_law_k", "_law_part_here", "_law_way", "_law_j"]
theorem sc_law_near : FnScope n_law_near ["_law_script", "_law_at", "_law_pattern_here"] (defScope s_law_near) := ⟨rfl, rfl, rfl, by decide +kernel, rfl, by decide +kernel, by decide +kernel⟩
structure Cs_law_near (P : Program) (w : World) (K : PySem.W.Frag) (mg : Str → Option Value) (base : Heap) (ea : Str → Addr) : Prop where
  z : True
  c_law_pick : Cal P w K mg base ea 2 "_law_pick" m_law_pick
  c_law_any_word : Cal P w K mg base ea 3 "_law_any_word" m_law_any_word
theorem w_law_near (F : Fx K mg ea) (C : Cs_law_near P w K mg base ea) {Z : CXT} {W : WX} {O0 : List Addr} {f : Addr} {cdv : Value} {A : Around} {outer : List Env} {s : Shared} {H : Hp} {E : XK} (hr : Room 3 (cxOf Z P w K mg base n_law_near "_law_near" (defScope s_law_near) f cdv A outer s H E).A) (tk : Takes (cxOf Z P w K mg base n_law_near "_law_near" (defScope s_law_near) f cdv A outer s H E) W) : RSs (cxOf Z P w K mg base n_law_near "_law_near" (defScope s_law_near) f cdv A outer s H E) W ea O0 (defBody s_law_near) d_law_near :=
  have S := sc_law_near
  (rss_cons (rs_own S.nd (by kernel_rfl) (.inl (by kernel_rfl)) (rf_lst ra_nil) (by kernel_rfl) (.inl (by kernel_rfl))) (rss_cons (rs_for PassesOwn.leaving (by kernel_rfl) (ri_enum (gl (by kernel_rfl)) F.b_enumerate (ra_cons (r_var (by kernel_rfl) (.inl (by kernel_rfl)) (by kernel_rfl) (by kernel_rfl)) ra_nil (by kernel_rfl)) (by kernel_rfl)) (rg_tup (by kernel_rfl) (rgs_cons (rg_name S.nd (by kernel_rfl) (.inl (by kernel_rfl)) (.inl (by kernel_rfl))) (rgs_cons (rg_name S.nd (by kernel_rfl) (.inl (by kernel_rfl)) (.inl (by kernel_rfl))) rgs_nil (by kernel_rfl)) (by kernel_rfl)) (by kernel_rfl) (by kernel_rfl)) (rss_cons (rs_set S.nd (by kernel_rfl) (.inl (by kernel_rfl)) (r_call C.c_law_pick hr tk (gl (by kernel_rfl)) (ra_cons (r_var (by kernel_rfl) (.inr (.inl (by kernel_rfl))) (by kernel_rfl) (by kernel_rfl)) (ra_cons (x_add (RE.bor (r_var (by kernel_rfl) (.inr (.inl (by kernel_rfl))) (by kernel_rfl) (by kernel_rfl))) (RE.bor (x_mul (RE.bor r_int) (RE.bor (r_var (by kernel_rfl) (.inl (by kernel_rfl)) (by kernel_rfl) (by kernel_rfl)))))) (ra_cons r_int ra_nil (by kernel_rfl)) (by kernel_rfl)) (by kernel_rfl)) (by decide) (by kernel_rfl) (by kernel_rfl) (by kernel_rfl)) (by kernel_rfl) (.inl (by kernel_rfl))) (rss_cons (rs_if (t_eq hr (RE.bor (x_ix hr (RE.bor (r_var (by kernel_rfl) (.inl (by kernel_rfl)) (by kernel_rfl) (by kernel_rfl))) (RE.bor r_int) (by intro _ _; kernel_rfl))) (RE.bor r_str)) (rss_cons (m_ext (by kernel_rfl) (.inl (by kernel_rfl)) (ra_cons (r_lc (by kernel_rfl) S.nd (RI.bor (ri_rng1 (gl (by kernel_rfl)) F.b_range (rab_cons (RE.bor (r_call C.c_law_pick hr tk (gl (by kernel_rfl)) (ra_cons (r_var (by kernel_rfl) (.inr (.inl (by kernel_rfl))) (by kernel_rfl) (by kernel_rfl)) (ra_cons (x_add (RE.bor (r_var (by kernel_rfl) (.inr (.inl (by kernel_rfl))) (by kernel_rfl) (by kernel_rfl))) (RE.bor r_int)) (ra_cons r_int ra_nil (by kernel_rfl)) (by kernel_rfl)) (by kernel_rfl)) (by decide) (by kernel_rfl) (by kernel_rfl) (by kernel_rfl))) rab_nil (by kernel_rfl)) (by kernel_rfl))) (blkOk_by (own := [("_law_j", 7)]) (by kernel_rfl)) (fun _ _ _ _ _ => (rg_name S.nd (by kernel_rfl) (.inl (by kernel_rfl)) (.inr (by kernel_rfl)))) (fun _ _ _ _ _ => rts_nil) (fun _ _ _ _ _ => (r_call C.c_law_any_word hr takes0 (gl (by kernel_rfl)) (ra_cons (r_var (by kernel_rfl) (.inr (.inl (by kernel_rfl))) (by kernel_rfl) (by kernel_rfl)) (ra_cons (x_add (RE.bor (x_add (RE.bor (r_var (by kernel_rfl) (.inr (.inl (by kernel_rfl))) (by kernel_rfl) (by kernel_rfl))) (RE.bor r_int))) (RE.bor (r_var (by kernel_rfl) (.inl (by kernel_rfl)) (by kernel_rfl) (by kernel_rfl)))) ra_nil (by kernel_rfl)) (by kernel_rfl)) (by decide) (by kernel_rfl) (by kernel_rfl) (by kernel_rfl))) (by decide) (by kernel_rfl) (by intro _; kernel_rfl)) ra_nil (by kernel_rfl)) (by kernel_rfl) (by kernel_rfl) (by kernel_rfl) (by kernel_rfl) (by kernel_rfl) (by kernel_rfl) (by kernel_rfl) (by kernel_rfl)) rss_nil) (rss_cons (rs_if (RW.rt (rw_or (t_eq hr (RE.bor (r_var (by kernel_rfl) (.inl (by kernel_rfl)) (by kernel_rfl) (by kernel_rfl))) (RE.bor r_int)) (rw_or1 (t_eq hr (RE.bor (x_ix hr (RE.bor (r_var (by kernel_rfl) (.inl (by kernel_rfl)) (by kernel_rfl) (by kernel_rfl))) (RE.bor r_int) (by intro _ _; kernel_rfl))) (RE.bor r_str))))) (rss_cons (m_app (by kernel_rfl) (.inl (by kernel_rfl)) (ra_cons (r_call C.c_law_any_word hr tk (gl (by kernel_rfl)) (ra_cons (r_var (by kernel_rfl) (.inr (.inl (by kernel_rfl))) (by kernel_rfl) (by kernel_rfl)) (ra_cons (x_add (RE.bor (x_add (RE.bor (r_var (by kernel_rfl) (.inr (.inl (by kernel_rfl))) (by kernel_rfl) (by kernel_rfl))) (RE.bor (x_mul (RE.bor r_int) (RE.bor (r_var (by kernel_rfl) (.inl (by kernel_rfl)) (by kernel_rfl) (by kernel_rfl))))))) (RE.bor r_int)) ra_nil (by kernel_rfl)) (by kernel_rfl)) (by decide) (by kernel_rfl) (by kernel_rfl) (by kernel_rfl)) ra_nil (by kernel_rfl)) (by kernel_rfl) (by kernel_rfl) (by kernel_rfl) (by kernel_rfl) (by kernel_rfl) (by kernel_rfl) (by kernel_rfl) (by kernel_rfl)) rss_nil) (rss_cons (rs_if (t_eq hr (RE.bor (x_ix hr (RE.bor (r_var (by kernel_rfl) (.inl (by kernel_rfl)) (by kernel_rfl) (by kernel_rfl))) (RE.bor r_int) (by intro _ _; kernel_rfl))) (RE.bor r_str)) (rss_cons (m_app (by kernel_rfl) (.inl (by kernel_rfl)) (ra_cons (x_ix hr (RE.bor (r_var (by kernel_rfl) (.inl (by kernel_rfl)) (by kernel_rfl) (by kernel_rfl))) (RE.bor r_int) (by intro _ _; kernel_rfl)) ra_nil (by kernel_rfl)) (by kernel_rfl) (by kernel_rfl) (by kernel_rfl) (by kernel_rfl) (by kernel_rfl) (by kernel_rfl) (by kernel_rfl) (by kernel_rfl)) rss_nil) (rss_cons (rs_if (t_eq hr (RE.bor (x_ix hr (RE.bor (r_var (by kernel_rfl) (.inl (by kernel_rfl)) (by kernel_rfl) (by kernel_rfl))) (RE.bor r_int) (by intro _ _; kernel_rfl))) (RE.bor r_str)) (rss_cons (m_app (by kernel_rfl) (.inl (by kernel_rfl)) (ra_cons (x_ix hr (RE.bor (r_lst (ra_cons r_str (ra_cons r_str (ra_cons r_str ra_nil (by kernel_rfl)) (by kernel_rfl)) (by kernel_rfl)))) (RE.bor (r_call C.c_law_pick hr tk (gl (by kernel_rfl)) (ra_cons (r_var (by kernel_rfl) (.inr (.inl (by kernel_rfl))) (by kernel_rfl) (by kernel_rfl)) (ra_cons (x_add (RE.bor (x_add (RE.bor (r_var (by kernel_rfl) (.inr (.inl (by kernel_rfl))) (by kernel_rfl) (by kernel_rfl))) (RE.bor (x_mul (RE.bor r_int) (RE.bor (r_var (by kernel_rfl) (.inl (by kernel_rfl)) (by kernel_rfl) (by kernel_rfl))))))) (RE.bor r_int)) (ra_cons r_int ra_nil (by kernel_rfl)) (by kernel_rfl)) (by kernel_rfl)) (by decide) (by kernel_rfl) (by kernel_rfl) (by kernel_rfl))) (by intro _ _; kernel_rfl)) ra_nil (by kernel_rfl)) (by kernel_rfl) (by kernel_rfl) (by kernel_rfl) (by kernel_rfl) (by kernel_rfl) (by kernel_rfl) (by kernel_rfl) (by kernel_rfl)) rss_nil) (rss_cons (m_app (by kernel_rfl) (.inl (by kernel_rfl)) (ra_cons (x_ix hr (RE.bor (x_ix hr (RE.bor (r_var (by kernel_rfl) (.inl (by kernel_rfl)) (by kernel_rfl) (by kernel_rfl))) (RE.bor r_int) (by intro _ _; kernel_rfl))) (RE.bor (r_call C.c_law_pick hr tk (gl (by kernel_rfl)) (ra_cons (r_var (by kernel_rfl) (.inr (.inl (by kernel_rfl))) (by kernel_rfl) (by kernel_rfl)) (ra_cons (x_add (RE.bor (x_add (RE.bor (r_var (by kernel_rfl) (.inr (.inl (by kernel_rfl))) (by kernel_rfl) (by kernel_rfl))) (RE.bor (x_mul (RE.bor r_int) (RE.bor (r_var (by kernel_rfl) (.inl (by kernel_rfl)) (by kernel_rfl) (by kernel_rfl))))))) (RE.bor r_int)) (ra_cons (b_len (gl (by kernel_rfl)) F.b_len (rab_cons (RE.bor (x_ix hr (RE.bor (r_var (by kernel_rfl) (.inl (by kernel_rfl)) (by kernel_rfl) (by kernel_rfl))) (RE.bor r_int) (by intro _ _; kernel_rfl))) rab_nil (by kernel_rfl)) (by kernel_rfl) (by kernel_rfl)) ra_nil (by kernel_rfl)) (by kernel_rfl)) (by kernel_rfl)) (by decide) (by kernel_rfl) (by kernel_rfl) (by kernel_rfl))) (by intro _ _; kernel_rfl)) ra_nil (by kernel_rfl)) (by kernel_rfl) (by kernel_rfl) (by kernel_rfl) (by kernel_rfl) (by kernel_rfl) (by kernel_rfl) (by kernel_rfl) (by kernel_rfl)) rss_nil)) rss_nil)) rss_nil)) rss_nil)) rss_nil)) (by intro _; kernel_rfl)) (rss_cons (rs_ret (b_tuple (gl (by kernel_rfl)) F.b_tuple (rab_cons (r_varB (by kernel_rfl) (.inl (by kernel_rfl)) (by kernel_rfl) (by kernel_rfl)) rab_nil (by kernel_rfl)) (by kernel_rfl) (by kernel_rfl))) rss_nil)))
abbrev s_law_is_number : Stmt := top 33
abbrev n_law_is_number : List Str := ["_law_word_here", "_law_sign"]
theorem sc_law_is_number : FnScope n_law_is_number ["_law_word_here"] (defScope s_law_is_number) := ⟨rfl, rfl, rfl, by decide +kernel, rfl, by decide +kernel, by decide +kernel⟩
structure Cs_law_is_number (P : Program) (w : World) (K : PySem.W.Frag) (mg : Str → Option Value) (base : Heap) (ea : Str → Addr) : Prop where
  z : True
theorem w_law_is_number (F : Fx K mg ea) (C : Cs_law_is_number P w K mg base ea) {Z : CXT} {W : WX} {O0 : List Addr} {f : Addr} {cdv : Value} {A : Around} {outer : List Env} {s : Shared} {H : Hp} {E : XK} (hr : Room 0 (cxOf Z P w K mg base n_law_is_number "_law_is_number" (defScope s_law_is_number) f cdv A outer s H E).A) (tk : Takes (cxOf Z P w K mg base n_law_is_number "_law_is_number" (defScope s_law_is_number) f cdv A outer s H E) W) : RSs (cxOf Z P w K mg base n_law_is_number "_law_is_number" (defScope s_law_is_number) f cdv A outer s H E) W ea O0 (defBody s_law_is_number) d_law_is_number :=
  have S := sc_law_is_number
  (rss_cons (rs_ret (r_and (RE.bor (x_eq hr (RE.bor (r_lc (by kernel_rfl) S.nd (rib_src (RE.bor (r_var (by kernel_rfl) (.inl (by kernel_rfl)) (by kernel_rfl) (by kernel_rfl)))) (blkOk_by (own := [("_law_sign", 1)]) (by kernel_rfl)) (fun _ _ _ _ _ => (rg_name S.nd (by kernel_rfl) (.inl (by kernel_rfl)) (.inr (by kernel_rfl)))) (fun _ _ _ _ _ => (rts_one (t_notIn hr (RE.bor (r_var (by kernel_rfl) (.inl (by kernel_rfl)) (by kernel_rfl) (by kernel_rfl))) (RE.bor r_str) (by kernel_rfl)))) (fun _ _ _ _ _ => (r_var (by kernel_rfl) (.inl (by kernel_rfl)) (by kernel_rfl) (by kernel_rfl))) (by decide) (by kernel_rfl) (by intro _; kernel_rfl))) (RE.bor (r_lst ra_nil)))) (r_one (r_or (RE.bor (x_eq hr (RE.bor (r_var (by kernel_rfl) (.inl (by kernel_rfl)) (by kernel_rfl) (by kernel_rfl))) (RE.bor r_str))) (r_one (x_ne hr (RE.bor (x_ix hr (RE.bor (r_var (by kernel_rfl) (.inl (by kernel_rfl)) (by kernel_rfl) (by kernel_rfl))) (RE.bor r_int) (by intro _ _; kernel_rfl))) (RE.bor r_str))))))) rss_nil)
abbrev s_law_matched : Stmt := top 34
abbrev n_law_matched : List Str := ["_law_pattern_here", "_law_address", "_law_part_here", "_law_word_here", "_law_rest"]
theorem sc_law_matched : FnScope n_law_matched ["_law_pattern_here", "_law_address"] (defScope s_law_matched) := ⟨rfl, rfl, rfl, by decide +kernel, rfl, by decide +kernel, by decide +kernel⟩
structure Cs_law_matched (P : Program) (w : World) (K : PySem.W.Frag) (mg : Str → Option Value) (base : Heap) (ea : Str → Addr) : Prop where
  z : True
  c_law_is_number : Cal P w K mg base ea 1 "_law_is_number" m_law_is_number
theorem w_law_matched {k : Nat} {me : List D → Res D} (F : Fx K mg ea) (C : Cs_law_matched P w K mg base ea) (hk : 1 ≤ k) (cme : Cal P w K mg base ea k "_law_matched" me) {Z : CXT} {W : WX} {O0 : List Addr} {f : Addr} {cdv : Value} {A : Around} {outer : List Env} {s : Shared} {H : Hp} {E : XK} (hr : Room k (cxOf Z P w K mg base n_law_matched "_law_matched" (defScope s_law_matched) f cdv A outer s H E).A) (tk : Takes (cxOf Z P w K mg base n_law_matched "_law_matched" (defScope s_law_matched) f cdv A outer s H E) W) : RSs (cxOf Z P w K mg base n_law_matched "_law_matched" (defScope s_law_matched) f cdv A outer s H E) W ea O0 (defBody s_law_matched) (d_law_matched me) :=
  have S := sc_law_matched
  (rss_cons (rs_if (t_eq hr (RE.bor (r_var (by kernel_rfl) (.inl (by kernel_rfl)) (by kernel_rfl) (by kernel_rfl))) (RE.bor (r_tup ra_nil))) (rss_cons (rs_ret (r_if (t_eq hr (RE.bor (r_var (by kernel_rfl) (.inl (by kernel_rfl)) (by kernel_rfl) (by kernel_rfl))) (RE.bor (r_tup ra_nil))) (r_lst ra_nil) r_non)) rss_nil) rss_nil) (rss_cons (rs_set S.nd (by kernel_rfl) (.inl (by kernel_rfl)) (x_ix hr (RE.bor (r_var (by kernel_rfl) (.inl (by kernel_rfl)) (by kernel_rfl) (by kernel_rfl))) (RE.bor r_int) (by intro _ _; kernel_rfl)) (by kernel_rfl) (.inl (by kernel_rfl))) (rss_cons (rs_if (t_eq hr (RE.bor (x_ix hr (RE.bor (r_var (by kernel_rfl) (.inl (by kernel_rfl)) (by kernel_rfl) (by kernel_rfl))) (RE.bor r_int) (by intro _ _; kernel_rfl))) (RE.bor r_str)) (rss_cons (rs_ret (r_lst (ra_cons (r_tup (ra_cons (x_ix hr (RE.bor (r_var (by kernel_rfl) (.inl (by kernel_rfl)) (by kernel_rfl) (by kernel_rfl))) (RE.bor r_int) (by intro _ _; kernel_rfl)) (ra_cons (r_var (by kernel_rfl) (.inl (by kernel_rfl)) (by kernel_rfl) (by kernel_rfl)) ra_nil (by kernel_rfl)) (by kernel_rfl))) ra_nil (by kernel_rfl)))) rss_nil) rss_nil) (rss_cons (rs_if (t_eq hr (RE.bor (r_var (by kernel_rfl) (.inl (by kernel_rfl)) (by kernel_rfl) (by kernel_rfl))) (RE.bor (r_tup ra_nil))) (rss_cons (rs_ret r_non) rss_nil) rss_nil) (rss_cons (rs_set S.nd (by kernel_rfl) (.inl (by kernel_rfl)) (x_ix hr (RE.bor (r_var (by kernel_rfl) (.inl (by kernel_rfl)) (by kernel_rfl) (by kernel_rfl))) (RE.bor r_int) (by intro _ _; kernel_rfl)) (by kernel_rfl) (.inl (by kernel_rfl))) (rss_cons (rs_if (RW.rt (rw_or (RW.rt (rw_and (t_eq hr (RE.bor (x_ix hr (RE.bor (r_var (by kernel_rfl) (.inl (by kernel_rfl)) (by kernel_rfl) (by kernel_rfl))) (RE.bor r_int) (by intro _ _; kernel_rfl))) (RE.bor r_str)) (rw_and1 (t_ne hr (RE.bor (x_ix hr (RE.bor (r_var (by kernel_rfl) (.inl (by kernel_rfl)) (by kernel_rfl) (by kernel_rfl))) (RE.bor r_int) (by intro _ _; kernel_rfl))) (RE.bor (r_var (by kernel_rfl) (.inl (by kernel_rfl)) (by kernel_rfl) (by kernel_rfl))))))) (rw_or1 (RW.rt (rw_and (t_eq hr (RE.bor (x_ix hr (RE.bor (r_var (by kernel_rfl) (.inl (by kernel_rfl)) (by kernel_rfl) (by kernel_rfl))) (RE.bor r_int) (by intro _ _; kernel_rfl))) (RE.bor r_str)) (rw_and1 (t_notIn hr (RE.bor (r_var (by kernel_rfl) (.inl (by kernel_rfl)) (by kernel_rfl) (by kernel_rfl))) (RE.bor (x_ix hr (RE.bor (r_var (by kernel_rfl) (.inl (by kernel_rfl)) (by kernel_rfl) (by kernel_rfl))) (RE.bor r_int) (by intro _ _; kernel_rfl))) (by kernel_rfl)))))))) (rss_cons (rs_ret r_non) rss_nil) rss_nil) (rss_cons (rs_if (RW.rt (rw_and (t_eq hr (RE.bor (x_ix hr (RE.bor (r_var (by kernel_rfl) (.inl (by kernel_rfl)) (by kernel_rfl) (by kernel_rfl))) (RE.bor r_int) (by intro _ _; kernel_rfl))) (RE.bor r_str)) (rw_and1 (rt_not (rt_val (RE.bor (r_call C.c_law_is_number hr tk (gl (by kernel_rfl)) (ra_cons (r_var (by kernel_rfl) (.inl (by kernel_rfl)) (by kernel_rfl) (by kernel_rfl)) ra_nil (by kernel_rfl)) (by omega) (by kernel_rfl) (by kernel_rfl) (by kernel_rfl))) (by intro _; kernel_rfl)))))) (rss_cons (rs_ret r_non) rss_nil) rss_nil) (rss_cons (rs_set S.nd (by kernel_rfl) (.inl (by kernel_rfl)) (r_call cme hr tk (gl (by kernel_rfl)) (ra_cons (r_slice (RE.bor (r_var (by kernel_rfl) (.inl (by kernel_rfl)) (by kernel_rfl) (by kernel_rfl))) (ro_some (RE.bor r_int)) ro_none) (ra_cons (r_slice (RE.bor (r_var (by kernel_rfl) (.inl (by kernel_rfl)) (by kernel_rfl) (by kernel_rfl))) (ro_some (RE.bor r_int)) ro_none) ra_nil (by kernel_rfl)) (by kernel_rfl)) (by omega) (by kernel_rfl) (by kernel_rfl) (by kernel_rfl)) (by kernel_rfl) (.inl (by kernel_rfl))) (rss_cons (rs_if (RW.rt (rw_or (t_is (RE.bor (r_var (by kernel_rfl) (.inl (by kernel_rfl)) (by kernel_rfl) (by kernel_rfl))) (RE.bor r_non)) (rw_or1 (t_eq hr (RE.bor (x_ix hr (RE.bor (r_var (by kernel_rfl) (.inl (by kernel_rfl)) (by kernel_rfl) (by kernel_rfl))) (RE.bor r_int) (by intro _ _; kernel_rfl))) (RE.bor r_str))))) (rss_cons (rs_retV (by kernel_rfl) (.inl (by kernel_rfl)) (by kernel_rfl) (by kernel_rfl)) rss_nil) rss_nil) (rss_cons (rs_ret (x_add (RE.bor (r_lst (ra_cons (r_tup (ra_cons (x_ix hr (RE.bor (r_var (by kernel_rfl) (.inl (by kernel_rfl)) (by kernel_rfl) (by kernel_rfl))) (RE.bor r_int) (by intro _ _; kernel_rfl)) (ra_cons (r_if (t_eq hr (RE.bor (x_ix hr (RE.bor (r_var (by kernel_rfl) (.inl (by kernel_rfl)) (by kernel_rfl) (by kernel_rfl))) (RE.bor r_int) (by intro _ _; kernel_rfl))) (RE.bor r_str)) (b_int (gl (by kernel_rfl)) F.b_int (rab_cons (RE.bor (r_var (by kernel_rfl) (.inl (by kernel_rfl)) (by kernel_rfl) (by kernel_rfl))) rab_nil (by kernel_rfl)) (by kernel_rfl) (by kernel_rfl)) (r_var (by kernel_rfl) (.inl (by kernel_rfl)) (by kernel_rfl) (by kernel_rfl))) ra_nil (by kernel_rfl)) (by kernel_rfl))) ra_nil (by kernel_rfl)))) (RE.bor (r_var (by kernel_rfl) (.inl (by kernel_rfl)) (by kernel_rfl) (by kernel_rfl))))) rss_nil))))))))))
abbrev s_law_other_values : Stmt := top 37
abbrev n_law_other_values : List Str := ["_law_script", "_law_at", "_law_some", "_law_way", "_law_k", "_law_odd"]
theorem sc_law_other_values : FnScope n_law_other_values ["_law_script", "_law_at", "_law_some"] (defScope s_law_other_values) := ⟨rfl, rfl, rfl, by decide +kernel, rfl, by decide +kernel, by decide +kernel⟩
structure Cs_law_other_values (P : Program) (w : World) (K : PySem.W.Frag) (mg : Str → Option Value) (base : Heap) (ea : Str → Addr) : Prop where
  z : True
  c_law_pick : Cal P w K mg base ea 2 "_law_pick" m_law_pick
theorem w_law_other_values (F : Fx K mg ea) (C : Cs_law_other_values P w K mg base ea) {Z : CXT} {W : WX} {O0 : List Addr} {f : Addr} {cdv : Value} {A : Around} {outer : List Env} {s : Shared} {H : Hp} {E : XK} (hr : Room 2 (cxOf Z P w K mg base n_law_other_values "_law_other_values" (defScope s_law_other_values) f cdv A outer s H E).A) (tk : Takes (cxOf Z P w K mg base n_law_other_values "_law_other_values" (defScope s_law_other_values) f cdv A outer s H E) W) : RSs (cxOf Z P w K mg base n_law_other_values "_law_other_values" (defScope s_law_other_values) f cdv A outer s H E) W ea O0 (defBody s_law_other_values) d_law_other_values :=
  have S := sc_law_other_values
  (rss_cons (rs_set S.nd (by kernel_rfl) (.inl (by kernel_rfl)) (r_call C.c_law_pick hr tk (gl (by kernel_rfl)) (ra_cons (r_var (by kernel_rfl) (.inl (by kernel_rfl)) (by kernel_rfl) (by kernel_rfl)) (ra_cons (r_var (by kernel_rfl) (.inl (by kernel_rfl)) (by kernel_rfl) (by kernel_rfl)) (ra_cons r_int ra_nil (by kernel_rfl)) (by kernel_rfl)) (by kernel_rfl)) (by decide) (by kernel_rfl) (by kernel_rfl) (by kernel_rfl)) (by kernel_rfl) (.inl (by kernel_rfl))) (rss_cons (rs_if (RW.rt (rw_or (t_eq hr (RE.bor (r_var (by kernel_rfl) (.inl (by kernel_rfl)) (by kernel_rfl) (by kernel_rfl))) (RE.bor (r_lst ra_nil))) (rw_or1 (t_eq hr (RE.bor (r_var (by kernel_rfl) (.inl (by kernel_rfl)) (by kernel_rfl) (by kernel_rfl))) (RE.bor r_int))))) (rss_cons (rs_ret (x_add (RE.bor (r_var (by kernel_rfl) (.inl (by kernel_rfl)) (by kernel_rfl) (by kernel_rfl))) (RE.bor (r_lst (ra_cons (r_tup (ra_cons r_str (ra_cons r_str ra_nil (by kernel_rfl)) (by kernel_rfl))) ra_nil (by kernel_rfl)))))) rss_nil) rss_nil) (rss_cons (rs_set S.nd (by kernel_rfl) (.inl (by kernel_rfl)) (r_call C.c_law_pick hr tk (gl (by kernel_rfl)) (ra_cons (r_var (by kernel_rfl) (.inl (by kernel_rfl)) (by kernel_rfl) (by kernel_rfl)) (ra_cons (x_add (RE.bor (r_var (by kernel_rfl) (.inl (by kernel_rfl)) (by kernel_rfl) (by kernel_rfl))) (RE.bor r_int)) (ra_cons (b_len (gl (by kernel_rfl)) F.b_len (rab_cons (RE.bor (r_var (by kernel_rfl) (.inl (by kernel_rfl)) (by kernel_rfl) (by kernel_rfl))) rab_nil (by kernel_rfl)) (by kernel_rfl) (by kernel_rfl)) ra_nil (by kernel_rfl)) (by kernel_rfl)) (by kernel_rfl)) (by decide) (by kernel_rfl) (by kernel_rfl) (by kernel_rfl)) (by kernel_rfl) (.inl (by kernel_rfl))) (rss_cons (rs_if (t_eq hr (RE.bor (r_var (by kernel_rfl) (.inl (by kernel_rfl)) (by kernel_rfl) (by kernel_rfl))) (RE.bor r_int)) (rss_cons (rs_ret (x_add (RE.bor (r_slice (RE.bor (r_var (by kernel_rfl) (.inl (by kernel_rfl)) (by kernel_rfl) (by kernel_rfl))) ro_none (ro_some (RE.bor (r_var (by kernel_rfl) (.inl (by kernel_rfl)) (by kernel_rfl) (by kernel_rfl)))))) (RE.bor (r_slice (RE.bor (r_var (by kernel_rfl) (.inl (by kernel_rfl)) (by kernel_rfl) (by kernel_rfl))) (ro_some (RE.bor (x_add (RE.bor (r_var (by kernel_rfl) (.inl (by kernel_rfl)) (by kernel_rfl) (by kernel_rfl))) (RE.bor r_int)))) ro_none)))) rss_nil) rss_nil) (rss_cons (rs_set S.nd (by kernel_rfl) (.inl (by kernel_rfl)) (r_lst (ra_cons r_str (ra_cons r_str (ra_cons r_str (ra_cons r_str (ra_cons r_int (ra_cons r_int (ra_cons (x_neg (RE.bor r_int)) (ra_cons r_bl (ra_cons r_non (ra_cons (r_tup (ra_cons r_str ra_nil (by kernel_rfl))) (ra_cons (r_tup ra_nil) (ra_cons (r_tup (ra_cons r_str (ra_cons r_str ra_nil (by kernel_rfl)) (by kernel_rfl))) (ra_cons r_str (ra_cons (r_lst (ra_cons r_str ra_nil (by kernel_rfl))) (ra_cons (x_mul (RE.bor (r_tup (ra_cons r_str ra_nil (by kernel_rfl)))) (RE.bor r_int)) (ra_cons (x_pow (RE.bor r_int) (RE.bor r_int)) ra_nil (by kernel_rfl)) (by kernel_rfl)) (by kernel_rfl)) (by kernel_rfl)) (by kernel_rfl)) (by kernel_rfl)) (by kernel_rfl)) (by kernel_rfl)) (by kernel_rfl)) (by kernel_rfl)) (by kernel_rfl)) (by kernel_rfl)) (by kernel_rfl)) (by kernel_rfl)) (by kernel_rfl)) (by kernel_rfl))) (by kernel_rfl) (.inl (by kernel_rfl))) (rss_cons (rs_ret (x_add (RE.bor (x_add (RE.bor (r_slice (RE.bor (r_var (by kernel_rfl) (.inl (by kernel_rfl)) (by kernel_rfl) (by kernel_rfl))) ro_none (ro_some (RE.bor (r_var (by kernel_rfl) (.inl (by kernel_rfl)) (by kernel_rfl) (by kernel_rfl)))))) (RE.bor (r_lst (ra_cons (r_tup (ra_cons (x_ix hr (RE.bor (x_ix hr (RE.bor (r_var (by kernel_rfl) (.inl (by kernel_rfl)) (by kernel_rfl) (by kernel_rfl))) (RE.bor (r_var (by kernel_rfl) (.inl (by kernel_rfl)) (by kernel_rfl) (by kernel_rfl))) (by intro _ _; kernel_rfl))) (RE.bor r_int) (by intro _ _; kernel_rfl)) (ra_cons (x_ix hr (RE.bor (r_var (by kernel_rfl) (.inl (by kernel_rfl)) (by kernel_rfl) (by kernel_rfl))) (RE.bor (r_call C.c_law_pick hr tk (gl (by kernel_rfl)) (ra_cons (r_var (by kernel_rfl) (.inl (by kernel_rfl)) (by kernel_rfl) (by kernel_rfl)) (ra_cons (x_add (RE.bor (r_var (by kernel_rfl) (.inl (by kernel_rfl)) (by kernel_rfl) (by kernel_rfl))) (RE.bor r_int)) (ra_cons r_int ra_nil (by kernel_rfl)) (by kernel_rfl)) (by kernel_rfl)) (by decide) (by kernel_rfl) (by kernel_rfl) (by kernel_rfl))) (by intro _ _; kernel_rfl)) ra_nil (by kernel_rfl)) (by kernel_rfl))) ra_nil (by kernel_rfl)))))) (RE.bor (r_slice (RE.bor (r_var (by kernel_rfl) (.inl (by kernel_rfl)) (by kernel_rfl) (by kernel_rfl))) (ro_some (RE.bor (x_add (RE.bor (r_var (by kernel_rfl) (.inl (by kernel_rfl)) (by kernel_rfl) (by kernel_rfl))) (RE.bor r_int)))) ro_none)))) rss_nil))))))
abbrev s_law_word : Stmt := top 35
abbrev n_law_word : List Str := ["_law_kept", "_law_kinds"]
theorem sc_law_word : FnScope n_law_word ["_law_kept"] (defScope s_law_word) := ⟨rfl, rfl, rfl, by decide +kernel, rfl, by decide +kernel, by decide +kernel⟩
structure Cs_law_word (P : Program) (w : World) (K : PySem.W.Frag) (mg : Str → Option Value) (base : Heap) (ea : Str → Addr) : Prop where
  z : True
theorem w_law_word (F : Fx K mg ea) (C : Cs_law_word P w K mg base ea) {Z : CXT} {W : WX} {O0 : List Addr} {f : Addr} {cdv : Value} {A : Around} {outer : List Env} {s : Shared} {H : Hp} {E : XK} (hr : Room 0 (cxOf Z P w K mg base n_law_word "_law_word" (defScope s_law_word) f cdv A outer s H E).A) (tk : Takes (cxOf Z P w K mg base n_law_word "_law_word" (defScope s_law_word) f cdv A outer s H E) W) : RSs (cxOf Z P w K mg base n_law_word "_law_word" (defScope s_law_word) f cdv A outer s H E) W ea O0 (defBody s_law_word) d_law_word :=
  have S := sc_law_word
  (rss_cons (rs_own S.nd (by kernel_rfl) (.inl (by kernel_rfl)) (rf_lst (ra_cons (r_isC F.e_BadLead (gl (by kernel_rfl)) F.b_isinstance (RE.bor (r_var (by kernel_rfl) (.inl (by kernel_rfl)) (by kernel_rfl) (by kernel_rfl))) (gl (by kernel_rfl)) F.m_BadLead (by kernel_rfl) (by kernel_rfl) (by kernel_rfl) (by kernel_rfl)) (ra_cons (r_isC F.e_BadValues (gl (by kernel_rfl)) F.b_isinstance (RE.bor (r_var (by kernel_rfl) (.inl (by kernel_rfl)) (by kernel_rfl) (by kernel_rfl))) (gl (by kernel_rfl)) F.m_BadValues (by kernel_rfl) (by kernel_rfl) (by kernel_rfl) (by kernel_rfl)) (ra_cons (r_isC F.e_NoRow (gl (by kernel_rfl)) F.b_isinstance (RE.bor (r_var (by kernel_rfl) (.inl (by kernel_rfl)) (by kernel_rfl) (by kernel_rfl))) (gl (by kernel_rfl)) F.m_NoRow (by kernel_rfl) (by kernel_rfl) (by kernel_rfl) (by kernel_rfl)) (ra_cons (r_isC F.e_NoText (gl (by kernel_rfl)) F.b_isinstance (RE.bor (r_var (by kernel_rfl) (.inl (by kernel_rfl)) (by kernel_rfl) (by kernel_rfl))) (gl (by kernel_rfl)) F.m_NoText (by kernel_rfl) (by kernel_rfl) (by kernel_rfl) (by kernel_rfl)) ra_nil (by kernel_rfl)) (by kernel_rfl)) (by kernel_rfl)) (by kernel_rfl))) (by kernel_rfl) (.inl (by kernel_rfl))) (rss_cons (m_ext (by kernel_rfl) (.inl (by kernel_rfl)) (ra_cons (r_lst (ra_cons (r_isC F.e_Taken (gl (by kernel_rfl)) F.b_isinstance (RE.bor (r_var (by kernel_rfl) (.inl (by kernel_rfl)) (by kernel_rfl) (by kernel_rfl))) (gl (by kernel_rfl)) F.m_Taken (by kernel_rfl) (by kernel_rfl) (by kernel_rfl) (by kernel_rfl)) (ra_cons (r_isC F.e_TooMany (gl (by kernel_rfl)) F.b_isinstance (RE.bor (r_var (by kernel_rfl) (.inl (by kernel_rfl)) (by kernel_rfl) (by kernel_rfl))) (gl (by kernel_rfl)) F.m_TooMany (by kernel_rfl) (by kernel_rfl) (by kernel_rfl) (by kernel_rfl)) ra_nil (by kernel_rfl)) (by kernel_rfl))) ra_nil (by kernel_rfl)) (by kernel_rfl) (by kernel_rfl) (by kernel_rfl) (by kernel_rfl) (by kernel_rfl) (by kernel_rfl) (by kernel_rfl) (by kernel_rfl)) (rss_cons (rs_if (RW.rt (rw_or (t_ne hr (RE.bor (m_cnt hr (r_varB (by kernel_rfl) (.inl (by kernel_rfl)) (by kernel_rfl) (by kernel_rfl)) (rab_cons (RE.bor r_bl) rab_nil (by kernel_rfl)) (by kernel_rfl) (by kernel_rfl) (by kernel_rfl) (by kernel_rfl) (by kernel_rfl))) (RE.bor r_int)) (rw_or1 (rt_not (rt_val (RE.bor (r_isV F.v_V (gl (by kernel_rfl)) F.b_isinstance (RE.bor (r_var (by kernel_rfl) (.inl (by kernel_rfl)) (by kernel_rfl) (by kernel_rfl))) (gl (by kernel_rfl)) F.b_ValueError (by kernel_rfl) (by kernel_rfl) (by kernel_rfl))) (by intro _; kernel_rfl)))))) (rss_cons (rs_ret r_str) rss_nil) rss_nil) (rss_cons (rs_ret (x_ix hr (RE.bor (r_lst (ra_cons r_str (ra_cons r_str (ra_cons r_str (ra_cons r_str (ra_cons r_str (ra_cons r_str ra_nil (by kernel_rfl)) (by kernel_rfl)) (by kernel_rfl)) (by kernel_rfl)) (by kernel_rfl)) (by kernel_rfl)))) (RE.bor (m_lix hr (r_varB (by kernel_rfl) (.inl (by kernel_rfl)) (by kernel_rfl) (by kernel_rfl)) (rab_cons (RE.bor r_bl) rab_nil (by kernel_rfl)) (by kernel_rfl) (by kernel_rfl) (by kernel_rfl) (by kernel_rfl) (by kernel_rfl))) (by intro _ _; kernel_rfl))) rss_nil))))
abbrev s_has_rest : Stmt := top 16
abbrev n_has_rest : List Str := ["pattern"]
theorem sc_has_rest : FnScope n_has_rest ["pattern"] (defScope s_has_rest) := ⟨rfl, rfl, rfl, by decide +kernel, rfl, by decide +kernel, by decide +kernel⟩
structure Cs_has_rest (P : Program) (w : World) (K : PySem.W.Frag) (mg : Str → Option Value) (base : Heap) (ea : Str → Addr) : Prop where
  z : True
theorem w_has_rest (F : Fx K mg ea) (C : Cs_has_rest P w K mg base ea) {Z : CXT} {W : WX} {O0 : List Addr} {f : Addr} {cdv : Value} {A : Around} {outer : List Env} {s : Shared} {H : Hp} {E : XK} (hr : Room 0 (cxOf Z P w K mg base n_has_rest "has_rest" (defScope s_has_rest) f cdv A outer s H E).A) (tk : Takes (cxOf Z P w K mg base n_has_rest "has_rest" (defScope s_has_rest) f cdv A outer s H E) W) : RSs (cxOf Z P w K mg base n_has_rest "has_rest" (defScope s_has_rest) f cdv A outer s H E) W ea O0 (defBody s_has_rest) d_has_rest :=
  have S := sc_has_rest
  (rss_cons (rs_ret (r_and (RE.bor (x_ne hr (RE.bor (r_var (by kernel_rfl) (.inl (by kernel_rfl)) (by kernel_rfl) (by kernel_rfl))) (RE.bor (r_tup ra_nil)))) (r_one (x_eq hr (RE.bor (x_ix hr (RE.bor (x_ix hr (RE.bor (r_var (by kernel_rfl) (.inl (by kernel_rfl)) (by kernel_rfl) (by kernel_rfl))) (RE.bor (x_neg (RE.bor r_int))) (by intro _ _; kernel_rfl))) (RE.bor r_int) (by intro _ _; kernel_rfl))) (RE.bor r_str))))) rss_nil)
abbrev s_holes_of : Stmt := top 15
abbrev n_holes_of : List Str := ["pattern", "part"]
theorem sc_holes_of : FnScope n_holes_of ["pattern"] (defScope s_holes_of) := ⟨rfl, rfl, rfl, by decide +kernel, rfl, by decide +kernel, by decide +kernel⟩
structure Cs_holes_of (P : Program) (w : World) (K : PySem.W.Frag) (mg : Str → Option Value) (base : Heap) (ea : Str → Addr) : Prop where
  z : True
theorem w_holes_of (F : Fx K mg ea) (C : Cs_holes_of P w K mg base ea) {Z : CXT} {W : WX} {O0 : List Addr} {f : Addr} {cdv : Value} {A : Around} {outer : List Env} {s : Shared} {H : Hp} {E : XK} (hr : Room 0 (cxOf Z P w K mg base n_holes_of "holes_of" (defScope s_holes_of) f cdv A outer s H E).A) (tk : Takes (cxOf Z P w K mg base n_holes_of "holes_of" (defScope s_holes_of) f cdv A outer s H E) W) : RSs (cxOf Z P w K mg base n_holes_of "holes_of" (defScope s_holes_of) f cdv A outer s H E) W ea O0 (defBody s_holes_of) d_holes_of :=
  have S := sc_holes_of
  (rss_cons (rs_ret (r_lc (by kernel_rfl) S.nd (rib_src (RE.bor (r_var (by kernel_rfl) (.inl (by kernel_rfl)) (by kernel_rfl) (by kernel_rfl)))) (blkOk_by (own := [("part", 1)]) (by kernel_rfl)) (fun _ _ _ _ _ => (rg_name S.nd (by kernel_rfl) (.inl (by kernel_rfl)) (.inr (by kernel_rfl)))) (fun _ _ _ _ _ => (rts_one (t_ne hr (RE.bor (x_ix hr (RE.bor (r_var (by kernel_rfl) (.inl (by kernel_rfl)) (by kernel_rfl) (by kernel_rfl))) (RE.bor r_int) (by intro _ _; kernel_rfl))) (RE.bor r_str)))) (fun _ _ _ _ _ => (x_ix hr (RE.bor (r_var (by kernel_rfl) (.inl (by kernel_rfl)) (by kernel_rfl) (by kernel_rfl))) (RE.bor r_int) (by intro _ _; kernel_rfl))) (by decide) (by kernel_rfl) (by intro _; kernel_rfl))) rss_nil)
abbrev s_word_for : Stmt := top 23
abbrev n_word_for : List Str := ["part", "value"]
theorem sc_word_for : FnScope n_word_for ["part", "value"] (defScope s_word_for) := ⟨rfl, rfl, rfl, by decide +kernel, rfl, by decide +kernel, by decide +kernel⟩
structure Cs_word_for (P : Program) (w : World) (K : PySem.W.Frag) (mg : Str → Option Value) (base : Heap) (ea : Str → Addr) : Prop where
  z : True
theorem w_word_for (F : Fx K mg ea) (C : Cs_word_for P w K mg base ea) {Z : CXT} {W : WX} {O0 : List Addr} {f : Addr} {cdv : Value} {A : Around} {outer : List Env} {s : Shared} {H : Hp} {E : XK} (hr : Room 0 (cxOf Z P w K mg base n_word_for "word_for" (defScope s_word_for) f cdv A outer s H E).A) (tk : Takes (cxOf Z P w K mg base n_word_for "word_for" (defScope s_word_for) f cdv A outer s H E) W) : RSs (cxOf Z P w K mg base n_word_for "word_for" (defScope s_word_for) f cdv A outer s H E) W ea O0 (defBody s_word_for) d_word_for :=
  have S := sc_word_for
  (rss_cons (rs_if (t_eq hr (RE.bor (x_ix hr (RE.bor (r_var (by kernel_rfl) (.inl (by kernel_rfl)) (by kernel_rfl) (by kernel_rfl))) (RE.bor r_int) (by intro _ _; kernel_rfl))) (RE.bor r_str)) (rss_cons (rs_ret (x_ix hr (RE.bor (r_var (by kernel_rfl) (.inl (by kernel_rfl)) (by kernel_rfl) (by kernel_rfl))) (RE.bor r_int) (by intro _ _; kernel_rfl))) rss_nil) rss_nil) (rss_cons (rs_if (t_ne hr (RE.bor (x_ix hr (RE.bor (r_var (by kernel_rfl) (.inl (by kernel_rfl)) (by kernel_rfl) (by kernel_rfl))) (RE.bor r_int) (by intro _ _; kernel_rfl))) (RE.bor r_str)) (rss_cons (rs_retV (by kernel_rfl) (.inl (by kernel_rfl)) (by kernel_rfl) (by kernel_rfl)) rss_nil) rss_nil) (rss_cons (rs_if (RW.rt (rw_or (rt_not (rt_val (RE.bor (r_isT ist_int (gl (by kernel_rfl)) F.b_isinstance (RE.bor (r_var (by kernel_rfl) (.inl (by kernel_rfl)) (by kernel_rfl) (by kernel_rfl))) (gl (by kernel_rfl)) F.b_int (by kernel_rfl) (by decide) (by kernel_rfl) (by kernel_rfl) (by kernel_rfl) (by kernel_rfl))) (by intro _; kernel_rfl))) (rw_or (rt_val (RE.bor (r_isT ist_bool (gl (by kernel_rfl)) F.b_isinstance (RE.bor (r_var (by kernel_rfl) (.inl (by kernel_rfl)) (by kernel_rfl) (by kernel_rfl))) (gl (by kernel_rfl)) F.b_bool (by kernel_rfl) (by decide) (by kernel_rfl) (by kernel_rfl) (by kernel_rfl) (by kernel_rfl))) (by intro _; kernel_rfl)) (rw_or1 (t_lt (RE.bor (r_var (by kernel_rfl) (.inl (by kernel_rfl)) (by kernel_rfl) (by kernel_rfl))) (RE.bor r_int)))))) (rss_cons (rs_raise (by kernel_rfl) tk F.x_BadValues (gl (by kernel_rfl)) (by kernel_rfl)) rss_nil) rss_nil) (rss_cons (rs_ret (b_str (gl (by kernel_rfl)) F.b_str (rab_cons (RE.bor (r_var (by kernel_rfl) (.inl (by kernel_rfl)) (by kernel_rfl) (by kernel_rfl))) rab_nil (by kernel_rfl)) (by kernel_rfl) (by kernel_rfl))) rss_nil))))
abbrev s_is_word : Stmt := top 13
abbrev n_is_word : List Str := ["thing", "sign"]
theorem sc_is_word : FnScope n_is_word ["thing"] (defScope s_is_word) := ⟨rfl, rfl, rfl, by decide +kernel, rfl, by decide +kernel, by decide +kernel⟩
structure Cs_is_word (P : Program) (w : World) (K : PySem.W.Frag) (mg : Str → Option Value) (base : Heap) (ea : Str → Addr) : Prop where
  z : True
theorem w_is_word (F : Fx K mg ea) (C : Cs_is_word P w K mg base ea) {Z : CXT} {W : WX} {O0 : List Addr} {f : Addr} {cdv : Value} {A : Around} {outer : List Env} {s : Shared} {H : Hp} {E : XK} (hr : Room 0 (cxOf Z P w K mg base n_is_word "is_word" (defScope s_is_word) f cdv A outer s H E).A) (tk : Takes (cxOf Z P w K mg base n_is_word "is_word" (defScope s_is_word) f cdv A outer s H E) W) : RSs (cxOf Z P w K mg base n_is_word "is_word" (defScope s_is_word) f cdv A outer s H E) W ea O0 (defBody s_is_word) d_is_word :=
  have S := sc_is_word
  (rss_cons (rs_ret (r_and (RE.bor (r_isT ist_str (gl (by kernel_rfl)) F.b_isinstance (RE.bor (r_var (by kernel_rfl) (.inl (by kernel_rfl)) (by kernel_rfl) (by kernel_rfl))) (gl (by kernel_rfl)) F.b_str (by kernel_rfl) (by decide) (by kernel_rfl) (by kernel_rfl) (by kernel_rfl) (by kernel_rfl))) (r_and (RE.bor (x_lele (RE.bor r_int) (RE.bor (b_len (gl (by kernel_rfl)) F.b_len (rab_cons (RE.bor (r_var (by kernel_rfl) (.inl (by kernel_rfl)) (by kernel_rfl) (by kernel_rfl))) rab_nil (by kernel_rfl)) (by kernel_rfl) (by kernel_rfl))) (RE.bor (r_globI (gl (by kernel_rfl)) F.g_LONGEST.choose_spec (by kernel_rfl))) (by kernel_rfl))) (r_one (b_all (by kernel_rfl) (gl (by kernel_rfl)) F.b_all (rab_cons (RE.bor (r_lc (by kernel_rfl) S.nd (rib_src (RE.bor (r_var (by kernel_rfl) (.inl (by kernel_rfl)) (by kernel_rfl) (by kernel_rfl)))) (blkOk_by (own := [("sign", 1)]) (by kernel_rfl)) (fun _ _ _ _ _ => (rg_name S.nd (by kernel_rfl) (.inl (by kernel_rfl)) (.inr (by kernel_rfl)))) (fun _ _ _ _ _ => rts_nil) (fun _ _ _ _ _ => (x_in hr (RE.bor (r_var (by kernel_rfl) (.inl (by kernel_rfl)) (by kernel_rfl) (by kernel_rfl))) (RE.bor (r_globS (gl (by kernel_rfl)) F.g_SIGNS.choose_spec (by kernel_rfl))) (by kernel_rfl))) (by decide) (by kernel_rfl) (by intro _; kernel_rfl))) rab_nil (by kernel_rfl)) (by kernel_rfl) (by kernel_rfl)))))) rss_nil)
abbrev s_is_address : Stmt := top 14
abbrev n_is_address : List Str := ["thing", "word"]
theorem sc_is_address : FnScope n_is_address ["thing"] (defScope s_is_address) := ⟨rfl, rfl, rfl, by decide +kernel, rfl, by decide +kernel, by decide +kernel⟩
structure Cs_is_address (P : Program) (w : World) (K : PySem.W.Frag) (mg : Str → Option Value) (base : Heap) (ea : Str → Addr) : Prop where
  z : True
  c_is_word : Cal P w K mg base ea 1 "is_word" m_is_word
theorem w_is_address (F : Fx K mg ea) (C : Cs_is_address P w K mg base ea) {Z : CXT} {W : WX} {O0 : List Addr} {f : Addr} {cdv : Value} {A : Around} {outer : List Env} {s : Shared} {H : Hp} {E : XK} (hr : Room 1 (cxOf Z P w K mg base n_is_address "is_address" (defScope s_is_address) f cdv A outer s H E).A) (tk : Takes (cxOf Z P w K mg base n_is_address "is_address" (defScope s_is_address) f cdv A outer s H E) W) : RSs (cxOf Z P w K mg base n_is_address "is_address" (defScope s_is_address) f cdv A outer s H E) W ea O0 (defBody s_is_address) d_is_address :=
  have S := sc_is_address
  (rss_cons (rs_ret (r_and (RE.bor (r_isT ist_tup (gl (by kernel_rfl)) F.b_isinstance (RE.bor (r_var (by kernel_rfl) (.inl (by kernel_rfl)) (by kernel_rfl) (by kernel_rfl))) (gl (by kernel_rfl)) F.b_tuple (by kernel_rfl) (by decide) (by kernel_rfl) (by kernel_rfl) (by kernel_rfl) (by kernel_rfl))) (r_and (RE.bor (x_le (RE.bor (b_len (gl (by kernel_rfl)) F.b_len (rab_cons (RE.bor (r_var (by kernel_rfl) (.inl (by kernel_rfl)) (by kernel_rfl) (by kernel_rfl))) rab_nil (by kernel_rfl)) (by kernel_rfl) (by kernel_rfl))) (RE.bor (r_globI (gl (by kernel_rfl)) F.g_MOST_WORDS.choose_spec (by kernel_rfl))))) (r_one (b_all (by kernel_rfl) (gl (by kernel_rfl)) F.b_all (rab_cons (RE.bor (r_lc (by kernel_rfl) S.nd (rib_src (RE.bor (r_var (by kernel_rfl) (.inl (by kernel_rfl)) (by kernel_rfl) (by kernel_rfl)))) (blkOk_by (own := [("word", 1)]) (by kernel_rfl)) (fun _ _ _ _ _ => (rg_name S.nd (by kernel_rfl) (.inl (by kernel_rfl)) (.inr (by kernel_rfl)))) (fun _ _ _ _ _ => rts_nil) (fun _ _ _ _ _ => (r_call C.c_is_word hr takes0 (gl (by kernel_rfl)) (ra_cons (r_var (by kernel_rfl) (.inl (by kernel_rfl)) (by kernel_rfl) (by kernel_rfl)) ra_nil (by kernel_rfl)) (by decide) (by kernel_rfl) (by kernel_rfl) (by kernel_rfl))) (by decide) (by kernel_rfl) (by intro _; kernel_rfl))) rab_nil (by kernel_rfl)) (by kernel_rfl) (by kernel_rfl)))))) rss_nil)
abbrev s_fixed_of : Stmt := top 17
abbrev n_fixed_of : List Str := ["pattern"]
theorem sc_fixed_of : FnScope n_fixed_of ["pattern"] (defScope s_fixed_of) := ⟨rfl, rfl, rfl, by decide +kernel, rfl, by decide +kernel, by decide +kernel⟩
structure Cs_fixed_of (P : Program) (w : World) (K : PySem.W.Frag) (mg : Str → Option Value) (base : Heap) (ea : Str → Addr) : Prop where
  z : True
  c_has_rest : Cal P w K mg base ea 1 "has_rest" m_has_rest
theorem w_fixed_of (F : Fx K mg ea) (C : Cs_fixed_of P w K mg base ea) {Z : CXT} {W : WX} {O0 : List Addr} {f : Addr} {cdv : Value} {A : Around} {outer : List Env} {s : Shared} {H : Hp} {E : XK} (hr : Room 1 (cxOf Z P w K mg base n_fixed_of "fixed_of" (defScope s_fixed_of) f cdv A outer s H E).A) (tk : Takes (cxOf Z P w K mg base n_fixed_of "fixed_of" (defScope s_fixed_of) f cdv A outer s H E) W) : RSs (cxOf Z P w K mg base n_fixed_of "fixed_of" (defScope s_fixed_of) f cdv A outer s H E) W ea O0 (defBody s_fixed_of) d_fixed_of :=
  have S := sc_fixed_of
  (rss_cons (rs_ret (r_if (rt_val (RE.bor (r_call C.c_has_rest hr tk (gl (by kernel_rfl)) (ra_cons (r_var (by kernel_rfl) (.inl (by kernel_rfl)) (by kernel_rfl) (by kernel_rfl)) ra_nil (by kernel_rfl)) (by decide) (by kernel_rfl) (by kernel_rfl) (by kernel_rfl))) (by intro _; kernel_rfl)) (r_slice (RE.bor (r_var (by kernel_rfl) (.inl (by kernel_rfl)) (by kernel_rfl) (by kernel_rfl))) ro_none (ro_some (RE.bor (x_neg (RE.bor r_int))))) (r_var (by kernel_rfl) (.inl (by kernel_rfl)) (by kernel_rfl) (by kernel_rfl)))) rss_nil)
abbrev s_is_number : Stmt := top 18
abbrev n_is_number : List Str := ["word", "sign"]
theorem sc_is_number : FnScope n_is_number ["word"] (defScope s_is_number) := ⟨rfl, rfl, rfl, by decide +kernel, rfl, by decide +kernel, by decide +kernel⟩
structure Cs_is_number (P : Program) (w : World) (K : PySem.W.Frag) (mg : Str → Option Value) (base : Heap) (ea : Str → Addr) : Prop where
  z : True
theorem w_is_number (F : Fx K mg ea) (C : Cs_is_number P w K mg base ea) {Z : CXT} {W : WX} {O0 : List Addr} {f : Addr} {cdv : Value} {A : Around} {outer : List Env} {s : Shared} {H : Hp} {E : XK} (hr : Room 0 (cxOf Z P w K mg base n_is_number "is_number" (defScope s_is_number) f cdv A outer s H E).A) (tk : Takes (cxOf Z P w K mg base n_is_number "is_number" (defScope s_is_number) f cdv A outer s H E) W) : RSs (cxOf Z P w K mg base n_is_number "is_number" (defScope s_is_number) f cdv A outer s H E) W ea O0 (defBody s_is_number) d_is_number :=
  have S := sc_is_number
  (rss_cons (rs_ret (r_and (RE.bor (b_all (by kernel_rfl) (gl (by kernel_rfl)) F.b_all (rab_cons (RE.bor (r_lc (by kernel_rfl) S.nd (rib_src (RE.bor (r_var (by kernel_rfl) (.inl (by kernel_rfl)) (by kernel_rfl) (by kernel_rfl)))) (blkOk_by (own := [("sign", 1)]) (by kernel_rfl)) (fun _ _ _ _ _ => (rg_name S.nd (by kernel_rfl) (.inl (by kernel_rfl)) (.inr (by kernel_rfl)))) (fun _ _ _ _ _ => rts_nil) (fun _ _ _ _ _ => (x_in hr (RE.bor (r_var (by kernel_rfl) (.inl (by kernel_rfl)) (by kernel_rfl) (by kernel_rfl))) (RE.bor (r_globS (gl (by kernel_rfl)) F.g_FIGURES.choose_spec (by kernel_rfl))) (by kernel_rfl))) (by decide) (by kernel_rfl) (by intro _; kernel_rfl))) rab_nil (by kernel_rfl)) (by kernel_rfl) (by kernel_rfl))) (r_one (r_or (RE.bor (x_ne hr (RE.bor (x_ix hr (RE.bor (r_var (by kernel_rfl) (.inl (by kernel_rfl)) (by kernel_rfl) (by kernel_rfl))) (RE.bor r_int) (by intro _ _; kernel_rfl))) (RE.bor r_str))) (r_one (x_eq hr (RE.bor (r_var (by kernel_rfl) (.inl (by kernel_rfl)) (by kernel_rfl) (by kernel_rfl))) (RE.bor r_str))))))) rss_nil)
abbrev s_lets : Stmt := top 19
abbrev n_lets : List Str := ["part", "word"]
theorem sc_lets : FnScope n_lets ["part", "word"] (defScope s_lets) := ⟨rfl, rfl, rfl, by decide +kernel, rfl, by decide +kernel, by decide +kernel⟩
structure Cs_lets (P : Program) (w : World) (K : PySem.W.Frag) (mg : Str → Option Value) (base : Heap) (ea : Str → Addr) : Prop where
  z : True
  c_is_number : Cal P w K mg base ea 1 "is_number" m_is_number
theorem w_lets (F : Fx K mg ea) (C : Cs_lets P w K mg base ea) {Z : CXT} {W : WX} {O0 : List Addr} {f : Addr} {cdv : Value} {A : Around} {outer : List Env} {s : Shared} {H : Hp} {E : XK} (hr : Room 1 (cxOf Z P w K mg base n_lets "lets" (defScope s_lets) f cdv A outer s H E).A) (tk : Takes (cxOf Z P w K mg base n_lets "lets" (defScope s_lets) f cdv A outer s H E) W) : RSs (cxOf Z P w K mg base n_lets "lets" (defScope s_lets) f cdv A outer s H E) W ea O0 (defBody s_lets) d_lets :=
  have S := sc_lets
  (rss_cons (rs_if (t_eq hr (RE.bor (x_ix hr (RE.bor (r_var (by kernel_rfl) (.inl (by kernel_rfl)) (by kernel_rfl) (by kernel_rfl))) (RE.bor r_int) (by intro _ _; kernel_rfl))) (RE.bor r_str)) (rss_cons (rs_ret (x_eq hr (RE.bor (x_ix hr (RE.bor (r_var (by kernel_rfl) (.inl (by kernel_rfl)) (by kernel_rfl) (by kernel_rfl))) (RE.bor r_int) (by intro _ _; kernel_rfl))) (RE.bor (r_var (by kernel_rfl) (.inl (by kernel_rfl)) (by kernel_rfl) (by kernel_rfl))))) rss_nil) rss_nil) (rss_cons (rs_if (t_eq hr (RE.bor (x_ix hr (RE.bor (r_var (by kernel_rfl) (.inl (by kernel_rfl)) (by kernel_rfl) (by kernel_rfl))) (RE.bor r_int) (by intro _ _; kernel_rfl))) (RE.bor r_str)) (rss_cons (rs_ret (x_in hr (RE.bor (r_var (by kernel_rfl) (.inl (by kernel_rfl)) (by kernel_rfl) (by kernel_rfl))) (RE.bor (x_ix hr (RE.bor (r_var (by kernel_rfl) (.inl (by kernel_rfl)) (by kernel_rfl) (by kernel_rfl))) (RE.bor r_int) (by intro _ _; kernel_rfl))) (by kernel_rfl))) rss_nil) rss_nil) (rss_cons (rs_ret (r_or (RE.bor (x_eq hr (RE.bor (x_ix hr (RE.bor (r_var (by kernel_rfl) (.inl (by kernel_rfl)) (by kernel_rfl) (by kernel_rfl))) (RE.bor r_int) (by intro _ _; kernel_rfl))) (RE.bor r_str))) (r_one (r_call C.c_is_number hr tk (gl (by kernel_rfl)) (ra_cons (r_var (by kernel_rfl) (.inl (by kernel_rfl)) (by kernel_rfl) (by kernel_rfl)) ra_nil (by kernel_rfl)) (by decide) (by kernel_rfl) (by kernel_rfl) (by kernel_rfl))))) rss_nil)))
abbrev s_does_match : Stmt := top 21
abbrev n_does_match : List Str := ["pattern", "address", "parts", "part", "word"]
theorem sc_does_match : FnScope n_does_match ["pattern", "address"] (defScope s_does_match) := ⟨rfl, rfl, rfl, by decide +kernel, rfl, by decide +kernel, by decide +kernel⟩
structure Cs_does_match (P : Program) (w : World) (K : PySem.W.Frag) (mg : Str → Option Value) (base : Heap) (ea : Str → Addr) : Prop where
  z : True
  c_has_rest : Cal P w K mg base ea 1 "has_rest" m_has_rest
  c_fixed_of : Cal P w K mg base ea 2 "fixed_of" m_fixed_of
  c_lets : Cal P w K mg base ea 2 "lets" m_lets
theorem w_does_match (F : Fx K mg ea) (C : Cs_does_match P w K mg base ea) {Z : CXT} {W : WX} {O0 : List Addr} {f : Addr} {cdv : Value} {A : Around} {outer : List Env} {s : Shared} {H : Hp} {E : XK} (hr : Room 2 (cxOf Z P w K mg base n_does_match "does_match" (defScope s_does_match) f cdv A outer s H E).A) (tk : Takes (cxOf Z P w K mg base n_does_match "does_match" (defScope s_does_match) f cdv A outer s H E) W) : RSs (cxOf Z P w K mg base n_does_match "does_match" (defScope s_does_match) f cdv A outer s H E) W ea O0 (defBody s_does_match) d_does_match :=
  have S := sc_does_match
  (rss_cons (rs_set S.nd (by kernel_rfl) (.inl (by kernel_rfl)) (r_call C.c_fixed_of hr tk (gl (by kernel_rfl)) (ra_cons (r_var (by kernel_rfl) (.inl (by kernel_rfl)) (by kernel_rfl) (by kernel_rfl)) ra_nil (by kernel_rfl)) (by decide) (by kernel_rfl) (by kernel_rfl) (by kernel_rfl)) (by kernel_rfl) (.inl (by kernel_rfl))) (rss_cons (rs_if (RW.rt (rw_or (t_lt (RE.bor (b_len (gl (by kernel_rfl)) F.b_len (rab_cons (RE.bor (r_var (by kernel_rfl) (.inl (by kernel_rfl)) (by kernel_rfl) (by kernel_rfl))) rab_nil (by kernel_rfl)) (by kernel_rfl) (by kernel_rfl))) (RE.bor (b_len (gl (by kernel_rfl)) F.b_len (rab_cons (RE.bor (r_var (by kernel_rfl) (.inl (by kernel_rfl)) (by kernel_rfl) (by kernel_rfl))) rab_nil (by kernel_rfl)) (by kernel_rfl) (by kernel_rfl)))) (rw_or1 (RW.rt (rw_and (t_gt (RE.bor (b_len (gl (by kernel_rfl)) F.b_len (rab_cons (RE.bor (r_var (by kernel_rfl) (.inl (by kernel_rfl)) (by kernel_rfl) (by kernel_rfl))) rab_nil (by kernel_rfl)) (by kernel_rfl) (by kernel_rfl))) (RE.bor (b_len (gl (by kernel_rfl)) F.b_len (rab_cons (RE.bor (r_var (by kernel_rfl) (.inl (by kernel_rfl)) (by kernel_rfl) (by kernel_rfl))) rab_nil (by kernel_rfl)) (by kernel_rfl) (by kernel_rfl)))) (rw_and1 (rt_not (rt_val (RE.bor (r_call C.c_has_rest hr tk (gl (by kernel_rfl)) (ra_cons (r_var (by kernel_rfl) (.inl (by kernel_rfl)) (by kernel_rfl) (by kernel_rfl)) ra_nil (by kernel_rfl)) (by decide) (by kernel_rfl) (by kernel_rfl) (by kernel_rfl))) (by intro _; kernel_rfl))))))))) (rss_cons (rs_ret r_bl) rss_nil) rss_nil) (rss_cons (rs_ret (b_all (by kernel_rfl) (gl (by kernel_rfl)) F.b_all (rab_cons (RE.bor (r_lc (by kernel_rfl) S.nd (RI.bor (ri_zip (gl (by kernel_rfl)) F.b_zip (ra_cons (r_var (by kernel_rfl) (.inl (by kernel_rfl)) (by kernel_rfl) (by kernel_rfl)) (ra_cons (r_var (by kernel_rfl) (.inl (by kernel_rfl)) (by kernel_rfl) (by kernel_rfl)) ra_nil (by kernel_rfl)) (by kernel_rfl)) (by kernel_rfl) (by kernel_rfl))) (blkOk_by (own := [("part", 3), ("word", 4)]) (by kernel_rfl)) (fun _ _ _ _ _ => (rg_tup (by kernel_rfl) (rgs_cons (rg_name S.nd (by kernel_rfl) (.inl (by kernel_rfl)) (.inr (by kernel_rfl))) (rgs_cons (rg_name S.nd (by kernel_rfl) (.inl (by kernel_rfl)) (.inr (by kernel_rfl))) rgs_nil (by kernel_rfl)) (by kernel_rfl)) (by kernel_rfl) (by kernel_rfl))) (fun _ _ _ _ _ => rts_nil) (fun _ _ _ _ _ => (r_call C.c_lets hr takes0 (gl (by kernel_rfl)) (ra_cons (r_var (by kernel_rfl) (.inl (by kernel_rfl)) (by kernel_rfl) (by kernel_rfl)) (ra_cons (r_var (by kernel_rfl) (.inl (by kernel_rfl)) (by kernel_rfl) (by kernel_rfl)) ra_nil (by kernel_rfl)) (by kernel_rfl)) (by decide) (by kernel_rfl) (by kernel_rfl) (by kernel_rfl))) (by decide) (by kernel_rfl) (by intro _; kernel_rfl))) rab_nil (by kernel_rfl)) (by kernel_rfl) (by kernel_rfl))) rss_nil)))
abbrev s_built : Stmt := top 24
abbrev n_built : List Str := ["pattern", "some", "book", "words", "rest", "part", "name", "value"]
theorem sc_built : FnScope n_built ["pattern", "some"] (defScope s_built) := ⟨rfl, rfl, rfl, by decide +kernel, rfl, by decide +kernel, by decide +kernel⟩
structure Cs_built (P : Program) (w : World) (K : PySem.W.Frag) (mg : Str → Option Value) (base : Heap) (ea : Str → Addr) : Prop where
  z : True
  c_has_rest : Cal P w K mg base ea 1 "has_rest" m_has_rest
  c_holes_of : Cal P w K mg base ea 1 "holes_of" m_holes_of
  c_word_for : Cal P w K mg base ea 1 "word_for" m_word_for
  c_is_address : Cal P w K mg base ea 2 "is_address" m_is_address
  c_fixed_of : Cal P w K mg base ea 2 "fixed_of" m_fixed_of
  c_does_match : Cal P w K mg base ea 3 "does_match" m_does_match
theorem w_built (F : Fx K mg ea) (C : Cs_built P w K mg base ea) {Z : CXT} {W : WX} {O0 : List Addr} {f : Addr} {cdv : Value} {A : Around} {outer : List Env} {s : Shared} {H : Hp} {E : XK} (hr : Room 3 (cxOf Z P w K mg base n_built "built" (defScope s_built) f cdv A outer s H E).A) (tk : Takes (cxOf Z P w K mg base n_built "built" (defScope s_built) f cdv A outer s H E) W) : RSs (cxOf Z P w K mg base n_built "built" (defScope s_built) f cdv A outer s H E) W ea O0 (defBody s_built) d_built :=
  have S := sc_built
  (rss_cons (rs_if (t_ne hr (RE.bor (b_sorted (by kernel_rfl) (gl (by kernel_rfl)) F.b_sorted (rab_cons (RE.bor (r_lc (by kernel_rfl) S.nd (rib_src (RE.bor (r_var (by kernel_rfl) (.inl (by kernel_rfl)) (by kernel_rfl) (by kernel_rfl)))) (blkOk_by (own := [("name", 6), ("value", 7)]) (by kernel_rfl)) (fun _ _ _ _ _ => (rg_tup (by kernel_rfl) (rgs_cons (rg_name S.nd (by kernel_rfl) (.inl (by kernel_rfl)) (.inr (by kernel_rfl))) (rgs_cons (rg_name S.nd (by kernel_rfl) (.inl (by kernel_rfl)) (.inr (by kernel_rfl))) rgs_nil (by kernel_rfl)) (by kernel_rfl)) (by kernel_rfl) (by kernel_rfl))) (fun _ _ _ _ _ => rts_nil) (fun _ _ _ _ _ => (r_var (by kernel_rfl) (.inl (by kernel_rfl)) (by kernel_rfl) (by kernel_rfl))) (by decide) (by kernel_rfl) (by intro _; kernel_rfl))) rab_nil (by kernel_rfl)) (by kernel_rfl) (by kernel_rfl))) (RE.bor (b_sorted (by kernel_rfl) (gl (by kernel_rfl)) F.b_sorted (rab_cons (RE.bor (r_call C.c_holes_of hr tk (gl (by kernel_rfl)) (ra_cons (r_var (by kernel_rfl) (.inl (by kernel_rfl)) (by kernel_rfl) (by kernel_rfl)) ra_nil (by kernel_rfl)) (by decide) (by kernel_rfl) (by kernel_rfl) (by kernel_rfl))) rab_nil (by kernel_rfl)) (by kernel_rfl) (by kernel_rfl)))) (rss_cons (rs_raise (by kernel_rfl) tk F.x_BadValues (gl (by kernel_rfl)) (by kernel_rfl)) rss_nil) rss_nil) (rss_cons (rs_set S.nd (by kernel_rfl) (.inr (by kernel_rfl)) (b_dict (by kernel_rfl) (gl (by kernel_rfl)) F.b_dict (rab_cons (RE.bor (r_var (by kernel_rfl) (.inl (by kernel_rfl)) (by kernel_rfl) (by kernel_rfl))) rab_nil (by kernel_rfl)) (by kernel_rfl) (by kernel_rfl)) (by kernel_rfl) (.inl (by kernel_rfl))) (rss_cons (rs_set S.nd (by kernel_rfl) (.inl (by kernel_rfl)) (b_tuple (gl (by kernel_rfl)) F.b_tuple (rab_cons (RE.bor (r_lcx (by kernel_rfl) (by kernel_rfl) tk (by kernel_rfl) S.nd (rib_src (RE.bor (r_call C.c_fixed_of hr tk (gl (by kernel_rfl)) (ra_cons (r_var (by kernel_rfl) (.inl (by kernel_rfl)) (by kernel_rfl) (by kernel_rfl)) ra_nil (by kernel_rfl)) (by decide) (by kernel_rfl) (by kernel_rfl) (by kernel_rfl)))) (blkOk_by (own := [("part", 5)]) (by kernel_rfl)) (fun _ _ _ _ _ => (rg_name S.nd (by kernel_rfl) (.inl (by kernel_rfl)) (.inr (by kernel_rfl)))) (fun _ _ _ _ _ => rts_nil) (fun _ _ _ _ _ _ _ _ tk => (r_call C.c_word_for hr tk (gl (by kernel_rfl)) (ra_cons (r_var (by kernel_rfl) (.inl (by kernel_rfl)) (by kernel_rfl) (by kernel_rfl)) (ra_cons (r_get hr ⟨(by kernel_rfl), (by kernel_rfl), (by kernel_rfl), (by kernel_rfl)⟩ (RE.bor (r_var (by kernel_rfl) (.inr (.inl (by kernel_rfl))) (by kernel_rfl) (by kernel_rfl))) (x_ix hr (RE.bor (r_var (by kernel_rfl) (.inl (by kernel_rfl)) (by kernel_rfl) (by kernel_rfl))) (RE.bor r_int) (by intro _ _; kernel_rfl))) ra_nil (by kernel_rfl)) (by kernel_rfl)) (by decide) (by kernel_rfl) (by kernel_rfl) (by kernel_rfl))) (by decide) (by kernel_rfl) (by intro _; kernel_rfl))) rab_nil (by kernel_rfl)) (by kernel_rfl) (by kernel_rfl)) (by kernel_rfl) (.inl (by kernel_rfl))) (rss_cons (rs_if (rt_val (RE.bor (r_call C.c_has_rest hr tk (gl (by kernel_rfl)) (ra_cons (r_var (by kernel_rfl) (.inl (by kernel_rfl)) (by kernel_rfl) (by kernel_rfl)) ra_nil (by kernel_rfl)) (by decide) (by kernel_rfl) (by kernel_rfl) (by kernel_rfl))) (by intro _; kernel_rfl)) (rss_cons (rs_set S.nd (by kernel_rfl) (.inl (by kernel_rfl)) (x_ix hr (RE.bor (r_var (by kernel_rfl) (.inr (.inl (by kernel_rfl))) (by kernel_rfl) (by kernel_rfl))) (RE.bor (x_ix hr (RE.bor (x_ix hr (RE.bor (r_var (by kernel_rfl) (.inl (by kernel_rfl)) (by kernel_rfl) (by kernel_rfl))) (RE.bor (x_neg (RE.bor r_int))) (by intro _ _; kernel_rfl))) (RE.bor r_int) (by intro _ _; kernel_rfl))) (by intro _ _; kernel_rfl)) (by kernel_rfl) (.inl (by kernel_rfl))) (rss_cons (rs_if (rt_not (rt_val (RE.bor (r_isT ist_tup (gl (by kernel_rfl)) F.b_isinstance (RE.bor (r_var (by kernel_rfl) (.inl (by kernel_rfl)) (by kernel_rfl) (by kernel_rfl))) (gl (by kernel_rfl)) F.b_tuple (by kernel_rfl) (by decide) (by kernel_rfl) (by kernel_rfl) (by kernel_rfl) (by kernel_rfl))) (by intro _; kernel_rfl))) (rss_cons (rs_raise (by kernel_rfl) tk F.x_BadValues (gl (by kernel_rfl)) (by kernel_rfl)) rss_nil) rss_nil) (rss_cons (rs_set S.nd (by kernel_rfl) (.inl (by kernel_rfl)) (x_add (RE.bor (r_var (by kernel_rfl) (.inl (by kernel_rfl)) (by kernel_rfl) (by kernel_rfl))) (RE.bor (r_var (by kernel_rfl) (.inl (by kernel_rfl)) (by kernel_rfl) (by kernel_rfl)))) (by kernel_rfl) (.inl (by kernel_rfl))) rss_nil))) rss_nil) (rss_cons (rs_if (RW.rt (rw_or (rt_not (rt_val (RE.bor (r_call C.c_is_address hr tk (gl (by kernel_rfl)) (ra_cons (r_var (by kernel_rfl) (.inl (by kernel_rfl)) (by kernel_rfl) (by kernel_rfl)) ra_nil (by kernel_rfl)) (by decide) (by kernel_rfl) (by kernel_rfl) (by kernel_rfl))) (by intro _; kernel_rfl))) (rw_or1 (rt_not (rt_val (RE.bor (r_call C.c_does_match hr tk (gl (by kernel_rfl)) (ra_cons (r_var (by kernel_rfl) (.inl (by kernel_rfl)) (by kernel_rfl) (by kernel_rfl)) (ra_cons (r_var (by kernel_rfl) (.inl (by kernel_rfl)) (by kernel_rfl) (by kernel_rfl)) ra_nil (by kernel_rfl)) (by kernel_rfl)) (by decide) (by kernel_rfl) (by kernel_rfl) (by kernel_rfl))) (by intro _; kernel_rfl)))))) (rss_cons (rs_raise (by kernel_rfl) tk F.x_BadValues (gl (by kernel_rfl)) (by kernel_rfl)) rss_nil) rss_nil) (rss_cons (rs_retV (by kernel_rfl) (.inl (by kernel_rfl)) (by kernel_rfl) (by kernel_rfl)) rss_nil))))))
abbrev s_law_tried : Stmt := top 36
abbrev n_law_tried : List Str := ["_law_pattern_here", "_law_some", "_law_kept", "_law_answer", "e"]
theorem sc_law_tried : FnScope n_law_tried ["_law_pattern_here", "_law_some"] (defScope s_law_tried) := ⟨rfl, rfl, rfl, by decide +kernel, rfl, by decide +kernel, by decide +kernel⟩
structure Cs_law_tried (P : Program) (w : World) (K : PySem.W.Frag) (mg : Str → Option Value) (base : Heap) (ea : Str → Addr) : Prop where
  z : True
  c_law_word : Cal P w K mg base ea 1 "_law_word" m_law_word
  c_built : Cal P w K mg base ea 4 "built" m_built
theorem w_law_tried (F : Fx K mg ea) (C : Cs_law_tried P w K mg base ea) {Z : CXT} {W : WX} {O0 : List Addr} {f : Addr} {cdv : Value} {A : Around} {outer : List Env} {s : Shared} {H : Hp} {E : XK} (hr : Room 4 (cxOf Z P w K mg base n_law_tried "_law_tried" (defScope s_law_tried) f cdv A outer s H E).A) (tk : Takes (cxOf Z P w K mg base n_law_tried "_law_tried" (defScope s_law_tried) f cdv A outer s H E) W) : RSs (cxOf Z P w K mg base n_law_tried "_law_tried" (defScope s_law_tried) f cdv A outer s H E) W ea O0 (defBody s_law_tried) d_law_tried :=
  have S := sc_law_tried
  (rss_cons (rs_set S.nd (by kernel_rfl) (.inl (by kernel_rfl)) r_non (by kernel_rfl) (.inl (by kernel_rfl))) (rss_cons (rs_set S.nd (by kernel_rfl) (.inl (by kernel_rfl)) r_non (by kernel_rfl) (.inl (by kernel_rfl))) (rss_cons (rs_tryK F.hea F.t_RouteError (by kernel_rfl) (by kernel_rfl) (by kernel_rfl) S.nd (by kernel_rfl) (by kernel_rfl) (by kernel_rfl) (.inl (by kernel_rfl)) (.inl (by kernel_rfl)) (.inl (by kernel_rfl)) (by kernel_rfl) (by kernel_rfl) (by decide) (gl (by kernel_rfl)) F.m_RouteError (by kernel_rfl) tk (by kernel_rfl) (fun _ _ _ tk p => (rss_cons (rs_set S.nd (by kernel_rfl) (.inl (by kernel_rfl)) (r_call C.c_built hr tk (gl (by kernel_rfl)) (ra_cons (r_var (by kernel_rfl) (.inl (by kernel_rfl)) (by kernel_rfl) (by kernel_rfl)) (ra_cons (r_var (by kernel_rfl) (.inl (by kernel_rfl)) (by kernel_rfl) (by kernel_rfl)) ra_nil (by kernel_rfl)) (by kernel_rfl)) (by decide) (by kernel_rfl) (by kernel_rfl) (by kernel_rfl)) (by kernel_rfl) (.inl (by kernel_rfl))) rss_nil))) (rss_cons (rs_if (t_is (RE.bor (r_var (by kernel_rfl) (.inl (by kernel_rfl)) (by kernel_rfl) (by kernel_rfl))) (RE.bor r_non)) (rss_cons (rs_retV (by kernel_rfl) (.inl (by kernel_rfl)) (by kernel_rfl) (by kernel_rfl)) rss_nil) rss_nil) (rss_cons (rs_ret (r_call C.c_law_word hr tk (gl (by kernel_rfl)) (ra_cons (r_var (by kernel_rfl) (.inl (by kernel_rfl)) (by kernel_rfl) (by kernel_rfl)) ra_nil (by kernel_rfl)) (by decide) (by kernel_rfl) (by kernel_rfl) (by kernel_rfl))) rss_nil)))))
abbrev s_matched : Stmt := top 22
abbrev n_matched : List Str := ["pattern", "address", "made", "parts", "part", "word"]
theorem sc_matched : FnScope n_matched ["pattern", "address"] (defScope s_matched) := ⟨rfl, rfl, rfl, by decide +kernel, rfl, by decide +kernel, by decide +kernel⟩
structure Cs_matched (P : Program) (w : World) (K : PySem.W.Frag) (mg : Str → Option Value) (base : Heap) (ea : Str → Addr) : Prop where
  z : True
  c_has_rest : Cal P w K mg base ea 1 "has_rest" m_has_rest
  c_fixed_of : Cal P w K mg base ea 2 "fixed_of" m_fixed_of
  c_does_match : Cal P w K mg base ea 3 "does_match" m_does_match
theorem w_matched (F : Fx K mg ea) (C : Cs_matched P w K mg base ea) {Z : CXT} {W : WX} {O0 : List Addr} {f : Addr} {cdv : Value} {A : Around} {outer : List Env} {s : Shared} {H : Hp} {E : XK} (hr : Room 3 (cxOf Z P w K mg base n_matched "matched" (defScope s_matched) f cdv A outer s H E).A) (tk : Takes (cxOf Z P w K mg base n_matched "matched" (defScope s_matched) f cdv A outer s H E) W) : RSs (cxOf Z P w K mg base n_matched "matched" (defScope s_matched) f cdv A outer s H E) W ea O0 (defBody s_matched) d_matched :=
  have S := sc_matched
  (rss_cons (rs_if (rt_not (rt_val (RE.bor (r_call C.c_does_match hr tk (gl (by kernel_rfl)) (ra_cons (r_var (by kernel_rfl) (.inl (by kernel_rfl)) (by kernel_rfl) (by kernel_rfl)) (ra_cons (r_var (by kernel_rfl) (.inl (by kernel_rfl)) (by kernel_rfl) (by kernel_rfl)) ra_nil (by kernel_rfl)) (by kernel_rfl)) (by decide) (by kernel_rfl) (by kernel_rfl) (by kernel_rfl))) (by intro _; kernel_rfl))) (rss_cons (rs_ret r_non) rss_nil) rss_nil) (rss_cons (rs_own S.nd (by kernel_rfl) (.inl (by kernel_rfl)) (rf_lst ra_nil) (by kernel_rfl) (.inl (by kernel_rfl))) (rss_cons (rs_set S.nd (by kernel_rfl) (.inl (by kernel_rfl)) (r_call C.c_fixed_of hr tk (gl (by kernel_rfl)) (ra_cons (r_var (by kernel_rfl) (.inl (by kernel_rfl)) (by kernel_rfl) (by kernel_rfl)) ra_nil (by kernel_rfl)) (by decide) (by kernel_rfl) (by kernel_rfl) (by kernel_rfl)) (by kernel_rfl) (.inl (by kernel_rfl))) (rss_cons (rs_for PassesOwn.leaving (by kernel_rfl) (ri_zip (gl (by kernel_rfl)) F.b_zip (ra_cons (r_var (by kernel_rfl) (.inl (by kernel_rfl)) (by kernel_rfl) (by kernel_rfl)) (ra_cons (r_var (by kernel_rfl) (.inl (by kernel_rfl)) (by kernel_rfl) (by kernel_rfl)) ra_nil (by kernel_rfl)) (by kernel_rfl)) (by kernel_rfl) (by kernel_rfl)) (rg_tup (by kernel_rfl) (rgs_cons (rg_name S.nd (by kernel_rfl) (.inl (by kernel_rfl)) (.inl (by kernel_rfl))) (rgs_cons (rg_name S.nd (by kernel_rfl) (.inl (by kernel_rfl)) (.inl (by kernel_rfl))) rgs_nil (by kernel_rfl)) (by kernel_rfl)) (by kernel_rfl) (by kernel_rfl)) (rss_cons (rs_if (t_eq hr (RE.bor (x_ix hr (RE.bor (r_var (by kernel_rfl) (.inl (by kernel_rfl)) (by kernel_rfl) (by kernel_rfl))) (RE.bor r_int) (by intro _ _; kernel_rfl))) (RE.bor r_str)) (rss_cons (m_app (by kernel_rfl) (.inl (by kernel_rfl)) (ra_cons (r_tup (ra_cons (x_ix hr (RE.bor (r_var (by kernel_rfl) (.inl (by kernel_rfl)) (by kernel_rfl) (by kernel_rfl))) (RE.bor r_int) (by intro _ _; kernel_rfl)) (ra_cons (b_int (gl (by kernel_rfl)) F.b_int (rab_cons (RE.bor (r_var (by kernel_rfl) (.inl (by kernel_rfl)) (by kernel_rfl) (by kernel_rfl))) rab_nil (by kernel_rfl)) (by kernel_rfl) (by kernel_rfl)) ra_nil (by kernel_rfl)) (by kernel_rfl))) ra_nil (by kernel_rfl)) (by kernel_rfl) (by kernel_rfl) (by kernel_rfl) (by kernel_rfl) (by kernel_rfl) (by kernel_rfl) (by kernel_rfl) (by kernel_rfl)) rss_nil) (rss_cons (rs_if (t_ne hr (RE.bor (x_ix hr (RE.bor (r_var (by kernel_rfl) (.inl (by kernel_rfl)) (by kernel_rfl) (by kernel_rfl))) (RE.bor r_int) (by intro _ _; kernel_rfl))) (RE.bor r_str)) (rss_cons (m_app (by kernel_rfl) (.inl (by kernel_rfl)) (ra_cons (r_tup (ra_cons (x_ix hr (RE.bor (r_var (by kernel_rfl) (.inl (by kernel_rfl)) (by kernel_rfl) (by kernel_rfl))) (RE.bor r_int) (by intro _ _; kernel_rfl)) (ra_cons (r_var (by kernel_rfl) (.inl (by kernel_rfl)) (by kernel_rfl) (by kernel_rfl)) ra_nil (by kernel_rfl)) (by kernel_rfl))) ra_nil (by kernel_rfl)) (by kernel_rfl) (by kernel_rfl) (by kernel_rfl) (by kernel_rfl) (by kernel_rfl) (by kernel_rfl) (by kernel_rfl) (by kernel_rfl)) rss_nil) rss_nil) rss_nil)) rss_nil) (by intro _; kernel_rfl)) (rss_cons (rs_if (rt_val (RE.bor (r_call C.c_has_rest hr tk (gl (by kernel_rfl)) (ra_cons (r_var (by kernel_rfl) (.inl (by kernel_rfl)) (by kernel_rfl) (by kernel_rfl)) ra_nil (by kernel_rfl)) (by decide) (by kernel_rfl) (by kernel_rfl) (by kernel_rfl))) (by intro _; kernel_rfl)) (rss_cons (m_app (by kernel_rfl) (.inl (by kernel_rfl)) (ra_cons (r_tup (ra_cons (x_ix hr (RE.bor (x_ix hr (RE.bor (r_var (by kernel_rfl) (.inl (by kernel_rfl)) (by kernel_rfl) (by kernel_rfl))) (RE.bor (x_neg (RE.bor r_int))) (by intro _ _; kernel_rfl))) (RE.bor r_int) (by intro _ _; kernel_rfl)) (ra_cons (r_slice (RE.bor (r_var (by kernel_rfl) (.inl (by kernel_rfl)) (by kernel_rfl) (by kernel_rfl))) (ro_some (RE.bor (b_len (gl (by kernel_rfl)) F.b_len (rab_cons (RE.bor (r_var (by kernel_rfl) (.inl (by kernel_rfl)) (by kernel_rfl) (by kernel_rfl))) rab_nil (by kernel_rfl)) (by kernel_rfl) (by kernel_rfl)))) ro_none) ra_nil (by kernel_rfl)) (by kernel_rfl))) ra_nil (by kernel_rfl)) (by kernel_rfl) (by kernel_rfl) (by kernel_rfl) (by kernel_rfl) (by kernel_rfl) (by kernel_rfl) (by kernel_rfl) (by kernel_rfl)) rss_nil) rss_nil) (rss_cons (rs_retV (by kernel_rfl) (.inl (by kernel_rfl)) (by kernel_rfl) (by kernel_rfl)) rss_nil))))))
abbrev s_law_once : Stmt := top 38
abbrev n_law_once : List Str := ["_law_script", "_law_pattern_here", "_law_address", "_law_some", "_law_other", "_law_told", "_law_pair", "_law_old"]
theorem sc_law_once : FnScope n_law_once ["_law_script"] (defScope s_law_once) := ⟨rfl, rfl, rfl, by decide +kernel, rfl, by decide +kernel, by decide +kernel⟩
structure Cs_law_once (P : Program) (w : World) (K : PySem.W.Frag) (mg : Str → Option Value) (base : Heap) (ea : Str → Addr) : Prop where
  z : True
  c_law_pattern : Cal P w K mg base ea 4 "_law_pattern" m_law_pattern
  c_law_near : Cal P w K mg base ea 4 "_law_near" m_law_near
  c_law_matched : Cal P w K mg base ea 11 "_law_matched" m_law_matched
  c_law_other_values : Cal P w K mg base ea 3 "_law_other_values" m_law_other_values
  c_is_address : Cal P w K mg base ea 2 "is_address" m_is_address
  c_law_tried : Cal P w K mg base ea 5 "_law_tried" m_law_tried
  c_matched : Cal P w K mg base ea 4 "matched" m_matched
theorem w_law_once (F : Fx K mg ea) (C : Cs_law_once P w K mg base ea) {Z : CXT} {W : WX} {O0 : List Addr} {f : Addr} {cdv : Value} {A : Around} {outer : List Env} {s : Shared} {H : Hp} {E : XK} (hr : Room 11 (cxOf Z P w K mg base n_law_once "_law_once" (defScope s_law_once) f cdv A outer s H E).A) (tk : Takes (cxOf Z P w K mg base n_law_once "_law_once" (defScope s_law_once) f cdv A outer s H E) W) : RSs (cxOf Z P w K mg base n_law_once "_law_once" (defScope s_law_once) f cdv A outer s H E) W ea O0 (defBody s_law_once) d_law_once :=
  have S := sc_law_once
  (rss_cons (rs_set S.nd (by kernel_rfl) (.inl (by kernel_rfl)) (r_call C.c_law_pattern hr tk (gl (by kernel_rfl)) (ra_cons (r_var (by kernel_rfl) (.inl (by kernel_rfl)) (by kernel_rfl) (by kernel_rfl)) (ra_cons r_int (ra_cons r_int ra_nil (by kernel_rfl)) (by kernel_rfl)) (by kernel_rfl)) (by decide) (by kernel_rfl) (by kernel_rfl) (by kernel_rfl)) (by kernel_rfl) (.inl (by kernel_rfl))) (rss_cons (rs_set S.nd (by kernel_rfl) (.inl (by kernel_rfl)) (r_call C.c_law_near hr tk (gl (by kernel_rfl)) (ra_cons (r_var (by kernel_rfl) (.inl (by kernel_rfl)) (by kernel_rfl) (by kernel_rfl)) (ra_cons r_int (ra_cons (r_var (by kernel_rfl) (.inl (by kernel_rfl)) (by kernel_rfl) (by kernel_rfl)) ra_nil (by kernel_rfl)) (by kernel_rfl)) (by kernel_rfl)) (by decide) (by kernel_rfl) (by kernel_rfl) (by kernel_rfl)) (by kernel_rfl) (.inl (by kernel_rfl))) (rss_cons (rs_set S.nd (by kernel_rfl) (.inl (by kernel_rfl)) (r_call C.c_law_matched hr tk (gl (by kernel_rfl)) (ra_cons (r_var (by kernel_rfl) (.inl (by kernel_rfl)) (by kernel_rfl) (by kernel_rfl)) (ra_cons (r_var (by kernel_rfl) (.inl (by kernel_rfl)) (by kernel_rfl) (by kernel_rfl)) ra_nil (by kernel_rfl)) (by kernel_rfl)) (by decide) (by kernel_rfl) (by kernel_rfl) (by kernel_rfl)) (by kernel_rfl) (.inl (by kernel_rfl))) (rss_cons (rs_if (t_is (RE.bor (r_var (by kernel_rfl) (.inl (by kernel_rfl)) (by kernel_rfl) (by kernel_rfl))) (RE.bor r_non)) (rss_cons (rs_ret r_bl) rss_nil) rss_nil) (rss_cons (rs_if (RW.rt (rw_or (t_ne hr (RE.bor (r_call C.c_law_tried hr tk (gl (by kernel_rfl)) (ra_cons (r_var (by kernel_rfl) (.inl (by kernel_rfl)) (by kernel_rfl) (by kernel_rfl)) (ra_cons (r_var (by kernel_rfl) (.inl (by kernel_rfl)) (by kernel_rfl) (by kernel_rfl)) ra_nil (by kernel_rfl)) (by kernel_rfl)) (by decide) (by kernel_rfl) (by kernel_rfl) (by kernel_rfl))) (RE.bor (r_var (by kernel_rfl) (.inl (by kernel_rfl)) (by kernel_rfl) (by kernel_rfl)))) (rw_or1 (t_ne hr (RE.bor (r_call C.c_law_tried hr tk (gl (by kernel_rfl)) (ra_cons (r_var (by kernel_rfl) (.inl (by kernel_rfl)) (by kernel_rfl) (by kernel_rfl)) (ra_cons (x_rev (RE.bor (r_var (by kernel_rfl) (.inl (by kernel_rfl)) (by kernel_rfl) (by kernel_rfl)))) ra_nil (by kernel_rfl)) (by kernel_rfl)) (by decide) (by kernel_rfl) (by kernel_rfl) (by kernel_rfl))) (RE.bor (r_var (by kernel_rfl) (.inl (by kernel_rfl)) (by kernel_rfl) (by kernel_rfl))))))) (rss_cons (rs_ret r_bl) rss_nil) rss_nil) (rss_cons (rs_set S.nd (by kernel_rfl) (.inl (by kernel_rfl)) (r_call C.c_law_other_values hr tk (gl (by kernel_rfl)) (ra_cons (r_var (by kernel_rfl) (.inl (by kernel_rfl)) (by kernel_rfl) (by kernel_rfl)) (ra_cons r_int (ra_cons (r_var (by kernel_rfl) (.inl (by kernel_rfl)) (by kernel_rfl) (by kernel_rfl)) ra_nil (by kernel_rfl)) (by kernel_rfl)) (by kernel_rfl)) (by decide) (by kernel_rfl) (by kernel_rfl) (by kernel_rfl)) (by kernel_rfl) (.inl (by kernel_rfl))) (rss_cons (rs_set S.nd (by kernel_rfl) (.inl (by kernel_rfl)) (r_call C.c_law_tried hr tk (gl (by kernel_rfl)) (ra_cons (r_var (by kernel_rfl) (.inl (by kernel_rfl)) (by kernel_rfl) (by kernel_rfl)) (ra_cons (r_var (by kernel_rfl) (.inl (by kernel_rfl)) (by kernel_rfl) (by kernel_rfl)) ra_nil (by kernel_rfl)) (by kernel_rfl)) (by decide) (by kernel_rfl) (by kernel_rfl) (by kernel_rfl)) (by kernel_rfl) (.inl (by kernel_rfl))) (rss_cons (rs_if (t_eq hr (RE.bor (r_var (by kernel_rfl) (.inl (by kernel_rfl)) (by kernel_rfl) (by kernel_rfl))) (RE.bor r_str)) (rss_cons (rs_if (t_ne hr (RE.bor (r_lc (by kernel_rfl) S.nd (rib_src (RE.bor (r_var (by kernel_rfl) (.inl (by kernel_rfl)) (by kernel_rfl) (by kernel_rfl)))) (blkOk_by (own := [("_law_pair", 6)]) (by kernel_rfl)) (fun _ _ _ _ _ => (rg_name S.nd (by kernel_rfl) (.inl (by kernel_rfl)) (.inr (by kernel_rfl)))) (fun _ _ _ _ _ => rts_nil) (fun _ _ _ _ _ => (x_ix hr (RE.bor (r_var (by kernel_rfl) (.inl (by kernel_rfl)) (by kernel_rfl) (by kernel_rfl))) (RE.bor r_int) (by intro _ _; kernel_rfl))) (by decide) (by kernel_rfl) (by intro _; kernel_rfl))) (RE.bor (r_lc (by kernel_rfl) S.nd (rib_src (RE.bor (r_var (by kernel_rfl) (.inl (by kernel_rfl)) (by kernel_rfl) (by kernel_rfl)))) (blkOk_by (own := [("_law_pair", 6)]) (by kernel_rfl)) (fun _ _ _ _ _ => (rg_name S.nd (by kernel_rfl) (.inl (by kernel_rfl)) (.inr (by kernel_rfl)))) (fun _ _ _ _ _ => rts_nil) (fun _ _ _ _ _ => (x_ix hr (RE.bor (r_var (by kernel_rfl) (.inl (by kernel_rfl)) (by kernel_rfl) (by kernel_rfl))) (RE.bor r_int) (by intro _ _; kernel_rfl))) (by decide) (by kernel_rfl) (by intro _; kernel_rfl)))) (rss_cons (rs_ret r_bl) rss_nil) rss_nil) (rss_cons (rs_for PassesOwn.leaving (by kernel_rfl) (ri_zip (gl (by kernel_rfl)) F.b_zip (ra_cons (r_var (by kernel_rfl) (.inl (by kernel_rfl)) (by kernel_rfl) (by kernel_rfl)) (ra_cons (r_var (by kernel_rfl) (.inl (by kernel_rfl)) (by kernel_rfl) (by kernel_rfl)) ra_nil (by kernel_rfl)) (by kernel_rfl)) (by kernel_rfl) (by kernel_rfl)) (rg_tup (by kernel_rfl) (rgs_cons (rg_name S.nd (by kernel_rfl) (.inl (by kernel_rfl)) (.inl (by kernel_rfl))) (rgs_cons (rg_name S.nd (by kernel_rfl) (.inl (by kernel_rfl)) (.inl (by kernel_rfl))) rgs_nil (by kernel_rfl)) (by kernel_rfl)) (by kernel_rfl) (by kernel_rfl)) (rss_cons (rs_if (RW.rt (rw_and (t_ne hr (RE.bor (r_var (by kernel_rfl) (.inl (by kernel_rfl)) (by kernel_rfl) (by kernel_rfl))) (RE.bor (r_var (by kernel_rfl) (.inl (by kernel_rfl)) (by kernel_rfl) (by kernel_rfl)))) (rw_and (rt_val (RE.bor (r_isT ist_int (gl (by kernel_rfl)) F.b_isinstance (RE.bor (x_ix hr (RE.bor (r_var (by kernel_rfl) (.inl (by kernel_rfl)) (by kernel_rfl) (by kernel_rfl))) (RE.bor r_int) (by intro _ _; kernel_rfl))) (gl (by kernel_rfl)) F.b_int (by kernel_rfl) (by decide) (by kernel_rfl) (by kernel_rfl) (by kernel_rfl) (by kernel_rfl))) (by intro _; kernel_rfl)) (rw_and (rt_not (rt_val (RE.bor (r_isT ist_bool (gl (by kernel_rfl)) F.b_isinstance (RE.bor (x_ix hr (RE.bor (r_var (by kernel_rfl) (.inl (by kernel_rfl)) (by kernel_rfl) (by kernel_rfl))) (RE.bor r_int) (by intro _ _; kernel_rfl))) (gl (by kernel_rfl)) F.b_bool (by kernel_rfl) (by decide) (by kernel_rfl) (by kernel_rfl) (by kernel_rfl) (by kernel_rfl))) (by intro _; kernel_rfl))) (rw_and1 (t_lelt (RE.bor r_int) (RE.bor (x_ix hr (RE.bor (r_var (by kernel_rfl) (.inl (by kernel_rfl)) (by kernel_rfl) (by kernel_rfl))) (RE.bor r_int) (by intro _ _; kernel_rfl))) (RE.bor (x_pow (RE.bor r_int) (RE.bor r_int))) (by kernel_rfl))))))) (rss_cons (rs_if (rt_val (RE.bor (r_isT ist_int (gl (by kernel_rfl)) F.b_isinstance (RE.bor (x_ix hr (RE.bor (r_var (by kernel_rfl) (.inl (by kernel_rfl)) (by kernel_rfl) (by kernel_rfl))) (RE.bor r_int) (by intro _ _; kernel_rfl))) (gl (by kernel_rfl)) F.b_int (by kernel_rfl) (by decide) (by kernel_rfl) (by kernel_rfl) (by kernel_rfl) (by kernel_rfl))) (by intro _; kernel_rfl)) (rss_cons (rs_ret r_bl) rss_nil) rss_nil) rss_nil) rss_nil) rss_nil) (by intro _; kernel_rfl)) (rss_cons (rs_ret r_bl) rss_nil))) rss_nil) (rss_cons (rs_if (RW.rt (rw_or (t_isNot (RE.bor (r_call C.c_is_address hr tk (gl (by kernel_rfl)) (ra_cons (r_var (by kernel_rfl) (.inl (by kernel_rfl)) (by kernel_rfl) (by kernel_rfl)) ra_nil (by kernel_rfl)) (by decide) (by kernel_rfl) (by kernel_rfl) (by kernel_rfl))) (RE.bor r_bl)) (rw_or1 (t_ne hr (RE.bor (r_call C.c_matched hr tk (gl (by kernel_rfl)) (ra_cons (r_var (by kernel_rfl) (.inl (by kernel_rfl)) (by kernel_rfl) (by kernel_rfl)) (ra_cons (r_var (by kernel_rfl) (.inl (by kernel_rfl)) (by kernel_rfl) (by kernel_rfl)) ra_nil (by kernel_rfl)) (by kernel_rfl)) (by decide) (by kernel_rfl) (by kernel_rfl) (by kernel_rfl))) (RE.bor (r_var (by kernel_rfl) (.inl (by kernel_rfl)) (by kernel_rfl) (by kernel_rfl))))))) (rss_cons (rs_ret r_bl) rss_nil) rss_nil) (rss_cons (rs_ret (x_eq hr (RE.bor (r_lc (by kernel_rfl) S.nd (rib_src (RE.bor (r_var (by kernel_rfl) (.inl (by kernel_rfl)) (by kernel_rfl) (by kernel_rfl)))) (blkOk_by (own := [("_law_pair", 6)]) (by kernel_rfl)) (fun _ _ _ _ _ => (rg_name S.nd (by kernel_rfl) (.inl (by kernel_rfl)) (.inr (by kernel_rfl)))) (fun _ _ _ _ _ => rts_nil) (fun _ _ _ _ _ => (x_ix hr (RE.bor (r_var (by kernel_rfl) (.inl (by kernel_rfl)) (by kernel_rfl) (by kernel_rfl))) (RE.bor r_int) (by intro _ _; kernel_rfl))) (by decide) (by kernel_rfl) (by intro _; kernel_rfl))) (RE.bor (r_lc (by kernel_rfl) S.nd (rib_src (RE.bor (r_var (by kernel_rfl) (.inl (by kernel_rfl)) (by kernel_rfl) (by kernel_rfl)))) (blkOk_by (own := [("_law_pair", 6)]) (by kernel_rfl)) (fun _ _ _ _ _ => (rg_name S.nd (by kernel_rfl) (.inl (by kernel_rfl)) (.inr (by kernel_rfl)))) (fun _ _ _ _ _ => rts_nil) (fun _ _ _ _ _ => (x_ix hr (RE.bor (r_var (by kernel_rfl) (.inl (by kernel_rfl)) (by kernel_rfl) (by kernel_rfl))) (RE.bor r_int) (by intro _ _; kernel_rfl))) (by decide) (by kernel_rfl) (by intro _; kernel_rfl))))) rss_nil))))))))))
abbrev s_law : Stmt := top 39
abbrev n_law : List Str := ["_law_script", "_law_turn", "_law_cell_here"]
theorem sc_law : FnScope n_law ["_law_script"] (defScope s_law) := ⟨rfl, rfl, rfl, by decide +kernel, rfl, by decide +kernel, by decide +kernel⟩
structure Cs_law (P : Program) (w : World) (K : PySem.W.Frag) (mg : Str → Option Value) (base : Heap) (ea : Str → Addr) : Prop where
  z : True
  c_law_once : Cal P w K mg base ea 12 "_law_once" m_law_once
theorem w_law (F : Fx K mg ea) (C : Cs_law P w K mg base ea) {Z : CXT} {W : WX} {O0 : List Addr} {f : Addr} {cdv : Value} {A : Around} {outer : List Env} {s : Shared} {H : Hp} {E : XK} (hr : Room 12 (cxOf Z P w K mg base n_law "law" (defScope s_law) f cdv A outer s H E).A) (tk : Takes (cxOf Z P w K mg base n_law "law" (defScope s_law) f cdv A outer s H E) W) : RSs (cxOf Z P w K mg base n_law "law" (defScope s_law) f cdv A outer s H E) W ea O0 (defBody s_law) d_law :=
  have S := sc_law
  (rss_cons (rs_for PassesOwn.leaving (by kernel_rfl) (ri_rng1 (gl (by kernel_rfl)) F.b_range (rab_cons (RE.bor r_int) rab_nil (by kernel_rfl)) (by kernel_rfl)) (rg_name S.nd (by kernel_rfl) (.inr (by kernel_rfl)) (.inl (by kernel_rfl))) (rss_cons (rs_if (rt_not (rt_val (RE.bor (r_call C.c_law_once hr tk (gl (by kernel_rfl)) (ra_cons (r_lc (by kernel_rfl) S.nd (rib_src (RE.bor (r_var (by kernel_rfl) (.inl (by kernel_rfl)) (by kernel_rfl) (by kernel_rfl)))) (blkOk_by (own := [("_law_cell_here", 2)]) (by kernel_rfl)) (fun _ _ _ _ _ => (rg_name S.nd (by kernel_rfl) (.inl (by kernel_rfl)) (.inr (by kernel_rfl)))) (fun _ _ _ _ _ => rts_nil) (fun _ _ _ _ _ => (x_add (RE.bor (r_var (by kernel_rfl) (.inl (by kernel_rfl)) (by kernel_rfl) (by kernel_rfl))) (RE.bor (x_mul (RE.bor r_int) (RE.bor (r_var (by kernel_rfl) (.inr (.inl (by kernel_rfl))) (by kernel_rfl) (by kernel_rfl))))))) (by decide) (by kernel_rfl) (by intro _; kernel_rfl)) ra_nil (by kernel_rfl)) (by decide) (by kernel_rfl) (by kernel_rfl) (by kernel_rfl))) (by intro _; kernel_rfl))) (rss_cons (rs_ret r_bl) rss_nil) rss_nil) (rss_cons (rs_if (t_eq hr (RE.bor (r_var (by kernel_rfl) (.inl (by kernel_rfl)) (by kernel_rfl) (by kernel_rfl))) (RE.bor (r_lst ra_nil))) (rss_cons rs_brk rss_nil) rss_nil) rss_nil)) (by intro _; kernel_rfl)) (rss_cons (rs_ret r_bl) rss_nil))
end
end L2.RB.P.K03
set_option maxHeartbeats 400000
namespace L2.RB.P.K03
open PySem PySem.Spec PyProof.Rows
def t_law_cell : He.DefD := ⟨("_law_cell", none), "_law_cell", "_law_cell", defArgs s_law_cell, defBody s_law_cell, defScope s_law_cell, [], []⟩
def t_law_pick : He.DefD := ⟨("_law_pick", none), "_law_pick", "_law_pick", defArgs s_law_pick, defBody s_law_pick, defScope s_law_pick, [], []⟩
def t_law_part : He.DefD := ⟨("_law_part", none), "_law_part", "_law_part", defArgs s_law_part, defBody s_law_part, defScope s_law_part, [], []⟩
def t_law_pattern : He.DefD := ⟨("_law_pattern", none), "_law_pattern", "_law_pattern", defArgs s_law_pattern, defBody s_law_pattern, defScope s_law_pattern, [], []⟩
def t_law_any_word : He.DefD := ⟨("_law_any_word", none), "_law_any_word", "_law_any_word", defArgs s_law_any_word, defBody s_law_any_word, defScope s_law_any_word, [], []⟩
def t_law_near : He.DefD := ⟨("_law_near", none), "_law_near", "_law_near", defArgs s_law_near, defBody s_law_near, defScope s_law_near, [], []⟩
def t_law_is_number : He.DefD := ⟨("_law_is_number", none), "_law_is_number", "_law_is_number", defArgs s_law_is_number, defBody s_law_is_number, defScope s_law_is_number, [], []⟩
def t_law_matched : He.DefD := ⟨("_law_matched", none), "_law_matched", "_law_matched", defArgs s_law_matched, defBody s_law_matched, defScope s_law_matched, [], []⟩
def t_law_other_values : He.DefD := ⟨("_law_other_values", none), "_law_other_values", "_law_other_values", defArgs s_law_other_values, defBody s_law_other_values, defScope s_law_other_values, [], []⟩
def t_law_word : He.DefD := ⟨("_law_word", none), "_law_word", "_law_word", defArgs s_law_word, defBody s_law_word, defScope s_law_word, [], []⟩
def t_has_rest : He.DefD := ⟨("has_rest", none), "has_rest", "has_rest", defArgs s_has_rest, defBody s_has_rest, defScope s_has_rest, [], []⟩
def t_holes_of : He.DefD := ⟨("holes_of", none), "holes_of", "holes_of", defArgs s_holes_of, defBody s_holes_of, defScope s_holes_of, [], []⟩
def t_word_for : He.DefD := ⟨("word_for", none), "word_for", "word_for", defArgs s_word_for, defBody s_word_for, defScope s_word_for, [], []⟩
def t_is_word : He.DefD := ⟨("is_word", none), "is_word", "is_word", defArgs s_is_word, defBody s_is_word, defScope s_is_word, [], []⟩
def t_is_address : He.DefD := ⟨("is_address", none), "is_address", "is_address", defArgs s_is_address, defBody s_is_address, defScope s_is_address, [], []⟩
def t_fixed_of : He.DefD := ⟨("fixed_of", none), "fixed_of", "fixed_of", defArgs s_fixed_of, defBody s_fixed_of, defScope s_fixed_of, [], []⟩
def t_is_number : He.DefD := ⟨("is_number", none), "is_number", "is_number", defArgs s_is_number, defBody s_is_number, defScope s_is_number, [], []⟩
def t_lets : He.DefD := ⟨("lets", none), "lets", "lets", defArgs s_lets, defBody s_lets, defScope s_lets, [], []⟩
def t_does_match : He.DefD := ⟨("does_match", none), "does_match", "does_match", defArgs s_does_match, defBody s_does_match, defScope s_does_match, [], []⟩
def t_built : He.DefD := ⟨("built", none), "built", "built", defArgs s_built, defBody s_built, defScope s_built, [], []⟩
def t_law_tried : He.DefD := ⟨("_law_tried", none), "_law_tried", "_law_tried", defArgs s_law_tried, defBody s_law_tried, defScope s_law_tried, [], []⟩
def t_matched : He.DefD := ⟨("matched", none), "matched", "matched", defArgs s_matched, defBody s_matched, defScope s_matched, [], []⟩
def t_law_once : He.DefD := ⟨("_law_once", none), "_law_once", "_law_once", defArgs s_law_once, defBody s_law_once, defScope s_law_once, [], []⟩
def t_law : He.DefD := ⟨("law", none), "law", "law", defArgs s_law, defBody s_law, defScope s_law, [], []⟩
def fn : List He.DefD := [t_law_cell, t_law_pick, t_law_part, t_law_pattern, t_law_any_word, t_law_near, t_law_is_number, t_law_matched, t_law_other_values, t_law_word, t_has_rest, t_holes_of, t_word_for, t_is_word, t_is_address, t_fixed_of, t_is_number, t_lets, t_does_match, t_built, t_law_tried, t_matched, t_law_once, t_law]
def fx : List RB.Fx := [.eis "BadLead", .eis "BadValues", .eis "NoRow", .eis "NoText", .eis "Taken", .eis "TooMany", .kit ["BadLead", "BadValues", "NoRow", "NoText", "Taken", "TooMany"] "BadLead", .kit ["BadLead", "BadValues", "NoRow", "NoText", "Taken", "TooMany"] "BadValues", .kit ["BadLead", "BadValues", "NoRow", "NoText", "Taken", "TooMany"] "NoRow", .kit ["BadLead", "BadValues", "NoRow", "NoText", "Taken", "TooMany"] "NoText", .kit ["BadLead", "BadValues", "NoRow", "NoText", "Taken", "TooMany"] "Taken", .kit ["BadLead", "BadValues", "NoRow", "NoText", "Taken", "TooMany"] "TooMany", .kitV ["BadLead", "BadValues", "NoRow", "NoText", "Taken", "TooMany"], .exm ["BadLead", "BadValues", "NoRow", "NoText", "Taken", "TooMany"] "RouteError"]
def ts : List He.Tab := []
def csL : List Str := ["BadLead", "BadValues", "NoRow", "NoText", "Taken", "TooMany"]
def fa : List He.Fa := [.glo "_law_cell", .glo "_law_pick", .glo "_law_part", .glo "_law_pattern", .glo "_law_any_word", .glo "_law_near", .glo "_law_is_number", .glo "_law_matched", .glo "_law_other_values", .glo "_law_word", .glo "has_rest", .glo "holes_of", .glo "word_for", .glo "is_word", .glo "is_address", .glo "fixed_of", .glo "is_number", .glo "lets", .glo "does_match", .glo "built", .glo "_law_tried", .glo "matched", .glo "_law_once", .glo "law", .free "ValueError", .free "all", .free "bool", .free "dict", .free "enumerate", .free "int", .free "isinstance", .free "len", .free "range", .free "set", .free "sorted", .free "str", .free "tuple", .free "zip", .str "FIGURES" "0123456789", .str "SIGNS" "abcdefghijklmnopqrstuvwxyz0123456789-", .int "LONGEST" 8, .int "MOST_WORDS" 8, .glo "BadLead", .glo "BadValues", .glo "NoRow", .glo "NoText", .glo "RouteError", .glo "Taken", .glo "TooMany", .exc "BadValues"]
abbrev R : PySem.W.OpenRow := PySem.W.OpenLaw.row PySem.Challenge.rw_routeboard_k03_whole_built
abbrev hk : PySem.W.Hook := hookR 4 fa fn ts fx
def ob (s : PySem.W.SharedT) : AlR := obsRG 4 fa fn ts fx (HandSHeadRun.getT s)
theorem ob_eq (s : PySem.W.SharedT) : ob s = hk.obs s.abs := obsRG_eq (HandSHeadRun.getT_eq s)
def loose : List Str := (["RouteError", "BadValues", "NoRow", "Taken", "TooMany", "BadLead", "NoText", "FIGURES", "SIGNS", "LONGEST", "MOST_WORDS", "is_word", "is_address", "holes_of", "has_rest", "fixed_of"] : List Str) ++ (["is_number", "lets", "does_match", "matched", "word_for", "built", "_law_cell", "_law_pick", "_law_part", "_law_pattern", "_law_table", "_law_any_word", "_law_near", "_law_is_number", "_law_matched", "_law_word"] : List Str) ++ (["_law_tried", "_law_other_values", "_law_once"] : List Str)
theorem run (w : World) : HandSHeadRun.RunEq R (PySem.W.view R.prog [39]) hk ob 4000 loose w := by
  intro os
  kernel_rfl
section
variable {P : Program} {w : World} {K : PySem.W.Frag} {h : Heap} {mg : Str → Option Value} {f : Addr} {ea : Str → Addr}
theorem fx_of (X : K.In h) (G : h.Ns mainGlobals mg) (c : SaysR fa fn ts fx w K) : Fx K mg (He.ga K) := by
  have he : ∀ k : Str, k ∈ csL → (RB.Fx.eis k).ok K = true := by
    intro k mk
    unfold csL at mk
    simp only [List.mem_cons, List.not_mem_nil, or_false] at mk
    rcases mk with rfl | rfl | rfl | rfl | rfl | rfl
    · exact c.x 0 (f := .eis "BadLead") rfl
    · exact c.x 1 (f := .eis "BadValues") rfl
    · exact c.x 2 (f := .eis "NoRow") rfl
    · exact c.x 3 (f := .eis "NoText") rfl
    · exact c.x 4 (f := .eis "Taken") rfl
    · exact c.x 5 (f := .eis "TooMany") rfl
  exact ⟨rfl, excC_of X G (c.d.fact 43 (f := .glo "BadValues") rfl) (c.d.fact 49 (f := .exc "BadValues") rfl), He.glo_ok X G (c.d.fact 42 (f := .glo "BadLead") rfl), He.glo_ok X G (c.d.fact 43 (f := .glo "BadValues") rfl), He.glo_ok X G (c.d.fact 44 (f := .glo "NoRow") rfl), He.glo_ok X G (c.d.fact 45 (f := .glo "NoText") rfl), He.glo_ok X G (c.d.fact 46 (f := .glo "RouteError") rfl), He.glo_ok X G (c.d.fact 47 (f := .glo "Taken") rfl), He.glo_ok X G (c.d.fact 48 (f := .glo "TooMany") rfl), isE_of he (c.x 6 (f := .kit ["BadLead", "BadValues", "NoRow", "NoText", "Taken", "TooMany"] "BadLead") rfl), isE_of he (c.x 7 (f := .kit ["BadLead", "BadValues", "NoRow", "NoText", "Taken", "TooMany"] "BadValues") rfl), isE_of he (c.x 8 (f := .kit ["BadLead", "BadValues", "NoRow", "NoText", "Taken", "TooMany"] "NoRow") rfl), isE_of he (c.x 9 (f := .kit ["BadLead", "BadValues", "NoRow", "NoText", "Taken", "TooMany"] "NoText") rfl), isE_of he (c.x 10 (f := .kit ["BadLead", "BadValues", "NoRow", "NoText", "Taken", "TooMany"] "Taken") rfl), isE_of he (c.x 11 (f := .kit ["BadLead", "BadValues", "NoRow", "NoText", "Taken", "TooMany"] "TooMany") rfl), isV_of he (c.x 12 (f := .kitV ["BadLead", "BadValues", "NoRow", "NoText", "Taken", "TooMany"]) rfl), exmS_of (c.x 13 (f := .exm ["BadLead", "BadValues", "NoRow", "NoText", "Taken", "TooMany"] "RouteError") rfl), He.free_ok X G (c.d.fact 24 (f := .free "ValueError") rfl), He.free_ok X G (c.d.fact 25 (f := .free "all") rfl), He.free_ok X G (c.d.fact 26 (f := .free "bool") rfl), He.free_ok X G (c.d.fact 27 (f := .free "dict") rfl), He.free_ok X G (c.d.fact 28 (f := .free "enumerate") rfl), He.free_ok X G (c.d.fact 29 (f := .free "int") rfl), He.free_ok X G (c.d.fact 30 (f := .free "isinstance") rfl), He.free_ok X G (c.d.fact 31 (f := .free "len") rfl), He.free_ok X G (c.d.fact 32 (f := .free "range") rfl), He.free_ok X G (c.d.fact 33 (f := .free "set") rfl), He.free_ok X G (c.d.fact 34 (f := .free "sorted") rfl), He.free_ok X G (c.d.fact 35 (f := .free "str") rfl), He.free_ok X G (c.d.fact 36 (f := .free "tuple") rfl), He.free_ok X G (c.d.fact 37 (f := .free "zip") rfl), He.str_ok X G (c.d.fact 38 (f := .str "FIGURES" "0123456789") rfl), He.str_ok X G (c.d.fact 39 (f := .str "SIGNS" "abcdefghijklmnopqrstuvwxyz0123456789-") rfl), He.int_ok X G (c.d.fact 40 (f := .int "LONGEST" 8) rfl), He.int_ok X G (c.d.fact 41 (f := .int "MOST_WORDS" 8) rfl)⟩
theorem facts (hlaw : ∀ ns : List Int, ns.length ≤ 63 → m_law [.scr ns] = .ok (.bl true)) (X : K.In h) (G : h.Ns mainGlobals mg) (hfa : mg ("law" : Str) = some (.ref f)) (c : SaysR fa fn ts fx w K) : ∃ fd : FuncData, (∀ (s : Shared) (v : Value), BindsTo s fd ⟨[v], []⟩ [("_law_script", v)]) ∧ ∀ base : Heap, K.In base → base.Ns mainGlobals mg → FnOk P w K mg base CX0 13 f fd ["_law_script"] (spLaw K) := by
  have FX := fx_of X G c
  obtain ⟨fd_law_cell, F_law_cell⟩ := c.d.def_ 0 (d := t_law_cell) rfl
  obtain ⟨fd_law_pick, F_law_pick⟩ := c.d.def_ 1 (d := t_law_pick) rfl
  obtain ⟨fd_law_part, F_law_part⟩ := c.d.def_ 2 (d := t_law_part) rfl
  obtain ⟨fd_law_pattern, F_law_pattern⟩ := c.d.def_ 3 (d := t_law_pattern) rfl
  obtain ⟨fd_law_any_word, F_law_any_word⟩ := c.d.def_ 4 (d := t_law_any_word) rfl
  obtain ⟨fd_law_near, F_law_near⟩ := c.d.def_ 5 (d := t_law_near) rfl
  obtain ⟨fd_law_is_number, F_law_is_number⟩ := c.d.def_ 6 (d := t_law_is_number) rfl
  obtain ⟨fd_law_matched, F_law_matched⟩ := c.d.def_ 7 (d := t_law_matched) rfl
  obtain ⟨fd_law_other_values, F_law_other_values⟩ := c.d.def_ 8 (d := t_law_other_values) rfl
  obtain ⟨fd_law_word, F_law_word⟩ := c.d.def_ 9 (d := t_law_word) rfl
  obtain ⟨fd_has_rest, F_has_rest⟩ := c.d.def_ 10 (d := t_has_rest) rfl
  obtain ⟨fd_holes_of, F_holes_of⟩ := c.d.def_ 11 (d := t_holes_of) rfl
  obtain ⟨fd_word_for, F_word_for⟩ := c.d.def_ 12 (d := t_word_for) rfl
  obtain ⟨fd_is_word, F_is_word⟩ := c.d.def_ 13 (d := t_is_word) rfl
  obtain ⟨fd_is_address, F_is_address⟩ := c.d.def_ 14 (d := t_is_address) rfl
  obtain ⟨fd_fixed_of, F_fixed_of⟩ := c.d.def_ 15 (d := t_fixed_of) rfl
  obtain ⟨fd_is_number, F_is_number⟩ := c.d.def_ 16 (d := t_is_number) rfl
  obtain ⟨fd_lets, F_lets⟩ := c.d.def_ 17 (d := t_lets) rfl
  obtain ⟨fd_does_match, F_does_match⟩ := c.d.def_ 18 (d := t_does_match) rfl
  obtain ⟨fd_built, F_built⟩ := c.d.def_ 19 (d := t_built) rfl
  obtain ⟨fd_law_tried, F_law_tried⟩ := c.d.def_ 20 (d := t_law_tried) rfl
  obtain ⟨fd_matched, F_matched⟩ := c.d.def_ 21 (d := t_matched) rfl
  obtain ⟨fd_law_once, F_law_once⟩ := c.d.def_ 22 (d := t_law_once) rfl
  obtain ⟨fd_law, F_law⟩ := c.d.def_ 23 (d := t_law) rfl
  have e := hfa.symm.trans (He.glo_ok X G (c.d.fact 23 (f := .glo "law") rfl))
  cases e
  have b := FunD.bindsA (ps := ["_law_script"]) F_law fun _ _ _ _ _ _ us hl => match us, hl with | [_], _ => rfl
  refine ⟨fd_law, fun s v => b s [v] rfl, fun base _ _ => ?_⟩
  let ea : Str → Addr := He.ga K
  have C_law_cell : Cal P w K mg base ea 1 "_law_cell" m_law_cell := cal_of F_law_cell sc_law_cell (by decide) (He.glo_ok X G (c.d.fact 0 (f := .glo "_law_cell") rfl)) (fun _ _ _ _ _ _ us hl => match us, hl with | [_, _], _ => rfl) fun O0 cdv A outer s H E hr tk => w_law_cell FX ⟨trivial⟩ hr tk
  have C_law_pick : Cal P w K mg base ea 2 "_law_pick" m_law_pick := cal_of F_law_pick sc_law_pick (by decide) (He.glo_ok X G (c.d.fact 1 (f := .glo "_law_pick") rfl)) (fun _ _ _ _ _ _ us hl => match us, hl with | [_, _, _], _ => rfl) fun O0 cdv A outer s H E hr tk => w_law_pick FX ⟨trivial, C_law_cell⟩ hr tk
  have C_law_part : Cal P w K mg base ea 3 "_law_part" m_law_part := cal_of F_law_part sc_law_part (by decide) (He.glo_ok X G (c.d.fact 2 (f := .glo "_law_part") rfl)) (fun _ _ _ _ _ _ us hl => match us, hl with | [_, _, _], _ => rfl) fun O0 cdv A outer s H E hr tk => w_law_part FX ⟨trivial, C_law_pick⟩ hr tk
  have C_law_pattern : Cal P w K mg base ea 4 "_law_pattern" m_law_pattern := cal_of F_law_pattern sc_law_pattern (by decide) (He.glo_ok X G (c.d.fact 3 (f := .glo "_law_pattern") rfl)) (fun _ _ _ _ _ _ us hl => match us, hl with | [_, _, _], _ => rfl) fun O0 cdv A outer s H E hr tk => w_law_pattern FX ⟨trivial, C_law_pick, C_law_part⟩ hr tk
  have C_law_any_word : Cal P w K mg base ea 3 "_law_any_word" m_law_any_word := cal_of F_law_any_word sc_law_any_word (by decide) (He.glo_ok X G (c.d.fact 4 (f := .glo "_law_any_word") rfl)) (fun _ _ _ _ _ _ us hl => match us, hl with | [_, _], _ => rfl) fun O0 cdv A outer s H E hr tk => w_law_any_word FX ⟨trivial, C_law_pick⟩ hr tk
  have C_law_near : Cal P w K mg base ea 4 "_law_near" m_law_near := cal_of F_law_near sc_law_near (by decide) (He.glo_ok X G (c.d.fact 5 (f := .glo "_law_near") rfl)) (fun _ _ _ _ _ _ us hl => match us, hl with | [_, _, _], _ => rfl) fun O0 cdv A outer s H E hr tk => w_law_near FX ⟨trivial, C_law_pick, C_law_any_word⟩ hr tk
  have C_law_is_number : Cal P w K mg base ea 1 "_law_is_number" m_law_is_number := cal_of F_law_is_number sc_law_is_number (by decide) (He.glo_ok X G (c.d.fact 6 (f := .glo "_law_is_number") rfl)) (fun _ _ _ _ _ _ us hl => match us, hl with | [_], _ => rfl) fun O0 cdv A outer s H E hr tk => w_law_is_number FX ⟨trivial⟩ hr tk
  have C_law_matched : Cal P w K mg base ea 11 "_law_matched" m_law_matched := by
    have all : ∀ j : Nat, Cal P w K mg base ea (1 + j) "_law_matched" (m_law_matched_ j) := fun j => by
      induction j with
      | zero => exact cal_stuck (He.glo_ok X G (c.d.fact 7 (f := .glo "_law_matched") rfl)) F_law_matched.kp (FunD.bindsN (ps := ["_law_pattern_here", "_law_address"]) F_law_matched (fun _ _ _ _ _ _ us hl => match us, hl with | [_, _], _ => rfl)) _
      | succ j ih => exact cal_of F_law_matched sc_law_matched (by decide) (He.glo_ok X G (c.d.fact 7 (f := .glo "_law_matched") rfl)) (fun _ _ _ _ _ _ us hl => match us, hl with | [_, _], _ => rfl) fun O0 cdv A outer s H E hr tk => w_law_matched FX ⟨trivial, C_law_is_number⟩ (Nat.le_add_right _ _) ih hr tk
    exact all 10
  have C_law_other_values : Cal P w K mg base ea 3 "_law_other_values" m_law_other_values := cal_of F_law_other_values sc_law_other_values (by decide) (He.glo_ok X G (c.d.fact 8 (f := .glo "_law_other_values") rfl)) (fun _ _ _ _ _ _ us hl => match us, hl with | [_, _, _], _ => rfl) fun O0 cdv A outer s H E hr tk => w_law_other_values FX ⟨trivial, C_law_pick⟩ hr tk
  have C_law_word : Cal P w K mg base ea 1 "_law_word" m_law_word := cal_of F_law_word sc_law_word (by decide) (He.glo_ok X G (c.d.fact 9 (f := .glo "_law_word") rfl)) (fun _ _ _ _ _ _ us hl => match us, hl with | [_], _ => rfl) fun O0 cdv A outer s H E hr tk => w_law_word FX ⟨trivial⟩ hr tk
  have C_has_rest : Cal P w K mg base ea 1 "has_rest" m_has_rest := cal_of F_has_rest sc_has_rest (by decide) (He.glo_ok X G (c.d.fact 10 (f := .glo "has_rest") rfl)) (fun _ _ _ _ _ _ us hl => match us, hl with | [_], _ => rfl) fun O0 cdv A outer s H E hr tk => w_has_rest FX ⟨trivial⟩ hr tk
  have C_holes_of : Cal P w K mg base ea 1 "holes_of" m_holes_of := cal_of F_holes_of sc_holes_of (by decide) (He.glo_ok X G (c.d.fact 11 (f := .glo "holes_of") rfl)) (fun _ _ _ _ _ _ us hl => match us, hl with | [_], _ => rfl) fun O0 cdv A outer s H E hr tk => w_holes_of FX ⟨trivial⟩ hr tk
  have C_word_for : Cal P w K mg base ea 1 "word_for" m_word_for := cal_of F_word_for sc_word_for (by decide) (He.glo_ok X G (c.d.fact 12 (f := .glo "word_for") rfl)) (fun _ _ _ _ _ _ us hl => match us, hl with | [_, _], _ => rfl) fun O0 cdv A outer s H E hr tk => w_word_for FX ⟨trivial⟩ hr tk
  have C_is_word : Cal P w K mg base ea 1 "is_word" m_is_word := cal_of F_is_word sc_is_word (by decide) (He.glo_ok X G (c.d.fact 13 (f := .glo "is_word") rfl)) (fun _ _ _ _ _ _ us hl => match us, hl with | [_], _ => rfl) fun O0 cdv A outer s H E hr tk => w_is_word FX ⟨trivial⟩ hr tk
  have C_is_address : Cal P w K mg base ea 2 "is_address" m_is_address := cal_of F_is_address sc_is_address (by decide) (He.glo_ok X G (c.d.fact 14 (f := .glo "is_address") rfl)) (fun _ _ _ _ _ _ us hl => match us, hl with | [_], _ => rfl) fun O0 cdv A outer s H E hr tk => w_is_address FX ⟨trivial, C_is_word⟩ hr tk
  have C_fixed_of : Cal P w K mg base ea 2 "fixed_of" m_fixed_of := cal_of F_fixed_of sc_fixed_of (by decide) (He.glo_ok X G (c.d.fact 15 (f := .glo "fixed_of") rfl)) (fun _ _ _ _ _ _ us hl => match us, hl with | [_], _ => rfl) fun O0 cdv A outer s H E hr tk => w_fixed_of FX ⟨trivial, C_has_rest⟩ hr tk
  have C_is_number : Cal P w K mg base ea 1 "is_number" m_is_number := cal_of F_is_number sc_is_number (by decide) (He.glo_ok X G (c.d.fact 16 (f := .glo "is_number") rfl)) (fun _ _ _ _ _ _ us hl => match us, hl with | [_], _ => rfl) fun O0 cdv A outer s H E hr tk => w_is_number FX ⟨trivial⟩ hr tk
  have C_lets : Cal P w K mg base ea 2 "lets" m_lets := cal_of F_lets sc_lets (by decide) (He.glo_ok X G (c.d.fact 17 (f := .glo "lets") rfl)) (fun _ _ _ _ _ _ us hl => match us, hl with | [_, _], _ => rfl) fun O0 cdv A outer s H E hr tk => w_lets FX ⟨trivial, C_is_number⟩ hr tk
  have C_does_match : Cal P w K mg base ea 3 "does_match" m_does_match := cal_of F_does_match sc_does_match (by decide) (He.glo_ok X G (c.d.fact 18 (f := .glo "does_match") rfl)) (fun _ _ _ _ _ _ us hl => match us, hl with | [_, _], _ => rfl) fun O0 cdv A outer s H E hr tk => w_does_match FX ⟨trivial, C_has_rest, C_fixed_of, C_lets⟩ hr tk
  have C_built : Cal P w K mg base ea 4 "built" m_built := cal_of F_built sc_built (by decide) (He.glo_ok X G (c.d.fact 19 (f := .glo "built") rfl)) (fun _ _ _ _ _ _ us hl => match us, hl with | [_, _], _ => rfl) fun O0 cdv A outer s H E hr tk => w_built FX ⟨trivial, C_has_rest, C_holes_of, C_word_for, C_is_address, C_fixed_of, C_does_match⟩ hr tk
  have C_law_tried : Cal P w K mg base ea 5 "_law_tried" m_law_tried := cal_of F_law_tried sc_law_tried (by decide) (He.glo_ok X G (c.d.fact 20 (f := .glo "_law_tried") rfl)) (fun _ _ _ _ _ _ us hl => match us, hl with | [_, _], _ => rfl) fun O0 cdv A outer s H E hr tk => w_law_tried FX ⟨trivial, C_law_word, C_built⟩ hr tk
  have C_matched : Cal P w K mg base ea 4 "matched" m_matched := cal_of F_matched sc_matched (by decide) (He.glo_ok X G (c.d.fact 21 (f := .glo "matched") rfl)) (fun _ _ _ _ _ _ us hl => match us, hl with | [_, _], _ => rfl) fun O0 cdv A outer s H E hr tk => w_matched FX ⟨trivial, C_has_rest, C_fixed_of, C_does_match⟩ hr tk
  have C_law_once : Cal P w K mg base ea 12 "_law_once" m_law_once := cal_of F_law_once sc_law_once (by decide) (He.glo_ok X G (c.d.fact 22 (f := .glo "_law_once") rfl)) (fun _ _ _ _ _ _ us hl => match us, hl with | [_], _ => rfl) fun O0 cdv A outer s H E hr tk => w_law_once FX ⟨trivial, C_law_pattern, C_law_near, C_law_matched, C_law_other_values, C_is_address, C_law_tried, C_matched⟩ hr tk
  exact fn_ok0 (ea := ea) (b := d_law) F_law sc_law (by decide) (fun cdv A outer s H E hr => w_law FX ⟨trivial, C_law_once⟩ hr takes0) hlaw
end
end L2.RB.P.K03
set_option maxHeartbeats 400000
open PySem PySem.W PySem.Calls PyProof.Rows
set_option maxHeartbeats 0 in
theorem PySem.Challenge.cw_routeboard_k03_whole_built_holds : PySem.Challenge.rw_routeboard_k03_whole_built.Holds := by
  w_on; o_law
  refine HandSHeadRun.head_any (r := OpenLaw.row PySem.Challenge.rw_routeboard_k03_whole_built) (q := view (OpenLaw.row PySem.Challenge.rw_routeboard_k03_whole_built).prog [39]) (H := L2.RB.P.K03.hk) (ob := L2.RB.P.K03.ob) (M := 4000) (loose := L2.RB.P.K03.loose) (d := HandSHeadRun.topDef (OpenLaw.row PySem.Challenge.rw_routeboard_k03_whole_built).prog 39) (kwd := []) L2.RB.P.K03.ob_eq
    (by kernel_rfl) (fun s => by kernel_rfl) L2.RB.P.K03.run (by kernel_rfl) (by kernel_rfl) (by kernel_rfl) (by rfl) (by first | assumption | decide +kernel) (by decide +kernel) ⟨rfl, rfl, rfl, rfl, rfl, by decide +kernel⟩ ?hw ?hc
  case hw => w_witness2
  case hc =>
    refine L2.walk_ofE (l := PySem.Challenge.rw_routeboard_k03_whole_built) (n := 63) (k := 13) (x := "_law_script") (CX := L2.CX0) rfl (by decide) (by kernel_rfl) ⟨rfl, by decide, by decide⟩ ?F (fun _ _ _ _ z => z)
    intro w mg fa h Y G hmg0
    obtain ⟨K, KX, c⟩ := Y
    have hmg : mg ("law" : PySem.Str) = some (.ref fa) := by
      have e : (HandSHeadRun.topDef (OpenLaw.row PySem.Challenge.rw_routeboard_k03_whole_built).prog 39).name = ("law" : PySem.Str) := by kernel_rfl
      rw [← e]
      exact hmg0
    obtain ⟨fd, hb, hF⟩ := L2.RB.P.K03.facts (P := (PySem.Challenge.rw_routeboard_k03_whole_built).prog) (w := w) L2.RB.P.K03.law_true KX G hmg c
    exact ⟨K, fd, L2.RB.spLaw K, KX, hb, fun H a ns hl _ hS => ⟨a, ns, rfl, hS, hl, fun _ => rfl⟩, hF⟩
