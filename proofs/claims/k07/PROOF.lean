import PyProof.Rows.All
import HandS.ForMost
import HandS.ForExc
import HandS.Wide
import HandS.Walk
import HandS.Zip
import HandS.SetFor
import HandS.Strs
import HandS.SortInts
import HandS.TupMul
import HandS.Style
import HandS.Deep
import HandS.TupAny
import HandS.TupLe
import HandS.IsInst
import HandS.Conv
import HandS.RaiseMore
import KE.GoesEnum
import KE.GoesMore
import HandS.Iter
import HandS.NoneIn
import HandS.Small
import HandS.Words
import HandS.WordsExc
import HandS.ExcOwn
import HandS.Defaults
import HandS.HeadHook1
import HandS.HeadHook2
import HandS.HeadEnd
import HandS.EndBits
import HandS.Head0
import HandS.Head1
import HandS.Head2
import PyProof.ReprLen
import Wide.All
import OpenK.AllK
import Wide.FinOn
import KE.KStateDown
import PySem.Challenge.RW_tieskept_k07_whole_rows_that_go_through
set_option Elab.async false
set_option linter.all false
set_option maxRecDepth 100000
namespace Tk
open PySem PySem.Spec PyProof.Rows L2

/-! ### frozen data: what never changes any more -/
/-- a list as it is read: tracked, or one of the written part, of the plain form -/
def Lx (K : PySem.W.Frag) (G : Hp) (a : Addr) (xs : List V) : Prop :=
  Rd G a (.lst xs) ∨ ∃ (its : List Value) (n : Nat), K.lookup a = some { cls := .type "list", data := .seq its.toArray n } ∧ its.length ≤ sizeLine ∧ Vals xs its
mutual
inductive Fz (K : PySem.W.Frag) (G : Hp) : V → PyData → Prop
  | non : Fz K G .non .none
  | bl (b : Bool) : Fz K G (.bl b) (.bool b)
  | int (i : Int) : Fz K G (.int i) (.int i)
  | str (x : Str) : Fz K G (.str x) (.str x)
  | lst {a : Addr} {xs : List V} {ds : List PyData} : Lx K G a xs → FzL K G xs ds → Fz K G (.ref a) (.list ds)
  | tup {a : Addr} {xs : List V} {ds : List PyData} : SqT K G a xs → FzL K G xs ds → Fz K G (.ref a) (.tuple ds)
  | dct {a : Addr} {kvs : List (Key × V)} {es : List (PyData × PyData)} : Rd G a (.dK kvs) → FzL K G (kvs.map fun p => kV p.1) (es.map Prod.fst) → FzL K G (kvs.map Prod.snd) (es.map Prod.snd) → Fz K G (.ref a) (.dict es)
inductive FzL (K : PySem.W.Frag) (G : Hp) : List V → List PyData → Prop
  | nil : FzL K G [] []
  | cons {v : V} {vs : List V} {d : PyData} {ds : List PyData} : Fz K G v d → FzL K G vs ds → FzL K G (v :: vs) (d :: ds)
end

theorem rd_mono {G G' : Hp} {a : Addr} {u : HO} (s : Same G G') (h : Rd G a u) : Rd G' a u := by
  rcases h with h | ⟨o, h⟩
  · exact .inl (s _ _ h)
  · exact .inr ⟨o, s _ _ h⟩
theorem Lx.mono {K : PySem.W.Frag} {G G' : Hp} {a : Addr} {xs : List V} (s : Same G G') (h : Lx K G a xs) : Lx K G' a xs := by
  rcases h with h | h
  · exact .inl (rd_mono s h)
  · exact .inr h
theorem Lx.of {K : PySem.W.Frag} {G : Hp} {a : Addr} {xs : List V} (h : G a = some (.lst xs)) : Lx K G a xs := .inl (.inl h)
theorem Lx.sq {K : PySem.W.Frag} {G : Hp} {a : Addr} {xs : List V} (h : Lx K G a xs) : SqL K G a xs := by
  rcases h with h | ⟨its, n, h, z, r⟩
  · exact .inl h
  · exact .inr ⟨_, its.toArray, n, h, rfl, rfl, rfl, by rw [List.size_toArray]; exact z, by simpa using r⟩
theorem Lx.there {X : Cx} {pins : List (Addr × Obj)} {σ : L2.St} {H : Hp} {s : Shared} {a : Addr} {xs : List V} (I : Inv X pins σ H s) (h : Lx X.K H a xs) :
    xs.length ≤ sizeLine ∧ ∃ (its : List Value) (n : Nat), Vals xs its ∧ s.heap.get? a = some { cls := .type "list", data := .seq its.toArray n } := by
  rcases h with h | ⟨its, n, h, z, r⟩
  · exact h.ok I.hok
  · exact ⟨by rw [r.length]; exact z, its, n, r, I.kIn a _ h⟩
theorem sqT_mono {K : PySem.W.Frag} {G G' : Hp} {a : Addr} {xs : List V} (s : Same G G') (h : SqT K G a xs) : SqT K G' a xs := by
  rcases h with h | h
  · exact .inl (rd_mono s h)
  · exact .inr h
mutual
theorem Fz.mono {K : PySem.W.Frag} {G G' : Hp} (s : Same G G') : ∀ {v : V} {d : PyData}, Fz K G v d → Fz K G' v d
  | _, _, .non => .non
  | _, _, .bl b => .bl b
  | _, _, .int i => .int i
  | _, _, .str x => .str x
  | _, _, .lst h t => .lst (h.mono s) (t.mono s)
  | _, _, .tup h t => .tup (sqT_mono s h) (t.mono s)
  | _, _, .dct h t u => .dct (rd_mono s h) (t.mono s) (u.mono s)
theorem FzL.mono {K : PySem.W.Frag} {G G' : Hp} (s : Same G G') : ∀ {vs : List V} {ds : List PyData}, FzL K G vs ds → FzL K G' vs ds
  | _, _, .nil => .nil
  | _, _, .cons h t => .cons (h.mono s) (t.mono s)
end
theorem FzL.length {K : PySem.W.Frag} {G : Hp} : ∀ {vs : List V} {ds : List PyData}, FzL K G vs ds → vs.length = ds.length
  | _, _, .nil => rfl
  | _, _, .cons _ t => by rw [List.length_cons, List.length_cons, t.length]
theorem FzL.append {K : PySem.W.Frag} {G : Hp} : ∀ {vs ws : List V} {ds es : List PyData}, FzL K G vs ds → FzL K G ws es → FzL K G (vs ++ ws) (ds ++ es)
  | _, _, _, _, .nil, h => h
  | _, _, _, _, .cons h t, u => .cons h (t.append u)
theorem FzL.get {K : PySem.W.Frag} {G : Hp} : ∀ {vs : List V} {ds : List PyData} {i : Nat} {v : V}, FzL K G vs ds → vs[i]? = some v → ∃ d, ds[i]? = some d ∧ Fz K G v d
  | _, _, 0, _, .cons h _, e => ⟨_, rfl, by cases e; exact h⟩
  | _, _, i + 1, _, .cons _ t, e => t.get (i := i) (by simpa using e)
  | _, _, 0, _, .nil, e => by cases e
  | _, _, i + 1, _, .nil, e => by cases e
theorem FzL.get' {K : PySem.W.Frag} {G : Hp} : ∀ {vs : List V} {ds : List PyData} {i : Nat} {d : PyData}, FzL K G vs ds → ds[i]? = some d → ∃ v, vs[i]? = some v ∧ Fz K G v d
  | _, _, 0, _, .cons h _, e => ⟨_, rfl, by cases e; exact h⟩
  | _, _, i + 1, _, .cons _ t, e => t.get' (i := i) (by simpa using e)
  | _, _, 0, _, .nil, e => by cases e
  | _, _, i + 1, _, .nil, e => by cases e
theorem FzL.take {K : PySem.W.Frag} {G : Hp} : ∀ {vs : List V} {ds : List PyData} (n : Nat), FzL K G vs ds → FzL K G (vs.take n) (ds.take n)
  | _, _, 0, _ => .nil
  | _, _, _ + 1, .nil => .nil
  | _, _, n + 1, .cons h t => .cons h (t.take n)
theorem FzL.drop {K : PySem.W.Frag} {G : Hp} : ∀ {vs : List V} {ds : List PyData} (n : Nat), FzL K G vs ds → FzL K G (vs.drop n) (ds.drop n)
  | _, _, 0, h => h
  | _, _, _ + 1, .nil => .nil
  | _, _, n + 1, .cons _ t => t.drop n
theorem FzL.set {K : PySem.W.Frag} {G : Hp} {v : V} {d : PyData} (h : Fz K G v d) : ∀ {vs : List V} {ds : List PyData} (n : Nat), FzL K G vs ds → FzL K G (vs.set n v) (ds.set n d)
  | _, _, _, .nil => .nil
  | _, _, 0, .cons _ t => .cons h t
  | _, _, n + 1, .cons g t => .cons g (t.set h n)
theorem FzL.erase {K : PySem.W.Frag} {G : Hp} : ∀ {vs : List V} {ds : List PyData} (n : Nat), FzL K G vs ds → FzL K G (vs.eraseIdx n) (ds.eraseIdx n)
  | _, _, _, .nil => .nil
  | _, _, 0, .cons _ t => t
  | _, _, n + 1, .cons g t => .cons g (t.erase n)
theorem FzL.reverse {K : PySem.W.Frag} {G : Hp} : ∀ {vs : List V} {ds : List PyData}, FzL K G vs ds → FzL K G vs.reverse ds.reverse
  | _, _, .nil => .nil
  | _, _, .cons g t => by
    rw [List.reverse_cons, List.reverse_cons]
    exact t.reverse.append (.cons g .nil)
theorem FzL.rep {K : PySem.W.Frag} {G : Hp} {vs : List V} {ds : List PyData} (h : FzL K G vs ds) : ∀ n : Nat, FzL K G (List.replicate n vs).flatten (List.replicate n ds).flatten
  | 0 => .nil
  | n + 1 => by
    rw [List.replicate_succ, List.flatten_cons, List.replicate_succ, List.flatten_cons]
    exact h.append (h.rep n)
theorem FzL.ints {K : PySem.W.Frag} {G : Hp} : ∀ {vs : List V} {ns : List Int}, FzL K G vs (ns.map PyData.int) → vs = ns.map V.int
  | _, [], .nil => rfl
  | _, n :: ns, .cons h t => by
    cases h
    rw [t.ints]
    rfl
theorem FzL.of_ints {K : PySem.W.Frag} {G : Hp} : ∀ ns : List Int, FzL K G (ns.map V.int) (ns.map PyData.int)
  | [] => .nil
  | n :: ns => .cons (.int n) (FzL.of_ints ns)

/-! ### values that are still owned -/
inductive PV where
  | fz (d : PyData)
  | mls (xs : List PV)
  | mdc (ks : List Key) (xs : List PV)

def PV.kids : PV → List PV
  | .fz _ => []
  | .mls xs => xs
  | .mdc _ xs => xs
def PV.re : PV → List PV → PV
  | .fz d, _ => .fz d
  | .mls _, ys => .mls ys
  | .mdc ks _, ys => .mdc ks ys
def PV.get (pv : PV) : List Nat → Option PV
  | [] => some pv
  | k :: r => match pv.kids[k]? with
    | some c => c.get r
    | none => none
def PV.put (pv : PV) : List Nat → PV → PV
  | [], q => q
  | k :: r, q => match pv.kids[k]? with
    | some c => pv.re (pv.kids.set k (c.put r q))
    | none => pv
def kD : Key → PyData
  | .inl i => .int i
  | .inr x => .str x
mutual
def PV.toD : PV → PyData
  | .fz d => d
  | .mls xs => .list (PV.toDs xs)
  | .mdc ks xs => .dict ((ks.map kD).zip (PV.toDs xs))
def PV.toDs : List PV → List PyData
  | [] => []
  | x :: xs => x.toD :: PV.toDs xs
end
theorem toDs_map : ∀ xs : List PV, PV.toDs xs = xs.map PV.toD
  | [] => by rw [PV.toDs]; rfl
  | x :: xs => by rw [PV.toDs, toDs_map xs]; rfl
theorem toDs_fz (ds : List PyData) : PV.toDs (ds.map PV.fz) = ds := by
  rw [toDs_map, List.map_map]
  have : (PV.toD ∘ PV.fz) = id := by funext d; show (PV.fz d).toD = d; rw [PV.toD]
  rw [this, List.map_id]

abbrev Lb := List Nat
abbrev Ow := Addr → Option Lb
mutual
inductive Own (K : PySem.W.Frag) (G H : Hp) (ow : Ow) : Lb → PV → V → Prop
  | fz {l : Lb} {d : PyData} {v : V} : Fz K G v d → Own K G H ow l (.fz d) v
  | mls {l : Lb} {p : Addr} {xs : List PV} {vs : List V} : ow p = some l → H p = some (.lst vs) → OwnL K G H ow l 0 xs vs → Own K G H ow l (.mls xs) (.ref p)
  | mdc {l : Lb} {p : Addr} {ks : List Key} {xs : List PV} {vs : List V} : ow p = some l → H p = some (.dK (ks.zip vs)) → ks.length = vs.length → OwnL K G H ow l 0 xs vs → Own K G H ow l (.mdc ks xs) (.ref p)
inductive OwnL (K : PySem.W.Frag) (G H : Hp) (ow : Ow) : Lb → Nat → List PV → List V → Prop
  | nil {l : Lb} {i : Nat} : OwnL K G H ow l i [] []
  | cons {l : Lb} {i : Nat} {x : PV} {v : V} {xs : List PV} {vs : List V} : Own K G H ow (l ++ [i]) x v → OwnL K G H ow l (i + 1) xs vs → OwnL K G H ow l i (x :: xs) (v :: vs)
end
theorem OwnL.length {K : PySem.W.Frag} {G H : Hp} {ow : Ow} : ∀ {l : Lb} {i : Nat} {xs : List PV} {vs : List V}, OwnL K G H ow l i xs vs → xs.length = vs.length
  | _, _, _, _, .nil => rfl
  | _, _, _, _, .cons _ t => by rw [List.length_cons, List.length_cons, t.length]
/-- the owned objects below a label as they were; what is frozen stays so; the labels may be called otherwise -/
structure Carry (G H : Hp) (ow : Ow) (l : Lb) (G' H' : Hp) (ow' : Ow) (l' : Lb) : Prop where
  same : Same G G'
  keep : ∀ (p : Addr) (r : Lb) (o : HO), ow p = some (l ++ r) → H p = some o → H' p = some o ∧ ow' p = some (l' ++ r)
theorem Carry.sub {G H : Hp} {ow : Ow} {l : Lb} {G' H' : Hp} {ow' : Ow} {l' : Lb} (c : Carry G H ow l G' H' ow' l') (i : Nat) : Carry G H ow (l ++ [i]) G' H' ow' (l' ++ [i]) :=
  ⟨c.same, fun p r o h1 h2 => by
    rw [List.append_assoc] at h1 ⊢
    exact c.keep p _ o h1 h2⟩
mutual
theorem Own.carry {K : PySem.W.Frag} {G H : Hp} {ow : Ow} {G' H' : Hp} {ow' : Ow} : ∀ {l l' : Lb} {x : PV} {v : V}, Own K G H ow l x v → Carry G H ow l G' H' ow' l' → Own K G' H' ow' l' x v
  | _, _, _, _, .fz h, c => .fz (h.mono c.same)
  | l, l', _, _, .mls (p := p) h1 h2 t, c => by
    have q := c.keep p [] _ (by simpa using h1) h2
    exact .mls (by simpa using q.2) q.1 (t.carry c)
  | l, l', _, _, .mdc (p := p) h1 h2 h3 t, c => by
    have q := c.keep p [] _ (by simpa using h1) h2
    exact .mdc (by simpa using q.2) q.1 h3 (t.carry c)
theorem OwnL.carry {K : PySem.W.Frag} {G H : Hp} {ow : Ow} {G' H' : Hp} {ow' : Ow} : ∀ {l l' : Lb} {i : Nat} {xs : List PV} {vs : List V}, OwnL K G H ow l i xs vs → Carry G H ow l G' H' ow' l' → OwnL K G' H' ow' l' i xs vs
  | _, _, _, _, _, .nil, _ => .nil
  | _, _, i, _, _, .cons h t, c => .cons (h.carry (c.sub i)) (t.carry c)
end
theorem OwnL.lift {K : PySem.W.Frag} {G H : Hp} {ow : Ow} {G' H' : Hp} {ow' : Ow} {l l' : Lb} (sg : Same G G') : ∀ {i : Nat} {xs : List PV} {vs : List V}, OwnL K G H ow l i xs vs →
    (∀ (p : Addr) (j : Nat) (r : Lb) (o : HO), ow p = some (l ++ j :: r) → H p = some o → H' p = some o ∧ ow' p = some (l' ++ j :: r)) → OwnL K G' H' ow' l' i xs vs
  | _, _, _, .nil, _ => .nil
  | i, _, _, .cons h t, g => .cons (h.carry ⟨sg, fun p r o h1 h2 => by
      rw [List.append_assoc] at h1 ⊢
      exact g p i r o h1 h2⟩) (t.lift sg g)
theorem OwnL.get {K : PySem.W.Frag} {G H : Hp} {ow : Ow} : ∀ {l : Lb} {i k : Nat} {xs : List PV} {vs : List V} {x : PV}, OwnL K G H ow l i xs vs → xs[k]? = some x → ∃ v, vs[k]? = some v ∧ Own K G H ow (l ++ [i + k]) x v
  | _, i, 0, _, _, _, .cons h _, e => ⟨_, rfl, by cases e; exact h⟩
  | _, i, k + 1, _, _, _, .cons _ t, e => by
    obtain ⟨v, h1, h2⟩ := t.get (k := k) (by simpa using e)
    refine ⟨v, by simpa using h1, ?_⟩
    rw [show i + (k + 1) = i + 1 + k by omega]
    exact h2
  | _, _, 0, _, _, _, .nil, e => by cases e
  | _, _, _ + 1, _, _, _, .nil, e => by cases e
/-- what is owned, as it lies now, is data -/
theorem FzL.kVs {K : PySem.W.Frag} {G : Hp} : ∀ ks : List Key, FzL K G (ks.map kV) (ks.map kD)
  | [] => .nil
  | .inl i :: ks => .cons (.int i) (FzL.kVs ks)
  | .inr x :: ks => .cons (.str x) (FzL.kVs ks)
theorem map_fst_zip' {α β : Type} : ∀ (as : List α) (bs : List β), as.length = bs.length → (as.zip bs).map Prod.fst = as
  | [], _, _ => rfl
  | a :: as, [], h => by cases h
  | a :: as, b :: bs, h => by
    show a :: (as.zip bs).map Prod.fst = _
    rw [map_fst_zip' as bs (by simpa using h)]
theorem map_snd_zip' {α β : Type} : ∀ (as : List α) (bs : List β), as.length = bs.length → (as.zip bs).map Prod.snd = bs
  | [], [], _ => rfl
  | [], _ :: _, h => by cases h
  | a :: as, [], h => by cases h
  | a :: as, b :: bs, h => by
    show b :: (as.zip bs).map Prod.snd = _
    rw [map_snd_zip' as bs (by simpa using h)]
mutual
theorem Own.data {K : PySem.W.Frag} {G H : Hp} {ow : Ow} {G' : Hp} : ∀ {l : Lb} {x : PV} {v : V}, Own K G H ow l x v → Same G G' → (∀ (p : Addr) (r : Lb) (o : HO), ow p = some (l ++ r) → H p = some o → G' p = some o) → Fz K G' v x.toD
  | _, _, _, .fz h, s, _ => by rw [PV.toD]; exact h.mono s
  | l, _, _, .mls (p := p) h1 h2 t, s, k => by
    rw [PV.toD]
    exact .lst (.inl (.inl (k p [] _ (by simpa using h1) h2))) (t.data s k)
  | l, _, _, .mdc (p := p) (ks := ks) (xs := xs) (vs := vs) h1 h2 h3 t, s, k => by
    rw [PV.toD]
    have ht := t.data s k
    have hl := ht.length
    refine .dct (.inl (k p [] _ (by simpa using h1) h2)) ?_ ?_
    · have e : (ks.zip vs).map (fun p => kV p.1) = ks.map kV := by
        rw [show (fun p : Key × V => kV p.1) = kV ∘ Prod.fst from rfl, ← List.map_map, map_fst_zip' _ _ h3]
      rw [e, map_fst_zip' _ _ (by rw [List.length_map]; omega)]
      exact FzL.kVs ks
    · rw [map_snd_zip' _ _ h3, map_snd_zip' _ _ (by rw [List.length_map]; omega)]
      exact ht
theorem OwnL.data {K : PySem.W.Frag} {G H : Hp} {ow : Ow} {G' : Hp} : ∀ {l : Lb} {i : Nat} {xs : List PV} {vs : List V}, OwnL K G H ow l i xs vs → Same G G' → (∀ (p : Addr) (r : Lb) (o : HO), ow p = some (l ++ r) → H p = some o → G' p = some o) → FzL K G' vs (PV.toDs xs)
  | _, _, _, _, .nil, _, _ => by rw [PV.toDs]; exact .nil
  | l, i, _, _, .cons h t, s, k => by
    rw [PV.toDs]
    exact .cons (h.data s fun p r o h1 h2 => k p (i :: r) o (by rw [h1, List.append_assoc]; rfl) h2) (t.data s k)
end
end Tk

set_option Elab.async false
set_option linter.all false
set_option maxRecDepth 100000
set_option maxHeartbeats 0
namespace Tk
open PySem PySem.Spec PyProof.Rows L2

/-! ### sorted(t) of a tuple of ints -/
section
variable {prog : Program} {w : World} {A : Around} {E : Value → Shared → Prop} {s : Shared}
abbrev twoL (h : Heap) (vs : List Value) : Heap := (h.push (seqObj "list" #[] 0)).update h.objs.size (Obj.mapSeq (· ++ vs.toArray))
theorem collect_tup {t : Addr} {vs : List Value} {Q : List Value → Shared → Prop} (ht : s.heap.IsTuple t vs.toArray) (hz : vs.length ≤ sizeLine) (q : Q vs { s with heap := twoL s.heap vs }) : wpAny (model prog w) A (collect (.ref t)) Q E s := by
  obtain ⟨ob, g1, g2, k, g3⟩ := id ht
  have old : (s.heap.push (seqObj "list" #[] 0)).get? t = some ob := Heap.get?_push_of_some _ g1
  have new : (s.heap.push (seqObj "list" #[] 0)).get? s.heap.objs.size = some (seqObj "list" #[] 0) := Heap.get?_push_size _ rfl
  unfold collect
  refine wpAny_bind (wpAny_runValue (codeAny_builtin entry_proto_collect' ?_)); show wpAny _ _ (do again (.builtin "list.__iadd__" ⟨[← newList [], .ref t], []⟩)) _ _ s
  refine wpAny_bind (wpAny_newList (wpAny_pure ⟨Code.quiet_builtin _ (by decide +kernel), codeAny_builtin entry_list_iadd' ?_⟩)); show wpAny _ _ (Builtin.List.listExtendWith (.ref s.heap.objs.size) (.ref t) (.ref s.heap.objs.size)) _ _ { s with heap := s.heap.push (seqObj "list" #[] 0) }
  unfold Builtin.List.listExtendWith
  refine wpAny_bind (wpAny_typeOf (T := "tuple") ⟨ob, old, g2⟩ ?_)
  have e2 : (Value.type "tuple" == Value.type "tuple") = true := rfl
  rw [if_pos (show _ = true by rw [e2, Bool.or_true])]
  refine wpAny_bind (listItems_at old g3 (wpAny_bind (listItems_at (xs := #[]) (n := 0) new rfl ?_)))
  rw [if_neg (by simp)]
  refine wpAny_bind (listUpdate_at (xs := #[]) (n := 0) new rfl (wpAny_pure ?_) (Nat.zero_le _) (by show (#[] ++ vs.toArray).size ≤ sizeLine + 1; simp; omega))
  show wpAny (model prog w) A (load s.heap.objs.size >>= fun o => match o.data with | .seq xs _ => pure xs.toList | _ => unsupported "internal:collect") Q E { s with heap := twoL s.heap vs }
  refine wpAny_bind (wpAny_load (get?_update_seq new _) ?_)
  show wpAny _ _ (pure (#[] ++ vs.toArray).toList) Q E _
  have e3 : ((#[] : Array Value) ++ vs.toArray).toList = vs := by simp
  rw [e3]
  exact wpAny_pure q
theorem sorted_tupI {t : Addr} {vs : List Value} {ns : List Int} {Q : Value → Shared → Prop} (ht : s.heap.IsTuple t vs.toArray) (hz : vs.length ≤ sizeLine) (hi : IntsAre vs ns)
    (q : ∀ out : List Value, SrtO.Srtd SrtO.ltIv out → SrtO.Stb SrtO.ltIv out vs → Q (.ref (s.heap.objs.size + 1)) { s with heap := sortedAll s.heap vs out.toArray }) : wpAny (model prog w) A (call (.builtin "sorted") [.ref t]) Q E s := by
  refine Calls.call_function_entry kind_sorted plain_sorted entry_sorted (args_sorted1 _) ?_
  unfold Builtin.«sorted»
  refine wpAny_bind (m := checkCount "sorted" 1 1 _) (wpAny_pure ?_)
  refine wpAny_bind (collect_tup ht hz (wpAny_bind (wpAny_newList ?_ hz)))
  have sz : (twoL s.heap vs).objs.size = s.heap.objs.size + 1 := by rw [Heap.size_update, size_push']
  have me : ((twoL s.heap vs).push (seqObj "list" vs.toArray 0)).get? (s.heap.objs.size + 1) = some (seqObj "list" vs.toArray 0) := by rw [← sz]; exact Heap.get?_push_size _ rfl
  show wpAny _ _ _ _ _ { s with heap := (twoL s.heap vs).push (seqObj "list" vs.toArray 0) }
  rw [sz]
  refine wpAny_bind (wpAny_holding (wpAny_call_entry slot_list_sort ⟨_, me, rfl⟩ entry_list_sort (SrtO.list_sort_ord SrtO.swo_int me hz (fun h2 => SrtO.ints_sortable hi h2) fun out o1 o2 => ⟨_, rfl, ?_⟩) (args_list_sort _)))
  exact wpAny_pure ⟨_, rfl, q out o1 o2⟩
end
def rSortedT (K : PySem.W.Frag) : List V → Hp → VK → Prop := fun vs H Q => ∃ (a : Addr) (ns : List Int), vs = [V.ref a] ∧ SqT K H a (ns.map V.int) ∧ ∀ (ms : List Int) (p : Addr), ms.Perm ns → ms.Pairwise (· ≤ ·) → H p = none → Q (.ref p) (upd H p (.lst (ms.map V.int)))
theorem cr_sortedT {X : Cx} : CallR X (.builtin "sorted") (rSortedT X.K) := by
  intro pins s σ H vs us Q I r h
  obtain ⟨a, ns, rfl, hs, q⟩ := h
  obtain ⟨its, rv, hl, hz⟩ := I.tuple hs
  have hi := rv.ints
  rw [Vals.ref1 r]
  refine sorted_tupI (show s.heap.IsTuple a its.toArray from hl) (by rw [← rv.length]; exact hz) hi fun out o1 o2 => ?_
  obtain ⟨k1, k2, k3⟩ := SrtO.ints_out hi o1 o2
  obtain ⟨ep, he⟩ := PyProof.Rows.sortedAll_at s.heap its out.toArray
  have hlen : ((out.map SrtO.iv).map V.int).length ≤ sizeLine := by rw [List.length_map, k2.length_eq]; simpa using hz
  exact ⟨.ref _, upd H (s.heap.objs.size + 1) (.lst ((out.map SrtO.iv).map V.int)), I.laid (t' := s.toks) (fun _ _ => PyProof.Rows.sortedAll_old) (Nat.le_succ _) ⟨hlen, out, ep, vals_of_ints k1, he⟩, rfl, q _ _ k2 k3 (I.hok.fresh (Nat.le_succ _))⟩

/-! ### set(l) of a list of ints -/
section
variable {P : Program} {w : World} {A : Around} {E : Value → Shared → Prop} {s : Shared}
abbrev set0 (w : World) : Obj := { cls := .type "set", dict := none, data := .set #[] 0 (.fresh 0 0 (!w.params.followText "set-order")) }
set_option maxHeartbeats 3200000 in
theorem set_listI {l : Addr} {items : Array Value} (ns : List Int) {Q : Value → Shared → Prop} (hh : A.handled = none) (hl : s.heap.IsList l items) (hit : IntsAre items.toList ns) (hb : ns.length + 1 < scanBound)
    (q : ∀ (h' : Heap) (tk c : Nat), SetR w h' s.heap.objs.size (fun j => decide (j ∈ ns)) c → c ≤ ns.length → (∀ b o, s.heap.get? b = some o → h'.get? b = some o) → Q (.ref s.heap.objs.size) { s with heap := h', toks := tk }) :
    wpAny (model P w) A (call (.type "set") [.ref l]) Q E s := by
  have size : items.size = ns.length := by have z := IntsAre.length hit; rw [Array.length_toList] at z; exact z
  obtain ⟨c, tl, mro⟩ := F.called_set.mro
  have a1 := F.called_set.made
  have a2 := F.called_set.sub
  refine wpAny_call (codeAny_of_tree ?_); show wpAny _ _ (callAny (.type "set") _) _ _ _
  refine wpAny_pure ⟨Code.quiet_builtin _ (by decide +kernel), codeAny_builtin F.entry_type_call ?_⟩; rw [Around.under_plain (weight_type_call_type "set" [.ref l] []) rfl]
  have a3 := F.called_set.notType
  have a4 := F.called_set.canCreate
  have a5 := F.typeCall_set_1 (.ref l)
  repeat (any_goals (first | assumption | wp_step))
  refine codeAny_mono (code_set_led1 (.ref l) (E := E) (Q₁ := fun obj s₁ => obj = .ref s.heap.objs.size ∧ s₁ = { s with heap := s.heap.push (set0 w) }) ⟨rfl, rfl⟩) fun r s₁ hr => ?_
  cases r with
  | error e => exact hr
  | ok fl =>
    cases fl with
    | ret obj =>
      obtain ⟨rfl, rfl⟩ := hr
      have at0 : (s.heap.push (set0 w)).get? s.heap.objs.size = some (set0 w) := Heap.get?_push_size _ rfl
      have ty : Shared.TypeIs { s with heap := s.heap.push (set0 w) } (.ref s.heap.objs.size) "set" := ⟨_, at0, rfl⟩
      have b1 := F.called_set.init.lookup
      have b2 := F.called_set.init.bind (.ref s.heap.objs.size)
      repeat (any_goals (first | assumption | wp_step))
      refine codeAny_mono (codeAny_call_builtin (R := wants (fun r s₂ => r = .none ∧ ∃ h' tk c, s₂ = { s with heap := h', toks := tk } ∧ SetR w h' s.heap.objs.size (fun j => decide (j ∈ ns)) c ∧ c ≤ ns.length ∧ (∀ b o, s.heap.get? b = some o → h'.get? b = some o)) E)
        F.called_set.init.plain F.entry_set_init (check_set_init_1 ty ?_)) fun r₂ s₂ hr₂ => ?_
      · obtain ⟨ob, o1, o2, nl, o3⟩ := hl
        obtain ⟨oc, od, oa, os⟩ := ob
        simp only at o2 o3
        subst o2 o3
        have o1' : (s.heap.push (set0 w)).get? l = some { cls := .type "list", dict := od, data := .seq items nl, slots := os } := Heap.get?_push_of_some _ o1
        have s1 := F.sub_list_set
        have s2 := F.sub_list_frozenset
        have s3 : (Value.type "list" == Value.type "dict") = false := by decide
        have isl : (s.heap.push (set0 w)).IsList l items := ⟨_, o1', rfl, nl, rfl⟩
        unfold Builtin.«set.__init__» noKeywords Builtin.Frozenset.updateFrom
        generalize hPI : pyIter = PI
        wp_walk
        subst hPI
        refine wpAny_pyIter_list isl (wpAny_bind (wpAny_runValue ?_))
        have lt0 : l < s.heap.objs.size := Heap.lt_size o1
        have hd3 : A.in1.in1.in1.handled = none := by simp [hh]
        have z1 : (s.heap.push (set0 w)).objs.size = s.heap.objs.size + 1 := Heap.size_push ..
        have ne1 : l ≠ (s.heap.push (set0 w)).objs.size := by rw [z1]; exact Nat.ne_of_lt (Nat.lt_succ_of_lt lt0)
        have out1 : s.heap.objs.size ∉ [(s.heap.push (set0 w)).objs.size, l] := by rw [z1]; simp only [List.mem_cons, List.not_mem_nil, or_false, not_or]; exact ⟨Nat.ne_of_lt (Nat.lt_succ_self _), Nat.ne_of_gt lt0⟩
        have val1 : ∀ (i : Nat) (v : Value), items[i]? = some v → ∃ k t, ns[i]? = some k ∧ v = .int k t := fun i v hv => by
          have hi : i < ns.length := by rw [← size]; exact (Array.getElem?_eq_some_iff.mp hv).1
          obtain ⟨t, e⟩ := PyProof.Rows.IntsAre.int_at hit i v (by rw [Array.getElem?_toList]; exact hv)
          exact ⟨ns[i], t, List.getElem?_eq_getElem hi, by rw [e, List.getD_eq_getElem?_getD, List.getElem?_eq_getElem hi]; rfl⟩
        refine set_update_ints ((Walks.list hd3 _ l ne1 items).toS) s.heap.objs.size out1 ns size hb val1 (items.size - 0) 0 _ (by omega) (Nat.zero_le _) ⟨⟨_, Heap.get?_push_size _ rfl, rfl, rfl⟩, (isl.push _)⟩ ?st0 ?fin
        case st0 =>
          exact ⟨0, Nat.le_refl 0, setR_new_at (Heap.get?_push_of_some _ at0)⟩
        case fin =>
          intro s' c' hm hc' hS'
          obtain ⟨h', g2, d', tk', os'⟩ := s'
          have eg : g2 = s.gens := hm.gens
          have ed : d' = s.drawn := hm.drawn
          have eo : os' = s.os := hm.os
          subst eg ed eo
          show wpAny _ _ _ _ _ _
          refine wpAny_pure ?_
          show wpAny _ _ (ret Value.none) _ _ _
          rw [size] at hc'
          refine wpAny_pure ⟨rfl, h', tk', c', rfl, hS', hc', fun b o e => ?_⟩
          have l0 : b < s.heap.objs.size := Heap.lt_size e
          exact hm.heap b o (by rw [z1]; simp only [List.mem_cons, List.not_mem_nil, or_false, not_or]; exact ⟨Nat.ne_of_lt l0, Nat.ne_of_lt (Nat.lt_succ_of_lt l0)⟩) (Heap.get?_push_of_some _ (Heap.get?_push_of_some _ e))
      · cases r₂ with
        | error e => exact hr₂
        | ok fl₂ =>
          cases fl₂ with
          | ret r =>
            obtain ⟨rfl, h', tk, c', rfl, hS', hc', hk'⟩ := hr₂
            repeat (any_goals (first | assumption | wp_step))
            exact q _ _ _ hS' hc' hk'
          | _ => exact hr₂.elim
    | _ => exact hr.elim
end
theorem nodup_le : ∀ {l u : List Int}, l.Nodup → (∀ k ∈ l, k ∈ u) → l.length ≤ u.length
  | [], u, _, _ => Nat.zero_le _
  | x :: l, u, nd, h => by
    obtain ⟨h1, h2⟩ := List.nodup_cons.mp nd
    have hx := h x (List.mem_cons_self ..)
    have := nodup_le (u := u.erase x) h2 fun k hk => (List.mem_erase_of_ne (fun e : k = x => h1 (by rw [← e]; exact hk))).mpr (h k (List.mem_cons_of_mem _ hk))
    rw [List.length_erase_of_mem hx] at this
    have := List.length_pos_of_mem hx
    rw [List.length_cons]
    omega
/-- set(x), a list or a tuple of ints -/
def rSetI (K : PySem.W.Frag) (w : World) : List V → Hp → VK → Prop := fun vs H Q => ∃ (a : Addr) (ns : List Int), vs = [V.ref a] ∧ (SqL K H a (ns.map V.int) ∨ SqT K H a (ns.map V.int)) ∧ ns.length ≤ 4000 ∧ ∀ (p : Addr) (c : Nat), H p = none → (∀ u : List Int, (∀ k ∈ ns, k ∈ u) → c ≤ u.length) → Q (.ref p) (upd H p (SetO w p (fun j => decide (j ∈ ns)) c))
theorem cr_setI {X : Cx} (hc : X.calm = true) : CallR X (.type "set") (rSetI X.K X.w) := by
  intro pins s σ H vs us Q I r h
  obtain ⟨a, ns, rfl, hs, hl, q⟩ := h
  rw [Vals.ref1 r]
  have fin : ∀ (h' : Heap) (tk c : Nat), SetR X.w h' s.heap.objs.size (fun j => decide (j ∈ ns)) c → c ≤ ns.length → (∀ b o, s.heap.get? b = some o → h'.get? b = some o) → EP X pins σ Q (.ref s.heap.objs.size) { s with heap := h', toks := tk } := fun h' tk c R hcn k =>
    ⟨.ref _, upd H s.heap.objs.size (SetO X.w s.heap.objs.size (fun j => decide (j ∈ ns)) c), I.laid (t' := tk) (fun b u e => k b u e) (Nat.le_refl _) (setO_new R), rfl, q _ _ (I.hok.fresh (Nat.le_refl _)) fun u hu => by
      obtain ⟨_, es, _, _, _, _, _, _, nd, mem, _, _, sz, _⟩ := R
      have h1 := nodup_le nd fun k hk => hu k (by have := (mem k).mpr hk; simpa using this)
      rw [List.length_map, Array.length_toList, sz] at h1
      exact h1⟩
  rcases hs with hs | hs
  · obtain ⟨its, rv, pl, hz⟩ := I.list hs
    exact set_listI ns (I.ok.hd hc) pl.isList (by simpa using rv.ints) (by unfold scanBound; omega) fun h' tk c R hcn k => fin h' tk c R hcn k
  · obtain ⟨its, rv, pl, hz⟩ := I.tuple hs
    exact call_set_tupI ns (I.ok.hd hc) (show s.heap.IsTuple a its.toArray from pl) (by simpa using rv.ints) (by unfold scanBound; omega) fun h' tk c R hcn k => fin h' tk c R hcn k

/-! ### min(t), max(t) of a tuple of ints -/
section
variable {prog : Program} {w : World} {A : Around} {E : Value → Shared → Prop} {s : Shared}
theorem min_tup {t : Addr} {its : List Value} {ns : List Int} {Q : Value → Shared → Prop} (hh : A.handled = none) (ht : s.heap.IsTuple t its.toArray) (hi : IntsAre its ns) (hne : 0 < ns.length)
    (q : ∀ h' tk M t', (∀ b o, s.heap.get? b = some o → h'.get? b = some o) → M ∈ ns → (∀ a, a ∈ ns → M ≤ a) → Q (.int M t') { s with heap := h', toks := tk }) : wpAny (model prog w) A (call (.builtin "min") [.ref t]) Q E s := by
  obtain ⟨xs, e⟩ := hi.allInts.items
  have hn : numsOf (intItems xs).toList = ns := by rw [← e]; exact hi.numsOf
  rw [nums_intItems] at hn
  subst hn
  rw [e] at ht
  have hsz : 0 < xs.size := by simpa using hne
  have lt0 : t < s.heap.objs.size := ht.elim fun o h => Heap.lt_size h.1
  refine call_min_walk (wpAny_pyIter_tuple ht ⟨_, _, _, _, _, _, _, rfl, Walks.tuple (A := A.in1) hh _ t (Nat.ne_of_lt lt0) (intItems xs), ⟨⟨_, Heap.get?_push_size _ rfl, rfl, rfl⟩, ht.push _⟩, fun b hb => ?_, by simpa [intItems] using hne, CmpOf.ints_lt (numAt xs) (fun _ _ => intItems_at), fun v h' tk hP hk => ?_⟩)
  · simp only [List.mem_cons, List.not_mem_nil, or_false] at hb
    rw [Heap.size_push]
    rcases hb with rfl | rfl
    · exact Nat.lt_succ_self _
    · exact Nat.lt_succ_of_lt lt0
  · obtain ⟨u, rfl⟩ := intItems_at hP
    obtain ⟨h1, h2⟩ := argBest_lt (numAt xs) (xs.size - 1)
    have esz : (intItems xs).size = xs.size := by simp [intItems]
    rw [esz]
    refine q h' tk _ u (fun b o z => hk b o (by simp only [List.mem_cons, List.not_mem_nil, or_false]; exact Nat.ne_of_lt (Heap.lt_size z)) (Heap.get?_push_of_some _ z)) ?_ fun a ha => ?_
    · rw [numAt_eq]; exact PySem.getD_mem (by rw [List.length_map, Array.length_toList]; omega)
    · obtain ⟨j, hj, rfl⟩ := mem_getD ha
      rw [List.length_map, Array.length_toList] at hj
      rw [← numAt_eq]
      exact h2 j (by omega)
theorem max_tup {t : Addr} {its : List Value} {ns : List Int} {Q : Value → Shared → Prop} (hh : A.handled = none) (ht : s.heap.IsTuple t its.toArray) (hi : IntsAre its ns) (hne : 0 < ns.length)
    (q : ∀ h' tk M t', (∀ b o, s.heap.get? b = some o → h'.get? b = some o) → M ∈ ns → (∀ a, a ∈ ns → a ≤ M) → Q (.int M t') { s with heap := h', toks := tk }) : wpAny (model prog w) A (call (.builtin "max") [.ref t]) Q E s := by
  obtain ⟨xs, e⟩ := hi.allInts.items
  have hn : numsOf (intItems xs).toList = ns := by rw [← e]; exact hi.numsOf
  rw [nums_intItems] at hn
  subst hn
  rw [e] at ht
  have hsz : 0 < xs.size := by simpa using hne
  have lt0 : t < s.heap.objs.size := ht.elim fun o h => Heap.lt_size h.1
  refine call_max_walk (wpAny_pyIter_tuple ht ⟨_, _, _, _, _, _, _, rfl, Walks.tuple (A := A.in1) hh _ t (Nat.ne_of_lt lt0) (intItems xs), ⟨⟨_, Heap.get?_push_size _ rfl, rfl, rfl⟩, ht.push _⟩, fun b hb => ?_, by simpa [intItems] using hne, CmpOf.ints_gt (numAt xs) (fun _ _ => intItems_at), fun v h' tk hP hk => ?_⟩)
  · simp only [List.mem_cons, List.not_mem_nil, or_false] at hb
    rw [Heap.size_push]
    rcases hb with rfl | rfl
    · exact Nat.lt_succ_self _
    · exact Nat.lt_succ_of_lt lt0
  · obtain ⟨u, rfl⟩ := intItems_at hP
    obtain ⟨h1, h2⟩ := argBest_gt (numAt xs) (xs.size - 1)
    have esz : (intItems xs).size = xs.size := by simp [intItems]
    rw [esz]
    refine q h' tk _ u (fun b o z => hk b o (by simp only [List.mem_cons, List.not_mem_nil, or_false]; exact Nat.ne_of_lt (Heap.lt_size z)) (Heap.get?_push_of_some _ z)) ?_ fun a ha => ?_
    · rw [numAt_eq]; exact PySem.getD_mem (by rw [List.length_map, Array.length_toList]; omega)
    · obtain ⟨j, hj, rfl⟩ := mem_getD ha
      rw [List.length_map, Array.length_toList] at hj
      rw [← numAt_eq]
      exact h2 j (by omega)
end
def rMinT (K : PySem.W.Frag) : List V → Hp → VK → Prop := fun vs H Q => ∃ (a : Addr) (ns : List Int), vs = [V.ref a] ∧ SqT K H a (ns.map V.int) ∧ 0 < ns.length ∧ ∀ m, m ∈ ns → (∀ y, y ∈ ns → m ≤ y) → Q (.int m) H
def rMaxT (K : PySem.W.Frag) : List V → Hp → VK → Prop := fun vs H Q => ∃ (a : Addr) (ns : List Int), vs = [V.ref a] ∧ SqT K H a (ns.map V.int) ∧ 0 < ns.length ∧ ∀ m, m ∈ ns → (∀ y, y ∈ ns → y ≤ m) → Q (.int m) H
theorem cr_minT {X : Cx} (hc : X.calm = true) : CallR X (.builtin "min") (rMinT X.K) := by
  intro pins s σ H vs us Q I r h
  obtain ⟨a, ns, rfl, hs, hne, q⟩ := h
  obtain ⟨its, rv, hl, _⟩ := I.tuple hs
  rw [Vals.ref1 r]
  exact min_tup (I.ok.hd hc) (show s.heap.IsTuple a its.toArray from hl) rv.ints hne fun h' tk m t' hk h1 h2 => ⟨.int _, H, I.kept hk, ⟨_, rfl⟩, q m h1 h2⟩
theorem cr_maxT {X : Cx} (hc : X.calm = true) : CallR X (.builtin "max") (rMaxT X.K) := by
  intro pins s σ H vs us Q I r h
  obtain ⟨a, ns, rfl, hs, hne, q⟩ := h
  obtain ⟨its, rv, hl, _⟩ := I.tuple hs
  rw [Vals.ref1 r]
  exact max_tup (I.ok.hd hc) (show s.heap.IsTuple a its.toArray from hl) rv.ints hne fun h' tk m t' hk h1 h2 => ⟨.int _, H, I.kept hk, ⟨_, rfl⟩, q m h1 h2⟩

/-! ### t * k -/
def rRepW (K : PySem.W.Frag) : R2 := fun x y H Q => ∃ l k xs, x = .ref l ∧ y = .int k ∧ SqT K H l xs ∧ xs ≠ [] ∧ 2 ≤ k ∧ k ≤ 2000 ∧ xs.length ≤ 1000 ∧ ∀ p, H p = none → Q (.ref p) (upd H p (.tup (List.replicate k.toNat xs).flatten))
theorem op_repW {X : Cx} : OpR X (binaryOp .Mult) (rRepW X.K) := by
  intro pins s σ H x y v u Q I rx ry h
  obtain ⟨l, k, xs, rfl, rfl, hT, hne, h1, h2, hz, q⟩ := h
  cases rx
  obtain ⟨t, rfl⟩ := ry
  obtain ⟨its, r, ⟨⟨cls, dd, data, sl⟩, ho, hc, n, hd⟩, hs⟩ := I.tuple hT
  simp only at hc hd
  subst hc hd
  have hle : its.length = xs.length := r.length.symm
  have hi : its.toArray.isEmpty = false := by
    cases its with
    | nil => exact absurd (List.eq_nil_of_length_eq_zero (by simpa using hle.symm)) hne
    | cons a b => rfl
  have e0 : its.toArray.size = xs.length := by rw [List.size_toArray, hle]
  have big1 : ((its.toArray.size : Nat) : Int) * k ≤ 2000000 := by
    have a1 : ((xs.length : Nat) : Int) * k ≤ 1000 * k := Int.mul_le_mul_of_nonneg_right (by omega) (by omega)
    rw [e0]; omega
  have big2 : k.toNat * xs.length ≤ 2000 * 1000 := Nat.mul_le_mul (by omega) hz
  have b1 : (List.replicate k.toNat its).flatten.length ≤ sizeLine := by rw [PyProof.Rows.lm_len_rep_flat, hle, sizeLine_eq]; omega
  have b2 : (decide (k < -(2 ^ 63)) || decide (k ≥ 2 ^ 63)) = false := by rw [decide_eq_false (by omega), decide_eq_false (by omega)]; rfl
  have b3 : (its.toArray.isEmpty || k == 1) = false := by rw [hi, Bool.false_or]; exact beq_eq_false_iff_ne.mpr (by omega)
  have b4 : (decide (k ≤ 0) || its.toArray.isEmpty) = false := by rw [hi, Bool.or_false]; exact decide_eq_false (by omega)
  have b5 : Builtin.Tuple.tupleTooMany (((its.toArray.size : Nat) : Int) * k) = false := by unfold Builtin.Tuple.tupleTooMany; rw [sizeLine_eq]; exact decide_eq_false (by omega)
  have go := tuple_mulW l its.toArray n dd sl k t b2 b3 b4 (by omega) b5 (by rw [size_rep, List.size_toArray]; exact b1)
  refine wpAny_binaryOp_repeat_ref (T := "tuple") (U := "int") (by decide) ⟨_, ho, rfl⟩ (fun s' => typeIs_int s' k t) noFill_tuple_mul F.fills_int_mul F.slot_int_rmul repeat_tuple F.slot_int_index.lookup (call_meets F.slot_int_rmul (typeIs_int s k t) F.entry_int_rmul (F.args_int_rmul_2 _ _) (int_rmul_tuple k t l its.toArray n dd sl)
    ⟨ho, rfl, ⟨_, ho, rfl⟩, call_meets F.slot_tuple_mul ⟨_, ho, rfl⟩ F.entry_tuple_mul (F.args_tuple_mul_2 _ _) go ⟨ho, ?_⟩⟩)
  rw [size_rep]
  exact ⟨.ref s.heap.objs.size, _, I.laid (t' := s.toks) (o := .tup (List.replicate k.toNat xs).flatten) (fun b ob q => Heap.get?_push_of_some _ q) (Nat.le_refl _) ⟨by rw [PyProof.Rows.lm_len_rep_flat, sizeLine_eq]; omega, _, r.rep k.toNat, IsTup.new _ _⟩, rfl, q _ (I.hok.fresh (Nat.le_refl _))⟩
end Tk

set_option Elab.async false
set_option linter.all false
set_option maxRecDepth 100000
namespace Tk
open PySem PySem.Spec PyProof.Rows L2

/-- where one stands: what is frozen, who owns what, what lies there -/
structure Wd where
  G : Hp
  ow : Ow
  H : Hp
def Own1 (K : PySem.W.Frag) (w : Wd) (l : Lb) (x : PV) (v : V) : Prop := Own K w.G w.H w.ow l x v
structure Wd.Ok (w : Wd) : Prop where
  same : Same w.G w.H
  mine : ∀ p l, w.ow p = some l → w.G p = none ∧ ∃ o, w.H p = some o
  inj : ∀ p q l, w.ow p = some l → w.ow q = some l → p = q
/-- what others have stays -/
structure Step (a b : Wd) : Prop where
  same : Same a.G b.G
  keep : ∀ p o, a.H p = some o → a.ow p = none → b.H p = some o ∧ b.ow p = none ∧ b.G p = a.G p
theorem Step.refl (a : Wd) : Step a a := ⟨Same.refl _, fun _ _ h n => ⟨h, n, rfl⟩⟩
theorem Step.trans {a b c : Wd} (s : Step a b) (t : Step b c) : Step a c :=
  ⟨s.same.trans t.same, fun p o h n => by
    obtain ⟨h1, n1, g1⟩ := s.keep p o h n
    obtain ⟨h2, n2, g2⟩ := t.keep p o h1 n1
    exact ⟨h2, n2, g2.trans g1⟩⟩
/-- what a piece of code has made and given out (still owned), seen from a, at b -/
structure Loose (a b : Wd) (ot : Ow) : Prop where
  apart : ∀ p l, ot p = some l → b.ow p = none ∧ b.G p = none ∧ ∃ o, b.H p = some o
  new : ∀ p o, a.H p = some o → a.ow p = none → ot p = none
  inj : ∀ p q l, ot p = some l → ot q = some l → p = q
theorem Loose.none (a b : Wd) : Loose a b (fun _ => Option.none) := ⟨fun _ _ h => (nomatch h), fun _ _ _ _ => rfl, fun _ _ _ h => (nomatch h)⟩
/-- it stays so through further steps -/
theorem Loose.step {a b c : Wd} {ot : Ow} (l : Loose a b ot) (s : Step b c) : Loose a c ot :=
  ⟨fun p q h => by
    obtain ⟨h1, h2, o, h3⟩ := l.apart p q h
    obtain ⟨k1, k2, k3⟩ := s.keep p o h3 h1
    exact ⟨k2, k3.trans h2, o, k1⟩, l.new, l.inj⟩
theorem Loose.own {K : PySem.W.Frag} {a b c : Wd} {ot : Ow} {l : Lb} {x : PV} {v : V} (o : Loose a b ot) (s : Step b c) (h : Own K b.G b.H ot l x v) : Own K c.G c.H ot l x v :=
  h.carry ⟨s.same, fun p r u h1 h2 => ⟨(s.keep p u h2 (o.apart p _ h1).1).1, h1⟩⟩
theorem Loose.back {a b c : Wd} {ot : Ow} (s : Step a b) (l : Loose b c ot) : Loose a c ot :=
  ⟨l.apart, fun p o h n => let ⟨h1, n1, _⟩ := s.keep p o h n; l.new p o h1 n1, l.inj⟩

abbrev Lc := List (Option PV)
abbrev Sl := L2.St
/-- the slots -/
structure Rel (K : PySem.W.Frag) (w : Wd) (L : Lc) (σ : Sl) : Prop where
  ok : w.Ok
  len : L.length = σ.length
  own : ∀ (i : Nat) (x : PV), L[i]? = some (some x) → ∃ v, σ[i]? = some (some v) ∧ Own K w.G w.H w.ow [i] x v
section
variable {K : PySem.W.Frag} {w w' : Wd} {L : Lc} {σ : Sl}
/-- new things are laid, the slots as they were -/
theorem Rel.grow {G' H' : Hp} (r : Rel K w L σ) (hg : Same w.G G') (hh : ∀ p o, w.H p = some o → H' p = some o) (hs : Same G' H') (hn : ∀ p o, w.H p = some o → G' p = w.G p) :
    Rel K ⟨G', w.ow, H'⟩ L σ ∧ Step w ⟨G', w.ow, H'⟩ := by
  refine ⟨⟨⟨hs, fun p l h => ?_, r.ok.inj⟩, r.len, fun i x e => ?_⟩, ⟨hg, fun p o h n => ⟨hh p o h, n, hn p o h⟩⟩⟩
  · obtain ⟨h1, o, h2⟩ := r.ok.mine p l h
    exact ⟨(hn p o h2).trans h1, o, hh p o h2⟩
  · obtain ⟨v, h1, h2⟩ := r.own i x e
    exact ⟨v, h1, h2.carry ⟨hg, fun p s o q1 q2 => ⟨hh p o q2, q1⟩⟩⟩
/-- one new object, frozen at once -/
theorem Rel.newG {p : Addr} {o : HO} (r : Rel K w L σ) (hp : w.H p = none) : Rel K ⟨upd w.G p o, w.ow, upd w.H p o⟩ L σ ∧ Step w ⟨upd w.G p o, w.ow, upd w.H p o⟩ := by
  have gp : w.G p = none := r.ok.same.free hp
  refine r.grow (fun q u h => ?_) (fun q u h => ?_) (fun q u h => ?_) fun q u h => ?_
  · rw [upd_ne (ne_of_none h gp)]; exact h
  · rw [upd_ne (ne_of_none h hp)]; exact h
  · by_cases e : q = p
    · subst e; rw [upd_same] at h ⊢; exact h
    · rw [upd_ne e] at h ⊢; exact r.ok.same _ _ h
  · rw [upd_ne (ne_of_none h hp)]
/-- one new object that lies about -/
theorem Rel.newH {p : Addr} {o : HO} (r : Rel K w L σ) (hp : w.H p = none) : Rel K ⟨w.G, w.ow, upd w.H p o⟩ L σ ∧ Step w ⟨w.G, w.ow, upd w.H p o⟩ := by
  refine r.grow (Same.refl _) (fun q u h => ?_) (fun q u h => ?_) fun q u h => rfl
  · rw [upd_ne (ne_of_none h hp)]; exact h
  · rw [upd_ne (ne_of_none (r.ok.same _ _ h) hp)]; exact r.ok.same _ _ h
/-- what lies about is frozen: the objects that pr tells -/
theorem Rel.freeze {pr : Addr → Prop} {G' : Hp} (r : Rel K w L σ) (hG : ∀ p, pr p → G' p = w.H p) (hG' : ∀ p, ¬ pr p → G' p = w.G p) (hpr : ∀ p, pr p → w.G p = none)
    (no : ∀ p, pr p → w.ow p = none) : Rel K ⟨G', w.ow, w.H⟩ L σ := by
  have sg : Same w.G G' := fun q u h => by
    rw [hG' q fun z => by rw [hpr q z] at h; cases h]; exact h
  refine ⟨⟨fun q u h => ?_, fun p l h => ?_, r.ok.inj⟩, r.len, fun i x e => ?_⟩
  · have h : G' q = some u := h
    by_cases z : pr q
    · rw [hG q z] at h; exact h
    · rw [hG' q z] at h; exact r.ok.same _ _ h
  · have np : ¬ pr p := fun z => by rw [no p z] at h; cases h
    show G' p = none ∧ _
    rw [hG' p np]
    exact r.ok.mine p l h
  · obtain ⟨v, h1, h2⟩ := r.own i x e
    exact ⟨v, h1, h2.carry ⟨sg, fun p s o q1 q2 => ⟨q2, q1⟩⟩⟩
end

/-! ### handles -/
inductive Hd where
  | fz (d : PyData)
  | pl (i : Nat) (r : List Nat)
  | tm (x : PV)
def Lc.at (L : Lc) (i : Nat) (r : List Nat) : Option PV := match L[i]? with
  | some (some x) => x.get r
  | _ => none
def Lc.setAt (L : Lc) (i : Nat) (r : List Nat) (y : PV) : Lc := match L[i]? with
  | some (some x) => L.set i (some (x.put r y))
  | _ => L
/-- what a handle stands for -/
inductive HRep (K : PySem.W.Frag) (a b : Wd) (L : Lc) (σ : Sl) : Hd → V → Prop
  | fz {d : PyData} {v : V} : Fz K b.G v d → HRep K a b L σ (.fz d) v
  | sl {i : Nat} {v : V} : σ[i]? = some (some v) → HRep K a b L σ (.pl i []) v
  | pl {i : Nat} {r : List Nat} {x : PV} {v : V} : r ≠ [] → L.at i r = some x → Own K b.G b.H b.ow (i :: r) x v → HRep K a b L σ (.pl i r) v
  | tm {x : PV} {v : V} {ot : Ow} : Loose a b ot → Own K b.G b.H ot [] x v → HRep K a b L σ (.tm x) v

section
variable {K : PySem.W.Frag} {w w' : Wd} {L : Lc} {σ : Sl}
/-- what a value is as data, now -/
theorem Own.now {l : Lb} {x : PV} {v : V} (ok : w.Ok) (h : Own K w.G w.H w.ow l x v) : Fz K w.H v x.toD := h.data ok.same fun _ _ _ _ q => q
theorem get_append : ∀ (x : PV) (r : List Nat) (k : Nat), x.get (r ++ [k]) = (x.get r).bind fun y => y.kids[k]?
  | x, [], k => by
    show x.get [k] = x.kids[k]?
    unfold PV.get
    cases x.kids[k]? with
    | none => rfl
    | some c => show c.get [] = some c; unfold PV.get; rfl
  | x, j :: r, k => by
    show x.get (j :: (r ++ [k])) = _
    unfold PV.get
    cases x.kids[j]? with
    | none => rfl
    | some c => exact get_append c r k

/-- the labels under a place -/
def under (l : Lb) (m : Lb) : Prop := ∃ r, m = l ++ r
/-- an owned value, one of its parts turned into another thing: f tells what stands at the part's place -/
theorem kids_re (x : PV) (ys : List PV) (hx : x.kids ≠ []) : (x.re ys).kids = ys := by
  cases x with
  | fz d => exact absurd rfl hx
  | mls xs => rfl
  | mdc ks xs => rfl
end

mutual
/-- a part of an owned thing -/
theorem Own.part {K : PySem.W.Frag} {G H : Hp} {ow : Ow} : ∀ {l : Lb} {x : PV} {v : V} {r : List Nat} {y : PV}, Own K G H ow l x v → x.get r = some y → ∃ u, Own K G H ow (l ++ r) y u
  | l, x, v, [], y, h, e => by
    unfold PV.get at e
    cases e
    exact ⟨v, by rw [List.append_nil]; exact h⟩
  | _, _, _, k :: r, y, .fz _, e => by
    unfold PV.get at e
    cases e
  | l, _, _, k :: r, y, .mls _ _ t, e => by
    unfold PV.get at e
    have := t.partL (k := k) (r := r) (y := y) e
    rw [Nat.zero_add] at this
    exact this
  | l, _, _, k :: r, y, .mdc _ _ _ t, e => by
    unfold PV.get at e
    have := t.partL (k := k) (r := r) (y := y) e
    rw [Nat.zero_add] at this
    exact this
theorem OwnL.partL {K : PySem.W.Frag} {G H : Hp} {ow : Ow} : ∀ {l : Lb} {i : Nat} {xs : List PV} {vs : List V} {k : Nat} {r : List Nat} {y : PV}, OwnL K G H ow l i xs vs →
    (match xs[k]? with | some c => c.get r | none => none) = some y → ∃ u, Own K G H ow (l ++ (i + k) :: r) y u
  | _, _, _, _, _, _, _, .nil, e => by simp at e
  | l, i, _, _, 0, r, y, .cons h _, e => by
    obtain ⟨u, q⟩ := h.part (r := r) (y := y) e
    exact ⟨u, by rw [List.append_assoc] at q; exact q⟩
  | l, i, _, _, k + 1, r, y, .cons _ t, e => by
    obtain ⟨u, q⟩ := t.partL (k := k) (r := r) (y := y) (by simpa using e)
    exact ⟨u, by rw [show i + (k + 1) = i + 1 + k by omega]; exact q⟩
end

theorem OwnL.setL {K : PySem.W.Frag} {G H G' H' : Hp} {ow ow' : Ow} {c c' : PV} : ∀ {l : Lb} {i k : Nat} {xs : List PV} {vs : List V}, OwnL K G H ow l i xs vs → xs[k]? = some c →
    (∀ u, Own K G H ow (l ++ [i + k]) c u → Own K G' H' ow' (l ++ [i + k]) c' u) → (∀ j x u, j ≠ k → Own K G H ow (l ++ [i + j]) x u → Own K G' H' ow' (l ++ [i + j]) x u) → OwnL K G' H' ow' l i (xs.set k c') vs
  | _, _, _, _, _, .nil, e, _, _ => by simp at e
  | l, i, 0, _, _, .cons (xs := xs) h t, e, f, g => by
    cases e
    refine .cons (f _ h) ?_
    have : ∀ {i' : Nat} {xs : List PV} {vs : List V}, OwnL K G H ow l i' xs vs → i < i' → OwnL K G' H' ow' l i' xs vs := by
      intro i' xs vs t
      induction xs generalizing i' vs with
      | nil => intro _; cases t; exact .nil
      | cons y ys ih =>
        intro hi
        cases t with
        | cons h t =>
          refine .cons ?_ (ih t (by omega))
          have := g (i' - i) y _ (by omega) (by rw [show i + (i' - i) = i' by omega]; exact h)
          rw [show i + (i' - i) = i' by omega] at this
          exact this
    exact this t (by omega)
  | l, i, k + 1, _, _, .cons h t, e, f, g => by
    refine .cons (g 0 _ _ (by omega) h) (t.setL (k := k) (by simpa using e) (fun u q => ?_) fun j x u hj q => ?_)
    · have := f u (by rw [show i + (k + 1) = i + 1 + k by omega]; exact q)
      rw [show i + (k + 1) = i + 1 + k by omega] at this
      exact this
    · have := g (j + 1) x u (by omega) (by rw [show i + (j + 1) = i + 1 + j by omega]; exact q)
      rw [show i + (j + 1) = i + 1 + j by omega] at this
      exact this
/-- one part of an owned thing is turned into another, at its place -/
theorem Own.graft {K : PySem.W.Frag} {G H G' H' : Hp} {ow ow' : Ow} {y' : PV} (sg : Same G G') : ∀ {r : List Nat} {l : Lb} {x y : PV} {v : V}, Own K G H ow l x v → x.get r = some y →
    (∀ u, Own K G H ow (l ++ r) y u → Own K G' H' ow' (l ++ r) y' u) →
    (∀ p s o, ow p = some (l ++ s) → (¬ ∃ t, s = r ++ t) → H p = some o → H' p = some o ∧ ow' p = some (l ++ s)) → Own K G' H' ow' l (x.put r y') v
  | [], l, x, y, v, h, e, f, _ => by
    unfold PV.get at e
    cases e
    have := f v (by rw [List.append_nil]; exact h)
    rw [List.append_nil] at this
    unfold PV.put
    exact this
  | k :: r, l, x, y, v, h, e, f, g => by
    have key : ∀ {xs : List PV} {vs : List V} {c : PV}, OwnL K G H ow l 0 xs vs → xs[k]? = some c → c.get r = some y → OwnL K G' H' ow' l 0 (xs.set k (c.put r y')) vs := by
      intro xs vs c t e1 e2
      refine t.setL e1 (fun u q => ?_) fun j z u hj q => ?_
      · rw [Nat.zero_add] at q ⊢
        refine Own.graft sg q e2 (fun u' q' => ?_) fun p s o h1 h2 h3 => ?_
        · rw [List.append_assoc] at q' ⊢
          exact f u' q'
        · rw [List.append_assoc] at h1 ⊢
          exact g p _ o h1 (fun ⟨t', e'⟩ => h2 ⟨t', by injection e'⟩) h3
      · rw [Nat.zero_add] at q ⊢
        refine q.carry ⟨sg, fun p s o h1 h2 => ?_⟩
        rw [List.append_assoc] at h1 ⊢
        exact g p _ o h1 (fun ⟨t', e'⟩ => hj (by injection e')) h2
    have here : ∀ {p : Addr} {o : HO}, ow p = some l → H p = some o → H' p = some o ∧ ow' p = some l := fun {p o} h1 h2 => by
      have := g p [] o (by rw [List.append_nil]; exact h1) (fun ⟨t, e⟩ => by cases e) h2
      rw [List.append_nil] at this
      exact this
    unfold PV.get at e
    cases h with
    | fz _ => cases e
    | mls h1 h2 t =>
      unfold PV.put
      simp only [PV.kids] at e ⊢
      split at e
      · rename_i c hc
        simp only [hc, PV.re]
        exact .mls (here h1 h2).2 (here h1 h2).1 (key t hc e)
      · cases e
    | mdc h1 h2 h3 t =>
      unfold PV.put
      simp only [PV.kids] at e ⊢
      split at e
      · rename_i c hc
        simp only [hc, PV.re]
        exact .mdc (here h1 h2).2 (here h1 h2).1 h3 (key t hc e)
      · cases e
section
variable {K : PySem.W.Frag} {w : Wd} {L : Lc} {σ : Sl}
theorem at_some {i : Nat} {r : List Nat} {y : PV} (e : Lc.at L i r = some y) : ∃ x, L[i]? = some (some x) ∧ x.get r = some y := by
  unfold Lc.at at e
  split at e
  · rename_i x hx
    exact ⟨x, hx, e⟩
  · cases e
/-- a place of a slot is turned -/
theorem Rel.graft {i : Nat} {r : List Nat} {y y' : PV} {w' : Wd} (R : Rel K w L σ) (e : L.at i r = some y) (ok : w'.Ok) (sg : Same w.G w'.G)
    (f : ∀ u, Own K w.G w.H w.ow (i :: r) y u → Own K w'.G w'.H w'.ow (i :: r) y' u)
    (g : ∀ p s o, w.ow p = some s → (¬ ∃ t, s = (i :: r) ++ t) → w.H p = some o → w'.H p = some o ∧ w'.ow p = some s) : Rel K w' (L.setAt i r y') σ := by
  obtain ⟨x, hx, ex⟩ := at_some e
  have es : L.setAt i r y' = L.set i (some (x.put r y')) := by unfold Lc.setAt; rw [hx]
  rw [es]
  have hi : i < L.length := (List.getElem?_eq_some_iff.mp hx).1
  refine ⟨ok, by rw [List.length_set]; exact R.len, fun j z ez => ?_⟩
  by_cases hj : i = j
  · subst hj
    rw [List.getElem?_set_self hi] at ez
    cases ez
    obtain ⟨v, h1, h2⟩ := R.own i x hx
    refine ⟨v, h1, h2.graft sg ex f fun p s o q1 q2 q3 => g p _ o q1 (fun ⟨t, e'⟩ => q2 ⟨t, by injection e'⟩) q3⟩
  · rw [List.getElem?_set_ne hj] at ez
    obtain ⟨v, h1, h2⟩ := R.own j z ez
    exact ⟨v, h1, h2.carry ⟨sg, fun p s o q1 q2 => g p _ o q1 (fun ⟨t, e'⟩ => hj (by injection e' with e1 _; exact e1.symm)) q2⟩⟩
/-- the thing at a place -/
theorem Rel.part {i : Nat} {r : List Nat} {y : PV} (R : Rel K w L σ) (e : L.at i r = some y) : ∃ u, Own K w.G w.H w.ow (i :: r) y u := by
  obtain ⟨x, hx, ex⟩ := at_some e
  obtain ⟨v, h1, h2⟩ := R.own i x hx
  exact h2.part ex

/-- what is handed on to be kept for ever -/
def Hd.frz (L : Lc) : Hd → Option (PyData × Lc)
  | .fz d => some (d, L)
  | .tm x => some (x.toD, L)
  | .pl i r => match L.at i r with
    | some x => some (x.toD, L.setAt i r (.fz x.toD))
    | none => none
theorem HRep.own {a : Wd} {i : Nat} {r : List Nat} {v : V} {x : PV} (R : Rel K w L σ) (q : HRep K a w L σ (.pl i r) v) (e : L.at i r = some x) : Own K w.G w.H w.ow (i :: r) x v := by
  cases q with
  | pl _ e' q =>
    rw [e] at e'
    cases e'
    exact q
  | sl e' =>
    obtain ⟨y, hy, ey⟩ := at_some e
    unfold PV.get at ey
    cases ey
    obtain ⟨u, h1, h2⟩ := R.own i x hy
    rw [e'] at h1
    cases h1
    exact h2
open Classical in
theorem HRep.freezePl {a : Wd} {i : Nat} {r : List Nat} {v : V} {d : PyData} {L' : Lc} (R : Rel K w L σ) (s : Step a w) (q : HRep K a w L σ (.pl i r) v) (e : Hd.frz L (.pl i r) = some (d, L')) :
    ∃ G' ow', Rel K ⟨G', ow', w.H⟩ L' σ ∧ Step a ⟨G', ow', w.H⟩ ∧ Fz K G' v d ∧ Same w.G G' ∧ ∀ ot : Ow, Loose a w ot → Loose a ⟨G', ow', w.H⟩ ot := by
  have he : ∃ x, L.at i r = some x := by
    simp only [Hd.frz] at e
    split at e
    · exact ⟨_, by assumption⟩
    · cases e
  obtain ⟨x, ex⟩ := he
  have q := q.own R ex
  simp only [Hd.frz, ex] at e
  cases e
  have pn : ∀ {p : Addr} {t : Lb}, w.ow p = some ((i :: r) ++ t) → w.G p = none := fun {p t} h => (R.ok.mine p _ h).1
  have gsame : Same w.G fun p => if (∃ t, w.ow p = some ((i :: r) ++ t)) then w.H p else w.G p := fun p o ho => by
    show (if (∃ t, w.ow p = some ((i :: r) ++ t)) then w.H p else w.G p) = some o
    rw [if_neg fun ⟨t, z⟩ => by rw [pn z] at ho; cases ho]
    exact ho
  have fin : ∀ u, Own K w.G w.H w.ow (i :: r) x u → Fz K (fun p => if (∃ t, w.ow p = some ((i :: r) ++ t)) then w.H p else w.G p) u x.toD := fun u hu => by
    refine hu.data gsame fun p t o h1 h2 => ?_
    show (if (∃ t, w.ow p = some ((i :: r) ++ t)) then w.H p else w.G p) = some o
    rw [if_pos ⟨t, h1⟩]
    exact h2
  refine ⟨fun p => if (∃ t, w.ow p = some ((i :: r) ++ t)) then w.H p else w.G p, fun p => if (∃ t, w.ow p = some ((i :: r) ++ t)) then none else w.ow p, ?_, ⟨s.same.trans gsame, fun p o ho hn => ?_⟩, fin v q, gsame, fun ot lo => ⟨fun p l hl => ?_, lo.new, lo.inj⟩⟩
  · refine R.graft ex ⟨fun p o ho => ?_, fun p l hl => ?_, fun p q l h1 h2 => ?_⟩ gsame (fun u hu => .fz (fin u hu)) fun p t o h1 h2 h3 => ⟨h3, ?_⟩
    · have ho : (if (∃ t, w.ow p = some ((i :: r) ++ t)) then w.H p else w.G p) = some o := ho
      split at ho
      · exact ho
      · exact R.ok.same _ _ ho
    · have hl : (if (∃ t, w.ow p = some ((i :: r) ++ t)) then none else w.ow p) = some l := hl
      split at hl
      · cases hl
      · rename_i nz
        refine ⟨?_, (R.ok.mine p l hl).2⟩
        show (if (∃ t, w.ow p = some ((i :: r) ++ t)) then w.H p else w.G p) = none
        rw [if_neg nz]
        exact (R.ok.mine p l hl).1
    · have h1 : (if (∃ t, w.ow p = some ((i :: r) ++ t)) then none else w.ow p) = some l := h1
      have h2 : (if (∃ t, w.ow q = some ((i :: r) ++ t)) then none else w.ow q) = some l := h2
      split at h1
      · cases h1
      · split at h2
        · cases h2
        · exact R.ok.inj p q l h1 h2
    · show (if (∃ t, w.ow p = some ((i :: r) ++ t)) then none else w.ow p) = some t
      rw [if_neg fun ⟨t', z⟩ => h2 ⟨t', Option.some.inj (h1.symm.trans z)⟩]
      exact h1
  · obtain ⟨h1, n1, g1⟩ := s.keep p o ho hn
    refine ⟨h1, ?_, ?_⟩
    · show (if (∃ t, w.ow p = some ((i :: r) ++ t)) then none else w.ow p) = none
      split
      · rfl
      · exact n1
    · show (if (∃ t, w.ow p = some ((i :: r) ++ t)) then w.H p else w.G p) = a.G p
      rw [if_neg fun ⟨t, z⟩ => by rw [n1] at z; cases z]
      exact g1
  · obtain ⟨h1, h2, h3⟩ := lo.apart p l hl
    refine ⟨?_, ?_, h3⟩
    · show (if (∃ t, w.ow p = some ((i :: r) ++ t)) then none else w.ow p) = none
      split
      · rfl
      · exact h1
    · show (if (∃ t, w.ow p = some ((i :: r) ++ t)) then w.H p else w.G p) = none
      rw [if_neg fun ⟨t, z⟩ => by rw [h1] at z; cases z]
      exact h2
open Classical in
theorem HRep.freeze {a : Wd} {h : Hd} {v : V} {d : PyData} {L' : Lc} (R : Rel K w L σ) (s : Step a w) (q : HRep K a w L σ h v) (e : h.frz L = some (d, L')) :
    ∃ G' ow', Rel K ⟨G', ow', w.H⟩ L' σ ∧ Step a ⟨G', ow', w.H⟩ ∧ Fz K G' v d := by
  cases q with
  | fz q =>
    cases e
    exact ⟨w.G, w.ow, R, s, q⟩
  | @tm x _ ot lo q =>
    cases e
    have yes : ∀ {p : Addr}, (ot p).isSome = true → w.ow p = none ∧ w.G p = none ∧ ∃ o, w.H p = some o := fun {p} z => by
      obtain ⟨l, hl⟩ := Option.isSome_iff_exists.mp z
      exact lo.apart p l hl
    have gsame : Same w.G fun p => if (ot p).isSome = true then w.H p else w.G p := fun p o ho => by
      show (if (ot p).isSome = true then w.H p else w.G p) = some o
      rw [if_neg fun z => by rw [(yes z).2.1] at ho; cases ho]
      exact ho
    refine ⟨fun p => if (ot p).isSome = true then w.H p else w.G p, w.ow, ?_, ⟨s.same.trans gsame, fun p o ho hn => ?_⟩, ?_⟩
    · exact R.freeze (pr := fun p => (ot p).isSome = true) (fun p z => if_pos z) (fun p z => if_neg z) (fun p z => (yes z).2.1) fun p z => (yes z).1
    · obtain ⟨h1, n1, g1⟩ := s.keep p o ho hn
      refine ⟨h1, n1, ?_⟩
      show (if (ot p).isSome = true then w.H p else w.G p) = a.G p
      rw [if_neg (by rw [lo.new p o ho hn]; decide)]
      exact g1
    · refine q.data gsame fun p r o h1 h2 => ?_
      show (if (ot p).isSome = true then w.H p else w.G p) = some o
      rw [if_pos (by rw [h1]; rfl)]
      exact h2
  | sl e' =>
    obtain ⟨G', ow', h1, h2, h3, _⟩ := HRep.freezePl (a := a) R s (.sl e') e
    exact ⟨G', ow', h1, h2, h3⟩
  | pl nr ex q =>
    obtain ⟨G', ow', h1, h2, h3, _⟩ := HRep.freezePl (a := a) R s (.pl nr ex q) e
    exact ⟨G', ow', h1, h2, h3⟩
end
end Tk

set_option Elab.async false
set_option linter.all false
set_option maxRecDepth 100000
namespace Tk
open PySem PySem.Spec PyProof.Rows L2

/-! ### the small language -/
inductive Bi where
  | len | abs | int1 | repr | tuple1 | list1 | sorted1 | min2 | max2 | max1 | min1 | sum1 | all1 | any1 | str1
  deriving DecidableEq
mutual
inductive Tg where
  | nm (i : Nat)
  | tp (ts : Tgs)
inductive Tgs where
  | nil
  | cons (t : Tg) (ts : Tgs)
end
mutual
inductive E where
  | nm (i : Nat)
  | cst (d : PyData)
  | gc (x : Str) (i : Int)
  | tup (es : Es)
  | lst (es : Es)
  | dct (ks : List Str) (es : Es)
  | bin (o : Operator) (a b : E)
  | frz (a : E)
  | neg (a : E)
  | inv (a : E)
  | not (a : E)
  | and (a b : E)
  | or (a b : E)
  | cmp (o : CmpOp) (a b : E)
  | cmp2 (o o' : CmpOp) (a b c : E)
  | cmp3 (o o' o'' : CmpOp) (a b c d : E)
  | isN (a : E) (neg : Bool)
  | ite (c a b : E)
  | ix (a b : E)
  | sl (a : E) (lo hi : Es)
  | rev (a : E)
  | bi (b : Bi) (es : Es)
  | isi (e : E) (T : String)
  | lrg (it : It)
  | trg (it : It)
  | call (f : Str) (es : Es) (ks : List Str) (perm : List Nat)
  | app (o a : E)
  | appn (o : E) (i : Nat)
  | appd (o : E) (i j : Nat)
  | nen (o : E) (ne : Bool)
  | sset (a : E)
  | dget (o k d : E)
  | ext (o a : E)
  | pop (o : E)
  | popi (o a : E)
  | lc (elt : E) (tg : Tg) (it : It) (ifs : Es) (own : List (Str × Nat))
inductive Es where
  | nil
  | cons (e : E) (es : Es)
inductive It where
  | val (e : E)
  | rg1 (a : E)
  | rg2 (a b : E)
  | rg3 (a b c : E)
  | enu (e : E)
  | zip (es : Es)
end
def Es.len : Es → Nat
  | .nil => 0
  | .cons _ es => es.len + 1
mutual
inductive S where
  | set (i : Nat) (e : E)
  | asg (t : Tg) (e : E)
  | par (is : List Nat) (es : Es)
  | sst (o i e : E)
  | sst2 (o i o' i' v : E)
  | exp (e : E)
  | doc
  | ret (e : E)
  | retN
  | ite (c : E) (a b : Ss)
  | whl (c : E) (b : Ss)
  | for (t : Tg) (it : It) (b : Ss)
  | pass
  | brk
  | cont
inductive Ss where
  | nil
  | cons (s : S) (ss : Ss)
end

/-! ### what it means -/
structure Exn where
  cls : Str
  arg : Option PyData
abbrev QE := Hd → Lc → Prop
abbrev QX := Exn → Lc → Prop
structure Fn where
  nio : Nat
  sp : List PV → List PyData → (PV → List PV → Prop) → (Exn → List PV → Prop) → Prop
abbrev Fns := Str → Fn

/-- what a handle shows: frozen data; a list (still owned) of frozen things; anything else that is owned, as data now -/
inductive Vw where
  | d (d : PyData)
  | l (ds : List PyData)
  | o (d : PyData)
def Vw.dat : Vw → PyData
  | .d x => x
  | .l xs => .list xs
  | .o x => x
def allFz : List PV → Option (List PyData)
  | [] => some []
  | .fz d :: r => (allFz r).map (d :: ·)
  | _ :: _ => none
def PV.vw : PV → Vw
  | .fz d => .d d
  | .mls xs => match allFz xs with
    | some ds => .l ds
    | none => .o (PV.mls xs).toD
  | .mdc ks xs => .o (PV.mdc ks xs).toD
def Hd.vw (L : Lc) : Hd → Option Vw
  | .fz d => some (.d d)
  | .tm x => some x.vw
  | .pl i r => (L.at i r).map PV.vw
def vws (L : Lc) : List Hd → Option (List Vw)
  | [] => some []
  | h :: hs => match h.vw L, vws L hs with
    | some v, some vs => some (v :: vs)
    | _, _ => none
def Vw.asL : Vw → Option (List PyData)
  | .d (.list ds) => some ds
  | .l ds => some ds
  | _ => none
def Vw.asT : Vw → Option (List PyData)
  | .d (.tuple ds) => some ds
  | _ => none
def Vw.seq (v : Vw) : Option (List PyData) := match v.asL with
  | some ds => some ds
  | none => v.asT
/-- still there when further things are worked out -/
def Hd.stable : Hd → Bool
  | .pl _ (_ :: _) => false
  | _ => true
def PV.hd : PV → Hd
  | .fz d => .fz d
  | x => .tm x
def frzs (L : Lc) : List Hd → Option (List PyData × Lc)
  | [] => some ([], L)
  | h :: hs => match h.frz L with
    | some (d, L') => match frzs L' hs with
      | some (ds, L'') => some (d :: ds, L'')
      | none => none
    | none => none
/-- what a thing given becomes as a part of a new list -/
def Hd.kid (L : Lc) : Hd → Option (PV × Lc)
  | .fz d => some (.fz d, L)
  | .tm x => some (x, L)
  | .pl i r => match Hd.frz L (.pl i r) with
    | some (d, L') => some (.fz d, L')
    | none => none
def kidsOf (L : Lc) : List Hd → Option (List PV × Lc)
  | [] => some ([], L)
  | h :: hs => match h.kid L with
    | some (x, L') => match kidsOf L' hs with
      | some (xs, L'') => some (x :: xs, L'')
      | none => none
    | none => none
def fzL (ds : List PyData) : PV := .mls (ds.map .fz)

def MulOk (i j : Int) : Prop := CMul i j ∨ CMulW i j
/-- a op b -/
def bop (o : Operator) (v w : Vw) (Q : PV → Prop) : Prop :=
  (∃ i j, v = .d (.int i) ∧ w = .d (.int j) ∧ match o with
    | .Add => Q (.fz (.int (i + j)))
    | .Sub => Q (.fz (.int (i - j)))
    | .Mult => MulOk i j ∧ Q (.fz (.int (i * j)))
    | .FloorDiv => (0 < j ∧ j.natAbs.log2 < 9000) ∧ Q (.fz (.int (i / j)))
    | .Mod => 0 < j ∧ Q (.fz (.int (i % j)))
    | .Pow => CPow i j ∧ Q (.fz (.int (i ^ j.toNat)))
    | .LShift => CPow i j ∧ Q (.fz (.int (i * 2 ^ j.toNat)))
    | .RShift => 0 ≤ j ∧ Q (.fz (.int (i / 2 ^ j.toNat)))
    | .BitAnd => Q (.fz (.int (Builtin.bitAnd i j)))
    | .BitOr => Q (.fz (.int (Builtin.bitOr i j)))
    | .BitXor => Q (.fz (.int (Builtin.bitXor i j)))
    | _ => False) ∨
  (o = .Add ∧ ∃ x y, v = .d (.str x) ∧ w = .d (.str y) ∧ x.length + y.length ≤ sizeLine ∧ Q (.fz (.str (x ++ y)))) ∨
  (o = .Add ∧ ∃ xs ys, v.asL = some xs ∧ w.asL = some ys ∧ xs.length + ys.length ≤ sizeLine ∧ Q (fzL (xs ++ ys))) ∨
  (o = .Add ∧ ∃ xs ys, v.asT = some xs ∧ w.asT = some ys ∧ xs.length + ys.length ≤ sizeLine ∧ Q (.fz (.tuple (xs ++ ys)))) ∨
  (o = .Mult ∧ ∃ xs k, v.asL = some xs ∧ w = .d (.int k) ∧ (-(2 ^ 63) ≤ k ∧ k < 2 ^ 63) ∧ xs.length * k.toNat ≤ sizeLine ∧ Q (fzL (List.replicate k.toNat xs).flatten)) ∨
  (o = .Mult ∧ ∃ xs k, v.asT = some xs ∧ w = .d (.int k) ∧ (xs ≠ [] ∧ 2 ≤ k ∧ k ≤ 2000 ∧ xs.length ≤ 1000) ∧ Q (.fz (.tuple (List.replicate k.toNat xs).flatten)))
/-- plain data that == and != compare -/
def eqOk (d e : PyData) : Prop := SeqAt.shaped d = true ∧ SeqAt.shaped e = true
def lexI : List Int → List Int → Bool := HT.lexLt
def cop (o : CmpOp) (v w : Vw) (Q : Bool → Prop) : Prop :=
  match o with
  | .Eq => (eqOk v.dat w.dat ∧ Q (PyData.eqv v.dat w.dat)) ∨ (∃ x y, v = .d (.str x) ∧ w = .d (.str y) ∧ Q (decide (x = y))) ∨ ∃ xs, v.asL = some xs ∧ w.asL = some [] ∧ Q xs.isEmpty
  | .NotEq => (eqOk v.dat w.dat ∧ Q (!PyData.eqv v.dat w.dat)) ∨ (∃ x y, v = .d (.str x) ∧ w = .d (.str y) ∧ Q (!decide (x = y))) ∨ ∃ xs, v.asL = some xs ∧ w.asL = some [] ∧ Q (!xs.isEmpty)
  | .Lt => (∃ i j, v = .d (.int i) ∧ w = .d (.int j) ∧ Q (decide (i < j))) ∨ ∃ xs ys, v = .d (.tuple (xs.map .int)) ∧ w = .d (.tuple (ys.map .int)) ∧ Q (lexI xs ys)
  | .LtE => (∃ i j, v = .d (.int i) ∧ w = .d (.int j) ∧ Q (decide (i ≤ j))) ∨ ∃ xs ys, v = .d (.tuple (xs.map .int)) ∧ w = .d (.tuple (ys.map .int)) ∧ Q (!lexI ys xs)
  | .Gt => (∃ i j, v = .d (.int i) ∧ w = .d (.int j) ∧ Q (decide (j < i))) ∨ ∃ xs ys, v = .d (.tuple (xs.map .int)) ∧ w = .d (.tuple (ys.map .int)) ∧ Q (lexI ys xs)
  | .GtE => ∃ i j, v = .d (.int i) ∧ w = .d (.int j) ∧ Q (decide (j ≤ i))
  | .In => ∃ ds, v = .d v.dat ∧ w.seq = some ds ∧ eqOk v.dat w.dat ∧ Q (ds.any fun z => PyData.eqv z v.dat)
  | .NotIn => ∃ ds, v = .d v.dat ∧ w.seq = some ds ∧ eqOk v.dat w.dat ∧ Q (!ds.any fun z => PyData.eqv z v.dat)
  | .Is => ∃ a b, v = .d (.bool a) ∧ w = .d (.bool b) ∧ Q (decide (a = b))
  | .IsNot => ∃ a b, v = .d (.bool a) ∧ w = .d (.bool b) ∧ Q (!decide (a = b))
/-- built-in functions -/
def bip (b : Bi) (vs : List Vw) (Q : PV → Prop) : Prop :=
  match b with
  | .len => ∃ v ds, vs = [v] ∧ v.seq = some ds ∧ Q (.fz (.int ds.length))
  | .abs => ∃ i, vs = [.d (.int i)] ∧ Q (.fz (.int (if i < 0 then -i else i)))
  | .int1 => (∃ i, vs = [.d (.int i)] ∧ Q (.fz (.int i))) ∨ ∃ k : Bool, vs = [.d (.bool k)] ∧ Q (.fz (.int (if k then 1 else 0)))
  | .repr => ∃ v, vs = [v] ∧ v.dat.showable = true ∧ v.dat.depth ≤ 100 ∧ v.dat.shown.length ≤ sizeLine ∧ Q (.fz (.str v.dat.shown))
  | .tuple1 => ∃ v ds, vs = [v] ∧ v.seq = some ds ∧ Q (.fz (.tuple ds))
  | .list1 => ∃ v ds, vs = [v] ∧ v.seq = some ds ∧ Q (fzL ds)
  | .sorted1 => ∃ v ns, vs = [v] ∧ v.seq = some (List.map PyData.int ns) ∧ ∀ ms : List Int, ms.Perm ns → ms.Pairwise (· ≤ ·) → Q (fzL (ms.map .int))
  | .min2 => ∃ i j, vs = [.d (.int i), .d (.int j)] ∧ Q (.fz (.int (min i j)))
  | .max2 => ∃ i j, vs = [.d (.int i), .d (.int j)] ∧ Q (.fz (.int (max i j)))
  | .max1 => ∃ v ns, vs = [v] ∧ v.seq = some (List.map PyData.int ns) ∧ ns ≠ [] ∧ ∀ m, m ∈ ns → (∀ y ∈ ns, y ≤ m) → Q (.fz (.int m))
  | .min1 => ∃ v ns, vs = [v] ∧ v.seq = some (List.map PyData.int ns) ∧ ns ≠ [] ∧ ∀ m, m ∈ ns → (∀ y ∈ ns, m ≤ y) → Q (.fz (.int m))
  | .sum1 => ∃ v ns, vs = [v] ∧ v.asL = some (List.map PyData.int ns) ∧ Q (.fz (.int ns.sum))
  | .all1 => ∃ v bs, vs = [v] ∧ v.asL = some (List.map PyData.bool bs) ∧ Q (.fz (.bool (bs.all id)))
  | .any1 => ∃ v bs, vs = [v] ∧ v.asL = some (List.map PyData.bool bs) ∧ Q (.fz (.bool (bs.any id)))
  | .str1 => ∃ i, vs = [.d (.int i)] ∧ i.natAbs.log2 < 1920 ∧ Q (.fz (.str (toString i)))
def isNon : PyData → Bool
  | .none => true
  | _ => false
def isiB (T : String) : PyData → Option Bool
  | .none => some (T == "NoneType")
  | .bool _ => some (T == "bool" || T == "int")
  | .int _ => some (T == "int")
  | .str _ => some (T == "str")
  | .list _ => some (T == "list")
  | .tuple _ => some (T == "tuple")
  | .dict _ => some (T == "dict")
def keyOf : PyData → Option Key
  | .int i => some (.inl i)
  | .str x => some (.inr x)
  | _ => none
def kidHd (i : Nat) (r : List Nat) (j : Nat) : PV → Hd
  | .fz d => .fz d
  | _ => .pl i (r ++ [j])
/-- o[i], o a handle -/
def ixp (L : Lc) (h : Hd) (k : PyData) (Q : Hd → Prop) : Prop :=
  match h with
  | .fz (.list ds) => ∃ i d, k = .int i ∧ atI ds i = some d ∧ Q (.fz d)
  | .fz (.tuple ds) => ∃ i d, k = .int i ∧ atI ds i = some d ∧ Q (.fz d)
  | .fz _ => False
  | .pl i r => match L.at i r with
    | some (.mls xs) => ∃ z j x, k = .int z ∧ ixN xs.length z = some j ∧ xs[j]? = some x ∧ Q (kidHd i r j x)
    | some (.mdc ks xs) => ∃ z j x, keyOf k = some z ∧ ks.Nodup ∧ ks[j]? = some z ∧ xs[j]? = some x ∧ Q (kidHd i r j x)
    | some (.fz (.list ds)) => ∃ z d, k = .int z ∧ atI ds z = some d ∧ Q (.fz d)
    | some (.fz (.tuple ds)) => ∃ z d, k = .int z ∧ atI ds z = some d ∧ Q (.fz d)
    | _ => False
  | .tm x => match allFz x.kids with
    | some ds => ∃ i d xs, x = .mls xs ∧ k = .int i ∧ atI ds i = some d ∧ Q (.fz d)
    | none => False
def optI : Option PyData → Option (Option Int)
  | none => some none
  | some (.int i) => some (some i)
  | _ => none
def cutD (xs : List PyData) (lo hi : Option Int) : List PyData := (xs.drop (HT.sIx xs.length 0 lo)).take (HT.sIx xs.length xs.length hi - HT.sIx xs.length 0 lo)
def slp (v : Vw) (lo hi : Option Int) (Q : PV → Prop) : Prop :=
  (∃ ds, v.asL = some ds ∧ Q (fzL (cutD ds lo hi))) ∨ (∃ ds, v.asT = some ds ∧ Q (.fz (.tuple (cutD ds lo hi))))
/-- a list that is owned, at its place -/
def Hd.isL (L : Lc) : Hd → Prop
  | .pl i r => match L.at i r with
    | some (.mls _) => True
    | _ => False
  | _ => False
def Hd.isD (L : Lc) : Hd → Prop
  | .pl i r => match L.at i r with
    | some (.mdc _ _) => True
    | _ => False
  | _ => False
def Hd.isB (h : Hd) (Q : Bool → Prop) : Prop := ∃ b, h = .fz (.bool b) ∧ Q b

mutual
/-- a loop's target takes a piece of data -/
def Tg.asg : Tg → PyData → Lc → Option Lc
  | .nm i, d, L => if i < L.length then some (L.set i (some (.fz d))) else none
  | .tp ts, .tuple ds, L => Tgs.asg ts ds L
  | .tp ts, .list ds, L => Tgs.asg ts ds L
  | .tp ts, _, L => none
def Tgs.asg : Tgs → List PyData → Lc → Option Lc
  | .nil, [], L => some L
  | .cons t ts, d :: ds, L => match Tg.asg t d L with
    | some L' => Tgs.asg ts ds L'
    | none => none
  | _, _, _ => none
end
mutual
def Tg.vars : Tg → List Nat
  | .nm i => [i]
  | .tp ts => Tgs.vars ts
def Tgs.vars : Tgs → List Nat
  | .nil => []
  | .cons t ts => Tg.vars t ++ Tgs.vars ts
end
def Tgs.len : Tgs → Nat
  | .nil => 0
  | .cons _ ts => ts.len + 1
def wipeL (L : Lc) : List Nat → Lc
  | [] => L
  | v :: vs => (wipeL L vs).set v none
def keepFz : Option (Option PV) → Option PV
  | some (some (.fz d)) => some (.fz d)
  | _ => none
/-- behind a comprehension: of the slots of its own names only what was frozen ahead of it is still known -/
def backL (L L2 : Lc) : List Nat → Lc
  | [] => L2
  | v :: vs => (backL L L2 vs).set v (keepFz L[v]?)
/-- a comprehension's turns -/
def lcRun (body : PyData → Lc → (Option PV → Lc → Prop) → Prop) (own : List Nat) : List PyData → List PV → Lc → (List PV → Lc → Prop) → Prop
  | [], acc, L, Q => Q acc L
  | d :: ds, acc, L, Q => body d (wipeL L own) fun y L' => match y with
    | some x => acc.length < sizeLine ∧ lcRun body own ds (acc ++ [x]) L' Q
    | none => lcRun body own ds acc L' Q
def getAll (L : Lc) : List Nat → Option (List PV)
  | [] => some []
  | i :: is => match L[i]?, getAll L is with
    | some (some x), some r => some (x :: r)
    | _, _ => none
def setAll (L : Lc) : List Nat → List PV → Lc
  | i :: is, x :: xs => setAll (L.set i (some x)) is xs
  | _, _ => L
inductive Itm where
  | sl (i : Nat)
  | dt (d : PyData)
/-- the arguments as they are written: which ones hand a slot over, the others are frozen -/
def prep (ios : List Nat) : Nat → List Hd → Lc → Option (List Itm × Lc)
  | _, [], L => some ([], L)
  | t, h :: hs, L => if ios.contains t then (match h with
      | .pl i [] => (match prep ios (t + 1) hs L with
        | some (its, L') => some (.sl i :: its, L')
        | none => none)
      | _ => none) else match h.frz L with
    | some (d, L') => (match prep ios (t + 1) hs L' with
      | some (its, L'') => some (.dt d :: its, L'')
      | none => none)
    | none => none
def pickS (its : List Itm) : List Nat → Option (List Nat)
  | [] => some []
  | j :: js => match its[j]?, pickS its js with
    | some (.sl i), some r => some (i :: r)
    | _, _ => none
def pickD (its : List Itm) : List Nat → Option (List PyData)
  | [] => some []
  | j :: js => match its[j]?, pickD its js with
    | some (.dt d), some r => some (d :: r)
    | _, _ => none
/-- perm: for each parameter the place of its argument in the text -/
def callp (fn : Fn) (perm : List Nat) (hs : List Hd) (L : Lc) (Q : QE) (X : QX) : Prop :=
  ∃ its L' is ds xs, prep (perm.take fn.nio) 0 hs L = some (its, L') ∧ pickS its (perm.take fn.nio) = some is ∧ pickD its (perm.drop fn.nio) = some ds ∧ is.Nodup ∧ is.length = fn.nio ∧ getAll L' is = some xs ∧
    fn.sp xs ds (fun r ys => ys.length = xs.length ∧ Q r.hd (setAll L' is ys)) fun e ys => ys.length = xs.length ∧ X e (setAll L' is ys)
def rgI (a c : Int) : Nat → List PyData
  | 0 => []
  | n + 1 => .int a :: rgI (a + c) c n
def rgD (a : Int) (n : Nat) : List PyData := rgI a 1 n
def rgN (a : Int) (n : Nat) : List PyData := rgI a (-1) n
def enuD (k : Int) : List PyData → List PyData
  | [] => []
  | d :: ds => .tuple [.int k, d] :: enuD (k + 1) ds
def zipD : List PyData → List PyData → List PyData
  | d :: ds, e :: es => .tuple [d, e] :: zipD ds es
  | _, _ => []

mutual
def wE (Φ : Fns) : E → Lc → QE → QX → Prop
  | .nm i, L, Q, X => match L[i]? with
    | some (some (.fz d)) => Q (.fz d) L
    | some (some _) => Q (.pl i []) L
    | _ => False
  | .cst d, L, Q, X => Q (.fz d) L
  | .gc x i, L, Q, X => Q (.fz (.int i)) L
  | .tup es, L, Q, X => wA Φ es L (fun hs L1 => ∃ ds L2, frzs L1 hs = some (ds, L2) ∧ ds.length ≤ sizeLine ∧ Q (.fz (.tuple ds)) L2) X
  | .lst es, L, Q, X => wA Φ es L (fun hs L1 => ∃ xs L2, kidsOf L1 hs = some (xs, L2) ∧ xs.length ≤ sizeLine ∧ Q (.tm (.mls xs)) L2) X
  | .dct ks es, L, Q, X => wA Φ es L (fun hs L1 => ∃ xs L2, kidsOf L1 hs = some (xs, L2) ∧ xs.length = ks.length ∧ xs.length ≤ 15 ∧ ks.Nodup ∧ Q (.tm (.mdc (ks.map .inr) xs)) L2) X
  | .bin o a b, L, Q, X => wE Φ a L (fun h L1 => h.stable = true ∧ wE Φ b L1 (fun g L2 => ∃ v w, h.vw L2 = some v ∧ g.vw L2 = some w ∧ bop o v w fun r => Q r.hd L2) X) X
  | .frz a, L, Q, X => wE Φ a L (fun h L1 => ∃ d L2, h.frz L1 = some (d, L2) ∧ Q (.fz d) L2) X
  | .neg a, L, Q, X => wE Φ a L (fun h L1 => ∃ i, h = .fz (.int i) ∧ Q (.fz (.int (-i))) L1) X
  | .inv a, L, Q, X => wE Φ a L (fun h L1 => ∃ i, h = .fz (.int i) ∧ Q (.fz (.int (Builtin.bitNot i))) L1) X
  | .not a, L, Q, X => wE Φ a L (fun h L1 => h.isB fun c => Q (.fz (.bool (!c))) L1) X
  | .and a b, L, Q, X => wE Φ a L (fun h L1 => h.isB fun c => (c = true → wE Φ b L1 Q X) ∧ (c = false → Q (.fz (.bool false)) L1)) X
  | .or a b, L, Q, X => wE Φ a L (fun h L1 => h.isB fun c => (c = false → wE Φ b L1 Q X) ∧ (c = true → Q (.fz (.bool true)) L1)) X
  | .cmp o a b, L, Q, X => wE Φ a L (fun h L1 => h.stable = true ∧ wE Φ b L1 (fun g L2 => ∃ v w, h.vw L2 = some v ∧ g.vw L2 = some w ∧ cop o v w fun r => Q (.fz (.bool r)) L2) X) X
  | .cmp2 o o' a b c, L, Q, X => wE Φ a L (fun h L1 => h.stable = true ∧ wE Φ b L1 (fun g L2 => g.stable = true ∧ ∃ v w, h.vw L2 = some v ∧ g.vw L2 = some w ∧ cop o v w fun r =>
      (r = true → wE Φ c L2 (fun k L3 => ∃ w' u, g.vw L3 = some w' ∧ k.vw L3 = some u ∧ cop o' w' u fun r' => Q (.fz (.bool r')) L3) X) ∧ (r = false → Q (.fz (.bool false)) L2)) X) X
  | .cmp3 o o' o'' a b c d, L, Q, X => wE Φ a L (fun h L1 => h.stable = true ∧ wE Φ b L1 (fun g L2 => g.stable = true ∧ ∃ v w, h.vw L2 = some v ∧ g.vw L2 = some w ∧ cop o v w fun r =>
      (r = true → wE Φ c L2 (fun k L3 => k.stable = true ∧ ∃ w' u, g.vw L3 = some w' ∧ k.vw L3 = some u ∧ cop o' w' u fun r' =>
        (r' = true → wE Φ d L3 (fun l L4 => ∃ u' t, k.vw L4 = some u' ∧ l.vw L4 = some t ∧ cop o'' u' t fun r'' => Q (.fz (.bool r'')) L4) X) ∧ (r' = false → Q (.fz (.bool false)) L3)) X) ∧ (r = false → Q (.fz (.bool false)) L2)) X) X
  | .isN a ng, L, Q, X => wE Φ a L (fun h L1 => ∃ v, h.vw L1 = some v ∧ Q (.fz (.bool (isNon v.dat != ng))) L1) X
  | .ite c a b, L, Q, X => wE Φ c L (fun h L1 => h.isB fun r => (r = true → wE Φ a L1 Q X) ∧ (r = false → wE Φ b L1 Q X)) X
  | .ix a b, L, Q, X => wE Φ a L (fun h L1 => h.stable = true ∧ wE Φ b L1 (fun g L2 => ∃ d, g = .fz d ∧ ixp L2 h d fun r => Q r L2) X) X
  | .sl a lo hi, L, Q, X => wE Φ a L (fun h L1 => h.stable = true ∧ wO Φ lo L1 (fun l L2 => wO Φ hi L2 (fun u L3 => ∃ v, h.vw L3 = some v ∧ slp v l u fun r => Q r.hd L3) X) X) X
  | .rev a, L, Q, X => wE Φ a L (fun h L1 => ∃ v ds, h.vw L1 = some v ∧ ((v.asL = some ds ∧ Q (.tm (fzL ds.reverse)) L1) ∨ (v.asT = some ds ∧ Q (.fz (.tuple ds.reverse)) L1))) X
  | .bi b es, L, Q, X => wA Φ es L (fun hs L1 => ∃ vs, vws L1 hs = some vs ∧ bip b vs fun r => Q r.hd L1) X
  | .isi e T, L, Q, X => wE Φ e L (fun h L1 => ∃ v b, h.vw L1 = some v ∧ isiB T v.dat = some b ∧ Q (.fz (.bool b)) L1) X
  | .lrg it, L, Q, X => wI Φ it L (fun ds L1 => Q (.tm (fzL ds)) L1) X
  | .trg it, L, Q, X => wI Φ it L (fun ds L1 => Q (.fz (.tuple ds)) L1) X
  | .call f es ks perm, L, Q, X => wA Φ es L (fun hs L1 => callp (Φ f) perm hs L1 Q X) X
  | .app o a, L, Q, X => wE Φ o L (fun h L1 => h.stable = true ∧ h.isL L1 ∧ wE Φ a L1 (fun g L2 => ∃ i r xs x L3, h = .pl i r ∧ g.kid L2 = some (x, L3) ∧ L3.at i r = some (.mls xs) ∧ xs.length < sizeLine ∧ Q (.fz .none) (L3.setAt i r (.mls (xs ++ [x])))) X) X
  | .appn o i, L, Q, X => wE Φ o L (fun h L1 => ∃ j r xs d, h = .pl j r ∧ L1[i]? = some (some (.fz d)) ∧ L1.at j r = some (.mls xs) ∧ xs.length < sizeLine ∧ Q (.fz .none) (L1.setAt j r (.mls (xs ++ [.fz d])))) X
  | .appd o i k, L, Q, X => wE Φ o L (fun h L1 => ∃ j r xs a b, h = .pl j r ∧ L1[i]? = some (some (.fz (.int a))) ∧ L1[k]? = some (some (.fz (.int b))) ∧ (0 < b ∧ b.natAbs.log2 < 9000) ∧ L1.at j r = some (.mls xs) ∧ xs.length < sizeLine ∧
      Q (.fz .none) (L1.setAt j r (.mls (xs ++ [.fz (.int (a / b))])))) X
  | .nen o ne, L, Q, X => wE Φ o L (fun h L1 => ∃ v ds, h.vw L1 = some v ∧ v.asL = some ds ∧ Q (.fz (.bool (ds.isEmpty != ne))) L1) X
  | .sset a, L, Q, X => wE Φ a L (fun h L1 => ∃ v ns, h.vw L1 = some v ∧ v.seq = some (List.map PyData.int ns) ∧ ns.length ≤ 4000 ∧ (∃ u : List Int, u.length ≤ 63 ∧ ∀ k ∈ ns, k ∈ u) ∧ ∀ ms : List Int, ms.Pairwise (· < ·) → (∀ k, k ∈ ms ↔ k ∈ ns) → Q (.tm (fzL (ms.map .int))) L1) X
  | .dget o k d, L, Q, X => wE Φ o L (fun h L1 => h.stable = true ∧ h.isD L1 ∧ wE Φ k L1 (fun g L2 => ∃ kd, g = .fz kd ∧ wE Φ d L2 (fun f L3 => ∃ i r ks xs z dd, h = .pl i r ∧ L3.at i r = some (.mdc ks xs) ∧ keyOf kd = some z ∧ ks.Nodup ∧ f = .fz dd ∧
      ((∃ (j : Nat) (x : PyData), ks[j]? = some z ∧ xs[j]? = some (PV.fz x) ∧ Q (Hd.fz x) L3) ∨ (z ∉ ks ∧ Q (Hd.fz dd) L3))) X) X) X
  | .ext o a, L, Q, X => wE Φ o L (fun h L1 => h.stable = true ∧ h.isL L1 ∧ wE Φ a L1 (fun g L2 => ∃ i r xs v ds, h = .pl i r ∧ L2.at i r = some (.mls xs) ∧ g.vw L2 = some v ∧ v.asL = some ds ∧ xs.length + ds.length ≤ sizeLine ∧
      Q (.fz .none) (L2.setAt i r (.mls (xs ++ ds.map .fz)))) X) X
  | .pop o, L, Q, X => wE Φ o L (fun h L1 => ∃ i r xs d, h = .pl i r ∧ L1.at i r = some (.mls (xs ++ [.fz d])) ∧ Q (.fz d) (L1.setAt i r (.mls xs))) X
  | .popi o a, L, Q, X => wE Φ o L (fun h L1 => h.stable = true ∧ h.isL L1 ∧ wE Φ a L1 (fun g L2 => ∃ i r ds z k d, h = .pl i r ∧ L2.at i r = some (fzL ds) ∧ g = .fz (.int z) ∧ (-(2 ^ 63) ≤ z ∧ z < 2 ^ 63) ∧ seqIndex? z ds.length = some k ∧ ds[k]? = some d ∧
      Q (.fz d) (L2.setAt i r (fzL (ds.eraseIdx k)))) X) X
  | .lc elt tg it ifs own, L, Q, X => wI Φ it L (fun ds L1 => lcRun (fun d L2 R => ∃ L3, tg.asg d L2 = some L3 ∧ wT Φ ifs L3 (fun b L4 => if b = true then wE Φ elt L4 (fun h L5 => ∃ x L6, h.kid L5 = some (x, L6) ∧ R (some x) L6) (fun _ _ => False) else R none L4) (fun _ _ => False))
      (own.map (·.2)) ds [] L1 fun acc L2 => Q (.tm (.mls acc)) (backL L1 L2 (own.map (·.2)))) X
/-- arguments, from the left -/
def wA (Φ : Fns) : Es → Lc → (List Hd → Lc → Prop) → QX → Prop
  | .nil, L, Q, X => Q [] L
  | .cons e es, L, Q, X => wE Φ e L (fun h L1 => (h.stable = true ∨ es.len = 0) ∧ wB Φ es L1 (fun hs L2 => Q (h :: hs) L2) X) X
def wB (Φ : Fns) : Es → Lc → (List Hd → Lc → Prop) → QX → Prop
  | .nil, L, Q, X => Q [] L
  | .cons e es, L, Q, X => wE Φ e L (fun h L1 => h.stable = true ∧ wB Φ es L1 (fun hs L2 => Q (h :: hs) L2) X) X
/-- a part of a slice -/
def wO (Φ : Fns) : Es → Lc → (Option Int → Lc → Prop) → QX → Prop
  | .nil, L, Q, X => Q none L
  | .cons e es, L, Q, X => wE Φ e L (fun h L1 => ∃ i, h = .fz (.int i) ∧ Q (some i) L1) X
/-- a comprehension's test -/
def wT (Φ : Fns) : Es → Lc → (Bool → Lc → Prop) → QX → Prop
  | .nil, L, Q, X => Q true L
  | .cons e es, L, Q, X => wE Φ e L (fun h L1 => h.isB fun b => Q b L1) X
/-- what is walked -/
def wI (Φ : Fns) : It → Lc → (List PyData → Lc → Prop) → QX → Prop
  | .val e, L, Q, X => wE Φ e L (fun h L1 => ∃ d L2 ds, h.frz L1 = some (d, L2) ∧ (d = .list ds ∨ d = .tuple ds) ∧ Q ds L2) X
  | .rg1 a, L, Q, X => wE Φ a L (fun h L1 => ∃ j, h = .fz (.int j) ∧ (-(2 ^ 62) ≤ j ∧ j < 2 ^ 62 ∧ j.toNat ≤ 2 ^ 24) ∧ Q (rgD 0 j.toNat) L1) X
  | .rg2 a b, L, Q, X => wE Φ a L (fun h L1 => wE Φ b L1 (fun g L2 => ∃ i j, h = .fz (.int i) ∧ g = .fz (.int j) ∧ (-(2 ^ 62) ≤ i ∧ i < 2 ^ 62 ∧ -(2 ^ 62) ≤ j ∧ j < 2 ^ 62 ∧ (j - i).toNat ≤ 2 ^ 24) ∧ Q (rgD i (j - i).toNat) L2) X) X
  | .rg3 a b c, L, Q, X => wE Φ a L (fun h L1 => wE Φ b L1 (fun g L2 => wE Φ c L2 (fun k L3 => ∃ i j, h = .fz (.int i) ∧ g = .fz (.int j) ∧ k = .fz (.int (-1)) ∧ (-(2 ^ 62) ≤ i ∧ i < 2 ^ 62 ∧ -(2 ^ 62) ≤ j ∧ j < 2 ^ 62 ∧ (i - j).toNat ≤ 2 ^ 24) ∧ Q (rgN i (i - j).toNat) L3) X) X) X
  | .enu e, L, Q, X => wE Φ e L (fun h L1 => ∃ d L2 ds, h.frz L1 = some (d, L2) ∧ (d = .list ds ∨ d = .tuple ds) ∧ Q (enuD 0 ds) L2) X
  | .zip es, L, Q, X => wA Φ es L (fun hs L1 => ∃ d e L2 ds fs, frzs L1 hs = some ([d, e], L2) ∧ ((d = .list ds ∧ e = .list fs) ∨ (d = .tuple ds ∧ e = .tuple fs)) ∧ Q (zipD ds fs) L2) X
end

structure Pt where
  nx : Lc → Prop
  rt : PV → Lc → Prop
  bk : Lc → Prop
  ct : Lc → Prop
  ex : QX
def forRun (body : PyData → Lc → Pt → Prop) : List PyData → Lc → Pt → Prop
  | [], L, P => P.nx L
  | d :: ds, L, P => body d L { P with nx := fun L' => forRun body ds L' P, ct := fun L' => forRun body ds L' P, bk := P.nx }
/-- a value goes into a slot -/
def Hd.into (i : Nat) (h : Hd) (L : Lc) (Q : Lc → Prop) : Prop := ∃ x L', h.kid L = some (x, L') ∧ i < L'.length ∧ Q (L'.set i (some x))
/-- o[k] = x, o a handle -/
def sstp (h : Hd) (k : PyData) (x : PV) (L : Lc) (Q : Lc → Prop) : Prop := ∃ i r, h = .pl i r ∧
  ((∃ xs z j, L.at i r = some (.mls xs) ∧ k = .int z ∧ ixN xs.length z = some j ∧ Q (L.setAt i r (.mls (xs.set j x)))) ∨
   (∃ ks xs z, L.at i r = some (.mdc ks xs) ∧ keyOf k = some z ∧ ks.Nodup ∧ ks.length < sizeLine ∧ ((∃ j, ks[j]? = some z ∧ Q (L.setAt i r (.mdc ks (xs.set j x)))) ∨ (z ∉ ks ∧ Q (L.setAt i r (.mdc (ks ++ [z]) (xs ++ [x])))))))
def setSlots (L : Lc) : List Nat → List PV → Lc
  | i :: is, x :: xs => (setSlots L is xs).set i (some x)
  | _, _ => L
mutual
def wS (Φ : Fns) : S → Lc → Pt → Prop
  | .set i e, L, P => wE Φ e L (fun h L1 => h.into i L1 P.nx) P.ex
  | .asg t e, L, P => wE Φ e L (fun h L1 => ∃ d L2 L3, h.frz L1 = some (d, L2) ∧ t.asg d L2 = some L3 ∧ P.nx L3) P.ex
  | .par is es, L, P => wA Φ es L (fun hs L1 => ∃ xs L2, kidsOf L1 hs = some (xs, L2) ∧ xs.length = is.length ∧ (∀ i ∈ is, i < L2.length) ∧ P.nx (setAll L2 is xs)) P.ex
  | .sst o i e, L, P => wE Φ e L (fun h L1 => ∃ x L2, h.kid L1 = some (x, L2) ∧ wE Φ o L2 (fun g L3 => g.stable = true ∧ wE Φ i L3 (fun k L4 => ∃ d, k = .fz d ∧ sstp g d x L4 P.nx) P.ex) P.ex) P.ex
  | .sst2 o i o' i' v, L, P => wE Φ v L (fun h L1 => ∃ d d', h = .fz (.tuple [d, d']) ∧
      wE Φ o L1 (fun g L3 => g.stable = true ∧ wE Φ i L3 (fun k L4 => ∃ z, k = .fz z ∧ sstp g z (.fz d) L4 fun L5 =>
        wE Φ o' L5 (fun g' L6 => g'.stable = true ∧ wE Φ i' L6 (fun k' L7 => ∃ z', k' = .fz z' ∧ sstp g' z' (.fz d') L7 P.nx) P.ex) P.ex) P.ex) P.ex) P.ex
  | .exp e, L, P => wE Φ e L (fun _ L1 => P.nx L1) P.ex
  | .doc, L, P => P.nx L
  | .ret e, L, P => wE Φ e L (fun h L1 => ∃ x L2, h.kid L1 = some (x, L2) ∧ P.rt x L2) P.ex
  | .retN, L, P => P.rt (.fz .none) L
  | .ite c a b, L, P => wE Φ c L (fun h L1 => h.isB fun r => (r = true → wSs Φ a L1 P) ∧ (r = false → wSs Φ b L1 P)) P.ex
  | .whl c b, L, P => ∃ I : Nat → Lc → Prop, (∃ m, I m L) ∧ ∀ m L', I m L' → wE Φ c L' (fun h L1 => h.isB fun r => (r = true → wSs Φ b L1 { P with nx := fun L2 => ∃ m', m' < m ∧ I m' L2, ct := fun L2 => ∃ m', m' < m ∧ I m' L2, bk := P.nx }) ∧ (r = false → P.nx L1)) P.ex
  | .for t it b, L, P => wI Φ it L (fun ds L1 => forRun (fun d L2 P' => ∃ L3, t.asg d L2 = some L3 ∧ wSs Φ b L3 P') ds L1 P) P.ex
  | .pass, L, P => P.nx L
  | .brk, L, P => P.bk L
  | .cont, L, P => P.ct L
def wSs (Φ : Fns) : Ss → Lc → Pt → Prop
  | .nil, L, P => P.nx L
  | .cons s ss, L, P => wS Φ s L { P with nx := fun L1 => wSs Φ ss L1 P }
end
end Tk

set_option Elab.async false
set_option linter.all false
set_option maxRecDepth 100000
namespace Tk
open PySem PySem.Spec PyProof.Rows L2

/-! ### plain growth -/
structure Gw (a b : Wd) : Prop where
  ow : b.ow = a.ow
  g : Same a.G b.G
  h : Same a.H b.H
  gh : Same b.G b.H
  old : ∀ p o, a.H p = some o → b.G p = a.G p
inductive RR (K : PySem.W.Frag) (a b : Wd) : PV → V → Prop
  | fz {d : PyData} {v : V} : Fz K b.G v d → RR K a b (.fz d) v
  | tm {x : PV} {v : V} {ot : Ow} : (∀ d, x ≠ .fz d) → Own K b.G b.H ot [] x v → (∀ p l, ot p = some l → a.H p = none ∧ b.G p = none ∧ ∃ o, b.H p = some o) → (∀ p q l, ot p = some l → ot q = some l → p = q) → RR K a b x v
inductive VR (K : PySem.W.Frag) (w : Wd) : Vw → V → Prop
  | d {d : PyData} {v : V} : Fz K w.G v d → VR K w (.d d) v
  | l {p : Addr} {vs : List V} {ds : List PyData} : w.H p = some (.lst vs) → FzL K w.G vs ds → VR K w (.l ds) (.ref p)
  | o {d : PyData} {v : V} : Fz K w.H v d → VR K w (.o d) v
inductive VRs (K : PySem.W.Frag) (w : Wd) : List Vw → List V → Prop
  | nil : VRs K w [] []
  | cons {v : Vw} {x : V} {vs : List Vw} {xs : List V} : VR K w v x → VRs K w vs xs → VRs K w (v :: vs) (x :: xs)
section
variable {K : PySem.W.Frag} {a b w : Wd} {L : Lc} {σ : Sl}
theorem Gw.refl (ok : w.Ok) : Gw w w := ⟨rfl, Same.refl _, Same.refl _, ok.same, fun _ _ _ => rfl⟩
theorem Gw.rel (R : Rel K a L σ) (g : Gw a b) : Rel K b L σ ∧ Step a b := by
  obtain ⟨G, ow, H⟩ := b
  obtain rfl : ow = a.ow := g.ow
  exact R.grow g.g g.h g.gh g.old
theorem RR.hrep {c : Wd} {r : PV} {v : V} (ok : a.Ok) (g : Gw a b) (s : Step c a) (h : RR K a b r v) : HRep K c b L σ r.hd v := by
  cases h with
  | fz q => exact .fz q
  | @tm _ _ ot nf q m mi =>
    have e : r.hd = .tm r := by
      cases r with
      | fz d => exact absurd rfl (nf d)
      | mls _ => rfl
      | mdc _ _ => rfl
    rw [e]
    refine .tm ⟨fun p l h => ?_, fun p o h n => ?_, mi⟩ q
    · obtain ⟨h1, h2, h3⟩ := m p l h
      refine ⟨?_, h2, h3⟩
      rw [g.ow]
      cases z : a.ow p with
      | none => rfl
      | some l' =>
        obtain ⟨_, o, h4⟩ := ok.mine p l' z
        rw [h1] at h4; cases h4
    · cases z : ot p with
      | none => rfl
      | some l =>
        have := (s.keep p o h n).1
        rw [(m p l z).1] at this; cases this
/-- a new frozen object -/
theorem Gw.newG {p : Addr} {o : HO} (ok : w.Ok) (hp : w.H p = none) : Gw w ⟨upd w.G p o, w.ow, upd w.H p o⟩ := by
  have gp : w.G p = none := ok.same.free hp
  refine ⟨rfl, fun q u h => ?_, fun q u h => ?_, fun q u h => ?_, fun q u h => ?_⟩
  · show upd w.G p o q = some u
    rw [upd_ne (ne_of_none h gp)]; exact h
  · show upd w.H p o q = some u
    rw [upd_ne (ne_of_none h hp)]; exact h
  · have h : upd w.G p o q = some u := h
    show upd w.H p o q = some u
    by_cases e : q = p
    · subst e; rw [upd_same] at h ⊢; exact h
    · rw [upd_ne e] at h ⊢; exact ok.same _ _ h
  · show upd w.G p o q = w.G q
    rw [upd_ne (ne_of_none h hp)]
/-- a new object that lies about -/
theorem Gw.newH {p : Addr} {o : HO} (ok : w.Ok) (hp : w.H p = none) : Gw w ⟨w.G, w.ow, upd w.H p o⟩ := by
  refine ⟨rfl, Same.refl _, fun q u h => ?_, fun q u h => ?_, fun q u h => rfl⟩
  · show upd w.H p o q = some u
    rw [upd_ne (ne_of_none h hp)]; exact h
  · show upd w.H p o q = some u
    rw [upd_ne (ne_of_none (ok.same _ _ h) hp)]; exact ok.same _ _ h
theorem OwnL.of_fz {G H : Hp} {ow : Ow} : ∀ {l : Lb} {i : Nat} {vs : List V} {ds : List PyData}, FzL K G vs ds → OwnL K G H ow l i (ds.map .fz) vs
  | _, _, _, _, .nil => .nil
  | _, _, _, _, .cons h t => .cons (.fz h) (OwnL.of_fz t)
theorem RR.lst {p : Addr} {vs : List V} {ds : List PyData} (ok : w.Ok) (hp : w.H p = none) (h : FzL K w.G vs ds) : RR K w ⟨w.G, w.ow, upd w.H p (.lst vs)⟩ (fzL ds) (.ref p) := by
  refine .tm (ot := fun q => if q = p then some [] else none) (fun d e => by cases e) (.mls (if_pos rfl) upd_same (OwnL.of_fz h)) (fun q l e => ?_) fun q q' l e e' => ?_
  · by_cases z : q = p
    · subst z
      exact ⟨hp, ok.same.free hp, _, upd_same⟩
    · rw [if_neg z] at e; cases e
  · have e : (if q = p then some [] else none) = some l := e
    have e' : (if q' = p then some [] else none) = some l := e'
    split at e
    · split at e'
      · rename_i h1 h2; rw [h1, h2]
      · cases e'
    · cases e
theorem RR.tup {p : Addr} {vs : List V} {ds : List PyData} (hp : w.G p = none) (h : FzL K w.G vs ds) : RR K w ⟨upd w.G p (.tup vs), w.ow, upd w.H p (.tup vs)⟩ (.fz (.tuple ds)) (.ref p) := by
  refine .fz (.tup (.inl (.inl upd_same)) (h.mono fun q u e => ?_))
  show upd w.G p (.tup vs) q = some u
  rw [upd_ne (ne_of_none e hp)]; exact e

/-! ### what views say -/
theorem VR.now {v : Vw} {x : V} (ok : w.Ok) (h : VR K w v x) : Fz K w.H x v.dat := by
  cases h with
  | d q => exact q.mono ok.same
  | l e q => exact .lst (Lx.of e) (q.mono ok.same)
  | o q => exact q
theorem VR.int {i : Int} {x : V} (h : VR K w (.d (.int i)) x) : x = .int i := by
  cases h with
  | d q => cases q; rfl
theorem VR.bl {i : Bool} {x : V} (h : VR K w (.d (.bool i)) x) : x = .bl i := by
  cases h with
  | d q => cases q; rfl
theorem VR.str {i : Str} {x : V} (h : VR K w (.d (.str i)) x) : x = .str i := by
  cases h with
  | d q => cases q; rfl
theorem VR.asL {v : Vw} {x : V} {ds : List PyData} (ok : w.Ok) (h : VR K w v x) (e : v.asL = some ds) : ∃ p vs, x = .ref p ∧ Lx K w.H p vs ∧ FzL K w.G vs ds := by
  cases h with
  | @d d' _ q =>
    cases q with
    | lst h1 h2 =>
      simp only [Vw.asL] at e
      cases e
      exact ⟨_, _, rfl, h1.mono ok.same, h2⟩
    | non => simp [Vw.asL] at e
    | bl => simp [Vw.asL] at e
    | int => simp [Vw.asL] at e
    | str => simp [Vw.asL] at e
    | tup _ _ => simp [Vw.asL] at e
    | dct _ _ _ => simp [Vw.asL] at e
  | l h1 h2 =>
    simp only [Vw.asL] at e
    cases e
    exact ⟨_, _, rfl, Lx.of h1, h2⟩
  | o q => simp [Vw.asL] at e
theorem VR.asT {v : Vw} {x : V} {ds : List PyData} (ok : w.Ok) (h : VR K w v x) (e : v.asT = some ds) : ∃ p vs, x = .ref p ∧ SqT K w.H p vs ∧ SqT K w.G p vs ∧ FzL K w.G vs ds := by
  cases h with
  | @d d' _ q =>
    cases q with
    | tup h1 h2 =>
      simp only [Vw.asT] at e
      cases e
      exact ⟨_, _, rfl, sqT_mono ok.same h1, h1, h2⟩
    | non => simp [Vw.asT] at e
    | bl => simp [Vw.asT] at e
    | int => simp [Vw.asT] at e
    | str => simp [Vw.asT] at e
    | lst _ _ => simp [Vw.asT] at e
    | dct _ _ _ => simp [Vw.asT] at e
  | l h1 h2 => simp [Vw.asT] at e
  | o q => simp [Vw.asT] at e
theorem VR.seq {v : Vw} {x : V} {ds : List PyData} (ok : w.Ok) (h : VR K w v x) (e : v.seq = some ds) : ∃ p vs, x = .ref p ∧ (Lx K w.H p vs ∨ (SqT K w.H p vs ∧ SqT K w.G p vs ∧ v = .d (.tuple ds))) ∧ FzL K w.G vs ds := by
  unfold Vw.seq at e
  split at e
  · rename_i ds' e'
    cases e
    obtain ⟨p, vs, h1, h2, h3⟩ := h.asL ok e'
    exact ⟨p, vs, h1, .inl h2, h3⟩
  · obtain ⟨p, vs, h1, h2, h3, h4⟩ := h.asT ok e
    refine ⟨p, vs, h1, .inr ⟨h2, h3, ?_⟩, h4⟩
    cases v with
    | d d =>
      cases d <;> simp [Vw.asT] at e
      rw [e]
    | l _ => simp [Vw.asT] at e
    | o _ => simp [Vw.asT] at e
end

/-! ### the operators -/
section
variable {X : Cx}
theorem op_catX : OpR X (binaryOp .Add) (fun x y H Q => ∃ l b xs zs, x = .ref l ∧ y = .ref b ∧ Lx X.K H l xs ∧ Lx X.K H b zs ∧ xs.length + zs.length ≤ sizeLine ∧ ∀ p, H p = none → Q (.ref p) (upd H p (.lst (xs ++ zs)))) := by
  intro pins s σ H x y v u Q I rx ry h
  obtain ⟨l, b, xs, zs, rfl, rfl, hH, hB, hz, q⟩ := h
  cases rx
  cases ry
  obtain ⟨z, its, n, r, e⟩ := hH.there I
  obtain ⟨z2, its2, n2, r2, e2⟩ := hB.there I
  have hl := r.length
  have hl2 := r2.length
  refine PySem.P.add_list e e2 ?_ (by rw [List.size_toArray, List.size_toArray]; omega)
  have ea : its.toArray ++ its2.toArray = (its ++ its2).toArray := by simp
  rw [ea]
  exact ⟨.ref _, _, I.lnew (t' := s.toks) (r.append r2) (by rw [List.length_append]; omega), rfl, q _ I.fresh⟩
theorem mt_extendX : MtM X "list.extend" (fun x vs H Q => ∃ l b xs zs, x = .ref l ∧ vs = [.ref b] ∧ H l = some (.lst xs) ∧ Lx X.K H b zs ∧ xs.length + zs.length ≤ sizeLine ∧ Q .non (upd H l (.lst (xs ++ zs)))) := by
  intro pins s σ H x vs v us Q I rx rv h
  obtain ⟨l, b, xs, zs, rfl, rfl, hH, hB, hz, q⟩ := h
  cases rx
  obtain ⟨u, rfl, ru⟩ := rv.one
  cases ru
  obtain ⟨z, its, n, r, hl, e⟩ := I.lstM hH
  obtain ⟨z2, its2, n2, r2, e2⟩ := hB.there I
  have hl2 := r2.length
  have hsz : its.toArray.size + its2.toArray.size ≤ sizeLine := by rw [List.size_toArray, List.size_toArray]; omega
  have hlong : ¬ (!its.toArray.isEmpty && Builtin.List.listTooLong (its.toArray.size + its2.toArray.size)) = true := by
    rw [notLongL hsz, Bool.and_false]
    decide
  refine call_meets F.slot_list_extend ⟨_, e, rfl⟩ F.entry_list_extend (F.args_list_extend_2 _ _)
    (AutoSeq1.list_extend_list_list_0 l its.toArray n b its2.toArray n2 hlong (by rw [List.size_toArray]; omega) (by omega)) ⟨e, e2, ?_⟩
  exact ⟨.non, _, I.lset (its' := its ++ its2) hH e (by simp) (r.append r2) (by rw [List.length_append]; omega), rfl, q⟩
theorem op_repX : OpR X (binaryOp .Mult) (fun x y H Q => ∃ l k xs, x = .ref l ∧ y = .int k ∧ Lx X.K H l xs ∧ -(2 ^ 63) ≤ k ∧ k < 2 ^ 63 ∧ xs.length * k.toNat ≤ sizeLine ∧
  ∀ p, H p = none → Q (.ref p) (upd H p (.lst (List.replicate k.toNat xs).flatten))) := by
  intro pins s σ H x y v u Q I rx ry h
  obtain ⟨l, k, xs, rfl, rfl, hH, h1, h2, hz, q⟩ := h
  cases rx
  obtain ⟨t, rfl⟩ := ry
  obtain ⟨z, its, n, r, e⟩ := hH.there I
  have hl := r.length
  have hlen : its.toArray.size * k.toNat ≤ sizeLine := by rw [List.size_toArray, ← hl]; exact hz
  have hcap : ¬ its.toArray.size * k.toNat > (2 ^ 63 - 1) / 8 := by
    have : (sizeLine : Nat) ≤ (2 ^ 63 - 1) / 8 := by decide
    omega
  have hfit : ¬ (!Builtin.List.listFitsIndex k) = true := by rw [fitsIndex_both h1 h2]; decide
  have hlong : ¬ Builtin.List.listTooLong (its.toArray.size * k.toNat) = true := by rw [notLongL hlen]; decide
  have f0 : ∀ m : Nat, List.foldl (fun x1 x2 => x1 ++ x2) #[] (List.replicate m its.toArray) = (List.replicate m its).flatten.toArray := fun m => by
    have := foldl_rep its m []
    rwa [List.nil_append] at this
  have hnew : List.foldl (fun x1 x2 => x1 ++ x2) #[] (List.replicate (if its.toArray.isEmpty = true then 0 else k.toNat) its.toArray) = (List.replicate k.toNat its).flatten.toArray := by
    rw [f0]
    cases its with
    | nil => simp
    | cons a r' => rw [if_neg (by simp)]
  refine wpAny_binaryOp_repeat_ref (T := "list") (U := "int") (by decide) ⟨_, e, rfl⟩ (fun s' => typeIs_int s' k t) noFill_list_mul F.fills_int_mul F.slot_int_rmul repeat_list F.slot_int_index.lookup
    (call_meets F.slot_int_rmul (typeIs_int s k t) F.entry_int_rmul (F.args_int_rmul_2 _ _) (int___rmul___int_list k t l its.toArray n)
      ⟨e, rfl, ⟨_, e, rfl⟩, call_meets F.slot_list_mul ⟨_, e, rfl⟩ F.entry_list_mul (F.args_list_mul_2 _ _) (AutoListH.list___mul___list_int_3 l its.toArray n k t hfit hcap hlong) ⟨e, ?_⟩⟩)
  rw [hnew]
  exact ⟨.ref _, _, I.lnew (t' := s.toks) (r.rep k.toNat) (by rw [PyProof.Rows.lm_len_rep_flat, Nat.mul_comm]; exact hz), rfl, q _ I.fresh⟩
theorem FzL.ne_nil {K : PySem.W.Frag} {G : Hp} {vs : List V} {ds : List PyData} (h : FzL K G vs ds) : vs = [] ↔ ds = [] := by
  cases h with
  | nil => simp
  | cons _ _ => simp
theorem bop_ok (o : Operator) : OpR X (binaryOp o) (fun x y H Q => ∃ w v u R, w.H = H ∧ w.Ok ∧ VR X.K w v x ∧ VR X.K w u y ∧ bop o v u R ∧ ∀ z r w', Gw w w' → RR X.K w w' r z → R r → Q z w'.H) := by
  intro pins s σ H x y v u Q I rx ry h
  obtain ⟨w, a, b, R, rfl, ok, va, vb, hb, q⟩ := h
  have sc : ∀ {d : PyData} {z : V}, Fz X.K w.G z d → R (.fz d) → Q z w.H := fun {d z} f hr => q z (.fz d) w (Gw.refl ok) (.fz f) hr
  rcases hb with ⟨i, j, rfl, rfl, hb⟩ | ⟨rfl, i, j, rfl, rfl, hz, hb⟩ | ⟨rfl, xs, ys, ea, eb, hz, hb⟩ | ⟨rfl, xs, ys, ea, eb, hz, hb⟩ | ⟨rfl, xs, k, ea, rfl, ⟨h1, h2⟩, hz, hb⟩ | ⟨rfl, xs, k, ea, rfl, ⟨h1, h2, h3, h4⟩, hb⟩
  · have e1 := va.int
    have e2 := vb.int
    subst e1 e2
    cases o with
    | Add => exact op_add pins s σ w.H _ _ v u Q I rx ry ⟨i, j, rfl, rfl, sc (.int _) hb⟩
    | Sub => exact op_sub pins s σ w.H _ _ v u Q I rx ry ⟨i, j, rfl, rfl, sc (.int _) hb⟩
    | Mult =>
      rcases hb.1 with m | m
      · exact op_mul pins s σ w.H _ _ v u Q I rx ry ⟨i, j, rfl, rfl, m, sc (.int _) hb.2⟩
      · exact op_mulW pins s σ w.H _ _ v u Q I rx ry ⟨i, j, rfl, rfl, m, sc (.int _) hb.2⟩
    | FloorDiv => exact op_fdivW pins s σ w.H _ _ v u Q I rx ry ⟨i, j, rfl, rfl, hb.1, sc (.int _) hb.2⟩
    | Mod => exact op_mod pins s σ w.H _ _ v u Q I rx ry ⟨i, j, rfl, rfl, hb.1, sc (.int _) hb.2⟩
    | Pow => exact op_pow pins s σ w.H _ _ v u Q I rx ry ⟨i, j, rfl, rfl, hb.1, sc (.int _) hb.2⟩
    | LShift => exact op_shl pins s σ w.H _ _ v u Q I rx ry ⟨i, j, rfl, rfl, hb.1, sc (.int _) hb.2⟩
    | RShift => exact op_shr pins s σ w.H _ _ v u Q I rx ry ⟨i, j, rfl, rfl, hb.1, sc (.int _) hb.2⟩
    | BitAnd => exact op_and pins s σ w.H _ _ v u Q I rx ry ⟨i, j, rfl, rfl, sc (.int _) hb⟩
    | BitOr => exact op_or pins s σ w.H _ _ v u Q I rx ry ⟨i, j, rfl, rfl, sc (.int _) hb⟩
    | BitXor => exact op_xor pins s σ w.H _ _ v u Q I rx ry ⟨i, j, rfl, rfl, sc (.int _) hb⟩
    | MatMult => exact hb.elim
    | Div => exact hb.elim
  · have e1 := va.str
    have e2 := vb.str
    subst e1 e2
    exact op_add_str pins s σ w.H _ _ v u Q I rx ry ⟨i, j, rfl, rfl, hz, sc (.str _) hb⟩
  · obtain ⟨p, vs, rfl, l1, f1⟩ := va.asL ok ea
    obtain ⟨p2, vs2, rfl, l2, f2⟩ := vb.asL ok eb
    refine op_catX pins s σ w.H _ _ v u Q I rx ry ⟨p, p2, vs, vs2, rfl, rfl, l1, l2, by rw [f1.length, f2.length]; exact hz, fun n hn => ?_⟩
    exact q _ _ _ (Gw.newH ok hn) (RR.lst ok hn (f1.append f2)) hb
  · obtain ⟨p, vs, rfl, l1, g1, f1⟩ := va.asT ok ea
    obtain ⟨p2, vs2, rfl, l2, g2, f2⟩ := vb.asT ok eb
    refine op_catA pins s σ w.H _ _ v u Q I rx ry ⟨p, p2, vs, vs2, rfl, rfl, l1, l2, by rw [f1.length, f2.length]; exact hz, fun e => ?_, fun e1 e2 => ?_, fun e1 e2 n hn => ?_⟩
    · have e' := f1.ne_nil.mp e
      subst e'
      exact sc (.tup g2 f2) hb
    · have e' := f2.ne_nil.mp e2
      subst e'
      rw [List.append_nil] at hb
      exact sc (.tup g1 f1) hb
    · exact q _ _ _ (Gw.newG ok hn) (RR.tup (ok.same.free hn) (f1.append f2)) hb
  · obtain ⟨p, vs, rfl, l1, f1⟩ := va.asL ok ea
    have e2 := vb.int
    subst e2
    refine op_repX pins s σ w.H _ _ v u Q I rx ry ⟨p, k, vs, rfl, rfl, l1, h1, h2, by rw [f1.length]; exact hz, fun n hn => ?_⟩
    exact q _ _ _ (Gw.newH ok hn) (RR.lst ok hn (f1.rep _)) hb
  · obtain ⟨p, vs, rfl, l1, g1, f1⟩ := va.asT ok ea
    have e2 := vb.int
    subst e2
    refine op_repW pins s σ w.H _ _ v u Q I rx ry ⟨p, k, vs, rfl, rfl, l1, fun z => h1 (f1.ne_nil.mp z), h2, h3, by rw [f1.length]; exact h4, fun n hn => ?_⟩
    exact q _ _ _ (Gw.newG ok hn) (RR.tup (ok.same.free hn) (f1.rep _)) hb
end
end Tk

set_option Elab.async false
set_option linter.all false
set_option maxRecDepth 100000
namespace Tk
open PySem PySem.Spec PyProof.Rows L2

/-! ### data as the library reads it -/
section
variable {X : Cx} {pins : List (Addr × Obj)} {σ : Sl} {H : Hp} {s : Shared}
theorem entries_read {h : Heap} {P : Program} {w : World} : ∀ {kvs : List (Key × V)} {vs : List (Key × Value)} {es : List DictEntry}, KV kvs vs → Pairs (mixKind P w) es vs →
    Vals (kvs.map fun p => kV p.1) (es.map (·.key)) ∧ Vals (kvs.map Prod.snd) (es.map (·.val))
  | _, _, _, .nil, .nil => ⟨.nil, .nil⟩
  | _, _, _, .cons (a := a) (b := b) h1 t, .cons (e := e) h2 h3 u => by
    obtain ⟨q1, q2⟩ := entries_read (h := h) t u
    refine ⟨.cons ?_ q1, .cons ?_ q2⟩
    · show L2.RelV (kV a.1) e.key
      rw [h1.1]; exact relV_key h2
    · show L2.RelV a.2 e.val
      rw [h3]; exact h1.2
/-- away from sys.modules -/
def Away (X : Cx) : Prop := ∃ o, X.base.get? sysModules = some o ∧ o.cls ≠ .type "list"
theorem Away.lst (aw : Away X) (I : Inv X pins σ H s) {a : Addr} {its : Array Value} {n : Nat} (h : s.heap.get? a = some { cls := .type "list", data := .seq its n }) : a ≠ sysModules := fun e => by
  obtain ⟨o, ho, hc⟩ := aw
  have := I.bk _ _ ho
  rw [← e, h] at this
  cases this
  exact hc rfl
mutual
theorem Fz.reads (aw : Away X) (I : Inv X pins σ H s) : ∀ (d : PyData) (v : V) (u : Value), Fz X.K H v d → RelV v u → ∃ as, Reads s.heap u d as ∧ sysModules ∉ as
  | .none, _, _, h, r => by
    cases h
    cases r
    exact ⟨_, Reads.none, by simp⟩
  | .bool b, _, _, h, r => by
    cases h
    cases r
    exact ⟨_, Reads.bool b, by simp⟩
  | .int i, _, _, h, r => by
    cases h
    obtain ⟨t, rfl⟩ := r
    exact ⟨_, Reads.int i t, by simp⟩
  | .str x, _, _, h, r => by
    cases h
    obtain ⟨t, rfl⟩ := r
    exact ⟨_, Reads.str x t, by simp⟩
  | .list ds, _, _, h, r => by
    cases h with
    | lst hs ha =>
      cases r
      obtain ⟨_, its, n, rv, ho⟩ := hs.there I
      obtain ⟨as, hr, hn⟩ := FzL.reads aw I ds _ its ha rv
      exact ⟨_, Reads.list ho rfl rfl hr, by
        simp only [List.mem_cons, not_or]
        exact ⟨fun e => aw.lst I ho e.symm, hn⟩⟩
  | .tuple ds, _, _, h, r => by
    cases h with
    | tup hs ha =>
      cases r
      obtain ⟨its, rv, ⟨o, ho, hc, n, hd⟩, _⟩ := I.tuple hs
      obtain ⟨as, hr, hn⟩ := FzL.reads aw I ds _ its ha rv
      exact ⟨_, Reads.tuple ho hc hd hr, hn⟩
  | .dict es, _, _, h, r => by
    cases h with
    | dct hd h1 h2 =>
      cases r
      obtain ⟨_, hs, vs, kv, o, en, ep, ho, hx, hdat, _, pr, _⟩ := hd.ok I.hok
      obtain ⟨r1, r2⟩ := entries_read (h := s.heap) kv pr
      obtain ⟨as, q1, n1⟩ := FzL.readsK aw I es _ _ h1 r1
      obtain ⟨bs, q2, n2⟩ := FzL.readsV aw I es _ _ h2 r2
      refine ⟨_, Reads.dict ho hx.1 hdat q1 q2, ?_⟩
      simp only [List.cons_append, List.mem_cons, List.mem_append, not_or]
      exact ⟨fun e => by rw [← e] at hs; simp at hs, n1, n2⟩
theorem FzL.reads (aw : Away X) (I : Inv X pins σ H s) : ∀ (ds : List PyData) (vs : List V) (us : List Value), FzL X.K H vs ds → Vals vs us → ∃ as, ReadsAll s.heap us ds as ∧ sysModules ∉ as
  | [], _, _, h, r => by
    cases h
    cases r
    exact ⟨_, ReadsAll.nil, by simp⟩
  | d :: ds, _, _, h, r => by
    cases h with
    | cons h1 h2 =>
      cases r with
      | cons r1 r2 =>
        obtain ⟨as, q1, n1⟩ := Fz.reads aw I d _ _ h1 r1
        obtain ⟨bs, q2, n2⟩ := FzL.reads aw I ds _ _ h2 r2
        exact ⟨_, ReadsAll.cons q1 q2, by simp [n1, n2]⟩
theorem FzL.readsK (aw : Away X) (I : Inv X pins σ H s) : ∀ (ds : List (PyData × PyData)) (vs : List V) (us : List Value), FzL X.K H vs (ds.map Prod.fst) → Vals vs us → ∃ as, ReadsAll s.heap us (ds.map (·.1)) as ∧ sysModules ∉ as
  | [], _, _, h, r => by
    cases h
    cases r
    exact ⟨_, ReadsAll.nil, by simp⟩
  | (d, e) :: ds, _, _, h, r => by
    cases h with
    | cons h1 h2 =>
      cases r with
      | cons r1 r2 =>
        obtain ⟨as, q1, n1⟩ := Fz.reads aw I d _ _ h1 r1
        obtain ⟨bs, q2, n2⟩ := FzL.readsK aw I ds _ _ h2 r2
        exact ⟨_, ReadsAll.cons q1 q2, by simp [n1, n2]⟩
theorem FzL.readsV (aw : Away X) (I : Inv X pins σ H s) : ∀ (ds : List (PyData × PyData)) (vs : List V) (us : List Value), FzL X.K H vs (ds.map Prod.snd) → Vals vs us → ∃ as, ReadsAll s.heap us (ds.map (·.2)) as ∧ sysModules ∉ as
  | [], _, _, h, r => by
    cases h
    cases r
    exact ⟨_, ReadsAll.nil, by simp⟩
  | (d, e) :: ds, _, _, h, r => by
    cases h with
    | cons h1 h2 =>
      cases r with
      | cons r1 r2 =>
        obtain ⟨as, q1, n1⟩ := Fz.reads aw I e _ _ h1 r1
        obtain ⟨bs, q2, n2⟩ := FzL.readsV aw I ds _ _ h2 r2
        exact ⟨_, ReadsAll.cons q1 q2, by simp [n1, n2]⟩
end
end

/-! ### the order of tuples of ints -/
theorem lexAt_congr {e r e' r' : Nat → Bool} {z : Bool} : ∀ (k i j : Nat), (∀ m, m < k → e (i + m) = e' (j + m)) → (∀ m, m < k → r (i + m) = r' (j + m)) → Ob.lexAt e r z i k = Ob.lexAt e' r' z j k
  | 0, _, _, _, _ => rfl
  | k + 1, i, j, h1, h2 => by
    rw [Ob.lexAt_succ, Ob.lexAt_succ, show e i = e' j from h1 0 (by omega), show r i = r' j from h2 0 (by omega)]
    rw [lexAt_congr k (i + 1) (j + 1) (fun m hm => by have := h1 (m + 1) (by omega); rw [show i + 1 + m = i + (m + 1) by omega, show j + 1 + m = j + (m + 1) by omega]; exact this)
      (fun m hm => by have := h2 (m + 1) (by omega); rw [show i + 1 + m = i + (m + 1) by omega, show j + 1 + m = j + (m + 1) by omega]; exact this)]
def lexBy (c : Int → Int → Bool) (z : Nat → Nat → Bool) : List Int → List Int → Bool
  | x :: xs, y :: ys => if x = y then lexBy c z xs ys else c x y
  | xs, ys => z xs.length ys.length
theorem lexAt_by (c : Int → Int → Bool) (z : Nat → Nat → Bool) (hz : ∀ a b, z (a + 1) (b + 1) = z a b) : ∀ xs ys : List Int,
    Ob.lexAt (fun j => decide (xs.getD j 0 = ys.getD j 0)) (fun j => c (xs.getD j 0) (ys.getD j 0)) (z xs.length ys.length) 0 (min xs.length ys.length) = lexBy c z xs ys
  | [], ys => by
    rw [show min ([] : List Int).length ys.length = 0 by simp, Ob.lexAt_zero]
    cases ys <;> rfl
  | x :: xs, [] => by
    rw [show min (x :: xs).length ([] : List Int).length = 0 by simp, Ob.lexAt_zero]
    rfl
  | x :: xs, y :: ys => by
    rw [show min (x :: xs).length (y :: ys).length = min xs.length ys.length + 1 by simp only [List.length_cons]; omega, Ob.lexAt_succ]
    show (if decide (x = y) = true then _ else c x y) = if x = y then _ else c x y
    by_cases e : x = y
    · rw [if_pos (decide_eq_true e), if_pos e, List.length_cons, List.length_cons, hz, ← lexAt_by c z hz xs ys]
      exact lexAt_congr _ _ _ (fun m _ => by rw [Nat.add_comm 0 1, Nat.add_comm 1 m, Nat.zero_add]; rfl) (fun m _ => by rw [Nat.add_comm 0 1, Nat.add_comm 1 m, Nat.zero_add]; rfl)
    · rw [if_neg (by simpa using e), if_neg e]
theorem by_lt : ∀ xs ys : List Int, lexBy (fun a b => decide (a < b)) (fun a b => decide (a < b)) xs ys = lexI xs ys
  | [], [] => by simp [lexBy, lexI, HT.lexLt]
  | [], y :: ys => by simp [lexBy, lexI, HT.lexLt]
  | x :: xs, [] => by simp [lexBy, lexI, HT.lexLt]
  | x :: xs, y :: ys => by
    have := by_lt xs ys
    unfold lexI at this ⊢
    unfold lexBy HT.lexLt
    rw [this]
theorem by_gt : ∀ xs ys : List Int, lexBy (fun a b => decide (b < a)) (fun a b => decide (a > b)) xs ys = lexI ys xs
  | [], [] => by simp [lexBy, lexI, HT.lexLt]
  | [], y :: ys => by simp [lexBy, lexI, HT.lexLt]
  | x :: xs, [] => by simp [lexBy, lexI, HT.lexLt]
  | x :: xs, y :: ys => by
    have := by_gt xs ys
    unfold lexI at this ⊢
    unfold lexBy HT.lexLt
    rw [this]
    by_cases e : x = y
    · rw [if_pos e, if_pos e.symm]
    · rw [if_neg e, if_neg fun z => e z.symm]
theorem by_le : ∀ xs ys : List Int, lexBy (fun a b => decide (a ≤ b)) (fun a b => decide (a ≤ b)) xs ys = !lexI ys xs
  | [], [] => by simp [lexBy, lexI, HT.lexLt]
  | [], y :: ys => by simp [lexBy, lexI, HT.lexLt]
  | x :: xs, [] => by simp [lexBy, lexI, HT.lexLt]
  | x :: xs, y :: ys => by
    have := by_le xs ys
    unfold lexI at this ⊢
    unfold lexBy HT.lexLt
    rw [this]
    by_cases e : x = y
    · rw [if_pos e, if_pos e.symm]
    · rw [if_neg e, if_neg fun z => e z.symm]
      by_cases l : x ≤ y
      · rw [decide_eq_true l, decide_eq_false (by omega)]; rfl
      · rw [decide_eq_false l, decide_eq_true (by omega)]; rfl
section
variable {X : Cx}
/-- what tuples of ints give the library's rule for orders -/
theorem tup_ints {pins : List (Addr × Obj)} {σ : Sl} {H : Hp} {s : Shared} {a b : Addr} {ns ms : List Int} (I : Inv X pins σ H s) (ha : SqT X.K H a (ns.map V.int)) (hb : SqT X.K H b (ms.map V.int)) {op : CmpOp} {c : Int → Int → Bool} (rc : ∀ (i j : Int) (t u : Tok), Ob.RcOp op X.A.in1 s (.int i t) (.int j u) (c i j)) :
    ∃ its its2 : List Value, IsTup s.heap a its.toArray ∧ IsTup s.heap b its2.toArray ∧ its.length = ns.length ∧ its2.length = ms.length ∧
      (∀ j (h1 : j < its.toArray.size) (h2 : j < its2.toArray.size), SeqAt.EqAt X.A.in1 s its.toArray[j] its2.toArray[j] (decide (ns.getD j 0 = ms.getD j 0))) ∧
      (∀ j (h1 : j < its.toArray.size) (h2 : j < its2.toArray.size), Ob.RcOp op X.A.in1 s its.toArray[j] its2.toArray[j] (c (ns.getD j 0) (ms.getD j 0))) := by
  obtain ⟨its, r1, p1, _⟩ := I.tuple ha
  obtain ⟨its2, r2, p2, _⟩ := I.tuple hb
  have i1 : IntsAre its ns := Vals.ints r1
  have i2 : IntsAre its2 ms := Vals.ints r2
  have at1 : ∀ j (h1 : j < its.toArray.size), ∃ t, its.toArray[j] = .int (ns.getD j 0) t := fun j h1 => PyProof.Rows.IntsAre.int_at i1 _ _ (by simp at h1; simp [h1])
  have at2 : ∀ j (h1 : j < its2.toArray.size), ∃ t, its2.toArray[j] = .int (ms.getD j 0) t := fun j h1 => PyProof.Rows.IntsAre.int_at i2 _ _ (by simp at h1; simp [h1])
  refine ⟨its, its2, p1, p2, i1.length, i2.length, fun j h1 h2 => ?_, fun j h1 h2 => ?_⟩
  · obtain ⟨t, et⟩ := at1 j h1
    obtain ⟨t', et'⟩ := at2 j h2
    rw [et, et', show decide (ns.getD j 0 = ms.getD j 0) = (ns.getD j 0 == ms.getD j 0) by
      by_cases q : ns.getD j 0 = ms.getD j 0
      · rw [decide_eq_true q]; exact (beq_iff_eq.mpr q).symm
      · rw [decide_eq_false q]; exact (beq_eq_false_iff_ne.mpr q).symm]
    exact SeqAt.EqAt.int_int _ _ _ _
  · obtain ⟨t, et⟩ := at1 j h1
    obtain ⟨t', et'⟩ := at2 j h2
    rw [et, et']
    exact rc _ _ _ _
theorem op_ltX (hu : X.A.units < cLine) : OpR X (compareOp .Lt) (fun x y H Q => ∃ a b ns ms, x = .ref a ∧ y = .ref b ∧ SqT X.K H a (ns.map V.int) ∧ SqT X.K H b (ms.map V.int) ∧ Q (.bl (lexI ns ms)) H) := by
  intro pins s σ H x y v u Q I rx ry h
  obtain ⟨a, b, ns, ms, rfl, rfl, ha, hb, q⟩ := h
  exact op_ltT hu pins s σ H _ _ v u Q I rx ry ⟨a, b, ns, ms, rfl, rfl, ha, hb, q⟩
theorem op_leX (hu : X.A.units < cLine) : OpR X (compareOp .LtE) (fun x y H Q => ∃ a b ns ms, x = .ref a ∧ y = .ref b ∧ SqT X.K H a (ns.map V.int) ∧ SqT X.K H b (ms.map V.int) ∧ Q (.bl (!lexI ms ns)) H) := by
  intro pins s σ H x y v u Q I rx ry h
  obtain ⟨a, b, ns, ms, rfl, rfl, ha, hb, q⟩ := h
  refine op_leT hu pins s σ H _ _ v u Q I rx ry ⟨a, b, ns, ms, rfl, rfl, ha, hb, ?_⟩
  rw [lexAt_by (fun a b => decide (a ≤ b)) (fun a b => decide (a ≤ b)) (fun a b => by simp), by_le]
  exact q
theorem op_gtX (hu : X.A.units < cLine) : OpR X (compareOp .Gt) (fun x y H Q => ∃ a b ns ms, x = .ref a ∧ y = .ref b ∧ SqT X.K H a (ns.map V.int) ∧ SqT X.K H b (ms.map V.int) ∧ Q (.bl (lexI ms ns)) H) := by
  intro pins s σ H x y v u Q I rx ry h
  obtain ⟨a, b, ns, ms, rfl, rfl, ha, hb, q⟩ := h
  cases rx
  cases ry
  obtain ⟨its, its2, p1, p2, l1, l2, he, hr⟩ := tup_ints I ha hb (op := .Gt) (c := fun i j => decide (j < i)) fun i j t u => Ob.RcOp.gt_int i j t u
  have R := Ob.RcOp.tuples_gt (A := X.A) (s := s) p1 p2 hu he fun j h1 h2 _ => hr j h1 h2
  rw [List.size_toArray, List.size_toArray, l1, l2, lexAt_by (fun a b => decide (b < a)) (fun a b => decide (a > b)) (fun a b => by simp), by_gt] at R
  exact R X.prog X.w X.xe (EP X pins σ Q) ⟨.bl _, H, I, rfl, q⟩
/-- what the rules ask of where one stands -/
structure Place (X : Cx) : Prop where
  calm : X.calm = true
  units : X.A.units + 300 < cLine
  guards : X.A.guards = some []
  away : Away X
theorem Fz.tupInts {K : PySem.W.Frag} {G : Hp} {x : V} {ns : List Int} (h : Fz K G x (.tuple (ns.map .int))) : ∃ a, x = .ref a ∧ SqT K G a (ns.map V.int) := by
  cases h with
  | tup h1 h2 =>
    rw [h2.ints] at h1
    exact ⟨_, rfl, h1⟩
theorem asL_dat {v : Vw} {xs : List PyData} (h : v.asL = some xs) : v.dat = .list xs := by
  cases v with
  | d d => cases d <;> simp [Vw.asL] at h; simp [Vw.dat, h]
  | l d => simp [Vw.asL] at h; simp [Vw.dat, h]
  | o d => simp [Vw.asL] at h
theorem rc_nil {A : Around} {s : Shared} {a b : Value} {xs : List PyData} {as bs : List Addr} (ra : Reads s.heap a (.list xs) as) (rb : Reads s.heap b (.list []) bs) (hu : A.units < cLine) : SeqAt.RcAt A s a b xs.isEmpty := by
  cases ra with
  | @list l o vs n xs as₁ h1 h2 h3 h4 =>
    have hl : s.heap.IsList l vs := ⟨_, h1, h2, _, h3⟩
    cases rb with
    | @list l' o' vs' n' ys bs₁ k1 k2 k3 k4 =>
      have hl' : s.heap.IsList l' vs' := ⟨_, k1, k2, _, k3⟩
      have n1 : vs.size = xs.length := by simpa using SeqAt.ReadsAll.length _ _ _ h4
      have n2 : vs'.size = 0 := by simpa using SeqAt.ReadsAll.length _ _ _ k4
      cases xs with
      | nil =>
        have := SeqAt.RcAt.lists (e := fun _ => true) hl hl' (by rw [n1, n2]; rfl) hu fun j j1 j2 => by omega
        rw [n1] at this
        exact this
      | cons x xs => exact SeqAt.RcAt.lists_lengths hl hl' (by simp [n1, n2]) hu
theorem rcNe_nil {A : Around} {s : Shared} {a b : Value} {xs : List PyData} {as bs : List Addr} (ra : Reads s.heap a (.list xs) as) (rb : Reads s.heap b (.list []) bs) (hu : A.units < cLine) : SeqAt.RcNeAt A s a b (!xs.isEmpty) := by
  cases ra with
  | @list l o vs n xs as₁ h1 h2 h3 h4 =>
    have hl : s.heap.IsList l vs := ⟨_, h1, h2, _, h3⟩
    cases rb with
    | @list l' o' vs' n' ys bs₁ k1 k2 k3 k4 =>
      have hl' : s.heap.IsList l' vs' := ⟨_, k1, k2, _, k3⟩
      have n1 : vs.size = xs.length := by simpa using SeqAt.ReadsAll.length _ _ _ h4
      have n2 : vs'.size = 0 := by simpa using SeqAt.ReadsAll.length _ _ _ k4
      cases xs with
      | nil =>
        have := SeqAt.RcNeAt.lists (e := fun _ => true) hl hl' (by rw [n1, n2]; rfl) hu fun j j1 j2 => by omega
        rw [n1] at this
        exact this
      | cons x xs => exact SeqAt.RcNeAt.lists_lengths hl hl' (by simp [n1, n2]) hu
theorem cop_ok (S : Place X) (o : CmpOp) : OpR X (compareOp o) (fun x y H Q => ∃ w v u R, w.H = H ∧ w.Ok ∧ VR X.K w v x ∧ VR X.K w u y ∧ cop o v u R ∧ ∀ b, R b → Q (.bl b) H) := by
  intro pins s σ H x y v u Q I rx ry h
  obtain ⟨w, a, b, R, rfl, ok, va, vb, hb, q⟩ := h
  have hun := S.units
  have hu : X.A.units < cLine := by omega
  have two : ∀ {xs ys : List Int}, a = .d (.tuple (xs.map .int)) → b = .d (.tuple (ys.map .int)) → ∃ p p', x = .ref p ∧ y = .ref p' ∧ SqT X.K w.H p (xs.map V.int) ∧ SqT X.K w.H p' (ys.map V.int) := fun {xs ys} e1 e2 => by
    subst e1 e2
    obtain ⟨p, e, h1⟩ := (va.now ok : Fz X.K w.H x (.tuple (xs.map .int))).tupInts
    obtain ⟨p', e', h1'⟩ := (vb.now ok : Fz X.K w.H y (.tuple (ys.map .int))).tupInts
    exact ⟨p, p', e, e', h1, h1'⟩
  have isI : ∀ {i j : Int}, a = .d (.int i) → b = .d (.int j) → x = .int i ∧ y = .int j := fun {i j} e1 e2 => by
    subst e1 e2
    exact ⟨va.int, vb.int⟩
  have rds : ∃ as bs, Reads s.heap v a.dat as ∧ Reads s.heap u b.dat bs := by
    obtain ⟨as, r1, _⟩ := Fz.reads S.away I a.dat x v (va.now ok) rx
    obtain ⟨bs, r2, _⟩ := Fz.reads S.away I b.dat y u (vb.now ok) ry
    exact ⟨as, bs, r1, r2⟩
  cases o with
  | Eq =>
    rcases hb with ⟨⟨h1, h2⟩, hb⟩ | ⟨i, j, e1, e2, hb⟩ | ⟨xs, e1, e2, hb⟩
    · obtain ⟨as, bs, r1, r2⟩ := rds
      exact SeqAt.compareEq_shaped r1 r2 h1 h2 (by omega) ⟨.bl _, w.H, I, rfl, q _ hb⟩
    · subst e1 e2
      have e1 := va.str
      have e2 := vb.str
      subst e1 e2
      refine op_eq pins s σ w.H _ _ v u Q I rx ry ⟨rfl, ?_⟩
      rw [show decide (V.str i = V.str j) = decide (i = j) by simp]
      exact q _ hb
    · obtain ⟨as, bs, r1, r2⟩ := rds
      rw [asL_dat e1] at r1
      rw [asL_dat e2] at r2
      exact rc_nil r1 r2 hu _ _ _ _ ⟨.bl _, w.H, I, rfl, q _ hb⟩
  | NotEq =>
    rcases hb with ⟨⟨h1, h2⟩, hb⟩ | ⟨i, j, e1, e2, hb⟩ | ⟨xs, e1, e2, hb⟩
    · obtain ⟨as, bs, r1, r2⟩ := rds
      exact SeqAt.compareNe_shaped r1 r2 h1 h2 (by omega) ⟨.bl _, w.H, I, rfl, q _ hb⟩
    · subst e1 e2
      have e1 := va.str
      have e2 := vb.str
      subst e1 e2
      refine op_ne pins s σ w.H _ _ v u Q I rx ry ⟨rfl, ?_⟩
      rw [show decide (V.str i = V.str j) = decide (i = j) by simp]
      exact q _ hb
    · obtain ⟨as, bs, r1, r2⟩ := rds
      rw [asL_dat e1] at r1
      rw [asL_dat e2] at r2
      exact rcNe_nil r1 r2 hu _ _ _ _ ⟨.bl _, w.H, I, rfl, q _ hb⟩
  | Lt =>
    rcases hb with ⟨i, j, e1, e2, hb⟩ | ⟨xs, ys, e1, e2, hb⟩
    · obtain ⟨rfl, rfl⟩ := isI e1 e2
      exact op_lt pins s σ w.H _ _ v u Q I rx ry ⟨i, j, rfl, rfl, q _ hb⟩
    · obtain ⟨p, p', rfl, rfl, h1, h2⟩ := two e1 e2
      exact op_ltX hu pins s σ w.H _ _ v u Q I rx ry ⟨p, p', xs, ys, rfl, rfl, h1, h2, q _ hb⟩
  | LtE =>
    rcases hb with ⟨i, j, e1, e2, hb⟩ | ⟨xs, ys, e1, e2, hb⟩
    · obtain ⟨rfl, rfl⟩ := isI e1 e2
      exact op_le pins s σ w.H _ _ v u Q I rx ry ⟨i, j, rfl, rfl, q _ hb⟩
    · obtain ⟨p, p', rfl, rfl, h1, h2⟩ := two e1 e2
      exact op_leX hu pins s σ w.H _ _ v u Q I rx ry ⟨p, p', xs, ys, rfl, rfl, h1, h2, q _ hb⟩
  | Gt =>
    rcases hb with ⟨i, j, e1, e2, hb⟩ | ⟨xs, ys, e1, e2, hb⟩
    · obtain ⟨rfl, rfl⟩ := isI e1 e2
      exact op_gt pins s σ w.H _ _ v u Q I rx ry ⟨i, j, rfl, rfl, q _ hb⟩
    · obtain ⟨p, p', rfl, rfl, h1, h2⟩ := two e1 e2
      exact op_gtX hu pins s σ w.H _ _ v u Q I rx ry ⟨p, p', xs, ys, rfl, rfl, h1, h2, q _ hb⟩
  | GtE =>
    obtain ⟨i, j, e1, e2, hb⟩ := hb
    obtain ⟨rfl, rfl⟩ := isI e1 e2
    exact op_ge pins s σ w.H _ _ v u Q I rx ry ⟨i, j, rfl, rfl, q _ hb⟩
  | Is =>
    obtain ⟨i, j, rfl, rfl, hb⟩ := hb
    have e1 := va.bl
    have e2 := vb.bl
    subst e1 e2
    exact op_is_bl pins s σ w.H _ _ v u Q I rx ry ⟨i, j, rfl, rfl, q _ hb⟩
  | IsNot =>
    obtain ⟨i, j, rfl, rfl, hb⟩ := hb
    have e1 := va.bl
    have e2 := vb.bl
    subst e1 e2
    exact op_isnot_bl pins s σ w.H _ _ v u Q I rx ry ⟨i, j, rfl, rfl, q _ hb⟩
  | In =>
    obtain ⟨as, bs, r1, r2⟩ := rds
    obtain ⟨ds, ev, es, ⟨h1, h2⟩, hb⟩ := hb
    have fin : b.dat = .list ds ∨ b.dat = .tuple ds := by
      cases b with
      | d d => cases d <;> simp [Vw.seq, Vw.asL, Vw.asT] at es <;> simp [Vw.dat, es]
      | l d => simp [Vw.seq, Vw.asL] at es; simp [Vw.dat, es]
      | o d => simp [Vw.seq, Vw.asL, Vw.asT] at es
    rcases fin with e | e
    · rw [e] at r2 h2
      exact SeqAt.in_list_reads r2 r1 (SeqAt.canLay_of_shaped h2) (SeqAt.canLay_of_shaped h1) (room_in_shaped h1 (by omega)) ⟨.bl _, w.H, I, rfl, q _ hb⟩
    · rw [e] at r2 h2
      exact SeqAt.in_tuple_reads r2 r1 (SeqAt.canLay_of_shaped h2) (SeqAt.canLay_of_shaped h1) (room_in_shaped h1 (by omega)) ⟨.bl _, w.H, I, rfl, q _ hb⟩
  | NotIn =>
    obtain ⟨as, bs, r1, r2⟩ := rds
    obtain ⟨ds, ev, es, ⟨h1, h2⟩, hb⟩ := hb
    have fin : b.dat = .list ds ∨ b.dat = .tuple ds := by
      cases b with
      | d d => cases d <;> simp [Vw.seq, Vw.asL, Vw.asT] at es <;> simp [Vw.dat, es]
      | l d => simp [Vw.seq, Vw.asL] at es; simp [Vw.dat, es]
      | o d => simp [Vw.seq, Vw.asL, Vw.asT] at es
    rcases fin with e | e
    · rw [e] at r2 h2
      exact SeqAt.notIn_list_reads r2 r1 (SeqAt.canLay_of_shaped h2) (SeqAt.canLay_of_shaped h1) (room_in_shaped h1 (by omega)) ⟨.bl _, w.H, I, rfl, q _ hb⟩
    · rw [e] at r2 h2
      exact SeqAt.notIn_tuple_reads r2 r1 (SeqAt.canLay_of_shaped h2) (SeqAt.canLay_of_shaped h1) (room_in_shaped h1 (by omega)) ⟨.bl _, w.H, I, rfl, q _ hb⟩
end
end Tk

set_option Elab.async false
set_option linter.all false
set_option maxRecDepth 100000
namespace Tk
open PySem PySem.Spec PyProof.Rows L2

/-! ### built-in functions -/
def Bi.val : Bi → Value
  | .len => .builtin "len"
  | .abs => .builtin "abs"
  | .int1 => .type "int"
  | .repr => .builtin "repr"
  | .tuple1 => .type "tuple"
  | .list1 => .type "list"
  | .sorted1 => .builtin "sorted"
  | .min2 => .builtin "min"
  | .max2 => .builtin "max"
  | .max1 => .builtin "max"
  | .min1 => .builtin "min"
  | .sum1 => .builtin "sum"
  | .all1 => .builtin "all"
  | .any1 => .builtin "any"
  | .str1 => .type "str"
section
variable {X : Cx}
theorem FzL.bools {K : PySem.W.Frag} {G : Hp} : ∀ {vs : List V} {ns : List Bool}, FzL K G vs (ns.map PyData.bool) → vs = ns.map V.bl
  | _, [], .nil => rfl
  | _, n :: ns, .cons h t => by
    cases h
    rw [t.bools]
    rfl
theorem VRs.one {K : PySem.W.Frag} {w : Wd} {v : Vw} {xs : List V} (h : VRs K w [v] xs) : ∃ x, xs = [x] ∧ VR K w v x := by
  cases h with
  | cons h t => cases t; exact ⟨_, rfl, h⟩
theorem VRs.two {K : PySem.W.Frag} {w : Wd} {v u : Vw} {xs : List V} (h : VRs K w [v, u] xs) : ∃ x y, xs = [x, y] ∧ VR K w v x ∧ VR K w u y := by
  cases h with
  | cons h t =>
    obtain ⟨y, rfl, g⟩ := t.one
    exact ⟨_, _, rfl, h, g⟩
theorem repr_ok (S : Place X) : CallR X (.builtin "repr") (fun xs H Q => ∃ x d, xs = [x] ∧ Fz X.K H x d ∧ d.showable = true ∧ d.depth ≤ 100 ∧ d.shown.length ≤ sizeLine ∧ Q (.str d.shown) H) := by
  intro pins s σ H xs us Q I r h
  obtain ⟨x, d, rfl, f, h1, h2, h3, q⟩ := h
  obtain ⟨u, rfl, ru⟩ := vals1 r
  obtain ⟨as, rd, na⟩ := Fz.reads S.away I d x u f ru
  have hun := S.units
  have refs : ∀ a, u = .ref a → wpAny (model X.prog X.w) X.A (call (.builtin "repr") [u]) (EP X pins σ Q) X.xe s := fun a e => by
    subst e
    refine repr_of_reads' rd h1 (fun _ => na) S.guards (by omega) (fun _ _ e => e) (fun h' u' tk hk => ?_) h3
    exact ⟨.str d.shown, H, I.kept hk, ⟨_, rfl⟩, q⟩
  cases rd with
  | none => exact PySem.P.repr_of_none ⟨.str _, H, I.tok _, ⟨_, rfl⟩, by simpa [PyData.shown] using q⟩
  | bool b => exact PySem.P.repr_of_bool ⟨.str _, H, I.tok _, ⟨_, rfl⟩, by simpa [PyData.shown] using q⟩
  | int i t => exact PySem.P.repr_of_int (by simpa [PyData.showable] using h1) ⟨.str _, H, I.tok _, ⟨_, rfl⟩, by simpa [PyData.shown] using q⟩
  | str z t => exact PySem.P.repr_of_str ⟨.str _, H, I.tok _, ⟨_, rfl⟩, by simpa [PyData.shown] using q⟩ (by simpa [PyData.shown] using h3)
  | list h1 h2 h3 h4 => exact refs _ rfl
  | tuple h1 h2 h3 h4 => exact refs _ rfl
  | dict h1 h2 h3 h4 h5 => exact refs _ rfl
theorem bip_ok (S : Place X) (b : Bi) : CallR X b.val (fun xs H Q => ∃ w vs R, w.H = H ∧ w.Ok ∧ VRs X.K w vs xs ∧ bip b vs R ∧ ∀ z r w', Gw w w' → RR X.K w w' r z → R r → Q z w'.H) := by
  intro pins s σ H xs us Q I r h
  obtain ⟨w, vs, R, rfl, ok, vr, hb, q⟩ := h
  have sc : ∀ {d : PyData} {z : V}, Fz X.K w.G z d → R (.fz d) → Q z w.H := fun {d z} f hr => q z (.fz d) w (Gw.refl ok) (.fz f) hr
  have hc := S.calm
  cases b with
  | len =>
    obtain ⟨v, ds, rfl, e, hb⟩ := hb
    obtain ⟨x, rfl, hv⟩ := vr.one
    obtain ⟨p, ws, rfl, hl, f⟩ := hv.seq ok e
    refine call_len_seq pins s σ w.H _ us Q I r ⟨p, ws, rfl, ?_, by rw [f.length]; exact sc (.int _) hb⟩
    rcases hl with hl | ⟨hl, _, _⟩
    · exact .inl hl.sq
    · exact .inr hl
  | abs =>
    obtain ⟨i, rfl, hb⟩ := hb
    obtain ⟨x, rfl, hv⟩ := vr.one
    have e := hv.int
    subst e
    exact call_abs pins s σ w.H _ us Q I r ⟨i, rfl, sc (.int _) hb⟩
  | int1 =>
    rcases hb with ⟨i, rfl, hb⟩ | ⟨k, rfl, hb⟩
    · obtain ⟨x, rfl, hv⟩ := vr.one
      have e := hv.int
      subst e
      exact call_int1 pins s σ w.H _ us Q I r (.inl ⟨i, rfl, sc (.int _) hb⟩)
    · obtain ⟨x, rfl, hv⟩ := vr.one
      have e := hv.bl
      subst e
      exact call_int1 pins s σ w.H _ us Q I r (.inr ⟨k, rfl, sc (.int _) hb⟩)
  | repr =>
    obtain ⟨v, rfl, h1, h2, h3, hb⟩ := hb
    obtain ⟨x, rfl, hv⟩ := vr.one
    exact repr_ok S pins s σ w.H _ us Q I r ⟨x, _, rfl, hv.now ok, h1, h2, h3, sc (.str _) hb⟩
  | tuple1 =>
    obtain ⟨v, ds, rfl, e, hb⟩ := hb
    obtain ⟨x, rfl, hv⟩ := vr.one
    obtain ⟨p, ws, rfl, hl, f⟩ := hv.seq ok e
    refine call_tuple_of pins s σ w.H _ us Q I r ⟨p, ws, rfl, ?_⟩
    rcases hl with hl | ⟨hl, hg, _⟩
    · exact .inl ⟨hl.sq, fun n hn => q _ _ _ (Gw.newG ok hn) (RR.tup (ok.same.free hn) f) hb⟩
    · exact .inr ⟨hl, sc (.tup hg f) hb⟩
  | list1 =>
    obtain ⟨v, ds, rfl, e, hb⟩ := hb
    obtain ⟨x, rfl, hv⟩ := vr.one
    obtain ⟨p, ws, rfl, hl, f⟩ := hv.seq ok e
    refine call_list_of pins s σ w.H _ us Q I r ⟨p, ws, rfl, ?_, fun n hn => q _ _ _ (Gw.newH ok hn) (RR.lst ok hn f) hb⟩
    rcases hl with hl | ⟨hl, hg, _⟩
    · exact .inl hl.sq
    · exact .inr hl
  | sorted1 =>
    obtain ⟨v, ns, rfl, e, hb⟩ := hb
    obtain ⟨x, rfl, hv⟩ := vr.one
    obtain ⟨p, ws, rfl, hl, f⟩ := hv.seq ok e
    have ew := f.ints
    subst ew
    rcases hl with hl | ⟨hl, _, _⟩
    · exact cr_sortedI pins s σ w.H _ us Q I r ⟨p, ns, rfl, hl.sq, fun ms n pm so hn => q _ _ _ (Gw.newH ok hn) (RR.lst ok hn (FzL.of_ints ms)) (hb ms pm so)⟩
    · exact cr_sortedT pins s σ w.H _ us Q I r ⟨p, ns, rfl, hl, fun ms n pm so hn => q _ _ _ (Gw.newH ok hn) (RR.lst ok hn (FzL.of_ints ms)) (hb ms pm so)⟩
  | min2 =>
    obtain ⟨i, j, rfl, hb⟩ := hb
    obtain ⟨x, y, rfl, h1, h2⟩ := vr.two
    have e1 := h1.int
    have e2 := h2.int
    subst e1 e2
    refine call_min2 hc pins s σ w.H _ us Q I r ⟨i, j, rfl, ?_⟩
    rw [show (if j < i then j else i) = min i j by split <;> omega]
    exact sc (.int _) hb
  | max2 =>
    obtain ⟨i, j, rfl, hb⟩ := hb
    obtain ⟨x, y, rfl, h1, h2⟩ := vr.two
    have e1 := h1.int
    have e2 := h2.int
    subst e1 e2
    refine call_max2 hc pins s σ w.H _ us Q I r ⟨i, j, rfl, ?_⟩
    rw [show (if j > i then j else i) = max i j by split <;> omega]
    exact sc (.int _) hb
  | max1 =>
    obtain ⟨v, ns, rfl, e, hne, hb⟩ := hb
    obtain ⟨x, rfl, hv⟩ := vr.one
    obtain ⟨p, ws, rfl, hl, f⟩ := hv.seq ok e
    have ew := f.ints
    subst ew
    rcases hl with hl | ⟨hl, _, _⟩
    · exact cr_max hc pins s σ w.H _ us Q I r ⟨p, ns, rfl, hl.sq, List.length_pos_iff.mpr hne, fun m h1 h2 => sc (.int _) (hb m h1 h2)⟩
    · exact cr_maxT hc pins s σ w.H _ us Q I r ⟨p, ns, rfl, hl, List.length_pos_iff.mpr hne, fun m h1 h2 => sc (.int _) (hb m h1 h2)⟩
  | min1 =>
    obtain ⟨v, ns, rfl, e, hne, hb⟩ := hb
    obtain ⟨x, rfl, hv⟩ := vr.one
    obtain ⟨p, ws, rfl, hl, f⟩ := hv.seq ok e
    have ew := f.ints
    subst ew
    rcases hl with hl | ⟨hl, _, _⟩
    · exact cr_min hc pins s σ w.H _ us Q I r ⟨p, ns, rfl, hl.sq, List.length_pos_iff.mpr hne, fun m h1 h2 => sc (.int _) (hb m h1 h2)⟩
    · exact cr_minT hc pins s σ w.H _ us Q I r ⟨p, ns, rfl, hl, List.length_pos_iff.mpr hne, fun m h1 h2 => sc (.int _) (hb m h1 h2)⟩
  | sum1 =>
    obtain ⟨v, ns, rfl, e, hb⟩ := hb
    obtain ⟨x, rfl, hv⟩ := vr.one
    obtain ⟨p, ws, rfl, hl, f⟩ := hv.asL ok e
    have ew := f.ints
    subst ew
    exact cr_sum hc pins s σ w.H _ us Q I r ⟨p, ns, rfl, hl.sq, sc (.int _) hb⟩
  | all1 =>
    obtain ⟨v, ns, rfl, e, hb⟩ := hb
    obtain ⟨x, rfl, hv⟩ := vr.one
    obtain ⟨p, ws, rfl, hl, f⟩ := hv.asL ok e
    have ew := f.bools
    subst ew
    exact cr_all hc pins s σ w.H _ us Q I r ⟨p, ns, rfl, hl.sq, sc (.bl _) hb⟩
  | any1 =>
    obtain ⟨v, ns, rfl, e, hb⟩ := hb
    obtain ⟨x, rfl, hv⟩ := vr.one
    obtain ⟨p, ws, rfl, hl, f⟩ := hv.asL ok e
    have ew := f.bools
    subst ew
    exact cr_any hc pins s σ w.H _ us Q I r ⟨p, ns, rfl, hl.sq, sc (.bl _) hb⟩
  | str1 =>
    obtain ⟨i, rfl, hz, hb⟩ := hb
    obtain ⟨x, rfl, hv⟩ := vr.one
    have e := hv.int
    subst e
    exact call_str_int pins s σ w.H _ us Q I r ⟨i, rfl, hz, sc (.str _) hb⟩
theorem FzL.cut {K : PySem.W.Frag} {G : Hp} {vs : List V} {ds : List PyData} (h : FzL K G vs ds) (lo hi : Option Int) : FzL K G (cutV vs lo hi) (cutD ds lo hi) := by
  unfold cutV cutD
  rw [h.length]
  exact (h.drop _).take _
theorem slp_ok : SlR X (fun x lo hi H Q => ∃ w v R, w.H = H ∧ w.Ok ∧ VR X.K w v x ∧ slp v lo hi R ∧ ∀ z r w', Gw w w' → RR X.K w w' r z → R r → Q z w'.H) := by
  intro pins s σ H x u vl vu lo hi sl Q I rx hs pl pu h
  obtain ⟨w, v, R, rfl, ok, va, hb, q⟩ := h
  rcases hb with ⟨ds, e, hb⟩ | ⟨ds, e, hb⟩
  · obtain ⟨p, ws, rfl, hl, f⟩ := va.asL ok e
    exact sl_list pins s σ w.H _ u vl vu lo hi sl Q I rx hs pl pu ⟨p, ws, rfl, hl.sq, fun n hn => q _ _ _ (Gw.newH ok hn) (RR.lst ok hn (f.cut lo hi)) hb⟩
  · obtain ⟨p, ws, rfl, hl, hg, f⟩ := va.asT ok e
    refine sl_tupA pins s σ w.H _ u vl vu lo hi sl Q I rx hs pl pu ⟨p, ws, rfl, hl, fun z => ?_, fun _ n hn => q _ _ _ (Gw.newG ok hn) (RR.tup (ok.same.free hn) (f.cut lo hi)) hb⟩
    have ec : cutD ds lo hi = ds := by
      unfold cutD
      rw [← f.length, z.1, z.2, f.length]
      simp
    rw [ec] at hb
    exact q _ _ _ (Gw.refl ok) (.fz (.tup hg f)) hb
end
end Tk

set_option Elab.async false
set_option linter.all false
set_option maxRecDepth 100000
namespace Tk
open PySem PySem.Spec PyProof.Rows L2
section
variable {K : PySem.W.Frag} {a b c w : Wd} {L L' : Lc} {σ : Sl}

/-! ### handles through steps -/
theorem HRep.on {h : Hd} {v : V} (q : HRep K a b L σ h v) (st : h.stable = true) (s : Step b c) : HRep K a c L' σ h v := by
  cases q with
  | fz f => exact .fz (f.mono s.same)
  | sl e => exact .sl e
  | @pl i r x _ nr e o =>
    cases r with
    | nil => exact absurd rfl nr
    | cons k r => simp [Hd.stable] at st
  | tm l o => exact .tm (l.step s) (l.own s o)
theorem HRep.back {h : Hd} {v : V} (s : Step a b) (q : HRep K b c L σ h v) : HRep K a c L σ h v := by
  cases q with
  | fz f => exact .fz f
  | sl e => exact .sl e
  | pl nr e o => exact .pl nr e o
  | tm l o => exact .tm (l.back s) o
theorem allFz_some : ∀ {xs : List PV} {ds : List PyData}, allFz xs = some ds → xs = ds.map .fz
  | [], ds, e => by
    simp only [allFz] at e
    cases e; rfl
  | .fz d :: r, ds, e => by
    simp only [allFz] at e
    cases h : allFz r with
    | none => rw [h] at e; cases e
    | some ds' =>
      rw [h] at e
      cases e
      rw [allFz_some h]
      rfl
  | .mls _ :: r, ds, e => by simp [allFz] at e
  | .mdc _ _ :: r, ds, e => by simp [allFz] at e
theorem allFz_map : ∀ ds : List PyData, allFz (ds.map .fz) = some ds
  | [] => rfl
  | d :: ds => by
    show (allFz (ds.map .fz)).map (d :: ·) = _
    rw [allFz_map ds]
    rfl
theorem OwnL.fzs {G H : Hp} {ow : Ow} : ∀ {l : Lb} {i : Nat} {ds : List PyData} {vs : List V}, OwnL K G H ow l i (ds.map .fz) vs → FzL K G vs ds
  | _, _, [], _, .nil => .nil
  | _, _, d :: ds, _, .cons h t => by
    cases h with
    | fz h => exact .cons h t.fzs
theorem Own.vr {l : Lb} {x : PV} {v : V} {ot : Ow} (ok : w.Ok) (h : Own K w.G w.H ot l x v) : VR K w x.vw v := by
  have now : Fz K w.H v x.toD := h.data ok.same fun _ _ _ _ z => z
  cases h with
  | fz h => exact .d h
  | @mls _ p xs vs h1 h2 t =>
    cases e : allFz xs with
    | none =>
      simp only [PV.vw, e]
      exact .o now
    | some ds =>
      simp only [PV.vw, e]
      have e' := allFz_some e
      subst e'
      exact .l h2 t.fzs
  | mdc h1 h2 h3 t => exact .o now
theorem HRep.vr {h : Hd} {v : V} {u : Vw} (R : Rel K w L σ) (q : HRep K a w L σ h v) (e : h.vw L = some u) : VR K w u v := by
  cases h with
  | fz d =>
    cases q with
    | fz f => cases e; exact .d f
  | tm x =>
    cases q with
    | tm l o => cases e; exact o.vr R.ok
  | pl i r =>
    simp only [Hd.vw] at e
    cases ex : L.at i r with
    | none => rw [ex] at e; cases e
    | some x =>
      rw [ex] at e
      cases e
      exact (q.own R ex).vr R.ok

/-! ### a row of handles -/
inductive HL (K : PySem.W.Frag) (w : Wd) (L : Lc) (σ : Sl) (ot : Ow) : Nat → List Hd → List V → Prop
  | nil {j : Nat} : HL K w L σ ot j [] []
  | fz {j : Nat} {d : PyData} {v : V} {hs : List Hd} {vs : List V} : Fz K w.G v d → HL K w L σ ot (j + 1) hs vs → HL K w L σ ot j (.fz d :: hs) (v :: vs)
  | sl {j i : Nat} {v : V} {hs : List Hd} {vs : List V} : σ[i]? = some (some v) → HL K w L σ ot (j + 1) hs vs → HL K w L σ ot j (.pl i [] :: hs) (v :: vs)
  | tm {j : Nat} {x : PV} {v : V} {hs : List Hd} {vs : List V} : Own K w.G w.H ot [j] x v → HL K w L σ ot (j + 1) hs vs → HL K w L σ ot j (.tm x :: hs) (v :: vs)
/-- handles that stand side by side, seen from a -/
def HRs (K : PySem.W.Frag) (a w : Wd) (L : Lc) (σ : Sl) (hs : List Hd) (vs : List V) : Prop :=
  (∃ h v, hs = [h] ∧ vs = [v] ∧ HRep K a w L σ h v) ∨ ∃ ot, Loose a w ot ∧ HL K w L σ ot 0 hs vs
theorem HL.move {w' : Wd} {ot ot' : Ow} (sg : Same w.G w'.G) {k : Nat} : ∀ {j : Nat} {hs : List Hd} {vs : List V}, HL K w L σ ot j hs vs →
    (∀ p i l o, j ≤ i → ot p = some (i :: l) → w.H p = some o → w'.H p = some o ∧ ot' p = some ((i + k) :: l)) → HL K w' L' σ ot' (j + k) hs vs
  | _, _, _, .nil, _ => .nil
  | j, _, _, .fz f t, g => by
    refine .fz (f.mono sg) ?_
    rw [show j + k + 1 = j + 1 + k by omega]
    exact t.move sg fun p i l o hi => g p i l o (by omega)
  | j, _, _, .sl f t, g => by
    refine .sl f ?_
    rw [show j + k + 1 = j + 1 + k by omega]
    exact t.move sg fun p i l o hi => g p i l o (by omega)
  | j, _, _, .tm f t, g => by
    refine .tm (f.carry ⟨sg, fun p r o h1 h2 => g p j r o (Nat.le_refl _) h1 h2⟩) ?_
    rw [show j + k + 1 = j + 1 + k by omega]
    exact t.move sg fun p i l o hi => g p i l o (by omega)
theorem HL.step {ot : Ow} {j : Nat} {hs : List Hd} {vs : List V} (lo : Loose a w ot) (s : Step w c) (h : HL K w L σ ot j hs vs) : HL K c L' σ ot j hs vs :=
  HL.move (k := 0) s.same h fun p i l o _ h1 h2 => ⟨(s.keep p o h2 (lo.apart p _ h1).1).1, h1⟩
theorem inj1 {ot : Ow} (h : ∀ p q l, ot p = some l → ot q = some l → p = q) : ∀ p q l, (match ot p with | some (i :: l) => some ((i + 1) :: l) | _ => none : Option Lb) = some l →
    (match ot q with | some (i :: l) => some ((i + 1) :: l) | _ => none : Option Lb) = some l → p = q := by
  intro p q l e e'
  cases e1 : ot p with
  | none => rw [e1] at e; cases e
  | some l1 =>
    cases e2 : ot q with
    | none => rw [e2] at e'; cases e'
    | some l2 =>
      rw [e1] at e
      rw [e2] at e'
      cases l1 with
      | nil => cases e
      | cons i l1 =>
        cases l2 with
        | nil => cases e'
        | cons j l2 =>
          have e := Option.some.inj e
          have e' := Option.some.inj e'
          rw [← e'] at e
          injection e with h1 h2
          have h1 : i = j := by omega
          subst h1 h2
          exact h p q _ e1 e2
/-- one more, worked out ahead of the others -/
theorem HRs.cons {h : Hd} {v : V} {hs : List Hd} {vs : List V} {ot : Ow} (q : HRep K a b L' σ h v) (st : h.stable = true) (s1 : Step a b) (s : Step b w) (lo : Loose b w ot) (t : HL K w L σ ot 0 hs vs) :
    ∃ ot', Loose a w ot' ∧ HL K w L σ ot' 0 (h :: hs) (v :: vs) := by
  have lo' := lo.back s1
  cases q with
  | fz f =>
    refine ⟨fun p => match ot p with | some (i :: l) => some ((i + 1) :: l) | _ => none, ⟨fun p l e => ?_, fun p o e n => ?_, inj1 lo.inj⟩, .fz (f.mono s.same) (t.move (k := 1) (Same.refl _) fun p i l o _ e h2 => ⟨h2, by simp only [e]⟩)⟩
    · cases e' : ot p with
      | none => rw [e'] at e; cases e
      | some l' => exact lo'.apart p l' e'
    · show (match ot p with | some (i :: l) => some ((i + 1) :: l) | _ => none) = none
      rw [lo'.new p o e n]
  | sl f =>
    refine ⟨fun p => match ot p with | some (i :: l) => some ((i + 1) :: l) | _ => none, ⟨fun p l e => ?_, fun p o e n => ?_, inj1 lo.inj⟩, .sl f (t.move (k := 1) (Same.refl _) fun p i l o _ e h2 => ⟨h2, by simp only [e]⟩)⟩
    · cases e' : ot p with
      | none => rw [e'] at e; cases e
      | some l' => exact lo'.apart p l' e'
    · show (match ot p with | some (i :: l) => some ((i + 1) :: l) | _ => none) = none
      rw [lo'.new p o e n]
  | @pl i r x _ nr e o =>
    cases r with
    | nil => exact absurd rfl nr
    | cons k r => simp [Hd.stable] at st
  | @tm x _ o1 l1 q1 =>
    have dj : ∀ {p l}, o1 p = some l → ot p = none := fun {p l} e => by
      obtain ⟨h1, h2, o, h3⟩ := l1.apart p l e
      exact lo.new p o h3 h1
    refine ⟨fun p => match o1 p with | some l => some (0 :: l) | none => match ot p with | some (i :: l) => some ((i + 1) :: l) | _ => none, ⟨fun p l e => ?_, fun p o e n => ?_, fun p q l e e' => ?_⟩,
      .tm ((l1.own s q1).carry ⟨Same.refl _, fun p r o e h2 => ⟨h2, ?_⟩⟩) (t.move (k := 1) (Same.refl _) fun p i l o _ e h2 => ⟨h2, ?_⟩)⟩
    · cases e1 : o1 p with
      | some l' => exact (l1.step s).apart p l' e1
      | none =>
        simp only [e1] at e
        cases e' : ot p with
        | none => rw [e'] at e; cases e
        | some l' => exact lo'.apart p l' e'
    · simp only [l1.new p o e n, lo'.new p o e n]
    · cases e1 : o1 p with
      | some l1' =>
        simp only [e1] at e
        cases e2 : o1 q with
        | some l2' =>
          simp only [e2] at e'
          cases e
          cases e'
          exact l1.inj p q _ e1 e2
        | none =>
          simp only [e2] at e'
          cases e3 : ot q with
          | none => rw [e3] at e'; cases e'
          | some l3 =>
            rw [e3] at e'
            cases l3 with
            | nil => cases e'
            | cons i l3 => cases e; cases e'
      | none =>
        simp only [e1] at e
        cases e2 : o1 q with
        | some l2' =>
          simp only [e2] at e'
          cases e3 : ot p with
          | none => rw [e3] at e; cases e
          | some l3 =>
            rw [e3] at e
            cases l3 with
            | nil => cases e
            | cons i l3 => cases e'; cases e
        | none =>
          simp only [e2] at e'
          exact inj1 lo.inj p q l e e'
    · have e : o1 p = some r := e
      simp only [e]
      rfl
    · cases e1 : o1 p with
      | some l' => rw [dj e1] at e; cases e
      | none => simp only [e]
/-- all frozen, one after another -/
theorem HL.frzs {ot : Ow} : ∀ {hs : List Hd} {vs : List V} {w : Wd} {L L' : Lc} {ds : List PyData} {j : Nat} {ot : Ow}, Rel K w L σ → Step a w → Loose a w ot → HL K w L σ ot j hs vs → frzs L hs = some (ds, L') →
    ∃ G' ow', Rel K ⟨G', ow', w.H⟩ L' σ ∧ Step a ⟨G', ow', w.H⟩ ∧ FzL K G' vs ds ∧ Same w.G G'
  | [], _, w, L, L', ds, j, ot, R, s, lo, h, e => by
    cases h
    cases e
    exact ⟨w.G, w.ow, R, s, .nil, Same.refl _⟩
  | h :: hs, _, w, L, L', ds, j, ot, R, s, lo, hl, e => by
    simp only [Tk.frzs] at e
    cases e1 : h.frz L with
    | none => rw [e1] at e; cases e
    | some q =>
      obtain ⟨d, L1⟩ := q
      rw [e1] at e
      simp only at e
      cases e2 : Tk.frzs L1 hs with
      | none => rw [e2] at e; cases e
      | some q =>
        obtain ⟨ds', L2⟩ := q
        rw [e2] at e
        cases e
        cases hl with
        | fz f t =>
          cases e1
          obtain ⟨G', ow', r1, r2, r3, r4⟩ := HL.frzs (ot := ot) R s lo t e2
          exact ⟨G', ow', r1, r2, .cons (f.mono r4) r3, r4⟩
        | sl f t =>
          obtain ⟨G1, ow1, q1, q2, q3, q4, q5⟩ := HRep.freezePl (a := a) R s (.sl f) e1
          have lo1 := q5 ot lo
          have t1 : HL K ⟨G1, ow1, w.H⟩ L1 σ ot (j + 1) hs _ := HL.move (k := 0) q4 t fun p i l o _ h1 h2 => ⟨h2, h1⟩
          obtain ⟨G', ow', r1, r2, r3, r4⟩ := HL.frzs (ot := ot) q1 q2 lo1 t1 e2
          exact ⟨G', ow', r1, r2, .cons (q3.mono r4) r3, q4.trans r4⟩
        | @tm _ x v _ vs f t =>
          cases e1
          -- the part of j is frozen
          have yes : ∀ {p : Addr} {l : Lb}, ot p = some l → w.ow p = none ∧ w.G p = none ∧ ∃ o, w.H p = some o := fun {p l} z => lo.apart p l z
          classical
          have gsame : Same w.G fun p => if (∃ l, ot p = some (j :: l)) then w.H p else w.G p := fun p o ho => by
            show (if (∃ l, ot p = some (j :: l)) then w.H p else w.G p) = some o
            rw [if_neg fun ⟨l, z⟩ => by rw [(yes z).2.1] at ho; cases ho]
            exact ho
          have R1 : Rel K ⟨fun p => if (∃ l, ot p = some (j :: l)) then w.H p else w.G p, w.ow, w.H⟩ L σ :=
            R.freeze (pr := fun p => ∃ l, ot p = some (j :: l)) (fun p z => if_pos z) (fun p z => if_neg z) (fun p ⟨l, z⟩ => (yes z).2.1) fun p ⟨l, z⟩ => (yes z).1
          have s1 : Step a ⟨fun p => if (∃ l, ot p = some (j :: l)) then w.H p else w.G p, w.ow, w.H⟩ := ⟨s.same.trans gsame, fun p o ho hn => by
            obtain ⟨h1, n1, g1⟩ := s.keep p o ho hn
            refine ⟨h1, n1, ?_⟩
            show (if (∃ l, ot p = some (j :: l)) then w.H p else w.G p) = a.G p
            rw [if_neg fun ⟨l, z⟩ => by rw [lo.new p o ho hn] at z; cases z]
            exact g1⟩
          have lo1 : Loose a ⟨fun p => if (∃ l, ot p = some (j :: l)) then w.H p else w.G p, w.ow, w.H⟩ (fun p => if (∃ l, ot p = some (j :: l)) then none else ot p) := by
            refine ⟨fun p l e => ?_, fun p o e n => ?_, fun p q l e e' => ?_⟩
            · have e : (if (∃ l, ot p = some (j :: l)) then none else ot p) = some l := e
              split at e
              · cases e
              · rename_i nz
                obtain ⟨h1, h2, h3⟩ := yes e
                refine ⟨h1, ?_, h3⟩
                show (if (∃ l, ot p = some (j :: l)) then w.H p else w.G p) = none
                rw [if_neg nz]; exact h2
            · show (if (∃ l, ot p = some (j :: l)) then none else ot p) = none
              rw [lo.new p o e n]
              split <;> rfl
            · have e : (if (∃ l, ot p = some (j :: l)) then none else ot p) = some l := e
              have e' : (if (∃ l, ot q = some (j :: l)) then none else ot q) = some l := e'
              split at e
              · cases e
              · split at e'
                · cases e'
                · exact lo.inj p q l e e'
          have t1 : HL K ⟨fun p => if (∃ l, ot p = some (j :: l)) then w.H p else w.G p, w.ow, w.H⟩ L σ (fun p => if (∃ l, ot p = some (j :: l)) then none else ot p) (j + 1) hs vs := by
            refine HL.move (k := 0) gsame t fun p i l o hi h1 h2 => ⟨h2, ?_⟩
            show (if (∃ l, ot p = some (j :: l)) then none else ot p) = some (i :: l)
            rw [if_neg fun ⟨l', z⟩ => by
              rw [h1] at z
              have := (List.cons.inj (Option.some.inj z)).1
              omega]
            exact h1
          obtain ⟨G', ow', r1, r2, r3, r4⟩ := HL.frzs (ot := ot) R1 s1 lo1 t1 e2
          refine ⟨G', ow', r1, r2, .cons ((f.data (G' := fun p => if (∃ l, ot p = some (j :: l)) then w.H p else w.G p) gsame fun p r o h1 h2 => ?_).mono r4) r3, gsame.trans r4⟩
          show (if (∃ l, ot p = some (j :: l)) then w.H p else w.G p) = some o
          rw [if_pos ⟨r, h1⟩]
          exact h2
theorem HRs.frzs {hs : List Hd} {vs : List V} {ds : List PyData} (R : Rel K w L σ) (s : Step a w) (h : HRs K a w L σ hs vs) (e : Tk.frzs L hs = some (ds, L')) :
    ∃ G' ow', Rel K ⟨G', ow', w.H⟩ L' σ ∧ Step a ⟨G', ow', w.H⟩ ∧ FzL K G' vs ds := by
  rcases h with ⟨h, v, rfl, rfl, q⟩ | ⟨ot, lo, hl⟩
  · simp only [Tk.frzs] at e
    cases e1 : h.frz L with
    | none => rw [e1] at e; cases e
    | some p =>
      obtain ⟨d, L1⟩ := p
      rw [e1] at e
      cases e
      obtain ⟨G', ow', r1, r2, r3⟩ := q.freeze R s e1
      exact ⟨G', ow', r1, r2, .cons r3 .nil⟩
  · obtain ⟨G', ow', r1, r2, r3, _⟩ := hl.frzs (ot := ot) R s lo e
    exact ⟨G', ow', r1, r2, r3⟩
theorem HL.vws {ot : Ow} (R : Rel K w L σ) : ∀ {hs : List Hd} {vs : List V} {us : List Vw} {j : Nat}, HL K w L σ ot j hs vs → Tk.vws L hs = some us → VRs K w us vs
  | [], _, us, j, h, e => by
    cases h
    cases e
    exact .nil
  | h :: hs, _, us, j, hl, e => by
    simp only [Tk.vws] at e
    cases e1 : h.vw L with
    | none => rw [e1] at e; cases e
    | some u =>
      cases e2 : Tk.vws L hs with
      | none => rw [e1, e2] at e; cases e
      | some us' =>
        rw [e1, e2] at e
        cases e
        cases hl with
        | fz f t => exact .cons ((HRep.fz (a := w) f).vr R e1) (t.vws R e2)
        | sl f t => exact .cons ((HRep.sl (a := w) f).vr R e1) (t.vws R e2)
        | tm f t =>
          cases e1
          exact .cons (f.vr R.ok) (t.vws R e2)
theorem HRs.vws {hs : List Hd} {vs : List V} {us : List Vw} (R : Rel K w L σ) (h : HRs K a w L σ hs vs) (e : Tk.vws L hs = some us) : VRs K w us vs := by
  rcases h with ⟨h, v, rfl, rfl, q⟩ | ⟨ot, lo, hl⟩
  · simp only [Tk.vws] at e
    cases e1 : h.vw L with
    | none => rw [e1] at e; cases e
    | some u =>
      rw [e1] at e
      cases e
      exact .cons (q.vr R e1) .nil
  · exact hl.vws R e
/-- as parts of a new thing -/
theorem HL.kids : ∀ {hs : List Hd} {vs : List V} {w : Wd} {L L' : Lc} {xs : List PV} {j : Nat} {ot : Ow}, Rel K w L σ → Step a w → Loose a w ot → HL K w L σ ot j hs vs → kidsOf L hs = some (xs, L') →
    ∃ G' ow', Rel K ⟨G', ow', w.H⟩ L' σ ∧ Step a ⟨G', ow', w.H⟩ ∧ Loose a ⟨G', ow', w.H⟩ ot ∧ OwnL K G' w.H ot [] j xs vs ∧ Same w.G G'
  | [], _, w, L, L', ds, j, ot, R, s, lo, h, e => by
    cases h
    cases e
    exact ⟨w.G, w.ow, R, s, lo, .nil, Same.refl _⟩
  | h :: hs, _, w, L, L', ds, j, ot, R, s, lo, hl, e => by
    simp only [Tk.kidsOf] at e
    cases e1 : h.kid L with
    | none => rw [e1] at e; cases e
    | some q =>
      obtain ⟨d, L1⟩ := q
      rw [e1] at e
      simp only at e
      cases e2 : Tk.kidsOf L1 hs with
      | none => rw [e2] at e; cases e
      | some q =>
        obtain ⟨ds', L2⟩ := q
        rw [e2] at e
        cases e
        cases hl with
        | fz f t =>
          cases e1
          obtain ⟨G', ow', r1, r2, r3, r4, r5⟩ := HL.kids R s lo t e2
          exact ⟨G', ow', r1, r2, r3, .cons (.fz (f.mono r5)) r4, r5⟩
        | @sl _ i _ _ _ f t =>
          simp only [Hd.kid] at e1
          cases e3 : Hd.frz L (.pl i []) with
          | none => rw [e3] at e1; cases e1
          | some q =>
            obtain ⟨d', L3⟩ := q
            rw [e3] at e1
            cases e1
            obtain ⟨G1, ow1, q1, q2, q3, q4, q5⟩ := HRep.freezePl (a := a) R s (.sl f) e3
            have lo1 := q5 ot lo
            have t1 : HL K ⟨G1, ow1, w.H⟩ L1 σ ot (j + 1) hs _ := HL.move (k := 0) q4 t fun p i l o _ h1 h2 => ⟨h2, h1⟩
            obtain ⟨G', ow', r1, r2, r3, r4, r5⟩ := HL.kids q1 q2 lo1 t1 e2
            exact ⟨G', ow', r1, r2, r3, .cons (.fz (q3.mono r5)) r4, q4.trans r5⟩
        | tm f t =>
          cases e1
          obtain ⟨G', ow', r1, r2, r3, r4, r5⟩ := HL.kids R s lo t e2
          exact ⟨G', ow', r1, r2, r3, .cons (f.carry ⟨r5, fun p r o h1 h2 => ⟨h2, h1⟩⟩) r4, r5⟩
/-- one handle as a part -/
theorem HRep.kid {h : Hd} {v : V} {x : PV} (R : Rel K w L σ) (s : Step a w) (q : HRep K a w L σ h v) (e : h.kid L = some (x, L')) :
    ∃ G' ow' ot, Rel K ⟨G', ow', w.H⟩ L' σ ∧ Step a ⟨G', ow', w.H⟩ ∧ Loose a ⟨G', ow', w.H⟩ ot ∧ Own K G' w.H ot [] x v ∧ Same w.G G' := by
  cases h with
  | fz d =>
    cases q with
    | fz f =>
      cases e
      exact ⟨w.G, w.ow, _, R, s, Loose.none _ _, .fz f, Same.refl _⟩
  | tm y =>
    cases q with
    | tm l o =>
      cases e
      exact ⟨w.G, w.ow, _, R, s, l, o, Same.refl _⟩
  | pl i r =>
    simp only [Hd.kid] at e
    cases e3 : Hd.frz L (.pl i r) with
    | none => rw [e3] at e; cases e
    | some p =>
      obtain ⟨d', L3⟩ := p
      rw [e3] at e
      cases e
      obtain ⟨G1, ow1, q1, q2, q3, q4, q5⟩ := HRep.freezePl (a := a) R s q e3
      exact ⟨G1, ow1, _, q1, q2, Loose.none _ _, .fz q3, q4⟩
theorem HRs.kids {hs : List Hd} {vs : List V} {xs : List PV} (R : Rel K w L σ) (s : Step a w) (h : HRs K a w L σ hs vs) (e : kidsOf L hs = some (xs, L')) :
    ∃ G' ow' ot, Rel K ⟨G', ow', w.H⟩ L' σ ∧ Step a ⟨G', ow', w.H⟩ ∧ Loose a ⟨G', ow', w.H⟩ ot ∧ OwnL K G' w.H ot [] 0 xs vs := by
  rcases h with ⟨h, v, rfl, rfl, q⟩ | ⟨ot, lo, hl⟩
  · simp only [Tk.kidsOf] at e
    cases e1 : h.kid L with
    | none => rw [e1] at e; cases e
    | some p =>
      obtain ⟨x, L1⟩ := p
      rw [e1] at e
      cases e
      obtain ⟨G', ow', ot, r1, r2, r3, r4, _⟩ := q.kid R s e1
      refine ⟨G', ow', fun p => (ot p).map (0 :: ·), r1, r2, ⟨fun p l e => ?_, fun p o e n => ?_, fun p q l e e' => ?_⟩, .cons (r4.carry ⟨Same.refl _, fun p r o e h2 => ⟨h2, ?_⟩⟩) .nil⟩
      · cases e' : ot p with
        | none => rw [e'] at e; cases e
        | some l' => exact r3.apart p l' e'
      · show (ot p).map (0 :: ·) = none
        rw [r3.new p o e n]; rfl
      · cases e1 : ot p with
        | none => rw [e1] at e; cases e
        | some l1 =>
          cases e2 : ot q with
          | none => rw [e2] at e'; cases e'
          | some l2 =>
            rw [e1] at e
            rw [e2] at e'
            cases e
            cases e'
            exact r3.inj p q _ e1 e2
      · have e : ot p = some r := e
        rw [e]; rfl
  · obtain ⟨G', ow', r1, r2, r3, r4, _⟩ := hl.kids R s lo e
    exact ⟨G', ow', ot, r1, r2, r3, r4⟩
end
end Tk

set_option Elab.async false
set_option linter.all false
set_option maxRecDepth 100000
namespace Tk
open PySem PySem.Spec PyProof.Rows L2

/-- how an exception lies: by its class, its own dict -/
abbrev XRel := Wd → Exn → Value → Option Addr → Prop
/-- what is wished of exceptions serves what may be raised -/
def XW (K : PySem.W.Frag) (XR : XRel) (W : WX) (w : Wd) (σ : Sl) (XX : QX) : Prop := ∀ e cls d w' L', Rel K w' L' σ → Step w w' → XR w' e cls d → XX e L' → W cls d σ w'.H
theorem XW.on {K : PySem.W.Frag} {XR : XRel} {W : WX} {a b : Wd} {σ : Sl} {XX : QX} (x : XW K XR W a σ XX) (s : Step a b) : XW K XR W b σ XX := fun e cls d w' L' r t h q => x e cls d w' L' r (s.trans t) h q
theorem XW.no {K : PySem.W.Frag} {XR : XRel} {W : WX} {a : Wd} {σ : Sl} : XW K XR W a σ fun _ _ => False := fun _ _ _ _ _ _ _ _ q => q.elim

def tE (K : PySem.W.Frag) (XR : XRel) (W : WX) (f : Lc → QE → QX → Prop) : TE := fun σ H Q => ∃ w L QQ XX, w.H = H ∧ Rel K w L σ ∧ f L QQ XX ∧ XW K XR W w σ XX ∧
  ∀ v h w' L', Rel K w' L' σ → Step w w' → HRep K w w' L' σ h v → QQ h L' → Q v w'.H
def tT (K : PySem.W.Frag) (XR : XRel) (W : WX) (f : Lc → (Bool → Lc → Prop) → QX → Prop) : TT := fun σ H Q => ∃ w L QQ XX, w.H = H ∧ Rel K w L σ ∧ f L QQ XX ∧ XW K XR W w σ XX ∧
  ∀ b w' L', Rel K w' L' σ → Step w w' → QQ b L' → Q b w'.H
def tA (K : PySem.W.Frag) (XR : XRel) (W : WX) (f : Lc → (List Hd → Lc → Prop) → QX → Prop) : TA := fun σ H Q => ∃ w L QQ XX, w.H = H ∧ Rel K w L σ ∧ f L QQ XX ∧ XW K XR W w σ XX ∧
  ∀ vs hs w' L', Rel K w' L' σ → Step w w' → HRs K w w' L' σ hs vs → QQ hs L' → Q vs w'.H
def tB2 (K : PySem.W.Frag) (XR : XRel) (W : WX) (f : Lc → (List Hd → Lc → Prop) → QX → Prop) : TA := fun σ H Q => ∃ w L QQ XX, w.H = H ∧ Rel K w L σ ∧ f L QQ XX ∧ XW K XR W w σ XX ∧
  ∀ vs hs w' L', Rel K w' L' σ → Step w w' → (∃ ot, Loose w w' ot ∧ HL K w' L' σ ot 0 hs vs) → QQ hs L' → Q vs w'.H
def tO (K : PySem.W.Frag) (XR : XRel) (W : WX) (f : Lc → (Option Int → Lc → Prop) → QX → Prop) : TO := fun σ H Q => ∃ w L QQ XX, w.H = H ∧ Rel K w L σ ∧ f L QQ XX ∧ XW K XR W w σ XX ∧
  ∀ o w' L', Rel K w' L' σ → Step w w' → QQ o L' → Q o w'.H
theorem _root_.L2.PE.imp {X : Cx} {e : Expr} {t t' : TE} (h : PE X e t) (i : ∀ σ H Q, t' σ H Q → t σ H Q) : PE X e t' := ⟨fun pins s σ H Q I q => h.run pins s σ H Q I (i σ H Q q)⟩
theorem _root_.L2.PT.imp {X : Cx} {e : Expr} {t t' : TT} (h : PT X e t) (i : ∀ σ H Q, t' σ H Q → t σ H Q) : PT X e t' := ⟨fun pins s σ H Q I q => h.run pins s σ H Q I (i σ H Q q)⟩
theorem _root_.L2.PA.imp {X : Cx} {e : List Expr} {t t' : TA} (h : PA X e t) (i : ∀ σ H Q, t' σ H Q → t σ H Q) : PA X e t' := ⟨fun pos pins s σ H Q I q => h.run pos pins s σ H Q I (i σ H Q q)⟩
theorem _root_.L2.PO.imp {X : Cx} {e : Option Expr} {t t' : TO} (h : PO X e t) (i : ∀ σ H Q, t' σ H Q → t σ H Q) : PO X e t' := ⟨fun pins s σ H Q I q => h.run pins s σ H Q I (i σ H Q q)⟩
section
variable {X : Cx} {XR : XRel} {W : WX} {Φ : Fns}
abbrev SE (X : Cx) (XR : XRel) (W : WX) (Φ : Fns) (e : E) (ex : Expr) : Prop := PE X ex (tE X.K XR W (wE Φ e))
abbrev SA (X : Cx) (XR : XRel) (W : WX) (Φ : Fns) (es : Es) (exs : List Expr) : Prop := PA X exs (tA X.K XR W (wA Φ es))
abbrev SB (X : Cx) (XR : XRel) (W : WX) (Φ : Fns) (es : Es) (exs : List Expr) : Prop := PA X exs (tB2 X.K XR W (wB Φ es))
abbrev SO (X : Cx) (XR : XRel) (W : WX) (Φ : Fns) (es : Es) (o : Option Expr) : Prop := PO X o (tO X.K XR W (wO Φ es))
/-- a test as an expression -/
def asT (f : Lc → QE → QX → Prop) : Lc → (Bool → Lc → Prop) → QX → Prop := fun L Q X => f L (fun h L1 => h.isB fun b => Q b L1) X
abbrev ST (X : Cx) (XR : XRel) (W : WX) (Φ : Fns) (e : E) (ex : Expr) : Prop := PT X ex (tT X.K XR W (asT (wE Φ e)))

theorem fzv {a w : Wd} {L : Lc} {σ : Sl} {d : PyData} {v : V} (h : HRep X.K a w L σ (.fz d) v) : Fz X.K w.G v d := by
  cases h with
  | fz f => exact f
theorem fzi {a w : Wd} {L : Lc} {σ : Sl} {i : Int} {v : V} (h : HRep X.K a w L σ (.fz (.int i)) v) : v = .int i := by
  cases fzv h; rfl
theorem fzb {a w : Wd} {L : Lc} {σ : Sl} {i : Bool} {v : V} (h : HRep X.K a w L σ (.fz (.bool i)) v) : v = .bl i := by
  cases fzv h; rfl

/-! ### names, constants -/
theorem se_nm {i : Nat} {x : Str} {pos : Pos} (hN : X.N[i]? = some x) (hv : Vis X.env.scope x) (hd : (x == ("__debug__" : Str)) = false) (hc : (x == ("__classdict__" : Str)) = false) : SE X XR W Φ (.nm i) (.Name x pos) := by
  refine (pe_var hN hv hd hc).imp fun σ H Q h => ?_
  obtain ⟨w, L, QQ, XX, rfl, R, hf, hx, hq⟩ := h
  unfold wE at hf
  split at hf
  · rename_i d e
    obtain ⟨v, h1, h2⟩ := R.own i _ e
    cases h2 with
    | fz f => exact ⟨v, h1, hq v _ w L R (Step.refl _) (.fz f) hf⟩
  · rename_i x _ e
    obtain ⟨v, h1, h2⟩ := R.own i _ e
    exact ⟨v, h1, hq v _ w L R (Step.refl _) (.sl h1) hf⟩
  · exact hf.elim
theorem se_cst {c : Const} {d : PyData} {j : Nat} {pos : Pos} (h : (match c with | .int i => some (PyData.int i) | .str x => some (.str x) | .bool b => some (.bool b) | .none => some .none | _ => none) = some d) : SE X XR W Φ (.cst d) (.Constant c j pos) := by
  have go : ∀ {v : V}, PE X (.Constant c j pos) (tC v) → (∀ (G : Hp), Fz X.K G v d) → SE X XR W Φ (.cst d) (.Constant c j pos) := fun {v} hp hf => by
    refine hp.imp fun σ H Q h => ?_
    obtain ⟨w, L, QQ, XX, rfl, R, hb, hx, hq⟩ := h
    unfold wE at hb
    exact hq v _ w L R (Step.refl _) (.fz (hf _)) hb
  cases c with
  | int i => cases h; exact go pe_int fun G => .int i
  | str i => cases h; exact go pe_str fun G => .str i
  | bool i => cases h; exact go pe_bl fun G => .bl i
  | none => cases h; exact go pe_non fun G => .non
  | _ => cases h
theorem se_gc {x : Str} {i : Int} {t : Tok} {pos : Pos} (hg : Gl X x) (hm : X.mg x = some (.int i t)) (hd : (x == ("__debug__" : Str)) = false) : SE X XR W Φ (.gc x i) (.Name x pos) := by
  refine (pe_glob (v := .int i) hg hm ⟨_, rfl⟩ hd).imp fun σ H Q h => ?_
  obtain ⟨w, L, QQ, XX, rfl, R, hb, hx, hq⟩ := h
  unfold wE at hb
  exact hq _ _ w L R (Step.refl _) (.fz (.int i)) hb

/-! ### operators -/
variable {a b c : E} {ea eb ec : Expr} {pos : Pos} {more : List Expr}
/-- two things in a row -/
theorem seq2 {fa fb : Lc → QE → QX → Prop} {B : Hd → Hd → Lc → Prop} {w : Wd} {L : Lc} {σ : Sl} {XX : QX} {R2 : V → V → Hp → Prop} (R : Rel X.K w L σ) (hx : XW X.K XR W w σ XX)
    (h : fa L (fun h L1 => h.stable = true ∧ fb L1 (fun g L2 => B h g L2) XX) XX)
    (fin : ∀ x y h g w2 L2, Rel X.K w2 L2 σ → Step w w2 → HRep X.K w w2 L2 σ h x → HRep X.K w w2 L2 σ g y → B h g L2 → R2 x y w2.H) :
    tE X.K XR W fa σ w.H fun x H1 => tE X.K XR W fb σ H1 fun y H2 => R2 x y H2 := by
  refine ⟨w, L, _, XX, rfl, R, h, hx, fun x h1 w1 L1 R1 s1 q1 hb => ?_⟩
  refine ⟨w1, L1, _, XX, rfl, R1, hb.2, hx.on s1, fun y g w2 L2 R2' s2 q2 hB => ?_⟩
  exact fin x y h1 g w2 L2 R2' (s1.trans s2) (q1.on hb.1 s2) (q2.back s1) hB
theorem se_bin {o : Operator} (ha : SE X XR W Φ a ea) (hb : SE X XR W Φ b eb) : SE X XR W Φ (.bin o a b) (.BinOp ea o eb pos) := by
  refine (pe_op (bop_ok o) ha hb).imp fun σ H Q h => ?_
  obtain ⟨w, L, QQ, XX, rfl, R, hf, hx, hq⟩ := h
  unfold wE at hf
  refine seq2 R hx hf fun x y h g w2 L2 R2 s2 q1 q2 ⟨v, u, e1, e2, hb⟩ => ?_
  refine ⟨w2, v, u, _, rfl, R2.ok, q1.vr R2 e1, q2.vr R2 e2, hb, fun z r w3 gw rr hr => ?_⟩
  obtain ⟨R3, s3⟩ := gw.rel R2
  exact hq z _ w3 L2 R3 (s2.trans s3) (rr.hrep R2.ok gw s2) hr
theorem se_frz (ha : SE X XR W Φ a ea) : SE X XR W Φ (.frz a) ea := by
  refine ha.imp fun σ H Q h => ?_
  obtain ⟨w, L, QQ, XX, rfl, R, hf, hx, hq⟩ := h
  unfold wE at hf
  refine ⟨w, L, _, XX, rfl, R, hf, hx, fun v h1 w1 L1 R1 s1 q1 ⟨d, L2, e, hb⟩ => ?_⟩
  obtain ⟨G', ow', R2, s2, f⟩ := q1.freeze R1 s1 e
  exact hq v _ ⟨G', ow', w1.H⟩ L2 R2 s2 (.fz f) hb
theorem se_neg (ha : SE X XR W Φ a ea) : SE X XR W Φ (.neg a) (.UnaryOp .USub ea pos) := by
  refine (pe_un un_neg ha).imp fun σ H Q h => ?_
  obtain ⟨w, L, QQ, XX, rfl, R, hf, hx, hq⟩ := h
  unfold wE at hf
  refine ⟨w, L, _, XX, rfl, R, hf, hx, fun v h1 w1 L1 R1 s1 q1 ⟨i, e, hb⟩ => ?_⟩
  subst e
  exact ⟨i, fzi q1, hq _ _ w1 L1 R1 s1 (.fz (.int _)) hb⟩
theorem se_inv (ha : SE X XR W Φ a ea) : SE X XR W Φ (.inv a) (.UnaryOp .Invert ea pos) := by
  refine (pe_un un_inv ha).imp fun σ H Q h => ?_
  obtain ⟨w, L, QQ, XX, rfl, R, hf, hx, hq⟩ := h
  unfold wE at hf
  refine ⟨w, L, _, XX, rfl, R, hf, hx, fun v h1 w1 L1 R1 s1 q1 ⟨i, e, hb⟩ => ?_⟩
  subst e
  exact ⟨i, fzi q1, hq _ _ w1 L1 R1 s1 (.fz (.int _)) hb⟩
theorem se_not (ha : SE X XR W Φ a ea) : SE X XR W Φ (.not a) (.UnaryOp .Not ea pos) := by
  refine (pe_not ha).imp fun σ H Q h => ?_
  obtain ⟨w, L, QQ, XX, rfl, R, hf, hx, hq⟩ := h
  unfold wE at hf
  refine ⟨w, L, _, XX, rfl, R, hf, hx, fun v h1 w1 L1 R1 s1 q1 ⟨i, e, hb⟩ => ?_⟩
  subst e
  exact ⟨i, fzb q1, hq _ _ w1 L1 R1 s1 (.fz (.bl _)) hb⟩
theorem st_not (ha : ST X XR W Φ a ea) : ST X XR W Φ (.not a) (.UnaryOp .Not ea pos) := by
  refine (pt_not ha).imp fun σ H Q h => ?_
  obtain ⟨w, L, QQ, XX, rfl, R, hf, hx, hq⟩ := h
  unfold asT wE at hf
  refine ⟨w, L, fun b L1 => QQ (!b) L1, XX, rfl, R, ?_, hx, fun b w1 L1 R1 s1 hb => hq _ w1 L1 R1 s1 hb⟩
  unfold asT
  simp only [Hd.isB, Hd.fz.injEq, PyData.bool.injEq, exists_eq_left'] at hf ⊢
  exact hf
theorem se_and (ha : SE X XR W Φ a ea) (hb : SE X XR W Φ b (.BoolOp .And (eb :: more) pos)) : SE X XR W Φ (.and a b) (.BoolOp .And (ea :: eb :: more) pos) := by
  refine (pe_and ha hb).imp fun σ H Q h => ?_
  obtain ⟨w, L, QQ, XX, rfl, R, hf, hx, hq⟩ := h
  unfold wE at hf
  refine ⟨w, L, _, XX, rfl, R, hf, hx, fun v h1 w1 L1 R1 s1 q1 ⟨k, e, h1, h2⟩ => ?_⟩
  subst e
  refine ⟨k, fzb q1, ?_⟩
  cases k with
  | true => exact iteT ⟨w1, L1, QQ, XX, rfl, R1, h1 rfl, hx.on s1, fun v h w' L' R' s' q' hh => hq v h w' L' R' (s1.trans s') (q'.back s1) hh⟩
  | false => exact iteF (hq _ _ w1 L1 R1 s1 (.fz (.bl _)) (h2 rfl))
theorem se_or (ha : SE X XR W Φ a ea) (hb : SE X XR W Φ b (.BoolOp .Or (eb :: more) pos)) : SE X XR W Φ (.or a b) (.BoolOp .Or (ea :: eb :: more) pos) := by
  refine (pe_or ha hb).imp fun σ H Q h => ?_
  obtain ⟨w, L, QQ, XX, rfl, R, hf, hx, hq⟩ := h
  unfold wE at hf
  refine ⟨w, L, _, XX, rfl, R, hf, hx, fun v h1 w1 L1 R1 s1 q1 ⟨k, e, h1, h2⟩ => ?_⟩
  subst e
  refine ⟨k, fzb q1, ?_⟩
  cases k with
  | false => exact iteF ⟨w1, L1, QQ, XX, rfl, R1, h1 rfl, hx.on s1, fun v h w' L' R' s' q' hh => hq v h w' L' R' (s1.trans s') (q'.back s1) hh⟩
  | true => exact iteT (hq _ _ w1 L1 R1 s1 (.fz (.bl _)) (h2 rfl))
/-- a chain of and, or as a test: whatever its whole is -/
abbrev SW (X : Cx) (XR : XRel) (W : WX) (Φ : Fns) (e : E) (ex : Expr) : Prop := PW X ex (tT X.K XR W (asT (wE Φ e)))
theorem _root_.L2.PW.imp {X : Cx} {e : Expr} {t t' : TT} (h : PW X e t) (i : ∀ σ H Q, t' σ H Q → t σ H Q) : PW X e t' := ⟨fun wh pins s σ H Q I q => h.run wh pins s σ H Q I (i σ H Q q)⟩
theorem sw_and (ha : ST X XR W Φ a ea) (hb : SW X XR W Φ b (.BoolOp .And (eb :: more) pos)) : SW X XR W Φ (.and a b) (.BoolOp .And (ea :: eb :: more) pos) := by
  refine (pw_and ha hb).imp fun σ H Q h => ?_
  obtain ⟨w, L, QQ, XX, rfl, R, hf, hx, hq⟩ := h
  unfold asT wE at hf
  refine ⟨w, L, fun k L1 => (k = true → asT (wE Φ b) L1 QQ XX) ∧ (k = false → QQ false L1), XX, rfl, R, ?_, hx, fun k w1 L1 R1 s1 ⟨h1, h2⟩ => ?_⟩
  · unfold asT
    simp only [Hd.isB, Hd.fz.injEq, PyData.bool.injEq, exists_eq_left'] at hf ⊢
    exact hf
  · cases k with
    | true => exact iteT ⟨w1, L1, QQ, XX, rfl, R1, h1 rfl, hx.on s1, fun b w' L' R' s' hh => hq b w' L' R' (s1.trans s') hh⟩
    | false => exact iteF (hq _ w1 L1 R1 s1 (h2 rfl))
theorem sw_or (ha : ST X XR W Φ a ea) (hb : SW X XR W Φ b (.BoolOp .Or (eb :: more) pos)) : SW X XR W Φ (.or a b) (.BoolOp .Or (ea :: eb :: more) pos) := by
  refine (pw_or ha hb).imp fun σ H Q h => ?_
  obtain ⟨w, L, QQ, XX, rfl, R, hf, hx, hq⟩ := h
  unfold asT wE at hf
  refine ⟨w, L, fun k L1 => (k = false → asT (wE Φ b) L1 QQ XX) ∧ (k = true → QQ true L1), XX, rfl, R, ?_, hx, fun k w1 L1 R1 s1 ⟨h1, h2⟩ => ?_⟩
  · unfold asT
    simp only [Hd.isB, Hd.fz.injEq, PyData.bool.injEq, exists_eq_left'] at hf ⊢
    exact hf
  · cases k with
    | false => exact iteF ⟨w1, L1, QQ, XX, rfl, R1, h1 rfl, hx.on s1, fun b w' L' R' s' hh => hq b w' L' R' (s1.trans s') hh⟩
    | true => exact iteT (hq _ w1 L1 R1 s1 (h2 rfl))
/-- an expression that gives a bool, as a test -/
theorem st_val (h : SE X XR W Φ a ea) (he : ∀ whole, isTrue ea X.env whole = (do let v ← whole; standAt ea.pos; holding [v] (truthy v))) : ST X XR W Φ a ea := by
  refine (pt_val h he).imp fun σ H Q h => ?_
  obtain ⟨w, L, QQ, XX, rfl, R, hf, hx, hq⟩ := h
  unfold asT at hf
  refine ⟨w, L, _, XX, rfl, R, hf, hx, fun v h1 w1 L1 R1 s1 q1 ⟨k, e, hb⟩ => ?_⟩
  subst e
  exact ⟨k, fzb q1, hq k w1 L1 R1 s1 hb⟩
theorem cmp_imp (S : Place X) {o : CmpOp} {σ : Sl} {H : Hp} {Q : VK} (h : tE X.K XR W (wE Φ (.cmp o a b)) σ H Q) :
    tOp (fun x y H Q => ∃ w v u R, w.H = H ∧ w.Ok ∧ VR X.K w v x ∧ VR X.K w u y ∧ cop o v u R ∧ ∀ b, R b → Q (.bl b) H) (tE X.K XR W (wE Φ a)) (tE X.K XR W (wE Φ b)) σ H Q := by
  obtain ⟨w, L, QQ, XX, rfl, R, hf, hx, hq⟩ := h
  unfold wE at hf
  refine seq2 R hx hf fun x y h g w2 L2 R2 s2 q1 q2 ⟨v, u, e1, e2, hb⟩ => ?_
  exact ⟨w2, v, u, _, rfl, R2.ok, q1.vr R2 e1, q2.vr R2 e2, hb, fun b hr => hq _ _ w2 L2 R2 s2 (.fz (.bl b)) hr⟩
theorem se_cmp (S : Place X) {o : CmpOp} (ha : SE X XR W Φ a ea) (hb : SE X XR W Φ b eb) (hm : behindInMarks o eb = false) : SE X XR W Φ (.cmp o a b) (.Compare ea [o] [eb] pos) :=
  (pe_cmpR (cop_ok S o) ha hb hm).imp fun σ H Q h => cmp_imp S h
/-- from a value's reading to a test's -/
theorem test_imp {σ : Sl} {H : Hp} {Q : Bool → Hp → Prop} (h : tT X.K XR W (asT (wE Φ a)) σ H Q) : tE X.K XR W (wE Φ a) σ H fun x H' => ∃ k, x = .bl k ∧ Q k H' := by
  obtain ⟨w, L, QQ, XX, rfl, R, hf, hx, hq⟩ := h
  unfold asT at hf
  refine ⟨w, L, _, XX, rfl, R, hf, hx, fun v h1 w1 L1 R1 s1 q1 ⟨k, e, hb⟩ => ?_⟩
  subst e
  exact ⟨k, fzb q1, hq k w1 L1 R1 s1 hb⟩
theorem st_cmp (S : Place X) {o : CmpOp} (ha : SE X XR W Φ a ea) (hb : SE X XR W Φ b eb) (hm : behindInMarks o eb = false) : ST X XR W Φ (.cmp o a b) (.Compare ea [o] [eb] pos) :=
  (pt_cmpR (cop_ok S o) ha hb hm).imp fun σ H Q h => cmp_imp S (test_imp h)
theorem cmp2_imp (S : Place X) {o o' : CmpOp} {σ : Sl} {H : Hp} {Q : VK} (h : tE X.K XR W (wE Φ (.cmp2 o o' a b c)) σ H Q) :
    tChain (fun x y H Q => ∃ w v u R, w.H = H ∧ w.Ok ∧ VR X.K w v x ∧ VR X.K w u y ∧ cop o v u R ∧ ∀ b, R b → Q (.bl b) H) (fun x y H Q => ∃ w v u R, w.H = H ∧ w.Ok ∧ VR X.K w v x ∧ VR X.K w u y ∧ cop o' v u R ∧ ∀ b, R b → Q (.bl b) H)
      (tE X.K XR W (wE Φ a)) (tE X.K XR W (wE Φ b)) (tE X.K XR W (wE Φ c)) σ H Q := by
  obtain ⟨w, L, QQ, XX, rfl, R, hf, hx, hq⟩ := h
  unfold wE at hf
  refine ⟨w, L, _, XX, rfl, R, hf, hx, fun x h1 w1 L1 R1 s1 q1 ⟨st1, hf2⟩ => ?_⟩
  refine ⟨w1, L1, _, XX, rfl, R1, hf2, hx.on s1, fun y g w2 L2 R2 s2 q2 ⟨st2, v, u, e1, e2, hb⟩ => ?_⟩
  refine ⟨w2, v, u, _, rfl, R2.ok, (q1.on st1 s2).vr R2 e1, q2.vr R2 e2, hb, fun k ⟨k1, k2⟩ => ⟨k, rfl, ?_⟩⟩
  cases k with
  | true =>
    refine iteT ⟨w2, L2, _, XX, rfl, R2, k1 rfl, (hx.on s1).on s2, fun z k w3 L3 R3 s3 q3 ⟨v', u', e3, e4, hb'⟩ => ?_⟩
    exact ⟨w3, v', u', _, rfl, R3.ok, (q2.on st2 s3).vr R3 e3, q3.vr R3 e4, hb', fun b hr => hq _ _ w3 L3 R3 ((s1.trans s2).trans s3) (.fz (.bl b)) hr⟩
  | false => exact iteF (hq _ _ w2 L2 R2 (s1.trans s2) (.fz (.bl _)) (k2 rfl))
theorem se_cmp2 (S : Place X) {o o' : CmpOp} (ha : SE X XR W Φ a ea) (hb : SE X XR W Φ b eb) (hc : SE X XR W Φ c ec) (hm : lastMarks [o, o'] [eb, ec] = false) : SE X XR W Φ (.cmp2 o o' a b c) (.Compare ea [o, o'] [eb, ec] pos) :=
  (pe_chain (cop_ok S o) (cop_ok S o') ha hb hc hm).imp fun σ H Q h => cmp2_imp S h
theorem st_cmp2 (S : Place X) {o o' : CmpOp} (ha : SE X XR W Φ a ea) (hb : SE X XR W Φ b eb) (hc : SE X XR W Φ c ec) (hm : lastMarks [o, o'] [eb, ec] = false) : ST X XR W Φ (.cmp2 o o' a b c) (.Compare ea [o, o'] [eb, ec] pos) :=
  (pt_chain (cop_ok S o) (cop_ok S o') ha hb hc hm).imp fun σ H Q h => cmp2_imp S (test_imp h)
/-- a op b op' c op'' d -/
def tChain3 (r r' r'' : R2) (ta tb tc td : TE) : TE := fun σ H Q => ta σ H fun x H1 => tb σ H1 fun y H2 => r x y H2 fun z H3 => ∃ k, z = .bl k ∧
  (if k = true then tc σ H3 fun u H4 => r' y u H4 fun z' H5 => ∃ k', z' = .bl k' ∧ (if k' = true then td σ H5 fun t H6 => r'' u t H6 Q else Q (.bl false) H5) else Q (.bl false) H3)
theorem pe_three {ed : Expr} {o o' o'' : CmpOp} {r r' r'' : R2} {ta tb tc td : TE} (ho : OpR X (compareOp o) r) (ho' : OpR X (compareOp o') r') (ho'' : OpR X (compareOp o'') r'') (ha : PE X ea ta) (hb : PE X eb tb) (hc : PE X ec tc) (hd : PE X ed td)
    (hm : lastMarks [o, o', o''] [eb, ec, ed] = false) : PE X (.Compare ea [o, o', o''] [eb, ec, ed] pos) (tChain3 r r' r'' ta tb tc td) := by
  refine ⟨fun pins s σ H Q I h => ?_⟩
  refine Compare_chain (thn (ha.run pins s σ H _ I h) fun v s1 ⟨x, H1, I1, r1, q1⟩ => chain_link (thn (hb.run pins s1 σ H1 _ I1 q1) fun u s2 ⟨y, H2, I2, r2, q2⟩ =>
    thn (ho pins s2 σ H2 x y v u _ I2 r1 r2 q2) fun d1 s3 ⟨z, H3, I3, r3, k, e, q3⟩ => ?_)) hm
  subst e
  cases r3
  refine wpAny_truthy_bool ?_
  cases k with
  | false => exact ite_ff ⟨.bl false, H3, I3, rfl, q3⟩
  | true =>
    refine ite_tt (chain_link (thn (hc.run pins s3 σ H3 _ I3 q3) fun u' s4 ⟨y', H4, I4, r4, q4⟩ => thn (ho' pins s4 σ H4 y y' u u' _ I4 r2 r4 q4) fun d2 s5 ⟨z2, H5, I5, r5, k2, e2, q5⟩ => ?_))
    subst e2
    cases r5
    refine wpAny_truthy_bool ?_
    cases k2 with
    | false => exact ite_ff ⟨.bl false, H5, I5, rfl, q5⟩
    | true => exact ite_tt (chain_last (thn (hd.run pins s5 σ H5 _ I5 q5) fun w' s6 ⟨z', H6, I6, r6, q6⟩ => ho'' pins s6 σ H6 y' z' u' w' Q I6 r4 r6 q6))
theorem pt_three {ed : Expr} {o o' o'' : CmpOp} {r r' r'' : R2} {ta tb tc td : TE} (ho : OpR X (compareOp o) r) (ho' : OpR X (compareOp o') r') (ho'' : OpR X (compareOp o'') r'') (ha : PE X ea ta) (hb : PE X eb tb) (hc : PE X ec tc) (hd : PE X ed td)
    (hm : lastMarks [o, o', o''] [eb, ec, ed] = false) : PT X (.Compare ea [o, o', o''] [eb, ec, ed] pos) (tTest (tChain3 r r' r'' ta tb tc td)) := by
  refine ⟨fun pins s σ H Q I h => ?_⟩
  refine isTrue_chain (thn (ha.run pins s σ H _ I h) fun v s1 ⟨x, H1, I1, r1, q1⟩ => test_link (thn (hb.run pins s1 σ H1 _ I1 q1) fun u s2 ⟨y, H2, I2, r2, q2⟩ =>
    thn (ho pins s2 σ H2 x y v u _ I2 r1 r2 q2) fun d1 s3 ⟨z, H3, I3, r3, k, e, q3⟩ => ?_)) hm
  subst e
  cases r3
  refine wpAny_truthy_bool ?_
  cases k with
  | false =>
    obtain ⟨k', e', q'⟩ := q3
    cases e'
    exact ite_ff ⟨H3, I3, q'⟩
  | true =>
    refine ite_tt (test_link (thn (hc.run pins s3 σ H3 _ I3 q3) fun u' s4 ⟨y', H4, I4, r4, q4⟩ => thn (ho' pins s4 σ H4 y y' u u' _ I4 r2 r4 q4) fun d2 s5 ⟨z2, H5, I5, r5, k2, e2, q5⟩ => ?_))
    subst e2
    cases r5
    refine wpAny_truthy_bool ?_
    cases k2 with
    | false =>
      obtain ⟨k', e', q'⟩ := q5
      cases e'
      exact ite_ff ⟨H5, I5, q'⟩
    | true =>
      refine ite_tt (test_last (thn (hd.run pins s5 σ H5 _ I5 q5) fun w' s6 ⟨z', H6, I6, r6, q6⟩ => thn (ho'' pins s6 σ H6 y' z' u' w' _ I6 r4 r6 q6) fun d3 s7 ⟨z3, H7, I7, r7, k3, e3, q7⟩ => ?_))
      subst e3
      cases r7
      exact wpAny_truthy_bool ⟨H7, I7, q7⟩
theorem cmp3_imp {d : E} {o o' o'' : CmpOp} {σ : Sl} {H : Hp} {Q : VK} (h : tE X.K XR W (wE Φ (.cmp3 o o' o'' a b c d)) σ H Q) :
    tChain3 (fun x y H Q => ∃ w v u R, w.H = H ∧ w.Ok ∧ VR X.K w v x ∧ VR X.K w u y ∧ cop o v u R ∧ ∀ b, R b → Q (.bl b) H) (fun x y H Q => ∃ w v u R, w.H = H ∧ w.Ok ∧ VR X.K w v x ∧ VR X.K w u y ∧ cop o' v u R ∧ ∀ b, R b → Q (.bl b) H)
      (fun x y H Q => ∃ w v u R, w.H = H ∧ w.Ok ∧ VR X.K w v x ∧ VR X.K w u y ∧ cop o'' v u R ∧ ∀ b, R b → Q (.bl b) H)
      (tE X.K XR W (wE Φ a)) (tE X.K XR W (wE Φ b)) (tE X.K XR W (wE Φ c)) (tE X.K XR W (wE Φ d)) σ H Q := by
  obtain ⟨w, L, QQ, XX, rfl, R, hf, hx, hq⟩ := h
  unfold wE at hf
  refine ⟨w, L, _, XX, rfl, R, hf, hx, fun x h1 w1 L1 R1 s1 q1 ⟨st1, hf2⟩ => ?_⟩
  refine ⟨w1, L1, _, XX, rfl, R1, hf2, hx.on s1, fun y g w2 L2 R2 s2 q2 ⟨st2, v, u, e1, e2, hb⟩ => ?_⟩
  refine ⟨w2, v, u, _, rfl, R2.ok, (q1.on st1 s2).vr R2 e1, q2.vr R2 e2, hb, fun k ⟨k1, k2⟩ => ⟨k, rfl, ?_⟩⟩
  cases k with
  | false => exact iteF (hq _ _ w2 L2 R2 (s1.trans s2) (.fz (.bl _)) (k2 rfl))
  | true =>
    refine iteT ⟨w2, L2, _, XX, rfl, R2, k1 rfl, (hx.on s1).on s2, fun z k w3 L3 R3 s3 q3 ⟨st3, v', u', e3, e4, hb'⟩ => ?_⟩
    refine ⟨w3, v', u', _, rfl, R3.ok, (q2.on st2 s3).vr R3 e3, q3.vr R3 e4, hb', fun k' ⟨m1, m2⟩ => ⟨k', rfl, ?_⟩⟩
    cases k' with
    | false => exact iteF (hq _ _ w3 L3 R3 ((s1.trans s2).trans s3) (.fz (.bl _)) (m2 rfl))
    | true =>
      refine iteT ⟨w3, L3, _, XX, rfl, R3, m1 rfl, ((hx.on s1).on s2).on s3, fun t l w4 L4 R4 s4 q4 ⟨v2, u2, e5, e6, hb2⟩ => ?_⟩
      exact ⟨w4, v2, u2, _, rfl, R4.ok, (q3.on st3 s4).vr R4 e5, q4.vr R4 e6, hb2, fun b hr => hq _ _ w4 L4 R4 (((s1.trans s2).trans s3).trans s4) (.fz (.bl b)) hr⟩
theorem se_cmp3 {d : E} {ed : Expr} (S : Place X) {o o' o'' : CmpOp} (ha : SE X XR W Φ a ea) (hb : SE X XR W Φ b eb) (hc : SE X XR W Φ c ec) (hd : SE X XR W Φ d ed) (hm : lastMarks [o, o', o''] [eb, ec, ed] = false) : SE X XR W Φ (.cmp3 o o' o'' a b c d) (.Compare ea [o, o', o''] [eb, ec, ed] pos) :=
  (pe_three (cop_ok S o) (cop_ok S o') (cop_ok S o'') ha hb hc hd hm).imp fun σ H Q h => cmp3_imp h
theorem st_cmp3 {d : E} {ed : Expr} (S : Place X) {o o' o'' : CmpOp} (ha : SE X XR W Φ a ea) (hb : SE X XR W Φ b eb) (hc : SE X XR W Φ c ec) (hd : SE X XR W Φ d ed) (hm : lastMarks [o, o', o''] [eb, ec, ed] = false) : ST X XR W Φ (.cmp3 o o' o'' a b c d) (.Compare ea [o, o', o''] [eb, ec, ed] pos) :=
  (pt_three (cop_ok S o) (cop_ok S o') (cop_ok S o'') ha hb hc hd hm).imp fun σ H Q h => cmp3_imp (test_imp h)
theorem isN_of {w : Wd} {u : Vw} {x : V} (ok : w.Ok) (h : VR X.K w u x) : decide (x = .non) = isNon u.dat := by
  have f := h.now ok
  generalize u.dat = d at f
  cases f <;> rfl
theorem se_isN {j : Nat} {pos' : Pos} {ng : Bool} (ha : SE X XR W Φ a ea) : SE X XR W Φ (.isN a ng) (.Compare ea [if ng = true then .IsNot else .Is] [.Constant .none j pos'] pos) := by
  have key : ∀ {σ : Sl} {H : Hp} {Q : VK}, tE X.K XR W (wE Φ (.isN a ng)) σ H Q → tE X.K XR W (wE Φ a) σ H fun x H1 => Q (.bl (decide (x = .non) != ng)) H1 := by
    intro σ H Q h
    obtain ⟨w, L, QQ, XX, rfl, R, hf, hx, hq⟩ := h
    unfold wE at hf
    refine ⟨w, L, _, XX, rfl, R, hf, hx, fun v h1 w1 L1 R1 s1 q1 ⟨u, e, hb⟩ => ?_⟩
    show Q (.bl (decide (v = .non) != ng)) w1.H
    rw [isN_of R1.ok (q1.vr R1 e)]
    exact hq _ _ w1 L1 R1 s1 (.fz (.bl _)) hb
  cases ng with
  | true => exact (pe_cmp (pc_notN ha) (nobehind _ (by decide) (by decide))).imp fun σ H Q h => by have z := key h; simp only [Bool.bne_true, Bool.bne_false] at z; exact z
  | false => exact (pe_cmp (pc_isN ha) (nobehind _ (by decide) (by decide))).imp fun σ H Q h => by have z := key h; simp only [Bool.bne_true, Bool.bne_false] at z; exact z
theorem st_isN {j : Nat} {pos' : Pos} {ng : Bool} (ha : SE X XR W Φ a ea) : ST X XR W Φ (.isN a ng) (.Compare ea [if ng = true then .IsNot else .Is] [.Constant .none j pos'] pos) := by
  have key : ∀ {σ : Sl} {H : Hp} {Q : Bool → Hp → Prop}, tT X.K XR W (asT (wE Φ (.isN a ng))) σ H Q → tE X.K XR W (wE Φ a) σ H fun x H1 => ∃ k, V.bl (decide (x = .non) != ng) = .bl k ∧ Q k H1 := by
    intro σ H Q h
    obtain ⟨w, L, QQ, XX, rfl, R, hf, hx, hq⟩ := h
    unfold asT wE at hf
    refine ⟨w, L, _, XX, rfl, R, hf, hx, fun v h1 w1 L1 R1 s1 q1 ⟨u, e, k, e2, hb⟩ => ?_⟩
    cases e2
    show ∃ k, V.bl (decide (v = .non) != ng) = .bl k ∧ Q k w1.H
    rw [isN_of R1.ok (q1.vr R1 e)]
    exact ⟨_, rfl, hq _ w1 L1 R1 s1 hb⟩
  cases ng with
  | true => exact (pt_cmp (pc_notN ha) (nobehind _ (by decide) (by decide))).imp fun σ H Q h => by have z := key h; simp only [Bool.bne_true, Bool.bne_false] at z; exact z
  | false => exact (pt_cmp (pc_isN ha) (nobehind _ (by decide) (by decide))).imp fun σ H Q h => by have z := key h; simp only [Bool.bne_true, Bool.bne_false] at z; exact z
theorem se_ite (hc : ST X XR W Φ c ec) (ha : SE X XR W Φ a ea) (hb : SE X XR W Φ b eb) : SE X XR W Φ (.ite c a b) (.IfExp ec ea eb pos) := by
  refine (pe_ifExp hc ha hb).imp fun σ H Q h => ?_
  obtain ⟨w, L, QQ, XX, rfl, R, hf, hx, hq⟩ := h
  unfold wE at hf
  refine ⟨w, L, _, XX, rfl, R, hf, hx, fun k w1 L1 R1 s1 ⟨h1, h2⟩ => ?_⟩
  cases k with
  | true => exact iteT ⟨w1, L1, QQ, XX, rfl, R1, h1 rfl, hx.on s1, fun v h w' L' R' s' q' hh => hq v h w' L' R' (s1.trans s') (q'.back s1) hh⟩
  | false => exact iteF ⟨w1, L1, QQ, XX, rfl, R1, h2 rfl, hx.on s1, fun v h w' L' R' s' q' hh => hq v h w' L' R' (s1.trans s') (q'.back s1) hh⟩
end
end Tk

set_option Elab.async false
set_option linter.all false
set_option maxRecDepth 100000
namespace Tk
open PySem PySem.Spec PyProof.Rows L2

def noStar : Expr → Bool
  | .Starred _ _ => false
  | _ => true
theorem star1 {e : Expr} {es : List Expr} {env : Env} (h : noStar e = true) : starEach (e :: es) env = (false, eval e env) :: starEach es env := by
  cases e <;> first | rfl | (simp [noStar] at h)
theorem plain_args {env : Env} {pos : Pos} : ∀ {es : List Expr}, es.all noStar = true → (backTo pos (starEach es env)).any (·.1) = false
  | [], _ => rfl
  | e :: es, h => by
    simp only [List.all_cons, Bool.and_eq_true] at h
    rw [star1 h.1]
    show (false || (backTo pos (starEach es env)).any (·.1)) = false
    rw [plain_args h.2]
    rfl

section
variable {X : Cx} {XR : XRel} {W : WX} {Φ : Fns}
variable {a b c : E} {es : Es} {ea eb ec : Expr} {pos : Pos} {exs : List Expr}

/-! ### arguments -/
theorem sa_nil : SA X XR W Φ .nil [] := by
  refine pa_nil.imp fun σ H Q h => ?_
  obtain ⟨w, L, QQ, XX, rfl, R, hf, hx, hq⟩ := h
  unfold wA at hf
  exact hq [] [] w L R (Step.refl _) (.inr ⟨_, Loose.none _ _, .nil⟩) hf
theorem sb_nil : SB X XR W Φ .nil [] := by
  refine pa_nil.imp fun σ H Q h => ?_
  obtain ⟨w, L, QQ, XX, rfl, R, hf, hx, hq⟩ := h
  unfold wB at hf
  exact hq [] [] w L R (Step.refl _) ⟨_, Loose.none _ _, .nil⟩ hf
theorem sa_one (ha : SE X XR W Φ a ea) (hs : noStar ea = true) : SA X XR W Φ (.cons a .nil) [ea] := by
  refine (pa_cons ha pa_nil (star1 hs)).imp fun σ H Q h => ?_
  obtain ⟨w, L, QQ, XX, rfl, R, hf, hx, hq⟩ := h
  unfold wA at hf
  refine ⟨w, L, _, XX, rfl, R, hf, hx, fun v h1 w1 L1 R1 s1 q1 ⟨_, hb⟩ => ?_⟩
  unfold wB at hb
  exact hq [v] [h1] w1 L1 R1 s1 (.inl ⟨h1, v, rfl, rfl, q1⟩) hb
theorem sb_cons (ha : SE X XR W Φ a ea) (hb : SB X XR W Φ es exs) (hs : noStar ea = true) : SB X XR W Φ (.cons a es) (ea :: exs) := by
  refine (pa_cons ha hb (star1 hs)).imp fun σ H Q h => ?_
  obtain ⟨w, L, QQ, XX, rfl, R, hf, hx, hq⟩ := h
  unfold wB at hf
  refine ⟨w, L, _, XX, rfl, R, hf, hx, fun v h1 w1 L1 R1 s1 q1 ⟨st, hb⟩ => ?_⟩
  refine ⟨w1, L1, _, XX, rfl, R1, hb, hx.on s1, fun vs hs w2 L2 R2 s2 ⟨ot, lo, hl⟩ hQ => ?_⟩
  exact hq (v :: vs) (h1 :: hs) w2 L2 R2 (s1.trans s2) (HRs.cons q1 st s1 s2 lo hl) hQ
theorem sa_cons (ha : SE X XR W Φ a ea) (hb : SB X XR W Φ es exs) (hs : noStar ea = true) (hn : es.len ≠ 0) : SA X XR W Φ (.cons a es) (ea :: exs) := by
  refine (pa_cons ha hb (star1 hs)).imp fun σ H Q h => ?_
  obtain ⟨w, L, QQ, XX, rfl, R, hf, hx, hq⟩ := h
  unfold wA at hf
  refine ⟨w, L, _, XX, rfl, R, hf, hx, fun v h1 w1 L1 R1 s1 q1 ⟨st, hb⟩ => ?_⟩
  have st : h1.stable = true := st.elim id fun z => absurd z hn
  refine ⟨w1, L1, _, XX, rfl, R1, hb, hx.on s1, fun vs hs w2 L2 R2 s2 ⟨ot, lo, hl⟩ hQ => ?_⟩
  exact hq (v :: vs) (h1 :: hs) w2 L2 R2 (s1.trans s2) (.inr (HRs.cons q1 st s1 s2 lo hl)) hQ

/-! ### displays -/
theorem Gw.hrep_tup {a w : Wd} {L' : Lc} {σ : Sl} {p : Addr} {vs : List V} {ds : List PyData} {G' : Hp} {ow' : Ow} (R : Rel X.K ⟨G', ow', w.H⟩ L' σ) (s : Step a ⟨G', ow', w.H⟩) (hp : w.H p = none) (f : FzL X.K G' vs ds) :
    ∃ w3, w3.H = upd w.H p (.tup vs) ∧ Rel X.K w3 L' σ ∧ Step a w3 ∧ HRep X.K a w3 L' σ (.fz (.tuple ds)) (.ref p) := by
  have ok := R.ok
  have gw : Gw ⟨G', ow', w.H⟩ ⟨upd G' p (.tup vs), ow', upd w.H p (.tup vs)⟩ := Gw.newG ok hp
  obtain ⟨R3, s3⟩ := gw.rel R
  exact ⟨_, rfl, R3, s.trans s3, (RR.tup (w := ⟨G', ow', w.H⟩) (ok.same.free hp) f).hrep ok gw s⟩
theorem se_tup {k : Nat} (h : SA X XR W Φ es exs) : SE X XR W Φ (.tup es) (.Tuple exs k pos) := by
  refine (pe_tup h).imp fun σ H Q h => ?_
  obtain ⟨w, L, QQ, XX, rfl, R, hf, hx, hq⟩ := h
  unfold wE at hf
  refine ⟨w, L, _, XX, rfl, R, hf, hx, fun vs hs w1 L1 R1 s1 q1 ⟨ds, L2, e, hz, hb⟩ => ?_⟩
  obtain ⟨G', ow', R2, s2, f⟩ := q1.frzs R1 s1 e
  refine ⟨by rw [f.length]; exact hz, fun p hp => ?_⟩
  obtain ⟨w3, e3, R3, s3, q3⟩ := Gw.hrep_tup (w := w1) R2 s2 hp f
  rw [← e3]
  exact hq _ _ w3 L2 R3 s3 q3 hb
/-- a new owned object with its parts -/
theorem mls_new {a w : Wd} {L : Lc} {σ : Sl} {G' : Hp} {ow' ot : Ow} {p : Addr} {xs : List PV} {vs : List V} (R : Rel X.K ⟨G', ow', w.H⟩ L σ) (s : Step a ⟨G', ow', w.H⟩) (lo : Loose a ⟨G', ow', w.H⟩ ot) (f : OwnL X.K G' w.H ot [] 0 xs vs) (hp : w.H p = none)
    {o : HO} {x : PV} (mk : ∀ (H : Hp) (oo : Ow), oo p = some [] → H p = some o → OwnL X.K G' H oo [] 0 xs vs → Own X.K G' H oo [] x (.ref p)) :
    Rel X.K ⟨G', ow', upd w.H p o⟩ L σ ∧ Step a ⟨G', ow', upd w.H p o⟩ ∧ HRep X.K a ⟨G', ow', upd w.H p o⟩ L σ (.tm x) (.ref p) := by
  obtain ⟨R3, s3⟩ := R.newH (p := p) (o := o) hp
  have np : ot p = none := by
    cases z : ot p with
    | none => rfl
    | some l =>
      obtain ⟨_, _, o', h⟩ := lo.apart p l z
      have h : w.H p = some o' := h
      rw [hp] at h; cases h
  refine ⟨R3, s.trans s3, .tm (ot := fun q => if q = p then some [] else match ot q with | some (j :: l) => some (j :: l) | _ => none) ⟨fun q l e => ?_, fun q o' e n => ?_, fun q q' l e e' => ?_⟩ (mk _ _ (if_pos rfl) upd_same (f.lift (Same.refl _) fun q j r o' h1 h2 => ?_))⟩
  · by_cases z : q = p
    · subst z
      have owp : ow' q = none := by
        cases z : ow' q with
        | none => rfl
        | some l =>
          obtain ⟨_, o', h⟩ := R.ok.mine q l z
          have h : w.H q = some o' := h
          rw [hp] at h; cases h
      exact ⟨owp, R.ok.same.free hp, _, upd_same⟩
    · have e : (if q = p then some [] else match ot q with | some (j :: l) => some (j :: l) | _ => none) = some l := e
      rw [if_neg z] at e
      obtain ⟨l', e⟩ : ∃ l', ot q = some l' := by
        cases z : ot q with
        | none => rw [z] at e; cases e
        | some l' => exact ⟨l', rfl⟩
      obtain ⟨h1, h2, o', h3⟩ := lo.apart q l' e
      exact ⟨h1, h2, o', by show upd w.H p o q = some o'; rw [upd_ne z]; exact h3⟩
  · show (if q = p then some [] else match ot q with | some (j :: l) => some (j :: l) | _ => none) = none
    rw [if_neg fun z => ?_]
    · rw [lo.new q o' e n]
    · subst z
      have := (s.keep q o' e n).1
      have this : w.H q = some o' := this
      rw [hp] at this; cases this
  · have e : (if q = p then some [] else match ot q with | some (j :: l) => some (j :: l) | _ => none) = some l := e
    have e' : (if q' = p then some [] else match ot q' with | some (j :: l) => some (j :: l) | _ => none) = some l := e'
    have sub : ∀ {q l}, (match ot q with | some (j :: l) => some (j :: l) | _ => none : Option Lb) = some l → ot q = some l ∧ l ≠ [] := fun {q l} e => by
      cases z : ot q with
      | none => rw [z] at e; cases e
      | some l' =>
        rw [z] at e
        cases l' with
        | nil => cases e
        | cons j l' => cases e; exact ⟨rfl, by simp⟩
    split at e
    · split at e'
      · rename_i h1 h2; rw [h1, h2]
      · cases e; exact absurd rfl (sub e').2
    · split at e'
      · cases e'; exact absurd rfl (sub e).2
      · exact lo.inj q q' l (sub e).1 (sub e').1
  · have z : q ≠ p := fun z => by rw [z, hp] at h2; cases h2
    refine ⟨(upd_ne z).trans h2, ?_⟩
    rw [if_neg z, h1]; rfl
theorem se_lst (h : SA X XR W Φ es exs) : SE X XR W Φ (.lst es) (.List exs pos) := by
  refine (pe_lst h).imp fun σ H Q h => ?_
  obtain ⟨w, L, QQ, XX, rfl, R, hf, hx, hq⟩ := h
  unfold wE at hf
  refine ⟨w, L, _, XX, rfl, R, hf, hx, fun vs hs w1 L1 R1 s1 q1 ⟨xs, L2, e, hz, hb⟩ => ?_⟩
  obtain ⟨G', ow', ot, R2, s2, lo, f⟩ := q1.kids R1 s1 e
  refine ⟨by rw [← f.length]; exact hz, fun p hp => ?_⟩
  obtain ⟨R3, s3, q3⟩ := mls_new (o := .lst vs) (x := .mls xs) R2 s2 lo f hp fun H oo h1 h2 t => .mls h1 h2 t
  exact hq _ _ _ L2 R3 s3 q3 hb

/-! ### subscripts -/
theorem ix_dictX (S : Place X) : IxR X (fun x y H Q => ∃ a v, x = .ref a ∧ DGet H a y (some v) ∧ Q v H) := by
  intro value slice pins s σ H x y v u Q I rx ry h hs
  obtain ⟨a, z, rfl, g, q⟩ := h
  obtain rfl : v = Value.ref a := rx
  have hun := S.units
  exact tail_any (dict_typeIs I g) PySem.F.slot_dict_getitem.lookup (d_getItem (by omega) I g ry fun w' s' I' r' => ⟨z, H, I', r', q⟩) hs
theorem atI_both {K : PySem.W.Frag} {G : Hp} {vs : List V} {ds : List PyData} {i : Int} {d : PyData} (f : FzL K G vs ds) (h : atI ds i = some d) : ∃ v, atI vs i = some v ∧ Fz K G v d := by
  unfold atI at h ⊢
  rw [f.length]
  cases e : ixN ds.length i with
  | none => rw [e] at h; cases h
  | some j =>
    rw [e] at h
    exact f.get' h
theorem valV_zip : ∀ {ks : List Key} {vs : List V} {j : Nat} {k : Key} {v : V}, ks.Nodup → ks[j]? = some k → vs[j]? = some v → valV (ks.zip vs) k = some v
  | [], _, _, _, _, _, h, _ => by simp at h
  | _ :: _, [], _, _, _, _, _, h => by simp at h
  | k' :: ks, v' :: vs, 0, k, v, _, h1, h2 => by
    simp at h1 h2
    subst h1 h2
    exact valV_pos rfl
  | k' :: ks, v' :: vs, j + 1, k, v, nd, h1, h2 => by
    have h1' : ks[j]? = some k := by simpa using h1
    have ne : ¬ k' = k := fun e => (List.nodup_cons.mp nd).1 (e ▸ List.mem_of_getElem? h1')
    show valV ((k', v') :: ks.zip vs) k = _
    rw [valV_neg ne]
    exact valV_zip (List.nodup_cons.mp nd).2 h1' (by simpa using h2)
theorem keyOf_V {K : PySem.W.Frag} {G : Hp} {d : PyData} {z : Key} {y : V} (h : keyOf d = some z) (f : Fz K G y d) : y = kV z := by
  cases f <;> simp [keyOf] at h <;> subst h <;> rfl
theorem Lc.at_append {L : Lc} {i : Nat} {r : List Nat} {j : Nat} {y : PV} (h : L.at i r = some y) : L.at i (r ++ [j]) = y.kids[j]? := by
  obtain ⟨x, hx, ex⟩ := at_some h
  unfold Lc.at
  rw [hx]
  show x.get (r ++ [j]) = _
  rw [get_append, ex]
  rfl
theorem part_hrep {K : PySem.W.Frag} {a w : Wd} {L : Lc} {σ : Sl} {i : Nat} {r : List Nat} {j : Nat} {y x : PV} {v : V} (h : L.at i r = some y) (hk : y.kids[j]? = some x) (o : Own K w.G w.H w.ow (i :: r ++ [j]) x v) : HRep K a w L σ (kidHd i r j x) v := by
  cases x with
  | fz d => cases o with | fz f => exact .fz f
  | mls xs => exact .pl (by simp) (by rw [Lc.at_append h]; exact hk) (by simpa using o)
  | mdc ks xs => exact .pl (by simp) (by rw [Lc.at_append h]; exact hk) (by simpa using o)
theorem ixp_ok {a w : Wd} {L : Lc} {σ : Sl} {h : Hd} {x y : V} {k : PyData} {R : Hd → Prop} {Q : VK} (hR : Rel X.K w L σ) (q : HRep X.K a w L σ h x) (f : Fz X.K w.G y k) (hp : ixp L h k R) (fin : ∀ v r, HRep X.K a w L σ r v → R r → Q v w.H) :
    rIxL X.K x y w.H Q ∨ rIxT X.K x y w.H Q ∨ ∃ a v, x = .ref a ∧ DGet w.H a y (some v) ∧ Q v w.H := by
  have frz : ∀ {d : PyData}, Fz X.K w.G x d → (∃ ds i e, (d = .list ds ∨ d = .tuple ds) ∧ k = .int i ∧ atI ds i = some e ∧ R (.fz e)) → rIxL X.K x y w.H Q ∨ rIxT X.K x y w.H Q ∨ ∃ a v, x = .ref a ∧ DGet w.H a y (some v) ∧ Q v w.H := by
    intro d fd ⟨ds, i, e, hd, hk, ha, hr⟩
    subst hk
    have ey : y = .int i := by cases f; rfl
    subst ey
    rcases hd with rfl | rfl
    · cases fd with
      | lst h1 h2 =>
        obtain ⟨v, e1, e2⟩ := atI_both h2 ha
        exact .inl ⟨_, _, i, v, rfl, rfl, (h1.mono hR.ok.same).sq, e1, fin v _ (.fz e2) hr⟩
    · cases fd with
      | tup h1 h2 =>
        obtain ⟨v, e1, e2⟩ := atI_both h2 ha
        exact .inr (.inl ⟨_, _, i, v, rfl, rfl, sqT_mono hR.ok.same h1, e1, fin v _ (.fz e2) hr⟩)
  cases h with
  | fz d =>
    cases q with
    | fz fd =>
      cases d <;> simp only [ixp] at hp
      · obtain ⟨i, e, h1, h2, h3⟩ := hp
        exact frz fd ⟨_, i, e, .inl rfl, h1, h2, h3⟩
      · obtain ⟨i, e, h1, h2, h3⟩ := hp
        exact frz fd ⟨_, i, e, .inr rfl, h1, h2, h3⟩
  | tm z =>
    cases q with
    | tm lo o =>
      simp only [ixp] at hp
      split at hp
      · rename_i ds e
        obtain ⟨i, d, xs, rfl, rfl, h1, h2⟩ := hp
        have e' := allFz_some e
        simp only [PV.kids] at e'
        subst e'
        have ey : y = .int i := by cases f; rfl
        subst ey
        cases o with
        | mls o1 o2 t =>
          obtain ⟨v, e1, e2⟩ := atI_both t.fzs h1
          exact .inl ⟨_, _, i, v, rfl, rfl, SqL.of o2, e1, fin v _ (.fz e2) h2⟩
      · exact hp.elim
  | pl i r =>
    simp only [ixp] at hp
    split at hp
    · rename_i xs e
      obtain ⟨z, j, c, rfl, h1, h2, h3⟩ := hp
      have ey : y = .int z := by cases f; rfl
      subst ey
      have o := q.own hR e
      cases o with
      | mls o1 o2 t =>
        obtain ⟨v, e1, e2⟩ := t.get h2
        refine .inl ⟨_, _, z, v, rfl, rfl, SqL.of o2, ?_, fin v _ (part_hrep (y := .mls xs) e h2 (by simpa using e2)) h3⟩
        unfold atI
        rw [← t.length, h1]
        exact e1
    · rename_i ks xs e
      obtain ⟨z, j, c, hz, nd, h1, h2, h3⟩ := hp
      have ey := keyOf_V hz f
      subst ey
      have o := q.own hR e
      cases o with
      | mdc o1 o2 o3 t =>
        obtain ⟨v, e1, e2⟩ := t.get h2
        refine .inr (.inr ⟨_, v, rfl, ?_, fin v _ (part_hrep (y := .mdc ks xs) e h2 (by simpa using e2)) h3⟩)
        rw [← valV_zip nd h1 e1]
        exact DGet.k o2
    · rename_i ds e
      obtain ⟨z, d, h1, h2, h3⟩ := hp
      have o := q.own hR e
      cases o with
      | fz fd => exact frz fd ⟨_, z, d, .inl rfl, h1, h2, h3⟩
    · rename_i ds e
      obtain ⟨z, d, h1, h2, h3⟩ := hp
      have o := q.own hR e
      cases o with
      | fz fd => exact frz fd ⟨_, z, d, .inr rfl, h1, h2, h3⟩
    · exact hp.elim
def noSlice : Expr → Bool
  | .Slice .. => false
  | _ => true
theorem plainIx_of {e : Expr} (h : noSlice e = true) : PlainIx e := by
  intro o i
  cases e <;> first | rfl | (simp [noSlice] at h)
theorem se_ix (S : Place X) (ha : SE X XR W Φ a ea) (hb : SE X XR W Φ b eb) (hn : noSlice eb = true) : SE X XR W Φ (.ix a b) (.Subscript ea eb pos) := by
  refine (pe_ix (ix_list.or (ix_tup.or (ix_dictX S))) ha hb (plainIx_of hn)).imp fun σ H Q h => ?_
  obtain ⟨w, L, QQ, XX, rfl, R, hf, hx, hq⟩ := h
  unfold wE at hf
  refine seq2 R hx hf fun x y h g w2 L2 R2 s2 q1 q2 ⟨d, e, hb⟩ => ?_
  subst e
  exact ixp_ok R2 q1 (fzv q2) hb fun v r hr hQ => hq v r w2 L2 R2 s2 hr hQ

/-! ### slices -/
theorem so_nil : SO X XR W Φ .nil none := by
  refine po_none.imp fun σ H Q h => ?_
  obtain ⟨w, L, QQ, XX, rfl, R, hf, hx, hq⟩ := h
  unfold wO at hf
  exact hq _ w L R (Step.refl _) hf
theorem so_cons (ha : SE X XR W Φ a ea) : SO X XR W Φ (.cons a es) (some ea) := by
  refine (po_some ha).imp fun σ H Q h => ?_
  obtain ⟨w, L, QQ, XX, rfl, R, hf, hx, hq⟩ := h
  unfold wO at hf
  refine ⟨w, L, _, XX, rfl, R, hf, hx, fun v h1 w1 L1 R1 s1 q1 ⟨i, e, hb⟩ => ?_⟩
  subst e
  exact ⟨i, fzi q1, hq _ w1 L1 R1 s1 hb⟩
theorem se_sl {lo hi : Es} {elo ehi : Option Expr} {p2 : Pos} (ha : SE X XR W Φ a ea) (hl : SO X XR W Φ lo elo) (hh : SO X XR W Φ hi ehi) : SE X XR W Φ (.sl a lo hi) (.Subscript ea (.Slice elo ehi none p2) pos) := by
  refine (pe_slice slp_ok ha hl hh).imp fun σ H Q h => ?_
  obtain ⟨w, L, QQ, XX, rfl, R, hf, hx, hq⟩ := h
  unfold wE at hf
  refine ⟨w, L, _, XX, rfl, R, hf, hx, fun v h1 w1 L1 R1 s1 q1 ⟨st, hb⟩ => ?_⟩
  refine ⟨w1, L1, _, XX, rfl, R1, hb, hx.on s1, fun l w2 L2 R2 s2 hb => ?_⟩
  refine ⟨w2, L2, _, XX, rfl, R2, hb, (hx.on s1).on s2, fun u w3 L3 R3 s3 ⟨vv, e, hb⟩ => ?_⟩
  refine ⟨w3, vv, _, rfl, R3.ok, (q1.on st (s2.trans s3)).vr R3 e, hb, fun z r w4 gw rr hr => ?_⟩
  obtain ⟨R4, s4⟩ := gw.rel R3
  exact hq z _ w4 L3 R4 (((s1.trans s2).trans s3).trans s4) (rr.hrep R3.ok gw ((s1.trans s2).trans s3)) hr

/-! ### built-in calls -/
theorem bi_imp {b : Bi} {σ : Sl} {H : Hp} {Q : VK} (h : tE X.K XR W (wE Φ (.bi b es)) σ H Q) :
    tCB (fun xs H Q => ∃ w vs R, w.H = H ∧ w.Ok ∧ VRs X.K w vs xs ∧ bip b vs R ∧ ∀ z r w', Gw w w' → RR X.K w w' r z → R r → Q z w'.H) (tA X.K XR W (wA Φ es)) σ H Q := by
  obtain ⟨w, L, QQ, XX, rfl, R, hf, hx, hq⟩ := h
  unfold wE at hf
  refine ⟨w, L, _, XX, rfl, R, hf, hx, fun vs hs w1 L1 R1 s1 q1 ⟨us, e, hb⟩ => ?_⟩
  refine ⟨w1, us, _, rfl, R1.ok, q1.vws R1 e, hb, fun z r w4 gw rr hr => ?_⟩
  obtain ⟨R4, s4⟩ := gw.rel R1
  exact hq z _ w4 L1 R4 (s1.trans s4) (rr.hrep R1.ok gw s1) hr
theorem se_biB {b : Bi} {id : String} {x : Str} {p : Pos} (S : Place X) (hv : b.val = .builtin id) (h : SA X XR W Φ es (ea :: exs)) (hg : Gl X x) (hm : X.mg x = none) (hb : bootBuiltins x = some (.builtin id)) (hs : (ea :: exs).all noStar = true)
    (hn : x ≠ "__name__") (hd : (x == ("__debug__" : Str)) = false) : SE X XR W Φ (.bi b es) (.Call (.Name x p) (ea :: exs) [] pos) := by
  have hs' := hs
  simp only [List.all_cons, Bool.and_eq_true] at hs'
  have ok := bip_ok S b
  rw [hv] at ok
  exact (pe_callB ok hg hm hb h hn hd (star1 hs'.1) (plain_args hs'.2)).imp fun σ H Q h => bi_imp h
theorem se_biT {b : Bi} {id : String} {x : Str} {p : Pos} (S : Place X) (hv : b.val = .type id) (h : SA X XR W Φ es (ea :: exs)) (hg : Gl X x) (hm : X.mg x = none) (hb : bootBuiltins x = some (.type id)) (hs : (ea :: exs).all noStar = true)
    (hn : x ≠ "__name__") (hd : (x == ("__debug__" : Str)) = false) : SE X XR W Φ (.bi b es) (.Call (.Name x p) (ea :: exs) [] pos) := by
  have hs' := hs
  simp only [List.all_cons, Bool.and_eq_true] at hs'
  have ok := bip_ok S b
  rw [hv] at ok
  exact (pe_callTy ok hg hm hb h hn hd (star1 hs'.1) (plain_args hs'.2)).imp fun σ H Q h => bi_imp h
end
end Tk

set_option Elab.async false
set_option linter.all false
set_option maxRecDepth 100000
namespace Tk
open PySem PySem.Spec PyProof.Rows L2

/-! ### changing what is owned -/
theorem OwnL.lift2 {K : PySem.W.Frag} {G H : Hp} {ow : Ow} {G' H' : Hp} {ow' : Ow} {l l' : Lb} (sg : Same G G') : ∀ {i : Nat} {xs : List PV} {vs : List V}, OwnL K G H ow l i xs vs →
    (∀ (p : Addr) (j : Nat) (r : Lb) (o : HO), i ≤ j → j < i + xs.length → ow p = some (l ++ j :: r) → H p = some o → H' p = some o ∧ ow' p = some (l' ++ j :: r)) → OwnL K G' H' ow' l' i xs vs
  | _, _, _, .nil, _ => .nil
  | i, x :: xs, _, .cons h t, g => .cons (h.carry ⟨sg, fun p r o h1 h2 => by
      rw [List.append_assoc] at h1 ⊢
      exact g p i r o (Nat.le_refl _) (by rw [List.length_cons]; omega) h1 h2⟩) (t.lift2 sg fun p j r o a b => g p j r o (by omega) (by rw [List.length_cons]; omega))
theorem OwnL.cat {K : PySem.W.Frag} {G H : Hp} {ow : Ow} {l : Lb} : ∀ {i : Nat} {xs ys : List PV} {vs us : List V}, OwnL K G H ow l i xs vs → OwnL K G H ow l (i + xs.length) ys us → OwnL K G H ow l i (xs ++ ys) (vs ++ us)
  | _, _, _, _, _, .nil, h => h
  | i, x :: xs, _, _, _, .cons h t, u => .cons h (t.cat (by rw [show i + 1 + xs.length = i + (xs.length + 1) by omega]; exact u))
theorem OwnL.front {K : PySem.W.Frag} {G H : Hp} {ow : Ow} {l : Lb} : ∀ {i : Nat} {xs ys : List PV} {vs : List V}, OwnL K G H ow l i (xs ++ ys) vs → ∃ as bs, vs = as ++ bs ∧ OwnL K G H ow l i xs as ∧ OwnL K G H ow l (i + xs.length) ys bs
  | _, [], _, vs, h => ⟨[], vs, rfl, .nil, h⟩
  | i, x :: xs, ys, _, .cons h t => by
    obtain ⟨as, bs, e, h1, h2⟩ := t.front
    subst e
    refine ⟨_ :: as, bs, rfl, .cons h h1, ?_⟩
    rw [List.length_cons, show i + (xs.length + 1) = i + 1 + xs.length by omega]
    exact h2
theorem OwnL.setV {K : PySem.W.Frag} {G H : Hp} {ow : Ow} {G' H' : Hp} {ow' : Ow} {l : Lb} {x : PV} {y : V} (sg : Same G G') : ∀ {i k : Nat} {xs : List PV} {vs : List V}, OwnL K G H ow l i xs vs → Own K G' H' ow' (l ++ [i + k]) x y →
    (∀ (p : Addr) (j : Nat) (r : Lb) (o : HO), j ≠ i + k → ow p = some (l ++ j :: r) → H p = some o → H' p = some o ∧ ow' p = some (l ++ j :: r)) → OwnL K G' H' ow' l i (xs.set k x) (vs.set k y)
  | _, _, _, _, .nil, _, _ => .nil
  | i, 0, _, _, .cons h t, hx, g => .cons hx (t.lift2 sg fun p j r o a b => g p j r o (by omega))
  | i, k + 1, _, _, .cons h t, hx, g => .cons (h.carry ⟨sg, fun p r o h1 h2 => by
      rw [List.append_assoc] at h1 ⊢
      exact g p i r o (by omega) h1 h2⟩) (t.setV sg (by rw [show i + 1 + k = i + (k + 1) by omega]; exact hx) fun p j r o hj => g p j r o (by omega))
section
variable {K : PySem.W.Frag} {a w : Wd} {L : Lc} {σ : Sl}
/-- the address of an owned thing -/
theorem own_ref {l : Lb} {y : PV} {p : Addr} (ok : w.Ok) (nf : ∀ d, y ≠ .fz d) (hp : w.ow p = some l) : ∀ u, Own K w.G w.H w.ow l y u → u = .ref p := by
  intro u h
  cases h with
  | fz _ => exact absurd rfl (nf _)
  | mls h1 _ _ => rw [ok.inj _ _ _ h1 hp]
  | mdc h1 _ _ _ => rw [ok.inj _ _ _ h1 hp]
open Classical in
/-- an owned object is written: its part k becomes what lies about -/
theorem Rel.attach {i k : Nat} {r : List Nat} {y y' : PV} {p : Addr} {o' : HO} {ot : Ow} (R : Rel K w L σ) (s : Step a w) (lo : Loose a w ot) (e : L.at i r = some y) (nf : ∀ d, y ≠ .fz d) (hp : w.ow p = some (i :: r))
    (mk : ∀ (H : Hp) (ow : Ow), H p = some o' → ow p = some (i :: r) →
      (∀ (q : Addr) (j : Nat) (t : Lb) (u : HO), j ≠ k → w.ow q = some (i :: r ++ j :: t) → w.H q = some u → H q = some u ∧ ow q = some (i :: r ++ j :: t)) →
      (∀ (q : Addr) (t : Lb) (u : HO), ot q = some t → w.H q = some u → H q = some u ∧ ow q = some (i :: r ++ [k] ++ t)) → Own K w.G H ow (i :: r) y' (.ref p)) :
    ∃ ow', Rel K ⟨w.G, ow', upd w.H p o'⟩ (L.setAt i r y') σ ∧ Step a ⟨w.G, ow', upd w.H p o'⟩ := by
  have notp : ∀ {q : Addr} {l : Lb}, ot q = some l → q ≠ p := fun {q l} z e => by
    subst e
    rw [(lo.apart q l z).1] at hp; cases hp
  refine ⟨fun q => match ot q with | some l => some (i :: r ++ k :: l) | none => if (∃ t, w.ow q = some (i :: r ++ k :: t)) then none else w.ow q, ?_, ?_⟩
  · refine R.graft e ⟨fun q u h => ?_, fun q l h => ?_, fun q q' l h1 h2 => ?_⟩ (Same.refl _) (fun u hu => ?_) fun q t u h1 h2 h3 => ?_
    · show upd w.H p o' q = some u
      rw [upd_ne fun z => by subst z; rw [(R.ok.mine _ _ hp).1] at h; cases h]
      exact R.ok.same _ _ h
    · have h : (match ot q with | some l => some (i :: r ++ k :: l) | none => if (∃ t, w.ow q = some (i :: r ++ k :: t)) then none else w.ow q) = some l := h
      cases z : ot q with
      | some l' =>
        obtain ⟨h1, h2, u, h3⟩ := lo.apart q l' z
        exact ⟨h2, u, by show upd w.H p o' q = some u; rw [upd_ne (notp z)]; exact h3⟩
      | none =>
        rw [z] at h
        simp only at h
        split at h
        · cases h
        · obtain ⟨h1, u, h2⟩ := R.ok.mine q l h
          refine ⟨h1, ?_⟩
          by_cases e : q = p
          · subst e; exact ⟨_, upd_same⟩
          · exact ⟨u, by show upd w.H p o' q = some u; rw [upd_ne e]; exact h2⟩
    · have h1 : (match ot q with | some l => some (i :: r ++ k :: l) | none => if (∃ t, w.ow q = some (i :: r ++ k :: t)) then none else w.ow q) = some l := h1
      have h2 : (match ot q' with | some l => some (i :: r ++ k :: l) | none => if (∃ t, w.ow q' = some (i :: r ++ k :: t)) then none else w.ow q') = some l := h2
      cases z : ot q with
      | some l1 =>
        rw [z] at h1
        cases z' : ot q' with
        | some l2 =>
          rw [z'] at h2
          have e1 := Option.some.inj (h1.trans h2.symm)
          have e2 := List.append_cancel_left e1
          injection e2 with _ e3
          subst e3
          exact lo.inj _ _ _ z z'
        | none =>
          rw [z'] at h2
          simp only at h2
          split at h2
          · cases h2
          · rename_i nz
            exact absurd ⟨l1, h2.trans h1.symm⟩ nz
      | none =>
        rw [z] at h1
        simp only at h1
        split at h1
        · cases h1
        · rename_i nz
          cases z' : ot q' with
          | some l2 =>
            rw [z'] at h2
            exact absurd ⟨l2, h1.trans h2.symm⟩ nz
          | none =>
            rw [z'] at h2
            simp only at h2
            split at h2
            · cases h2
            · exact R.ok.inj _ _ _ h1 h2
    · have eu := own_ref R.ok nf hp u hu
      subst eu
      have op : ot p = none := by
        cases z : ot p with
        | none => rfl
        | some l => exact absurd rfl (notp z)
      refine mk _ _ upd_same ?_ (fun q j t u hj h1 h2 => ?_) fun q t u h1 h2 => ?_
      · show (match ot p with | some l => some (i :: r ++ k :: l) | none => if (∃ t, w.ow p = some (i :: r ++ k :: t)) then none else w.ow p) = _
        rw [op]
        show (if (∃ t, w.ow p = some (i :: r ++ k :: t)) then none else w.ow p) = _
        rw [if_neg fun ⟨t, z⟩ => by
          rw [hp] at z
          have z := Option.some.inj z
          have z : i :: r ++ [] = i :: r ++ k :: t := by rw [List.append_nil]; exact z
          have := List.append_cancel_left z
          cases this]
        exact hp
      · have np : q ≠ p := fun z => by
          subst z
          rw [hp] at h1
          have z := Option.some.inj h1
          have z : i :: r ++ [] = i :: r ++ j :: t := by rw [List.append_nil]; exact z
          have := List.append_cancel_left z
          cases this
        refine ⟨by show upd w.H p o' q = some u; rw [upd_ne np]; exact h2, ?_⟩
        have oq : ot q = none := by
          cases z : ot q with
          | none => rfl
          | some l => rw [(lo.apart q l z).1] at h1; cases h1
        show (match ot q with | some l => some (i :: r ++ k :: l) | none => if (∃ t, w.ow q = some (i :: r ++ k :: t)) then none else w.ow q) = _
        rw [oq]
        show (if (∃ t, w.ow q = some (i :: r ++ k :: t)) then none else w.ow q) = _
        rw [if_neg fun ⟨t', z⟩ => by
          rw [h1] at z
          have := List.append_cancel_left (Option.some.inj z)
          injection this with e1 _
          exact hj e1]
        exact h1
      · refine ⟨by show upd w.H p o' q = some u; rw [upd_ne (notp h1)]; exact h2, ?_⟩
        show (match ot q with | some l => some (i :: r ++ k :: l) | none => if (∃ t, w.ow q = some (i :: r ++ k :: t)) then none else w.ow q) = _
        rw [h1]
        simp
    · have np : q ≠ p := fun z => by
        subst z
        rw [hp] at h1
        exact h2 ⟨[], by rw [List.append_nil]; exact (Option.some.inj h1).symm⟩
      refine ⟨by show upd w.H p o' q = some u; rw [upd_ne np]; exact h3, ?_⟩
      have oq : ot q = none := by
        cases z : ot q with
        | none => rfl
        | some l => rw [(lo.apart q l z).1] at h1; cases h1
      show (match ot q with | some l => some (i :: r ++ k :: l) | none => if (∃ t, w.ow q = some (i :: r ++ k :: t)) then none else w.ow q) = _
      rw [oq]
      show (if (∃ t, w.ow q = some (i :: r ++ k :: t)) then none else w.ow q) = _
      rw [if_neg fun ⟨t', z⟩ => h2 ⟨k :: t', Option.some.inj (h1.symm.trans z)⟩]
      exact h1
  · refine ⟨s.same, fun q u h n => ?_⟩
    obtain ⟨h1, n1, g1⟩ := s.keep q u h n
    have np : q ≠ p := fun z => by subst z; rw [n1] at hp; cases hp
    refine ⟨by show upd w.H p o' q = some u; rw [upd_ne np]; exact h1, ?_, g1⟩
    show (match ot q with | some l => some (i :: r ++ k :: l) | none => if (∃ t, w.ow q = some (i :: r ++ k :: t)) then none else w.ow q) = none
    rw [lo.new q u h n]
    show (if (∃ t, w.ow q = some (i :: r ++ k :: t)) then none else w.ow q) = none
    split
    · rfl
    · exact n1
theorem kid_own {H' : Hp} {ow' : Ow} {ot : Ow} {l : Lb} {k : Nat} {x : PV} {v : V} (h : Own K w.G w.H ot [] x v) (g : ∀ (q : Addr) (t : Lb) (u : HO), ot q = some t → w.H q = some u → H' q = some u ∧ ow' q = some (l ++ [k] ++ t)) : Own K w.G H' ow' (l ++ [k]) x v :=
  h.carry ⟨Same.refl _, fun q t u h1 h2 => g q t u h1 h2⟩
/-- o.append(x) -/
theorem Rel.app {i : Nat} {r : List Nat} {xs : List PV} {x : PV} {ot : Ow} {v y : V} (R : Rel K w L σ) (s : Step a w) (lo : Loose a w ot) (e : L.at i r = some (.mls xs)) (h : Own K w.G w.H w.ow (i :: r) (.mls xs) v) (hx : Own K w.G w.H ot [] x y) :
    ∃ p vs, v = .ref p ∧ w.H p = some (.lst vs) ∧ vs.length = xs.length ∧ ∃ ow', Rel K ⟨w.G, ow', upd w.H p (.lst (vs ++ [y]))⟩ (L.setAt i r (.mls (xs ++ [x]))) σ ∧ Step a ⟨w.G, ow', upd w.H p (.lst (vs ++ [y]))⟩ := by
  cases h with
  | mls h1 h2 t =>
    refine ⟨_, _, rfl, h2, t.length.symm, ?_⟩
    refine R.attach (k := xs.length) s lo e (fun d => by simp) h1 fun H ow g1 g2 g3 g4 => .mls g2 g1 (OwnL.cat (t.lift2 (Same.refl _) fun q j r' u _ hj a b => g3 q j r' u (by omega) a b) (.cons ?_ .nil))
    rw [Nat.zero_add]
    exact kid_own hx g4
/-- a list of frozen things turns into another one -/
theorem Rel.reset {i : Nat} {r : List Nat} {xs : List PV} {ds : List PyData} {us : List V} {v : V} (R : Rel K w L σ) (s : Step a w) (e : L.at i r = some (.mls xs)) (h : Own K w.G w.H w.ow (i :: r) (.mls xs) v) (hx : FzL K w.G us ds) :
    ∃ p vs, v = .ref p ∧ w.H p = some (.lst vs) ∧ OwnL K w.G w.H w.ow (i :: r) 0 xs vs ∧ ∃ ow', Rel K ⟨w.G, ow', upd w.H p (.lst us)⟩ (L.setAt i r (fzL ds)) σ ∧ Step a ⟨w.G, ow', upd w.H p (.lst us)⟩ := by
  cases h with
  | mls h1 h2 t =>
    refine ⟨_, _, rfl, h2, t, ?_⟩
    exact R.attach (k := 0) s (Loose.none _ _) e (fun d => by simp) h1 fun H ow g1 g2 g3 g4 => .mls g2 g1 (OwnL.of_fz hx)
/-- at the end of a list: some things more that are frozen -/
theorem Rel.more {i : Nat} {r : List Nat} {xs : List PV} {ds : List PyData} {us : List V} {v : V} (R : Rel K w L σ) (s : Step a w) (e : L.at i r = some (.mls xs)) (h : Own K w.G w.H w.ow (i :: r) (.mls xs) v) (hx : FzL K w.G us ds) :
    ∃ p vs, v = .ref p ∧ w.H p = some (.lst vs) ∧ vs.length = xs.length ∧ ∃ ow', Rel K ⟨w.G, ow', upd w.H p (.lst (vs ++ us))⟩ (L.setAt i r (.mls (xs ++ ds.map .fz))) σ ∧ Step a ⟨w.G, ow', upd w.H p (.lst (vs ++ us))⟩ := by
  cases h with
  | mls h1 h2 t =>
    refine ⟨_, _, rfl, h2, t.length.symm, ?_⟩
    exact R.attach (k := xs.length) s (Loose.none _ _) e (fun d => by simp) h1 fun H ow g1 g2 g3 g4 => .mls g2 g1 (OwnL.cat (t.lift2 (Same.refl _) fun q j r' u _ hj a b => g3 q j r' u (by omega) a b) (OwnL.of_fz hx))
/-- the last one goes -/
theorem Rel.less {i : Nat} {r : List Nat} {xs : List PV} {d : PyData} {v : V} (R : Rel K w L σ) (s : Step a w) (e : L.at i r = some (.mls (xs ++ [.fz d]))) (h : Own K w.G w.H w.ow (i :: r) (.mls (xs ++ [.fz d])) v) :
    ∃ p vs y, v = .ref p ∧ w.H p = some (.lst (vs ++ [y])) ∧ Fz K w.G y d ∧ ∃ ow', Rel K ⟨w.G, ow', upd w.H p (.lst vs)⟩ (L.setAt i r (.mls xs)) σ ∧ Step a ⟨w.G, ow', upd w.H p (.lst vs)⟩ := by
  cases h with
  | mls h1 h2 t =>
    obtain ⟨as, bs, rfl, t1, t2⟩ := t.front
    cases t2 with
    | cons f t2 =>
      cases t2
      cases f with
      | fz f =>
        refine ⟨_, _, _, rfl, h2, f, ?_⟩
        exact R.attach (k := xs.length) s (Loose.none _ _) e (fun d => by simp) h1 fun H ow g1 g2 g3 g4 => .mls g2 g1 (t1.lift2 (Same.refl _) fun q j r' u _ hj a b => g3 q j r' u (by omega) a b)
/-- one part is replaced -/
theorem Rel.swapL {i j : Nat} {r : List Nat} {xs : List PV} {x : PV} {ot : Ow} {v y : V} (R : Rel K w L σ) (s : Step a w) (lo : Loose a w ot) (e : L.at i r = some (.mls xs)) (h : Own K w.G w.H w.ow (i :: r) (.mls xs) v) (hx : Own K w.G w.H ot [] x y) :
    ∃ p vs, v = .ref p ∧ w.H p = some (.lst vs) ∧ vs.length = xs.length ∧ ∃ ow', Rel K ⟨w.G, ow', upd w.H p (.lst (vs.set j y))⟩ (L.setAt i r (.mls (xs.set j x))) σ ∧ Step a ⟨w.G, ow', upd w.H p (.lst (vs.set j y))⟩ := by
  cases h with
  | mls h1 h2 t =>
    refine ⟨_, _, rfl, h2, t.length.symm, ?_⟩
    refine R.attach (k := j) s lo e (fun d => by simp) h1 fun H ow g1 g2 g3 g4 => .mls g2 g1 ?_
    exact t.setV (Same.refl _) (by rw [Nat.zero_add]; exact kid_own hx g4) fun q j' r' u hj a b => g3 q j' r' u (by omega) a b
end
end Tk

set_option Elab.async false
set_option linter.all false
set_option maxRecDepth 100000
namespace Tk
open PySem PySem.Spec PyProof.Rows L2
section
variable {X : Cx} {XR : XRel} {W : WX} {Φ : Fns}
variable {a b c o : E} {es : Es} {eo ea eb ec : Expr} {pos apos : Pos} {exs : List Expr}

/-! ### methods of lists -/
def plainO : Expr → Bool
  | .Name .. => true
  | .Subscript .. => true
  | _ => false
theorem base_of {e : Expr} {m : Str} {env : Env} (h : plainO e = true) : attributeBase e m env (eval e env) = eval e env := by
  cases e <;> first | rfl | (simp [plainO] at h)
theorem tyV_list {K : PySem.W.Frag} {p : Addr} {H : Hp} {xs : List V} (h : H p = some (.lst xs)) : tyV K "list" (.ref p) H := .inl ⟨rfl, xs, SqL.of h⟩
theorem isL_ty {K : PySem.W.Frag} {a' w : Wd} {L : Lc} {σ : Sl} {h : Hd} {v : V} (R : Rel K w L σ) (q : HRep K a' w L σ h v) (il : h.isL L) : tyV K "list" v w.H := by
  cases h with
  | fz d => exact il.elim
  | tm x => exact il.elim
  | pl i r =>
    simp only [Hd.isL] at il
    split at il
    · rename_i xs e
      cases q.own R e with
      | mls h1 h2 t => exact tyV_list h2
    · exact il.elim
theorem few1 {e : Expr} {env : Env} {cpos : Pos} (h : noStar e = true) : ((backTo cpos (starEach [e] env)).all (fun x => !x.1) && (backToKw cpos (keywordEach [] env)).all (fun x => x.1.isSome)
      && decide (([e] : List Expr).length + ([] : List Keyword).length + (if ([] : List Keyword).isEmpty then 0 else 1) < 30)) = true := by
  rw [star1 h]; rfl
theorem noneQ {K : PySem.W.Frag} {a' w : Wd} {L : Lc} {σ : Sl} : HRep K a' w L σ (.fz .none) .non := .fz .non
/-- one argument's row -/
theorem arg1 (ha : SE X XR W Φ a ea) (hs : noStar ea = true) : PA X [ea] (tCons (tE X.K XR W (wE Φ a)) tNil) := pa_cons ha pa_nil (star1 hs)
theorem se_app (ho : SE X XR W Φ o eo) (ha : SE X XR W Φ a ea) (hb : plainO eo = true) (hs : noStar ea = true) (hl : (apos.endLine == pos.line) = true) :
    SE X XR W Φ (.app o a) (.Call (.Attribute eo "append" apos) [ea] [] pos) := by
  refine (pe_bm PySem.F.plainAttrs_list PySem.F.slot_list_append PySem.F.type_list_append mt_append ho (arg1 ha hs) (base_of hb) (few1 hs) hl (star1 hs) rfl).imp fun σ H Q h => ?_
  obtain ⟨w, L, QQ, XX, rfl, R, hf, hx, hq⟩ := h
  unfold wE at hf
  refine ⟨w, L, _, XX, rfl, R, hf, hx, fun v h1 w1 L1 R1 s1 q1 ⟨st, il, hb⟩ => ⟨isL_ty R1 q1 il, ?_⟩⟩
  refine ⟨w1, L1, _, XX, rfl, R1, hb, hx.on s1, fun y g w2 L2 R2 s2 q2 ⟨i, r, xs, x, L3, e, ek, e3, hz, hQ⟩ => ?_⟩
  subst e
  obtain ⟨G', ow', ot, R3, s3, lo, f, sg⟩ := q2.kid R2 s2 ek
  have q3 : HRep X.K w ⟨G', ow', w2.H⟩ L3 σ (.pl i r) v := q1.on st s3
  obtain ⟨p, vs, rfl, h1, h2, ow4, R4, s4⟩ := R3.app (s1.trans s3) (lo.back s1) e3 (q3.own R3 e3) f
  exact ⟨p, vs, y, rfl, rfl, h1, by omega, hq _ _ _ _ R4 s4 noneQ hQ⟩
theorem se_appn {i : Nat} {x : Str} {np : Pos} (ho : SE X XR W Φ o eo) (hN : X.N[i]? = some x) (hv : Vis X.env.scope x) (hd : (x == ("__debug__" : Str)) = false) (hc : (x == ("__classdict__" : Str)) = false) (hb : plainO eo = true) (hl : (apos.endLine == pos.line) = true) :
    SE X XR W Φ (.appn o i) (.Call (.Attribute eo "append" apos) [.Name x np] [] pos) := by
  refine (pe_bm PySem.F.plainAttrs_list PySem.F.slot_list_append PySem.F.type_list_append mt_append ho (pa_cons (pe_var hN hv hd hc) pa_nil (star1 rfl)) (base_of hb) (few1 rfl) hl (star1 rfl) rfl).imp fun σ H Q h => ?_
  obtain ⟨w, L, QQ, XX, rfl, R, hf, hx, hq⟩ := h
  unfold wE at hf
  refine ⟨w, L, _, XX, rfl, R, hf, hx, fun v h1 w1 L1 R1 s1 q1 ⟨j, r, xs, d, e, ei, ej, hz, hQ⟩ => ?_⟩
  subst e
  have il : Hd.isL L1 (.pl j r) := by simp only [Hd.isL, ej]
  refine ⟨isL_ty R1 q1 il, ?_⟩
  obtain ⟨y, hy, f⟩ := R1.own i _ ei
  cases f with
  | fz f =>
    refine ⟨y, hy, ?_⟩
    obtain ⟨p, vs, rfl, h1, h2, ow4, R4, s4⟩ := R1.app s1 (Loose.none w w1) ej (q1.own R1 ej) (.fz f)
    exact ⟨p, vs, y, rfl, rfl, h1, by omega, hq _ _ _ _ R4 s4 noneQ hQ⟩
theorem se_appd {i k : Nat} {x z : Str} {np mp bp : Pos} (ho : SE X XR W Φ o eo) (hN : X.N[i]? = some x) (hv : Vis X.env.scope x) (hd : (x == ("__debug__" : Str)) = false) (hc : (x == ("__classdict__" : Str)) = false)
    (hN' : X.N[k]? = some z) (hv' : Vis X.env.scope z) (hd' : (z == ("__debug__" : Str)) = false) (hc' : (z == ("__classdict__" : Str)) = false) (hb : plainO eo = true) (hl : (apos.endLine == pos.line) = true) :
    SE X XR W Φ (.appd o i k) (.Call (.Attribute eo "append" apos) [.BinOp (.Name x np) .FloorDiv (.Name z mp) bp] [] pos) := by
  refine (pe_bm PySem.F.plainAttrs_list PySem.F.slot_list_append PySem.F.type_list_append mt_append ho (pa_cons (pe_op (bop_ok .FloorDiv) (pe_var hN hv hd hc) (pe_var hN' hv' hd' hc')) pa_nil (star1 rfl)) (base_of hb) (few1 rfl) hl (star1 rfl) rfl).imp fun σ H Q h => ?_
  obtain ⟨w, L, QQ, XX, rfl, R, hf, hx, hq⟩ := h
  unfold wE at hf
  refine ⟨w, L, _, XX, rfl, R, hf, hx, fun v h1 w1 L1 R1 s1 q1 ⟨j, r, xs, na, nb, e, ei, ek, hn, ej, hz, hQ⟩ => ?_⟩
  subst e
  have il : Hd.isL L1 (.pl j r) := by simp only [Hd.isL, ej]
  refine ⟨isL_ty R1 q1 il, ?_⟩
  obtain ⟨y, hy, f⟩ := R1.own i _ ei
  obtain ⟨y', hy', f'⟩ := R1.own k _ ek
  cases f with
  | fz f =>
    cases f' with
    | fz f' =>
      refine ⟨y, hy, y', hy', w1, .d (.int na), .d (.int nb), fun r => r = .fz (.int (na / nb)), rfl, R1.ok, .d f, .d f', .inl ⟨na, nb, rfl, rfl, hn, rfl⟩, fun z r3 w3 gw rr hr => ?_⟩
      subst hr
      obtain ⟨R3, s3⟩ := gw.rel R1
      have ez : z = .int (na / nb) := by
        cases rr with
        | fz f => cases f; rfl
        | tm h => exact absurd rfl (h _)
      subst ez
      have q3 : Own X.K w3.G w3.H w3.ow (j :: r) (.mls xs) v := by
        have := q1.own R1 ej
        refine this.carry ⟨s3.same, fun p t u h1 h2 => ?_⟩
        exact ⟨gw.h _ _ h2, by rw [gw.ow]; exact h1⟩
      obtain ⟨p, vs, rfl, h1, h2, ow4, R4, s4⟩ := R3.app (s1.trans s3) (Loose.none w w3) ej q3 (.fz (.int _))
      exact ⟨p, vs, _, rfl, rfl, h1, by omega, hq _ _ _ _ R4 s4 noneQ hQ⟩
theorem se_ext (ho : SE X XR W Φ o eo) (ha : SE X XR W Φ a ea) (hb : plainO eo = true) (hs : noStar ea = true) (hl : (apos.endLine == pos.line) = true) :
    SE X XR W Φ (.ext o a) (.Call (.Attribute eo "extend" apos) [ea] [] pos) := by
  refine (pe_bm PySem.F.plainAttrs_list PySem.F.slot_list_extend PySem.F.type_list_extend mt_extendX ho (arg1 ha hs) (base_of hb) (few1 hs) hl (star1 hs) rfl).imp fun σ H Q h => ?_
  obtain ⟨w, L, QQ, XX, rfl, R, hf, hx, hq⟩ := h
  unfold wE at hf
  refine ⟨w, L, _, XX, rfl, R, hf, hx, fun v h1 w1 L1 R1 s1 q1 ⟨st, il, hb⟩ => ⟨isL_ty R1 q1 il, ?_⟩⟩
  refine ⟨w1, L1, _, XX, rfl, R1, hb, hx.on s1, fun y g w2 L2 R2 s2 q2 ⟨i, r, xs, vw, ds, e, e3, ev, ed, hz, hQ⟩ => ?_⟩
  subst e
  obtain ⟨pb, zs, rfl, hl, f⟩ := (q2.vr R2 ev).asL R2.ok ed
  have q3 : HRep X.K w w2 L2 σ (.pl i r) v := q1.on st s2
  obtain ⟨p, vs, rfl, h1, h2, ow4, R4, s4⟩ := R2.more (s1.trans s2) e3 (q3.own R2 e3) f
  have e5 := f.length
  exact ⟨p, pb, vs, zs, rfl, rfl, h1, hl, by omega, hq _ _ _ _ R4 s4 noneQ hQ⟩
theorem se_pop (ho : SE X XR W Φ o eo) (hb : plainO eo = true) (hl : (apos.endLine == pos.line) = true) :
    SE X XR W Φ (.pop o) (.Call (.Attribute eo "pop" apos) [] [] pos) := by
  refine (pe_bm0 PySem.F.plainAttrs_list PySem.F.slot_list_pop PySem.F.type_list_pop mt_pop ho (base_of hb) hl).imp fun σ H Q h => ?_
  obtain ⟨w, L, QQ, XX, rfl, R, hf, hx, hq⟩ := h
  unfold wE at hf
  refine ⟨w, L, _, XX, rfl, R, hf, hx, fun v h1 w1 L1 R1 s1 q1 ⟨j, r, xs, d, e, ej, hQ⟩ => ?_⟩
  subst e
  have il : Hd.isL L1 (.pl j r) := by simp only [Hd.isL, ej]
  refine ⟨isL_ty R1 q1 il, ?_⟩
  obtain ⟨p, vs, y, rfl, h1, f, ow4, R4, s4⟩ := R1.less s1 ej (q1.own R1 ej)
  refine ⟨p, _, y, rfl, rfl, h1, by simp, ?_⟩
  rw [List.dropLast_concat]
  exact hq _ _ _ _ R4 s4 (.fz f) hQ
theorem se_popi (ho : SE X XR W Φ o eo) (ha : SE X XR W Φ a ea) (hb : plainO eo = true) (hs : noStar ea = true) (hl : (apos.endLine == pos.line) = true) :
    SE X XR W Φ (.popi o a) (.Call (.Attribute eo "pop" apos) [ea] [] pos) := by
  refine (pe_bm PySem.F.plainAttrs_list PySem.F.slot_list_pop PySem.F.type_list_pop mt_popAt ho (arg1 ha hs) (base_of hb) (few1 hs) hl (star1 hs) rfl).imp fun σ H Q h => ?_
  obtain ⟨w, L, QQ, XX, rfl, R, hf, hx, hq⟩ := h
  unfold wE at hf
  refine ⟨w, L, _, XX, rfl, R, hf, hx, fun v h1 w1 L1 R1 s1 q1 ⟨st, il, hb⟩ => ⟨isL_ty R1 q1 il, ?_⟩⟩
  refine ⟨w1, L1, _, XX, rfl, R1, hb, hx.on s1, fun y g w2 L2 R2 s2 q2 ⟨i, r, ds, z, k, d, e, e3, eg, hz, hk, hd, hQ⟩ => ?_⟩
  subst e eg
  have q3 : HRep X.K w w2 L2 σ (.pl i r) v := q1.on st s2
  have own := q3.own R2 e3
  have own' := own
  cases own' with
  | @mls _ p xs vs h1 h2 t =>
    obtain ⟨u, hu, f⟩ := t.fzs.get' hd
    obtain ⟨p', vs', ep, h1', _, ow4, R4, s4⟩ := R2.reset (s1.trans s2) e3 own (t.fzs.erase k)
    cases ep
    rw [h2] at h1'
    cases h1'
    have ey := fzi q2
    subst ey
    refine ⟨p, vs, z, k, u, rfl, rfl, h2, hz.1, hz.2, ?_, hu, hq _ _ _ _ R4 s4 (.fz (f.mono (Same.refl _))) hQ⟩
    rw [t.fzs.length]; exact hk
end
end Tk

set_option Elab.async false
set_option linter.all false
set_option maxRecDepth 100000
namespace Tk
open PySem PySem.Spec PyProof.Rows L2

/-! ### enumerate over a tuple -/
/-- iter objects: the tuple at a, its items in new pairs with their places -/
def IteT (K : PySem.W.Frag) (a : Addr) : L2.It :=
  ⟨fun i H => ∃ (xs : List V) (x : V), SqT K H a xs ∧ xs[i]? = some x, fun i H v H' => ∃ T x, v = .ref T ∧ H T = none ∧ H' = upd H T (.tup [.int (i : Nat), x]) ∧ ∀ xs, SqT K H a xs → xs[i]? = some x, fun i H => ∃ xs : List V, SqT K H a xs ∧ xs.length ≤ i⟩
theorem turn_enumT {P : Program} {w : World} {K : PySem.W.Frag} {elts : List Expr} {kk : Nat} {tpos : Pos} (a e it : Addr) (hai : a ≠ it) (hea : e ≠ a) :
    Turn P w K (.Tuple elts kk tpos) (IteT K a) [e, it] e (fun i h => (∃ old, IsEnum h e it ((i : Nat) : Int) old) ∧ h.IsTupleIter it a i ∧ e ≠ it) where
  mem := by simp
  obj := fun i h st b hb => by
    obtain ⟨⟨old, he⟩, ⟨o, ho, hc, hd⟩, _⟩ := st
    have e' : b = e ∨ b = it := by simpa using hb
    rcases e' with z | z
    · rw [z]; exact ⟨_, he, fun v q => nomatch q⟩
    · rw [z]; exact ⟨o, ho, fun v q => by rw [hd] at q; cases q⟩
  keep := fun i h h' st k => let ⟨⟨old, he⟩, hi, hne⟩ := st; ⟨⟨old, k e (by simp) _ he⟩, hi.at fun o q => k it (by simp) o q, hne⟩
  item := by
    intro X hP hw hK hc i pins s σ H E I hf st hg
    subst hP hw hK
    obtain ⟨⟨old, he⟩, hit, hne⟩ := st
    obtain ⟨xs, x, hq, hx⟩ := hg
    obtain ⟨its, rv, p, hz⟩ := I.tuple hq
    obtain ⟨u, hu, ru⟩ := rv.get hx
    have hel : e < s.heap.objs.size := Heap.lt_size he
    have hil : it < s.heap.objs.size := by obtain ⟨_, q, _⟩ := hit; exact Heap.lt_size q
    have hlt : i < its.toArray.size := by
      rw [List.size_toArray, ← rv.length]
      exact (List.getElem?_eq_some_iff.mp hx).1
    refine wpAny_pyNext_enum_itemD (A := X.A) (Draws.tuple (A := X.A.in1) (show X.A.in1.handled = none from I.ok.hd hc) it a hai its.toArray) he ⟨hit, p⟩ hlt hne (by simp [hne, hea]) fun u' h' tk hu' ho hit' hT hsz hk => ?_
    have eu : u' = u := by
      have h2 : its.toArray[i]? = some u := by simpa using hu
      rw [h2] at hu'
      exact (Option.some.inj hu').symm
    subst eu
    refine ⟨_, rfl, wpAny_letOwnedTupleGo_enum (s := { s with heap := h', toks := tk + 1 }) ho fun h'' he' sb => ?_⟩
    have hT2 : h''.get? s.heap.objs.size = some { cls := .type "tuple", data := .seq #[.int i tk, u'] } := (sb.2 _ (Nat.ne_of_gt hel)).trans hT
    have new : ObjOk X.prog X.w (upd H s.heap.objs.size (.tup [.int (i : Nat), x])) h'' s.heap.objs.size (.tup [.int (i : Nat), x]) :=
      ⟨by show 2 ≤ sizeLine; decide, [.int i tk, u'], .cons ⟨_, rfl⟩ (.cons ru .nil), ⟨_, hT2, rfl, _, rfl⟩⟩
    have I1 : Inv X pins σ (upd H s.heap.objs.size (.tup [.int (i : Nat), x])) { s with heap := h'', toks := tk + 1 } :=
      I.turnedNew (ch := [e, it]) (fun b ob hb q => (sb.2 b (fun z => hb (by simp [z]))).trans (hk b ob (fun z => hb (by simp [z])) (fun z => hb (by simp [z])) q)) hf (Nat.le_refl _) new
    refine ⟨.ref s.heap.objs.size, _, I1, rfl, ⟨_, x, rfl, I.hok.fresh (Nat.le_refl _), rfl, fun ys hy => by rw [I.tuple_inj hy hq]; exact hx⟩, ⟨⟨u', ?_⟩, hit'.1.at fun o q => (sb.2 it (Ne.symm hne)).trans q, hne⟩, fun b hb => ?_⟩
    · have e1 : ((i + 1 : Nat) : Int) = (i : Int) + 1 := by omega
      rw [e1]; exact he'
    · have hb' : b < s.heap.objs.size := by
        have e' : b = e ∨ b = it := by simpa using hb
        rcases e' with z | z
        · rw [z]; exact hel
        · rw [z]; exact hil
      rw [upd_ne (Nat.ne_of_lt hb')]
      exact (hf b hb).1
  done := by
    intro X hP hw hK hc i pins s σ H E I hf st hg
    subst hP hw hK
    obtain ⟨⟨old, he⟩, hit, hne⟩ := st
    obtain ⟨xs, hq, hx⟩ := hg
    obtain ⟨its, rv, p, hz⟩ := I.tuple hq
    obtain ⟨f0, f1, f2, f3, f4, f5⟩ := hf it (by simp)
    have hl := rv.length
    have hT : s.TypeIs (.ref e) "enumerate" := ⟨_, he, rfl⟩
    have hend : its.toArray[i]? = none := by simp; omega
    unfold pyNext
    refine wpAny_bind (wpAny_attempt (wpAny_callSpecial?_slot (name := Str.ofString "__next__") hT F.slot_enumerate_next
      (wpAny_call_entry F.slot_enumerate_next hT F.entry_enumerate_next ?_ (F.args_enumerate_next_1 _))))
    show wpAny _ _ (field (.ref e) 2 >>= _) _ _ _
    refine wpAny_bind (wpAny_field he rfl (x := .ref it) rfl ?_)
    refine wpAny_bind (wpAny_nextOf_tuple_end (I.ok.hd hc) hit (show s.heap.IsTuple a its.toArray from p) hend fun h' x he' hx' => ?_)
    obtain ⟨o, ho, hcl⟩ := hx'
    refine wpAny_bind (wpAny_isInstance (T := "StopIteration") (b := true) ⟨o, ho, hcl⟩ isSubtype_stop ?_)
    exact wpAny_pure ⟨rfl, I.turned (t' := s.toks) (fun b o hb q => he' b o hb q) f0 f1 f3 f4 f5⟩
  self := fun A i s Q E st h => let ⟨⟨_, he⟩, _⟩ := st; wpAny_pyIter_enum he h
set_option maxHeartbeats 1000000 in
theorem meets_enum1 {v : Value} {o : Obj} {H : Heap → Prop} (B : Begins v o H) :
    Meets (Builtin.«enumerate.__new__» ⟨[.type "enumerate", v], []⟩) (fun _ R s => H s.heap ∧
      R (.ok (.ret (.ref (s.heap.push o).objs.size))) { s with heap := (s.heap.push o).push { cls := .type "enumerate", data := .fields #[.none, .bool false, .ref s.heap.objs.size, rawInt 0, .none, .none] } }) :=
  .of_wp fun prog w A R s h => by
    obtain ⟨hp, g, d, tk, os⟩ := s
    obtain ⟨h1, h⟩ := h
    have hsub := sub_enumerate
    have q1 : ∀ {A' : Around} {E : Value → Shared → Prop} {Q : Value → Shared → Prop}, Q (.ref hp.objs.size) ⟨hp.push o, g, d, tk, os⟩ → wpAny (model prog w) A' (pyIter v) Q E ⟨hp, g, d, tk, os⟩ :=
      fun q => B.iter prog w _ _ ⟨hp, g, d, tk, os⟩ _ h1 q
    wp_walk using q1
    refine wpAny_stack_any fun st => wpAny_pure ?_
    split
    · rename_i c _ _ _ _ _
      cases (c == Value.type "enumerate")
      · wp_walk using q1
        exact ⟨_, rfl, h⟩
      · wp_walk using q1
        exact ⟨_, rfl, h⟩
    · wp_walk using q1
      exact ⟨_, rfl, h⟩
section
variable {prog : Program} {w : World} {A : Around} {E : Value → Shared → Prop} {s : Shared}
theorem enum_one {v : Value} {o : Obj} {H : Heap → Prop} {Q : Value → Shared → Prop} (B : Begins v o H) (h1 : H s.heap)
    (h : ∀ h', IsEnum h' (s.heap.objs.size + 1) s.heap.objs.size 0 .none → h'.get? s.heap.objs.size = some o → h'.objs.size = s.heap.objs.size + 2 →
      (∀ b o, s.heap.get? b = some o → h'.get? b = some o) → Q (.ref (s.heap.objs.size + 1)) { s with heap := h' }) :
    wpAny (model prog w) A (call (.type "enumerate") [v]) Q E s := by
  refine callType_new F.called_enumerate (by decide) (F.typeCall_enumerate_1 _) (F.newCall_enumerate_1 _) (fun obj => F.args_object_init_2 obj _) F.entry_enumerate_new
    (meets_enum1 B) ⟨h1, ?_⟩
  have hz : (s.heap.push o).objs.size = s.heap.objs.size + 1 := Heap.size_push ..
  show _ ∧ _
  rw [hz]
  have he : IsEnum ((s.heap.push o).push { cls := .type "enumerate", data := .fields #[.none, .bool false, .ref s.heap.objs.size, rawInt 0, .none, .none] }) (s.heap.objs.size + 1) s.heap.objs.size 0 .none := by
    have := Heap.get?_push_size (s.heap.push o) (o := { cls := .type "enumerate", data := .fields #[.none, .bool false, .ref s.heap.objs.size, rawInt 0, .none, .none] }) rfl
    rw [hz] at this; exact this
  refine ⟨⟨_, he, rfl⟩, h _ he (Heap.get?_push_of_some _ (Heap.get?_push_size _ B.free)) (by rw [Heap.size_push, hz]) fun b o x => Heap.get?_push_of_some _ (Heap.get?_push_of_some _ x)⟩
end
def iEnumA (K : PySem.W.Frag) (ta : TA) : TI := fun σ H R => ta σ H fun vs H1 => ∃ a xs, vs = [.ref a] ∧ ((SqL K H1 a xs ∧ R (Ite K a) H1) ∨ (SqT K H1 a xs ∧ R (IteT K a) H1))
theorem pi_enumA {X : Cx} {e : Expr} {ta : TA} {p pos tpos : Pos} {elts : List Expr} {kk : Nat} (hg : Gl X "enumerate") (hm : X.mg "enumerate" = none) (ha : PA X [e] ta) (hs : starEach [e] X.env = [(false, eval e X.env)]) :
    PI X (.Tuple elts kk tpos) (.Call (.Name "enumerate" p) [e] [] pos) (iEnumA X.K ta) := by
  refine ⟨fun pins s σ H R I h => ?_⟩
  refine Call_ (ld_blt I hg hm boot_enumerate (PyProof.Rows.callWith_type1 (thn (ha.run pos pins s σ H _ I h) fun us s1 ⟨vs, H1, I1, r1, q1⟩ => ?_) hs rfl))
  obtain ⟨a, xs, ex, q1⟩ := q1
  subst ex
  cases r1 with
  | cons r rr =>
    cases rr
    cases r
    have fp : ∀ {h' : Heap}, ∀ b ∈ [s1.heap.objs.size + 1, s1.heap.objs.size], FpOk X pins H1 b := fun {h'} b hb => by
      have e' : b = s1.heap.objs.size + 1 ∨ b = s1.heap.objs.size := by simpa using hb
      have hle : s1.heap.objs.size ≤ b := by
        rcases e' with z | z
        · rw [z]; exact Nat.le_add_right _ _
        · rw [z]; exact Nat.le_refl _
      exact I1.fpOk hle (I1.hok.fresh hle)
    rcases q1 with ⟨hq, q⟩ | ⟨hq, q⟩
    · obtain ⟨its, rv, p', hz⟩ := I1.list hq
      refine call_enumerate_list p'.isList fun h' he hit hsz hk => wpAny_pyIter_enum he ?_
      have I2 : Inv X pins σ H1 { s1 with heap := h' } := I1.kept (t' := s1.toks) hk
      exact ⟨s1.heap.objs.size + 1, [s1.heap.objs.size + 1, s1.heap.objs.size], _, _, H1, rfl, I2, turn_enum a (s1.heap.objs.size + 1) s1.heap.objs.size, ⟨⟨.none, he⟩, hit, Nat.succ_ne_self _⟩, fp (h' := h'), q⟩
    · obtain ⟨its, rv, p', hz⟩ := I1.tuple hq
      obtain ⟨oa, ha', _⟩ := id p'
      have hlt : a < s1.heap.objs.size := Heap.lt_size ha'
      refine enum_one (begins_tuple a its.toArray) (show s1.heap.IsTuple a its.toArray from p') fun h' he hit hsz hk => wpAny_pyIter_enum he ?_
      have I2 : Inv X pins σ H1 { s1 with heap := h' } := I1.kept (t' := s1.toks) hk
      exact ⟨s1.heap.objs.size + 1, [s1.heap.objs.size + 1, s1.heap.objs.size], _, _, H1, rfl, I2, turn_enumT a (s1.heap.objs.size + 1) s1.heap.objs.size (Nat.ne_of_lt hlt) (Nat.ne_of_gt (Nat.lt_of_lt_of_le hlt (Nat.le_succ _))), ⟨⟨.none, he⟩, ⟨_, hit, rfl, rfl⟩, Nat.succ_ne_self _⟩, fp (h' := h'), q⟩
/-- a list or a tuple that is walked -/
def iSeq (K : PySem.W.Frag) (tl : TE) : TI := fun σ H R => tl σ H fun x H1 => ∃ a xs, x = .ref a ∧ ((SqL K H1 a xs ∧ R (Itl K a) H1) ∨ (SqT K H1 a xs ∧ R (Itt K a) H1))
theorem pi_seq {X : Cx} {tg l : Expr} {tl : TE} (hl : PE X l tl) : PI X tg l (iSeq X.K tl) := by
  refine ⟨fun pins s σ H R I h => ?_⟩
  refine thn (hl.run pins s σ H _ I h) fun v s1 ⟨x, H1, I1, r1, q1⟩ => ?_
  obtain ⟨a, xs, e, q1⟩ := q1
  subst e
  cases r1
  have one : ∀ b ∈ [s1.heap.objs.size], FpOk X pins H1 b := fun b hb => by
    have e : b = s1.heap.objs.size := by simpa using hb
    subst e
    exact I1.fpOk (Nat.le_refl _) (I1.hok.fresh (Nat.le_refl _))
  rcases q1 with ⟨hq, q⟩ | ⟨hq, q⟩
  · obtain ⟨its, rv, p, hz⟩ := I1.list hq
    refine wpAny_pyIter_list p.isList ?_
    exact ⟨s1.heap.objs.size, [s1.heap.objs.size], _, _, H1, rfl, I1.kept (t' := s1.toks) fun b o e => Heap.get?_push_of_some _ e, turn_list a _, ⟨_, Heap.get?_push_size _ rfl, rfl, rfl⟩, one, q⟩
  · obtain ⟨its, rv, p, hz⟩ := I1.tuple hq
    refine wpAny_pyIter_tuple (show s1.heap.IsTuple a its.toArray from p) ?_
    exact ⟨s1.heap.objs.size, [s1.heap.objs.size], _, _, H1, rfl, I1.kept (t' := s1.toks) fun b o e => Heap.get?_push_of_some _ e, turn_tuple a _, ⟨_, Heap.get?_push_size _ rfl, rfl, rfl⟩, one, q⟩
end Tk

set_option Elab.async false
set_option linter.all false
set_option maxRecDepth 100000
namespace Tk
open PySem PySem.Spec PyProof.Rows L2

theorem rgI_len : ∀ (n : Nat) (a c : Int), (rgI a c n).length = n
  | 0, _, _ => rfl
  | n + 1, a, c => by rw [rgI, List.length_cons, rgI_len n]
theorem rgI_get : ∀ (n : Nat) (a c : Int) (i : Nat), i < n → (rgI a c n)[i]? = some (.int (a + (i : Nat) * c))
  | 0, _, _, _, h => by omega
  | n + 1, a, c, 0, _ => by simp [rgI]
  | n + 1, a, c, i + 1, h => by
    rw [rgI, List.getElem?_cons_succ, rgI_get n (a + c) c i (by omega)]
    congr 2
    rw [Int.natCast_succ, Int.add_mul]
    omega
theorem enuD_len : ∀ (ds : List PyData) (k : Int), (enuD k ds).length = ds.length
  | [], _ => rfl
  | d :: ds, k => by rw [enuD, List.length_cons, List.length_cons, enuD_len ds]
theorem enuD_get : ∀ (ds : List PyData) (k : Int) (i : Nat) (d : PyData), ds[i]? = some d → (enuD k ds)[i]? = some (.tuple [.int (k + (i : Nat)), d])
  | [], _, _, _, h => by simp at h
  | e :: ds, k, 0, d, h => by
    simp at h
    subst h
    simp [enuD]
  | e :: ds, k, i + 1, d, h => by
    rw [enuD, List.getElem?_cons_succ, enuD_get ds (k + 1) i d (by simpa using h)]
    congr 4
    omega
theorem zipD_len : ∀ (ds es : List PyData), (zipD ds es).length = min ds.length es.length
  | [], es => by simp [zipD]
  | d :: ds, [] => by simp [zipD]
  | d :: ds, e :: es => by
    rw [zipD, List.length_cons, List.length_cons, List.length_cons, zipD_len ds es]
    omega
theorem zipD_get : ∀ (ds es : List PyData) (i : Nat) (d e : PyData), ds[i]? = some d → es[i]? = some e → (zipD ds es)[i]? = some (.tuple [d, e])
  | [], _, _, _, _, h, _ => by simp at h
  | _ :: _, [], _, _, _, _, h => by simp at h
  | d' :: ds, e' :: es, 0, d, e, h, h' => by
    simp at h h'
    subst h h'
    simp [zipD]
  | d' :: ds, e' :: es, i + 1, d, e, h, h' => by
    rw [zipD, List.getElem?_cons_succ, zipD_get ds es i d e (by simpa using h) (by simpa using h')]

/-! ### what is walked -/
/-- an iterator that gives out ds, one after another -/
structure ItOk (K : PySem.W.Frag) (G : Hp) (J : L2.It) (ds : List PyData) : Prop where
  goes : ∀ (w : Wd) (i : Nat), Same G w.G → w.Ok → i < ds.length → J.go i w.H
  stops : ∀ (w : Wd), Same G w.G → w.Ok → J.stop ds.length w.H
  yields : ∀ (w : Wd) (i : Nat) (x : V) (H' : Hp), Same G w.G → w.Ok → i < ds.length → J.yld i w.H x H' → ∃ (w' : Wd) (d : PyData), w'.H = H' ∧ Gw w w' ∧ ds[i]? = some d ∧ Fz K w'.G x d
section
variable {K : PySem.W.Frag} {G : Hp}
theorem some_at {α : Type} {l : List α} {i : Nat} (h : i < l.length) : ∃ d, l[i]? = some d := ⟨l[i], by simp [h]⟩
/-- items that lie there already -/
theorem ItOk.plain {J : L2.It} {n : Nat} {A : Hp → Prop} {xs : List V} {ds : List PyData} (wk : Walk J n A (YAt xs)) (hn : n = ds.length) (hA : ∀ w : Wd, Same G w.G → w.Ok → A w.H) (f : FzL K G xs ds) : ItOk K G J ds := by
  subst hn
  refine ⟨fun w i sg ok hi => wk.goes i w.H hi (hA w sg ok), fun w sg ok => wk.stops w.H (hA w sg ok), fun w i x H' sg ok hi y => ?_⟩
  obtain ⟨rfl, hx⟩ := wk.yields i w.H x H' hi (hA w sg ok) y
  obtain ⟨d, hd, fd⟩ := f.get hx
  exact ⟨w, d, rfl, Gw.refl ok, hd, fd.mono sg⟩
/-- items in new pairs -/
theorem ItOk.pair {J : L2.It} {n : Nat} {A : Hp → Prop} {xs ys : Nat → Option V} {ds : List PyData} (wk : Walk J n A (YPair xs ys)) (hn : n = ds.length) (hA : ∀ w : Wd, Same G w.G → w.Ok → A w.H)
    (f : ∀ i x y, xs i = some x → ys i = some y → ∃ d e, Fz K G x d ∧ Fz K G y e ∧ ds[i]? = some (.tuple [d, e])) : ItOk K G J ds := by
  subst hn
  refine ⟨fun w i sg ok hi => wk.goes i w.H hi (hA w sg ok), fun w sg ok => wk.stops w.H (hA w sg ok), fun w i x H' sg ok hi y => ?_⟩
  obtain ⟨T, x1, y1, rfl, hT, rfl, h1, h2⟩ := wk.yields i w.H x H' hi (hA w sg ok) y
  obtain ⟨d, e, f1, f2, hd⟩ := f i x1 y1 h1 h2
  refine ⟨_, _, rfl, Gw.newG ok hT, hd, ?_⟩
  have fr := RR.tup (K := K) (w := w) (p := T) (ok.same.free hT) (.cons (f1.mono sg) (.cons (f2.mono sg) .nil))
  cases fr with
  | fz q => exact q
  | tm h => exact absurd rfl (h _)
theorem sqL_of {w : Wd} {a : Addr} {xs : List V} (h : Lx K G a xs) (sg : Same G w.G) (ok : w.Ok) : SqL K w.H a xs := ((h.mono sg).mono ok.same).sq
theorem ItOk.list {a : Addr} {xs : List V} {ds : List PyData} (h : Lx K G a xs) (f : FzL K G xs ds) : ItOk K G (Itl K a) ds := ItOk.plain walk_list f.length (fun w sg ok => sqL_of h sg ok) f
theorem ItOk.tup {a : Addr} {xs : List V} {ds : List PyData} (h : SqT K G a xs) (f : FzL K G xs ds) : ItOk K G (Itt K a) ds := ItOk.plain walk_tup f.length (fun w sg ok => sqT_mono ok.same (sqT_mono sg h)) f
theorem ItOk.enum {a : Addr} {xs : List V} {ds : List PyData} (h : Lx K G a xs) (f : FzL K G xs ds) : ItOk K G (Ite K a) (enuD 0 ds) := by
  refine ItOk.pair walk_enum (by rw [enuD_len]; exact f.length) (fun w sg ok => sqL_of h sg ok) fun i x y h1 h2 => ?_
  cases h1
  obtain ⟨d, hd, fd⟩ := f.get h2
  exact ⟨_, _, .int _, fd, by rw [enuD_get ds 0 i d hd]; simp⟩
theorem walk_enumT {a : Addr} {xs : List V} : Walk (IteT K a) xs.length (fun H => SqT K H a xs) (YPair (fun i => some (.int (i : Nat))) (fun i => xs[i]?)) := by
  refine ⟨fun i _ hi q => ⟨xs, xs[i], q, by simp [hi]⟩, fun _ q => ⟨xs, q, Nat.le_refl _⟩, fun i H v H' _ q y => ?_⟩
  obtain ⟨T, x, e1, e2, e3, e4⟩ := y
  exact ⟨T, .int (i : Nat), x, e1, e2, e3, rfl, e4 xs q⟩
theorem ItOk.enumT {a : Addr} {xs : List V} {ds : List PyData} (h : SqT K G a xs) (f : FzL K G xs ds) : ItOk K G (IteT K a) (enuD 0 ds) := by
  refine ItOk.pair walk_enumT (by rw [enuD_len]; exact f.length) (fun w sg ok => sqT_mono ok.same (sqT_mono sg h)) fun i x y h1 h2 => ?_
  cases h1
  obtain ⟨d, hd, fd⟩ := f.get h2
  exact ⟨_, _, .int _, fd, by rw [enuD_get ds 0 i d hd]; simp⟩
theorem ItOk.zip {a b : Addr} {xs ys : List V} {ds es : List PyData} (h : Lx K G a xs) (f : FzL K G xs ds) (h' : Lx K G b ys) (f' : FzL K G ys es) : ItOk K G (Itz K a b) (zipD ds es) := by
  refine ItOk.pair (walk_zip rfl) (by rw [zipD_len, f.length, f'.length]) (fun w sg ok => ⟨sqL_of h sg ok, sqL_of h' sg ok⟩) fun i x y h1 h2 => ?_
  obtain ⟨d, hd, fd⟩ := f.get h1
  obtain ⟨e, he, fe⟩ := f'.get h2
  exact ⟨d, e, fd, fe, zipD_get ds es i d e hd he⟩
theorem walk_zipT {a b : Addr} {xs ys : List V} {n : Nat} (hn : n = min xs.length ys.length) : Walk (RZ.ItzT K a b) n (fun H => SqT K H a xs ∧ SqT K H b ys) (YPair (fun i => xs[i]?) (fun i => ys[i]?)) := by
  subst hn
  refine ⟨fun i _ hi q => ?_, fun _ q => ⟨xs, ys, q.1, q.2, by omega⟩, fun i H v H' _ q y => ?_⟩
  · have z1 : i < xs.length := by omega
    have z2 : i < ys.length := by omega
    exact ⟨xs, ys, xs[i], ys[i], q.1, q.2, by simp [z1], by simp [z2]⟩
  · obtain ⟨T, x, z, e1, e2, e3, e4, e5⟩ := y
    exact ⟨T, x, z, e1, e2, e3, e4 xs q.1, e5 ys q.2⟩
theorem ItOk.zipT {a b : Addr} {xs ys : List V} {ds es : List PyData} (h : SqT K G a xs) (f : FzL K G xs ds) (h' : SqT K G b ys) (f' : FzL K G ys es) : ItOk K G (RZ.ItzT K a b) (zipD ds es) := by
  refine ItOk.pair (walk_zipT rfl) (by rw [zipD_len, f.length, f'.length]) (fun w sg ok => ⟨sqT_mono ok.same (sqT_mono sg h), sqT_mono ok.same (sqT_mono sg h')⟩) fun i x y h1 h2 => ?_
  obtain ⟨d, hd, fd⟩ := f.get h1
  obtain ⟨e, he, fe⟩ := f'.get h2
  exact ⟨d, e, fd, fe, zipD_get ds es i d e hd he⟩
theorem ItOk.rg {lo c : Int} {n : Nat} : ItOk K G (Itc lo c n) (rgI lo c n) := by
  refine ⟨fun w i sg ok hi => by rw [rgI_len] at hi; exact hi, fun w sg ok => by rw [rgI_len]; exact Nat.le_refl _, fun w i x H' sg ok hi y => ?_⟩
  obtain ⟨rfl, rfl⟩ := y
  rw [rgI_len] at hi
  exact ⟨w, _, rfl, Gw.refl ok, rgI_get n lo c i hi, .int _⟩
theorem ItOk.rg1 {lo : Int} {n : Nat} : ItOk K G (Itr lo n) (rgI lo 1 n) := by
  refine ⟨fun w i sg ok hi => by rw [rgI_len] at hi; exact hi, fun w sg ok => by rw [rgI_len]; exact Nat.le_refl _, fun w i x H' sg ok hi y => ?_⟩
  obtain ⟨rfl, rfl⟩ := y
  rw [rgI_len] at hi
  refine ⟨w, _, rfl, Gw.refl ok, rgI_get n lo 1 i hi, ?_⟩
  rw [Int.mul_one]
  exact .int _
end
def tI (K : PySem.W.Frag) (XR : XRel) (W : WX) (f : Lc → (List PyData → Lc → Prop) → QX → Prop) : TI := fun σ H R => ∃ w L QQ XX, w.H = H ∧ Rel K w L σ ∧ f L QQ XX ∧ XW K XR W w σ XX ∧
  ∀ J ds w' L', Rel K w' L' σ → Step w w' → ItOk K w'.G J ds → QQ ds L' → R J w'.H
theorem _root_.L2.PI.imp {X : Cx} {tg e : Expr} {t t' : TI} (h : PI X tg e t) (i : ∀ σ H Q, t' σ H Q → t σ H Q) : PI X tg e t' := ⟨fun pins s σ H Q I q => h.run pins s σ H Q I (i σ H Q q)⟩
section
variable {X : Cx} {XR : XRel} {W : WX} {Φ : Fns}
abbrev SI (X : Cx) (XR : XRel) (W : WX) (Φ : Fns) (it : It) (tg ex : Expr) : Prop := PI X tg ex (tI X.K XR W (wI Φ it))
variable {a b c o : E} {es : Es} {eo ea eb ec tg : Expr} {pos tpos p : Pos} {exs : List Expr}
theorem seq_cases {w : Wd} {x : V} {d : PyData} {ds : List PyData} (f : Fz X.K w.G x d) (h : d = .list ds ∨ d = .tuple ds) : ∃ a xs, x = .ref a ∧ ((Lx X.K w.G a xs ∧ d = .list ds) ∨ (SqT X.K w.G a xs ∧ d = .tuple ds)) ∧ FzL X.K w.G xs ds := by
  rcases h with rfl | rfl
  · cases f with
    | lst h1 h2 => exact ⟨_, _, rfl, .inl ⟨h1, rfl⟩, h2⟩
  · cases f with
    | tup h1 h2 => exact ⟨_, _, rfl, .inr ⟨h1, rfl⟩, h2⟩
theorem si_val (ha : SE X XR W Φ a ea) : SI X XR W Φ (.val a) tg ea := by
  refine (pi_seq ha).imp fun σ H Q h => ?_
  obtain ⟨w, L, QQ, XX, rfl, R, hf, hx, hq⟩ := h
  unfold wI at hf
  refine ⟨w, L, _, XX, rfl, R, hf, hx, fun v h1 w1 L1 R1 s1 q1 ⟨d, L2, ds, e, hd, hQ⟩ => ?_⟩
  obtain ⟨G', ow', R2, s2, f⟩ := q1.freeze R1 s1 e
  obtain ⟨a', xs, rfl, hc, fl⟩ := seq_cases (w := ⟨G', ow', w1.H⟩) f hd
  rcases hc with ⟨hl, _⟩ | ⟨hl, _⟩
  · exact ⟨a', xs, rfl, .inl ⟨(hl.mono R2.ok.same).sq, hq _ _ ⟨G', ow', w1.H⟩ _ R2 s2 (ItOk.list hl fl) hQ⟩⟩
  · exact ⟨a', xs, rfl, .inr ⟨sqT_mono R2.ok.same hl, hq _ _ ⟨G', ow', w1.H⟩ _ R2 s2 (ItOk.tup hl fl) hQ⟩⟩
theorem si_enu {kk : Nat} {elts : List Expr} (hg : Gl X "enumerate") (hm : X.mg "enumerate" = none) (ha : SE X XR W Φ a ea) (hs : noStar ea = true) : SI X XR W Φ (.enu a) (.Tuple elts kk tpos) (.Call (.Name "enumerate" p) [ea] [] pos) := by
  refine (pi_enumA hg hm (arg1 ha hs) (by rw [star1 hs]; rfl)).imp fun σ H Q h => ?_
  obtain ⟨w, L, QQ, XX, rfl, R, hf, hx, hq⟩ := h
  unfold wI at hf
  refine ⟨w, L, _, XX, rfl, R, hf, hx, fun v h1 w1 L1 R1 s1 q1 ⟨d, L2, ds, e, hd, hQ⟩ => ?_⟩
  obtain ⟨G', ow', R2, s2, f⟩ := q1.freeze R1 s1 e
  obtain ⟨a', xs, rfl, hc, fl⟩ := seq_cases (w := ⟨G', ow', w1.H⟩) f hd
  rcases hc with ⟨hl, _⟩ | ⟨hl, _⟩
  · exact ⟨a', xs, rfl, .inl ⟨(hl.mono R2.ok.same).sq, hq _ _ ⟨G', ow', w1.H⟩ _ R2 s2 (ItOk.enum hl fl) hQ⟩⟩
  · exact ⟨a', xs, rfl, .inr ⟨sqT_mono R2.ok.same hl, hq _ _ ⟨G', ow', w1.H⟩ _ R2 s2 (ItOk.enumT hl fl) hQ⟩⟩
theorem si_zip {kk : Nat} {elts : List Expr} (hg : Gl X "zip") (hm : X.mg "zip" = none) (ha : SA X XR W Φ es [ea, eb]) (hs : noStar ea = true) (hs' : noStar eb = true) : SI X XR W Φ (.zip es) (.Tuple elts kk tpos) (.Call (.Name "zip" p) [ea, eb] [] pos) := by
  refine (RZ.pi_zipA hg hm ha (star1 hs) (by rw [star1 hs']; rfl)).imp fun σ H Q h => ?_
  obtain ⟨w, L, QQ, XX, rfl, R, hf, hx, hq⟩ := h
  unfold wI at hf
  refine ⟨w, L, _, XX, rfl, R, hf, hx, fun vs hs w1 L1 R1 s1 q1 ⟨d, e, L2, ds, fs, hz, hd, hQ⟩ => ?_⟩
  obtain ⟨G', ow', R2, s2, f⟩ := q1.frzs R1 s1 hz
  cases f with
  | cons f1 f =>
    cases f with
    | cons f2 f =>
      cases f
      rcases hd with ⟨rfl, rfl⟩ | ⟨rfl, rfl⟩
      · cases f1 with
        | lst l1 g1 =>
          cases f2 with
          | lst l2 g2 => exact ⟨_, _, _, _, rfl, .inl ⟨(l1.mono R2.ok.same).sq, (l2.mono R2.ok.same).sq, hq _ _ ⟨G', ow', w1.H⟩ _ R2 s2 (ItOk.zip l1 g1 l2 g2) hQ⟩⟩
      · cases f1 with
        | tup l1 g1 =>
          cases f2 with
          | tup l2 g2 => exact ⟨_, _, _, _, rfl, .inr ⟨sqT_mono R2.ok.same l1, sqT_mono R2.ok.same l2, hq _ _ ⟨G', ow', w1.H⟩ _ R2 s2 (ItOk.zipT l1 g1 l2 g2) hQ⟩⟩
theorem arg2 (ha : SE X XR W Φ a ea) (hb : SE X XR W Φ b eb) (hs : noStar ea = true) (hs' : noStar eb = true) : PA X [ea, eb] (tCons (tE X.K XR W (wE Φ a)) (tCons (tE X.K XR W (wE Φ b)) tNil)) := pa_cons ha (pa_cons hb pa_nil (star1 hs')) (star1 hs)
theorem arg3 (ha : SE X XR W Φ a ea) (hb : SE X XR W Φ b eb) (hc : SE X XR W Φ c ec) (hs : noStar ea = true) (hs' : noStar eb = true) (hs'' : noStar ec = true) : PA X [ea, eb, ec] (tCons (tE X.K XR W (wE Φ a)) (tCons (tE X.K XR W (wE Φ b)) (tCons (tE X.K XR W (wE Φ c)) tNil))) :=
  pa_cons ha (arg2 hb hc hs' hs'') (star1 hs)
theorem si_rg1 (hg : Gl X "range") (hm : X.mg "range" = none) (ha : SE X XR W Φ a ea) (hs : noStar ea = true) : SI X XR W Φ (.rg1 a) tg (.Call (.Name "range" p) [ea] [] pos) := by
  refine (pi_range1 hg hm (arg1 ha hs) (by rw [star1 hs]; rfl)).imp fun σ H Q h => ?_
  obtain ⟨w, L, QQ, XX, rfl, R, hf, hx, hq⟩ := h
  unfold wI at hf
  refine ⟨w, L, _, XX, rfl, R, hf, hx, fun v h1 w1 L1 R1 s1 q1 ⟨j, e, hj, hQ⟩ => ?_⟩
  subst e
  have ev := fzi q1
  subst ev
  exact ⟨j, rfl, hj.1, hj.2.1, hq _ _ _ _ R1 s1 ItOk.rg1 hQ⟩
theorem si_rg2 (hg : Gl X "range") (hm : X.mg "range" = none) (ha : SE X XR W Φ a ea) (hb : SE X XR W Φ b eb) (hs : noStar ea = true) (hs' : noStar eb = true) : SI X XR W Φ (.rg2 a b) tg (.Call (.Name "range" p) [ea, eb] [] pos) := by
  refine (pi_range2 hg hm (arg2 ha hb hs hs') (by rw [star1 hs, star1 hs']; rfl) (by rw [star1 hs']; rfl)).imp fun σ H Q h => ?_
  obtain ⟨w, L, QQ, XX, rfl, R, hf, hx, hq⟩ := h
  unfold wI at hf
  refine ⟨w, L, _, XX, rfl, R, hf, hx, fun v h1 w1 L1 R1 s1 q1 hb => ?_⟩
  refine ⟨w1, L1, _, XX, rfl, R1, hb, hx.on s1, fun u h2 w2 L2 R2 s2 q2 ⟨i, j, e1, e2, hj, hQ⟩ => ?_⟩
  subst e1 e2
  have ev := fzi q1
  have eu := fzi q2
  subst ev eu
  exact ⟨i, j, rfl, ⟨hj.1, hj.2.1, hj.2.2.1, hj.2.2.2.1⟩, hq _ _ _ _ R2 (s1.trans s2) ItOk.rg1 hQ⟩
theorem si_rg3 (hg : Gl X "range") (hm : X.mg "range" = none) (ha : SE X XR W Φ a ea) (hb : SE X XR W Φ b eb) (hc : SE X XR W Φ c ec) (hs : noStar ea = true) (hs' : noStar eb = true) (hs'' : noStar ec = true) :
    SI X XR W Φ (.rg3 a b c) tg (.Call (.Name "range" p) [ea, eb, ec] [] pos) := by
  refine (pi_range3 hg hm (arg3 ha hb hc hs hs' hs'') (star1 hs) (by rw [star1 hs', star1 hs'']; rfl)).imp fun σ H Q h => ?_
  obtain ⟨w, L, QQ, XX, rfl, R, hf, hx, hq⟩ := h
  unfold wI at hf
  refine ⟨w, L, _, XX, rfl, R, hf, hx, fun v h1 w1 L1 R1 s1 q1 hb => ?_⟩
  refine ⟨w1, L1, _, XX, rfl, R1, hb, hx.on s1, fun u h2 w2 L2 R2 s2 q2 hc => ?_⟩
  refine ⟨w2, L2, _, XX, rfl, R2, hc, (hx.on s1).on s2, fun z h3 w3 L3 R3 s3 q3 ⟨i, j, e1, e2, e3, hj, hQ⟩ => ?_⟩
  subst e1 e2 e3
  have ev := fzi q1
  have eu := fzi q2
  have ez := fzi q3
  subst ev eu ez
  exact ⟨i, j, -1, _, rfl, RgC.neg hj.1 hj.2.1 hj.2.2.1 hj.2.2.2.1, hq _ _ _ _ R3 ((s1.trans s2).trans s3) ItOk.rg hQ⟩

/-! ### list(range(..)), tuple(range(..)) -/
def PRx (X : Cx) (e : Expr) (t : Sl → Hp → (Int → Int → Nat → Hp → Prop) → Prop) : Prop :=
  ∀ (pins : List (Addr × Obj)) (s : Shared) (σ : Sl) (H : Hp) (Q : Int → Int → Nat → Hp → Prop), Inv X pins σ H s → t σ H Q →
    wpAny (model X.prog X.w) X.A (eval e X.env) (fun x s' => ∃ r a b c n t u v H', x = .ref r ∧ IsRange s'.heap r a b c t u v ∧ Inv X pins σ H' s' ∧ (Builtin.Range.small a b c = true ∧ Builtin.Range.rangeSize a b c = (n : Nat) ∧ n ≤ 2 ^ 24) ∧ Q a c n H') X.xe s
def tRx (K : PySem.W.Frag) (XR : XRel) (W : WX) (f : Lc → (List PyData → Lc → Prop) → QX → Prop) : Sl → Hp → (Int → Int → Nat → Hp → Prop) → Prop := fun σ H Q => ∃ w L QQ XX, w.H = H ∧ Rel K w L σ ∧ f L QQ XX ∧ XW K XR W w σ XX ∧
  ∀ a c n w' L', Rel K w' L' σ → Step w w' → QQ (rgI a c n) L' → Q a c n w'.H
abbrev SRx (X : Cx) (XR : XRel) (W : WX) (Φ : Fns) (it : It) (ex : Expr) : Prop := PRx X ex (tRx X.K XR W (wI Φ it))
theorem sr_1 (hg : Gl X "range") (hm : X.mg "range" = none) (ha : SE X XR W Φ a ea) (hs : noStar ea = true) : SRx X XR W Φ (.rg1 a) (.Call (.Name "range" p) [ea] [] pos) := by
  intro pins s σ H Q I h
  obtain ⟨w, L, QQ, XX, rfl, R, hf, hx, hq⟩ := h
  unfold wI at hf
  refine Call_ (ld_blt I hg hm boot_range (PyProof.Rows.callWith_type1 (thn ((arg1 ha hs).run pos pins s σ w.H (fun vs H1 => ∃ j : Int, vs = [.int j] ∧ (-(2 ^ 62) ≤ j ∧ j < 2 ^ 62 ∧ j.toNat ≤ 2 ^ 24) ∧ Q 0 1 j.toNat H1) I ?_) fun us s1 ⟨vs, H1, I1, r1, q1⟩ => ?_) (star1 hs) rfl))
  · refine ⟨w, L, _, XX, rfl, R, hf, hx, fun v h1 w1 L1 R1 s1 q1 ⟨j, e, hj, hQ⟩ => ?_⟩
    subst e
    have ev := fzi q1
    subst ev
    exact ⟨j, rfl, hj, hq _ _ _ _ _ R1 s1 hQ⟩
  · obtain ⟨j, rfl, hj, hQ⟩ := q1
    cases r1 with
    | cons r rr =>
      cases rr
      obtain ⟨t, rfl⟩ := r
      refine call_range_1 ⟨_, 0, j, 1, j.toNat, _, _, _, H1, rfl, IsRange.new _ _ _ _ _ _ _, I1.kept fun b u e => Heap.get?_push_of_some _ e, ⟨small_one (by omega) (by omega) hj.1 hj.2.1, ?_, hj.2.2⟩, hQ⟩
      rw [rangeSize_nat]
      simp
theorem sr_2 (hg : Gl X "range") (hm : X.mg "range" = none) (ha : SE X XR W Φ a ea) (hb : SE X XR W Φ b eb) (hs : noStar ea = true) (hs' : noStar eb = true) : SRx X XR W Φ (.rg2 a b) (.Call (.Name "range" p) [ea, eb] [] pos) := by
  intro pins s σ H Q I h
  obtain ⟨w, L, QQ, XX, rfl, R, hf, hx, hq⟩ := h
  unfold wI at hf
  refine Call_ (ld_blt I hg hm boot_range (PyProof.Rows.callWith_type1 (thn ((arg2 ha hb hs hs').run pos pins s σ w.H (fun vs H1 => ∃ i j : Int, vs = [.int i, .int j] ∧ (-(2 ^ 62) ≤ i ∧ i < 2 ^ 62 ∧ -(2 ^ 62) ≤ j ∧ j < 2 ^ 62 ∧ (j - i).toNat ≤ 2 ^ 24) ∧ Q i 1 (j - i).toNat H1) I ?_) fun us s1 ⟨vs, H1, I1, r1, q1⟩ => ?_) (star1 hs) (by rw [star1 hs']; rfl)))
  · refine ⟨w, L, _, XX, rfl, R, hf, hx, fun v h1 w1 L1 R1 s1 q1 hb => ?_⟩
    refine ⟨w1, L1, _, XX, rfl, R1, hb, hx.on s1, fun u h2 w2 L2 R2 s2 q2 ⟨i, j, e1, e2, hj, hQ⟩ => ?_⟩
    subst e1 e2
    have ev := fzi q1
    have eu := fzi q2
    subst ev eu
    exact ⟨i, j, rfl, hj, hq _ _ _ _ _ R2 (s1.trans s2) hQ⟩
  · obtain ⟨i, j, rfl, hj, hQ⟩ := q1
    cases r1 with
    | cons r rr =>
      cases rr with
      | cons r' rr =>
        cases rr
        obtain ⟨t, rfl⟩ := r
        obtain ⟨t', rfl⟩ := r'
        exact call_range_2 ⟨_, i, j, 1, (j - i).toNat, _, _, _, H1, rfl, IsRange.new _ _ _ _ _ _ _, I1.kept fun b u e => Heap.get?_push_of_some _ e, ⟨small_one hj.1 hj.2.1 hj.2.2.1 hj.2.2.2.1, rangeSize_nat i j, hj.2.2.2.2⟩, hQ⟩
theorem sr_3 (hg : Gl X "range") (hm : X.mg "range" = none) (ha : SE X XR W Φ a ea) (hb : SE X XR W Φ b eb) (hc : SE X XR W Φ c ec) (hs : noStar ea = true) (hs' : noStar eb = true) (hs'' : noStar ec = true) :
    SRx X XR W Φ (.rg3 a b c) (.Call (.Name "range" p) [ea, eb, ec] [] pos) := by
  intro pins s σ H Q I h
  obtain ⟨w, L, QQ, XX, rfl, R, hf, hx, hq⟩ := h
  unfold wI at hf
  refine Call_ (ld_blt I hg hm boot_range (PyProof.Rows.callWith_type1 (thn ((arg3 ha hb hc hs hs' hs'').run pos pins s σ w.H (fun vs H1 => ∃ i j : Int, vs = [.int i, .int j, .int (-1)] ∧ (-(2 ^ 62) ≤ i ∧ i < 2 ^ 62 ∧ -(2 ^ 62) ≤ j ∧ j < 2 ^ 62 ∧ (i - j).toNat ≤ 2 ^ 24) ∧ Q i (-1) (i - j).toNat H1) I ?_) fun us s1 ⟨vs, H1, I1, r1, q1⟩ => ?_) (star1 hs) (by rw [star1 hs', star1 hs'']; rfl)))
  · refine ⟨w, L, _, XX, rfl, R, hf, hx, fun v h1 w1 L1 R1 s1 q1 hb => ?_⟩
    refine ⟨w1, L1, _, XX, rfl, R1, hb, hx.on s1, fun u h2 w2 L2 R2 s2 q2 hc => ?_⟩
    refine ⟨w2, L2, _, XX, rfl, R2, hc, (hx.on s1).on s2, fun z h3 w3 L3 R3 s3 q3 ⟨i, j, e1, e2, e3, hj, hQ⟩ => ?_⟩
    subst e1 e2 e3
    have ev := fzi q1
    have eu := fzi q2
    have ez := fzi q3
    subst ev eu ez
    exact ⟨i, j, rfl, hj, hq _ _ _ _ _ R3 ((s1.trans s2).trans s3) hQ⟩
  · obtain ⟨i, j, rfl, hj, hQ⟩ := q1
    cases r1 with
    | cons r rr =>
      cases rr with
      | cons r' rr =>
        cases rr with
        | cons r'' rr =>
          cases rr
          obtain ⟨t, rfl⟩ := r
          obtain ⟨t', rfl⟩ := r'
          obtain ⟨t'', rfl⟩ := r''
          refine call_range_3 (by decide) ?_ (.inl (PyProof.noPylong_small (by decide)))
          exact ⟨_, i, j, -1, (i - j).toNat, _, _, _, H1, rfl, IsRange.new _ _ _ _ _ _ _, I1.kept (t' := s1.toks) fun b u e => Heap.get?_push_of_some _ e, ⟨PySem.W.small_down hj.1 hj.2.1 hj.2.2.1 hj.2.2.2.1, PySem.W.rangeSize_downNat i j, hj.2.2.2.2⟩, hQ⟩
/-- the ints a, a + c, .. -/
def rgW (a c : Int) (n : Nat) : List V := (List.range n).map fun i => V.int (a + (i : Nat) * c)
theorem vals_rgW {a c : Int} {n : Nat} {acc : Array Value} (h : ItemsOf (fun i v => ∃ t, v = .int (a + i * c) t) acc n) : Vals (rgW a c n) acc.toList := by
  have e : acc.toList.length = n := by rw [Array.length_toList]; exact h.1
  unfold rgW
  rw [← e]
  refine vals_of_get acc.toList _ fun j u hj => ?_
  obtain ⟨t, rfl⟩ := h.2 j u (by rw [← hj, Array.getElem?_toList])
  exact ⟨t, rfl⟩
theorem rgW_cons (a c : Int) (n : Nat) : rgW a c (n + 1) = .int a :: rgW (a + c) c n := by
  unfold rgW
  rw [List.range_succ_eq_map, List.map_cons, List.map_map]
  congr 1
  · simp
  · apply List.map_congr_left
    intro i _
    show V.int (a + ((i + 1 : Nat) : Int) * c) = V.int (a + c + (i : Nat) * c)
    congr 1
    rw [Int.natCast_succ, Int.add_mul]
    omega
theorem rgW_fz {K : PySem.W.Frag} {G : Hp} : ∀ (n : Nat) (a c : Int), FzL K G (rgW a c n) (rgI a c n)
  | 0, _, _ => .nil
  | n + 1, a, c => by
    rw [rgW_cons, rgI]
    exact .cons (.int a) (rgW_fz n (a + c) c)
theorem rgW_len (a c : Int) (n : Nat) : (rgW a c n).length = n := by unfold rgW; rw [List.length_map, List.length_range]
theorem se_lrg {it : It} (S : Place X) (hg : Gl X "list") (hm : X.mg "list" = none) (he : SRx X XR W Φ it ea) (hs : noStar ea = true) : SE X XR W Φ (.lrg it) (.Call (.Name "list" p) [ea] [] pos) := by
  refine ⟨fun pins s σ H Q I h => ?_⟩
  obtain ⟨w, L, QQ, XX, rfl, R, hf, hx, hq⟩ := h
  unfold wE at hf
  refine Call_ (ld_blt I hg hm boot_list (PyProof.Rows.callWith_type1 (args_cons (thn (he pins s σ w.H (fun a c n H1 => n ≤ 2 ^ 24 → ∀ q, H1 q = none → Q (.ref q) (upd H1 q (.lst (rgW a c n)))) I ?_) fun x s1 ⟨r, a, b, c, n, t, u, v, H1, ex, hr, I1, ok, q⟩ => args_nil ?_) (star1 hs)) (star1 hs)))
  · refine ⟨w, L, _, XX, rfl, R, hf, hx, fun a c n w' L' R' s' hQ hn q hq' => ?_⟩
    have gw := Gw.newH (o := .lst (rgW a c n)) R'.ok hq'
    obtain ⟨R3, s3⟩ := gw.rel R'
    exact hq _ _ _ L' R3 (s'.trans s3) ((RR.lst R'.ok hq' (rgW_fz n a c)).hrep R'.ok gw s') hQ
  · subst ex
    obtain ⟨b1, b2, b3⟩ := ok
    refine call_list_range (n := n) (I1.ok.hd S.calm) hr b1 b2 b3 fun h' tk acc c' hk e' hi => ?_
    refine ⟨.ref s1.heap.objs.size, upd H1 s1.heap.objs.size (.lst (rgW a c n)), I1.laid hk (Nat.le_refl _) (show ObjOk X.prog X.w _ _ _ (.lst (rgW a c n)) from ⟨?_, acc.toList, c', vals_rgW hi, ?_⟩), rfl, q b3 _ (I1.hok.fresh (Nat.le_refl _))⟩
    · rw [rgW_len, sizeLine_eq]; omega
    · rw [Array.toArray_toList]; exact e'
theorem se_trg {it : It} (S : Place X) (hg : Gl X "tuple") (hm : X.mg "tuple" = none) (he : SRx X XR W Φ it ea) (hs : noStar ea = true) : SE X XR W Φ (.trg it) (.Call (.Name "tuple" p) [ea] [] pos) := by
  refine ⟨fun pins s σ H Q I h => ?_⟩
  obtain ⟨w, L, QQ, XX, rfl, R, hf, hx, hq⟩ := h
  unfold wE at hf
  refine Call_ (ld_blt I hg hm boot_tuple (PyProof.Rows.callWith_type1 (args_cons (thn (he pins s σ w.H (fun a c n H1 => n ≤ 2 ^ 24 → ∀ q, H1 q = none → Q (.ref q) (upd H1 q (.tup (rgW a c n)))) I ?_) fun x s1 ⟨r, a, b, c, n, t, u, v, H1, ex, hr, I1, ok, q⟩ => args_nil ?_) (star1 hs)) (star1 hs)))
  · refine ⟨w, L, _, XX, rfl, R, hf, hx, fun a c n w' L' R' s' hQ hn q hq' => ?_⟩
    have gw := Gw.newG (o := .tup (rgW a c n)) R'.ok hq'
    obtain ⟨R3, s3⟩ := gw.rel R'
    exact hq _ _ _ L' R3 (s'.trans s3) ((RR.tup (R'.ok.same.free hq') (rgW_fz n a c)).hrep R'.ok gw s') hQ
  · subst ex
    obtain ⟨b1, b2, b3⟩ := ok
    refine call_tuple_range (n := n) (I1.ok.hd S.calm) hr b1 b2 b3 fun h' tk acc hk hi => ?_
    have I2 : Inv X pins σ H1 { s1 with heap := h', toks := tk } := I1.kept hk
    refine ⟨.ref h'.objs.size, upd H1 h'.objs.size (.tup (rgW a c n)), I2.laid (t' := tk) (fun c o e => Heap.get?_push_of_some _ e) (Nat.le_refl _) (show ObjOk X.prog X.w _ _ _ (.tup (rgW a c n)) from ⟨?_, acc.toList, vals_rgW hi, ?_⟩), rfl, q b3 _ (I2.hok.fresh (Nat.le_refl _))⟩
    · rw [rgW_len, sizeLine_eq]; omega
    · rw [Array.toArray_toList]; exact IsTup.new _ _
end
end Tk

set_option Elab.async false
set_option linter.all false
set_option maxRecDepth 100000
namespace Tk
open PySem PySem.Spec PyProof.Rows L2

/-! ### targets -/
section
variable {K : PySem.W.Frag} {a b w : Wd} {L : Lc} {σ : Sl}
theorem Rel.storeF {i : Nat} {v : V} {d : PyData} (R : Rel K w L σ) (f : Fz K w.G v d) (hi : i < L.length) : Rel K w (L.set i (some (.fz d))) (σ.set i (some v)) := by
  refine ⟨R.ok, by rw [List.length_set, List.length_set]; exact R.len, fun j x e => ?_⟩
  by_cases hj : i = j
  · subst hj
    rw [List.getElem?_set_self hi] at e
    cases e
    exact ⟨v, by rw [List.getElem?_set_self (by rw [← R.len]; exact hi)], .fz f⟩
  · rw [List.getElem?_set_ne hj] at e
    obtain ⟨u, h1, h2⟩ := R.own j x e
    exact ⟨u, by rw [List.getElem?_set_ne hj]; exact h1, h2⟩
theorem Rel.forget {i : Nat} (R : Rel K w L σ) : Rel K w (L.set i none) (σ.set i none) := by
  refine ⟨R.ok, by rw [List.length_set, List.length_set]; exact R.len, fun j x e => ?_⟩
  by_cases hj : i = j
  · subst hj
    by_cases hi : i < L.length
    · rw [List.getElem?_set_self hi] at e; cases e
    · rw [List.getElem?_eq_none (by simpa using hi)] at e; cases e
  · rw [List.getElem?_set_ne hj] at e
    obtain ⟨u, h1, h2⟩ := R.own j x e
    exact ⟨u, by rw [List.getElem?_set_ne hj]; exact h1, h2⟩
theorem Rel.wipe (R : Rel K w L σ) : ∀ vs : List Nat, Rel K w (wipeL L vs) (L2.wipe σ vs)
  | [] => R
  | v :: vs => (R.wipe vs).forget
theorem wipe_get {σ : Sl} : ∀ {vs : List Nat} {i : Nat}, i ∉ vs → (L2.wipe σ vs)[i]? = σ[i]?
  | [], _, _ => rfl
  | v :: vs, i, h => by
    simp only [List.mem_cons, not_or] at h
    show ((L2.wipe σ vs).set v none)[i]? = _
    rw [List.getElem?_set_ne (fun e => h.1 e.symm), wipe_get h.2]
theorem wipe_in {σ : Sl} : ∀ {vs : List Nat} {i : Nat}, i ∈ vs → i < σ.length → (L2.wipe σ vs)[i]? = some none
  | v :: vs, i, h, hi => by
    show ((L2.wipe σ vs).set v none)[i]? = _
    by_cases e : v = i
    · subst e
      rw [List.getElem?_set_self (by rw [wipe_length]; exact hi)]
    · rw [List.getElem?_set_ne e]
      exact wipe_in ((List.mem_cons.mp h).resolve_left fun z => e z.symm) hi
theorem wipe_ext {σ σ' : Sl} {vs : List Nat} (hl : σ.length = σ'.length) (h : ∀ i, i ∉ vs → σ[i]? = σ'[i]?) : L2.wipe σ vs = L2.wipe σ' vs := by
  apply List.ext_getElem?
  intro i
  by_cases hi : i ∈ vs
  · by_cases hlt : i < σ.length
    · rw [wipe_in hi hlt, wipe_in hi (by omega)]
    · rw [List.getElem?_eq_none (by rw [wipe_length]; omega), List.getElem?_eq_none (by rw [wipe_length]; omega)]
  · rw [wipe_get hi, wipe_get hi, h i hi]
theorem wipe_wipe {σ : Sl} {vs : List Nat} : L2.wipe (L2.wipe σ vs) vs = L2.wipe σ vs := wipe_ext (wipe_length _ _) fun i hi => wipe_get hi
theorem wipe_set {σ : Sl} {vs : List Nat} {i : Nat} {o : Option V} (h : i ∈ vs) : L2.wipe (σ.set i o) vs = L2.wipe σ vs :=
  wipe_ext (by rw [List.length_set]) fun j hj => List.getElem?_set_ne fun e => hj (by rw [← e]; exact h)
theorem wipeL_get {L : Lc} : ∀ {vs : List Nat} {i : Nat} {x : PV}, (wipeL L vs)[i]? = some (some x) → i ∉ vs ∧ L[i]? = some (some x)
  | [], _, _, h => ⟨by simp, h⟩
  | v :: vs, i, x, h => by
    have h : ((wipeL L vs).set v none)[i]? = some (some x) := h
    by_cases e : v = i
    · subst e
      by_cases hv : v < (wipeL L vs).length
      · rw [List.getElem?_set_self hv] at h; cases h
      · rw [List.getElem?_eq_none (by simpa using hv)] at h; cases h
    · rw [List.getElem?_set_ne e] at h
      obtain ⟨h1, h2⟩ := wipeL_get h
      exact ⟨by simp only [List.mem_cons, not_or]; exact ⟨fun z => e z.symm, h1⟩, h2⟩
theorem backL_len {L L2' : Lc} : ∀ {vs : List Nat}, (backL L L2' vs).length = L2'.length
  | [] => rfl
  | v :: vs => by
    show ((backL L L2' vs).set v _).length = _
    rw [List.length_set, backL_len]
theorem backL_get {L L2' : Lc} : ∀ {vs : List Nat} {i : Nat} {x : PV}, (backL L L2' vs)[i]? = some (some x) → (i ∉ vs ∧ L2'[i]? = some (some x)) ∨ ∃ d, x = .fz d ∧ L[i]? = some (some (.fz d))
  | [], _, _, h => .inl ⟨by simp, h⟩
  | v :: vs, i, x, h => by
    have h : ((backL L L2' vs).set v (keepFz L[v]?))[i]? = some (some x) := h
    by_cases e : v = i
    · subst e
      by_cases hv : v < (backL L L2' vs).length
      · rw [List.getElem?_set_self hv] at h
        have h := Option.some.inj h
        unfold keepFz at h
        split at h
        · rename_i d e
          cases h
          exact .inr ⟨d, rfl, e⟩
        · cases h
      · rw [List.getElem?_eq_none (by simpa using hv)] at h; cases h
    · rw [List.getElem?_set_ne e] at h
      rcases backL_get h with ⟨h1, h2⟩ | h2
      · exact .inl ⟨by simp only [List.mem_cons, not_or]; exact ⟨fun z => e z.symm, h1⟩, h2⟩
      · exact .inr h2
/-- behind the block: what stood ahead of it -/
theorem Rel.back {L1 L2' : Lc} {vs : List Nat} (R1 : Rel K b L1 σ) (sg : Same b.G w.G) (R : Rel K w (wipeL L2' vs) (L2.wipe σ vs)) : Rel K w (backL L1 L2' vs) σ := by
  have hl : (wipeL L2' vs).length = L2'.length := by
    clear R R1
    induction vs with
    | nil => rfl
    | cons v vs ih => show ((wipeL L2' vs).set v none).length = _; rw [List.length_set, ih]
  refine ⟨R.ok, by rw [backL_len, ← hl, R.len, wipe_length], fun i x e => ?_⟩
  rcases backL_get e with ⟨h1, h2⟩ | ⟨d, rfl, h2⟩
  · have h3 : (wipeL L2' vs)[i]? = some (some x) := by
      clear R R1 e hl
      induction vs with
      | nil => exact h2
      | cons v vs ih =>
        simp only [List.mem_cons, not_or] at h1
        show ((wipeL L2' vs).set v none)[i]? = _
        rw [List.getElem?_set_ne (fun z => h1.1 z.symm)]
        exact ih h1.2
    obtain ⟨v, q1, q2⟩ := R.own i x h3
    exact ⟨v, (wipe_some q1).1, q2⟩
  · obtain ⟨v, q1, q2⟩ := R1.own i _ h2
    cases q2 with
    | fz f => exact ⟨v, q1, .fz (f.mono sg)⟩
end
def gT (K : PySem.W.Frag) (t : Tg) : TG := fun v σ H Q => ∃ w L d L', w.H = H ∧ Rel K w L σ ∧ Fz K w.G v d ∧ t.asg d L = some L' ∧ ∀ σ', Rel K w L' σ' → (∀ vs : List Nat, (∀ i ∈ t.vars, i ∈ vs) → wipe σ' vs = wipe σ vs) → Q σ' H
def gTs (K : PySem.W.Frag) (t : Tgs) : TGs := fun vs σ H Q => ∃ w L ds L', w.H = H ∧ Rel K w L σ ∧ FzL K w.G vs ds ∧ t.asg ds L = some L' ∧ ∀ σ', Rel K w L' σ' → (∀ vs : List Nat, (∀ i ∈ t.vars, i ∈ vs) → wipe σ' vs = wipe σ vs) → Q σ' H
theorem _root_.L2.PG.imp {X : Cx} {e : Expr} {t t' : TG} (h : PG X e t) (i : ∀ v σ H Q, t' v σ H Q → t v σ H Q) : PG X e t' := ⟨fun pins s σ H v u Q I r q => h.run pins s σ H v u Q I r (i v σ H Q q)⟩
theorem _root_.L2.PGs.imp {X : Cx} {e : List Expr} {t t' : TGs} (h : PGs X e t) (i : ∀ v σ H Q, t' v σ H Q → t v σ H Q) : PGs X e t' := ⟨fun pins s σ H v u Q I r q => h.run pins s σ H v u Q I r (i v σ H Q q)⟩
theorem _root_.L2.PTs.imp {X : Cx} {e : List Expr} {t t' : TT} (h : PTs X e t) (i : ∀ σ H Q, t' σ H Q → t σ H Q) : PTs X e t' := ⟨fun pins s σ H Q I q => h.run pins s σ H Q I (i σ H Q q)⟩
section
variable {X : Cx} {XR : XRel} {W : WX} {Φ : Fns} {pos : Pos}
theorem gt_nm {i : Nat} {x : Str} (hN : X.N.Nodup) (hi : X.N[i]? = some x) (hx : Loc X.env.scope x) (hf : X.fn x = true ∨ X.env.scope.names.lookup x = some .local) : PG X (.Name x pos) (gT X.K (.nm i)) := by
  refine (pg_name hN hi hx hf).imp fun v σ H Q h => ?_
  obtain ⟨w, L, d, L', rfl, R, f, e, q⟩ := h
  unfold Tg.asg at e
  split at e
  · rename_i hlt
    cases e
    exact q _ (R.storeF f hlt) fun vs hv => wipe_set (hv i (by simp [Tg.vars]))
  · cases e
theorem gts_nil : PGs X [] (gTs X.K .nil) := by
  refine pgs_nil.imp fun v σ H Q h => ?_
  obtain ⟨w, L, d, L', rfl, R, f, e, q⟩ := h
  cases f with
  | nil =>
    unfold Tgs.asg at e
    cases e
    exact ⟨rfl, q σ R fun _ _ => rfl⟩
  | cons _ _ => unfold Tgs.asg at e; cases e
theorem gts_cons {t : Tg} {ts : Tgs} {e : Expr} {es : List Expr} (h1 : PG X e (gT X.K t)) (h2 : PGs X es (gTs X.K ts)) (hs : (assignEach (e :: es) X.env).map (·.2) = assign e X.env :: (assignEach es X.env).map (·.2)) : PGs X (e :: es) (gTs X.K (.cons t ts)) := by
  refine (pgs_cons h1 h2 hs).imp fun v σ H Q h => ?_
  obtain ⟨w, L, d, L', rfl, R, f, e, q⟩ := h
  cases f with
  | nil => unfold Tgs.asg at e; cases e
  | cons f fs =>
    unfold Tgs.asg at e
    split at e
    · rename_i L1 e1
      refine ⟨_, _, rfl, w, L, _, L1, rfl, R, f, e1, fun σ1 R1 w1 => ⟨w, L1, _, L', rfl, R1, fs, e, fun σ2 R2 w2 => q σ2 R2 fun vs hv => ?_⟩⟩
      rw [w2 vs fun i hi => hv i (by simp [Tgs.vars, hi]), w1 vs fun i hi => hv i (by simp [Tgs.vars, hi])]
    · cases e
theorem asg_len : ∀ {ts : Tgs} {ds : List PyData} {L L' : Lc}, ts.asg ds L = some L' → ds.length = ts.len
  | .nil, [], _, _, _ => rfl
  | .nil, _ :: _, _, _, e => by unfold Tgs.asg at e; cases e
  | .cons t ts, [], _, _, e => by unfold Tgs.asg at e; cases e
  | .cons t ts, d :: ds, L, L', e => by
    unfold Tgs.asg at e
    split at e
    · rw [List.length_cons, asg_len e]; rfl
    · cases e
mutual
theorem asg_length : ∀ {t : Tg} {d : PyData} {L L' : Lc}, t.asg d L = some L' → L'.length = L.length
  | .nm i, d, L, L', e => by
    unfold Tg.asg at e
    split at e
    · cases e; rw [List.length_set]
    · cases e
  | .tp ts, d, L, L', e => by
    unfold Tg.asg at e
    cases d <;> first | cases e | exact asgs_length e
theorem asgs_length : ∀ {t : Tgs} {ds : List PyData} {L L' : Lc}, t.asg ds L = some L' → L'.length = L.length
  | .nil, ds, L, L', e => by
    unfold Tgs.asg at e
    cases ds with
    | nil => cases e; rfl
    | cons _ _ => cases e
  | .cons t ts, ds, L, L', e => by
    cases ds with
    | nil => unfold Tgs.asg at e; cases e
    | cons d ds =>
      unfold Tgs.asg at e
      split at e
      · rename_i L1 e1
        rw [asgs_length e, asg_length e1]
      · cases e
end
theorem pg_seq {es : List Expr} {k : Nat} {t : TGs} {n : Nat} (hc : X.calm = true) (h : PGs X es t) (hn : (assignEach es X.env).length = n) (hst : (assignEach es X.env).findIdx? (·.1) = none) : PG X (.Tuple es k pos) (fun v σ H Q => gTup X.K n t v σ H Q ∨ gUnl X.K n t v σ H Q) :=
  ⟨fun pins s σ H v u Q I r hw => by
    rcases hw with hw | hw
    · exact (pg_tup hc h hn hst).run pins s σ H v u Q I r hw
    · exact (pg_unl hc h hn hst).run pins s σ H v u Q I r hw⟩
theorem gt_tp {ts : Tgs} {es : List Expr} {k : Nat} (hc : X.calm = true) (h : PGs X es (gTs X.K ts)) (hn : (assignEach es X.env).length = ts.len) (hst : (assignEach es X.env).findIdx? (·.1) = none) : PG X (.Tuple es k pos) (gT X.K (.tp ts)) := by
  refine (pg_seq hc h hn hst).imp fun v σ H Q h => ?_
  obtain ⟨w, L, d, L', rfl, R, f, e, q⟩ := h
  cases d with
  | list ds =>
    unfold Tg.asg at e
    cases f with
    | lst h1 h2 => exact .inr ⟨_, _, rfl, (h1.mono R.ok.same).sq, by rw [h2.length]; exact asg_len e, w, L, ds, L', rfl, R, h2, e, fun σ' R' hw => q σ' R' fun vs hv => hw vs fun i hi => hv i (by simpa [Tg.vars] using hi)⟩
  | tuple ds =>
    unfold Tg.asg at e
    cases f with
    | tup h1 h2 => exact .inl ⟨_, _, rfl, sqT_mono R.ok.same h1, by rw [h2.length]; exact asg_len e, w, L, ds, L', rfl, R, h2, e, fun σ' R' hw => q σ' R' fun vs hv => hw vs fun i hi => hv i (by simpa [Tg.vars] using hi)⟩
  | _ => unfold Tg.asg at e; cases e

/-! ### list comprehensions -/
theorem Rel.poke {K : PySem.W.Frag} {w : Wd} {L : Lc} {σ : Sl} {D : Addr} {o' : HO} (R : Rel K w L σ) (hg : w.G D = none) (ho : w.ow D = none) : Rel K ⟨w.G, w.ow, upd w.H D o'⟩ L σ := by
  refine ⟨⟨fun p o h => ?_, fun p l h => ?_, R.ok.inj⟩, R.len, fun i x e => ?_⟩
  · show upd w.H D o' p = some o
    rw [upd_ne (ne_of_none h hg)]
    exact R.ok.same _ _ h
  · obtain ⟨h1, o, h2⟩ := R.ok.mine p l h
    exact ⟨h1, o, by show upd w.H D o' p = some o; rw [upd_ne fun z => by subst z; rw [ho] at h; cases h]; exact h2⟩
  · obtain ⟨v, h1, h2⟩ := R.own i x e
    exact ⟨v, h1, h2.carry ⟨Same.refl _, fun p s o q1 q2 => ⟨by show upd w.H D o' p = some o; rw [upd_ne fun z => by subst z; rw [ho] at q1; cases q1]; exact q2, q1⟩⟩⟩
open Classical in
/-- what lies about gets one part more -/
theorem push_loose {K : PySem.W.Frag} {a b w : Wd} {ot ot2 : Ow} {D : Addr} {xs : List PV} {x : PV} {y : V} (lo : Loose a b ot) (sab : Step a b) (s : Step b w) (lo2 : Loose b w ot2) (h : Own K w.G w.H ot [] (.mls xs) (.ref D)) (hx : Own K w.G w.H ot2 [] x y) :
    ∃ vs, w.H D = some (.lst vs) ∧ vs.length = xs.length ∧ w.G D = none ∧ w.ow D = none ∧ ∃ ot', Loose a ⟨w.G, w.ow, upd w.H D (.lst (vs ++ [y]))⟩ ot' ∧ Own K w.G (upd w.H D (.lst (vs ++ [y]))) ot' [] (.mls (xs ++ [x])) (.ref D) ∧
      Step a ⟨w.G, w.ow, upd w.H D (.lst (vs ++ [y]))⟩ := by
  have lw := lo.step s
  have dj : ∀ {p l}, ot p = some l → ot2 p = none := fun {p l} e => by
    obtain ⟨h1, _, o, h3⟩ := lo.apart p l e
    exact lo2.new p o h3 h1
  cases h with
  | @mls _ _ _ vs h1 h2 t =>
    have hD := lw.apart D _ h1
    refine ⟨vs, h2, t.length.symm, hD.2.1, hD.1, fun p => match ot2 p with | some l => some (xs.length :: l) | none => if (∃ l, ot p = some (xs.length :: l)) then none else ot p, ?_, .mls ?_ upd_same (OwnL.cat (t.lift2 (Same.refl _) fun q j r u hj1 hj a b => ?_) (.cons ?_ .nil)), (sab.trans s).same, fun p o ho hn => ?_⟩
    · refine ⟨fun p l e => ?_, fun p o ho hn => ?_, fun p q l e e' => ?_⟩
      · have e : (match ot2 p with | some l => some (xs.length :: l) | none => if (∃ l, ot p = some (xs.length :: l)) then none else ot p) = some l := e
        have key : w.ow p = none ∧ w.G p = none ∧ ∃ o, w.H p = some o := by
          cases z : ot2 p with
          | some l' => exact lo2.apart p l' z
          | none =>
            rw [z] at e
            simp only at e
            split at e
            · cases e
            · exact lw.apart p l e
        obtain ⟨k1, k2, o, k3⟩ := key
        refine ⟨k1, k2, ?_⟩
        by_cases z : p = D
        · subst z; exact ⟨_, upd_same⟩
        · exact ⟨o, by show upd w.H D _ p = some o; rw [upd_ne z]; exact k3⟩
      · show (match ot2 p with | some l => some (xs.length :: l) | none => if (∃ l, ot p = some (xs.length :: l)) then none else ot p) = none
        rw [(lo2.back sab).new p o ho hn]
        simp only
        rw [lo.new p o ho hn]
        split <;> rfl
      · have e : (match ot2 p with | some l => some (xs.length :: l) | none => if (∃ l, ot p = some (xs.length :: l)) then none else ot p) = some l := e
        have e' : (match ot2 q with | some l => some (xs.length :: l) | none => if (∃ l, ot q = some (xs.length :: l)) then none else ot q) = some l := e'
        cases z : ot2 p with
        | some l1 =>
          rw [z] at e
          cases z' : ot2 q with
          | some l2 =>
            rw [z'] at e'
            have e1 := Option.some.inj (e.trans e'.symm)
            injection e1 with _ e2
            subst e2
            exact lo2.inj _ _ _ z z'
          | none =>
            rw [z'] at e'
            simp only at e'
            split at e'
            · cases e'
            · rename_i nz
              exact absurd ⟨l1, e'.trans e.symm⟩ nz
        | none =>
          rw [z] at e
          simp only at e
          split at e
          · cases e
          · rename_i nz
            cases z' : ot2 q with
            | some l2 =>
              rw [z'] at e'
              exact absurd ⟨l2, e.trans e'.symm⟩ nz
            | none =>
              rw [z'] at e'
              simp only at e'
              split at e'
              · cases e'
              · exact lo.inj _ _ _ e e'
    · show (match ot2 D with | some l => some (xs.length :: l) | none => if (∃ l, ot D = some (xs.length :: l)) then none else ot D) = some []
      rw [dj h1]
      simp only
      rw [if_neg fun ⟨l, z⟩ => by rw [h1] at z; cases z]
      exact h1
    · have a' : ot q = some (j :: r) := a
      have np : q ≠ D := fun z => by subst z; rw [h1] at a'; cases a'
      refine ⟨by show upd w.H D _ q = some u; rw [upd_ne np]; exact b, ?_⟩
      show (match ot2 q with | some l => some (xs.length :: l) | none => if (∃ l, ot q = some (xs.length :: l)) then none else ot q) = some (j :: r)
      rw [dj a']
      simp only
      rw [if_neg fun ⟨l, z⟩ => by
        rw [a'] at z
        injection (Option.some.inj z) with z1 _
        omega]
      exact a'
    · refine hx.carry ⟨Same.refl _, fun p r o e1 e2 => ?_⟩
      have e1 : ot2 p = some r := e1
      have np : p ≠ D := fun z => by subst z; rw [dj h1] at e1; cases e1
      refine ⟨by show upd w.H D _ p = some o; rw [upd_ne np]; exact e2, ?_⟩
      show (match ot2 p with | some l => some (xs.length :: l) | none => if (∃ l, ot p = some (xs.length :: l)) then none else ot p) = some ([] ++ [0 + xs.length] ++ r)
      rw [e1]
      simp
    · obtain ⟨k1, k2, k3⟩ := (sab.trans s).keep p o ho hn
      have np : p ≠ D := fun z => by
        subst z
        rw [lo.new p o ho hn] at h1
        cases h1
      exact ⟨by show upd w.H D _ p = some o; rw [upd_ne np]; exact k1, k2, k3⟩
theorem sts_nil {W' : WX} : PTs X [] (tT X.K XR W' (wT Φ .nil)) := by
  refine pts_nil.imp fun σ H Q h => ?_
  obtain ⟨w, L, QQ, XX, rfl, R, hf, hx, hq⟩ := h
  unfold wT at hf
  exact hq _ w L R (Step.refl _) hf
theorem sts_one {W' : WX} {a : E} {ea : Expr} (h : ST X XR W' Φ a ea) : PTs X [ea] (tT X.K XR W' (wT Φ (.cons a .nil))) := by
  refine (pts_one h).imp fun σ H Q h => ?_
  obtain ⟨w, L, QQ, XX, rfl, R, hf, hx, hq⟩ := h
  unfold wT at hf
  exact ⟨w, L, QQ, XX, rfl, R, hf, hx, hq⟩
/-- what a comprehension does -/
theorem lc_imp {W' : WX} {elt : E} {tg : Tg} {it : It} {ifs : Es} {own : List (Str × Nat)} (hv : ∀ i ∈ tg.vars, i ∈ own.map (·.2)) {σ : Sl} {H : Hp} {Q : VK} (h : tE X.K XR W (wE Φ (.lc elt tg it ifs own)) σ H Q) :
    tLc (tI X.K XR W (wI Φ it)) (gT X.K tg) (tT X.K XR W' (wT Φ ifs)) (tE X.K XR W' (wE Φ elt)) (own.map (·.2)) σ H Q := by
  obtain ⟨w, L, QQ, XX, rfl, R, hf, hx, hq⟩ := h
  unfold wE at hf
  refine ⟨w, L, _, XX, rfl, R, hf, hx, fun J ds w1 L1 R1 s1 ok hb D hD => ?_⟩
  revert hb
  generalize hbd : (fun d L2 (R : Option PV → Lc → Prop) => ∃ L3, tg.asg d L2 = some L3 ∧ wT Φ ifs L3 (fun b L4 => if b = true then wE Φ elt L4 (fun h L5 => ∃ x L6, h.kid L5 = some (x, L6) ∧ R (some x) L6) (fun _ _ => False) else R none L4) (fun _ _ => False)) = body
  generalize hvs : own.map (·.2) = vs at hv ⊢
  intro hb
  refine ⟨fun i m H => ∃ w' L' ot acc, m = ds.length - i ∧ i ≤ ds.length ∧ w'.H = H ∧ Rel X.K w' (wipeL L' vs) (wipe σ vs) ∧ Step w1 w' ∧ Loose w1 w' ot ∧ Own X.K w'.G w'.H ot [] (.mls acc) (.ref D) ∧
    lcRun body vs (ds.drop i) acc L' (fun acc L2 => QQ (.tm (.mls acc)) (backL L1 L2 vs)), ⟨ds.length, ?_⟩, ?_⟩
  · obtain ⟨R3, s3⟩ := R1.newH (p := D) (o := .lst []) hD
    refine ⟨⟨w1.G, w1.ow, upd w1.H D (.lst [])⟩, L1, fun q => if q = D then some [] else none, [], by simp, Nat.zero_le _, rfl, R3.wipe vs, s3, ⟨fun q l e => ?_, fun q o e n => ?_, fun q q' l e e' => ?_⟩, .mls (if_pos rfl) upd_same .nil, by simpa using hb⟩
    · have e : (if q = D then some [] else none) = some l := e
      split at e
      · rename_i z
        subst z
        refine ⟨?_, R1.ok.same.free hD, _, upd_same⟩
        show w1.ow q = none
        cases z : w1.ow q with
        | none => rfl
        | some l' =>
          obtain ⟨_, o, h⟩ := R1.ok.mine q l' z
          rw [hD] at h; cases h
      · cases e
    · show (if q = D then some [] else none) = none
      rw [if_neg (ne_of_none e hD)]
    · have e : (if q = D then some [] else none) = some l := e
      have e' : (if q' = D then some [] else none) = some l := e'
      split at e
      · split at e'
        · rename_i z1 z2; rw [z1, z2]
        · cases e'
      · cases e
  · rintro i m H ⟨w', L', ot, acc, rfl, hi, rfl, R', s', lo, ow, run⟩
    by_cases hlt : i < ds.length
    · rw [List.drop_eq_getElem_cons hlt] at run
      refine .inr ⟨ok.goes w' i s'.same R'.ok hlt, fun H => ∃ w' L' ot acc, i + 1 ≤ ds.length ∧ w'.H = H ∧ Rel X.K w' (wipeL L' vs) (wipe σ vs) ∧ Step w1 w' ∧ Loose w1 w' ot ∧ Own X.K w'.G w'.H ot [] (.mls acc) (.ref D) ∧
        lcRun body vs (ds.drop (i + 1)) acc L' (fun acc L2 => QQ (.tm (.mls acc)) (backL L1 L2 vs)), fun H' ⟨w', L', ot, acc, z⟩ => ⟨ds.length - (i + 1), by omega, w', L', ot, acc, rfl, z⟩, fun x H' y => ?_⟩
      obtain ⟨w2, d, rfl, gw, hd, f⟩ := ok.yields w' i x H' s'.same R'.ok hlt y
      rw [List.getElem?_eq_getElem hlt] at hd
      have hd := Option.some.inj hd
      rw [hd] at run
      unfold lcRun at run
      rw [← hbd] at run
      obtain ⟨L3, e3, hT⟩ := run
      obtain ⟨R2, s2⟩ := gw.rel R'
      refine ⟨w2, wipeL L' vs, d, L3, rfl, R2, f, e3, fun σ2 R3 hw => ?_⟩
      have hw := (hw vs hv).trans wipe_wipe
      refine ⟨hw, w2, L3, _, fun _ _ => False, rfl, R3, hT, XW.no, fun b w3 L4 R4 s3 hb => ?_⟩
      have s23 := (s'.trans s2).trans s3
      have lo3 := (lo.step s2).step s3
      have ow3 := (lo.step s2).own s3 (lo.own s2 ow)
      cases b with
      | false =>
        simp only [Bool.false_eq_true, if_false] at hb ⊢
        exact ⟨w3, L4, ot, acc, hlt, rfl, by rw [← hw]; exact R4.wipe vs, s23, lo3, ow3, by rw [hbd] at hb; exact hb⟩
      | true =>
        simp only [if_true] at hb ⊢
        refine ⟨w3, L4, _, fun _ _ => False, rfl, R4, hb, XW.no, fun y h w4 L5 R5 s4 q4 ⟨x', L6, ek, hz, hR⟩ => ?_⟩
        obtain ⟨G', ow', ot2, R6, s6, lo2, o2, sg⟩ := q4.kid R5 s4 ek
        have ow5 := lo3.own s6 ow3
        obtain ⟨us, h1, h2, h3, h4, ot', lo', own', st'⟩ := push_loose lo3 s23 s6 lo2 ow5 o2
        refine ⟨us, h1, by omega, ⟨G', ow', upd w4.H D (.lst (us ++ [y]))⟩, L6, ot', acc ++ [x'], hlt, rfl, ?_, st', lo', own', by rw [hbd] at hR; exact hR⟩
        have := (R6.poke (o' := .lst (us ++ [y])) h3 h4).wipe vs
        rw [hw] at this
        exact this
    · have e : i = ds.length := by omega
      subst e
      rw [List.drop_length] at run
      unfold lcRun at run
      refine .inl ⟨ok.stops w' s'.same R'.ok, hq _ _ w' (backL L1 L' vs) (R1.back s'.same R') (s1.trans s') (.tm (lo.back s1) ow) run⟩
end
end Tk

set_option Elab.async false
set_option linter.all false
set_option maxRecDepth 100000
namespace HT
open PySem PyProof.Rows
/-! ### t[::-1] -/
section
variable {prog : Program} {w : World} {A : Around} {E : Value → Shared → Prop} {s : Shared}
theorem adjust_rev (n : Nat) : Builtin.Slice.sliceAdjust none none (-1) (n : Int) = ((n : Int) - 1, -1) := by
  unfold Builtin.Slice.sliceAdjust
  rfl
theorem places_rev (n : Nat) : Builtin.Slice.slicePlaces ((n : Int) - 1) (-1) (-1) = n := by
  unfold Builtin.Slice.slicePlaces
  have h1 : ¬ ((-1 : Int) > 0) := by omega
  simp only [h1, if_false, show (- (-1) : Int) = 1 from rfl, Int.ediv_one]
  split <;> omega
theorem sliceApplied_rev {sl : Addr} {t : Tok} {n : Nat} {Q : Int × Int × Nat → Shared → Prop} (hs : s.heap.IsSliceOf sl .none .none (.int (-1) t))
    (h : Q ((n : Int) - 1, -1, n) s) : wpAny (model prog w) A (Builtin.Slice.sliceApplied (.ref sl) (pure (n : Int))) Q E s := by
  obtain ⟨os, hos, hcs, hds⟩ := id hs
  unfold Builtin.Slice.sliceApplied Builtin.Slice.sliceFields
  refine wpAny_bind (wpAny_bind (wpAny_field hos hds (x := .none) rfl (wpAny_bind (wpAny_field hos hds (x := .none) rfl (wpAny_bind (wpAny_field hos hds (x := .int (-1) t) rfl (wpAny_pure ?_)))))))
  refine wpAny_bind (slicePart_int ?_)
  show wpAny _ _ (if ((-1 : Int) == 0) = true then _ else _) _ _ s
  rw [if_neg (by decide)]
  refine wpAny_bind (slicePart_none (wpAny_bind (slicePart_none (wpAny_bind (wpAny_pure ?_)))))
  show wpAny _ _ (match Builtin.Slice.sliceAdjust none none (-1) (n : Int) with | (lo, hi) => pure (lo, (-1 : Int), Builtin.Slice.slicePlaces lo hi (-1))) _ _ s
  rw [adjust_rev]
  show wpAny _ _ (pure ((n : Int) - 1, (-1 : Int), Builtin.Slice.slicePlaces ((n : Int) - 1) (-1) (-1))) _ _ s
  rw [places_rev]
  exact wpAny_pure h
theorem pick_rev (xs : Array Value) : ((List.range xs.size).filterMap fun (m : Nat) => xs[((xs.size : Int) - 1 + (m : Int) * (-1)).toNat]?).toArray = xs.toList.reverse.toArray := by
  congr 1
  have cong : ∀ (f g : Nat → Option Value) (l : List Nat), (∀ m ∈ l, f m = g m) → l.filterMap f = l.filterMap g := by
    intro f g l
    induction l with
    | nil => intro _; rfl
    | cons a l ih =>
      intro h
      rw [List.filterMap_cons, List.filterMap_cons, h a (List.mem_cons_self ..), ih fun m hm => h m (List.mem_cons_of_mem _ hm)]
  have e : (List.range xs.size).filterMap (fun (m : Nat) => xs[((xs.size : Int) - 1 + (m : Int) * (-1)).toNat]?) = (List.range xs.size).filterMap (fun m => xs.toList.reverse[m]?) := by
    refine cong _ _ _ fun m hm => ?_
    have hm := List.mem_range.mp hm
    have e1 : ((xs.size : Int) - 1 + (m : Int) * (-1)).toNat = xs.size - 1 - m := by omega
    rw [e1, List.getElem?_reverse (by simpa using hm), Array.length_toList, Array.getElem?_toList]
  rw [e]
  have key : ∀ ys : List Value, (List.range ys.length).filterMap (fun m => ys[m]?) = ys := by
    intro ys
    induction ys with
    | nil => rfl
    | cons y ys ih =>
      rw [List.length_cons, List.range_succ_eq_map, List.filterMap_cons]
      simp only [List.getElem?_cons_zero, List.filterMap_map]
      congr 1
  have := key xs.toList.reverse
  rw [List.length_reverse, Array.length_toList] at this
  exact this
theorem getItem_tuple_rev {t sl : Addr} {u : Tok} {items : Array Value} {Q : Value → Shared → Prop} (ht : IsTup s.heap t items) (hs : s.heap.IsSliceOf sl .none .none (.int (-1) u))
    (h : Q (.ref s.heap.objs.size) { s with heap := s.heap.push { cls := .type "tuple", data := .seq items.toList.reverse.toArray } })
    (hsz : items.size ≤ sizeLine) : wpAny (model prog w) A (getItem (.ref t) (.ref sl)) Q E s := by
  have htake : sizeOk (.seq items.toList.reverse.toArray) := by
    show items.toList.reverse.toArray.size ≤ sizeLine
    rw [List.size_toArray, List.length_reverse, Array.length_toList]
    exact hsz
  obtain ⟨os, hos, hcs, hds⟩ := id hs
  have hTs : s.TypeIs (.ref sl) "slice" := ⟨os, hos, hcs⟩
  unfold getItem
  try with_reducible refine wpAny_holding ?_
  first | refine wpAny_bind (wpAny_pure ?_) | skip
  refine wpAny_bind (wpAny_sequenceKey ht.typeIs (by decide) ?_)
  refine wpAny_bind (wpAny_callSpecial?_slot (name := Str.ofString "__getitem__") ht.typeIs PyProof.Rows.slot_tuple_getitem
    (wpAny_call_entry PyProof.Rows.slot_tuple_getitem ht.typeIs entry_tuple_getitem ?_ (args_tuple_getitem _ _)))
  show wpAny _ _ (Builtin.Tuple.tupleItemsOf (.ref t) >>= _) _ _ s
  refine wpAny_bind (tupleItemsOf_ ht ?_)
  refine wpAny_bind (wpAny_typeOf hTs ?_)
  rw [if_pos (by decide)]
  refine wpAny_bind (sliceApplied_rev hs ?_)
  have hno : ¬ ((((items.size : Int) - 1) == 0 && (-1 : Int) == 1 && items.size == items.size) = true) := by
    simp
  show wpAny _ _ (if (((items.size : Int) - 1) == 0 && (-1 : Int) == 1 && items.size == items.size) = true then _ else _) _ _ s
  rw [if_neg hno, pick_rev]
  first
    | exact wpAny_bind (m := Builtin.Tuple.tupleExact _) (wpAny_newObj_type (wpAny_pure ⟨_, rfl, wpAny_pure h⟩) htake)
    | exact wpAny_bind (m := Builtin.Tuple.tupleExact _) (wpAny_newObj_type (wpAny_bind (wpAny_pure (wpAny_pure ⟨_, rfl, wpAny_pure h⟩))) htake)
    | exact wpAny_bind (wpAny_bind (m := Builtin.Tuple.tupleExact _) (wpAny_newObj_type (wpAny_pure (wpAny_pure ⟨_, rfl, wpAny_pure h⟩)) htake))
    | exact wpAny_bind (wpAny_bind (m := Builtin.Tuple.tupleExact _) (wpAny_newObj_type (wpAny_pure ⟨_, rfl, wpAny_pure h⟩) htake))
end
end HT
namespace L2
open PySem PySem.Spec PyProof.Rows HT
section
variable {X : Cx}
def tRevA (K : PySem.W.Frag) (te : TE) : TE := fun σ H Q => te σ H fun x H1 => ∃ a xs, x = .ref a ∧ ((SqL K H1 a xs ∧ ∀ p, H1 p = none → Q (.ref p) (upd H1 p (.lst xs.reverse))) ∨ (SqT K H1 a xs ∧ ∀ p, H1 p = none → Q (.ref p) (upd H1 p (.tup xs.reverse))))
theorem pe_revA {e : Expr} {te : TE} {k : Nat} {p1 p2 p3 pos : Pos} (he : PE X e te) : PE X (.Subscript e (.Slice none none (some (.UnaryOp .USub (.Constant (.int 1) k p1) p2)) p3) pos) (tRevA X.K te) := by
  refine ⟨fun pins s σ H Q I h => ?_⟩
  refine Subscript_ (thn (he.run pins s σ H _ I h) fun v s1 ⟨x, H1, I1, r1, q1⟩ => ?_)
  obtain ⟨a, xs, ex, q⟩ := q1
  subst ex
  cases r1
  have hst : PO X (some (.UnaryOp .USub (.Constant (.int 1) k p1) p2)) (tPart (tUn (rU fun i => .int (-i)) (tC (.int 1)))) := po_some (pe_un un_neg pe_int)
  refine wpAny_Slice (thn (po_none.run pins s1 σ H1 (fun o H2 => o = none ∧ H2 = H1) I1 ⟨rfl, rfl⟩) fun vl s2 ⟨l, H2, I2, pl, el, e2⟩ => ?_)
  subst el e2
  refine thn (po_none.run pins s2 σ H2 (fun o H3 => o = none ∧ H3 = H2) I2 ⟨rfl, rfl⟩) fun vu s3 ⟨u, H3, I3, pu, eu, e3⟩ => ?_
  subst eu e3
  refine thn (hst.run pins s3 σ H3 (fun o H4 => o = some (-1) ∧ H4 = H3) I3 ⟨1, rfl, -1, rfl, rfl, rfl⟩) fun vs s4 ⟨o, H4, I4, ps, eo, e4⟩ => ?_
  subst eo e4
  have I5 : Inv X pins σ H4 { s4 with heap := s4.heap.push { cls := .type "slice", data := .fields #[vl, vu, vs] } } := I4.kept (t' := s4.toks) fun b ob q => Heap.get?_push_of_some _ q
  show wpAny (model X.prog X.w) X.A (subscriptTail e (.Slice none none (some (.UnaryOp .USub (.Constant (.int 1) k p1) p2)) p3) (.ref a) (.ref s4.heap.objs.size)) (EP X pins σ Q) X.xe { s4 with heap := s4.heap.push { cls := .type "slice", data := .fields #[vl, vu, vs] } }
  rcases q with ⟨hx, q⟩ | ⟨hx, q⟩
  · obtain ⟨its, r, ht, hz⟩ := I5.list hx
    have hlen := r.length
    refine tail_any (ops := [.ref a, .ref s4.heap.objs.size]) ht.isList.typeIs (PySem.slot_list_getitem.lookup) ?_ (by with_unfolding_all rfl)
    refine wpAny_getItem_list_slice ht.isList (Heap.IsSliceOf.new _ vl vu vs) pl pu ps (by decide) ?_ (by rw [List.size_toArray]; omega)
    rw [PySem.W.krv_pick]
    refine ⟨.ref _, _, I5.laid (t' := s4.toks) (o := .lst xs.reverse) (fun b ob q => Heap.get?_push_of_some _ q) (Nat.le_refl _) ?_, rfl, q _ (I5.hok.fresh (Nat.le_refl _))⟩
    exact ⟨by rw [List.length_reverse]; exact hz, _, 0, r.reverse, Heap.get?_push_size _ rfl⟩
  · obtain ⟨its, r, ht, hz⟩ := I5.tuple hx
    have hlen := r.length
    refine tail_any (ops := [.ref a, .ref s4.heap.objs.size]) ht.typeIs (PyProof.Rows.slot_tuple_getitem.lookup) ?_ (by with_unfolding_all rfl)
    cases pl
    cases pu
    cases ps
    refine getItem_tuple_rev ht (Heap.IsSliceOf.new _ _ _ _) ?_ (by rw [List.size_toArray]; omega)
    refine ⟨.ref _, _, I5.laid (t' := s4.toks) (o := .tup xs.reverse) (fun b ob q => Heap.get?_push_of_some _ q) (Nat.le_refl _) ?_, rfl, q _ (I5.hok.fresh (Nat.le_refl _))⟩
    exact ⟨by rw [List.length_reverse]; exact hz, _, r.reverse, IsTup.new _ _⟩
end
end L2

set_option Elab.async false
set_option linter.all false
set_option maxRecDepth 100000
namespace Tk
open PySem PySem.Spec PyProof.Rows L2
section
variable {X : Cx} {XR : XRel} {W : WX} {Φ : Fns}
variable {a b c o : E} {es : Es} {eo ea eb ec : Expr} {pos apos p : Pos} {exs : List Expr}

/-! ### rows of arguments, one within another -/
def tN (K : PySem.W.Frag) (XR : XRel) (W : WX) (Φ : Fns) : Es → TA
  | .nil => tNil
  | .cons e es => tCons (tE K XR W (wE Φ e)) (tN K XR W Φ es)
theorem wB_nest : ∀ {es : Es} {σ : Sl} {H : Hp} {Q : List V → Hp → Prop}, tB2 X.K XR W (wB Φ es) σ H Q → tN X.K XR W Φ es σ H Q
  | .nil, σ, H, Q, h => by
    obtain ⟨w, L, QQ, XX, rfl, R, hf, hx, hq⟩ := h
    unfold wB at hf
    exact hq [] [] w L R (Step.refl _) ⟨_, Loose.none _ _, .nil⟩ hf
  | .cons e es, σ, H, Q, h => by
    obtain ⟨w, L, QQ, XX, rfl, R, hf, hx, hq⟩ := h
    unfold wB at hf
    refine ⟨w, L, _, XX, rfl, R, hf, hx, fun v h1 w1 L1 R1 s1 q1 ⟨st, hb⟩ => wB_nest ?_⟩
    refine ⟨w1, L1, _, XX, rfl, R1, hb, hx.on s1, fun vs hs w2 L2 R2 s2 ⟨ot, lo, hl⟩ hQ => ?_⟩
    exact hq (v :: vs) (h1 :: hs) w2 L2 R2 (s1.trans s2) (HRs.cons q1 st s1 s2 lo hl) hQ
theorem wA_nest : ∀ {es : Es} {σ : Sl} {H : Hp} {Q : List V → Hp → Prop}, tA X.K XR W (wA Φ es) σ H Q → tN X.K XR W Φ es σ H Q
  | .nil, σ, H, Q, h => by
    obtain ⟨w, L, QQ, XX, rfl, R, hf, hx, hq⟩ := h
    unfold wA at hf
    exact hq [] [] w L R (Step.refl _) (.inr ⟨_, Loose.none _ _, .nil⟩) hf
  | .cons e .nil, σ, H, Q, h => by
    obtain ⟨w, L, QQ, XX, rfl, R, hf, hx, hq⟩ := h
    unfold wA at hf
    refine ⟨w, L, _, XX, rfl, R, hf, hx, fun v h1 w1 L1 R1 s1 q1 ⟨_, hb⟩ => ?_⟩
    unfold wB at hb
    exact hq [v] [h1] w1 L1 R1 s1 (.inl ⟨h1, v, rfl, rfl, q1⟩) hb
  | .cons e (.cons e' es), σ, H, Q, h => by
    obtain ⟨w, L, QQ, XX, rfl, R, hf, hx, hq⟩ := h
    unfold wA at hf
    refine ⟨w, L, _, XX, rfl, R, hf, hx, fun v h1 w1 L1 R1 s1 q1 ⟨st, hb⟩ => wB_nest ?_⟩
    have st : h1.stable = true := st.elim id fun z => absurd z (by simp [Es.len])
    refine ⟨w1, L1, _, XX, rfl, R1, hb, hx.on s1, fun vs hs w2 L2 R2 s2 ⟨ot, lo, hl⟩ hQ => ?_⟩
    exact hq (v :: vs) (h1 :: hs) w2 L2 R2 (s1.trans s2) (.inr (HRs.cons q1 st s1 s2 lo hl)) hQ

/-! ### isinstance -/
def tyN : PyData → String
  | .none => "NoneType"
  | .bool _ => "bool"
  | .int _ => "int"
  | .str _ => "str"
  | .list _ => "list"
  | .tuple _ => "tuple"
  | .dict _ => "dict"
theorem Fz.ty {K : PySem.W.Frag} {H : Hp} {x : V} {d : PyData} (h : Fz K H x d) : TyX K H x (.type (tyN d)) := by
  cases h with
  | non => exact .base .non
  | bl b => exact .base (.bl b)
  | int i => exact .base (.int i)
  | str z => exact .base (.str z)
  | lst h1 _ =>
    rcases h1 with (h1 | ⟨o, h1⟩) | ⟨its, n, h1, _, _⟩
    · exact .base (.lst h1)
    · exact .base (.frz h1)
    · exact .kList h1 rfl
  | tup h1 _ =>
    rcases h1 with (h1 | ⟨o, h1⟩) | ⟨o, its, n, h1, h2, _⟩
    · exact .base (.tup h1)
    · exact .fTuple h1
    · exact .kTuple h1 h2
  | dct h1 _ _ =>
    rcases h1 with h1 | ⟨o, h1⟩
    · exact .base (.dK h1)
    · exact .fDict h1
def tyNames : List String := ["int", "bool", "str", "list", "tuple", "dict"]
theorem kits : (["NoneType", "bool", "int", "str", "list", "tuple", "dict"].all fun t => tyNames.all fun T => decide (kitB t T = some (t == T || (t == "bool" && T == "int")))) = true := by decide +kernel
theorem isi_kit {T : String} {d : PyData} {b : Bool} (hT : T ∈ tyNames) (h : isiB T d = some b) : kitB (tyN d) T = some b := by
  have k := fun t ht => of_decide_eq_true ((List.all_eq_true.mp ((List.all_eq_true.mp kits) t ht)) T hT)
  have nn : ∀ z ∈ tyNames, z ≠ "NoneType" := by decide
  cases d with
  | none =>
    rw [show tyN .none = "NoneType" from rfl, k _ (by decide)]
    simp only [isiB] at h
    rw [← h]
    congr 1
    have := nn T hT
    rw [beq_eq_false_iff_ne.mpr (Ne.symm this), beq_eq_false_iff_ne.mpr this]
    rfl
  | bool z =>
    rw [show tyN (.bool z) = "bool" from rfl, k _ (by decide)]
    simp only [isiB] at h
    rw [← h]
    congr 1
    simp [eq_comm]
    congr 1 <;> simp [Bool.beq_eq_decide_eq, eq_comm]
  | int z =>
    rw [show tyN (.int z) = "int" from rfl, k _ (by decide)]
    simp only [isiB] at h
    rw [← h]
    congr 1
    simp [Bool.beq_eq_decide_eq, eq_comm]
  | str z =>
    rw [show tyN (.str z) = "str" from rfl, k _ (by decide)]
    simp only [isiB] at h
    rw [← h]
    congr 1
    simp [Bool.beq_eq_decide_eq, eq_comm]
  | list z =>
    rw [show tyN (.list z) = "list" from rfl, k _ (by decide)]
    simp only [isiB] at h
    rw [← h]
    congr 1
    simp [Bool.beq_eq_decide_eq, eq_comm]
  | tuple z =>
    rw [show tyN (.tuple z) = "tuple" from rfl, k _ (by decide)]
    simp only [isiB] at h
    rw [← h]
    congr 1
    simp [Bool.beq_eq_decide_eq, eq_comm]
  | dict z =>
    rw [show tyN (.dict z) = "dict" from rfl, k _ (by decide)]
    simp only [isiB] at h
    rw [← h]
    congr 1
    simp [Bool.beq_eq_decide_eq, eq_comm]
theorem se_isi {T : String} {xi xt : Str} {pi pt : Pos} (hT : T ∈ tyNames) (ha : SE X XR W Φ a ea) (hs : noStar ea = true) (hg : Gl X xi) (hm : X.mg xi = none) (hb : bootBuiltins xi = some (.builtin "isinstance")) (hn : xi ≠ "__name__") (hd : (xi == ("__debug__" : Str)) = false)
    (hg' : Gl X xt) (hm' : X.mg xt = none) (hb' : bootBuiltins xt = some (.type T)) (hn' : xt ≠ "__name__") (hd' : (xt == ("__debug__" : Str)) = false) : SE X XR W Φ (.isi a T) (.Call (.Name xi pi) [ea, .Name xt pt] [] pos) := by
  refine (pe_callB call_isi hg hm hb (pa_cons ha (pa_cons (pe_bltn (v := .ty T) hg' hm' hb' rfl hn' hd') pa_nil (star1 rfl)) (star1 hs)) hn hd (star1 hs) (plain_args (by simp [noStar]))).imp fun σ H Q h => ?_
  obtain ⟨w, L, QQ, XX, rfl, R, hf, hx, hq⟩ := h
  unfold wE at hf
  refine ⟨w, L, _, XX, rfl, R, hf, hx, fun v h1 w1 L1 R1 s1 q1 ⟨vw, r, ev, eb, hQ⟩ => ?_⟩
  exact ⟨v, .ty T, .type (tyN vw.dat), .type T, r, rfl, .ty T, ((q1.vr R1 ev).now R1.ok).ty, kit_ty (isi_kit hT eb), hq _ _ w1 L1 R1 s1 (.fz (.bl r)) hQ⟩

/-! ### == [] and != [] -/
theorem VR.more {K : PySem.W.Frag} {w w' : Wd} {v : Vw} {x : V} (h : VR K w v x) (hg : Same w.G w'.G) (hh : Same w.H w'.H) : VR K w' v x := by
  cases h with
  | d f => exact .d (f.mono hg)
  | l h1 h2 => exact .l (hh _ _ h1) (h2.mono hg)
  | o f => exact .o (f.mono hh)
theorem nen_imp {ne : Bool} {σ : Sl} {H : Hp} {Q : VK} (h : tE X.K XR W (wE Φ (.nen o ne)) σ H Q) :
    tOp (fun x y H Q => ∃ w v u R, w.H = H ∧ w.Ok ∧ VR X.K w v x ∧ VR X.K w u y ∧ cop (if ne then .NotEq else .Eq) v u R ∧ ∀ b, R b → Q (.bl b) H) (tE X.K XR W (wE Φ o)) (fun σ H Q => ∀ p, H p = none → Q (.ref p) (upd H p (.lst []))) σ H Q := by
  obtain ⟨w, L, QQ, XX, rfl, R, hf, hx, hq⟩ := h
  unfold wE at hf
  refine ⟨w, L, _, XX, rfl, R, hf, hx, fun x h1 w1 L1 R1 s1 q1 ⟨v, ds, ev, hsh, hQ⟩ p hp => ?_⟩
  have gw := Gw.newH (o := .lst []) R1.ok hp
  obtain ⟨R2, s2⟩ := gw.rel R1
  refine ⟨⟨w1.G, w1.ow, upd w1.H p (.lst [])⟩, v, .l [], fun b => b = (ds.isEmpty != ne), rfl, R2.ok, (q1.vr R1 ev).more gw.g gw.h, .l upd_same .nil, ?_, fun b hb => ?_⟩
  · cases ne with
    | true => exact .inr (.inr ⟨ds, hsh, rfl, by simp⟩)
    | false => exact .inr (.inr ⟨ds, hsh, rfl, by simp⟩)
  · subst hb
    exact hq _ _ _ L1 R2 (s1.trans s2) (.fz (.bl _)) hQ
theorem pe_nilL : PE X (.List [] p) (fun σ H Q => ∀ p, H p = none → Q (.ref p) (upd H p (.lst []))) := (pe_lst pa_nil).imp fun σ H Q h => ⟨Nat.zero_le _, h⟩
theorem se_nen (S : Place X) {ne : Bool} (ho : SE X XR W Φ o eo) : SE X XR W Φ (.nen o ne) (.Compare eo [if ne then .NotEq else .Eq] [.List [] p] pos) :=
  (pe_cmpR (cop_ok S _) ho pe_nilL (by cases ne <;> rfl)).imp fun σ H Q h => nen_imp h
theorem st_nen (S : Place X) {ne : Bool} (ho : SE X XR W Φ o eo) : ST X XR W Φ (.nen o ne) (.Compare eo [if ne then .NotEq else .Eq] [.List [] p] pos) :=
  (pt_cmpR (cop_ok S _) ho pe_nilL (by cases ne <;> rfl)).imp fun σ H Q h => nen_imp (test_imp h)

/-! ### xs[::-1] -/
theorem se_rev {k : Nat} {p1 p2 p3 : Pos} (ha : SE X XR W Φ a ea) : SE X XR W Φ (.rev a) (.Subscript ea (.Slice none none (some (.UnaryOp .USub (.Constant (.int 1) k p1) p2)) p3) pos) := by
  refine (pe_revA ha).imp fun σ H Q h => ?_
  obtain ⟨w, L, QQ, XX, rfl, R, hf, hx, hq⟩ := h
  unfold wE at hf
  refine ⟨w, L, _, XX, rfl, R, hf, hx, fun v h1 w1 L1 R1 s1 q1 ⟨vw, ds, ev, hQ⟩ => ?_⟩
  rcases hQ with ⟨ed, hQ⟩ | ⟨ed, hQ⟩
  · obtain ⟨pa, xs, rfl, hl, f⟩ := (q1.vr R1 ev).asL R1.ok ed
    refine ⟨pa, xs, rfl, .inl ⟨hl.sq, fun q hq' => ?_⟩⟩
    have gw := Gw.newH (o := .lst xs.reverse) R1.ok hq'
    obtain ⟨R3, s3⟩ := gw.rel R1
    exact hq _ _ _ L1 R3 (s1.trans s3) ((RR.lst R1.ok hq' f.reverse).hrep R1.ok gw s1) hQ
  · obtain ⟨pa, xs, rfl, hl, _, f⟩ := (q1.vr R1 ev).asT R1.ok ed
    refine ⟨pa, xs, rfl, .inr ⟨hl, fun q hq' => ?_⟩⟩
    obtain ⟨w3, e3, R3, s3, q3⟩ := Gw.hrep_tup (w := w1) R1 s1 hq' f.reverse
    rw [← e3]
    exact hq _ _ w3 L1 R3 s3 q3 hQ

/-! ### dicts -/
def trsOf (K : PySem.W.Frag) (XR : XRel) (W : WX) (Φ : Fns) : List Str → Es → List (TE × TE)
  | k :: ks, .cons e es => (tC (.str k), tE K XR W (wE Φ e)) :: trsOf K XR W Φ ks es
  | _, _ => []
theorem pairs_nest : ∀ {ks : List Str} {es : Es} {σ : Sl} {H : Hp} {Q : List (V × V) → Hp → Prop}, ks.length = es.len → tN X.K XR W Φ es σ H (fun vs H' => Q ((ks.map V.str).zip vs) H') → tPairs (trsOf X.K XR W Φ ks es) σ H Q
  | [], .nil, σ, H, Q, _, h => h
  | k :: ks, .cons e es, σ, H, Q, hl, h => by
    obtain ⟨w, L, QQ, XX, rfl, R, hf, hx, hq⟩ := h
    refine ⟨w, L, QQ, XX, rfl, R, hf, hx, fun v h1 w1 L1 R1 s1 q1 hQ => ?_⟩
    have := hq v h1 w1 L1 R1 s1 q1 hQ
    exact pairs_nest (by simpa [Es.len] using hl) this
  | [], .cons e es, _, _, _, hl, _ => by simp [Es.len] at hl
  | _ :: _, .nil, _, _, _, hl, _ => by simp [Es.len] at hl
theorem putK_new {kvs : List (Key × V)} {k : Key} {v : V} (h : k ∉ kvs.map Prod.fst) : putK kvs k v = kvs ++ [(k, v)] := by
  unfold putK
  rw [if_neg]
  intro z
  obtain ⟨q, hq, e⟩ := List.any_eq_true.mp z
  have e := of_decide_eq_true e
  exact h (List.mem_map.mpr ⟨q, hq, e⟩)
theorem mergeK_nd : ∀ {more kvs : List (Key × V)}, ((kvs ++ more).map Prod.fst).Nodup → mergeK kvs more = kvs ++ more
  | [], kvs, _ => by simp [mergeK]
  | q :: more, kvs, h => by
    show mergeK (putK kvs q.1 q.2) more = _
    rw [putK_new fun z => ?_, mergeK_nd (by simpa using h)]
    · simp
    · rw [List.map_append, List.map_cons] at h
      have := (List.nodup_append.mp h).2.2 _ z _ List.mem_cons_self
      exact this rfl
theorem zip_kv : ∀ (ks : List Str) (vs : List V), (ks.map V.str).zip vs = (((ks.map Sum.inr : List Key)).zip vs).map fun kv => (kV kv.1, kv.2)
  | [], _ => rfl
  | k :: ks, [] => rfl
  | k :: ks, v :: vs => by
    show (V.str k, v) :: (ks.map V.str).zip vs = _
    rw [zip_kv ks vs]
    rfl
theorem se_dct {ks : List Str} {keys : List (Option Expr)} {values : List Expr} (hp : PPs X pos keys values (trsOf X.K XR W Φ ks es)) (hk : ks.length = es.len) (hall : keys.all (·.isSome) = true) (hl : keys.length = values.length) (h0 : keys ≠ []) (h15 : keys.length ≤ 15) :
    SE X XR W Φ (.dct ks es) (.Dict keys values pos) := by
  refine (pe_disp hp hall hl h0 h15).imp fun σ H Q h => ?_
  obtain ⟨w, L, QQ, XX, rfl, R, hf, hx, hq⟩ := h
  unfold wE at hf
  intro p hp
  have gw := Gw.newH (o := .dK []) R.ok hp
  obtain ⟨R0, s0⟩ := gw.rel R
  refine pairs_nest hk (wA_nest ⟨⟨w.G, w.ow, upd w.H p (.dK [])⟩, L, _, XX, rfl, R0, hf, hx.on s0, fun vs hs w1 L1 R1 s1 q1 ⟨xs, L2, e, hlen, h15', nd, hQ⟩ => ?_⟩)
  obtain ⟨G', ow', ot, R2, s2, lo, f⟩ := q1.kids R1 s1 e
  have wp : w.ow p = none := by
    cases z : w.ow p with
    | none => rfl
    | some l =>
      obtain ⟨_, o, h⟩ := R.ok.mine p l z
      rw [hp] at h; cases h
  obtain ⟨k1, k2, k3⟩ := s2.keep p (.dK []) upd_same wp
  have np : ot p = none := lo.new p (.dK []) upd_same wp
  have gp : G' p = none := k3.trans (R.ok.same.free hp)
  have ndk : ((ks.map Sum.inr : List Key)).Nodup := nd.map _ fun a b h1 h2 => h1 (Sum.inr.inj h2)
  have lv : (ks.map Sum.inr : List Key).length = vs.length := by rw [List.length_map, ← f.length, hlen]
  refine ⟨k1, (ks.map Sum.inr).zip vs, zip_kv ks vs, by rw [List.length_zip, ← lv, List.length_map, Nat.min_self]; omega, ?_⟩
  rw [mergeK_nd (by rw [List.nil_append, map_fst_zip' _ _ lv]; exact ndk), List.nil_append]
  refine hq _ (.tm (.mdc (ks.map .inr) xs)) ⟨G', ow', upd w1.H p (.dK ((ks.map Sum.inr).zip vs))⟩ L2 (R2.poke (D := p) gp k2) ⟨(s0.trans s2).same, fun q o ho hn => ?_⟩
    (.tm (ot := fun q => if q = p then some [] else match ot q with | some (j :: l) => some (j :: l) | _ => none) ⟨fun q l e => ?_, fun q o' e n => ?_, fun q q' l e e' => ?_⟩ (.mdc (if_pos rfl) upd_same lv (f.lift (Same.refl _) fun q j r o' h1 h2 => ?_))) hQ
  · obtain ⟨m1, m2, m3⟩ := (s0.trans s2).keep q o ho hn
    exact ⟨by show upd w1.H p _ q = some o; rw [upd_ne (ne_of_none ho hp)]; exact m1, m2, m3⟩
  · by_cases z : q = p
    · subst z
      exact ⟨k2, gp, _, upd_same⟩
    · have e : (if q = p then some [] else match ot q with | some (j :: l) => some (j :: l) | _ => none) = some l := e
      rw [if_neg z] at e
      obtain ⟨l', e⟩ : ∃ l', ot q = some l' := by
        cases z : ot q with
        | none => rw [z] at e; cases e
        | some l' => exact ⟨l', rfl⟩
      obtain ⟨h1, h2, o', h3⟩ := lo.apart q l' e
      exact ⟨h1, h2, o', by show upd w1.H p _ q = some o'; rw [upd_ne z]; exact h3⟩
  · show (if q = p then some [] else match ot q with | some (j :: l) => some (j :: l) | _ => none) = none
    rw [if_neg (ne_of_none e hp), (lo.back s0).new q o' e n]
  · have e : (if q = p then some [] else match ot q with | some (j :: l) => some (j :: l) | _ => none) = some l := e
    have e' : (if q' = p then some [] else match ot q' with | some (j :: l) => some (j :: l) | _ => none) = some l := e'
    have sub : ∀ {q l}, (match ot q with | some (j :: l) => some (j :: l) | _ => none : Option Lb) = some l → ot q = some l ∧ l ≠ [] := fun {q l} e => by
      cases z : ot q with
      | none => rw [z] at e; cases e
      | some l' =>
        rw [z] at e
        cases l' with
        | nil => cases e
        | cons j l' => cases e; exact ⟨rfl, by simp⟩
    split at e
    · split at e'
      · rename_i h1 h2; rw [h1, h2]
      · cases e; exact absurd rfl (sub e').2
    · split at e'
      · cases e'; exact absurd rfl (sub e).2
      · exact lo.inj q q' l (sub e).1 (sub e').1
  · have z : q ≠ p := fun z => by rw [z, np] at h1; cases h1
    refine ⟨(upd_ne z).trans h2, ?_⟩
    rw [if_neg z, h1]; rfl
theorem se_dct0 : SE X XR W Φ (.dct [] .nil) (.Dict [] [] pos) := by
  refine pe_dnewK.imp fun σ H Q h => ?_
  obtain ⟨w, L, QQ, XX, rfl, R, hf, hx, hq⟩ := h
  unfold wE wA at hf
  obtain ⟨xs, L2, e, hlen, _, _, hQ⟩ := hf
  cases e
  intro p hp
  obtain ⟨R3, s3, q3⟩ := mls_new (a := w) (G' := w.G) (ow' := w.ow) (o := .dK []) (x := .mdc [] []) (vs := []) R (Step.refl _) (Loose.none w w) .nil hp fun H oo h1 h2 t => .mdc (ks := []) (vs := []) h1 h2 rfl t
  exact hq _ _ _ L R3 s3 q3 hQ
/-! ### sorted(set(x)) -/
theorem se_sset {p1 p2 p3 : Pos} (S : Place X) (ha : SE X XR W Φ a ea) (hs : noStar ea = true) (g1 : Gl X "sorted") (m1 : X.mg "sorted" = none) (g2 : Gl X "set") (m2 : X.mg "set" = none) :
    SE X XR W Φ (.sset a) (.Call (.Name "sorted" p1) [.Call (.Name "set" p2) [ea] [] p3] [] pos) := by
  refine (pe_callB (cr_sortedSet S.calm) g1 m1 rfl (pa_cons (pe_callTy (cr_setI S.calm) g2 m2 rfl (arg1 ha hs) (by decide) (by decide) (star1 hs) rfl) pa_nil)).imp fun σ H Q h => ?_
  obtain ⟨w, L, QQ, XX, rfl, R, hf, hx, hq⟩ := h
  unfold wE at hf
  refine ⟨w, L, _, XX, rfl, R, hf, hx, fun v h1 w1 L1 R1 s1 q1 ⟨vw, ns, ev, ed, hn, ⟨u, hu, hu2⟩, hQ⟩ => ?_⟩
  obtain ⟨pa, xs, rfl, hl, f⟩ := (q1.vr R1 ev).seq R1.ok ed
  have ew := f.ints
  subst ew
  refine ⟨pa, ns, rfl, ?_, hn, fun p2 c hp2 hc => ?_⟩
  · rcases hl with hl | ⟨hl, _, _⟩
    · exact .inl hl.sq
    · exact .inr hl
  have gw2 := Gw.newH (o := SetO X.w p2 (fun j => decide (j ∈ ns)) c) R1.ok hp2
  obtain ⟨R2, s2⟩ := gw2.rel R1
  refine ⟨p2, _, c, rfl, if_pos rfl, by have := hc u hu2; omega, fun ms p3 k1 k2 k3 hp3 => ?_⟩
  have gw3 := Gw.newH (o := .lst (ms.map V.int)) R2.ok hp3
  obtain ⟨R3, s3⟩ := gw3.rel R2
  exact hq _ _ _ L1 R3 (s1.trans (s2.trans s3)) ((RR.lst R2.ok hp3 (FzL.of_ints ms)).hrep R2.ok gw3 (s1.trans s2)) (hQ ms k1 fun k => by rw [k2 k, decide_eq_true_eq])

/-! ### d.get(k, x) -/
theorem isD_ty {K : PySem.W.Frag} {a' w : Wd} {L : Lc} {σ : Sl} {h : Hd} {v : V} (R : Rel K w L σ) (q : HRep K a' w L σ h v) (il : h.isD L) : ∃ p, v = .ref p ∧ IsD w.H p := by
  cases h with
  | fz d => exact il.elim
  | tm x => exact il.elim
  | pl i r =>
    simp only [Hd.isD] at il
    split at il
    · rename_i ks xs e
      cases q.own R e with
      | mdc h1 h2 h3 t => exact ⟨_, rfl, .inl ⟨_, .inl h2⟩⟩
    · exact il.elim
theorem valV_out {ks : List Key} {vs : List V} {z : Key} (h : z ∉ ks) : valV (ks.zip vs) z = none := by
  unfold valV
  rw [List.find?_eq_none.mpr fun kv hk => ?_]
  · rfl
  · have := (List.of_mem_zip hk).1
    simp only [decide_eq_true_eq]
    intro e
    exact h (e ▸ this)
theorem se_dget {apos : Pos} {k d : E} {ek ed : Expr} (S : Place X) (ho : SE X XR W Φ o eo) (hk : SE X XR W Φ k ek) (hd : SE X XR W Φ d ed) (hb : plainO eo = true) (h1 : noStar ek = true) (h2 : noStar ed = true) (hl : (apos.endLine == pos.line) = true) :
    SE X XR W Φ (.dget o k d) (.Call (.Attribute eo "get" apos) [ek, ed] [] pos) := by
  have tr : starEach [ek, ed] X.env = [(false, eval ek X.env), (false, eval ed X.env)] := by rw [star1 h1, star1 h2]; rfl
  refine (pe_dget2 (by have := S.units; omega) ho hk hd ⟨base_of hb, by rw [tr]; rfl, hl, by rw [tr]; rfl⟩).imp fun σ H Q h => ?_
  obtain ⟨w, L, QQ, XX, rfl, R, hf, hx, hq⟩ := h
  unfold wE at hf
  refine ⟨w, L, _, XX, rfl, R, hf, hx, fun v h1 w1 L1 R1 s1 q1 ⟨st, il, hb⟩ => ?_⟩
  obtain ⟨p, rfl, isd⟩ := isD_ty R1 q1 il
  refine ⟨p, rfl, isd, w1, L1, _, XX, rfl, R1, hb, hx.on s1, fun y g w2 L2 R2 s2 q2 ⟨kd, eg, hb⟩ => ?_⟩
  subst eg
  refine ⟨w2, L2, _, XX, rfl, R2, hb, (hx.on s1).on s2, fun u f w3 L3 R3 s3 q3 ⟨i, r, ks, xs, z, dd, e, e3, hz, nd, ef, hQ⟩ => ?_⟩
  cases e
  subst ef
  have q4 : HRep X.K w w3 L3 σ (.pl i r) (.ref p) := q1.on st (s2.trans s3)
  have ey := keyOf_V hz ((fzv q2).mono s3.same)
  subst ey
  cases q4.own R3 e3 with
  | mdc o1 o2 o3 t =>
    rcases hQ with ⟨j, x, hj, hx2, hQ⟩ | ⟨hn, hQ⟩
    · obtain ⟨v, e1, e2⟩ := t.get hx2
      refine ⟨_, DGet.k o2, ?_⟩
      rw [valV_zip nd hj e1]
      cases e2 with
      | fz fv => exact hq v _ w3 L3 R3 ((s1.trans s2).trans s3) (.fz fv) hQ
    · refine ⟨_, DGet.k o2, ?_⟩
      rw [valV_out hn]
      exact hq u _ w3 L3 R3 ((s1.trans s2).trans s3) (.fz (fzv q3)) hQ
end
end Tk

set_option Elab.async false
set_option linter.all false
set_option maxRecDepth 100000
namespace Tk
open PySem PySem.Spec PyProof.Rows L2
section
variable {K : PySem.W.Frag} {a b w : Wd} {L : Lc} {σ : Sl}
open Classical in
/-- a slot takes what lies about -/
theorem Rel.store {i : Nat} {x : PV} {v : V} {ot : Ow} (R : Rel K w L σ) (s : Step a w) (lo : Loose a w ot) (h : Own K w.G w.H ot [] x v) (hi : i < L.length) :
    ∃ ow', Rel K ⟨w.G, ow', w.H⟩ (L.set i (some x)) (σ.set i (some v)) ∧ Step a ⟨w.G, ow', w.H⟩ ∧ ∀ q, ot q = none → w.ow q = none → ow' q = none := by
  refine ⟨fun q => match ot q with | some l => some (i :: l) | none => if (∃ t, w.ow q = some (i :: t)) then none else w.ow q, ⟨⟨R.ok.same, fun q l e => ?_, fun q q' l e e' => ?_⟩, by rw [List.length_set, List.length_set]; exact R.len, fun j y e => ?_⟩, ⟨s.same, fun q o ho hn => ?_⟩, fun q h1 h2 => ?_⟩
  · have e : (match ot q with | some l => some (i :: l) | none => if (∃ t, w.ow q = some (i :: t)) then none else w.ow q) = some l := e
    cases z : ot q with
    | some l' => exact (lo.apart q l' z).2
    | none =>
      rw [z] at e
      simp only at e
      split at e
      · cases e
      · exact R.ok.mine q l e
  · have e : (match ot q with | some l => some (i :: l) | none => if (∃ t, w.ow q = some (i :: t)) then none else w.ow q) = some l := e
    have e' : (match ot q' with | some l => some (i :: l) | none => if (∃ t, w.ow q' = some (i :: t)) then none else w.ow q') = some l := e'
    cases z : ot q with
    | some l1 =>
      rw [z] at e
      cases z' : ot q' with
      | some l2 =>
        rw [z'] at e'
        have e1 := Option.some.inj (e.trans e'.symm)
        injection e1 with _ e2
        subst e2
        exact lo.inj _ _ _ z z'
      | none =>
        rw [z'] at e'
        simp only at e'
        split at e'
        · cases e'
        · rename_i nz
          exact absurd ⟨l1, e'.trans e.symm⟩ nz
    | none =>
      rw [z] at e
      simp only at e
      split at e
      · cases e
      · rename_i nz
        cases z' : ot q' with
        | some l2 =>
          rw [z'] at e'
          exact absurd ⟨l2, e.trans e'.symm⟩ nz
        | none =>
          rw [z'] at e'
          simp only at e'
          split at e'
          · cases e'
          · exact R.ok.inj _ _ _ e e'
  · by_cases hj : i = j
    · subst hj
      rw [List.getElem?_set_self hi] at e
      cases e
      refine ⟨v, by rw [List.getElem?_set_self (by rw [← R.len]; exact hi)], h.carry ⟨Same.refl _, fun p r o e1 e2 => ⟨e2, ?_⟩⟩⟩
      have e1 : ot p = some r := e1
      show (match ot p with | some l => some (i :: l) | none => if (∃ t, w.ow p = some (i :: t)) then none else w.ow p) = some ([i] ++ r)
      rw [e1]; rfl
    · rw [List.getElem?_set_ne hj] at e
      obtain ⟨u, h1, h2⟩ := R.own j y e
      refine ⟨u, by rw [List.getElem?_set_ne hj]; exact h1, h2.carry ⟨Same.refl _, fun p r o e1 e2 => ⟨e2, ?_⟩⟩⟩
      have op : ot p = none := by
        cases z : ot p with
        | none => rfl
        | some l => rw [(lo.apart p l z).1] at e1; cases e1
      show (match ot p with | some l => some (i :: l) | none => if (∃ t, w.ow p = some (i :: t)) then none else w.ow p) = some ([j] ++ r)
      rw [op]
      simp only
      rw [if_neg fun ⟨t, z⟩ => by
        rw [e1] at z
        have := Option.some.inj z
        injection this with z1 _
        exact hj z1.symm]
      exact e1
  · obtain ⟨k1, k2, k3⟩ := s.keep q o ho hn
    refine ⟨k1, ?_, k3⟩
    show (match ot q with | some l => some (i :: l) | none => if (∃ t, w.ow q = some (i :: t)) then none else w.ow q) = none
    rw [lo.new q o ho hn]
    simp only
    split
    · rfl
    · exact k2
  · show (match ot q with | some l => some (i :: l) | none => if (∃ t, w.ow q = some (i :: t)) then none else w.ow q) = none
    rw [h1]
    simp only
    split
    · rfl
    · exact h2
end

/-! ### statements -/
def XS (K : PySem.W.Frag) (XR : XRel) (W : WX) (F : Sl) (w : Wd) (XX : QX) : Prop := ∀ σ' : Sl, σ'.take F.length = F → XW K XR W w σ' XX
theorem XS.on {K : PySem.W.Frag} {XR : XRel} {W : WX} {F : Sl} {a b : Wd} {XX : QX} (x : XS K XR W F a XX) (s : Step a b) : XS K XR W F b XX := fun σ h => (x σ h).on s
structure EndS (K : PySem.W.Frag) (F : Sl) (w : Wd) (P : Pt) (D : Ends) : Prop where
  nx : ∀ (σ' : Sl) (w' : Wd) (L' : Lc), Rel K w' L' σ' → Step w w' → σ'.take F.length = F → P.nx L' → D.nx σ' w'.H
  bk : ∀ (σ' : Sl) (w' : Wd) (L' : Lc), Rel K w' L' σ' → Step w w' → σ'.take F.length = F → P.bk L' → D.bk σ' w'.H
  ct : ∀ (σ' : Sl) (w' : Wd) (L' : Lc), Rel K w' L' σ' → Step w w' → σ'.take F.length = F → P.ct L' → D.ct σ' w'.H
  rt : ∀ (v : V) (r : PV) (σ' : Sl) (w' : Wd) (L' : Lc) (ot : Ow), Rel K w' L' σ' → Step w w' → σ'.take F.length = F → Loose w w' ot → Own K w'.G w'.H ot [] r v → P.rt r L' → D.rt v w'.H
theorem EndS.on {K : PySem.W.Frag} {F : Sl} {a b : Wd} {P : Pt} {D : Ends} (e : EndS K F a P D) (s : Step a b) : EndS K F b P D :=
  ⟨fun σ w L r t f h => e.nx σ w L r (s.trans t) f h, fun σ w L r t f h => e.bk σ w L r (s.trans t) f h, fun σ w L r t f h => e.ct σ w L r (s.trans t) f h,
    fun v r σ w L ot R t f lo o h => e.rt v r σ w L ot R (s.trans t) f (lo.back s) o h⟩
def tS (K : PySem.W.Frag) (XR : XRel) (W : WX) (F : Sl) (f : Lc → Pt → Prop) : TS := fun D σ H => ∃ w L P, w.H = H ∧ Rel K w L σ ∧ σ.take F.length = F ∧ f L P ∧ XS K XR W F w P.ex ∧ EndS K F w P D
theorem _root_.L2.PS.imp {X : Cx} {st : Stmt} {t t' : TS} (h : PS X st t) (i : ∀ D σ H, t' D σ H → t D σ H) : PS X st t' := ⟨fun pins s σ H D I q => h.run pins s σ H D I (i D σ H q)⟩
theorem _root_.L2.PSs.imp {X : Cx} {st : List Stmt} {t t' : TS} (h : PSs X st t) (i : ∀ D σ H, t' D σ H → t D σ H) : PSs X st t' := ⟨fun pins s σ H D I q => h.run pins s σ H D I (i D σ H q)⟩
abbrev SS (X : Cx) (XR : XRel) (W : WX) (Φ : Fns) (F : Sl) (s : S) (st : Stmt) : Prop := PS X st (tS X.K XR W F (wS Φ s))
abbrev SSs (X : Cx) (XR : XRel) (W : WX) (Φ : Fns) (F : Sl) (s : Ss) (st : List Stmt) : Prop := PSs X st (tS X.K XR W F (wSs Φ s))
theorem take_set {F σ : Sl} {i : Nat} {o : Option V} (h : σ.take F.length = F) (hi : F.length ≤ i) : (σ.set i o).take F.length = F := by
  rw [List.take_set_of_le hi]
  exact h
section
variable {X : Cx} {XR : XRel} {W : WX} {Φ : Fns} {F : Sl}
variable {a b c o : E} {es : Es} {eo ei ea eb ec : Expr} {pos apos p : Pos} {exs : List Expr} {s : S} {ss : Ss} {st : Stmt} {sts : List Stmt}
theorem ss_pass : SS X XR W Φ F .pass (.Pass pos) := ps_pass.imp fun D σ H h => by
  obtain ⟨w, L, P, rfl, R, hF, hf, hx, en⟩ := h
  exact en.nx σ w L R (Step.refl _) hF hf
theorem ss_brk : SS X XR W Φ F .brk (.Break pos) := ps_break.imp fun D σ H h => by
  obtain ⟨w, L, P, rfl, R, hF, hf, hx, en⟩ := h
  exact en.bk σ w L R (Step.refl _) hF hf
theorem ss_cont : SS X XR W Φ F .cont (.Continue pos) := ps_continue.imp fun D σ H h => by
  obtain ⟨w, L, P, rfl, R, hF, hf, hx, en⟩ := h
  exact en.ct σ w L R (Step.refl _) hF hf
theorem ss_doc {x : Str} {j : Nat} {pos' : Pos} : SS X XR W Φ F .doc (.Expr (.Constant (.str x) j pos) pos') := ps_doc.imp fun D σ H h => by
  obtain ⟨w, L, P, rfl, R, hF, hf, hx, en⟩ := h
  exact en.nx σ w L R (Step.refl _) hF hf
/-- not a comprehension -/
def noComp : Expr → Bool
  | .ListComp .. => false
  | .SetComp .. => false
  | .DictComp .. => false
  | _ => true
theorem swap_no {e : Expr} {t : Option Expr} {l : Nat} {env : Env} (h : noComp e = true) : swapsWith e t l env = pure false := by
  cases e <;> first | rfl | (simp [noComp] at h)
theorem ss_exp (ha : SE X XR W Φ a ea) (hn : noComp ea = true) : SS X XR W Φ F (.exp a) (.Expr ea pos) := by
  refine (ps_expr ha (swap_no hn)).imp fun D σ H h => ?_
  obtain ⟨w, L, P, rfl, R, hF, hf, hx, en⟩ := h
  unfold wS at hf
  exact ⟨w, L, _, P.ex, rfl, R, hf, hx σ hF, fun v h1 w1 L1 R1 s1 q1 hQ => en.nx σ w1 L1 R1 s1 hF hQ⟩
theorem ss_ret (ha : SE X XR W Φ a ea) : SS X XR W Φ F (.ret a) (.Return (some ea) pos) := by
  refine (ps_ret ha).imp fun D σ H h => ?_
  obtain ⟨w, L, P, rfl, R, hF, hf, hx, en⟩ := h
  unfold wS at hf
  refine ⟨w, L, _, P.ex, rfl, R, hf, hx σ hF, fun v h1 w1 L1 R1 s1 q1 ⟨x, L2, ek, hQ⟩ => ?_⟩
  obtain ⟨G', ow', ot, R2, s2, lo, f, sg⟩ := q1.kid R1 s1 ek
  exact en.rt v x σ ⟨G', ow', w1.H⟩ L2 ot R2 s2 hF lo f hQ
theorem ss_retN : SS X XR W Φ F .retN (.Return none pos) := ps_retN.imp fun D σ H h => by
  obtain ⟨w, L, P, rfl, R, hF, hf, hx, en⟩ := h
  unfold wS at hf
  exact en.rt .non (.fz .none) σ w L _ R (Step.refl _) hF (Loose.none _ _) (.fz .non) hf
theorem ss_nil : SSs X XR W Φ F .nil [] := pss_nil.imp fun D σ H h => by
  obtain ⟨w, L, P, rfl, R, hF, hf, hx, en⟩ := h
  unfold wSs at hf
  exact en.nx σ w L R (Step.refl _) hF hf
theorem ss_cons (h1 : SS X XR W Φ F s st) (h2 : SSs X XR W Φ F ss sts) : SSs X XR W Φ F (.cons s ss) (st :: sts) := by
  refine (pss_cons h1 h2).imp fun D σ H h => ?_
  obtain ⟨w, L, P, rfl, R, hF, hf, hx, en⟩ := h
  unfold wSs at hf
  exact ⟨w, L, _, rfl, R, hF, hf, hx, ⟨fun σ' w' L' R' s' hF' hQ => ⟨w', L', P, rfl, R', hF', hQ, hx.on s', en.on s'⟩, en.bk, en.ct, en.rt⟩⟩
theorem ss_if {sa sb : Ss} {ta tb : List Stmt} (hc : ST X XR W Φ c ec) (h1 : SSs X XR W Φ F sa ta) (h2 : SSs X XR W Φ F sb tb) : SS X XR W Φ F (.ite c sa sb) (.If ec ta tb pos) := by
  refine (ps_if hc h1 h2).imp fun D σ H h => ?_
  obtain ⟨w, L, P, rfl, R, hF, hf, hx, en⟩ := h
  unfold wS at hf
  refine ⟨w, L, fun k L1 => (k = true → wSs Φ sa L1 P) ∧ (k = false → wSs Φ sb L1 P), P.ex, rfl, R, ?_, hx σ hF, fun k w1 L1 R1 s1 ⟨k1, k2⟩ => ?_⟩
  · unfold asT
    exact hf
  · cases k with
    | true => exact iteT ⟨w1, L1, P, rfl, R1, hF, k1 rfl, hx.on s1, en.on s1⟩
    | false => exact iteF ⟨w1, L1, P, rfl, R1, hF, k2 rfl, hx.on s1, en.on s1⟩
theorem ss_whl {sb : Ss} {tb : List Stmt} (hp : PassesOwn (model X.prog X.w) X.A X.env X.xe) (hc : ST X XR W Φ c ec) (hb : SSs X XR W Φ F sb tb) : SS X XR W Φ F (.whl c sb) (.While ec tb [] pos) := by
  refine (ps_while hp hc hb).imp fun D σ H h => ?_
  obtain ⟨w, L, P, rfl, R, hF, hf, hx, en⟩ := h
  unfold wS at hf
  obtain ⟨I, ⟨m0, i0⟩, turn⟩ := hf
  refine ⟨fun m σ' H' => ∃ w' L', w'.H = H' ∧ Rel X.K w' L' σ' ∧ Step w w' ∧ σ'.take F.length = F ∧ I m L', ⟨m0, w, L, rfl, R, Step.refl _, hF, i0⟩, ?_⟩
  rintro m σ' H' ⟨w', L', rfl, R', s', hF', hi⟩
  refine ⟨w', L', fun k L1 => (k = true → wSs Φ sb L1 { P with nx := fun L2 => ∃ m', m' < m ∧ I m' L2, ct := fun L2 => ∃ m', m' < m ∧ I m' L2, bk := P.nx }) ∧ (k = false → P.nx L1), P.ex, rfl, R', ?_, (hx.on s') σ' hF', fun k w1 L1 R1 s1 ⟨k1, k2⟩ => ?_⟩
  · unfold asT
    exact turn m L' hi
  · cases k with
    | true =>
      refine iteT ⟨fun σ2 H2 => ∃ m', m' < m ∧ ∃ w2 L2, w2.H = H2 ∧ Rel X.K w2 L2 σ2 ∧ Step w w2 ∧ σ2.take F.length = F ∧ I m' L2, fun σ2 H2 ⟨m', hm, z⟩ => ⟨m', hm, z⟩, w1, L1, _, rfl, R1, hF', k1 rfl, hx.on (s'.trans s1), ?_⟩
      have en' := en.on (s'.trans s1)
      exact ⟨fun σ3 w3 L3 R3 s3 hF3 ⟨m', hm, hi3⟩ => ⟨m', hm, w3, L3, rfl, R3, (s'.trans s1).trans s3, hF3, hi3⟩, fun σ3 w3 L3 R3 s3 hF3 hQ => en'.nx σ3 w3 L3 R3 s3 hF3 hQ,
        fun σ3 w3 L3 R3 s3 hF3 ⟨m', hm, hi3⟩ => ⟨m', hm, w3, L3, rfl, R3, (s'.trans s1).trans s3, hF3, hi3⟩, en'.rt⟩
    | false => exact iteF (en.nx σ' w1 L1 R1 (s'.trans s1) hF' (k2 rfl))
/-- a target's slots are not those that stay -/
theorem take_vars {F σ σ' : Sl} {vs : List Nat} (hl : σ.length = σ'.length) (hv : ∀ i ∈ vs, F.length ≤ i) (hF : σ.take F.length = F) (hw : wipe σ' vs = wipe σ vs) : σ'.take F.length = F := by
  rw [← hF]
  apply List.ext_getElem?
  intro j
  have e : (σ.take F.length).length = F.length := by rw [hF]
  rw [e]
  by_cases hj : j < F.length
  · rw [List.getElem?_take_of_lt hj, List.getElem?_take_of_lt hj]
    have nj : j ∉ vs := fun z => by have := hv j z; omega
    rw [← wipe_get nj, hw, wipe_get nj]
  · rw [List.getElem?_eq_none (by rw [List.length_take]; omega), List.getElem?_eq_none (by rw [List.length_take]; omega)]
theorem ss_for {tg : Tg} {it : It} {sb : Ss} {etg eit : Expr} {tb : List Stmt} (S : Place X) (hp : PassesOwn (model X.prog X.w) X.A X.env X.xe) (hi : SI X XR W Φ it etg eit) (hg : PG X etg (gT X.K tg)) (hv : ∀ i ∈ tg.vars, F.length ≤ i) (hb : SSs X XR W Φ F sb tb)
    (hs : ∀ x, foldedSetIterable eit X.env x = pure x) : SS X XR W Φ F (.for tg it sb) (.For etg eit tb [] pos) := by
  refine (ps_for hp S.calm hi hg hb hs).imp fun D σ H h => ?_
  obtain ⟨w, L, P, rfl, R, hF, hf, hx, en⟩ := h
  unfold wS at hf
  refine ⟨w, L, _, P.ex, rfl, R, hf, hx σ hF, fun J ds w1 L1 R1 s1 ok run => ?_⟩
  revert run
  generalize hbd : (fun d L2 (P' : Pt) => ∃ L3, tg.asg d L2 = some L3 ∧ wSs Φ sb L3 P') = body
  intro run
  refine ⟨fun i m σ' H' => ∃ w' L', m = ds.length - i ∧ i ≤ ds.length ∧ w'.H = H' ∧ Rel X.K w' L' σ' ∧ Step w1 w' ∧ σ'.take F.length = F ∧ forRun body (ds.drop i) L' P, ⟨ds.length, w1, L1, by simp, Nat.zero_le _, rfl, R1, Step.refl _, hF, by simpa using run⟩, ?_⟩
  rintro i m σ' H' ⟨w', L', rfl, hi, rfl, R', s', hF', run⟩
  by_cases hlt : i < ds.length
  · rw [List.drop_eq_getElem_cons hlt] at run
    refine .inr ⟨ok.goes w' i s'.same R'.ok hlt, fun σ2 H2 => ∃ w2 L2, i + 1 ≤ ds.length ∧ w2.H = H2 ∧ Rel X.K w2 L2 σ2 ∧ Step w1 w2 ∧ σ2.take F.length = F ∧ forRun body (ds.drop (i + 1)) L2 P, fun σ2 H2 ⟨w2, L2, z⟩ => ⟨ds.length - (i + 1), by omega, w2, L2, rfl, z⟩, fun x H' y => ?_⟩
    obtain ⟨w2, d, rfl, gw, hd, f⟩ := ok.yields w' i x H' s'.same R'.ok hlt y
    rw [List.getElem?_eq_getElem hlt] at hd
    have hd := Option.some.inj hd
    rw [hd] at run
    unfold forRun at run
    rw [← hbd] at run
    obtain ⟨L3, e3, hT⟩ := run
    obtain ⟨R2, s2⟩ := gw.rel R'
    refine ⟨w2, L', d, L3, rfl, R2, f, e3, fun σ2 R3 hw => ?_⟩
    have hF2 : σ2.take F.length = F := take_vars (by rw [← R2.len, ← R3.len]; exact (asg_length e3).symm) hv hF' (hw _ fun i h => h)
    have st := s1.trans (s'.trans s2)
    have en' := en.on st
    refine ⟨w2, L3, _, rfl, R3, hF2, hT, hx.on st, ?_⟩
    exact ⟨fun σ4 w4 L4 R4 s4 hF4 hQ => ⟨w4, L4, hlt, rfl, R4, (s'.trans s2).trans s4, hF4, by rw [hbd] at hQ; exact hQ⟩, fun σ4 w4 L4 R4 s4 hF4 hQ => en'.nx σ4 w4 L4 R4 s4 hF4 hQ,
      fun σ4 w4 L4 R4 s4 hF4 hQ => ⟨w4, L4, hlt, rfl, R4, (s'.trans s2).trans s4, hF4, by rw [hbd] at hQ; exact hQ⟩, en'.rt⟩
  · have e : i = ds.length := by omega
    subst e
    rw [List.drop_length] at run
    unfold forRun at run
    exact .inl ⟨ok.stops w' s'.same R'.ok, en.nx σ' w' L' R' (s1.trans s') hF' run⟩

/-! ### assignments -/
theorem into_nx {i : Nat} {P : Pt} {D : Ends} {w w1 : Wd} {L1 : Lc} {σ : Sl} {h1 : Hd} {v : V} (R1 : Rel X.K w1 L1 σ) (s1 : Step w w1) (q1 : HRep X.K w w1 L1 σ h1 v) (hF : σ.take F.length = F) (hi : F.length ≤ i) (en : EndS X.K F w P D) (h : h1.into i L1 P.nx) : D.nx (σ.set i (some v)) w1.H := by
  obtain ⟨x, L2, ek, hlt, hQ⟩ := h
  obtain ⟨G', ow', ot, R2, s2, lo, f, sg⟩ := q1.kid R1 s1 ek
  obtain ⟨ow2, R3, s3, _⟩ := R2.store s2 lo f hlt
  exact en.nx _ ⟨G', ow2, w1.H⟩ _ R3 s3 (take_set hF hi) hQ
theorem set_imp {i : Nat} (hi : F.length ≤ i) {D : Ends} {σ : Sl} {H : Hp} (h : tS X.K XR W F (wS Φ (.set i a)) D σ H) : tAsg (tE X.K XR W (wE Φ a)) (gName i) D σ H := by
  obtain ⟨w, L, P, rfl, R, hF, hf, hx, en⟩ := h
  unfold wS at hf
  exact ⟨w, L, _, P.ex, rfl, R, hf, hx σ hF, fun v h1 w1 L1 R1 s1 q1 hQ => into_nx R1 s1 q1 hF hi en hQ⟩
theorem ss_set {i : Nat} {x : Str} (hi : F.length ≤ i) (hN : X.N.Nodup) (hx : X.N[i]? = some x) (hl : Loc X.env.scope x) (hf : X.fn x = true ∨ X.env.scope.names.lookup x = some .local) (ha : SE X XR W Φ a ea) (hs : swapsWith ea (some (.Name x p)) pos.line X.env = pure false) :
    SS X XR W Φ F (.set i a) (.Assign [.Name x p] ea pos) := (ps_set hN hx hl ha hs hf).imp fun D σ H h => set_imp hi h
theorem ss_asg {tg : Tg} {etg : Expr} (ha : SE X XR W Φ a ea) (hg : PG X etg (gT X.K tg)) (hv : ∀ i ∈ tg.vars, F.length ≤ i) (hs : swapsWithSole [etg] ea pos.line X.env = pure false) (hw : swappedStores [etg] ea X.env = pure none) (h1 : (assignEach [etg] X.env).map (·.2) = [assign etg X.env]) :
    SS X XR W Φ F (.asg tg a) (.Assign [etg] ea pos) := by
  refine (ps_asg ha hg hs hw h1).imp fun D σ H h => ?_
  obtain ⟨w, L, P, rfl, R, hF, hf, hx, en⟩ := h
  unfold wS at hf
  refine ⟨w, L, _, P.ex, rfl, R, hf, hx σ hF, fun v h1 w1 L1 R1 s1 q1 ⟨d, L2, L3, e1, e2, hQ⟩ => ?_⟩
  obtain ⟨G', ow', R2, s2, f⟩ := q1.freeze R1 s1 e1
  refine ⟨⟨G', ow', w1.H⟩, L2, d, L3, rfl, R2, f, e2, fun σ' R3 hw => ?_⟩
  exact en.nx σ' ⟨G', ow', w1.H⟩ L3 R3 s2 (take_vars (by rw [← R2.len, ← R3.len]; exact (asg_length e2).symm) hv hF (hw _ fun i h => h)) hQ
end
end Tk

set_option Elab.async false
set_option linter.all false
set_option maxRecDepth 100000
namespace Tk
open PySem PySem.Spec PyProof.Rows L2
section
variable {K : PySem.W.Frag} {a b w : Wd} {L : Lc} {σ : Sl}
theorem sub_loose {a b : Wd} {ot ot' : Ow} (lo : Loose a b ot) (h : ∀ p l, ot' p = some l → ∃ l', ot p = some l') (hi : ∀ p q l, ot' p = some l → ot' q = some l → p = q) : Loose a b ot' :=
  ⟨fun p l e => let ⟨l', e'⟩ := h p l e; lo.apart p l' e', fun p o ho hn => (by
    cases z : ot' p with
    | none => rfl
    | some l =>
      obtain ⟨l', e'⟩ := h p l z
      rw [lo.new p o ho hn] at e'
      cases e'), hi⟩
/-- several slots, one after another -/
theorem Rel.storeL {a : Wd} {σ0 : Sl} : ∀ {is : List Nat} {xs : List PV} {vs : List V} {j : Nat} {w : Wd} {L : Lc} {σ : Sl} {ot : Ow}, Rel K w L σ → Step a w → Loose a w ot → OwnL K w.G w.H ot [] j xs vs → xs.length = is.length → (∀ i ∈ is, i < L.length) →
    ∃ ow', Rel K ⟨w.G, ow', w.H⟩ (setAll L is xs) (is.zip vs |>.foldl (fun σ iv => σ.set iv.1 (some iv.2)) σ) ∧ Step a ⟨w.G, ow', w.H⟩
  | [], xs, vs, j, w, L, σ, ot, R, s, lo, h, e, hi => by
    cases h with
    | nil => exact ⟨w.ow, R, s⟩
    | cons _ _ => simp at e
  | i :: is, xs, vs, j, w, L, σ, ot, R, s, lo, h, e, hi => by
    cases h with
    | nil => simp at e
    | @cons _ _ x v xs vs h t =>
      have lo1 : Loose a w (fun p => match ot p with | some (k :: l) => if k = j then some l else none | _ => none) := by
        refine sub_loose lo (fun p l e => ?_) fun p q l e e' => ?_
        · cases z : ot p with
          | none => rw [z] at e; cases e
          | some l' => exact ⟨l', rfl⟩
        · have key : ∀ {p l}, (match ot p with | some (k :: l) => if k = j then some l else none | _ => none : Option Lb) = some l → ot p = some (j :: l) := fun {p l} e => by
            cases z : ot p with
            | none => rw [z] at e; cases e
            | some l' =>
              rw [z] at e
              cases l' with
              | nil => cases e
              | cons k l' =>
                simp only at e
                split at e
                · rename_i hk; cases e; rw [hk]
                · cases e
          exact lo.inj _ _ _ (key e) (key e')
      have h1 : Own K w.G w.H (fun p => match ot p with | some (k :: l) => if k = j then some l else none | _ => none) [] x v := h.carry ⟨Same.refl _, fun p r o e1 e2 => ⟨e2, by
        have e1 : ot p = some (j :: r) := e1
        simp [e1]⟩⟩
      obtain ⟨ow1, R1, s1, no⟩ := R.store s lo1 h1 (hi i List.mem_cons_self)
      have lo2 : Loose a ⟨w.G, ow1, w.H⟩ (fun p => match ot p with | some (k :: l) => if k = j then none else some (k :: l) | _ => none) := by
        have key : ∀ {p l}, (match ot p with | some (k :: l) => if k = j then none else some (k :: l) | _ => none : Option Lb) = some l → ot p = some l ∧ (match ot p with | some (k :: l) => if k = j then some l else none | _ => none : Option Lb) = none := fun {p l} e => by
          cases z : ot p with
          | none => rw [z] at e; cases e
          | some l' =>
            rw [z] at e
            cases l' with
            | nil => cases e
            | cons k l' =>
              simp only at e ⊢
              split at e
              · cases e
              · rename_i hk
                cases e
                exact ⟨rfl, if_neg hk⟩
        refine ⟨fun p l e => ?_, fun p o ho hn => ?_, fun p q l e e' => lo.inj _ _ _ (key e).1 (key e').1⟩
        · obtain ⟨k1, k2⟩ := key e
          obtain ⟨m1, m2, m3⟩ := lo.apart p l k1
          exact ⟨no p k2 m1, m2, m3⟩
        · show (match ot p with | some (k :: l) => if k = j then none else some (k :: l) | _ => none) = none
          rw [lo.new p o ho hn]
      have t1 : OwnL K w.G w.H (fun p => match ot p with | some (k :: l) => if k = j then none else some (k :: l) | _ => none) [] (j + 1) xs vs := t.lift2 (Same.refl _) fun p k r o hk _ e1 e2 => ⟨e2, by
        have e1 : ot p = some (k :: r) := e1
        simp only [e1]
        rw [if_neg (by omega)]; rfl⟩
      obtain ⟨ow2, R2, s2⟩ := Rel.storeL (σ0 := σ0) (w := ⟨w.G, ow1, w.H⟩) R1 s1 lo2 t1 (by simpa using e) fun k hk => by rw [List.length_set]; exact hi k (List.mem_cons_of_mem _ hk)
      exact ⟨ow2, R2, s2⟩
/-! dicts are written -/
theorem putK_at : ∀ {ks : List Key} {vs : List V} {j : Nat} {k : Key} {y : V}, ks.Nodup → ks.length = vs.length → ks[j]? = some k → putK (ks.zip vs) k y = ks.zip (vs.set j y) := by
  intro ks vs j k y nd hl hj
  have hmem : k ∈ ks := List.mem_of_getElem? hj
  unfold putK
  rw [if_pos]
  · clear hmem
    induction ks generalizing vs j with
    | nil => simp at hj
    | cons k' ks ih =>
      cases vs with
      | nil => simp at hl
      | cons v' vs =>
        cases j with
        | zero =>
          simp at hj
          subst hj
          show (if k' = k' then (k', y) else (k', v')) :: ((ks.zip vs).map fun kv => if kv.1 = k' then (kv.1, y) else kv) = (k', y) :: ks.zip vs
          rw [if_pos rfl]
          congr 1
          rw [List.map_congr_left (g := id)]
          · simp
          · intro q hq
            have := (List.of_mem_zip hq).1
            rw [if_neg fun e => (List.nodup_cons.mp nd).1 (by rw [← e]; exact this)]
            rfl
        | succ j =>
          have hj' : ks[j]? = some k := by simpa using hj
          show (if k' = k then (k', y) else (k', v')) :: ((ks.zip vs).map fun kv => if kv.1 = k then (kv.1, y) else kv) = (k', v') :: ks.zip (vs.set j y)
          rw [if_neg fun e => (List.nodup_cons.mp nd).1 (by rw [e]; exact List.mem_of_getElem? hj')]
          rw [ih (List.nodup_cons.mp nd).2 (by simpa using hl) hj']
  · obtain ⟨n, hn, e⟩ := List.getElem_of_mem hmem
    refine List.any_eq_true.mpr ⟨(k, vs[n]'(by omega)), ?_, by simp⟩
    have : (ks.zip vs)[n]'(by rw [List.length_zip]; omega) = (k, vs[n]'(by omega)) := by rw [List.getElem_zip, e]
    rw [← this]
    exact List.getElem_mem _
theorem Rel.swapD {i j : Nat} {r : List Nat} {ks : List Key} {xs : List PV} {x : PV} {z : Key} {ot : Ow} {v y : V} (R : Rel K w L σ) (s : Step a w) (lo : Loose a w ot) (e : L.at i r = some (.mdc ks xs)) (h : Own K w.G w.H w.ow (i :: r) (.mdc ks xs) v) (hx : Own K w.G w.H ot [] x y) (nd : ks.Nodup) (hj : ks[j]? = some z) :
    ∃ p vs, v = .ref p ∧ w.H p = some (.dK (ks.zip vs)) ∧ ∃ ow', Rel K ⟨w.G, ow', upd w.H p (.dK (putK (ks.zip vs) z y))⟩ (L.setAt i r (.mdc ks (xs.set j x))) σ ∧ Step a ⟨w.G, ow', upd w.H p (.dK (putK (ks.zip vs) z y))⟩ := by
  cases h with
  | mdc h1 h2 h3 t =>
    refine ⟨_, _, rfl, h2, ?_⟩
    rw [putK_at nd h3 hj]
    refine R.attach (k := j) s lo e (fun d => by simp) h1 fun H ow g1 g2 g3 g4 => .mdc g2 g1 (by rw [List.length_set]; exact h3) ?_
    exact t.setV (Same.refl _) (by rw [Nat.zero_add]; exact kid_own hx g4) fun q j' r' u hj a b => g3 q j' r' u (by omega) a b
theorem Rel.addD {i : Nat} {r : List Nat} {ks : List Key} {xs : List PV} {x : PV} {z : Key} {ot : Ow} {v y : V} (R : Rel K w L σ) (s : Step a w) (lo : Loose a w ot) (e : L.at i r = some (.mdc ks xs)) (h : Own K w.G w.H w.ow (i :: r) (.mdc ks xs) v) (hx : Own K w.G w.H ot [] x y) (hz : z ∉ ks) :
    ∃ p vs, v = .ref p ∧ w.H p = some (.dK (ks.zip vs)) ∧ ∃ ow', Rel K ⟨w.G, ow', upd w.H p (.dK (putK (ks.zip vs) z y))⟩ (L.setAt i r (.mdc (ks ++ [z]) (xs ++ [x]))) σ ∧ Step a ⟨w.G, ow', upd w.H p (.dK (putK (ks.zip vs) z y))⟩ := by
  cases h with
  | @mdc _ p _ _ vs h1 h2 h3 t =>
    refine ⟨_, _, rfl, h2, ?_⟩
    have eq : putK (ks.zip vs) z y = (ks ++ [z]).zip (vs ++ [y]) := by
      rw [putK_new (by rw [map_fst_zip' _ _ h3]; exact hz), List.zip_append h3]
      rfl
    rw [eq]
    refine R.attach (k := xs.length) s lo e (fun d => by simp) h1 fun H ow g1 g2 g3 g4 => .mdc g2 g1 (by rw [List.length_append, List.length_append, h3]; rfl) (OwnL.cat (t.lift2 (Same.refl _) fun q j r' u _ hj a b => g3 q j r' u (by omega) a b) (.cons ?_ .nil))
    rw [Nat.zero_add]
    exact kid_own hx g4
end
section
variable {X : Cx} {XR : XRel} {W : WX} {Φ : Fns} {F : Sl}
variable {a b c o ix : E} {es : Es} {eo ei ea eb ec : Expr} {pos apos p : Pos} {exs : List Expr} {s : S} {ss : Ss} {st : Stmt} {sts : List Stmt}
theorem ss_setLc {W' : WX} {i : Nat} {y : Str} {py : Pos} {elt : E} {tg : Tg} {it : It} {ifs : Es} {own : List (Str × Nat)} {etg eit eelt : Expr} {eifs : List Expr} {scope : Scope} {spos : Pos} (S : Place X) (hi : F.length ≤ i) (hN : X.N.Nodup) (hy : X.N[i]? = some y) (hyl : X.env.scope.names.lookup y = some .local)
    (hsw : swapsWith (.ListComp eelt [⟨etg, eit, eifs, 0⟩] scope pos) (some (.Name y py)) spos.line X.env = pure true) (hit : SI X XR W Φ it etg eit) (ok : BlkOk X.N X.env.scope scope own) (hv : ∀ i ∈ tg.vars, i ∈ own.map (·.2))
    (hg : ∀ (s : Shared) (H : Hp) (C : Addr) (cl : List (Str × Addr)) (fp : List Addr), PG (X.blk s H scope (compEnvC scope cl C X.env) fp) etg (gT X.K tg)) (ht : ∀ (s : Shared) (H : Hp) (C : Addr) (cl : List (Str × Addr)) (fp : List Addr), PTs (X.blk s H scope (compEnvC scope cl C X.env) fp) eifs (tT X.K XR W' (wT Φ ifs)))
    (he : ∀ (s : Shared) (H : Hp) (C : Addr) (cl : List (Str × Addr)) (fp : List Addr), PE (X.blk s H scope (compEnvC scope cl C X.env) fp) eelt (tE X.K XR W' (wE Φ elt))) (hs : ∀ x, foldedSetIterable eit X.env x = pure x) :
    SS X XR W Φ F (.set i (.lc elt tg it ifs own)) (.Assign [.Name y py] (.ListComp eelt [⟨etg, eit, eifs, 0⟩] scope pos) spos) :=
  (ps_setLc S.calm hN hy hyl hsw hit ok hg ht he hs).imp fun D σ H h => lc_imp hv (set_imp hi h)
theorem se_lc {W' : WX} {elt : E} {tg : Tg} {it : It} {ifs : Es} {own : List (Str × Nat)} {etg eit eelt : Expr} {eifs : List Expr} {scope : Scope} (S : Place X) (hN : X.N.Nodup) (hit : SI X XR W Φ it etg eit) (ok : BlkOk X.N X.env.scope scope own) (hv : ∀ i ∈ tg.vars, i ∈ own.map (·.2))
    (hg : ∀ (s : Shared) (H : Hp) (C : Addr) (cl : List (Str × Addr)) (fp : List Addr), PG (X.blk s H scope (compEnvC scope cl C X.env) fp) etg (gT X.K tg)) (ht : ∀ (s : Shared) (H : Hp) (C : Addr) (cl : List (Str × Addr)) (fp : List Addr), PTs (X.blk s H scope (compEnvC scope cl C X.env) fp) eifs (tT X.K XR W' (wT Φ ifs)))
    (he : ∀ (s : Shared) (H : Hp) (C : Addr) (cl : List (Str × Addr)) (fp : List Addr), PE (X.blk s H scope (compEnvC scope cl C X.env) fp) eelt (tE X.K XR W' (wE Φ elt))) (hs : ∀ x, foldedSetIterable eit X.env x = pure x) :
    SE X XR W Φ (.lc elt tg it ifs own) (.ListComp eelt [⟨etg, eit, eifs, 0⟩] scope pos) :=
  (pe_lc S.calm hN hit ok hg ht he hs).imp fun σ H Q h => lc_imp hv h
theorem take_fold {F : Sl} : ∀ {is : List Nat} {vs : List V} {σ : Sl}, (∀ i ∈ is, F.length ≤ i) → σ.take F.length = F → (is.zip vs |>.foldl (fun σ iv => σ.set iv.1 (some iv.2)) σ).take F.length = F
  | [], _, _, _, h => h
  | _ :: _, [], _, _, h => h
  | i :: is, v :: vs, σ, hi, h => take_fold (σ := σ.set i (some v)) (fun j hj => hi j (List.mem_cons_of_mem _ hj)) (take_set h (hi i List.mem_cons_self))
theorem par_nx {is : List Nat} {D : Ends} {σ : Sl} {H : Hp} (hi : ∀ i ∈ is, F.length ≤ i) (h : tS X.K XR W F (wS Φ (.par is es)) D σ H) : tA X.K XR W (wA Φ es) σ H fun vs H1 => vs.length = is.length ∧ D.nx (is.zip vs |>.foldl (fun σ iv => σ.set iv.1 (some iv.2)) σ) H1 := by
  obtain ⟨w, L, P, rfl, R, hF, hf, hx, en⟩ := h
  unfold wS at hf
  refine ⟨w, L, _, P.ex, rfl, R, hf, hx σ hF, fun vs hs w1 L1 R1 s1 q1 ⟨xs, L2, ek, hl, hlt, hQ⟩ => ?_⟩
  obtain ⟨G', ow', ot, R2, s2, lo, f⟩ := q1.kids R1 s1 ek
  obtain ⟨ow2, R3, s3⟩ := Rel.storeL (σ0 := σ) R2 s2 lo f hl hlt
  refine ⟨by rw [← f.length]; exact hl, en.nx _ ⟨G', ow2, w1.H⟩ _ R3 s3 (take_fold hi hF) hQ⟩
theorem ss_par {i j : Nat} {x y : Str} {px py pt : Pos} {kt k2 : Nat} {pt2 : Pos} (S : Place X) (hFi : F.length ≤ i) (hFj : F.length ≤ j) (hN : X.N.Nodup) (hi : X.N[i]? = some x) (hj : X.N[j]? = some y) (hij : i ≠ j)
    (hx : X.env.scope.names.lookup x = some .local) (hy : X.env.scope.names.lookup y = some .local) (ha : SA X XR W Φ es [ea, eb])
    (hw : swappedStores [.Tuple [.Name x px, .Name y py] kt pt] (.Tuple [ea, eb] k2 pt2) X.env = pure (some [x, y])) :
    SS X XR W Φ F (.par [i, j] es) (.Assign [.Tuple [.Name x px, .Name y py] kt pt] (.Tuple [ea, eb] k2 pt2) pos) := by
  refine (ps_par S.calm hN hi hj hij hx hy ha hw rfl).imp fun D σ H h => ?_
  obtain ⟨w, L, QQ, XX, rfl, R, hf, hx, hq⟩ := par_nx (is := [i, j]) (by intro k hk; rcases List.mem_cons.mp hk with rfl | hk; exact hFi; cases List.mem_singleton.mp hk; exact hFj) h
  refine ⟨w, L, QQ, XX, rfl, R, hf, hx, fun vs hs w' L' R' s' q' hQ => ?_⟩
  obtain ⟨hl, hn⟩ := hq vs hs w' L' R' s' q' hQ
  match vs, hl, hn with
  | [v, u], _, hn => exact ⟨v, u, rfl, hn⟩
theorem ss_par3 {i j l : Nat} {x y z : Str} {px py pz pt : Pos} {kt k2 : Nat} {pt2 : Pos} (S : Place X) (hFi : F.length ≤ i) (hFj : F.length ≤ j) (hFl : F.length ≤ l) (hN : X.N.Nodup) (hi : X.N[i]? = some x) (hj : X.N[j]? = some y) (hk : X.N[l]? = some z) (hij : i ≠ j) (hil : i ≠ l) (hjl : j ≠ l)
    (hx : X.env.scope.names.lookup x = some .local) (hy : X.env.scope.names.lookup y = some .local) (hz : X.env.scope.names.lookup z = some .local) (ha : SA X XR W Φ es [ea, eb, ec])
    (hw : swappedStores [.Tuple [.Name x px, .Name y py, .Name z pz] kt pt] (.Tuple [ea, eb, ec] k2 pt2) X.env = pure (some [x, y, z])) :
    SS X XR W Φ F (.par [i, j, l] es) (.Assign [.Tuple [.Name x px, .Name y py, .Name z pz] kt pt] (.Tuple [ea, eb, ec] k2 pt2) pos) := by
  refine (ps_par3 S.calm hN hi hj hk hij hil hjl hx hy hz ha hw rfl).imp fun D σ H h => ?_
  obtain ⟨w, L, QQ, XX, rfl, R, hf, hx, hq⟩ := par_nx (is := [i, j, l]) (by
    intro k hk
    rcases List.mem_cons.mp hk with rfl | hk
    · exact hFi
    rcases List.mem_cons.mp hk with rfl | hk
    · exact hFj
    cases List.mem_singleton.mp hk; exact hFl) h
  refine ⟨w, L, QQ, XX, rfl, R, hf, hx, fun vs hs w' L' R' s' q' hQ => ?_⟩
  obtain ⟨hl, hn⟩ := hq vs hs w' L' R' s' q' hQ
  match vs, hl, hn with
  | [v, u, t], _, hn => exact ⟨v, u, t, rfl, hn⟩
theorem pset_or {t t' : TSet} (h : PSet X t) (h' : PSet X t') : PSet X (fun o i v H Q => t o i v H Q ∨ t' o i v H Q) := by
  intro pins s σ H o i v ov iv u Q I ro ri rv q
  rcases q with q | q
  · exact h pins s σ H o i v ov iv u Q I ro ri rv q
  · exact h' pins s σ H o i v ov iv u Q I ro ri rv q
/-- o[i] = v -/
theorem gsub_ok {w w1 : Wd} {L2' : Lc} {σ : Sl} {x : PV} {v : V} {ot : Ow} {XX : QX} {QQ : Lc → Prop} {Q : L2.St → Hp → Prop} (R2 : Rel X.K w1 L2' σ) (s2 : Step w w1) (lo : Loose w w1 ot) (f : Own X.K w1.G w1.H ot [] x v) (hx : XW X.K XR W w1 σ XX)
    (hf : wE Φ o L2' (fun g L3 => g.stable = true ∧ wE Φ ix L3 (fun k L4 => ∃ d, k = .fz d ∧ sstp g d x L4 QQ) XX) XX) (fin : ∀ w' L', Rel X.K w' L' σ → Step w w' → Same w1.G w'.G → QQ L' → Q σ w'.H) :
    gSub (tE X.K XR W (wE Φ o)) (tE X.K XR W (wE Φ ix)) (fun o i v H Q => rSetL o i v H Q ∨ rSetD o i v H Q) v σ w1.H Q := by
  refine ⟨w1, L2', _, XX, rfl, R2, hf, hx, fun ov g w3 L3 R3 s3 q3 ⟨st, hf3⟩ => ?_⟩
  refine ⟨w3, L3, _, XX, rfl, R3, hf3, hx.on s3, fun iv k w4 L4 R4 s4 q4 ⟨d, ed, hp⟩ => ?_⟩
  subst ed
  obtain ⟨i, r, eg, hp⟩ := hp
  subst eg
  have s34 := s3.trans s4
  have q5 : HRep X.K w1 w4 L4 σ (.pl i r) ov := q3.on st s4
  have lo4 := lo.step s34
  have f4 := lo.own s34 f
  have st4 := s2.trans s34
  rcases hp with ⟨xs, z, j, e4, rfl, hj, hQ⟩ | ⟨ks, xs, z, e4, hz, nd, hlt, hp⟩
  · obtain ⟨pa, vs, rfl, h1, h2, ow5, R5, s5⟩ := R4.swapL (j := j) st4 lo4 e4 (q5.own R4 e4) f4
    have ev := fzi q4
    subst ev
    exact .inl ⟨pa, vs, z, j, rfl, rfl, h1, by rw [h2]; exact hj, fin _ _ R5 s5 s34.same hQ⟩
  · have ev := keyOf_V hz (fzv q4)
    subst ev
    rcases hp with ⟨j, hj, hQ⟩ | ⟨hn, hQ⟩
    · obtain ⟨pa, vs, rfl, h1, ow5, R5, s5⟩ := R4.swapD st4 lo4 e4 (q5.own R4 e4) f4 nd hj
      exact .inr ⟨pa, _, rfl, .inl ⟨_, z, h1, rfl, by rw [List.length_zip]; omega, rfl⟩, fin _ _ R5 s5 s34.same hQ⟩
    · obtain ⟨pa, vs, rfl, h1, ow5, R5, s5⟩ := R4.addD st4 lo4 e4 (q5.own R4 e4) f4 hn
      exact .inr ⟨pa, _, rfl, .inl ⟨_, z, h1, rfl, by rw [List.length_zip]; omega, rfl⟩, fin _ _ R5 s5 s34.same hQ⟩
theorem sub_pg (S : Place X) (ho : SE X XR W Φ o eo) (hi : SE X XR W Φ ix ei) (hst : ∀ v, assign (.Subscript eo ei p) X.env v = (do
      let ov ← holding [v] (eval eo X.env)
      let iv ← holding [v, ov] (eval ei X.env)
      standAt p
      holding [v, ov, iv] (setItem ov iv v)
      release [v, ov, iv] [])) : PG X (.Subscript eo ei p) (gSub (tE X.K XR W (wE Φ o)) (tE X.K XR W (wE Φ ix)) (fun o i v H Q => rSetL o i v H Q ∨ rSetD o i v H Q)) := by
  have hun := S.units
  exact pg_sub ho hi (pset_or set_list (set_dict (by omega))) hst
theorem ss_sst (S : Place X) (ha : SE X XR W Φ a ea) (ho : SE X XR W Φ o eo) (hi : SE X XR W Φ ix ei) (hc : noComp ea = true) (hst : ∀ v, assign (.Subscript eo ei p) X.env v = (do
      let ov ← holding [v] (eval eo X.env)
      let iv ← holding [v, ov] (eval ei X.env)
      standAt p
      holding [v, ov, iv] (setItem ov iv v)
      release [v, ov, iv] [])) : SS X XR W Φ F (.sst o ix a) (.Assign [.Subscript eo ei p] ea pos) := by
  refine (ps_asg ha (sub_pg S ho hi hst) (by unfold swapsWithSole; exact swap_no hc) rfl rfl).imp fun D σ H h => ?_
  obtain ⟨w, L, P, rfl, R, hF, hf, hx, en⟩ := h
  unfold wS at hf
  refine ⟨w, L, _, P.ex, rfl, R, hf, hx σ hF, fun v h1 w1 L1 R1 s1 q1 ⟨x, L2, ek, hf2⟩ => ?_⟩
  obtain ⟨G', ow', ot, R2, s2, lo, f, sg⟩ := q1.kid R1 s1 ek
  exact gsub_ok (w1 := ⟨G', ow', w1.H⟩) R2 s2 lo f ((hx.on s2) σ hF) hf2 fun w' L' R' s' _ hQ => en.nx σ w' L' R' s' hF hQ
theorem ss_sst2 {o' ix' : E} {eo' ei' : Expr} {p' pt : Pos} {kt : Nat} (S : Place X) (ha : SE X XR W Φ a ea) (ho : SE X XR W Φ o eo) (hi : SE X XR W Φ ix ei) (ho' : SE X XR W Φ o' eo') (hi' : SE X XR W Φ ix' ei') (hc : noComp ea = true)
    (hst : ∀ v, assign (.Subscript eo ei p) X.env v = (do
      let ov ← holding [v] (eval eo X.env)
      let iv ← holding [v, ov] (eval ei X.env)
      standAt p
      holding [v, ov, iv] (setItem ov iv v)
      release [v, ov, iv] []))
    (hst' : ∀ v, assign (.Subscript eo' ei' p') X.env v = (do
      let ov ← holding [v] (eval eo' X.env)
      let iv ← holding [v, ov] (eval ei' X.env)
      standAt p'
      holding [v, ov, iv] (setItem ov iv v)
      release [v, ov, iv] [])) (hw : swappedStores [.Tuple [.Subscript eo ei p, .Subscript eo' ei' p'] kt pt] ea X.env = pure none) :
    SS X XR W Φ F (.sst2 o ix o' ix' a) (.Assign [.Tuple [.Subscript eo ei p, .Subscript eo' ei' p'] kt pt] ea pos) := by
  refine (ps_asg ha (pg_tup S.calm (pgs_cons (sub_pg S ho hi hst) (pgs_cons (sub_pg S ho' hi' hst') pgs_nil rfl) rfl) rfl rfl) (by unfold swapsWithSole; exact swap_no hc) hw rfl).imp fun D σ H h => ?_
  obtain ⟨w, L, P, rfl, R, hF, hf, hx, en⟩ := h
  unfold wS at hf
  refine ⟨w, L, _, P.ex, rfl, R, hf, hx σ hF, fun v h1 w1 L1 R1 s1 q1 ⟨d, d', e, hf2⟩ => ?_⟩
  subst e
  have fv := fzv q1
  cases fv with
  | @tup pa xs _ ht fl =>
    cases fl with
    | @cons v1 _ _ _ f1 fl =>
      cases fl with
      | @cons v2 _ _ _ f2 fl =>
        cases fl
        refine ⟨pa, _, rfl, sqT_mono R1.ok.same ht, rfl, v1, _, rfl, ?_⟩
        refine gsub_ok (x := .fz d) R1 s1 (Loose.none _ _) (.fz f1) ((hx.on s1) σ hF) hf2 fun w2 L2 R2 s2 sg hf3 => ?_
        refine ⟨v2, _, rfl, ?_⟩
        refine gsub_ok (x := .fz d') R2 s2 (Loose.none _ _) (.fz (f2.mono sg)) ((hx.on s2) σ hF) hf3 fun w3 L3 R3 s3 _ hQ => ⟨rfl, en.nx σ w3 L3 R3 s3 hF hQ⟩
end
end Tk

set_option Elab.async false
set_option linter.all false
set_option maxRecDepth 100000
namespace Tk
open PySem PySem.Spec PyProof.Rows L2

/-! ### room, with no guard around -/
structure Rm (k : Nat) (A : Around) : Prop where
  hd : A.handled = none
  dp : A.depth + 3 * k + 5 < recursionLimit
  un : A.units + 16 * k + 400 < cLine
  gd : A.guards = some []
theorem Rm.room {k : Nat} {A : Around} (r : Rm k A) : Room k A := ⟨r.hd, r.dp, by have := r.un; omega⟩
theorem Rm.less {j k : Nat} {A : Around} (r : Rm k A) (h : j ≤ k) : Rm j A := ⟨r.hd, by have := r.dp; omega, by have := r.un; omega, r.gd⟩
theorem Rm.down {k : Nat} {A : Around} (r : Rm (k + 1) A) (env : Env) : Rm k (A.deeper env) :=
  ⟨r.hd, by have q := r.dp; show A.depth + 1 + 3 * k + 5 < _; omega, by have q := r.un; show A.units + 3 + 16 * k + 400 < _; omega, r.gd⟩
/-- a def's promise, where no guard stands around -/
structure FnG (P : Program) (w : World) (K : PySem.W.Frag) (mg : Str → Option Value) (base : Heap) (k : Nat) (f : Addr) (fd : FuncData) (ps : List Str) (sp : Sp) : Prop where
  len : ∀ vs H Q E, sp vs H Q E → vs.length = ps.length
  run : ∀ (A : Around) (outer : List Env) (s : Shared) (H : Hp) (args : Args) (us : List Value) (vs : List V) (Q : VK) (E : XK), Rm k A → Env0 P w K mg base A outer s H → BindsTo s fd args (ps.zip us) → Vals vs us → sp vs H Q E →
    codeAny (model P w) A (.call (.ref f) args) (CR (L2.CX P w) outer P w H s Q E) s
theorem FnG.more {P : Program} {w : World} {K : PySem.W.Frag} {mg : Str → Option Value} {base : Heap} {j k : Nat} {f : Addr} {fd : FuncData} {ps : List Str} {sp : Sp} (F : FnG P w K mg base j f fd ps sp) (h : j ≤ k) : FnG P w K mg base k f fd ps sp :=
  ⟨F.len, fun A outer s H args us vs Q E hr => F.run A outer s H args us vs Q E (hr.less h)⟩
theorem fnG_of {P : Program} {w : World} {K : PySem.W.Frag} {mg : Str → Option Value} {base : Heap} {k : Nat} {f : Addr} {fd : FuncData} {x qual : Str} {params : Arguments} {body : List Stmt} {scope : Scope} {dvs : List V} {kws : List (Str × V)} {N ps : List Str} {sp : Sp} (Fu : FunD K x qual params body scope dvs kws f fd) (S : FnScope N ps scope) (len : ∀ vs H Q E, sp vs H Q E → vs.length = ps.length)
    (hbody : ∀ (cdv : Value) (A : Around) (outer : List Env) (s : Shared) (H : Hp) (vs : List V) (Q : VK) (E : XK), Rm k (A.deeper (envOfC qual scope s.heap.objs.size f cdv)) → sp vs H Q E →
      ∃ t, PSs (cxOf (L2.CX P w) P w K mg base N qual scope f cdv A outer s H E) body t ∧ t { nx := fun _ H' => Q .non H', rt := Q } (start N vs) H) : FnG P w K mg base (k + 1) f fd ps sp := by
  obtain ⟨oc, od, dV, kV, doc, pm, an, cdv, ct, osl, rfl, lk, hcd, _, _⟩ := Fu.ex
  refine ⟨len, fun A outer s0 H0 args us vs Q E hr en0 hbd rel hsp => ?_⟩
  have hlen := len _ _ _ _ hsp
  have kin : K.In s0.heap := en0.mod.kin.keeps fun b o e => (en0.bs b o e).1
  have free : s0.heap.NoLimit := en0.mod.nolimit.keeps fun b o e => (en0.bs b o e).1
  have kinds : ∀ y ∈ ps.zip us, scope.names.lookup y.1 = some .local ∨ (scope.names.lookup y.1 = some .cell ∧ ((cellsFrom (s0.heap.objs.size + 1) scope.names []).lookup y.1).isSome = true) := fun ⟨n, v⟩ hy =>
    (S.par n (List.of_mem_zip hy).1).elim .inl fun q => .inr ⟨q, PySem.W.cellsFrom_some _ _ _ (.inl q)⟩
  refine codeAny_call_function hr.room.depth (kin _ _ lk) rfl S.co S.gen rfl (PySem.W.codeRec_of kin hcd) (hbd _ _ _ _ ?_)
  refine wpAny_newFunctionEnv_cells S.kind kinds fun env he s1 inn => ?_
  subst he
  refine ⟨free.keeps inn.toInCall.keep, codeAny_func ?_⟩
  obtain ⟨t, hbd', hq⟩ := hbody cdv A outer s0 H0 vs Q E (hr.down _) hsp
  have I0 := inv_start (CX := L2.CX P w) (K := K) (mg := mg) (base := base) (E := E) S hr.hd en0 hlen rel inn
  refine wpAny_mono (hbd'.run [] s1 (start N vs) H0 _ I0 hq) (fun fl s' hs => ?_) fun e s' hs => hs
  cases fl with
  | ret u =>
    obtain ⟨v, σ', H', J, rv, q⟩ := hs
    exact ⟨v, H', J.os, J.bare, J.base, J.hok, rv, q⟩
  | next =>
    obtain ⟨σ', H', J, q⟩ := hs
    exact ⟨V.non, H', J.os, J.bare, J.base, J.hok, rfl, q⟩
  | brk =>
    obtain ⟨_, _, _, q⟩ := hs
    exact q.elim
  | cont =>
    obtain ⟨_, _, _, q⟩ := hs
    exact q.elim

/-! ### what a def of the small language promises -/
def OwnS (K : PySem.W.Frag) (w : Wd) (xs : List PV) (vs : List V) : Prop := ∀ i x, xs[i]? = some x → ∃ v, vs[i]? = some v ∧ Own K w.G w.H w.ow [i] x v
def spOf (K : PySem.W.Frag) (XR : XRel) (n : Nat) (fn : Fn) : Sp := fun vs H Q E => vs.length = n ∧ ∃ w xs ds QQ XX, w.H = H ∧ w.Ok ∧ xs.length = fn.nio ∧ OwnS K w xs vs ∧ FzL K w.G (vs.drop fn.nio) ds ∧ fn.sp xs ds QQ XX ∧
  (∀ w' ys r v ot, w'.Ok → Step w w' → ys.length = fn.nio → OwnS K w' ys vs → Loose w w' ot → Own K w'.G w'.H ot [] r v → QQ r ys → Q v w'.H) ∧
  (∀ w' ys e cls d, w'.Ok → Step w w' → ys.length = fn.nio → OwnS K w' ys vs → XR w' e cls d → XX e ys → E cls d w'.H)
def ini (n : Nat) (xs : List PV) (ds : List PyData) : Lc := xs.map some ++ ds.map (fun d => some (.fz d)) ++ List.replicate (n - (xs.length + ds.length)) none
def endPt (nio : Nat) (QQ : PV → List PV → Prop) (XX : Exn → List PV → Prop) : Pt where
  nx := fun L => ∃ ys, L.take nio = ys.map some ∧ QQ (.fz .none) ys
  rt := fun r L => ∃ ys, L.take nio = ys.map some ∧ QQ r ys
  bk := fun _ => False
  ct := fun _ => False
  ex := fun e L => ∃ ys, L.take nio = ys.map some ∧ XX e ys
/-- the body does what the promise says -/
def bodyOk (Φ : Fns) (fn : Fn) (n np : Nat) (ss : Ss) : Prop := ∀ xs ds QQ XX, xs.length = fn.nio → xs.length + ds.length = np → fn.sp xs ds QQ XX → wSs Φ ss (ini n xs ds) (endPt fn.nio QQ XX)
theorem slots_end {K : PySem.W.Frag} {nio : Nat} {w' : Wd} {L' : Lc} {σ' F : Sl} {vs : List V} {ys : List PV} (hF : F = (vs.take nio).map some) (hl : nio ≤ vs.length) (R : Rel K w' L' σ') (ht : σ'.take F.length = F) (hy : L'.take nio = ys.map some) (hn : nio ≤ L'.length) : ys.length = nio ∧ OwnS K w' ys vs := by
  have hlen : ys.length = nio := by
    have := congrArg List.length hy
    rw [List.length_take, List.length_map] at this
    omega
  refine ⟨hlen, fun i x hx => ?_⟩
  have hi : i < nio := by rw [← hlen]; exact (List.getElem?_eq_some_iff.mp hx).1
  have h1 : L'[i]? = some (some x) := by
    rw [← List.getElem?_take_of_lt hi, hy, List.getElem?_map, hx]; rfl
  obtain ⟨v, h2, h3⟩ := R.own i x h1
  have fl : F.length = nio := by rw [hF, List.length_map, List.length_take]; omega
  have h4 : F[i]? = some (some v) := by
    rw [← ht, List.getElem?_take_of_lt (by omega)]; exact h2
  refine ⟨v, ?_, h3⟩
  rw [hF, List.getElem?_map, List.getElem?_take_of_lt hi] at h4
  cases e : vs[i]? with
  | none => rw [e] at h4; cases h4
  | some u => rw [e] at h4; cases h4; rfl
theorem FnG.of_body {P : Program} {w : World} {K : PySem.W.Frag} {mg : Str → Option Value} {base : Heap} {k : Nat} {f : Addr} {fd : FuncData} {x qual : Str} {params : Arguments} {body : List Stmt} {scope : Scope} {dvs : List V} {kws : List (Str × V)} {N ps : List Str} {XR : XRel} {Φ : Fns} {fn : Fn} {ss : Ss}
    (Fu : FunD K x qual params body scope dvs kws f fd) (S : FnScope N ps scope) (hnio : fn.nio ≤ ps.length)
    (hs : ∀ (cdv : Value) (A : Around) (outer : List Env) (s : Shared) (H : Hp) (E : XK) (F : Sl), F.length = fn.nio → Rm k (A.deeper (envOfC qual scope s.heap.objs.size f cdv)) →
      SSs (cxOf (L2.CX P w) P w K mg base N qual scope f cdv A outer s H E) XR (fun cls d _ H' => E cls d H') Φ F ss body)
    (hb : bodyOk Φ fn N.length ps.length ss) : FnG P w K mg base (k + 1) f fd ps (spOf K XR ps.length fn) := by
  refine fnG_of Fu S (fun vs H Q E h => h.1) fun cdv A outer s H vs Q E hr hsp => ?_
  obtain ⟨hl, w0, xs, ds, QQ, XX, rfl, ok, hx, own, fz, spec, rt, ex⟩ := hsp
  have hps : ps.length ≤ N.length := by
    have := congrArg List.length S.pre
    rw [List.length_take] at this
    omega
  have hds : xs.length + ds.length = ps.length := by
    have := fz.length
    rw [List.length_drop] at this
    omega
  have hFl : ((vs.take fn.nio).map some).length = fn.nio := by rw [List.length_map, List.length_take]; omega
  refine ⟨_, hs cdv A outer s w0.H E ((vs.take fn.nio).map some) hFl hr, w0, ini N.length xs ds, _, rfl, ?_, ?_, hb xs ds QQ XX hx hds spec, ?_, ?_⟩
  · refine ⟨ok, ?_, fun i y e => ?_⟩
    · unfold ini L2.start
      simp only [List.length_append, List.length_map, List.length_replicate]
      omega
    · unfold ini at e
      by_cases hi : i < xs.length
      · rw [List.append_assoc, List.getElem?_append_left (by simpa using hi), List.getElem?_map] at e
        cases ex' : xs[i]? with
        | none => rw [ex'] at e; cases e
        | some z =>
          rw [ex'] at e
          cases e
          obtain ⟨v, h1, h2⟩ := own i _ ex'
          refine ⟨v, ?_, h2⟩
          unfold L2.start
          rw [List.getElem?_append_left (by rw [List.length_map]; exact (List.getElem?_eq_some_iff.mp h1).1), List.getElem?_map, h1]
          rfl
      · rw [List.append_assoc, List.getElem?_append_right (by simpa using hi), List.length_map] at e
        by_cases hj : i - xs.length < ds.length
        · rw [List.getElem?_append_left (by simpa using hj), List.getElem?_map] at e
          cases ex' : ds[i - xs.length]? with
          | none => rw [ex'] at e; cases e
          | some z =>
            rw [ex'] at e
            cases e
            obtain ⟨v, h1, h2⟩ := fz.get' ex'
            rw [List.getElem?_drop, ← hx, show xs.length + (i - xs.length) = i by omega] at h1
            refine ⟨v, ?_, .fz h2⟩
            unfold L2.start
            rw [List.getElem?_append_left (by rw [List.length_map]; exact (List.getElem?_eq_some_iff.mp h1).1), List.getElem?_map, h1]
            rfl
        · rw [List.getElem?_append_right (by simpa using hj), List.getElem?_replicate] at e
          split at e <;> cases e
  · rw [hFl]
    unfold L2.start
    rw [List.take_append_of_le_length (by rw [List.length_map]; omega), List.map_take]
  · intro σ' ht e cls d w' L' R' s' hxr hxx
    obtain ⟨ys, hy, hq⟩ := hxx
    have hn : fn.nio ≤ L'.length := by
      have := congrArg List.length ht
      rw [List.length_take, hFl] at this
      rw [R'.len]; omega
    obtain ⟨h1, h2⟩ := slots_end (vs := vs) rfl (by omega) R' ht hy hn
    exact ex w' ys e cls d R'.ok s' h1 h2 hxr hq
  · have key : ∀ {σ' : Sl} {w' : Wd} {L' : Lc} {ys : List PV}, Rel K w' L' σ' → σ'.take ((vs.take fn.nio).map some).length = (vs.take fn.nio).map some → L'.take fn.nio = ys.map some → ys.length = fn.nio ∧ OwnS K w' ys vs := fun {σ' w' L' ys} R' ht hy => by
      have hn : fn.nio ≤ L'.length := by
        have := congrArg List.length ht
        rw [List.length_take, hFl] at this
        rw [R'.len]; omega
      exact slots_end (vs := vs) rfl (by omega) R' ht hy hn
    refine ⟨fun σ' w' L' R' s' ht hn => ?_, fun _ _ _ _ _ _ h => h.elim, fun _ _ _ _ _ _ h => h.elim, fun v r σ' w' L' ot R' s' ht lo o hr => ?_⟩
    · obtain ⟨ys, hy, hq⟩ := hn
      obtain ⟨h1, h2⟩ := key R' ht hy
      exact rt w' ys (.fz .none) .non _ R'.ok s' h1 h2 (Loose.none _ _) (.fz .non) hq
    · obtain ⟨ys, hy, hq⟩ := hr
      obtain ⟨h1, h2⟩ := key R' ht hy
      exact rt w' ys r v ot R'.ok s' h1 h2 lo o hq
end Tk

set_option Elab.async false
set_option linter.all false
set_option maxRecDepth 100000
namespace Tk
open PySem PySem.Spec PyProof.Rows L2

def permV {α : Type} (perm : List Nat) (l : List α) : List α := perm.filterMap fun j => l[j]?
theorem vals_get {vs : List V} {us : List Value} (h : Vals vs us) (j : Nat) : (vs[j]? = none ∧ us[j]? = none) ∨ ∃ v u, vs[j]? = some v ∧ us[j]? = some u ∧ RelV v u := by
  by_cases hj : j < vs.length
  · obtain ⟨u, hu, r⟩ := h.get (show vs[j]? = some vs[j] by simp [hj])
    exact .inr ⟨vs[j], u, by simp [hj], hu, r⟩
  · exact .inl ⟨List.getElem?_eq_none (by omega), List.getElem?_eq_none (by rw [← h.length]; omega)⟩
theorem permV_vals {vs : List V} {us : List Value} (h : Vals vs us) : ∀ perm : List Nat, Vals (permV perm vs) (permV perm us)
  | [] => .nil
  | j :: js => by
    rcases vals_get h j with ⟨h1, h2⟩ | ⟨v, u, h1, h2, r⟩
    · have e1 : permV (j :: js) vs = permV js vs := by unfold permV; rw [List.filterMap_cons, h1]
      have e2 : permV (j :: js) us = permV js us := by unfold permV; rw [List.filterMap_cons, h2]
      rw [e1, e2]
      exact permV_vals h js
    · have e1 : permV (j :: js) vs = v :: permV js vs := by unfold permV; rw [List.filterMap_cons, h1]
      have e2 : permV (j :: js) us = u :: permV js us := by unfold permV; rw [List.filterMap_cons, h2]
      rw [e1, e2]
      exact .cons r (permV_vals h js)
/-- how arguments bind: n by place, the others by name; perm: for each parameter the place of its argument in the text -/
def BindP (fd : FuncData) (ps : List Str) (n : Nat) (ks : List Str) (perm : List Nat) : Prop := ∀ us ws : List Value, us.length = n → ws.length = ks.length → bindArgs fd ⟨us, ks.zip ws⟩ = pure (ps.zip (permV perm (us ++ ws)))
def kwNames : List Keyword → Option (List Str)
  | [] => some []
  | ⟨some n, _, _⟩ :: r => (kwNames r).map (n :: ·)
  | _ => none
theorem kw_facts {pos : Pos} {env : Env} : ∀ {kws : List Keyword} {ks : List Str}, kwNames kws = some ks →
    (backToKw pos (keywordEach kws env)).all (·.1.isSome) = true ∧ (backToKw pos (keywordEach kws env)).filterMap (·.1) = ks ∧ (backToKw pos (keywordEach kws env)).any (·.1.isNone) = false
  | [], ks, h => by cases h; exact ⟨rfl, rfl, rfl⟩
  | ⟨none, _, _⟩ :: r, ks, h => by simp [kwNames] at h
  | ⟨some n, v, p⟩ :: r, ks, h => by
    simp only [kwNames] at h
    cases e : kwNames r with
    | none => rw [e] at h; cases h
    | some ks' =>
      rw [e] at h
      cases h
      obtain ⟨h1, h2, h3⟩ := kw_facts (pos := pos) (env := env) e
      refine ⟨?_, ?_, ?_⟩
      · show (true && (backToKw pos (keywordEach r env)).all (·.1.isSome)) = true
        rw [h1]; rfl
      · show n :: (backToKw pos (keywordEach r env)).filterMap (·.1) = n :: ks'
        rw [h2]
      · show (false || (backToKw pos (keywordEach r env)).any (·.1.isNone)) = false
        rw [h3]; rfl
section
variable {X : Cx} {k : Nat} {f : Addr} {fd : FuncData} {ps ks : List Str} {sp : Sp} {W : WX} {x : Str} {p pos : Pos} {args : List Expr} {kws : List Keyword} {t1 t2 : TA} {perm : List Nat}
theorem run_fnG {pins : List (Addr × Obj)} {σ : Sl} {H : Hp} {s : Shared} {Q : VK} {us ws : List Value} {vs : List V} (Fg : FnG X.prog X.w X.K X.mg X.base k f fd ps sp) (hr : Rm k X.A) (tk : Takes X W) (hb : bindArgs fd ⟨us, ks.zip ws⟩ = pure (ps.zip (permV perm (us ++ ws))))
    (I : Inv X pins σ H s) (r : Vals vs (us ++ ws)) (h : sp (permV perm vs) H Q (fun cls d H' => W cls d σ H')) : wpAny (model X.prog X.w) X.A (call (.ref f) us (ks.zip ws)) (EP X pins σ Q) X.xe s := by
  refine wpAny_call (codeAny_mono (Fg.run X.A X.stack s H ⟨us, ks.zip ws⟩ (permV perm (us ++ ws)) (permV perm vs) Q _ hr I.env0 (.of_eq hb) (permV_vals r perm) h) fun r s' hq => ?_)
  cases r with
  | error e => exact passAt tk σ pins H s e s' I hq
  | ok fl =>
    cases fl with
    | ret u => exact I.after hq
    | next => exact hq.elim
    | brk => exact hq.elim
    | cont => exact hq.elim
theorem call_fin (Fg : FnG X.prog X.w X.K X.mg X.base k f fd ps sp) (hr : Rm k X.A) (tk : Takes X W) (hkw : PK X kws t2) (hks : kwNames kws = some ks) {n : Nat} (hb : BindP fd ps n ks perm) {pins : List (Addr × Obj)} {σ : Sl} {Q : VK} {us : List Value} {s1 : Shared} {vs : List V} {H1 : Hp} (I1 : Inv X pins σ H1 s1) (r1 : Vals vs us)
    (q1 : t2 σ H1 fun zs H2 => vs.length = n ∧ zs.length = ks.length ∧ sp (permV perm (vs ++ zs)) H2 Q (fun cls d H' => W cls d σ H')) :
    wpAny (model X.prog X.w) X.A (evalAll ((backToKw pos (keywordEach kws X.env)).map (·.2))) (fun ws s2 => X.K.In s2.heap ∧ wpAny (model X.prog X.w) X.A (call (.ref f) us (((backToKw pos (keywordEach kws X.env)).filterMap (·.1)).zip ws)) (EP X pins σ Q) X.xe s2) X.xe s1 :=
  thn (hkw.run pos pins s1 σ H1 _ I1 q1) fun ws s2 ⟨zs, H2, I2, r2, l1, l2, q2⟩ => ⟨I2.kIn, by
    rw [(kw_facts (pos := pos) (env := X.env) hks).2.1]
    exact run_fnG Fg hr tk (hb us ws (by rw [← r1.length]; exact l1) (by rw [← r2.length]; exact l2)) I2 (r1.append r2) q2⟩
theorem pe_callG {e : Expr} {es : List Expr} (Fg : FnG X.prog X.w X.K X.mg X.base k f fd ps sp) (hr : Rm k X.A) (tk : Takes X W) (hg : Gl X x) (hm : X.mg x = some (.ref f)) (hk : PySem.W.keepIn X.K (.ref f) = true) (ha : PA X (e :: es) t1) (hkw : PK X kws t2) (hks : kwNames kws = some ks) (hn : (e :: es).all noStar = true)
    (hb : BindP fd ps (e :: es).length ks perm) (hdb : (x == ("__debug__" : Str)) = false) :
    PE X (.Call (.Name x p) (e :: es) kws pos) (fun σ H Q => t1 σ H fun vs H1 => t2 σ H1 fun zs H2 => vs.length = (e :: es).length ∧ zs.length = ks.length ∧ sp (permV perm (vs ++ zs)) H2 Q (fun cls d H' => W cls d σ H')) := by
  refine ⟨fun pins s σ H Q I h => ?_⟩
  obtain ⟨k1, k2, k3⟩ := kw_facts (pos := pos) (env := X.env) hks
  refine wpAny_Call_Name_kw (ld_glob I hg hm ?_ hdb)
  have hn' := hn
  simp only [List.all_cons, Bool.and_eq_true] at hn'
  refine PySem.W.callWith_KW (h₀ := X.base) I.ok.mod.kin hk k1 (thn (ha.run pos pins s σ H _ I h) fun us s1 ⟨vs, H1, I1, r1, q1⟩ => call_fin Fg hr tk hkw hks hb I1 r1 q1) ?_ (star1 hn'.1)
  rw [plain_args hn, k3]; rfl
theorem pe_callG0 (Fg : FnG X.prog X.w X.K X.mg X.base k f fd ps sp) (hr : Rm k X.A) (tk : Takes X W) (hg : Gl X x) (hm : X.mg x = some (.ref f)) (hk : PySem.W.keepIn X.K (.ref f) = true) (hkw : PK X kws t2) (hks : kwNames kws = some ks)
    (hb : BindP fd ps 0 ks perm) (hdb : (x == ("__debug__" : Str)) = false) :
    PE X (.Call (.Name x p) [] kws pos) (fun σ H Q => t2 σ H fun zs H2 => ([] : List V).length = 0 ∧ zs.length = ks.length ∧ sp (permV perm ([] ++ zs)) H2 Q (fun cls d H' => W cls d σ H')) := by
  refine ⟨fun pins s σ H Q I h => ?_⟩
  obtain ⟨k1, k2, k3⟩ := kw_facts (pos := pos) (env := X.env) hks
  refine wpAny_Call_Name_kw (ld_glob I hg hm ?_ hdb)
  refine PySem.W.callWith_KW0 (h₀ := X.base) I.ok.mod.kin hk k1 (call_fin Fg hr tk hkw hks hb I .nil h) ?_
  rw [k3]; rfl
end

/-! ### rows, put ready for a call -/
inductive ItmR (K : PySem.W.Frag) (G : Hp) (σ : Sl) : Itm → V → Prop
  | sl {i : Nat} {v : V} : σ[i]? = some (some v) → ItmR K G σ (.sl i) v
  | dt {d : PyData} {v : V} : Fz K G v d → ItmR K G σ (.dt d) v
section
variable {K : PySem.W.Frag} {a w : Wd} {L L' : Lc} {σ : Sl}
theorem ItmR.mono {G G' : Hp} (s : Same G G') {i : Itm} {v : V} (h : ItmR K G σ i v) : ItmR K G' σ i v := by
  cases h with
  | sl h => exact .sl h
  | dt h => exact .dt (h.mono s)
/-- the first of a row is frozen -/
theorem HL.head {ot : Ow} {h : Hd} {hs : List Hd} {vs : List V} {j : Nat} {d : PyData} {L1 : Lc} (R : Rel K w L σ) (s : Step a w) (lo : Loose a w ot) (hl : HL K w L σ ot j (h :: hs) vs) (e : h.frz L = some (d, L1)) :
    ∃ v us G1 ow1 ot1, vs = v :: us ∧ Rel K ⟨G1, ow1, w.H⟩ L1 σ ∧ Step a ⟨G1, ow1, w.H⟩ ∧ Loose a ⟨G1, ow1, w.H⟩ ot1 ∧ Same w.G G1 ∧ Fz K G1 v d ∧ HL K ⟨G1, ow1, w.H⟩ L1 σ ot1 (j + 1) hs us := by
  have one : ∃ v us, vs = v :: us ∧ HL K w L σ ot j [h] [v] ∧ HL K w L σ ot (j + 1) hs us := by
    cases hl with
    | fz f t => exact ⟨_, _, rfl, .fz f .nil, t⟩
    | sl f t => exact ⟨_, _, rfl, .sl f .nil, t⟩
    | tm f t => exact ⟨_, _, rfl, .tm f .nil, t⟩
  obtain ⟨v, us, rfl, h1, t⟩ := one
  cases h1 with
  | fz f t' =>
    cases e
    exact ⟨v, us, w.G, w.ow, ot, rfl, R, s, lo, Same.refl _, f, t.move (k := 0) (Same.refl _) fun p i l o _ h1 h2 => ⟨h2, h1⟩⟩
  | sl f t' =>
    obtain ⟨G1, ow1, q1, q2, q3, q4, q5⟩ := HRep.freezePl (a := a) R s (.sl f) e
    exact ⟨v, us, G1, ow1, ot, rfl, q1, q2, q5 ot lo, q4, q3, t.move (k := 0) q4 fun p i l o _ h1 h2 => ⟨h2, h1⟩⟩
  | @tm _ x _ _ _ f t' =>
    cases e
    have yes : ∀ {p : Addr} {l : Lb}, ot p = some l → w.ow p = none ∧ w.G p = none ∧ ∃ o, w.H p = some o := fun {p l} z => lo.apart p l z
    classical
    have gsame : Same w.G fun p => if (∃ l, ot p = some (j :: l)) then w.H p else w.G p := fun p o ho => by
      show (if (∃ l, ot p = some (j :: l)) then w.H p else w.G p) = some o
      rw [if_neg fun ⟨l, z⟩ => by rw [(yes z).2.1] at ho; cases ho]
      exact ho
    refine ⟨v, us, fun p => if (∃ l, ot p = some (j :: l)) then w.H p else w.G p, w.ow, fun p => if (∃ l, ot p = some (j :: l)) then none else ot p, rfl,
      R.freeze (pr := fun p => ∃ l, ot p = some (j :: l)) (fun p z => if_pos z) (fun p z => if_neg z) (fun p ⟨l, z⟩ => (yes z).2.1) fun p ⟨l, z⟩ => (yes z).1, ⟨s.same.trans gsame, fun p o ho hn => ?_⟩, ⟨fun p l e => ?_, fun p o e n => ?_, fun p q l e e' => ?_⟩, gsame,
      f.data gsame fun p r o h1 h2 => ?_, t.move (k := 0) gsame fun p i l o hi h1 h2 => ⟨h2, ?_⟩⟩
    · obtain ⟨k1, k2, k3⟩ := s.keep p o ho hn
      refine ⟨k1, k2, ?_⟩
      show (if (∃ l, ot p = some (j :: l)) then w.H p else w.G p) = a.G p
      rw [if_neg fun ⟨l, z⟩ => by rw [lo.new p o ho hn] at z; cases z]
      exact k3
    · have e : (if (∃ l, ot p = some (j :: l)) then none else ot p) = some l := e
      split at e
      · cases e
      · rename_i nz
        obtain ⟨k1, k2, k3⟩ := yes e
        refine ⟨k1, ?_, k3⟩
        show (if (∃ l, ot p = some (j :: l)) then w.H p else w.G p) = none
        rw [if_neg nz]; exact k2
    · show (if (∃ l, ot p = some (j :: l)) then none else ot p) = none
      rw [lo.new p o e n]
      split <;> rfl
    · have e : (if (∃ l, ot p = some (j :: l)) then none else ot p) = some l := e
      have e' : (if (∃ l, ot q = some (j :: l)) then none else ot q) = some l := e'
      split at e
      · cases e
      · split at e'
        · cases e'
        · exact lo.inj p q l e e'
    · show (if (∃ l, ot p = some (j :: l)) then w.H p else w.G p) = some o
      rw [if_pos ⟨r, h1⟩]
      exact h2
    · show (if (∃ l, ot p = some (j :: l)) then none else ot p) = some (i :: l)
      rw [if_neg fun ⟨l', z⟩ => by
        rw [h1] at z
        have := (List.cons.inj (Option.some.inj z)).1
        omega]
      exact h1
theorem HL.prep : ∀ {hs : List Hd} {vs : List V} {w : Wd} {L L' : Lc} {its : List Itm} {ios : List Nat} {t j : Nat} {ot : Ow}, Rel K w L σ → Step a w → Loose a w ot → HL K w L σ ot j hs vs → Tk.prep ios t hs L = some (its, L') →
    ∃ G' ow', Rel K ⟨G', ow', w.H⟩ L' σ ∧ Step a ⟨G', ow', w.H⟩ ∧ Same w.G G' ∧ Paired (ItmR K G' σ) its vs
  | [], _, w, L, L', its, ios, t, j, ot, R, s, lo, h, e => by
    cases h
    cases e
    exact ⟨w.G, w.ow, R, s, Same.refl _, .nil⟩
  | h :: hs, vs, w, L, L', its, ios, t, j, ot, R, s, lo, hl, e => by
    unfold Tk.prep at e
    split at e
    · split at e
      · rename_i i
        split at e
        · rename_i its' L1 e1
          cases e
          cases hl with
          | sl f t' =>
            obtain ⟨G', ow', r1, r2, r3, r4⟩ := HL.prep R s lo t' e1
            exact ⟨G', ow', r1, r2, r3, .cons (.sl f) r4⟩
        · cases e
      · cases e
    · split at e
      · rename_i d L1 e1
        split at e
        · rename_i its' L2 e2
          cases e
          obtain ⟨v, us, G1, ow1, ot1, rfl, R1, s1, lo1, sg, f, t1⟩ := hl.head R s lo e1
          obtain ⟨G', ow', r1, r2, r3, r4⟩ := HL.prep R1 s1 lo1 t1 e2
          exact ⟨G', ow', r1, r2, sg.trans r3, .cons (.dt (f.mono r3)) r4⟩
        · cases e
      · cases e
theorem HRs.prep {hs : List Hd} {vs : List V} {its : List Itm} {ios : List Nat} (R : Rel K w L σ) (s : Step a w) (h : HRs K a w L σ hs vs) (e : Tk.prep ios 0 hs L = some (its, L')) :
    ∃ G' ow', Rel K ⟨G', ow', w.H⟩ L' σ ∧ Step a ⟨G', ow', w.H⟩ ∧ Paired (ItmR K G' σ) its vs := by
  rcases h with ⟨h, v, rfl, rfl, q⟩ | ⟨ot, lo, hl⟩
  · unfold Tk.prep at e
    split at e
    · split at e
      · rename_i i
        simp only [Tk.prep] at e
        cases e
        cases q with
        | sl f => exact ⟨w.G, w.ow, R, s, .cons (.sl f) .nil⟩
        | pl nr _ _ => exact absurd rfl nr
      · cases e
    · split at e
      · rename_i d L1 e1
        simp only [Tk.prep] at e
        cases e
        obtain ⟨G', ow', r1, r2, r3⟩ := q.freeze R s e1
        exact ⟨G', ow', r1, r2, .cons (.dt r3) .nil⟩
      · cases e
  · obtain ⟨G', ow', r1, r2, _, r3⟩ := hl.prep R s lo e
    exact ⟨G', ow', r1, r2, r3⟩

theorem paired_get {α β : Type} {R : α → β → Prop} : ∀ {as : List α} {bs : List β} {j : Nat} {x : α}, Paired R as bs → as[j]? = some x → ∃ y, bs[j]? = some y ∧ R x y
  | _, _, 0, _, .cons h _, e => ⟨_, rfl, by cases e; exact h⟩
  | _, _, j + 1, _, .cons _ t, e => paired_get (j := j) t (by simpa using e)
  | _, _, 0, _, .nil, e => by cases e
  | _, _, _ + 1, _, .nil, e => by cases e
theorem pickS_rel {G : Hp} {its : List Itm} {vs : List V} (h : Paired (ItmR K G σ) its vs) : ∀ {js is : List Nat}, pickS its js = some is → Paired (fun i v => σ[i]? = some (some v)) is (permV js vs)
  | [], is, e => by cases e; exact .nil
  | j :: js, is, e => by
    unfold pickS at e
    split at e
    · rename_i i r e1 e2
      cases e
      obtain ⟨v, hv, q⟩ := paired_get h e1
      have e3 : permV (j :: js) vs = v :: permV js vs := by unfold permV; rw [List.filterMap_cons, hv]
      rw [e3]
      cases q with
      | sl q => exact .cons q (pickS_rel h e2)
    · cases e
theorem pickD_rel {G : Hp} {its : List Itm} {vs : List V} (h : Paired (ItmR K G σ) its vs) : ∀ {js : List Nat} {ds : List PyData}, pickD its js = some ds → FzL K G (permV js vs) ds
  | [], is, e => by cases e; exact .nil
  | j :: js, is, e => by
    unfold pickD at e
    split at e
    · rename_i i r e1 e2
      cases e
      obtain ⟨v, hv, q⟩ := paired_get h e1
      have e3 : permV (j :: js) vs = v :: permV js vs := by unfold permV; rw [List.filterMap_cons, hv]
      rw [e3]
      cases q with
      | dt q => exact .cons q (pickD_rel h e2)
    · cases e
theorem paired_len {α β : Type} {R : α → β → Prop} : ∀ {as : List α} {bs : List β}, Paired R as bs → as.length = bs.length
  | _, _, .nil => rfl
  | _, _, .cons _ t => by rw [List.length_cons, List.length_cons, paired_len t]
theorem getAll_get : ∀ {is : List Nat} {xs : List PV}, getAll L is = some xs → is.length = xs.length ∧ ∀ (j i : Nat), is[j]? = some i → ∃ x : PV, xs[j]? = some x ∧ L[i]? = some (some x)
  | [], xs, e => by cases e; exact ⟨rfl, fun j i h => by simp at h⟩
  | i :: is, xs, e => by
    unfold getAll at e
    split at e
    · rename_i x r e1 e2
      cases e
      obtain ⟨h1, h2⟩ := getAll_get e2
      refine ⟨by rw [List.length_cons, List.length_cons, h1], fun j k h => ?_⟩
      cases j with
      | zero => simp at h; subst h; exact ⟨x, rfl, e1⟩
      | succ j => exact h2 j k (by simpa using h)
    · cases e
theorem setAll_len : ∀ {is : List Nat} {xs : List PV} {L : Lc}, (setAll L is xs).length = L.length
  | [], _, _ => by unfold setAll; rfl
  | _ :: _, [], _ => by unfold setAll; rfl
  | i :: is, x :: xs, L => by unfold setAll; rw [setAll_len, List.length_set]
theorem setAll_out : ∀ {is : List Nat} {xs : List PV} {L : Lc} {i : Nat}, i ∉ is → (setAll L is xs)[i]? = L[i]?
  | [], _, _, _, _ => by unfold setAll; rfl
  | _ :: _, [], _, _, _ => by unfold setAll; rfl
  | k :: is, x :: xs, L, i, h => by
    simp only [List.mem_cons, not_or] at h
    unfold setAll
    rw [setAll_out h.2, List.getElem?_set_ne fun e => h.1 e.symm]
theorem setAll_in : ∀ {is : List Nat} {xs : List PV} {L : Lc} {i j : Nat}, is.Nodup → is.length = xs.length → is[j]? = some i → i < L.length → ∃ x, xs[j]? = some x ∧ (setAll L is xs)[i]? = some (some x)
  | [], _, _, _, _, _, _, h, _ => by simp at h
  | _ :: _, [], _, _, _, _, h, _, _ => by simp at h
  | k :: is, x :: xs, L, i, j, nd, hl, h, hi => by
    unfold setAll
    cases j with
    | zero =>
      simp at h
      subst h
      refine ⟨x, rfl, ?_⟩
      rw [setAll_out (List.nodup_cons.mp nd).1, List.getElem?_set_self hi]
    | succ j =>
      obtain ⟨y, h1, h2⟩ := setAll_in (xs := xs) (L := L.set k (some x)) (j := j) (List.nodup_cons.mp nd).2 (by simpa using hl) (by simpa using h) (by rw [List.length_set]; exact hi)
      exact ⟨y, by simpa using h1, h2⟩

/-! ### a call's two worlds -/
/-- the caller's slots that are handed over, as the callee's first ones -/
def owIn (ow : Ow) (is : List Nat) : Ow := fun p => match ow p with
  | some (i :: r) => if i ∈ is then some (is.idxOf i :: r) else none
  | _ => none
def owOut (ow owc : Ow) (is : List Nat) : Ow := fun p => match owc p with
  | some (j :: r) => (is[j]?).map (· :: r)
  | some [] => none
  | none => match ow p with
    | some (i :: r) => if i ∈ is then none else some (i :: r)
    | o => o
theorem idx_at {is : List Nat} {j i : Nat} (nd : is.Nodup) (h : is[j]? = some i) : is.idxOf i = j := by
  have hj := (List.getElem?_eq_some_iff.mp h)
  obtain ⟨hlt, e⟩ := hj
  rw [← e]
  exact List.Nodup.idxOf_getElem nd j hlt
theorem call_in {is : List Nat} {xs : List PV} {us : List V} (R : Rel K w L σ) (nd : is.Nodup) (hg : getAll L is = some xs) (hv : Paired (fun i v => σ[i]? = some (some v)) is us) :
    (⟨w.G, owIn w.ow is, w.H⟩ : Wd).Ok ∧ OwnS K ⟨w.G, owIn w.ow is, w.H⟩ xs us := by
  have key : ∀ {p : Addr} {l : Lb}, owIn w.ow is p = some l → ∃ i r, w.ow p = some (i :: r) ∧ i ∈ is ∧ l = is.idxOf i :: r := fun {p l} e => by
    unfold owIn at e
    split at e
    · rename_i i r e1
      split at e
      · rename_i hi
        cases e
        exact ⟨i, r, e1, hi, rfl⟩
      · cases e
    · cases e
  refine ⟨⟨R.ok.same, fun p l e => ?_, fun p q l e e' => ?_⟩, fun j x hx => ?_⟩
  · obtain ⟨i, r, e1, _, _⟩ := key e
    exact R.ok.mine p _ e1
  · obtain ⟨i, r, e1, h1, rfl⟩ := key e
    obtain ⟨i', r', e2, h2, e3⟩ := key e'
    injection e3 with e4 e5
    subst e5
    have : i = i' := by
      have a1 := List.getElem_idxOf (List.idxOf_lt_length_of_mem h1)
      have a2 := List.getElem_idxOf (List.idxOf_lt_length_of_mem h2)
      rw [← a1, ← a2]
      congr 1
    subst this
    exact R.ok.inj _ _ _ e1 e2
  · obtain ⟨hl, hall⟩ := getAll_get hg
    have hj : j < is.length := by rw [hl]; exact (List.getElem?_eq_some_iff.mp hx).1
    obtain ⟨i, hi⟩ : ∃ i, is[j]? = some i := ⟨is[j], by simp [hj]⟩
    obtain ⟨x', hx', hLi⟩ := hall j i hi
    rw [hx] at hx'
    cases hx'
    obtain ⟨v, hv1, hv2⟩ := paired_get hv hi
    obtain ⟨v', h1, h2⟩ := R.own i x hLi
    rw [hv2] at h1
    cases h1
    refine ⟨v, hv1, h2.carry ⟨Same.refl _, fun p r o e1 e2 => ⟨e2, ?_⟩⟩⟩
    have e1 : w.ow p = some (i :: r) := e1
    show owIn w.ow is p = some (j :: r)
    unfold owIn
    rw [e1]
    simp only
    rw [if_pos (List.mem_of_getElem? hi), idx_at nd hi]
theorem call_out {is : List Nat} {xs ys : List PV} {us : List V} {w' : Wd} (R : Rel K w L σ) (s0 : Step a w) (nd : is.Nodup) (hg : getAll L is = some xs) (hv : Paired (fun i v => σ[i]? = some (some v)) is us) (ok : w'.Ok) (s : Step ⟨w.G, owIn w.ow is, w.H⟩ w') (hy : ys.length = is.length) (own : OwnS K w' ys us) :
    Rel K ⟨w'.G, owOut w.ow w'.ow is, w'.H⟩ (setAll L is ys) σ ∧ Step a ⟨w'.G, owOut w.ow w'.ow is, w'.H⟩ ∧ ∀ ot, Loose ⟨w.G, owIn w.ow is, w.H⟩ w' ot → Loose a ⟨w'.G, owOut w.ow w'.ow is, w'.H⟩ ot := by
  have inN : ∀ {p : Addr}, (∀ i r, w.ow p = some (i :: r) → i ∉ is) → owIn w.ow is p = none := fun {p} h => by
    unfold owIn
    split
    · rename_i i r e1
      rw [if_neg (h i r e1)]
    · rfl
  -- what others of the caller's have
  have oth : ∀ {p : Addr} {i : Nat} {r : Lb} {o : HO}, w.ow p = some (i :: r) → i ∉ is → w.H p = some o → w'.H p = some o ∧ w'.ow p = none ∧ w'.G p = none ∧ owOut w.ow w'.ow is p = some (i :: r) := fun {p i r o} e hi ho => by
    obtain ⟨k1, k2, k3⟩ := s.keep p o ho (inN fun i' r' e' => by rw [e] at e'; cases e'; exact hi)
    refine ⟨k1, k2, k3.trans (R.ok.mine p _ e).1, ?_⟩
    unfold owOut
    rw [k2]
    simp only
    rw [e]
    simp only
    rw [if_neg hi]
  have oth0 : ∀ {p : Addr} {o : HO}, w.ow p = some [] → w.H p = some o → w'.H p = some o ∧ w'.ow p = none ∧ w'.G p = none := fun {p o} e ho => by
    obtain ⟨k1, k2, k3⟩ := s.keep p o ho (inN fun i' r' e' => by rw [e] at e'; cases e')
    exact ⟨k1, k2, k3.trans (R.ok.mine p _ e).1⟩
  have cs : ∀ {p : Addr} {l : Lb}, owOut w.ow w'.ow is p = some l → (∃ j i r, w'.ow p = some (j :: r) ∧ is[j]? = some i ∧ l = i :: r) ∨ (w'.ow p = none ∧ ((∃ i r, w.ow p = some (i :: r) ∧ i ∉ is ∧ l = i :: r) ∨ (w.ow p = some [] ∧ l = []))) := fun {p l} e => by
    unfold owOut at e
    split at e
    · rename_i j r e1
      cases e2 : is[j]? with
      | none => rw [e2] at e; cases e
      | some i =>
        rw [e2] at e
        cases e
        exact .inl ⟨j, i, r, e1, e2, rfl⟩
    · cases e
    · rename_i e1
      refine .inr ⟨e1, ?_⟩
      split at e
      · rename_i i r e2
        split at e
        · cases e
        · rename_i hi
          cases e
          exact .inl ⟨i, r, e2, hi, rfl⟩
      · rename_i z
        cases e2 : w.ow p with
        | none => rw [e2] at e; cases e
        | some l' =>
          cases l' with
          | nil => rw [e2] at e; cases e; exact .inr ⟨rfl, rfl⟩
          | cons i r => exact absurd e2 (z i r)
  refine ⟨⟨⟨ok.same, fun p l e => ?_, fun p q l e e' => ?_⟩, by rw [setAll_len]; exact R.len, fun i x e => ?_⟩, ⟨s0.same.trans s.same, fun p o ho hn => ?_⟩, fun ot lo => ⟨fun p l e => ?_, fun p o ho hn => ?_, lo.inj⟩⟩
  · rcases cs e with ⟨j, i, r, e1, _, _⟩ | ⟨e1, ⟨i, r, e2, hi, _⟩ | ⟨e2, _⟩⟩
    · exact ok.mine p _ e1
    · obtain ⟨_, o, ho⟩ := R.ok.mine p _ e2
      obtain ⟨k1, _, k3, _⟩ := oth e2 hi ho
      exact ⟨k3, o, k1⟩
    · obtain ⟨_, o, ho⟩ := R.ok.mine p _ e2
      obtain ⟨k1, _, k3⟩ := oth0 e2 ho
      exact ⟨k3, o, k1⟩
  · rcases cs e with ⟨j, i, r, e1, hj, rfl⟩ | ⟨e1, ⟨i, r, e2, hi, rfl⟩ | ⟨e2, rfl⟩⟩
    · rcases cs e' with ⟨j', i', r', e1', hj', e3⟩ | ⟨e1', ⟨i', r', e2', hi', e3⟩ | ⟨e2', e3⟩⟩
      · injection e3 with e4 e5
        subst e4 e5
        have := (idx_at nd hj).symm.trans (idx_at nd hj')
        subst this
        exact ok.inj _ _ _ e1 e1'
      · injection e3 with e4 _
        subst e4
        exact absurd (List.mem_of_getElem? hj) hi'
      · cases e3
    · rcases cs e' with ⟨j', i', r', e1', hj', e3⟩ | ⟨e1', ⟨i', r', e2', hi', e3⟩ | ⟨e2', e3⟩⟩
      · injection e3 with e4 _
        subst e4
        exact absurd (List.mem_of_getElem? hj') hi
      · injection e3 with e4 e5
        subst e4 e5
        exact R.ok.inj _ _ _ e2 e2'
      · cases e3
    · rcases cs e' with ⟨j', i', r', e1', hj', e3⟩ | ⟨e1', ⟨i', r', e2', hi', e3⟩ | ⟨e2', e3⟩⟩
      · cases e3
      · cases e3
      · exact R.ok.inj _ _ _ e2 e2'
  · by_cases hi : i ∈ is
    · obtain ⟨j, hj, ej⟩ := List.getElem_of_mem hi
      have hj' : is[j]? = some i := by rw [List.getElem?_eq_getElem hj, ej]
      have hlt : i < L.length := by
        obtain ⟨x', _, hL⟩ := (getAll_get hg).2 j i hj'
        exact (List.getElem?_eq_some_iff.mp hL).1
      obtain ⟨x', h1, h2⟩ := setAll_in (L := L) nd hy.symm hj' hlt
      rw [e] at h2
      cases h2
      obtain ⟨v, h3, h4⟩ := own j _ h1
      obtain ⟨v', h5, h6⟩ := paired_get hv hj'
      rw [h3] at h5
      cases h5
      refine ⟨v, h6, h4.carry ⟨Same.refl _, fun p r o e1 e2 => ⟨e2, ?_⟩⟩⟩
      have e1 : w'.ow p = some (j :: r) := e1
      show owOut w.ow w'.ow is p = some (i :: r)
      unfold owOut
      rw [e1]
      simp only
      rw [hj']
      rfl
    · rw [setAll_out hi] at e
      obtain ⟨v, h1, h2⟩ := R.own i x e
      refine ⟨v, h1, h2.carry ⟨s.same, fun p r o e1 e2 => ?_⟩⟩
      obtain ⟨k1, _, _, k4⟩ := oth e1 hi e2
      exact ⟨k1, k4⟩
  · obtain ⟨k1, k2, k3⟩ := s0.keep p o ho hn
    obtain ⟨m1, m2, m3⟩ := s.keep p o k1 (inN fun i r e => by rw [k2] at e; cases e)
    refine ⟨m1, ?_, m3.trans k3⟩
    show owOut w.ow w'.ow is p = none
    unfold owOut
    rw [m2]
    simp only
    rw [k2]
  · obtain ⟨m1, m2, o, m3⟩ := lo.apart p l e
    refine ⟨?_, m2, o, m3⟩
    show owOut w.ow w'.ow is p = none
    cases z : owOut w.ow w'.ow is p with
    | none => rfl
    | some l' =>
      rcases cs z with ⟨j, i, r, e1, _, _⟩ | ⟨e1, ⟨i, r, e2, hi, _⟩ | ⟨e2, _⟩⟩
      · rw [m1] at e1; cases e1
      · obtain ⟨_, o, ho⟩ := R.ok.mine p _ e2
        have := lo.new p o ho (inN fun i' r' e' => by rw [e2] at e'; cases e'; exact hi)
        rw [this] at e; cases e
      · obtain ⟨_, o, ho⟩ := R.ok.mine p _ e2
        have := lo.new p o ho (inN fun i' r' e' => by rw [e2] at e'; cases e')
        rw [this] at e; cases e
  · obtain ⟨k1, k2, _⟩ := s0.keep p o ho hn
    exact lo.new p o k1 (inN fun i r e => by rw [k2] at e; cases e)
end
end Tk

set_option Elab.async false
set_option linter.all false
set_option maxRecDepth 100000
namespace Tk
open PySem PySem.Spec PyProof.Rows L2
def plainT : Expr → Bool
  | .UnaryOp .Not _ _ => false
  | .BoolOp .. => false
  | .IfExp .. => false
  | .Compare .. => false
  | _ => true

def Es.app : Es → Es → Es
  | .nil, fs => fs
  | .cons e es, fs => .cons e (es.app fs)
def XRok (XR : XRel) : Prop := ∀ (a b : Wd) (e : Exn) (c : Value) (d : Option Addr), a.G = b.G → a.H = b.H → XR a e c d → XR b e c d
section
variable {X : Cx} {XR : XRel} {W : WX} {Φ : Fns}
theorem tN_mono : ∀ {es : Es} {σ : Sl} {H : Hp} {Q Q' : List V → Hp → Prop}, tN X.K XR W Φ es σ H Q → (∀ vs H', vs.length = es.len → Q vs H' → Q' vs H') → tN X.K XR W Φ es σ H Q'
  | .nil, σ, H, Q, Q', h, g => g [] H rfl h
  | .cons e es, σ, H, Q, Q', h, g => by
    obtain ⟨w, L, QQ, XX, rfl, R, hf, hx, hq⟩ := h
    exact ⟨w, L, QQ, XX, rfl, R, hf, hx, fun v h1 w1 L1 R1 s1 q1 hQ => tN_mono (hq v h1 w1 L1 R1 s1 q1 hQ) fun vs H' hl hQ' => g (v :: vs) H' (by rw [List.length_cons, hl]; rfl) hQ'⟩
theorem tN_app : ∀ {es fs : Es} {σ : Sl} {H : Hp} {Q : List V → Hp → Prop}, tN X.K XR W Φ (es.app fs) σ H Q → tN X.K XR W Φ es σ H fun vs H1 => tN X.K XR W Φ fs σ H1 fun us H2 => vs.length = es.len ∧ us.length = fs.len ∧ Q (vs ++ us) H2
  | .nil, fs, σ, H, Q, h => by
    show tN X.K XR W Φ fs σ H _
    exact tN_mono (show tN X.K XR W Φ fs σ H Q from h) fun us H' hl hQ => ⟨rfl, hl, hQ⟩
  | .cons e es, fs, σ, H, Q, h => by
    obtain ⟨w, L, QQ, XX, rfl, R, hf, hx, hq⟩ := h
    refine ⟨w, L, QQ, XX, rfl, R, hf, hx, fun v h1 w1 L1 R1 s1 q1 hQ => ?_⟩
    refine tN_mono (tN_app (hq v h1 w1 L1 R1 s1 q1 hQ)) fun vs H' hl h => tN_mono h fun us H2 hl2 ⟨a, b, c⟩ => ⟨by rw [List.length_cons, a]; rfl, b, c⟩
theorem pickS_len {its : List Itm} : ∀ {js is : List Nat}, pickS its js = some is → is.length = js.length
  | [], _, e => by cases e; rfl
  | j :: js, is, e => by
    unfold pickS at e
    split at e
    · rename_i e1 e2
      cases e
      rw [List.length_cons, List.length_cons, pickS_len e2]
    · cases e
theorem pickD_len {its : List Itm} : ∀ {js : List Nat} {ds : List PyData}, pickD its js = some ds → ds.length = js.length
  | [], _, e => by cases e; rfl
  | j :: js, is, e => by
    unfold pickD at e
    split at e
    · rename_i e1 e2
      cases e
      rw [List.length_cons, List.length_cons, pickD_len e2]
    · cases e
theorem ownS_cat {K : PySem.W.Frag} {w : Wd} {xs : List PV} {us more : List V} (h : OwnS K w xs us) : OwnS K w xs (us ++ more) := fun i x hx => by
  obtain ⟨v, h1, h2⟩ := h i x hx
  exact ⟨v, by rw [List.getElem?_append_left (List.getElem?_eq_some_iff.mp h1).1]; exact h1, h2⟩
theorem ownS_cut {K : PySem.W.Frag} {w : Wd} {xs : List PV} {us more : List V} (h : OwnS K w xs (us ++ more)) (hl : xs.length ≤ us.length) : OwnS K w xs us := fun i x hx => by
  obtain ⟨v, h1, h2⟩ := h i x hx
  have hi := (List.getElem?_eq_some_iff.mp hx).1
  exact ⟨v, by rw [List.getElem?_append_left (by omega)] at h1; exact h1, h2⟩
theorem hd_rep {K : PySem.W.Frag} {a w : Wd} {L : Lc} {σ : Sl} {r : PV} {v : V} {ot : Ow} (lo : Loose a w ot) (o : Own K w.G w.H ot [] r v) : HRep K a w L σ r.hd v := by
  cases r with
  | fz d => cases o with | fz f => exact .fz f
  | mls xs => exact .tm lo o
  | mdc ks xs => exact .tm lo o
/-- a call of the small language, by what the def promises -/
theorem call_imp {x : Str} {es : Es} {ks : List Str} {perm : List Nat} {n : Nat} (hXR : XRok XR) (hpl : perm.length = n) {σ : Sl} {H : Hp} {Q : VK} (h : tE X.K XR W (wE Φ (.call x es ks perm)) σ H Q) :
    tA X.K XR W (wA Φ es) σ H fun vs H1 => spOf X.K XR n (Φ x) (permV perm vs) H1 Q (fun cls d H' => W cls d σ H') := by
  obtain ⟨w, L, QQ, XX, rfl, R, hf, hx, hq⟩ := h
  unfold wE at hf
  refine ⟨w, L, _, XX, rfl, R, hf, hx, fun vs hs w1 L1 R1 s1 q1 ⟨its, L', is, ds, xs, e1, e2, e3, nd, hl, hg, hsp⟩ => ?_⟩
  obtain ⟨G', ow', R2, s2, pr⟩ := q1.prep R1 s1 e1
  have ps := pickS_rel pr e2
  have pd := pickD_rel pr e3
  have hcat : permV perm vs = permV (perm.take (Φ x).nio) vs ++ permV (perm.drop (Φ x).nio) vs := by
    unfold permV
    rw [← List.filterMap_append, List.take_append_drop]
  have lu : (permV (perm.take (Φ x).nio) vs).length = (Φ x).nio := by rw [← paired_len ps]; exact hl
  have ltk : (perm.take (Φ x).nio).length = (Φ x).nio := by rw [← pickS_len e2]; exact hl
  have hlen : (permV perm vs).length = n := by
    rw [hcat, List.length_append, lu, pd.length, pickD_len e3, List.length_drop]
    rw [List.length_take] at ltk
    omega
  obtain ⟨okc, own⟩ := call_in R2 nd hg ps
  have lx : xs.length = (Φ x).nio := by rw [← (getAll_get hg).1]; exact hl
  refine ⟨hlen, ⟨G', owIn ow' is, w1.H⟩, xs, ds, _, _, rfl, okc, lx, ?_, ?_, hsp, fun w' ys r v ot ok' st' hy own' lo o ⟨_, hQ⟩ => ?_, fun w' ys e cls d ok' st' hy own' hxr ⟨_, hX⟩ => ?_⟩
  · rw [hcat]
    exact ownS_cat own
  · rw [hcat, List.drop_append_of_le_length (by omega), List.drop_of_length_le (by omega), List.nil_append]
    exact pd
  · rw [hcat] at own'
    obtain ⟨R3, s3, lo3⟩ := call_out R2 s2 nd hg ps ok' st' (by omega) (ownS_cut own' (by omega))
    exact hq v r.hd ⟨w'.G, owOut ow' w'.ow is, w'.H⟩ (setAll L' is ys) R3 s3 (hd_rep (lo3 ot lo) o) hQ
  · rw [hcat] at own'
    obtain ⟨R3, s3, _⟩ := call_out R2 s2 nd hg ps ok' st' (by omega) (ownS_cut own' (by omega))
    exact hx e cls d ⟨w'.G, owOut ow' w'.ow is, w'.H⟩ (setAll L' is ys) R3 s3 (hXR w' _ _ _ _ rfl rfl hxr) hX
variable {k : Nat} {f : Addr} {fd : FuncData} {ps ks : List Str} {x : Str} {p pos : Pos} {args : List Expr} {kws : List Keyword} {perm : List Nat} {es es1 es2 : Es}
theorem se_call (hXR : XRok XR) (Fg : FnG X.prog X.w X.K X.mg X.base k f fd ps (spOf X.K XR ps.length (Φ x))) (hr : Rm k X.A) (tk : Takes X W) (hg : Gl X x) (hm : X.mg x = some (.ref f)) (hk : PySem.W.keepIn X.K (.ref f) = true)
    (he : es = es1.app es2) (ha : PA X args (tN X.K XR W Φ es1)) (hkw : PK X kws (tN X.K XR W Φ es2)) (h1 : es1.len = args.length) (h2 : es2.len = ks.length) (h0 : args = [] → es1 = .nil) (hks : kwNames kws = some ks) (hn : args.all noStar = true) (hpl : perm.length = ps.length)
    (hb : BindP fd ps args.length ks perm) (hdb : (x == ("__debug__" : Str)) = false) : SE X XR W Φ (.call x es ks perm) (.Call (.Name x p) args kws pos) := by
  have nest : ∀ {σ : Sl} {H : Hp} {Q : VK}, tE X.K XR W (wE Φ (.call x es ks perm)) σ H Q → tN X.K XR W Φ es1 σ H fun vs H1 => tN X.K XR W Φ es2 σ H1 fun zs H2 => vs.length = es1.len ∧ zs.length = es2.len ∧ spOf X.K XR ps.length (Φ x) (permV perm (vs ++ zs)) H2 Q (fun cls d H' => W cls d σ H') := fun {σ H Q} h => by
    have := wA_nest (call_imp hXR hpl h)
    rw [he] at this
    exact tN_app this
  cases args with
  | nil =>
    have e1 := h0 rfl
    subst e1
    refine (pe_callG0 Fg hr tk hg hm hk hkw hks hb hdb).imp fun σ H Q h => ?_
    exact tN_mono (nest h) fun zs H2 hl ⟨_, l2, q⟩ => ⟨rfl, by rw [l2]; exact h2, q⟩
  | cons e es =>
    refine (pe_callG Fg hr tk hg hm hk ha hkw hks hn hb hdb).imp fun σ H Q h => ?_
    exact tN_mono (nest h) fun vs H1 hl h => tN_mono h fun zs H2 hl2 ⟨l1, l2, q⟩ => ⟨by rw [l1]; exact h1, by rw [l2]; exact h2, q⟩
end

/-! ### the text against the small language -/
structure Cv where
  N : List Str
  sc : Scope
  own : Option Scope
  blt : List Str
  gcs : List (Str × Int)
  fns : List (Str × List (Nat × List Str × List Nat))
def Cv.kd (cv : Cv) (x : Str) : Option NameKind := cv.sc.names.lookup x
def Cv.vis (cv : Cv) (x : Str) : Bool := match cv.kd x with
  | some .local => true
  | some .cell => true
  | some .free => true
  | _ => false
def Cv.gl (cv : Cv) (x : Str) : Bool := match cv.kd x with
  | some .globalImplicit => true
  | _ => false
def Cv.st (cv : Cv) (x : Str) : Bool := match cv.kd x with
  | some .local => true
  | some .cell => (match cv.own with
    | none => true
    | some s => (match s.names.lookup x with
      | some .cell => true
      | _ => false))
  | _ => false
def Cv.lcl (cv : Cv) (x : Str) : Bool := match cv.kd x with
  | some .local => true
  | _ => false
def Cv.bl (cv : Cv) (x : Str) : Bool := cv.gl x && cv.blt.contains x
def plainN (x : Str) : Bool := !(x == ("__debug__" : Str)) && !(x == ("__classdict__" : Str)) && !(x == ("__name__" : Str))
def Cv.nm (cv : Cv) (i : Nat) (x : Str) : Bool := decide (cv.N[i]? = some x) && cv.vis x && plainN x
def Cv.tg (cv : Cv) (i : Nat) (x : Str) : Bool := decide (cv.N[i]? = some x) && cv.st x
def cstEq : Const → PyData → Bool
  | .int i, .int j => decide (i = j)
  | .str x, .str y => decide (x = y)
  | .bool x, .bool y => decide (x = y)
  | .none, .none => true
  | _, _ => false
def Bi.name : Bi → Str
  | .len => "len"
  | .abs => "abs"
  | .int1 => "int"
  | .repr => "repr"
  | .tuple1 => "tuple"
  | .list1 => "list"
  | .sorted1 => "sorted"
  | .min2 => "min"
  | .max2 => "max"
  | .max1 => "max"
  | .min1 => "min"
  | .sum1 => "sum"
  | .all1 => "all"
  | .any1 => "any"
  | .str1 => "str"
theorem bi_boot (b : Bi) : bootBuiltins b.name = some b.val := by cases b <;> rfl
def keyS : Option Expr → Option Str
  | some (.Constant (.str x) _ _) => some x
  | _ => none
def keysOk : List Str → List (Option Expr) → Bool
  | [], [] => true
  | k :: ks, o :: os => (match keyS o with
    | some x => decide (x = k)
    | none => false) && keysOk ks os
  | _, _ => false
def Cv.blk (cv : Cv) (scope : Scope) : Cv := { cv with sc := relS scope cv.sc, own := some scope }
mutual
def cG (cv : Cv) : Tg → Expr → Bool
  | .nm i, ex => (match ex with
    | .Name x _ => cv.tg i x
    | _ => false)
  | .tp ts, ex => (match ex with
    | .Tuple es _ _ => es.all noStar && cGs cv ts es
    | _ => false)
def cGs (cv : Cv) : Tgs → List Expr → Bool
  | .nil, es => (match es with
    | [] => true
    | _ => false)
  | .cons t ts, es => (match es with
    | e :: es => cG cv t e && cGs cv ts es
    | [] => false)
end
def noSet : Expr → Bool
  | .Set .. => false
  | _ => true
/-- may stand as a test -/
def tst : E → Bool
  | .ite .. => false
  | _ => true
def isTup : Expr → Bool
  | .Tuple .. => true
  | _ => false
mutual
def cE (cv : Cv) : E → Expr → Bool
  | .nm i, ex => (match ex with
    | .Name x _ => cv.nm i x
    | _ => false)
  | .cst d, ex => (match ex with
    | .Constant c _ _ => cstEq c d
    | _ => false)
  | .gc y i, ex => (match ex with
    | .Name x _ => decide (x = y) && cv.gl x && decide (cv.gcs.lookup x = some i) && plainN x
    | _ => false)
  | .tup es, ex => (match ex with
    | .Tuple exs _ _ => cEs cv es exs
    | _ => false)
  | .lst es, ex => (match ex with
    | .List exs _ => cEs cv es exs
    | _ => false)
  | .dct ks es, ex => (match ex with
    | .Dict keys values _ => (match ks, es, keys, values with
      | [], .nil, [], [] => true
      | _, _, [], _ => false
      | _, _, _ :: _, _ => keysOk ks keys && decide (ks.length = es.len) && decide (keys.length ≤ 15) && decide (keys.length = values.length) && cEs cv es values)
    | _ => false)
  | .bin o a b, ex => (match ex with
    | .BinOp ea o' eb _ => decide (o = o') && cE cv a ea && cE cv b eb
    | _ => false)
  | .frz a, ex => plainT ex && cE cv a ex
  | .neg a, ex => (match ex with
    | .UnaryOp .USub ea _ => cE cv a ea
    | _ => false)
  | .inv a, ex => (match ex with
    | .UnaryOp .Invert ea _ => cE cv a ea
    | _ => false)
  | .not a, ex => (match ex with
    | .UnaryOp .Not ea _ => tst a && cE cv a ea
    | _ => false)
  | .and a b, ex => (match ex with
    | .BoolOp .And [ea, eb] _ => tst a && tst b && cE cv a ea && cE cv b eb
    | .BoolOp .And (ea :: eb :: ec :: more) pos => tst a && cE cv a ea && cE cv b (.BoolOp .And (eb :: ec :: more) pos)
    | _ => false)
  | .or a b, ex => (match ex with
    | .BoolOp .Or [ea, eb] _ => tst a && tst b && cE cv a ea && cE cv b eb
    | .BoolOp .Or (ea :: eb :: ec :: more) pos => tst a && cE cv a ea && cE cv b (.BoolOp .Or (eb :: ec :: more) pos)
    | _ => false)
  | .cmp o a b, ex => (match ex with
    | .Compare ea [o'] [eb] _ => decide (o = o') && !behindInMarks o eb && cE cv a ea && cE cv b eb
    | _ => false)
  | .cmp2 o o' a b c, ex => (match ex with
    | .Compare ea [p, p'] [eb, ec] _ => decide (o = p) && decide (o' = p') && !lastMarks [o, o'] [eb, ec] && cE cv a ea && cE cv b eb && cE cv c ec
    | _ => false)
  | .cmp3 o o' o'' a b c d, ex => (match ex with
    | .Compare ea [p, p', p''] [eb, ec, ed] _ => decide (o = p) && decide (o' = p') && decide (o'' = p'') && !lastMarks [o, o', o''] [eb, ec, ed] && cE cv a ea && cE cv b eb && cE cv c ec && cE cv d ed
    | _ => false)
  | .isN a ng, ex => (match ex with
    | .Compare ea [o] [.Constant .none _ _] _ => decide (o = if ng = true then .IsNot else .Is) && cE cv a ea
    | _ => false)
  | .ite c a b, ex => (match ex with
    | .IfExp ec ea eb _ => tst c && cE cv c ec && cE cv a ea && cE cv b eb
    | _ => false)
  | .ix a b, ex => (match ex with
    | .Subscript ea eb _ => noSlice eb && cE cv a ea && cE cv b eb
    | _ => false)
  | .sl a lo hi, ex => (match ex with
    | .Subscript ea (.Slice elo ehi none _) _ => cE cv a ea && cO cv lo elo && cO cv hi ehi
    | _ => false)
  | .rev a, ex => (match ex with
    | .Subscript ea (.Slice none none (some (.UnaryOp .USub (.Constant (.int i) _ _) _)) _) _ => decide (i = 1) && cE cv a ea
    | _ => false)
  | .bi b es, ex => (match ex with
    | .Call (.Name x _) (ea :: exs) [] _ => decide (x = b.name) && cv.bl x && plainN x && (ea :: exs).all noStar && cEs cv es (ea :: exs)
    | _ => false)
  | .isi a T, ex => (match ex with
    | .Call (.Name x _) [ea, .Name y _] [] _ => decide (x = "isinstance") && decide (y = Str.ofString T) && tyNames.contains T && cv.bl x && cv.bl y && noStar ea && cE cv a ea
    | _ => false)
  | .lrg it, ex => (match ex with
    | .Call (.Name x _) [ea] [] _ => decide (x = "list") && cv.bl x && noStar ea && cR cv it ea
    | _ => false)
  | .trg it, ex => (match ex with
    | .Call (.Name x _) [ea] [] _ => decide (x = "tuple") && cv.bl x && noStar ea && cR cv it ea
    | _ => false)
  | .call f es ks perm, ex => (match ex with
    | .Call (.Name x _) args kws _ => decide (x = f) && cv.gl x && plainN x && args.all noStar && decide (kwNames kws = some ks) && decide (es.len = args.length + ks.length) && (match cv.fns.lookup x with
      | some shapes => shapes.contains (args.length, ks, perm)
      | none => false) && cAr cv es args kws
    | _ => false)
  | .app o a, ex => (match ex with
    | .Call (.Attribute eo m apos) [ea] [] pos => decide (m = "append") && plainO eo && noStar ea && (apos.endLine == pos.line) && cE cv o eo && cE cv a ea
    | _ => false)
  | .appn o i, ex => (match ex with
    | .Call (.Attribute eo m apos) [.Name x _] [] pos => decide (m = "append") && plainO eo && (apos.endLine == pos.line) && cv.nm i x && cE cv o eo
    | _ => false)
  | .appd o i j, ex => (match ex with
    | .Call (.Attribute eo m apos) [.BinOp (.Name x _) .FloorDiv (.Name y _) _] [] pos => decide (m = "append") && plainO eo && (apos.endLine == pos.line) && cv.nm i x && cv.nm j y && cE cv o eo
    | _ => false)
  | .nen o ne, ex => (match ex with
    | .Compare eo [op] [.List [] _] _ => decide (op = if ne then .NotEq else .Eq) && cE cv o eo
    | _ => false)
  | .sset a, ex => (match ex with
    | .Call (.Name x _) [.Call (.Name y _) [ea] [] _] [] _ => decide (x = "sorted") && decide (y = "set") && cv.bl x && cv.bl y && noStar ea && cE cv a ea
    | _ => false)
  | .dget o k d, ex => (match ex with
    | .Call (.Attribute eo m apos) [ek, ed] [] pos => decide (m = "get") && plainO eo && noStar ek && noStar ed && (apos.endLine == pos.line) && cE cv o eo && cE cv k ek && cE cv d ed
    | _ => false)
  | .ext o a, ex => (match ex with
    | .Call (.Attribute eo m apos) [ea] [] pos => decide (m = "extend") && plainO eo && noStar ea && (apos.endLine == pos.line) && cE cv o eo && cE cv a ea
    | _ => false)
  | .pop o, ex => (match ex with
    | .Call (.Attribute eo m apos) [] [] pos => decide (m = "pop") && plainO eo && (apos.endLine == pos.line) && cE cv o eo
    | _ => false)
  | .popi o a, ex => (match ex with
    | .Call (.Attribute eo m apos) [ea] [] pos => decide (m = "pop") && plainO eo && noStar ea && (apos.endLine == pos.line) && cE cv o eo && cE cv a ea
    | _ => false)
  | .lc elt tg it ifs own, ex => (match ex with
    | .ListComp eelt [⟨etg, eit, eifs, 0⟩] scope _ => blkC cv.N cv.sc scope own && tg.vars.all (fun i => (own.map (·.2)).contains i) && noSet eit && cI cv it etg eit && cG (cv.blk scope) tg etg && cT (cv.blk scope) ifs eifs && cE (cv.blk scope) elt eelt
    | _ => false)
def cEs (cv : Cv) : Es → List Expr → Bool
  | .nil, exs => (match exs with
    | [] => true
    | _ => false)
  | .cons e es, exs => (match exs with
    | ex :: exs => noStar ex && cE cv e ex && cEs cv es exs
    | [] => false)
/-- a part of a slice -/
def cO (cv : Cv) : Es → Option Expr → Bool
  | .nil, o => (match o with
    | none => true
    | some _ => false)
  | .cons e _, o => (match o with
    | some ex => cE cv e ex
    | none => false)
/-- a comprehension's tests -/
def cT (cv : Cv) : Es → List Expr → Bool
  | .nil, exs => (match exs with
    | [] => true
    | _ => false)
  | .cons e es, exs => (match es, exs with
    | .nil, [ex] => tst e && cE cv e ex
    | _, _ => false)
/-- positional arguments, then those by name -/
def cAr (cv : Cv) : Es → List Expr → List Keyword → Bool
  | .nil, args, kws => (match args, kws with
    | [], [] => true
    | _, _ => false)
  | .cons e es, args, kws => (match args, kws with
    | a :: as, kws => noStar a && cE cv e a && cAr cv es as kws
    | [], ⟨_, v, _⟩ :: kws => cE cv e v && cAr cv es [] kws
    | [], [] => false)
def cR (cv : Cv) : It → Expr → Bool
  | .rg1 a, ex => (match ex with
    | .Call (.Name x _) [ea] [] _ => decide (x = "range") && cv.bl x && noStar ea && cE cv a ea
    | _ => false)
  | .rg2 a b, ex => (match ex with
    | .Call (.Name x _) [ea, eb] [] _ => decide (x = "range") && cv.bl x && noStar ea && noStar eb && cE cv a ea && cE cv b eb
    | _ => false)
  | .rg3 a b c, ex => (match ex with
    | .Call (.Name x _) [ea, eb, ec] [] _ => decide (x = "range") && cv.bl x && noStar ea && noStar eb && noStar ec && cE cv a ea && cE cv b eb && cE cv c ec
    | _ => false)
  | .val _, _ => false
  | .enu _, _ => false
  | .zip _, _ => false
def cI (cv : Cv) : It → Expr → Expr → Bool
  | .val e, tg, ex => cE cv e ex
  | .rg1 a, tg, ex => (match ex with
    | .Call (.Name x _) [ea] [] _ => decide (x = "range") && cv.bl x && noStar ea && cE cv a ea
    | _ => false)
  | .rg2 a b, tg, ex => (match ex with
    | .Call (.Name x _) [ea, eb] [] _ => decide (x = "range") && cv.bl x && noStar ea && noStar eb && cE cv a ea && cE cv b eb
    | _ => false)
  | .rg3 a b c, tg, ex => (match ex with
    | .Call (.Name x _) [ea, eb, ec] [] _ => decide (x = "range") && cv.bl x && noStar ea && noStar eb && noStar ec && cE cv a ea && cE cv b eb && cE cv c ec
    | _ => false)
  | .enu e, tg, ex => (match ex with
    | .Call (.Name x _) [ea] [] _ => decide (x = "enumerate") && isTup tg && cv.bl x && noStar ea && cE cv e ea
    | _ => false)
  | .zip es, tg, ex => (match ex with
    | .Call (.Name x _) [ea, eb] [] _ => decide (x = "zip") && isTup tg && cv.bl x && noStar ea && noStar eb && cEs cv es [ea, eb]
    | _ => false)
end
end Tk

set_option Elab.async false
set_option linter.all false
set_option maxRecDepth 100000
namespace Tk
open PySem PySem.Spec PyProof.Rows L2

structure CxOk (X : Cx) (XR : XRel) (W : WX) (Φ : Fns) (k : Nat) (cv : Cv) : Prop where
  pl : Place X
  rm : Rm k X.A
  N : X.N = cv.N
  nd : cv.N.Nodup
  sc : X.env.scope = cv.sc
  st : ∀ x, cv.st x = true → Loc X.env.scope x ∧ (X.fn x = true ∨ X.env.scope.names.lookup x = some .local)
  blt : ∀ x ∈ cv.blt, X.mg x = none
  gc : ∀ x i, cv.gcs.lookup x = some i → ∃ t, X.mg x = some (.int i t)
  tk : Takes X W
  xr : XRok XR
  calls : ∀ x shapes, cv.fns.lookup x = some shapes → ∃ f fd ps, X.mg x = some (.ref f) ∧ PySem.W.keepIn X.K (.ref f) = true ∧ FnG X.prog X.w X.K X.mg X.base k f fd ps (spOf X.K XR ps.length (Φ x)) ∧ ∀ n ks perm, (n, ks, perm) ∈ shapes → perm.length = ps.length ∧ BindP fd ps n ks perm
section
variable {X : Cx} {XR : XRel} {W : WX} {Φ : Fns} {k : Nat} {cv : Cv}
theorem CxOk.visN (C : CxOk X XR W Φ k cv) {x : Str} (h : cv.vis x = true) : Vis X.env.scope x := by
  unfold Vis
  rw [C.sc]
  unfold Cv.vis Cv.kd at h
  split at h
  · exact .inl (by assumption)
  · exact .inr (.inl (by assumption))
  · exact .inr (.inr (by assumption))
  · cases h
theorem CxOk.glN (C : CxOk X XR W Φ k cv) {x : Str} (h : cv.gl x = true) : Gl X x := by
  show X.env.scope.names.lookup x = _
  rw [C.sc]
  unfold Cv.gl Cv.kd at h
  split at h
  · assumption
  · cases h
theorem plain_nm {x : Str} (h : plainN x = true) : (x == ("__debug__" : Str)) = false ∧ (x == ("__classdict__" : Str)) = false ∧ x ≠ "__name__" := by
  unfold plainN at h
  simp only [Bool.and_eq_true, Bool.not_eq_true'] at h
  exact ⟨h.1.1, h.1.2, by simpa using h.2⟩
theorem CxOk.nmN (C : CxOk X XR W Φ k cv) {i : Nat} {x : Str} (h : cv.nm i x = true) : X.N[i]? = some x ∧ Vis X.env.scope x ∧ (x == ("__debug__" : Str)) = false ∧ (x == ("__classdict__" : Str)) = false := by
  unfold Cv.nm at h
  simp only [Bool.and_eq_true, decide_eq_true_eq] at h
  obtain ⟨h1, h2, _⟩ := plain_nm h.2
  exact ⟨by rw [C.N]; exact h.1.1, C.visN h.1.2, h1, h2⟩
theorem CxOk.blN (C : CxOk X XR W Φ k cv) {x : Str} (h : cv.bl x = true) : Gl X x ∧ X.mg x = none := by
  unfold Cv.bl at h
  simp only [Bool.and_eq_true] at h
  exact ⟨C.glN h.1, C.blt x (by simpa using h.2)⟩
theorem CxOk.blk (C : CxOk X XR W Φ k cv) {scope : Scope} {own : List (Str × Nat)} (ok : BlkOk X.N X.env.scope scope own) (s : Shared) (H : Hp) (c : Addr) (cl : List (Str × Addr)) (fp : List Addr) : CxOk (X.blk s H scope (compEnvC scope cl c X.env) fp) XR (fun _ _ _ _ => False) Φ k (cv.blk scope) where
  pl := ⟨C.pl.calm, C.pl.units, C.pl.guards, C.pl.away⟩
  rm := C.rm
  N := C.N
  nd := C.nd
  sc := by
    show relS scope X.env.scope = relS scope cv.sc
    rw [C.sc]
  st := fun x h => by
    unfold Cv.st Cv.kd Cv.blk at h
    show Loc (relS scope X.env.scope) x ∧ ((scope.names.lookup x == some .cell) = true ∨ (relS scope X.env.scope).names.lookup x = some .local)
    rw [C.sc]
    simp only at h
    split at h
    · rename_i e
      exact ⟨.inl e, .inr e⟩
    · rename_i e
      split at h
      · rename_i e2
        exact ⟨.inr e, .inl (by rw [e2]; rfl)⟩
      · cases h
    · cases h
  blt := C.blt
  gc := C.gc
  tk := takes0
  xr := C.xr
  calls := C.calls
theorem noStar_each {env : Env} : ∀ {es : List Expr}, es.all noStar = true → (assignEach es env).length = es.length ∧ (assignEach es env).findIdx? (·.1) = none
  | [], _ => ⟨rfl, rfl⟩
  | e :: es, h => by
    simp only [List.all_cons, Bool.and_eq_true] at h
    obtain ⟨h1, h2⟩ := noStar_each (env := env) h.2
    have e1 : assignEach (e :: es) env = (false, assign e env) :: assignEach es env := by
      have := h.1
      cases e <;> first | rfl | (simp [noStar] at this)
    rw [e1]
    refine ⟨by rw [List.length_cons, List.length_cons, h1], ?_⟩
    rw [List.findIdx?_cons]
    simp only [Bool.false_eq_true, if_false]
    rw [h2]
    rfl
theorem assign_cons {e : Expr} {es : List Expr} {env : Env} (h : noStar e = true) : (assignEach (e :: es) env).map (·.2) = assign e env :: (assignEach es env).map (·.2) := by
  cases e <;> first | rfl | (simp [noStar] at h)
mutual
theorem sG : ∀ (t : Tg) {X : Cx} {XR : XRel} {W : WX} {cv : Cv} {ex : Expr}, CxOk X XR W Φ k cv → cG cv t ex = true → PG X ex (gT X.K t)
  | .nm i, X, XR, W, cv, ex, C, h => by
    unfold cG at h
    split at h
    · unfold Cv.tg at h
      simp only [Bool.and_eq_true, decide_eq_true_eq] at h
      obtain ⟨h1, h2⟩ := C.st _ h.2
      exact gt_nm (by rw [C.N]; exact C.nd) (by rw [C.N]; exact h.1) h1 h2
    · cases h
  | .tp ts, X, XR, W, cv, ex, C, h => by
    unfold cG at h
    split at h
    · simp only [Bool.and_eq_true] at h
      obtain ⟨h1, h2⟩ := sGs ts C h.2 h.1
      obtain ⟨h3, h4⟩ := noStar_each (env := X.env) h.1
      exact gt_tp C.pl.calm h1 (by rw [h3, h2]) h4
    · cases h
theorem sGs : ∀ (t : Tgs) {X : Cx} {XR : XRel} {W : WX} {cv : Cv} {es : List Expr}, CxOk X XR W Φ k cv → cGs cv t es = true → es.all noStar = true → PGs X es (gTs X.K t) ∧ es.length = t.len
  | .nil, X, XR, W, cv, es, C, h, hs => by
    unfold cGs at h
    split at h
    · exact ⟨gts_nil, rfl⟩
    · cases h
  | .cons t ts, X, XR, W, cv, es, C, h, hs => by
    unfold cGs at h
    split at h
    · simp only [Bool.and_eq_true] at h
      simp only [List.all_cons, Bool.and_eq_true] at hs
      obtain ⟨h1, h2⟩ := sGs ts C h.2 hs.2
      exact ⟨gts_cons (sG t C h.1) h1 (assign_cons hs.1), by rw [List.length_cons, h2]; rfl⟩
    · cases h
end
theorem fold_no {e : Expr} {env : Env} (h : noSet e = true) : ∀ x, foldedSetIterable e env x = pure x := by
  intro x
  cases e <;> first | rfl | (simp [noSet] at h)
def Snd (X : Cx) (XR : XRel) (W : WX) (Φ : Fns) (e : E) (ex : Expr) : Prop := SE X XR W Φ e ex ∧ (tst e = true → ST X XR W Φ e ex) ∧ ∀ op vals pos, ex = .BoolOp op vals pos → SW X XR W Φ e ex
/-- neither not, and, or, a comparison nor a choice: its truth is asked of its value -/
theorem Snd.of {e : E} {ex : Expr} (h : SE X XR W Φ e ex) (hp : plainT ex = true) : Snd X XR W Φ e ex := by
  refine ⟨h, fun _ => st_val h fun whole => ?_, fun op vals pos e => by subst e; cases hp⟩
  cases ex <;> first | rfl | (simp [plainT] at hp; done) | skip
  · rename_i op o pos
    cases op <;> first | rfl | (simp [plainT] at hp)
theorem app_len : ∀ (es fs : Es), (es.app fs).len = es.len + fs.len
  | .nil, fs => by show fs.len = 0 + fs.len; omega
  | .cons e es, fs => by show (es.app fs).len + 1 = es.len + 1 + fs.len; rw [app_len es fs]; omega
theorem key_of {k : Str} {o : Option Expr} (h : (match keyS o with | some x => decide (x = k) | none => false) = true) : ∃ j p, o = some (.Constant (.str k) j p) := by
  unfold keyS at h
  split at h
  · rename_i x e
    split at e
    · cases e
      have := of_decide_eq_true h
      subst this
      exact ⟨_, _, rfl⟩
    · cases e
  · cases h
mutual
theorem sE : ∀ (e : E) {X : Cx} {W : WX} {cv : Cv} {ex : Expr}, CxOk X XR W Φ k cv → cE cv e ex = true → Snd X XR W Φ e ex
  | .nm i, X, W, cv, ex, C, h => by
    unfold cE at h
    split at h
    · obtain ⟨h1, h2, h3, h4⟩ := C.nmN h
      exact .of (se_nm h1 h2 h3 h4) rfl
    · cases h
  | .cst d, X, W, cv, ex, C, h => by
    unfold cE at h
    split at h
    · rename_i c j p
      refine .of (se_cst ?_) rfl
      unfold cstEq at h
      split at h <;> first | (have := of_decide_eq_true h; subst this; rfl) | rfl | cases h
    · cases h
  | .gc y i, X, W, cv, ex, C, h => by
    unfold cE at h
    split at h
    · simp only [Bool.and_eq_true, decide_eq_true_eq] at h
      obtain ⟨⟨⟨rfl, h2⟩, h3⟩, h4⟩ := h
      obtain ⟨t, ht⟩ := C.gc _ _ h3
      exact .of (se_gc (C.glN h2) ht (plain_nm h4).1) rfl
    · cases h
  | .tup es, X, W, cv, ex, C, h => by
    unfold cE at h
    split at h
    · exact .of (se_tup (sEs es C h).1) rfl
    · cases h
  | .lst es, X, W, cv, ex, C, h => by
    unfold cE at h
    split at h
    · exact .of (se_lst (sEs es C h).1) rfl
    · cases h
  | .dct ks es, X, W, cv, ex, C, h => by
    unfold cE at h
    split at h
    · split at h
      · exact .of se_dct0 rfl
      · cases h
      · simp only [Bool.and_eq_true, decide_eq_true_eq] at h
        obtain ⟨⟨⟨⟨h1, h2⟩, h3⟩, h4⟩, h5⟩ := h
        obtain ⟨h6, h7⟩ := sDs es C h1 h4 h5
        exact .of (se_dct h6 h2 h7 h4 (by simp) h3) rfl
    · cases h
  | .bin o a b, X, W, cv, ex, C, h => by
    unfold cE at h
    split at h
    · simp only [Bool.and_eq_true, decide_eq_true_eq] at h
      obtain ⟨⟨rfl, h2⟩, h3⟩ := h
      exact .of (se_bin (sE a C h2).1 (sE b C h3).1) rfl
    · cases h
  | .frz a, X, W, cv, ex, C, h => by
    unfold cE at h
    simp only [Bool.and_eq_true] at h
    exact .of (se_frz (sE a C h.2).1) h.1
  | .neg a, X, W, cv, ex, C, h => by
    unfold cE at h
    split at h
    · exact .of (se_neg (sE a C h).1) rfl
    · cases h
  | .inv a, X, W, cv, ex, C, h => by
    unfold cE at h
    split at h
    · exact .of (se_inv (sE a C h).1) rfl
    · cases h
  | .not a, X, W, cv, ex, C, h => by
    unfold cE at h
    split at h
    · simp only [Bool.and_eq_true] at h
      have := sE a C h.2
      exact ⟨se_not this.1, fun _ => st_not (this.2.1 h.1), fun op vals pos e => by cases e⟩
    · cases h
  | .and a b, X, W, cv, ex, C, h => by
    unfold cE at h
    split at h
    · simp only [Bool.and_eq_true] at h
      obtain ⟨⟨⟨h1, h2⟩, h3⟩, h4⟩ := h
      have sa := sE a C h3
      have sb := sE b C h4
      exact ⟨se_and sa.1 (pe_one sb.1), fun _ => (sw_and (sa.2.1 h1) (pw_and1 (sb.2.1 h2))).pt, fun op vals pos e => sw_and (sa.2.1 h1) (pw_and1 (sb.2.1 h2))⟩
    · simp only [Bool.and_eq_true] at h
      obtain ⟨⟨h1, h2⟩, h3⟩ := h
      have sa := sE a C h2
      have sb := sE b C h3
      exact ⟨se_and sa.1 sb.1, fun _ => (sw_and (sa.2.1 h1) (sb.2.2 _ _ _ rfl)).pt, fun op vals pos e => sw_and (sa.2.1 h1) (sb.2.2 _ _ _ rfl)⟩
    · cases h
  | .or a b, X, W, cv, ex, C, h => by
    unfold cE at h
    split at h
    · simp only [Bool.and_eq_true] at h
      obtain ⟨⟨⟨h1, h2⟩, h3⟩, h4⟩ := h
      have sa := sE a C h3
      have sb := sE b C h4
      exact ⟨se_or sa.1 (pe_one sb.1), fun _ => (sw_or (sa.2.1 h1) (pw_or1 (sb.2.1 h2))).pt, fun op vals pos e => sw_or (sa.2.1 h1) (pw_or1 (sb.2.1 h2))⟩
    · simp only [Bool.and_eq_true] at h
      obtain ⟨⟨h1, h2⟩, h3⟩ := h
      have sa := sE a C h2
      have sb := sE b C h3
      exact ⟨se_or sa.1 sb.1, fun _ => (sw_or (sa.2.1 h1) (sb.2.2 _ _ _ rfl)).pt, fun op vals pos e => sw_or (sa.2.1 h1) (sb.2.2 _ _ _ rfl)⟩
    · cases h
  | .cmp o a b, X, W, cv, ex, C, h => by
    unfold cE at h
    split at h
    · simp only [Bool.and_eq_true, decide_eq_true_eq, Bool.not_eq_true'] at h
      obtain ⟨⟨⟨rfl, h2⟩, h3⟩, h4⟩ := h
      have sa := sE a C h3
      have sb := sE b C h4
      exact ⟨se_cmp C.pl sa.1 sb.1 h2, fun _ => st_cmp C.pl sa.1 sb.1 h2, fun op vals pos e => by cases e⟩
    · cases h
  | .cmp2 o o' a b c, X, W, cv, ex, C, h => by
    unfold cE at h
    split at h
    · simp only [Bool.and_eq_true, decide_eq_true_eq, Bool.not_eq_true'] at h
      obtain ⟨⟨⟨⟨⟨rfl, rfl⟩, h2⟩, h3⟩, h4⟩, h5⟩ := h
      have sa := sE a C h3
      have sb := sE b C h4
      have sc := sE c C h5
      exact ⟨se_cmp2 C.pl sa.1 sb.1 sc.1 h2, fun _ => st_cmp2 C.pl sa.1 sb.1 sc.1 h2, fun op vals pos e => by cases e⟩
    · cases h
  | .cmp3 o o' o'' a b c d, X, W, cv, ex, C, h => by
    unfold cE at h
    split at h
    · simp only [Bool.and_eq_true, decide_eq_true_eq, Bool.not_eq_true'] at h
      obtain ⟨⟨⟨⟨⟨⟨⟨rfl, rfl⟩, rfl⟩, h2⟩, h3⟩, h4⟩, h5⟩, h6⟩ := h
      have sa := sE a C h3
      have sb := sE b C h4
      have sc := sE c C h5
      have sd := sE d C h6
      exact ⟨se_cmp3 C.pl sa.1 sb.1 sc.1 sd.1 h2, fun _ => st_cmp3 C.pl sa.1 sb.1 sc.1 sd.1 h2, fun op vals pos e => by cases e⟩
    · cases h
  | .isN a ng, X, W, cv, ex, C, h => by
    unfold cE at h
    split at h
    · simp only [Bool.and_eq_true, decide_eq_true_eq] at h
      obtain ⟨rfl, h2⟩ := h
      have sa := sE a C h2
      exact ⟨se_isN sa.1, fun _ => st_isN sa.1, fun op vals pos e => by cases e⟩
    · cases h
  | .ite c a b, X, W, cv, ex, C, h => by
    unfold cE at h
    split at h
    · simp only [Bool.and_eq_true] at h
      obtain ⟨⟨⟨h1, h2⟩, h3⟩, h4⟩ := h
      exact ⟨se_ite ((sE c C h2).2.1 h1) (sE a C h3).1 (sE b C h4).1, fun z => (by simp [tst] at z), fun op vals pos e => by cases e⟩
    · cases h
  | .ix a b, X, W, cv, ex, C, h => by
    unfold cE at h
    split at h
    · simp only [Bool.and_eq_true] at h
      obtain ⟨⟨h1, h2⟩, h3⟩ := h
      exact .of (se_ix C.pl (sE a C h2).1 (sE b C h3).1 h1) rfl
    · cases h
  | .sl a lo hi, X, W, cv, ex, C, h => by
    unfold cE at h
    split at h
    · simp only [Bool.and_eq_true] at h
      obtain ⟨⟨h1, h2⟩, h3⟩ := h
      exact .of (se_sl (sE a C h1).1 (sO lo C h2) (sO hi C h3)) rfl
    · cases h
  | .rev a, X, W, cv, ex, C, h => by
    unfold cE at h
    split at h
    · simp only [Bool.and_eq_true, decide_eq_true_eq] at h
      obtain ⟨rfl, h2⟩ := h
      exact .of (se_rev (sE a C h2).1) rfl
    · cases h
  | .bi b es, X, W, cv, ex, C, h => by
    unfold cE at h
    split at h
    · simp only [Bool.and_eq_true, decide_eq_true_eq] at h
      obtain ⟨⟨⟨⟨rfl, h2⟩, h3⟩, h4⟩, h5⟩ := h
      obtain ⟨g1, g2⟩ := C.blN h2
      obtain ⟨n1, _, n3⟩ := plain_nm h3
      have hb := bi_boot b
      have sa := (sEs es C h5).1
      refine .of ?_ rfl
      cases hv : b.val with
      | builtin id => exact se_biB C.pl hv sa g1 g2 (by rw [hb, hv]) h4 n3 n1
      | type id => exact se_biT C.pl hv sa g1 g2 (by rw [hb, hv]) h4 n3 n1
      | _ => cases b <;> cases hv
    · cases h
  | .isi a T, X, W, cv, ex, C, h => by
    unfold cE at h
    split at h
    · simp only [Bool.and_eq_true, decide_eq_true_eq] at h
      obtain ⟨⟨⟨⟨⟨⟨rfl, rfl⟩, h2⟩, h3⟩, h4⟩, h5⟩, h6⟩ := h
      obtain ⟨g1, g2⟩ := C.blN h3
      obtain ⟨g3, g4⟩ := C.blN h4
      have hT : T ∈ tyNames := by simpa using h2
      have hb : bootBuiltins (Str.ofString T) = some (.type T) ∧ Str.ofString T ≠ "__name__" ∧ ((Str.ofString T) == ("__debug__" : Str)) = false := by
        simp only [tyNames, List.mem_cons, List.mem_nil_iff, or_false] at hT
        rcases hT with rfl | rfl | rfl | rfl | rfl | rfl <;> exact ⟨rfl, by decide, by decide⟩
      exact .of (se_isi hT (sE a C h6).1 h5 g1 g2 rfl (by decide) (by decide) g3 g4 hb.1 hb.2.1 hb.2.2) rfl
    · cases h
  | .lrg it, X, W, cv, ex, C, h => by
    unfold cE at h
    split at h
    · simp only [Bool.and_eq_true, decide_eq_true_eq] at h
      obtain ⟨⟨⟨rfl, h2⟩, h3⟩, h4⟩ := h
      obtain ⟨g1, g2⟩ := C.blN h2
      exact .of (se_lrg C.pl g1 g2 (sR it C h4) h3) rfl
    · cases h
  | .trg it, X, W, cv, ex, C, h => by
    unfold cE at h
    split at h
    · simp only [Bool.and_eq_true, decide_eq_true_eq] at h
      obtain ⟨⟨⟨rfl, h2⟩, h3⟩, h4⟩ := h
      obtain ⟨g1, g2⟩ := C.blN h2
      exact .of (se_trg C.pl g1 g2 (sR it C h4) h3) rfl
    · cases h
  | .call f es ks perm, X, W, cv, ex, C, h => by
    unfold cE at h
    split at h
    · simp only [Bool.and_eq_true, decide_eq_true_eq] at h
      obtain ⟨⟨⟨⟨⟨⟨⟨rfl, h2⟩, h3⟩, h4⟩, h5⟩, h6⟩, h7⟩, h8⟩ := h
      split at h7
      · rename_i shapes hsh
        obtain ⟨fa, fd, ps, m1, m2, m3, m4⟩ := C.calls _ _ hsh
        obtain ⟨m5, m6⟩ := m4 _ _ _ (by simpa using h7)
        obtain ⟨es1, es2, e1, e2, e3, e4, e5, e6⟩ := sAr es C h8
        have hks : es2.len = ks.length := by
          have a1 : es.len = es1.len + es2.len := by rw [e1]; exact app_len _ _
          omega
        exact .of (se_call C.xr m3 C.rm C.tk (C.glN h2) m1 m2 e1 e2 e3 e4 hks e6 h5 h4 m5 m6 (plain_nm h3).1) rfl
      · cases h7
    · cases h
  | .app o a, X, W, cv, ex, C, h => by
    unfold cE at h
    split at h
    · simp only [Bool.and_eq_true, decide_eq_true_eq] at h
      obtain ⟨⟨⟨⟨⟨rfl, h2⟩, h3⟩, h4⟩, h5⟩, h6⟩ := h
      exact .of (se_app (sE o C h5).1 (sE a C h6).1 h2 h3 h4) rfl
    · cases h
  | .appn o i, X, W, cv, ex, C, h => by
    unfold cE at h
    split at h
    · simp only [Bool.and_eq_true, decide_eq_true_eq] at h
      obtain ⟨⟨⟨⟨rfl, h2⟩, h3⟩, h4⟩, h5⟩ := h
      obtain ⟨n1, n2, n3, n4⟩ := C.nmN h4
      exact .of (se_appn (sE o C h5).1 n1 n2 n3 n4 h2 h3) rfl
    · cases h
  | .appd o i j, X, W, cv, ex, C, h => by
    unfold cE at h
    split at h
    · simp only [Bool.and_eq_true, decide_eq_true_eq] at h
      obtain ⟨⟨⟨⟨⟨rfl, h2⟩, h3⟩, h4⟩, h5⟩, h6⟩ := h
      obtain ⟨n1, n2, n3, n4⟩ := C.nmN h4
      obtain ⟨m1, m2, m3, m4⟩ := C.nmN h5
      exact .of (se_appd (sE o C h6).1 n1 n2 n3 n4 m1 m2 m3 m4 h2 h3) rfl
    · cases h
  | .nen o ne, X, W, cv, ex, C, h => by
    unfold cE at h
    split at h
    · simp only [Bool.and_eq_true, decide_eq_true_eq] at h
      obtain ⟨rfl, h2⟩ := h
      exact ⟨se_nen C.pl (sE o C h2).1, fun _ => st_nen C.pl (sE o C h2).1, fun op vals pos e => by cases e⟩
    · cases h
  | .ext o a, X, W, cv, ex, C, h => by
    unfold cE at h
    split at h
    · simp only [Bool.and_eq_true, decide_eq_true_eq] at h
      obtain ⟨⟨⟨⟨⟨rfl, h2⟩, h3⟩, h4⟩, h5⟩, h6⟩ := h
      exact .of (se_ext (sE o C h5).1 (sE a C h6).1 h2 h3 h4) rfl
    · cases h
  | .pop o, X, W, cv, ex, C, h => by
    unfold cE at h
    split at h
    · simp only [Bool.and_eq_true, decide_eq_true_eq] at h
      obtain ⟨⟨⟨rfl, h2⟩, h3⟩, h4⟩ := h
      exact .of (se_pop (sE o C h4).1 h2 h3) rfl
    · cases h
  | .popi o a, X, W, cv, ex, C, h => by
    unfold cE at h
    split at h
    · simp only [Bool.and_eq_true, decide_eq_true_eq] at h
      obtain ⟨⟨⟨⟨⟨rfl, h2⟩, h3⟩, h4⟩, h5⟩, h6⟩ := h
      exact .of (se_popi (sE o C h5).1 (sE a C h6).1 h2 h3 h4) rfl
    · cases h
  | .sset a, X, W, cv, ex, C, h => by
    unfold cE at h
    split at h
    · simp only [Bool.and_eq_true, decide_eq_true_eq] at h
      obtain ⟨⟨⟨⟨⟨rfl, rfl⟩, h2⟩, h3⟩, h4⟩, h5⟩ := h
      obtain ⟨g1, g2⟩ := C.blN h2
      obtain ⟨g3, g4⟩ := C.blN h3
      exact .of (se_sset C.pl (sE a C h5).1 h4 g1 g2 g3 g4) rfl
    · cases h
  | .dget o k d, X, W, cv, ex, C, h => by
    unfold cE at h
    split at h
    · simp only [Bool.and_eq_true, decide_eq_true_eq] at h
      obtain ⟨⟨⟨⟨⟨⟨⟨rfl, h2⟩, h3⟩, h4⟩, h5⟩, h6⟩, h7⟩, h8⟩ := h
      exact .of (se_dget C.pl (sE o C h6).1 (sE k C h7).1 (sE d C h8).1 h2 h3 h4 h5) rfl
    · cases h
  | .lc elt tg it ifs own, X, W, cv, ex, C, h => by
    unfold cE at h
    split at h
    · rename_i eelt etg eit eifs scope pos
      simp only [Bool.and_eq_true] at h
      obtain ⟨⟨⟨⟨⟨⟨h1, h2⟩, h3⟩, h4⟩, h5⟩, h6⟩, h7⟩ := h
      have ok : BlkOk X.N X.env.scope scope own := by rw [C.N, C.sc]; exact blkOk_by h1
      have hv : ∀ i ∈ tg.vars, i ∈ own.map (·.2) := fun i hi => by
        have := List.all_eq_true.mp h2 i hi
        simpa using this
      exact .of (se_lc (W' := fun _ _ _ _ => False) C.pl (by rw [C.N]; exact C.nd) (sI it C h4) ok hv (fun s H c cl fp => sG tg (C.blk ok s H c cl fp) h5) (fun s H c cl fp => sT ifs (C.blk ok s H c cl fp) h6) (fun s H c cl fp => (sE elt (C.blk ok s H c cl fp) h7).1) (fold_no h3)) rfl
    · cases h
theorem sEs : ∀ (es : Es) {X : Cx} {W : WX} {cv : Cv} {exs : List Expr}, CxOk X XR W Φ k cv → cEs cv es exs = true → SA X XR W Φ es exs ∧ SB X XR W Φ es exs
  | .nil, X, W, cv, exs, C, h => by
    unfold cEs at h
    split at h
    · exact ⟨sa_nil, sb_nil⟩
    · cases h
  | .cons e es, X, W, cv, exs, C, h => by
    unfold cEs at h
    split at h
    · simp only [Bool.and_eq_true] at h
      obtain ⟨⟨h1, h2⟩, h3⟩ := h
      have se := (sE e C h2).1
      have sr := sEs es C h3
      refine ⟨?_, sb_cons se sr.2 h1⟩
      cases es with
      | nil =>
        unfold cEs at h3
        split at h3
        · exact sa_one se h1
        · cases h3
      | cons e' es' => exact sa_cons se sr.2 h1 (by simp [Es.len])
    · cases h
theorem sDs : ∀ (es : Es) {X : Cx} {W : WX} {cv : Cv} {ks : List Str} {keys : List (Option Expr)} {values : List Expr} {pos : Pos}, CxOk X XR W Φ k cv → keysOk ks keys = true → keys.length = values.length → cEs cv es values = true → PPs X pos keys values (trsOf X.K XR W Φ ks es) ∧ keys.all (·.isSome) = true
  | .nil, X, W, cv, ks, keys, values, pos, C, h1, h2, h3 => by
    unfold cEs at h3
    split at h3
    · cases keys with
      | nil =>
        cases ks with
        | nil => exact ⟨pps_nil, rfl⟩
        | cons _ _ => unfold keysOk at h1; cases h1
      | cons _ _ => simp at h2
    · cases h3
  | .cons e es, X, W, cv, ks, keys, values, pos, C, h1, h2, h3 => by
    unfold cEs at h3
    split at h3
    · simp only [Bool.and_eq_true] at h3
      cases keys with
      | nil => simp at h2
      | cons o os =>
        cases ks with
        | nil => unfold keysOk at h1; cases h1
        | cons k' ks =>
          unfold keysOk at h1
          simp only [Bool.and_eq_true] at h1
          obtain ⟨j, p, rfl⟩ := key_of h1.1
          obtain ⟨r1, r2⟩ := sDs es (pos := pos) C h1.2 (by simpa using h2) h3.2
          exact ⟨pps_cons pe_str (sE e C h3.1.2).1 r1, by simpa using r2⟩
    · cases h3
theorem sO : ∀ (es : Es) {X : Cx} {W : WX} {cv : Cv} {o : Option Expr}, CxOk X XR W Φ k cv → cO cv es o = true → SO X XR W Φ es o
  | .nil, X, W, cv, o, C, h => by
    unfold cO at h
    split at h
    · exact so_nil
    · cases h
  | .cons e es, X, W, cv, o, C, h => by
    unfold cO at h
    split at h
    · exact so_cons (sE e C h).1
    · cases h
theorem sT : ∀ (es : Es) {X : Cx} {W : WX} {cv : Cv} {exs : List Expr}, CxOk X XR W Φ k cv → cT cv es exs = true → PTs X exs (tT X.K XR W (wT Φ es))
  | .nil, X, W, cv, exs, C, h => by
    unfold cT at h
    split at h
    · exact sts_nil
    · cases h
  | .cons e es, X, W, cv, exs, C, h => by
    unfold cT at h
    split at h
    · simp only [Bool.and_eq_true] at h
      exact sts_one ((sE e C h.2).2.1 h.1)
    · cases h
theorem sAr : ∀ (es : Es) {X : Cx} {W : WX} {cv : Cv} {args : List Expr} {kws : List Keyword}, CxOk X XR W Φ k cv → cAr cv es args kws = true → ∃ es1 es2, es = es1.app es2 ∧ PA X args (tN X.K XR W Φ es1) ∧ PK X kws (tN X.K XR W Φ es2) ∧ es1.len = args.length ∧ es2.len = kws.length ∧ (args = [] → es1 = .nil)
  | .nil, X, W, cv, args, kws, C, h => by
    unfold cAr at h
    split at h
    · exact ⟨.nil, .nil, rfl, pa_nil, pk_nil, rfl, rfl, fun _ => rfl⟩
    · cases h
  | .cons e es, X, W, cv, args, kws, C, h => by
    unfold cAr at h
    split at h
    · rename_i a as kws
      simp only [Bool.and_eq_true] at h
      obtain ⟨es1, es2, e1, e2, e3, e4, e5, _⟩ := sAr es C h.2
      exact ⟨.cons e es1, es2, by rw [e1]; rfl, pa_cons (sE e C h.1.2).1 e2 (star1 h.1.1), e3, by show es1.len + 1 = _; rw [e4]; rfl, e5, fun z => by cases z⟩
    · rename_i kws
      simp only [Bool.and_eq_true] at h
      obtain ⟨es1, es2, e1, e2, e3, e4, e5, e6⟩ := sAr es C h.2
      have e7 := e6 rfl
      subst e7
      exact ⟨.nil, .cons e es2, by rw [e1]; rfl, pa_nil, pk_cons (sE e C h.1).1 e3, rfl, by show es2.len + 1 = _; rw [e5]; rfl, fun _ => rfl⟩
    · cases h
theorem sR : ∀ (it : It) {X : Cx} {W : WX} {cv : Cv} {ex : Expr}, CxOk X XR W Φ k cv → cR cv it ex = true → SRx X XR W Φ it ex
  | .rg1 a, X, W, cv, ex, C, h => by
    unfold cR at h
    split at h
    · simp only [Bool.and_eq_true, decide_eq_true_eq] at h
      obtain ⟨⟨⟨rfl, h2⟩, h3⟩, h4⟩ := h
      obtain ⟨g1, g2⟩ := C.blN h2
      exact sr_1 g1 g2 (sE a C h4).1 h3
    · cases h
  | .rg2 a b, X, W, cv, ex, C, h => by
    unfold cR at h
    split at h
    · simp only [Bool.and_eq_true, decide_eq_true_eq] at h
      obtain ⟨⟨⟨⟨⟨rfl, h2⟩, h3⟩, h4⟩, h5⟩, h6⟩ := h
      obtain ⟨g1, g2⟩ := C.blN h2
      exact sr_2 g1 g2 (sE a C h5).1 (sE b C h6).1 h3 h4
    · cases h
  | .rg3 a b c, X, W, cv, ex, C, h => by
    unfold cR at h
    split at h
    · simp only [Bool.and_eq_true, decide_eq_true_eq] at h
      obtain ⟨⟨⟨⟨⟨⟨⟨rfl, h2⟩, h3⟩, h4⟩, h5⟩, h6⟩, h7⟩, h8⟩ := h
      obtain ⟨g1, g2⟩ := C.blN h2
      exact sr_3 g1 g2 (sE a C h6).1 (sE b C h7).1 (sE c C h8).1 h3 h4 h5
    · cases h
  | .val _, _, _, _, _, _, h => by unfold cR at h; cases h
  | .enu _, _, _, _, _, _, h => by unfold cR at h; cases h
  | .zip _, _, _, _, _, _, h => by unfold cR at h; cases h
theorem sI : ∀ (it : It) {X : Cx} {W : WX} {cv : Cv} {tg ex : Expr}, CxOk X XR W Φ k cv → cI cv it tg ex = true → SI X XR W Φ it tg ex
  | .val a, X, W, cv, tg, ex, C, h => by
    unfold cI at h
    exact si_val (sE a C h).1
  | .rg1 a, X, W, cv, tg, ex, C, h => by
    unfold cI at h
    split at h
    · simp only [Bool.and_eq_true, decide_eq_true_eq] at h
      obtain ⟨⟨⟨rfl, h2⟩, h3⟩, h4⟩ := h
      obtain ⟨g1, g2⟩ := C.blN h2
      exact si_rg1 g1 g2 (sE a C h4).1 h3
    · cases h
  | .rg2 a b, X, W, cv, tg, ex, C, h => by
    unfold cI at h
    split at h
    · simp only [Bool.and_eq_true, decide_eq_true_eq] at h
      obtain ⟨⟨⟨⟨⟨rfl, h2⟩, h3⟩, h4⟩, h5⟩, h6⟩ := h
      obtain ⟨g1, g2⟩ := C.blN h2
      exact si_rg2 g1 g2 (sE a C h5).1 (sE b C h6).1 h3 h4
    · cases h
  | .rg3 a b c, X, W, cv, tg, ex, C, h => by
    unfold cI at h
    split at h
    · simp only [Bool.and_eq_true, decide_eq_true_eq] at h
      obtain ⟨⟨⟨⟨⟨⟨⟨rfl, h2⟩, h3⟩, h4⟩, h5⟩, h6⟩, h7⟩, h8⟩ := h
      obtain ⟨g1, g2⟩ := C.blN h2
      exact si_rg3 g1 g2 (sE a C h6).1 (sE b C h7).1 (sE c C h8).1 h3 h4 h5
    · cases h
  | .enu a, X, W, cv, tg, ex, C, h => by
    unfold cI at h
    split at h
    · simp only [Bool.and_eq_true, decide_eq_true_eq] at h
      obtain ⟨⟨⟨⟨rfl, h2⟩, h3⟩, h4⟩, h5⟩ := h
      obtain ⟨g1, g2⟩ := C.blN h3
      cases tg <;> first | (simp [isTup] at h2; done) | exact si_enu g1 g2 (sE a C h5).1 h4
    · cases h
  | .zip es, X, W, cv, tg, ex, C, h => by
    unfold cI at h
    split at h
    · simp only [Bool.and_eq_true, decide_eq_true_eq] at h
      obtain ⟨⟨⟨⟨⟨rfl, h2⟩, h3⟩, h4⟩, h5⟩, h6⟩ := h
      obtain ⟨g1, g2⟩ := C.blN h3
      cases tg <;> first | (simp [isTup] at h2; done) | exact si_zip g1 g2 (sEs es C h6).1 h4 h5
    · cases h
end
end
end Tk

set_option Elab.async false
set_option linter.all false
set_option maxRecDepth 100000
namespace Tk
open PySem PySem.Spec PyProof.Rows L2

/-- is name = [..] stored within the comprehension -/
def swapB (cv : Cv) (x : Str) (line : Nat) (scope : Scope) (vline : Nat) : Bool := cv.lcl x && (line == vline) && !(scope.names.any fun (n, k) => n == x && (k == .local || k == .cell))
def parNames (cv : Cv) (nio : Nat) : List Nat → List Expr → Option (List Str)
  | [], [] => some []
  | i :: is, .Name x _ :: es => if decide (nio ≤ i) && decide (cv.N[i]? = some x) && cv.lcl x then (parNames cv nio is es).map (x :: ·) else none
  | _, _ => none
/-- a, b = x, y: the names are stored from the right -/
def parOk (ts vs : List Expr) : Bool := (ts.all fun t => t.pos.line == (ts.head?.map (·.pos.line)).getD 0) && vs.all noStar && !vs.all (foldedForSure 8) && !vs.all (constantsAlone 8)
mutual
def cS (cv : Cv) (nio : Nat) : S → Stmt → Bool
  | .set i e, st => (match st with
    | .Assign [.Name x p] ea _ => decide (nio ≤ i) && cv.tg i x && cE cv e ea && (noComp ea || (match ea with
      | .ListComp _ [⟨_, _, _, 0⟩] scope lp => !(swapB cv x p.line scope lp.line) || (match e with
        | .lc .. => true
        | _ => false)
      | _ => false))
    | _ => false)
  | .asg t e, st => (match st with
    | .Assign [etg] ea _ => t.vars.all (fun i => decide (nio ≤ i)) && noStar etg && noComp ea && !isTup ea && cG cv t etg && cE cv e ea
    | _ => false)
  | .par is es, st => (match st with
    | .Assign [.Tuple ts _ _] (.Tuple vs _ _) _ => (match is, ts, vs with
      | [i, j], [.Name x px, .Name y py], [ea, eb] => decide (nio ≤ i) && decide (nio ≤ j) && decide (cv.N[i]? = some x) && decide (cv.N[j]? = some y) && cv.lcl x && cv.lcl y && decide (i ≠ j) && parOk [.Name x px, .Name y py] [ea, eb] && cEs cv es [ea, eb]
      | [i, j, l], [.Name x px, .Name y py, .Name z pz], [ea, eb, ec] => decide (nio ≤ i) && decide (nio ≤ j) && decide (nio ≤ l) && decide (cv.N[i]? = some x) && decide (cv.N[j]? = some y) && decide (cv.N[l]? = some z) && cv.lcl x && cv.lcl y && cv.lcl z && decide (i ≠ j) && decide (i ≠ l) && decide (j ≠ l) &&
          parOk [.Name x px, .Name y py, .Name z pz] [ea, eb, ec] && cEs cv es [ea, eb, ec]
      | _, _, _ => false)
    | _ => false)
  | .sst o ix e, st => (match st with
    | .Assign [.Subscript eo ei _] ea _ => noComp ea && noSlice ei && cE cv e ea && cE cv o eo && cE cv ix ei
    | _ => false)
  | .sst2 o ix o' ix' v, st => (match st with
    | .Assign [.Tuple [.Subscript eo ei _, .Subscript eo' ei' _] _ _] ea _ => noComp ea && noSlice ei && noSlice ei' && (match ea with
      | .Tuple [a, b] _ _ => noStar a && noStar b
      | _ => true) && cE cv v ea && cE cv o eo && cE cv ix ei && cE cv o' eo' && cE cv ix' ei'
    | _ => false)
  | .exp e, st => (match st with
    | .Expr ea _ => noComp ea && cE cv e ea
    | _ => false)
  | .doc, st => (match st with
    | .Expr (.Constant (.str _) _ _) _ => true
    | _ => false)
  | .ret e, st => (match st with
    | .Return (some ea) _ => cE cv e ea
    | _ => false)
  | .retN, st => (match st with
    | .Return none _ => true
    | _ => false)
  | .ite c a b, st => (match st with
    | .If ec sa sb _ => tst c && cE cv c ec && cSs cv nio a sa && cSs cv nio b sb
    | _ => false)
  | .whl c b, st => (match st with
    | .While ec sb [] _ => tst c && cE cv c ec && cSs cv nio b sb
    | _ => false)
  | .for t it b, st => (match st with
    | .For etg eit sb [] _ => t.vars.all (fun i => decide (nio ≤ i)) && noSet eit && cI cv it etg eit && cG cv t etg && cSs cv nio b sb
    | _ => false)
  | .pass, st => (match st with
    | .Pass _ => true
    | _ => false)
  | .brk, st => (match st with
    | .Break _ => true
    | _ => false)
  | .cont, st => (match st with
    | .Continue _ => true
    | _ => false)
def cSs (cv : Cv) (nio : Nat) : Ss → List Stmt → Bool
  | .nil, sts => (match sts with
    | [] => true
    | _ => false)
  | .cons s ss, sts => (match sts with
    | st :: sts => cS cv nio s st && cSs cv nio ss sts
    | [] => false)
end
section
variable {X : Cx} {XR : XRel} {W : WX} {Φ : Fns} {k : Nat} {cv : Cv} {F : Sl}
theorem swap_lc {elt : Expr} {gs : List Comprehension} {scope : Scope} {pos py : Pos} {y : Str} {l : Nat} (C : CxOk X XR W Φ k cv) (hk : cv.sc.kind = .function) : swapsWith (.ListComp elt gs scope pos) (some (.Name y py)) l X.env = pure (swapB cv y py.line scope pos.line) := by
  have e1 : X.env.blockKind = .function := by
    unfold Env.blockKind
    rw [C.sc, hk]
    rfl
  have e2 : (X.env.kindOf y == some .local) = cv.lcl y := by
    show (X.env.scope.names.lookup y == some .local) = cv.lcl y
    rw [C.sc]
    unfold Cv.lcl Cv.kd
    cases h : cv.sc.names.lookup y with
    | none => rfl
    | some q => cases q <;> rfl
  unfold swapsWith
  simp only [e1, e2, Expr.pos]
  unfold swapB
  rfl
theorem lclN (C : CxOk X XR W Φ k cv) {x : Str} (h : cv.lcl x = true) : X.env.scope.names.lookup x = some .local := by
  rw [C.sc]
  unfold Cv.lcl Cv.kd at h
  split at h
  · assumption
  · cases h
theorem swapped_none {etg ea : Expr} {env : Env} (h : isTup ea = false) : swappedStores [etg] ea env = pure none := by
  unfold swappedStores
  cases ea <;> first | (cases etg <;> rfl) | (simp [isTup] at h)
theorem swapped_sub {eo ei eo' ei' ea : Expr} {p p' pt : Pos} {kt : Nat} {env : Env} (h : (match ea with
      | .Tuple [a, b] _ _ => noStar a && noStar b
      | _ => true) = true) : swappedStores [.Tuple [.Subscript eo ei p, .Subscript eo' ei' p'] kt pt] ea env = pure none := by
  unfold swappedStores
  cases ea with
  | Tuple vs k q =>
    dsimp only
    split
    · rfl
    · split
      · rfl
      · rfl
  | _ => rfl
theorem noStar_any {vs : List Expr} (h : vs.all noStar = true) : (vs.any fun | .Starred .. => true | _ => false) = false := by
  apply Bool.eq_false_iff.mpr
  intro z
  obtain ⟨v, hv, e⟩ := List.any_eq_true.mp z
  have := List.all_eq_true.mp h v hv
  cases v <;> simp [noStar] at this e
theorem swapped2 {x y : Str} {px py pt pt2 : Pos} {kt k2 : Nat} {ea eb : Expr} (C : CxOk X XR W Φ k cv) (hk : cv.sc.kind = .function) (hx : cv.lcl x = true) (hy : cv.lcl y = true) (hxy : x ≠ y) (hp : parOk [.Name x px, .Name y py] [ea, eb] = true) :
    swappedStores [.Tuple [.Name x px, .Name y py] kt pt] (.Tuple [ea, eb] k2 pt2) X.env = pure (some [x, y]) := by
  have e1 : X.env.blockKind = .function := by
    unfold Env.blockKind
    rw [C.sc, hk]
    rfl
  have k1 : X.env.kindOf x = some .local := lclN C hx
  have k2' : X.env.kindOf y = some .local := lclN C hy
  unfold parOk at hp
  simp only [Bool.and_eq_true, Bool.not_eq_true'] at hp
  obtain ⟨⟨⟨h1, h2⟩, h3⟩, h4⟩ := hp
  have h5 := noStar_any h2
  simp only [List.all_cons, List.all_nil, Bool.and_true, Bool.and_eq_true, List.head?_cons, Option.map_some, Option.getD_some, Expr.pos] at h1
  unfold swappedStores
  simp only [e1, h5, h3, h4, k1, k2', List.filterMap_cons, List.filterMap_nil, List.head?_cons, Option.map_some, Option.getD_some, Expr.pos, h1.1, h1.2, List.length_cons, List.length_nil]
  simp [List.eraseDups_cons, hxy, Ne.symm hxy]
  intro q
  exfalso
  rcases q with q | q <;> (split at q <;> first | (cases q; done) | (simp [noStar] at h2; done))
theorem swapped3 {x y z : Str} {px py pz pt pt2 : Pos} {kt k2 : Nat} {ea eb ec : Expr} (C : CxOk X XR W Φ k cv) (hk : cv.sc.kind = .function) (hx : cv.lcl x = true) (hy : cv.lcl y = true) (hz : cv.lcl z = true) (hxy : x ≠ y) (hxz : x ≠ z) (hyz : y ≠ z) (hp : parOk [.Name x px, .Name y py, .Name z pz] [ea, eb, ec] = true) :
    swappedStores [.Tuple [.Name x px, .Name y py, .Name z pz] kt pt] (.Tuple [ea, eb, ec] k2 pt2) X.env = pure (some [x, y, z]) := by
  have e1 : X.env.blockKind = .function := by
    unfold Env.blockKind
    rw [C.sc, hk]
    rfl
  have k1 : X.env.kindOf x = some .local := lclN C hx
  have k2' : X.env.kindOf y = some .local := lclN C hy
  have k3 : X.env.kindOf z = some .local := lclN C hz
  unfold parOk at hp
  simp only [Bool.and_eq_true, Bool.not_eq_true'] at hp
  obtain ⟨⟨⟨h1, h2⟩, h3⟩, h4⟩ := hp
  have h5 := noStar_any h2
  simp only [List.all_cons, List.all_nil, Bool.and_true, Bool.and_eq_true, List.head?_cons, Option.map_some, Option.getD_some, Expr.pos] at h1
  unfold swappedStores
  simp only [e1, h5, h3, h4, k1, k2', k3, List.filterMap_cons, List.filterMap_nil, List.head?_cons, Option.map_some, Option.getD_some, Expr.pos, h1.1, h1.2.1, h1.2.2, List.length_cons, List.length_nil]
  simp [List.eraseDups_cons, hxy, Ne.symm hxy, hxz, Ne.symm hxz, hyz, Ne.symm hyz]
  intro q
  exfalso
  rcases q with q | q | q <;> (split at q <;> first | (cases q; done) | (simp [noStar] at h2; done))
theorem names_ne {N : List Str} {i j : Nat} {x y : Str} (nd : N.Nodup) (hi : N[i]? = some x) (hj : N[j]? = some y) (h : i ≠ j) : x ≠ y := fun e => by
  subst e
  obtain ⟨h1, e1⟩ := List.getElem?_eq_some_iff.mp hi
  obtain ⟨h2, e2⟩ := List.getElem?_eq_some_iff.mp hj
  have pw := List.pairwise_iff_getElem.mp nd
  rcases Nat.lt_or_gt_of_ne h with z | z
  · exact pw i j h1 h2 z (e1.trans e2.symm)
  · exact pw j i h2 h1 z (e2.trans e1.symm)
theorem sub_assign {o i : Expr} {p : Pos} {env : Env} (h : noSlice i = true) (v : Value) : assign (.Subscript o i p) env v = (do
      let ov ← holding [v] (eval o env)
      let iv ← holding [v, ov] (eval i env)
      standAt p
      holding [v, ov, iv] (setItem ov iv v)
      release [v, ov, iv] []) := by
  cases i <;> first | rfl | (simp [noSlice] at h)
mutual
theorem sS : ∀ (s : S) {X : Cx} {W : WX} {cv : Cv} {st : Stmt}, CxOk X XR W Φ k cv → PassesOwn (model X.prog X.w) X.A X.env X.xe → cv.sc.kind = .function → cS cv F.length s st = true → SS X XR W Φ F s st
  | .set i e, X, W, cv, st, C, hp, hk, h => by
    unfold cS at h
    split at h
    · rename_i x p ea spos
      simp only [Bool.and_eq_true, decide_eq_true_eq] at h
      obtain ⟨⟨⟨h1, h2⟩, h3⟩, h4⟩ := h
      have h2' := h2
      unfold Cv.tg at h2'
      simp only [Bool.and_eq_true, decide_eq_true_eq] at h2'
      obtain ⟨st1, st2⟩ := C.st _ h2'.2
      have nd : X.N.Nodup := by rw [C.N]; exact C.nd
      have hN : X.N[i]? = some x := by rw [C.N]; exact h2'.1
      by_cases hc : noComp ea = true
      · exact ss_set h1 nd hN st1 st2 (sE e C h3).1 (swap_no hc)
      · rw [Bool.eq_false_iff.mpr hc, Bool.false_or] at h4
        split at h4
        · rename_i eelt etg eit eifs scope lp
          by_cases hsw : swapB cv x p.line scope lp.line = true
          · rw [hsw] at h4
            cases e with
            | lc elt tg it ifs own =>
              unfold cE at h3
              simp only [Bool.and_eq_true] at h3
              obtain ⟨⟨⟨⟨⟨⟨b1, b2⟩, b3⟩, b4⟩, b5⟩, b6⟩, b7⟩ := h3
              have ok : BlkOk X.N X.env.scope scope own := by rw [C.N, C.sc]; exact blkOk_by b1
              have hv : ∀ i ∈ tg.vars, i ∈ own.map (·.2) := fun i hi => by
                have := List.all_eq_true.mp b2 i hi
                simpa using this
              have hl : cv.lcl x = true := by
                unfold swapB at hsw
                simp only [Bool.and_eq_true] at hsw
                exact hsw.1.1
              exact ss_setLc (W' := fun _ _ _ _ => False) C.pl h1 nd hN (lclN C hl) (by rw [swap_lc C hk, hsw]) (sI it C b4) ok hv (fun s H c cl fp => sG tg (C.blk ok s H c cl fp) b5) (fun s H c cl fp => sT ifs (C.blk ok s H c cl fp) b6) (fun s H c cl fp => (sE elt (C.blk ok s H c cl fp) b7).1) (fold_no b3)
            | _ => simp at h4
          · exact ss_set h1 nd hN st1 st2 (sE e C h3).1 (by rw [swap_lc C hk, Bool.eq_false_iff.mpr hsw])
        · cases h4
    · cases h
  | .asg t e, X, W, cv, st, C, hp, hk, h => by
    unfold cS at h
    split at h
    · simp only [Bool.and_eq_true, Bool.not_eq_true'] at h
      obtain ⟨⟨⟨⟨⟨h1, h2⟩, h3⟩, h4⟩, h5⟩, h6⟩ := h
      exact ss_asg (sE e C h6).1 (sG t C h5) (fun i hi => of_decide_eq_true (List.all_eq_true.mp h1 i hi)) (by unfold swapsWithSole; exact swap_no h3) (swapped_none h4) (assign_cons h2)
    · cases h
  | .par is es, X, W, cv, st, C, hp, hk, h => by
    have nd : X.N.Nodup := by rw [C.N]; exact C.nd
    unfold cS at h
    split at h
    · split at h
      · simp only [Bool.and_eq_true, decide_eq_true_eq] at h
        obtain ⟨⟨⟨⟨⟨⟨⟨⟨h1, h2⟩, h3⟩, h4⟩, h5⟩, h6⟩, h7⟩, h8⟩, h9⟩ := h
        exact ss_par C.pl h1 h2 nd (by rw [C.N]; exact h3) (by rw [C.N]; exact h4) h7 (lclN C h5) (lclN C h6) (sEs es C h9).1 (swapped2 C hk h5 h6 (names_ne C.nd h3 h4 h7) h8)
      · simp only [Bool.and_eq_true, decide_eq_true_eq] at h
        obtain ⟨⟨⟨⟨⟨⟨⟨⟨⟨⟨⟨⟨⟨h1, h2⟩, h3⟩, h4⟩, h5⟩, h6⟩, h7⟩, h8⟩, h9⟩, h10⟩, h11⟩, h12⟩, h13⟩, h14⟩ := h
        exact ss_par3 C.pl h1 h2 h3 nd (by rw [C.N]; exact h4) (by rw [C.N]; exact h5) (by rw [C.N]; exact h6) h10 h11 h12 (lclN C h7) (lclN C h8) (lclN C h9) (sEs es C h14).1 (swapped3 C hk h7 h8 h9 (names_ne C.nd h4 h5 h10) (names_ne C.nd h4 h6 h11) (names_ne C.nd h5 h6 h12) h13)
      · cases h
    · cases h
  | .sst o ix e, X, W, cv, st, C, hp, hk, h => by
    unfold cS at h
    split at h
    · simp only [Bool.and_eq_true] at h
      obtain ⟨⟨⟨⟨h1, h2⟩, h3⟩, h4⟩, h5⟩ := h
      exact ss_sst C.pl (sE e C h3).1 (sE o C h4).1 (sE ix C h5).1 h1 (sub_assign h2)
    · cases h
  | .sst2 o ix o' ix' v, X, W, cv, st, C, hp, hk, h => by
    unfold cS at h
    split at h
    · simp only [Bool.and_eq_true] at h
      obtain ⟨⟨⟨⟨⟨⟨⟨⟨h1, h2⟩, h3⟩, h4⟩, h5⟩, h6⟩, h7⟩, h8⟩, h9⟩ := h
      exact ss_sst2 C.pl (sE v C h5).1 (sE o C h6).1 (sE ix C h7).1 (sE o' C h8).1 (sE ix' C h9).1 h1 (sub_assign h2) (sub_assign h3) (swapped_sub h4)
    · cases h
  | .exp e, X, W, cv, st, C, hp, hk, h => by
    unfold cS at h
    split at h
    · simp only [Bool.and_eq_true] at h
      exact ss_exp (sE e C h.2).1 h.1
    · cases h
  | .doc, X, W, cv, st, C, hp, hk, h => by
    unfold cS at h
    split at h
    · exact ss_doc
    · cases h
  | .ret e, X, W, cv, st, C, hp, hk, h => by
    unfold cS at h
    split at h
    · exact ss_ret (sE e C h).1
    · cases h
  | .retN, X, W, cv, st, C, hp, hk, h => by
    unfold cS at h
    split at h
    · exact ss_retN
    · cases h
  | .ite c a b, X, W, cv, st, C, hp, hk, h => by
    unfold cS at h
    split at h
    · simp only [Bool.and_eq_true] at h
      obtain ⟨⟨⟨h1, h2⟩, h3⟩, h4⟩ := h
      exact ss_if ((sE c C h2).2.1 h1) (sSs a C hp hk h3) (sSs b C hp hk h4)
    · cases h
  | .whl c b, X, W, cv, st, C, hp, hk, h => by
    unfold cS at h
    split at h
    · simp only [Bool.and_eq_true] at h
      obtain ⟨⟨h1, h2⟩, h3⟩ := h
      exact ss_whl hp ((sE c C h2).2.1 h1) (sSs b C hp hk h3)
    · cases h
  | .for t it b, X, W, cv, st, C, hp, hk, h => by
    unfold cS at h
    split at h
    · simp only [Bool.and_eq_true] at h
      obtain ⟨⟨⟨⟨h1, h2⟩, h3⟩, h4⟩, h5⟩ := h
      exact ss_for C.pl hp (sI it C h3) (sG t C h4) (fun i hi => of_decide_eq_true (List.all_eq_true.mp h1 i hi)) (sSs b C hp hk h5) (fold_no h2)
    · cases h
  | .pass, X, W, cv, st, C, hp, hk, h => by
    unfold cS at h
    split at h
    · exact ss_pass
    · cases h
  | .brk, X, W, cv, st, C, hp, hk, h => by
    unfold cS at h
    split at h
    · exact ss_brk
    · cases h
  | .cont, X, W, cv, st, C, hp, hk, h => by
    unfold cS at h
    split at h
    · exact ss_cont
    · cases h
theorem sSs : ∀ (ss : Ss) {X : Cx} {W : WX} {cv : Cv} {sts : List Stmt}, CxOk X XR W Φ k cv → PassesOwn (model X.prog X.w) X.A X.env X.xe → cv.sc.kind = .function → cSs cv F.length ss sts = true → SSs X XR W Φ F ss sts
  | .nil, X, W, cv, sts, C, hp, hk, h => by
    unfold cSs at h
    split at h
    · exact ss_nil
    · cases h
  | .cons s ss, X, W, cv, sts, C, hp, hk, h => by
    unfold cSs at h
    split at h
    · simp only [Bool.and_eq_true] at h
      exact ss_cons (sS s C hp hk h.1) (sSs ss C hp hk h.2)
    · cases h
end
end
end Tk

set_option Elab.async false
set_option linter.all false
set_option maxRecDepth 100000
namespace Tk
open PySem PySem.Spec PyProof.Rows L2

/-! ### a def keeps its promise -/
def AwB (base : Heap) : Prop := ∃ o, base.get? sysModules = some o ∧ o.cls ≠ .type "list"
/-- what the module says to the small language -/
structure Mdl (P : Program) (w : World) (K : PySem.W.Frag) (mg : Str → Option Value) (base : Heap) (XR : XRel) (Φ : Fns) (k : Nat) (blt : List Str) (gcs : List (Str × Int)) (fns : List (Str × List (Nat × List Str × List Nat))) : Prop where
  aw : AwB base
  xr : XRok XR
  blt : ∀ x ∈ blt, mg x = none
  gc : ∀ x i, gcs.lookup x = some i → ∃ t, mg x = some (.int i t)
  calls : ∀ x shapes, fns.lookup x = some shapes → ∃ f fd ps, mg x = some (.ref f) ∧ PySem.W.keepIn K (.ref f) = true ∧ FnG P w K mg base k f fd ps (spOf K XR ps.length (Φ x)) ∧ ∀ n ks perm, (n, ks, perm) ∈ shapes → perm.length = ps.length ∧ BindP fd ps n ks perm
theorem Mdl.more {P : Program} {w : World} {K : PySem.W.Frag} {mg : Str → Option Value} {base : Heap} {XR : XRel} {Φ : Fns} {j k : Nat} {blt : List Str} {gcs : List (Str × Int)} {fns : List (Str × List (Nat × List Str × List Nat))} (M : Mdl P w K mg base XR Φ j blt gcs fns) (h : j ≤ k) : Mdl P w K mg base XR Φ k blt gcs fns :=
  ⟨M.aw, M.xr, M.blt, M.gc, fun x sh e => let ⟨f, fd, ps, h1, h2, h3, h4⟩ := M.calls x sh e; ⟨f, fd, ps, h1, h2, h3.more h, h4⟩⟩
theorem def_ok {P : Program} {w : World} {K : PySem.W.Frag} {mg : Str → Option Value} {base : Heap} {k : Nat} {f : Addr} {fd : FuncData} {x qual : Str} {params : Arguments} {body : List Stmt} {scope : Scope} {dvs : List V} {kws : List (Str × V)} {N ps : List Str} {XR : XRel} {Φ : Fns} {fn : Fn} {ss : Ss}
    {blt : List Str} {gcs : List (Str × Int)} {fns : List (Str × List (Nat × List Str × List Nat))}
    (M : Mdl P w K mg base XR Φ k blt gcs fns) (Fu : FunD K x qual params body scope dvs kws f fd) (S : FnScope N ps scope) (hnio : fn.nio ≤ ps.length) (chk : cSs ⟨N, scope, none, blt, gcs, fns⟩ fn.nio ss body = true) (hb : bodyOk Φ fn N.length ps.length ss) :
    FnG P w K mg base (k + 1) f fd ps (spOf K XR ps.length fn) := by
  refine FnG.of_body Fu S hnio (fun cdv A outer s H E F hF hr => ?_) hb
  have C : CxOk (cxOf (L2.CX P w) P w K mg base N qual scope f cdv A outer s H E) XR (fun cls d _ H' => E cls d H') Φ k ⟨N, scope, none, blt, gcs, fns⟩ := {
    pl := ⟨rfl, by have := hr.un; show (A.deeper (envOfC qual scope s.heap.objs.size f cdv)).units + 300 < cLine; omega, hr.gd, M.aw⟩
    rm := hr
    N := rfl
    nd := S.nd
    sc := rfl
    st := fun y h => by
      unfold Cv.st Cv.kd at h
      simp only at h
      split at h
      · rename_i e
        exact ⟨.inl e, .inl rfl⟩
      · rename_i e
        exact ⟨.inr e, .inl rfl⟩
      · cases h
    blt := M.blt
    gc := M.gc
    tk := takes_of rfl rfl rfl rfl
    xr := M.xr
    calls := M.calls }
  rw [← hF] at chk
  exact sSs ss C (passes_of rfl) S.kind chk
theorem bindP_of {K : PySem.W.Frag} {x qual : Str} {params : Arguments} {body : List Stmt} {scope : Scope} {kws : List (Str × V)} {f : Addr} {fd : FuncData} {ps ks : List Str} {n : Nat} {perm : List Nat} (F : FunD K x qual params body scope [] kws f fd)
    (h : ∀ (kV doc pm : Value) (an : Option Addr) (cdv ct : Value) (us ws : List Value), us.length = n → ws.length = ks.length → bindArgs (PySem.W.fnOf x qual params body scope .none kV doc pm an cdv ct) ⟨us, ks.zip ws⟩ = pure (ps.zip (permV perm (us ++ ws)))) : BindP fd ps n ks perm := by
  obtain ⟨oc, od, dV, kV, doc, pm, an, cdv, ct, osl, rfl, lk, hcd, hd, _⟩ := F.ex
  rcases hd with ⟨_, rfl⟩ | ⟨h0, _⟩
  · exact fun us ws h1 h2 => h kV doc pm an cdv ct us ws h1 h2
  · exact absurd rfl h0

/-! ### the law's own call -/
def noX : XRel := fun _ _ _ _ => False
theorem noX_ok : XRok noX := fun _ _ _ _ _ _ _ h => h
open Classical in
theorem lawG {P : Program} {w : World} {K : PySem.W.Frag} {mg mb : Str → Option Value} {k : Nat} {fa a : Addr} {fd : FuncData} {x : Str} {XR : XRel} {fn : Fn} {s₁ : Shared} {vs : List Value} {ns : List Int}
    (hK : K.In s₁.heap) (hns : s₁.heap.Ns mainGlobals mg) (hbu : s₁.heap.Ns builtinsNs mb) (hbt : ∀ x : Str, x ≠ "__name__" → mb x = bootBuiltins x) (hfree : s₁.heap.NoLimit) (hg : s₁.gens = #[])
    (hsys : ∃ o, s₁.heap.get? sysModules = some o ∧ o.cls = .type "dict") (hscr : s₁.heap.get? a = some { cls := .type "list", data := .seq vs.toArray }) (hin : IntsAre vs ns) (hlen : ns.length ≤ sizeLine) (hr : Rm k callerA)
    (F : ∀ base : Heap, K.In base → base.Ns mainGlobals mg → AwB base → FnG P w K mg base k fa fd [x] (spOf K XR 1 fn)) (hbind : ∀ (s : Shared) (u : Value), BindsTo s fd ⟨[u], []⟩ [(x, u)]) (h0 : fn.nio = 0)
    (hfn : fn.sp [] [.list (ns.map .int)] (fun r _ => r = .fz (.bool true)) fun _ _ => False) :
    codeAny (model P w) callerA (.call (.ref fa) ⟨[.ref a], []⟩) (fun r s' => r = .ok (.ret (.bool true)) ∧ OldK s₁.heap s'.heap ∧ s'.os = s₁.os ∧ AllBare s'.gens) s₁ := by
  have rel := vals_ints hin
  have nvs := hin.length
  obtain ⟨om, hom, hcm⟩ := hsys
  have nam : a ≠ sysModules := fun e => by
    rw [e, hom] at hscr
    have z := Option.some.inj hscr
    rw [z] at hcm
    exact absurd (show Value.type "list" = Value.type "dict" from hcm) (by decide)
  -- H: at most the script is tracked
  have main : ∀ H : Hp, (∀ b, H b ≠ none → b = a) → (H a ≠ none → K.lookup a = none ∧ H a = some (.frz { cls := .type "list", data := .seq vs.toArray } (.lst (ns.map V.int)))) → HOk P w H s₁.heap → Lx K H a (ns.map V.int) →
      codeAny (model P w) callerA (.call (.ref fa) ⟨[.ref a], []⟩) (fun r s' => r = .ok (.ret (.bool true)) ∧ OldK s₁.heap s'.heap ∧ s'.os = s₁.os ∧ AllBare s'.gens) s₁ := by
    intro H only just hok hLx
    have off : ∀ {b : Addr}, b ≠ a → H b = none := fun {b} nb => Classical.byContradiction fun z => nb (only b z)
    have inB : ∀ {b : Addr} {o : Obj}, s₁.heap.get? b = some o → H b = none → (hidT s₁.heap H).get? b = some o := fun e n => hidT_get e n
    have notL : ∀ {b : Addr} {o : Obj} {es : Array DictEntry} {ep : Nat}, s₁.heap.get? b = some o → o.data = .dict es ep → H b = none := fun {b o es ep} e d => off fun z => by
      subst z
      rw [hscr] at e
      cases e
      cases d
    have nsB : ∀ {b : Addr} {m : Str → Option Value}, s₁.heap.Ns b m → (hidT s₁.heap H).Ns b m := fun {b m} ⟨o, es, ep, e, d, r⟩ => ⟨o, es, ep, inB e (notL e d), d, r⟩
    have kB : K.In (hidT s₁.heap H) := fun b o e => inB (hK b o e) (Classical.byContradiction fun z => by
      have eb := only b z
      subst eb
      rw [(just z).1] at e
      cases e)
    have mB : Mod K mg (hidT s₁.heap H) := ⟨kB, nsB hns, ⟨mb, nsB hbu, hbt⟩, let ⟨mc, u1, u2⟩ := hfree; ⟨mc, nsB u1, u2⟩⟩
    have awB : AwB (hidT s₁.heap H) := ⟨om, inB hom (off fun z => nam z.symm), by rw [hcm]; decide⟩
    have en : Env0 P w K mg (hidT s₁.heap H) callerA [] s₁ H := ⟨rfl, mB, fun b o e => of_hidT e, Nat.le_of_eq (hidT_size _ _), trivial, fun b hb => absurd (show b ∈ ([] : List Addr) from hb) (by simp), hok, .of_eq hg⟩
    have okW : (⟨H, fun _ => none, H⟩ : Wd).Ok := ⟨Same.refl _, fun _ _ z => (nomatch z), fun _ _ _ z => (nomatch z)⟩
    have hsp : spOf K XR 1 fn [.ref a] H (fun v _ => v = .bl true) fun _ _ _ => False := by
      refine ⟨rfl, ⟨H, fun _ => none, H⟩, [], [.list (ns.map .int)], _, _, rfl, okW, h0.symm, fun i y z => by simp at z, ?_, hfn, fun w' ys r v ot ok' st' hy own lo o e => ?_, fun w' ys e cls d ok' st' hy own hxr z => z.elim⟩
      · rw [h0]
        exact .cons (.lst hLx (FzL.of_ints ns)) .nil
      · subst e
        cases o with
        | fz f => cases f; rfl
    refine codeAny_mono ((F _ kB (nsB hns) awB).run callerA [] s₁ H ⟨[.ref a], []⟩ [.ref a] [.ref a] _ _ hr en (hbind s₁ (.ref a)) (.cons rfl .nil) hsp) fun r s' h => ?_
    cases r with
    | error e =>
      obtain ⟨_, _, _, _, _, _, _, _, _, _, _, _, z⟩ := h
      exact z.elim
    | ok fl =>
      cases fl with
      | next => exact h.elim
      | brk => exact h.elim
      | cont => exact h.elim
      | ret u =>
        obtain ⟨v, H', hos, hbare, un, hok', rv, q⟩ := h
        have q : v = .bl true := q
        subst q
        obtain rfl : u = Value.bool true := rv
        refine ⟨rfl, OldK.of_keep fun b o e => ?_, hos, hbare⟩
        by_cases z : H b = none
        · exact un.keep b o e z (by intro z; exact absurd (show b ∈ ([] : List Addr) from z) (by simp)) (by simp)
        · have eb := only b z
          subst eb
          have hb := (just z).2
          have z2 := un.frzs b _ _ hb
          obtain ⟨e1, _⟩ := hok b _ hb
          obtain ⟨e2, _⟩ := hok' b _ z2
          rw [e] at e1
          cases e1
          exact e2
  cases hk : K.lookup a with
  | some o =>
    have e := hK a o hk
    rw [hscr] at e
    cases e
    exact main (fun _ => none) (fun b z => absurd rfl z) (fun z => absurd rfl z) (fun b u z => nomatch z) (.inr ⟨vs, _, hk, by omega, rel⟩)
  | none =>
    refine main (fun b => if b = a then some (.frz { cls := .type "list", data := .seq vs.toArray } (.lst (ns.map V.int))) else none) (fun b z => ?_) (fun _ => ⟨hk, if_pos rfl⟩) (fun b u z => ?_) (.inl (.inr ⟨_, if_pos rfl⟩))
    · by_cases hb : b = a
      · exact hb
      · exact absurd (if_neg hb) z
    · by_cases hb : b = a
      · subst hb
        have z : (if b = b then some (.frz { cls := .type "list", data := .seq vs.toArray } (.lst (ns.map V.int))) else none) = some u := z
        rw [if_pos rfl] at z
        cases z
        exact ⟨hscr, by rw [List.length_map]; exact hlen, vs, _, rel, hscr⟩
      · have z : (if b = a then some (.frz { cls := .type "list", data := .seq vs.toArray } (.lst (ns.map V.int))) else none) = some u := z
        rw [if_neg hb] at z
        cases z

/-! ### the head -/
def isDictAt (g : Addr → Option Obj) : Bool := match g sysModules with
  | some o => (match o.cls with
    | .type n => decide (n = "dict")
    | _ => false)
  | none => false
theorem isDictAt_ok {g : Addr → Option Obj} (h : isDictAt g = true) : ∃ o, g sysModules = some o ∧ o.cls = .type "dict" := by
  unfold isDictAt at h
  split at h
  · rename_i o e
    split at h
    · rename_i n e2
      have := of_decide_eq_true h
      subst this
      exact ⟨o, e, e2⟩
    · cases h
  · cases h
abbrev AlT : Type := Bool × He.AlD
def obsT (n : Nat) (fa : List He.Fa) (fn : List He.DefD) (g : Addr → Option Obj) : AlT := (isDictAt g, He.obsDG n fa fn g)
def hookT (n : Nat) (fa : List He.Fa) (fn : List He.DefD) : PySem.W.Hook where
  α := AlT
  obs := fun s => obsT n fa fn s.heap.get?
  val := fun _ => (true, He.valD fn)
  says := fun _ h => (∃ o, h.get? sysModules = some o ∧ o.cls = .type "dict") ∧ ∃ K : PySem.W.Frag, K.In h ∧ He.SaysD fa fn K
  of := fun _ _ e => ⟨isDictAt_ok (congrArg (fun z : AlT => z.1) e), _, He.frG_in, congrArg (fun z : AlT => z.2) e⟩
  keeps := fun _ _ _ ⟨⟨o, h1, h2⟩, K, hK, c⟩ k => ⟨⟨o, k _ _ h1, h2⟩, K, PySem.W.Frag.In.keeps hK k, c⟩
theorem obsT_eq {n : Nat} {fa : List He.Fa} {fn : List He.DefD} {g : Addr → Option Obj} {s : Shared} (h : ∀ a, g a = s.heap.get? a) : obsT n fa fn g = (hookT n fa fn).obs s := by
  have e : g = s.heap.get? := funext h
  rw [e] <;> rfl
theorem walkG {l : PySem.W.OpenLaw} {n k m : Nat} {q : Program} {loose : List Str} {XP : (Str → Option Value) → Heap → Prop} {d : DefRec} {x : Str} {XR : XRel} {fl : Fn} {fa : List He.Fa} {dd : List He.DefD}
    (hn : l.most = some n) (hn2 : n ≤ sizeLine) (hdf : d.params.defaults = []) (hr : Rm k callerA) (h0 : fl.nio = 0)
    (F : ∀ (w : World) (mg : Str → Option Value) (f : Addr) (h : Heap) (K : PySem.W.Frag), K.In h → He.SaysD fa dd K → h.Ns mainGlobals mg → mg d.name = some (.ref f) →
      ∃ fd : FuncData, (∀ (s : Shared) (u : Value), BindsTo s fd ⟨[u], []⟩ [(x, u)]) ∧ ∀ base : Heap, K.In base → base.Ns mainGlobals mg → AwB base → FnG l.prog w K mg base k f fd [x] (spOf K XR 1 fl))
    (hfn : ∀ ns : List Int, ns.length ≤ n → (∀ z ∈ ns, Builtin.Int.intBits z ≤ 1048576) → fl.sp [] [.list (ns.map .int)] (fun r _ => r = .fz (.bool true)) fun _ _ => False) :
    PySem.W.WalkO q loose XP (hookT m fa dd).says l.row.toRowW d [] (fun f vs => PySem.call f vs) := by
  refine Att.attach_callB hn hdf fun w s₀ s₁ mg mb f o pm cd doc a vs ns G Y ho hd hcd hmg hobj hints hlen hbits hg => ?_
  obtain ⟨hsys, K, KX, c⟩ := Y
  obtain ⟨fd, hb, hF⟩ := F w mg f _ K KX c G.T.g hmg
  exact lawG KX G.T.g G.T.b G.T.builtins G.T.nolimit hg hsys hobj hints (Nat.le_trans hlen hn2) hr hF hb h0 (hfn ns hlen hbits)
end Tk

set_option Elab.async false
set_option linter.all false
set_option maxRecDepth 100000
namespace Tk
open PySem PySem.Spec PyProof.Rows L2

/-! ### to reckon with what the small language means -/
theorem isB_fz {b : Bool} {Q : Bool → Prop} : Hd.isB (.fz (.bool b)) Q ↔ Q b := ⟨fun ⟨c, e, q⟩ => by cases e; exact q, fun q => ⟨b, rfl, q⟩⟩
theorem end0 {L : Lc} {Q : List PV → Prop} : (∃ ys, L.take 0 = ys.map some ∧ Q ys) ↔ Q [] := by
  constructor
  · rintro ⟨ys, e, q⟩
    cases ys with
    | nil => exact q
    | cons _ _ => simp at e
  · exact fun q => ⟨[], rfl, q⟩
theorem end1 {w : PV} {L : Lc} {Q : List PV → Prop} : (∃ ys, List.take 1 (some w :: L) = ys.map some ∧ Q ys) ↔ Q [w] := by
  constructor
  · rintro ⟨ys, e, q⟩
    cases ys with
    | nil => simp at e
    | cons y ys =>
      simp at e
      obtain ⟨rfl, e⟩ := e
      subst e
      exact q
  · exact fun q => ⟨[w], by simp, q⟩
theorem lcRun_ind {body : PyData → Lc → (Option PV → Lc → Prop) → Prop} {own : List Nat} {Q : List PV → Lc → Prop} (J : List PyData → List PV → Lc → Prop)
    (step : ∀ d ds acc L (R : List PV → Lc → Prop), J (d :: ds) acc L → (∀ acc' L', J ds acc' L' → R acc' L') → body d (wipeL L own) (fun y L' => match y with
      | some x => acc.length < sizeLine ∧ R (acc ++ [x]) L'
      | none => R acc L')) (fin : ∀ acc L, J [] acc L → Q acc L) : ∀ (ds : List PyData) (acc : List PV) (L : Lc), J ds acc L → lcRun body own ds acc L Q
  | [], acc, L, h => by unfold lcRun; exact fin acc L h
  | d :: ds, acc, L, h => by
    unfold lcRun
    exact step d ds acc L _ h fun acc' L' h' => lcRun_ind J step fin ds acc' L' h'
/-- each piece gives one thing or none, and nothing else changes -/
theorem lcRun_filter {body : PyData → Lc → (Option PV → Lc → Prop) → Prop} {own : List Nat} {Q : List PV → Lc → Prop} (L0 : Lc) (g : PyData → Option PV) :
    ∀ (ds : List PyData) (acc : List PV) (L : Lc), (∀ d ∈ ds, ∀ R : Option PV → Lc → Prop, (∀ L', wipeL L' own = L0 → R (g d) L') → body d L0 R) → wipeL L own = L0 → acc.length + ds.length ≤ sizeLine → (∀ L', wipeL L' own = L0 → Q (acc ++ ds.filterMap g) L') → lcRun body own ds acc L Q
  | [], acc, L, step, hL, hl, fin => by
    unfold lcRun
    have := fin L hL
    simpa using this
  | d :: ds, acc, L, step, hL, hl, fin => by
    unfold lcRun
    rw [hL]
    refine step d List.mem_cons_self _ fun L' hL' => ?_
    rw [List.length_cons] at hl
    cases e : g d with
    | none =>
      refine lcRun_filter L0 g ds acc L' (fun d' hd' => step d' (List.mem_cons_of_mem _ hd')) hL' (by omega) fun L2 h2 => ?_
      have := fin L2 h2
      rw [List.filterMap_cons, e] at this
      exact this
    | some x =>
      refine ⟨by omega, lcRun_filter L0 g ds (acc ++ [x]) L' (fun d' hd' => step d' (List.mem_cons_of_mem _ hd')) hL' (by rw [List.length_append, List.length_singleton]; omega) fun L2 h2 => ?_⟩
      have := fin L2 h2
      rw [List.filterMap_cons, e] at this
      simpa using this
theorem lcRun_map {body : PyData → Lc → (Option PV → Lc → Prop) → Prop} {own : List Nat} {Q : List PV → Lc → Prop} (L0 : Lc) (g : PyData → PV) {ds : List PyData} {L : Lc}
    (step : ∀ d ∈ ds, ∀ R : Option PV → Lc → Prop, (∀ L', wipeL L' own = L0 → R (some (g d)) L') → body d L0 R) (hL : wipeL L own = L0) (hl : ds.length ≤ sizeLine) (fin : ∀ L', wipeL L' own = L0 → Q (ds.map g) L') : lcRun body own ds [] L Q := by
  refine lcRun_filter L0 (fun d => some (g d)) ds [] L step hL (by simpa using hl) fun L' h => ?_
  have e : ds.filterMap (fun d => some (g d)) = ds.map g := by
    clear fin step hl
    induction ds with
    | nil => rfl
    | cons d ds ih =>
      rw [List.filterMap_cons, List.map_cons]
      show g d :: _ = _
      rw [ih]
  rw [List.nil_append, e]
  exact fin L' h
theorem forRun_ind {body : PyData → Lc → Pt → Prop} {P : Pt} (J : List PyData → Lc → Prop) (step : ∀ d ds L (N : Lc → Prop), J (d :: ds) L → (∀ L', J ds L' → N L') → body d L { P with nx := N, ct := N, bk := P.nx }) (fin : ∀ L, J [] L → P.nx L) :
    ∀ (ds : List PyData) (L : Lc), J ds L → forRun body ds L P
  | [], L, h => by unfold forRun; exact fin L h
  | d :: ds, L, h => by
    unfold forRun
    exact step d ds L _ h fun L' h' => forRun_ind J step fin ds L' h'
theorem sz_small {n : Nat} (h : n ≤ 1000000) : n ≤ sizeLine := Nat.le_trans h (by decide)
theorem sz_lt {n : Nat} (h : n ≤ 1000000) : n < sizeLine := Nat.lt_of_le_of_lt h (by decide)
/-! plain data that compare -/
theorem canLay_ints : ∀ ns : List Int, PyData.canLayAll0 (ns.map PyData.int) = true
  | [] => by simp [PyData.canLayAll0]
  | n :: ns => by
    rw [List.map_cons, PyData.canLayAll0, canLay_ints ns]
    simp [PyData.canLay0]
theorem depth_ints : ∀ ns : List Int, PyData.depthAll (ns.map PyData.int) = 0
  | [] => by simp [PyData.depthAll]
  | n :: ns => by
    rw [List.map_cons, PyData.depthAll, depth_ints ns]
    simp [PyData.depth]
theorem shaped_ints (ns : List Int) : SeqAt.shaped (.list (ns.map .int)) = true := by
  unfold SeqAt.shaped
  rw [PyData.canLay0, canLay_ints, PyData.depth, depth_ints]
  decide
theorem eqv_nil (xs : List PyData) : PyData.eqv (.list xs) (.list []) = xs.isEmpty := by
  cases xs <;> simp [PyData.eqv, PyData.eqvAll]

/-! ### single steps of reckoning -/
section
variable {Φ : Fns} {L : Lc} {d e : PyData} {ds es : List PyData} {i j : Int} {b c : Bool} {x y : Str} {Q : PV → Prop} {P : Bool → Prop}
theorem vw_fz : Hd.vw L (.fz d) = some (.d d) := rfl
theorem vw_tm {x : PV} : Hd.vw L (.tm x) = some x.vw := rfl
theorem vw_pl {i : Nat} {r : List Nat} : Hd.vw L (.pl i r) = (L.at i r).map PV.vw := rfl
theorem at_sl {i : Nat} : Lc.at L i [] = (match L[i]? with | some (some x) => some x | _ => none) := by
  unfold Lc.at
  cases L[i]? with
  | none => rfl
  | some o =>
    cases o with
    | none => rfl
    | some x =>
      show x.get [] = some x
      unfold PV.get
      rfl
theorem vw_sl {i : Nat} : Hd.vw L (.pl i []) = (match L[i]? with | some (some x) => some x.vw | _ => none) := by
  show (Lc.at L i []).map PV.vw = _
  rw [at_sl]
  cases L[i]? with
  | none => rfl
  | some o => cases o <;> rfl
theorem dat_d : Vw.dat (.d d) = d := rfl
theorem dat_l : Vw.dat (.l ds) = .list ds := rfl
theorem dat_o : Vw.dat (.o d) = d := rfl
theorem pvw_fz : PV.vw (.fz d) = .d d := rfl
theorem pvw_fzL : PV.vw (fzL ds) = .l ds := by
  show (match allFz (ds.map PV.fz) with | some ds => Vw.l ds | none => Vw.o (PV.mls (ds.map PV.fz)).toD) = _
  rw [allFz_map]
theorem pvw_mls {ds : List PyData} : PV.vw (.mls (ds.map .fz)) = .l ds := pvw_fzL
theorem hd_fz : PV.hd (.fz d) = .fz d := rfl
theorem hd_fzL : PV.hd (fzL ds) = .tm (fzL ds) := rfl
theorem hd_mls {xs : List PV} : PV.hd (.mls xs) = .tm (.mls xs) := rfl
theorem kid_fz : Hd.kid L (.fz d) = some (.fz d, L) := rfl
theorem kid_tm {x : PV} : Hd.kid L (.tm x) = some (x, L) := rfl
theorem frz_fz : Hd.frz L (.fz d) = some (d, L) := rfl
theorem frz_tm {x : PV} : Hd.frz L (.tm x) = some (x.toD, L) := rfl
theorem toD_fzL : (fzL ds).toD = .list ds := by
  unfold fzL
  rw [PV.toD, toDs_fz]
theorem toD_mls : (PV.mls (ds.map .fz)).toD = .list ds := toD_fzL
theorem toD_fz : (PV.fz d).toD = d := by rw [PV.toD]
theorem st_fz : Hd.stable (.fz d) = true := rfl
theorem st_tm {x : PV} : Hd.stable (.tm x) = true := rfl
theorem st_sl {i : Nat} : Hd.stable (.pl i []) = true := rfl
theorem seq_dl : Vw.seq (.d (.list ds)) = some ds := rfl
theorem seq_dt : Vw.seq (.d (.tuple ds)) = some ds := rfl
theorem seq_l : Vw.seq (.l ds) = some ds := rfl
theorem asL_dl : Vw.asL (.d (.list ds)) = some ds := rfl
theorem asL_l : Vw.asL (.l ds) = some ds := rfl
theorem asL_dt : Vw.asL (.d (.tuple ds)) = none := rfl
theorem asT_dt : Vw.asT (.d (.tuple ds)) = some ds := rfl
theorem asT_dl : Vw.asT (.d (.list ds)) = none := rfl
theorem asT_l : Vw.asT (.l ds) = none := rfl
def isiV (T : String) : PyData → Bool
  | .none => T == "NoneType"
  | .bool _ => T == "bool" || T == "int"
  | .int _ => T == "int"
  | .str _ => T == "str"
  | .list _ => T == "list"
  | .tuple _ => T == "tuple"
  | .dict _ => T == "dict"
theorem isiB_some {T : String} : isiB T d = some (isiV T d) := by cases d <;> rfl
def isNN : PyData → Bool
  | .none => true
  | _ => false
def isBB : PyData → Bool
  | .bool _ => true
  | _ => false
def isII : PyData → Bool
  | .bool _ => true
  | .int _ => true
  | _ => false
def isSS : PyData → Bool
  | .str _ => true
  | _ => false
def isLL : PyData → Bool
  | .list _ => true
  | _ => false
def isTT : PyData → Bool
  | .tuple _ => true
  | _ => false
def isDD : PyData → Bool
  | .dict _ => true
  | _ => false
theorem isiV_b : isiV "bool" d = isBB d := by cases d <;> rfl
theorem isiV_i : isiV "int" d = isII d := by cases d <;> rfl
theorem isiV_s : isiV "str" d = isSS d := by cases d <;> rfl
theorem isiV_l : isiV "list" d = isLL d := by cases d <;> rfl
theorem isiV_t : isiV "tuple" d = isTT d := by cases d <;> rfl
theorem isiV_d : isiV "dict" d = isDD d := by cases d <;> rfl
theorem bop_add : bop .Add (.d (.int i)) (.d (.int j)) Q ↔ Q (.fz (.int (i + j))) := by simp [bop, Vw.asL, Vw.asT]
theorem bop_sub : bop .Sub (.d (.int i)) (.d (.int j)) Q ↔ Q (.fz (.int (i - j))) := by simp [bop, Vw.asL, Vw.asT]
theorem bop_mul : bop .Mult (.d (.int i)) (.d (.int j)) Q ↔ MulOk i j ∧ Q (.fz (.int (i * j))) := by simp [bop, Vw.asL, Vw.asT]
theorem bop_div : bop .FloorDiv (.d (.int i)) (.d (.int j)) Q ↔ (0 < j ∧ j.natAbs.log2 < 9000) ∧ Q (.fz (.int (i / j))) := by simp [bop, Vw.asL, Vw.asT]
theorem bop_mod : bop .Mod (.d (.int i)) (.d (.int j)) Q ↔ 0 < j ∧ Q (.fz (.int (i % j))) := by simp [bop, Vw.asL, Vw.asT]
theorem bop_pow : bop .Pow (.d (.int i)) (.d (.int j)) Q ↔ CPow i j ∧ Q (.fz (.int (i ^ j.toNat))) := by simp [bop, Vw.asL, Vw.asT]
theorem bop_shl : bop .LShift (.d (.int i)) (.d (.int j)) Q ↔ CPow i j ∧ Q (.fz (.int (i * 2 ^ j.toNat))) := by simp [bop, Vw.asL, Vw.asT]
theorem bop_shr : bop .RShift (.d (.int i)) (.d (.int j)) Q ↔ 0 ≤ j ∧ Q (.fz (.int (i / 2 ^ j.toNat))) := by simp [bop, Vw.asL, Vw.asT]
theorem bop_and : bop .BitAnd (.d (.int i)) (.d (.int j)) Q ↔ Q (.fz (.int (Builtin.bitAnd i j))) := by simp [bop, Vw.asL, Vw.asT]
theorem bop_or : bop .BitOr (.d (.int i)) (.d (.int j)) Q ↔ Q (.fz (.int (Builtin.bitOr i j))) := by simp [bop, Vw.asL, Vw.asT]
theorem bop_xor : bop .BitXor (.d (.int i)) (.d (.int j)) Q ↔ Q (.fz (.int (Builtin.bitXor i j))) := by simp [bop, Vw.asL, Vw.asT]
theorem bop_str : bop .Add (.d (.str x)) (.d (.str y)) Q ↔ x.length + y.length ≤ sizeLine ∧ Q (.fz (.str (x ++ y))) := by simp [bop, Vw.asL, Vw.asT]
theorem bop_catL {v w : Vw} (hv : v.asL = some ds) (hw : w.asL = some es) (hl : ds.length + es.length ≤ sizeLine) (q : Q (fzL (ds ++ es))) : bop .Add v w Q := .inr (.inr (.inl ⟨rfl, ds, es, hv, hw, hl, q⟩))
theorem bop_catT {v w : Vw} (hv : v.asT = some ds) (hw : w.asT = some es) (hl : ds.length + es.length ≤ sizeLine) (q : Q (.fz (.tuple (ds ++ es)))) : bop .Add v w Q := .inr (.inr (.inr (.inl ⟨rfl, ds, es, hv, hw, hl, q⟩)))
theorem bop_repL {v : Vw} {k : Int} (hv : v.asL = some ds) (h1 : -(2 ^ 63) ≤ k) (h2 : k < 2 ^ 63) (hl : ds.length * k.toNat ≤ sizeLine) (q : Q (fzL (List.replicate k.toNat ds).flatten)) : bop .Mult v (.d (.int k)) Q := .inr (.inr (.inr (.inr (.inl ⟨rfl, ds, k, hv, rfl, ⟨h1, h2⟩, hl, q⟩))))
theorem eqOk_int : eqOk (.int i) (.int j) := ⟨rfl, rfl⟩
theorem eqv_str {x y : Str} : PyData.eqv (.str x) (.str y) = decide (x = y) := by
  rw [PyData.eqv]
  by_cases h : x = y <;> simp [h]
theorem cop_eq : cop .Eq (.d (.int i)) (.d (.int j)) P ↔ P (decide (i = j)) := by
  show (eqOk (.int i) (.int j) ∧ P (PyData.eqv (.int i) (.int j))) ∨ _ ∨ _ ↔ _
  rw [show PyData.eqv (.int i) (.int j) = decide (i = j) by rw [PyData.eqv]; rfl]
  refine ⟨fun h => ?_, fun h => .inl ⟨eqOk_int, h⟩⟩
  rcases h with h | ⟨x, y, e, _⟩ | ⟨xs, e, _⟩
  · exact h.2
  · cases e
  · cases e
theorem cop_eqS {x y : Str} : cop .Eq (.d (.str x)) (.d (.str y)) P ↔ P (decide (x = y)) := by
  show (eqOk (.str x) (.str y) ∧ P (PyData.eqv (.str x) (.str y))) ∨ _ ∨ _ ↔ _
  rw [eqv_str]
  refine ⟨fun h => ?_, fun h => .inr (.inl ⟨_, _, rfl, rfl, h⟩)⟩
  rcases h with h | ⟨x, y, e, e2, h⟩ | ⟨xs, e, _⟩
  · exact h.2
  · cases e; cases e2; exact h
  · cases e
theorem cop_eqD {v w : Vw} (h : eqOk v.dat w.dat) (q : P (PyData.eqv v.dat w.dat)) : cop .Eq v w P := .inl ⟨h, q⟩
theorem cop_ne : cop .NotEq (.d (.int i)) (.d (.int j)) P ↔ P (!decide (i = j)) := by
  show (eqOk (.int i) (.int j) ∧ P (!PyData.eqv (.int i) (.int j))) ∨ _ ∨ _ ↔ _
  rw [show PyData.eqv (.int i) (.int j) = decide (i = j) by rw [PyData.eqv]; rfl]
  refine ⟨fun h => ?_, fun h => .inl ⟨eqOk_int, h⟩⟩
  rcases h with h | ⟨x, y, e, _⟩ | ⟨xs, e, _⟩
  · exact h.2
  · cases e
  · cases e
theorem cop_neS {x y : Str} : cop .NotEq (.d (.str x)) (.d (.str y)) P ↔ P (!decide (x = y)) := by
  show (eqOk (.str x) (.str y) ∧ P (!PyData.eqv (.str x) (.str y))) ∨ _ ∨ _ ↔ _
  rw [eqv_str]
  refine ⟨fun h => ?_, fun h => .inr (.inl ⟨_, _, rfl, rfl, h⟩)⟩
  rcases h with h | ⟨x, y, e, e2, h⟩ | ⟨xs, e, _⟩
  · exact h.2
  · cases e; cases e2; exact h
  · cases e
theorem cop_neD {v w : Vw} (h : eqOk v.dat w.dat) (q : P (!PyData.eqv v.dat w.dat)) : cop .NotEq v w P := .inl ⟨h, q⟩
theorem cop_lt : cop .Lt (.d (.int i)) (.d (.int j)) P ↔ P (decide (i < j)) := by simp [cop]
theorem cop_le : cop .LtE (.d (.int i)) (.d (.int j)) P ↔ P (decide (i ≤ j)) := by simp [cop]
theorem cop_gt : cop .Gt (.d (.int i)) (.d (.int j)) P ↔ P (decide (j < i)) := by simp [cop]
theorem cop_ge : cop .GtE (.d (.int i)) (.d (.int j)) P ↔ P (decide (j ≤ i)) := by simp [cop]
theorem cop_is : cop .Is (.d (.bool b)) (.d (.bool c)) P ↔ P (decide (b = c)) := by simp [cop]
theorem bip_len {v : Vw} : bip .len [v] Q ↔ ∃ ds, v.seq = some ds ∧ Q (.fz (.int ds.length)) := by simp [bip]
theorem bip_abs : bip .abs [.d (.int i)] Q ↔ Q (.fz (.int (if i < 0 then -i else i))) := by simp [bip]
theorem bip_intI : bip .int1 [.d (.int i)] Q ↔ Q (.fz (.int i)) := by simp [bip]
theorem bip_intB : bip .int1 [.d (.bool b)] Q ↔ Q (.fz (.int (if b then 1 else 0))) := by simp [bip]
theorem bip_tup {v : Vw} : bip .tuple1 [v] Q ↔ ∃ ds, v.seq = some ds ∧ Q (.fz (.tuple ds)) := by simp [bip]
theorem bip_lst {v : Vw} : bip .list1 [v] Q ↔ ∃ ds, v.seq = some ds ∧ Q (fzL ds) := by simp [bip]
theorem bip_repr {v : Vw} : bip .repr [v] Q ↔ v.dat.showable = true ∧ v.dat.depth ≤ 100 ∧ v.dat.shown.length ≤ sizeLine ∧ Q (.fz (.str v.dat.shown)) := by simp [bip]
theorem bip_all {bs : List Bool} (q : Q (.fz (.bool (bs.all id)))) {v : Vw} (hv : v.asL = some (bs.map .bool)) : bip .all1 [v] Q := ⟨v, bs, rfl, hv, q⟩
theorem bip_any {bs : List Bool} (q : Q (.fz (.bool (bs.any id)))) {v : Vw} (hv : v.asL = some (bs.map .bool)) : bip .any1 [v] Q := ⟨v, bs, rfl, hv, q⟩
/-- o[i] of frozen data -/
theorem ixp_l {Q : Hd → Prop} : ixp L (.fz (.list ds)) (.int i) Q ↔ ∃ d, atI ds i = some d ∧ Q (.fz d) := by simp [ixp]
theorem ixp_t {Q : Hd → Prop} : ixp L (.fz (.tuple ds)) (.int i) Q ↔ ∃ d, atI ds i = some d ∧ Q (.fz d) := by simp [ixp]
/-- a def of data alone, a function -/
def pureF (g : List PyData → Option PyData) : Fn := ⟨0, fun xs ds Q _ => xs = [] ∧ ∃ r, g ds = some r ∧ Q (.fz r) []⟩
/-- its call -/
theorem call_pure {g : List PyData → Option PyData} {perm : List Nat} {hs : List Hd} {Q : QE} {X : QX} {its : List Itm} {L' : Lc} {r : PyData} (hp : prep [] 0 hs L = some (its, L')) (hd : pickD its perm = some ds) (hg : g ds = some r) (q : Q (.fz r) L') : callp (pureF g) perm hs L Q X := by
  refine ⟨its, L', [], ds, [], by simpa [pureF] using hp, by simp [pureF, pickS], by simpa [pureF] using hd, List.nodup_nil, rfl, by simp [getAll], rfl, r, hg, rfl, ?_⟩
  simpa [PV.hd, setAll] using q
theorem prep_nil {ios : List Nat} {t : Nat} : prep ios t [] L = some ([], L) := by simp [prep]
theorem prep_fz {t : Nat} {hs : List Hd} : prep [] t (.fz d :: hs) L = (match prep [] (t + 1) hs L with | some (its, L') => some (.dt d :: its, L') | none => none) := by
  simp only [prep, Hd.frz, List.contains_nil, Bool.false_eq_true, if_false]
  all_goals (cases prep [] (t + 1) hs L <;> rfl)
theorem prep_tm {t : Nat} {x : PV} {hs : List Hd} : prep [] t (.tm x :: hs) L = (match prep [] (t + 1) hs L with | some (its, L') => some (.dt x.toD :: its, L') | none => none) := by
  simp only [prep, Hd.frz, List.contains_nil, Bool.false_eq_true, if_false]
  all_goals (cases prep [] (t + 1) hs L <;> rfl)
end

/-! ### comprehensions that change nothing -/
theorem wipeL_out {L : Lc} : ∀ {vs : List Nat} {i : Nat}, i ∉ vs → (wipeL L vs)[i]? = L[i]?
  | [], _, _ => rfl
  | v :: vs, i, h => by
    simp only [List.mem_cons, not_or] at h
    show ((wipeL L vs).set v none)[i]? = _
    rw [List.getElem?_set_ne (fun e => h.1 e.symm), wipeL_out h.2]
theorem wipeL_len {L : Lc} : ∀ {vs : List Nat}, (wipeL L vs).length = L.length
  | [] => rfl
  | v :: vs => by show ((wipeL L vs).set v none).length = _; rw [List.length_set, wipeL_len]
theorem backL_out {L L2 : Lc} : ∀ {vs : List Nat} {i : Nat}, i ∉ vs → (backL L L2 vs)[i]? = L2[i]?
  | [], _, _ => rfl
  | v :: vs, i, h => by
    simp only [List.mem_cons, not_or] at h
    show ((backL L L2 vs).set v _)[i]? = _
    rw [List.getElem?_set_ne (fun e => h.1 e.symm), backL_out h.2]
theorem backL_in {L L2 : Lc} : ∀ {vs : List Nat} {i : Nat}, i ∈ vs → i < L2.length → (backL L L2 vs)[i]? = some (keepFz L[i]?)
  | v :: vs, i, h, hi => by
    show ((backL L L2 vs).set v _)[i]? = _
    by_cases e : v = i
    · subst e
      rw [List.getElem?_set_self (by rw [backL_len]; exact hi)]
    · rw [List.getElem?_set_ne e]
      exact backL_in ((List.mem_cons.mp h).resolve_left fun z => e z.symm) hi
theorem back_same {L1 L' : Lc} {vs : List Nat} (h : wipeL L' vs = wipeL L1 vs) (hk : ∀ v ∈ vs, L1[v]? = some (keepFz L1[v]?)) : backL L1 L' vs = L1 := by
  have hl : L'.length = L1.length := by rw [← wipeL_len (L := L') (vs := vs), h, wipeL_len]
  apply List.ext_getElem?
  intro i
  by_cases hi : i ∈ vs
  · have h1 := hk i hi
    have hlt : i < L'.length := by rw [hl]; exact (List.getElem?_eq_some_iff.mp h1).1
    rw [backL_in hi hlt, ← h1]
  · rw [backL_out hi, ← wipeL_out (L := L') hi, h, wipeL_out hi]
theorem lc_map {body : PyData → Lc → (Option PV → Lc → Prop) → Prop} {own : List Nat} {K : Hd → Lc → Prop} {L1 : Lc} {ds : List PyData} (g : PyData → PV)
    (step : ∀ d ∈ ds, ∀ R : Option PV → Lc → Prop, (∀ L', wipeL L' own = wipeL L1 own → R (some (g d)) L') → body d (wipeL L1 own) R) (hl : ds.length ≤ sizeLine) (hk : ∀ v ∈ own, L1[v]? = some (keepFz L1[v]?)) (q : K (.tm (.mls (ds.map g))) L1) :
    lcRun body own ds [] L1 fun acc L2 => K (.tm (.mls acc)) (backL L1 L2 own) :=
  lcRun_map (wipeL L1 own) g step rfl hl fun L' h => by rw [back_same h hk]; exact q
theorem lc_filter {body : PyData → Lc → (Option PV → Lc → Prop) → Prop} {own : List Nat} {K : Hd → Lc → Prop} {L1 : Lc} {ds : List PyData} (g : PyData → Option PV)
    (step : ∀ d ∈ ds, ∀ R : Option PV → Lc → Prop, (∀ L', wipeL L' own = wipeL L1 own → R (g d) L') → body d (wipeL L1 own) R) (hl : ds.length ≤ sizeLine) (hk : ∀ v ∈ own, L1[v]? = some (keepFz L1[v]?)) (q : K (.tm (.mls (ds.filterMap g))) L1) :
    lcRun body own ds [] L1 fun acc L2 => K (.tm (.mls acc)) (backL L1 L2 own) :=
  lcRun_filter (wipeL L1 own) g ds [] L1 step rfl (by simpa using hl) fun L' h => by rw [back_same h hk, List.nil_append]; exact q
theorem lc_mapQ {body : PyData → Lc → (Option PV → Lc → Prop) → Prop} {own : List Nat} {Q : List PV → Lc → Prop} {L1 : Lc} {ds : List PyData} (g : PyData → PyData)
    (step : ∀ d ∈ ds, ∀ R : Option PV → Lc → Prop, (∀ L', wipeL L' own = wipeL L1 own → R (some (.fz (g d))) L') → body d (wipeL L1 own) R) (hl : ds.length ≤ sizeLine) (hk : ∀ v ∈ own, L1[v]? = some (keepFz L1[v]?))
    (q : ∀ L2, backL L1 L2 own = L1 → Q ((ds.map g).map .fz) L2) : lcRun body own ds [] L1 Q :=
  lcRun_map (wipeL L1 own) (fun d => .fz (g d)) step rfl hl fun L' h => by
    have := q L' (back_same h hk)
    rw [List.map_map] at this
    exact this
theorem lc_filterQ {body : PyData → Lc → (Option PV → Lc → Prop) → Prop} {own : List Nat} {Q : List PV → Lc → Prop} {L1 : Lc} {ds : List PyData} (g : PyData → Option PyData)
    (step : ∀ d ∈ ds, ∀ R : Option PV → Lc → Prop, (∀ L', wipeL L' own = wipeL L1 own → R ((g d).map .fz) L') → body d (wipeL L1 own) R) (hl : ds.length ≤ sizeLine) (hk : ∀ v ∈ own, L1[v]? = some (keepFz L1[v]?))
    (q : ∀ L2, backL L1 L2 own = L1 → Q ((ds.filterMap g).map .fz) L2) : lcRun body own ds [] L1 Q :=
  lcRun_filter (wipeL L1 own) (fun d => (g d).map .fz) ds [] L1 step rfl (by simpa using hl) fun L' h => by
    have := q L' (back_same h hk)
    rw [List.map_filterMap] at this
    rw [List.nil_append]
    exact this
theorem atI_nn {α : Type} {ds : List α} {i : Int} (h : 0 ≤ i) : atI ds i = ds[i.toNat]? := by
  unfold atI ixN
  rw [if_pos h]
  by_cases hl : i < ds.length
  · rw [if_pos hl]; rfl
  · rw [if_neg hl]
    show none = _
    rw [List.getElem?_eq_none (by omega)]
theorem atI_0 {α : Type} {ds : List α} : atI ds 0 = ds[0]? := atI_nn (by decide)
theorem atI_1 {α : Type} {ds : List α} : atI ds 1 = ds[1]? := atI_nn (by decide)
theorem atI_2 {α : Type} {ds : List α} : atI ds 2 = ds[2]? := atI_nn (by decide)
theorem atI_cast {α : Type} {ds : List α} {j : Nat} : atI ds (j : Int) = ds[j]? := by rw [atI_nn (by omega)]; rfl
theorem asg_nm {i : Nat} {d : PyData} {L : Lc} : Tg.asg (.nm i) d L = if i < L.length then some (L.set i (some (.fz d))) else none := by rw [Tg.asg]
theorem asg_tp {ts : Tgs} {ds : List PyData} {L : Lc} : Tg.asg (.tp ts) (.tuple ds) L = Tgs.asg ts ds L := by rw [Tg.asg]
theorem asg_tl {ts : Tgs} {ds : List PyData} {L : Lc} : Tg.asg (.tp ts) (.list ds) L = Tgs.asg ts ds L := by rw [Tg.asg]
theorem asgs_nil {L : Lc} : Tgs.asg .nil [] L = some L := by rw [Tgs.asg]
theorem asgs_cons {t : Tg} {ts : Tgs} {d : PyData} {ds : List PyData} {L L' : Lc} (h : Tg.asg t d L = some L') : Tgs.asg (.cons t ts) (d :: ds) L = Tgs.asg ts ds L' := by rw [Tgs.asg, h]
theorem asgs_nm {i : Nat} {ts : Tgs} {d : PyData} {ds : List PyData} {L : Lc} (h : i < L.length) : Tgs.asg (.cons (.nm i) ts) (d :: ds) L = Tgs.asg ts ds (L.set i (some (.fz d))) := asgs_cons (by rw [asg_nm, if_pos h])
theorem asg_pair {i j : Nat} {d e : PyData} {L : Lc} (h1 : i < L.length) (h2 : j < L.length) : Tg.asg (.tp (.cons (.nm i) (.cons (.nm j) .nil))) (.tuple [d, e]) L = some ((L.set i (some (.fz d))).set j (some (.fz e))) := by
  rw [asg_tp, asgs_nm h1, asgs_nm (by rw [List.length_set]; exact h2), asgs_nil]
theorem ixp_mdc {L : Lc} {i : Nat} {r : List Nat} {k : PyData} {R : Hd → Prop} {ks : List Key} {xs : List PV} (h : L.at i r = some (.mdc ks xs)) : ixp L (.pl i r) k R ↔ ∃ z j x, keyOf k = some z ∧ ks.Nodup ∧ ks[j]? = some z ∧ xs[j]? = some x ∧ R (kidHd i r j x) := by
  simp only [ixp, h]
theorem ixp_mls {L : Lc} {i : Nat} {r : List Nat} {k : PyData} {R : Hd → Prop} {xs : List PV} (h : L.at i r = some (.mls xs)) : ixp L (.pl i r) k R ↔ ∃ z j x, k = .int z ∧ ixN xs.length z = some j ∧ xs[j]? = some x ∧ R (kidHd i r j x) := by
  simp only [ixp, h]
theorem sstp_mdc {L : Lc} {i : Nat} {r : List Nat} {k : PyData} {x : PV} {Q : Lc → Prop} {ks : List Key} {xs : List PV} {z : Key} {j : Nat} (h : L.at i r = some (.mdc ks xs)) (hk : keyOf k = some z) (nd : ks.Nodup) (hl : ks.length < sizeLine) (hj : ks[j]? = some z) (q : Q (L.setAt i r (.mdc ks (xs.set j x)))) : sstp (.pl i r) k x L Q :=
  ⟨i, r, rfl, .inr ⟨ks, xs, z, h, hk, nd, hl, .inl ⟨j, hj, q⟩⟩⟩
theorem sstp_mls {L : Lc} {i : Nat} {r : List Nat} {x : PV} {Q : Lc → Prop} {xs : List PV} {z : Int} {j : Nat} (h : L.at i r = some (.mls xs)) (hj : ixN xs.length z = some j) (q : Q (L.setAt i r (.mls (xs.set j x)))) : sstp (.pl i r) (.int z) x L Q :=
  ⟨i, r, rfl, .inl ⟨xs, z, j, h, rfl, hj, q⟩⟩
theorem log_small {m : Int} (h : -(2 ^ 64) < m) (h' : m < 2 ^ 64) : m.natAbs.log2 < 9000 := by
  by_cases h0 : m.natAbs = 0
  · rw [h0]; decide
  · have : m.natAbs.log2 < 64 := (Nat.log2_lt h0).mpr (by omega)
    omega
theorem mul_l {i j : Int} (h : -(2 ^ 64) < i) (h' : i < 2 ^ 64) : MulOk i j := .inl (.inl ⟨h, h'⟩)
theorem mul_r {i j : Int} (h : -(2 ^ 64) < j) (h' : j < 2 ^ 64) : MulOk i j := .inl (.inr ⟨h, h'⟩)
theorem slp_dl {ds : List PyData} {lo hi : Option Int} {Q : PV → Prop} : slp (.d (.list ds)) lo hi Q ↔ Q (fzL (cutD ds lo hi)) := by simp [slp, Vw.asL, Vw.asT]
theorem slp_l {ds : List PyData} {lo hi : Option Int} {Q : PV → Prop} : slp (.l ds) lo hi Q ↔ Q (fzL (cutD ds lo hi)) := by simp [slp, Vw.asL, Vw.asT]
theorem slp_dt {ds : List PyData} {lo hi : Option Int} {Q : PV → Prop} : slp (.d (.tuple ds)) lo hi Q ↔ Q (.fz (.tuple (cutD ds lo hi))) := by simp [slp, Vw.asL, Vw.asT]
theorem cut_to {xs : List PyData} {n : Nat} : cutD xs none (some (n : Int)) = xs.take n := by
  unfold cutD
  rw [HT.sIx_none, HT.sIx_nat]
  simp
theorem cut_from {xs : List PyData} {n : Nat} : cutD xs (some (n : Int)) none = xs.drop n := by
  unfold cutD
  rw [HT.sIx_none, HT.sIx_nat]
  by_cases h : n ≤ xs.length
  · rw [Nat.min_eq_left h, List.take_of_length_le (by rw [List.length_drop]; omega)]
  · rw [Nat.min_eq_right (by omega), Nat.sub_self, List.take_zero, List.drop_of_length_le (by omega)]
theorem cut_in {xs : List PyData} {m n : Nat} : cutD xs (some (m : Int)) (some (n : Int)) = (xs.drop m).take (n - m) := by
  unfold cutD
  rw [HT.sIx_nat, HT.sIx_nat]
  apply List.ext_getElem?
  intro i
  simp only [List.getElem?_take, List.getElem?_drop]
  by_cases hm : m ≤ xs.length
  · rw [Nat.min_eq_left hm]
    by_cases h1 : i < min n xs.length - m
    · rw [if_pos h1, if_pos (by omega)]
    · rw [if_neg h1]
      split
      · rw [List.getElem?_eq_none (by omega)]
      · rfl
  · rw [Nat.min_eq_right (show xs.length ≤ m by omega)]
    split
    · rw [List.getElem?_eq_none (by omega)]
      split
      · rw [List.getElem?_eq_none (by omega)]
      · rfl
    · split
      · rw [List.getElem?_eq_none (by omega)]
      · rfl
theorem setAt_sl {L : Lc} {i : Nat} {x y : PV} (h : L[i]? = some (some x)) : Lc.setAt L i [] y = L.set i (some y) := by
  unfold Lc.setAt
  rw [h]
  show L.set i (some (x.put [] y)) = _
  unfold PV.put
  rfl
theorem frz_sl {L : Lc} {i : Nat} : Hd.frz L (.pl i []) = (match L[i]? with | some (some x) => some (x.toD, L.set i (some (.fz x.toD))) | _ => none) := by
  unfold Hd.frz
  simp only [at_sl]
  cases h : L[i]? with
  | none => rfl
  | some o =>
    cases o with
    | none => rfl
    | some x =>
      simp only
      rw [setAt_sl h]
theorem kid_sl {L : Lc} {i : Nat} : Hd.kid L (.pl i []) = (match L[i]? with | some (some x) => some (.fz x.toD, L.set i (some (.fz x.toD))) | _ => none) := by
  show (match Hd.frz L (.pl i []) with | some (d, L') => some (PV.fz d, L') | none => none) = _
  rw [frz_sl]
  cases L[i]? with
  | none => rfl
  | some o => cases o <;> rfl
end Tk

set_option Elab.async false
set_option linter.all false
set_option maxRecDepth 100000
set_option maxHeartbeats 0
namespace Tk
open PySem PySem.Spec PyProof.Rows L2

/-! ### the law's well of numbers -/
abbrev wl (ns : List Int) (st t : Int) : PV := .mdc [.inr "deep", .inr "stirred", .inr "turns"] [.mls (ns.map fun n => .fz (.int n)), .fz (.int st), .fz (.int t)]
def Well (w : PV) : Prop := ∃ ns st t, ns.length ≤ 63 ∧ w = wl ns st t
section
variable {Φ : Fns} {ns : List Int} {st t : Int} {r : Lc} {Q : QE} {X : QX}
theorem nm_wl : wE Φ (.nm 0) (some (wl ns st t) :: r) Q X ↔ Q (.pl 0 []) (some (wl ns st t) :: r) := by
  rw [wE]
  exact Iff.rfl
theorem wl_keys : ([.inr "deep", .inr "stirred", .inr "turns"] : List Key).Nodup := by decide
theorem at_wl : Lc.at (some (wl ns st t) :: r) 0 [] = some (wl ns st t) := by rw [at_sl]; rfl
theorem at_deep : Lc.at (some (wl ns st t) :: r) 0 [0] = some (.mls ((ns.map .int).map .fz)) := by
  unfold Lc.at
  show (wl ns st t).get [0] = _
  unfold wl
  simp [PV.get, PV.kids]
theorem set_deep {xs : List Int} : Lc.setAt (some (wl ns st t) :: r) 0 [0] (.mls ((xs.map .int).map .fz)) = some (wl xs st t) :: r := by
  unfold Lc.setAt
  show ((some (wl ns st t) :: r).set 0 (some ((wl ns st t).put [0] _)) : Lc) = _
  unfold wl
  simp [PV.put, PV.kids, PV.re]
theorem set_turns {d : Int} : Lc.setAt (some (wl ns st t) :: r) 0 [] (.mdc [.inr "deep", .inr "stirred", .inr "turns"] ([.mls (ns.map fun n => .fz (.int n)), .fz (.int st), .fz (.int t)].set 2 (.fz (.int d)))) = some (wl ns st d) :: r := by
  unfold Lc.setAt
  show ((some (wl ns st t) :: r).set 0 (some ((wl ns st t).put [] _)) : Lc) = _
  simp [PV.put, wl]
theorem wl_ix {R : Hd → Prop} {k : Str} {j : Nat} {x : PV} (hk : ([.inr "deep", .inr "stirred", .inr "turns"] : List Key)[j]? = some (.inr k)) (hx : [PV.mls (ns.map fun n => .fz (.int n)), .fz (.int st), .fz (.int t)][j]? = some x) (h : R (kidHd 0 [] j x)) :
    ixp (some (wl ns st t) :: r) (.pl 0 []) (.str k) R := by
  exact (ixp_mdc at_wl).mpr ⟨.inr k, j, x, rfl, wl_keys, hk, hx, h⟩
theorem ixp_deep {R : Hd → Prop} : ixp (some (wl ns st t) :: r) (.pl 0 []) (.str "deep") R ↔ R (.pl 0 [0]) := by
  constructor
  · intro h
    obtain ⟨z, j, x, hz, _, h1, h2, h3⟩ := (ixp_mdc at_wl).mp h
    cases hz
    match j, h1, h2, h3 with
    | 0, _, h2, h3 => cases h2; exact h3
    | 1, h1, _, _ => exact absurd h1 (by decide)
    | 2, h1, _, _ => exact absurd h1 (by decide)
    | j + 3, h1, _, _ => simp at h1
  · exact fun h => wl_ix (j := 0) rfl rfl h
theorem ixp_stirred {R : Hd → Prop} : ixp (some (wl ns st t) :: r) (.pl 0 []) (.str "stirred") R ↔ R (.fz (.int st)) := by
  constructor
  · intro h
    obtain ⟨z, j, x, hz, _, h1, h2, h3⟩ := (ixp_mdc at_wl).mp h
    cases hz
    match j, h1, h2, h3 with
    | 1, _, h2, h3 => cases h2; exact h3
    | 0, h1, _, _ => exact absurd h1 (by decide)
    | 2, h1, _, _ => exact absurd h1 (by decide)
    | j + 3, h1, _, _ => simp at h1
  · exact fun h => wl_ix (j := 1) rfl rfl h
theorem ixp_turns {R : Hd → Prop} : ixp (some (wl ns st t) :: r) (.pl 0 []) (.str "turns") R ↔ R (.fz (.int t)) := by
  constructor
  · intro h
    obtain ⟨z, j, x, hz, _, h1, h2, h3⟩ := (ixp_mdc at_wl).mp h
    cases hz
    match j, h1, h2, h3 with
    | 2, _, h2, h3 => cases h2; exact h3
    | 0, h1, _, _ => exact absurd h1 (by decide)
    | 1, h1, _, _ => exact absurd h1 (by decide)
    | j + 3, h1, _, _ => simp at h1
  · exact fun h => wl_ix (j := 2) rfl rfl h
theorem vw_deep : Hd.vw (some (wl ns st t) :: r) (.pl 0 [0]) = some (.l (ns.map .int)) := by
  rw [vw_pl, at_deep, Option.map_some, pvw_mls]
end
theorem sstp_turns {ns : List Int} {st t d : Int} {r : Lc} {Q : Lc → Prop} (q : Q (some (wl ns st d) :: r)) : sstp (.pl 0 []) (.str "turns") (.fz (.int d)) (some (wl ns st t) :: r) Q :=
  sstp_mdc (j := 2) at_wl rfl wl_keys (sz_lt (by simp)) rfl (by rw [set_turns]; exact q)
/-- one number of the well, less than many -/
def F_draw : Fn := ⟨1, fun xs ds Q _ => ∃ w many, xs = [w] ∧ ds = [.int many] ∧ Well w ∧ many < 2 ^ 64 ∧ ∀ w' r, Well w' → 0 ≤ r → r < max many 1 → Q (.fz (.int r)) [w']⟩
def draw_1 : Ss := .cons (.ret (.cst (.int 0))) .nil
def draw_5 : Ss := .cons (.exp (.appd (.ix (.nm 0) (.cst (.str "deep"))) 3 1)) .nil
def draw_6 : Ss := .cons (.ret (.bin .Mod (.bi .int1 (.cons (.nm 3) .nil)) (.nm 1))) .nil
def draw_4 : Ss := .cons (.ite (.cmp .GtE (.nm 3) (.nm 1)) draw_5 .nil) draw_6
def draw_3 : Ss := .cons (.set 3 (.pop (.ix (.nm 0) (.cst (.str "deep"))))) draw_4
def draw_11 : Ss := .cons (.ret (.bin .Mod (.bi .int1 (.cons (.bin .FloorDiv (.nm 2) (.cst (.int 128))) .nil)) (.nm 1))) .nil
def draw_10 : Ss := .cons (.set 2 (.bin .Mod (.bi .int1 (.cons (.bin .Add (.bin .Mult (.nm 2) (.nm 2)) (.ix (.nm 0) (.cst (.str "stirred")))) .nil)) (.cst (.int 4294967197)))) draw_11
def draw_9 : Ss := .cons (.set 2 (.bin .Mod (.bi .int1 (.cons (.bin .Add (.bin .Add (.bin .Mult (.nm 2) (.nm 2)) (.bin .Mult (.cst (.int 40503)) (.ix (.nm 0) (.cst (.str "turns"))))) (.cst (.int 17))) .nil)) (.cst (.int 4294967231)))) draw_10
def draw_8 : Ss := .cons (.set 2 (.bin .Mod (.bi .int1 (.cons (.bin .Add (.ix (.nm 0) (.cst (.str "stirred"))) (.bin .Mult (.cst (.int 2654435761)) (.ix (.nm 0) (.cst (.str "turns"))))) .nil)) (.cst (.int 4294967279)))) draw_9
def draw_7 : Ss := .cons (.sst (.nm 0) (.cst (.str "turns")) (.bin .Add (.ix (.nm 0) (.cst (.str "turns"))) (.cst (.int 1)))) draw_8
def draw_2 : Ss := .cons (.ite (.nen (.ix (.nm 0) (.cst (.str "deep"))) true) draw_3 .nil) draw_7
def draw_0 : Ss := .cons (.ite (.cmp .Lt (.nm 1) (.cst (.int 2))) draw_1 .nil) draw_2
theorem k_draw (Φ : Fns) : bodyOk Φ F_draw 4 2 draw_0 := by
  intro xs ds QQ XX h1 h2 hs
  obtain ⟨w, many, rfl, rfl, ⟨ns, st, t, hn, rfl⟩, hm, hq⟩ := hs
  have e0 : F_draw.nio = 1 := rfl
  unfold draw_0
  simp only [e0, wSs, wS, wE, wA, wB, wT, wO, wI, endPt, ini, vw_fz, vw_tm, vw_sl, vws, dat_d, dat_l, dat_o, pvw_fz, pvw_fzL, pvw_mls, hd_fz, hd_fzL, hd_mls, kid_fz, kid_tm, kidsOf, frz_fz, frz_tm, frz_sl, kid_sl, frzs, setAll, toD_fzL, toD_mls, toD_fz, st_fz, st_tm, st_sl, seq_dl, seq_dt, seq_l, asL_dl, asL_l, asL_dt, asT_dt, asT_dl, asT_l, isiB_some, isiV_b, isiV_i, isiV_s, isiV_l, isiV_t, isiV_d, isBB, isII, isSS, isLL, isTT, isDD, isB_fz, bop_add, bop_sub, bop_mul, bop_div, bop_mod, bop_pow, bop_shl, bop_shr, bop_and, bop_or, bop_xor, cop_eq, cop_ne, cop_eqS, cop_neS, cop_lt, cop_le, cop_gt, cop_ge, cop_is, bip_len, bip_abs, bip_intI, bip_intB, bip_tup, bip_lst, bip_repr, ixp_l, ixp_t, slp_dl, slp_l, slp_dt, atI_0, atI_1, atI_2, atI_cast, Es.len, asg_nm, asg_tp, asgs_nil, end0, end1, prep_nil, prep_fz, prep_tm, pickS, pickD, Hd.into, wipeL, List.map_nil, List.map_cons, List.nil_append, List.cons_append, List.length_nil, List.length_cons, List.getElem?_cons_zero, List.getElem?_cons_succ, List.getElem?_nil, List.set_cons_zero, List.set_cons_succ, List.replicate, Option.some.injEq, Prod.mk.injEq, exists_eq_left', exists_eq_left, exists_and_left, and_assoc, and_true, true_and, or_true, true_or, Nat.sub_self, Nat.reduceAdd, Nat.reduceSub, Nat.zero_add, Nat.reduceLT, Nat.lt_add_one, if_true, if_false, ite_true, ite_false, Bool.not_true, Bool.not_false, Bool.false_eq_true, Bool.true_eq_false, eq_self_iff_true, forall_const, true_implies, false_implies, implies_true, reduceCtorEq, and_false, false_and, false_or, or_false, Hd.fz.injEq, PyData.int.injEq, PyData.list.injEq, PyData.tuple.injEq, PyData.bool.injEq]
  refine ⟨fun e => ?_, fun e => ?_⟩
  · unfold draw_1
    simp only [wSs, wS, wE, wA, wB, wT, wO, wI, endPt, ini, vw_fz, vw_tm, vw_sl, vws, dat_d, dat_l, dat_o, pvw_fz, pvw_fzL, pvw_mls, hd_fz, hd_fzL, hd_mls, kid_fz, kid_tm, kidsOf, frz_fz, frz_tm, frz_sl, kid_sl, frzs, setAll, toD_fzL, toD_mls, toD_fz, st_fz, st_tm, st_sl, seq_dl, seq_dt, seq_l, asL_dl, asL_l, asL_dt, asT_dt, asT_dl, asT_l, isiB_some, isiV_b, isiV_i, isiV_s, isiV_l, isiV_t, isiV_d, isBB, isII, isSS, isLL, isTT, isDD, isB_fz, bop_add, bop_sub, bop_mul, bop_div, bop_mod, bop_pow, bop_shl, bop_shr, bop_and, bop_or, bop_xor, cop_eq, cop_ne, cop_eqS, cop_neS, cop_lt, cop_le, cop_gt, cop_ge, cop_is, bip_len, bip_abs, bip_intI, bip_intB, bip_tup, bip_lst, bip_repr, ixp_l, ixp_t, slp_dl, slp_l, slp_dt, atI_0, atI_1, atI_2, atI_cast, Es.len, asg_nm, asg_tp, asgs_nil, end0, end1, prep_nil, prep_fz, prep_tm, pickS, pickD, Hd.into, wipeL, List.map_nil, List.map_cons, List.nil_append, List.cons_append, List.length_nil, List.length_cons, List.getElem?_cons_zero, List.getElem?_cons_succ, List.getElem?_nil, List.set_cons_zero, List.set_cons_succ, List.replicate, Option.some.injEq, Prod.mk.injEq, exists_eq_left', exists_eq_left, exists_and_left, and_assoc, and_true, true_and, or_true, true_or, Nat.sub_self, Nat.reduceAdd, Nat.reduceSub, Nat.zero_add, Nat.reduceLT, Nat.lt_add_one, if_true, if_false, ite_true, ite_false, Bool.not_true, Bool.not_false, Bool.false_eq_true, Bool.true_eq_false, eq_self_iff_true, forall_const, true_implies, false_implies, implies_true, reduceCtorEq, and_false, false_and, false_or, or_false, Hd.fz.injEq, PyData.int.injEq, PyData.list.injEq, PyData.tuple.injEq, PyData.bool.injEq]
    exact hq _ _ ⟨ns, st, t, hn, rfl⟩ (by omega) (by omega)
  · have hm2 : 2 ≤ many := by simpa using e
    unfold draw_2
    simp only [ixp_deep, vw_deep, st_sl, wSs, wS, wE, wA, wB, wT, wO, wI, endPt, ini, vw_fz, vw_tm, vw_sl, vws, dat_d, dat_l, dat_o, pvw_fz, pvw_fzL, pvw_mls, hd_fz, hd_fzL, hd_mls, kid_fz, kid_tm, kidsOf, frz_fz, frz_tm, frz_sl, kid_sl, frzs, setAll, toD_fzL, toD_mls, toD_fz, st_fz, st_tm, st_sl, seq_dl, seq_dt, seq_l, asL_dl, asL_l, asL_dt, asT_dt, asT_dl, asT_l, isiB_some, isiV_b, isiV_i, isiV_s, isiV_l, isiV_t, isiV_d, isBB, isII, isSS, isLL, isTT, isDD, isB_fz, bop_add, bop_sub, bop_mul, bop_div, bop_mod, bop_pow, bop_shl, bop_shr, bop_and, bop_or, bop_xor, cop_eq, cop_ne, cop_eqS, cop_neS, cop_lt, cop_le, cop_gt, cop_ge, cop_is, bip_len, bip_abs, bip_intI, bip_intB, bip_tup, bip_lst, bip_repr, ixp_l, ixp_t, slp_dl, slp_l, slp_dt, atI_0, atI_1, atI_2, atI_cast, Es.len, asg_nm, asg_tp, asgs_nil, end0, end1, prep_nil, prep_fz, prep_tm, pickS, pickD, Hd.into, wipeL, List.map_nil, List.map_cons, List.nil_append, List.cons_append, List.length_nil, List.length_cons, List.getElem?_cons_zero, List.getElem?_cons_succ, List.getElem?_nil, List.set_cons_zero, List.set_cons_succ, List.replicate, Option.some.injEq, Prod.mk.injEq, exists_eq_left', exists_eq_left, exists_and_left, and_assoc, and_true, true_and, or_true, true_or, Nat.sub_self, Nat.reduceAdd, Nat.reduceSub, Nat.zero_add, Nat.reduceLT, Nat.lt_add_one, if_true, if_false, ite_true, ite_false, Bool.not_true, Bool.not_false, Bool.false_eq_true, Bool.true_eq_false, eq_self_iff_true, forall_const, true_implies, false_implies, implies_true, reduceCtorEq, and_false, false_and, false_or, or_false, Hd.fz.injEq, PyData.int.injEq, PyData.list.injEq, PyData.tuple.injEq, PyData.bool.injEq]
    refine ⟨fun e => ?_, fun e => ?_⟩
    · have hne : ns ≠ [] := by
        intro z
        subst z
        exact absurd e (by decide)
      obtain ⟨ms, c, rfl⟩ : ∃ ms c, ns = ms ++ [c] := ⟨ns.dropLast, ns.getLast hne, (List.dropLast_concat_getLast hne).symm⟩
      unfold draw_3
      simp only [ixp_deep, st_sl, wSs, wS, wE, wA, wB, wT, wO, wI, endPt, ini, vw_fz, vw_tm, vw_sl, vws, dat_d, dat_l, dat_o, pvw_fz, pvw_fzL, pvw_mls, hd_fz, hd_fzL, hd_mls, kid_fz, kid_tm, kidsOf, frz_fz, frz_tm, frz_sl, kid_sl, frzs, setAll, toD_fzL, toD_mls, toD_fz, st_fz, st_tm, st_sl, seq_dl, seq_dt, seq_l, asL_dl, asL_l, asL_dt, asT_dt, asT_dl, asT_l, isiB_some, isiV_b, isiV_i, isiV_s, isiV_l, isiV_t, isiV_d, isBB, isII, isSS, isLL, isTT, isDD, isB_fz, bop_add, bop_sub, bop_mul, bop_div, bop_mod, bop_pow, bop_shl, bop_shr, bop_and, bop_or, bop_xor, cop_eq, cop_ne, cop_eqS, cop_neS, cop_lt, cop_le, cop_gt, cop_ge, cop_is, bip_len, bip_abs, bip_intI, bip_intB, bip_tup, bip_lst, bip_repr, ixp_l, ixp_t, slp_dl, slp_l, slp_dt, atI_0, atI_1, atI_2, atI_cast, Es.len, asg_nm, asg_tp, asgs_nil, end0, end1, prep_nil, prep_fz, prep_tm, pickS, pickD, Hd.into, wipeL, List.map_nil, List.map_cons, List.nil_append, List.cons_append, List.length_nil, List.length_cons, List.getElem?_cons_zero, List.getElem?_cons_succ, List.getElem?_nil, List.set_cons_zero, List.set_cons_succ, List.replicate, Option.some.injEq, Prod.mk.injEq, exists_eq_left', exists_eq_left, exists_and_left, and_assoc, and_true, true_and, or_true, true_or, Nat.sub_self, Nat.reduceAdd, Nat.reduceSub, Nat.zero_add, Nat.reduceLT, Nat.lt_add_one, if_true, if_false, ite_true, ite_false, Bool.not_true, Bool.not_false, Bool.false_eq_true, Bool.true_eq_false, eq_self_iff_true, forall_const, true_implies, false_implies, implies_true, reduceCtorEq, and_false, false_and, false_or, or_false, Hd.fz.injEq, PyData.int.injEq, PyData.list.injEq, PyData.tuple.injEq, PyData.bool.injEq]
      refine ⟨0, [0], rfl, (ms.map .int).map .fz, .int c, by rw [at_deep]; simp, ?_⟩
      rw [set_deep]
      simp only [wSs, wS, wE, wA, wB, wT, wO, wI, endPt, ini, vw_fz, vw_tm, vw_sl, vws, dat_d, dat_l, dat_o, pvw_fz, pvw_fzL, pvw_mls, hd_fz, hd_fzL, hd_mls, kid_fz, kid_tm, kidsOf, frz_fz, frz_tm, frz_sl, kid_sl, frzs, setAll, toD_fzL, toD_mls, toD_fz, st_fz, st_tm, st_sl, seq_dl, seq_dt, seq_l, asL_dl, asL_l, asL_dt, asT_dt, asT_dl, asT_l, isiB_some, isiV_b, isiV_i, isiV_s, isiV_l, isiV_t, isiV_d, isBB, isII, isSS, isLL, isTT, isDD, isB_fz, bop_add, bop_sub, bop_mul, bop_div, bop_mod, bop_pow, bop_shl, bop_shr, bop_and, bop_or, bop_xor, cop_eq, cop_ne, cop_eqS, cop_neS, cop_lt, cop_le, cop_gt, cop_ge, cop_is, bip_len, bip_abs, bip_intI, bip_intB, bip_tup, bip_lst, bip_repr, ixp_l, ixp_t, slp_dl, slp_l, slp_dt, atI_0, atI_1, atI_2, atI_cast, Es.len, asg_nm, asg_tp, asgs_nil, end0, end1, prep_nil, prep_fz, prep_tm, pickS, pickD, Hd.into, wipeL, List.map_nil, List.map_cons, List.nil_append, List.cons_append, List.length_nil, List.length_cons, List.getElem?_cons_zero, List.getElem?_cons_succ, List.getElem?_nil, List.set_cons_zero, List.set_cons_succ, List.replicate, Option.some.injEq, Prod.mk.injEq, exists_eq_left', exists_eq_left, exists_and_left, and_assoc, and_true, true_and, or_true, true_or, Nat.sub_self, Nat.reduceAdd, Nat.reduceSub, Nat.zero_add, Nat.reduceLT, Nat.lt_add_one, if_true, if_false, ite_true, ite_false, Bool.not_true, Bool.not_false, Bool.false_eq_true, Bool.true_eq_false, eq_self_iff_true, forall_const, true_implies, false_implies, implies_true, reduceCtorEq, and_false, false_and, false_or, or_false, Hd.fz.injEq, PyData.int.injEq, PyData.list.injEq, PyData.tuple.injEq, PyData.bool.injEq]
      unfold draw_4
      simp only [wSs, wS, wE, wA, wB, wT, wO, wI, endPt, ini, vw_fz, vw_tm, vw_sl, vws, dat_d, dat_l, dat_o, pvw_fz, pvw_fzL, pvw_mls, hd_fz, hd_fzL, hd_mls, kid_fz, kid_tm, kidsOf, frz_fz, frz_tm, frz_sl, kid_sl, frzs, setAll, toD_fzL, toD_mls, toD_fz, st_fz, st_tm, st_sl, seq_dl, seq_dt, seq_l, asL_dl, asL_l, asL_dt, asT_dt, asT_dl, asT_l, isiB_some, isiV_b, isiV_i, isiV_s, isiV_l, isiV_t, isiV_d, isBB, isII, isSS, isLL, isTT, isDD, isB_fz, bop_add, bop_sub, bop_mul, bop_div, bop_mod, bop_pow, bop_shl, bop_shr, bop_and, bop_or, bop_xor, cop_eq, cop_ne, cop_eqS, cop_neS, cop_lt, cop_le, cop_gt, cop_ge, cop_is, bip_len, bip_abs, bip_intI, bip_intB, bip_tup, bip_lst, bip_repr, ixp_l, ixp_t, slp_dl, slp_l, slp_dt, atI_0, atI_1, atI_2, atI_cast, Es.len, asg_nm, asg_tp, asgs_nil, end0, end1, prep_nil, prep_fz, prep_tm, pickS, pickD, Hd.into, wipeL, List.map_nil, List.map_cons, List.nil_append, List.cons_append, List.length_nil, List.length_cons, List.getElem?_cons_zero, List.getElem?_cons_succ, List.getElem?_nil, List.set_cons_zero, List.set_cons_succ, List.replicate, Option.some.injEq, Prod.mk.injEq, exists_eq_left', exists_eq_left, exists_and_left, and_assoc, and_true, true_and, or_true, true_or, Nat.sub_self, Nat.reduceAdd, Nat.reduceSub, Nat.zero_add, Nat.reduceLT, Nat.lt_add_one, if_true, if_false, ite_true, ite_false, Bool.not_true, Bool.not_false, Bool.false_eq_true, Bool.true_eq_false, eq_self_iff_true, forall_const, true_implies, false_implies, implies_true, reduceCtorEq, and_false, false_and, false_or, or_false, Hd.fz.injEq, PyData.int.injEq, PyData.list.injEq, PyData.tuple.injEq, PyData.bool.injEq]
      have hms : ms.length ≤ 62 := by simp at hn; omega
      refine ⟨fun e => ?_, fun e => ?_⟩
      · unfold draw_5
        simp only [ixp_deep, st_sl, wSs, wS, wE, wA, wB, wT, wO, wI, endPt, ini, vw_fz, vw_tm, vw_sl, vws, dat_d, dat_l, dat_o, pvw_fz, pvw_fzL, pvw_mls, hd_fz, hd_fzL, hd_mls, kid_fz, kid_tm, kidsOf, frz_fz, frz_tm, frz_sl, kid_sl, frzs, setAll, toD_fzL, toD_mls, toD_fz, st_fz, st_tm, st_sl, seq_dl, seq_dt, seq_l, asL_dl, asL_l, asL_dt, asT_dt, asT_dl, asT_l, isiB_some, isiV_b, isiV_i, isiV_s, isiV_l, isiV_t, isiV_d, isBB, isII, isSS, isLL, isTT, isDD, isB_fz, bop_add, bop_sub, bop_mul, bop_div, bop_mod, bop_pow, bop_shl, bop_shr, bop_and, bop_or, bop_xor, cop_eq, cop_ne, cop_eqS, cop_neS, cop_lt, cop_le, cop_gt, cop_ge, cop_is, bip_len, bip_abs, bip_intI, bip_intB, bip_tup, bip_lst, bip_repr, ixp_l, ixp_t, slp_dl, slp_l, slp_dt, atI_0, atI_1, atI_2, atI_cast, Es.len, asg_nm, asg_tp, asgs_nil, end0, end1, prep_nil, prep_fz, prep_tm, pickS, pickD, Hd.into, wipeL, List.map_nil, List.map_cons, List.nil_append, List.cons_append, List.length_nil, List.length_cons, List.getElem?_cons_zero, List.getElem?_cons_succ, List.getElem?_nil, List.set_cons_zero, List.set_cons_succ, List.replicate, Option.some.injEq, Prod.mk.injEq, exists_eq_left', exists_eq_left, exists_and_left, and_assoc, and_true, true_and, or_true, true_or, Nat.sub_self, Nat.reduceAdd, Nat.reduceSub, Nat.zero_add, Nat.reduceLT, Nat.lt_add_one, if_true, if_false, ite_true, ite_false, Bool.not_true, Bool.not_false, Bool.false_eq_true, Bool.true_eq_false, eq_self_iff_true, forall_const, true_implies, false_implies, implies_true, reduceCtorEq, and_false, false_and, false_or, or_false, Hd.fz.injEq, PyData.int.injEq, PyData.list.injEq, PyData.tuple.injEq, PyData.bool.injEq]
        refine ⟨0, [0], rfl, (ms.map .int).map .fz, c, rfl, many, rfl, by omega, ?_, at_deep, by simp; exact sz_lt (by omega), ?_⟩
        · exact log_small (by omega) hm
        · have e5 : (ms.map PyData.int).map PV.fz ++ [PV.fz (PyData.int (c / many))] = ((ms ++ [c / many]).map PyData.int).map PV.fz := by simp
          rw [e5, set_deep]
          unfold draw_6
          simp only [wSs, wS, wE, wA, wB, wT, wO, wI, endPt, ini, vw_fz, vw_tm, vw_sl, vws, dat_d, dat_l, dat_o, pvw_fz, pvw_fzL, pvw_mls, hd_fz, hd_fzL, hd_mls, kid_fz, kid_tm, kidsOf, frz_fz, frz_tm, frz_sl, kid_sl, frzs, setAll, toD_fzL, toD_mls, toD_fz, st_fz, st_tm, st_sl, seq_dl, seq_dt, seq_l, asL_dl, asL_l, asL_dt, asT_dt, asT_dl, asT_l, isiB_some, isiV_b, isiV_i, isiV_s, isiV_l, isiV_t, isiV_d, isBB, isII, isSS, isLL, isTT, isDD, isB_fz, bop_add, bop_sub, bop_mul, bop_div, bop_mod, bop_pow, bop_shl, bop_shr, bop_and, bop_or, bop_xor, cop_eq, cop_ne, cop_eqS, cop_neS, cop_lt, cop_le, cop_gt, cop_ge, cop_is, bip_len, bip_abs, bip_intI, bip_intB, bip_tup, bip_lst, bip_repr, ixp_l, ixp_t, slp_dl, slp_l, slp_dt, atI_0, atI_1, atI_2, atI_cast, Es.len, asg_nm, asg_tp, asgs_nil, end0, end1, prep_nil, prep_fz, prep_tm, pickS, pickD, Hd.into, wipeL, List.map_nil, List.map_cons, List.nil_append, List.cons_append, List.length_nil, List.length_cons, List.getElem?_cons_zero, List.getElem?_cons_succ, List.getElem?_nil, List.set_cons_zero, List.set_cons_succ, List.replicate, Option.some.injEq, Prod.mk.injEq, exists_eq_left', exists_eq_left, exists_and_left, and_assoc, and_true, true_and, or_true, true_or, Nat.sub_self, Nat.reduceAdd, Nat.reduceSub, Nat.zero_add, Nat.reduceLT, Nat.lt_add_one, if_true, if_false, ite_true, ite_false, Bool.not_true, Bool.not_false, Bool.false_eq_true, Bool.true_eq_false, eq_self_iff_true, forall_const, true_implies, false_implies, implies_true, reduceCtorEq, and_false, false_and, false_or, or_false, Hd.fz.injEq, PyData.int.injEq, PyData.list.injEq, PyData.tuple.injEq, PyData.bool.injEq]
          exact ⟨by omega, hq _ _ ⟨_, _, _, by simp; omega, rfl⟩ (Int.emod_nonneg _ (by omega)) (by have := Int.emod_lt_of_pos c (show 0 < many by omega); omega)⟩
      · unfold draw_6
        simp only [wSs, wS, wE, wA, wB, wT, wO, wI, endPt, ini, vw_fz, vw_tm, vw_sl, vws, dat_d, dat_l, dat_o, pvw_fz, pvw_fzL, pvw_mls, hd_fz, hd_fzL, hd_mls, kid_fz, kid_tm, kidsOf, frz_fz, frz_tm, frz_sl, kid_sl, frzs, setAll, toD_fzL, toD_mls, toD_fz, st_fz, st_tm, st_sl, seq_dl, seq_dt, seq_l, asL_dl, asL_l, asL_dt, asT_dt, asT_dl, asT_l, isiB_some, isiV_b, isiV_i, isiV_s, isiV_l, isiV_t, isiV_d, isBB, isII, isSS, isLL, isTT, isDD, isB_fz, bop_add, bop_sub, bop_mul, bop_div, bop_mod, bop_pow, bop_shl, bop_shr, bop_and, bop_or, bop_xor, cop_eq, cop_ne, cop_eqS, cop_neS, cop_lt, cop_le, cop_gt, cop_ge, cop_is, bip_len, bip_abs, bip_intI, bip_intB, bip_tup, bip_lst, bip_repr, ixp_l, ixp_t, slp_dl, slp_l, slp_dt, atI_0, atI_1, atI_2, atI_cast, Es.len, asg_nm, asg_tp, asgs_nil, end0, end1, prep_nil, prep_fz, prep_tm, pickS, pickD, Hd.into, wipeL, List.map_nil, List.map_cons, List.nil_append, List.cons_append, List.length_nil, List.length_cons, List.getElem?_cons_zero, List.getElem?_cons_succ, List.getElem?_nil, List.set_cons_zero, List.set_cons_succ, List.replicate, Option.some.injEq, Prod.mk.injEq, exists_eq_left', exists_eq_left, exists_and_left, and_assoc, and_true, true_and, or_true, true_or, Nat.sub_self, Nat.reduceAdd, Nat.reduceSub, Nat.zero_add, Nat.reduceLT, Nat.lt_add_one, if_true, if_false, ite_true, ite_false, Bool.not_true, Bool.not_false, Bool.false_eq_true, Bool.true_eq_false, eq_self_iff_true, forall_const, true_implies, false_implies, implies_true, reduceCtorEq, and_false, false_and, false_or, or_false, Hd.fz.injEq, PyData.int.injEq, PyData.list.injEq, PyData.tuple.injEq, PyData.bool.injEq]
        exact ⟨by omega, hq _ _ ⟨_, _, _, by omega, rfl⟩ (Int.emod_nonneg _ (by omega)) (by have := Int.emod_lt_of_pos c (show 0 < many by omega); omega)⟩
    · unfold draw_7
      simp only [ixp_turns, st_sl, wSs, wS, wE, wA, wB, wT, wO, wI, endPt, ini, vw_fz, vw_tm, vw_sl, vws, dat_d, dat_l, dat_o, pvw_fz, pvw_fzL, pvw_mls, hd_fz, hd_fzL, hd_mls, kid_fz, kid_tm, kidsOf, frz_fz, frz_tm, frz_sl, kid_sl, frzs, setAll, toD_fzL, toD_mls, toD_fz, st_fz, st_tm, st_sl, seq_dl, seq_dt, seq_l, asL_dl, asL_l, asL_dt, asT_dt, asT_dl, asT_l, isiB_some, isiV_b, isiV_i, isiV_s, isiV_l, isiV_t, isiV_d, isBB, isII, isSS, isLL, isTT, isDD, isB_fz, bop_add, bop_sub, bop_mul, bop_div, bop_mod, bop_pow, bop_shl, bop_shr, bop_and, bop_or, bop_xor, cop_eq, cop_ne, cop_eqS, cop_neS, cop_lt, cop_le, cop_gt, cop_ge, cop_is, bip_len, bip_abs, bip_intI, bip_intB, bip_tup, bip_lst, bip_repr, ixp_l, ixp_t, slp_dl, slp_l, slp_dt, atI_0, atI_1, atI_2, atI_cast, Es.len, asg_nm, asg_tp, asgs_nil, end0, end1, prep_nil, prep_fz, prep_tm, pickS, pickD, Hd.into, wipeL, List.map_nil, List.map_cons, List.nil_append, List.cons_append, List.length_nil, List.length_cons, List.getElem?_cons_zero, List.getElem?_cons_succ, List.getElem?_nil, List.set_cons_zero, List.set_cons_succ, List.replicate, Option.some.injEq, Prod.mk.injEq, exists_eq_left', exists_eq_left, exists_and_left, and_assoc, and_true, true_and, or_true, true_or, Nat.sub_self, Nat.reduceAdd, Nat.reduceSub, Nat.zero_add, Nat.reduceLT, Nat.lt_add_one, if_true, if_false, ite_true, ite_false, Bool.not_true, Bool.not_false, Bool.false_eq_true, Bool.true_eq_false, eq_self_iff_true, forall_const, true_implies, false_implies, implies_true, reduceCtorEq, and_false, false_and, false_or, or_false, Hd.fz.injEq, PyData.int.injEq, PyData.list.injEq, PyData.tuple.injEq, PyData.bool.injEq]
      refine sstp_turns ?_
      unfold draw_8
      simp only [ixp_turns, ixp_stirred, st_sl, wSs, wS, wE, wA, wB, wT, wO, wI, endPt, ini, vw_fz, vw_tm, vw_sl, vws, dat_d, dat_l, dat_o, pvw_fz, pvw_fzL, pvw_mls, hd_fz, hd_fzL, hd_mls, kid_fz, kid_tm, kidsOf, frz_fz, frz_tm, frz_sl, kid_sl, frzs, setAll, toD_fzL, toD_mls, toD_fz, st_fz, st_tm, st_sl, seq_dl, seq_dt, seq_l, asL_dl, asL_l, asL_dt, asT_dt, asT_dl, asT_l, isiB_some, isiV_b, isiV_i, isiV_s, isiV_l, isiV_t, isiV_d, isBB, isII, isSS, isLL, isTT, isDD, isB_fz, bop_add, bop_sub, bop_mul, bop_div, bop_mod, bop_pow, bop_shl, bop_shr, bop_and, bop_or, bop_xor, cop_eq, cop_ne, cop_eqS, cop_neS, cop_lt, cop_le, cop_gt, cop_ge, cop_is, bip_len, bip_abs, bip_intI, bip_intB, bip_tup, bip_lst, bip_repr, ixp_l, ixp_t, slp_dl, slp_l, slp_dt, atI_0, atI_1, atI_2, atI_cast, Es.len, asg_nm, asg_tp, asgs_nil, end0, end1, prep_nil, prep_fz, prep_tm, pickS, pickD, Hd.into, wipeL, List.map_nil, List.map_cons, List.nil_append, List.cons_append, List.length_nil, List.length_cons, List.getElem?_cons_zero, List.getElem?_cons_succ, List.getElem?_nil, List.set_cons_zero, List.set_cons_succ, List.replicate, Option.some.injEq, Prod.mk.injEq, exists_eq_left', exists_eq_left, exists_and_left, and_assoc, and_true, true_and, or_true, true_or, Nat.sub_self, Nat.reduceAdd, Nat.reduceSub, Nat.zero_add, Nat.reduceLT, Nat.lt_add_one, if_true, if_false, ite_true, ite_false, Bool.not_true, Bool.not_false, Bool.false_eq_true, Bool.true_eq_false, eq_self_iff_true, forall_const, true_implies, false_implies, implies_true, reduceCtorEq, and_false, false_and, false_or, or_false, Hd.fz.injEq, PyData.int.injEq, PyData.list.injEq, PyData.tuple.injEq, PyData.bool.injEq]
      refine ⟨mul_l (by decide) (by decide), by decide, ?_⟩
      generalize hx : (st + 2654435761 * (t + 1)) % 4294967279 = x
      have x0 : 0 ≤ x := by rw [← hx]; exact Int.emod_nonneg _ (by decide)
      have x1 : x < 4294967279 := by rw [← hx]; exact Int.emod_lt_of_pos _ (by decide)
      unfold draw_9
      simp only [ixp_turns, ixp_stirred, st_sl, wSs, wS, wE, wA, wB, wT, wO, wI, endPt, ini, vw_fz, vw_tm, vw_sl, vws, dat_d, dat_l, dat_o, pvw_fz, pvw_fzL, pvw_mls, hd_fz, hd_fzL, hd_mls, kid_fz, kid_tm, kidsOf, frz_fz, frz_tm, frz_sl, kid_sl, frzs, setAll, toD_fzL, toD_mls, toD_fz, st_fz, st_tm, st_sl, seq_dl, seq_dt, seq_l, asL_dl, asL_l, asL_dt, asT_dt, asT_dl, asT_l, isiB_some, isiV_b, isiV_i, isiV_s, isiV_l, isiV_t, isiV_d, isBB, isII, isSS, isLL, isTT, isDD, isB_fz, bop_add, bop_sub, bop_mul, bop_div, bop_mod, bop_pow, bop_shl, bop_shr, bop_and, bop_or, bop_xor, cop_eq, cop_ne, cop_eqS, cop_neS, cop_lt, cop_le, cop_gt, cop_ge, cop_is, bip_len, bip_abs, bip_intI, bip_intB, bip_tup, bip_lst, bip_repr, ixp_l, ixp_t, slp_dl, slp_l, slp_dt, atI_0, atI_1, atI_2, atI_cast, Es.len, asg_nm, asg_tp, asgs_nil, end0, end1, prep_nil, prep_fz, prep_tm, pickS, pickD, Hd.into, wipeL, List.map_nil, List.map_cons, List.nil_append, List.cons_append, List.length_nil, List.length_cons, List.getElem?_cons_zero, List.getElem?_cons_succ, List.getElem?_nil, List.set_cons_zero, List.set_cons_succ, List.replicate, Option.some.injEq, Prod.mk.injEq, exists_eq_left', exists_eq_left, exists_and_left, and_assoc, and_true, true_and, or_true, true_or, Nat.sub_self, Nat.reduceAdd, Nat.reduceSub, Nat.zero_add, Nat.reduceLT, Nat.lt_add_one, if_true, if_false, ite_true, ite_false, Bool.not_true, Bool.not_false, Bool.false_eq_true, Bool.true_eq_false, eq_self_iff_true, forall_const, true_implies, false_implies, implies_true, reduceCtorEq, and_false, false_and, false_or, or_false, Hd.fz.injEq, PyData.int.injEq, PyData.list.injEq, PyData.tuple.injEq, PyData.bool.injEq]
      refine ⟨mul_l (by omega) (by omega), mul_l (by decide) (by decide), by decide, ?_⟩
      generalize hy : (x * x + 40503 * (t + 1) + 17) % 4294967231 = y
      have y0 : 0 ≤ y := by rw [← hy]; exact Int.emod_nonneg _ (by decide)
      have y1 : y < 4294967231 := by rw [← hy]; exact Int.emod_lt_of_pos _ (by decide)
      unfold draw_10
      simp only [ixp_turns, ixp_stirred, st_sl, wSs, wS, wE, wA, wB, wT, wO, wI, endPt, ini, vw_fz, vw_tm, vw_sl, vws, dat_d, dat_l, dat_o, pvw_fz, pvw_fzL, pvw_mls, hd_fz, hd_fzL, hd_mls, kid_fz, kid_tm, kidsOf, frz_fz, frz_tm, frz_sl, kid_sl, frzs, setAll, toD_fzL, toD_mls, toD_fz, st_fz, st_tm, st_sl, seq_dl, seq_dt, seq_l, asL_dl, asL_l, asL_dt, asT_dt, asT_dl, asT_l, isiB_some, isiV_b, isiV_i, isiV_s, isiV_l, isiV_t, isiV_d, isBB, isII, isSS, isLL, isTT, isDD, isB_fz, bop_add, bop_sub, bop_mul, bop_div, bop_mod, bop_pow, bop_shl, bop_shr, bop_and, bop_or, bop_xor, cop_eq, cop_ne, cop_eqS, cop_neS, cop_lt, cop_le, cop_gt, cop_ge, cop_is, bip_len, bip_abs, bip_intI, bip_intB, bip_tup, bip_lst, bip_repr, ixp_l, ixp_t, slp_dl, slp_l, slp_dt, atI_0, atI_1, atI_2, atI_cast, Es.len, asg_nm, asg_tp, asgs_nil, end0, end1, prep_nil, prep_fz, prep_tm, pickS, pickD, Hd.into, wipeL, List.map_nil, List.map_cons, List.nil_append, List.cons_append, List.length_nil, List.length_cons, List.getElem?_cons_zero, List.getElem?_cons_succ, List.getElem?_nil, List.set_cons_zero, List.set_cons_succ, List.replicate, Option.some.injEq, Prod.mk.injEq, exists_eq_left', exists_eq_left, exists_and_left, and_assoc, and_true, true_and, or_true, true_or, Nat.sub_self, Nat.reduceAdd, Nat.reduceSub, Nat.zero_add, Nat.reduceLT, Nat.lt_add_one, if_true, if_false, ite_true, ite_false, Bool.not_true, Bool.not_false, Bool.false_eq_true, Bool.true_eq_false, eq_self_iff_true, forall_const, true_implies, false_implies, implies_true, reduceCtorEq, and_false, false_and, false_or, or_false, Hd.fz.injEq, PyData.int.injEq, PyData.list.injEq, PyData.tuple.injEq, PyData.bool.injEq]
      refine ⟨mul_l (by omega) (by omega), by decide, ?_⟩
      generalize (y * y + st) % 4294967197 = z
      unfold draw_11
      simp only [wSs, wS, wE, wA, wB, wT, wO, wI, endPt, ini, vw_fz, vw_tm, vw_sl, vws, dat_d, dat_l, dat_o, pvw_fz, pvw_fzL, pvw_mls, hd_fz, hd_fzL, hd_mls, kid_fz, kid_tm, kidsOf, frz_fz, frz_tm, frz_sl, kid_sl, frzs, setAll, toD_fzL, toD_mls, toD_fz, st_fz, st_tm, st_sl, seq_dl, seq_dt, seq_l, asL_dl, asL_l, asL_dt, asT_dt, asT_dl, asT_l, isiB_some, isiV_b, isiV_i, isiV_s, isiV_l, isiV_t, isiV_d, isBB, isII, isSS, isLL, isTT, isDD, isB_fz, bop_add, bop_sub, bop_mul, bop_div, bop_mod, bop_pow, bop_shl, bop_shr, bop_and, bop_or, bop_xor, cop_eq, cop_ne, cop_eqS, cop_neS, cop_lt, cop_le, cop_gt, cop_ge, cop_is, bip_len, bip_abs, bip_intI, bip_intB, bip_tup, bip_lst, bip_repr, ixp_l, ixp_t, slp_dl, slp_l, slp_dt, atI_0, atI_1, atI_2, atI_cast, Es.len, asg_nm, asg_tp, asgs_nil, end0, end1, prep_nil, prep_fz, prep_tm, pickS, pickD, Hd.into, wipeL, List.map_nil, List.map_cons, List.nil_append, List.cons_append, List.length_nil, List.length_cons, List.getElem?_cons_zero, List.getElem?_cons_succ, List.getElem?_nil, List.set_cons_zero, List.set_cons_succ, List.replicate, Option.some.injEq, Prod.mk.injEq, exists_eq_left', exists_eq_left, exists_and_left, and_assoc, and_true, true_and, or_true, true_or, Nat.sub_self, Nat.reduceAdd, Nat.reduceSub, Nat.zero_add, Nat.reduceLT, Nat.lt_add_one, if_true, if_false, ite_true, ite_false, Bool.not_true, Bool.not_false, Bool.false_eq_true, Bool.true_eq_false, eq_self_iff_true, forall_const, true_implies, false_implies, implies_true, reduceCtorEq, and_false, false_and, false_or, or_false, Hd.fz.injEq, PyData.int.injEq, PyData.list.injEq, PyData.tuple.injEq, PyData.bool.injEq]
      exact ⟨by decide, by decide, by omega, hq _ _ ⟨ns, st, t + 1, hn, rfl⟩ (Int.emod_nonneg _ (by omega)) (by have := Int.emod_lt_of_pos (z / 128) (show 0 < many by omega); omega)⟩
theorem call_draw {i : Nat} {w : PV} {k : Int} {L : Lc} {Q : QE} {X : QX} (hw : Well w) (hL : L[i]? = some (some w)) (hk : k < 2 ^ 64) (q : ∀ w' r, Well w' → 0 ≤ r → r < max k 1 → Q (.fz (.int r)) (L.set i (some w'))) : callp F_draw [0, 1] [.pl i [], .fz (.int k)] L Q X := by
  refine ⟨[.sl i, .dt (.int k)], L, [i], [.int k], [w], by simp [F_draw, prep, Hd.frz], by simp [F_draw, pickS], by simp [F_draw, pickD], by simp, rfl, by simp [getAll, hL], ?_⟩
  exact ⟨w, k, rfl, rfl, hw, hk, fun w' r h1 h2 h3 => ⟨rfl, by simpa [PV.hd, setAll] using q w' r h1 h2 h3⟩⟩
def pick_0 : Ss := .cons (.ret (.ix (.nm 1) (.call "_law_draw" (.cons (.nm 0) (.cons (.bi .len (.cons (.nm 1) .nil)) .nil)) [] [0, 1]))) .nil
def F_pick : Fn := ⟨1, fun xs ds Q _ => ∃ w v items, xs = [w] ∧ ds = [v] ∧ (v = .list items ∨ v = .tuple items) ∧ Well w ∧ items ≠ [] ∧ items.length < 2 ^ 60 ∧ ∀ w' d, Well w' → d ∈ items → Q (.fz d) [w']⟩
theorem k_pick (Φ : Fns) (h0 : Φ "_law_draw" = F_draw) : bodyOk Φ F_pick 2 2 pick_0 := by
  intro xs ds QQ XX h1 h2 hs
  obtain ⟨w, v, items, rfl, rfl, hv, hw, hne, hl, hq⟩ := hs
  have e0 : F_pick.nio = 1 := rfl
  obtain ⟨ns, st, t, hn, rfl⟩ := id hw
  have hpos : 0 < items.length := List.length_pos_iff.mpr hne
  unfold pick_0
  rcases hv with rfl | rfl
  · simp only [e0, h0, wSs, wS, wE, wA, wB, wT, wO, wI, endPt, ini, vw_fz, vw_tm, vw_sl, vws, dat_d, dat_l, dat_o, pvw_fz, pvw_fzL, pvw_mls, hd_fz, hd_fzL, hd_mls, kid_fz, kid_tm, kidsOf, frz_fz, frz_tm, frz_sl, kid_sl, frzs, setAll, toD_fzL, toD_mls, toD_fz, st_fz, st_tm, st_sl, seq_dl, seq_dt, seq_l, asL_dl, asL_l, asL_dt, asT_dt, asT_dl, asT_l, isiB_some, isiV_b, isiV_i, isiV_s, isiV_l, isiV_t, isiV_d, isBB, isII, isSS, isLL, isTT, isDD, isB_fz, bop_add, bop_sub, bop_mul, bop_div, bop_mod, bop_pow, bop_shl, bop_shr, bop_and, bop_or, bop_xor, cop_eq, cop_ne, cop_eqS, cop_neS, cop_lt, cop_le, cop_gt, cop_ge, cop_is, bip_len, bip_abs, bip_intI, bip_intB, bip_tup, bip_lst, bip_repr, ixp_l, ixp_t, slp_dl, slp_l, slp_dt, atI_0, atI_1, atI_2, atI_cast, Es.len, asg_nm, asg_tp, asgs_nil, end0, end1, prep_nil, prep_fz, prep_tm, pickS, pickD, Hd.into, wipeL, List.map_nil, List.map_cons, List.nil_append, List.cons_append, List.length_nil, List.length_cons, List.getElem?_cons_zero, List.getElem?_cons_succ, List.getElem?_nil, List.set_cons_zero, List.set_cons_succ, List.replicate, Option.some.injEq, Prod.mk.injEq, exists_eq_left', exists_eq_left, exists_and_left, and_assoc, and_true, true_and, or_true, true_or, Nat.sub_self, Nat.reduceAdd, Nat.reduceSub, Nat.zero_add, Nat.reduceLT, Nat.lt_add_one, if_true, if_false, ite_true, ite_false, Bool.not_true, Bool.not_false, Bool.false_eq_true, Bool.true_eq_false, eq_self_iff_true, forall_const, true_implies, false_implies, implies_true, reduceCtorEq, and_false, false_and, false_or, or_false, Hd.fz.injEq, PyData.int.injEq, PyData.list.injEq, PyData.tuple.injEq, PyData.bool.injEq]
    refine call_draw hw rfl (by omega) fun w' r hw' hr0 hr1 => ?_
    have hlt : r.toNat < items.length := by omega
    simp only [wSs, wS, wE, wA, wB, wT, wO, wI, endPt, ini, vw_fz, vw_tm, vw_sl, vws, dat_d, dat_l, dat_o, pvw_fz, pvw_fzL, pvw_mls, hd_fz, hd_fzL, hd_mls, kid_fz, kid_tm, kidsOf, frz_fz, frz_tm, frz_sl, kid_sl, frzs, setAll, toD_fzL, toD_mls, toD_fz, st_fz, st_tm, st_sl, seq_dl, seq_dt, seq_l, asL_dl, asL_l, asL_dt, asT_dt, asT_dl, asT_l, isiB_some, isiV_b, isiV_i, isiV_s, isiV_l, isiV_t, isiV_d, isBB, isII, isSS, isLL, isTT, isDD, isB_fz, bop_add, bop_sub, bop_mul, bop_div, bop_mod, bop_pow, bop_shl, bop_shr, bop_and, bop_or, bop_xor, cop_eq, cop_ne, cop_eqS, cop_neS, cop_lt, cop_le, cop_gt, cop_ge, cop_is, bip_len, bip_abs, bip_intI, bip_intB, bip_tup, bip_lst, bip_repr, ixp_l, ixp_t, slp_dl, slp_l, slp_dt, atI_0, atI_1, atI_2, atI_cast, Es.len, asg_nm, asg_tp, asgs_nil, end0, end1, prep_nil, prep_fz, prep_tm, pickS, pickD, Hd.into, wipeL, List.map_nil, List.map_cons, List.nil_append, List.cons_append, List.length_nil, List.length_cons, List.getElem?_cons_zero, List.getElem?_cons_succ, List.getElem?_nil, List.set_cons_zero, List.set_cons_succ, List.replicate, Option.some.injEq, Prod.mk.injEq, exists_eq_left', exists_eq_left, exists_and_left, and_assoc, and_true, true_and, or_true, true_or, Nat.sub_self, Nat.reduceAdd, Nat.reduceSub, Nat.zero_add, Nat.reduceLT, Nat.lt_add_one, if_true, if_false, ite_true, ite_false, Bool.not_true, Bool.not_false, Bool.false_eq_true, Bool.true_eq_false, eq_self_iff_true, forall_const, true_implies, false_implies, implies_true, reduceCtorEq, and_false, false_and, false_or, or_false, Hd.fz.injEq, PyData.int.injEq, PyData.list.injEq, PyData.tuple.injEq, PyData.bool.injEq, atI_nn hr0, List.getElem?_eq_getElem hlt]
    exact hq _ _ hw' (List.getElem_mem _)
  · simp only [e0, h0, wSs, wS, wE, wA, wB, wT, wO, wI, endPt, ini, vw_fz, vw_tm, vw_sl, vws, dat_d, dat_l, dat_o, pvw_fz, pvw_fzL, pvw_mls, hd_fz, hd_fzL, hd_mls, kid_fz, kid_tm, kidsOf, frz_fz, frz_tm, frz_sl, kid_sl, frzs, setAll, toD_fzL, toD_mls, toD_fz, st_fz, st_tm, st_sl, seq_dl, seq_dt, seq_l, asL_dl, asL_l, asL_dt, asT_dt, asT_dl, asT_l, isiB_some, isiV_b, isiV_i, isiV_s, isiV_l, isiV_t, isiV_d, isBB, isII, isSS, isLL, isTT, isDD, isB_fz, bop_add, bop_sub, bop_mul, bop_div, bop_mod, bop_pow, bop_shl, bop_shr, bop_and, bop_or, bop_xor, cop_eq, cop_ne, cop_eqS, cop_neS, cop_lt, cop_le, cop_gt, cop_ge, cop_is, bip_len, bip_abs, bip_intI, bip_intB, bip_tup, bip_lst, bip_repr, ixp_l, ixp_t, slp_dl, slp_l, slp_dt, atI_0, atI_1, atI_2, atI_cast, Es.len, asg_nm, asg_tp, asgs_nil, end0, end1, prep_nil, prep_fz, prep_tm, pickS, pickD, Hd.into, wipeL, List.map_nil, List.map_cons, List.nil_append, List.cons_append, List.length_nil, List.length_cons, List.getElem?_cons_zero, List.getElem?_cons_succ, List.getElem?_nil, List.set_cons_zero, List.set_cons_succ, List.replicate, Option.some.injEq, Prod.mk.injEq, exists_eq_left', exists_eq_left, exists_and_left, and_assoc, and_true, true_and, or_true, true_or, Nat.sub_self, Nat.reduceAdd, Nat.reduceSub, Nat.zero_add, Nat.reduceLT, Nat.lt_add_one, if_true, if_false, ite_true, ite_false, Bool.not_true, Bool.not_false, Bool.false_eq_true, Bool.true_eq_false, eq_self_iff_true, forall_const, true_implies, false_implies, implies_true, reduceCtorEq, and_false, false_and, false_or, or_false, Hd.fz.injEq, PyData.int.injEq, PyData.list.injEq, PyData.tuple.injEq, PyData.bool.injEq]
    refine call_draw hw rfl (by omega) fun w' r hw' hr0 hr1 => ?_
    have hlt : r.toNat < items.length := by omega
    simp only [wSs, wS, wE, wA, wB, wT, wO, wI, endPt, ini, vw_fz, vw_tm, vw_sl, vws, dat_d, dat_l, dat_o, pvw_fz, pvw_fzL, pvw_mls, hd_fz, hd_fzL, hd_mls, kid_fz, kid_tm, kidsOf, frz_fz, frz_tm, frz_sl, kid_sl, frzs, setAll, toD_fzL, toD_mls, toD_fz, st_fz, st_tm, st_sl, seq_dl, seq_dt, seq_l, asL_dl, asL_l, asL_dt, asT_dt, asT_dl, asT_l, isiB_some, isiV_b, isiV_i, isiV_s, isiV_l, isiV_t, isiV_d, isBB, isII, isSS, isLL, isTT, isDD, isB_fz, bop_add, bop_sub, bop_mul, bop_div, bop_mod, bop_pow, bop_shl, bop_shr, bop_and, bop_or, bop_xor, cop_eq, cop_ne, cop_eqS, cop_neS, cop_lt, cop_le, cop_gt, cop_ge, cop_is, bip_len, bip_abs, bip_intI, bip_intB, bip_tup, bip_lst, bip_repr, ixp_l, ixp_t, slp_dl, slp_l, slp_dt, atI_0, atI_1, atI_2, atI_cast, Es.len, asg_nm, asg_tp, asgs_nil, end0, end1, prep_nil, prep_fz, prep_tm, pickS, pickD, Hd.into, wipeL, List.map_nil, List.map_cons, List.nil_append, List.cons_append, List.length_nil, List.length_cons, List.getElem?_cons_zero, List.getElem?_cons_succ, List.getElem?_nil, List.set_cons_zero, List.set_cons_succ, List.replicate, Option.some.injEq, Prod.mk.injEq, exists_eq_left', exists_eq_left, exists_and_left, and_assoc, and_true, true_and, or_true, true_or, Nat.sub_self, Nat.reduceAdd, Nat.reduceSub, Nat.zero_add, Nat.reduceLT, Nat.lt_add_one, if_true, if_false, ite_true, ite_false, Bool.not_true, Bool.not_false, Bool.false_eq_true, Bool.true_eq_false, eq_self_iff_true, forall_const, true_implies, false_implies, implies_true, reduceCtorEq, and_false, false_and, false_or, or_false, Hd.fz.injEq, PyData.int.injEq, PyData.list.injEq, PyData.tuple.injEq, PyData.bool.injEq, atI_nn hr0, List.getElem?_eq_getElem hlt]
    exact hq _ _ hw' (List.getElem_mem _)
theorem call_pick {i : Nat} {w : PV} {v : PyData} {items : List PyData} {L : Lc} {Q : QE} {X : QX} (hw : Well w) (hL : L[i]? = some (some w)) (hv : v = .list items ∨ v = .tuple items) (hne : items ≠ []) (hl : items.length < 2 ^ 60) (q : ∀ w' d, Well w' → d ∈ items → Q (.fz d) (L.set i (some w'))) {h : Hd} (hf : h.frz L = some (v, L)) : callp F_pick [0, 1] [.pl i [], h] L Q X := by
  refine ⟨[.sl i, .dt v], L, [i], [v], [w], by simp [F_pick, prep, hf], by simp [F_pick, pickS], by simp [F_pick, pickD], by simp, rfl, by simp [getAll, hL], ?_⟩
  exact ⟨w, v, items, rfl, rfl, hv, hw, hne, hl, fun w' d h1 h2 => ⟨rfl, by simpa [PV.hd, setAll] using q w' d h1 h2⟩⟩
def well_2 : Ss := .cons (.set 3 (.bin .Mod (.bi .int1 (.cons (.bin .Add (.bin .Add (.bin .Mult (.nm 3) (.cst (.int 69621))) (.nm 1)) (.cst (.int 5))) .nil)) (.cst (.int 4294967291)))) .nil
def well_3 : Ss := .cons (.ret (.dct ["deep", "stirred", "turns"] (.cons (.lc (.nm 1) (.nm 1) (.val (.nm 2)) (.cons (.cmp .GtE (.nm 1) (.bin .Pow (.cst (.int 10)) (.cst (.int 15)))) .nil) [("cell", 1)]) (.cons (.nm 3) (.cons (.cst (.int 0)) .nil))))) .nil
def well_1 : Ss := .cons (.for (.nm 1) (.val (.nm 2)) well_2) well_3
def well_0 : Ss := .cons (.par [2, 3] (.cons (.lc (.bin .Add (.bin .Mult (.cst (.int 2)) (.bi .abs (.cons (.nm 1) .nil))) (.bi .int1 (.cons (.cmp .Lt (.nm 1) (.cst (.int 0))) .nil))) (.nm 1) (.val (.sl (.nm 0) .nil (.cons (.cst (.int 63)) .nil))) .nil [("cell", 1)]) (.cons (.bin .Add (.cst (.int 48271)) (.bin .Mult (.cst (.int 7)) (.bi .len (.cons (.nm 0) .nil)))) .nil))) well_1
def F_well : Fn := ⟨0, fun xs ds Q _ => ∃ ns : List Int, xs = [] ∧ ds = [.list (ns.map .int)] ∧ ∀ w, Well w → Q w []⟩
def cellD : PyData → PyData
  | .int i => .int (2 * (if i < 0 then -i else i) + if decide (i < 0) = true then 1 else 0)
  | d => d
theorem k_well (Φ : Fns) : bodyOk Φ F_well 4 1 well_0 := by
  intro xs ds QQ XX h1 h2 hs
  obtain ⟨ns, rfl, rfl, hq⟩ := hs
  have e0 : F_well.nio = 0 := rfl
  unfold well_0
  simp only [e0, wSs, wS, wE, wA, wB, wT, wO, wI, endPt, ini, vw_fz, vw_tm, vw_sl, vws, dat_d, dat_l, dat_o, pvw_fz, pvw_fzL, pvw_mls, hd_fz, hd_fzL, hd_mls, kid_fz, kid_tm, kidsOf, frz_fz, frz_tm, frz_sl, kid_sl, frzs, setAll, toD_fzL, toD_mls, toD_fz, st_fz, st_tm, st_sl, seq_dl, seq_dt, seq_l, asL_dl, asL_l, asL_dt, asT_dt, asT_dl, asT_l, isiB_some, isiV_b, isiV_i, isiV_s, isiV_l, isiV_t, isiV_d, isBB, isII, isSS, isLL, isTT, isDD, isB_fz, bop_add, bop_sub, bop_mul, bop_div, bop_mod, bop_pow, bop_shl, bop_shr, bop_and, bop_or, bop_xor, cop_eq, cop_ne, cop_eqS, cop_neS, cop_lt, cop_le, cop_gt, cop_ge, cop_is, bip_len, bip_abs, bip_intI, bip_intB, bip_tup, bip_lst, bip_repr, ixp_l, ixp_t, slp_dl, slp_l, slp_dt, atI_0, atI_1, atI_2, atI_cast, Es.len, asg_nm, asg_tp, asgs_nil, end0, end1, prep_nil, prep_fz, prep_tm, pickS, pickD, Hd.into, wipeL, List.map_nil, List.map_cons, List.nil_append, List.cons_append, List.length_nil, List.length_cons, List.getElem?_cons_zero, List.getElem?_cons_succ, List.getElem?_nil, List.set_cons_zero, List.set_cons_succ, List.replicate, Option.some.injEq, Prod.mk.injEq, exists_eq_left', exists_eq_left, exists_and_left, and_assoc, and_true, true_and, or_true, true_or, Nat.sub_self, Nat.reduceAdd, Nat.reduceSub, Nat.zero_add, Nat.reduceLT, Nat.lt_add_one, if_true, if_false, ite_true, ite_false, Bool.not_true, Bool.not_false, Bool.false_eq_true, Bool.true_eq_false, eq_self_iff_true, forall_const, true_implies, false_implies, implies_true, reduceCtorEq, and_false, false_and, false_or, or_false, Hd.fz.injEq, PyData.int.injEq, PyData.list.injEq, PyData.tuple.injEq, PyData.bool.injEq]
  rw [show (63 : Int) = ((63 : Nat) : Int) from rfl, cut_to, ← List.map_take]
  refine lc_mapQ cellD (fun d hd R hR => ?_) (by simp; exact sz_small (by omega)) (by simp [keepFz]) fun L2 hb => ?_
  · obtain ⟨i, _, rfl⟩ := List.mem_map.mp hd
    simp only [wSs, wS, wE, wA, wB, wT, wO, wI, endPt, ini, vw_fz, vw_tm, vw_sl, vws, dat_d, dat_l, dat_o, pvw_fz, pvw_fzL, pvw_mls, hd_fz, hd_fzL, hd_mls, kid_fz, kid_tm, kidsOf, frz_fz, frz_tm, frz_sl, kid_sl, frzs, setAll, toD_fzL, toD_mls, toD_fz, st_fz, st_tm, st_sl, seq_dl, seq_dt, seq_l, asL_dl, asL_l, asL_dt, asT_dt, asT_dl, asT_l, isiB_some, isiV_b, isiV_i, isiV_s, isiV_l, isiV_t, isiV_d, isBB, isII, isSS, isLL, isTT, isDD, isB_fz, bop_add, bop_sub, bop_mul, bop_div, bop_mod, bop_pow, bop_shl, bop_shr, bop_and, bop_or, bop_xor, cop_eq, cop_ne, cop_eqS, cop_neS, cop_lt, cop_le, cop_gt, cop_ge, cop_is, bip_len, bip_abs, bip_intI, bip_intB, bip_tup, bip_lst, bip_repr, ixp_l, ixp_t, slp_dl, slp_l, slp_dt, atI_0, atI_1, atI_2, atI_cast, Es.len, asg_nm, asg_tp, asgs_nil, end0, end1, prep_nil, prep_fz, prep_tm, pickS, pickD, Hd.into, wipeL, List.map_nil, List.map_cons, List.nil_append, List.cons_append, List.length_nil, List.length_cons, List.getElem?_cons_zero, List.getElem?_cons_succ, List.getElem?_nil, List.set_cons_zero, List.set_cons_succ, List.replicate, Option.some.injEq, Prod.mk.injEq, exists_eq_left', exists_eq_left, exists_and_left, and_assoc, and_true, true_and, or_true, true_or, Nat.sub_self, Nat.reduceAdd, Nat.reduceSub, Nat.zero_add, Nat.reduceLT, Nat.lt_add_one, if_true, if_false, ite_true, ite_false, Bool.not_true, Bool.not_false, Bool.false_eq_true, Bool.true_eq_false, eq_self_iff_true, forall_const, true_implies, false_implies, implies_true, reduceCtorEq, and_false, false_and, false_or, or_false, Hd.fz.injEq, PyData.int.injEq, PyData.list.injEq, PyData.tuple.injEq, PyData.bool.injEq]
    exact ⟨mul_l (by decide) (by decide), hR _ rfl⟩
  · have hcells : ∃ ms : List Int, ms.length ≤ 63 ∧ ((ns.take 63).map PyData.int).map cellD = ms.map .int := by
      refine ⟨(ns.take 63).map fun i => 2 * (if i < 0 then -i else i) + if decide (i < 0) = true then 1 else 0, by simp; omega, ?_⟩
      rw [List.map_map, List.map_map]
      rfl
    obtain ⟨ms, hms, e1⟩ := hcells
    rw [e1]
    simp only [hb, wSs, wS, wE, wA, wB, wT, wO, wI, endPt, ini, vw_fz, vw_tm, vw_sl, vws, dat_d, dat_l, dat_o, pvw_fz, pvw_fzL, pvw_mls, hd_fz, hd_fzL, hd_mls, kid_fz, kid_tm, kidsOf, frz_fz, frz_tm, frz_sl, kid_sl, frzs, setAll, toD_fzL, toD_mls, toD_fz, st_fz, st_tm, st_sl, seq_dl, seq_dt, seq_l, asL_dl, asL_l, asL_dt, asT_dt, asT_dl, asT_l, isiB_some, isiV_b, isiV_i, isiV_s, isiV_l, isiV_t, isiV_d, isBB, isII, isSS, isLL, isTT, isDD, isB_fz, bop_add, bop_sub, bop_mul, bop_div, bop_mod, bop_pow, bop_shl, bop_shr, bop_and, bop_or, bop_xor, cop_eq, cop_ne, cop_eqS, cop_neS, cop_lt, cop_le, cop_gt, cop_ge, cop_is, bip_len, bip_abs, bip_intI, bip_intB, bip_tup, bip_lst, bip_repr, ixp_l, ixp_t, slp_dl, slp_l, slp_dt, atI_0, atI_1, atI_2, atI_cast, Es.len, asg_nm, asg_tp, asgs_nil, end0, end1, prep_nil, prep_fz, prep_tm, pickS, pickD, Hd.into, wipeL, List.map_nil, List.map_cons, List.nil_append, List.cons_append, List.length_nil, List.length_cons, List.getElem?_cons_zero, List.getElem?_cons_succ, List.getElem?_nil, List.set_cons_zero, List.set_cons_succ, List.replicate, Option.some.injEq, Prod.mk.injEq, exists_eq_left', exists_eq_left, exists_and_left, and_assoc, and_true, true_and, or_true, true_or, Nat.sub_self, Nat.reduceAdd, Nat.reduceSub, Nat.zero_add, Nat.reduceLT, Nat.lt_add_one, if_true, if_false, ite_true, ite_false, Bool.not_true, Bool.not_false, Bool.false_eq_true, Bool.true_eq_false, eq_self_iff_true, forall_const, true_implies, false_implies, implies_true, reduceCtorEq, and_false, false_and, false_or, or_false, Hd.fz.injEq, PyData.int.injEq, PyData.list.injEq, PyData.tuple.injEq, PyData.bool.injEq]
    refine ⟨mul_l (by decide) (by decide), by simp, ?_⟩
    unfold well_1
    simp only [wSs, wS, wE, wA, wB, wT, wO, wI, endPt, ini, vw_fz, vw_tm, vw_sl, vws, dat_d, dat_l, dat_o, pvw_fz, pvw_fzL, pvw_mls, hd_fz, hd_fzL, hd_mls, kid_fz, kid_tm, kidsOf, frz_fz, frz_tm, frz_sl, kid_sl, frzs, setAll, toD_fzL, toD_mls, toD_fz, st_fz, st_tm, st_sl, seq_dl, seq_dt, seq_l, asL_dl, asL_l, asL_dt, asT_dt, asT_dl, asT_l, isiB_some, isiV_b, isiV_i, isiV_s, isiV_l, isiV_t, isiV_d, isBB, isII, isSS, isLL, isTT, isDD, isB_fz, bop_add, bop_sub, bop_mul, bop_div, bop_mod, bop_pow, bop_shl, bop_shr, bop_and, bop_or, bop_xor, cop_eq, cop_ne, cop_eqS, cop_neS, cop_lt, cop_le, cop_gt, cop_ge, cop_is, bip_len, bip_abs, bip_intI, bip_intB, bip_tup, bip_lst, bip_repr, ixp_l, ixp_t, slp_dl, slp_l, slp_dt, atI_0, atI_1, atI_2, atI_cast, Es.len, asg_nm, asg_tp, asgs_nil, end0, end1, prep_nil, prep_fz, prep_tm, pickS, pickD, Hd.into, wipeL, List.map_nil, List.map_cons, List.nil_append, List.cons_append, List.length_nil, List.length_cons, List.getElem?_cons_zero, List.getElem?_cons_succ, List.getElem?_nil, List.set_cons_zero, List.set_cons_succ, List.replicate, Option.some.injEq, Prod.mk.injEq, exists_eq_left', exists_eq_left, exists_and_left, and_assoc, and_true, true_and, or_true, true_or, Nat.sub_self, Nat.reduceAdd, Nat.reduceSub, Nat.zero_add, Nat.reduceLT, Nat.lt_add_one, if_true, if_false, ite_true, ite_false, Bool.not_true, Bool.not_false, Bool.false_eq_true, Bool.true_eq_false, eq_self_iff_true, forall_const, true_implies, false_implies, implies_true, reduceCtorEq, and_false, false_and, false_or, or_false, Hd.fz.injEq, PyData.int.injEq, PyData.list.injEq, PyData.tuple.injEq, PyData.bool.injEq]
    refine forRun_ind (fun ds L => ∃ (a : Option PyData) (s : Int) (rest : List Int), ds = rest.map .int ∧ L = [some (.fz (.list (ns.map .int))), a.map .fz, some (.fz (.list (ms.map .int))), some (.fz (.int s))]) (fun d ds L N hJ hN => ?_) (fun L hJ => ?_) _ _ ⟨none, _, ms, rfl, rfl⟩
    · obtain ⟨a, s, rest, e2, rfl⟩ := hJ
      cases rest with
      | nil => cases e2
      | cons c rest =>
        cases e2
        refine ⟨_, if_pos (by simp), ?_⟩
        unfold well_2
        simp only [wSs, wS, wE, wA, wB, wT, wO, wI, endPt, ini, vw_fz, vw_tm, vw_sl, vws, dat_d, dat_l, dat_o, pvw_fz, pvw_fzL, pvw_mls, hd_fz, hd_fzL, hd_mls, kid_fz, kid_tm, kidsOf, frz_fz, frz_tm, frz_sl, kid_sl, frzs, setAll, toD_fzL, toD_mls, toD_fz, st_fz, st_tm, st_sl, seq_dl, seq_dt, seq_l, asL_dl, asL_l, asL_dt, asT_dt, asT_dl, asT_l, isiB_some, isiV_b, isiV_i, isiV_s, isiV_l, isiV_t, isiV_d, isBB, isII, isSS, isLL, isTT, isDD, isB_fz, bop_add, bop_sub, bop_mul, bop_div, bop_mod, bop_pow, bop_shl, bop_shr, bop_and, bop_or, bop_xor, cop_eq, cop_ne, cop_eqS, cop_neS, cop_lt, cop_le, cop_gt, cop_ge, cop_is, bip_len, bip_abs, bip_intI, bip_intB, bip_tup, bip_lst, bip_repr, ixp_l, ixp_t, slp_dl, slp_l, slp_dt, atI_0, atI_1, atI_2, atI_cast, Es.len, asg_nm, asg_tp, asgs_nil, end0, end1, prep_nil, prep_fz, prep_tm, pickS, pickD, Hd.into, wipeL, List.map_nil, List.map_cons, List.nil_append, List.cons_append, List.length_nil, List.length_cons, List.getElem?_cons_zero, List.getElem?_cons_succ, List.getElem?_nil, List.set_cons_zero, List.set_cons_succ, List.replicate, Option.some.injEq, Prod.mk.injEq, exists_eq_left', exists_eq_left, exists_and_left, and_assoc, and_true, true_and, or_true, true_or, Nat.sub_self, Nat.reduceAdd, Nat.reduceSub, Nat.zero_add, Nat.reduceLT, Nat.lt_add_one, if_true, if_false, ite_true, ite_false, Bool.not_true, Bool.not_false, Bool.false_eq_true, Bool.true_eq_false, eq_self_iff_true, forall_const, true_implies, false_implies, implies_true, reduceCtorEq, and_false, false_and, false_or, or_false, Hd.fz.injEq, PyData.int.injEq, PyData.list.injEq, PyData.tuple.injEq, PyData.bool.injEq]
        refine ⟨mul_r (by decide) (by decide), by decide, hN _ ⟨some _, _, rest, rfl, rfl⟩⟩
    · obtain ⟨a, s, rest, e2, rfl⟩ := hJ
      dsimp only
      unfold well_3
      simp only [wSs, wS, wE, wA, wB, wT, wO, wI, endPt, ini, vw_fz, vw_tm, vw_sl, vws, dat_d, dat_l, dat_o, pvw_fz, pvw_fzL, pvw_mls, hd_fz, hd_fzL, hd_mls, kid_fz, kid_tm, kidsOf, frz_fz, frz_tm, frz_sl, kid_sl, frzs, setAll, toD_fzL, toD_mls, toD_fz, st_fz, st_tm, st_sl, seq_dl, seq_dt, seq_l, asL_dl, asL_l, asL_dt, asT_dt, asT_dl, asT_l, isiB_some, isiV_b, isiV_i, isiV_s, isiV_l, isiV_t, isiV_d, isBB, isII, isSS, isLL, isTT, isDD, isB_fz, bop_add, bop_sub, bop_mul, bop_div, bop_mod, bop_pow, bop_shl, bop_shr, bop_and, bop_or, bop_xor, cop_eq, cop_ne, cop_eqS, cop_neS, cop_lt, cop_le, cop_gt, cop_ge, cop_is, bip_len, bip_abs, bip_intI, bip_intB, bip_tup, bip_lst, bip_repr, ixp_l, ixp_t, slp_dl, slp_l, slp_dt, atI_0, atI_1, atI_2, atI_cast, Es.len, asg_nm, asg_tp, asgs_nil, end0, end1, prep_nil, prep_fz, prep_tm, pickS, pickD, Hd.into, wipeL, List.map_nil, List.map_cons, List.nil_append, List.cons_append, List.length_nil, List.length_cons, List.getElem?_cons_zero, List.getElem?_cons_succ, List.getElem?_nil, List.set_cons_zero, List.set_cons_succ, List.replicate, Option.some.injEq, Prod.mk.injEq, exists_eq_left', exists_eq_left, exists_and_left, and_assoc, and_true, true_and, or_true, true_or, Nat.sub_self, Nat.reduceAdd, Nat.reduceSub, Nat.zero_add, Nat.reduceLT, Nat.lt_add_one, if_true, if_false, ite_true, ite_false, Bool.not_true, Bool.not_false, Bool.false_eq_true, Bool.true_eq_false, eq_self_iff_true, forall_const, true_implies, false_implies, implies_true, reduceCtorEq, and_false, false_and, false_or, or_false, Hd.fz.injEq, PyData.int.injEq, PyData.list.injEq, PyData.tuple.injEq, PyData.bool.injEq]
      refine lc_filterQ (fun d => match d with | .int i => if decide ((10 : Int) ^ Int.toNat 15 ≤ i) = true then some (.int i) else none | _ => none) (fun d hd R hR => ?_) (by simp; exact sz_small (by omega)) (by cases a <;> simp [keepFz]) fun L2 hb => ?_
      · obtain ⟨i, _, rfl⟩ := List.mem_map.mp hd
        have w1 : wipeL [some (PV.fz (.list (ns.map .int))), a.map .fz, some (.fz (.list (ms.map .int))), some (.fz (.int s))] [1] = [some (.fz (.list (ns.map .int))), none, some (.fz (.list (ms.map .int))), some (.fz (.int s))] := rfl
        rw [w1] at hR ⊢
        simp only [wSs, wS, wE, wA, wB, wT, wO, wI, endPt, ini, vw_fz, vw_tm, vw_sl, vws, dat_d, dat_l, dat_o, pvw_fz, pvw_fzL, pvw_mls, hd_fz, hd_fzL, hd_mls, kid_fz, kid_tm, kidsOf, frz_fz, frz_tm, frz_sl, kid_sl, frzs, setAll, toD_fzL, toD_mls, toD_fz, st_fz, st_tm, st_sl, seq_dl, seq_dt, seq_l, asL_dl, asL_l, asL_dt, asT_dt, asT_dl, asT_l, isiB_some, isiV_b, isiV_i, isiV_s, isiV_l, isiV_t, isiV_d, isBB, isII, isSS, isLL, isTT, isDD, isB_fz, bop_add, bop_sub, bop_mul, bop_div, bop_mod, bop_pow, bop_shl, bop_shr, bop_and, bop_or, bop_xor, cop_eq, cop_ne, cop_eqS, cop_neS, cop_lt, cop_le, cop_gt, cop_ge, cop_is, bip_len, bip_abs, bip_intI, bip_intB, bip_tup, bip_lst, bip_repr, ixp_l, ixp_t, slp_dl, slp_l, slp_dt, atI_0, atI_1, atI_2, atI_cast, Es.len, asg_nm, asg_tp, asgs_nil, end0, end1, prep_nil, prep_fz, prep_tm, pickS, pickD, Hd.into, wipeL, List.map_nil, List.map_cons, List.nil_append, List.cons_append, List.length_nil, List.length_cons, List.getElem?_cons_zero, List.getElem?_cons_succ, List.getElem?_nil, List.set_cons_zero, List.set_cons_succ, List.replicate, Option.some.injEq, Prod.mk.injEq, exists_eq_left', exists_eq_left, exists_and_left, and_assoc, and_true, true_and, or_true, true_or, Nat.sub_self, Nat.reduceAdd, Nat.reduceSub, Nat.zero_add, Nat.reduceLT, Nat.lt_add_one, if_true, if_false, ite_true, ite_false, Bool.not_true, Bool.not_false, Bool.false_eq_true, Bool.true_eq_false, eq_self_iff_true, forall_const, true_implies, false_implies, implies_true, reduceCtorEq, and_false, false_and, false_or, or_false, Hd.fz.injEq, PyData.int.injEq, PyData.list.injEq, PyData.tuple.injEq, PyData.bool.injEq]
        refine ⟨⟨by decide, by decide, by decide⟩, ?_⟩
        by_cases hc : (10 : Int) ^ Int.toNat 15 ≤ i
        · rw [if_pos (by simpa using hc)]
          have := hR [some (.fz (.list (ns.map .int))), some (.fz (.int i)), some (.fz (.list (ms.map .int))), some (.fz (.int s))] rfl
          simp only [hc, decide_true, if_true] at this
          exact this
        · rw [if_neg (by simpa using hc)]
          have := hR [some (.fz (.list (ns.map .int))), some (.fz (.int i)), some (.fz (.list (ms.map .int))), some (.fz (.int s))] rfl
          simp only [hc, decide_false, Bool.false_eq_true, if_false] at this
          exact this
      · simp only [hb, wSs, wS, wE, wA, wB, wT, wO, wI, endPt, ini, vw_fz, vw_tm, vw_sl, vws, dat_d, dat_l, dat_o, pvw_fz, pvw_fzL, pvw_mls, hd_fz, hd_fzL, hd_mls, kid_fz, kid_tm, kidsOf, frz_fz, frz_tm, frz_sl, kid_sl, frzs, setAll, toD_fzL, toD_mls, toD_fz, st_fz, st_tm, st_sl, seq_dl, seq_dt, seq_l, asL_dl, asL_l, asL_dt, asT_dt, asT_dl, asT_l, isiB_some, isiV_b, isiV_i, isiV_s, isiV_l, isiV_t, isiV_d, isBB, isII, isSS, isLL, isTT, isDD, isB_fz, bop_add, bop_sub, bop_mul, bop_div, bop_mod, bop_pow, bop_shl, bop_shr, bop_and, bop_or, bop_xor, cop_eq, cop_ne, cop_eqS, cop_neS, cop_lt, cop_le, cop_gt, cop_ge, cop_is, bip_len, bip_abs, bip_intI, bip_intB, bip_tup, bip_lst, bip_repr, ixp_l, ixp_t, slp_dl, slp_l, slp_dt, atI_0, atI_1, atI_2, atI_cast, Es.len, asg_nm, asg_tp, asgs_nil, end0, end1, prep_nil, prep_fz, prep_tm, pickS, pickD, Hd.into, wipeL, List.map_nil, List.map_cons, List.nil_append, List.cons_append, List.length_nil, List.length_cons, List.getElem?_cons_zero, List.getElem?_cons_succ, List.getElem?_nil, List.set_cons_zero, List.set_cons_succ, List.replicate, Option.some.injEq, Prod.mk.injEq, exists_eq_left', exists_eq_left, exists_and_left, and_assoc, and_true, true_and, or_true, true_or, Nat.sub_self, Nat.reduceAdd, Nat.reduceSub, Nat.zero_add, Nat.reduceLT, Nat.lt_add_one, if_true, if_false, ite_true, ite_false, Bool.not_true, Bool.not_false, Bool.false_eq_true, Bool.true_eq_false, eq_self_iff_true, forall_const, true_implies, false_implies, implies_true, reduceCtorEq, and_false, false_and, false_or, or_false, Hd.fz.injEq, PyData.int.injEq, PyData.list.injEq, PyData.tuple.injEq, PyData.bool.injEq]
        refine ⟨by decide, by decide, hq _ ⟨ms.filter fun i => decide ((10 : Int) ^ Int.toNat 15 ≤ i), s, 0, Nat.le_trans (List.length_filter_le _ _) hms, ?_⟩⟩
        have key : ∀ ms : List Int, (List.filterMap (fun d : PyData => match d with | .int i => if decide ((10 : Int) ^ Int.toNat 15 ≤ i) = true then some (.int i) else none | _ => none) (ms.map .int)) = (ms.filter fun i => decide ((10 : Int) ^ Int.toNat 15 ≤ i)).map PyData.int := by
          intro ms
          induction ms with
          | nil => rfl
          | cons m ms ih =>
            rw [List.map_cons, List.filterMap_cons, List.filter_cons]
            by_cases hm : (10 : Int) ^ Int.toNat 15 ≤ m
            · simp only [hm, decide_true, if_true, List.map_cons]
              rw [ih]
            · simp only [hm, decide_false, Bool.false_eq_true, if_false]
              exact ih
        rw [key, List.map_map]
        rfl
end Tk

set_option Elab.async false
set_option linter.all false
set_option maxRecDepth 100000
namespace Tk
open PySem PySem.Spec PyProof.Rows L2

/-! ### data whose text is short -/
def Sm (k m : Nat) (d : PyData) : Prop := d.showable = true ∧ d.depth ≤ k ∧ d.shown.length ≤ m
theorem Sm.mono {k m k' m' : Nat} {d : PyData} (h : Sm k m d) (hk : k ≤ k') (hm : m ≤ m') : Sm k' m' d := ⟨h.1, Nat.le_trans h.2.1 hk, Nat.le_trans h.2.2 hm⟩
theorem Sm.int {i : Int} (n : Nat) (hn : 0 < n) (hn' : n ≤ 500) (h : i.natAbs < 10 ^ n) : Sm 0 (n + 1) (.int i) := by
  refine ⟨?_, by simp [PyData.depth], ?_⟩
  · simp only [PyData.showable, decide_eq_true_eq]
    by_cases h0 : i.natAbs = 0
    · rw [h0]; decide
    · refine (Nat.log2_lt h0).mpr (Nat.lt_of_lt_of_le h (Nat.le_trans (Nat.pow_le_pow_right (by decide) hn') (by decide +kernel)))
  · simp only [PyData.shown]
    show (Str.ofString (toString i)).length ≤ _
    rw [PySem.ofString_length]
    exact int_text_length_le10 hn h
theorem shown_sum {m : Nat} : ∀ {xs : List PyData}, (∀ d ∈ xs, d.shown.length ≤ m) → ((PyData.shownAll xs).map (·.length)).sum + 2 * (PyData.shownAll xs).length + 3 ≤ xs.length * (m + 2) + 3
  | [], _ => by simp [PyData.shownAll]
  | x :: xs, h => by
    have h1 := h x (List.mem_cons_self ..)
    have h2 := shown_sum (m := m) (xs := xs) fun d hd => h d (List.mem_cons_of_mem _ hd)
    simp only [PyData.shownAll, List.map_cons, List.sum_cons, List.length_cons, Nat.add_mul, Nat.one_mul]
    omega
theorem showable_all : ∀ {xs : List PyData}, (∀ d ∈ xs, d.showable = true) → PyData.showableAll xs = true
  | [], _ => by simp [PyData.showableAll]
  | x :: xs, h => by
    simp only [PyData.showableAll, h x (List.mem_cons_self ..), showable_all fun d hd => h d (List.mem_cons_of_mem _ hd), Bool.and_self]
theorem depth_all {k : Nat} : ∀ {xs : List PyData}, (∀ d ∈ xs, d.depth ≤ k) → PyData.depthAll xs ≤ k
  | [], _ => by simp [PyData.depthAll]
  | x :: xs, h => by
    have h1 := h x (List.mem_cons_self ..)
    have h2 := depth_all (k := k) (xs := xs) fun d hd => h d (List.mem_cons_of_mem _ hd)
    simp only [PyData.depthAll]
    omega
theorem Sm.lst {k m : Nat} {xs : List PyData} (h : ∀ d ∈ xs, Sm k m d) : Sm (k + 1) (xs.length * (m + 2) + 3) (.list xs) := by
  refine ⟨?_, ?_, ?_⟩
  · simp only [PyData.showable]
    exact showable_all fun d hd => (h d hd).1
  · simp only [PyData.depth]
    have := depth_all fun d hd => (h d hd).2.1
    omega
  · simp only [PyData.shown]
    exact Nat.le_trans (listText_len_le _) (shown_sum fun d hd => (h d hd).2.2)
theorem Sm.tup {k m : Nat} {xs : List PyData} (h : ∀ d ∈ xs, Sm k m d) : Sm (k + 1) (xs.length * (m + 2) + 3) (.tuple xs) := by
  refine ⟨?_, ?_, ?_⟩
  · simp only [PyData.showable]
    exact showable_all fun d hd => (h d hd).1
  · simp only [PyData.depth]
    have := depth_all fun d hd => (h d hd).2.1
    omega
  · simp only [PyData.shown]
    exact Nat.le_trans (tupleText_len_le _) (shown_sum fun d hd => (h d hd).2.2)
theorem Sm.bl {b : Bool} : Sm 0 5 (.bool b) := by cases b <;> exact ⟨rfl, Nat.le_refl _, by decide +kernel⟩
theorem Sm.non : Sm 0 4 .none := ⟨rfl, Nat.le_refl _, by decide +kernel⟩
end Tk

set_option Elab.async false
set_option linter.all false
set_option maxRecDepth 100000
namespace Tk
open PySem PySem.Spec PyProof.Rows L2

/-! ### expressions without calls, reckoned at once -/
def frzT : List Hd → Option (List PyData)
  | [] => some []
  | .fz d :: r => (frzT r).map (d :: ·)
  | .tm x :: r => (frzT r).map (x.toD :: ·)
  | _ :: _ => none
def kidT : List Hd → Option (List PV)
  | [] => some []
  | .fz d :: r => (kidT r).map (.fz d :: ·)
  | .tm x :: r => (kidT r).map (x :: ·)
  | _ :: _ => none
theorem frzT_ok {L : Lc} : ∀ {hs : List Hd} {ds : List PyData}, frzT hs = some ds → frzs L hs = some (ds, L)
  | [], _, h => by cases h; rfl
  | .fz d :: r, ds, h => by
    simp only [frzT] at h
    cases e : frzT r with
    | none => rw [e] at h; cases h
    | some x =>
      rw [e] at h
      cases h
      simp only [frzs, frz_fz, frzT_ok e]
  | .tm y :: r, ds, h => by
    simp only [frzT] at h
    cases e : frzT r with
    | none => rw [e] at h; cases h
    | some x =>
      rw [e] at h
      cases h
      simp only [frzs, frz_tm, frzT_ok e]
  | .pl _ _ :: r, ds, h => by cases h
theorem kidT_ok {L : Lc} : ∀ {hs : List Hd} {ds : List PV}, kidT hs = some ds → kidsOf L hs = some (ds, L)
  | [], _, h => by cases h; rfl
  | .fz d :: r, ds, h => by
    simp only [kidT] at h
    cases e : kidT r with
    | none => rw [e] at h; cases h
    | some x =>
      rw [e] at h
      cases h
      simp only [kidsOf, kid_fz, kidT_ok e]
  | .tm y :: r, ds, h => by
    simp only [kidT] at h
    cases e : kidT r with
    | none => rw [e] at h; cases h
    | some x =>
      rw [e] at h
      cases h
      simp only [kidsOf, kid_tm, kidT_ok e]
  | .pl _ _ :: r, ds, h => by cases h
def evI (o : Operator) (i j : Int) : Option Hd := match o with
  | .Add => some (.fz (.int (i + j)))
  | .Sub => some (.fz (.int (i - j)))
  | .Mult => if i.natAbs.log2 + j.natAbs.log2 < 1000000 then some (.fz (.int (i * j))) else none
  | .Pow => if 0 ≤ j ∧ j ≤ 1000000 ∧ i.natAbs < 2 ^ 64 then some (.fz (.int (i ^ j.toNat))) else none
  | _ => none
def evV (v w : Vw) : Option Hd := match v.asL, w.asL with
  | some xs, some ys => if xs.length + ys.length ≤ 100000 then some (.tm (fzL (xs ++ ys))) else none
  | _, _ => match v.asT, w.asT with
    | some xs, some ys => if xs.length + ys.length ≤ 100000 then some (.fz (.tuple (xs ++ ys))) else none
    | _, _ => none
def evB (L : Lc) (o : Operator) : Hd → Hd → Option Hd
  | .fz (.int i), .fz (.int j) => evI o i j
  | h, g => match o with
    | .Add => match h.vw L, g.vw L with
      | some v, some w => if h.stable = true then evV v w else none
      | _, _ => none
    | _ => none
theorem evI_ok {o : Operator} {i j : Int} {h : Hd} {Q : PV → Prop} (e : evI o i j = some h) (q : ∀ x : PV, x.hd = h → Q x) : bop o (.d (.int i)) (.d (.int j)) Q := by
  unfold evI at e
  split at e
  · cases e; exact bop_add.mpr (q _ rfl)
  · cases e; exact bop_sub.mpr (q _ rfl)
  · split at e
    · rename_i z
      cases e
      exact bop_mul.mpr ⟨.inr z, q _ rfl⟩
    · cases e
  · split at e
    · rename_i z
      cases e
      exact bop_pow.mpr ⟨z, q _ rfl⟩
    · cases e
  · cases e
theorem evV_ok {v w : Vw} {h : Hd} {Q : PV → Prop} (e : evV v w = some h) (q : ∀ x : PV, x.hd = h → Q x) : bop .Add v w Q := by
  unfold evV at e
  split at e
  · rename_i xs ys e1 e2
    split at e
    · rename_i z
      cases e
      exact bop_catL e1 e2 (Nat.le_trans z (by decide)) (q _ rfl)
    · cases e
  · split at e
    · rename_i xs ys e1 e2
      split at e
      · rename_i z
        cases e
        exact bop_catT e1 e2 (Nat.le_trans z (by decide)) (q _ rfl)
      · cases e
    · cases e
theorem evB_ok {L : Lc} {o : Operator} {h g r : Hd} {Q : Hd → Prop} (e : evB L o h g = some r) (q : Q r) : h.stable = true ∧ ∃ v w, h.vw L = some v ∧ g.vw L = some w ∧ bop o v w fun x => Q x.hd := by
  unfold evB at e
  split at e
  · exact ⟨rfl, _, _, vw_fz, vw_fz, evI_ok e fun x hx => by rw [hx]; exact q⟩
  · split at e
    · split at e
      · rename_i v w e1 e2
        split at e
        · rename_i z
          exact ⟨z, v, w, e1, e2, evV_ok e fun x hx => by rw [hx]; exact q⟩
        · cases e
      · cases e
    · cases e
mutual
def ev (L : Lc) : E → Option Hd
  | .nm i => match L[i]? with
    | some (some (.fz d)) => some (.fz d)
    | some (some _) => some (.pl i [])
    | _ => none
  | .cst d => some (.fz d)
  | .neg a => match ev L a with
    | some (.fz (.int i)) => some (.fz (.int (-i)))
    | _ => none
  | .bin o a b => match ev L a, ev L b with
    | some h, some g => evB L o h g
    | _, _ => none
  | .tup es => match evs L es with
    | some hs => match frzT hs with
      | some ds => if ds.length ≤ 1000 then some (.fz (.tuple ds)) else none
      | none => none
    | none => none
  | .lst es => match evs L es with
    | some hs => match kidT hs with
      | some xs => if xs.length ≤ 1000 then some (.tm (.mls xs)) else none
      | none => none
    | none => none
  | .dct ks es => match evs L es with
    | some hs => match kidT hs with
      | some xs => if xs.length = ks.length ∧ xs.length ≤ 15 ∧ ks.Nodup then some (.tm (.mdc (ks.map .inr) xs)) else none
      | none => none
    | none => none
  | .frz a => match ev L a with
    | some (.fz d) => some (.fz d)
    | some (.tm x) => some (.fz x.toD)
    | _ => none
  | _ => none
def evs (L : Lc) : Es → Option (List Hd)
  | .nil => some []
  | .cons e es => match ev L e, evs L es with
    | some h, some hs => if h.stable = true then some (h :: hs) else none
    | _, _ => none
end
mutual
theorem ev_ok {Φ : Fns} {L : Lc} : ∀ (e : E) {h : Hd} {Q : QE} {X : QX}, ev L e = some h → Q h L → wE Φ e L Q X
  | .nm i, h, Q, X, e, q => by
    rw [ev] at e
    rw [wE]
    split at e
    · rename_i d z
      cases e
      try rw [z]
      exact q
    · rename_i x nz z
      cases e
      try rw [z]
      cases x with
      | fz d => exact absurd rfl (nz d)
      | _ => exact q
    · cases e
  | .cst d, h, Q, X, e, q => by
    rw [ev] at e
    cases e
    rw [wE]
    exact q
  | .neg a, h, Q, X, e, q => by
    rw [ev] at e
    rw [wE]
    split at e
    · rename_i i z
      cases e
      exact ev_ok a z ⟨_, rfl, q⟩
    · cases e
  | .bin o a b, h, Q, X, e, q => by
    rw [ev] at e
    rw [wE]
    split at e
    · rename_i h1 g1 z1 z2
      obtain ⟨y1, v, w, y2, y3, y4⟩ := evB_ok (Q := fun r => Q r L) e q
      exact ev_ok a z1 ⟨y1, ev_ok b z2 ⟨v, w, y2, y3, y4⟩⟩
    · cases e
  | .tup es, h, Q, X, e, q => by
    rw [ev] at e
    rw [wE]
    split at e
    · rename_i hs z
      split at e
      · rename_i ds z2
        split at e
        · rename_i z3
          cases e
          exact evs_ok es z ⟨ds, L, frzT_ok z2, Nat.le_trans z3 (by decide), q⟩
        · cases e
      · cases e
    · cases e
  | .lst es, h, Q, X, e, q => by
    rw [ev] at e
    rw [wE]
    split at e
    · rename_i hs z
      split at e
      · rename_i ds z2
        split at e
        · rename_i z3
          cases e
          exact evs_ok es z ⟨ds, L, kidT_ok z2, Nat.le_trans z3 (by decide), q⟩
        · cases e
      · cases e
    · cases e
  | .frz a, h, Q, X, e, q => by
    rw [ev] at e
    rw [wE]
    split at e
    · rename_i d z
      cases e
      exact ev_ok a z ⟨_, _, rfl, q⟩
    · rename_i x z
      cases e
      exact ev_ok a z ⟨_, _, rfl, q⟩
    · cases e
  | .dct ks es, h, Q, X, e, q => by
    rw [ev] at e
    rw [wE]
    split at e
    · rename_i hs z
      split at e
      · rename_i xs z2
        split at e
        · rename_i z3
          cases e
          exact evs_ok es z ⟨xs, L, kidT_ok z2, z3.1, z3.2.1, z3.2.2, q⟩
        · cases e
      · cases e
    · cases e
  | .gc _ _, _, _, _, z, _ => by simp only [ev, reduceCtorEq] at z
  | .inv _, _, _, _, z, _ => by simp only [ev, reduceCtorEq] at z
  | .cmp2 _ _ _ _ _, _, _, _, z, _ => by simp only [ev, reduceCtorEq] at z
  | .cmp3 _ _ _ _ _ _ _, _, _, _, z, _ => by simp only [ev, reduceCtorEq] at z
  | .isN _ _, _, _, _, z, _ => by simp only [ev, reduceCtorEq] at z
  | .ite _ _ _, _, _, _, z, _ => by simp only [ev, reduceCtorEq] at z
  | .ix _ _, _, _, _, z, _ => by simp only [ev, reduceCtorEq] at z
  | .sl _ _ _, _, _, _, z, _ => by simp only [ev, reduceCtorEq] at z
  | .sset _, _, _, _, z, _ => by simp only [ev, reduceCtorEq] at z
  | .dget _ _ _, _, _, _, z, _ => by simp only [ev, reduceCtorEq] at z
  | .rev _, _, _, _, z, _ => by simp only [ev, reduceCtorEq] at z
  | .bi _ _, _, _, _, z, _ => by simp only [ev, reduceCtorEq] at z
  | .isi _ _, _, _, _, z, _ => by simp only [ev, reduceCtorEq] at z
  | .lrg _, _, _, _, z, _ => by simp only [ev, reduceCtorEq] at z
  | .trg _, _, _, _, z, _ => by simp only [ev, reduceCtorEq] at z
  | .call _ _ _ _, _, _, _, z, _ => by simp only [ev, reduceCtorEq] at z
  | .app _ _, _, _, _, z, _ => by simp only [ev, reduceCtorEq] at z
  | .appn _ _, _, _, _, z, _ => by simp only [ev, reduceCtorEq] at z
  | .appd _ _ _, _, _, _, z, _ => by simp only [ev, reduceCtorEq] at z
  | .nen _ _, _, _, _, z, _ => by simp only [ev, reduceCtorEq] at z
  | .ext _ _, _, _, _, z, _ => by simp only [ev, reduceCtorEq] at z
  | .pop _, _, _, _, z, _ => by simp only [ev, reduceCtorEq] at z
  | .popi _ _, _, _, _, z, _ => by simp only [ev, reduceCtorEq] at z
  | .lc _ _ _ _ _, _, _, _, z, _ => by simp only [ev, reduceCtorEq] at z
  | .cmp _ _ _, _, _, _, z, _ => by simp only [ev, reduceCtorEq] at z
  | .not _, _, _, _, z, _ => by simp only [ev, reduceCtorEq] at z
  | .and _ _, _, _, _, z, _ => by simp only [ev, reduceCtorEq] at z
  | .or _ _, _, _, _, z, _ => by simp only [ev, reduceCtorEq] at z
theorem evsB_ok {Φ : Fns} {L : Lc} : ∀ (es : Es) {hs : List Hd} {Q : List Hd → Lc → Prop} {X : QX}, evs L es = some hs → Q hs L → wB Φ es L Q X
  | .nil, hs, Q, X, e, q => by
    rw [evs] at e
    cases e
    rw [wB]
    exact q
  | .cons e es, hs, Q, X, z, q => by
    rw [evs] at z
    split at z
    · rename_i h hs' z1 z2
      split at z
      · rename_i z3
        cases z
        rw [wB]
        exact ev_ok e z1 ⟨z3, evsB_ok es z2 q⟩
      · cases z
    · cases z
theorem evs_ok {Φ : Fns} {L : Lc} : ∀ (es : Es) {hs : List Hd} {Q : List Hd → Lc → Prop} {X : QX}, evs L es = some hs → Q hs L → wA Φ es L Q X
  | .nil, hs, Q, X, e, q => by
    rw [evs] at e
    cases e
    rw [wA]
    exact q
  | .cons e es, hs, Q, X, z, q => by
    rw [evs] at z
    split at z
    · rename_i h hs' z1 z2
      split at z
      · rename_i z3
        cases z
        rw [wA]
        exact ev_ok e z1 ⟨.inl z3, evsB_ok es z2 q⟩
      · cases z
    · cases z
end
end Tk

set_option Elab.async false
set_option linter.all false
set_option maxRecDepth 100000
namespace Tk
open PySem PySem.Spec PyProof.Rows L2

/-! ### the defs of a row, one behind another -/
def BindG (d : He.DefD) (ps : List Str) (n : Nat) (ks : List Str) (perm : List Nat) : Prop := ∀ (kV doc pm : Value) (an : Option Addr) (cdv ct : Value) (us ws : List Value), us.length = n → ws.length = ks.length →
  bindArgs (PySem.W.fnOf d.name d.qual d.params d.body d.scope .none kV doc pm an cdv ct) ⟨us, ks.zip ws⟩ = pure (ps.zip (permV perm (us ++ ws)))
def ShOk (d : He.DefD) (ps : List Str) : List (Nat × List Str × List Nat) → Prop
  | [] => True
  | (n, ks, perm) :: r => (perm.length = ps.length ∧ BindG d ps n ks perm) ∧ ShOk d ps r
theorem ShOk.mem {d : He.DefD} {ps : List Str} : ∀ {l : List (Nat × List Str × List Nat)}, ShOk d ps l → ∀ n ks perm, (n, ks, perm) ∈ l → perm.length = ps.length ∧ BindG d ps n ks perm
  | (n, ks, perm) :: r, h, n', ks', perm', hm => by
    rcases List.mem_cons.mp hm with e | hm
    · cases e; exact h.1
    · exact h.2.mem n' ks' perm' hm
def DefOk (P : Program) (w : World) (K : PySem.W.Frag) (mg : Str → Option Value) (base : Heap) (XR : XRel) (j : Nat) (d : He.DefD) (ps : List Str) (F : Fn) : Prop :=
  ∃ f fd, mg d.name = some (.ref f) ∧ FunD K d.name d.qual d.params d.body d.scope [] [] f fd ∧ FnG P w K mg base j f fd ps (spOf K XR ps.length F)
def CallsOk (P : Program) (w : World) (K : PySem.W.Frag) (mg : Str → Option Value) (base : Heap) (XR : XRel) (Φ : Fns) (k : Nat) (fns : List (Str × List (Nat × List Str × List Nat))) : Prop :=
  ∀ x shapes, fns.lookup x = some shapes → ∃ f fd ps, mg x = some (.ref f) ∧ PySem.W.keepIn K (.ref f) = true ∧ FnG P w K mg base k f fd ps (spOf K XR ps.length (Φ x)) ∧ ∀ n ks perm, (n, ks, perm) ∈ shapes → perm.length = ps.length ∧ BindP fd ps n ks perm
section
variable {P : Program} {w : World} {K : PySem.W.Frag} {mg : Str → Option Value} {base : Heap} {XR : XRel} {Φ : Fns} {k : Nat}
theorem calls_nil : CallsOk P w K mg base XR Φ k [] := fun x sh e => by cases e
theorem calls_cons {i : Nat} {d : He.DefD} {ps : List Str} {F : Fn} {x : Str} {sh : List (Nat × List Str × List Nat)} {r : List (Str × List (Nat × List Str × List Nat))} (D : DefOk P w K mg base XR i d ps F) (hi : i ≤ k) (hx : d.name = x) (hF : Φ x = F) (hs : ShOk d ps sh) (hr : CallsOk P w K mg base XR Φ k r) : CallsOk P w K mg base XR Φ k ((x, sh) :: r) := by
  intro y sh' e
  rw [List.lookup_cons] at e
  split at e
  · rename_i ey
    have ey : y = x := by simpa using ey
    subst ey
    cases e
    obtain ⟨f, fd, h1, h2, h3⟩ := D
    rw [hx] at h1
    rw [← hF] at h3
    exact ⟨f, fd, ps, h1, h2.kp, h3.more hi, fun n ks perm hm => ⟨(hs.mem n ks perm hm).1, bindP_of h2 (hs.mem n ks perm hm).2⟩⟩
  · exact hr y sh' e
theorem fact_of {fa : List He.Fa} {fn : List He.DefD} (c : He.SaysD fa fn K) {f : He.Fa} (h : f ∈ fa) : f.ok K = true := by
  obtain ⟨j, hj⟩ := List.getElem?_of_mem h
  exact c.fact j hj
def faOf (fn : List He.DefD) (blt : List Str) (gcs : List (Str × Int)) : List He.Fa := (fn.map fun d => He.Fa.glo d.name) ++ (blt.map He.Fa.free ++ gcs.map fun p => He.Fa.int p.1 p.2)
theorem faOf_glo {fn : List He.DefD} {blt : List Str} {gcs : List (Str × Int)} {d : He.DefD} (h : d ∈ fn) : He.Fa.glo d.name ∈ faOf fn blt gcs := List.mem_append_left _ (List.mem_map.mpr ⟨d, h, rfl⟩)
theorem faOf_free {fn : List He.DefD} {blt : List Str} {gcs : List (Str × Int)} {x : Str} (h : x ∈ blt) : He.Fa.free x ∈ faOf fn blt gcs := List.mem_append_right _ (List.mem_append_left _ (List.mem_map.mpr ⟨x, h, rfl⟩))
theorem lookup_in {α : Type} {x : Str} {y : α} : ∀ {l : List (Str × α)}, l.lookup x = some y → (x, y) ∈ l
  | (z, w) :: l, h => by
    rw [List.lookup_cons] at h
    split at h
    · rename_i e
      have e : x = z := by simpa using e
      subst e
      cases h
      exact List.mem_cons_self
    · exact List.mem_cons_of_mem _ (lookup_in h)
theorem faOf_int {fn : List He.DefD} {blt : List Str} {gcs : List (Str × Int)} {x : Str} {i : Int} (h : gcs.lookup x = some i) : He.Fa.int x i ∈ faOf fn blt gcs := List.mem_append_right _ (List.mem_append_right _ (List.mem_map.mpr ⟨(x, i), lookup_in h, rfl⟩))
theorem defOk {h : Heap} {fn : List He.DefD} {d : He.DefD} {N ps : List Str} {F : Fn} {ss : Ss} {blt : List Str} {gcs : List (Str × Int)} {fns : List (Str × List (Nat × List Str × List Nat))}
    (KX : K.In h) (G : h.Ns mainGlobals mg) (c : He.SaysD (faOf fn blt gcs) fn K) (aw : AwB base) (xr : XRok XR) (i : Nat) (hd : fn[i]? = some d) (hat : d.at_ = (d.name, none)) (hdf : d.dfl = []) (hkw : d.kwd = [])
    (hc : CallsOk P w K mg base XR Φ k fns) (S : FnScope N ps d.scope) (hnio : F.nio ≤ ps.length) (chk : cSs ⟨N, d.scope, none, blt, gcs, fns⟩ F.nio ss d.body = true) (hb : bodyOk Φ F N.length ps.length ss) : DefOk P w K mg base XR (k + 1) d ps F := by
  have M : Mdl P w K mg base XR Φ k blt gcs fns := ⟨aw, xr, fun x hx => He.free_ok KX G (fact_of c (faOf_free hx)), fun x i e => He.int_ok KX G (fact_of c (faOf_int e)), hc⟩
  obtain ⟨fd, FD⟩ := c.def_ i hd
  have e := He.glo_ok KX G (fact_of c (faOf_glo (List.mem_of_getElem? hd)))
  have FD : FunD K d.name d.qual d.params d.body d.scope [] [] (He.fAd K d.at_) fd := by
    have h1 : d.dvs K = [] := by unfold He.DefD.dvs; rw [hdf]; rfl
    have h2 : d.kws K = [] := by unfold He.DefD.kws; rw [hkw]; rfl
    rw [h1, h2] at FD
    exact FD
  rw [hat] at FD
  exact ⟨_, fd, e, FD, def_ok M FD S hnio chk hb⟩
end
end Tk

set_option Elab.async false
set_option linter.all false
set_option maxRecDepth 100000
set_option maxHeartbeats 0
namespace Tk
open PySem PySem.Spec PyProof.Rows L2
/-! ### lists that are owned, of one kind of things -/
theorem ixN_nat {n k : Nat} (h : k < n) : ixN n (k : Int) = some k := by unfold ixN; rw [if_pos (by omega), if_pos (by omega)]; rfl
theorem ixp_f {α : Type} [Inhabited α] {L : Lc} {i : Nat} {r : List Nat} (f : α → PyData) {xs : List α} {k : Nat} {R : Hd → Prop} (h : L.at i r = some (.mls ((xs.map f).map .fz))) (hk : k < xs.length) (q : R (.fz (f (xs.getD k default)))) : ixp L (.pl i r) (.int k) R :=
  (ixp_mls h).mpr ⟨k, k, .fz (f (xs.getD k default)), rfl, ixN_nat (by rw [List.length_map, List.length_map]; exact hk), by rw [List.getElem?_map, List.getElem?_map, List.getD_eq_getElem?_getD, List.getElem?_eq_getElem hk]; rfl, q⟩
theorem sstp_f {α : Type} {L : Lc} {i : Nat} (f : α → PyData) {xs : List α} {k : Nat} {a : α} {Q : Lc → Prop} (h : L[i]? = some (some (.mls ((xs.map f).map .fz)))) (hk : k < xs.length) (q : Q (L.set i (some (.mls (((xs.set k a).map f).map .fz))))) : sstp (.pl i []) (.int k) (.fz (f a)) L Q :=
  sstp_mls (xs := (xs.map f).map .fz) (by rw [at_sl, h]) (ixN_nat (by rw [List.length_map, List.length_map]; exact hk)) (by rw [setAt_sl h, ← List.map_set, ← List.map_set]; exact q)
theorem ixp_tm {L : Lc} {ds : List PyData} {k : Nat} {d : PyData} {R : Hd → Prop} (h : ds[k]? = some d) (q : R (.fz d)) : ixp L (.tm (.mls (ds.map .fz))) (.int k) R := by
  have e : allFz (PV.kids (.mls (ds.map .fz))) = some ds := allFz_map ds
  simp only [ixp]
  rw [e]
  exact ⟨k, d, ds.map .fz, rfl, rfl, by rw [atI_cast, h], q⟩
theorem sz_le {m : Nat} (h : m ≤ 100000) : m ≤ sizeLine := Nat.le_trans h (by decide)
theorem sz_ls {m : Nat} (h : m ≤ 100000) : m < sizeLine := Nat.lt_of_le_of_lt h (by decide)
theorem app_f {α : Type} {L : Lc} {i : Nat} (f : α → PyData) {xs : List α} {a : α} {N : Lc → Prop} (h : L[i]? = some (some (.mls ((xs.map f).map .fz)))) (hl : xs.length ≤ 100000) (q : N (L.set i (some (.mls (((xs ++ [a]).map f).map .fz))))) :
    Hd.isL L (.pl i []) ∧ ∃ j r, Hd.pl i [] = Hd.pl j r ∧ ∃ x1, L.at j r = some (.mls x1) ∧ x1.length < sizeLine ∧ N (L.setAt j r (.mls (x1 ++ [.fz (f a)]))) := by
  refine ⟨?_, i, [], rfl, (xs.map f).map .fz, by rw [at_sl, h], by rw [List.length_map, List.length_map]; exact sz_ls hl, ?_⟩
  · simp only [Hd.isL, at_sl, h]
  · rw [setAt_sl h]
    rw [List.map_append, List.map_append] at q
    exact q
theorem ext_f {α : Type} {L : Lc} {i : Nat} (f : α → PyData) {xs ys : List α} {N : Lc → Prop} (h : L[i]? = some (some (.mls ((xs.map f).map .fz)))) (hl : xs.length + ys.length ≤ 100000) (q : N (L.set i (some (.mls (((xs ++ ys).map f).map .fz))))) :
    ∃ j r, Hd.pl i [] = Hd.pl j r ∧ ∃ x1, L.at j r = some (.mls x1) ∧ x1.length + (ys.map f).length ≤ sizeLine ∧ N (L.setAt j r (.mls (x1 ++ (ys.map f).map .fz))) := by
  refine ⟨i, [], rfl, (xs.map f).map .fz, by rw [at_sl, h], by rw [List.length_map, List.length_map, List.length_map]; exact sz_le hl, ?_⟩
  rw [setAt_sl h]
  rw [List.map_append, List.map_append] at q
  exact q
theorem isL_sl {L : Lc} {i : Nat} {xs : List PV} (h : L[i]? = some (some (.mls xs))) : Hd.isL L (.pl i []) := by simp only [Hd.isL, at_sl, h]
theorem and_mid {a b c : Prop} (h : a ∧ b) (hc : c) : a ∧ c ∧ b := ⟨h.1, hc, h.2⟩
theorem whl_ind {Φ : Fns} {c : E} {b : Ss} {P : Pt} {L : Lc} (I : Nat → Lc → Prop) (m : Nat) (h : I m L) (step : ∀ m L (N : Lc → Prop), I m L → (∀ m' L', m' < m → I m' L' → N L') →
    wE Φ c L (fun h L1 => h.isB fun r => (r = true → wSs Φ b L1 { P with nx := N, ct := N, bk := P.nx }) ∧ (r = false → P.nx L1)) P.ex) : wS Φ (.whl c b) L P := by
  rw [wS]
  exact ⟨I, ⟨m, h⟩, fun m' L' h' => step m' L' _ h' fun m2 L2 hm hi => ⟨m2, hm, hi⟩⟩
/-! ### gates, rows -/
abbrev Net := List (Nat × Nat)
def prD (x : Nat × Nat) : PyData := .tuple [.int x.1, .int x.2]
abbrev netD (g : Net) : PyData := .tuple (g.map prD)
abbrev rowD (r : List Int) : PyData := .tuple (r.map .int)
abbrev natD (k : Nat) : PyData := .int k
def NetOk (n : Nat) (g : Net) : Prop := ∀ x ∈ g, x.1 < x.2 ∧ x.2 < n
def swp {α : Type} [Inhabited α] (xs : List α) (i j : Nat) : List α := (xs.set i (xs.getD j default)).set j (xs.getD i default)
def gtr (k : List Int) (i j : Nat) : Bool := decide (k.getD j default < k.getD i default)
def goK : Net → List Int → List Int
  | [], k => k
  | x :: g, k => goK g (if gtr k x.1 x.2 = true then swp k x.1 x.2 else k)
def goP : Net → List Int → List Nat → List Nat
  | [], k, p => p
  | x :: g, k, p => if gtr k x.1 x.2 = true then goP g (swp k x.1 x.2) (swp p x.1 x.2) else goP g k p
def goS : Net → Nat → List Int → List Nat
  | [], s, k => []
  | x :: g, s, k => if gtr k x.1 x.2 = true then s :: goS g (s + 1) (swp k x.1 x.2) else goS g (s + 1) k
theorem swp_len {α : Type} [Inhabited α] {xs : List α} {i j : Nat} : (swp xs i j).length = xs.length := by simp [swp]
theorem goK_len : ∀ {g : Net} {k : List Int}, (goK g k).length = k.length
  | [], k => rfl
  | x :: g, k => by
    rw [goK, goK_len]
    split
    · exact swp_len
    · rfl
theorem goP_len : ∀ {g : Net} {k : List Int} {p : List Nat}, (goP g k p).length = p.length
  | [], k, p => rfl
  | x :: g, k, p => by
    rw [goP]
    split
    · rw [goP_len, swp_len]
    · exact goP_len
theorem goS_len : ∀ {g : Net} {s : Nat} {k : List Int}, (goS g s k).length ≤ g.length
  | [], s, k => Nat.le_refl _
  | x :: g, s, k => by
    rw [goS]
    split
    · rw [List.length_cons, List.length_cons]; have := goS_len (g := g) (s := s + 1) (k := swp k x.1 x.2); omega
    · rw [List.length_cons]; have := goS_len (g := g) (s := s + 1) (k := k); omega
theorem asg_pr {i j : Nat} {x : Nat × Nat} {L : Lc} (h1 : i < L.length) (h2 : j < L.length) : Tg.asg (.tp (.cons (.nm i) (.cons (.nm j) .nil))) (prD x) L = some ((L.set i (some (.fz (.int x.1)))).set j (some (.fz (.int x.2)))) := asg_pair h1 h2
section
def sh_gone_through_5 : Ss := .cons (.exp (.app (.nm 4) (.nm 5))) .nil
def sh_gone_through_4 : Ss := .cons (.sst2 (.nm 3) (.nm 6) (.nm 3) (.nm 7) (.tup (.cons (.ix (.nm 3) (.nm 7)) (.cons (.ix (.nm 3) (.nm 6)) .nil)))) sh_gone_through_5
def sh_gone_through_3 : Ss := .cons (.sst2 (.nm 2) (.nm 6) (.nm 2) (.nm 7) (.tup (.cons (.ix (.nm 2) (.nm 7)) (.cons (.ix (.nm 2) (.nm 6)) .nil)))) sh_gone_through_4
def sh_gone_through_2 : Ss := .cons (.ite (.cmp .Gt (.ix (.nm 2) (.nm 6)) (.ix (.nm 2) (.nm 7))) sh_gone_through_3 .nil) .nil
def sh_gone_through_6 : Ss := .cons (.ret (.tup (.cons (.nm 2) (.cons (.nm 3) (.cons (.nm 4) .nil))))) .nil
def sh_gone_through_1 : Ss := .cons (.for (.tp (.cons (.nm 5) (.cons (.tp (.cons (.nm 6) (.cons (.nm 7) .nil))) .nil))) (.enu (.nm 0)) sh_gone_through_2) sh_gone_through_6
def sh_gone_through_0 : Ss := .cons (.par [2, 3, 4] (.cons (.bi .list1 (.cons (.nm 1) .nil)) (.cons (.lrg (.rg1 (.bi .len (.cons (.nm 1) .nil)))) (.cons (.lst .nil) .nil)))) sh_gone_through_1
def sh_out_0 : Ss := .cons (.ret (.bi .tuple1 (.cons (.ix (.call "gone_through" (.cons (.nm 0) (.cons (.nm 1) .nil)) [] [0, 1]) (.cst (.int 0))) .nil))) .nil
def sh_exchanged_0 : Ss := .cons (.ret (.bi .tuple1 (.cons (.ix (.call "gone_through" (.cons (.nm 0) (.cons (.nm 1) .nil)) [] [0, 1]) (.cst (.int 2))) .nil))) .nil
end
def F_gone : Fn := ⟨0, fun xs ds Q _ => ∃ (g : Net) (r : List Int), xs = [] ∧ ds = [netD g, rowD r] ∧ NetOk r.length g ∧ g.length ≤ 2000 ∧ r.length ≤ 1000 ∧ Q (.fz (.tuple [.list ((goK g r).map .int), .list ((goP g r (List.range r.length)).map natD), .list ((goS g 0 r).map natD)])) []⟩
theorem rg_nat : ∀ (n k : Nat), rgI (k : Int) 1 n = (List.range' k n).map natD
  | 0, k => rfl
  | n + 1, k => by
    rw [rgI, List.range'_succ, List.map_cons, ← rg_nat n (k + 1)]
    rfl
theorem rg_range (n : Nat) : rgD 0 n = (List.range n).map natD := by
  rw [List.range_eq_range', ← rg_nat]
  rfl
theorem k_gone (Φ : Fns) : bodyOk Φ F_gone 8 2 sh_gone_through_0 := by
  intro xs ds QQ XX hx hd hs
  obtain ⟨g, r, rfl, rfl, ok, hg, hr, hq⟩ := hs
  have e0 : F_gone.nio = 0 := rfl
  unfold sh_gone_through_0
  simp only [e0, wSs, wS, wE, wA, wB, wT, wO, wI, endPt, ini, vw_fz, vw_tm, vw_sl, vws, dat_d, dat_l, dat_o, pvw_fz, pvw_fzL, pvw_mls, hd_fz, hd_fzL, hd_mls, kid_fz, kid_tm, kidsOf, frz_fz, frz_tm, frz_sl, kid_sl, frzs, setAll, toD_fzL, toD_mls, toD_fz, st_fz, st_tm, st_sl, seq_dl, seq_dt, seq_l, asL_dl, asL_l, asL_dt, asT_dt, asT_dl, asT_l, isiB_some, isiV_b, isiV_i, isiV_s, isiV_l, isiV_t, isiV_d, isBB, isII, isSS, isLL, isTT, isDD, isB_fz, bop_add, bop_sub, bop_mul, bop_div, bop_mod, bop_pow, bop_shl, bop_shr, bop_and, bop_or, bop_xor, cop_eq, cop_ne, cop_eqS, cop_neS, cop_lt, cop_le, cop_gt, cop_ge, cop_is, bip_len, bip_abs, bip_intI, bip_intB, bip_tup, bip_lst, bip_repr, ixp_l, ixp_t, slp_dl, slp_l, slp_dt, atI_0, atI_1, atI_2, atI_cast, Es.len, asg_nm, asg_tp, asgs_nil, end0, end1, prep_nil, prep_fz, prep_tm, pickS, pickD, Hd.into, wipeL, List.map_nil, List.map_cons, List.nil_append, List.cons_append, List.length_nil, List.length_cons, List.getElem?_cons_zero, List.getElem?_cons_succ, List.getElem?_nil, List.set_cons_zero, List.set_cons_succ, List.replicate, Option.some.injEq, Prod.mk.injEq, exists_eq_left', exists_eq_left, exists_and_left, and_assoc, and_true, true_and, or_true, true_or, Nat.sub_self, Nat.reduceAdd, Nat.reduceSub, Nat.zero_add, Nat.reduceLT, Nat.lt_add_one, if_true, if_false, ite_true, ite_false, Bool.not_true, Bool.not_false, Bool.false_eq_true, Bool.true_eq_false, eq_self_iff_true, forall_const, true_implies, false_implies, implies_true, reduceCtorEq, and_false, false_and, false_or, or_false, Hd.fz.injEq, PyData.int.injEq, PyData.list.injEq, PyData.tuple.injEq, PyData.bool.injEq]
  have hrl : (r.map PyData.int).length = r.length := by rw [List.length_map]
  rw [hrl]
  refine ⟨by omega, by omega, by omega, by decide, by simp, ?_⟩
  unfold sh_gone_through_1
  simp only [e0, wSs, wS, wE, wA, wB, wT, wO, wI, endPt, ini, vw_fz, vw_tm, vw_sl, vws, dat_d, dat_l, dat_o, pvw_fz, pvw_fzL, pvw_mls, hd_fz, hd_fzL, hd_mls, kid_fz, kid_tm, kidsOf, frz_fz, frz_tm, frz_sl, kid_sl, frzs, setAll, toD_fzL, toD_mls, toD_fz, st_fz, st_tm, st_sl, seq_dl, seq_dt, seq_l, asL_dl, asL_l, asL_dt, asT_dt, asT_dl, asT_l, isiB_some, isiV_b, isiV_i, isiV_s, isiV_l, isiV_t, isiV_d, isBB, isII, isSS, isLL, isTT, isDD, isB_fz, bop_add, bop_sub, bop_mul, bop_div, bop_mod, bop_pow, bop_shl, bop_shr, bop_and, bop_or, bop_xor, cop_eq, cop_ne, cop_eqS, cop_neS, cop_lt, cop_le, cop_gt, cop_ge, cop_is, bip_len, bip_abs, bip_intI, bip_intB, bip_tup, bip_lst, bip_repr, ixp_l, ixp_t, slp_dl, slp_l, slp_dt, atI_0, atI_1, atI_2, atI_cast, Es.len, asg_nm, asg_tp, asgs_nil, end0, end1, prep_nil, prep_fz, prep_tm, pickS, pickD, Hd.into, wipeL, List.map_nil, List.map_cons, List.nil_append, List.cons_append, List.length_nil, List.length_cons, List.getElem?_cons_zero, List.getElem?_cons_succ, List.getElem?_nil, List.set_cons_zero, List.set_cons_succ, List.replicate, Option.some.injEq, Prod.mk.injEq, exists_eq_left', exists_eq_left, exists_and_left, and_assoc, and_true, true_and, or_true, true_or, Nat.sub_self, Nat.reduceAdd, Nat.reduceSub, Nat.zero_add, Nat.reduceLT, Nat.lt_add_one, if_true, if_false, ite_true, ite_false, Bool.not_true, Bool.not_false, Bool.false_eq_true, Bool.true_eq_false, eq_self_iff_true, forall_const, true_implies, false_implies, implies_true, reduceCtorEq, and_false, false_and, false_or, or_false, Hd.fz.injEq, PyData.int.injEq, PyData.list.injEq, PyData.tuple.injEq, PyData.bool.injEq]
  rw [show ((r.length : Int)).toNat = r.length from rfl, rg_range]
  refine forRun_ind (fun ds L => ∃ (s : Nat) (rest : Net) (ks : List Int) (ps ss : List Nat) (a b c : Option PV), ds = enuD (s : Int) (rest.map prD) ∧ ks.length = r.length ∧ ps.length = r.length ∧ ss.length + rest.length ≤ 2000 ∧ NetOk r.length rest ∧
      goK rest ks = goK g r ∧ goP rest ks ps = goP g r (List.range r.length) ∧ ss ++ goS rest s ks = goS g 0 r ∧
      L = [some (.fz (netD g)), some (.fz (rowD r)), some (.mls ((ks.map .int).map .fz)), some (.mls ((ps.map natD).map .fz)), some (.mls ((ss.map natD).map .fz)), a, b, c]) (fun d ds' L N hJ hN => ?_) (fun L hJ => ?_) _ _
      ⟨0, g, r, List.range r.length, [], none, none, none, rfl, rfl, by simp, by simpa using hg, ok, rfl, rfl, rfl, rfl⟩
  · obtain ⟨s, rest, ks, ps, ss, a, b, c, e1, hk, hp, hl, ok2, i1, i2, i3, rfl⟩ := hJ
    cases rest with
    | nil => cases e1
    | cons x rest =>
      cases e1
      obtain ⟨x1, x2⟩ := ok2 x (List.mem_cons_self ..)
      have ok3 : NetOk r.length rest := fun y hy => ok2 y (List.mem_cons_of_mem _ hy)
      rw [List.length_cons] at hl
      refine ⟨_, by rw [asg_tp, asgs_nm (by simp), asgs_cons (asg_pr (by simp) (by simp)), asgs_nil], ?_⟩
      unfold sh_gone_through_2
      simp only [e0, wSs, wS, wE, wA, wB, wT, wO, wI, endPt, ini, vw_fz, vw_tm, vw_sl, vws, dat_d, dat_l, dat_o, pvw_fz, pvw_fzL, pvw_mls, hd_fz, hd_fzL, hd_mls, kid_fz, kid_tm, kidsOf, frz_fz, frz_tm, frz_sl, kid_sl, frzs, setAll, toD_fzL, toD_mls, toD_fz, st_fz, st_tm, st_sl, seq_dl, seq_dt, seq_l, asL_dl, asL_l, asL_dt, asT_dt, asT_dl, asT_l, isiB_some, isiV_b, isiV_i, isiV_s, isiV_l, isiV_t, isiV_d, isBB, isII, isSS, isLL, isTT, isDD, isB_fz, bop_add, bop_sub, bop_mul, bop_div, bop_mod, bop_pow, bop_shl, bop_shr, bop_and, bop_or, bop_xor, cop_eq, cop_ne, cop_eqS, cop_neS, cop_lt, cop_le, cop_gt, cop_ge, cop_is, bip_len, bip_abs, bip_intI, bip_intB, bip_tup, bip_lst, bip_repr, ixp_l, ixp_t, slp_dl, slp_l, slp_dt, atI_0, atI_1, atI_2, atI_cast, Es.len, asg_nm, asg_tp, asgs_nil, end0, end1, prep_nil, prep_fz, prep_tm, pickS, pickD, Hd.into, wipeL, List.map_nil, List.map_cons, List.nil_append, List.cons_append, List.length_nil, List.length_cons, List.getElem?_cons_zero, List.getElem?_cons_succ, List.getElem?_nil, List.set_cons_zero, List.set_cons_succ, List.replicate, Option.some.injEq, Prod.mk.injEq, exists_eq_left', exists_eq_left, exists_and_left, and_assoc, and_true, true_and, or_true, true_or, Nat.sub_self, Nat.reduceAdd, Nat.reduceSub, Nat.zero_add, Nat.reduceLT, Nat.lt_add_one, if_true, if_false, ite_true, ite_false, Bool.not_true, Bool.not_false, Bool.false_eq_true, Bool.true_eq_false, eq_self_iff_true, forall_const, true_implies, false_implies, implies_true, reduceCtorEq, and_false, false_and, false_or, or_false, Hd.fz.injEq, PyData.int.injEq, PyData.list.injEq, PyData.tuple.injEq, PyData.bool.injEq]
      refine ixp_f PyData.int (by rw [at_sl]; rfl) (by omega) ⟨rfl, ixp_f PyData.int (by rw [at_sl]; rfl) (by omega) ?_⟩
      simp only [e0, wSs, wS, wE, wA, wB, wT, wO, wI, endPt, ini, vw_fz, vw_tm, vw_sl, vws, dat_d, dat_l, dat_o, pvw_fz, pvw_fzL, pvw_mls, hd_fz, hd_fzL, hd_mls, kid_fz, kid_tm, kidsOf, frz_fz, frz_tm, frz_sl, kid_sl, frzs, setAll, toD_fzL, toD_mls, toD_fz, st_fz, st_tm, st_sl, seq_dl, seq_dt, seq_l, asL_dl, asL_l, asL_dt, asT_dt, asT_dl, asT_l, isiB_some, isiV_b, isiV_i, isiV_s, isiV_l, isiV_t, isiV_d, isBB, isII, isSS, isLL, isTT, isDD, isB_fz, bop_add, bop_sub, bop_mul, bop_div, bop_mod, bop_pow, bop_shl, bop_shr, bop_and, bop_or, bop_xor, cop_eq, cop_ne, cop_eqS, cop_neS, cop_lt, cop_le, cop_gt, cop_ge, cop_is, bip_len, bip_abs, bip_intI, bip_intB, bip_tup, bip_lst, bip_repr, ixp_l, ixp_t, slp_dl, slp_l, slp_dt, atI_0, atI_1, atI_2, atI_cast, Es.len, asg_nm, asg_tp, asgs_nil, end0, end1, prep_nil, prep_fz, prep_tm, pickS, pickD, Hd.into, wipeL, List.map_nil, List.map_cons, List.nil_append, List.cons_append, List.length_nil, List.length_cons, List.getElem?_cons_zero, List.getElem?_cons_succ, List.getElem?_nil, List.set_cons_zero, List.set_cons_succ, List.replicate, Option.some.injEq, Prod.mk.injEq, exists_eq_left', exists_eq_left, exists_and_left, and_assoc, and_true, true_and, or_true, true_or, Nat.sub_self, Nat.reduceAdd, Nat.reduceSub, Nat.zero_add, Nat.reduceLT, Nat.lt_add_one, if_true, if_false, ite_true, ite_false, Bool.not_true, Bool.not_false, Bool.false_eq_true, Bool.true_eq_false, eq_self_iff_true, forall_const, true_implies, false_implies, implies_true, reduceCtorEq, and_false, false_and, false_or, or_false, Hd.fz.injEq, PyData.int.injEq, PyData.list.injEq, PyData.tuple.injEq, PyData.bool.injEq]
      have i1' : goK rest (if gtr ks x.1 x.2 = true then swp ks x.1 x.2 else ks) = goK g r := i1
      rw [goP] at i2
      rw [goS] at i3
      refine ⟨fun c1 => ?_, fun c1 => ?_⟩
      · have c2 : gtr ks x.1 x.2 = true := c1
        rw [if_pos c2] at i1' i2 i3
        unfold sh_gone_through_3
        simp only [e0, wSs, wS, wE, wA, wB, wT, wO, wI, endPt, ini, vw_fz, vw_tm, vw_sl, vws, dat_d, dat_l, dat_o, pvw_fz, pvw_fzL, pvw_mls, hd_fz, hd_fzL, hd_mls, kid_fz, kid_tm, kidsOf, frz_fz, frz_tm, frz_sl, kid_sl, frzs, setAll, toD_fzL, toD_mls, toD_fz, st_fz, st_tm, st_sl, seq_dl, seq_dt, seq_l, asL_dl, asL_l, asL_dt, asT_dt, asT_dl, asT_l, isiB_some, isiV_b, isiV_i, isiV_s, isiV_l, isiV_t, isiV_d, isBB, isII, isSS, isLL, isTT, isDD, isB_fz, bop_add, bop_sub, bop_mul, bop_div, bop_mod, bop_pow, bop_shl, bop_shr, bop_and, bop_or, bop_xor, cop_eq, cop_ne, cop_eqS, cop_neS, cop_lt, cop_le, cop_gt, cop_ge, cop_is, bip_len, bip_abs, bip_intI, bip_intB, bip_tup, bip_lst, bip_repr, ixp_l, ixp_t, slp_dl, slp_l, slp_dt, atI_0, atI_1, atI_2, atI_cast, Es.len, asg_nm, asg_tp, asgs_nil, end0, end1, prep_nil, prep_fz, prep_tm, pickS, pickD, Hd.into, wipeL, List.map_nil, List.map_cons, List.nil_append, List.cons_append, List.length_nil, List.length_cons, List.getElem?_cons_zero, List.getElem?_cons_succ, List.getElem?_nil, List.set_cons_zero, List.set_cons_succ, List.replicate, Option.some.injEq, Prod.mk.injEq, exists_eq_left', exists_eq_left, exists_and_left, and_assoc, and_true, true_and, or_true, true_or, Nat.sub_self, Nat.reduceAdd, Nat.reduceSub, Nat.zero_add, Nat.reduceLT, Nat.lt_add_one, if_true, if_false, ite_true, ite_false, Bool.not_true, Bool.not_false, Bool.false_eq_true, Bool.true_eq_false, eq_self_iff_true, forall_const, true_implies, false_implies, implies_true, reduceCtorEq, and_false, false_and, false_or, or_false, Hd.fz.injEq, PyData.int.injEq, PyData.list.injEq, PyData.tuple.injEq, PyData.bool.injEq]
        refine ixp_f PyData.int (by rw [at_sl]; rfl) (by omega) ⟨rfl, ixp_f PyData.int (by rw [at_sl]; rfl) (by omega) ?_⟩
        simp only [e0, wSs, wS, wE, wA, wB, wT, wO, wI, endPt, ini, vw_fz, vw_tm, vw_sl, vws, dat_d, dat_l, dat_o, pvw_fz, pvw_fzL, pvw_mls, hd_fz, hd_fzL, hd_mls, kid_fz, kid_tm, kidsOf, frz_fz, frz_tm, frz_sl, kid_sl, frzs, setAll, toD_fzL, toD_mls, toD_fz, st_fz, st_tm, st_sl, seq_dl, seq_dt, seq_l, asL_dl, asL_l, asL_dt, asT_dt, asT_dl, asT_l, isiB_some, isiV_b, isiV_i, isiV_s, isiV_l, isiV_t, isiV_d, isBB, isII, isSS, isLL, isTT, isDD, isB_fz, bop_add, bop_sub, bop_mul, bop_div, bop_mod, bop_pow, bop_shl, bop_shr, bop_and, bop_or, bop_xor, cop_eq, cop_ne, cop_eqS, cop_neS, cop_lt, cop_le, cop_gt, cop_ge, cop_is, bip_len, bip_abs, bip_intI, bip_intB, bip_tup, bip_lst, bip_repr, ixp_l, ixp_t, slp_dl, slp_l, slp_dt, atI_0, atI_1, atI_2, atI_cast, Es.len, asg_nm, asg_tp, asgs_nil, end0, end1, prep_nil, prep_fz, prep_tm, pickS, pickD, Hd.into, wipeL, List.map_nil, List.map_cons, List.nil_append, List.cons_append, List.length_nil, List.length_cons, List.getElem?_cons_zero, List.getElem?_cons_succ, List.getElem?_nil, List.set_cons_zero, List.set_cons_succ, List.replicate, Option.some.injEq, Prod.mk.injEq, exists_eq_left', exists_eq_left, exists_and_left, and_assoc, and_true, true_and, or_true, true_or, Nat.sub_self, Nat.reduceAdd, Nat.reduceSub, Nat.zero_add, Nat.reduceLT, Nat.lt_add_one, if_true, if_false, ite_true, ite_false, Bool.not_true, Bool.not_false, Bool.false_eq_true, Bool.true_eq_false, eq_self_iff_true, forall_const, true_implies, false_implies, implies_true, reduceCtorEq, and_false, false_and, false_or, or_false, Hd.fz.injEq, PyData.int.injEq, PyData.list.injEq, PyData.tuple.injEq, PyData.bool.injEq]
        refine ⟨by decide, _, _, rfl, ?_⟩
        refine sstp_f PyData.int rfl (by omega) ?_
        simp only [e0, wSs, wS, wE, wA, wB, wT, wO, wI, endPt, ini, vw_fz, vw_tm, vw_sl, vws, dat_d, dat_l, dat_o, pvw_fz, pvw_fzL, pvw_mls, hd_fz, hd_fzL, hd_mls, kid_fz, kid_tm, kidsOf, frz_fz, frz_tm, frz_sl, kid_sl, frzs, setAll, toD_fzL, toD_mls, toD_fz, st_fz, st_tm, st_sl, seq_dl, seq_dt, seq_l, asL_dl, asL_l, asL_dt, asT_dt, asT_dl, asT_l, isiB_some, isiV_b, isiV_i, isiV_s, isiV_l, isiV_t, isiV_d, isBB, isII, isSS, isLL, isTT, isDD, isB_fz, bop_add, bop_sub, bop_mul, bop_div, bop_mod, bop_pow, bop_shl, bop_shr, bop_and, bop_or, bop_xor, cop_eq, cop_ne, cop_eqS, cop_neS, cop_lt, cop_le, cop_gt, cop_ge, cop_is, bip_len, bip_abs, bip_intI, bip_intB, bip_tup, bip_lst, bip_repr, ixp_l, ixp_t, slp_dl, slp_l, slp_dt, atI_0, atI_1, atI_2, atI_cast, Es.len, asg_nm, asg_tp, asgs_nil, end0, end1, prep_nil, prep_fz, prep_tm, pickS, pickD, Hd.into, wipeL, List.map_nil, List.map_cons, List.nil_append, List.cons_append, List.length_nil, List.length_cons, List.getElem?_cons_zero, List.getElem?_cons_succ, List.getElem?_nil, List.set_cons_zero, List.set_cons_succ, List.replicate, Option.some.injEq, Prod.mk.injEq, exists_eq_left', exists_eq_left, exists_and_left, and_assoc, and_true, true_and, or_true, true_or, Nat.sub_self, Nat.reduceAdd, Nat.reduceSub, Nat.zero_add, Nat.reduceLT, Nat.lt_add_one, if_true, if_false, ite_true, ite_false, Bool.not_true, Bool.not_false, Bool.false_eq_true, Bool.true_eq_false, eq_self_iff_true, forall_const, true_implies, false_implies, implies_true, reduceCtorEq, and_false, false_and, false_or, or_false, Hd.fz.injEq, PyData.int.injEq, PyData.list.injEq, PyData.tuple.injEq, PyData.bool.injEq]
        refine sstp_f PyData.int rfl (by rw [List.length_set]; omega) ?_
        simp only [e0, wSs, wS, wE, wA, wB, wT, wO, wI, endPt, ini, vw_fz, vw_tm, vw_sl, vws, dat_d, dat_l, dat_o, pvw_fz, pvw_fzL, pvw_mls, hd_fz, hd_fzL, hd_mls, kid_fz, kid_tm, kidsOf, frz_fz, frz_tm, frz_sl, kid_sl, frzs, setAll, toD_fzL, toD_mls, toD_fz, st_fz, st_tm, st_sl, seq_dl, seq_dt, seq_l, asL_dl, asL_l, asL_dt, asT_dt, asT_dl, asT_l, isiB_some, isiV_b, isiV_i, isiV_s, isiV_l, isiV_t, isiV_d, isBB, isII, isSS, isLL, isTT, isDD, isB_fz, bop_add, bop_sub, bop_mul, bop_div, bop_mod, bop_pow, bop_shl, bop_shr, bop_and, bop_or, bop_xor, cop_eq, cop_ne, cop_eqS, cop_neS, cop_lt, cop_le, cop_gt, cop_ge, cop_is, bip_len, bip_abs, bip_intI, bip_intB, bip_tup, bip_lst, bip_repr, ixp_l, ixp_t, slp_dl, slp_l, slp_dt, atI_0, atI_1, atI_2, atI_cast, Es.len, asg_nm, asg_tp, asgs_nil, end0, end1, prep_nil, prep_fz, prep_tm, pickS, pickD, Hd.into, wipeL, List.map_nil, List.map_cons, List.nil_append, List.cons_append, List.length_nil, List.length_cons, List.getElem?_cons_zero, List.getElem?_cons_succ, List.getElem?_nil, List.set_cons_zero, List.set_cons_succ, List.replicate, Option.some.injEq, Prod.mk.injEq, exists_eq_left', exists_eq_left, exists_and_left, and_assoc, and_true, true_and, or_true, true_or, Nat.sub_self, Nat.reduceAdd, Nat.reduceSub, Nat.zero_add, Nat.reduceLT, Nat.lt_add_one, if_true, if_false, ite_true, ite_false, Bool.not_true, Bool.not_false, Bool.false_eq_true, Bool.true_eq_false, eq_self_iff_true, forall_const, true_implies, false_implies, implies_true, reduceCtorEq, and_false, false_and, false_or, or_false, Hd.fz.injEq, PyData.int.injEq, PyData.list.injEq, PyData.tuple.injEq, PyData.bool.injEq]
        unfold sh_gone_through_4
        simp only [e0, wSs, wS, wE, wA, wB, wT, wO, wI, endPt, ini, vw_fz, vw_tm, vw_sl, vws, dat_d, dat_l, dat_o, pvw_fz, pvw_fzL, pvw_mls, hd_fz, hd_fzL, hd_mls, kid_fz, kid_tm, kidsOf, frz_fz, frz_tm, frz_sl, kid_sl, frzs, setAll, toD_fzL, toD_mls, toD_fz, st_fz, st_tm, st_sl, seq_dl, seq_dt, seq_l, asL_dl, asL_l, asL_dt, asT_dt, asT_dl, asT_l, isiB_some, isiV_b, isiV_i, isiV_s, isiV_l, isiV_t, isiV_d, isBB, isII, isSS, isLL, isTT, isDD, isB_fz, bop_add, bop_sub, bop_mul, bop_div, bop_mod, bop_pow, bop_shl, bop_shr, bop_and, bop_or, bop_xor, cop_eq, cop_ne, cop_eqS, cop_neS, cop_lt, cop_le, cop_gt, cop_ge, cop_is, bip_len, bip_abs, bip_intI, bip_intB, bip_tup, bip_lst, bip_repr, ixp_l, ixp_t, slp_dl, slp_l, slp_dt, atI_0, atI_1, atI_2, atI_cast, Es.len, asg_nm, asg_tp, asgs_nil, end0, end1, prep_nil, prep_fz, prep_tm, pickS, pickD, Hd.into, wipeL, List.map_nil, List.map_cons, List.nil_append, List.cons_append, List.length_nil, List.length_cons, List.getElem?_cons_zero, List.getElem?_cons_succ, List.getElem?_nil, List.set_cons_zero, List.set_cons_succ, List.replicate, Option.some.injEq, Prod.mk.injEq, exists_eq_left', exists_eq_left, exists_and_left, and_assoc, and_true, true_and, or_true, true_or, Nat.sub_self, Nat.reduceAdd, Nat.reduceSub, Nat.zero_add, Nat.reduceLT, Nat.lt_add_one, if_true, if_false, ite_true, ite_false, Bool.not_true, Bool.not_false, Bool.false_eq_true, Bool.true_eq_false, eq_self_iff_true, forall_const, true_implies, false_implies, implies_true, reduceCtorEq, and_false, false_and, false_or, or_false, Hd.fz.injEq, PyData.int.injEq, PyData.list.injEq, PyData.tuple.injEq, PyData.bool.injEq]
        refine ixp_f natD (by rw [at_sl]; rfl) (by omega) ⟨rfl, ixp_f natD (by rw [at_sl]; rfl) (by omega) ?_⟩
        simp only [e0, wSs, wS, wE, wA, wB, wT, wO, wI, endPt, ini, vw_fz, vw_tm, vw_sl, vws, dat_d, dat_l, dat_o, pvw_fz, pvw_fzL, pvw_mls, hd_fz, hd_fzL, hd_mls, kid_fz, kid_tm, kidsOf, frz_fz, frz_tm, frz_sl, kid_sl, frzs, setAll, toD_fzL, toD_mls, toD_fz, st_fz, st_tm, st_sl, seq_dl, seq_dt, seq_l, asL_dl, asL_l, asL_dt, asT_dt, asT_dl, asT_l, isiB_some, isiV_b, isiV_i, isiV_s, isiV_l, isiV_t, isiV_d, isBB, isII, isSS, isLL, isTT, isDD, isB_fz, bop_add, bop_sub, bop_mul, bop_div, bop_mod, bop_pow, bop_shl, bop_shr, bop_and, bop_or, bop_xor, cop_eq, cop_ne, cop_eqS, cop_neS, cop_lt, cop_le, cop_gt, cop_ge, cop_is, bip_len, bip_abs, bip_intI, bip_intB, bip_tup, bip_lst, bip_repr, ixp_l, ixp_t, slp_dl, slp_l, slp_dt, atI_0, atI_1, atI_2, atI_cast, Es.len, asg_nm, asg_tp, asgs_nil, end0, end1, prep_nil, prep_fz, prep_tm, pickS, pickD, Hd.into, wipeL, List.map_nil, List.map_cons, List.nil_append, List.cons_append, List.length_nil, List.length_cons, List.getElem?_cons_zero, List.getElem?_cons_succ, List.getElem?_nil, List.set_cons_zero, List.set_cons_succ, List.replicate, Option.some.injEq, Prod.mk.injEq, exists_eq_left', exists_eq_left, exists_and_left, and_assoc, and_true, true_and, or_true, true_or, Nat.sub_self, Nat.reduceAdd, Nat.reduceSub, Nat.zero_add, Nat.reduceLT, Nat.lt_add_one, if_true, if_false, ite_true, ite_false, Bool.not_true, Bool.not_false, Bool.false_eq_true, Bool.true_eq_false, eq_self_iff_true, forall_const, true_implies, false_implies, implies_true, reduceCtorEq, and_false, false_and, false_or, or_false, Hd.fz.injEq, PyData.int.injEq, PyData.list.injEq, PyData.tuple.injEq, PyData.bool.injEq]
        refine ⟨by decide, _, _, rfl, ?_⟩
        refine sstp_f natD rfl (by omega) ?_
        simp only [e0, wSs, wS, wE, wA, wB, wT, wO, wI, endPt, ini, vw_fz, vw_tm, vw_sl, vws, dat_d, dat_l, dat_o, pvw_fz, pvw_fzL, pvw_mls, hd_fz, hd_fzL, hd_mls, kid_fz, kid_tm, kidsOf, frz_fz, frz_tm, frz_sl, kid_sl, frzs, setAll, toD_fzL, toD_mls, toD_fz, st_fz, st_tm, st_sl, seq_dl, seq_dt, seq_l, asL_dl, asL_l, asL_dt, asT_dt, asT_dl, asT_l, isiB_some, isiV_b, isiV_i, isiV_s, isiV_l, isiV_t, isiV_d, isBB, isII, isSS, isLL, isTT, isDD, isB_fz, bop_add, bop_sub, bop_mul, bop_div, bop_mod, bop_pow, bop_shl, bop_shr, bop_and, bop_or, bop_xor, cop_eq, cop_ne, cop_eqS, cop_neS, cop_lt, cop_le, cop_gt, cop_ge, cop_is, bip_len, bip_abs, bip_intI, bip_intB, bip_tup, bip_lst, bip_repr, ixp_l, ixp_t, slp_dl, slp_l, slp_dt, atI_0, atI_1, atI_2, atI_cast, Es.len, asg_nm, asg_tp, asgs_nil, end0, end1, prep_nil, prep_fz, prep_tm, pickS, pickD, Hd.into, wipeL, List.map_nil, List.map_cons, List.nil_append, List.cons_append, List.length_nil, List.length_cons, List.getElem?_cons_zero, List.getElem?_cons_succ, List.getElem?_nil, List.set_cons_zero, List.set_cons_succ, List.replicate, Option.some.injEq, Prod.mk.injEq, exists_eq_left', exists_eq_left, exists_and_left, and_assoc, and_true, true_and, or_true, true_or, Nat.sub_self, Nat.reduceAdd, Nat.reduceSub, Nat.zero_add, Nat.reduceLT, Nat.lt_add_one, if_true, if_false, ite_true, ite_false, Bool.not_true, Bool.not_false, Bool.false_eq_true, Bool.true_eq_false, eq_self_iff_true, forall_const, true_implies, false_implies, implies_true, reduceCtorEq, and_false, false_and, false_or, or_false, Hd.fz.injEq, PyData.int.injEq, PyData.list.injEq, PyData.tuple.injEq, PyData.bool.injEq]
        refine sstp_f natD rfl (by rw [List.length_set]; omega) ?_
        simp only [e0, wSs, wS, wE, wA, wB, wT, wO, wI, endPt, ini, vw_fz, vw_tm, vw_sl, vws, dat_d, dat_l, dat_o, pvw_fz, pvw_fzL, pvw_mls, hd_fz, hd_fzL, hd_mls, kid_fz, kid_tm, kidsOf, frz_fz, frz_tm, frz_sl, kid_sl, frzs, setAll, toD_fzL, toD_mls, toD_fz, st_fz, st_tm, st_sl, seq_dl, seq_dt, seq_l, asL_dl, asL_l, asL_dt, asT_dt, asT_dl, asT_l, isiB_some, isiV_b, isiV_i, isiV_s, isiV_l, isiV_t, isiV_d, isBB, isII, isSS, isLL, isTT, isDD, isB_fz, bop_add, bop_sub, bop_mul, bop_div, bop_mod, bop_pow, bop_shl, bop_shr, bop_and, bop_or, bop_xor, cop_eq, cop_ne, cop_eqS, cop_neS, cop_lt, cop_le, cop_gt, cop_ge, cop_is, bip_len, bip_abs, bip_intI, bip_intB, bip_tup, bip_lst, bip_repr, ixp_l, ixp_t, slp_dl, slp_l, slp_dt, atI_0, atI_1, atI_2, atI_cast, Es.len, asg_nm, asg_tp, asgs_nil, end0, end1, prep_nil, prep_fz, prep_tm, pickS, pickD, Hd.into, wipeL, List.map_nil, List.map_cons, List.nil_append, List.cons_append, List.length_nil, List.length_cons, List.getElem?_cons_zero, List.getElem?_cons_succ, List.getElem?_nil, List.set_cons_zero, List.set_cons_succ, List.replicate, Option.some.injEq, Prod.mk.injEq, exists_eq_left', exists_eq_left, exists_and_left, and_assoc, and_true, true_and, or_true, true_or, Nat.sub_self, Nat.reduceAdd, Nat.reduceSub, Nat.zero_add, Nat.reduceLT, Nat.lt_add_one, if_true, if_false, ite_true, ite_false, Bool.not_true, Bool.not_false, Bool.false_eq_true, Bool.true_eq_false, eq_self_iff_true, forall_const, true_implies, false_implies, implies_true, reduceCtorEq, and_false, false_and, false_or, or_false, Hd.fz.injEq, PyData.int.injEq, PyData.list.injEq, PyData.tuple.injEq, PyData.bool.injEq]
        unfold sh_gone_through_5
        simp only [e0, wSs, wS, wE, wA, wB, wT, wO, wI, endPt, ini, vw_fz, vw_tm, vw_sl, vws, dat_d, dat_l, dat_o, pvw_fz, pvw_fzL, pvw_mls, hd_fz, hd_fzL, hd_mls, kid_fz, kid_tm, kidsOf, frz_fz, frz_tm, frz_sl, kid_sl, frzs, setAll, toD_fzL, toD_mls, toD_fz, st_fz, st_tm, st_sl, seq_dl, seq_dt, seq_l, asL_dl, asL_l, asL_dt, asT_dt, asT_dl, asT_l, isiB_some, isiV_b, isiV_i, isiV_s, isiV_l, isiV_t, isiV_d, isBB, isII, isSS, isLL, isTT, isDD, isB_fz, bop_add, bop_sub, bop_mul, bop_div, bop_mod, bop_pow, bop_shl, bop_shr, bop_and, bop_or, bop_xor, cop_eq, cop_ne, cop_eqS, cop_neS, cop_lt, cop_le, cop_gt, cop_ge, cop_is, bip_len, bip_abs, bip_intI, bip_intB, bip_tup, bip_lst, bip_repr, ixp_l, ixp_t, slp_dl, slp_l, slp_dt, atI_0, atI_1, atI_2, atI_cast, Es.len, asg_nm, asg_tp, asgs_nil, end0, end1, prep_nil, prep_fz, prep_tm, pickS, pickD, Hd.into, wipeL, List.map_nil, List.map_cons, List.nil_append, List.cons_append, List.length_nil, List.length_cons, List.getElem?_cons_zero, List.getElem?_cons_succ, List.getElem?_nil, List.set_cons_zero, List.set_cons_succ, List.replicate, Option.some.injEq, Prod.mk.injEq, exists_eq_left', exists_eq_left, exists_and_left, and_assoc, and_true, true_and, or_true, true_or, Nat.sub_self, Nat.reduceAdd, Nat.reduceSub, Nat.zero_add, Nat.reduceLT, Nat.lt_add_one, if_true, if_false, ite_true, ite_false, Bool.not_true, Bool.not_false, Bool.false_eq_true, Bool.true_eq_false, eq_self_iff_true, forall_const, true_implies, false_implies, implies_true, reduceCtorEq, and_false, false_and, false_or, or_false, Hd.fz.injEq, PyData.int.injEq, PyData.list.injEq, PyData.tuple.injEq, PyData.bool.injEq]
        refine app_f natD (xs := ss) (a := s) rfl (by omega) ?_
        exact hN _ ⟨s + 1, rest, swp ks x.1 x.2, swp ps x.1 x.2, ss ++ [s], _, _, _, rfl, by rw [swp_len]; exact hk, by rw [swp_len]; exact hp, by simp; omega, ok3, i1', i2, by rw [List.append_assoc]; exact i3, rfl⟩
      · have c2 : ¬ gtr ks x.1 x.2 = true := fun z => by rw [show gtr ks x.1 x.2 = false from c1] at z; cases z
        rw [if_neg c2] at i1' i2 i3
        exact hN _ ⟨s + 1, rest, ks, ps, ss, _, _, _, rfl, hk, hp, by omega, ok3, i1', i2, i3, rfl⟩
  · obtain ⟨s, rest, ks, ps, ss, a, b, c, e1, hk, hp, hl, ok2, i1, i2, i3, rfl⟩ := hJ
    cases rest with
    | cons x rest => cases e1
    | nil =>
      simp only [goK, goP, goS, List.append_nil] at i1 i2 i3
      subst i1 i2 i3
      dsimp only
      unfold sh_gone_through_6
      simp only [e0, wSs, wS, wE, wA, wB, wT, wO, wI, endPt, ini, vw_fz, vw_tm, vw_sl, vws, dat_d, dat_l, dat_o, pvw_fz, pvw_fzL, pvw_mls, hd_fz, hd_fzL, hd_mls, kid_fz, kid_tm, kidsOf, frz_fz, frz_tm, frz_sl, kid_sl, frzs, setAll, toD_fzL, toD_mls, toD_fz, st_fz, st_tm, st_sl, seq_dl, seq_dt, seq_l, asL_dl, asL_l, asL_dt, asT_dt, asT_dl, asT_l, isiB_some, isiV_b, isiV_i, isiV_s, isiV_l, isiV_t, isiV_d, isBB, isII, isSS, isLL, isTT, isDD, isB_fz, bop_add, bop_sub, bop_mul, bop_div, bop_mod, bop_pow, bop_shl, bop_shr, bop_and, bop_or, bop_xor, cop_eq, cop_ne, cop_eqS, cop_neS, cop_lt, cop_le, cop_gt, cop_ge, cop_is, bip_len, bip_abs, bip_intI, bip_intB, bip_tup, bip_lst, bip_repr, ixp_l, ixp_t, slp_dl, slp_l, slp_dt, atI_0, atI_1, atI_2, atI_cast, Es.len, asg_nm, asg_tp, asgs_nil, end0, end1, prep_nil, prep_fz, prep_tm, pickS, pickD, Hd.into, wipeL, List.map_nil, List.map_cons, List.nil_append, List.cons_append, List.length_nil, List.length_cons, List.getElem?_cons_zero, List.getElem?_cons_succ, List.getElem?_nil, List.set_cons_zero, List.set_cons_succ, List.replicate, Option.some.injEq, Prod.mk.injEq, exists_eq_left', exists_eq_left, exists_and_left, and_assoc, and_true, true_and, or_true, true_or, Nat.sub_self, Nat.reduceAdd, Nat.reduceSub, Nat.zero_add, Nat.reduceLT, Nat.lt_add_one, if_true, if_false, ite_true, ite_false, Bool.not_true, Bool.not_false, Bool.false_eq_true, Bool.true_eq_false, eq_self_iff_true, forall_const, true_implies, false_implies, implies_true, reduceCtorEq, and_false, false_and, false_or, or_false, Hd.fz.injEq, PyData.int.injEq, PyData.list.injEq, PyData.tuple.injEq, PyData.bool.injEq]
      exact ⟨by decide, hq⟩

theorem call_gone {g : Net} {r : List Int} {L : Lc} {Q : QE} {X : QX} (ok : NetOk r.length g) (hg : g.length ≤ 2000) (hr : r.length ≤ 1000)
    (q : Q (.fz (.tuple [.list ((goK g r).map .int), .list ((goP g r (List.range r.length)).map natD), .list ((goS g 0 r).map natD)])) L) : callp F_gone [0, 1] [.fz (netD g), .fz (rowD r)] L Q X := by
  refine ⟨[.dt (netD g), .dt (rowD r)], L, [], [netD g, rowD r], [], by simp [F_gone, prep, Hd.frz], by simp [F_gone, pickS], by simp [F_gone, pickD], by simp, rfl, by simp [getAll], ?_⟩
  exact ⟨g, r, rfl, rfl, ok, hg, hr, rfl, q⟩
def F_out : Fn := ⟨0, fun xs ds Q _ => ∃ (g : Net) (r : List Int), xs = [] ∧ ds = [netD g, rowD r] ∧ NetOk r.length g ∧ g.length ≤ 2000 ∧ r.length ≤ 1000 ∧ Q (.fz (rowD (goK g r))) []⟩
def F_came : Fn := ⟨0, fun xs ds Q _ => ∃ (g : Net) (r : List Int), xs = [] ∧ ds = [netD g, rowD r] ∧ NetOk r.length g ∧ g.length ≤ 2000 ∧ r.length ≤ 1000 ∧ Q (.fz (.tuple ((goP g r (List.range r.length)).map natD))) []⟩
def F_exch : Fn := ⟨0, fun xs ds Q _ => ∃ (g : Net) (r : List Int), xs = [] ∧ ds = [netD g, rowD r] ∧ NetOk r.length g ∧ g.length ≤ 2000 ∧ r.length ≤ 1000 ∧ Q (.fz (.tuple ((goS g 0 r).map natD))) []⟩
def sh_came_0 : Ss := .cons (.ret (.bi .tuple1 (.cons (.ix (.call "gone_through" (.cons (.nm 0) (.cons (.nm 1) .nil)) [] [0, 1]) (.cst (.int 1))) .nil))) .nil
theorem k_out (Φ : Fns) (h0 : Φ "gone_through" = F_gone) : bodyOk Φ F_out 2 2 sh_out_0 := by
  intro xs ds QQ XX hx hd hs
  obtain ⟨g, r, rfl, rfl, ok, hg, hr, hq⟩ := hs
  have e0 : F_out.nio = 0 := rfl
  unfold sh_out_0
  simp only [e0, h0, wSs, wS, wE, wA, wB, wT, wO, wI, endPt, ini, vw_fz, vw_tm, vw_sl, vws, dat_d, dat_l, dat_o, pvw_fz, pvw_fzL, pvw_mls, hd_fz, hd_fzL, hd_mls, kid_fz, kid_tm, kidsOf, frz_fz, frz_tm, frz_sl, kid_sl, frzs, setAll, toD_fzL, toD_mls, toD_fz, st_fz, st_tm, st_sl, seq_dl, seq_dt, seq_l, asL_dl, asL_l, asL_dt, asT_dt, asT_dl, asT_l, isiB_some, isiV_b, isiV_i, isiV_s, isiV_l, isiV_t, isiV_d, isBB, isII, isSS, isLL, isTT, isDD, isB_fz, bop_add, bop_sub, bop_mul, bop_div, bop_mod, bop_pow, bop_shl, bop_shr, bop_and, bop_or, bop_xor, cop_eq, cop_ne, cop_eqS, cop_neS, cop_lt, cop_le, cop_gt, cop_ge, cop_is, bip_len, bip_abs, bip_intI, bip_intB, bip_tup, bip_lst, bip_repr, ixp_l, ixp_t, slp_dl, slp_l, slp_dt, atI_0, atI_1, atI_2, atI_cast, Es.len, asg_nm, asg_tp, asgs_nil, end0, end1, prep_nil, prep_fz, prep_tm, pickS, pickD, Hd.into, wipeL, List.map_nil, List.map_cons, List.nil_append, List.cons_append, List.length_nil, List.length_cons, List.getElem?_cons_zero, List.getElem?_cons_succ, List.getElem?_nil, List.set_cons_zero, List.set_cons_succ, List.replicate, Option.some.injEq, Prod.mk.injEq, exists_eq_left', exists_eq_left, exists_and_left, and_assoc, and_true, true_and, or_true, true_or, Nat.sub_self, Nat.reduceAdd, Nat.reduceSub, Nat.zero_add, Nat.reduceLT, Nat.lt_add_one, if_true, if_false, ite_true, ite_false, Bool.not_true, Bool.not_false, Bool.false_eq_true, Bool.true_eq_false, eq_self_iff_true, forall_const, true_implies, false_implies, implies_true, reduceCtorEq, and_false, false_and, false_or, or_false, Hd.fz.injEq, PyData.int.injEq, PyData.list.injEq, PyData.tuple.injEq, PyData.bool.injEq]
  refine call_gone ok hg hr ?_
  simp only [e0, wSs, wS, wE, wA, wB, wT, wO, wI, endPt, ini, vw_fz, vw_tm, vw_sl, vws, dat_d, dat_l, dat_o, pvw_fz, pvw_fzL, pvw_mls, hd_fz, hd_fzL, hd_mls, kid_fz, kid_tm, kidsOf, frz_fz, frz_tm, frz_sl, kid_sl, frzs, setAll, toD_fzL, toD_mls, toD_fz, st_fz, st_tm, st_sl, seq_dl, seq_dt, seq_l, asL_dl, asL_l, asL_dt, asT_dt, asT_dl, asT_l, isiB_some, isiV_b, isiV_i, isiV_s, isiV_l, isiV_t, isiV_d, isBB, isII, isSS, isLL, isTT, isDD, isB_fz, bop_add, bop_sub, bop_mul, bop_div, bop_mod, bop_pow, bop_shl, bop_shr, bop_and, bop_or, bop_xor, cop_eq, cop_ne, cop_eqS, cop_neS, cop_lt, cop_le, cop_gt, cop_ge, cop_is, bip_len, bip_abs, bip_intI, bip_intB, bip_tup, bip_lst, bip_repr, ixp_l, ixp_t, slp_dl, slp_l, slp_dt, atI_0, atI_1, atI_2, atI_cast, Es.len, asg_nm, asg_tp, asgs_nil, end0, end1, prep_nil, prep_fz, prep_tm, pickS, pickD, Hd.into, wipeL, List.map_nil, List.map_cons, List.nil_append, List.cons_append, List.length_nil, List.length_cons, List.getElem?_cons_zero, List.getElem?_cons_succ, List.getElem?_nil, List.set_cons_zero, List.set_cons_succ, List.replicate, Option.some.injEq, Prod.mk.injEq, exists_eq_left', exists_eq_left, exists_and_left, and_assoc, and_true, true_and, or_true, true_or, Nat.sub_self, Nat.reduceAdd, Nat.reduceSub, Nat.zero_add, Nat.reduceLT, Nat.lt_add_one, if_true, if_false, ite_true, ite_false, Bool.not_true, Bool.not_false, Bool.false_eq_true, Bool.true_eq_false, eq_self_iff_true, forall_const, true_implies, false_implies, implies_true, reduceCtorEq, and_false, false_and, false_or, or_false, Hd.fz.injEq, PyData.int.injEq, PyData.list.injEq, PyData.tuple.injEq, PyData.bool.injEq]
  exact hq
theorem k_came (Φ : Fns) (h0 : Φ "gone_through" = F_gone) : bodyOk Φ F_came 2 2 sh_came_0 := by
  intro xs ds QQ XX hx hd hs
  obtain ⟨g, r, rfl, rfl, ok, hg, hr, hq⟩ := hs
  have e0 : F_came.nio = 0 := rfl
  unfold sh_came_0
  simp only [e0, h0, wSs, wS, wE, wA, wB, wT, wO, wI, endPt, ini, vw_fz, vw_tm, vw_sl, vws, dat_d, dat_l, dat_o, pvw_fz, pvw_fzL, pvw_mls, hd_fz, hd_fzL, hd_mls, kid_fz, kid_tm, kidsOf, frz_fz, frz_tm, frz_sl, kid_sl, frzs, setAll, toD_fzL, toD_mls, toD_fz, st_fz, st_tm, st_sl, seq_dl, seq_dt, seq_l, asL_dl, asL_l, asL_dt, asT_dt, asT_dl, asT_l, isiB_some, isiV_b, isiV_i, isiV_s, isiV_l, isiV_t, isiV_d, isBB, isII, isSS, isLL, isTT, isDD, isB_fz, bop_add, bop_sub, bop_mul, bop_div, bop_mod, bop_pow, bop_shl, bop_shr, bop_and, bop_or, bop_xor, cop_eq, cop_ne, cop_eqS, cop_neS, cop_lt, cop_le, cop_gt, cop_ge, cop_is, bip_len, bip_abs, bip_intI, bip_intB, bip_tup, bip_lst, bip_repr, ixp_l, ixp_t, slp_dl, slp_l, slp_dt, atI_0, atI_1, atI_2, atI_cast, Es.len, asg_nm, asg_tp, asgs_nil, end0, end1, prep_nil, prep_fz, prep_tm, pickS, pickD, Hd.into, wipeL, List.map_nil, List.map_cons, List.nil_append, List.cons_append, List.length_nil, List.length_cons, List.getElem?_cons_zero, List.getElem?_cons_succ, List.getElem?_nil, List.set_cons_zero, List.set_cons_succ, List.replicate, Option.some.injEq, Prod.mk.injEq, exists_eq_left', exists_eq_left, exists_and_left, and_assoc, and_true, true_and, or_true, true_or, Nat.sub_self, Nat.reduceAdd, Nat.reduceSub, Nat.zero_add, Nat.reduceLT, Nat.lt_add_one, if_true, if_false, ite_true, ite_false, Bool.not_true, Bool.not_false, Bool.false_eq_true, Bool.true_eq_false, eq_self_iff_true, forall_const, true_implies, false_implies, implies_true, reduceCtorEq, and_false, false_and, false_or, or_false, Hd.fz.injEq, PyData.int.injEq, PyData.list.injEq, PyData.tuple.injEq, PyData.bool.injEq]
  refine call_gone ok hg hr ?_
  simp only [e0, wSs, wS, wE, wA, wB, wT, wO, wI, endPt, ini, vw_fz, vw_tm, vw_sl, vws, dat_d, dat_l, dat_o, pvw_fz, pvw_fzL, pvw_mls, hd_fz, hd_fzL, hd_mls, kid_fz, kid_tm, kidsOf, frz_fz, frz_tm, frz_sl, kid_sl, frzs, setAll, toD_fzL, toD_mls, toD_fz, st_fz, st_tm, st_sl, seq_dl, seq_dt, seq_l, asL_dl, asL_l, asL_dt, asT_dt, asT_dl, asT_l, isiB_some, isiV_b, isiV_i, isiV_s, isiV_l, isiV_t, isiV_d, isBB, isII, isSS, isLL, isTT, isDD, isB_fz, bop_add, bop_sub, bop_mul, bop_div, bop_mod, bop_pow, bop_shl, bop_shr, bop_and, bop_or, bop_xor, cop_eq, cop_ne, cop_eqS, cop_neS, cop_lt, cop_le, cop_gt, cop_ge, cop_is, bip_len, bip_abs, bip_intI, bip_intB, bip_tup, bip_lst, bip_repr, ixp_l, ixp_t, slp_dl, slp_l, slp_dt, atI_0, atI_1, atI_2, atI_cast, Es.len, asg_nm, asg_tp, asgs_nil, end0, end1, prep_nil, prep_fz, prep_tm, pickS, pickD, Hd.into, wipeL, List.map_nil, List.map_cons, List.nil_append, List.cons_append, List.length_nil, List.length_cons, List.getElem?_cons_zero, List.getElem?_cons_succ, List.getElem?_nil, List.set_cons_zero, List.set_cons_succ, List.replicate, Option.some.injEq, Prod.mk.injEq, exists_eq_left', exists_eq_left, exists_and_left, and_assoc, and_true, true_and, or_true, true_or, Nat.sub_self, Nat.reduceAdd, Nat.reduceSub, Nat.zero_add, Nat.reduceLT, Nat.lt_add_one, if_true, if_false, ite_true, ite_false, Bool.not_true, Bool.not_false, Bool.false_eq_true, Bool.true_eq_false, eq_self_iff_true, forall_const, true_implies, false_implies, implies_true, reduceCtorEq, and_false, false_and, false_or, or_false, Hd.fz.injEq, PyData.int.injEq, PyData.list.injEq, PyData.tuple.injEq, PyData.bool.injEq]
  exact hq
theorem k_exch (Φ : Fns) (h0 : Φ "gone_through" = F_gone) : bodyOk Φ F_exch 2 2 sh_exchanged_0 := by
  intro xs ds QQ XX hx hd hs
  obtain ⟨g, r, rfl, rfl, ok, hg, hr, hq⟩ := hs
  have e0 : F_exch.nio = 0 := rfl
  unfold sh_exchanged_0
  simp only [e0, h0, wSs, wS, wE, wA, wB, wT, wO, wI, endPt, ini, vw_fz, vw_tm, vw_sl, vws, dat_d, dat_l, dat_o, pvw_fz, pvw_fzL, pvw_mls, hd_fz, hd_fzL, hd_mls, kid_fz, kid_tm, kidsOf, frz_fz, frz_tm, frz_sl, kid_sl, frzs, setAll, toD_fzL, toD_mls, toD_fz, st_fz, st_tm, st_sl, seq_dl, seq_dt, seq_l, asL_dl, asL_l, asL_dt, asT_dt, asT_dl, asT_l, isiB_some, isiV_b, isiV_i, isiV_s, isiV_l, isiV_t, isiV_d, isBB, isII, isSS, isLL, isTT, isDD, isB_fz, bop_add, bop_sub, bop_mul, bop_div, bop_mod, bop_pow, bop_shl, bop_shr, bop_and, bop_or, bop_xor, cop_eq, cop_ne, cop_eqS, cop_neS, cop_lt, cop_le, cop_gt, cop_ge, cop_is, bip_len, bip_abs, bip_intI, bip_intB, bip_tup, bip_lst, bip_repr, ixp_l, ixp_t, slp_dl, slp_l, slp_dt, atI_0, atI_1, atI_2, atI_cast, Es.len, asg_nm, asg_tp, asgs_nil, end0, end1, prep_nil, prep_fz, prep_tm, pickS, pickD, Hd.into, wipeL, List.map_nil, List.map_cons, List.nil_append, List.cons_append, List.length_nil, List.length_cons, List.getElem?_cons_zero, List.getElem?_cons_succ, List.getElem?_nil, List.set_cons_zero, List.set_cons_succ, List.replicate, Option.some.injEq, Prod.mk.injEq, exists_eq_left', exists_eq_left, exists_and_left, and_assoc, and_true, true_and, or_true, true_or, Nat.sub_self, Nat.reduceAdd, Nat.reduceSub, Nat.zero_add, Nat.reduceLT, Nat.lt_add_one, if_true, if_false, ite_true, ite_false, Bool.not_true, Bool.not_false, Bool.false_eq_true, Bool.true_eq_false, eq_self_iff_true, forall_const, true_implies, false_implies, implies_true, reduceCtorEq, and_false, false_and, false_or, or_false, Hd.fz.injEq, PyData.int.injEq, PyData.list.injEq, PyData.tuple.injEq, PyData.bool.injEq]
  refine call_gone ok hg hr ?_
  simp only [e0, wSs, wS, wE, wA, wB, wT, wO, wI, endPt, ini, vw_fz, vw_tm, vw_sl, vws, dat_d, dat_l, dat_o, pvw_fz, pvw_fzL, pvw_mls, hd_fz, hd_fzL, hd_mls, kid_fz, kid_tm, kidsOf, frz_fz, frz_tm, frz_sl, kid_sl, frzs, setAll, toD_fzL, toD_mls, toD_fz, st_fz, st_tm, st_sl, seq_dl, seq_dt, seq_l, asL_dl, asL_l, asL_dt, asT_dt, asT_dl, asT_l, isiB_some, isiV_b, isiV_i, isiV_s, isiV_l, isiV_t, isiV_d, isBB, isII, isSS, isLL, isTT, isDD, isB_fz, bop_add, bop_sub, bop_mul, bop_div, bop_mod, bop_pow, bop_shl, bop_shr, bop_and, bop_or, bop_xor, cop_eq, cop_ne, cop_eqS, cop_neS, cop_lt, cop_le, cop_gt, cop_ge, cop_is, bip_len, bip_abs, bip_intI, bip_intB, bip_tup, bip_lst, bip_repr, ixp_l, ixp_t, slp_dl, slp_l, slp_dt, atI_0, atI_1, atI_2, atI_cast, Es.len, asg_nm, asg_tp, asgs_nil, end0, end1, prep_nil, prep_fz, prep_tm, pickS, pickD, Hd.into, wipeL, List.map_nil, List.map_cons, List.nil_append, List.cons_append, List.length_nil, List.length_cons, List.getElem?_cons_zero, List.getElem?_cons_succ, List.getElem?_nil, List.set_cons_zero, List.set_cons_succ, List.replicate, Option.some.injEq, Prod.mk.injEq, exists_eq_left', exists_eq_left, exists_and_left, and_assoc, and_true, true_and, or_true, true_or, Nat.sub_self, Nat.reduceAdd, Nat.reduceSub, Nat.zero_add, Nat.reduceLT, Nat.lt_add_one, if_true, if_false, ite_true, ite_false, Bool.not_true, Bool.not_false, Bool.false_eq_true, Bool.true_eq_false, eq_self_iff_true, forall_const, true_implies, false_implies, implies_true, reduceCtorEq, and_false, false_and, false_or, or_false, Hd.fz.injEq, PyData.int.injEq, PyData.list.injEq, PyData.tuple.injEq, PyData.bool.injEq]
  exact hq
theorem call_outN {g : Net} {r : List Int} {L : Lc} {Q : QE} {X : QX} (ok : NetOk r.length g) (hg : g.length ≤ 2000) (hr : r.length ≤ 1000) (q : Q (.fz (rowD (goK g r))) L) : callp F_out [0, 1] [.fz (netD g), .fz (rowD r)] L Q X := by
  refine ⟨[.dt (netD g), .dt (rowD r)], L, [], [netD g, rowD r], [], by simp [F_out, prep, Hd.frz], by simp [F_out, pickS], by simp [F_out, pickD], by simp, rfl, by simp [getAll], ?_⟩
  exact ⟨g, r, rfl, rfl, ok, hg, hr, rfl, q⟩
theorem call_cameN {g : Net} {r : List Int} {L : Lc} {Q : QE} {X : QX} (ok : NetOk r.length g) (hg : g.length ≤ 2000) (hr : r.length ≤ 1000) (q : Q (.fz (.tuple ((goP g r (List.range r.length)).map natD))) L) : callp F_came [0, 1] [.fz (netD g), .fz (rowD r)] L Q X := by
  refine ⟨[.dt (netD g), .dt (rowD r)], L, [], [netD g, rowD r], [], by simp [F_came, prep, Hd.frz], by simp [F_came, pickS], by simp [F_came, pickD], by simp, rfl, by simp [getAll], ?_⟩
  exact ⟨g, r, rfl, rfl, ok, hg, hr, rfl, q⟩
theorem call_exchN {g : Net} {r : List Int} {L : Lc} {Q : QE} {X : QX} (ok : NetOk r.length g) (hg : g.length ≤ 2000) (hr : r.length ≤ 1000) (q : Q (.fz (.tuple ((goS g 0 r).map natD))) L) : callp F_exch [0, 1] [.fz (netD g), .fz (rowD r)] L Q X := by
  refine ⟨[.dt (netD g), .dt (rowD r)], L, [], [netD g, rowD r], [], by simp [F_exch, prep, Hd.frz], by simp [F_exch, pickS], by simp [F_exch, pickD], by simp, rfl, by simp [getAll], ?_⟩
  exact ⟨g, r, rfl, rfl, ok, hg, hr, rfl, q⟩
end Tk

set_option Elab.async false
set_option linter.all false
set_option maxRecDepth 100000
set_option maxHeartbeats 0
namespace Tk
open PySem PySem.Spec PyProof.Rows L2
/-! ### comprehensions that draw from the well -/
theorem lc_wl {body : PyData → Lc → (Option PV → Lc → Prop) → Prop} {own : List Nat} {Q : List PV → Lc → Prop} (T : Option PV → Lc) (P : PyData → Prop) (hT : ∀ (w : PV) (a : Option PV), wipeL (some w :: T a) own = some w :: T none)
    {ds : List PyData} {w : PV} {a : Option PV} (hw : Well w) (hl : ds.length ≤ 100000)
    (step : ∀ d ∈ ds, ∀ w, Well w → ∀ R : Option PV → Lc → Prop, (∀ (w' : PV) (x : PyData) (b : Option PV), Well w' → P x → R (some (.fz x)) (some w' :: T b)) → body d (some w :: T none) R)
    (fin : ∀ (w' : PV) (xs : List PyData) (b : Option PV), Well w' → xs.length = ds.length → (∀ x ∈ xs, P x) → Q (xs.map .fz) (some w' :: T b)) : lcRun body own ds [] (some w :: T a) Q := by
  refine lcRun_ind (fun rest acc L => ∃ (w : PV) (xs : List PyData) (b : Option PV), Well w ∧ (∀ d ∈ rest, d ∈ ds) ∧ acc = xs.map .fz ∧ xs.length + rest.length = ds.length ∧ (∀ x ∈ xs, P x) ∧ L = some w :: T b) (fun d rest acc L R hJ hR => ?_) (fun acc L hJ => ?_) ds [] _ ⟨w, [], a, hw, fun _ h => h, rfl, by simp, by simp, rfl⟩
  · obtain ⟨w, xs, b, hw, hd, rfl, hl2, hp, rfl⟩ := hJ
    rw [hT]
    refine step d (hd d (List.mem_cons_self ..)) w hw _ fun w' x c hw' hx => ⟨sz_ls (by simp at hl2 ⊢; omega), hR _ _ ⟨w', xs ++ [x], c, hw', fun d hd' => hd d (List.mem_cons_of_mem _ hd'), by simp, by simp at hl2 ⊢; omega, fun y hy => ?_, rfl⟩⟩
    rcases List.mem_append.mp hy with h | h
    · exact hp y h
    · rw [List.mem_singleton.mp h]; exact hx
  · obtain ⟨w, xs, b, hw, hd, rfl, hl2, hp, rfl⟩ := hJ
    exact fin w xs b hw (by simpa using hl2) hp
theorem ints_of {Z : Int → Prop} : ∀ {xs : List PyData}, (∀ x ∈ xs, ∃ i, x = .int i ∧ Z i) → ∃ r : List Int, xs = r.map .int ∧ ∀ i ∈ r, Z i
  | [], _ => ⟨[], rfl, by simp⟩
  | x :: xs, h => by
    obtain ⟨i, rfl, hi⟩ := h x (List.mem_cons_self ..)
    obtain ⟨r, rfl, hr⟩ := ints_of fun y hy => h y (List.mem_cons_of_mem _ hy)
    exact ⟨i :: r, rfl, fun j hj => by
      rcases List.mem_cons.mp hj with rfl | hj
      · exact hi
      · exact hr j hj⟩
def sh_l_mixed_2 : Ss := .cons (.exp (.app (.nm 3) (.popi (.nm 2) (.call "_law_draw" (.cons (.nm 0) (.cons (.bi .len (.cons (.nm 2) .nil)) .nil)) [] [0, 1])))) .nil
def sh_l_mixed_3 : Ss := .cons (.ret (.nm 3)) .nil
def sh_l_mixed_1 : Ss := .cons (.whl (.nen (.nm 2) true) sh_l_mixed_2) sh_l_mixed_3
def sh_l_mixed_0 : Ss := .cons (.par [2, 3] (.cons (.bi .list1 (.cons (.nm 1) .nil)) (.cons (.lst .nil) .nil))) sh_l_mixed_1
def sh_l_row_2 : Ss := .cons (.ret (.bi .tuple1 (.cons (.lc (.call "_law_draw" (.cons (.nm 0) (.cons (.cst (.int 2)) .nil)) [] [0, 1]) (.nm 4) (.rg1 (.nm 1)) .nil [("p", 4)]) .nil))) .nil
def sh_l_row_4 : Ss := .cons (.ret (.bi .tuple1 (.cons (.lc (.call "_law_pick" (.cons (.nm 0) (.cons (.lst (.cons (.bin .Pow (.cst (.int 10)) (.cst (.int 12))) (.cons (.neg (.bin .Pow (.cst (.int 10)) (.cst (.int 12)))) (.cons (.cst (.int 0)) (.cons (.cst (.int 1)) (.cons (.bin .Sub (.bin .Pow (.cst (.int 10)) (.cst (.int 12))) (.cst (.int 1))) .nil)))))) .nil)) [] [0, 1]) (.nm 4) (.rg1 (.nm 1)) .nil [("p", 4)]) .nil))) .nil
def sh_l_row_6 : Ss := .cons (.ret (.bi .tuple1 (.cons (.call "_law_mixed" (.cons (.nm 0) (.cons (.lrg (.rg1 (.nm 1))) .nil)) [] [0, 1]) .nil))) .nil
def sh_l_row_8 : Ss := .cons (.ret (.bi .tuple1 (.cons (.lc (.bin .Mult (.call "_law_pick" (.cons (.nm 0) (.cons (.lst (.cons (.cst (.int 1)) (.cons (.neg (.cst (.int 1))) .nil))) .nil)) [] [0, 1]) (.call "_law_draw" (.cons (.nm 0) (.cons (.bin .Add (.bin .Pow (.cst (.int 10)) (.cst (.int 12))) (.cst (.int 1))) .nil)) [] [0, 1])) (.nm 4) (.rg1 (.nm 1)) .nil [("p", 4)]) .nil))) .nil
def sh_l_row_11 : Ss := .cons (.ret (.bi .tuple1 (.cons (.bi .sorted1 (.cons (.nm 3) .nil)) .nil))) .nil
def sh_l_row_12 : Ss := .cons (.ret (.ite (.cmp .Eq (.nm 2) (.cst (.int 5))) (.bi .tuple1 (.cons (.rev (.bi .sorted1 (.cons (.nm 3) .nil))) .nil)) (.bi .tuple1 (.cons (.nm 3) .nil)))) .nil
def sh_l_row_10 : Ss := .cons (.ite (.cmp .Eq (.nm 2) (.cst (.int 4))) sh_l_row_11 .nil) sh_l_row_12
def sh_l_row_9 : Ss := .cons (.set 3 (.lc (.bin .Sub (.call "_law_draw" (.cons (.nm 0) (.cons (.bin .Add (.cst (.int 3)) (.call "_law_draw" (.cons (.nm 0) (.cons (.cst (.int 3)) .nil)) [] [0, 1])) .nil)) [] [0, 1]) (.cst (.int 1))) (.nm 4) (.rg1 (.nm 1)) .nil [("p", 4)])) sh_l_row_10
def sh_l_row_7 : Ss := .cons (.ite (.cmp .Eq (.nm 2) (.cst (.int 3))) sh_l_row_8 .nil) sh_l_row_9
def sh_l_row_5 : Ss := .cons (.ite (.cmp .Eq (.nm 2) (.cst (.int 2))) sh_l_row_6 .nil) sh_l_row_7
def sh_l_row_3 : Ss := .cons (.ite (.cmp .Eq (.nm 2) (.cst (.int 1))) sh_l_row_4 .nil) sh_l_row_5
def sh_l_row_1 : Ss := .cons (.ite (.cmp .Eq (.nm 2) (.cst (.int 0))) sh_l_row_2 .nil) sh_l_row_3
def sh_l_row_0 : Ss := .cons (.set 2 (.call "_law_draw" (.cons (.nm 0) (.cons (.cst (.int 8)) .nil)) [] [0, 1])) sh_l_row_1
def sh_l_net_5 : Ss := .cons (.exp (.app (.nm 5) (.tup (.cons (.nm 6) (.cons (.bin .Add (.nm 6) (.cst (.int 1))) .nil))))) .nil
def sh_l_net_7 : Ss := .cons (.exp (.ext (.nm 5) (.lc (.tup (.cons (.nm 7) (.cons (.bin .Add (.nm 7) (.cst (.int 1))) .nil))) (.nm 7) (.rg1 (.bin .Sub (.nm 1) (.cst (.int 1)))) .nil [("p", 7)]))) .nil
def sh_l_net_9 : Ss := .cons (.exp (.ext (.nm 5) (.bin .Mult (.lst (.cons (.tup (.cons (.nm 6) (.cons (.bin .Sub (.nm 1) (.cst (.int 1))) .nil))) .nil)) (.cst (.int 2))))) .nil
def sh_l_net_10 : Ss := .cons (.exp (.app (.nm 5) (.tup (.cons (.nm 6) (.cons (.bin .Add (.bin .Add (.nm 6) (.cst (.int 1))) (.call "_law_draw" (.cons (.nm 0) (.cons (.bin .Sub (.bin .Sub (.nm 1) (.cst (.int 1))) (.nm 6)) .nil)) [] [0, 1])) .nil))))) .nil
def sh_l_net_8 : Ss := .cons (.ite (.cmp .Eq (.nm 4) (.cst (.int 3))) sh_l_net_9 sh_l_net_10) .nil
def sh_l_net_6 : Ss := .cons (.ite (.cmp .Eq (.nm 4) (.cst (.int 2))) sh_l_net_7 sh_l_net_8) .nil
def sh_l_net_4 : Ss := .cons (.ite (.cmp .Lt (.nm 4) (.cst (.int 2))) sh_l_net_5 sh_l_net_6) .nil
def sh_l_net_3 : Ss := .cons (.set 6 (.call "_law_draw" (.cons (.nm 0) (.cons (.bin .Sub (.nm 1) (.cst (.int 1))) .nil)) [] [0, 1])) sh_l_net_4
def sh_l_net_11 : Ss := .cons (.ret (.bi .tuple1 (.cons (.sl (.nm 5) .nil (.cons (.nm 3) .nil)) .nil))) .nil
def sh_l_net_2 : Ss := .cons (.whl (.cmp .Lt (.bi .len (.cons (.nm 5) .nil)) (.nm 3)) sh_l_net_3) sh_l_net_11
def sh_l_net_1 : Ss := .cons (.set 3 (.call "_law_draw" (.cons (.nm 0) (.cons (.bin .Add (.nm 2) (.cst (.int 1))) .nil)) [] [0, 1])) sh_l_net_2
def sh_l_net_0 : Ss := .cons (.par [4, 5] (.cons (.call "_law_draw" (.cons (.nm 0) (.cons (.cst (.int 7)) .nil)) [] [0, 1]) (.cons (.lst .nil) .nil))) sh_l_net_1
def sh_l_run_4 : Ss := .cons (.exp (.app (.nm 3) (.nm 4))) .nil
def sh_l_run_3 : Ss := .cons (.sst2 (.nm 2) (.nm 5) (.nm 2) (.nm 6) (.tup (.cons (.ix (.nm 2) (.nm 6)) (.cons (.ix (.nm 2) (.nm 5)) .nil)))) sh_l_run_4
def sh_l_run_2 : Ss := .cons (.ite (.cmp .Gt (.ix (.ix (.nm 2) (.nm 5)) (.cst (.int 0))) (.ix (.ix (.nm 2) (.nm 6)) (.cst (.int 0)))) sh_l_run_3 .nil) .nil
def sh_l_run_5 : Ss := .cons (.ret (.tup (.cons (.bi .tuple1 (.cons (.lc (.nm 8) (.tp (.cons (.nm 8) (.cons (.nm 7) .nil))) (.val (.nm 2)) .nil [("key", 8), ("place", 7)]) .nil)) (.cons (.bi .tuple1 (.cons (.lc (.nm 7) (.tp (.cons (.nm 8) (.cons (.nm 7) .nil))) (.val (.nm 2)) .nil [("key", 8), ("place", 7)]) .nil)) (.cons (.bi .tuple1 (.cons (.nm 3) .nil)) .nil))))) .nil
def sh_l_run_1 : Ss := .cons (.for (.tp (.cons (.nm 4) (.cons (.tp (.cons (.nm 5) (.cons (.nm 6) .nil))) .nil))) (.enu (.nm 0)) sh_l_run_2) sh_l_run_5
def sh_l_run_0 : Ss := .cons (.par [2, 3] (.cons (.lc (.tup (.cons (.nm 8) (.cons (.nm 7) .nil))) (.tp (.cons (.nm 7) (.cons (.nm 8) .nil))) (.enu (.nm 1)) .nil [("place", 7), ("key", 8)]) (.cons (.lst .nil) .nil))) sh_l_run_1
/-! ### all things in some order -/
theorem seqIx {n k : Nat} (h : k < n) : seqIndex? (k : Int) n = some k := by
  unfold seqIndex?
  simp
  omega
theorem perm_pick {α : Type} : ∀ {l : List α} {k : Nat} (h : k < l.length), l.Perm (l[k] :: l.eraseIdx k)
  | x :: l, 0, h => List.Perm.refl _
  | x :: l, k + 1, h => by
    have := perm_pick (l := l) (k := k) (by simpa using h)
    exact (List.Perm.cons x this).trans (List.Perm.swap ..)
def F_mixed : Fn := ⟨1, fun xs ds Q _ => ∃ w v items, xs = [w] ∧ ds = [v] ∧ (v = .list items ∨ v = .tuple items) ∧ Well w ∧ items.length ≤ 1000 ∧ ∀ w' out, Well w' → out.Perm items → Q (.fz (.list out)) [w']⟩
theorem k_mixed (Φ : Fns) (h0 : Φ "_law_draw" = F_draw) : bodyOk Φ F_mixed 4 2 sh_l_mixed_0 := by
  intro xs ds QQ XX hx hd hs
  obtain ⟨w, v, items, rfl, rfl, hv, hw, hl, hq⟩ := hs
  have e0 : F_mixed.nio = 1 := rfl
  obtain ⟨ns, st, t, hns, rfl⟩ := id hw
  have go : wSs Φ sh_l_mixed_1 [some (wl ns st t), some (.fz v), some (.mls (items.map .fz)), some (.mls [])] (endPt 1 QQ XX) := by
    unfold sh_l_mixed_1
    rw [wSs]
    refine whl_ind (fun m L => ∃ (w : PV) (rest found : List PyData), Well w ∧ m = rest.length ∧ (found ++ rest).Perm items ∧ L = [some w, some (.fz v), some (.mls (rest.map .fz)), some (.mls (found.map .fz))]) _ ⟨_, items, [], hw, rfl, by simp, rfl⟩ ?_
    rintro m L N ⟨w, rest, found, hw, rfl, hp, rfl⟩ hN
    obtain ⟨ns, st, t, hns, rfl⟩ := id hw
    have hpl := hp.length_eq
    rw [List.length_append] at hpl
    simp only [e0, h0, wSs, wS, wE, wA, wB, wT, wO, wI, endPt, ini, vw_fz, vw_tm, vw_sl, vws, dat_d, dat_l, dat_o, pvw_fz, pvw_fzL, pvw_mls, hd_fz, hd_fzL, hd_mls, kid_fz, kid_tm, kidsOf, frz_fz, frz_tm, frz_sl, kid_sl, frzs, setAll, toD_fzL, toD_mls, toD_fz, st_fz, st_tm, st_sl, seq_dl, seq_dt, seq_l, asL_dl, asL_l, asL_dt, asT_dt, asT_dl, asT_l, isiB_some, isiV_b, isiV_i, isiV_s, isiV_l, isiV_t, isiV_d, isBB, isII, isSS, isLL, isTT, isDD, isB_fz, bop_add, bop_sub, bop_mul, bop_div, bop_mod, bop_pow, bop_shl, bop_shr, bop_and, bop_or, bop_xor, cop_eq, cop_ne, cop_eqS, cop_neS, cop_lt, cop_le, cop_gt, cop_ge, cop_is, bip_len, bip_abs, bip_intI, bip_intB, bip_tup, bip_lst, bip_repr, ixp_l, ixp_t, slp_dl, slp_l, slp_dt, atI_0, atI_1, atI_2, atI_cast, Es.len, asg_nm, asg_tp, asgs_nil, end0, end1, prep_nil, prep_fz, prep_tm, pickS, pickD, Hd.into, wipeL, List.map_nil, List.map_cons, List.nil_append, List.cons_append, List.length_nil, List.length_cons, List.getElem?_cons_zero, List.getElem?_cons_succ, List.getElem?_nil, List.set_cons_zero, List.set_cons_succ, List.replicate, Option.some.injEq, Prod.mk.injEq, exists_eq_left', exists_eq_left, exists_and_left, and_assoc, and_true, true_and, or_true, true_or, Nat.sub_self, Nat.reduceAdd, Nat.reduceSub, Nat.zero_add, Nat.reduceLT, Nat.lt_add_one, if_true, if_false, ite_true, ite_false, Bool.not_true, Bool.not_false, Bool.false_eq_true, Bool.true_eq_false, eq_self_iff_true, forall_const, true_implies, false_implies, implies_true, reduceCtorEq, and_false, false_and, false_or, or_false, Hd.fz.injEq, PyData.int.injEq, PyData.list.injEq, PyData.tuple.injEq, PyData.bool.injEq]
    refine ⟨fun c1 => ?_, fun c1 => ?_⟩
    · have hne : 0 < rest.length := by
        cases rest with
        | nil => simp at c1
        | cons _ _ => simp
      unfold sh_l_mixed_2
      simp only [e0, h0, wSs, wS, wE, wA, wB, wT, wO, wI, endPt, ini, vw_fz, vw_tm, vw_sl, vws, dat_d, dat_l, dat_o, pvw_fz, pvw_fzL, pvw_mls, hd_fz, hd_fzL, hd_mls, kid_fz, kid_tm, kidsOf, frz_fz, frz_tm, frz_sl, kid_sl, frzs, setAll, toD_fzL, toD_mls, toD_fz, st_fz, st_tm, st_sl, seq_dl, seq_dt, seq_l, asL_dl, asL_l, asL_dt, asT_dt, asT_dl, asT_l, isiB_some, isiV_b, isiV_i, isiV_s, isiV_l, isiV_t, isiV_d, isBB, isII, isSS, isLL, isTT, isDD, isB_fz, bop_add, bop_sub, bop_mul, bop_div, bop_mod, bop_pow, bop_shl, bop_shr, bop_and, bop_or, bop_xor, cop_eq, cop_ne, cop_eqS, cop_neS, cop_lt, cop_le, cop_gt, cop_ge, cop_is, bip_len, bip_abs, bip_intI, bip_intB, bip_tup, bip_lst, bip_repr, ixp_l, ixp_t, slp_dl, slp_l, slp_dt, atI_0, atI_1, atI_2, atI_cast, Es.len, asg_nm, asg_tp, asgs_nil, end0, end1, prep_nil, prep_fz, prep_tm, pickS, pickD, Hd.into, wipeL, List.map_nil, List.map_cons, List.nil_append, List.cons_append, List.length_nil, List.length_cons, List.getElem?_cons_zero, List.getElem?_cons_succ, List.getElem?_nil, List.set_cons_zero, List.set_cons_succ, List.replicate, Option.some.injEq, Prod.mk.injEq, exists_eq_left', exists_eq_left, exists_and_left, and_assoc, and_true, true_and, or_true, true_or, Nat.sub_self, Nat.reduceAdd, Nat.reduceSub, Nat.zero_add, Nat.reduceLT, Nat.lt_add_one, if_true, if_false, ite_true, ite_false, Bool.not_true, Bool.not_false, Bool.false_eq_true, Bool.true_eq_false, eq_self_iff_true, forall_const, true_implies, false_implies, implies_true, reduceCtorEq, and_false, false_and, false_or, or_false, Hd.fz.injEq, PyData.int.injEq, PyData.list.injEq, PyData.tuple.injEq, PyData.bool.injEq]
      refine ⟨by simp [Hd.isL, at_sl], by simp [Hd.isL, at_sl], call_draw hw rfl (by omega) fun w2 r hw2 g1 g2 => ?_⟩
      obtain ⟨k, rfl⟩ := Int.eq_ofNat_of_zero_le g1
      have hk : k < rest.length := by omega
      refine ⟨2, [], rfl, rest, by rw [at_sl]; rfl, (k : Int), rfl, by omega, by omega, k, seqIx hk, rest[k], List.getElem?_eq_getElem hk, 3, [], rfl, found.map .fz, ?_, ?_, ?_⟩
      · rw [setAt_sl (i := 2) (x := .mls (rest.map .fz)) rfl, at_sl]; rfl
      · rw [List.length_map]; exact sz_ls (by have := hpl; omega)
      · rw [setAt_sl (i := 2) (x := .mls (rest.map .fz)) rfl, setAt_sl (i := 3) (x := .mls (found.map .fz)) rfl]
        refine hN (rest.length - 1) _ (by omega) ⟨w2, rest.eraseIdx k, found ++ [rest[k]], hw2, (List.length_eraseIdx_of_lt hk).symm, ?_, ?_⟩
        · rw [List.append_assoc]
          refine (List.Perm.append_left _ ?_).trans hp
          exact (perm_pick hk).symm
        · rw [List.map_append]; rfl
    · have hr : rest = [] := by
        cases rest with
        | nil => rfl
        | cons _ _ => simp at c1
      subst hr
      unfold sh_l_mixed_3
      simp only [e0, h0, wSs, wS, wE, wA, wB, wT, wO, wI, endPt, ini, vw_fz, vw_tm, vw_sl, vws, dat_d, dat_l, dat_o, pvw_fz, pvw_fzL, pvw_mls, hd_fz, hd_fzL, hd_mls, kid_fz, kid_tm, kidsOf, frz_fz, frz_tm, frz_sl, kid_sl, frzs, setAll, toD_fzL, toD_mls, toD_fz, st_fz, st_tm, st_sl, seq_dl, seq_dt, seq_l, asL_dl, asL_l, asL_dt, asT_dt, asT_dl, asT_l, isiB_some, isiV_b, isiV_i, isiV_s, isiV_l, isiV_t, isiV_d, isBB, isII, isSS, isLL, isTT, isDD, isB_fz, bop_add, bop_sub, bop_mul, bop_div, bop_mod, bop_pow, bop_shl, bop_shr, bop_and, bop_or, bop_xor, cop_eq, cop_ne, cop_eqS, cop_neS, cop_lt, cop_le, cop_gt, cop_ge, cop_is, bip_len, bip_abs, bip_intI, bip_intB, bip_tup, bip_lst, bip_repr, ixp_l, ixp_t, slp_dl, slp_l, slp_dt, atI_0, atI_1, atI_2, atI_cast, Es.len, asg_nm, asg_tp, asgs_nil, end0, end1, prep_nil, prep_fz, prep_tm, pickS, pickD, Hd.into, wipeL, List.map_nil, List.map_cons, List.nil_append, List.cons_append, List.length_nil, List.length_cons, List.getElem?_cons_zero, List.getElem?_cons_succ, List.getElem?_nil, List.set_cons_zero, List.set_cons_succ, List.replicate, Option.some.injEq, Prod.mk.injEq, exists_eq_left', exists_eq_left, exists_and_left, and_assoc, and_true, true_and, or_true, true_or, Nat.sub_self, Nat.reduceAdd, Nat.reduceSub, Nat.zero_add, Nat.reduceLT, Nat.lt_add_one, if_true, if_false, ite_true, ite_false, Bool.not_true, Bool.not_false, Bool.false_eq_true, Bool.true_eq_false, eq_self_iff_true, forall_const, true_implies, false_implies, implies_true, reduceCtorEq, and_false, false_and, false_or, or_false, Hd.fz.injEq, PyData.int.injEq, PyData.list.injEq, PyData.tuple.injEq, PyData.bool.injEq]
      exact hq _ _ hw (by simpa using hp)
  unfold sh_l_mixed_0
  rcases hv with rfl | rfl
  · simp only [e0, h0, wSs, wS, wE, wA, wB, wT, wO, wI, endPt, ini, vw_fz, vw_tm, vw_sl, vws, dat_d, dat_l, dat_o, pvw_fz, pvw_fzL, pvw_mls, hd_fz, hd_fzL, hd_mls, kid_fz, kid_tm, kidsOf, frz_fz, frz_tm, frz_sl, kid_sl, frzs, setAll, toD_fzL, toD_mls, toD_fz, st_fz, st_tm, st_sl, seq_dl, seq_dt, seq_l, asL_dl, asL_l, asL_dt, asT_dt, asT_dl, asT_l, isiB_some, isiV_b, isiV_i, isiV_s, isiV_l, isiV_t, isiV_d, isBB, isII, isSS, isLL, isTT, isDD, isB_fz, bop_add, bop_sub, bop_mul, bop_div, bop_mod, bop_pow, bop_shl, bop_shr, bop_and, bop_or, bop_xor, cop_eq, cop_ne, cop_eqS, cop_neS, cop_lt, cop_le, cop_gt, cop_ge, cop_is, bip_len, bip_abs, bip_intI, bip_intB, bip_tup, bip_lst, bip_repr, ixp_l, ixp_t, slp_dl, slp_l, slp_dt, atI_0, atI_1, atI_2, atI_cast, Es.len, asg_nm, asg_tp, asgs_nil, end0, end1, prep_nil, prep_fz, prep_tm, pickS, pickD, Hd.into, wipeL, List.map_nil, List.map_cons, List.nil_append, List.cons_append, List.length_nil, List.length_cons, List.getElem?_cons_zero, List.getElem?_cons_succ, List.getElem?_nil, List.set_cons_zero, List.set_cons_succ, List.replicate, Option.some.injEq, Prod.mk.injEq, exists_eq_left', exists_eq_left, exists_and_left, and_assoc, and_true, true_and, or_true, true_or, Nat.sub_self, Nat.reduceAdd, Nat.reduceSub, Nat.zero_add, Nat.reduceLT, Nat.lt_add_one, if_true, if_false, ite_true, ite_false, Bool.not_true, Bool.not_false, Bool.false_eq_true, Bool.true_eq_false, eq_self_iff_true, forall_const, true_implies, false_implies, implies_true, reduceCtorEq, and_false, false_and, false_or, or_false, Hd.fz.injEq, PyData.int.injEq, PyData.list.injEq, PyData.tuple.injEq, PyData.bool.injEq]
    exact ⟨by decide, by simp, go⟩
  · simp only [e0, h0, wSs, wS, wE, wA, wB, wT, wO, wI, endPt, ini, vw_fz, vw_tm, vw_sl, vws, dat_d, dat_l, dat_o, pvw_fz, pvw_fzL, pvw_mls, hd_fz, hd_fzL, hd_mls, kid_fz, kid_tm, kidsOf, frz_fz, frz_tm, frz_sl, kid_sl, frzs, setAll, toD_fzL, toD_mls, toD_fz, st_fz, st_tm, st_sl, seq_dl, seq_dt, seq_l, asL_dl, asL_l, asL_dt, asT_dt, asT_dl, asT_l, isiB_some, isiV_b, isiV_i, isiV_s, isiV_l, isiV_t, isiV_d, isBB, isII, isSS, isLL, isTT, isDD, isB_fz, bop_add, bop_sub, bop_mul, bop_div, bop_mod, bop_pow, bop_shl, bop_shr, bop_and, bop_or, bop_xor, cop_eq, cop_ne, cop_eqS, cop_neS, cop_lt, cop_le, cop_gt, cop_ge, cop_is, bip_len, bip_abs, bip_intI, bip_intB, bip_tup, bip_lst, bip_repr, ixp_l, ixp_t, slp_dl, slp_l, slp_dt, atI_0, atI_1, atI_2, atI_cast, Es.len, asg_nm, asg_tp, asgs_nil, end0, end1, prep_nil, prep_fz, prep_tm, pickS, pickD, Hd.into, wipeL, List.map_nil, List.map_cons, List.nil_append, List.cons_append, List.length_nil, List.length_cons, List.getElem?_cons_zero, List.getElem?_cons_succ, List.getElem?_nil, List.set_cons_zero, List.set_cons_succ, List.replicate, Option.some.injEq, Prod.mk.injEq, exists_eq_left', exists_eq_left, exists_and_left, and_assoc, and_true, true_and, or_true, true_or, Nat.sub_self, Nat.reduceAdd, Nat.reduceSub, Nat.zero_add, Nat.reduceLT, Nat.lt_add_one, if_true, if_false, ite_true, ite_false, Bool.not_true, Bool.not_false, Bool.false_eq_true, Bool.true_eq_false, eq_self_iff_true, forall_const, true_implies, false_implies, implies_true, reduceCtorEq, and_false, false_and, false_or, or_false, Hd.fz.injEq, PyData.int.injEq, PyData.list.injEq, PyData.tuple.injEq, PyData.bool.injEq]
    exact ⟨by decide, by simp, go⟩

/-! ### rows -/
def big : Int := 1000000000000
def RowOk (r : List Int) : Prop := ∀ x ∈ r, -big ≤ x ∧ x ≤ big
theorem call_mixed {i : Nat} {w : PV} {v : PyData} {items : List PyData} {L : Lc} {Q : QE} {X : QX} {h : Hd} (hw : Well w) (hL : L[i]? = some (some w)) (hf : h.frz L = some (v, L)) (hv : v = .list items ∨ v = .tuple items) (hl : items.length ≤ 1000)
    (q : ∀ w' out, Well w' → out.Perm items → Q (.fz (.list out)) (L.set i (some w'))) : callp F_mixed [0, 1] [.pl i [], h] L Q X := by
  refine ⟨[.sl i, .dt v], L, [i], [v], [w], by simp [F_mixed, prep, hf], by simp [F_mixed, pickS], by simp [F_mixed, pickD], by simp, rfl, by simp [getAll, hL], ?_⟩
  exact ⟨w, v, items, rfl, rfl, hv, hw, hl, fun w' out h1 h2 => ⟨rfl, by simpa [PV.hd, setAll] using q w' out h1 h2⟩⟩
theorem frz_tms {L : Lc} (ds : List PyData) : Hd.frz L (.tm (.mls (ds.map .fz))) = some (.list ds, L) := by rw [frz_tm, toD_mls]
theorem cp12 : CPow 10 12 := ⟨by decide, by decide, by decide⟩
theorem rg_mem {n : Nat} {x : PyData} (h : x ∈ rgD 0 n) : ∃ k : Nat, k < n ∧ x = .int k := by
  rw [rg_range] at h
  obtain ⟨k, hk, rfl⟩ := List.mem_map.mp h
  exact ⟨k, List.mem_range.mp hk, rfl⟩
def F_row : Fn := ⟨1, fun xs ds Q _ => ∃ (w : PV) (n : Nat), xs = [w] ∧ ds = [.int n] ∧ Well w ∧ 1 ≤ n ∧ n ≤ 24 ∧ ∀ (w' : PV) (r : List Int), Well w' → r.length = n → RowOk r → Q (.fz (rowD r)) [w']⟩
theorem k_row (Φ : Fns) (h0 : Φ "_law_draw" = F_draw) (h1 : Φ "_law_pick" = F_pick) (h2 : Φ "_law_mixed" = F_mixed) : bodyOk Φ F_row 5 2 sh_l_row_0 := by
  intro xs ds QQ XX hx hd hs
  obtain ⟨w, n, rfl, rfl, hw, hn1, hn2, hq⟩ := hs
  have e0 : F_row.nio = 1 := rfl
  have hB : (10 : Int) ^ Int.toNat 12 = big := by decide
  obtain ⟨ns, st, t, hns, rfl⟩ := id hw
  unfold sh_l_row_0
  simp only [e0, h0, wSs, wS, wE, wA, wB, wT, wO, wI, endPt, ini, vw_fz, vw_tm, vw_sl, vws, dat_d, dat_l, dat_o, pvw_fz, pvw_fzL, pvw_mls, hd_fz, hd_fzL, hd_mls, kid_fz, kid_tm, kidsOf, frz_fz, frz_tm, frz_sl, kid_sl, frzs, setAll, toD_fzL, toD_mls, toD_fz, st_fz, st_tm, st_sl, seq_dl, seq_dt, seq_l, asL_dl, asL_l, asL_dt, asT_dt, asT_dl, asT_l, isiB_some, isiV_b, isiV_i, isiV_s, isiV_l, isiV_t, isiV_d, isBB, isII, isSS, isLL, isTT, isDD, isB_fz, bop_add, bop_sub, bop_mul, bop_div, bop_mod, bop_pow, bop_shl, bop_shr, bop_and, bop_or, bop_xor, cop_eq, cop_ne, cop_eqS, cop_neS, cop_lt, cop_le, cop_gt, cop_ge, cop_is, bip_len, bip_abs, bip_intI, bip_intB, bip_tup, bip_lst, bip_repr, ixp_l, ixp_t, slp_dl, slp_l, slp_dt, atI_0, atI_1, atI_2, atI_cast, Es.len, asg_nm, asg_tp, asgs_nil, end0, end1, prep_nil, prep_fz, prep_tm, pickS, pickD, Hd.into, wipeL, List.map_nil, List.map_cons, List.nil_append, List.cons_append, List.length_nil, List.length_cons, List.getElem?_cons_zero, List.getElem?_cons_succ, List.getElem?_nil, List.set_cons_zero, List.set_cons_succ, List.replicate, Option.some.injEq, Prod.mk.injEq, exists_eq_left', exists_eq_left, exists_and_left, and_assoc, and_true, true_and, or_true, true_or, Nat.sub_self, Nat.reduceAdd, Nat.reduceSub, Nat.zero_add, Nat.reduceLT, Nat.lt_add_one, if_true, if_false, ite_true, ite_false, Bool.not_true, Bool.not_false, Bool.false_eq_true, Bool.true_eq_false, eq_self_iff_true, forall_const, true_implies, false_implies, implies_true, reduceCtorEq, and_false, false_and, false_or, or_false, Hd.fz.injEq, PyData.int.injEq, PyData.list.injEq, PyData.tuple.injEq, PyData.bool.injEq]
  refine call_draw hw rfl (by omega) fun w1 way hw1 _ _ => ?_
  obtain ⟨ns1, st1, t1, hns1, rfl⟩ := id hw1
  simp only [e0, wSs, wS, wE, wA, wB, wT, wO, wI, endPt, ini, vw_fz, vw_tm, vw_sl, vws, dat_d, dat_l, dat_o, pvw_fz, pvw_fzL, pvw_mls, hd_fz, hd_fzL, hd_mls, kid_fz, kid_tm, kidsOf, frz_fz, frz_tm, frz_sl, kid_sl, frzs, setAll, toD_fzL, toD_mls, toD_fz, st_fz, st_tm, st_sl, seq_dl, seq_dt, seq_l, asL_dl, asL_l, asL_dt, asT_dt, asT_dl, asT_l, isiB_some, isiV_b, isiV_i, isiV_s, isiV_l, isiV_t, isiV_d, isBB, isII, isSS, isLL, isTT, isDD, isB_fz, bop_add, bop_sub, bop_mul, bop_div, bop_mod, bop_pow, bop_shl, bop_shr, bop_and, bop_or, bop_xor, cop_eq, cop_ne, cop_eqS, cop_neS, cop_lt, cop_le, cop_gt, cop_ge, cop_is, bip_len, bip_abs, bip_intI, bip_intB, bip_tup, bip_lst, bip_repr, ixp_l, ixp_t, slp_dl, slp_l, slp_dt, atI_0, atI_1, atI_2, atI_cast, Es.len, asg_nm, asg_tp, asgs_nil, end0, end1, prep_nil, prep_fz, prep_tm, pickS, pickD, Hd.into, wipeL, List.map_nil, List.map_cons, List.nil_append, List.cons_append, List.length_nil, List.length_cons, List.getElem?_cons_zero, List.getElem?_cons_succ, List.getElem?_nil, List.set_cons_zero, List.set_cons_succ, List.replicate, Option.some.injEq, Prod.mk.injEq, exists_eq_left', exists_eq_left, exists_and_left, and_assoc, and_true, true_and, or_true, true_or, Nat.sub_self, Nat.reduceAdd, Nat.reduceSub, Nat.zero_add, Nat.reduceLT, Nat.lt_add_one, if_true, if_false, ite_true, ite_false, Bool.not_true, Bool.not_false, Bool.false_eq_true, Bool.true_eq_false, eq_self_iff_true, forall_const, true_implies, false_implies, implies_true, reduceCtorEq, and_false, false_and, false_or, or_false, Hd.fz.injEq, PyData.int.injEq, PyData.list.injEq, PyData.tuple.injEq, PyData.bool.injEq]
  have hrg : (rgD 0 ((n : Int)).toNat).length = n := by rw [rgD, rgI_len]; rfl
  have fin : ∀ (w' : PV) (xs : List PyData), Well w' → xs.length = n → (∀ x ∈ xs, ∃ i : Int, x = .int i ∧ (-big ≤ i ∧ i ≤ big)) → QQ (.fz (.tuple xs)) [w'] := fun w' xs h1 h2 h3 => by
    obtain ⟨r, rfl, hr⟩ := ints_of h3
    exact hq w' r h1 (by simpa using h2) hr
  unfold sh_l_row_1
  simp only [e0, h0, wSs, wS, wE, wA, wB, wT, wO, wI, endPt, ini, vw_fz, vw_tm, vw_sl, vws, dat_d, dat_l, dat_o, pvw_fz, pvw_fzL, pvw_mls, hd_fz, hd_fzL, hd_mls, kid_fz, kid_tm, kidsOf, frz_fz, frz_tm, frz_sl, kid_sl, frzs, setAll, toD_fzL, toD_mls, toD_fz, st_fz, st_tm, st_sl, seq_dl, seq_dt, seq_l, asL_dl, asL_l, asL_dt, asT_dt, asT_dl, asT_l, isiB_some, isiV_b, isiV_i, isiV_s, isiV_l, isiV_t, isiV_d, isBB, isII, isSS, isLL, isTT, isDD, isB_fz, bop_add, bop_sub, bop_mul, bop_div, bop_mod, bop_pow, bop_shl, bop_shr, bop_and, bop_or, bop_xor, cop_eq, cop_ne, cop_eqS, cop_neS, cop_lt, cop_le, cop_gt, cop_ge, cop_is, bip_len, bip_abs, bip_intI, bip_intB, bip_tup, bip_lst, bip_repr, ixp_l, ixp_t, slp_dl, slp_l, slp_dt, atI_0, atI_1, atI_2, atI_cast, Es.len, asg_nm, asg_tp, asgs_nil, end0, end1, prep_nil, prep_fz, prep_tm, pickS, pickD, Hd.into, wipeL, List.map_nil, List.map_cons, List.nil_append, List.cons_append, List.length_nil, List.length_cons, List.getElem?_cons_zero, List.getElem?_cons_succ, List.getElem?_nil, List.set_cons_zero, List.set_cons_succ, List.replicate, Option.some.injEq, Prod.mk.injEq, exists_eq_left', exists_eq_left, exists_and_left, and_assoc, and_true, true_and, or_true, true_or, Nat.sub_self, Nat.reduceAdd, Nat.reduceSub, Nat.zero_add, Nat.reduceLT, Nat.lt_add_one, if_true, if_false, ite_true, ite_false, Bool.not_true, Bool.not_false, Bool.false_eq_true, Bool.true_eq_false, eq_self_iff_true, forall_const, true_implies, false_implies, implies_true, reduceCtorEq, and_false, false_and, false_or, or_false, Hd.fz.injEq, PyData.int.injEq, PyData.list.injEq, PyData.tuple.injEq, PyData.bool.injEq]
  refine ⟨fun c1 => ?_, fun c1 => ?_⟩
  · unfold sh_l_row_2
    simp only [e0, h0, wSs, wS, wE, wA, wB, wT, wO, wI, endPt, ini, vw_fz, vw_tm, vw_sl, vws, dat_d, dat_l, dat_o, pvw_fz, pvw_fzL, pvw_mls, hd_fz, hd_fzL, hd_mls, kid_fz, kid_tm, kidsOf, frz_fz, frz_tm, frz_sl, kid_sl, frzs, setAll, toD_fzL, toD_mls, toD_fz, st_fz, st_tm, st_sl, seq_dl, seq_dt, seq_l, asL_dl, asL_l, asL_dt, asT_dt, asT_dl, asT_l, isiB_some, isiV_b, isiV_i, isiV_s, isiV_l, isiV_t, isiV_d, isBB, isII, isSS, isLL, isTT, isDD, isB_fz, bop_add, bop_sub, bop_mul, bop_div, bop_mod, bop_pow, bop_shl, bop_shr, bop_and, bop_or, bop_xor, cop_eq, cop_ne, cop_eqS, cop_neS, cop_lt, cop_le, cop_gt, cop_ge, cop_is, bip_len, bip_abs, bip_intI, bip_intB, bip_tup, bip_lst, bip_repr, ixp_l, ixp_t, slp_dl, slp_l, slp_dt, atI_0, atI_1, atI_2, atI_cast, Es.len, asg_nm, asg_tp, asgs_nil, end0, end1, prep_nil, prep_fz, prep_tm, pickS, pickD, Hd.into, wipeL, List.map_nil, List.map_cons, List.nil_append, List.cons_append, List.length_nil, List.length_cons, List.getElem?_cons_zero, List.getElem?_cons_succ, List.getElem?_nil, List.set_cons_zero, List.set_cons_succ, List.replicate, Option.some.injEq, Prod.mk.injEq, exists_eq_left', exists_eq_left, exists_and_left, and_assoc, and_true, true_and, or_true, true_or, Nat.sub_self, Nat.reduceAdd, Nat.reduceSub, Nat.zero_add, Nat.reduceLT, Nat.lt_add_one, if_true, if_false, ite_true, ite_false, Bool.not_true, Bool.not_false, Bool.false_eq_true, Bool.true_eq_false, eq_self_iff_true, forall_const, true_implies, false_implies, implies_true, reduceCtorEq, and_false, false_and, false_or, or_false, Hd.fz.injEq, PyData.int.injEq, PyData.list.injEq, PyData.tuple.injEq, PyData.bool.injEq]
    refine ⟨by omega, by omega, by omega, ?_⟩
    refine lc_wl (fun a => [some (.fz (.int n)), some (.fz (.int way)), none, a]) (fun x => ∃ i : Int, x = .int i ∧ (-big ≤ i ∧ i ≤ big)) (fun w a => rfl) hw1 (by rw [hrg]; omega) (fun d hd w hw R hR => ?_) (fun w' xs b hw' hl hp => ?_)
    · obtain ⟨ns2, st2, t2, hns2, rfl⟩ := id hw
      refine ⟨_, rfl, ?_⟩
      simp only [e0, h0, wSs, wS, wE, wA, wB, wT, wO, wI, endPt, ini, vw_fz, vw_tm, vw_sl, vws, dat_d, dat_l, dat_o, pvw_fz, pvw_fzL, pvw_mls, hd_fz, hd_fzL, hd_mls, kid_fz, kid_tm, kidsOf, frz_fz, frz_tm, frz_sl, kid_sl, frzs, setAll, toD_fzL, toD_mls, toD_fz, st_fz, st_tm, st_sl, seq_dl, seq_dt, seq_l, asL_dl, asL_l, asL_dt, asT_dt, asT_dl, asT_l, isiB_some, isiV_b, isiV_i, isiV_s, isiV_l, isiV_t, isiV_d, isBB, isII, isSS, isLL, isTT, isDD, isB_fz, bop_add, bop_sub, bop_mul, bop_div, bop_mod, bop_pow, bop_shl, bop_shr, bop_and, bop_or, bop_xor, cop_eq, cop_ne, cop_eqS, cop_neS, cop_lt, cop_le, cop_gt, cop_ge, cop_is, bip_len, bip_abs, bip_intI, bip_intB, bip_tup, bip_lst, bip_repr, ixp_l, ixp_t, slp_dl, slp_l, slp_dt, atI_0, atI_1, atI_2, atI_cast, Es.len, asg_nm, asg_tp, asgs_nil, end0, end1, prep_nil, prep_fz, prep_tm, pickS, pickD, Hd.into, wipeL, List.map_nil, List.map_cons, List.nil_append, List.cons_append, List.length_nil, List.length_cons, List.getElem?_cons_zero, List.getElem?_cons_succ, List.getElem?_nil, List.set_cons_zero, List.set_cons_succ, List.replicate, Option.some.injEq, Prod.mk.injEq, exists_eq_left', exists_eq_left, exists_and_left, and_assoc, and_true, true_and, or_true, true_or, Nat.sub_self, Nat.reduceAdd, Nat.reduceSub, Nat.zero_add, Nat.reduceLT, Nat.lt_add_one, if_true, if_false, ite_true, ite_false, Bool.not_true, Bool.not_false, Bool.false_eq_true, Bool.true_eq_false, eq_self_iff_true, forall_const, true_implies, false_implies, implies_true, reduceCtorEq, and_false, false_and, false_or, or_false, Hd.fz.injEq, PyData.int.injEq, PyData.list.injEq, PyData.tuple.injEq, PyData.bool.injEq]
      refine call_draw hw rfl (by omega) fun w3 r hw3 g1 g2 => ?_
      simp only [e0, h0, wSs, wS, wE, wA, wB, wT, wO, wI, endPt, ini, vw_fz, vw_tm, vw_sl, vws, dat_d, dat_l, dat_o, pvw_fz, pvw_fzL, pvw_mls, hd_fz, hd_fzL, hd_mls, kid_fz, kid_tm, kidsOf, frz_fz, frz_tm, frz_sl, kid_sl, frzs, setAll, toD_fzL, toD_mls, toD_fz, st_fz, st_tm, st_sl, seq_dl, seq_dt, seq_l, asL_dl, asL_l, asL_dt, asT_dt, asT_dl, asT_l, isiB_some, isiV_b, isiV_i, isiV_s, isiV_l, isiV_t, isiV_d, isBB, isII, isSS, isLL, isTT, isDD, isB_fz, bop_add, bop_sub, bop_mul, bop_div, bop_mod, bop_pow, bop_shl, bop_shr, bop_and, bop_or, bop_xor, cop_eq, cop_ne, cop_eqS, cop_neS, cop_lt, cop_le, cop_gt, cop_ge, cop_is, bip_len, bip_abs, bip_intI, bip_intB, bip_tup, bip_lst, bip_repr, ixp_l, ixp_t, slp_dl, slp_l, slp_dt, atI_0, atI_1, atI_2, atI_cast, Es.len, asg_nm, asg_tp, asgs_nil, end0, end1, prep_nil, prep_fz, prep_tm, pickS, pickD, Hd.into, wipeL, List.map_nil, List.map_cons, List.nil_append, List.cons_append, List.length_nil, List.length_cons, List.getElem?_cons_zero, List.getElem?_cons_succ, List.getElem?_nil, List.set_cons_zero, List.set_cons_succ, List.replicate, Option.some.injEq, Prod.mk.injEq, exists_eq_left', exists_eq_left, exists_and_left, and_assoc, and_true, true_and, or_true, true_or, Nat.sub_self, Nat.reduceAdd, Nat.reduceSub, Nat.zero_add, Nat.reduceLT, Nat.lt_add_one, if_true, if_false, ite_true, ite_false, Bool.not_true, Bool.not_false, Bool.false_eq_true, Bool.true_eq_false, eq_self_iff_true, forall_const, true_implies, false_implies, implies_true, reduceCtorEq, and_false, false_and, false_or, or_false, Hd.fz.injEq, PyData.int.injEq, PyData.list.injEq, PyData.tuple.injEq, PyData.bool.injEq]
      exact hR w3 _ _ hw3 ⟨r, rfl, by unfold big; omega⟩
    · simp only [e0, backL, wSs, wS, wE, wA, wB, wT, wO, wI, endPt, ini, vw_fz, vw_tm, vw_sl, vws, dat_d, dat_l, dat_o, pvw_fz, pvw_fzL, pvw_mls, hd_fz, hd_fzL, hd_mls, kid_fz, kid_tm, kidsOf, frz_fz, frz_tm, frz_sl, kid_sl, frzs, setAll, toD_fzL, toD_mls, toD_fz, st_fz, st_tm, st_sl, seq_dl, seq_dt, seq_l, asL_dl, asL_l, asL_dt, asT_dt, asT_dl, asT_l, isiB_some, isiV_b, isiV_i, isiV_s, isiV_l, isiV_t, isiV_d, isBB, isII, isSS, isLL, isTT, isDD, isB_fz, bop_add, bop_sub, bop_mul, bop_div, bop_mod, bop_pow, bop_shl, bop_shr, bop_and, bop_or, bop_xor, cop_eq, cop_ne, cop_eqS, cop_neS, cop_lt, cop_le, cop_gt, cop_ge, cop_is, bip_len, bip_abs, bip_intI, bip_intB, bip_tup, bip_lst, bip_repr, ixp_l, ixp_t, slp_dl, slp_l, slp_dt, atI_0, atI_1, atI_2, atI_cast, Es.len, asg_nm, asg_tp, asgs_nil, end0, end1, prep_nil, prep_fz, prep_tm, pickS, pickD, Hd.into, wipeL, List.map_nil, List.map_cons, List.nil_append, List.cons_append, List.length_nil, List.length_cons, List.getElem?_cons_zero, List.getElem?_cons_succ, List.getElem?_nil, List.set_cons_zero, List.set_cons_succ, List.replicate, Option.some.injEq, Prod.mk.injEq, exists_eq_left', exists_eq_left, exists_and_left, and_assoc, and_true, true_and, or_true, true_or, Nat.sub_self, Nat.reduceAdd, Nat.reduceSub, Nat.zero_add, Nat.reduceLT, Nat.lt_add_one, if_true, if_false, ite_true, ite_false, Bool.not_true, Bool.not_false, Bool.false_eq_true, Bool.true_eq_false, eq_self_iff_true, forall_const, true_implies, false_implies, implies_true, reduceCtorEq, and_false, false_and, false_or, or_false, Hd.fz.injEq, PyData.int.injEq, PyData.list.injEq, PyData.tuple.injEq, PyData.bool.injEq]
      exact fin w' xs hw' (by rw [hl, hrg]) hp
  unfold sh_l_row_3
  simp only [e0, h0, wSs, wS, wE, wA, wB, wT, wO, wI, endPt, ini, vw_fz, vw_tm, vw_sl, vws, dat_d, dat_l, dat_o, pvw_fz, pvw_fzL, pvw_mls, hd_fz, hd_fzL, hd_mls, kid_fz, kid_tm, kidsOf, frz_fz, frz_tm, frz_sl, kid_sl, frzs, setAll, toD_fzL, toD_mls, toD_fz, st_fz, st_tm, st_sl, seq_dl, seq_dt, seq_l, asL_dl, asL_l, asL_dt, asT_dt, asT_dl, asT_l, isiB_some, isiV_b, isiV_i, isiV_s, isiV_l, isiV_t, isiV_d, isBB, isII, isSS, isLL, isTT, isDD, isB_fz, bop_add, bop_sub, bop_mul, bop_div, bop_mod, bop_pow, bop_shl, bop_shr, bop_and, bop_or, bop_xor, cop_eq, cop_ne, cop_eqS, cop_neS, cop_lt, cop_le, cop_gt, cop_ge, cop_is, bip_len, bip_abs, bip_intI, bip_intB, bip_tup, bip_lst, bip_repr, ixp_l, ixp_t, slp_dl, slp_l, slp_dt, atI_0, atI_1, atI_2, atI_cast, Es.len, asg_nm, asg_tp, asgs_nil, end0, end1, prep_nil, prep_fz, prep_tm, pickS, pickD, Hd.into, wipeL, List.map_nil, List.map_cons, List.nil_append, List.cons_append, List.length_nil, List.length_cons, List.getElem?_cons_zero, List.getElem?_cons_succ, List.getElem?_nil, List.set_cons_zero, List.set_cons_succ, List.replicate, Option.some.injEq, Prod.mk.injEq, exists_eq_left', exists_eq_left, exists_and_left, and_assoc, and_true, true_and, or_true, true_or, Nat.sub_self, Nat.reduceAdd, Nat.reduceSub, Nat.zero_add, Nat.reduceLT, Nat.lt_add_one, if_true, if_false, ite_true, ite_false, Bool.not_true, Bool.not_false, Bool.false_eq_true, Bool.true_eq_false, eq_self_iff_true, forall_const, true_implies, false_implies, implies_true, reduceCtorEq, and_false, false_and, false_or, or_false, Hd.fz.injEq, PyData.int.injEq, PyData.list.injEq, PyData.tuple.injEq, PyData.bool.injEq]
  refine ⟨fun c2 => ?_, fun c2 => ?_⟩
  · unfold sh_l_row_4
    simp only [e0, h0, wSs, wS, wE, wA, wB, wT, wO, wI, endPt, ini, vw_fz, vw_tm, vw_sl, vws, dat_d, dat_l, dat_o, pvw_fz, pvw_fzL, pvw_mls, hd_fz, hd_fzL, hd_mls, kid_fz, kid_tm, kidsOf, frz_fz, frz_tm, frz_sl, kid_sl, frzs, setAll, toD_fzL, toD_mls, toD_fz, st_fz, st_tm, st_sl, seq_dl, seq_dt, seq_l, asL_dl, asL_l, asL_dt, asT_dt, asT_dl, asT_l, isiB_some, isiV_b, isiV_i, isiV_s, isiV_l, isiV_t, isiV_d, isBB, isII, isSS, isLL, isTT, isDD, isB_fz, bop_add, bop_sub, bop_mul, bop_div, bop_mod, bop_pow, bop_shl, bop_shr, bop_and, bop_or, bop_xor, cop_eq, cop_ne, cop_eqS, cop_neS, cop_lt, cop_le, cop_gt, cop_ge, cop_is, bip_len, bip_abs, bip_intI, bip_intB, bip_tup, bip_lst, bip_repr, ixp_l, ixp_t, slp_dl, slp_l, slp_dt, atI_0, atI_1, atI_2, atI_cast, Es.len, asg_nm, asg_tp, asgs_nil, end0, end1, prep_nil, prep_fz, prep_tm, pickS, pickD, Hd.into, wipeL, List.map_nil, List.map_cons, List.nil_append, List.cons_append, List.length_nil, List.length_cons, List.getElem?_cons_zero, List.getElem?_cons_succ, List.getElem?_nil, List.set_cons_zero, List.set_cons_succ, List.replicate, Option.some.injEq, Prod.mk.injEq, exists_eq_left', exists_eq_left, exists_and_left, and_assoc, and_true, true_and, or_true, true_or, Nat.sub_self, Nat.reduceAdd, Nat.reduceSub, Nat.zero_add, Nat.reduceLT, Nat.lt_add_one, if_true, if_false, ite_true, ite_false, Bool.not_true, Bool.not_false, Bool.false_eq_true, Bool.true_eq_false, eq_self_iff_true, forall_const, true_implies, false_implies, implies_true, reduceCtorEq, and_false, false_and, false_or, or_false, Hd.fz.injEq, PyData.int.injEq, PyData.list.injEq, PyData.tuple.injEq, PyData.bool.injEq]
    refine ⟨by omega, by omega, by omega, ?_⟩
    refine lc_wl (fun a => [some (.fz (.int n)), some (.fz (.int way)), none, a]) (fun x => ∃ i : Int, x = .int i ∧ (-big ≤ i ∧ i ≤ big)) (fun w a => rfl) hw1 (by rw [hrg]; omega) (fun d hd w hw R hR => ?_) (fun w' xs b hw' hl hp => ?_)
    · obtain ⟨ns2, st2, t2, hns2, rfl⟩ := id hw
      refine ⟨_, rfl, ?_⟩
      simp only [e0, h0, h1, hB, wSs, wS, wE, wA, wB, wT, wO, wI, endPt, ini, vw_fz, vw_tm, vw_sl, vws, dat_d, dat_l, dat_o, pvw_fz, pvw_fzL, pvw_mls, hd_fz, hd_fzL, hd_mls, kid_fz, kid_tm, kidsOf, frz_fz, frz_tm, frz_sl, kid_sl, frzs, setAll, toD_fzL, toD_mls, toD_fz, st_fz, st_tm, st_sl, seq_dl, seq_dt, seq_l, asL_dl, asL_l, asL_dt, asT_dt, asT_dl, asT_l, isiB_some, isiV_b, isiV_i, isiV_s, isiV_l, isiV_t, isiV_d, isBB, isII, isSS, isLL, isTT, isDD, isB_fz, bop_add, bop_sub, bop_mul, bop_div, bop_mod, bop_pow, bop_shl, bop_shr, bop_and, bop_or, bop_xor, cop_eq, cop_ne, cop_eqS, cop_neS, cop_lt, cop_le, cop_gt, cop_ge, cop_is, bip_len, bip_abs, bip_intI, bip_intB, bip_tup, bip_lst, bip_repr, ixp_l, ixp_t, slp_dl, slp_l, slp_dt, atI_0, atI_1, atI_2, atI_cast, Es.len, asg_nm, asg_tp, asgs_nil, end0, end1, prep_nil, prep_fz, prep_tm, pickS, pickD, Hd.into, wipeL, List.map_nil, List.map_cons, List.nil_append, List.cons_append, List.length_nil, List.length_cons, List.getElem?_cons_zero, List.getElem?_cons_succ, List.getElem?_nil, List.set_cons_zero, List.set_cons_succ, List.replicate, Option.some.injEq, Prod.mk.injEq, exists_eq_left', exists_eq_left, exists_and_left, and_assoc, and_true, true_and, or_true, true_or, Nat.sub_self, Nat.reduceAdd, Nat.reduceSub, Nat.zero_add, Nat.reduceLT, Nat.lt_add_one, if_true, if_false, ite_true, ite_false, Bool.not_true, Bool.not_false, Bool.false_eq_true, Bool.true_eq_false, eq_self_iff_true, forall_const, true_implies, false_implies, implies_true, reduceCtorEq, and_false, false_and, false_or, or_false, Hd.fz.injEq, PyData.int.injEq, PyData.list.injEq, PyData.tuple.injEq, PyData.bool.injEq]
      refine ⟨cp12, cp12, cp12, by decide, call_pick (items := [.int big, .int (-big), .int 0, .int 1, .int (big - 1)]) hw rfl (.inl rfl) (by simp) (by simp) (fun w3 d hw3 hd => ?_) (frz_tms [.int big, .int (-big), .int 0, .int 1, .int (big - 1)])⟩
      simp only [wSs, wS, wE, wA, wB, wT, wO, wI, endPt, ini, vw_fz, vw_tm, vw_sl, vws, dat_d, dat_l, dat_o, pvw_fz, pvw_fzL, pvw_mls, hd_fz, hd_fzL, hd_mls, kid_fz, kid_tm, kidsOf, frz_fz, frz_tm, frz_sl, kid_sl, frzs, setAll, toD_fzL, toD_mls, toD_fz, st_fz, st_tm, st_sl, seq_dl, seq_dt, seq_l, asL_dl, asL_l, asL_dt, asT_dt, asT_dl, asT_l, isiB_some, isiV_b, isiV_i, isiV_s, isiV_l, isiV_t, isiV_d, isBB, isII, isSS, isLL, isTT, isDD, isB_fz, bop_add, bop_sub, bop_mul, bop_div, bop_mod, bop_pow, bop_shl, bop_shr, bop_and, bop_or, bop_xor, cop_eq, cop_ne, cop_eqS, cop_neS, cop_lt, cop_le, cop_gt, cop_ge, cop_is, bip_len, bip_abs, bip_intI, bip_intB, bip_tup, bip_lst, bip_repr, ixp_l, ixp_t, slp_dl, slp_l, slp_dt, atI_0, atI_1, atI_2, atI_cast, Es.len, asg_nm, asg_tp, asgs_nil, end0, end1, prep_nil, prep_fz, prep_tm, pickS, pickD, Hd.into, wipeL, List.map_nil, List.map_cons, List.nil_append, List.cons_append, List.length_nil, List.length_cons, List.getElem?_cons_zero, List.getElem?_cons_succ, List.getElem?_nil, List.set_cons_zero, List.set_cons_succ, List.replicate, Option.some.injEq, Prod.mk.injEq, exists_eq_left', exists_eq_left, exists_and_left, and_assoc, and_true, true_and, or_true, true_or, Nat.sub_self, Nat.reduceAdd, Nat.reduceSub, Nat.zero_add, Nat.reduceLT, Nat.lt_add_one, if_true, if_false, ite_true, ite_false, Bool.not_true, Bool.not_false, Bool.false_eq_true, Bool.true_eq_false, eq_self_iff_true, forall_const, true_implies, false_implies, implies_true, reduceCtorEq, and_false, false_and, false_or, or_false, Hd.fz.injEq, PyData.int.injEq, PyData.list.injEq, PyData.tuple.injEq, PyData.bool.injEq]
      refine hR w3 _ _ hw3 ?_
      simp only [List.mem_cons, List.not_mem_nil, or_false] at hd
      rcases hd with rfl | rfl | rfl | rfl | rfl <;> exact ⟨_, rfl, by decide, by decide⟩
    · simp only [e0, backL, wSs, wS, wE, wA, wB, wT, wO, wI, endPt, ini, vw_fz, vw_tm, vw_sl, vws, dat_d, dat_l, dat_o, pvw_fz, pvw_fzL, pvw_mls, hd_fz, hd_fzL, hd_mls, kid_fz, kid_tm, kidsOf, frz_fz, frz_tm, frz_sl, kid_sl, frzs, setAll, toD_fzL, toD_mls, toD_fz, st_fz, st_tm, st_sl, seq_dl, seq_dt, seq_l, asL_dl, asL_l, asL_dt, asT_dt, asT_dl, asT_l, isiB_some, isiV_b, isiV_i, isiV_s, isiV_l, isiV_t, isiV_d, isBB, isII, isSS, isLL, isTT, isDD, isB_fz, bop_add, bop_sub, bop_mul, bop_div, bop_mod, bop_pow, bop_shl, bop_shr, bop_and, bop_or, bop_xor, cop_eq, cop_ne, cop_eqS, cop_neS, cop_lt, cop_le, cop_gt, cop_ge, cop_is, bip_len, bip_abs, bip_intI, bip_intB, bip_tup, bip_lst, bip_repr, ixp_l, ixp_t, slp_dl, slp_l, slp_dt, atI_0, atI_1, atI_2, atI_cast, Es.len, asg_nm, asg_tp, asgs_nil, end0, end1, prep_nil, prep_fz, prep_tm, pickS, pickD, Hd.into, wipeL, List.map_nil, List.map_cons, List.nil_append, List.cons_append, List.length_nil, List.length_cons, List.getElem?_cons_zero, List.getElem?_cons_succ, List.getElem?_nil, List.set_cons_zero, List.set_cons_succ, List.replicate, Option.some.injEq, Prod.mk.injEq, exists_eq_left', exists_eq_left, exists_and_left, and_assoc, and_true, true_and, or_true, true_or, Nat.sub_self, Nat.reduceAdd, Nat.reduceSub, Nat.zero_add, Nat.reduceLT, Nat.lt_add_one, if_true, if_false, ite_true, ite_false, Bool.not_true, Bool.not_false, Bool.false_eq_true, Bool.true_eq_false, eq_self_iff_true, forall_const, true_implies, false_implies, implies_true, reduceCtorEq, and_false, false_and, false_or, or_false, Hd.fz.injEq, PyData.int.injEq, PyData.list.injEq, PyData.tuple.injEq, PyData.bool.injEq]
      exact fin w' xs hw' (by rw [hl, hrg]) hp
  unfold sh_l_row_5
  simp only [e0, h0, wSs, wS, wE, wA, wB, wT, wO, wI, endPt, ini, vw_fz, vw_tm, vw_sl, vws, dat_d, dat_l, dat_o, pvw_fz, pvw_fzL, pvw_mls, hd_fz, hd_fzL, hd_mls, kid_fz, kid_tm, kidsOf, frz_fz, frz_tm, frz_sl, kid_sl, frzs, setAll, toD_fzL, toD_mls, toD_fz, st_fz, st_tm, st_sl, seq_dl, seq_dt, seq_l, asL_dl, asL_l, asL_dt, asT_dt, asT_dl, asT_l, isiB_some, isiV_b, isiV_i, isiV_s, isiV_l, isiV_t, isiV_d, isBB, isII, isSS, isLL, isTT, isDD, isB_fz, bop_add, bop_sub, bop_mul, bop_div, bop_mod, bop_pow, bop_shl, bop_shr, bop_and, bop_or, bop_xor, cop_eq, cop_ne, cop_eqS, cop_neS, cop_lt, cop_le, cop_gt, cop_ge, cop_is, bip_len, bip_abs, bip_intI, bip_intB, bip_tup, bip_lst, bip_repr, ixp_l, ixp_t, slp_dl, slp_l, slp_dt, atI_0, atI_1, atI_2, atI_cast, Es.len, asg_nm, asg_tp, asgs_nil, end0, end1, prep_nil, prep_fz, prep_tm, pickS, pickD, Hd.into, wipeL, List.map_nil, List.map_cons, List.nil_append, List.cons_append, List.length_nil, List.length_cons, List.getElem?_cons_zero, List.getElem?_cons_succ, List.getElem?_nil, List.set_cons_zero, List.set_cons_succ, List.replicate, Option.some.injEq, Prod.mk.injEq, exists_eq_left', exists_eq_left, exists_and_left, and_assoc, and_true, true_and, or_true, true_or, Nat.sub_self, Nat.reduceAdd, Nat.reduceSub, Nat.zero_add, Nat.reduceLT, Nat.lt_add_one, if_true, if_false, ite_true, ite_false, Bool.not_true, Bool.not_false, Bool.false_eq_true, Bool.true_eq_false, eq_self_iff_true, forall_const, true_implies, false_implies, implies_true, reduceCtorEq, and_false, false_and, false_or, or_false, Hd.fz.injEq, PyData.int.injEq, PyData.list.injEq, PyData.tuple.injEq, PyData.bool.injEq]
  refine ⟨fun c3 => ?_, fun c3 => ?_⟩
  · unfold sh_l_row_6
    simp only [e0, h0, h2, wSs, wS, wE, wA, wB, wT, wO, wI, endPt, ini, vw_fz, vw_tm, vw_sl, vws, dat_d, dat_l, dat_o, pvw_fz, pvw_fzL, pvw_mls, hd_fz, hd_fzL, hd_mls, kid_fz, kid_tm, kidsOf, frz_fz, frz_tm, frz_sl, kid_sl, frzs, setAll, toD_fzL, toD_mls, toD_fz, st_fz, st_tm, st_sl, seq_dl, seq_dt, seq_l, asL_dl, asL_l, asL_dt, asT_dt, asT_dl, asT_l, isiB_some, isiV_b, isiV_i, isiV_s, isiV_l, isiV_t, isiV_d, isBB, isII, isSS, isLL, isTT, isDD, isB_fz, bop_add, bop_sub, bop_mul, bop_div, bop_mod, bop_pow, bop_shl, bop_shr, bop_and, bop_or, bop_xor, cop_eq, cop_ne, cop_eqS, cop_neS, cop_lt, cop_le, cop_gt, cop_ge, cop_is, bip_len, bip_abs, bip_intI, bip_intB, bip_tup, bip_lst, bip_repr, ixp_l, ixp_t, slp_dl, slp_l, slp_dt, atI_0, atI_1, atI_2, atI_cast, Es.len, asg_nm, asg_tp, asgs_nil, end0, end1, prep_nil, prep_fz, prep_tm, pickS, pickD, Hd.into, wipeL, List.map_nil, List.map_cons, List.nil_append, List.cons_append, List.length_nil, List.length_cons, List.getElem?_cons_zero, List.getElem?_cons_succ, List.getElem?_nil, List.set_cons_zero, List.set_cons_succ, List.replicate, Option.some.injEq, Prod.mk.injEq, exists_eq_left', exists_eq_left, exists_and_left, and_assoc, and_true, true_and, or_true, true_or, Nat.sub_self, Nat.reduceAdd, Nat.reduceSub, Nat.zero_add, Nat.reduceLT, Nat.lt_add_one, if_true, if_false, ite_true, ite_false, Bool.not_true, Bool.not_false, Bool.false_eq_true, Bool.true_eq_false, eq_self_iff_true, forall_const, true_implies, false_implies, implies_true, reduceCtorEq, and_false, false_and, false_or, or_false, Hd.fz.injEq, PyData.int.injEq, PyData.list.injEq, PyData.tuple.injEq, PyData.bool.injEq]
    refine ⟨by omega, by omega, by omega, call_mixed (items := rgD 0 ((n : Int)).toNat) hw1 rfl (by rw [frz_tm, toD_fzL]) (.inl rfl) (by rw [hrg]; omega) fun w3 out hw3 hp => ?_⟩
    simp only [e0, wSs, wS, wE, wA, wB, wT, wO, wI, endPt, ini, vw_fz, vw_tm, vw_sl, vws, dat_d, dat_l, dat_o, pvw_fz, pvw_fzL, pvw_mls, hd_fz, hd_fzL, hd_mls, kid_fz, kid_tm, kidsOf, frz_fz, frz_tm, frz_sl, kid_sl, frzs, setAll, toD_fzL, toD_mls, toD_fz, st_fz, st_tm, st_sl, seq_dl, seq_dt, seq_l, asL_dl, asL_l, asL_dt, asT_dt, asT_dl, asT_l, isiB_some, isiV_b, isiV_i, isiV_s, isiV_l, isiV_t, isiV_d, isBB, isII, isSS, isLL, isTT, isDD, isB_fz, bop_add, bop_sub, bop_mul, bop_div, bop_mod, bop_pow, bop_shl, bop_shr, bop_and, bop_or, bop_xor, cop_eq, cop_ne, cop_eqS, cop_neS, cop_lt, cop_le, cop_gt, cop_ge, cop_is, bip_len, bip_abs, bip_intI, bip_intB, bip_tup, bip_lst, bip_repr, ixp_l, ixp_t, slp_dl, slp_l, slp_dt, atI_0, atI_1, atI_2, atI_cast, Es.len, asg_nm, asg_tp, asgs_nil, end0, end1, prep_nil, prep_fz, prep_tm, pickS, pickD, Hd.into, wipeL, List.map_nil, List.map_cons, List.nil_append, List.cons_append, List.length_nil, List.length_cons, List.getElem?_cons_zero, List.getElem?_cons_succ, List.getElem?_nil, List.set_cons_zero, List.set_cons_succ, List.replicate, Option.some.injEq, Prod.mk.injEq, exists_eq_left', exists_eq_left, exists_and_left, and_assoc, and_true, true_and, or_true, true_or, Nat.sub_self, Nat.reduceAdd, Nat.reduceSub, Nat.zero_add, Nat.reduceLT, Nat.lt_add_one, if_true, if_false, ite_true, ite_false, Bool.not_true, Bool.not_false, Bool.false_eq_true, Bool.true_eq_false, eq_self_iff_true, forall_const, true_implies, false_implies, implies_true, reduceCtorEq, and_false, false_and, false_or, or_false, Hd.fz.injEq, PyData.int.injEq, PyData.list.injEq, PyData.tuple.injEq, PyData.bool.injEq]
    refine fin w3 out hw3 (by rw [hp.length_eq, hrg]) fun x hx => ?_
    obtain ⟨k, hk, rfl⟩ := rg_mem (hp.mem_iff.mp hx)
    exact ⟨_, rfl, by unfold big; omega, by unfold big; omega⟩
  unfold sh_l_row_7
  simp only [e0, h0, wSs, wS, wE, wA, wB, wT, wO, wI, endPt, ini, vw_fz, vw_tm, vw_sl, vws, dat_d, dat_l, dat_o, pvw_fz, pvw_fzL, pvw_mls, hd_fz, hd_fzL, hd_mls, kid_fz, kid_tm, kidsOf, frz_fz, frz_tm, frz_sl, kid_sl, frzs, setAll, toD_fzL, toD_mls, toD_fz, st_fz, st_tm, st_sl, seq_dl, seq_dt, seq_l, asL_dl, asL_l, asL_dt, asT_dt, asT_dl, asT_l, isiB_some, isiV_b, isiV_i, isiV_s, isiV_l, isiV_t, isiV_d, isBB, isII, isSS, isLL, isTT, isDD, isB_fz, bop_add, bop_sub, bop_mul, bop_div, bop_mod, bop_pow, bop_shl, bop_shr, bop_and, bop_or, bop_xor, cop_eq, cop_ne, cop_eqS, cop_neS, cop_lt, cop_le, cop_gt, cop_ge, cop_is, bip_len, bip_abs, bip_intI, bip_intB, bip_tup, bip_lst, bip_repr, ixp_l, ixp_t, slp_dl, slp_l, slp_dt, atI_0, atI_1, atI_2, atI_cast, Es.len, asg_nm, asg_tp, asgs_nil, end0, end1, prep_nil, prep_fz, prep_tm, pickS, pickD, Hd.into, wipeL, List.map_nil, List.map_cons, List.nil_append, List.cons_append, List.length_nil, List.length_cons, List.getElem?_cons_zero, List.getElem?_cons_succ, List.getElem?_nil, List.set_cons_zero, List.set_cons_succ, List.replicate, Option.some.injEq, Prod.mk.injEq, exists_eq_left', exists_eq_left, exists_and_left, and_assoc, and_true, true_and, or_true, true_or, Nat.sub_self, Nat.reduceAdd, Nat.reduceSub, Nat.zero_add, Nat.reduceLT, Nat.lt_add_one, if_true, if_false, ite_true, ite_false, Bool.not_true, Bool.not_false, Bool.false_eq_true, Bool.true_eq_false, eq_self_iff_true, forall_const, true_implies, false_implies, implies_true, reduceCtorEq, and_false, false_and, false_or, or_false, Hd.fz.injEq, PyData.int.injEq, PyData.list.injEq, PyData.tuple.injEq, PyData.bool.injEq]
  refine ⟨fun c4 => ?_, fun c4 => ?_⟩
  · unfold sh_l_row_8
    simp only [e0, h0, h1, hB, wSs, wS, wE, wA, wB, wT, wO, wI, endPt, ini, vw_fz, vw_tm, vw_sl, vws, dat_d, dat_l, dat_o, pvw_fz, pvw_fzL, pvw_mls, hd_fz, hd_fzL, hd_mls, kid_fz, kid_tm, kidsOf, frz_fz, frz_tm, frz_sl, kid_sl, frzs, setAll, toD_fzL, toD_mls, toD_fz, st_fz, st_tm, st_sl, seq_dl, seq_dt, seq_l, asL_dl, asL_l, asL_dt, asT_dt, asT_dl, asT_l, isiB_some, isiV_b, isiV_i, isiV_s, isiV_l, isiV_t, isiV_d, isBB, isII, isSS, isLL, isTT, isDD, isB_fz, bop_add, bop_sub, bop_mul, bop_div, bop_mod, bop_pow, bop_shl, bop_shr, bop_and, bop_or, bop_xor, cop_eq, cop_ne, cop_eqS, cop_neS, cop_lt, cop_le, cop_gt, cop_ge, cop_is, bip_len, bip_abs, bip_intI, bip_intB, bip_tup, bip_lst, bip_repr, ixp_l, ixp_t, slp_dl, slp_l, slp_dt, atI_0, atI_1, atI_2, atI_cast, Es.len, asg_nm, asg_tp, asgs_nil, end0, end1, prep_nil, prep_fz, prep_tm, pickS, pickD, Hd.into, wipeL, List.map_nil, List.map_cons, List.nil_append, List.cons_append, List.length_nil, List.length_cons, List.getElem?_cons_zero, List.getElem?_cons_succ, List.getElem?_nil, List.set_cons_zero, List.set_cons_succ, List.replicate, Option.some.injEq, Prod.mk.injEq, exists_eq_left', exists_eq_left, exists_and_left, and_assoc, and_true, true_and, or_true, true_or, Nat.sub_self, Nat.reduceAdd, Nat.reduceSub, Nat.zero_add, Nat.reduceLT, Nat.lt_add_one, if_true, if_false, ite_true, ite_false, Bool.not_true, Bool.not_false, Bool.false_eq_true, Bool.true_eq_false, eq_self_iff_true, forall_const, true_implies, false_implies, implies_true, reduceCtorEq, and_false, false_and, false_or, or_false, Hd.fz.injEq, PyData.int.injEq, PyData.list.injEq, PyData.tuple.injEq, PyData.bool.injEq]
    refine ⟨by omega, by omega, by omega, ?_⟩
    refine lc_wl (fun a => [some (.fz (.int n)), some (.fz (.int way)), none, a]) (fun x => ∃ i : Int, x = .int i ∧ (-big ≤ i ∧ i ≤ big)) (fun w a => rfl) hw1 (by rw [hrg]; omega) (fun d hd w hw R hR => ?_) (fun w' xs b hw' hl hp => ?_)
    · obtain ⟨ns2, st2, t2, hns2, rfl⟩ := id hw
      refine ⟨_, rfl, ?_⟩
      simp only [e0, h0, h1, hB, wSs, wS, wE, wA, wB, wT, wO, wI, endPt, ini, vw_fz, vw_tm, vw_sl, vws, dat_d, dat_l, dat_o, pvw_fz, pvw_fzL, pvw_mls, hd_fz, hd_fzL, hd_mls, kid_fz, kid_tm, kidsOf, frz_fz, frz_tm, frz_sl, kid_sl, frzs, setAll, toD_fzL, toD_mls, toD_fz, st_fz, st_tm, st_sl, seq_dl, seq_dt, seq_l, asL_dl, asL_l, asL_dt, asT_dt, asT_dl, asT_l, isiB_some, isiV_b, isiV_i, isiV_s, isiV_l, isiV_t, isiV_d, isBB, isII, isSS, isLL, isTT, isDD, isB_fz, bop_add, bop_sub, bop_mul, bop_div, bop_mod, bop_pow, bop_shl, bop_shr, bop_and, bop_or, bop_xor, cop_eq, cop_ne, cop_eqS, cop_neS, cop_lt, cop_le, cop_gt, cop_ge, cop_is, bip_len, bip_abs, bip_intI, bip_intB, bip_tup, bip_lst, bip_repr, ixp_l, ixp_t, slp_dl, slp_l, slp_dt, atI_0, atI_1, atI_2, atI_cast, Es.len, asg_nm, asg_tp, asgs_nil, end0, end1, prep_nil, prep_fz, prep_tm, pickS, pickD, Hd.into, wipeL, List.map_nil, List.map_cons, List.nil_append, List.cons_append, List.length_nil, List.length_cons, List.getElem?_cons_zero, List.getElem?_cons_succ, List.getElem?_nil, List.set_cons_zero, List.set_cons_succ, List.replicate, Option.some.injEq, Prod.mk.injEq, exists_eq_left', exists_eq_left, exists_and_left, and_assoc, and_true, true_and, or_true, true_or, Nat.sub_self, Nat.reduceAdd, Nat.reduceSub, Nat.zero_add, Nat.reduceLT, Nat.lt_add_one, if_true, if_false, ite_true, ite_false, Bool.not_true, Bool.not_false, Bool.false_eq_true, Bool.true_eq_false, eq_self_iff_true, forall_const, true_implies, false_implies, implies_true, reduceCtorEq, and_false, false_and, false_or, or_false, Hd.fz.injEq, PyData.int.injEq, PyData.list.injEq, PyData.tuple.injEq, PyData.bool.injEq]
      refine ⟨by decide, call_pick (items := [.int 1, .int (-1)]) hw rfl (.inl rfl) (by simp) (by simp) (fun w3 d hw3 hd => ?_) (frz_tms [.int 1, .int (-1)])⟩
      obtain ⟨ns3, st3, t3, hns3, rfl⟩ := id hw3
      simp only [e0, h0, h1, hB, wSs, wS, wE, wA, wB, wT, wO, wI, endPt, ini, vw_fz, vw_tm, vw_sl, vws, dat_d, dat_l, dat_o, pvw_fz, pvw_fzL, pvw_mls, hd_fz, hd_fzL, hd_mls, kid_fz, kid_tm, kidsOf, frz_fz, frz_tm, frz_sl, kid_sl, frzs, setAll, toD_fzL, toD_mls, toD_fz, st_fz, st_tm, st_sl, seq_dl, seq_dt, seq_l, asL_dl, asL_l, asL_dt, asT_dt, asT_dl, asT_l, isiB_some, isiV_b, isiV_i, isiV_s, isiV_l, isiV_t, isiV_d, isBB, isII, isSS, isLL, isTT, isDD, isB_fz, bop_add, bop_sub, bop_mul, bop_div, bop_mod, bop_pow, bop_shl, bop_shr, bop_and, bop_or, bop_xor, cop_eq, cop_ne, cop_eqS, cop_neS, cop_lt, cop_le, cop_gt, cop_ge, cop_is, bip_len, bip_abs, bip_intI, bip_intB, bip_tup, bip_lst, bip_repr, ixp_l, ixp_t, slp_dl, slp_l, slp_dt, atI_0, atI_1, atI_2, atI_cast, Es.len, asg_nm, asg_tp, asgs_nil, end0, end1, prep_nil, prep_fz, prep_tm, pickS, pickD, Hd.into, wipeL, List.map_nil, List.map_cons, List.nil_append, List.cons_append, List.length_nil, List.length_cons, List.getElem?_cons_zero, List.getElem?_cons_succ, List.getElem?_nil, List.set_cons_zero, List.set_cons_succ, List.replicate, Option.some.injEq, Prod.mk.injEq, exists_eq_left', exists_eq_left, exists_and_left, and_assoc, and_true, true_and, or_true, true_or, Nat.sub_self, Nat.reduceAdd, Nat.reduceSub, Nat.zero_add, Nat.reduceLT, Nat.lt_add_one, if_true, if_false, ite_true, ite_false, Bool.not_true, Bool.not_false, Bool.false_eq_true, Bool.true_eq_false, eq_self_iff_true, forall_const, true_implies, false_implies, implies_true, reduceCtorEq, and_false, false_and, false_or, or_false, Hd.fz.injEq, PyData.int.injEq, PyData.list.injEq, PyData.tuple.injEq, PyData.bool.injEq]
      refine ⟨cp12, call_draw hw3 rfl (by decide) fun w4 r hw4 g1 g2 => ?_⟩
      simp only [List.mem_cons, List.not_mem_nil, or_false] at hd
      rw [Int.max_eq_left (by decide)] at g2
      have hbg : (0 : Int) < big := by decide
      rcases hd with rfl | rfl
      · simp only [e0, h0, h1, hB, wSs, wS, wE, wA, wB, wT, wO, wI, endPt, ini, vw_fz, vw_tm, vw_sl, vws, dat_d, dat_l, dat_o, pvw_fz, pvw_fzL, pvw_mls, hd_fz, hd_fzL, hd_mls, kid_fz, kid_tm, kidsOf, frz_fz, frz_tm, frz_sl, kid_sl, frzs, setAll, toD_fzL, toD_mls, toD_fz, st_fz, st_tm, st_sl, seq_dl, seq_dt, seq_l, asL_dl, asL_l, asL_dt, asT_dt, asT_dl, asT_l, isiB_some, isiV_b, isiV_i, isiV_s, isiV_l, isiV_t, isiV_d, isBB, isII, isSS, isLL, isTT, isDD, isB_fz, bop_add, bop_sub, bop_mul, bop_div, bop_mod, bop_pow, bop_shl, bop_shr, bop_and, bop_or, bop_xor, cop_eq, cop_ne, cop_eqS, cop_neS, cop_lt, cop_le, cop_gt, cop_ge, cop_is, bip_len, bip_abs, bip_intI, bip_intB, bip_tup, bip_lst, bip_repr, ixp_l, ixp_t, slp_dl, slp_l, slp_dt, atI_0, atI_1, atI_2, atI_cast, Es.len, asg_nm, asg_tp, asgs_nil, end0, end1, prep_nil, prep_fz, prep_tm, pickS, pickD, Hd.into, wipeL, List.map_nil, List.map_cons, List.nil_append, List.cons_append, List.length_nil, List.length_cons, List.getElem?_cons_zero, List.getElem?_cons_succ, List.getElem?_nil, List.set_cons_zero, List.set_cons_succ, List.replicate, Option.some.injEq, Prod.mk.injEq, exists_eq_left', exists_eq_left, exists_and_left, and_assoc, and_true, true_and, or_true, true_or, Nat.sub_self, Nat.reduceAdd, Nat.reduceSub, Nat.zero_add, Nat.reduceLT, Nat.lt_add_one, if_true, if_false, ite_true, ite_false, Bool.not_true, Bool.not_false, Bool.false_eq_true, Bool.true_eq_false, eq_self_iff_true, forall_const, true_implies, false_implies, implies_true, reduceCtorEq, and_false, false_and, false_or, or_false, Hd.fz.injEq, PyData.int.injEq, PyData.list.injEq, PyData.tuple.injEq, PyData.bool.injEq]
        exact ⟨mul_l (by decide) (by decide), hR w4 _ _ hw4 ⟨_, rfl, by omega, by omega⟩⟩
      · simp only [e0, h0, h1, hB, wSs, wS, wE, wA, wB, wT, wO, wI, endPt, ini, vw_fz, vw_tm, vw_sl, vws, dat_d, dat_l, dat_o, pvw_fz, pvw_fzL, pvw_mls, hd_fz, hd_fzL, hd_mls, kid_fz, kid_tm, kidsOf, frz_fz, frz_tm, frz_sl, kid_sl, frzs, setAll, toD_fzL, toD_mls, toD_fz, st_fz, st_tm, st_sl, seq_dl, seq_dt, seq_l, asL_dl, asL_l, asL_dt, asT_dt, asT_dl, asT_l, isiB_some, isiV_b, isiV_i, isiV_s, isiV_l, isiV_t, isiV_d, isBB, isII, isSS, isLL, isTT, isDD, isB_fz, bop_add, bop_sub, bop_mul, bop_div, bop_mod, bop_pow, bop_shl, bop_shr, bop_and, bop_or, bop_xor, cop_eq, cop_ne, cop_eqS, cop_neS, cop_lt, cop_le, cop_gt, cop_ge, cop_is, bip_len, bip_abs, bip_intI, bip_intB, bip_tup, bip_lst, bip_repr, ixp_l, ixp_t, slp_dl, slp_l, slp_dt, atI_0, atI_1, atI_2, atI_cast, Es.len, asg_nm, asg_tp, asgs_nil, end0, end1, prep_nil, prep_fz, prep_tm, pickS, pickD, Hd.into, wipeL, List.map_nil, List.map_cons, List.nil_append, List.cons_append, List.length_nil, List.length_cons, List.getElem?_cons_zero, List.getElem?_cons_succ, List.getElem?_nil, List.set_cons_zero, List.set_cons_succ, List.replicate, Option.some.injEq, Prod.mk.injEq, exists_eq_left', exists_eq_left, exists_and_left, and_assoc, and_true, true_and, or_true, true_or, Nat.sub_self, Nat.reduceAdd, Nat.reduceSub, Nat.zero_add, Nat.reduceLT, Nat.lt_add_one, if_true, if_false, ite_true, ite_false, Bool.not_true, Bool.not_false, Bool.false_eq_true, Bool.true_eq_false, eq_self_iff_true, forall_const, true_implies, false_implies, implies_true, reduceCtorEq, and_false, false_and, false_or, or_false, Hd.fz.injEq, PyData.int.injEq, PyData.list.injEq, PyData.tuple.injEq, PyData.bool.injEq]
        exact ⟨mul_l (by decide) (by decide), hR w4 _ _ hw4 ⟨_, rfl, by omega, by omega⟩⟩
    · simp only [e0, backL, wSs, wS, wE, wA, wB, wT, wO, wI, endPt, ini, vw_fz, vw_tm, vw_sl, vws, dat_d, dat_l, dat_o, pvw_fz, pvw_fzL, pvw_mls, hd_fz, hd_fzL, hd_mls, kid_fz, kid_tm, kidsOf, frz_fz, frz_tm, frz_sl, kid_sl, frzs, setAll, toD_fzL, toD_mls, toD_fz, st_fz, st_tm, st_sl, seq_dl, seq_dt, seq_l, asL_dl, asL_l, asL_dt, asT_dt, asT_dl, asT_l, isiB_some, isiV_b, isiV_i, isiV_s, isiV_l, isiV_t, isiV_d, isBB, isII, isSS, isLL, isTT, isDD, isB_fz, bop_add, bop_sub, bop_mul, bop_div, bop_mod, bop_pow, bop_shl, bop_shr, bop_and, bop_or, bop_xor, cop_eq, cop_ne, cop_eqS, cop_neS, cop_lt, cop_le, cop_gt, cop_ge, cop_is, bip_len, bip_abs, bip_intI, bip_intB, bip_tup, bip_lst, bip_repr, ixp_l, ixp_t, slp_dl, slp_l, slp_dt, atI_0, atI_1, atI_2, atI_cast, Es.len, asg_nm, asg_tp, asgs_nil, end0, end1, prep_nil, prep_fz, prep_tm, pickS, pickD, Hd.into, wipeL, List.map_nil, List.map_cons, List.nil_append, List.cons_append, List.length_nil, List.length_cons, List.getElem?_cons_zero, List.getElem?_cons_succ, List.getElem?_nil, List.set_cons_zero, List.set_cons_succ, List.replicate, Option.some.injEq, Prod.mk.injEq, exists_eq_left', exists_eq_left, exists_and_left, and_assoc, and_true, true_and, or_true, true_or, Nat.sub_self, Nat.reduceAdd, Nat.reduceSub, Nat.zero_add, Nat.reduceLT, Nat.lt_add_one, if_true, if_false, ite_true, ite_false, Bool.not_true, Bool.not_false, Bool.false_eq_true, Bool.true_eq_false, eq_self_iff_true, forall_const, true_implies, false_implies, implies_true, reduceCtorEq, and_false, false_and, false_or, or_false, Hd.fz.injEq, PyData.int.injEq, PyData.list.injEq, PyData.tuple.injEq, PyData.bool.injEq]
      exact fin w' xs hw' (by rw [hl, hrg]) hp
  unfold sh_l_row_9
  simp only [e0, h0, h2, hB, wSs, wS, wE, wA, wB, wT, wO, wI, endPt, ini, vw_fz, vw_tm, vw_sl, vws, dat_d, dat_l, dat_o, pvw_fz, pvw_fzL, pvw_mls, hd_fz, hd_fzL, hd_mls, kid_fz, kid_tm, kidsOf, frz_fz, frz_tm, frz_sl, kid_sl, frzs, setAll, toD_fzL, toD_mls, toD_fz, st_fz, st_tm, st_sl, seq_dl, seq_dt, seq_l, asL_dl, asL_l, asL_dt, asT_dt, asT_dl, asT_l, isiB_some, isiV_b, isiV_i, isiV_s, isiV_l, isiV_t, isiV_d, isBB, isII, isSS, isLL, isTT, isDD, isB_fz, bop_add, bop_sub, bop_mul, bop_div, bop_mod, bop_pow, bop_shl, bop_shr, bop_and, bop_or, bop_xor, cop_eq, cop_ne, cop_eqS, cop_neS, cop_lt, cop_le, cop_gt, cop_ge, cop_is, bip_len, bip_abs, bip_intI, bip_intB, bip_tup, bip_lst, bip_repr, ixp_l, ixp_t, slp_dl, slp_l, slp_dt, atI_0, atI_1, atI_2, atI_cast, Es.len, asg_nm, asg_tp, asgs_nil, end0, end1, prep_nil, prep_fz, prep_tm, pickS, pickD, Hd.into, wipeL, List.map_nil, List.map_cons, List.nil_append, List.cons_append, List.length_nil, List.length_cons, List.getElem?_cons_zero, List.getElem?_cons_succ, List.getElem?_nil, List.set_cons_zero, List.set_cons_succ, List.replicate, Option.some.injEq, Prod.mk.injEq, exists_eq_left', exists_eq_left, exists_and_left, and_assoc, and_true, true_and, or_true, true_or, Nat.sub_self, Nat.reduceAdd, Nat.reduceSub, Nat.zero_add, Nat.reduceLT, Nat.lt_add_one, if_true, if_false, ite_true, ite_false, Bool.not_true, Bool.not_false, Bool.false_eq_true, Bool.true_eq_false, eq_self_iff_true, forall_const, true_implies, false_implies, implies_true, reduceCtorEq, and_false, false_and, false_or, or_false, Hd.fz.injEq, PyData.int.injEq, PyData.list.injEq, PyData.tuple.injEq, PyData.bool.injEq]
  refine ⟨by omega, by omega, by omega, ?_⟩
  refine lc_wl (fun a => [some (.fz (.int n)), some (.fz (.int way)), none, a]) (fun x => ∃ i : Int, x = .int i ∧ (-big ≤ i ∧ i ≤ big)) (fun w a => rfl) hw1 (by rw [hrg]; omega) (fun d hd w hw R hR => ?_) (fun w' xs b hw' hl hp => ?_)
  · obtain ⟨ns2, st2, t2, hns2, rfl⟩ := id hw
    refine ⟨_, rfl, ?_⟩
    simp only [e0, h0, h1, hB, wSs, wS, wE, wA, wB, wT, wO, wI, endPt, ini, vw_fz, vw_tm, vw_sl, vws, dat_d, dat_l, dat_o, pvw_fz, pvw_fzL, pvw_mls, hd_fz, hd_fzL, hd_mls, kid_fz, kid_tm, kidsOf, frz_fz, frz_tm, frz_sl, kid_sl, frzs, setAll, toD_fzL, toD_mls, toD_fz, st_fz, st_tm, st_sl, seq_dl, seq_dt, seq_l, asL_dl, asL_l, asL_dt, asT_dt, asT_dl, asT_l, isiB_some, isiV_b, isiV_i, isiV_s, isiV_l, isiV_t, isiV_d, isBB, isII, isSS, isLL, isTT, isDD, isB_fz, bop_add, bop_sub, bop_mul, bop_div, bop_mod, bop_pow, bop_shl, bop_shr, bop_and, bop_or, bop_xor, cop_eq, cop_ne, cop_eqS, cop_neS, cop_lt, cop_le, cop_gt, cop_ge, cop_is, bip_len, bip_abs, bip_intI, bip_intB, bip_tup, bip_lst, bip_repr, ixp_l, ixp_t, slp_dl, slp_l, slp_dt, atI_0, atI_1, atI_2, atI_cast, Es.len, asg_nm, asg_tp, asgs_nil, end0, end1, prep_nil, prep_fz, prep_tm, pickS, pickD, Hd.into, wipeL, List.map_nil, List.map_cons, List.nil_append, List.cons_append, List.length_nil, List.length_cons, List.getElem?_cons_zero, List.getElem?_cons_succ, List.getElem?_nil, List.set_cons_zero, List.set_cons_succ, List.replicate, Option.some.injEq, Prod.mk.injEq, exists_eq_left', exists_eq_left, exists_and_left, and_assoc, and_true, true_and, or_true, true_or, Nat.sub_self, Nat.reduceAdd, Nat.reduceSub, Nat.zero_add, Nat.reduceLT, Nat.lt_add_one, if_true, if_false, ite_true, ite_false, Bool.not_true, Bool.not_false, Bool.false_eq_true, Bool.true_eq_false, eq_self_iff_true, forall_const, true_implies, false_implies, implies_true, reduceCtorEq, and_false, false_and, false_or, or_false, Hd.fz.injEq, PyData.int.injEq, PyData.list.injEq, PyData.tuple.injEq, PyData.bool.injEq]
    refine call_draw hw rfl (by decide) fun w3 r hw3 g1 g2 => ?_
    obtain ⟨ns3, st3, t3, hns3, rfl⟩ := id hw3
    simp only [e0, h0, h1, hB, wSs, wS, wE, wA, wB, wT, wO, wI, endPt, ini, vw_fz, vw_tm, vw_sl, vws, dat_d, dat_l, dat_o, pvw_fz, pvw_fzL, pvw_mls, hd_fz, hd_fzL, hd_mls, kid_fz, kid_tm, kidsOf, frz_fz, frz_tm, frz_sl, kid_sl, frzs, setAll, toD_fzL, toD_mls, toD_fz, st_fz, st_tm, st_sl, seq_dl, seq_dt, seq_l, asL_dl, asL_l, asL_dt, asT_dt, asT_dl, asT_l, isiB_some, isiV_b, isiV_i, isiV_s, isiV_l, isiV_t, isiV_d, isBB, isII, isSS, isLL, isTT, isDD, isB_fz, bop_add, bop_sub, bop_mul, bop_div, bop_mod, bop_pow, bop_shl, bop_shr, bop_and, bop_or, bop_xor, cop_eq, cop_ne, cop_eqS, cop_neS, cop_lt, cop_le, cop_gt, cop_ge, cop_is, bip_len, bip_abs, bip_intI, bip_intB, bip_tup, bip_lst, bip_repr, ixp_l, ixp_t, slp_dl, slp_l, slp_dt, atI_0, atI_1, atI_2, atI_cast, Es.len, asg_nm, asg_tp, asgs_nil, end0, end1, prep_nil, prep_fz, prep_tm, pickS, pickD, Hd.into, wipeL, List.map_nil, List.map_cons, List.nil_append, List.cons_append, List.length_nil, List.length_cons, List.getElem?_cons_zero, List.getElem?_cons_succ, List.getElem?_nil, List.set_cons_zero, List.set_cons_succ, List.replicate, Option.some.injEq, Prod.mk.injEq, exists_eq_left', exists_eq_left, exists_and_left, and_assoc, and_true, true_and, or_true, true_or, Nat.sub_self, Nat.reduceAdd, Nat.reduceSub, Nat.zero_add, Nat.reduceLT, Nat.lt_add_one, if_true, if_false, ite_true, ite_false, Bool.not_true, Bool.not_false, Bool.false_eq_true, Bool.true_eq_false, eq_self_iff_true, forall_const, true_implies, false_implies, implies_true, reduceCtorEq, and_false, false_and, false_or, or_false, Hd.fz.injEq, PyData.int.injEq, PyData.list.injEq, PyData.tuple.injEq, PyData.bool.injEq]
    refine call_draw hw3 rfl (by omega) fun w4 r4 hw4 g3 g4 => ?_
    simp only [e0, h0, h1, hB, wSs, wS, wE, wA, wB, wT, wO, wI, endPt, ini, vw_fz, vw_tm, vw_sl, vws, dat_d, dat_l, dat_o, pvw_fz, pvw_fzL, pvw_mls, hd_fz, hd_fzL, hd_mls, kid_fz, kid_tm, kidsOf, frz_fz, frz_tm, frz_sl, kid_sl, frzs, setAll, toD_fzL, toD_mls, toD_fz, st_fz, st_tm, st_sl, seq_dl, seq_dt, seq_l, asL_dl, asL_l, asL_dt, asT_dt, asT_dl, asT_l, isiB_some, isiV_b, isiV_i, isiV_s, isiV_l, isiV_t, isiV_d, isBB, isII, isSS, isLL, isTT, isDD, isB_fz, bop_add, bop_sub, bop_mul, bop_div, bop_mod, bop_pow, bop_shl, bop_shr, bop_and, bop_or, bop_xor, cop_eq, cop_ne, cop_eqS, cop_neS, cop_lt, cop_le, cop_gt, cop_ge, cop_is, bip_len, bip_abs, bip_intI, bip_intB, bip_tup, bip_lst, bip_repr, ixp_l, ixp_t, slp_dl, slp_l, slp_dt, atI_0, atI_1, atI_2, atI_cast, Es.len, asg_nm, asg_tp, asgs_nil, end0, end1, prep_nil, prep_fz, prep_tm, pickS, pickD, Hd.into, wipeL, List.map_nil, List.map_cons, List.nil_append, List.cons_append, List.length_nil, List.length_cons, List.getElem?_cons_zero, List.getElem?_cons_succ, List.getElem?_nil, List.set_cons_zero, List.set_cons_succ, List.replicate, Option.some.injEq, Prod.mk.injEq, exists_eq_left', exists_eq_left, exists_and_left, and_assoc, and_true, true_and, or_true, true_or, Nat.sub_self, Nat.reduceAdd, Nat.reduceSub, Nat.zero_add, Nat.reduceLT, Nat.lt_add_one, if_true, if_false, ite_true, ite_false, Bool.not_true, Bool.not_false, Bool.false_eq_true, Bool.true_eq_false, eq_self_iff_true, forall_const, true_implies, false_implies, implies_true, reduceCtorEq, and_false, false_and, false_or, or_false, Hd.fz.injEq, PyData.int.injEq, PyData.list.injEq, PyData.tuple.injEq, PyData.bool.injEq]
    exact hR w4 _ _ hw4 ⟨_, rfl, by unfold big; omega, by unfold big; omega⟩
  simp only [e0, backL, wSs, wS, wE, wA, wB, wT, wO, wI, endPt, ini, vw_fz, vw_tm, vw_sl, vws, dat_d, dat_l, dat_o, pvw_fz, pvw_fzL, pvw_mls, hd_fz, hd_fzL, hd_mls, kid_fz, kid_tm, kidsOf, frz_fz, frz_tm, frz_sl, kid_sl, frzs, setAll, toD_fzL, toD_mls, toD_fz, st_fz, st_tm, st_sl, seq_dl, seq_dt, seq_l, asL_dl, asL_l, asL_dt, asT_dt, asT_dl, asT_l, isiB_some, isiV_b, isiV_i, isiV_s, isiV_l, isiV_t, isiV_d, isBB, isII, isSS, isLL, isTT, isDD, isB_fz, bop_add, bop_sub, bop_mul, bop_div, bop_mod, bop_pow, bop_shl, bop_shr, bop_and, bop_or, bop_xor, cop_eq, cop_ne, cop_eqS, cop_neS, cop_lt, cop_le, cop_gt, cop_ge, cop_is, bip_len, bip_abs, bip_intI, bip_intB, bip_tup, bip_lst, bip_repr, ixp_l, ixp_t, slp_dl, slp_l, slp_dt, atI_0, atI_1, atI_2, atI_cast, Es.len, asg_nm, asg_tp, asgs_nil, end0, end1, prep_nil, prep_fz, prep_tm, pickS, pickD, Hd.into, wipeL, List.map_nil, List.map_cons, List.nil_append, List.cons_append, List.length_nil, List.length_cons, List.getElem?_cons_zero, List.getElem?_cons_succ, List.getElem?_nil, List.set_cons_zero, List.set_cons_succ, List.replicate, Option.some.injEq, Prod.mk.injEq, exists_eq_left', exists_eq_left, exists_and_left, and_assoc, and_true, true_and, or_true, true_or, Nat.sub_self, Nat.reduceAdd, Nat.reduceSub, Nat.zero_add, Nat.reduceLT, Nat.lt_add_one, if_true, if_false, ite_true, ite_false, Bool.not_true, Bool.not_false, Bool.false_eq_true, Bool.true_eq_false, eq_self_iff_true, forall_const, true_implies, false_implies, implies_true, reduceCtorEq, and_false, false_and, false_or, or_false, Hd.fz.injEq, PyData.int.injEq, PyData.list.injEq, PyData.tuple.injEq, PyData.bool.injEq]
  obtain ⟨r, rfl, hr⟩ := ints_of hp
  have hrl : r.length = n := by rw [List.length_map, hrg] at hl; exact hl
  have perm : ∀ ms : List Int, ms.Perm r → ms.length = n ∧ RowOk ms := fun ms h => ⟨by rw [h.length_eq]; exact hrl, fun x hx => hr x (h.mem_iff.mp hx)⟩
  unfold sh_l_row_10
  simp only [e0, h0, h2, hB, wSs, wS, wE, wA, wB, wT, wO, wI, endPt, ini, vw_fz, vw_tm, vw_sl, vws, dat_d, dat_l, dat_o, pvw_fz, pvw_fzL, pvw_mls, hd_fz, hd_fzL, hd_mls, kid_fz, kid_tm, kidsOf, frz_fz, frz_tm, frz_sl, kid_sl, frzs, setAll, toD_fzL, toD_mls, toD_fz, st_fz, st_tm, st_sl, seq_dl, seq_dt, seq_l, asL_dl, asL_l, asL_dt, asT_dt, asT_dl, asT_l, isiB_some, isiV_b, isiV_i, isiV_s, isiV_l, isiV_t, isiV_d, isBB, isII, isSS, isLL, isTT, isDD, isB_fz, bop_add, bop_sub, bop_mul, bop_div, bop_mod, bop_pow, bop_shl, bop_shr, bop_and, bop_or, bop_xor, cop_eq, cop_ne, cop_eqS, cop_neS, cop_lt, cop_le, cop_gt, cop_ge, cop_is, bip_len, bip_abs, bip_intI, bip_intB, bip_tup, bip_lst, bip_repr, ixp_l, ixp_t, slp_dl, slp_l, slp_dt, atI_0, atI_1, atI_2, atI_cast, Es.len, asg_nm, asg_tp, asgs_nil, end0, end1, prep_nil, prep_fz, prep_tm, pickS, pickD, Hd.into, wipeL, List.map_nil, List.map_cons, List.nil_append, List.cons_append, List.length_nil, List.length_cons, List.getElem?_cons_zero, List.getElem?_cons_succ, List.getElem?_nil, List.set_cons_zero, List.set_cons_succ, List.replicate, Option.some.injEq, Prod.mk.injEq, exists_eq_left', exists_eq_left, exists_and_left, and_assoc, and_true, true_and, or_true, true_or, Nat.sub_self, Nat.reduceAdd, Nat.reduceSub, Nat.zero_add, Nat.reduceLT, Nat.lt_add_one, if_true, if_false, ite_true, ite_false, Bool.not_true, Bool.not_false, Bool.false_eq_true, Bool.true_eq_false, eq_self_iff_true, forall_const, true_implies, false_implies, implies_true, reduceCtorEq, and_false, false_and, false_or, or_false, Hd.fz.injEq, PyData.int.injEq, PyData.list.injEq, PyData.tuple.injEq, PyData.bool.injEq]
  refine ⟨fun c5 => ?_, fun c5 => ?_⟩
  · unfold sh_l_row_11
    simp only [e0, h0, h2, hB, wSs, wS, wE, wA, wB, wT, wO, wI, endPt, ini, vw_fz, vw_tm, vw_sl, vws, dat_d, dat_l, dat_o, pvw_fz, pvw_fzL, pvw_mls, hd_fz, hd_fzL, hd_mls, kid_fz, kid_tm, kidsOf, frz_fz, frz_tm, frz_sl, kid_sl, frzs, setAll, toD_fzL, toD_mls, toD_fz, st_fz, st_tm, st_sl, seq_dl, seq_dt, seq_l, asL_dl, asL_l, asL_dt, asT_dt, asT_dl, asT_l, isiB_some, isiV_b, isiV_i, isiV_s, isiV_l, isiV_t, isiV_d, isBB, isII, isSS, isLL, isTT, isDD, isB_fz, bop_add, bop_sub, bop_mul, bop_div, bop_mod, bop_pow, bop_shl, bop_shr, bop_and, bop_or, bop_xor, cop_eq, cop_ne, cop_eqS, cop_neS, cop_lt, cop_le, cop_gt, cop_ge, cop_is, bip_len, bip_abs, bip_intI, bip_intB, bip_tup, bip_lst, bip_repr, ixp_l, ixp_t, slp_dl, slp_l, slp_dt, atI_0, atI_1, atI_2, atI_cast, Es.len, asg_nm, asg_tp, asgs_nil, end0, end1, prep_nil, prep_fz, prep_tm, pickS, pickD, Hd.into, wipeL, List.map_nil, List.map_cons, List.nil_append, List.cons_append, List.length_nil, List.length_cons, List.getElem?_cons_zero, List.getElem?_cons_succ, List.getElem?_nil, List.set_cons_zero, List.set_cons_succ, List.replicate, Option.some.injEq, Prod.mk.injEq, exists_eq_left', exists_eq_left, exists_and_left, and_assoc, and_true, true_and, or_true, true_or, Nat.sub_self, Nat.reduceAdd, Nat.reduceSub, Nat.zero_add, Nat.reduceLT, Nat.lt_add_one, if_true, if_false, ite_true, ite_false, Bool.not_true, Bool.not_false, Bool.false_eq_true, Bool.true_eq_false, eq_self_iff_true, forall_const, true_implies, false_implies, implies_true, reduceCtorEq, and_false, false_and, false_or, or_false, Hd.fz.injEq, PyData.int.injEq, PyData.list.injEq, PyData.tuple.injEq, PyData.bool.injEq]
    refine ⟨_, r, rfl, rfl, fun ms h1 h2 => ?_⟩
    simp only [e0, wSs, wS, wE, wA, wB, wT, wO, wI, endPt, ini, vw_fz, vw_tm, vw_sl, vws, dat_d, dat_l, dat_o, pvw_fz, pvw_fzL, pvw_mls, hd_fz, hd_fzL, hd_mls, kid_fz, kid_tm, kidsOf, frz_fz, frz_tm, frz_sl, kid_sl, frzs, setAll, toD_fzL, toD_mls, toD_fz, st_fz, st_tm, st_sl, seq_dl, seq_dt, seq_l, asL_dl, asL_l, asL_dt, asT_dt, asT_dl, asT_l, isiB_some, isiV_b, isiV_i, isiV_s, isiV_l, isiV_t, isiV_d, isBB, isII, isSS, isLL, isTT, isDD, isB_fz, bop_add, bop_sub, bop_mul, bop_div, bop_mod, bop_pow, bop_shl, bop_shr, bop_and, bop_or, bop_xor, cop_eq, cop_ne, cop_eqS, cop_neS, cop_lt, cop_le, cop_gt, cop_ge, cop_is, bip_len, bip_abs, bip_intI, bip_intB, bip_tup, bip_lst, bip_repr, ixp_l, ixp_t, slp_dl, slp_l, slp_dt, atI_0, atI_1, atI_2, atI_cast, Es.len, asg_nm, asg_tp, asgs_nil, end0, end1, prep_nil, prep_fz, prep_tm, pickS, pickD, Hd.into, wipeL, List.map_nil, List.map_cons, List.nil_append, List.cons_append, List.length_nil, List.length_cons, List.getElem?_cons_zero, List.getElem?_cons_succ, List.getElem?_nil, List.set_cons_zero, List.set_cons_succ, List.replicate, Option.some.injEq, Prod.mk.injEq, exists_eq_left', exists_eq_left, exists_and_left, and_assoc, and_true, true_and, or_true, true_or, Nat.sub_self, Nat.reduceAdd, Nat.reduceSub, Nat.zero_add, Nat.reduceLT, Nat.lt_add_one, if_true, if_false, ite_true, ite_false, Bool.not_true, Bool.not_false, Bool.false_eq_true, Bool.true_eq_false, eq_self_iff_true, forall_const, true_implies, false_implies, implies_true, reduceCtorEq, and_false, false_and, false_or, or_false, Hd.fz.injEq, PyData.int.injEq, PyData.list.injEq, PyData.tuple.injEq, PyData.bool.injEq]
    exact hq w' ms hw' (perm ms h1).1 (perm ms h1).2
  · unfold sh_l_row_12
    simp only [e0, h0, h2, hB, wSs, wS, wE, wA, wB, wT, wO, wI, endPt, ini, vw_fz, vw_tm, vw_sl, vws, dat_d, dat_l, dat_o, pvw_fz, pvw_fzL, pvw_mls, hd_fz, hd_fzL, hd_mls, kid_fz, kid_tm, kidsOf, frz_fz, frz_tm, frz_sl, kid_sl, frzs, setAll, toD_fzL, toD_mls, toD_fz, st_fz, st_tm, st_sl, seq_dl, seq_dt, seq_l, asL_dl, asL_l, asL_dt, asT_dt, asT_dl, asT_l, isiB_some, isiV_b, isiV_i, isiV_s, isiV_l, isiV_t, isiV_d, isBB, isII, isSS, isLL, isTT, isDD, isB_fz, bop_add, bop_sub, bop_mul, bop_div, bop_mod, bop_pow, bop_shl, bop_shr, bop_and, bop_or, bop_xor, cop_eq, cop_ne, cop_eqS, cop_neS, cop_lt, cop_le, cop_gt, cop_ge, cop_is, bip_len, bip_abs, bip_intI, bip_intB, bip_tup, bip_lst, bip_repr, ixp_l, ixp_t, slp_dl, slp_l, slp_dt, atI_0, atI_1, atI_2, atI_cast, Es.len, asg_nm, asg_tp, asgs_nil, end0, end1, prep_nil, prep_fz, prep_tm, pickS, pickD, Hd.into, wipeL, List.map_nil, List.map_cons, List.nil_append, List.cons_append, List.length_nil, List.length_cons, List.getElem?_cons_zero, List.getElem?_cons_succ, List.getElem?_nil, List.set_cons_zero, List.set_cons_succ, List.replicate, Option.some.injEq, Prod.mk.injEq, exists_eq_left', exists_eq_left, exists_and_left, and_assoc, and_true, true_and, or_true, true_or, Nat.sub_self, Nat.reduceAdd, Nat.reduceSub, Nat.zero_add, Nat.reduceLT, Nat.lt_add_one, if_true, if_false, ite_true, ite_false, Bool.not_true, Bool.not_false, Bool.false_eq_true, Bool.true_eq_false, eq_self_iff_true, forall_const, true_implies, false_implies, implies_true, reduceCtorEq, and_false, false_and, false_or, or_false, Hd.fz.injEq, PyData.int.injEq, PyData.list.injEq, PyData.tuple.injEq, PyData.bool.injEq]
    refine ⟨fun c6 => ?_, fun c6 => ?_⟩
    · refine ⟨_, r, rfl, rfl, fun ms h1 h2 => ?_⟩
      simp only [e0, ← List.map_reverse, wSs, wS, wE, wA, wB, wT, wO, wI, endPt, ini, vw_fz, vw_tm, vw_sl, vws, dat_d, dat_l, dat_o, pvw_fz, pvw_fzL, pvw_mls, hd_fz, hd_fzL, hd_mls, kid_fz, kid_tm, kidsOf, frz_fz, frz_tm, frz_sl, kid_sl, frzs, setAll, toD_fzL, toD_mls, toD_fz, st_fz, st_tm, st_sl, seq_dl, seq_dt, seq_l, asL_dl, asL_l, asL_dt, asT_dt, asT_dl, asT_l, isiB_some, isiV_b, isiV_i, isiV_s, isiV_l, isiV_t, isiV_d, isBB, isII, isSS, isLL, isTT, isDD, isB_fz, bop_add, bop_sub, bop_mul, bop_div, bop_mod, bop_pow, bop_shl, bop_shr, bop_and, bop_or, bop_xor, cop_eq, cop_ne, cop_eqS, cop_neS, cop_lt, cop_le, cop_gt, cop_ge, cop_is, bip_len, bip_abs, bip_intI, bip_intB, bip_tup, bip_lst, bip_repr, ixp_l, ixp_t, slp_dl, slp_l, slp_dt, atI_0, atI_1, atI_2, atI_cast, Es.len, asg_nm, asg_tp, asgs_nil, end0, end1, prep_nil, prep_fz, prep_tm, pickS, pickD, Hd.into, wipeL, List.map_nil, List.map_cons, List.nil_append, List.cons_append, List.length_nil, List.length_cons, List.getElem?_cons_zero, List.getElem?_cons_succ, List.getElem?_nil, List.set_cons_zero, List.set_cons_succ, List.replicate, Option.some.injEq, Prod.mk.injEq, exists_eq_left', exists_eq_left, exists_and_left, and_assoc, and_true, true_and, or_true, true_or, Nat.sub_self, Nat.reduceAdd, Nat.reduceSub, Nat.zero_add, Nat.reduceLT, Nat.lt_add_one, if_true, if_false, ite_true, ite_false, Bool.not_true, Bool.not_false, Bool.false_eq_true, Bool.true_eq_false, eq_self_iff_true, forall_const, true_implies, false_implies, implies_true, reduceCtorEq, and_false, false_and, false_or, or_false, Hd.fz.injEq, PyData.int.injEq, PyData.list.injEq, PyData.tuple.injEq, PyData.bool.injEq]
      exact hq w' ms.reverse hw' (perm _ ((List.reverse_perm ms).trans h1)).1 (perm _ ((List.reverse_perm ms).trans h1)).2
    · exact hq w' r hw' hrl hr

/-! ### networks -/
theorem NetOk.sub {n : Nat} {g h : Net} (ok : NetOk n g) (s : ∀ x ∈ h, x ∈ g) : NetOk n h := fun x hx => ok x (s x hx)
theorem NetOk.add {n : Nat} {g h : Net} (ok : NetOk n g) (ok2 : NetOk n h) : NetOk n (g ++ h) := fun x hx => by
  rcases List.mem_append.mp hx with q | q
  · exact ok x q
  · exact ok2 x q
theorem NetOk.one {n i j : Nat} (h : i < j) (h2 : j < n) : NetOk n [(i, j)] := fun x hx => by rw [List.mem_singleton.mp hx]; exact ⟨h, h2⟩
def nbD : PyData → PyData
  | .int p => .tuple [.int p, .int (p + 1)]
  | d => d
def pass (n : Nat) : Net := (List.range (n - 1)).map fun p => (p, p + 1)
theorem pass_ok (n : Nat) : NetOk n (pass n) := fun x hx => by
  obtain ⟨p, hp, rfl⟩ := List.mem_map.mp hx
  have := List.mem_range.mp hp
  exact ⟨by omega, by omega⟩
def F_net : Fn := ⟨1, fun xs ds Q _ => ∃ (w : PV) (n most : Nat), xs = [w] ∧ ds = [.int n, .int most] ∧ Well w ∧ 2 ≤ n ∧ n ≤ 24 ∧ most ≤ 1000 ∧ ∀ (w' : PV) (g : Net), Well w' → g.length ≤ most → NetOk n g → Q (.fz (netD g)) [w']⟩
theorem k_net (Φ : Fns) (h0 : Φ "_law_draw" = F_draw) : bodyOk Φ F_net 8 3 sh_l_net_0 := by
  intro xs ds QQ XX hx hd hs
  obtain ⟨w, n, most, rfl, rfl, hw, hn1, hn2, hm, hq⟩ := hs
  have e0 : F_net.nio = 1 := rfl
  obtain ⟨ns, st, t, hns, rfl⟩ := id hw
  unfold sh_l_net_0
  simp only [e0, h0, wSs, wS, wE, wA, wB, wT, wO, wI, endPt, ini, vw_fz, vw_tm, vw_sl, vws, dat_d, dat_l, dat_o, pvw_fz, pvw_fzL, pvw_mls, hd_fz, hd_fzL, hd_mls, kid_fz, kid_tm, kidsOf, frz_fz, frz_tm, frz_sl, kid_sl, frzs, setAll, toD_fzL, toD_mls, toD_fz, st_fz, st_tm, st_sl, seq_dl, seq_dt, seq_l, asL_dl, asL_l, asL_dt, asT_dt, asT_dl, asT_l, isiB_some, isiV_b, isiV_i, isiV_s, isiV_l, isiV_t, isiV_d, isBB, isII, isSS, isLL, isTT, isDD, isB_fz, bop_add, bop_sub, bop_mul, bop_div, bop_mod, bop_pow, bop_shl, bop_shr, bop_and, bop_or, bop_xor, cop_eq, cop_ne, cop_eqS, cop_neS, cop_lt, cop_le, cop_gt, cop_ge, cop_is, bip_len, bip_abs, bip_intI, bip_intB, bip_tup, bip_lst, bip_repr, ixp_l, ixp_t, slp_dl, slp_l, slp_dt, atI_0, atI_1, atI_2, atI_cast, Es.len, asg_nm, asg_tp, asgs_nil, end0, end1, prep_nil, prep_fz, prep_tm, pickS, pickD, Hd.into, wipeL, List.map_nil, List.map_cons, List.nil_append, List.cons_append, List.length_nil, List.length_cons, List.getElem?_cons_zero, List.getElem?_cons_succ, List.getElem?_nil, List.set_cons_zero, List.set_cons_succ, List.replicate, Option.some.injEq, Prod.mk.injEq, exists_eq_left', exists_eq_left, exists_and_left, and_assoc, and_true, true_and, or_true, true_or, Nat.sub_self, Nat.reduceAdd, Nat.reduceSub, Nat.zero_add, Nat.reduceLT, Nat.lt_add_one, if_true, if_false, ite_true, ite_false, Bool.not_true, Bool.not_false, Bool.false_eq_true, Bool.true_eq_false, eq_self_iff_true, forall_const, true_implies, false_implies, implies_true, reduceCtorEq, and_false, false_and, false_or, or_false, Hd.fz.injEq, PyData.int.injEq, PyData.list.injEq, PyData.tuple.injEq, PyData.bool.injEq]
  refine call_draw hw rfl (by omega) fun w1 way hw1 _ _ => ?_
  obtain ⟨ns1, st1, t1, hns1, rfl⟩ := id hw1
  simp only [e0, h0, wSs, wS, wE, wA, wB, wT, wO, wI, endPt, ini, vw_fz, vw_tm, vw_sl, vws, dat_d, dat_l, dat_o, pvw_fz, pvw_fzL, pvw_mls, hd_fz, hd_fzL, hd_mls, kid_fz, kid_tm, kidsOf, frz_fz, frz_tm, frz_sl, kid_sl, frzs, setAll, toD_fzL, toD_mls, toD_fz, st_fz, st_tm, st_sl, seq_dl, seq_dt, seq_l, asL_dl, asL_l, asL_dt, asT_dt, asT_dl, asT_l, isiB_some, isiV_b, isiV_i, isiV_s, isiV_l, isiV_t, isiV_d, isBB, isII, isSS, isLL, isTT, isDD, isB_fz, bop_add, bop_sub, bop_mul, bop_div, bop_mod, bop_pow, bop_shl, bop_shr, bop_and, bop_or, bop_xor, cop_eq, cop_ne, cop_eqS, cop_neS, cop_lt, cop_le, cop_gt, cop_ge, cop_is, bip_len, bip_abs, bip_intI, bip_intB, bip_tup, bip_lst, bip_repr, ixp_l, ixp_t, slp_dl, slp_l, slp_dt, atI_0, atI_1, atI_2, atI_cast, Es.len, asg_nm, asg_tp, asgs_nil, end0, end1, prep_nil, prep_fz, prep_tm, pickS, pickD, Hd.into, wipeL, List.map_nil, List.map_cons, List.nil_append, List.cons_append, List.length_nil, List.length_cons, List.getElem?_cons_zero, List.getElem?_cons_succ, List.getElem?_nil, List.set_cons_zero, List.set_cons_succ, List.replicate, Option.some.injEq, Prod.mk.injEq, exists_eq_left', exists_eq_left, exists_and_left, and_assoc, and_true, true_and, or_true, true_or, Nat.sub_self, Nat.reduceAdd, Nat.reduceSub, Nat.zero_add, Nat.reduceLT, Nat.lt_add_one, if_true, if_false, ite_true, ite_false, Bool.not_true, Bool.not_false, Bool.false_eq_true, Bool.true_eq_false, eq_self_iff_true, forall_const, true_implies, false_implies, implies_true, reduceCtorEq, and_false, false_and, false_or, or_false, Hd.fz.injEq, PyData.int.injEq, PyData.list.injEq, PyData.tuple.injEq, PyData.bool.injEq]
  refine ⟨by decide, by simp, ?_⟩
  unfold sh_l_net_1
  simp only [e0, h0, wSs, wS, wE, wA, wB, wT, wO, wI, endPt, ini, vw_fz, vw_tm, vw_sl, vws, dat_d, dat_l, dat_o, pvw_fz, pvw_fzL, pvw_mls, hd_fz, hd_fzL, hd_mls, kid_fz, kid_tm, kidsOf, frz_fz, frz_tm, frz_sl, kid_sl, frzs, setAll, toD_fzL, toD_mls, toD_fz, st_fz, st_tm, st_sl, seq_dl, seq_dt, seq_l, asL_dl, asL_l, asL_dt, asT_dt, asT_dl, asT_l, isiB_some, isiV_b, isiV_i, isiV_s, isiV_l, isiV_t, isiV_d, isBB, isII, isSS, isLL, isTT, isDD, isB_fz, bop_add, bop_sub, bop_mul, bop_div, bop_mod, bop_pow, bop_shl, bop_shr, bop_and, bop_or, bop_xor, cop_eq, cop_ne, cop_eqS, cop_neS, cop_lt, cop_le, cop_gt, cop_ge, cop_is, bip_len, bip_abs, bip_intI, bip_intB, bip_tup, bip_lst, bip_repr, ixp_l, ixp_t, slp_dl, slp_l, slp_dt, atI_0, atI_1, atI_2, atI_cast, Es.len, asg_nm, asg_tp, asgs_nil, end0, end1, prep_nil, prep_fz, prep_tm, pickS, pickD, Hd.into, wipeL, List.map_nil, List.map_cons, List.nil_append, List.cons_append, List.length_nil, List.length_cons, List.getElem?_cons_zero, List.getElem?_cons_succ, List.getElem?_nil, List.set_cons_zero, List.set_cons_succ, List.replicate, Option.some.injEq, Prod.mk.injEq, exists_eq_left', exists_eq_left, exists_and_left, and_assoc, and_true, true_and, or_true, true_or, Nat.sub_self, Nat.reduceAdd, Nat.reduceSub, Nat.zero_add, Nat.reduceLT, Nat.lt_add_one, if_true, if_false, ite_true, ite_false, Bool.not_true, Bool.not_false, Bool.false_eq_true, Bool.true_eq_false, eq_self_iff_true, forall_const, true_implies, false_implies, implies_true, reduceCtorEq, and_false, false_and, false_or, or_false, Hd.fz.injEq, PyData.int.injEq, PyData.list.injEq, PyData.tuple.injEq, PyData.bool.injEq]
  refine call_draw hw1 rfl (by omega) fun w2 cnt hw2 g1 g2 => ?_
  obtain ⟨ns2, st2, t2, hns2, rfl⟩ := id hw2
  obtain ⟨c, rfl⟩ := Int.eq_ofNat_of_zero_le g1
  have hc : c ≤ most := by omega
  simp only [e0, h0, wSs, wS, wE, wA, wB, wT, wO, wI, endPt, ini, vw_fz, vw_tm, vw_sl, vws, dat_d, dat_l, dat_o, pvw_fz, pvw_fzL, pvw_mls, hd_fz, hd_fzL, hd_mls, kid_fz, kid_tm, kidsOf, frz_fz, frz_tm, frz_sl, kid_sl, frzs, setAll, toD_fzL, toD_mls, toD_fz, st_fz, st_tm, st_sl, seq_dl, seq_dt, seq_l, asL_dl, asL_l, asL_dt, asT_dt, asT_dl, asT_l, isiB_some, isiV_b, isiV_i, isiV_s, isiV_l, isiV_t, isiV_d, isBB, isII, isSS, isLL, isTT, isDD, isB_fz, bop_add, bop_sub, bop_mul, bop_div, bop_mod, bop_pow, bop_shl, bop_shr, bop_and, bop_or, bop_xor, cop_eq, cop_ne, cop_eqS, cop_neS, cop_lt, cop_le, cop_gt, cop_ge, cop_is, bip_len, bip_abs, bip_intI, bip_intB, bip_tup, bip_lst, bip_repr, ixp_l, ixp_t, slp_dl, slp_l, slp_dt, atI_0, atI_1, atI_2, atI_cast, Es.len, asg_nm, asg_tp, asgs_nil, end0, end1, prep_nil, prep_fz, prep_tm, pickS, pickD, Hd.into, wipeL, List.map_nil, List.map_cons, List.nil_append, List.cons_append, List.length_nil, List.length_cons, List.getElem?_cons_zero, List.getElem?_cons_succ, List.getElem?_nil, List.set_cons_zero, List.set_cons_succ, List.replicate, Option.some.injEq, Prod.mk.injEq, exists_eq_left', exists_eq_left, exists_and_left, and_assoc, and_true, true_and, or_true, true_or, Nat.sub_self, Nat.reduceAdd, Nat.reduceSub, Nat.zero_add, Nat.reduceLT, Nat.lt_add_one, if_true, if_false, ite_true, ite_false, Bool.not_true, Bool.not_false, Bool.false_eq_true, Bool.true_eq_false, eq_self_iff_true, forall_const, true_implies, false_implies, implies_true, reduceCtorEq, and_false, false_and, false_or, or_false, Hd.fz.injEq, PyData.int.injEq, PyData.list.injEq, PyData.tuple.injEq, PyData.bool.injEq]
  unfold sh_l_net_2
  rw [wSs]
  refine whl_ind (fun m L => ∃ (w : PV) (g : Net) (a b : Option PyData), Well w ∧ m = c - g.length ∧ g.length ≤ 1100 ∧ NetOk n g ∧ L = [some w, some (.fz (.int n)), some (.fz (.int most)), some (.fz (.int c)), some (.fz (.int way)), some (.mls ((g.map prD).map .fz)), a.map .fz, b.map .fz]) _ ⟨_, [], none, none, hw2, rfl, by simp, fun x hx => by simp at hx, rfl⟩ ?_
  rintro m L N ⟨w, g, a, b, hw, rfl, hgl, hg, rfl⟩ hN
  obtain ⟨ns, st, t, hns, rfl⟩ := id hw
  simp only [e0, h0, List.length_map, wSs, wS, wE, wA, wB, wT, wO, wI, endPt, ini, vw_fz, vw_tm, vw_sl, vws, dat_d, dat_l, dat_o, pvw_fz, pvw_fzL, pvw_mls, hd_fz, hd_fzL, hd_mls, kid_fz, kid_tm, kidsOf, frz_fz, frz_tm, frz_sl, kid_sl, frzs, setAll, toD_fzL, toD_mls, toD_fz, st_fz, st_tm, st_sl, seq_dl, seq_dt, seq_l, asL_dl, asL_l, asL_dt, asT_dt, asT_dl, asT_l, isiB_some, isiV_b, isiV_i, isiV_s, isiV_l, isiV_t, isiV_d, isBB, isII, isSS, isLL, isTT, isDD, isB_fz, bop_add, bop_sub, bop_mul, bop_div, bop_mod, bop_pow, bop_shl, bop_shr, bop_and, bop_or, bop_xor, cop_eq, cop_ne, cop_eqS, cop_neS, cop_lt, cop_le, cop_gt, cop_ge, cop_is, bip_len, bip_abs, bip_intI, bip_intB, bip_tup, bip_lst, bip_repr, ixp_l, ixp_t, slp_dl, slp_l, slp_dt, atI_0, atI_1, atI_2, atI_cast, Es.len, asg_nm, asg_tp, asgs_nil, end0, end1, prep_nil, prep_fz, prep_tm, pickS, pickD, Hd.into, wipeL, List.map_nil, List.map_cons, List.nil_append, List.cons_append, List.length_nil, List.length_cons, List.getElem?_cons_zero, List.getElem?_cons_succ, List.getElem?_nil, List.set_cons_zero, List.set_cons_succ, List.replicate, Option.some.injEq, Prod.mk.injEq, exists_eq_left', exists_eq_left, exists_and_left, and_assoc, and_true, true_and, or_true, true_or, Nat.sub_self, Nat.reduceAdd, Nat.reduceSub, Nat.zero_add, Nat.reduceLT, Nat.lt_add_one, if_true, if_false, ite_true, ite_false, Bool.not_true, Bool.not_false, Bool.false_eq_true, Bool.true_eq_false, eq_self_iff_true, forall_const, true_implies, false_implies, implies_true, reduceCtorEq, and_false, false_and, false_or, or_false, Hd.fz.injEq, PyData.int.injEq, PyData.list.injEq, PyData.tuple.injEq, PyData.bool.injEq]
  refine ⟨fun c1 => ?_, fun c1 => ?_⟩
  · have hlt : g.length < c := by simpa using c1
    have next : ∀ (w' : PV) (h : Net) (a b : Option PyData), Well w' → 0 < h.length → h.length ≤ 50 → NetOk n h → N [some w', some (.fz (.int n)), some (.fz (.int most)), some (.fz (.int c)), some (.fz (.int way)), some (.mls (((g ++ h).map prD).map .fz)), a.map .fz, b.map .fz] := fun w' h a b hw' h1 h2 h3 =>
      hN _ _ (by rw [List.length_append]; omega) ⟨w', g ++ h, a, b, hw', rfl, by rw [List.length_append]; omega, hg.add h3, rfl⟩
    unfold sh_l_net_3
    simp only [e0, h0, wSs, wS, wE, wA, wB, wT, wO, wI, endPt, ini, vw_fz, vw_tm, vw_sl, vws, dat_d, dat_l, dat_o, pvw_fz, pvw_fzL, pvw_mls, hd_fz, hd_fzL, hd_mls, kid_fz, kid_tm, kidsOf, frz_fz, frz_tm, frz_sl, kid_sl, frzs, setAll, toD_fzL, toD_mls, toD_fz, st_fz, st_tm, st_sl, seq_dl, seq_dt, seq_l, asL_dl, asL_l, asL_dt, asT_dt, asT_dl, asT_l, isiB_some, isiV_b, isiV_i, isiV_s, isiV_l, isiV_t, isiV_d, isBB, isII, isSS, isLL, isTT, isDD, isB_fz, bop_add, bop_sub, bop_mul, bop_div, bop_mod, bop_pow, bop_shl, bop_shr, bop_and, bop_or, bop_xor, cop_eq, cop_ne, cop_eqS, cop_neS, cop_lt, cop_le, cop_gt, cop_ge, cop_is, bip_len, bip_abs, bip_intI, bip_intB, bip_tup, bip_lst, bip_repr, ixp_l, ixp_t, slp_dl, slp_l, slp_dt, atI_0, atI_1, atI_2, atI_cast, Es.len, asg_nm, asg_tp, asgs_nil, end0, end1, prep_nil, prep_fz, prep_tm, pickS, pickD, Hd.into, wipeL, List.map_nil, List.map_cons, List.nil_append, List.cons_append, List.length_nil, List.length_cons, List.getElem?_cons_zero, List.getElem?_cons_succ, List.getElem?_nil, List.set_cons_zero, List.set_cons_succ, List.replicate, Option.some.injEq, Prod.mk.injEq, exists_eq_left', exists_eq_left, exists_and_left, and_assoc, and_true, true_and, or_true, true_or, Nat.sub_self, Nat.reduceAdd, Nat.reduceSub, Nat.zero_add, Nat.reduceLT, Nat.lt_add_one, if_true, if_false, ite_true, ite_false, Bool.not_true, Bool.not_false, Bool.false_eq_true, Bool.true_eq_false, eq_self_iff_true, forall_const, true_implies, false_implies, implies_true, reduceCtorEq, and_false, false_and, false_or, or_false, Hd.fz.injEq, PyData.int.injEq, PyData.list.injEq, PyData.tuple.injEq, PyData.bool.injEq]
    refine call_draw hw rfl (by omega) fun w3 i hw3 g3 g4 => ?_
    obtain ⟨i, rfl⟩ := Int.eq_ofNat_of_zero_le g3
    have hi : i + 1 < n := by omega
    obtain ⟨ns3, st3, t3, hns3, rfl⟩ := id hw3
    simp only [e0, h0, wSs, wS, wE, wA, wB, wT, wO, wI, endPt, ini, vw_fz, vw_tm, vw_sl, vws, dat_d, dat_l, dat_o, pvw_fz, pvw_fzL, pvw_mls, hd_fz, hd_fzL, hd_mls, kid_fz, kid_tm, kidsOf, frz_fz, frz_tm, frz_sl, kid_sl, frzs, setAll, toD_fzL, toD_mls, toD_fz, st_fz, st_tm, st_sl, seq_dl, seq_dt, seq_l, asL_dl, asL_l, asL_dt, asT_dt, asT_dl, asT_l, isiB_some, isiV_b, isiV_i, isiV_s, isiV_l, isiV_t, isiV_d, isBB, isII, isSS, isLL, isTT, isDD, isB_fz, bop_add, bop_sub, bop_mul, bop_div, bop_mod, bop_pow, bop_shl, bop_shr, bop_and, bop_or, bop_xor, cop_eq, cop_ne, cop_eqS, cop_neS, cop_lt, cop_le, cop_gt, cop_ge, cop_is, bip_len, bip_abs, bip_intI, bip_intB, bip_tup, bip_lst, bip_repr, ixp_l, ixp_t, slp_dl, slp_l, slp_dt, atI_0, atI_1, atI_2, atI_cast, Es.len, asg_nm, asg_tp, asgs_nil, end0, end1, prep_nil, prep_fz, prep_tm, pickS, pickD, Hd.into, wipeL, List.map_nil, List.map_cons, List.nil_append, List.cons_append, List.length_nil, List.length_cons, List.getElem?_cons_zero, List.getElem?_cons_succ, List.getElem?_nil, List.set_cons_zero, List.set_cons_succ, List.replicate, Option.some.injEq, Prod.mk.injEq, exists_eq_left', exists_eq_left, exists_and_left, and_assoc, and_true, true_and, or_true, true_or, Nat.sub_self, Nat.reduceAdd, Nat.reduceSub, Nat.zero_add, Nat.reduceLT, Nat.lt_add_one, if_true, if_false, ite_true, ite_false, Bool.not_true, Bool.not_false, Bool.false_eq_true, Bool.true_eq_false, eq_self_iff_true, forall_const, true_implies, false_implies, implies_true, reduceCtorEq, and_false, false_and, false_or, or_false, Hd.fz.injEq, PyData.int.injEq, PyData.list.injEq, PyData.tuple.injEq, PyData.bool.injEq]
    unfold sh_l_net_4
    simp only [e0, h0, wSs, wS, wE, wA, wB, wT, wO, wI, endPt, ini, vw_fz, vw_tm, vw_sl, vws, dat_d, dat_l, dat_o, pvw_fz, pvw_fzL, pvw_mls, hd_fz, hd_fzL, hd_mls, kid_fz, kid_tm, kidsOf, frz_fz, frz_tm, frz_sl, kid_sl, frzs, setAll, toD_fzL, toD_mls, toD_fz, st_fz, st_tm, st_sl, seq_dl, seq_dt, seq_l, asL_dl, asL_l, asL_dt, asT_dt, asT_dl, asT_l, isiB_some, isiV_b, isiV_i, isiV_s, isiV_l, isiV_t, isiV_d, isBB, isII, isSS, isLL, isTT, isDD, isB_fz, bop_add, bop_sub, bop_mul, bop_div, bop_mod, bop_pow, bop_shl, bop_shr, bop_and, bop_or, bop_xor, cop_eq, cop_ne, cop_eqS, cop_neS, cop_lt, cop_le, cop_gt, cop_ge, cop_is, bip_len, bip_abs, bip_intI, bip_intB, bip_tup, bip_lst, bip_repr, ixp_l, ixp_t, slp_dl, slp_l, slp_dt, atI_0, atI_1, atI_2, atI_cast, Es.len, asg_nm, asg_tp, asgs_nil, end0, end1, prep_nil, prep_fz, prep_tm, pickS, pickD, Hd.into, wipeL, List.map_nil, List.map_cons, List.nil_append, List.cons_append, List.length_nil, List.length_cons, List.getElem?_cons_zero, List.getElem?_cons_succ, List.getElem?_nil, List.set_cons_zero, List.set_cons_succ, List.replicate, Option.some.injEq, Prod.mk.injEq, exists_eq_left', exists_eq_left, exists_and_left, and_assoc, and_true, true_and, or_true, true_or, Nat.sub_self, Nat.reduceAdd, Nat.reduceSub, Nat.zero_add, Nat.reduceLT, Nat.lt_add_one, if_true, if_false, ite_true, ite_false, Bool.not_true, Bool.not_false, Bool.false_eq_true, Bool.true_eq_false, eq_self_iff_true, forall_const, true_implies, false_implies, implies_true, reduceCtorEq, and_false, false_and, false_or, or_false, Hd.fz.injEq, PyData.int.injEq, PyData.list.injEq, PyData.tuple.injEq, PyData.bool.injEq]
    refine ⟨fun c2 => ?_, fun c2 => ?_⟩
    · unfold sh_l_net_5
      simp only [e0, h0, wSs, wS, wE, wA, wB, wT, wO, wI, endPt, ini, vw_fz, vw_tm, vw_sl, vws, dat_d, dat_l, dat_o, pvw_fz, pvw_fzL, pvw_mls, hd_fz, hd_fzL, hd_mls, kid_fz, kid_tm, kidsOf, frz_fz, frz_tm, frz_sl, kid_sl, frzs, setAll, toD_fzL, toD_mls, toD_fz, st_fz, st_tm, st_sl, seq_dl, seq_dt, seq_l, asL_dl, asL_l, asL_dt, asT_dt, asT_dl, asT_l, isiB_some, isiV_b, isiV_i, isiV_s, isiV_l, isiV_t, isiV_d, isBB, isII, isSS, isLL, isTT, isDD, isB_fz, bop_add, bop_sub, bop_mul, bop_div, bop_mod, bop_pow, bop_shl, bop_shr, bop_and, bop_or, bop_xor, cop_eq, cop_ne, cop_eqS, cop_neS, cop_lt, cop_le, cop_gt, cop_ge, cop_is, bip_len, bip_abs, bip_intI, bip_intB, bip_tup, bip_lst, bip_repr, ixp_l, ixp_t, slp_dl, slp_l, slp_dt, atI_0, atI_1, atI_2, atI_cast, Es.len, asg_nm, asg_tp, asgs_nil, end0, end1, prep_nil, prep_fz, prep_tm, pickS, pickD, Hd.into, wipeL, List.map_nil, List.map_cons, List.nil_append, List.cons_append, List.length_nil, List.length_cons, List.getElem?_cons_zero, List.getElem?_cons_succ, List.getElem?_nil, List.set_cons_zero, List.set_cons_succ, List.replicate, Option.some.injEq, Prod.mk.injEq, exists_eq_left', exists_eq_left, exists_and_left, and_assoc, and_true, true_and, or_true, true_or, Nat.sub_self, Nat.reduceAdd, Nat.reduceSub, Nat.zero_add, Nat.reduceLT, Nat.lt_add_one, if_true, if_false, ite_true, ite_false, Bool.not_true, Bool.not_false, Bool.false_eq_true, Bool.true_eq_false, eq_self_iff_true, forall_const, true_implies, false_implies, implies_true, reduceCtorEq, and_false, false_and, false_or, or_false, Hd.fz.injEq, PyData.int.injEq, PyData.list.injEq, PyData.tuple.injEq, PyData.bool.injEq]
      exact and_mid (app_f prD (xs := g) (a := (i, i + 1)) rfl (by omega) (next _ [(i, i + 1)] (some _) b hw3 (by simp) (by simp) (.one (by omega) hi))) (by decide)
    unfold sh_l_net_6
    simp only [e0, h0, wSs, wS, wE, wA, wB, wT, wO, wI, endPt, ini, vw_fz, vw_tm, vw_sl, vws, dat_d, dat_l, dat_o, pvw_fz, pvw_fzL, pvw_mls, hd_fz, hd_fzL, hd_mls, kid_fz, kid_tm, kidsOf, frz_fz, frz_tm, frz_sl, kid_sl, frzs, setAll, toD_fzL, toD_mls, toD_fz, st_fz, st_tm, st_sl, seq_dl, seq_dt, seq_l, asL_dl, asL_l, asL_dt, asT_dt, asT_dl, asT_l, isiB_some, isiV_b, isiV_i, isiV_s, isiV_l, isiV_t, isiV_d, isBB, isII, isSS, isLL, isTT, isDD, isB_fz, bop_add, bop_sub, bop_mul, bop_div, bop_mod, bop_pow, bop_shl, bop_shr, bop_and, bop_or, bop_xor, cop_eq, cop_ne, cop_eqS, cop_neS, cop_lt, cop_le, cop_gt, cop_ge, cop_is, bip_len, bip_abs, bip_intI, bip_intB, bip_tup, bip_lst, bip_repr, ixp_l, ixp_t, slp_dl, slp_l, slp_dt, atI_0, atI_1, atI_2, atI_cast, Es.len, asg_nm, asg_tp, asgs_nil, end0, end1, prep_nil, prep_fz, prep_tm, pickS, pickD, Hd.into, wipeL, List.map_nil, List.map_cons, List.nil_append, List.cons_append, List.length_nil, List.length_cons, List.getElem?_cons_zero, List.getElem?_cons_succ, List.getElem?_nil, List.set_cons_zero, List.set_cons_succ, List.replicate, Option.some.injEq, Prod.mk.injEq, exists_eq_left', exists_eq_left, exists_and_left, and_assoc, and_true, true_and, or_true, true_or, Nat.sub_self, Nat.reduceAdd, Nat.reduceSub, Nat.zero_add, Nat.reduceLT, Nat.lt_add_one, if_true, if_false, ite_true, ite_false, Bool.not_true, Bool.not_false, Bool.false_eq_true, Bool.true_eq_false, eq_self_iff_true, forall_const, true_implies, false_implies, implies_true, reduceCtorEq, and_false, false_and, false_or, or_false, Hd.fz.injEq, PyData.int.injEq, PyData.list.injEq, PyData.tuple.injEq, PyData.bool.injEq]
    refine ⟨fun c3 => ?_, fun c3 => ?_⟩
    · unfold sh_l_net_7
      simp only [e0, h0, wSs, wS, wE, wA, wB, wT, wO, wI, endPt, ini, vw_fz, vw_tm, vw_sl, vws, dat_d, dat_l, dat_o, pvw_fz, pvw_fzL, pvw_mls, hd_fz, hd_fzL, hd_mls, kid_fz, kid_tm, kidsOf, frz_fz, frz_tm, frz_sl, kid_sl, frzs, setAll, toD_fzL, toD_mls, toD_fz, st_fz, st_tm, st_sl, seq_dl, seq_dt, seq_l, asL_dl, asL_l, asL_dt, asT_dt, asT_dl, asT_l, isiB_some, isiV_b, isiV_i, isiV_s, isiV_l, isiV_t, isiV_d, isBB, isII, isSS, isLL, isTT, isDD, isB_fz, bop_add, bop_sub, bop_mul, bop_div, bop_mod, bop_pow, bop_shl, bop_shr, bop_and, bop_or, bop_xor, cop_eq, cop_ne, cop_eqS, cop_neS, cop_lt, cop_le, cop_gt, cop_ge, cop_is, bip_len, bip_abs, bip_intI, bip_intB, bip_tup, bip_lst, bip_repr, ixp_l, ixp_t, slp_dl, slp_l, slp_dt, atI_0, atI_1, atI_2, atI_cast, Es.len, asg_nm, asg_tp, asgs_nil, end0, end1, prep_nil, prep_fz, prep_tm, pickS, pickD, Hd.into, wipeL, List.map_nil, List.map_cons, List.nil_append, List.cons_append, List.length_nil, List.length_cons, List.getElem?_cons_zero, List.getElem?_cons_succ, List.getElem?_nil, List.set_cons_zero, List.set_cons_succ, List.replicate, Option.some.injEq, Prod.mk.injEq, exists_eq_left', exists_eq_left, exists_and_left, and_assoc, and_true, true_and, or_true, true_or, Nat.sub_self, Nat.reduceAdd, Nat.reduceSub, Nat.zero_add, Nat.reduceLT, Nat.lt_add_one, if_true, if_false, ite_true, ite_false, Bool.not_true, Bool.not_false, Bool.false_eq_true, Bool.true_eq_false, eq_self_iff_true, forall_const, true_implies, false_implies, implies_true, reduceCtorEq, and_false, false_and, false_or, or_false, Hd.fz.injEq, PyData.int.injEq, PyData.list.injEq, PyData.tuple.injEq, PyData.bool.injEq]
      refine ⟨isL_sl rfl, by omega, by omega, by omega, ?_⟩
      have hrg : rgD 0 ((n : Int) - 1).toNat = (List.range (n - 1)).map natD := by rw [← rg_range]; congr 1; omega
      rw [hrg]
      refine lc_mapQ nbD (fun d hd R hR => ?_) (by rw [List.length_map, List.length_range]; exact sz_le (by omega)) (by cases b <;> simp [keepFz]) fun L2 hb => ?_
      · obtain ⟨p, _, rfl⟩ := List.mem_map.mp hd
        refine ⟨_, rfl, ?_⟩
        simp only [e0, wSs, wS, wE, wA, wB, wT, wO, wI, endPt, ini, vw_fz, vw_tm, vw_sl, vws, dat_d, dat_l, dat_o, pvw_fz, pvw_fzL, pvw_mls, hd_fz, hd_fzL, hd_mls, kid_fz, kid_tm, kidsOf, frz_fz, frz_tm, frz_sl, kid_sl, frzs, setAll, toD_fzL, toD_mls, toD_fz, st_fz, st_tm, st_sl, seq_dl, seq_dt, seq_l, asL_dl, asL_l, asL_dt, asT_dt, asT_dl, asT_l, isiB_some, isiV_b, isiV_i, isiV_s, isiV_l, isiV_t, isiV_d, isBB, isII, isSS, isLL, isTT, isDD, isB_fz, bop_add, bop_sub, bop_mul, bop_div, bop_mod, bop_pow, bop_shl, bop_shr, bop_and, bop_or, bop_xor, cop_eq, cop_ne, cop_eqS, cop_neS, cop_lt, cop_le, cop_gt, cop_ge, cop_is, bip_len, bip_abs, bip_intI, bip_intB, bip_tup, bip_lst, bip_repr, ixp_l, ixp_t, slp_dl, slp_l, slp_dt, atI_0, atI_1, atI_2, atI_cast, Es.len, asg_nm, asg_tp, asgs_nil, end0, end1, prep_nil, prep_fz, prep_tm, pickS, pickD, Hd.into, wipeL, List.map_nil, List.map_cons, List.nil_append, List.cons_append, List.length_nil, List.length_cons, List.getElem?_cons_zero, List.getElem?_cons_succ, List.getElem?_nil, List.set_cons_zero, List.set_cons_succ, List.replicate, Option.some.injEq, Prod.mk.injEq, exists_eq_left', exists_eq_left, exists_and_left, and_assoc, and_true, true_and, or_true, true_or, Nat.sub_self, Nat.reduceAdd, Nat.reduceSub, Nat.zero_add, Nat.reduceLT, Nat.lt_add_one, if_true, if_false, ite_true, ite_false, Bool.not_true, Bool.not_false, Bool.false_eq_true, Bool.true_eq_false, eq_self_iff_true, forall_const, true_implies, false_implies, implies_true, reduceCtorEq, and_false, false_and, false_or, or_false, Hd.fz.injEq, PyData.int.injEq, PyData.list.injEq, PyData.tuple.injEq, PyData.bool.injEq]
        exact ⟨by decide, hR _ (by cases b <;> rfl)⟩
      · have hp : ((List.range (n - 1)).map natD).map nbD = (pass n).map prD := by rw [pass, List.map_map, List.map_map]; rfl
        simp only [hb, hp, wSs, wS, wE, wA, wB, wT, wO, wI, endPt, ini, vw_fz, vw_tm, vw_sl, vws, dat_d, dat_l, dat_o, pvw_fz, pvw_fzL, pvw_mls, hd_fz, hd_fzL, hd_mls, kid_fz, kid_tm, kidsOf, frz_fz, frz_tm, frz_sl, kid_sl, frzs, setAll, toD_fzL, toD_mls, toD_fz, st_fz, st_tm, st_sl, seq_dl, seq_dt, seq_l, asL_dl, asL_l, asL_dt, asT_dt, asT_dl, asT_l, isiB_some, isiV_b, isiV_i, isiV_s, isiV_l, isiV_t, isiV_d, isBB, isII, isSS, isLL, isTT, isDD, isB_fz, bop_add, bop_sub, bop_mul, bop_div, bop_mod, bop_pow, bop_shl, bop_shr, bop_and, bop_or, bop_xor, cop_eq, cop_ne, cop_eqS, cop_neS, cop_lt, cop_le, cop_gt, cop_ge, cop_is, bip_len, bip_abs, bip_intI, bip_intB, bip_tup, bip_lst, bip_repr, ixp_l, ixp_t, slp_dl, slp_l, slp_dt, atI_0, atI_1, atI_2, atI_cast, Es.len, asg_nm, asg_tp, asgs_nil, end0, end1, prep_nil, prep_fz, prep_tm, pickS, pickD, Hd.into, wipeL, List.map_nil, List.map_cons, List.nil_append, List.cons_append, List.length_nil, List.length_cons, List.getElem?_cons_zero, List.getElem?_cons_succ, List.getElem?_nil, List.set_cons_zero, List.set_cons_succ, List.replicate, Option.some.injEq, Prod.mk.injEq, exists_eq_left', exists_eq_left, exists_and_left, and_assoc, and_true, true_and, or_true, true_or, Nat.sub_self, Nat.reduceAdd, Nat.reduceSub, Nat.zero_add, Nat.reduceLT, Nat.lt_add_one, if_true, if_false, ite_true, ite_false, Bool.not_true, Bool.not_false, Bool.false_eq_true, Bool.true_eq_false, eq_self_iff_true, forall_const, true_implies, false_implies, implies_true, reduceCtorEq, and_false, false_and, false_or, or_false, Hd.fz.injEq, PyData.int.injEq, PyData.list.injEq, PyData.tuple.injEq, PyData.bool.injEq]
        exact ext_f prD (xs := g) (ys := pass n) rfl (by simp [pass]; omega) (next _ (pass n) (some _) b hw3 (by simp [pass]; omega) (by simp [pass]; omega) (pass_ok n))
    unfold sh_l_net_8
    simp only [e0, h0, wSs, wS, wE, wA, wB, wT, wO, wI, endPt, ini, vw_fz, vw_tm, vw_sl, vws, dat_d, dat_l, dat_o, pvw_fz, pvw_fzL, pvw_mls, hd_fz, hd_fzL, hd_mls, kid_fz, kid_tm, kidsOf, frz_fz, frz_tm, frz_sl, kid_sl, frzs, setAll, toD_fzL, toD_mls, toD_fz, st_fz, st_tm, st_sl, seq_dl, seq_dt, seq_l, asL_dl, asL_l, asL_dt, asT_dt, asT_dl, asT_l, isiB_some, isiV_b, isiV_i, isiV_s, isiV_l, isiV_t, isiV_d, isBB, isII, isSS, isLL, isTT, isDD, isB_fz, bop_add, bop_sub, bop_mul, bop_div, bop_mod, bop_pow, bop_shl, bop_shr, bop_and, bop_or, bop_xor, cop_eq, cop_ne, cop_eqS, cop_neS, cop_lt, cop_le, cop_gt, cop_ge, cop_is, bip_len, bip_abs, bip_intI, bip_intB, bip_tup, bip_lst, bip_repr, ixp_l, ixp_t, slp_dl, slp_l, slp_dt, atI_0, atI_1, atI_2, atI_cast, Es.len, asg_nm, asg_tp, asgs_nil, end0, end1, prep_nil, prep_fz, prep_tm, pickS, pickD, Hd.into, wipeL, List.map_nil, List.map_cons, List.nil_append, List.cons_append, List.length_nil, List.length_cons, List.getElem?_cons_zero, List.getElem?_cons_succ, List.getElem?_nil, List.set_cons_zero, List.set_cons_succ, List.replicate, Option.some.injEq, Prod.mk.injEq, exists_eq_left', exists_eq_left, exists_and_left, and_assoc, and_true, true_and, or_true, true_or, Nat.sub_self, Nat.reduceAdd, Nat.reduceSub, Nat.zero_add, Nat.reduceLT, Nat.lt_add_one, if_true, if_false, ite_true, ite_false, Bool.not_true, Bool.not_false, Bool.false_eq_true, Bool.true_eq_false, eq_self_iff_true, forall_const, true_implies, false_implies, implies_true, reduceCtorEq, and_false, false_and, false_or, or_false, Hd.fz.injEq, PyData.int.injEq, PyData.list.injEq, PyData.tuple.injEq, PyData.bool.injEq]
    refine ⟨fun c4 => ?_, fun c4 => ?_⟩
    · unfold sh_l_net_9
      simp only [e0, h0, wSs, wS, wE, wA, wB, wT, wO, wI, endPt, ini, vw_fz, vw_tm, vw_sl, vws, dat_d, dat_l, dat_o, pvw_fz, pvw_fzL, pvw_mls, hd_fz, hd_fzL, hd_mls, kid_fz, kid_tm, kidsOf, frz_fz, frz_tm, frz_sl, kid_sl, frzs, setAll, toD_fzL, toD_mls, toD_fz, st_fz, st_tm, st_sl, seq_dl, seq_dt, seq_l, asL_dl, asL_l, asL_dt, asT_dt, asT_dl, asT_l, isiB_some, isiV_b, isiV_i, isiV_s, isiV_l, isiV_t, isiV_d, isBB, isII, isSS, isLL, isTT, isDD, isB_fz, bop_add, bop_sub, bop_mul, bop_div, bop_mod, bop_pow, bop_shl, bop_shr, bop_and, bop_or, bop_xor, cop_eq, cop_ne, cop_eqS, cop_neS, cop_lt, cop_le, cop_gt, cop_ge, cop_is, bip_len, bip_abs, bip_intI, bip_intB, bip_tup, bip_lst, bip_repr, ixp_l, ixp_t, slp_dl, slp_l, slp_dt, atI_0, atI_1, atI_2, atI_cast, Es.len, asg_nm, asg_tp, asgs_nil, end0, end1, prep_nil, prep_fz, prep_tm, pickS, pickD, Hd.into, wipeL, List.map_nil, List.map_cons, List.nil_append, List.cons_append, List.length_nil, List.length_cons, List.getElem?_cons_zero, List.getElem?_cons_succ, List.getElem?_nil, List.set_cons_zero, List.set_cons_succ, List.replicate, Option.some.injEq, Prod.mk.injEq, exists_eq_left', exists_eq_left, exists_and_left, and_assoc, and_true, true_and, or_true, true_or, Nat.sub_self, Nat.reduceAdd, Nat.reduceSub, Nat.zero_add, Nat.reduceLT, Nat.lt_add_one, if_true, if_false, ite_true, ite_false, Bool.not_true, Bool.not_false, Bool.false_eq_true, Bool.true_eq_false, eq_self_iff_true, forall_const, true_implies, false_implies, implies_true, reduceCtorEq, and_false, false_and, false_or, or_false, Hd.fz.injEq, PyData.int.injEq, PyData.list.injEq, PyData.tuple.injEq, PyData.bool.injEq]
      refine ⟨isL_sl rfl, by decide, by decide, bop_repL (ds := [.tuple [.int (i : Int), .int ((n : Int) - 1)]]) rfl (by decide) (by decide) (by show 1 * 2 ≤ sizeLine; decide) ?_⟩
      have hp : (List.replicate (Int.toNat 2) [PyData.tuple [.int (i : Int), .int ((n : Int) - 1)]]).flatten = [(i, n - 1), (i, n - 1)].map prD := by
        have e : (((n - 1 : Nat)) : Int) = (n : Int) - 1 := by omega
        simp only [List.map_cons, List.map_nil, prD, e]
        rfl
      simp only [hp, Option.some.injEq, exists_eq_left', exists_and_left, wSs, wS, wE, wA, wB, wT, wO, wI, endPt, ini, vw_fz, vw_tm, vw_sl, vws, dat_d, dat_l, dat_o, pvw_fz, pvw_fzL, pvw_mls, hd_fz, hd_fzL, hd_mls, kid_fz, kid_tm, kidsOf, frz_fz, frz_tm, frz_sl, kid_sl, frzs, setAll, toD_fzL, toD_mls, toD_fz, st_fz, st_tm, st_sl, seq_dl, seq_dt, seq_l, asL_dl, asL_l, asL_dt, asT_dt, asT_dl, asT_l, isiB_some, isiV_b, isiV_i, isiV_s, isiV_l, isiV_t, isiV_d, isBB, isII, isSS, isLL, isTT, isDD, isB_fz, bop_add, bop_sub, bop_mul, bop_div, bop_mod, bop_pow, bop_shl, bop_shr, bop_and, bop_or, bop_xor, cop_eq, cop_ne, cop_eqS, cop_neS, cop_lt, cop_le, cop_gt, cop_ge, cop_is, bip_len, bip_abs, bip_intI, bip_intB, bip_tup, bip_lst, bip_repr, ixp_l, ixp_t, slp_dl, slp_l, slp_dt, atI_0, atI_1, atI_2, atI_cast, Es.len, asg_nm, asg_tp, asgs_nil, end0, end1, prep_nil, prep_fz, prep_tm, pickS, pickD, Hd.into, wipeL]
      refine ext_f prD (xs := g) (ys := [(i, n - 1), (i, n - 1)]) rfl (by simp; omega) ?_
      exact (next _ [(i, n - 1), (i, n - 1)] (some _) b hw3 (by simp) (by simp) (fun x hx => (NetOk.one (n := n) (i := i) (j := n - 1) (by omega) (by omega)) x (by simpa using hx)))
    · unfold sh_l_net_10
      simp only [e0, h0, wSs, wS, wE, wA, wB, wT, wO, wI, endPt, ini, vw_fz, vw_tm, vw_sl, vws, dat_d, dat_l, dat_o, pvw_fz, pvw_fzL, pvw_mls, hd_fz, hd_fzL, hd_mls, kid_fz, kid_tm, kidsOf, frz_fz, frz_tm, frz_sl, kid_sl, frzs, setAll, toD_fzL, toD_mls, toD_fz, st_fz, st_tm, st_sl, seq_dl, seq_dt, seq_l, asL_dl, asL_l, asL_dt, asT_dt, asT_dl, asT_l, isiB_some, isiV_b, isiV_i, isiV_s, isiV_l, isiV_t, isiV_d, isBB, isII, isSS, isLL, isTT, isDD, isB_fz, bop_add, bop_sub, bop_mul, bop_div, bop_mod, bop_pow, bop_shl, bop_shr, bop_and, bop_or, bop_xor, cop_eq, cop_ne, cop_eqS, cop_neS, cop_lt, cop_le, cop_gt, cop_ge, cop_is, bip_len, bip_abs, bip_intI, bip_intB, bip_tup, bip_lst, bip_repr, ixp_l, ixp_t, slp_dl, slp_l, slp_dt, atI_0, atI_1, atI_2, atI_cast, Es.len, asg_nm, asg_tp, asgs_nil, end0, end1, prep_nil, prep_fz, prep_tm, pickS, pickD, Hd.into, wipeL, List.map_nil, List.map_cons, List.nil_append, List.cons_append, List.length_nil, List.length_cons, List.getElem?_cons_zero, List.getElem?_cons_succ, List.getElem?_nil, List.set_cons_zero, List.set_cons_succ, List.replicate, Option.some.injEq, Prod.mk.injEq, exists_eq_left', exists_eq_left, exists_and_left, and_assoc, and_true, true_and, or_true, true_or, Nat.sub_self, Nat.reduceAdd, Nat.reduceSub, Nat.zero_add, Nat.reduceLT, Nat.lt_add_one, if_true, if_false, ite_true, ite_false, Bool.not_true, Bool.not_false, Bool.false_eq_true, Bool.true_eq_false, eq_self_iff_true, forall_const, true_implies, false_implies, implies_true, reduceCtorEq, and_false, false_and, false_or, or_false, Hd.fz.injEq, PyData.int.injEq, PyData.list.injEq, PyData.tuple.injEq, PyData.bool.injEq]
      refine ⟨isL_sl rfl, call_draw hw3 rfl (by omega) fun w4 r hw4 g5 g6 => ?_⟩
      obtain ⟨r, rfl⟩ := Int.eq_ofNat_of_zero_le g5
      simp only [e0, h0, wSs, wS, wE, wA, wB, wT, wO, wI, endPt, ini, vw_fz, vw_tm, vw_sl, vws, dat_d, dat_l, dat_o, pvw_fz, pvw_fzL, pvw_mls, hd_fz, hd_fzL, hd_mls, kid_fz, kid_tm, kidsOf, frz_fz, frz_tm, frz_sl, kid_sl, frzs, setAll, toD_fzL, toD_mls, toD_fz, st_fz, st_tm, st_sl, seq_dl, seq_dt, seq_l, asL_dl, asL_l, asL_dt, asT_dt, asT_dl, asT_l, isiB_some, isiV_b, isiV_i, isiV_s, isiV_l, isiV_t, isiV_d, isBB, isII, isSS, isLL, isTT, isDD, isB_fz, bop_add, bop_sub, bop_mul, bop_div, bop_mod, bop_pow, bop_shl, bop_shr, bop_and, bop_or, bop_xor, cop_eq, cop_ne, cop_eqS, cop_neS, cop_lt, cop_le, cop_gt, cop_ge, cop_is, bip_len, bip_abs, bip_intI, bip_intB, bip_tup, bip_lst, bip_repr, ixp_l, ixp_t, slp_dl, slp_l, slp_dt, atI_0, atI_1, atI_2, atI_cast, Es.len, asg_nm, asg_tp, asgs_nil, end0, end1, prep_nil, prep_fz, prep_tm, pickS, pickD, Hd.into, wipeL, List.map_nil, List.map_cons, List.nil_append, List.cons_append, List.length_nil, List.length_cons, List.getElem?_cons_zero, List.getElem?_cons_succ, List.getElem?_nil, List.set_cons_zero, List.set_cons_succ, List.replicate, Option.some.injEq, Prod.mk.injEq, exists_eq_left', exists_eq_left, exists_and_left, and_assoc, and_true, true_and, or_true, true_or, Nat.sub_self, Nat.reduceAdd, Nat.reduceSub, Nat.zero_add, Nat.reduceLT, Nat.lt_add_one, if_true, if_false, ite_true, ite_false, Bool.not_true, Bool.not_false, Bool.false_eq_true, Bool.true_eq_false, eq_self_iff_true, forall_const, true_implies, false_implies, implies_true, reduceCtorEq, and_false, false_and, false_or, or_false, Hd.fz.injEq, PyData.int.injEq, PyData.list.injEq, PyData.tuple.injEq, PyData.bool.injEq]
      exact ⟨by decide, (app_f prD (xs := g) (a := (i, i + 1 + r)) rfl (by omega) (next _ [(i, i + 1 + r)] (some _) b hw4 (by simp) (by simp) (.one (by omega) (by omega)))).2⟩
  · unfold sh_l_net_11
    simp only [e0, h0, cut_to, ← List.map_take, wSs, wS, wE, wA, wB, wT, wO, wI, endPt, ini, vw_fz, vw_tm, vw_sl, vws, dat_d, dat_l, dat_o, pvw_fz, pvw_fzL, pvw_mls, hd_fz, hd_fzL, hd_mls, kid_fz, kid_tm, kidsOf, frz_fz, frz_tm, frz_sl, kid_sl, frzs, setAll, toD_fzL, toD_mls, toD_fz, st_fz, st_tm, st_sl, seq_dl, seq_dt, seq_l, asL_dl, asL_l, asL_dt, asT_dt, asT_dl, asT_l, isiB_some, isiV_b, isiV_i, isiV_s, isiV_l, isiV_t, isiV_d, isBB, isII, isSS, isLL, isTT, isDD, isB_fz, bop_add, bop_sub, bop_mul, bop_div, bop_mod, bop_pow, bop_shl, bop_shr, bop_and, bop_or, bop_xor, cop_eq, cop_ne, cop_eqS, cop_neS, cop_lt, cop_le, cop_gt, cop_ge, cop_is, bip_len, bip_abs, bip_intI, bip_intB, bip_tup, bip_lst, bip_repr, ixp_l, ixp_t, slp_dl, slp_l, slp_dt, atI_0, atI_1, atI_2, atI_cast, Es.len, asg_nm, asg_tp, asgs_nil, end0, end1, prep_nil, prep_fz, prep_tm, pickS, pickD, Hd.into, wipeL, List.map_nil, List.map_cons, List.nil_append, List.cons_append, List.length_nil, List.length_cons, List.getElem?_cons_zero, List.getElem?_cons_succ, List.getElem?_nil, List.set_cons_zero, List.set_cons_succ, List.replicate, Option.some.injEq, Prod.mk.injEq, exists_eq_left', exists_eq_left, exists_and_left, and_assoc, and_true, true_and, or_true, true_or, Nat.sub_self, Nat.reduceAdd, Nat.reduceSub, Nat.zero_add, Nat.reduceLT, Nat.lt_add_one, if_true, if_false, ite_true, ite_false, Bool.not_true, Bool.not_false, Bool.false_eq_true, Bool.true_eq_false, eq_self_iff_true, forall_const, true_implies, false_implies, implies_true, reduceCtorEq, and_false, false_and, false_or, or_false, Hd.fz.injEq, PyData.int.injEq, PyData.list.injEq, PyData.tuple.injEq, PyData.bool.injEq]
    exact hq _ _ hw (by rw [List.length_take]; omega) (hg.sub fun x hx => List.mem_of_mem_take hx)

/-! ### the law's own running -/
abbrev lnD (x : Int × Nat) : PyData := .tuple [.int x.1, .int x.2]
theorem getD_map {α β : Type} [Inhabited α] [Inhabited β] (f : α → β) (hf : f default = default) (xs : List α) (i : Nat) : (xs.map f).getD i default = f (xs.getD i default) := by
  rw [List.getD_eq_getElem?_getD, List.getD_eq_getElem?_getD, List.getElem?_map]
  cases xs[i]? with
  | none => exact hf.symm
  | some x => rfl
theorem swp_map {α β : Type} [Inhabited α] [Inhabited β] (f : α → β) (hf : f default = default) (xs : List α) (i j : Nat) : (swp xs i j).map f = swp (xs.map f) i j := by
  unfold swp
  rw [List.map_set, List.map_set, getD_map f hf, getD_map f hf]
def num (r : List Int) : List (Int × Nat) := r.zip (List.range r.length)
theorem num_fst (r : List Int) : (num r).map (·.1) = r := by
  unfold num
  exact List.map_fst_zip (by simp)
theorem num_snd (r : List Int) : (num r).map (·.2) = List.range r.length := by
  unfold num
  exact List.map_snd_zip (by simp)
theorem enu_num : ∀ (r : List Int) (k : Nat), enuD (k : Int) (r.map .int) = (r.zip (List.range' k r.length)).map fun x => .tuple [.int x.2, .int x.1]
  | [], k => rfl
  | x :: r, k => by
    rw [List.map_cons, enuD, List.length_cons, List.range'_succ, List.zip_cons_cons, List.map_cons, ← enu_num r (k + 1)]
    rfl
def F_run : Fn := ⟨0, fun xs ds Q _ => ∃ (g : Net) (r : List Int), xs = [] ∧ ds = [netD g, rowD r] ∧ NetOk r.length g ∧ g.length ≤ 2000 ∧ r.length ≤ 1000 ∧ Q (.fz (.tuple [rowD (goK g r), .tuple ((goP g r (List.range r.length)).map natD), .tuple ((goS g 0 r).map natD)])) []⟩
def flip2 : PyData → PyData
  | .tuple [a, b] => .tuple [b, a]
  | d => d
def fst2 : PyData → PyData
  | .tuple [a, b] => a
  | d => d
def snd2 : PyData → PyData
  | .tuple [a, b] => b
  | d => d
theorem k_run (Φ : Fns) : bodyOk Φ F_run 9 2 sh_l_run_0 := by
  intro xs ds QQ XX hx hd hs
  obtain ⟨g, r, rfl, rfl, ok, hg, hr, hq⟩ := hs
  have e0 : F_run.nio = 0 := rfl
  have hnum : (num r).length = r.length := by rw [← List.length_map (f := (·.1)), num_fst]
  unfold sh_l_run_0
  simp only [e0, wSs, wS, wE, wA, wB, wT, wO, wI, endPt, ini, vw_fz, vw_tm, vw_sl, vws, dat_d, dat_l, dat_o, pvw_fz, pvw_fzL, pvw_mls, hd_fz, hd_fzL, hd_mls, kid_fz, kid_tm, kidsOf, frz_fz, frz_tm, frz_sl, kid_sl, frzs, setAll, toD_fzL, toD_mls, toD_fz, st_fz, st_tm, st_sl, seq_dl, seq_dt, seq_l, asL_dl, asL_l, asL_dt, asT_dt, asT_dl, asT_l, isiB_some, isiV_b, isiV_i, isiV_s, isiV_l, isiV_t, isiV_d, isBB, isII, isSS, isLL, isTT, isDD, isB_fz, bop_add, bop_sub, bop_mul, bop_div, bop_mod, bop_pow, bop_shl, bop_shr, bop_and, bop_or, bop_xor, cop_eq, cop_ne, cop_eqS, cop_neS, cop_lt, cop_le, cop_gt, cop_ge, cop_is, bip_len, bip_abs, bip_intI, bip_intB, bip_tup, bip_lst, bip_repr, ixp_l, ixp_t, slp_dl, slp_l, slp_dt, atI_0, atI_1, atI_2, atI_cast, Es.len, asg_nm, asg_tp, asgs_nil, end0, end1, prep_nil, prep_fz, prep_tm, pickS, pickD, Hd.into, wipeL, List.map_nil, List.map_cons, List.nil_append, List.cons_append, List.length_nil, List.length_cons, List.getElem?_cons_zero, List.getElem?_cons_succ, List.getElem?_nil, List.set_cons_zero, List.set_cons_succ, List.replicate, Option.some.injEq, Prod.mk.injEq, exists_eq_left', exists_eq_left, exists_and_left, and_assoc, and_true, true_and, or_true, true_or, Nat.sub_self, Nat.reduceAdd, Nat.reduceSub, Nat.zero_add, Nat.reduceLT, Nat.lt_add_one, if_true, if_false, ite_true, ite_false, Bool.not_true, Bool.not_false, Bool.false_eq_true, Bool.true_eq_false, eq_self_iff_true, forall_const, true_implies, false_implies, implies_true, reduceCtorEq, and_false, false_and, false_or, or_false, Hd.fz.injEq, PyData.int.injEq, PyData.list.injEq, PyData.tuple.injEq, PyData.bool.injEq]
  have he : enuD 0 (r.map PyData.int) = (num r).map fun x => .tuple [.int x.2, .int x.1] := by
    rw [num, List.range_eq_range']
    exact enu_num r 0
  rw [he]
  refine lc_mapQ flip2 (fun d hd R hR => ?_) (by rw [List.length_map, hnum]; exact sz_le (by omega)) (by simp [keepFz]) fun L2 hb => ?_
  · obtain ⟨x, _, rfl⟩ := List.mem_map.mp hd
    refine ⟨_, asg_pair (by simp [wipeL]) (by simp [wipeL]), ?_⟩
    simp only [e0, wSs, wS, wE, wA, wB, wT, wO, wI, endPt, ini, vw_fz, vw_tm, vw_sl, vws, dat_d, dat_l, dat_o, pvw_fz, pvw_fzL, pvw_mls, hd_fz, hd_fzL, hd_mls, kid_fz, kid_tm, kidsOf, frz_fz, frz_tm, frz_sl, kid_sl, frzs, setAll, toD_fzL, toD_mls, toD_fz, st_fz, st_tm, st_sl, seq_dl, seq_dt, seq_l, asL_dl, asL_l, asL_dt, asT_dt, asT_dl, asT_l, isiB_some, isiV_b, isiV_i, isiV_s, isiV_l, isiV_t, isiV_d, isBB, isII, isSS, isLL, isTT, isDD, isB_fz, bop_add, bop_sub, bop_mul, bop_div, bop_mod, bop_pow, bop_shl, bop_shr, bop_and, bop_or, bop_xor, cop_eq, cop_ne, cop_eqS, cop_neS, cop_lt, cop_le, cop_gt, cop_ge, cop_is, bip_len, bip_abs, bip_intI, bip_intB, bip_tup, bip_lst, bip_repr, ixp_l, ixp_t, slp_dl, slp_l, slp_dt, atI_0, atI_1, atI_2, atI_cast, Es.len, asg_nm, asg_tp, asgs_nil, end0, end1, prep_nil, prep_fz, prep_tm, pickS, pickD, Hd.into, wipeL, List.map_nil, List.map_cons, List.nil_append, List.cons_append, List.length_nil, List.length_cons, List.getElem?_cons_zero, List.getElem?_cons_succ, List.getElem?_nil, List.set_cons_zero, List.set_cons_succ, List.replicate, Option.some.injEq, Prod.mk.injEq, exists_eq_left', exists_eq_left, exists_and_left, and_assoc, and_true, true_and, or_true, true_or, Nat.sub_self, Nat.reduceAdd, Nat.reduceSub, Nat.zero_add, Nat.reduceLT, Nat.lt_add_one, if_true, if_false, ite_true, ite_false, Bool.not_true, Bool.not_false, Bool.false_eq_true, Bool.true_eq_false, eq_self_iff_true, forall_const, true_implies, false_implies, implies_true, reduceCtorEq, and_false, false_and, false_or, or_false, Hd.fz.injEq, PyData.int.injEq, PyData.list.injEq, PyData.tuple.injEq, PyData.bool.injEq]
    exact ⟨by decide, hR _ rfl⟩
  have hfl : ((num r).map fun x => PyData.tuple [.int x.2, .int x.1]).map flip2 = (num r).map lnD := by rw [List.map_map]; rfl
  simp only [e0, hb, hfl, wSs, wS, wE, wA, wB, wT, wO, wI, endPt, ini, vw_fz, vw_tm, vw_sl, vws, dat_d, dat_l, dat_o, pvw_fz, pvw_fzL, pvw_mls, hd_fz, hd_fzL, hd_mls, kid_fz, kid_tm, kidsOf, frz_fz, frz_tm, frz_sl, kid_sl, frzs, setAll, toD_fzL, toD_mls, toD_fz, st_fz, st_tm, st_sl, seq_dl, seq_dt, seq_l, asL_dl, asL_l, asL_dt, asT_dt, asT_dl, asT_l, isiB_some, isiV_b, isiV_i, isiV_s, isiV_l, isiV_t, isiV_d, isBB, isII, isSS, isLL, isTT, isDD, isB_fz, bop_add, bop_sub, bop_mul, bop_div, bop_mod, bop_pow, bop_shl, bop_shr, bop_and, bop_or, bop_xor, cop_eq, cop_ne, cop_eqS, cop_neS, cop_lt, cop_le, cop_gt, cop_ge, cop_is, bip_len, bip_abs, bip_intI, bip_intB, bip_tup, bip_lst, bip_repr, ixp_l, ixp_t, slp_dl, slp_l, slp_dt, atI_0, atI_1, atI_2, atI_cast, Es.len, asg_nm, asg_tp, asgs_nil, end0, end1, prep_nil, prep_fz, prep_tm, pickS, pickD, Hd.into, wipeL, List.map_nil, List.map_cons, List.nil_append, List.cons_append, List.length_nil, List.length_cons, List.getElem?_cons_zero, List.getElem?_cons_succ, List.getElem?_nil, List.set_cons_zero, List.set_cons_succ, List.replicate, Option.some.injEq, Prod.mk.injEq, exists_eq_left', exists_eq_left, exists_and_left, and_assoc, and_true, true_and, or_true, true_or, Nat.sub_self, Nat.reduceAdd, Nat.reduceSub, Nat.zero_add, Nat.reduceLT, Nat.lt_add_one, if_true, if_false, ite_true, ite_false, Bool.not_true, Bool.not_false, Bool.false_eq_true, Bool.true_eq_false, eq_self_iff_true, forall_const, true_implies, false_implies, implies_true, reduceCtorEq, and_false, false_and, false_or, or_false, Hd.fz.injEq, PyData.int.injEq, PyData.list.injEq, PyData.tuple.injEq, PyData.bool.injEq]
  refine ⟨by decide, by simp, ?_⟩
  unfold sh_l_run_1
  simp only [e0, wSs, wS, wE, wA, wB, wT, wO, wI, endPt, ini, vw_fz, vw_tm, vw_sl, vws, dat_d, dat_l, dat_o, pvw_fz, pvw_fzL, pvw_mls, hd_fz, hd_fzL, hd_mls, kid_fz, kid_tm, kidsOf, frz_fz, frz_tm, frz_sl, kid_sl, frzs, setAll, toD_fzL, toD_mls, toD_fz, st_fz, st_tm, st_sl, seq_dl, seq_dt, seq_l, asL_dl, asL_l, asL_dt, asT_dt, asT_dl, asT_l, isiB_some, isiV_b, isiV_i, isiV_s, isiV_l, isiV_t, isiV_d, isBB, isII, isSS, isLL, isTT, isDD, isB_fz, bop_add, bop_sub, bop_mul, bop_div, bop_mod, bop_pow, bop_shl, bop_shr, bop_and, bop_or, bop_xor, cop_eq, cop_ne, cop_eqS, cop_neS, cop_lt, cop_le, cop_gt, cop_ge, cop_is, bip_len, bip_abs, bip_intI, bip_intB, bip_tup, bip_lst, bip_repr, ixp_l, ixp_t, slp_dl, slp_l, slp_dt, atI_0, atI_1, atI_2, atI_cast, Es.len, asg_nm, asg_tp, asgs_nil, end0, end1, prep_nil, prep_fz, prep_tm, pickS, pickD, Hd.into, wipeL, List.map_nil, List.map_cons, List.nil_append, List.cons_append, List.length_nil, List.length_cons, List.getElem?_cons_zero, List.getElem?_cons_succ, List.getElem?_nil, List.set_cons_zero, List.set_cons_succ, List.replicate, Option.some.injEq, Prod.mk.injEq, exists_eq_left', exists_eq_left, exists_and_left, and_assoc, and_true, true_and, or_true, true_or, Nat.sub_self, Nat.reduceAdd, Nat.reduceSub, Nat.zero_add, Nat.reduceLT, Nat.lt_add_one, if_true, if_false, ite_true, ite_false, Bool.not_true, Bool.not_false, Bool.false_eq_true, Bool.true_eq_false, eq_self_iff_true, forall_const, true_implies, false_implies, implies_true, reduceCtorEq, and_false, false_and, false_or, or_false, Hd.fz.injEq, PyData.int.injEq, PyData.list.injEq, PyData.tuple.injEq, PyData.bool.injEq]
  refine forRun_ind (fun ds L => ∃ (s : Nat) (rest : Net) (ls : List (Int × Nat)) (ss : List Nat) (a b c : Option PV), ds = enuD (s : Int) (rest.map prD) ∧ ls.length = r.length ∧ ss.length + rest.length ≤ 2000 ∧ NetOk r.length rest ∧
      goK rest (ls.map (·.1)) = goK g r ∧ goP rest (ls.map (·.1)) (ls.map (·.2)) = goP g r (List.range r.length) ∧ ss ++ goS rest s (ls.map (·.1)) = goS g 0 r ∧
      L = [some (.fz (netD g)), some (.fz (rowD r)), some (.mls ((ls.map lnD).map .fz)), some (.mls ((ss.map natD).map .fz)), a, b, c, none, none]) (fun d ds' L N hJ hN => ?_) (fun L hJ => ?_) _ _
      ⟨0, g, num r, [], none, none, none, rfl, hnum, by simpa using hg, ok, by rw [num_fst], by rw [num_fst, num_snd], by rw [num_fst]; rfl, rfl⟩
  · obtain ⟨s, rest, ls, ss, a, b, c, e1, hk, hl, ok2, i1, i2, i3, rfl⟩ := hJ
    cases rest with
    | nil => cases e1
    | cons x rest =>
      cases e1
      obtain ⟨x1, x2⟩ := ok2 x (List.mem_cons_self ..)
      have ok3 : NetOk r.length rest := fun y hy => ok2 y (List.mem_cons_of_mem _ hy)
      rw [List.length_cons] at hl
      refine ⟨_, by rw [asg_tp, asgs_nm (by simp), asgs_cons (asg_pr (by simp) (by simp)), asgs_nil], ?_⟩
      unfold sh_l_run_2
      simp only [e0, wSs, wS, wE, wA, wB, wT, wO, wI, endPt, ini, vw_fz, vw_tm, vw_sl, vws, dat_d, dat_l, dat_o, pvw_fz, pvw_fzL, pvw_mls, hd_fz, hd_fzL, hd_mls, kid_fz, kid_tm, kidsOf, frz_fz, frz_tm, frz_sl, kid_sl, frzs, setAll, toD_fzL, toD_mls, toD_fz, st_fz, st_tm, st_sl, seq_dl, seq_dt, seq_l, asL_dl, asL_l, asL_dt, asT_dt, asT_dl, asT_l, isiB_some, isiV_b, isiV_i, isiV_s, isiV_l, isiV_t, isiV_d, isBB, isII, isSS, isLL, isTT, isDD, isB_fz, bop_add, bop_sub, bop_mul, bop_div, bop_mod, bop_pow, bop_shl, bop_shr, bop_and, bop_or, bop_xor, cop_eq, cop_ne, cop_eqS, cop_neS, cop_lt, cop_le, cop_gt, cop_ge, cop_is, bip_len, bip_abs, bip_intI, bip_intB, bip_tup, bip_lst, bip_repr, ixp_l, ixp_t, slp_dl, slp_l, slp_dt, atI_0, atI_1, atI_2, atI_cast, Es.len, asg_nm, asg_tp, asgs_nil, end0, end1, prep_nil, prep_fz, prep_tm, pickS, pickD, Hd.into, wipeL, List.map_nil, List.map_cons, List.nil_append, List.cons_append, List.length_nil, List.length_cons, List.getElem?_cons_zero, List.getElem?_cons_succ, List.getElem?_nil, List.set_cons_zero, List.set_cons_succ, List.replicate, Option.some.injEq, Prod.mk.injEq, exists_eq_left', exists_eq_left, exists_and_left, and_assoc, and_true, true_and, or_true, true_or, Nat.sub_self, Nat.reduceAdd, Nat.reduceSub, Nat.zero_add, Nat.reduceLT, Nat.lt_add_one, if_true, if_false, ite_true, ite_false, Bool.not_true, Bool.not_false, Bool.false_eq_true, Bool.true_eq_false, eq_self_iff_true, forall_const, true_implies, false_implies, implies_true, reduceCtorEq, and_false, false_and, false_or, or_false, Hd.fz.injEq, PyData.int.injEq, PyData.list.injEq, PyData.tuple.injEq, PyData.bool.injEq]
      refine ixp_f lnD (by rw [at_sl]; rfl) (by omega) ?_
      simp only [e0, wSs, wS, wE, wA, wB, wT, wO, wI, endPt, ini, vw_fz, vw_tm, vw_sl, vws, dat_d, dat_l, dat_o, pvw_fz, pvw_fzL, pvw_mls, hd_fz, hd_fzL, hd_mls, kid_fz, kid_tm, kidsOf, frz_fz, frz_tm, frz_sl, kid_sl, frzs, setAll, toD_fzL, toD_mls, toD_fz, st_fz, st_tm, st_sl, seq_dl, seq_dt, seq_l, asL_dl, asL_l, asL_dt, asT_dt, asT_dl, asT_l, isiB_some, isiV_b, isiV_i, isiV_s, isiV_l, isiV_t, isiV_d, isBB, isII, isSS, isLL, isTT, isDD, isB_fz, bop_add, bop_sub, bop_mul, bop_div, bop_mod, bop_pow, bop_shl, bop_shr, bop_and, bop_or, bop_xor, cop_eq, cop_ne, cop_eqS, cop_neS, cop_lt, cop_le, cop_gt, cop_ge, cop_is, bip_len, bip_abs, bip_intI, bip_intB, bip_tup, bip_lst, bip_repr, ixp_l, ixp_t, slp_dl, slp_l, slp_dt, atI_0, atI_1, atI_2, atI_cast, Es.len, asg_nm, asg_tp, asgs_nil, end0, end1, prep_nil, prep_fz, prep_tm, pickS, pickD, Hd.into, wipeL, List.map_nil, List.map_cons, List.nil_append, List.cons_append, List.length_nil, List.length_cons, List.getElem?_cons_zero, List.getElem?_cons_succ, List.getElem?_nil, List.set_cons_zero, List.set_cons_succ, List.replicate, Option.some.injEq, Prod.mk.injEq, exists_eq_left', exists_eq_left, exists_and_left, and_assoc, and_true, true_and, or_true, true_or, Nat.sub_self, Nat.reduceAdd, Nat.reduceSub, Nat.zero_add, Nat.reduceLT, Nat.lt_add_one, if_true, if_false, ite_true, ite_false, Bool.not_true, Bool.not_false, Bool.false_eq_true, Bool.true_eq_false, eq_self_iff_true, forall_const, true_implies, false_implies, implies_true, reduceCtorEq, and_false, false_and, false_or, or_false, Hd.fz.injEq, PyData.int.injEq, PyData.list.injEq, PyData.tuple.injEq, PyData.bool.injEq]
      refine ixp_f lnD (by rw [at_sl]; rfl) (by omega) ?_
      simp only [e0, wSs, wS, wE, wA, wB, wT, wO, wI, endPt, ini, vw_fz, vw_tm, vw_sl, vws, dat_d, dat_l, dat_o, pvw_fz, pvw_fzL, pvw_mls, hd_fz, hd_fzL, hd_mls, kid_fz, kid_tm, kidsOf, frz_fz, frz_tm, frz_sl, kid_sl, frzs, setAll, toD_fzL, toD_mls, toD_fz, st_fz, st_tm, st_sl, seq_dl, seq_dt, seq_l, asL_dl, asL_l, asL_dt, asT_dt, asT_dl, asT_l, isiB_some, isiV_b, isiV_i, isiV_s, isiV_l, isiV_t, isiV_d, isBB, isII, isSS, isLL, isTT, isDD, isB_fz, bop_add, bop_sub, bop_mul, bop_div, bop_mod, bop_pow, bop_shl, bop_shr, bop_and, bop_or, bop_xor, cop_eq, cop_ne, cop_eqS, cop_neS, cop_lt, cop_le, cop_gt, cop_ge, cop_is, bip_len, bip_abs, bip_intI, bip_intB, bip_tup, bip_lst, bip_repr, ixp_l, ixp_t, slp_dl, slp_l, slp_dt, atI_0, atI_1, atI_2, atI_cast, Es.len, asg_nm, asg_tp, asgs_nil, end0, end1, prep_nil, prep_fz, prep_tm, pickS, pickD, Hd.into, wipeL, List.map_nil, List.map_cons, List.nil_append, List.cons_append, List.length_nil, List.length_cons, List.getElem?_cons_zero, List.getElem?_cons_succ, List.getElem?_nil, List.set_cons_zero, List.set_cons_succ, List.replicate, Option.some.injEq, Prod.mk.injEq, exists_eq_left', exists_eq_left, exists_and_left, and_assoc, and_true, true_and, or_true, true_or, Nat.sub_self, Nat.reduceAdd, Nat.reduceSub, Nat.zero_add, Nat.reduceLT, Nat.lt_add_one, if_true, if_false, ite_true, ite_false, Bool.not_true, Bool.not_false, Bool.false_eq_true, Bool.true_eq_false, eq_self_iff_true, forall_const, true_implies, false_implies, implies_true, reduceCtorEq, and_false, false_and, false_or, or_false, Hd.fz.injEq, PyData.int.injEq, PyData.list.injEq, PyData.tuple.injEq, PyData.bool.injEq]
      have k1 : gtr (ls.map (·.1)) x.1 x.2 = decide ((ls.getD x.2 default).1 < (ls.getD x.1 default).1) := by rw [gtr, getD_map (fun x : Int × Nat => x.1) rfl, getD_map (fun x : Int × Nat => x.1) rfl]
      have i1' : goK rest (if gtr (ls.map (·.1)) x.1 x.2 = true then swp (ls.map (·.1)) x.1 x.2 else ls.map (·.1)) = goK g r := i1
      rw [goP] at i2
      rw [goS] at i3
      rw [k1] at i1' i2 i3
      rw [← swp_map (fun x : Int × Nat => x.1) rfl] at i1' i2 i3
      rw [← swp_map (fun x : Int × Nat => x.2) rfl] at i2
      refine ⟨fun c1 => ?_, fun c1 => ?_⟩
      · rw [if_pos c1] at i1' i2 i3
        unfold sh_l_run_3
        simp only [e0, wSs, wS, wE, wA, wB, wT, wO, wI, endPt, ini, vw_fz, vw_tm, vw_sl, vws, dat_d, dat_l, dat_o, pvw_fz, pvw_fzL, pvw_mls, hd_fz, hd_fzL, hd_mls, kid_fz, kid_tm, kidsOf, frz_fz, frz_tm, frz_sl, kid_sl, frzs, setAll, toD_fzL, toD_mls, toD_fz, st_fz, st_tm, st_sl, seq_dl, seq_dt, seq_l, asL_dl, asL_l, asL_dt, asT_dt, asT_dl, asT_l, isiB_some, isiV_b, isiV_i, isiV_s, isiV_l, isiV_t, isiV_d, isBB, isII, isSS, isLL, isTT, isDD, isB_fz, bop_add, bop_sub, bop_mul, bop_div, bop_mod, bop_pow, bop_shl, bop_shr, bop_and, bop_or, bop_xor, cop_eq, cop_ne, cop_eqS, cop_neS, cop_lt, cop_le, cop_gt, cop_ge, cop_is, bip_len, bip_abs, bip_intI, bip_intB, bip_tup, bip_lst, bip_repr, ixp_l, ixp_t, slp_dl, slp_l, slp_dt, atI_0, atI_1, atI_2, atI_cast, Es.len, asg_nm, asg_tp, asgs_nil, end0, end1, prep_nil, prep_fz, prep_tm, pickS, pickD, Hd.into, wipeL, List.map_nil, List.map_cons, List.nil_append, List.cons_append, List.length_nil, List.length_cons, List.getElem?_cons_zero, List.getElem?_cons_succ, List.getElem?_nil, List.set_cons_zero, List.set_cons_succ, List.replicate, Option.some.injEq, Prod.mk.injEq, exists_eq_left', exists_eq_left, exists_and_left, and_assoc, and_true, true_and, or_true, true_or, Nat.sub_self, Nat.reduceAdd, Nat.reduceSub, Nat.zero_add, Nat.reduceLT, Nat.lt_add_one, if_true, if_false, ite_true, ite_false, Bool.not_true, Bool.not_false, Bool.false_eq_true, Bool.true_eq_false, eq_self_iff_true, forall_const, true_implies, false_implies, implies_true, reduceCtorEq, and_false, false_and, false_or, or_false, Hd.fz.injEq, PyData.int.injEq, PyData.list.injEq, PyData.tuple.injEq, PyData.bool.injEq]
        refine ixp_f lnD (by rw [at_sl]; rfl) (by omega) ⟨rfl, ixp_f lnD (by rw [at_sl]; rfl) (by omega) ?_⟩
        simp only [e0, wSs, wS, wE, wA, wB, wT, wO, wI, endPt, ini, vw_fz, vw_tm, vw_sl, vws, dat_d, dat_l, dat_o, pvw_fz, pvw_fzL, pvw_mls, hd_fz, hd_fzL, hd_mls, kid_fz, kid_tm, kidsOf, frz_fz, frz_tm, frz_sl, kid_sl, frzs, setAll, toD_fzL, toD_mls, toD_fz, st_fz, st_tm, st_sl, seq_dl, seq_dt, seq_l, asL_dl, asL_l, asL_dt, asT_dt, asT_dl, asT_l, isiB_some, isiV_b, isiV_i, isiV_s, isiV_l, isiV_t, isiV_d, isBB, isII, isSS, isLL, isTT, isDD, isB_fz, bop_add, bop_sub, bop_mul, bop_div, bop_mod, bop_pow, bop_shl, bop_shr, bop_and, bop_or, bop_xor, cop_eq, cop_ne, cop_eqS, cop_neS, cop_lt, cop_le, cop_gt, cop_ge, cop_is, bip_len, bip_abs, bip_intI, bip_intB, bip_tup, bip_lst, bip_repr, ixp_l, ixp_t, slp_dl, slp_l, slp_dt, atI_0, atI_1, atI_2, atI_cast, Es.len, asg_nm, asg_tp, asgs_nil, end0, end1, prep_nil, prep_fz, prep_tm, pickS, pickD, Hd.into, wipeL, List.map_nil, List.map_cons, List.nil_append, List.cons_append, List.length_nil, List.length_cons, List.getElem?_cons_zero, List.getElem?_cons_succ, List.getElem?_nil, List.set_cons_zero, List.set_cons_succ, List.replicate, Option.some.injEq, Prod.mk.injEq, exists_eq_left', exists_eq_left, exists_and_left, and_assoc, and_true, true_and, or_true, true_or, Nat.sub_self, Nat.reduceAdd, Nat.reduceSub, Nat.zero_add, Nat.reduceLT, Nat.lt_add_one, if_true, if_false, ite_true, ite_false, Bool.not_true, Bool.not_false, Bool.false_eq_true, Bool.true_eq_false, eq_self_iff_true, forall_const, true_implies, false_implies, implies_true, reduceCtorEq, and_false, false_and, false_or, or_false, Hd.fz.injEq, PyData.int.injEq, PyData.list.injEq, PyData.tuple.injEq, PyData.bool.injEq]
        refine ⟨by decide, _, _, rfl, ?_⟩
        refine sstp_f lnD rfl (by omega) ?_
        simp only [e0, wSs, wS, wE, wA, wB, wT, wO, wI, endPt, ini, vw_fz, vw_tm, vw_sl, vws, dat_d, dat_l, dat_o, pvw_fz, pvw_fzL, pvw_mls, hd_fz, hd_fzL, hd_mls, kid_fz, kid_tm, kidsOf, frz_fz, frz_tm, frz_sl, kid_sl, frzs, setAll, toD_fzL, toD_mls, toD_fz, st_fz, st_tm, st_sl, seq_dl, seq_dt, seq_l, asL_dl, asL_l, asL_dt, asT_dt, asT_dl, asT_l, isiB_some, isiV_b, isiV_i, isiV_s, isiV_l, isiV_t, isiV_d, isBB, isII, isSS, isLL, isTT, isDD, isB_fz, bop_add, bop_sub, bop_mul, bop_div, bop_mod, bop_pow, bop_shl, bop_shr, bop_and, bop_or, bop_xor, cop_eq, cop_ne, cop_eqS, cop_neS, cop_lt, cop_le, cop_gt, cop_ge, cop_is, bip_len, bip_abs, bip_intI, bip_intB, bip_tup, bip_lst, bip_repr, ixp_l, ixp_t, slp_dl, slp_l, slp_dt, atI_0, atI_1, atI_2, atI_cast, Es.len, asg_nm, asg_tp, asgs_nil, end0, end1, prep_nil, prep_fz, prep_tm, pickS, pickD, Hd.into, wipeL, List.map_nil, List.map_cons, List.nil_append, List.cons_append, List.length_nil, List.length_cons, List.getElem?_cons_zero, List.getElem?_cons_succ, List.getElem?_nil, List.set_cons_zero, List.set_cons_succ, List.replicate, Option.some.injEq, Prod.mk.injEq, exists_eq_left', exists_eq_left, exists_and_left, and_assoc, and_true, true_and, or_true, true_or, Nat.sub_self, Nat.reduceAdd, Nat.reduceSub, Nat.zero_add, Nat.reduceLT, Nat.lt_add_one, if_true, if_false, ite_true, ite_false, Bool.not_true, Bool.not_false, Bool.false_eq_true, Bool.true_eq_false, eq_self_iff_true, forall_const, true_implies, false_implies, implies_true, reduceCtorEq, and_false, false_and, false_or, or_false, Hd.fz.injEq, PyData.int.injEq, PyData.list.injEq, PyData.tuple.injEq, PyData.bool.injEq]
        refine sstp_f lnD rfl (by rw [List.length_set]; omega) ?_
        simp only [e0, wSs, wS, wE, wA, wB, wT, wO, wI, endPt, ini, vw_fz, vw_tm, vw_sl, vws, dat_d, dat_l, dat_o, pvw_fz, pvw_fzL, pvw_mls, hd_fz, hd_fzL, hd_mls, kid_fz, kid_tm, kidsOf, frz_fz, frz_tm, frz_sl, kid_sl, frzs, setAll, toD_fzL, toD_mls, toD_fz, st_fz, st_tm, st_sl, seq_dl, seq_dt, seq_l, asL_dl, asL_l, asL_dt, asT_dt, asT_dl, asT_l, isiB_some, isiV_b, isiV_i, isiV_s, isiV_l, isiV_t, isiV_d, isBB, isII, isSS, isLL, isTT, isDD, isB_fz, bop_add, bop_sub, bop_mul, bop_div, bop_mod, bop_pow, bop_shl, bop_shr, bop_and, bop_or, bop_xor, cop_eq, cop_ne, cop_eqS, cop_neS, cop_lt, cop_le, cop_gt, cop_ge, cop_is, bip_len, bip_abs, bip_intI, bip_intB, bip_tup, bip_lst, bip_repr, ixp_l, ixp_t, slp_dl, slp_l, slp_dt, atI_0, atI_1, atI_2, atI_cast, Es.len, asg_nm, asg_tp, asgs_nil, end0, end1, prep_nil, prep_fz, prep_tm, pickS, pickD, Hd.into, wipeL, List.map_nil, List.map_cons, List.nil_append, List.cons_append, List.length_nil, List.length_cons, List.getElem?_cons_zero, List.getElem?_cons_succ, List.getElem?_nil, List.set_cons_zero, List.set_cons_succ, List.replicate, Option.some.injEq, Prod.mk.injEq, exists_eq_left', exists_eq_left, exists_and_left, and_assoc, and_true, true_and, or_true, true_or, Nat.sub_self, Nat.reduceAdd, Nat.reduceSub, Nat.zero_add, Nat.reduceLT, Nat.lt_add_one, if_true, if_false, ite_true, ite_false, Bool.not_true, Bool.not_false, Bool.false_eq_true, Bool.true_eq_false, eq_self_iff_true, forall_const, true_implies, false_implies, implies_true, reduceCtorEq, and_false, false_and, false_or, or_false, Hd.fz.injEq, PyData.int.injEq, PyData.list.injEq, PyData.tuple.injEq, PyData.bool.injEq]
        unfold sh_l_run_4
        simp only [e0, wSs, wS, wE, wA, wB, wT, wO, wI, endPt, ini, vw_fz, vw_tm, vw_sl, vws, dat_d, dat_l, dat_o, pvw_fz, pvw_fzL, pvw_mls, hd_fz, hd_fzL, hd_mls, kid_fz, kid_tm, kidsOf, frz_fz, frz_tm, frz_sl, kid_sl, frzs, setAll, toD_fzL, toD_mls, toD_fz, st_fz, st_tm, st_sl, seq_dl, seq_dt, seq_l, asL_dl, asL_l, asL_dt, asT_dt, asT_dl, asT_l, isiB_some, isiV_b, isiV_i, isiV_s, isiV_l, isiV_t, isiV_d, isBB, isII, isSS, isLL, isTT, isDD, isB_fz, bop_add, bop_sub, bop_mul, bop_div, bop_mod, bop_pow, bop_shl, bop_shr, bop_and, bop_or, bop_xor, cop_eq, cop_ne, cop_eqS, cop_neS, cop_lt, cop_le, cop_gt, cop_ge, cop_is, bip_len, bip_abs, bip_intI, bip_intB, bip_tup, bip_lst, bip_repr, ixp_l, ixp_t, slp_dl, slp_l, slp_dt, atI_0, atI_1, atI_2, atI_cast, Es.len, asg_nm, asg_tp, asgs_nil, end0, end1, prep_nil, prep_fz, prep_tm, pickS, pickD, Hd.into, wipeL, List.map_nil, List.map_cons, List.nil_append, List.cons_append, List.length_nil, List.length_cons, List.getElem?_cons_zero, List.getElem?_cons_succ, List.getElem?_nil, List.set_cons_zero, List.set_cons_succ, List.replicate, Option.some.injEq, Prod.mk.injEq, exists_eq_left', exists_eq_left, exists_and_left, and_assoc, and_true, true_and, or_true, true_or, Nat.sub_self, Nat.reduceAdd, Nat.reduceSub, Nat.zero_add, Nat.reduceLT, Nat.lt_add_one, if_true, if_false, ite_true, ite_false, Bool.not_true, Bool.not_false, Bool.false_eq_true, Bool.true_eq_false, eq_self_iff_true, forall_const, true_implies, false_implies, implies_true, reduceCtorEq, and_false, false_and, false_or, or_false, Hd.fz.injEq, PyData.int.injEq, PyData.list.injEq, PyData.tuple.injEq, PyData.bool.injEq]
        refine app_f natD (xs := ss) (a := s) rfl (by omega) ?_
        exact hN _ ⟨s + 1, rest, swp ls x.1 x.2, ss ++ [s], _, _, _, rfl, by rw [swp_len]; exact hk, by simp; omega, ok3, i1', i2, by rw [List.append_assoc]; exact i3, rfl⟩
      · have c2 : ¬ decide ((ls.getD x.2 default).1 < (ls.getD x.1 default).1) = true := fun z => by rw [z] at c1; cases c1
        rw [if_neg c2] at i1' i2 i3
        exact hN _ ⟨s + 1, rest, ls, ss, _, _, _, rfl, hk, by omega, ok3, i1', i2, i3, rfl⟩
  · obtain ⟨s, rest, ls, ss, a, b, c, e1, hk, hl, ok2, i1, i2, i3, rfl⟩ := hJ
    cases rest with
    | cons x rest => cases e1
    | nil =>
      simp only [goK, goP, goS, List.append_nil] at i1 i2 i3
      dsimp only
      unfold sh_l_run_5
      simp only [e0, wSs, wS, wE, wA, wB, wT, wO, wI, endPt, ini, vw_fz, vw_tm, vw_sl, vws, dat_d, dat_l, dat_o, pvw_fz, pvw_fzL, pvw_mls, hd_fz, hd_fzL, hd_mls, kid_fz, kid_tm, kidsOf, frz_fz, frz_tm, frz_sl, kid_sl, frzs, setAll, toD_fzL, toD_mls, toD_fz, st_fz, st_tm, st_sl, seq_dl, seq_dt, seq_l, asL_dl, asL_l, asL_dt, asT_dt, asT_dl, asT_l, isiB_some, isiV_b, isiV_i, isiV_s, isiV_l, isiV_t, isiV_d, isBB, isII, isSS, isLL, isTT, isDD, isB_fz, bop_add, bop_sub, bop_mul, bop_div, bop_mod, bop_pow, bop_shl, bop_shr, bop_and, bop_or, bop_xor, cop_eq, cop_ne, cop_eqS, cop_neS, cop_lt, cop_le, cop_gt, cop_ge, cop_is, bip_len, bip_abs, bip_intI, bip_intB, bip_tup, bip_lst, bip_repr, ixp_l, ixp_t, slp_dl, slp_l, slp_dt, atI_0, atI_1, atI_2, atI_cast, Es.len, asg_nm, asg_tp, asgs_nil, end0, end1, prep_nil, prep_fz, prep_tm, pickS, pickD, Hd.into, wipeL, List.map_nil, List.map_cons, List.nil_append, List.cons_append, List.length_nil, List.length_cons, List.getElem?_cons_zero, List.getElem?_cons_succ, List.getElem?_nil, List.set_cons_zero, List.set_cons_succ, List.replicate, Option.some.injEq, Prod.mk.injEq, exists_eq_left', exists_eq_left, exists_and_left, and_assoc, and_true, true_and, or_true, true_or, Nat.sub_self, Nat.reduceAdd, Nat.reduceSub, Nat.zero_add, Nat.reduceLT, Nat.lt_add_one, if_true, if_false, ite_true, ite_false, Bool.not_true, Bool.not_false, Bool.false_eq_true, Bool.true_eq_false, eq_self_iff_true, forall_const, true_implies, false_implies, implies_true, reduceCtorEq, and_false, false_and, false_or, or_false, Hd.fz.injEq, PyData.int.injEq, PyData.list.injEq, PyData.tuple.injEq, PyData.bool.injEq]
      refine lc_mapQ fst2 (fun d hd R hR => ?_) (by rw [List.length_map, hk]; exact sz_le (by omega)) (by simp [keepFz]) fun L2 hb => ?_
      · obtain ⟨x, _, rfl⟩ := List.mem_map.mp hd
        refine ⟨_, asg_pair (by simp [wipeL]) (by simp [wipeL]), ?_⟩
        simp only [e0, wSs, wS, wE, wA, wB, wT, wO, wI, endPt, ini, vw_fz, vw_tm, vw_sl, vws, dat_d, dat_l, dat_o, pvw_fz, pvw_fzL, pvw_mls, hd_fz, hd_fzL, hd_mls, kid_fz, kid_tm, kidsOf, frz_fz, frz_tm, frz_sl, kid_sl, frzs, setAll, toD_fzL, toD_mls, toD_fz, st_fz, st_tm, st_sl, seq_dl, seq_dt, seq_l, asL_dl, asL_l, asL_dt, asT_dt, asT_dl, asT_l, isiB_some, isiV_b, isiV_i, isiV_s, isiV_l, isiV_t, isiV_d, isBB, isII, isSS, isLL, isTT, isDD, isB_fz, bop_add, bop_sub, bop_mul, bop_div, bop_mod, bop_pow, bop_shl, bop_shr, bop_and, bop_or, bop_xor, cop_eq, cop_ne, cop_eqS, cop_neS, cop_lt, cop_le, cop_gt, cop_ge, cop_is, bip_len, bip_abs, bip_intI, bip_intB, bip_tup, bip_lst, bip_repr, ixp_l, ixp_t, slp_dl, slp_l, slp_dt, atI_0, atI_1, atI_2, atI_cast, Es.len, asg_nm, asg_tp, asgs_nil, end0, end1, prep_nil, prep_fz, prep_tm, pickS, pickD, Hd.into, wipeL, List.map_nil, List.map_cons, List.nil_append, List.cons_append, List.length_nil, List.length_cons, List.getElem?_cons_zero, List.getElem?_cons_succ, List.getElem?_nil, List.set_cons_zero, List.set_cons_succ, List.replicate, Option.some.injEq, Prod.mk.injEq, exists_eq_left', exists_eq_left, exists_and_left, and_assoc, and_true, true_and, or_true, true_or, Nat.sub_self, Nat.reduceAdd, Nat.reduceSub, Nat.zero_add, Nat.reduceLT, Nat.lt_add_one, if_true, if_false, ite_true, ite_false, Bool.not_true, Bool.not_false, Bool.false_eq_true, Bool.true_eq_false, eq_self_iff_true, forall_const, true_implies, false_implies, implies_true, reduceCtorEq, and_false, false_and, false_or, or_false, Hd.fz.injEq, PyData.int.injEq, PyData.list.injEq, PyData.tuple.injEq, PyData.bool.injEq]
        exact hR _ rfl
      simp only [e0, hb, wSs, wS, wE, wA, wB, wT, wO, wI, endPt, ini, vw_fz, vw_tm, vw_sl, vws, dat_d, dat_l, dat_o, pvw_fz, pvw_fzL, pvw_mls, hd_fz, hd_fzL, hd_mls, kid_fz, kid_tm, kidsOf, frz_fz, frz_tm, frz_sl, kid_sl, frzs, setAll, toD_fzL, toD_mls, toD_fz, st_fz, st_tm, st_sl, seq_dl, seq_dt, seq_l, asL_dl, asL_l, asL_dt, asT_dt, asT_dl, asT_l, isiB_some, isiV_b, isiV_i, isiV_s, isiV_l, isiV_t, isiV_d, isBB, isII, isSS, isLL, isTT, isDD, isB_fz, bop_add, bop_sub, bop_mul, bop_div, bop_mod, bop_pow, bop_shl, bop_shr, bop_and, bop_or, bop_xor, cop_eq, cop_ne, cop_eqS, cop_neS, cop_lt, cop_le, cop_gt, cop_ge, cop_is, bip_len, bip_abs, bip_intI, bip_intB, bip_tup, bip_lst, bip_repr, ixp_l, ixp_t, slp_dl, slp_l, slp_dt, atI_0, atI_1, atI_2, atI_cast, Es.len, asg_nm, asg_tp, asgs_nil, end0, end1, prep_nil, prep_fz, prep_tm, pickS, pickD, Hd.into, wipeL, List.map_nil, List.map_cons, List.nil_append, List.cons_append, List.length_nil, List.length_cons, List.getElem?_cons_zero, List.getElem?_cons_succ, List.getElem?_nil, List.set_cons_zero, List.set_cons_succ, List.replicate, Option.some.injEq, Prod.mk.injEq, exists_eq_left', exists_eq_left, exists_and_left, and_assoc, and_true, true_and, or_true, true_or, Nat.sub_self, Nat.reduceAdd, Nat.reduceSub, Nat.zero_add, Nat.reduceLT, Nat.lt_add_one, if_true, if_false, ite_true, ite_false, Bool.not_true, Bool.not_false, Bool.false_eq_true, Bool.true_eq_false, eq_self_iff_true, forall_const, true_implies, false_implies, implies_true, reduceCtorEq, and_false, false_and, false_or, or_false, Hd.fz.injEq, PyData.int.injEq, PyData.list.injEq, PyData.tuple.injEq, PyData.bool.injEq]
      refine lc_mapQ snd2 (fun d hd R hR => ?_) (by rw [List.length_map, hk]; exact sz_le (by omega)) (by simp [keepFz]) fun L2 hb => ?_
      · obtain ⟨x, _, rfl⟩ := List.mem_map.mp hd
        refine ⟨_, asg_pair (by simp [wipeL]) (by simp [wipeL]), ?_⟩
        simp only [e0, wSs, wS, wE, wA, wB, wT, wO, wI, endPt, ini, vw_fz, vw_tm, vw_sl, vws, dat_d, dat_l, dat_o, pvw_fz, pvw_fzL, pvw_mls, hd_fz, hd_fzL, hd_mls, kid_fz, kid_tm, kidsOf, frz_fz, frz_tm, frz_sl, kid_sl, frzs, setAll, toD_fzL, toD_mls, toD_fz, st_fz, st_tm, st_sl, seq_dl, seq_dt, seq_l, asL_dl, asL_l, asL_dt, asT_dt, asT_dl, asT_l, isiB_some, isiV_b, isiV_i, isiV_s, isiV_l, isiV_t, isiV_d, isBB, isII, isSS, isLL, isTT, isDD, isB_fz, bop_add, bop_sub, bop_mul, bop_div, bop_mod, bop_pow, bop_shl, bop_shr, bop_and, bop_or, bop_xor, cop_eq, cop_ne, cop_eqS, cop_neS, cop_lt, cop_le, cop_gt, cop_ge, cop_is, bip_len, bip_abs, bip_intI, bip_intB, bip_tup, bip_lst, bip_repr, ixp_l, ixp_t, slp_dl, slp_l, slp_dt, atI_0, atI_1, atI_2, atI_cast, Es.len, asg_nm, asg_tp, asgs_nil, end0, end1, prep_nil, prep_fz, prep_tm, pickS, pickD, Hd.into, wipeL, List.map_nil, List.map_cons, List.nil_append, List.cons_append, List.length_nil, List.length_cons, List.getElem?_cons_zero, List.getElem?_cons_succ, List.getElem?_nil, List.set_cons_zero, List.set_cons_succ, List.replicate, Option.some.injEq, Prod.mk.injEq, exists_eq_left', exists_eq_left, exists_and_left, and_assoc, and_true, true_and, or_true, true_or, Nat.sub_self, Nat.reduceAdd, Nat.reduceSub, Nat.zero_add, Nat.reduceLT, Nat.lt_add_one, if_true, if_false, ite_true, ite_false, Bool.not_true, Bool.not_false, Bool.false_eq_true, Bool.true_eq_false, eq_self_iff_true, forall_const, true_implies, false_implies, implies_true, reduceCtorEq, and_false, false_and, false_or, or_false, Hd.fz.injEq, PyData.int.injEq, PyData.list.injEq, PyData.tuple.injEq, PyData.bool.injEq]
        exact hR _ rfl
      simp only [e0, hb, wSs, wS, wE, wA, wB, wT, wO, wI, endPt, ini, vw_fz, vw_tm, vw_sl, vws, dat_d, dat_l, dat_o, pvw_fz, pvw_fzL, pvw_mls, hd_fz, hd_fzL, hd_mls, kid_fz, kid_tm, kidsOf, frz_fz, frz_tm, frz_sl, kid_sl, frzs, setAll, toD_fzL, toD_mls, toD_fz, st_fz, st_tm, st_sl, seq_dl, seq_dt, seq_l, asL_dl, asL_l, asL_dt, asT_dt, asT_dl, asT_l, isiB_some, isiV_b, isiV_i, isiV_s, isiV_l, isiV_t, isiV_d, isBB, isII, isSS, isLL, isTT, isDD, isB_fz, bop_add, bop_sub, bop_mul, bop_div, bop_mod, bop_pow, bop_shl, bop_shr, bop_and, bop_or, bop_xor, cop_eq, cop_ne, cop_eqS, cop_neS, cop_lt, cop_le, cop_gt, cop_ge, cop_is, bip_len, bip_abs, bip_intI, bip_intB, bip_tup, bip_lst, bip_repr, ixp_l, ixp_t, slp_dl, slp_l, slp_dt, atI_0, atI_1, atI_2, atI_cast, Es.len, asg_nm, asg_tp, asgs_nil, end0, end1, prep_nil, prep_fz, prep_tm, pickS, pickD, Hd.into, wipeL, List.map_nil, List.map_cons, List.nil_append, List.cons_append, List.length_nil, List.length_cons, List.getElem?_cons_zero, List.getElem?_cons_succ, List.getElem?_nil, List.set_cons_zero, List.set_cons_succ, List.replicate, Option.some.injEq, Prod.mk.injEq, exists_eq_left', exists_eq_left, exists_and_left, and_assoc, and_true, true_and, or_true, true_or, Nat.sub_self, Nat.reduceAdd, Nat.reduceSub, Nat.zero_add, Nat.reduceLT, Nat.lt_add_one, if_true, if_false, ite_true, ite_false, Bool.not_true, Bool.not_false, Bool.false_eq_true, Bool.true_eq_false, eq_self_iff_true, forall_const, true_implies, false_implies, implies_true, reduceCtorEq, and_false, false_and, false_or, or_false, Hd.fz.injEq, PyData.int.injEq, PyData.list.injEq, PyData.tuple.injEq, PyData.bool.injEq]
      have f1 : (ls.map lnD).map fst2 = (goK g r).map .int := by rw [← i1, List.map_map, List.map_map]; rfl
      have f2 : (ls.map lnD).map snd2 = (goP g r (List.range r.length)).map natD := by rw [← i2, List.map_map, List.map_map]; rfl
      rw [f1, f2, i3]
      exact ⟨by decide, hq⟩
end Tk

set_option Elab.async false
set_option linter.all false
set_option maxRecDepth 100000
namespace Tk
open PySem PySem.Spec PyProof.Rows L2

/-! ### inversions -/
def less (l : List Int) (x : Int) : Nat := l.countP fun y => decide (y < x)
def inv : List Int → Nat
  | [] => 0
  | x :: l => less l x + inv l
def cross : List Int → List Int → Nat
  | [], _ => 0
  | x :: a, l => less l x + cross a l
theorem less_app (a b : List Int) (x : Int) : less (a ++ b) x = less a x + less b x := List.countP_append
theorem less_cons (y : Int) (l : List Int) (x : Int) : less (y :: l) x = less l x + if y < x then 1 else 0 := by
  unfold less
  rw [List.countP_cons]
  simp
theorem cross_app : ∀ (a b c : List Int), cross a (b ++ c) = cross a b + cross a c
  | [], b, c => rfl
  | x :: a, b, c => by
    show less (b ++ c) x + cross a (b ++ c) = (less b x + cross a b) + (less c x + cross a c)
    rw [less_app, cross_app a b c]
    omega
theorem inv_app : ∀ (a b : List Int), inv (a ++ b) = inv a + inv b + cross a b
  | [], b => by simp [inv, cross]
  | x :: a, b => by
    show less (a ++ b) x + inv (a ++ b) = (less a x + inv a) + inv b + (less b x + cross a b)
    rw [less_app, inv_app a b]
    omega
theorem less_perm {a b : List Int} (h : a.Perm b) (x : Int) : less a x = less b x := h.countP_eq _
theorem cross_perm {b c : List Int} (h : b.Perm c) : ∀ a : List Int, cross a b = cross a c
  | [] => rfl
  | x :: a => by
    show less b x + cross a b = less c x + cross a c
    rw [less_perm h, cross_perm h a]
theorem less_mono {a b : Int} (h : a ≤ b) : ∀ l : List Int, less l a ≤ less l b
  | [] => Nat.le_refl _
  | y :: l => by
    rw [less_cons, less_cons]
    have := less_mono h l
    split <;> split <;> omega
theorem cross_one_mono {a b : Int} (h : a ≤ b) : ∀ l : List Int, cross l [b] ≤ cross l [a]
  | [] => Nat.le_refl _
  | y :: l => by
    show less [b] y + cross l [b] ≤ less [a] y + cross l [a]
    have := cross_one_mono h l
    have e : ∀ z : Int, less [z] y = if z < y then 1 else 0 := fun z => by rw [less_cons]; simp [less]
    rw [e, e]
    split <;> split <;> omega
theorem inv_core {a b : Int} (h : b < a) (B C : List Int) : inv (b :: (B ++ a :: C)) < inv (a :: (B ++ b :: C)) := by
  show less (B ++ a :: C) b + inv (B ++ a :: C) < less (B ++ b :: C) a + inv (B ++ b :: C)
  rw [less_app, less_app, inv_app, inv_app, less_cons, less_cons, show a :: C = [a] ++ C from rfl, show b :: C = [b] ++ C from rfl, cross_app, cross_app]
  show _ + (inv B + (less C a + inv C) + _) < _ + (inv B + (less C b + inv C) + _)
  have h1 := less_mono (Int.le_of_lt h) B
  have h2 := cross_one_mono (Int.le_of_lt h) B
  rw [if_neg (show ¬ a < b by omega), if_pos h]
  omega
theorem split2 {k : List Int} {i j : Nat} (hi : i < j) (hj : j < k.length) : ∃ A B C : List Int, k = A ++ k.getD i default :: (B ++ k.getD j default :: C) ∧ swp k i j = A ++ k.getD j default :: (B ++ k.getD i default :: C) := by
  have hii : i < k.length := by omega
  have gi : k.getD i default = k[i] := by rw [List.getD_eq_getElem?_getD, List.getElem?_eq_getElem hii]; rfl
  have gj : k.getD j default = k[j] := by rw [List.getD_eq_getElem?_getD, List.getElem?_eq_getElem hj]; rfl
  refine ⟨k.take i, (k.drop (i + 1)).take (j - (i + 1)), k.drop (j + 1), ?_, ?_⟩
  · rw [gi, gj]
    have e1 : k[j] :: k.drop (j + 1) = k.drop j := (List.drop_eq_getElem_cons hj).symm
    have e2 : (k.drop (i + 1)).take (j - (i + 1)) ++ k.drop j = k.drop (i + 1) := by
      have : k.drop j = (k.drop (i + 1)).drop (j - (i + 1)) := by rw [List.drop_drop]; congr 1; omega
      rw [this, List.take_append_drop]
    rw [e1, e2, (List.drop_eq_getElem_cons hii).symm, List.take_append_drop]
  · unfold swp
    rw [gi, gj]
    apply List.ext_getElem?
    intro m
    have l1 : (k.take i).length = i := by rw [List.length_take]; omega
    have l2 : ((k.drop (i + 1)).take (j - (i + 1))).length = j - (i + 1) := by rw [List.length_take, List.length_drop]; omega
    rw [List.getElem?_set, List.getElem?_set]
    by_cases h1 : j = m
    · subst h1
      rw [if_pos rfl, if_pos (by rw [List.length_set]; omega), List.getElem?_append_right (by omega), l1]
      rw [show j - i = (j - i - 1) + 1 by omega, List.getElem?_cons_succ, List.getElem?_append_right (by omega), l2]
      rw [show j - i - 1 - (j - (i + 1)) = 0 by omega]
      rfl
    · rw [if_neg h1]
      by_cases h2 : i = m
      · subst h2
        rw [if_pos rfl, if_pos hii, List.getElem?_append_right (by omega), l1, Nat.sub_self]
        rfl
      · rw [if_neg h2]
        by_cases h3 : m < i
        · rw [List.getElem?_append_left (by omega), List.getElem?_take, if_pos h3]
        · rw [List.getElem?_append_right (by omega), l1, show m - i = (m - i - 1) + 1 by omega, List.getElem?_cons_succ]
          by_cases h4 : m < j
          · rw [List.getElem?_append_left (by omega), List.getElem?_take, if_pos (by omega), List.getElem?_drop]
            congr 1; omega
          · rw [List.getElem?_append_right (by omega), l2, show m - i - 1 - (j - (i + 1)) = (m - j - 1) + 1 by omega, List.getElem?_cons_succ, List.getElem?_drop]
            congr 1; omega
theorem swp_perm {k : List Int} {i j : Nat} (hi : i < j) (hj : j < k.length) : (swp k i j).Perm k := by
  obtain ⟨A, B, C, e1, e2⟩ := split2 hi hj
  rw [e2]
  conv => rhs; rw [e1]
  refine List.Perm.append_left _ ?_
  have p1 : ∀ (a b : Int), (a :: (B ++ b :: C)).Perm (a :: b :: (B ++ C)) := fun a b => List.Perm.cons _ List.perm_middle
  exact (p1 _ _).trans ((List.Perm.swap ..).trans (p1 _ _).symm)
theorem inv_swp {k : List Int} {i j : Nat} (hi : i < j) (hj : j < k.length) (h : gtr k i j = true) : inv (swp k i j) < inv k := by
  have h : k.getD j default < k.getD i default := of_decide_eq_true h
  obtain ⟨A, B, C, e1, e2⟩ := split2 hi hj
  rw [e2]
  generalize k.getD j default = b at *
  generalize k.getD i default = a at *
  rw [e1]
  rw [inv_app, inv_app]
  have p1 : ∀ (a b : Int), (a :: (B ++ b :: C)).Perm (a :: b :: (B ++ C)) := fun a b => List.Perm.cons _ List.perm_middle
  have := inv_core h B C
  have := cross_perm (((p1 b a).trans (List.Perm.swap ..)).trans (p1 a b).symm) A
  omega
theorem inv_le : ∀ l : List Int, 2 * inv l ≤ l.length * (l.length - 1)
  | [] => Nat.le_refl _
  | x :: l => by
    have h1 := inv_le l
    have h2 : less l x ≤ l.length := List.countP_le_length
    show 2 * (less l x + inv l) ≤ (l.length + 1) * (l.length + 1 - 1)
    have e : (l.length + 1) * (l.length + 1 - 1) = l.length * (l.length - 1) + 2 * l.length := by
      cases l.length with
      | zero => rfl
      | succ n => simp only [Nat.add_sub_cancel]; rw [Nat.add_mul, Nat.mul_add, Nat.mul_add]; omega
    omega
theorem goK_inv {n : Nat} : ∀ {g : Net} {k : List Int}, NetOk k.length g → inv (goK g k) ≤ inv k ∧ ∀ s, goS g s k ≠ [] → inv (goK g k) < inv k
  | [], k, _ => ⟨Nat.le_refl _, fun s h => absurd rfl h⟩
  | x :: g, k, ok => by
    obtain ⟨h1, h2⟩ := ok x (List.mem_cons_self ..)
    have ok2 : NetOk k.length g := fun y hy => ok y (List.mem_cons_of_mem _ hy)
    rw [goK]
    by_cases c : gtr k x.1 x.2 = true
    · rw [if_pos c]
      have ok3 : NetOk (swp k x.1 x.2).length g := by rw [swp_len]; exact ok2
      have := (goK_inv (n := n) ok3).1
      have := inv_swp h1 h2 c
      exact ⟨by omega, fun s _ => by omega⟩
    · rw [if_neg c]
      refine ⟨(goK_inv (n := n) ok2).1, fun s hs => (goK_inv (n := n) ok2).2 (s + 1) ?_⟩
      rw [goS, if_neg c] at hs
      exact hs
theorem goK_calm : ∀ {g : Net} {s : Nat} {k : List Int}, goS g s k = [] → goK g k = k
  | [], s, k, _ => rfl
  | x :: g, s, k, h => by
    rw [goS] at h
    rw [goK]
    by_cases c : gtr k x.1 x.2 = true
    · rw [if_pos c] at h; cases h
    · rw [if_neg c] at h ⊢
      exact goK_calm h
theorem calm_iff {g : Net} {k : List Int} (ok : NetOk k.length g) : goK g k = k ↔ goS g 0 k = [] := by
  refine ⟨fun h => Classical.byContradiction fun z => ?_, goK_calm⟩
  have := (goK_inv (n := 0) ok).2 0 z
  rw [h] at this
  omega
/-! ### again and again -/
def itr (g : Net) (r : List Int) : Nat → List Int
  | 0 => r
  | m + 1 => goK g (itr g r m)
theorem itr_len {g : Net} {r : List Int} : ∀ {m : Nat}, (itr g r m).length = r.length
  | 0 => rfl
  | m + 1 => by rw [itr, goK_len, itr_len]
theorem itr_add {g : Net} {r : List Int} (m : Nat) : ∀ k : Nat, itr g (itr g r m) k = itr g r (m + k)
  | 0 => rfl
  | k + 1 => by rw [itr, itr_add m k]; rfl
def IsL (g : Net) (r : List Int) (n : Nat) : Prop := (∀ m, m < n → goK g (itr g r m) ≠ itr g r m) ∧ goK g (itr g r n) = itr g r n
theorem IsL.uniq {g : Net} {r : List Int} {m n : Nat} (h : IsL g r m) (k : IsL g r n) : m = n := by
  rcases Nat.lt_trichotomy m n with q | q | q
  · exact absurd h.2 (k.1 m q)
  · exact q
  · exact absurd k.2 (h.1 n q)
theorem IsL.beyond {g : Net} {r : List Int} {n : Nat} (h : IsL g r n) : ∀ k : Nat, itr g r (n + k) = itr g r n
  | 0 => rfl
  | k + 1 => by
    show goK g (itr g r (n + k)) = _
    rw [h.beyond k]
    exact h.2
theorem itr_inv {g : Net} {r : List Int} (ok : NetOk r.length g) : ∀ {m : Nat}, (∀ k, k < m → goK g (itr g r k) ≠ itr g r k) → inv (itr g r m) + m ≤ inv r
  | 0, _ => Nat.le_refl _
  | m + 1, h => by
    have h1 := itr_inv ok (m := m) fun k hk => h k (by omega)
    have ok2 : NetOk (itr g r m).length g := by rw [itr_len]; exact ok
    have h2 := (goK_inv (n := 0) ok2).2 0 fun z => h m (by omega) ((calm_iff ok2).mpr z)
    show inv (goK g (itr g r m)) + (m + 1) ≤ _
    omega
theorem IsL.le {g : Net} {r : List Int} {n : Nat} (ok : NetOk r.length g) (h : IsL g r n) : 2 * n ≤ r.length * (r.length - 1) := by
  have := itr_inv ok h.1
  have := inv_le r
  omega
theorem IsL.later {g : Net} {r : List Int} {n m : Nat} (h : IsL g r n) (hm : m ≤ n) : IsL g (itr g r m) (n - m) :=
  ⟨fun k hk => by rw [itr_add]; exact h.1 _ (by omega), by rw [itr_add, show m + (n - m) = n by omega]; exact h.2⟩
theorem goK_perm : ∀ {g : Net} {k : List Int}, NetOk k.length g → (goK g k).Perm k
  | [], k, _ => List.Perm.refl _
  | x :: g, k, ok => by
    obtain ⟨h1, h2⟩ := ok x (List.mem_cons_self ..)
    have ok2 : NetOk k.length g := fun y hy => ok y (List.mem_cons_of_mem _ hy)
    rw [goK]
    split
    · exact (goK_perm (by rw [swp_len]; exact ok2)).trans (swp_perm h1 h2)
    · exact goK_perm ok2
theorem itr_perm {g : Net} {r : List Int} (ok : NetOk r.length g) : ∀ {m : Nat}, (itr g r m).Perm r
  | 0 => List.Perm.refl _
  | m + 1 => (goK_perm (by rw [itr_len]; exact ok)).trans (itr_perm ok)
/-- two sorted orders of the same things are one -/
theorem sorted_uniq : ∀ {a b : List Int}, a.Perm b → a.Pairwise (· ≤ ·) → b.Pairwise (· ≤ ·) → a = b
  | [], b, p, _, _ => (List.nil_perm.mp p).symm
  | x :: a, [], p, _, _ => absurd p (by simp)
  | x :: a, y :: b, p, ha, hb => by
    obtain ⟨h1, h2⟩ := List.pairwise_cons.mp ha
    obtain ⟨h3, h4⟩ := List.pairwise_cons.mp hb
    have e : x = y := by
      have q1 : x ∈ y :: b := p.mem_iff.mp (List.mem_cons_self ..)
      have q2 : y ∈ x :: a := p.mem_iff.mpr (List.mem_cons_self ..)
      rcases List.mem_cons.mp q1 with q1 | q1
      · exact q1
      · rcases List.mem_cons.mp q2 with q2 | q2
        · exact q2.symm
        · have := h3 x q1
          have := h1 y q2
          omega
    subst e
    rw [sorted_uniq (List.Perm.cons_inv p) h2 h4]
end Tk

set_option Elab.async false
set_option linter.all false
set_option maxRecDepth 100000
set_option maxHeartbeats 0
namespace Tk
open PySem PySem.Spec PyProof.Rows L2
/-! ### more reckoning -/
theorem bip_min2 {i j : Int} {Q : PV → Prop} : bip .min2 [.d (.int i), .d (.int j)] Q ↔ Q (.fz (.int (min i j))) := ⟨fun ⟨a, b, e, q⟩ => by cases e; exact q, fun q => ⟨i, j, rfl, q⟩⟩
theorem bip_max2 {i j : Int} {Q : PV → Prop} : bip .max2 [.d (.int i), .d (.int j)] Q ↔ Q (.fz (.int (max i j))) := ⟨fun ⟨a, b, e, q⟩ => by cases e; exact q, fun q => ⟨i, j, rfl, q⟩⟩
theorem szl_0 : (0 ≤ sizeLine) = True := eq_true (by decide)
theorem szl_1 : (1 ≤ sizeLine) = True := eq_true (by decide)
theorem szl_2 : (2 ≤ sizeLine) = True := eq_true (by decide)
theorem szl_3 : (3 ≤ sizeLine) = True := eq_true (by decide)
theorem szl_4 : (4 ≤ sizeLine) = True := eq_true (by decide)
theorem szl_5 : (5 ≤ sizeLine) = True := eq_true (by decide)
theorem szl_6 : (6 ≤ sizeLine) = True := eq_true (by decide)
theorem szl_7 : (7 ≤ sizeLine) = True := eq_true (by decide)
theorem szl_8 : (8 ≤ sizeLine) = True := eq_true (by decide)
theorem szl_9 : (9 ≤ sizeLine) = True := eq_true (by decide)
theorem szl_10 : (10 ≤ sizeLine) = True := eq_true (by decide)
theorem szl_11 : (11 ≤ sizeLine) = True := eq_true (by decide)
theorem szl_12 : (12 ≤ sizeLine) = True := eq_true (by decide)
theorem pvw_0 : PV.vw (.mls []) = .l [] := rfl
theorem pvw_1 {a : PyData} : PV.vw (.mls [.fz a]) = .l [a] := rfl
theorem pvw_2 {a b : PyData} : PV.vw (.mls [.fz a, .fz b]) = .l [a, b] := rfl
theorem pvw_3 {a b c : PyData} : PV.vw (.mls [.fz a, .fz b, .fz c]) = .l [a, b, c] := rfl
theorem pvw_4 {a b c d : PyData} : PV.vw (.mls [.fz a, .fz b, .fz c, .fz d]) = .l [a, b, c, d] := rfl
theorem pvw_5 {a b c d e : PyData} : PV.vw (.mls [.fz a, .fz b, .fz c, .fz d, .fz e]) = .l [a, b, c, d, e] := rfl
theorem pvw_6 {a b c d e f : PyData} : PV.vw (.mls [.fz a, .fz b, .fz c, .fz d, .fz e, .fz f]) = .l [a, b, c, d, e, f] := rfl
theorem pvw_7 {a b c d e f g : PyData} : PV.vw (.mls [.fz a, .fz b, .fz c, .fz d, .fz e, .fz f, .fz g]) = .l [a, b, c, d, e, f, g] := rfl
theorem pvw_8 {a b c d e f g h : PyData} : PV.vw (.mls [.fz a, .fz b, .fz c, .fz d, .fz e, .fz f, .fz g, .fz h]) = .l [a, b, c, d, e, f, g, h] := rfl
/-! ### rows compared, their texts -/
theorem eqv_all_ints : ∀ a b : List Int, PyData.eqvAll (a.map .int) (b.map .int) = decide (a = b)
  | [], [] => by simp [PyData.eqvAll]
  | [], y :: b => by simp [PyData.eqvAll]
  | x :: a, [] => by simp [PyData.eqvAll]
  | x :: a, y :: b => by
    rw [List.map_cons, List.map_cons, PyData.eqvAll, eqv_all_ints a b, PyData.eqv]
    by_cases h1 : x = y <;> by_cases h2 : a = b <;> simp [h1, h2]
theorem eqv_row (a b : List Int) : PyData.eqv (rowD a) (rowD b) = decide (a = b) := by
  rw [PyData.eqv]
  exact eqv_all_ints a b
theorem shaped_row (a : List Int) : SeqAt.shaped (rowD a) = true := by
  unfold SeqAt.shaped
  rw [PyData.canLay0, canLay_ints, PyData.depth, depth_ints]
  decide
theorem cop_eqR {a b : List Int} {P : Bool → Prop} (q : P (decide (a = b))) : cop .Eq (.d (rowD a)) (.d (rowD b)) P := cop_eqD ⟨shaped_row a, shaped_row b⟩ (by rw [dat_d, dat_d, eqv_row]; exact q)
theorem cop_neR {a b : List Int} {P : Bool → Prop} (q : P (!decide (a = b))) : cop .NotEq (.d (rowD a)) (.d (rowD b)) P := cop_neD ⟨shaped_row a, shaped_row b⟩ (by rw [dat_d, dat_d, eqv_row]; exact q)
theorem natD_ints (l : List Nat) : l.map natD = (l.map Int.ofNat).map .int := by rw [List.map_map]; rfl
theorem cop_eqN {a b : List Nat} {P : Bool → Prop} (q : P (decide (a = b))) : cop .Eq (.d (.tuple (a.map natD))) (.d (.tuple (b.map natD))) P := by
  rw [natD_ints, natD_ints]
  refine cop_eqR ?_
  have : ((a.map Int.ofNat) = b.map Int.ofNat) ↔ a = b := ⟨fun h => by
    exact (List.map_inj_right fun x y e => Int.ofNat.inj e).mp h, fun h => by rw [h]⟩
  rw [decide_eq_decide.mpr this]
  exact q
theorem cop_neN {a b : List Nat} {P : Bool → Prop} (q : P (!decide (a = b))) : cop .NotEq (.d (.tuple (a.map natD))) (.d (.tuple (b.map natD))) P := by
  rw [natD_ints, natD_ints]
  refine cop_neR ?_
  have : ((a.map Int.ofNat) = b.map Int.ofNat) ↔ a = b := ⟨fun h => by
    exact (List.map_inj_right fun x y e => Int.ofNat.inj e).mp h, fun h => by rw [h]⟩
  rw [decide_eq_decide.mpr this]
  exact q
theorem rp_and {d : PyData} {k m : Nat} (h : Sm k m d) (hk : k ≤ 100) (hm : m ≤ 10000000) {q : Prop} (hq : q) : d.showable = true ∧ d.depth ≤ 100 ∧ d.shown.length ≤ sizeLine ∧ q := ⟨h.1, Nat.le_trans h.2.1 hk, Nat.le_trans (Nat.le_trans h.2.2 hm) (by decide), hq⟩
theorem rp_ok {d : PyData} {k m : Nat} (h : Sm k m d) (hk : k ≤ 100) (hm : m ≤ 10000000) : d.showable = true ∧ d.depth ≤ 100 ∧ d.shown.length ≤ sizeLine := ⟨h.1, Nat.le_trans h.2.1 hk, Nat.le_trans (Nat.le_trans h.2.2 hm) (by decide)⟩
theorem Sm.tupN {k m n : Nat} {xs : List PyData} (h : ∀ d ∈ xs, Sm k m d) (hn : xs.length ≤ n) : Sm (k + 1) (n * (m + 2) + 3) (.tuple xs) := (Sm.tup h).mono (Nat.le_refl _) (by have := Nat.mul_le_mul_right (m + 2) hn; omega)
theorem Sm.lstN {k m n : Nat} {xs : List PyData} (h : ∀ d ∈ xs, Sm k m d) (hn : xs.length ≤ n) : Sm (k + 1) (n * (m + 2) + 3) (.list xs) := (Sm.lst h).mono (Nat.le_refl _) (by have := Nat.mul_le_mul_right (m + 2) hn; omega)
theorem sm_int {i : Int} (h : -big ≤ i ∧ i ≤ big) : Sm 0 14 (.int i) := Sm.int 13 (by decide) (by decide) (by have e : big = 1000000000000 := rfl; rw [e] at h; omega)
theorem sm_nat {k : Nat} (h : k ≤ 1000000) : Sm 0 14 (natD k) := sm_int ⟨by have e : big = 1000000000000 := rfl; rw [e]; omega, by have e : big = 1000000000000 := rfl; rw [e]; omega⟩
theorem sm_row {r : List Int} (h : RowOk r) (hl : r.length ≤ 100) : Sm 1 1603 (rowD r) := Sm.tupN (n := 100) (fun d hd => by
  obtain ⟨i, hi, rfl⟩ := List.mem_map.mp hd
  exact sm_int (h i hi)) (by rw [List.length_map]; exact hl)
theorem sm_nats {l : List Nat} (h : ∀ k ∈ l, k ≤ 1000000) (hl : l.length ≤ 2000) : Sm 1 32003 (.tuple (l.map natD)) := Sm.tupN (n := 2000) (fun d hd => by
  obtain ⟨i, hi, rfl⟩ := List.mem_map.mp hd
  exact sm_nat (h i hi)) (by rw [List.length_map]; exact hl)
theorem sm_pr {x : Nat × Nat} (h : x.1 ≤ 1000000 ∧ x.2 ≤ 1000000) : Sm 1 35 (prD x) := Sm.tupN (k := 0) (m := 14) (n := 2) (fun d hd => by
  simp only [List.mem_cons, List.not_mem_nil, or_false] at hd
  rcases hd with rfl | rfl
  · exact sm_nat h.1
  · exact sm_nat h.2) (by simp)
theorem sm_net {n : Nat} {g : Net} (ok : NetOk n g) (hn : n ≤ 1000000) (hl : g.length ≤ 2000) : Sm 2 74003 (netD g) := Sm.tupN (n := 2000) (fun d hd => by
  obtain ⟨x, hx, rfl⟩ := List.mem_map.mp hd
  obtain ⟨h1, h2⟩ := ok x hx
  exact sm_pr (x := x) ⟨by omega, by omega⟩) (by rw [List.length_map]; exact hl)
theorem sm_two {k m : Nat} {a b : PyData} (ha : Sm k m a) (hb : Sm k m b) : Sm (k + 1) (2 * (m + 2) + 3) (.list [a, b]) := Sm.lstN (n := 2) (fun d hd => by
  simp only [List.mem_cons, List.not_mem_nil, or_false] at hd
  rcases hd with rfl | rfl
  · exact ha
  · exact hb) (by simp)
theorem sm_three {k m : Nat} {a b c : PyData} (ha : Sm k m a) (hb : Sm k m b) (hc : Sm k m c) : Sm (k + 1) (3 * (m + 2) + 3) (.list [a, b, c]) := Sm.lstN (n := 3) (fun d hd => by
  simp only [List.mem_cons, List.not_mem_nil, or_false] at hd
  rcases hd with rfl | rfl | rfl
  · exact ha
  · exact hb
  · exact hc) (by simp)
theorem rowOk_perm {a b : List Int} (h : RowOk a) (p : b.Perm a) : RowOk b := fun x hx => h x (p.mem_iff.mp hx)
end Tk

set_option Elab.async false
set_option linter.all false
set_option maxRecDepth 100000
set_option maxHeartbeats 0
namespace Tk
open PySem PySem.Spec PyProof.Rows L2
/-! ### where things come from -/
theorem split2g {α : Type} [Inhabited α] {k : List α} {i j : Nat} (hi : i < j) (hj : j < k.length) : ∃ A B C : List α, k = A ++ k.getD i default :: (B ++ k.getD j default :: C) ∧ swp k i j = A ++ k.getD j default :: (B ++ k.getD i default :: C) ∧ A.length = i ∧ B.length = j - (i + 1) := by
  have hii : i < k.length := by omega
  have gi : k.getD i default = k[i] := by rw [List.getD_eq_getElem?_getD, List.getElem?_eq_getElem hii]; rfl
  have gj : k.getD j default = k[j] := by rw [List.getD_eq_getElem?_getD, List.getElem?_eq_getElem hj]; rfl
  have l1 : (k.take i).length = i := by rw [List.length_take]; omega
  have l2 : ((k.drop (i + 1)).take (j - (i + 1))).length = j - (i + 1) := by rw [List.length_take, List.length_drop]; omega
  refine ⟨k.take i, (k.drop (i + 1)).take (j - (i + 1)), k.drop (j + 1), ?_, ?_, l1, l2⟩
  · rw [gi, gj]
    have e1 : k[j] :: k.drop (j + 1) = k.drop j := (List.drop_eq_getElem_cons hj).symm
    have e2 : (k.drop (i + 1)).take (j - (i + 1)) ++ k.drop j = k.drop (i + 1) := by
      have : k.drop j = (k.drop (i + 1)).drop (j - (i + 1)) := by rw [List.drop_drop]; congr 1; omega
      rw [this, List.take_append_drop]
    rw [e1, e2, (List.drop_eq_getElem_cons hii).symm, List.take_append_drop]
  · unfold swp
    rw [gi, gj]
    apply List.ext_getElem?
    intro m
    rw [List.getElem?_set, List.getElem?_set]
    by_cases h1 : j = m
    · subst h1
      rw [if_pos rfl, if_pos (by rw [List.length_set]; omega), List.getElem?_append_right (by omega), l1]
      rw [show j - i = (j - i - 1) + 1 by omega, List.getElem?_cons_succ, List.getElem?_append_right (by omega), l2]
      rw [show j - i - 1 - (j - (i + 1)) = 0 by omega]
      rfl
    · rw [if_neg h1]
      by_cases h2 : i = m
      · subst h2
        rw [if_pos rfl, if_pos hii, List.getElem?_append_right (by omega), l1, Nat.sub_self]
        rfl
      · rw [if_neg h2]
        by_cases h3 : m < i
        · rw [List.getElem?_append_left (by omega), List.getElem?_take, if_pos h3]
        · rw [List.getElem?_append_right (by omega), l1, show m - i = (m - i - 1) + 1 by omega, List.getElem?_cons_succ]
          by_cases h4 : m < j
          · rw [List.getElem?_append_left (by omega), List.getElem?_take, if_pos (by omega), List.getElem?_drop]
            congr 1; omega
          · rw [List.getElem?_append_right (by omega), l2, show m - i - 1 - (j - (i + 1)) = (m - j - 1) + 1 by omega, List.getElem?_cons_succ, List.getElem?_drop]
            congr 1; omega
theorem perm_core {α : Type} (a b : α) (A B C : List α) : (A ++ b :: (B ++ a :: C)).Perm (A ++ a :: (B ++ b :: C)) := by
  refine List.Perm.append_left _ ?_
  have p1 : ∀ (a b : α), (a :: (B ++ b :: C)).Perm (a :: b :: (B ++ C)) := fun a b => List.Perm.cons _ List.perm_middle
  exact (p1 _ _).trans ((List.Perm.swap ..).trans (p1 _ _).symm)
theorem swp_permg {α : Type} [Inhabited α] {k : List α} {i j : Nat} (hi : i < j) (hj : j < k.length) : (swp k i j).Perm k := by
  obtain ⟨A, B, C, e1, e2, _, _⟩ := split2g hi hj
  rw [e2]
  conv => rhs; rw [e1]
  exact perm_core _ _ A B C
theorem goP_perm : ∀ {g : Net} {k : List Int} {p : List Nat}, NetOk k.length g → p.length = k.length → (goP g k p).Perm p
  | [], k, p, _, _ => List.Perm.refl _
  | x :: g, k, p, ok, hp => by
    obtain ⟨h1, h2⟩ := ok x (List.mem_cons_self ..)
    have ok2 : NetOk k.length g := fun y hy => ok y (List.mem_cons_of_mem _ hy)
    rw [goP]
    split
    · exact (goP_perm (by rw [swp_len]; exact ok2) (by rw [swp_len, swp_len]; exact hp)).trans (swp_permg h1 (by omega))
    · exact goP_perm ok2 hp
theorem swp_mapg {α β : Type} [Inhabited α] [Inhabited β] (f : α → β) {xs : List α} {i j : Nat} (hi : i < xs.length) (hj : j < xs.length) : (swp xs i j).map f = swp (xs.map f) i j := by
  have e : ∀ m, m < xs.length → (xs.map f).getD m default = f (xs.getD m default) := fun m hm => by
    rw [List.getD_eq_getElem?_getD, List.getD_eq_getElem?_getD, List.getElem?_map, List.getElem?_eq_getElem hm]
    rfl
  unfold swp
  rw [List.map_set, List.map_set, e i hi, e j hj]
/-- the keys are those of the places -/
theorem goP_map {f : Nat → Int} : ∀ {g : Net} {k : List Int} {p : List Nat}, NetOk k.length g → p.map f = k → (goP g k p).map f = goK g k
  | [], k, p, _, h => h
  | x :: g, k, p, ok, h => by
    obtain ⟨h1, h2⟩ := ok x (List.mem_cons_self ..)
    have ok2 : NetOk k.length g := fun y hy => ok y (List.mem_cons_of_mem _ hy)
    have hl : p.length = k.length := by rw [← h, List.length_map]
    rw [goP, goK]
    split
    · exact goP_map (by rw [swp_len]; exact ok2) (by rw [swp_mapg f (by omega) (by omega), h])
    · exact goP_map ok2 h
/-- equal keys by their places -/
def Kept (l : List (Int × Nat)) : Prop := l.Pairwise fun x y => x.1 = y.1 → x.2 ≤ y.2
theorem kept_core {a b : Int × Nat} (h : a.1 ≠ b.1) {A C : List (Int × Nat)} (k : Kept (A ++ a :: b :: C)) : Kept (A ++ b :: a :: C) := by
  unfold Kept at *
  rw [List.pairwise_append] at *
  obtain ⟨h1, h2, h3⟩ := k
  obtain ⟨h4, h5⟩ := List.pairwise_cons.mp h2
  obtain ⟨h6, h7⟩ := List.pairwise_cons.mp h5
  refine ⟨h1, List.pairwise_cons.mpr ⟨fun z hz => ?_, List.pairwise_cons.mpr ⟨fun z hz => h4 z (List.mem_cons_of_mem _ hz), h7⟩⟩, fun x hx y hy => h3 x hx y ?_⟩
  · rcases List.mem_cons.mp hz with rfl | hz
    · exact fun e => absurd e.symm h
    · exact h6 z hz
  · simp only [List.mem_cons] at hy ⊢
    rcases hy with h | h | h
    · exact .inr (.inl h)
    · exact .inl h
    · exact .inr (.inr h)
def Near (g : Net) : Prop := ∀ x ∈ g, x.2 = x.1 + 1
theorem zip_swp {k : List Int} {p : List Nat} {i j : Nat} (h : p.length = k.length) (hi : i < j) (hj : j < k.length) : (swp k i j).zip (swp p i j) = swp (k.zip p) i j := by
  have hz : (k.zip p).length = k.length := by rw [List.length_zip]; omega
  have e1 : ((k.zip p).map fun x => x.1) = k := List.map_fst_zip (by omega)
  have e2 : ((k.zip p).map fun x => x.2) = p := List.map_snd_zip (by omega)
  have f1 := swp_mapg (fun x : Int × Nat => x.1) (xs := k.zip p) (i := i) (j := j) (by omega) (by omega)
  have f2 := swp_mapg (fun x : Int × Nat => x.2) (xs := k.zip p) (i := i) (j := j) (by omega) (by omega)
  rw [e1] at f1
  rw [e2] at f2
  rw [← f1, ← f2]
  generalize swp (k.zip p) i j = l
  induction l with
  | nil => rfl
  | cons x l ih => rw [List.map_cons, List.map_cons, List.zip_cons_cons, ih]
theorem goP_kept : ∀ {g : Net} {k : List Int} {p : List Nat}, NetOk k.length g → Near g → p.length = k.length → Kept (k.zip p) → Kept ((goK g k).zip (goP g k p))
  | [], k, p, _, _, _, h => h
  | x :: g, k, p, ok, nr, hp, h => by
    obtain ⟨h1, h2⟩ := ok x (List.mem_cons_self ..)
    have ok2 : NetOk k.length g := fun y hy => ok y (List.mem_cons_of_mem _ hy)
    have nr2 : Near g := fun y hy => nr y (List.mem_cons_of_mem _ hy)
    have hn := nr x (List.mem_cons_self ..)
    rw [goP, goK]
    by_cases c : gtr k x.1 x.2 = true
    · rw [if_pos c, if_pos c]
      refine goP_kept (by rw [swp_len]; exact ok2) nr2 (by rw [swp_len, swp_len]; exact hp) ?_
      rw [zip_swp hp h1 h2]
      have hz : (k.zip p).length = k.length := by rw [List.length_zip]; omega
      obtain ⟨A, B, C, e1, e2, l1, l2⟩ := split2g (k := k.zip p) h1 (by omega)
      obtain rfl : B = [] := List.eq_nil_of_length_eq_zero (by omega)
      rw [e2]
      rw [e1] at h
      refine kept_core (fun z => ?_) h
      have c : k.getD x.2 default < k.getD x.1 default := of_decide_eq_true c
      have g1 : ∀ m, m < k.length → ((k.zip p).getD m default).1 = k.getD m default := fun m hm => by
        rw [List.getD_eq_getElem?_getD, List.getD_eq_getElem?_getD, List.getElem?_eq_getElem (show m < (k.zip p).length by omega), List.getElem?_eq_getElem hm]
        simp
      rw [g1 _ (by omega), g1 _ h2] at z
      omega
    · rw [if_neg c, if_neg c]
      exact goP_kept ok2 nr2 hp h
theorem kept_from : ∀ (k : List Int) (n : Nat), Kept (k.zip (List.range' n k.length)) ∧ ∀ x ∈ k.zip (List.range' n k.length), n ≤ x.2
  | [], n => ⟨List.Pairwise.nil, by simp⟩
  | a :: k, n => by
    obtain ⟨h1, h2⟩ := kept_from k (n + 1)
    rw [List.length_cons, List.range'_succ, List.zip_cons_cons]
    refine ⟨List.pairwise_cons.mpr ⟨fun z hz _ => ?_, h1⟩, fun x hx => ?_⟩
    · have := h2 z hz
      show n ≤ z.2
      omega
    · rcases List.mem_cons.mp hx with rfl | hx
      · exact Nat.le_refl _
      · have := h2 x hx
        omega
theorem kept_start (k : List Int) : Kept (k.zip (List.range k.length)) := by
  rw [List.range_eq_range']
  exact (kept_from k 0).1
/-- nothing happens to a row that ascends -/
theorem calm_go {g : Net} {k : List Int} (h : k.Pairwise (· ≤ ·)) (ok : NetOk k.length g) : goK g k = k ∧ (∀ p, goP g k p = p) ∧ ∀ s, goS g s k = [] := by
  have no : ∀ x ∈ g, ¬ gtr k x.1 x.2 = true := fun x hx c => by
    obtain ⟨h1, h2⟩ := ok x hx
    have c : k.getD x.2 default < k.getD x.1 default := of_decide_eq_true c
    have := List.pairwise_iff_getElem.mp h x.1 x.2 (by omega) h2 h1
    rw [List.getD_eq_getElem?_getD, List.getD_eq_getElem?_getD, List.getElem?_eq_getElem h2, List.getElem?_eq_getElem (show x.1 < k.length by omega)] at c
    simp at c
    omega
  clear ok
  induction g with
  | nil => exact ⟨rfl, fun _ => rfl, fun _ => rfl⟩
  | cons x g ih =>
    obtain ⟨i1, i2, i3⟩ := ih fun y hy => no y (List.mem_cons_of_mem _ hy)
    have n := no x (List.mem_cons_self ..)
    refine ⟨by rw [goK, if_neg n]; exact i1, fun p => by rw [goP, if_neg n]; exact i2 p, fun s => by rw [goS, if_neg n]; exact i3 _⟩
theorem goS_lt : ∀ {g : Net} {s : Nat} {k : List Int}, ∀ m ∈ goS g s k, m < s + g.length
  | [], s, k, m, h => by simp [goS] at h
  | x :: g, s, k, m, h => by
    rw [goS] at h
    rw [List.length_cons]
    split at h
    · rcases List.mem_cons.mp h with rfl | h
      · omega
      · have := goS_lt m h; omega
    · have := goS_lt m h; omega
end Tk

set_option Elab.async false
set_option linter.all false
set_option maxRecDepth 100000
set_option maxHeartbeats 0
namespace K07
open PySem PySem.Spec PyProof.Rows L2 Tk
/-! ### the defs in the small language (printed by gen.py) -/
def b_gone_through_5 : Ss := .cons (.exp (.app (.nm 4) (.nm 5))) .nil
def b_gone_through_4 : Ss := .cons (.sst2 (.nm 3) (.nm 6) (.nm 3) (.nm 7) (.tup (.cons (.ix (.nm 3) (.nm 7)) (.cons (.ix (.nm 3) (.nm 6)) .nil)))) b_gone_through_5
def b_gone_through_3 : Ss := .cons (.sst2 (.nm 2) (.nm 6) (.nm 2) (.nm 7) (.tup (.cons (.ix (.nm 2) (.nm 7)) (.cons (.ix (.nm 2) (.nm 6)) .nil)))) b_gone_through_4
def b_gone_through_2 : Ss := .cons (.ite (.cmp .Gt (.ix (.nm 2) (.nm 6)) (.ix (.nm 2) (.nm 7))) b_gone_through_3 .nil) .nil
def b_gone_through_6 : Ss := .cons (.ret (.tup (.cons (.nm 2) (.cons (.nm 3) (.cons (.nm 4) .nil))))) .nil
def b_gone_through_1 : Ss := .cons (.for (.tp (.cons (.nm 5) (.cons (.tp (.cons (.nm 6) (.cons (.nm 7) .nil))) .nil))) (.enu (.nm 0)) b_gone_through_2) b_gone_through_6
def b_gone_through_0 : Ss := .cons (.par [2, 3, 4] (.cons (.bi .list1 (.cons (.nm 1) .nil)) (.cons (.lrg (.rg1 (.bi .len (.cons (.nm 1) .nil)))) (.cons (.lst .nil) .nil)))) b_gone_through_1
abbrev b_gone_through : Ss := b_gone_through_0
def b_out_0 : Ss := .cons (.ret (.bi .tuple1 (.cons (.ix (.call "gone_through" (.cons (.nm 0) (.cons (.nm 1) .nil)) [] [0, 1]) (.cst (.int 0))) .nil))) .nil
abbrev b_out : Ss := b_out_0
def b_came_0 : Ss := .cons (.ret (.bi .tuple1 (.cons (.ix (.call "gone_through" (.cons (.nm 0) (.cons (.nm 1) .nil)) [] [0, 1]) (.cst (.int 1))) .nil))) .nil
abbrev b_came : Ss := b_came_0
def b_exchanged_0 : Ss := .cons (.ret (.bi .tuple1 (.cons (.ix (.call "gone_through" (.cons (.nm 0) (.cons (.nm 1) .nil)) [] [0, 1]) (.cst (.int 2))) .nil))) .nil
abbrev b_exchanged : Ss := b_exchanged_0
def b_l_well_2 : Ss := .cons (.set 3 (.bin .Mod (.bi .int1 (.cons (.bin .Add (.bin .Add (.bin .Mult (.nm 3) (.cst (.int 69621))) (.nm 1)) (.cst (.int 5))) .nil)) (.cst (.int 4294967291)))) .nil
def b_l_well_3 : Ss := .cons (.ret (.dct ["deep", "stirred", "turns"] (.cons (.lc (.nm 1) (.nm 1) (.val (.nm 2)) (.cons (.cmp .GtE (.nm 1) (.bin .Pow (.cst (.int 10)) (.cst (.int 15)))) .nil) [("cell", 1)]) (.cons (.nm 3) (.cons (.cst (.int 0)) .nil))))) .nil
def b_l_well_1 : Ss := .cons (.for (.nm 1) (.val (.nm 2)) b_l_well_2) b_l_well_3
def b_l_well_0 : Ss := .cons (.par [2, 3] (.cons (.lc (.bin .Add (.bin .Mult (.cst (.int 2)) (.bi .abs (.cons (.nm 1) .nil))) (.bi .int1 (.cons (.cmp .Lt (.nm 1) (.cst (.int 0))) .nil))) (.nm 1) (.val (.sl (.nm 0) .nil (.cons (.cst (.int 63)) .nil))) .nil [("cell", 1)]) (.cons (.bin .Add (.cst (.int 48271)) (.bin .Mult (.cst (.int 7)) (.bi .len (.cons (.nm 0) .nil)))) .nil))) b_l_well_1
abbrev b_l_well : Ss := b_l_well_0
def b_l_draw_1 : Ss := .cons (.ret (.cst (.int 0))) .nil
def b_l_draw_5 : Ss := .cons (.exp (.appd (.ix (.nm 0) (.cst (.str "deep"))) 3 1)) .nil
def b_l_draw_6 : Ss := .cons (.ret (.bin .Mod (.bi .int1 (.cons (.nm 3) .nil)) (.nm 1))) .nil
def b_l_draw_4 : Ss := .cons (.ite (.cmp .GtE (.nm 3) (.nm 1)) b_l_draw_5 .nil) b_l_draw_6
def b_l_draw_3 : Ss := .cons (.set 3 (.pop (.ix (.nm 0) (.cst (.str "deep"))))) b_l_draw_4
def b_l_draw_11 : Ss := .cons (.ret (.bin .Mod (.bi .int1 (.cons (.bin .FloorDiv (.nm 2) (.cst (.int 128))) .nil)) (.nm 1))) .nil
def b_l_draw_10 : Ss := .cons (.set 2 (.bin .Mod (.bi .int1 (.cons (.bin .Add (.bin .Mult (.nm 2) (.nm 2)) (.ix (.nm 0) (.cst (.str "stirred")))) .nil)) (.cst (.int 4294967197)))) b_l_draw_11
def b_l_draw_9 : Ss := .cons (.set 2 (.bin .Mod (.bi .int1 (.cons (.bin .Add (.bin .Add (.bin .Mult (.nm 2) (.nm 2)) (.bin .Mult (.cst (.int 40503)) (.ix (.nm 0) (.cst (.str "turns"))))) (.cst (.int 17))) .nil)) (.cst (.int 4294967231)))) b_l_draw_10
def b_l_draw_8 : Ss := .cons (.set 2 (.bin .Mod (.bi .int1 (.cons (.bin .Add (.ix (.nm 0) (.cst (.str "stirred"))) (.bin .Mult (.cst (.int 2654435761)) (.ix (.nm 0) (.cst (.str "turns"))))) .nil)) (.cst (.int 4294967279)))) b_l_draw_9
def b_l_draw_7 : Ss := .cons (.sst (.nm 0) (.cst (.str "turns")) (.bin .Add (.ix (.nm 0) (.cst (.str "turns"))) (.cst (.int 1)))) b_l_draw_8
def b_l_draw_2 : Ss := .cons (.ite (.nen (.ix (.nm 0) (.cst (.str "deep"))) true) b_l_draw_3 .nil) b_l_draw_7
def b_l_draw_0 : Ss := .cons (.ite (.cmp .Lt (.nm 1) (.cst (.int 2))) b_l_draw_1 .nil) b_l_draw_2
abbrev b_l_draw : Ss := b_l_draw_0
def b_l_pick_0 : Ss := .cons (.ret (.ix (.nm 1) (.call "_law_draw" (.cons (.nm 0) (.cons (.bi .len (.cons (.nm 1) .nil)) .nil)) [] [0, 1]))) .nil
abbrev b_l_pick : Ss := b_l_pick_0
def b_l_mixed_2 : Ss := .cons (.exp (.app (.nm 3) (.popi (.nm 2) (.call "_law_draw" (.cons (.nm 0) (.cons (.bi .len (.cons (.nm 2) .nil)) .nil)) [] [0, 1])))) .nil
def b_l_mixed_3 : Ss := .cons (.ret (.nm 3)) .nil
def b_l_mixed_1 : Ss := .cons (.whl (.nen (.nm 2) true) b_l_mixed_2) b_l_mixed_3
def b_l_mixed_0 : Ss := .cons (.par [2, 3] (.cons (.bi .list1 (.cons (.nm 1) .nil)) (.cons (.lst .nil) .nil))) b_l_mixed_1
abbrev b_l_mixed : Ss := b_l_mixed_0
def b_l_row_2 : Ss := .cons (.ret (.bi .tuple1 (.cons (.lc (.call "_law_draw" (.cons (.nm 0) (.cons (.cst (.int 2)) .nil)) [] [0, 1]) (.nm 4) (.rg1 (.nm 1)) .nil [("p", 4)]) .nil))) .nil
def b_l_row_4 : Ss := .cons (.ret (.bi .tuple1 (.cons (.lc (.call "_law_pick" (.cons (.nm 0) (.cons (.lst (.cons (.bin .Pow (.cst (.int 10)) (.cst (.int 12))) (.cons (.neg (.bin .Pow (.cst (.int 10)) (.cst (.int 12)))) (.cons (.cst (.int 0)) (.cons (.cst (.int 1)) (.cons (.bin .Sub (.bin .Pow (.cst (.int 10)) (.cst (.int 12))) (.cst (.int 1))) .nil)))))) .nil)) [] [0, 1]) (.nm 4) (.rg1 (.nm 1)) .nil [("p", 4)]) .nil))) .nil
def b_l_row_6 : Ss := .cons (.ret (.bi .tuple1 (.cons (.call "_law_mixed" (.cons (.nm 0) (.cons (.lrg (.rg1 (.nm 1))) .nil)) [] [0, 1]) .nil))) .nil
def b_l_row_8 : Ss := .cons (.ret (.bi .tuple1 (.cons (.lc (.bin .Mult (.call "_law_pick" (.cons (.nm 0) (.cons (.lst (.cons (.cst (.int 1)) (.cons (.neg (.cst (.int 1))) .nil))) .nil)) [] [0, 1]) (.call "_law_draw" (.cons (.nm 0) (.cons (.bin .Add (.bin .Pow (.cst (.int 10)) (.cst (.int 12))) (.cst (.int 1))) .nil)) [] [0, 1])) (.nm 4) (.rg1 (.nm 1)) .nil [("p", 4)]) .nil))) .nil
def b_l_row_11 : Ss := .cons (.ret (.bi .tuple1 (.cons (.bi .sorted1 (.cons (.nm 3) .nil)) .nil))) .nil
def b_l_row_12 : Ss := .cons (.ret (.ite (.cmp .Eq (.nm 2) (.cst (.int 5))) (.bi .tuple1 (.cons (.rev (.bi .sorted1 (.cons (.nm 3) .nil))) .nil)) (.bi .tuple1 (.cons (.nm 3) .nil)))) .nil
def b_l_row_10 : Ss := .cons (.ite (.cmp .Eq (.nm 2) (.cst (.int 4))) b_l_row_11 .nil) b_l_row_12
def b_l_row_9 : Ss := .cons (.set 3 (.lc (.bin .Sub (.call "_law_draw" (.cons (.nm 0) (.cons (.bin .Add (.cst (.int 3)) (.call "_law_draw" (.cons (.nm 0) (.cons (.cst (.int 3)) .nil)) [] [0, 1])) .nil)) [] [0, 1]) (.cst (.int 1))) (.nm 4) (.rg1 (.nm 1)) .nil [("p", 4)])) b_l_row_10
def b_l_row_7 : Ss := .cons (.ite (.cmp .Eq (.nm 2) (.cst (.int 3))) b_l_row_8 .nil) b_l_row_9
def b_l_row_5 : Ss := .cons (.ite (.cmp .Eq (.nm 2) (.cst (.int 2))) b_l_row_6 .nil) b_l_row_7
def b_l_row_3 : Ss := .cons (.ite (.cmp .Eq (.nm 2) (.cst (.int 1))) b_l_row_4 .nil) b_l_row_5
def b_l_row_1 : Ss := .cons (.ite (.cmp .Eq (.nm 2) (.cst (.int 0))) b_l_row_2 .nil) b_l_row_3
def b_l_row_0 : Ss := .cons (.set 2 (.call "_law_draw" (.cons (.nm 0) (.cons (.cst (.int 8)) .nil)) [] [0, 1])) b_l_row_1
abbrev b_l_row : Ss := b_l_row_0
def b_l_net_5 : Ss := .cons (.exp (.app (.nm 5) (.tup (.cons (.nm 6) (.cons (.bin .Add (.nm 6) (.cst (.int 1))) .nil))))) .nil
def b_l_net_7 : Ss := .cons (.exp (.ext (.nm 5) (.lc (.tup (.cons (.nm 7) (.cons (.bin .Add (.nm 7) (.cst (.int 1))) .nil))) (.nm 7) (.rg1 (.bin .Sub (.nm 1) (.cst (.int 1)))) .nil [("p", 7)]))) .nil
def b_l_net_9 : Ss := .cons (.exp (.ext (.nm 5) (.bin .Mult (.lst (.cons (.tup (.cons (.nm 6) (.cons (.bin .Sub (.nm 1) (.cst (.int 1))) .nil))) .nil)) (.cst (.int 2))))) .nil
def b_l_net_10 : Ss := .cons (.exp (.app (.nm 5) (.tup (.cons (.nm 6) (.cons (.bin .Add (.bin .Add (.nm 6) (.cst (.int 1))) (.call "_law_draw" (.cons (.nm 0) (.cons (.bin .Sub (.bin .Sub (.nm 1) (.cst (.int 1))) (.nm 6)) .nil)) [] [0, 1])) .nil))))) .nil
def b_l_net_8 : Ss := .cons (.ite (.cmp .Eq (.nm 4) (.cst (.int 3))) b_l_net_9 b_l_net_10) .nil
def b_l_net_6 : Ss := .cons (.ite (.cmp .Eq (.nm 4) (.cst (.int 2))) b_l_net_7 b_l_net_8) .nil
def b_l_net_4 : Ss := .cons (.ite (.cmp .Lt (.nm 4) (.cst (.int 2))) b_l_net_5 b_l_net_6) .nil
def b_l_net_3 : Ss := .cons (.set 6 (.call "_law_draw" (.cons (.nm 0) (.cons (.bin .Sub (.nm 1) (.cst (.int 1))) .nil)) [] [0, 1])) b_l_net_4
def b_l_net_11 : Ss := .cons (.ret (.bi .tuple1 (.cons (.sl (.nm 5) .nil (.cons (.nm 3) .nil)) .nil))) .nil
def b_l_net_2 : Ss := .cons (.whl (.cmp .Lt (.bi .len (.cons (.nm 5) .nil)) (.nm 3)) b_l_net_3) b_l_net_11
def b_l_net_1 : Ss := .cons (.set 3 (.call "_law_draw" (.cons (.nm 0) (.cons (.bin .Add (.nm 2) (.cst (.int 1))) .nil)) [] [0, 1])) b_l_net_2
def b_l_net_0 : Ss := .cons (.par [4, 5] (.cons (.call "_law_draw" (.cons (.nm 0) (.cons (.cst (.int 7)) .nil)) [] [0, 1]) (.cons (.lst .nil) .nil))) b_l_net_1
abbrev b_l_net : Ss := b_l_net_0
def b_l_run_4 : Ss := .cons (.exp (.app (.nm 3) (.nm 4))) .nil
def b_l_run_3 : Ss := .cons (.sst2 (.nm 2) (.nm 5) (.nm 2) (.nm 6) (.tup (.cons (.ix (.nm 2) (.nm 6)) (.cons (.ix (.nm 2) (.nm 5)) .nil)))) b_l_run_4
def b_l_run_2 : Ss := .cons (.ite (.cmp .Gt (.ix (.ix (.nm 2) (.nm 5)) (.cst (.int 0))) (.ix (.ix (.nm 2) (.nm 6)) (.cst (.int 0)))) b_l_run_3 .nil) .nil
def b_l_run_5 : Ss := .cons (.ret (.tup (.cons (.bi .tuple1 (.cons (.lc (.nm 8) (.tp (.cons (.nm 8) (.cons (.nm 7) .nil))) (.val (.nm 2)) .nil [("key", 8), ("place", 7)]) .nil)) (.cons (.bi .tuple1 (.cons (.lc (.nm 7) (.tp (.cons (.nm 8) (.cons (.nm 7) .nil))) (.val (.nm 2)) .nil [("key", 8), ("place", 7)]) .nil)) (.cons (.bi .tuple1 (.cons (.nm 3) .nil)) .nil))))) .nil
def b_l_run_1 : Ss := .cons (.for (.tp (.cons (.nm 4) (.cons (.tp (.cons (.nm 5) (.cons (.nm 6) .nil))) .nil))) (.enu (.nm 0)) b_l_run_2) b_l_run_5
def b_l_run_0 : Ss := .cons (.par [2, 3] (.cons (.lc (.tup (.cons (.nm 8) (.cons (.nm 7) .nil))) (.tp (.cons (.nm 7) (.cons (.nm 8) .nil))) (.enu (.nm 1)) .nil [("place", 7), ("key", 8)]) (.cons (.lst .nil) .nil))) b_l_run_1
abbrev b_l_run : Ss := b_l_run_0
def b_l_seen_1 : Ss := .cons (.ret (.lst (.cons (.call "out" (.cons (.nm 1) (.cons (.nm 0) .nil)) ["row", "network"] [1, 0]) (.cons (.call "came" (.cons (.nm 1) (.cons (.nm 0) .nil)) ["row", "network"] [1, 0]) (.cons (.call "exchanged" (.cons (.nm 1) (.cons (.nm 0) .nil)) ["row", "network"] [1, 0]) .nil))))) .nil
def b_l_seen_2 : Ss := .cons (.ret (.lst (.cons (.call "out" (.cons (.nm 0) (.cons (.nm 1) .nil)) [] [0, 1]) (.cons (.call "came" (.cons (.nm 0) (.cons (.nm 1) .nil)) [] [0, 1]) (.cons (.call "exchanged" (.cons (.nm 0) (.cons (.nm 1) .nil)) [] [0, 1]) .nil))))) .nil
def b_l_seen_0 : Ss := .cons (.ite (.nm 2) b_l_seen_1 .nil) b_l_seen_2
abbrev b_l_seen : Ss := b_l_seen_0
def b_l_are_kept_3 : Ss := .cons (.ret (.cst (.bool false))) .nil
def b_l_are_kept_4 : Ss := .cons (.sst (.nm 2) (.nm 3) (.nm 4)) .nil
def b_l_are_kept_2 : Ss := .cons (.ite (.cmp .Gt (.dget (.nm 2) (.nm 3) (.neg (.cst (.int 1)))) (.nm 4)) b_l_are_kept_3 .nil) b_l_are_kept_4
def b_l_are_kept_5 : Ss := .cons (.ret (.cst (.bool true))) .nil
def b_l_are_kept_1 : Ss := .cons (.for (.tp (.cons (.nm 3) (.cons (.nm 4) .nil))) (.zip (.cons (.nm 0) (.cons (.nm 1) .nil))) b_l_are_kept_2) b_l_are_kept_5
def b_l_are_kept_0 : Ss := .cons (.set 2 (.dct [] .nil)) b_l_are_kept_1
abbrev b_l_are_kept : Ss := b_l_are_kept_0
def b_l_is_right_2 : Ss := .cons (.ret (.cst (.bool false))) .nil
def b_l_is_right_5 : Ss := .cons (.ret (.cst (.bool false))) .nil
def b_l_is_right_7 : Ss := .cons (.ret (.cst (.bool false))) .nil
def b_l_is_right_9 : Ss := .cons (.ret (.call "_law_are_kept" (.cons (.nm 5) (.cons (.nm 6) .nil)) [] [0, 1])) .nil
def b_l_is_right_10 : Ss := .cons (.ret (.cst (.bool true))) .nil
def b_l_is_right_8 : Ss := .cons (.ite (.nen (.lc (.cst (.int 1)) (.tp (.cons (.nm 9) (.cons (.nm 10) .nil))) (.val (.nm 0)) (.cons (.cmp .Gt (.nm 10) (.bin .Add (.nm 9) (.cst (.int 1)))) .nil) [("i", 9), ("j", 10)]) false) b_l_is_right_9 .nil) b_l_is_right_10
def b_l_is_right_6 : Ss := .cons (.ite (.cmp .NotEq (.bi .repr (.cons (.call "_law_seen" (.cons (.nm 0) (.cons (.nm 1) (.cons (.not (.nm 2)) .nil))) [] [0, 1, 2]) .nil)) (.bi .repr (.cons (.nm 4) .nil))) b_l_is_right_7 .nil) b_l_is_right_8
def b_l_is_right_4 : Ss := .cons (.ite (.or (.cmp .NotEq (.bi .sorted1 (.cons (.nm 6) .nil)) (.lrg (.rg1 (.bi .len (.cons (.nm 1) .nil))))) (.cmp .NotEq (.lc (.ix (.nm 1) (.nm 8)) (.nm 8) (.val (.nm 6)) .nil [("place", 8)]) (.bi .list1 (.cons (.nm 5) .nil)))) b_l_is_right_5 .nil) b_l_is_right_6
def b_l_is_right_3 : Ss := .cons (.asg (.tp (.cons (.nm 5) (.cons (.nm 6) (.cons (.nm 7) .nil)))) (.nm 4)) b_l_is_right_4
def b_l_is_right_1 : Ss := .cons (.ite (.or (.cmp .NotEq (.bi .repr (.cons (.call "_law_seen" (.cons (.nm 0) (.cons (.nm 1) (.cons (.nm 2) .nil))) [] [0, 1, 2]) .nil)) (.bi .repr (.cons (.nm 4) .nil))) (.cmp .NotEq (.bi .repr (.cons (.lst (.cons (.nm 0) (.cons (.nm 1) .nil))) .nil)) (.nm 3))) b_l_is_right_2 .nil) b_l_is_right_3
def b_l_is_right_0 : Ss := .cons (.par [3, 4] (.cons (.bi .repr (.cons (.lst (.cons (.nm 0) (.cons (.nm 1) .nil))) .nil)) (.cons (.bi .list1 (.cons (.call "_law_run" (.cons (.nm 0) (.cons (.nm 1) .nil)) [] [0, 1]) .nil)) .nil))) b_l_is_right_1
abbrev b_l_is_right : Ss := b_l_is_right_0
def b_law_8 : Ss := .cons (.ret (.cst (.bool false))) .nil
def b_law_7 : Ss := .cons (.ite (.not (.call "_law_is_right" (.cons (.nm 4) (.cons (.nm 5) (.cons (.cmp .Eq (.nm 6) (.cst (.int 1))) .nil))) [] [0, 1, 2])) b_law_8 .nil) .nil
def b_law_6 : Ss := .cons (.set 5 (.call "_law_row" (.cons (.nm 1) (.cons (.nm 3) .nil)) [] [0, 1])) b_law_7
def b_law_11 : Ss := .cons (.ret (.cst (.bool false))) .nil
def b_law_10 : Ss := .cons (.ite (.cmp .NotEq (.bi .repr (.cons (.call "_law_seen" (.cons (.nm 4) (.cons (.nm 7) (.cons (.cst (.bool false)) .nil))) [] [0, 1, 2]) .nil)) (.bi .repr (.cons (.lst (.cons (.nm 7) (.cons (.trg (.rg1 (.nm 3))) (.cons (.tup .nil) .nil)))) .nil))) b_law_11 .nil) .nil
def b_law_9 : Ss := .cons (.set 7 (.bi .tuple1 (.cons (.bi .sorted1 (.cons (.nm 5) .nil)) .nil))) b_law_10
def b_law_5 : Ss := .cons (.for (.nm 6) (.rg1 (.cst (.int 3))) b_law_6) b_law_9
def b_law_4 : Ss := .cons (.set 5 (.bin .Mult (.tup (.cons (.cst (.int 0)) .nil)) (.nm 3))) b_law_5
def b_law_3 : Ss := .cons (.set 4 (.call "_law_net" (.cons (.nm 1) (.cons (.nm 3) (.cons (.ix (.lst (.cons (.cst (.int 4)) (.cons (.cst (.int 12)) (.cons (.cst (.int 12)) (.cons (.cst (.int 60)) (.cons (.cst (.int 40)) (.cons (.cst (.int 60)) (.cons (.cst (.int 20)) .nil)))))))) (.nm 2)) .nil))) [] [0, 1, 2])) b_law_4
def b_law_2 : Ss := .cons (.set 3 (.ix (.lst (.cons (.cst (.int 2)) (.cons (.cst (.int 3)) (.cons (.cst (.int 4)) (.cons (.cst (.int 24)) (.cons (.bin .Add (.cst (.int 5)) (.call "_law_draw" (.cons (.nm 1) (.cons (.cst (.int 6)) .nil)) [] [0, 1])) (.cons (.bin .Add (.cst (.int 2)) (.call "_law_draw" (.cons (.nm 1) (.cons (.cst (.int 23)) .nil)) [] [0, 1])) (.cons (.bin .Add (.cst (.int 3)) (.call "_law_draw" (.cons (.nm 1) (.cons (.cst (.int 4)) .nil)) [] [0, 1])) .nil)))))))) (.nm 2))) b_law_3
def b_law_13 : Ss := .cons (.ret (.cst (.bool true))) .nil
def b_law_17 : Ss := .cons (.ret (.call "_law_is_right" (.cons (.sl (.nm 4) .nil (.cons (.cst (.int 1000)) .nil)) (.cons (.call "_law_row" (.cons (.nm 1) (.cons (.nm 3) .nil)) [] [0, 1]) (.cons (.cst (.bool false)) .nil))) [] [0, 1, 2])) .nil
def b_law_16 : Ss := .cons (.set 4 (.bin .Mult (.nm 4) (.bin .Add (.bin .FloorDiv (.cst (.int 1000)) (.bi .len (.cons (.nm 4) .nil))) (.cst (.int 1))))) b_law_17
def b_law_15 : Ss := .cons (.set 4 (.bin .Add (.call "_law_net" (.cons (.nm 1) (.cons (.nm 3) (.cons (.cst (.int 40)) .nil))) [] [0, 1, 2]) (.tup (.cons (.tup (.cons (.cst (.int 0)) (.cons (.bin .Sub (.nm 3) (.cst (.int 1))) .nil))) .nil)))) b_law_16
def b_law_14 : Ss := .cons (.set 3 (.bin .Add (.cst (.int 2)) (.call "_law_draw" (.cons (.nm 1) (.cons (.cst (.int 23)) .nil)) [] [0, 1]))) b_law_15
def b_law_12 : Ss := .cons (.ite (.cmp .Gt (.call "_law_draw" (.cons (.nm 1) (.cons (.cst (.int 6)) .nil)) [] [0, 1]) (.cst (.int 0))) b_law_13 .nil) b_law_14
def b_law_1 : Ss := .cons (.for (.nm 2) (.rg1 (.cst (.int 7))) b_law_2) b_law_12
def b_law_0 : Ss := .cons (.set 1 (.call "_law_well" (.cons (.nm 0) .nil) [] [0])) b_law_1
abbrev b_law : Ss := b_law_0
end K07

set_option Elab.async false
set_option linter.all false
set_option maxRecDepth 100000
set_option maxHeartbeats 0
namespace K07
open PySem PySem.Spec PyProof.Rows L2 Tk
abbrev outD (g : Net) (r : List Int) : PyData := rowD (goK g r)
abbrev cameD (g : Net) (r : List Int) : PyData := .tuple ((goP g r (List.range r.length)).map natD)
abbrev exchD (g : Net) (r : List Int) : PyData := .tuple ((goS g 0 r).map natD)
theorem call_out2 {g : Net} {r : List Int} {L : Lc} {Q : QE} {X : QX} (ok : NetOk r.length g) (hg : g.length ≤ 2000) (hr : r.length ≤ 1000) (q : Q (.fz (outD g r)) L) : callp F_out [1, 0] [.fz (rowD r), .fz (netD g)] L Q X := by
  refine ⟨[.dt (rowD r), .dt (netD g)], L, [], [netD g, rowD r], [], by simp [F_out, prep, Hd.frz], by simp [F_out, pickS], by simp [F_out, pickD], by simp, rfl, by simp [getAll], ?_⟩
  exact ⟨g, r, rfl, rfl, ok, hg, hr, rfl, q⟩
theorem call_came2 {g : Net} {r : List Int} {L : Lc} {Q : QE} {X : QX} (ok : NetOk r.length g) (hg : g.length ≤ 2000) (hr : r.length ≤ 1000) (q : Q (.fz (cameD g r)) L) : callp F_came [1, 0] [.fz (rowD r), .fz (netD g)] L Q X := by
  refine ⟨[.dt (rowD r), .dt (netD g)], L, [], [netD g, rowD r], [], by simp [F_came, prep, Hd.frz], by simp [F_came, pickS], by simp [F_came, pickD], by simp, rfl, by simp [getAll], ?_⟩
  exact ⟨g, r, rfl, rfl, ok, hg, hr, rfl, q⟩
theorem call_exch2 {g : Net} {r : List Int} {L : Lc} {Q : QE} {X : QX} (ok : NetOk r.length g) (hg : g.length ≤ 2000) (hr : r.length ≤ 1000) (q : Q (.fz (exchD g r)) L) : callp F_exch [1, 0] [.fz (rowD r), .fz (netD g)] L Q X := by
  refine ⟨[.dt (rowD r), .dt (netD g)], L, [], [netD g, rowD r], [], by simp [F_exch, prep, Hd.frz], by simp [F_exch, pickS], by simp [F_exch, pickD], by simp, rfl, by simp [getAll], ?_⟩
  exact ⟨g, r, rfl, rfl, ok, hg, hr, rfl, q⟩
def F_seen : Fn := ⟨0, fun xs ds Q _ => ∃ (g : Net) (r : List Int) (b : Bool), xs = [] ∧ ds = [netD g, rowD r, .bool b] ∧ NetOk r.length g ∧ g.length ≤ 2000 ∧ r.length ≤ 1000 ∧ Q (fzL [outD g r, cameD g r, exchD g r]) []⟩
theorem k_seen (Φ : Fns) (h0 : Φ "came" = F_came) (h1 : Φ "exchanged" = F_exch) (h2 : Φ "out" = F_out) : bodyOk Φ F_seen 3 3 b_l_seen := by
  intro xs ds QQ XX hx hd hs
  obtain ⟨g, r, b, rfl, rfl, ok, hg, hr, hq⟩ := hs
  have e0 : F_seen.nio = 0 := rfl
  unfold b_l_seen b_l_seen_0
  cases b
  · simp only [e0, wSs, wS, wE, wA, wB, wT, wO, wI, endPt, ini, vw_fz, vw_tm, vw_sl, vws, dat_d, dat_l, dat_o, pvw_fz, pvw_fzL, pvw_mls, hd_fz, hd_fzL, hd_mls, kid_fz, kid_tm, kidsOf, frz_fz, frz_tm, frz_sl, kid_sl, frzs, setAll, toD_fzL, toD_mls, toD_fz, st_fz, st_tm, st_sl, seq_dl, seq_dt, seq_l, asL_dl, asL_l, asL_dt, asT_dt, asT_dl, asT_l, isiB_some, isiV_b, isiV_i, isiV_s, isiV_l, isiV_t, isiV_d, isBB, isII, isSS, isLL, isTT, isDD, isB_fz, bop_add, bop_sub, bop_mul, bop_div, bop_mod, bop_pow, bop_shl, bop_shr, bop_and, bop_or, bop_xor, cop_eq, cop_ne, cop_eqS, cop_neS, cop_lt, cop_le, cop_gt, cop_ge, cop_is, bip_len, bip_abs, bip_intI, bip_intB, bip_tup, bip_lst, bip_repr, ixp_l, ixp_t, slp_dl, slp_l, slp_dt, atI_0, atI_1, atI_2, atI_cast, Es.len, asg_nm, asg_tp, asg_tl, asgs_nil, end0, end1, prep_nil, prep_fz, prep_tm, pickS, pickD, Hd.into, wipeL, bip_min2, bip_max2, szl_0, szl_1, szl_2, szl_3, szl_4, szl_5, szl_6, szl_7, szl_8, szl_9, szl_10, szl_11, szl_12, pvw_0, pvw_1, pvw_2, pvw_3, pvw_4, pvw_5, pvw_6, pvw_7, pvw_8, List.map_nil, List.map_cons, List.nil_append, List.cons_append, List.length_nil, List.length_cons, List.getElem?_cons_zero, List.getElem?_cons_succ, List.getElem?_nil, List.set_cons_zero, List.set_cons_succ, List.replicate, Option.some.injEq, Prod.mk.injEq, exists_eq_left', exists_eq_left, exists_and_left, and_assoc, and_true, true_and, or_true, true_or, Nat.sub_self, Nat.reduceAdd, Nat.reduceSub, Nat.zero_add, Nat.reduceLT, Nat.lt_add_one, if_true, if_false, ite_true, ite_false, Bool.not_true, Bool.not_false, Bool.false_eq_true, Bool.true_eq_false, eq_self_iff_true, forall_const, true_implies, false_implies, implies_true, reduceCtorEq, and_false, false_and, false_or, or_false, Hd.fz.injEq, PyData.int.injEq, PyData.list.injEq, PyData.tuple.injEq, PyData.bool.injEq]
    unfold b_l_seen_2
    simp only [e0, h0, h1, h2, wSs, wS, wE, wA, wB, wT, wO, wI, endPt, ini, vw_fz, vw_tm, vw_sl, vws, dat_d, dat_l, dat_o, pvw_fz, pvw_fzL, pvw_mls, hd_fz, hd_fzL, hd_mls, kid_fz, kid_tm, kidsOf, frz_fz, frz_tm, frz_sl, kid_sl, frzs, setAll, toD_fzL, toD_mls, toD_fz, st_fz, st_tm, st_sl, seq_dl, seq_dt, seq_l, asL_dl, asL_l, asL_dt, asT_dt, asT_dl, asT_l, isiB_some, isiV_b, isiV_i, isiV_s, isiV_l, isiV_t, isiV_d, isBB, isII, isSS, isLL, isTT, isDD, isB_fz, bop_add, bop_sub, bop_mul, bop_div, bop_mod, bop_pow, bop_shl, bop_shr, bop_and, bop_or, bop_xor, cop_eq, cop_ne, cop_eqS, cop_neS, cop_lt, cop_le, cop_gt, cop_ge, cop_is, bip_len, bip_abs, bip_intI, bip_intB, bip_tup, bip_lst, bip_repr, ixp_l, ixp_t, slp_dl, slp_l, slp_dt, atI_0, atI_1, atI_2, atI_cast, Es.len, asg_nm, asg_tp, asg_tl, asgs_nil, end0, end1, prep_nil, prep_fz, prep_tm, pickS, pickD, Hd.into, wipeL, bip_min2, bip_max2, szl_0, szl_1, szl_2, szl_3, szl_4, szl_5, szl_6, szl_7, szl_8, szl_9, szl_10, szl_11, szl_12, pvw_0, pvw_1, pvw_2, pvw_3, pvw_4, pvw_5, pvw_6, pvw_7, pvw_8, List.map_nil, List.map_cons, List.nil_append, List.cons_append, List.length_nil, List.length_cons, List.getElem?_cons_zero, List.getElem?_cons_succ, List.getElem?_nil, List.set_cons_zero, List.set_cons_succ, List.replicate, Option.some.injEq, Prod.mk.injEq, exists_eq_left', exists_eq_left, exists_and_left, and_assoc, and_true, true_and, or_true, true_or, Nat.sub_self, Nat.reduceAdd, Nat.reduceSub, Nat.zero_add, Nat.reduceLT, Nat.lt_add_one, if_true, if_false, ite_true, ite_false, Bool.not_true, Bool.not_false, Bool.false_eq_true, Bool.true_eq_false, eq_self_iff_true, forall_const, true_implies, false_implies, implies_true, reduceCtorEq, and_false, false_and, false_or, or_false, Hd.fz.injEq, PyData.int.injEq, PyData.list.injEq, PyData.tuple.injEq, PyData.bool.injEq]
    refine call_outN ok hg hr ?_
    simp only [e0, h0, h1, h2, wSs, wS, wE, wA, wB, wT, wO, wI, endPt, ini, vw_fz, vw_tm, vw_sl, vws, dat_d, dat_l, dat_o, pvw_fz, pvw_fzL, pvw_mls, hd_fz, hd_fzL, hd_mls, kid_fz, kid_tm, kidsOf, frz_fz, frz_tm, frz_sl, kid_sl, frzs, setAll, toD_fzL, toD_mls, toD_fz, st_fz, st_tm, st_sl, seq_dl, seq_dt, seq_l, asL_dl, asL_l, asL_dt, asT_dt, asT_dl, asT_l, isiB_some, isiV_b, isiV_i, isiV_s, isiV_l, isiV_t, isiV_d, isBB, isII, isSS, isLL, isTT, isDD, isB_fz, bop_add, bop_sub, bop_mul, bop_div, bop_mod, bop_pow, bop_shl, bop_shr, bop_and, bop_or, bop_xor, cop_eq, cop_ne, cop_eqS, cop_neS, cop_lt, cop_le, cop_gt, cop_ge, cop_is, bip_len, bip_abs, bip_intI, bip_intB, bip_tup, bip_lst, bip_repr, ixp_l, ixp_t, slp_dl, slp_l, slp_dt, atI_0, atI_1, atI_2, atI_cast, Es.len, asg_nm, asg_tp, asg_tl, asgs_nil, end0, end1, prep_nil, prep_fz, prep_tm, pickS, pickD, Hd.into, wipeL, bip_min2, bip_max2, szl_0, szl_1, szl_2, szl_3, szl_4, szl_5, szl_6, szl_7, szl_8, szl_9, szl_10, szl_11, szl_12, pvw_0, pvw_1, pvw_2, pvw_3, pvw_4, pvw_5, pvw_6, pvw_7, pvw_8, List.map_nil, List.map_cons, List.nil_append, List.cons_append, List.length_nil, List.length_cons, List.getElem?_cons_zero, List.getElem?_cons_succ, List.getElem?_nil, List.set_cons_zero, List.set_cons_succ, List.replicate, Option.some.injEq, Prod.mk.injEq, exists_eq_left', exists_eq_left, exists_and_left, and_assoc, and_true, true_and, or_true, true_or, Nat.sub_self, Nat.reduceAdd, Nat.reduceSub, Nat.zero_add, Nat.reduceLT, Nat.lt_add_one, if_true, if_false, ite_true, ite_false, Bool.not_true, Bool.not_false, Bool.false_eq_true, Bool.true_eq_false, eq_self_iff_true, forall_const, true_implies, false_implies, implies_true, reduceCtorEq, and_false, false_and, false_or, or_false, Hd.fz.injEq, PyData.int.injEq, PyData.list.injEq, PyData.tuple.injEq, PyData.bool.injEq]
    refine call_cameN ok hg hr ?_
    simp only [e0, h0, h1, h2, wSs, wS, wE, wA, wB, wT, wO, wI, endPt, ini, vw_fz, vw_tm, vw_sl, vws, dat_d, dat_l, dat_o, pvw_fz, pvw_fzL, pvw_mls, hd_fz, hd_fzL, hd_mls, kid_fz, kid_tm, kidsOf, frz_fz, frz_tm, frz_sl, kid_sl, frzs, setAll, toD_fzL, toD_mls, toD_fz, st_fz, st_tm, st_sl, seq_dl, seq_dt, seq_l, asL_dl, asL_l, asL_dt, asT_dt, asT_dl, asT_l, isiB_some, isiV_b, isiV_i, isiV_s, isiV_l, isiV_t, isiV_d, isBB, isII, isSS, isLL, isTT, isDD, isB_fz, bop_add, bop_sub, bop_mul, bop_div, bop_mod, bop_pow, bop_shl, bop_shr, bop_and, bop_or, bop_xor, cop_eq, cop_ne, cop_eqS, cop_neS, cop_lt, cop_le, cop_gt, cop_ge, cop_is, bip_len, bip_abs, bip_intI, bip_intB, bip_tup, bip_lst, bip_repr, ixp_l, ixp_t, slp_dl, slp_l, slp_dt, atI_0, atI_1, atI_2, atI_cast, Es.len, asg_nm, asg_tp, asg_tl, asgs_nil, end0, end1, prep_nil, prep_fz, prep_tm, pickS, pickD, Hd.into, wipeL, bip_min2, bip_max2, szl_0, szl_1, szl_2, szl_3, szl_4, szl_5, szl_6, szl_7, szl_8, szl_9, szl_10, szl_11, szl_12, pvw_0, pvw_1, pvw_2, pvw_3, pvw_4, pvw_5, pvw_6, pvw_7, pvw_8, List.map_nil, List.map_cons, List.nil_append, List.cons_append, List.length_nil, List.length_cons, List.getElem?_cons_zero, List.getElem?_cons_succ, List.getElem?_nil, List.set_cons_zero, List.set_cons_succ, List.replicate, Option.some.injEq, Prod.mk.injEq, exists_eq_left', exists_eq_left, exists_and_left, and_assoc, and_true, true_and, or_true, true_or, Nat.sub_self, Nat.reduceAdd, Nat.reduceSub, Nat.zero_add, Nat.reduceLT, Nat.lt_add_one, if_true, if_false, ite_true, ite_false, Bool.not_true, Bool.not_false, Bool.false_eq_true, Bool.true_eq_false, eq_self_iff_true, forall_const, true_implies, false_implies, implies_true, reduceCtorEq, and_false, false_and, false_or, or_false, Hd.fz.injEq, PyData.int.injEq, PyData.list.injEq, PyData.tuple.injEq, PyData.bool.injEq]
    refine call_exchN ok hg hr ?_
    simp only [e0, h0, h1, h2, wSs, wS, wE, wA, wB, wT, wO, wI, endPt, ini, vw_fz, vw_tm, vw_sl, vws, dat_d, dat_l, dat_o, pvw_fz, pvw_fzL, pvw_mls, hd_fz, hd_fzL, hd_mls, kid_fz, kid_tm, kidsOf, frz_fz, frz_tm, frz_sl, kid_sl, frzs, setAll, toD_fzL, toD_mls, toD_fz, st_fz, st_tm, st_sl, seq_dl, seq_dt, seq_l, asL_dl, asL_l, asL_dt, asT_dt, asT_dl, asT_l, isiB_some, isiV_b, isiV_i, isiV_s, isiV_l, isiV_t, isiV_d, isBB, isII, isSS, isLL, isTT, isDD, isB_fz, bop_add, bop_sub, bop_mul, bop_div, bop_mod, bop_pow, bop_shl, bop_shr, bop_and, bop_or, bop_xor, cop_eq, cop_ne, cop_eqS, cop_neS, cop_lt, cop_le, cop_gt, cop_ge, cop_is, bip_len, bip_abs, bip_intI, bip_intB, bip_tup, bip_lst, bip_repr, ixp_l, ixp_t, slp_dl, slp_l, slp_dt, atI_0, atI_1, atI_2, atI_cast, Es.len, asg_nm, asg_tp, asg_tl, asgs_nil, end0, end1, prep_nil, prep_fz, prep_tm, pickS, pickD, Hd.into, wipeL, bip_min2, bip_max2, szl_0, szl_1, szl_2, szl_3, szl_4, szl_5, szl_6, szl_7, szl_8, szl_9, szl_10, szl_11, szl_12, pvw_0, pvw_1, pvw_2, pvw_3, pvw_4, pvw_5, pvw_6, pvw_7, pvw_8, List.map_nil, List.map_cons, List.nil_append, List.cons_append, List.length_nil, List.length_cons, List.getElem?_cons_zero, List.getElem?_cons_succ, List.getElem?_nil, List.set_cons_zero, List.set_cons_succ, List.replicate, Option.some.injEq, Prod.mk.injEq, exists_eq_left', exists_eq_left, exists_and_left, and_assoc, and_true, true_and, or_true, true_or, Nat.sub_self, Nat.reduceAdd, Nat.reduceSub, Nat.zero_add, Nat.reduceLT, Nat.lt_add_one, if_true, if_false, ite_true, ite_false, Bool.not_true, Bool.not_false, Bool.false_eq_true, Bool.true_eq_false, eq_self_iff_true, forall_const, true_implies, false_implies, implies_true, reduceCtorEq, and_false, false_and, false_or, or_false, Hd.fz.injEq, PyData.int.injEq, PyData.list.injEq, PyData.tuple.injEq, PyData.bool.injEq]
    exact hq
  · simp only [e0, wSs, wS, wE, wA, wB, wT, wO, wI, endPt, ini, vw_fz, vw_tm, vw_sl, vws, dat_d, dat_l, dat_o, pvw_fz, pvw_fzL, pvw_mls, hd_fz, hd_fzL, hd_mls, kid_fz, kid_tm, kidsOf, frz_fz, frz_tm, frz_sl, kid_sl, frzs, setAll, toD_fzL, toD_mls, toD_fz, st_fz, st_tm, st_sl, seq_dl, seq_dt, seq_l, asL_dl, asL_l, asL_dt, asT_dt, asT_dl, asT_l, isiB_some, isiV_b, isiV_i, isiV_s, isiV_l, isiV_t, isiV_d, isBB, isII, isSS, isLL, isTT, isDD, isB_fz, bop_add, bop_sub, bop_mul, bop_div, bop_mod, bop_pow, bop_shl, bop_shr, bop_and, bop_or, bop_xor, cop_eq, cop_ne, cop_eqS, cop_neS, cop_lt, cop_le, cop_gt, cop_ge, cop_is, bip_len, bip_abs, bip_intI, bip_intB, bip_tup, bip_lst, bip_repr, ixp_l, ixp_t, slp_dl, slp_l, slp_dt, atI_0, atI_1, atI_2, atI_cast, Es.len, asg_nm, asg_tp, asg_tl, asgs_nil, end0, end1, prep_nil, prep_fz, prep_tm, pickS, pickD, Hd.into, wipeL, bip_min2, bip_max2, szl_0, szl_1, szl_2, szl_3, szl_4, szl_5, szl_6, szl_7, szl_8, szl_9, szl_10, szl_11, szl_12, pvw_0, pvw_1, pvw_2, pvw_3, pvw_4, pvw_5, pvw_6, pvw_7, pvw_8, List.map_nil, List.map_cons, List.nil_append, List.cons_append, List.length_nil, List.length_cons, List.getElem?_cons_zero, List.getElem?_cons_succ, List.getElem?_nil, List.set_cons_zero, List.set_cons_succ, List.replicate, Option.some.injEq, Prod.mk.injEq, exists_eq_left', exists_eq_left, exists_and_left, and_assoc, and_true, true_and, or_true, true_or, Nat.sub_self, Nat.reduceAdd, Nat.reduceSub, Nat.zero_add, Nat.reduceLT, Nat.lt_add_one, if_true, if_false, ite_true, ite_false, Bool.not_true, Bool.not_false, Bool.false_eq_true, Bool.true_eq_false, eq_self_iff_true, forall_const, true_implies, false_implies, implies_true, reduceCtorEq, and_false, false_and, false_or, or_false, Hd.fz.injEq, PyData.int.injEq, PyData.list.injEq, PyData.tuple.injEq, PyData.bool.injEq]
    unfold b_l_seen_1
    simp only [e0, h0, h1, h2, wSs, wS, wE, wA, wB, wT, wO, wI, endPt, ini, vw_fz, vw_tm, vw_sl, vws, dat_d, dat_l, dat_o, pvw_fz, pvw_fzL, pvw_mls, hd_fz, hd_fzL, hd_mls, kid_fz, kid_tm, kidsOf, frz_fz, frz_tm, frz_sl, kid_sl, frzs, setAll, toD_fzL, toD_mls, toD_fz, st_fz, st_tm, st_sl, seq_dl, seq_dt, seq_l, asL_dl, asL_l, asL_dt, asT_dt, asT_dl, asT_l, isiB_some, isiV_b, isiV_i, isiV_s, isiV_l, isiV_t, isiV_d, isBB, isII, isSS, isLL, isTT, isDD, isB_fz, bop_add, bop_sub, bop_mul, bop_div, bop_mod, bop_pow, bop_shl, bop_shr, bop_and, bop_or, bop_xor, cop_eq, cop_ne, cop_eqS, cop_neS, cop_lt, cop_le, cop_gt, cop_ge, cop_is, bip_len, bip_abs, bip_intI, bip_intB, bip_tup, bip_lst, bip_repr, ixp_l, ixp_t, slp_dl, slp_l, slp_dt, atI_0, atI_1, atI_2, atI_cast, Es.len, asg_nm, asg_tp, asg_tl, asgs_nil, end0, end1, prep_nil, prep_fz, prep_tm, pickS, pickD, Hd.into, wipeL, bip_min2, bip_max2, szl_0, szl_1, szl_2, szl_3, szl_4, szl_5, szl_6, szl_7, szl_8, szl_9, szl_10, szl_11, szl_12, pvw_0, pvw_1, pvw_2, pvw_3, pvw_4, pvw_5, pvw_6, pvw_7, pvw_8, List.map_nil, List.map_cons, List.nil_append, List.cons_append, List.length_nil, List.length_cons, List.getElem?_cons_zero, List.getElem?_cons_succ, List.getElem?_nil, List.set_cons_zero, List.set_cons_succ, List.replicate, Option.some.injEq, Prod.mk.injEq, exists_eq_left', exists_eq_left, exists_and_left, and_assoc, and_true, true_and, or_true, true_or, Nat.sub_self, Nat.reduceAdd, Nat.reduceSub, Nat.zero_add, Nat.reduceLT, Nat.lt_add_one, if_true, if_false, ite_true, ite_false, Bool.not_true, Bool.not_false, Bool.false_eq_true, Bool.true_eq_false, eq_self_iff_true, forall_const, true_implies, false_implies, implies_true, reduceCtorEq, and_false, false_and, false_or, or_false, Hd.fz.injEq, PyData.int.injEq, PyData.list.injEq, PyData.tuple.injEq, PyData.bool.injEq]
    refine call_out2 ok hg hr ?_
    simp only [e0, h0, h1, h2, wSs, wS, wE, wA, wB, wT, wO, wI, endPt, ini, vw_fz, vw_tm, vw_sl, vws, dat_d, dat_l, dat_o, pvw_fz, pvw_fzL, pvw_mls, hd_fz, hd_fzL, hd_mls, kid_fz, kid_tm, kidsOf, frz_fz, frz_tm, frz_sl, kid_sl, frzs, setAll, toD_fzL, toD_mls, toD_fz, st_fz, st_tm, st_sl, seq_dl, seq_dt, seq_l, asL_dl, asL_l, asL_dt, asT_dt, asT_dl, asT_l, isiB_some, isiV_b, isiV_i, isiV_s, isiV_l, isiV_t, isiV_d, isBB, isII, isSS, isLL, isTT, isDD, isB_fz, bop_add, bop_sub, bop_mul, bop_div, bop_mod, bop_pow, bop_shl, bop_shr, bop_and, bop_or, bop_xor, cop_eq, cop_ne, cop_eqS, cop_neS, cop_lt, cop_le, cop_gt, cop_ge, cop_is, bip_len, bip_abs, bip_intI, bip_intB, bip_tup, bip_lst, bip_repr, ixp_l, ixp_t, slp_dl, slp_l, slp_dt, atI_0, atI_1, atI_2, atI_cast, Es.len, asg_nm, asg_tp, asg_tl, asgs_nil, end0, end1, prep_nil, prep_fz, prep_tm, pickS, pickD, Hd.into, wipeL, bip_min2, bip_max2, szl_0, szl_1, szl_2, szl_3, szl_4, szl_5, szl_6, szl_7, szl_8, szl_9, szl_10, szl_11, szl_12, pvw_0, pvw_1, pvw_2, pvw_3, pvw_4, pvw_5, pvw_6, pvw_7, pvw_8, List.map_nil, List.map_cons, List.nil_append, List.cons_append, List.length_nil, List.length_cons, List.getElem?_cons_zero, List.getElem?_cons_succ, List.getElem?_nil, List.set_cons_zero, List.set_cons_succ, List.replicate, Option.some.injEq, Prod.mk.injEq, exists_eq_left', exists_eq_left, exists_and_left, and_assoc, and_true, true_and, or_true, true_or, Nat.sub_self, Nat.reduceAdd, Nat.reduceSub, Nat.zero_add, Nat.reduceLT, Nat.lt_add_one, if_true, if_false, ite_true, ite_false, Bool.not_true, Bool.not_false, Bool.false_eq_true, Bool.true_eq_false, eq_self_iff_true, forall_const, true_implies, false_implies, implies_true, reduceCtorEq, and_false, false_and, false_or, or_false, Hd.fz.injEq, PyData.int.injEq, PyData.list.injEq, PyData.tuple.injEq, PyData.bool.injEq]
    refine call_came2 ok hg hr ?_
    simp only [e0, h0, h1, h2, wSs, wS, wE, wA, wB, wT, wO, wI, endPt, ini, vw_fz, vw_tm, vw_sl, vws, dat_d, dat_l, dat_o, pvw_fz, pvw_fzL, pvw_mls, hd_fz, hd_fzL, hd_mls, kid_fz, kid_tm, kidsOf, frz_fz, frz_tm, frz_sl, kid_sl, frzs, setAll, toD_fzL, toD_mls, toD_fz, st_fz, st_tm, st_sl, seq_dl, seq_dt, seq_l, asL_dl, asL_l, asL_dt, asT_dt, asT_dl, asT_l, isiB_some, isiV_b, isiV_i, isiV_s, isiV_l, isiV_t, isiV_d, isBB, isII, isSS, isLL, isTT, isDD, isB_fz, bop_add, bop_sub, bop_mul, bop_div, bop_mod, bop_pow, bop_shl, bop_shr, bop_and, bop_or, bop_xor, cop_eq, cop_ne, cop_eqS, cop_neS, cop_lt, cop_le, cop_gt, cop_ge, cop_is, bip_len, bip_abs, bip_intI, bip_intB, bip_tup, bip_lst, bip_repr, ixp_l, ixp_t, slp_dl, slp_l, slp_dt, atI_0, atI_1, atI_2, atI_cast, Es.len, asg_nm, asg_tp, asg_tl, asgs_nil, end0, end1, prep_nil, prep_fz, prep_tm, pickS, pickD, Hd.into, wipeL, bip_min2, bip_max2, szl_0, szl_1, szl_2, szl_3, szl_4, szl_5, szl_6, szl_7, szl_8, szl_9, szl_10, szl_11, szl_12, pvw_0, pvw_1, pvw_2, pvw_3, pvw_4, pvw_5, pvw_6, pvw_7, pvw_8, List.map_nil, List.map_cons, List.nil_append, List.cons_append, List.length_nil, List.length_cons, List.getElem?_cons_zero, List.getElem?_cons_succ, List.getElem?_nil, List.set_cons_zero, List.set_cons_succ, List.replicate, Option.some.injEq, Prod.mk.injEq, exists_eq_left', exists_eq_left, exists_and_left, and_assoc, and_true, true_and, or_true, true_or, Nat.sub_self, Nat.reduceAdd, Nat.reduceSub, Nat.zero_add, Nat.reduceLT, Nat.lt_add_one, if_true, if_false, ite_true, ite_false, Bool.not_true, Bool.not_false, Bool.false_eq_true, Bool.true_eq_false, eq_self_iff_true, forall_const, true_implies, false_implies, implies_true, reduceCtorEq, and_false, false_and, false_or, or_false, Hd.fz.injEq, PyData.int.injEq, PyData.list.injEq, PyData.tuple.injEq, PyData.bool.injEq]
    refine call_exch2 ok hg hr ?_
    simp only [e0, h0, h1, h2, wSs, wS, wE, wA, wB, wT, wO, wI, endPt, ini, vw_fz, vw_tm, vw_sl, vws, dat_d, dat_l, dat_o, pvw_fz, pvw_fzL, pvw_mls, hd_fz, hd_fzL, hd_mls, kid_fz, kid_tm, kidsOf, frz_fz, frz_tm, frz_sl, kid_sl, frzs, setAll, toD_fzL, toD_mls, toD_fz, st_fz, st_tm, st_sl, seq_dl, seq_dt, seq_l, asL_dl, asL_l, asL_dt, asT_dt, asT_dl, asT_l, isiB_some, isiV_b, isiV_i, isiV_s, isiV_l, isiV_t, isiV_d, isBB, isII, isSS, isLL, isTT, isDD, isB_fz, bop_add, bop_sub, bop_mul, bop_div, bop_mod, bop_pow, bop_shl, bop_shr, bop_and, bop_or, bop_xor, cop_eq, cop_ne, cop_eqS, cop_neS, cop_lt, cop_le, cop_gt, cop_ge, cop_is, bip_len, bip_abs, bip_intI, bip_intB, bip_tup, bip_lst, bip_repr, ixp_l, ixp_t, slp_dl, slp_l, slp_dt, atI_0, atI_1, atI_2, atI_cast, Es.len, asg_nm, asg_tp, asg_tl, asgs_nil, end0, end1, prep_nil, prep_fz, prep_tm, pickS, pickD, Hd.into, wipeL, bip_min2, bip_max2, szl_0, szl_1, szl_2, szl_3, szl_4, szl_5, szl_6, szl_7, szl_8, szl_9, szl_10, szl_11, szl_12, pvw_0, pvw_1, pvw_2, pvw_3, pvw_4, pvw_5, pvw_6, pvw_7, pvw_8, List.map_nil, List.map_cons, List.nil_append, List.cons_append, List.length_nil, List.length_cons, List.getElem?_cons_zero, List.getElem?_cons_succ, List.getElem?_nil, List.set_cons_zero, List.set_cons_succ, List.replicate, Option.some.injEq, Prod.mk.injEq, exists_eq_left', exists_eq_left, exists_and_left, and_assoc, and_true, true_and, or_true, true_or, Nat.sub_self, Nat.reduceAdd, Nat.reduceSub, Nat.zero_add, Nat.reduceLT, Nat.lt_add_one, if_true, if_false, ite_true, ite_false, Bool.not_true, Bool.not_false, Bool.false_eq_true, Bool.true_eq_false, eq_self_iff_true, forall_const, true_implies, false_implies, implies_true, reduceCtorEq, and_false, false_and, false_or, or_false, Hd.fz.injEq, PyData.int.injEq, PyData.list.injEq, PyData.tuple.injEq, PyData.bool.injEq]
    exact hq
theorem call_seen {g : Net} {r : List Int} {b : Bool} {L : Lc} {Q : QE} {X : QX} (ok : NetOk r.length g) (hg : g.length ≤ 2000) (hr : r.length ≤ 1000) (q : Q (.tm (fzL [outD g r, cameD g r, exchD g r])) L) : callp F_seen [0, 1, 2] [.fz (netD g), .fz (rowD r), .fz (.bool b)] L Q X := by
  refine ⟨[.dt (netD g), .dt (rowD r), .dt (.bool b)], L, [], [netD g, rowD r, .bool b], [], by simp [F_seen, prep, Hd.frz], by simp [F_seen, pickS], by simp [F_seen, pickD], by simp, rfl, by simp [getAll], ?_⟩
  exact ⟨g, r, b, rfl, rfl, ok, hg, hr, rfl, by simpa [fzL, PV.hd, setAll] using q⟩
/-! ### equal keys by their places -/
def F_kept : Fn := ⟨0, fun xs ds Q _ => ∃ l : List (Int × Nat), xs = [] ∧ ds = [.tuple (l.map fun x => .int x.1), .tuple (l.map fun x => natD x.2)] ∧ Kept l ∧ l.length ≤ 1000 ∧ Q (.fz (.bool true)) []⟩
theorem zip_l : ∀ l : List (Int × Nat), zipD (l.map fun x => .int x.1) (l.map fun x => natD x.2) = l.map fun x => .tuple [.int x.1, .int x.2]
  | [] => rfl
  | x :: l => by rw [List.map_cons, List.map_cons, zipD, zip_l l]; rfl
def Last (done : List (Int × Nat)) (ks : List Key) (vs : List PV) : Prop := ks.Nodup ∧ vs.length = ks.length ∧ ks.length ≤ done.length ∧ ∀ (j : Nat) (z : Int), ks[j]? = some (Sum.inl z) → ∃ p : Nat, vs[j]? = some (PV.fz (natD p)) ∧ (z, p) ∈ done
theorem k_kept (Φ : Fns) : bodyOk Φ F_kept 5 2 b_l_are_kept := by
  intro xs ds QQ XX hx hd hs
  obtain ⟨l, rfl, rfl, hk, hl, hq⟩ := hs
  have e0 : F_kept.nio = 0 := rfl
  unfold b_l_are_kept b_l_are_kept_0
  simp only [e0, wSs, wS, wE, wA, wB, wT, wO, wI, endPt, ini, vw_fz, vw_tm, vw_sl, vws, dat_d, dat_l, dat_o, pvw_fz, pvw_fzL, pvw_mls, hd_fz, hd_fzL, hd_mls, kid_fz, kid_tm, kidsOf, frz_fz, frz_tm, frz_sl, kid_sl, frzs, setAll, toD_fzL, toD_mls, toD_fz, st_fz, st_tm, st_sl, seq_dl, seq_dt, seq_l, asL_dl, asL_l, asL_dt, asT_dt, asT_dl, asT_l, isiB_some, isiV_b, isiV_i, isiV_s, isiV_l, isiV_t, isiV_d, isBB, isII, isSS, isLL, isTT, isDD, isB_fz, bop_add, bop_sub, bop_mul, bop_div, bop_mod, bop_pow, bop_shl, bop_shr, bop_and, bop_or, bop_xor, cop_eq, cop_ne, cop_eqS, cop_neS, cop_lt, cop_le, cop_gt, cop_ge, cop_is, bip_len, bip_abs, bip_intI, bip_intB, bip_tup, bip_lst, bip_repr, ixp_l, ixp_t, slp_dl, slp_l, slp_dt, atI_0, atI_1, atI_2, atI_cast, Es.len, asg_nm, asg_tp, asg_tl, asgs_nil, end0, end1, prep_nil, prep_fz, prep_tm, pickS, pickD, Hd.into, wipeL, bip_min2, bip_max2, szl_0, szl_1, szl_2, szl_3, szl_4, szl_5, szl_6, szl_7, szl_8, szl_9, szl_10, szl_11, szl_12, pvw_0, pvw_1, pvw_2, pvw_3, pvw_4, pvw_5, pvw_6, pvw_7, pvw_8, List.map_nil, List.map_cons, List.nil_append, List.cons_append, List.length_nil, List.length_cons, List.getElem?_cons_zero, List.getElem?_cons_succ, List.getElem?_nil, List.set_cons_zero, List.set_cons_succ, List.replicate, Option.some.injEq, Prod.mk.injEq, exists_eq_left', exists_eq_left, exists_and_left, and_assoc, and_true, true_and, or_true, true_or, Nat.sub_self, Nat.reduceAdd, Nat.reduceSub, Nat.zero_add, Nat.reduceLT, Nat.lt_add_one, if_true, if_false, ite_true, ite_false, Bool.not_true, Bool.not_false, Bool.false_eq_true, Bool.true_eq_false, eq_self_iff_true, forall_const, true_implies, false_implies, implies_true, reduceCtorEq, and_false, false_and, false_or, or_false, Hd.fz.injEq, PyData.int.injEq, PyData.list.injEq, PyData.tuple.injEq, PyData.bool.injEq]
  unfold b_l_are_kept_1
  simp only [e0, wSs, wS, wE, wA, wB, wT, wO, wI, endPt, ini, vw_fz, vw_tm, vw_sl, vws, dat_d, dat_l, dat_o, pvw_fz, pvw_fzL, pvw_mls, hd_fz, hd_fzL, hd_mls, kid_fz, kid_tm, kidsOf, frz_fz, frz_tm, frz_sl, kid_sl, frzs, setAll, toD_fzL, toD_mls, toD_fz, st_fz, st_tm, st_sl, seq_dl, seq_dt, seq_l, asL_dl, asL_l, asL_dt, asT_dt, asT_dl, asT_l, isiB_some, isiV_b, isiV_i, isiV_s, isiV_l, isiV_t, isiV_d, isBB, isII, isSS, isLL, isTT, isDD, isB_fz, bop_add, bop_sub, bop_mul, bop_div, bop_mod, bop_pow, bop_shl, bop_shr, bop_and, bop_or, bop_xor, cop_eq, cop_ne, cop_eqS, cop_neS, cop_lt, cop_le, cop_gt, cop_ge, cop_is, bip_len, bip_abs, bip_intI, bip_intB, bip_tup, bip_lst, bip_repr, ixp_l, ixp_t, slp_dl, slp_l, slp_dt, atI_0, atI_1, atI_2, atI_cast, Es.len, asg_nm, asg_tp, asg_tl, asgs_nil, end0, end1, prep_nil, prep_fz, prep_tm, pickS, pickD, Hd.into, wipeL, bip_min2, bip_max2, szl_0, szl_1, szl_2, szl_3, szl_4, szl_5, szl_6, szl_7, szl_8, szl_9, szl_10, szl_11, szl_12, pvw_0, pvw_1, pvw_2, pvw_3, pvw_4, pvw_5, pvw_6, pvw_7, pvw_8, List.map_nil, List.map_cons, List.nil_append, List.cons_append, List.length_nil, List.length_cons, List.getElem?_cons_zero, List.getElem?_cons_succ, List.getElem?_nil, List.set_cons_zero, List.set_cons_succ, List.replicate, Option.some.injEq, Prod.mk.injEq, exists_eq_left', exists_eq_left, exists_and_left, and_assoc, and_true, true_and, or_true, true_or, Nat.sub_self, Nat.reduceAdd, Nat.reduceSub, Nat.zero_add, Nat.reduceLT, Nat.lt_add_one, if_true, if_false, ite_true, ite_false, Bool.not_true, Bool.not_false, Bool.false_eq_true, Bool.true_eq_false, eq_self_iff_true, forall_const, true_implies, false_implies, implies_true, reduceCtorEq, and_false, false_and, false_or, or_false, Hd.fz.injEq, PyData.int.injEq, PyData.list.injEq, PyData.tuple.injEq, PyData.bool.injEq]
  refine ⟨by decide, List.nodup_nil, _, _, rfl, _, _, .inr ⟨rfl, rfl⟩, ?_⟩
  rw [zip_l]
  refine forRun_ind (fun ds L => ∃ (done rest : List (Int × Nat)) (ks : List Key) (vs : List PV) (a b : Option PV), l = done ++ rest ∧ ds = rest.map (fun x => PyData.tuple [.int x.1, .int x.2]) ∧ Last done ks vs ∧
      L = [some (.fz (.tuple (l.map fun x => .int x.1))), some (.fz (.tuple (l.map fun x => natD x.2))), some (.mdc ks vs), a, b]) (fun d ds' L N hJ hN => ?_) (fun L hJ => ?_) _ _ ⟨[], l, [], [], none, none, rfl, rfl, ⟨List.nodup_nil, rfl, Nat.le_refl _, fun j z h => by simp at h⟩, rfl⟩
  · obtain ⟨done, rest, ks, vs, a, b, el, e1, ⟨nd, hvl, hkl, hlast⟩, rfl⟩ := hJ
    cases rest with
    | nil => cases e1
    | cons x rest =>
      cases e1
      have hdl : done.length ≤ 1000 := by
        have := congrArg List.length el
        rw [List.length_append] at this
        omega
      refine ⟨_, asg_pair (by simp) (by simp), ?_⟩
      unfold b_l_are_kept_2
      simp only [e0, wSs, wS, wE, wA, wB, wT, wO, wI, endPt, ini, vw_fz, vw_tm, vw_sl, vws, dat_d, dat_l, dat_o, pvw_fz, pvw_fzL, pvw_mls, hd_fz, hd_fzL, hd_mls, kid_fz, kid_tm, kidsOf, frz_fz, frz_tm, frz_sl, kid_sl, frzs, setAll, toD_fzL, toD_mls, toD_fz, st_fz, st_tm, st_sl, seq_dl, seq_dt, seq_l, asL_dl, asL_l, asL_dt, asT_dt, asT_dl, asT_l, isiB_some, isiV_b, isiV_i, isiV_s, isiV_l, isiV_t, isiV_d, isBB, isII, isSS, isLL, isTT, isDD, isB_fz, bop_add, bop_sub, bop_mul, bop_div, bop_mod, bop_pow, bop_shl, bop_shr, bop_and, bop_or, bop_xor, cop_eq, cop_ne, cop_eqS, cop_neS, cop_lt, cop_le, cop_gt, cop_ge, cop_is, bip_len, bip_abs, bip_intI, bip_intB, bip_tup, bip_lst, bip_repr, ixp_l, ixp_t, slp_dl, slp_l, slp_dt, atI_0, atI_1, atI_2, atI_cast, Es.len, asg_nm, asg_tp, asg_tl, asgs_nil, end0, end1, prep_nil, prep_fz, prep_tm, pickS, pickD, Hd.into, wipeL, bip_min2, bip_max2, szl_0, szl_1, szl_2, szl_3, szl_4, szl_5, szl_6, szl_7, szl_8, szl_9, szl_10, szl_11, szl_12, pvw_0, pvw_1, pvw_2, pvw_3, pvw_4, pvw_5, pvw_6, pvw_7, pvw_8, List.map_nil, List.map_cons, List.nil_append, List.cons_append, List.length_nil, List.length_cons, List.getElem?_cons_zero, List.getElem?_cons_succ, List.getElem?_nil, List.set_cons_zero, List.set_cons_succ, List.replicate, Option.some.injEq, Prod.mk.injEq, exists_eq_left', exists_eq_left, exists_and_left, and_assoc, and_true, true_and, or_true, true_or, Nat.sub_self, Nat.reduceAdd, Nat.reduceSub, Nat.zero_add, Nat.reduceLT, Nat.lt_add_one, if_true, if_false, ite_true, ite_false, Bool.not_true, Bool.not_false, Bool.false_eq_true, Bool.true_eq_false, eq_self_iff_true, forall_const, true_implies, false_implies, implies_true, reduceCtorEq, and_false, false_and, false_or, or_false, Hd.fz.injEq, PyData.int.injEq, PyData.list.injEq, PyData.tuple.injEq, PyData.bool.injEq]
      have el2 : l = (done ++ [x]) ++ rest := by rw [el, List.append_assoc]; rfl
      have go4 : ∀ P : Pt, P.nx = N → wSs Φ b_l_are_kept_4 [some (.fz (.tuple (l.map fun x => .int x.1))), some (.fz (.tuple (l.map fun x => natD x.2))), some (.mdc ks vs), some (.fz (.int x.1)), some (.fz (natD x.2))] P := by
        intro P hP
        unfold b_l_are_kept_4
        simp only [hP, wSs, wS, wE, wA, wB, wT, wO, wI, endPt, ini, vw_fz, vw_tm, vw_sl, vws, dat_d, dat_l, dat_o, pvw_fz, pvw_fzL, pvw_mls, hd_fz, hd_fzL, hd_mls, kid_fz, kid_tm, kidsOf, frz_fz, frz_tm, frz_sl, kid_sl, frzs, setAll, toD_fzL, toD_mls, toD_fz, st_fz, st_tm, st_sl, seq_dl, seq_dt, seq_l, asL_dl, asL_l, asL_dt, asT_dt, asT_dl, asT_l, isiB_some, isiV_b, isiV_i, isiV_s, isiV_l, isiV_t, isiV_d, isBB, isII, isSS, isLL, isTT, isDD, isB_fz, bop_add, bop_sub, bop_mul, bop_div, bop_mod, bop_pow, bop_shl, bop_shr, bop_and, bop_or, bop_xor, cop_eq, cop_ne, cop_eqS, cop_neS, cop_lt, cop_le, cop_gt, cop_ge, cop_is, bip_len, bip_abs, bip_intI, bip_intB, bip_tup, bip_lst, bip_repr, ixp_l, ixp_t, slp_dl, slp_l, slp_dt, atI_0, atI_1, atI_2, atI_cast, Es.len, asg_nm, asg_tp, asg_tl, asgs_nil, end0, end1, prep_nil, prep_fz, prep_tm, pickS, pickD, Hd.into, wipeL, bip_min2, bip_max2, szl_0, szl_1, szl_2, szl_3, szl_4, szl_5, szl_6, szl_7, szl_8, szl_9, szl_10, szl_11, szl_12, pvw_0, pvw_1, pvw_2, pvw_3, pvw_4, pvw_5, pvw_6, pvw_7, pvw_8, List.map_nil, List.map_cons, List.nil_append, List.cons_append, List.length_nil, List.length_cons, List.getElem?_cons_zero, List.getElem?_cons_succ, List.getElem?_nil, List.set_cons_zero, List.set_cons_succ, List.replicate, Option.some.injEq, Prod.mk.injEq, exists_eq_left', exists_eq_left, exists_and_left, and_assoc, and_true, true_and, or_true, true_or, Nat.sub_self, Nat.reduceAdd, Nat.reduceSub, Nat.zero_add, Nat.reduceLT, Nat.lt_add_one, if_true, if_false, ite_true, ite_false, Bool.not_true, Bool.not_false, Bool.false_eq_true, Bool.true_eq_false, eq_self_iff_true, forall_const, true_implies, false_implies, implies_true, reduceCtorEq, and_false, false_and, false_or, or_false, Hd.fz.injEq, PyData.int.injEq, PyData.list.injEq, PyData.tuple.injEq, PyData.bool.injEq]
        by_cases hz : (Sum.inl x.1 : Key) ∈ ks
        · obtain ⟨j, hj⟩ := List.getElem?_of_mem hz
          refine sstp_mdc (ks := ks) (xs := vs) (z := .inl x.1) (j := j) (by rw [at_sl]; rfl) rfl nd (sz_ls (by omega)) hj ?_
          rw [setAt_sl (i := 2) (x := .mdc ks vs) rfl]
          have hjl : j < vs.length := by rw [hvl]; exact (List.getElem?_eq_some_iff.mp hj).1
          refine hN _ ⟨done ++ [x], rest, ks, vs.set j (.fz (natD x.2)), _, _, el2, rfl, ⟨nd, by rw [List.length_set]; exact hvl, by rw [List.length_append]; omega, fun m z hm => ?_⟩, rfl⟩
          by_cases hmj : j = m
          · subst hmj
            rw [hj] at hm
            cases hm
            exact ⟨x.2, by rw [List.getElem?_set_self hjl], by simp⟩
          · obtain ⟨p, p1, p2⟩ := hlast m z hm
            exact ⟨p, by rw [List.getElem?_set_ne hmj]; exact p1, by simp [p2]⟩
        · refine ⟨2, [], rfl, .inr ⟨ks, vs, .inl x.1, by rw [at_sl]; rfl, rfl, nd, sz_ls (by omega), .inr ⟨hz, ?_⟩⟩⟩
          rw [setAt_sl (i := 2) (x := .mdc ks vs) rfl]
          refine hN _ ⟨done ++ [x], rest, ks ++ [.inl x.1], vs ++ [.fz (natD x.2)], _, _, el2, rfl, ⟨?_, by simp [hvl], by simp; omega, fun m z hm => ?_⟩, rfl⟩
          · rw [List.nodup_append]
            exact ⟨nd, by simp, fun a ha b hb e => by simp at hb; subst hb; exact hz (e ▸ ha)⟩
          · by_cases hml : m < ks.length
            · rw [List.getElem?_append_left hml] at hm
              obtain ⟨p, p1, p2⟩ := hlast m z hm
              exact ⟨p, by rw [List.getElem?_append_left (by omega)]; exact p1, by simp [p2]⟩
            · rw [List.getElem?_append_right (by omega)] at hm
              have hm0 : m - ks.length = 0 := by
                have := (List.getElem?_eq_some_iff.mp hm).1
                simp at this
                omega
              rw [hm0] at hm
              cases hm
              exact ⟨x.2, by rw [List.getElem?_append_right (by omega), hvl, hm0]; rfl, by simp⟩
      refine ⟨by simp [Hd.isD, at_sl], 2, [], rfl, ks, vs, by rw [at_sl]; rfl, .inl x.1, rfl, nd, ?_⟩
      by_cases hz : (Sum.inl x.1 : Key) ∈ ks
      · obtain ⟨j, hj⟩ := List.getElem?_of_mem hz
        obtain ⟨p, p1, p2⟩ := hlast j x.1 hj
        refine .inl ⟨j, hj, natD p, p1, ?_⟩
        have hle : p ≤ x.2 := by
          rw [el] at hk
          exact (List.pairwise_append.mp hk).2.2 (x.1, p) p2 x (List.mem_cons_self ..) rfl
        have hf : decide (((x.2 : Nat) : Int) < (p : Int)) = false := decide_eq_false (by omega)
        simp only [hf, wSs, wS, wE, wA, wB, wT, wO, wI, endPt, ini, vw_fz, vw_tm, vw_sl, vws, dat_d, dat_l, dat_o, pvw_fz, pvw_fzL, pvw_mls, hd_fz, hd_fzL, hd_mls, kid_fz, kid_tm, kidsOf, frz_fz, frz_tm, frz_sl, kid_sl, frzs, setAll, toD_fzL, toD_mls, toD_fz, st_fz, st_tm, st_sl, seq_dl, seq_dt, seq_l, asL_dl, asL_l, asL_dt, asT_dt, asT_dl, asT_l, isiB_some, isiV_b, isiV_i, isiV_s, isiV_l, isiV_t, isiV_d, isBB, isII, isSS, isLL, isTT, isDD, isB_fz, bop_add, bop_sub, bop_mul, bop_div, bop_mod, bop_pow, bop_shl, bop_shr, bop_and, bop_or, bop_xor, cop_eq, cop_ne, cop_eqS, cop_neS, cop_lt, cop_le, cop_gt, cop_ge, cop_is, bip_len, bip_abs, bip_intI, bip_intB, bip_tup, bip_lst, bip_repr, ixp_l, ixp_t, slp_dl, slp_l, slp_dt, atI_0, atI_1, atI_2, atI_cast, Es.len, asg_nm, asg_tp, asg_tl, asgs_nil, end0, end1, prep_nil, prep_fz, prep_tm, pickS, pickD, Hd.into, wipeL, bip_min2, bip_max2, szl_0, szl_1, szl_2, szl_3, szl_4, szl_5, szl_6, szl_7, szl_8, szl_9, szl_10, szl_11, szl_12, pvw_0, pvw_1, pvw_2, pvw_3, pvw_4, pvw_5, pvw_6, pvw_7, pvw_8, List.map_nil, List.map_cons, List.nil_append, List.cons_append, List.length_nil, List.length_cons, List.getElem?_cons_zero, List.getElem?_cons_succ, List.getElem?_nil, List.set_cons_zero, List.set_cons_succ, List.replicate, Option.some.injEq, Prod.mk.injEq, exists_eq_left', exists_eq_left, exists_and_left, and_assoc, and_true, true_and, or_true, true_or, Nat.sub_self, Nat.reduceAdd, Nat.reduceSub, Nat.zero_add, Nat.reduceLT, Nat.lt_add_one, if_true, if_false, ite_true, ite_false, Bool.not_true, Bool.not_false, Bool.false_eq_true, Bool.true_eq_false, eq_self_iff_true, forall_const, true_implies, false_implies, implies_true, reduceCtorEq, and_false, false_and, false_or, or_false, Hd.fz.injEq, PyData.int.injEq, PyData.list.injEq, PyData.tuple.injEq, PyData.bool.injEq]
        exact go4 _ rfl
      · have hf : decide (((x.2 : Nat) : Int) < -1) = false := decide_eq_false (by omega)
        refine .inr ⟨hz, ?_⟩
        simp only [hf, List.map_nil, List.map_cons, List.nil_append, List.cons_append, List.length_nil, List.length_cons, List.getElem?_cons_zero, List.getElem?_cons_succ, List.getElem?_nil, List.set_cons_zero, List.set_cons_succ, List.replicate, Option.some.injEq, Prod.mk.injEq, exists_eq_left', exists_eq_left, exists_and_left, and_assoc, and_true, true_and, or_true, true_or, Nat.sub_self, Nat.reduceAdd, Nat.reduceSub, Nat.zero_add, Nat.reduceLT, Nat.lt_add_one, if_true, if_false, ite_true, ite_false, Bool.not_true, Bool.not_false, Bool.false_eq_true, Bool.true_eq_false, eq_self_iff_true, forall_const, true_implies, false_implies, implies_true, reduceCtorEq, and_false, false_and, false_or, or_false, Hd.fz.injEq, PyData.int.injEq, PyData.list.injEq, PyData.tuple.injEq, PyData.bool.injEq]
        exact go4 _ rfl
  · obtain ⟨done, rest, ks, vs, a, b, el, e1, hlast, rfl⟩ := hJ
    dsimp only
    unfold b_l_are_kept_5
    simp only [e0, wSs, wS, wE, wA, wB, wT, wO, wI, endPt, ini, vw_fz, vw_tm, vw_sl, vws, dat_d, dat_l, dat_o, pvw_fz, pvw_fzL, pvw_mls, hd_fz, hd_fzL, hd_mls, kid_fz, kid_tm, kidsOf, frz_fz, frz_tm, frz_sl, kid_sl, frzs, setAll, toD_fzL, toD_mls, toD_fz, st_fz, st_tm, st_sl, seq_dl, seq_dt, seq_l, asL_dl, asL_l, asL_dt, asT_dt, asT_dl, asT_l, isiB_some, isiV_b, isiV_i, isiV_s, isiV_l, isiV_t, isiV_d, isBB, isII, isSS, isLL, isTT, isDD, isB_fz, bop_add, bop_sub, bop_mul, bop_div, bop_mod, bop_pow, bop_shl, bop_shr, bop_and, bop_or, bop_xor, cop_eq, cop_ne, cop_eqS, cop_neS, cop_lt, cop_le, cop_gt, cop_ge, cop_is, bip_len, bip_abs, bip_intI, bip_intB, bip_tup, bip_lst, bip_repr, ixp_l, ixp_t, slp_dl, slp_l, slp_dt, atI_0, atI_1, atI_2, atI_cast, Es.len, asg_nm, asg_tp, asg_tl, asgs_nil, end0, end1, prep_nil, prep_fz, prep_tm, pickS, pickD, Hd.into, wipeL, bip_min2, bip_max2, szl_0, szl_1, szl_2, szl_3, szl_4, szl_5, szl_6, szl_7, szl_8, szl_9, szl_10, szl_11, szl_12, pvw_0, pvw_1, pvw_2, pvw_3, pvw_4, pvw_5, pvw_6, pvw_7, pvw_8, List.map_nil, List.map_cons, List.nil_append, List.cons_append, List.length_nil, List.length_cons, List.getElem?_cons_zero, List.getElem?_cons_succ, List.getElem?_nil, List.set_cons_zero, List.set_cons_succ, List.replicate, Option.some.injEq, Prod.mk.injEq, exists_eq_left', exists_eq_left, exists_and_left, and_assoc, and_true, true_and, or_true, true_or, Nat.sub_self, Nat.reduceAdd, Nat.reduceSub, Nat.zero_add, Nat.reduceLT, Nat.lt_add_one, if_true, if_false, ite_true, ite_false, Bool.not_true, Bool.not_false, Bool.false_eq_true, Bool.true_eq_false, eq_self_iff_true, forall_const, true_implies, false_implies, implies_true, reduceCtorEq, and_false, false_and, false_or, or_false, Hd.fz.injEq, PyData.int.injEq, PyData.list.injEq, PyData.tuple.injEq, PyData.bool.injEq]
    exact hq
end K07

set_option Elab.async false
set_option linter.all false
set_option maxRecDepth 100000
set_option maxHeartbeats 0
namespace K07
open PySem PySem.Spec PyProof.Rows L2 Tk
theorem cop_neL {a b : List Int} {P : Bool → Prop} (q : P (!decide (a = b))) : cop .NotEq (.l (a.map .int)) (.l (b.map .int)) P :=
  cop_neD ⟨shaped_ints a, shaped_ints b⟩ (by
    show P (!PyData.eqv (.list (a.map .int)) (.list (b.map .int)))
    rw [PyData.eqv, eqv_all_ints]
    exact q)
theorem call_run {g : Net} {r : List Int} {L : Lc} {Q : QE} {X : QX} (ok : NetOk r.length g) (hg : g.length ≤ 2000) (hr : r.length ≤ 1000) (q : Q (.fz (.tuple [outD g r, cameD g r, exchD g r])) L) : callp F_run [0, 1] [.fz (netD g), .fz (rowD r)] L Q X := by
  refine ⟨[.dt (netD g), .dt (rowD r)], L, [], [netD g, rowD r], [], by simp [F_run, prep, Hd.frz], by simp [F_run, pickS], by simp [F_run, pickD], by simp, rfl, by simp [getAll], ?_⟩
  exact ⟨g, r, rfl, rfl, ok, hg, hr, rfl, q⟩
theorem call_kept {ks : List Int} {ps : List Nat} {L : Lc} {Q : QE} {X : QX} (hl : ps.length = ks.length) (hk : ks.length ≤ 1000) (k : Kept (ks.zip ps)) (q : Q (.fz (.bool true)) L) : callp F_kept [0, 1] [.fz (rowD ks), .fz (.tuple (ps.map natD))] L Q X := by
  refine ⟨[.dt (rowD ks), .dt (.tuple (ps.map natD))], L, [], [rowD ks, .tuple (ps.map natD)], [], by simp [F_kept, prep, Hd.frz], by simp [F_kept, pickS], by simp [F_kept, pickD], by simp, rfl, by simp [getAll], ?_⟩
  refine ⟨ks.zip ps, rfl, ?_, k, by rw [List.length_zip]; omega, rfl, q⟩
  have e1 : (ks.zip ps).map (fun x => x.1) = ks := List.map_fst_zip (by omega)
  have e2 : (ks.zip ps).map (fun x => x.2) = ps := List.map_snd_zip (by omega)
  have f1 : (ks.zip ps).map (fun x => PyData.int x.1) = ks.map .int := by rw [← e1, List.map_map]; simp only [e1]; rfl
  have f2 : (ks.zip ps).map (fun x => natD x.2) = ps.map natD := by rw [← e2, List.map_map]; simp only [e2]; rfl
  rw [f1, f2]
def F_right : Fn := ⟨0, fun xs ds Q _ => ∃ (g : Net) (r : List Int) (b : Bool), xs = [] ∧ ds = [netD g, rowD r, .bool b] ∧ NetOk r.length g ∧ g.length ≤ 1000 ∧ r.length ≤ 24 ∧ RowOk r ∧ Q (.fz (.bool true)) []⟩
def farD : PyData → Option PyData
  | .tuple [.int i, .int j] => if decide (i + 1 < j) = true then some (.int 1) else none
  | _ => none
def atD (r : List Int) : PyData → PyData
  | .int p => .int (r.getD p.toNat default)
  | d => d
theorem far_none {g : Net} (h : ((g.map Tk.prD).filterMap farD).isEmpty = true) {n : Nat} (ok : NetOk n g) : Near g := fun x hx => by
  obtain ⟨h1, h2⟩ := ok x hx
  have : farD (Tk.prD x) = none := by
    cases e : farD (Tk.prD x) with
    | none => rfl
    | some y =>
      have : y ∈ (g.map Tk.prD).filterMap farD := List.mem_filterMap.mpr ⟨_, List.mem_map.mpr ⟨x, hx, rfl⟩, e⟩
      rw [List.isEmpty_iff.mp h] at this
      simp at this
  simp only [Tk.prD, farD] at this
  split at this
  · cases this
  · rename_i c
    have c : ¬ ((x.1 : Int) + 1 < x.2) := by simpa using c
    omega
theorem range_get (r : List Int) : (List.range r.length).map (fun p => r.getD p default) = r := by
  apply List.ext_getElem?
  intro i
  rw [List.getElem?_map]
  by_cases h : i < r.length
  · rw [List.getElem?_range h, List.getElem?_eq_getElem h]
    show some (r.getD i default) = _
    rw [List.getD_eq_getElem?_getD, List.getElem?_eq_getElem h]
    rfl
  · rw [List.getElem?_eq_none (by simp; omega), List.getElem?_eq_none (by omega)]
    rfl
section
variable {Φ : Fns} (h0 : Φ "_law_are_kept" = F_kept) (h1 : Φ "_law_run" = F_run) (h2 : Φ "_law_seen" = F_seen)
include h0 h1 h2
theorem k_right : bodyOk Φ F_right 11 3 b_l_is_right := by
  intro xs ds QQ XX hx hd hs
  obtain ⟨g, r, b, rfl, rfl, ok, hg, hr, hrow, hq⟩ := hs
  have e0 : F_right.nio = 0 := rfl
  have sg : Sm 2 74003 (netD g) := sm_net ok (by omega) (by omega)
  have sr : Sm 1 1603 (rowD r) := sm_row hrow (by omega)
  have sgr := sm_two sg (sr.mono (by decide) (by decide))
  have hkl : (goK g r).length = r.length := goK_len
  have hpl : (goP g r (List.range r.length)).length = r.length := by rw [goP_len, List.length_range]
  have hpp := goP_perm (g := g) (k := r) (p := List.range r.length) ok (by rw [List.length_range])
  have hpm : ∀ p ∈ goP g r (List.range r.length), p < r.length := fun p hp => List.mem_range.mp (hpp.mem_iff.mp hp)
  have hsl : (goS g 0 r).length ≤ g.length := goS_len
  have s1 : Sm 1 32003 (outD g r) := (sm_row (rowOk_perm hrow (goK_perm ok)) (by omega)).mono (by decide) (by decide)
  have s2 : Sm 1 32003 (cameD g r) := sm_nats (fun k hk => by have := hpm k hk; omega) (by omega)
  have hsm := goS_lt (g := g) (s := 0) (k := r)
  have s3 : Sm 1 32003 (exchD g r) := sm_nats (fun k hk => by have := hsm k hk; omega) (by omega)
  have s4 := sm_three s1 s2 s3
  unfold b_l_is_right b_l_is_right_0
  simp only [e0, h1, wSs, wS, wE, wA, wB, wT, wO, wI, endPt, ini, vw_fz, vw_tm, vw_sl, vws, dat_d, dat_l, dat_o, pvw_fz, pvw_fzL, pvw_mls, hd_fz, hd_fzL, hd_mls, kid_fz, kid_tm, kidsOf, frz_fz, frz_tm, frz_sl, kid_sl, frzs, setAll, toD_fzL, toD_mls, toD_fz, st_fz, st_tm, st_sl, seq_dl, seq_dt, seq_l, asL_dl, asL_l, asL_dt, asT_dt, asT_dl, asT_l, isiB_some, isiV_b, isiV_i, isiV_s, isiV_l, isiV_t, isiV_d, isBB, isII, isSS, isLL, isTT, isDD, isB_fz, bop_add, bop_sub, bop_mul, bop_div, bop_mod, bop_pow, bop_shl, bop_shr, bop_and, bop_or, bop_xor, cop_eq, cop_ne, cop_eqS, cop_neS, cop_lt, cop_le, cop_gt, cop_ge, cop_is, bip_len, bip_abs, bip_intI, bip_intB, bip_tup, bip_lst, bip_repr, ixp_l, ixp_t, slp_dl, slp_l, slp_dt, atI_0, atI_1, atI_2, atI_cast, Es.len, asg_nm, asg_tp, asg_tl, asgs_nil, end0, end1, prep_nil, prep_fz, prep_tm, pickS, pickD, Hd.into, wipeL, bip_min2, bip_max2, szl_0, szl_1, szl_2, szl_3, szl_4, szl_5, szl_6, szl_7, szl_8, szl_9, szl_10, szl_11, szl_12, pvw_0, pvw_1, pvw_2, pvw_3, pvw_4, pvw_5, pvw_6, pvw_7, pvw_8, List.map_nil, List.map_cons, List.nil_append, List.cons_append, List.length_nil, List.length_cons, List.getElem?_cons_zero, List.getElem?_cons_succ, List.getElem?_nil, List.set_cons_zero, List.set_cons_succ, List.replicate, Option.some.injEq, Prod.mk.injEq, exists_eq_left', exists_eq_left, exists_and_left, and_assoc, and_true, true_and, or_true, true_or, Nat.sub_self, Nat.reduceAdd, Nat.reduceSub, Nat.zero_add, Nat.reduceLT, Nat.lt_add_one, if_true, if_false, ite_true, ite_false, Bool.not_true, Bool.not_false, Bool.false_eq_true, Bool.true_eq_false, eq_self_iff_true, forall_const, true_implies, false_implies, implies_true, reduceCtorEq, and_false, false_and, false_or, or_false, Hd.fz.injEq, PyData.int.injEq, PyData.list.injEq, PyData.tuple.injEq, PyData.bool.injEq]
  refine rp_and sgr (by decide) (by decide) (call_run ok (by omega) (by omega) ?_)
  simp only [e0, h1, wSs, wS, wE, wA, wB, wT, wO, wI, endPt, ini, vw_fz, vw_tm, vw_sl, vws, dat_d, dat_l, dat_o, pvw_fz, pvw_fzL, pvw_mls, hd_fz, hd_fzL, hd_mls, kid_fz, kid_tm, kidsOf, frz_fz, frz_tm, frz_sl, kid_sl, frzs, setAll, toD_fzL, toD_mls, toD_fz, st_fz, st_tm, st_sl, seq_dl, seq_dt, seq_l, asL_dl, asL_l, asL_dt, asT_dt, asT_dl, asT_l, isiB_some, isiV_b, isiV_i, isiV_s, isiV_l, isiV_t, isiV_d, isBB, isII, isSS, isLL, isTT, isDD, isB_fz, bop_add, bop_sub, bop_mul, bop_div, bop_mod, bop_pow, bop_shl, bop_shr, bop_and, bop_or, bop_xor, cop_eq, cop_ne, cop_eqS, cop_neS, cop_lt, cop_le, cop_gt, cop_ge, cop_is, bip_len, bip_abs, bip_intI, bip_intB, bip_tup, bip_lst, bip_repr, ixp_l, ixp_t, slp_dl, slp_l, slp_dt, atI_0, atI_1, atI_2, atI_cast, Es.len, asg_nm, asg_tp, asg_tl, asgs_nil, end0, end1, prep_nil, prep_fz, prep_tm, pickS, pickD, Hd.into, wipeL, bip_min2, bip_max2, szl_0, szl_1, szl_2, szl_3, szl_4, szl_5, szl_6, szl_7, szl_8, szl_9, szl_10, szl_11, szl_12, pvw_0, pvw_1, pvw_2, pvw_3, pvw_4, pvw_5, pvw_6, pvw_7, pvw_8, List.map_nil, List.map_cons, List.nil_append, List.cons_append, List.length_nil, List.length_cons, List.getElem?_cons_zero, List.getElem?_cons_succ, List.getElem?_nil, List.set_cons_zero, List.set_cons_succ, List.replicate, Option.some.injEq, Prod.mk.injEq, exists_eq_left', exists_eq_left, exists_and_left, and_assoc, and_true, true_and, or_true, true_or, Nat.sub_self, Nat.reduceAdd, Nat.reduceSub, Nat.zero_add, Nat.reduceLT, Nat.lt_add_one, if_true, if_false, ite_true, ite_false, Bool.not_true, Bool.not_false, Bool.false_eq_true, Bool.true_eq_false, eq_self_iff_true, forall_const, true_implies, false_implies, implies_true, reduceCtorEq, and_false, false_and, false_or, or_false, Hd.fz.injEq, PyData.int.injEq, PyData.list.injEq, PyData.tuple.injEq, PyData.bool.injEq]
  refine ⟨by simp, ?_⟩
  unfold b_l_is_right_1
  simp only [e0, h2, wSs, wS, wE, wA, wB, wT, wO, wI, endPt, ini, vw_fz, vw_tm, vw_sl, vws, dat_d, dat_l, dat_o, pvw_fz, pvw_fzL, pvw_mls, hd_fz, hd_fzL, hd_mls, kid_fz, kid_tm, kidsOf, frz_fz, frz_tm, frz_sl, kid_sl, frzs, setAll, toD_fzL, toD_mls, toD_fz, st_fz, st_tm, st_sl, seq_dl, seq_dt, seq_l, asL_dl, asL_l, asL_dt, asT_dt, asT_dl, asT_l, isiB_some, isiV_b, isiV_i, isiV_s, isiV_l, isiV_t, isiV_d, isBB, isII, isSS, isLL, isTT, isDD, isB_fz, bop_add, bop_sub, bop_mul, bop_div, bop_mod, bop_pow, bop_shl, bop_shr, bop_and, bop_or, bop_xor, cop_eq, cop_ne, cop_eqS, cop_neS, cop_lt, cop_le, cop_gt, cop_ge, cop_is, bip_len, bip_abs, bip_intI, bip_intB, bip_tup, bip_lst, bip_repr, ixp_l, ixp_t, slp_dl, slp_l, slp_dt, atI_0, atI_1, atI_2, atI_cast, Es.len, asg_nm, asg_tp, asg_tl, asgs_nil, end0, end1, prep_nil, prep_fz, prep_tm, pickS, pickD, Hd.into, wipeL, bip_min2, bip_max2, szl_0, szl_1, szl_2, szl_3, szl_4, szl_5, szl_6, szl_7, szl_8, szl_9, szl_10, szl_11, szl_12, pvw_0, pvw_1, pvw_2, pvw_3, pvw_4, pvw_5, pvw_6, pvw_7, pvw_8, List.map_nil, List.map_cons, List.nil_append, List.cons_append, List.length_nil, List.length_cons, List.getElem?_cons_zero, List.getElem?_cons_succ, List.getElem?_nil, List.set_cons_zero, List.set_cons_succ, List.replicate, Option.some.injEq, Prod.mk.injEq, exists_eq_left', exists_eq_left, exists_and_left, and_assoc, and_true, true_and, or_true, true_or, Nat.sub_self, Nat.reduceAdd, Nat.reduceSub, Nat.zero_add, Nat.reduceLT, Nat.lt_add_one, if_true, if_false, ite_true, ite_false, Bool.not_true, Bool.not_false, Bool.false_eq_true, Bool.true_eq_false, eq_self_iff_true, forall_const, true_implies, false_implies, implies_true, reduceCtorEq, and_false, false_and, false_or, or_false, Hd.fz.injEq, PyData.int.injEq, PyData.list.injEq, PyData.tuple.injEq, PyData.bool.injEq]
  refine call_seen ok (by omega) (by omega) ?_
  simp only [e0, h2, wSs, wS, wE, wA, wB, wT, wO, wI, endPt, ini, vw_fz, vw_tm, vw_sl, vws, dat_d, dat_l, dat_o, pvw_fz, pvw_fzL, pvw_mls, hd_fz, hd_fzL, hd_mls, kid_fz, kid_tm, kidsOf, frz_fz, frz_tm, frz_sl, kid_sl, frzs, setAll, toD_fzL, toD_mls, toD_fz, st_fz, st_tm, st_sl, seq_dl, seq_dt, seq_l, asL_dl, asL_l, asL_dt, asT_dt, asT_dl, asT_l, isiB_some, isiV_b, isiV_i, isiV_s, isiV_l, isiV_t, isiV_d, isBB, isII, isSS, isLL, isTT, isDD, isB_fz, bop_add, bop_sub, bop_mul, bop_div, bop_mod, bop_pow, bop_shl, bop_shr, bop_and, bop_or, bop_xor, cop_eq, cop_ne, cop_eqS, cop_neS, cop_lt, cop_le, cop_gt, cop_ge, cop_is, bip_len, bip_abs, bip_intI, bip_intB, bip_tup, bip_lst, bip_repr, ixp_l, ixp_t, slp_dl, slp_l, slp_dt, atI_0, atI_1, atI_2, atI_cast, Es.len, asg_nm, asg_tp, asg_tl, asgs_nil, end0, end1, prep_nil, prep_fz, prep_tm, pickS, pickD, Hd.into, wipeL, bip_min2, bip_max2, szl_0, szl_1, szl_2, szl_3, szl_4, szl_5, szl_6, szl_7, szl_8, szl_9, szl_10, szl_11, szl_12, pvw_0, pvw_1, pvw_2, pvw_3, pvw_4, pvw_5, pvw_6, pvw_7, pvw_8, List.map_nil, List.map_cons, List.nil_append, List.cons_append, List.length_nil, List.length_cons, List.getElem?_cons_zero, List.getElem?_cons_succ, List.getElem?_nil, List.set_cons_zero, List.set_cons_succ, List.replicate, Option.some.injEq, Prod.mk.injEq, exists_eq_left', exists_eq_left, exists_and_left, and_assoc, and_true, true_and, or_true, true_or, Nat.sub_self, Nat.reduceAdd, Nat.reduceSub, Nat.zero_add, Nat.reduceLT, Nat.lt_add_one, if_true, if_false, ite_true, ite_false, Bool.not_true, Bool.not_false, Bool.false_eq_true, Bool.true_eq_false, eq_self_iff_true, forall_const, true_implies, false_implies, implies_true, reduceCtorEq, and_false, false_and, false_or, or_false, Hd.fz.injEq, PyData.int.injEq, PyData.list.injEq, PyData.tuple.injEq, PyData.bool.injEq]
  refine rp_and s4 (by decide) (by decide) (rp_and s4 (by decide) (by decide) ?_)
  simp only [decide_true, Bool.not_true, List.map_nil, List.map_cons, List.nil_append, List.cons_append, List.length_nil, List.length_cons, List.getElem?_cons_zero, List.getElem?_cons_succ, List.getElem?_nil, List.set_cons_zero, List.set_cons_succ, List.replicate, Option.some.injEq, Prod.mk.injEq, exists_eq_left', exists_eq_left, exists_and_left, and_assoc, and_true, true_and, or_true, true_or, Nat.sub_self, Nat.reduceAdd, Nat.reduceSub, Nat.zero_add, Nat.reduceLT, Nat.lt_add_one, if_true, if_false, ite_true, ite_false, Bool.not_true, Bool.not_false, Bool.false_eq_true, Bool.true_eq_false, eq_self_iff_true, forall_const, true_implies, false_implies, implies_true, reduceCtorEq, and_false, false_and, false_or, or_false, Hd.fz.injEq, PyData.int.injEq, PyData.list.injEq, PyData.tuple.injEq, PyData.bool.injEq]
  refine rp_and sgr (by decide) (by decide) ?_
  unfold b_l_is_right_3
  simp only [e0, h2, fzL, wSs, wS, wE, wA, wB, wT, wO, wI, endPt, ini, vw_fz, vw_tm, vw_sl, vws, dat_d, dat_l, dat_o, pvw_fz, pvw_fzL, pvw_mls, hd_fz, hd_fzL, hd_mls, kid_fz, kid_tm, kidsOf, frz_fz, frz_tm, frz_sl, kid_sl, frzs, setAll, toD_fzL, toD_mls, toD_fz, st_fz, st_tm, st_sl, seq_dl, seq_dt, seq_l, asL_dl, asL_l, asL_dt, asT_dt, asT_dl, asT_l, isiB_some, isiV_b, isiV_i, isiV_s, isiV_l, isiV_t, isiV_d, isBB, isII, isSS, isLL, isTT, isDD, isB_fz, bop_add, bop_sub, bop_mul, bop_div, bop_mod, bop_pow, bop_shl, bop_shr, bop_and, bop_or, bop_xor, cop_eq, cop_ne, cop_eqS, cop_neS, cop_lt, cop_le, cop_gt, cop_ge, cop_is, bip_len, bip_abs, bip_intI, bip_intB, bip_tup, bip_lst, bip_repr, ixp_l, ixp_t, slp_dl, slp_l, slp_dt, atI_0, atI_1, atI_2, atI_cast, Es.len, asg_nm, asg_tp, asg_tl, asgs_nil, end0, end1, prep_nil, prep_fz, prep_tm, pickS, pickD, Hd.into, wipeL, bip_min2, bip_max2, szl_0, szl_1, szl_2, szl_3, szl_4, szl_5, szl_6, szl_7, szl_8, szl_9, szl_10, szl_11, szl_12, pvw_0, pvw_1, pvw_2, pvw_3, pvw_4, pvw_5, pvw_6, pvw_7, pvw_8, List.map_nil, List.map_cons, List.nil_append, List.cons_append, List.length_nil, List.length_cons, List.getElem?_cons_zero, List.getElem?_cons_succ, List.getElem?_nil, List.set_cons_zero, List.set_cons_succ, List.replicate, Option.some.injEq, Prod.mk.injEq, exists_eq_left', exists_eq_left, exists_and_left, and_assoc, and_true, true_and, or_true, true_or, Nat.sub_self, Nat.reduceAdd, Nat.reduceSub, Nat.zero_add, Nat.reduceLT, Nat.lt_add_one, if_true, if_false, ite_true, ite_false, Bool.not_true, Bool.not_false, Bool.false_eq_true, Bool.true_eq_false, eq_self_iff_true, forall_const, true_implies, false_implies, implies_true, reduceCtorEq, and_false, false_and, false_or, or_false, Hd.fz.injEq, PyData.int.injEq, PyData.list.injEq, PyData.tuple.injEq, PyData.bool.injEq]
  have ht : (PV.mls [.fz (outD g r), .fz (cameD g r), .fz (exchD g r)]).toD = .list [outD g r, cameD g r, exchD g r] := toD_fzL (ds := [outD g r, cameD g r, exchD g r])
  rw [ht]
  refine ⟨_, by rw [asg_tl, asgs_nm (by simp), asgs_nm (by simp), asgs_nm (by simp), asgs_nil], ?_⟩
  unfold b_l_is_right_4
  simp only [e0, h2, wSs, wS, wE, wA, wB, wT, wO, wI, endPt, ini, vw_fz, vw_tm, vw_sl, vws, dat_d, dat_l, dat_o, pvw_fz, pvw_fzL, pvw_mls, hd_fz, hd_fzL, hd_mls, kid_fz, kid_tm, kidsOf, frz_fz, frz_tm, frz_sl, kid_sl, frzs, setAll, toD_fzL, toD_mls, toD_fz, st_fz, st_tm, st_sl, seq_dl, seq_dt, seq_l, asL_dl, asL_l, asL_dt, asT_dt, asT_dl, asT_l, isiB_some, isiV_b, isiV_i, isiV_s, isiV_l, isiV_t, isiV_d, isBB, isII, isSS, isLL, isTT, isDD, isB_fz, bop_add, bop_sub, bop_mul, bop_div, bop_mod, bop_pow, bop_shl, bop_shr, bop_and, bop_or, bop_xor, cop_eq, cop_ne, cop_eqS, cop_neS, cop_lt, cop_le, cop_gt, cop_ge, cop_is, bip_len, bip_abs, bip_intI, bip_intB, bip_tup, bip_lst, bip_repr, ixp_l, ixp_t, slp_dl, slp_l, slp_dt, atI_0, atI_1, atI_2, atI_cast, Es.len, asg_nm, asg_tp, asg_tl, asgs_nil, end0, end1, prep_nil, prep_fz, prep_tm, pickS, pickD, Hd.into, wipeL, bip_min2, bip_max2, szl_0, szl_1, szl_2, szl_3, szl_4, szl_5, szl_6, szl_7, szl_8, szl_9, szl_10, szl_11, szl_12, pvw_0, pvw_1, pvw_2, pvw_3, pvw_4, pvw_5, pvw_6, pvw_7, pvw_8, List.map_nil, List.map_cons, List.nil_append, List.cons_append, List.length_nil, List.length_cons, List.getElem?_cons_zero, List.getElem?_cons_succ, List.getElem?_nil, List.set_cons_zero, List.set_cons_succ, List.replicate, Option.some.injEq, Prod.mk.injEq, exists_eq_left', exists_eq_left, exists_and_left, and_assoc, and_true, true_and, or_true, true_or, Nat.sub_self, Nat.reduceAdd, Nat.reduceSub, Nat.zero_add, Nat.reduceLT, Nat.lt_add_one, if_true, if_false, ite_true, ite_false, Bool.not_true, Bool.not_false, Bool.false_eq_true, Bool.true_eq_false, eq_self_iff_true, forall_const, true_implies, false_implies, implies_true, reduceCtorEq, and_false, false_and, false_or, or_false, Hd.fz.injEq, PyData.int.injEq, PyData.list.injEq, PyData.tuple.injEq, PyData.bool.injEq]
  refine ⟨_, (goP g r (List.range r.length)).map Int.ofNat, rfl, by show some ((goP g r (List.range r.length)).map natD) = _; rw [natD_ints], fun ms p1 p2 => ?_⟩
  have hms : ms = (List.range r.length).map Int.ofNat := sorted_uniq (p1.trans (hpp.map Int.ofNat)) p2 (List.pairwise_map.mpr ((List.pairwise_lt_range (n := r.length)).imp fun h => by simp only [Int.ofNat_eq_natCast]; omega))
  simp only [e0, h2, List.length_map, wSs, wS, wE, wA, wB, wT, wO, wI, endPt, ini, vw_fz, vw_tm, vw_sl, vws, dat_d, dat_l, dat_o, pvw_fz, pvw_fzL, pvw_mls, hd_fz, hd_fzL, hd_mls, kid_fz, kid_tm, kidsOf, frz_fz, frz_tm, frz_sl, kid_sl, frzs, setAll, toD_fzL, toD_mls, toD_fz, st_fz, st_tm, st_sl, seq_dl, seq_dt, seq_l, asL_dl, asL_l, asL_dt, asT_dt, asT_dl, asT_l, isiB_some, isiV_b, isiV_i, isiV_s, isiV_l, isiV_t, isiV_d, isBB, isII, isSS, isLL, isTT, isDD, isB_fz, bop_add, bop_sub, bop_mul, bop_div, bop_mod, bop_pow, bop_shl, bop_shr, bop_and, bop_or, bop_xor, cop_eq, cop_ne, cop_eqS, cop_neS, cop_lt, cop_le, cop_gt, cop_ge, cop_is, bip_len, bip_abs, bip_intI, bip_intB, bip_tup, bip_lst, bip_repr, ixp_l, ixp_t, slp_dl, slp_l, slp_dt, atI_0, atI_1, atI_2, atI_cast, Es.len, asg_nm, asg_tp, asg_tl, asgs_nil, end0, end1, prep_nil, prep_fz, prep_tm, pickS, pickD, Hd.into, wipeL, bip_min2, bip_max2, szl_0, szl_1, szl_2, szl_3, szl_4, szl_5, szl_6, szl_7, szl_8, szl_9, szl_10, szl_11, szl_12, pvw_0, pvw_1, pvw_2, pvw_3, pvw_4, pvw_5, pvw_6, pvw_7, pvw_8, List.map_nil, List.map_cons, List.nil_append, List.cons_append, List.length_nil, List.length_cons, List.getElem?_cons_zero, List.getElem?_cons_succ, List.getElem?_nil, List.set_cons_zero, List.set_cons_succ, List.replicate, Option.some.injEq, Prod.mk.injEq, exists_eq_left', exists_eq_left, exists_and_left, and_assoc, and_true, true_and, or_true, true_or, Nat.sub_self, Nat.reduceAdd, Nat.reduceSub, Nat.zero_add, Nat.reduceLT, Nat.lt_add_one, if_true, if_false, ite_true, ite_false, Bool.not_true, Bool.not_false, Bool.false_eq_true, Bool.true_eq_false, eq_self_iff_true, forall_const, true_implies, false_implies, implies_true, reduceCtorEq, and_false, false_and, false_or, or_false, Hd.fz.injEq, PyData.int.injEq, PyData.list.injEq, PyData.tuple.injEq, PyData.bool.injEq]
  have hrg : rgD 0 ((r.length : Int)).toNat = ms.map .int := by rw [show ((r.length : Int)).toNat = r.length from rfl, rg_range, hms, ← natD_ints]
  rw [hrg]
  refine ⟨by omega, by omega, by omega, cop_neL ?_⟩
  simp only [decide_true, Bool.not_true, List.map_nil, List.map_cons, List.nil_append, List.cons_append, List.length_nil, List.length_cons, List.getElem?_cons_zero, List.getElem?_cons_succ, List.getElem?_nil, List.set_cons_zero, List.set_cons_succ, List.replicate, Option.some.injEq, Prod.mk.injEq, exists_eq_left', exists_eq_left, exists_and_left, and_assoc, and_true, true_and, or_true, true_or, Nat.sub_self, Nat.reduceAdd, Nat.reduceSub, Nat.zero_add, Nat.reduceLT, Nat.lt_add_one, if_true, if_false, ite_true, ite_false, Bool.not_true, Bool.not_false, Bool.false_eq_true, Bool.true_eq_false, eq_self_iff_true, forall_const, true_implies, false_implies, implies_true, reduceCtorEq, and_false, false_and, false_or, or_false, Hd.fz.injEq, PyData.int.injEq, PyData.list.injEq, PyData.tuple.injEq, PyData.bool.injEq]
  refine lc_mapQ (atD r) (fun d hd R hR => ?_) (by rw [List.length_map, hpl]; exact sz_le (by omega)) (by simp [keepFz]) fun L2 hb => ?_
  · obtain ⟨p, hp, rfl⟩ := List.mem_map.mp hd
    have := hpm p hp
    refine ⟨_, rfl, ?_⟩
    simp only [e0, wSs, wS, wE, wA, wB, wT, wO, wI, endPt, ini, vw_fz, vw_tm, vw_sl, vws, dat_d, dat_l, dat_o, pvw_fz, pvw_fzL, pvw_mls, hd_fz, hd_fzL, hd_mls, kid_fz, kid_tm, kidsOf, frz_fz, frz_tm, frz_sl, kid_sl, frzs, setAll, toD_fzL, toD_mls, toD_fz, st_fz, st_tm, st_sl, seq_dl, seq_dt, seq_l, asL_dl, asL_l, asL_dt, asT_dt, asT_dl, asT_l, isiB_some, isiV_b, isiV_i, isiV_s, isiV_l, isiV_t, isiV_d, isBB, isII, isSS, isLL, isTT, isDD, isB_fz, bop_add, bop_sub, bop_mul, bop_div, bop_mod, bop_pow, bop_shl, bop_shr, bop_and, bop_or, bop_xor, cop_eq, cop_ne, cop_eqS, cop_neS, cop_lt, cop_le, cop_gt, cop_ge, cop_is, bip_len, bip_abs, bip_intI, bip_intB, bip_tup, bip_lst, bip_repr, ixp_l, ixp_t, slp_dl, slp_l, slp_dt, atI_0, atI_1, atI_2, atI_cast, Es.len, asg_nm, asg_tp, asg_tl, asgs_nil, end0, end1, prep_nil, prep_fz, prep_tm, pickS, pickD, Hd.into, wipeL, bip_min2, bip_max2, szl_0, szl_1, szl_2, szl_3, szl_4, szl_5, szl_6, szl_7, szl_8, szl_9, szl_10, szl_11, szl_12, pvw_0, pvw_1, pvw_2, pvw_3, pvw_4, pvw_5, pvw_6, pvw_7, pvw_8, List.map_nil, List.map_cons, List.nil_append, List.cons_append, List.length_nil, List.length_cons, List.getElem?_cons_zero, List.getElem?_cons_succ, List.getElem?_nil, List.set_cons_zero, List.set_cons_succ, List.replicate, Option.some.injEq, Prod.mk.injEq, exists_eq_left', exists_eq_left, exists_and_left, and_assoc, and_true, true_and, or_true, true_or, Nat.sub_self, Nat.reduceAdd, Nat.reduceSub, Nat.zero_add, Nat.reduceLT, Nat.lt_add_one, if_true, if_false, ite_true, ite_false, Bool.not_true, Bool.not_false, Bool.false_eq_true, Bool.true_eq_false, eq_self_iff_true, forall_const, true_implies, false_implies, implies_true, reduceCtorEq, and_false, false_and, false_or, or_false, Hd.fz.injEq, PyData.int.injEq, PyData.list.injEq, PyData.tuple.injEq, PyData.bool.injEq]
    refine ⟨.int (r.getD p default), by rw [List.getElem?_map, List.getD_eq_getElem?_getD, List.getElem?_eq_getElem this]; rfl, ?_⟩
    exact hR _ rfl
  have hkeys : ((goP g r (List.range r.length)).map natD).map (atD r) = (goK g r).map .int := by
    have h := goP_map (f := fun p => r.getD p default) (g := g) (k := r) (p := List.range r.length) ok (range_get r)
    rw [← h, List.map_map, List.map_map]
    rfl
  simp only [e0, hb, hkeys, wSs, wS, wE, wA, wB, wT, wO, wI, endPt, ini, vw_fz, vw_tm, vw_sl, vws, dat_d, dat_l, dat_o, pvw_fz, pvw_fzL, pvw_mls, hd_fz, hd_fzL, hd_mls, kid_fz, kid_tm, kidsOf, frz_fz, frz_tm, frz_sl, kid_sl, frzs, setAll, toD_fzL, toD_mls, toD_fz, st_fz, st_tm, st_sl, seq_dl, seq_dt, seq_l, asL_dl, asL_l, asL_dt, asT_dt, asT_dl, asT_l, isiB_some, isiV_b, isiV_i, isiV_s, isiV_l, isiV_t, isiV_d, isBB, isII, isSS, isLL, isTT, isDD, isB_fz, bop_add, bop_sub, bop_mul, bop_div, bop_mod, bop_pow, bop_shl, bop_shr, bop_and, bop_or, bop_xor, cop_eq, cop_ne, cop_eqS, cop_neS, cop_lt, cop_le, cop_gt, cop_ge, cop_is, bip_len, bip_abs, bip_intI, bip_intB, bip_tup, bip_lst, bip_repr, ixp_l, ixp_t, slp_dl, slp_l, slp_dt, atI_0, atI_1, atI_2, atI_cast, Es.len, asg_nm, asg_tp, asg_tl, asgs_nil, end0, end1, prep_nil, prep_fz, prep_tm, pickS, pickD, Hd.into, wipeL, bip_min2, bip_max2, szl_0, szl_1, szl_2, szl_3, szl_4, szl_5, szl_6, szl_7, szl_8, szl_9, szl_10, szl_11, szl_12, pvw_0, pvw_1, pvw_2, pvw_3, pvw_4, pvw_5, pvw_6, pvw_7, pvw_8, List.map_nil, List.map_cons, List.nil_append, List.cons_append, List.length_nil, List.length_cons, List.getElem?_cons_zero, List.getElem?_cons_succ, List.getElem?_nil, List.set_cons_zero, List.set_cons_succ, List.replicate, Option.some.injEq, Prod.mk.injEq, exists_eq_left', exists_eq_left, exists_and_left, and_assoc, and_true, true_and, or_true, true_or, Nat.sub_self, Nat.reduceAdd, Nat.reduceSub, Nat.zero_add, Nat.reduceLT, Nat.lt_add_one, if_true, if_false, ite_true, ite_false, Bool.not_true, Bool.not_false, Bool.false_eq_true, Bool.true_eq_false, eq_self_iff_true, forall_const, true_implies, false_implies, implies_true, reduceCtorEq, and_false, false_and, false_or, or_false, Hd.fz.injEq, PyData.int.injEq, PyData.list.injEq, PyData.tuple.injEq, PyData.bool.injEq]
  refine cop_neL ?_
  simp only [decide_true, Bool.not_true, List.map_nil, List.map_cons, List.nil_append, List.cons_append, List.length_nil, List.length_cons, List.getElem?_cons_zero, List.getElem?_cons_succ, List.getElem?_nil, List.set_cons_zero, List.set_cons_succ, List.replicate, Option.some.injEq, Prod.mk.injEq, exists_eq_left', exists_eq_left, exists_and_left, and_assoc, and_true, true_and, or_true, true_or, Nat.sub_self, Nat.reduceAdd, Nat.reduceSub, Nat.zero_add, Nat.reduceLT, Nat.lt_add_one, if_true, if_false, ite_true, ite_false, Bool.not_true, Bool.not_false, Bool.false_eq_true, Bool.true_eq_false, eq_self_iff_true, forall_const, true_implies, false_implies, implies_true, reduceCtorEq, and_false, false_and, false_or, or_false, Hd.fz.injEq, PyData.int.injEq, PyData.list.injEq, PyData.tuple.injEq, PyData.bool.injEq]
  unfold b_l_is_right_6
  simp only [e0, h2, wSs, wS, wE, wA, wB, wT, wO, wI, endPt, ini, vw_fz, vw_tm, vw_sl, vws, dat_d, dat_l, dat_o, pvw_fz, pvw_fzL, pvw_mls, hd_fz, hd_fzL, hd_mls, kid_fz, kid_tm, kidsOf, frz_fz, frz_tm, frz_sl, kid_sl, frzs, setAll, toD_fzL, toD_mls, toD_fz, st_fz, st_tm, st_sl, seq_dl, seq_dt, seq_l, asL_dl, asL_l, asL_dt, asT_dt, asT_dl, asT_l, isiB_some, isiV_b, isiV_i, isiV_s, isiV_l, isiV_t, isiV_d, isBB, isII, isSS, isLL, isTT, isDD, isB_fz, bop_add, bop_sub, bop_mul, bop_div, bop_mod, bop_pow, bop_shl, bop_shr, bop_and, bop_or, bop_xor, cop_eq, cop_ne, cop_eqS, cop_neS, cop_lt, cop_le, cop_gt, cop_ge, cop_is, bip_len, bip_abs, bip_intI, bip_intB, bip_tup, bip_lst, bip_repr, ixp_l, ixp_t, slp_dl, slp_l, slp_dt, atI_0, atI_1, atI_2, atI_cast, Es.len, asg_nm, asg_tp, asg_tl, asgs_nil, end0, end1, prep_nil, prep_fz, prep_tm, pickS, pickD, Hd.into, wipeL, bip_min2, bip_max2, szl_0, szl_1, szl_2, szl_3, szl_4, szl_5, szl_6, szl_7, szl_8, szl_9, szl_10, szl_11, szl_12, pvw_0, pvw_1, pvw_2, pvw_3, pvw_4, pvw_5, pvw_6, pvw_7, pvw_8, List.map_nil, List.map_cons, List.nil_append, List.cons_append, List.length_nil, List.length_cons, List.getElem?_cons_zero, List.getElem?_cons_succ, List.getElem?_nil, List.set_cons_zero, List.set_cons_succ, List.replicate, Option.some.injEq, Prod.mk.injEq, exists_eq_left', exists_eq_left, exists_and_left, and_assoc, and_true, true_and, or_true, true_or, Nat.sub_self, Nat.reduceAdd, Nat.reduceSub, Nat.zero_add, Nat.reduceLT, Nat.lt_add_one, if_true, if_false, ite_true, ite_false, Bool.not_true, Bool.not_false, Bool.false_eq_true, Bool.true_eq_false, eq_self_iff_true, forall_const, true_implies, false_implies, implies_true, reduceCtorEq, and_false, false_and, false_or, or_false, Hd.fz.injEq, PyData.int.injEq, PyData.list.injEq, PyData.tuple.injEq, PyData.bool.injEq]
  refine call_seen ok (by omega) (by omega) ?_
  simp only [e0, h2, fzL, wSs, wS, wE, wA, wB, wT, wO, wI, endPt, ini, vw_fz, vw_tm, vw_sl, vws, dat_d, dat_l, dat_o, pvw_fz, pvw_fzL, pvw_mls, hd_fz, hd_fzL, hd_mls, kid_fz, kid_tm, kidsOf, frz_fz, frz_tm, frz_sl, kid_sl, frzs, setAll, toD_fzL, toD_mls, toD_fz, st_fz, st_tm, st_sl, seq_dl, seq_dt, seq_l, asL_dl, asL_l, asL_dt, asT_dt, asT_dl, asT_l, isiB_some, isiV_b, isiV_i, isiV_s, isiV_l, isiV_t, isiV_d, isBB, isII, isSS, isLL, isTT, isDD, isB_fz, bop_add, bop_sub, bop_mul, bop_div, bop_mod, bop_pow, bop_shl, bop_shr, bop_and, bop_or, bop_xor, cop_eq, cop_ne, cop_eqS, cop_neS, cop_lt, cop_le, cop_gt, cop_ge, cop_is, bip_len, bip_abs, bip_intI, bip_intB, bip_tup, bip_lst, bip_repr, ixp_l, ixp_t, slp_dl, slp_l, slp_dt, atI_0, atI_1, atI_2, atI_cast, Es.len, asg_nm, asg_tp, asg_tl, asgs_nil, end0, end1, prep_nil, prep_fz, prep_tm, pickS, pickD, Hd.into, wipeL, bip_min2, bip_max2, szl_0, szl_1, szl_2, szl_3, szl_4, szl_5, szl_6, szl_7, szl_8, szl_9, szl_10, szl_11, szl_12, pvw_0, pvw_1, pvw_2, pvw_3, pvw_4, pvw_5, pvw_6, pvw_7, pvw_8, List.map_nil, List.map_cons, List.nil_append, List.cons_append, List.length_nil, List.length_cons, List.getElem?_cons_zero, List.getElem?_cons_succ, List.getElem?_nil, List.set_cons_zero, List.set_cons_succ, List.replicate, Option.some.injEq, Prod.mk.injEq, exists_eq_left', exists_eq_left, exists_and_left, and_assoc, and_true, true_and, or_true, true_or, Nat.sub_self, Nat.reduceAdd, Nat.reduceSub, Nat.zero_add, Nat.reduceLT, Nat.lt_add_one, if_true, if_false, ite_true, ite_false, Bool.not_true, Bool.not_false, Bool.false_eq_true, Bool.true_eq_false, eq_self_iff_true, forall_const, true_implies, false_implies, implies_true, reduceCtorEq, and_false, false_and, false_or, or_false, Hd.fz.injEq, PyData.int.injEq, PyData.list.injEq, PyData.tuple.injEq, PyData.bool.injEq]
  refine rp_and s4 (by decide) (by decide) (rp_and s4 (by decide) (by decide) ?_)
  simp only [decide_true, Bool.not_true, List.map_nil, List.map_cons, List.nil_append, List.cons_append, List.length_nil, List.length_cons, List.getElem?_cons_zero, List.getElem?_cons_succ, List.getElem?_nil, List.set_cons_zero, List.set_cons_succ, List.replicate, Option.some.injEq, Prod.mk.injEq, exists_eq_left', exists_eq_left, exists_and_left, and_assoc, and_true, true_and, or_true, true_or, Nat.sub_self, Nat.reduceAdd, Nat.reduceSub, Nat.zero_add, Nat.reduceLT, Nat.lt_add_one, if_true, if_false, ite_true, ite_false, Bool.not_true, Bool.not_false, Bool.false_eq_true, Bool.true_eq_false, eq_self_iff_true, forall_const, true_implies, false_implies, implies_true, reduceCtorEq, and_false, false_and, false_or, or_false, Hd.fz.injEq, PyData.int.injEq, PyData.list.injEq, PyData.tuple.injEq, PyData.bool.injEq]
  unfold b_l_is_right_8
  simp only [e0, wSs, wS, wE, wA, wB, wT, wO, wI, endPt, ini, vw_fz, vw_tm, vw_sl, vws, dat_d, dat_l, dat_o, pvw_fz, pvw_fzL, pvw_mls, hd_fz, hd_fzL, hd_mls, kid_fz, kid_tm, kidsOf, frz_fz, frz_tm, frz_sl, kid_sl, frzs, setAll, toD_fzL, toD_mls, toD_fz, st_fz, st_tm, st_sl, seq_dl, seq_dt, seq_l, asL_dl, asL_l, asL_dt, asT_dt, asT_dl, asT_l, isiB_some, isiV_b, isiV_i, isiV_s, isiV_l, isiV_t, isiV_d, isBB, isII, isSS, isLL, isTT, isDD, isB_fz, bop_add, bop_sub, bop_mul, bop_div, bop_mod, bop_pow, bop_shl, bop_shr, bop_and, bop_or, bop_xor, cop_eq, cop_ne, cop_eqS, cop_neS, cop_lt, cop_le, cop_gt, cop_ge, cop_is, bip_len, bip_abs, bip_intI, bip_intB, bip_tup, bip_lst, bip_repr, ixp_l, ixp_t, slp_dl, slp_l, slp_dt, atI_0, atI_1, atI_2, atI_cast, Es.len, asg_nm, asg_tp, asg_tl, asgs_nil, end0, end1, prep_nil, prep_fz, prep_tm, pickS, pickD, Hd.into, wipeL, bip_min2, bip_max2, szl_0, szl_1, szl_2, szl_3, szl_4, szl_5, szl_6, szl_7, szl_8, szl_9, szl_10, szl_11, szl_12, pvw_0, pvw_1, pvw_2, pvw_3, pvw_4, pvw_5, pvw_6, pvw_7, pvw_8, List.map_nil, List.map_cons, List.nil_append, List.cons_append, List.length_nil, List.length_cons, List.getElem?_cons_zero, List.getElem?_cons_succ, List.getElem?_nil, List.set_cons_zero, List.set_cons_succ, List.replicate, Option.some.injEq, Prod.mk.injEq, exists_eq_left', exists_eq_left, exists_and_left, and_assoc, and_true, true_and, or_true, true_or, Nat.sub_self, Nat.reduceAdd, Nat.reduceSub, Nat.zero_add, Nat.reduceLT, Nat.lt_add_one, if_true, if_false, ite_true, ite_false, Bool.not_true, Bool.not_false, Bool.false_eq_true, Bool.true_eq_false, eq_self_iff_true, forall_const, true_implies, false_implies, implies_true, reduceCtorEq, and_false, false_and, false_or, or_false, Hd.fz.injEq, PyData.int.injEq, PyData.list.injEq, PyData.tuple.injEq, PyData.bool.injEq]
  refine lc_filterQ farD (fun d hd R hR => ?_) (by rw [List.length_map]; exact sz_le (by omega)) (by simp [keepFz]) fun L3 hb2 => ?_
  · obtain ⟨x, hx, rfl⟩ := List.mem_map.mp hd
    refine ⟨_, asg_pr (by simp [wipeL]) (by simp [wipeL]), ?_⟩
    simp only [e0, wSs, wS, wE, wA, wB, wT, wO, wI, endPt, ini, vw_fz, vw_tm, vw_sl, vws, dat_d, dat_l, dat_o, pvw_fz, pvw_fzL, pvw_mls, hd_fz, hd_fzL, hd_mls, kid_fz, kid_tm, kidsOf, frz_fz, frz_tm, frz_sl, kid_sl, frzs, setAll, toD_fzL, toD_mls, toD_fz, st_fz, st_tm, st_sl, seq_dl, seq_dt, seq_l, asL_dl, asL_l, asL_dt, asT_dt, asT_dl, asT_l, isiB_some, isiV_b, isiV_i, isiV_s, isiV_l, isiV_t, isiV_d, isBB, isII, isSS, isLL, isTT, isDD, isB_fz, bop_add, bop_sub, bop_mul, bop_div, bop_mod, bop_pow, bop_shl, bop_shr, bop_and, bop_or, bop_xor, cop_eq, cop_ne, cop_eqS, cop_neS, cop_lt, cop_le, cop_gt, cop_ge, cop_is, bip_len, bip_abs, bip_intI, bip_intB, bip_tup, bip_lst, bip_repr, ixp_l, ixp_t, slp_dl, slp_l, slp_dt, atI_0, atI_1, atI_2, atI_cast, Es.len, asg_nm, asg_tp, asg_tl, asgs_nil, end0, end1, prep_nil, prep_fz, prep_tm, pickS, pickD, Hd.into, wipeL, bip_min2, bip_max2, szl_0, szl_1, szl_2, szl_3, szl_4, szl_5, szl_6, szl_7, szl_8, szl_9, szl_10, szl_11, szl_12, pvw_0, pvw_1, pvw_2, pvw_3, pvw_4, pvw_5, pvw_6, pvw_7, pvw_8, List.map_nil, List.map_cons, List.nil_append, List.cons_append, List.length_nil, List.length_cons, List.getElem?_cons_zero, List.getElem?_cons_succ, List.getElem?_nil, List.set_cons_zero, List.set_cons_succ, List.replicate, Option.some.injEq, Prod.mk.injEq, exists_eq_left', exists_eq_left, exists_and_left, and_assoc, and_true, true_and, or_true, true_or, Nat.sub_self, Nat.reduceAdd, Nat.reduceSub, Nat.zero_add, Nat.reduceLT, Nat.lt_add_one, if_true, if_false, ite_true, ite_false, Bool.not_true, Bool.not_false, Bool.false_eq_true, Bool.true_eq_false, eq_self_iff_true, forall_const, true_implies, false_implies, implies_true, reduceCtorEq, and_false, false_and, false_or, or_false, Hd.fz.injEq, PyData.int.injEq, PyData.list.injEq, PyData.tuple.injEq, PyData.bool.injEq]
    by_cases c : decide ((x.1 : Int) + 1 < (x.2 : Int)) = true
    · rw [if_pos c]
      have : farD (Tk.prD x) = some (.int 1) := by simp only [Tk.prD, farD]; rw [if_pos c]
      rw [this] at hR
      exact hR _ rfl
    · rw [if_neg c]
      have : farD (Tk.prD x) = none := by simp only [Tk.prD, farD]; rw [if_neg c]
      rw [this] at hR
      exact hR _ rfl
  simp only [e0, hb2, wSs, wS, wE, wA, wB, wT, wO, wI, endPt, ini, vw_fz, vw_tm, vw_sl, vws, dat_d, dat_l, dat_o, pvw_fz, pvw_fzL, pvw_mls, hd_fz, hd_fzL, hd_mls, kid_fz, kid_tm, kidsOf, frz_fz, frz_tm, frz_sl, kid_sl, frzs, setAll, toD_fzL, toD_mls, toD_fz, st_fz, st_tm, st_sl, seq_dl, seq_dt, seq_l, asL_dl, asL_l, asL_dt, asT_dt, asT_dl, asT_l, isiB_some, isiV_b, isiV_i, isiV_s, isiV_l, isiV_t, isiV_d, isBB, isII, isSS, isLL, isTT, isDD, isB_fz, bop_add, bop_sub, bop_mul, bop_div, bop_mod, bop_pow, bop_shl, bop_shr, bop_and, bop_or, bop_xor, cop_eq, cop_ne, cop_eqS, cop_neS, cop_lt, cop_le, cop_gt, cop_ge, cop_is, bip_len, bip_abs, bip_intI, bip_intB, bip_tup, bip_lst, bip_repr, ixp_l, ixp_t, slp_dl, slp_l, slp_dt, atI_0, atI_1, atI_2, atI_cast, Es.len, asg_nm, asg_tp, asg_tl, asgs_nil, end0, end1, prep_nil, prep_fz, prep_tm, pickS, pickD, Hd.into, wipeL, bip_min2, bip_max2, szl_0, szl_1, szl_2, szl_3, szl_4, szl_5, szl_6, szl_7, szl_8, szl_9, szl_10, szl_11, szl_12, pvw_0, pvw_1, pvw_2, pvw_3, pvw_4, pvw_5, pvw_6, pvw_7, pvw_8, List.map_nil, List.map_cons, List.nil_append, List.cons_append, List.length_nil, List.length_cons, List.getElem?_cons_zero, List.getElem?_cons_succ, List.getElem?_nil, List.set_cons_zero, List.set_cons_succ, List.replicate, Option.some.injEq, Prod.mk.injEq, exists_eq_left', exists_eq_left, exists_and_left, and_assoc, and_true, true_and, or_true, true_or, Nat.sub_self, Nat.reduceAdd, Nat.reduceSub, Nat.zero_add, Nat.reduceLT, Nat.lt_add_one, if_true, if_false, ite_true, ite_false, Bool.not_true, Bool.not_false, Bool.false_eq_true, Bool.true_eq_false, eq_self_iff_true, forall_const, true_implies, false_implies, implies_true, reduceCtorEq, and_false, false_and, false_or, or_false, Hd.fz.injEq, PyData.int.injEq, PyData.list.injEq, PyData.tuple.injEq, PyData.bool.injEq]
  refine ⟨fun c => ?_, fun c => ?_⟩
  · have nr : Near g := far_none (by simpa using c) ok
    unfold b_l_is_right_9
    simp only [e0, h0, wSs, wS, wE, wA, wB, wT, wO, wI, endPt, ini, vw_fz, vw_tm, vw_sl, vws, dat_d, dat_l, dat_o, pvw_fz, pvw_fzL, pvw_mls, hd_fz, hd_fzL, hd_mls, kid_fz, kid_tm, kidsOf, frz_fz, frz_tm, frz_sl, kid_sl, frzs, setAll, toD_fzL, toD_mls, toD_fz, st_fz, st_tm, st_sl, seq_dl, seq_dt, seq_l, asL_dl, asL_l, asL_dt, asT_dt, asT_dl, asT_l, isiB_some, isiV_b, isiV_i, isiV_s, isiV_l, isiV_t, isiV_d, isBB, isII, isSS, isLL, isTT, isDD, isB_fz, bop_add, bop_sub, bop_mul, bop_div, bop_mod, bop_pow, bop_shl, bop_shr, bop_and, bop_or, bop_xor, cop_eq, cop_ne, cop_eqS, cop_neS, cop_lt, cop_le, cop_gt, cop_ge, cop_is, bip_len, bip_abs, bip_intI, bip_intB, bip_tup, bip_lst, bip_repr, ixp_l, ixp_t, slp_dl, slp_l, slp_dt, atI_0, atI_1, atI_2, atI_cast, Es.len, asg_nm, asg_tp, asg_tl, asgs_nil, end0, end1, prep_nil, prep_fz, prep_tm, pickS, pickD, Hd.into, wipeL, bip_min2, bip_max2, szl_0, szl_1, szl_2, szl_3, szl_4, szl_5, szl_6, szl_7, szl_8, szl_9, szl_10, szl_11, szl_12, pvw_0, pvw_1, pvw_2, pvw_3, pvw_4, pvw_5, pvw_6, pvw_7, pvw_8, List.map_nil, List.map_cons, List.nil_append, List.cons_append, List.length_nil, List.length_cons, List.getElem?_cons_zero, List.getElem?_cons_succ, List.getElem?_nil, List.set_cons_zero, List.set_cons_succ, List.replicate, Option.some.injEq, Prod.mk.injEq, exists_eq_left', exists_eq_left, exists_and_left, and_assoc, and_true, true_and, or_true, true_or, Nat.sub_self, Nat.reduceAdd, Nat.reduceSub, Nat.zero_add, Nat.reduceLT, Nat.lt_add_one, if_true, if_false, ite_true, ite_false, Bool.not_true, Bool.not_false, Bool.false_eq_true, Bool.true_eq_false, eq_self_iff_true, forall_const, true_implies, false_implies, implies_true, reduceCtorEq, and_false, false_and, false_or, or_false, Hd.fz.injEq, PyData.int.injEq, PyData.list.injEq, PyData.tuple.injEq, PyData.bool.injEq]
    refine call_kept (by rw [hpl, hkl]) (by omega) (goP_kept ok nr (by rw [List.length_range]) (kept_start r)) ?_
    simp only [e0, wSs, wS, wE, wA, wB, wT, wO, wI, endPt, ini, vw_fz, vw_tm, vw_sl, vws, dat_d, dat_l, dat_o, pvw_fz, pvw_fzL, pvw_mls, hd_fz, hd_fzL, hd_mls, kid_fz, kid_tm, kidsOf, frz_fz, frz_tm, frz_sl, kid_sl, frzs, setAll, toD_fzL, toD_mls, toD_fz, st_fz, st_tm, st_sl, seq_dl, seq_dt, seq_l, asL_dl, asL_l, asL_dt, asT_dt, asT_dl, asT_l, isiB_some, isiV_b, isiV_i, isiV_s, isiV_l, isiV_t, isiV_d, isBB, isII, isSS, isLL, isTT, isDD, isB_fz, bop_add, bop_sub, bop_mul, bop_div, bop_mod, bop_pow, bop_shl, bop_shr, bop_and, bop_or, bop_xor, cop_eq, cop_ne, cop_eqS, cop_neS, cop_lt, cop_le, cop_gt, cop_ge, cop_is, bip_len, bip_abs, bip_intI, bip_intB, bip_tup, bip_lst, bip_repr, ixp_l, ixp_t, slp_dl, slp_l, slp_dt, atI_0, atI_1, atI_2, atI_cast, Es.len, asg_nm, asg_tp, asg_tl, asgs_nil, end0, end1, prep_nil, prep_fz, prep_tm, pickS, pickD, Hd.into, wipeL, bip_min2, bip_max2, szl_0, szl_1, szl_2, szl_3, szl_4, szl_5, szl_6, szl_7, szl_8, szl_9, szl_10, szl_11, szl_12, pvw_0, pvw_1, pvw_2, pvw_3, pvw_4, pvw_5, pvw_6, pvw_7, pvw_8, List.map_nil, List.map_cons, List.nil_append, List.cons_append, List.length_nil, List.length_cons, List.getElem?_cons_zero, List.getElem?_cons_succ, List.getElem?_nil, List.set_cons_zero, List.set_cons_succ, List.replicate, Option.some.injEq, Prod.mk.injEq, exists_eq_left', exists_eq_left, exists_and_left, and_assoc, and_true, true_and, or_true, true_or, Nat.sub_self, Nat.reduceAdd, Nat.reduceSub, Nat.zero_add, Nat.reduceLT, Nat.lt_add_one, if_true, if_false, ite_true, ite_false, Bool.not_true, Bool.not_false, Bool.false_eq_true, Bool.true_eq_false, eq_self_iff_true, forall_const, true_implies, false_implies, implies_true, reduceCtorEq, and_false, false_and, false_or, or_false, Hd.fz.injEq, PyData.int.injEq, PyData.list.injEq, PyData.tuple.injEq, PyData.bool.injEq]
    exact hq
  · unfold b_l_is_right_10
    simp only [e0, wSs, wS, wE, wA, wB, wT, wO, wI, endPt, ini, vw_fz, vw_tm, vw_sl, vws, dat_d, dat_l, dat_o, pvw_fz, pvw_fzL, pvw_mls, hd_fz, hd_fzL, hd_mls, kid_fz, kid_tm, kidsOf, frz_fz, frz_tm, frz_sl, kid_sl, frzs, setAll, toD_fzL, toD_mls, toD_fz, st_fz, st_tm, st_sl, seq_dl, seq_dt, seq_l, asL_dl, asL_l, asL_dt, asT_dt, asT_dl, asT_l, isiB_some, isiV_b, isiV_i, isiV_s, isiV_l, isiV_t, isiV_d, isBB, isII, isSS, isLL, isTT, isDD, isB_fz, bop_add, bop_sub, bop_mul, bop_div, bop_mod, bop_pow, bop_shl, bop_shr, bop_and, bop_or, bop_xor, cop_eq, cop_ne, cop_eqS, cop_neS, cop_lt, cop_le, cop_gt, cop_ge, cop_is, bip_len, bip_abs, bip_intI, bip_intB, bip_tup, bip_lst, bip_repr, ixp_l, ixp_t, slp_dl, slp_l, slp_dt, atI_0, atI_1, atI_2, atI_cast, Es.len, asg_nm, asg_tp, asg_tl, asgs_nil, end0, end1, prep_nil, prep_fz, prep_tm, pickS, pickD, Hd.into, wipeL, bip_min2, bip_max2, szl_0, szl_1, szl_2, szl_3, szl_4, szl_5, szl_6, szl_7, szl_8, szl_9, szl_10, szl_11, szl_12, pvw_0, pvw_1, pvw_2, pvw_3, pvw_4, pvw_5, pvw_6, pvw_7, pvw_8, List.map_nil, List.map_cons, List.nil_append, List.cons_append, List.length_nil, List.length_cons, List.getElem?_cons_zero, List.getElem?_cons_succ, List.getElem?_nil, List.set_cons_zero, List.set_cons_succ, List.replicate, Option.some.injEq, Prod.mk.injEq, exists_eq_left', exists_eq_left, exists_and_left, and_assoc, and_true, true_and, or_true, true_or, Nat.sub_self, Nat.reduceAdd, Nat.reduceSub, Nat.zero_add, Nat.reduceLT, Nat.lt_add_one, if_true, if_false, ite_true, ite_false, Bool.not_true, Bool.not_false, Bool.false_eq_true, Bool.true_eq_false, eq_self_iff_true, forall_const, true_implies, false_implies, implies_true, reduceCtorEq, and_false, false_and, false_or, or_false, Hd.fz.injEq, PyData.int.injEq, PyData.list.injEq, PyData.tuple.injEq, PyData.bool.injEq]
    exact hq
end
theorem call_right {g : Net} {r : List Int} {b : Bool} {L : Lc} {Q : QE} {X : QX} (ok : NetOk r.length g) (hg : g.length ≤ 1000) (h2 : r.length ≤ 24) (hr : RowOk r) (q : Q (.fz (.bool true)) L) : callp F_right [0, 1, 2] [.fz (netD g), .fz (rowD r), .fz (.bool b)] L Q X := by
  refine ⟨[.dt (netD g), .dt (rowD r), .dt (.bool b)], L, [], [netD g, rowD r, .bool b], [], by simp [F_right, prep, Hd.frz], by simp [F_right, pickS], by simp [F_right, pickD], by simp, rfl, by simp [getAll], ?_⟩
  exact ⟨g, r, b, rfl, rfl, ok, hg, h2, hr, rfl, by simpa [PV.hd, setAll] using q⟩
end K07

set_option Elab.async false
set_option linter.all false
set_option maxRecDepth 100000
set_option maxHeartbeats 0
namespace K07
open PySem PySem.Spec PyProof.Rows L2 Tk
theorem call_net {i : Nat} {w : PV} {n : Nat} {m : Int} {L : Lc} {Q : QE} {X : QX} (hw : Well w) (hL : L[i]? = some (some w)) (h1 : 2 ≤ n) (h2 : n ≤ 24) (h3 : 0 ≤ m) (h4 : m ≤ 1000) (q : ∀ (w' : PV) (g : Net), Well w' → (g.length : Int) ≤ m → NetOk n g → Q (.fz (netD g)) (L.set i (some w'))) : callp F_net [0, 1, 2] [.pl i [], .fz (.int n), .fz (.int m)] L Q X := by
  obtain ⟨m, rfl⟩ := Int.eq_ofNat_of_zero_le h3
  refine ⟨[.sl i, .dt (.int n), .dt (.int m)], L, [i], [.int n, .int m], [w], by simp [F_net, prep, Hd.frz], by simp [F_net, pickS], by simp [F_net, pickD], by simp, rfl, by simp [getAll, hL], ?_⟩
  exact ⟨w, n, m, rfl, rfl, hw, h1, h2, by omega, fun w' g a1 a2 a3 => ⟨rfl, by simpa [PV.hd, setAll] using q w' g a1 (by omega) a3⟩⟩
theorem call_row {i : Nat} {w : PV} {n : Nat} {L : Lc} {Q : QE} {X : QX} (hw : Well w) (hL : L[i]? = some (some w)) (h1 : 1 ≤ n) (h2 : n ≤ 24) (q : ∀ (w' : PV) (r : List Int), Well w' → r.length = n → RowOk r → Q (.fz (rowD r)) (L.set i (some w'))) : callp F_row [0, 1] [.pl i [], .fz (.int n)] L Q X := by
  refine ⟨[.sl i, .dt (.int n)], L, [i], [.int n], [w], by simp [F_row, prep, Hd.frz], by simp [F_row, pickS], by simp [F_row, pickD], by simp, rfl, by simp [getAll, hL], ?_⟩
  exact ⟨w, n, rfl, rfl, hw, h1, h2, fun w' r a1 a2 a3 => ⟨rfl, by simpa [PV.hd, setAll] using q w' r a1 a2 a3⟩⟩
theorem call_wellN {ns : List Int} {L : Lc} {Q : QE} {X : QX} (q : ∀ w, Well w → Q (.tm w) L) : callp F_well [0] [.fz (.list (ns.map .int))] L Q X := by
  refine ⟨[.dt (.list (ns.map .int))], L, [], [.list (ns.map .int)], [], by simp [F_well, prep, Hd.frz], by simp [F_well, pickS], by simp [F_well, pickD], by simp, rfl, by simp [getAll], ?_⟩
  refine ⟨ns, rfl, rfl, fun w hw => ⟨rfl, ?_⟩⟩
  have := q w hw
  obtain ⟨a, b, c, _, rfl⟩ := hw
  simpa [PV.hd, setAll] using this
theorem bop_repT {v : Vw} {xs : List PyData} {k : Int} {Q : PV → Prop} (hv : v.asT = some xs) (h1 : xs ≠ []) (h2 : 2 ≤ k) (h3 : k ≤ 2000) (h4 : xs.length ≤ 1000) (q : Q (.fz (.tuple (List.replicate k.toNat xs).flatten))) : bop .Mult v (.d (.int k)) Q := .inr (.inr (.inr (.inr (.inr ⟨rfl, xs, k, hv, rfl, ⟨h1, h2, h3, h4⟩, q⟩))))
theorem rep_zero (n : Nat) : (List.replicate n [PyData.int 0]).flatten = (List.replicate n (0 : Int)).map .int := by
  induction n with
  | zero => rfl
  | succ n ih => rw [List.replicate_succ, List.flatten_cons, ih, List.replicate_succ]; rfl
theorem rep_net (g : Net) (n : Nat) : (List.replicate n (g.map Tk.prD)).flatten = ((List.replicate n g).flatten).map Tk.prD := by
  induction n with
  | zero => rfl
  | succ n ih => rw [List.replicate_succ, List.flatten_cons, ih, List.replicate_succ, List.flatten_cons, List.map_append]
def F_law : Fn := ⟨0, fun xs ds Q _ => ∃ ns : List Int, xs = [] ∧ ds = [.list (ns.map .int)] ∧ Q (.fz (.bool true)) []⟩
section
variable {Φ : Fns} (h0 : Φ "_law_draw" = F_draw) (h1 : Φ "_law_is_right" = F_right) (h2 : Φ "_law_net" = F_net) (h3 : Φ "_law_row" = F_row) (h4 : Φ "_law_seen" = F_seen) (h5 : Φ "_law_well" = F_well)
include h0 h1 h2 h3 h4 h5
theorem s_law_5 {sc w : PV} {k n : Nat} {g : Net} {r : List Int} {f h : Option PV} {P : Pt} (hw : Well w) (hn1 : 2 ≤ n) (hn : n ≤ 24) (hg : g.length ≤ 60) (ok : NetOk n g) (hr : r.length = n) (hrow : RowOk r)
    (q : ∀ (w' : PV) (e f h : Option PV), Well w' → P.nx [some sc, some w', some (.fz (.int k)), some (.fz (.int n)), some (.fz (netD g)), e, f, h]) :
    wSs Φ b_law_5 [some sc, some w, some (.fz (.int k)), some (.fz (.int n)), some (.fz (netD g)), some (.fz (rowD r)), f, h] P := by
  unfold b_law_5
  simp only [wSs, wS, wE, wA, wB, wT, wO, wI, endPt, ini, vw_fz, vw_tm, vw_sl, vws, dat_d, dat_l, dat_o, pvw_fz, pvw_fzL, pvw_mls, hd_fz, hd_fzL, hd_mls, kid_fz, kid_tm, kidsOf, frz_fz, frz_tm, frz_sl, kid_sl, frzs, setAll, toD_fzL, toD_mls, toD_fz, st_fz, st_tm, st_sl, seq_dl, seq_dt, seq_l, asL_dl, asL_l, asL_dt, asT_dt, asT_dl, asT_l, isiB_some, isiV_b, isiV_i, isiV_s, isiV_l, isiV_t, isiV_d, isBB, isII, isSS, isLL, isTT, isDD, isB_fz, bop_add, bop_sub, bop_mul, bop_div, bop_mod, bop_pow, bop_shl, bop_shr, bop_and, bop_or, bop_xor, cop_eq, cop_ne, cop_eqS, cop_neS, cop_lt, cop_le, cop_gt, cop_ge, cop_is, bip_len, bip_abs, bip_intI, bip_intB, bip_tup, bip_lst, bip_repr, ixp_l, ixp_t, slp_dl, slp_l, slp_dt, atI_0, atI_1, atI_2, atI_cast, Es.len, asg_nm, asg_tp, asg_tl, asgs_nil, end0, end1, prep_nil, prep_fz, prep_tm, pickS, pickD, Hd.into, wipeL, bip_min2, bip_max2, szl_0, szl_1, szl_2, szl_3, szl_4, szl_5, szl_6, szl_7, szl_8, szl_9, szl_10, szl_11, szl_12, pvw_0, pvw_1, pvw_2, pvw_3, pvw_4, pvw_5, pvw_6, pvw_7, pvw_8, List.map_nil, List.map_cons, List.nil_append, List.cons_append, List.length_nil, List.length_cons, List.getElem?_cons_zero, List.getElem?_cons_succ, List.getElem?_nil, List.set_cons_zero, List.set_cons_succ, List.replicate, Option.some.injEq, Prod.mk.injEq, exists_eq_left', exists_eq_left, exists_and_left, and_assoc, and_true, true_and, or_true, true_or, Nat.sub_self, Nat.reduceAdd, Nat.reduceSub, Nat.zero_add, Nat.reduceLT, Nat.lt_add_one, if_true, if_false, ite_true, ite_false, Bool.not_true, Bool.not_false, Bool.false_eq_true, Bool.true_eq_false, eq_self_iff_true, forall_const, true_implies, false_implies, implies_true, reduceCtorEq, and_false, false_and, false_or, or_false, Hd.fz.injEq, PyData.int.injEq, PyData.list.injEq, PyData.tuple.injEq, PyData.bool.injEq]
  refine ⟨by decide, by decide, by decide, ?_⟩
  refine forRun_ind (fun ds L => ∃ (w : PV) (r : List Int) (f : Option PV), Well w ∧ r.length = n ∧ RowOk r ∧ (∀ u ∈ ds, ∃ i : Int, u = .int i) ∧ L = [some sc, some w, some (.fz (.int k)), some (.fz (.int n)), some (.fz (netD g)), some (.fz (rowD r)), f, h]) (fun d ds L N hJ hN => ?_) (fun L hJ => ?_) _ _ ⟨w, r, f, hw, hr, hrow, fun u hu => by obtain ⟨i, _, rfl⟩ := rg_mem hu; exact ⟨_, rfl⟩, rfl⟩
  · obtain ⟨w, r, f, hw, hr, hrow, hds, rfl⟩ := hJ
    obtain ⟨i, rfl⟩ := hds d (List.mem_cons_self ..)
    obtain ⟨ns1, st1, t1, hns1, rfl⟩ := id hw
    refine ⟨_, rfl, ?_⟩
    unfold b_law_6
    simp only [h3, wSs, wS, wE, wA, wB, wT, wO, wI, endPt, ini, vw_fz, vw_tm, vw_sl, vws, dat_d, dat_l, dat_o, pvw_fz, pvw_fzL, pvw_mls, hd_fz, hd_fzL, hd_mls, kid_fz, kid_tm, kidsOf, frz_fz, frz_tm, frz_sl, kid_sl, frzs, setAll, toD_fzL, toD_mls, toD_fz, st_fz, st_tm, st_sl, seq_dl, seq_dt, seq_l, asL_dl, asL_l, asL_dt, asT_dt, asT_dl, asT_l, isiB_some, isiV_b, isiV_i, isiV_s, isiV_l, isiV_t, isiV_d, isBB, isII, isSS, isLL, isTT, isDD, isB_fz, bop_add, bop_sub, bop_mul, bop_div, bop_mod, bop_pow, bop_shl, bop_shr, bop_and, bop_or, bop_xor, cop_eq, cop_ne, cop_eqS, cop_neS, cop_lt, cop_le, cop_gt, cop_ge, cop_is, bip_len, bip_abs, bip_intI, bip_intB, bip_tup, bip_lst, bip_repr, ixp_l, ixp_t, slp_dl, slp_l, slp_dt, atI_0, atI_1, atI_2, atI_cast, Es.len, asg_nm, asg_tp, asg_tl, asgs_nil, end0, end1, prep_nil, prep_fz, prep_tm, pickS, pickD, Hd.into, wipeL, bip_min2, bip_max2, szl_0, szl_1, szl_2, szl_3, szl_4, szl_5, szl_6, szl_7, szl_8, szl_9, szl_10, szl_11, szl_12, pvw_0, pvw_1, pvw_2, pvw_3, pvw_4, pvw_5, pvw_6, pvw_7, pvw_8, List.map_nil, List.map_cons, List.nil_append, List.cons_append, List.length_nil, List.length_cons, List.getElem?_cons_zero, List.getElem?_cons_succ, List.getElem?_nil, List.set_cons_zero, List.set_cons_succ, List.replicate, Option.some.injEq, Prod.mk.injEq, exists_eq_left', exists_eq_left, exists_and_left, and_assoc, and_true, true_and, or_true, true_or, Nat.sub_self, Nat.reduceAdd, Nat.reduceSub, Nat.zero_add, Nat.reduceLT, Nat.lt_add_one, if_true, if_false, ite_true, ite_false, Bool.not_true, Bool.not_false, Bool.false_eq_true, Bool.true_eq_false, eq_self_iff_true, forall_const, true_implies, false_implies, implies_true, reduceCtorEq, and_false, false_and, false_or, or_false, Hd.fz.injEq, PyData.int.injEq, PyData.list.injEq, PyData.tuple.injEq, PyData.bool.injEq]
    refine call_row hw rfl (by omega) hn fun w2 r2 hw2 hr2 hrow2 => ?_
    simp only [h3, wSs, wS, wE, wA, wB, wT, wO, wI, endPt, ini, vw_fz, vw_tm, vw_sl, vws, dat_d, dat_l, dat_o, pvw_fz, pvw_fzL, pvw_mls, hd_fz, hd_fzL, hd_mls, kid_fz, kid_tm, kidsOf, frz_fz, frz_tm, frz_sl, kid_sl, frzs, setAll, toD_fzL, toD_mls, toD_fz, st_fz, st_tm, st_sl, seq_dl, seq_dt, seq_l, asL_dl, asL_l, asL_dt, asT_dt, asT_dl, asT_l, isiB_some, isiV_b, isiV_i, isiV_s, isiV_l, isiV_t, isiV_d, isBB, isII, isSS, isLL, isTT, isDD, isB_fz, bop_add, bop_sub, bop_mul, bop_div, bop_mod, bop_pow, bop_shl, bop_shr, bop_and, bop_or, bop_xor, cop_eq, cop_ne, cop_eqS, cop_neS, cop_lt, cop_le, cop_gt, cop_ge, cop_is, bip_len, bip_abs, bip_intI, bip_intB, bip_tup, bip_lst, bip_repr, ixp_l, ixp_t, slp_dl, slp_l, slp_dt, atI_0, atI_1, atI_2, atI_cast, Es.len, asg_nm, asg_tp, asg_tl, asgs_nil, end0, end1, prep_nil, prep_fz, prep_tm, pickS, pickD, Hd.into, wipeL, bip_min2, bip_max2, szl_0, szl_1, szl_2, szl_3, szl_4, szl_5, szl_6, szl_7, szl_8, szl_9, szl_10, szl_11, szl_12, pvw_0, pvw_1, pvw_2, pvw_3, pvw_4, pvw_5, pvw_6, pvw_7, pvw_8, List.map_nil, List.map_cons, List.nil_append, List.cons_append, List.length_nil, List.length_cons, List.getElem?_cons_zero, List.getElem?_cons_succ, List.getElem?_nil, List.set_cons_zero, List.set_cons_succ, List.replicate, Option.some.injEq, Prod.mk.injEq, exists_eq_left', exists_eq_left, exists_and_left, and_assoc, and_true, true_and, or_true, true_or, Nat.sub_self, Nat.reduceAdd, Nat.reduceSub, Nat.zero_add, Nat.reduceLT, Nat.lt_add_one, if_true, if_false, ite_true, ite_false, Bool.not_true, Bool.not_false, Bool.false_eq_true, Bool.true_eq_false, eq_self_iff_true, forall_const, true_implies, false_implies, implies_true, reduceCtorEq, and_false, false_and, false_or, or_false, Hd.fz.injEq, PyData.int.injEq, PyData.list.injEq, PyData.tuple.injEq, PyData.bool.injEq]
    unfold b_law_7
    simp only [h1, wSs, wS, wE, wA, wB, wT, wO, wI, endPt, ini, vw_fz, vw_tm, vw_sl, vws, dat_d, dat_l, dat_o, pvw_fz, pvw_fzL, pvw_mls, hd_fz, hd_fzL, hd_mls, kid_fz, kid_tm, kidsOf, frz_fz, frz_tm, frz_sl, kid_sl, frzs, setAll, toD_fzL, toD_mls, toD_fz, st_fz, st_tm, st_sl, seq_dl, seq_dt, seq_l, asL_dl, asL_l, asL_dt, asT_dt, asT_dl, asT_l, isiB_some, isiV_b, isiV_i, isiV_s, isiV_l, isiV_t, isiV_d, isBB, isII, isSS, isLL, isTT, isDD, isB_fz, bop_add, bop_sub, bop_mul, bop_div, bop_mod, bop_pow, bop_shl, bop_shr, bop_and, bop_or, bop_xor, cop_eq, cop_ne, cop_eqS, cop_neS, cop_lt, cop_le, cop_gt, cop_ge, cop_is, bip_len, bip_abs, bip_intI, bip_intB, bip_tup, bip_lst, bip_repr, ixp_l, ixp_t, slp_dl, slp_l, slp_dt, atI_0, atI_1, atI_2, atI_cast, Es.len, asg_nm, asg_tp, asg_tl, asgs_nil, end0, end1, prep_nil, prep_fz, prep_tm, pickS, pickD, Hd.into, wipeL, bip_min2, bip_max2, szl_0, szl_1, szl_2, szl_3, szl_4, szl_5, szl_6, szl_7, szl_8, szl_9, szl_10, szl_11, szl_12, pvw_0, pvw_1, pvw_2, pvw_3, pvw_4, pvw_5, pvw_6, pvw_7, pvw_8, List.map_nil, List.map_cons, List.nil_append, List.cons_append, List.length_nil, List.length_cons, List.getElem?_cons_zero, List.getElem?_cons_succ, List.getElem?_nil, List.set_cons_zero, List.set_cons_succ, List.replicate, Option.some.injEq, Prod.mk.injEq, exists_eq_left', exists_eq_left, exists_and_left, and_assoc, and_true, true_and, or_true, true_or, Nat.sub_self, Nat.reduceAdd, Nat.reduceSub, Nat.zero_add, Nat.reduceLT, Nat.lt_add_one, if_true, if_false, ite_true, ite_false, Bool.not_true, Bool.not_false, Bool.false_eq_true, Bool.true_eq_false, eq_self_iff_true, forall_const, true_implies, false_implies, implies_true, reduceCtorEq, and_false, false_and, false_or, or_false, Hd.fz.injEq, PyData.int.injEq, PyData.list.injEq, PyData.tuple.injEq, PyData.bool.injEq]
    refine call_right (by rw [hr2]; exact ok) (by omega) (by omega) hrow2 ?_
    simp only [h1, wSs, wS, wE, wA, wB, wT, wO, wI, endPt, ini, vw_fz, vw_tm, vw_sl, vws, dat_d, dat_l, dat_o, pvw_fz, pvw_fzL, pvw_mls, hd_fz, hd_fzL, hd_mls, kid_fz, kid_tm, kidsOf, frz_fz, frz_tm, frz_sl, kid_sl, frzs, setAll, toD_fzL, toD_mls, toD_fz, st_fz, st_tm, st_sl, seq_dl, seq_dt, seq_l, asL_dl, asL_l, asL_dt, asT_dt, asT_dl, asT_l, isiB_some, isiV_b, isiV_i, isiV_s, isiV_l, isiV_t, isiV_d, isBB, isII, isSS, isLL, isTT, isDD, isB_fz, bop_add, bop_sub, bop_mul, bop_div, bop_mod, bop_pow, bop_shl, bop_shr, bop_and, bop_or, bop_xor, cop_eq, cop_ne, cop_eqS, cop_neS, cop_lt, cop_le, cop_gt, cop_ge, cop_is, bip_len, bip_abs, bip_intI, bip_intB, bip_tup, bip_lst, bip_repr, ixp_l, ixp_t, slp_dl, slp_l, slp_dt, atI_0, atI_1, atI_2, atI_cast, Es.len, asg_nm, asg_tp, asg_tl, asgs_nil, end0, end1, prep_nil, prep_fz, prep_tm, pickS, pickD, Hd.into, wipeL, bip_min2, bip_max2, szl_0, szl_1, szl_2, szl_3, szl_4, szl_5, szl_6, szl_7, szl_8, szl_9, szl_10, szl_11, szl_12, pvw_0, pvw_1, pvw_2, pvw_3, pvw_4, pvw_5, pvw_6, pvw_7, pvw_8, List.map_nil, List.map_cons, List.nil_append, List.cons_append, List.length_nil, List.length_cons, List.getElem?_cons_zero, List.getElem?_cons_succ, List.getElem?_nil, List.set_cons_zero, List.set_cons_succ, List.replicate, Option.some.injEq, Prod.mk.injEq, exists_eq_left', exists_eq_left, exists_and_left, and_assoc, and_true, true_and, or_true, true_or, Nat.sub_self, Nat.reduceAdd, Nat.reduceSub, Nat.zero_add, Nat.reduceLT, Nat.lt_add_one, if_true, if_false, ite_true, ite_false, Bool.not_true, Bool.not_false, Bool.false_eq_true, Bool.true_eq_false, eq_self_iff_true, forall_const, true_implies, false_implies, implies_true, reduceCtorEq, and_false, false_and, false_or, or_false, Hd.fz.injEq, PyData.int.injEq, PyData.list.injEq, PyData.tuple.injEq, PyData.bool.injEq]
    exact hN _ ⟨w2, r2, _, hw2, hr2, hrow2, fun u hu => hds u (List.mem_cons_of_mem _ hu), rfl⟩
  · obtain ⟨w, r, f, hw, hr, hrow, hds, rfl⟩ := hJ
    dsimp only
    unfold b_law_9
    simp only [wSs, wS, wE, wA, wB, wT, wO, wI, endPt, ini, vw_fz, vw_tm, vw_sl, vws, dat_d, dat_l, dat_o, pvw_fz, pvw_fzL, pvw_mls, hd_fz, hd_fzL, hd_mls, kid_fz, kid_tm, kidsOf, frz_fz, frz_tm, frz_sl, kid_sl, frzs, setAll, toD_fzL, toD_mls, toD_fz, st_fz, st_tm, st_sl, seq_dl, seq_dt, seq_l, asL_dl, asL_l, asL_dt, asT_dt, asT_dl, asT_l, isiB_some, isiV_b, isiV_i, isiV_s, isiV_l, isiV_t, isiV_d, isBB, isII, isSS, isLL, isTT, isDD, isB_fz, bop_add, bop_sub, bop_mul, bop_div, bop_mod, bop_pow, bop_shl, bop_shr, bop_and, bop_or, bop_xor, cop_eq, cop_ne, cop_eqS, cop_neS, cop_lt, cop_le, cop_gt, cop_ge, cop_is, bip_len, bip_abs, bip_intI, bip_intB, bip_tup, bip_lst, bip_repr, ixp_l, ixp_t, slp_dl, slp_l, slp_dt, atI_0, atI_1, atI_2, atI_cast, Es.len, asg_nm, asg_tp, asg_tl, asgs_nil, end0, end1, prep_nil, prep_fz, prep_tm, pickS, pickD, Hd.into, wipeL, bip_min2, bip_max2, szl_0, szl_1, szl_2, szl_3, szl_4, szl_5, szl_6, szl_7, szl_8, szl_9, szl_10, szl_11, szl_12, pvw_0, pvw_1, pvw_2, pvw_3, pvw_4, pvw_5, pvw_6, pvw_7, pvw_8, List.map_nil, List.map_cons, List.nil_append, List.cons_append, List.length_nil, List.length_cons, List.getElem?_cons_zero, List.getElem?_cons_succ, List.getElem?_nil, List.set_cons_zero, List.set_cons_succ, List.replicate, Option.some.injEq, Prod.mk.injEq, exists_eq_left', exists_eq_left, exists_and_left, and_assoc, and_true, true_and, or_true, true_or, Nat.sub_self, Nat.reduceAdd, Nat.reduceSub, Nat.zero_add, Nat.reduceLT, Nat.lt_add_one, if_true, if_false, ite_true, ite_false, Bool.not_true, Bool.not_false, Bool.false_eq_true, Bool.true_eq_false, eq_self_iff_true, forall_const, true_implies, false_implies, implies_true, reduceCtorEq, and_false, false_and, false_or, or_false, Hd.fz.injEq, PyData.int.injEq, PyData.list.injEq, PyData.tuple.injEq, PyData.bool.injEq]
    refine ⟨_, r, rfl, rfl, fun ms p1 p2 => ?_⟩
    have hml : ms.length = n := by rw [p1.length_eq]; exact hr
    have hmr : RowOk ms := rowOk_perm hrow p1
    obtain ⟨c1, c2, c3⟩ := calm_go (g := g) p2 (by rw [hml]; exact ok)
    simp only [wSs, wS, wE, wA, wB, wT, wO, wI, endPt, ini, vw_fz, vw_tm, vw_sl, vws, dat_d, dat_l, dat_o, pvw_fz, pvw_fzL, pvw_mls, hd_fz, hd_fzL, hd_mls, kid_fz, kid_tm, kidsOf, frz_fz, frz_tm, frz_sl, kid_sl, frzs, setAll, toD_fzL, toD_mls, toD_fz, st_fz, st_tm, st_sl, seq_dl, seq_dt, seq_l, asL_dl, asL_l, asL_dt, asT_dt, asT_dl, asT_l, isiB_some, isiV_b, isiV_i, isiV_s, isiV_l, isiV_t, isiV_d, isBB, isII, isSS, isLL, isTT, isDD, isB_fz, bop_add, bop_sub, bop_mul, bop_div, bop_mod, bop_pow, bop_shl, bop_shr, bop_and, bop_or, bop_xor, cop_eq, cop_ne, cop_eqS, cop_neS, cop_lt, cop_le, cop_gt, cop_ge, cop_is, bip_len, bip_abs, bip_intI, bip_intB, bip_tup, bip_lst, bip_repr, ixp_l, ixp_t, slp_dl, slp_l, slp_dt, atI_0, atI_1, atI_2, atI_cast, Es.len, asg_nm, asg_tp, asg_tl, asgs_nil, end0, end1, prep_nil, prep_fz, prep_tm, pickS, pickD, Hd.into, wipeL, bip_min2, bip_max2, szl_0, szl_1, szl_2, szl_3, szl_4, szl_5, szl_6, szl_7, szl_8, szl_9, szl_10, szl_11, szl_12, pvw_0, pvw_1, pvw_2, pvw_3, pvw_4, pvw_5, pvw_6, pvw_7, pvw_8, List.map_nil, List.map_cons, List.nil_append, List.cons_append, List.length_nil, List.length_cons, List.getElem?_cons_zero, List.getElem?_cons_succ, List.getElem?_nil, List.set_cons_zero, List.set_cons_succ, List.replicate, Option.some.injEq, Prod.mk.injEq, exists_eq_left', exists_eq_left, exists_and_left, and_assoc, and_true, true_and, or_true, true_or, Nat.sub_self, Nat.reduceAdd, Nat.reduceSub, Nat.zero_add, Nat.reduceLT, Nat.lt_add_one, if_true, if_false, ite_true, ite_false, Bool.not_true, Bool.not_false, Bool.false_eq_true, Bool.true_eq_false, eq_self_iff_true, forall_const, true_implies, false_implies, implies_true, reduceCtorEq, and_false, false_and, false_or, or_false, Hd.fz.injEq, PyData.int.injEq, PyData.list.injEq, PyData.tuple.injEq, PyData.bool.injEq]
    unfold b_law_10
    simp only [h4, wSs, wS, wE, wA, wB, wT, wO, wI, endPt, ini, vw_fz, vw_tm, vw_sl, vws, dat_d, dat_l, dat_o, pvw_fz, pvw_fzL, pvw_mls, hd_fz, hd_fzL, hd_mls, kid_fz, kid_tm, kidsOf, frz_fz, frz_tm, frz_sl, kid_sl, frzs, setAll, toD_fzL, toD_mls, toD_fz, st_fz, st_tm, st_sl, seq_dl, seq_dt, seq_l, asL_dl, asL_l, asL_dt, asT_dt, asT_dl, asT_l, isiB_some, isiV_b, isiV_i, isiV_s, isiV_l, isiV_t, isiV_d, isBB, isII, isSS, isLL, isTT, isDD, isB_fz, bop_add, bop_sub, bop_mul, bop_div, bop_mod, bop_pow, bop_shl, bop_shr, bop_and, bop_or, bop_xor, cop_eq, cop_ne, cop_eqS, cop_neS, cop_lt, cop_le, cop_gt, cop_ge, cop_is, bip_len, bip_abs, bip_intI, bip_intB, bip_tup, bip_lst, bip_repr, ixp_l, ixp_t, slp_dl, slp_l, slp_dt, atI_0, atI_1, atI_2, atI_cast, Es.len, asg_nm, asg_tp, asg_tl, asgs_nil, end0, end1, prep_nil, prep_fz, prep_tm, pickS, pickD, Hd.into, wipeL, bip_min2, bip_max2, szl_0, szl_1, szl_2, szl_3, szl_4, szl_5, szl_6, szl_7, szl_8, szl_9, szl_10, szl_11, szl_12, pvw_0, pvw_1, pvw_2, pvw_3, pvw_4, pvw_5, pvw_6, pvw_7, pvw_8, List.map_nil, List.map_cons, List.nil_append, List.cons_append, List.length_nil, List.length_cons, List.getElem?_cons_zero, List.getElem?_cons_succ, List.getElem?_nil, List.set_cons_zero, List.set_cons_succ, List.replicate, Option.some.injEq, Prod.mk.injEq, exists_eq_left', exists_eq_left, exists_and_left, and_assoc, and_true, true_and, or_true, true_or, Nat.sub_self, Nat.reduceAdd, Nat.reduceSub, Nat.zero_add, Nat.reduceLT, Nat.lt_add_one, if_true, if_false, ite_true, ite_false, Bool.not_true, Bool.not_false, Bool.false_eq_true, Bool.true_eq_false, eq_self_iff_true, forall_const, true_implies, false_implies, implies_true, reduceCtorEq, and_false, false_and, false_or, or_false, Hd.fz.injEq, PyData.int.injEq, PyData.list.injEq, PyData.tuple.injEq, PyData.bool.injEq]
    refine call_seen (by rw [hml]; exact ok) (by omega) (by omega) ?_
    simp only [h4, outD, cameD, exchD, c1, c2, c3, hml, fzL, wSs, wS, wE, wA, wB, wT, wO, wI, endPt, ini, vw_fz, vw_tm, vw_sl, vws, dat_d, dat_l, dat_o, pvw_fz, pvw_fzL, pvw_mls, hd_fz, hd_fzL, hd_mls, kid_fz, kid_tm, kidsOf, frz_fz, frz_tm, frz_sl, kid_sl, frzs, setAll, toD_fzL, toD_mls, toD_fz, st_fz, st_tm, st_sl, seq_dl, seq_dt, seq_l, asL_dl, asL_l, asL_dt, asT_dt, asT_dl, asT_l, isiB_some, isiV_b, isiV_i, isiV_s, isiV_l, isiV_t, isiV_d, isBB, isII, isSS, isLL, isTT, isDD, isB_fz, bop_add, bop_sub, bop_mul, bop_div, bop_mod, bop_pow, bop_shl, bop_shr, bop_and, bop_or, bop_xor, cop_eq, cop_ne, cop_eqS, cop_neS, cop_lt, cop_le, cop_gt, cop_ge, cop_is, bip_len, bip_abs, bip_intI, bip_intB, bip_tup, bip_lst, bip_repr, ixp_l, ixp_t, slp_dl, slp_l, slp_dt, atI_0, atI_1, atI_2, atI_cast, Es.len, asg_nm, asg_tp, asg_tl, asgs_nil, end0, end1, prep_nil, prep_fz, prep_tm, pickS, pickD, Hd.into, wipeL, bip_min2, bip_max2, szl_0, szl_1, szl_2, szl_3, szl_4, szl_5, szl_6, szl_7, szl_8, szl_9, szl_10, szl_11, szl_12, pvw_0, pvw_1, pvw_2, pvw_3, pvw_4, pvw_5, pvw_6, pvw_7, pvw_8, List.map_nil, List.map_cons, List.nil_append, List.cons_append, List.length_nil, List.length_cons, List.getElem?_cons_zero, List.getElem?_cons_succ, List.getElem?_nil, List.set_cons_zero, List.set_cons_succ, List.replicate, Option.some.injEq, Prod.mk.injEq, exists_eq_left', exists_eq_left, exists_and_left, and_assoc, and_true, true_and, or_true, true_or, Nat.sub_self, Nat.reduceAdd, Nat.reduceSub, Nat.zero_add, Nat.reduceLT, Nat.lt_add_one, if_true, if_false, ite_true, ite_false, Bool.not_true, Bool.not_false, Bool.false_eq_true, Bool.true_eq_false, eq_self_iff_true, forall_const, true_implies, false_implies, implies_true, reduceCtorEq, and_false, false_and, false_or, or_false, Hd.fz.injEq, PyData.int.injEq, PyData.list.injEq, PyData.tuple.injEq, PyData.bool.injEq]
    have hrg : rgD 0 ((n : Int)).toNat = (List.range n).map natD := by rw [show ((n : Int)).toNat = n from rfl, rg_range]
    rw [hrg]
    have s1 : Sm 1 32003 (rowD ms) := (sm_row hmr (by omega)).mono (by decide) (by decide)
    have s2 : Sm 1 32003 (.tuple ((List.range n).map natD)) := sm_nats (fun k hk => by have := List.mem_range.mp hk; omega) (by rw [List.length_range]; omega)
    have s3 : Sm 1 32003 (.tuple []) := sm_nats (l := []) (by simp) (by simp)
    have s4 := sm_three s1 s2 s3
    refine rp_and s4 (by decide) (by decide) ⟨by omega, by omega, by omega, rp_and s4 (by decide) (by decide) ?_⟩
    simp only [decide_true, Bool.not_true, List.map_nil, List.map_cons, List.nil_append, List.cons_append, List.length_nil, List.length_cons, List.getElem?_cons_zero, List.getElem?_cons_succ, List.getElem?_nil, List.set_cons_zero, List.set_cons_succ, List.replicate, Option.some.injEq, Prod.mk.injEq, exists_eq_left', exists_eq_left, exists_and_left, and_assoc, and_true, true_and, or_true, true_or, Nat.sub_self, Nat.reduceAdd, Nat.reduceSub, Nat.zero_add, Nat.reduceLT, Nat.lt_add_one, if_true, if_false, ite_true, ite_false, Bool.not_true, Bool.not_false, Bool.false_eq_true, Bool.true_eq_false, eq_self_iff_true, forall_const, true_implies, false_implies, implies_true, reduceCtorEq, and_false, false_and, false_or, or_false, Hd.fz.injEq, PyData.int.injEq, PyData.list.injEq, PyData.tuple.injEq, PyData.bool.injEq]
    exact q w _ _ _ hw
theorem s_law_2 {sc w : PV} {a b c d e : Option PV} {k : Nat} {P : Pt} (hw : Well w) (hk : k < 7)
    (q : ∀ (w' : PV) (a b c d e : Option PV), Well w' → P.nx [some sc, some w', some (.fz (.int k)), a, b, c, d, e]) :
    wSs Φ b_law_2 [some sc, some w, some (.fz (.int k)), a, b, c, d, e] P := by
  obtain ⟨ns1, st1, t1, hns1, rfl⟩ := id hw
  unfold b_law_2
  simp only [h0, wSs, wS, wE, wA, wB, wT, wO, wI, endPt, ini, vw_fz, vw_tm, vw_sl, vws, dat_d, dat_l, dat_o, pvw_fz, pvw_fzL, pvw_mls, hd_fz, hd_fzL, hd_mls, kid_fz, kid_tm, kidsOf, frz_fz, frz_tm, frz_sl, kid_sl, frzs, setAll, toD_fzL, toD_mls, toD_fz, st_fz, st_tm, st_sl, seq_dl, seq_dt, seq_l, asL_dl, asL_l, asL_dt, asT_dt, asT_dl, asT_l, isiB_some, isiV_b, isiV_i, isiV_s, isiV_l, isiV_t, isiV_d, isBB, isII, isSS, isLL, isTT, isDD, isB_fz, bop_add, bop_sub, bop_mul, bop_div, bop_mod, bop_pow, bop_shl, bop_shr, bop_and, bop_or, bop_xor, cop_eq, cop_ne, cop_eqS, cop_neS, cop_lt, cop_le, cop_gt, cop_ge, cop_is, bip_len, bip_abs, bip_intI, bip_intB, bip_tup, bip_lst, bip_repr, ixp_l, ixp_t, slp_dl, slp_l, slp_dt, atI_0, atI_1, atI_2, atI_cast, Es.len, asg_nm, asg_tp, asg_tl, asgs_nil, end0, end1, prep_nil, prep_fz, prep_tm, pickS, pickD, Hd.into, wipeL, bip_min2, bip_max2, szl_0, szl_1, szl_2, szl_3, szl_4, szl_5, szl_6, szl_7, szl_8, szl_9, szl_10, szl_11, szl_12, pvw_0, pvw_1, pvw_2, pvw_3, pvw_4, pvw_5, pvw_6, pvw_7, pvw_8, List.map_nil, List.map_cons, List.nil_append, List.cons_append, List.length_nil, List.length_cons, List.getElem?_cons_zero, List.getElem?_cons_succ, List.getElem?_nil, List.set_cons_zero, List.set_cons_succ, List.replicate, Option.some.injEq, Prod.mk.injEq, exists_eq_left', exists_eq_left, exists_and_left, and_assoc, and_true, true_and, or_true, true_or, Nat.sub_self, Nat.reduceAdd, Nat.reduceSub, Nat.zero_add, Nat.reduceLT, Nat.lt_add_one, if_true, if_false, ite_true, ite_false, Bool.not_true, Bool.not_false, Bool.false_eq_true, Bool.true_eq_false, eq_self_iff_true, forall_const, true_implies, false_implies, implies_true, reduceCtorEq, and_false, false_and, false_or, or_false, Hd.fz.injEq, PyData.int.injEq, PyData.list.injEq, PyData.tuple.injEq, PyData.bool.injEq]
  refine call_draw hw rfl (by omega) fun w2 r2 hw2 g1 g2 => ?_
  obtain ⟨ns2, st2, t2, hns2, rfl⟩ := id hw2
  simp only [h0, wSs, wS, wE, wA, wB, wT, wO, wI, endPt, ini, vw_fz, vw_tm, vw_sl, vws, dat_d, dat_l, dat_o, pvw_fz, pvw_fzL, pvw_mls, hd_fz, hd_fzL, hd_mls, kid_fz, kid_tm, kidsOf, frz_fz, frz_tm, frz_sl, kid_sl, frzs, setAll, toD_fzL, toD_mls, toD_fz, st_fz, st_tm, st_sl, seq_dl, seq_dt, seq_l, asL_dl, asL_l, asL_dt, asT_dt, asT_dl, asT_l, isiB_some, isiV_b, isiV_i, isiV_s, isiV_l, isiV_t, isiV_d, isBB, isII, isSS, isLL, isTT, isDD, isB_fz, bop_add, bop_sub, bop_mul, bop_div, bop_mod, bop_pow, bop_shl, bop_shr, bop_and, bop_or, bop_xor, cop_eq, cop_ne, cop_eqS, cop_neS, cop_lt, cop_le, cop_gt, cop_ge, cop_is, bip_len, bip_abs, bip_intI, bip_intB, bip_tup, bip_lst, bip_repr, ixp_l, ixp_t, slp_dl, slp_l, slp_dt, atI_0, atI_1, atI_2, atI_cast, Es.len, asg_nm, asg_tp, asg_tl, asgs_nil, end0, end1, prep_nil, prep_fz, prep_tm, pickS, pickD, Hd.into, wipeL, bip_min2, bip_max2, szl_0, szl_1, szl_2, szl_3, szl_4, szl_5, szl_6, szl_7, szl_8, szl_9, szl_10, szl_11, szl_12, pvw_0, pvw_1, pvw_2, pvw_3, pvw_4, pvw_5, pvw_6, pvw_7, pvw_8, List.map_nil, List.map_cons, List.nil_append, List.cons_append, List.length_nil, List.length_cons, List.getElem?_cons_zero, List.getElem?_cons_succ, List.getElem?_nil, List.set_cons_zero, List.set_cons_succ, List.replicate, Option.some.injEq, Prod.mk.injEq, exists_eq_left', exists_eq_left, exists_and_left, and_assoc, and_true, true_and, or_true, true_or, Nat.sub_self, Nat.reduceAdd, Nat.reduceSub, Nat.zero_add, Nat.reduceLT, Nat.lt_add_one, if_true, if_false, ite_true, ite_false, Bool.not_true, Bool.not_false, Bool.false_eq_true, Bool.true_eq_false, eq_self_iff_true, forall_const, true_implies, false_implies, implies_true, reduceCtorEq, and_false, false_and, false_or, or_false, Hd.fz.injEq, PyData.int.injEq, PyData.list.injEq, PyData.tuple.injEq, PyData.bool.injEq]
  refine call_draw hw2 rfl (by omega) fun w3 r3 hw3 g3 g4 => ?_
  obtain ⟨ns3, st3, t3, hns3, rfl⟩ := id hw3
  simp only [h0, wSs, wS, wE, wA, wB, wT, wO, wI, endPt, ini, vw_fz, vw_tm, vw_sl, vws, dat_d, dat_l, dat_o, pvw_fz, pvw_fzL, pvw_mls, hd_fz, hd_fzL, hd_mls, kid_fz, kid_tm, kidsOf, frz_fz, frz_tm, frz_sl, kid_sl, frzs, setAll, toD_fzL, toD_mls, toD_fz, st_fz, st_tm, st_sl, seq_dl, seq_dt, seq_l, asL_dl, asL_l, asL_dt, asT_dt, asT_dl, asT_l, isiB_some, isiV_b, isiV_i, isiV_s, isiV_l, isiV_t, isiV_d, isBB, isII, isSS, isLL, isTT, isDD, isB_fz, bop_add, bop_sub, bop_mul, bop_div, bop_mod, bop_pow, bop_shl, bop_shr, bop_and, bop_or, bop_xor, cop_eq, cop_ne, cop_eqS, cop_neS, cop_lt, cop_le, cop_gt, cop_ge, cop_is, bip_len, bip_abs, bip_intI, bip_intB, bip_tup, bip_lst, bip_repr, ixp_l, ixp_t, slp_dl, slp_l, slp_dt, atI_0, atI_1, atI_2, atI_cast, Es.len, asg_nm, asg_tp, asg_tl, asgs_nil, end0, end1, prep_nil, prep_fz, prep_tm, pickS, pickD, Hd.into, wipeL, bip_min2, bip_max2, szl_0, szl_1, szl_2, szl_3, szl_4, szl_5, szl_6, szl_7, szl_8, szl_9, szl_10, szl_11, szl_12, pvw_0, pvw_1, pvw_2, pvw_3, pvw_4, pvw_5, pvw_6, pvw_7, pvw_8, List.map_nil, List.map_cons, List.nil_append, List.cons_append, List.length_nil, List.length_cons, List.getElem?_cons_zero, List.getElem?_cons_succ, List.getElem?_nil, List.set_cons_zero, List.set_cons_succ, List.replicate, Option.some.injEq, Prod.mk.injEq, exists_eq_left', exists_eq_left, exists_and_left, and_assoc, and_true, true_and, or_true, true_or, Nat.sub_self, Nat.reduceAdd, Nat.reduceSub, Nat.zero_add, Nat.reduceLT, Nat.lt_add_one, if_true, if_false, ite_true, ite_false, Bool.not_true, Bool.not_false, Bool.false_eq_true, Bool.true_eq_false, eq_self_iff_true, forall_const, true_implies, false_implies, implies_true, reduceCtorEq, and_false, false_and, false_or, or_false, Hd.fz.injEq, PyData.int.injEq, PyData.list.injEq, PyData.tuple.injEq, PyData.bool.injEq]
  refine call_draw hw3 rfl (by omega) fun w4 r4 hw4 g5 g6 => ?_
  obtain ⟨ns4, st4, t4, hns4, rfl⟩ := id hw4
  simp only [h0, wSs, wS, wE, wA, wB, wT, wO, wI, endPt, ini, vw_fz, vw_tm, vw_sl, vws, dat_d, dat_l, dat_o, pvw_fz, pvw_fzL, pvw_mls, hd_fz, hd_fzL, hd_mls, kid_fz, kid_tm, kidsOf, frz_fz, frz_tm, frz_sl, kid_sl, frzs, setAll, toD_fzL, toD_mls, toD_fz, st_fz, st_tm, st_sl, seq_dl, seq_dt, seq_l, asL_dl, asL_l, asL_dt, asT_dt, asT_dl, asT_l, isiB_some, isiV_b, isiV_i, isiV_s, isiV_l, isiV_t, isiV_d, isBB, isII, isSS, isLL, isTT, isDD, isB_fz, bop_add, bop_sub, bop_mul, bop_div, bop_mod, bop_pow, bop_shl, bop_shr, bop_and, bop_or, bop_xor, cop_eq, cop_ne, cop_eqS, cop_neS, cop_lt, cop_le, cop_gt, cop_ge, cop_is, bip_len, bip_abs, bip_intI, bip_intB, bip_tup, bip_lst, bip_repr, ixp_l, ixp_t, slp_dl, slp_l, slp_dt, atI_0, atI_1, atI_2, atI_cast, Es.len, asg_nm, asg_tp, asg_tl, asgs_nil, end0, end1, prep_nil, prep_fz, prep_tm, pickS, pickD, Hd.into, wipeL, bip_min2, bip_max2, szl_0, szl_1, szl_2, szl_3, szl_4, szl_5, szl_6, szl_7, szl_8, szl_9, szl_10, szl_11, szl_12, pvw_0, pvw_1, pvw_2, pvw_3, pvw_4, pvw_5, pvw_6, pvw_7, pvw_8, List.map_nil, List.map_cons, List.nil_append, List.cons_append, List.length_nil, List.length_cons, List.getElem?_cons_zero, List.getElem?_cons_succ, List.getElem?_nil, List.set_cons_zero, List.set_cons_succ, List.replicate, Option.some.injEq, Prod.mk.injEq, exists_eq_left', exists_eq_left, exists_and_left, and_assoc, and_true, true_and, or_true, true_or, Nat.sub_self, Nat.reduceAdd, Nat.reduceSub, Nat.zero_add, Nat.reduceLT, Nat.lt_add_one, if_true, if_false, ite_true, ite_false, Bool.not_true, Bool.not_false, Bool.false_eq_true, Bool.true_eq_false, eq_self_iff_true, forall_const, true_implies, false_implies, implies_true, reduceCtorEq, and_false, false_and, false_or, or_false, Hd.fz.injEq, PyData.int.injEq, PyData.list.injEq, PyData.tuple.injEq, PyData.bool.injEq]
  obtain ⟨n, hn1, hn2, hn⟩ : ∃ n : Nat, 2 ≤ n ∧ n ≤ 24 ∧ ([PyData.int 2, .int 3, .int 4, .int 24, .int (5 + r2), .int (2 + r3), .int (3 + r4)] : List PyData)[k]? = some (.int n) := by
    obtain ⟨x, rfl⟩ := Int.eq_ofNat_of_zero_le g1
    obtain ⟨y, rfl⟩ := Int.eq_ofNat_of_zero_le g3
    obtain ⟨z, rfl⟩ := Int.eq_ofNat_of_zero_le g5
    have : k = 0 ∨ k = 1 ∨ k = 2 ∨ k = 3 ∨ k = 4 ∨ k = 5 ∨ k = 6 := by omega
    rcases this with rfl | rfl | rfl | rfl | rfl | rfl | rfl
    · exact ⟨2, by omega, by omega, rfl⟩
    · exact ⟨3, by omega, by omega, rfl⟩
    · exact ⟨4, by omega, by omega, rfl⟩
    · exact ⟨24, by omega, by omega, rfl⟩
    · exact ⟨5 + x, by omega, by omega, by simp⟩
    · exact ⟨2 + y, by omega, by omega, by simp⟩
    · exact ⟨3 + z, by omega, by omega, by simp⟩
  refine ixp_tm (ds := [PyData.int 2, .int 3, .int 4, .int 24, .int (5 + r2), .int (2 + r3), .int (3 + r4)]) hn ?_
  simp only [wSs, wS, wE, wA, wB, wT, wO, wI, endPt, ini, vw_fz, vw_tm, vw_sl, vws, dat_d, dat_l, dat_o, pvw_fz, pvw_fzL, pvw_mls, hd_fz, hd_fzL, hd_mls, kid_fz, kid_tm, kidsOf, frz_fz, frz_tm, frz_sl, kid_sl, frzs, setAll, toD_fzL, toD_mls, toD_fz, st_fz, st_tm, st_sl, seq_dl, seq_dt, seq_l, asL_dl, asL_l, asL_dt, asT_dt, asT_dl, asT_l, isiB_some, isiV_b, isiV_i, isiV_s, isiV_l, isiV_t, isiV_d, isBB, isII, isSS, isLL, isTT, isDD, isB_fz, bop_add, bop_sub, bop_mul, bop_div, bop_mod, bop_pow, bop_shl, bop_shr, bop_and, bop_or, bop_xor, cop_eq, cop_ne, cop_eqS, cop_neS, cop_lt, cop_le, cop_gt, cop_ge, cop_is, bip_len, bip_abs, bip_intI, bip_intB, bip_tup, bip_lst, bip_repr, ixp_l, ixp_t, slp_dl, slp_l, slp_dt, atI_0, atI_1, atI_2, atI_cast, Es.len, asg_nm, asg_tp, asg_tl, asgs_nil, end0, end1, prep_nil, prep_fz, prep_tm, pickS, pickD, Hd.into, wipeL, bip_min2, bip_max2, szl_0, szl_1, szl_2, szl_3, szl_4, szl_5, szl_6, szl_7, szl_8, szl_9, szl_10, szl_11, szl_12, pvw_0, pvw_1, pvw_2, pvw_3, pvw_4, pvw_5, pvw_6, pvw_7, pvw_8, List.map_nil, List.map_cons, List.nil_append, List.cons_append, List.length_nil, List.length_cons, List.getElem?_cons_zero, List.getElem?_cons_succ, List.getElem?_nil, List.set_cons_zero, List.set_cons_succ, List.replicate, Option.some.injEq, Prod.mk.injEq, exists_eq_left', exists_eq_left, exists_and_left, and_assoc, and_true, true_and, or_true, true_or, Nat.sub_self, Nat.reduceAdd, Nat.reduceSub, Nat.zero_add, Nat.reduceLT, Nat.lt_add_one, if_true, if_false, ite_true, ite_false, Bool.not_true, Bool.not_false, Bool.false_eq_true, Bool.true_eq_false, eq_self_iff_true, forall_const, true_implies, false_implies, implies_true, reduceCtorEq, and_false, false_and, false_or, or_false, Hd.fz.injEq, PyData.int.injEq, PyData.list.injEq, PyData.tuple.injEq, PyData.bool.injEq]
  unfold b_law_3
  simp only [h2, wSs, wS, wE, wA, wB, wT, wO, wI, endPt, ini, vw_fz, vw_tm, vw_sl, vws, dat_d, dat_l, dat_o, pvw_fz, pvw_fzL, pvw_mls, hd_fz, hd_fzL, hd_mls, kid_fz, kid_tm, kidsOf, frz_fz, frz_tm, frz_sl, kid_sl, frzs, setAll, toD_fzL, toD_mls, toD_fz, st_fz, st_tm, st_sl, seq_dl, seq_dt, seq_l, asL_dl, asL_l, asL_dt, asT_dt, asT_dl, asT_l, isiB_some, isiV_b, isiV_i, isiV_s, isiV_l, isiV_t, isiV_d, isBB, isII, isSS, isLL, isTT, isDD, isB_fz, bop_add, bop_sub, bop_mul, bop_div, bop_mod, bop_pow, bop_shl, bop_shr, bop_and, bop_or, bop_xor, cop_eq, cop_ne, cop_eqS, cop_neS, cop_lt, cop_le, cop_gt, cop_ge, cop_is, bip_len, bip_abs, bip_intI, bip_intB, bip_tup, bip_lst, bip_repr, ixp_l, ixp_t, slp_dl, slp_l, slp_dt, atI_0, atI_1, atI_2, atI_cast, Es.len, asg_nm, asg_tp, asg_tl, asgs_nil, end0, end1, prep_nil, prep_fz, prep_tm, pickS, pickD, Hd.into, wipeL, bip_min2, bip_max2, szl_0, szl_1, szl_2, szl_3, szl_4, szl_5, szl_6, szl_7, szl_8, szl_9, szl_10, szl_11, szl_12, pvw_0, pvw_1, pvw_2, pvw_3, pvw_4, pvw_5, pvw_6, pvw_7, pvw_8, List.map_nil, List.map_cons, List.nil_append, List.cons_append, List.length_nil, List.length_cons, List.getElem?_cons_zero, List.getElem?_cons_succ, List.getElem?_nil, List.set_cons_zero, List.set_cons_succ, List.replicate, Option.some.injEq, Prod.mk.injEq, exists_eq_left', exists_eq_left, exists_and_left, and_assoc, and_true, true_and, or_true, true_or, Nat.sub_self, Nat.reduceAdd, Nat.reduceSub, Nat.zero_add, Nat.reduceLT, Nat.lt_add_one, if_true, if_false, ite_true, ite_false, Bool.not_true, Bool.not_false, Bool.false_eq_true, Bool.true_eq_false, eq_self_iff_true, forall_const, true_implies, false_implies, implies_true, reduceCtorEq, and_false, false_and, false_or, or_false, Hd.fz.injEq, PyData.int.injEq, PyData.list.injEq, PyData.tuple.injEq, PyData.bool.injEq]
  obtain ⟨m, hm1, hm2, hm⟩ : ∃ m : Int, 0 ≤ m ∧ m ≤ 60 ∧ ([PyData.int 4, .int 12, .int 12, .int 60, .int 40, .int 60, .int 20] : List PyData)[k]? = some (.int m) := by
    have : k = 0 ∨ k = 1 ∨ k = 2 ∨ k = 3 ∨ k = 4 ∨ k = 5 ∨ k = 6 := by omega
    rcases this with rfl | rfl | rfl | rfl | rfl | rfl | rfl <;> exact ⟨_, by decide, by decide, rfl⟩
  refine ixp_tm (ds := [PyData.int 4, .int 12, .int 12, .int 60, .int 40, .int 60, .int 20]) hm ?_
  refine ⟨rfl, ?_⟩
  refine call_net hw4 rfl hn1 hn2 hm1 (by omega) fun w5 g hw5 hg hok => ?_
  simp only [wSs, wS, wE, wA, wB, wT, wO, wI, endPt, ini, vw_fz, vw_tm, vw_sl, vws, dat_d, dat_l, dat_o, pvw_fz, pvw_fzL, pvw_mls, hd_fz, hd_fzL, hd_mls, kid_fz, kid_tm, kidsOf, frz_fz, frz_tm, frz_sl, kid_sl, frzs, setAll, toD_fzL, toD_mls, toD_fz, st_fz, st_tm, st_sl, seq_dl, seq_dt, seq_l, asL_dl, asL_l, asL_dt, asT_dt, asT_dl, asT_l, isiB_some, isiV_b, isiV_i, isiV_s, isiV_l, isiV_t, isiV_d, isBB, isII, isSS, isLL, isTT, isDD, isB_fz, bop_add, bop_sub, bop_mul, bop_div, bop_mod, bop_pow, bop_shl, bop_shr, bop_and, bop_or, bop_xor, cop_eq, cop_ne, cop_eqS, cop_neS, cop_lt, cop_le, cop_gt, cop_ge, cop_is, bip_len, bip_abs, bip_intI, bip_intB, bip_tup, bip_lst, bip_repr, ixp_l, ixp_t, slp_dl, slp_l, slp_dt, atI_0, atI_1, atI_2, atI_cast, Es.len, asg_nm, asg_tp, asg_tl, asgs_nil, end0, end1, prep_nil, prep_fz, prep_tm, pickS, pickD, Hd.into, wipeL, bip_min2, bip_max2, szl_0, szl_1, szl_2, szl_3, szl_4, szl_5, szl_6, szl_7, szl_8, szl_9, szl_10, szl_11, szl_12, pvw_0, pvw_1, pvw_2, pvw_3, pvw_4, pvw_5, pvw_6, pvw_7, pvw_8, List.map_nil, List.map_cons, List.nil_append, List.cons_append, List.length_nil, List.length_cons, List.getElem?_cons_zero, List.getElem?_cons_succ, List.getElem?_nil, List.set_cons_zero, List.set_cons_succ, List.replicate, Option.some.injEq, Prod.mk.injEq, exists_eq_left', exists_eq_left, exists_and_left, and_assoc, and_true, true_and, or_true, true_or, Nat.sub_self, Nat.reduceAdd, Nat.reduceSub, Nat.zero_add, Nat.reduceLT, Nat.lt_add_one, if_true, if_false, ite_true, ite_false, Bool.not_true, Bool.not_false, Bool.false_eq_true, Bool.true_eq_false, eq_self_iff_true, forall_const, true_implies, false_implies, implies_true, reduceCtorEq, and_false, false_and, false_or, or_false, Hd.fz.injEq, PyData.int.injEq, PyData.list.injEq, PyData.tuple.injEq, PyData.bool.injEq]
  unfold b_law_4
  simp only [wSs, wS, wE, wA, wB, wT, wO, wI, endPt, ini, vw_fz, vw_tm, vw_sl, vws, dat_d, dat_l, dat_o, pvw_fz, pvw_fzL, pvw_mls, hd_fz, hd_fzL, hd_mls, kid_fz, kid_tm, kidsOf, frz_fz, frz_tm, frz_sl, kid_sl, frzs, setAll, toD_fzL, toD_mls, toD_fz, st_fz, st_tm, st_sl, seq_dl, seq_dt, seq_l, asL_dl, asL_l, asL_dt, asT_dt, asT_dl, asT_l, isiB_some, isiV_b, isiV_i, isiV_s, isiV_l, isiV_t, isiV_d, isBB, isII, isSS, isLL, isTT, isDD, isB_fz, bop_add, bop_sub, bop_mul, bop_div, bop_mod, bop_pow, bop_shl, bop_shr, bop_and, bop_or, bop_xor, cop_eq, cop_ne, cop_eqS, cop_neS, cop_lt, cop_le, cop_gt, cop_ge, cop_is, bip_len, bip_abs, bip_intI, bip_intB, bip_tup, bip_lst, bip_repr, ixp_l, ixp_t, slp_dl, slp_l, slp_dt, atI_0, atI_1, atI_2, atI_cast, Es.len, asg_nm, asg_tp, asg_tl, asgs_nil, end0, end1, prep_nil, prep_fz, prep_tm, pickS, pickD, Hd.into, wipeL, bip_min2, bip_max2, szl_0, szl_1, szl_2, szl_3, szl_4, szl_5, szl_6, szl_7, szl_8, szl_9, szl_10, szl_11, szl_12, pvw_0, pvw_1, pvw_2, pvw_3, pvw_4, pvw_5, pvw_6, pvw_7, pvw_8, List.map_nil, List.map_cons, List.nil_append, List.cons_append, List.length_nil, List.length_cons, List.getElem?_cons_zero, List.getElem?_cons_succ, List.getElem?_nil, List.set_cons_zero, List.set_cons_succ, List.replicate, Option.some.injEq, Prod.mk.injEq, exists_eq_left', exists_eq_left, exists_and_left, and_assoc, and_true, true_and, or_true, true_or, Nat.sub_self, Nat.reduceAdd, Nat.reduceSub, Nat.zero_add, Nat.reduceLT, Nat.lt_add_one, if_true, if_false, ite_true, ite_false, Bool.not_true, Bool.not_false, Bool.false_eq_true, Bool.true_eq_false, eq_self_iff_true, forall_const, true_implies, false_implies, implies_true, reduceCtorEq, and_false, false_and, false_or, or_false, Hd.fz.injEq, PyData.int.injEq, PyData.list.injEq, PyData.tuple.injEq, PyData.bool.injEq]
  refine bop_repT rfl (by simp) (by omega) (by omega) (by simp) ?_
  rw [show ((n : Int)).toNat = n from rfl, rep_zero]
  simp only [wSs, wS, wE, wA, wB, wT, wO, wI, endPt, ini, vw_fz, vw_tm, vw_sl, vws, dat_d, dat_l, dat_o, pvw_fz, pvw_fzL, pvw_mls, hd_fz, hd_fzL, hd_mls, kid_fz, kid_tm, kidsOf, frz_fz, frz_tm, frz_sl, kid_sl, frzs, setAll, toD_fzL, toD_mls, toD_fz, st_fz, st_tm, st_sl, seq_dl, seq_dt, seq_l, asL_dl, asL_l, asL_dt, asT_dt, asT_dl, asT_l, isiB_some, isiV_b, isiV_i, isiV_s, isiV_l, isiV_t, isiV_d, isBB, isII, isSS, isLL, isTT, isDD, isB_fz, bop_add, bop_sub, bop_mul, bop_div, bop_mod, bop_pow, bop_shl, bop_shr, bop_and, bop_or, bop_xor, cop_eq, cop_ne, cop_eqS, cop_neS, cop_lt, cop_le, cop_gt, cop_ge, cop_is, bip_len, bip_abs, bip_intI, bip_intB, bip_tup, bip_lst, bip_repr, ixp_l, ixp_t, slp_dl, slp_l, slp_dt, atI_0, atI_1, atI_2, atI_cast, Es.len, asg_nm, asg_tp, asg_tl, asgs_nil, end0, end1, prep_nil, prep_fz, prep_tm, pickS, pickD, Hd.into, wipeL, bip_min2, bip_max2, szl_0, szl_1, szl_2, szl_3, szl_4, szl_5, szl_6, szl_7, szl_8, szl_9, szl_10, szl_11, szl_12, pvw_0, pvw_1, pvw_2, pvw_3, pvw_4, pvw_5, pvw_6, pvw_7, pvw_8, List.map_nil, List.map_cons, List.nil_append, List.cons_append, List.length_nil, List.length_cons, List.getElem?_cons_zero, List.getElem?_cons_succ, List.getElem?_nil, List.set_cons_zero, List.set_cons_succ, List.replicate, Option.some.injEq, Prod.mk.injEq, exists_eq_left', exists_eq_left, exists_and_left, and_assoc, and_true, true_and, or_true, true_or, Nat.sub_self, Nat.reduceAdd, Nat.reduceSub, Nat.zero_add, Nat.reduceLT, Nat.lt_add_one, if_true, if_false, ite_true, ite_false, Bool.not_true, Bool.not_false, Bool.false_eq_true, Bool.true_eq_false, eq_self_iff_true, forall_const, true_implies, false_implies, implies_true, reduceCtorEq, and_false, false_and, false_or, or_false, Hd.fz.injEq, PyData.int.injEq, PyData.list.injEq, PyData.tuple.injEq, PyData.bool.injEq]
  refine s_law_5 h0 h1 h2 h3 h4 h5 hw5 hn1 hn2 (by omega) hok (by simp) (fun x hx => ?_) fun w' a b c hw' => q w' _ _ _ _ _ hw'
  rw [List.eq_of_mem_replicate hx]
  decide
theorem k_law : bodyOk Φ F_law 8 1 b_law := by
  intro xs ds QQ XX hx hd hs
  obtain ⟨ns, rfl, rfl, hq⟩ := hs
  have e0 : F_law.nio = 0 := rfl
  unfold b_law b_law_0
  simp only [e0, h5, wSs, wS, wE, wA, wB, wT, wO, wI, endPt, ini, vw_fz, vw_tm, vw_sl, vws, dat_d, dat_l, dat_o, pvw_fz, pvw_fzL, pvw_mls, hd_fz, hd_fzL, hd_mls, kid_fz, kid_tm, kidsOf, frz_fz, frz_tm, frz_sl, kid_sl, frzs, setAll, toD_fzL, toD_mls, toD_fz, st_fz, st_tm, st_sl, seq_dl, seq_dt, seq_l, asL_dl, asL_l, asL_dt, asT_dt, asT_dl, asT_l, isiB_some, isiV_b, isiV_i, isiV_s, isiV_l, isiV_t, isiV_d, isBB, isII, isSS, isLL, isTT, isDD, isB_fz, bop_add, bop_sub, bop_mul, bop_div, bop_mod, bop_pow, bop_shl, bop_shr, bop_and, bop_or, bop_xor, cop_eq, cop_ne, cop_eqS, cop_neS, cop_lt, cop_le, cop_gt, cop_ge, cop_is, bip_len, bip_abs, bip_intI, bip_intB, bip_tup, bip_lst, bip_repr, ixp_l, ixp_t, slp_dl, slp_l, slp_dt, atI_0, atI_1, atI_2, atI_cast, Es.len, asg_nm, asg_tp, asg_tl, asgs_nil, end0, end1, prep_nil, prep_fz, prep_tm, pickS, pickD, Hd.into, wipeL, bip_min2, bip_max2, szl_0, szl_1, szl_2, szl_3, szl_4, szl_5, szl_6, szl_7, szl_8, szl_9, szl_10, szl_11, szl_12, pvw_0, pvw_1, pvw_2, pvw_3, pvw_4, pvw_5, pvw_6, pvw_7, pvw_8, List.map_nil, List.map_cons, List.nil_append, List.cons_append, List.length_nil, List.length_cons, List.getElem?_cons_zero, List.getElem?_cons_succ, List.getElem?_nil, List.set_cons_zero, List.set_cons_succ, List.replicate, Option.some.injEq, Prod.mk.injEq, exists_eq_left', exists_eq_left, exists_and_left, and_assoc, and_true, true_and, or_true, true_or, Nat.sub_self, Nat.reduceAdd, Nat.reduceSub, Nat.zero_add, Nat.reduceLT, Nat.lt_add_one, if_true, if_false, ite_true, ite_false, Bool.not_true, Bool.not_false, Bool.false_eq_true, Bool.true_eq_false, eq_self_iff_true, forall_const, true_implies, false_implies, implies_true, reduceCtorEq, and_false, false_and, false_or, or_false, Hd.fz.injEq, PyData.int.injEq, PyData.list.injEq, PyData.tuple.injEq, PyData.bool.injEq]
  refine call_wellN fun w hw => ?_
  simp only [e0, wSs, wS, wE, wA, wB, wT, wO, wI, endPt, ini, vw_fz, vw_tm, vw_sl, vws, dat_d, dat_l, dat_o, pvw_fz, pvw_fzL, pvw_mls, hd_fz, hd_fzL, hd_mls, kid_fz, kid_tm, kidsOf, frz_fz, frz_tm, frz_sl, kid_sl, frzs, setAll, toD_fzL, toD_mls, toD_fz, st_fz, st_tm, st_sl, seq_dl, seq_dt, seq_l, asL_dl, asL_l, asL_dt, asT_dt, asT_dl, asT_l, isiB_some, isiV_b, isiV_i, isiV_s, isiV_l, isiV_t, isiV_d, isBB, isII, isSS, isLL, isTT, isDD, isB_fz, bop_add, bop_sub, bop_mul, bop_div, bop_mod, bop_pow, bop_shl, bop_shr, bop_and, bop_or, bop_xor, cop_eq, cop_ne, cop_eqS, cop_neS, cop_lt, cop_le, cop_gt, cop_ge, cop_is, bip_len, bip_abs, bip_intI, bip_intB, bip_tup, bip_lst, bip_repr, ixp_l, ixp_t, slp_dl, slp_l, slp_dt, atI_0, atI_1, atI_2, atI_cast, Es.len, asg_nm, asg_tp, asg_tl, asgs_nil, end0, end1, prep_nil, prep_fz, prep_tm, pickS, pickD, Hd.into, wipeL, bip_min2, bip_max2, szl_0, szl_1, szl_2, szl_3, szl_4, szl_5, szl_6, szl_7, szl_8, szl_9, szl_10, szl_11, szl_12, pvw_0, pvw_1, pvw_2, pvw_3, pvw_4, pvw_5, pvw_6, pvw_7, pvw_8, List.map_nil, List.map_cons, List.nil_append, List.cons_append, List.length_nil, List.length_cons, List.getElem?_cons_zero, List.getElem?_cons_succ, List.getElem?_nil, List.set_cons_zero, List.set_cons_succ, List.replicate, Option.some.injEq, Prod.mk.injEq, exists_eq_left', exists_eq_left, exists_and_left, and_assoc, and_true, true_and, or_true, true_or, Nat.sub_self, Nat.reduceAdd, Nat.reduceSub, Nat.zero_add, Nat.reduceLT, Nat.lt_add_one, if_true, if_false, ite_true, ite_false, Bool.not_true, Bool.not_false, Bool.false_eq_true, Bool.true_eq_false, eq_self_iff_true, forall_const, true_implies, false_implies, implies_true, reduceCtorEq, and_false, false_and, false_or, or_false, Hd.fz.injEq, PyData.int.injEq, PyData.list.injEq, PyData.tuple.injEq, PyData.bool.injEq]
  unfold b_law_1
  simp only [e0, wSs, wS, wE, wA, wB, wT, wO, wI, endPt, ini, vw_fz, vw_tm, vw_sl, vws, dat_d, dat_l, dat_o, pvw_fz, pvw_fzL, pvw_mls, hd_fz, hd_fzL, hd_mls, kid_fz, kid_tm, kidsOf, frz_fz, frz_tm, frz_sl, kid_sl, frzs, setAll, toD_fzL, toD_mls, toD_fz, st_fz, st_tm, st_sl, seq_dl, seq_dt, seq_l, asL_dl, asL_l, asL_dt, asT_dt, asT_dl, asT_l, isiB_some, isiV_b, isiV_i, isiV_s, isiV_l, isiV_t, isiV_d, isBB, isII, isSS, isLL, isTT, isDD, isB_fz, bop_add, bop_sub, bop_mul, bop_div, bop_mod, bop_pow, bop_shl, bop_shr, bop_and, bop_or, bop_xor, cop_eq, cop_ne, cop_eqS, cop_neS, cop_lt, cop_le, cop_gt, cop_ge, cop_is, bip_len, bip_abs, bip_intI, bip_intB, bip_tup, bip_lst, bip_repr, ixp_l, ixp_t, slp_dl, slp_l, slp_dt, atI_0, atI_1, atI_2, atI_cast, Es.len, asg_nm, asg_tp, asg_tl, asgs_nil, end0, end1, prep_nil, prep_fz, prep_tm, pickS, pickD, Hd.into, wipeL, bip_min2, bip_max2, szl_0, szl_1, szl_2, szl_3, szl_4, szl_5, szl_6, szl_7, szl_8, szl_9, szl_10, szl_11, szl_12, pvw_0, pvw_1, pvw_2, pvw_3, pvw_4, pvw_5, pvw_6, pvw_7, pvw_8, List.map_nil, List.map_cons, List.nil_append, List.cons_append, List.length_nil, List.length_cons, List.getElem?_cons_zero, List.getElem?_cons_succ, List.getElem?_nil, List.set_cons_zero, List.set_cons_succ, List.replicate, Option.some.injEq, Prod.mk.injEq, exists_eq_left', exists_eq_left, exists_and_left, and_assoc, and_true, true_and, or_true, true_or, Nat.sub_self, Nat.reduceAdd, Nat.reduceSub, Nat.zero_add, Nat.reduceLT, Nat.lt_add_one, if_true, if_false, ite_true, ite_false, Bool.not_true, Bool.not_false, Bool.false_eq_true, Bool.true_eq_false, eq_self_iff_true, forall_const, true_implies, false_implies, implies_true, reduceCtorEq, and_false, false_and, false_or, or_false, Hd.fz.injEq, PyData.int.injEq, PyData.list.injEq, PyData.tuple.injEq, PyData.bool.injEq]
  refine ⟨by decide, by decide, by decide, ?_⟩
  refine forRun_ind (fun ds L => ∃ (k : Nat) (w : PV) (a b c d e f : Option PV), k ≤ 7 ∧ Well w ∧ ds = rgD (k : Int) (7 - k) ∧ L = [some (.fz (.list (ns.map .int))), some w, a, b, c, d, e, f]) (fun d ds L N hJ hN => ?_) (fun L hJ => ?_) _ _ ⟨0, w, _, _, _, _, _, _, by omega, hw, rfl, rfl⟩
  · obtain ⟨k, w, a, b, c, d', e, f, hk, hw, e1, rfl⟩ := hJ
    have hk6 : k < 7 := by
      by_cases h : k < 7
      · exact h
      · obtain rfl : k = 7 := by omega
        cases e1
    obtain ⟨m, hm⟩ : ∃ m, 7 - k = m + 1 := ⟨6 - k, by omega⟩
    rw [hm] at e1
    cases e1
    refine ⟨_, rfl, ?_⟩
    refine s_law_2 h0 h1 h2 h3 h4 h5 hw hk6 fun w' a b c d e hw' => ?_
    exact hN _ ⟨k + 1, w', _, a, b, c, d, e, by omega, hw', by rw [show 7 - (k + 1) = m by omega]; rfl, rfl⟩
  · obtain ⟨k, w, a, b, c, d', e, f, hk, hw, e1, rfl⟩ := hJ
    obtain ⟨ns1, st1, t1, hns1, rfl⟩ := id hw
    dsimp only
    unfold b_law_12
    simp only [e0, h0, wSs, wS, wE, wA, wB, wT, wO, wI, endPt, ini, vw_fz, vw_tm, vw_sl, vws, dat_d, dat_l, dat_o, pvw_fz, pvw_fzL, pvw_mls, hd_fz, hd_fzL, hd_mls, kid_fz, kid_tm, kidsOf, frz_fz, frz_tm, frz_sl, kid_sl, frzs, setAll, toD_fzL, toD_mls, toD_fz, st_fz, st_tm, st_sl, seq_dl, seq_dt, seq_l, asL_dl, asL_l, asL_dt, asT_dt, asT_dl, asT_l, isiB_some, isiV_b, isiV_i, isiV_s, isiV_l, isiV_t, isiV_d, isBB, isII, isSS, isLL, isTT, isDD, isB_fz, bop_add, bop_sub, bop_mul, bop_div, bop_mod, bop_pow, bop_shl, bop_shr, bop_and, bop_or, bop_xor, cop_eq, cop_ne, cop_eqS, cop_neS, cop_lt, cop_le, cop_gt, cop_ge, cop_is, bip_len, bip_abs, bip_intI, bip_intB, bip_tup, bip_lst, bip_repr, ixp_l, ixp_t, slp_dl, slp_l, slp_dt, atI_0, atI_1, atI_2, atI_cast, Es.len, asg_nm, asg_tp, asg_tl, asgs_nil, end0, end1, prep_nil, prep_fz, prep_tm, pickS, pickD, Hd.into, wipeL, bip_min2, bip_max2, szl_0, szl_1, szl_2, szl_3, szl_4, szl_5, szl_6, szl_7, szl_8, szl_9, szl_10, szl_11, szl_12, pvw_0, pvw_1, pvw_2, pvw_3, pvw_4, pvw_5, pvw_6, pvw_7, pvw_8, List.map_nil, List.map_cons, List.nil_append, List.cons_append, List.length_nil, List.length_cons, List.getElem?_cons_zero, List.getElem?_cons_succ, List.getElem?_nil, List.set_cons_zero, List.set_cons_succ, List.replicate, Option.some.injEq, Prod.mk.injEq, exists_eq_left', exists_eq_left, exists_and_left, and_assoc, and_true, true_and, or_true, true_or, Nat.sub_self, Nat.reduceAdd, Nat.reduceSub, Nat.zero_add, Nat.reduceLT, Nat.lt_add_one, if_true, if_false, ite_true, ite_false, Bool.not_true, Bool.not_false, Bool.false_eq_true, Bool.true_eq_false, eq_self_iff_true, forall_const, true_implies, false_implies, implies_true, reduceCtorEq, and_false, false_and, false_or, or_false, Hd.fz.injEq, PyData.int.injEq, PyData.list.injEq, PyData.tuple.injEq, PyData.bool.injEq]
    refine call_draw hw rfl (by decide) fun w2 x hw2 x1 x2 => ?_
    obtain ⟨ns2, st2, t2, hns2, rfl⟩ := id hw2
    simp only [e0, h0, wSs, wS, wE, wA, wB, wT, wO, wI, endPt, ini, vw_fz, vw_tm, vw_sl, vws, dat_d, dat_l, dat_o, pvw_fz, pvw_fzL, pvw_mls, hd_fz, hd_fzL, hd_mls, kid_fz, kid_tm, kidsOf, frz_fz, frz_tm, frz_sl, kid_sl, frzs, setAll, toD_fzL, toD_mls, toD_fz, st_fz, st_tm, st_sl, seq_dl, seq_dt, seq_l, asL_dl, asL_l, asL_dt, asT_dt, asT_dl, asT_l, isiB_some, isiV_b, isiV_i, isiV_s, isiV_l, isiV_t, isiV_d, isBB, isII, isSS, isLL, isTT, isDD, isB_fz, bop_add, bop_sub, bop_mul, bop_div, bop_mod, bop_pow, bop_shl, bop_shr, bop_and, bop_or, bop_xor, cop_eq, cop_ne, cop_eqS, cop_neS, cop_lt, cop_le, cop_gt, cop_ge, cop_is, bip_len, bip_abs, bip_intI, bip_intB, bip_tup, bip_lst, bip_repr, ixp_l, ixp_t, slp_dl, slp_l, slp_dt, atI_0, atI_1, atI_2, atI_cast, Es.len, asg_nm, asg_tp, asg_tl, asgs_nil, end0, end1, prep_nil, prep_fz, prep_tm, pickS, pickD, Hd.into, wipeL, bip_min2, bip_max2, szl_0, szl_1, szl_2, szl_3, szl_4, szl_5, szl_6, szl_7, szl_8, szl_9, szl_10, szl_11, szl_12, pvw_0, pvw_1, pvw_2, pvw_3, pvw_4, pvw_5, pvw_6, pvw_7, pvw_8, List.map_nil, List.map_cons, List.nil_append, List.cons_append, List.length_nil, List.length_cons, List.getElem?_cons_zero, List.getElem?_cons_succ, List.getElem?_nil, List.set_cons_zero, List.set_cons_succ, List.replicate, Option.some.injEq, Prod.mk.injEq, exists_eq_left', exists_eq_left, exists_and_left, and_assoc, and_true, true_and, or_true, true_or, Nat.sub_self, Nat.reduceAdd, Nat.reduceSub, Nat.zero_add, Nat.reduceLT, Nat.lt_add_one, if_true, if_false, ite_true, ite_false, Bool.not_true, Bool.not_false, Bool.false_eq_true, Bool.true_eq_false, eq_self_iff_true, forall_const, true_implies, false_implies, implies_true, reduceCtorEq, and_false, false_and, false_or, or_false, Hd.fz.injEq, PyData.int.injEq, PyData.list.injEq, PyData.tuple.injEq, PyData.bool.injEq]
    refine ⟨fun c1 => ?_, fun c1 => ?_⟩
    · unfold b_law_13
      simp only [e0, wSs, wS, wE, wA, wB, wT, wO, wI, endPt, ini, vw_fz, vw_tm, vw_sl, vws, dat_d, dat_l, dat_o, pvw_fz, pvw_fzL, pvw_mls, hd_fz, hd_fzL, hd_mls, kid_fz, kid_tm, kidsOf, frz_fz, frz_tm, frz_sl, kid_sl, frzs, setAll, toD_fzL, toD_mls, toD_fz, st_fz, st_tm, st_sl, seq_dl, seq_dt, seq_l, asL_dl, asL_l, asL_dt, asT_dt, asT_dl, asT_l, isiB_some, isiV_b, isiV_i, isiV_s, isiV_l, isiV_t, isiV_d, isBB, isII, isSS, isLL, isTT, isDD, isB_fz, bop_add, bop_sub, bop_mul, bop_div, bop_mod, bop_pow, bop_shl, bop_shr, bop_and, bop_or, bop_xor, cop_eq, cop_ne, cop_eqS, cop_neS, cop_lt, cop_le, cop_gt, cop_ge, cop_is, bip_len, bip_abs, bip_intI, bip_intB, bip_tup, bip_lst, bip_repr, ixp_l, ixp_t, slp_dl, slp_l, slp_dt, atI_0, atI_1, atI_2, atI_cast, Es.len, asg_nm, asg_tp, asg_tl, asgs_nil, end0, end1, prep_nil, prep_fz, prep_tm, pickS, pickD, Hd.into, wipeL, bip_min2, bip_max2, szl_0, szl_1, szl_2, szl_3, szl_4, szl_5, szl_6, szl_7, szl_8, szl_9, szl_10, szl_11, szl_12, pvw_0, pvw_1, pvw_2, pvw_3, pvw_4, pvw_5, pvw_6, pvw_7, pvw_8, List.map_nil, List.map_cons, List.nil_append, List.cons_append, List.length_nil, List.length_cons, List.getElem?_cons_zero, List.getElem?_cons_succ, List.getElem?_nil, List.set_cons_zero, List.set_cons_succ, List.replicate, Option.some.injEq, Prod.mk.injEq, exists_eq_left', exists_eq_left, exists_and_left, and_assoc, and_true, true_and, or_true, true_or, Nat.sub_self, Nat.reduceAdd, Nat.reduceSub, Nat.zero_add, Nat.reduceLT, Nat.lt_add_one, if_true, if_false, ite_true, ite_false, Bool.not_true, Bool.not_false, Bool.false_eq_true, Bool.true_eq_false, eq_self_iff_true, forall_const, true_implies, false_implies, implies_true, reduceCtorEq, and_false, false_and, false_or, or_false, Hd.fz.injEq, PyData.int.injEq, PyData.list.injEq, PyData.tuple.injEq, PyData.bool.injEq]
      exact hq
    unfold b_law_14
    simp only [e0, h0, wSs, wS, wE, wA, wB, wT, wO, wI, endPt, ini, vw_fz, vw_tm, vw_sl, vws, dat_d, dat_l, dat_o, pvw_fz, pvw_fzL, pvw_mls, hd_fz, hd_fzL, hd_mls, kid_fz, kid_tm, kidsOf, frz_fz, frz_tm, frz_sl, kid_sl, frzs, setAll, toD_fzL, toD_mls, toD_fz, st_fz, st_tm, st_sl, seq_dl, seq_dt, seq_l, asL_dl, asL_l, asL_dt, asT_dt, asT_dl, asT_l, isiB_some, isiV_b, isiV_i, isiV_s, isiV_l, isiV_t, isiV_d, isBB, isII, isSS, isLL, isTT, isDD, isB_fz, bop_add, bop_sub, bop_mul, bop_div, bop_mod, bop_pow, bop_shl, bop_shr, bop_and, bop_or, bop_xor, cop_eq, cop_ne, cop_eqS, cop_neS, cop_lt, cop_le, cop_gt, cop_ge, cop_is, bip_len, bip_abs, bip_intI, bip_intB, bip_tup, bip_lst, bip_repr, ixp_l, ixp_t, slp_dl, slp_l, slp_dt, atI_0, atI_1, atI_2, atI_cast, Es.len, asg_nm, asg_tp, asg_tl, asgs_nil, end0, end1, prep_nil, prep_fz, prep_tm, pickS, pickD, Hd.into, wipeL, bip_min2, bip_max2, szl_0, szl_1, szl_2, szl_3, szl_4, szl_5, szl_6, szl_7, szl_8, szl_9, szl_10, szl_11, szl_12, pvw_0, pvw_1, pvw_2, pvw_3, pvw_4, pvw_5, pvw_6, pvw_7, pvw_8, List.map_nil, List.map_cons, List.nil_append, List.cons_append, List.length_nil, List.length_cons, List.getElem?_cons_zero, List.getElem?_cons_succ, List.getElem?_nil, List.set_cons_zero, List.set_cons_succ, List.replicate, Option.some.injEq, Prod.mk.injEq, exists_eq_left', exists_eq_left, exists_and_left, and_assoc, and_true, true_and, or_true, true_or, Nat.sub_self, Nat.reduceAdd, Nat.reduceSub, Nat.zero_add, Nat.reduceLT, Nat.lt_add_one, if_true, if_false, ite_true, ite_false, Bool.not_true, Bool.not_false, Bool.false_eq_true, Bool.true_eq_false, eq_self_iff_true, forall_const, true_implies, false_implies, implies_true, reduceCtorEq, and_false, false_and, false_or, or_false, Hd.fz.injEq, PyData.int.injEq, PyData.list.injEq, PyData.tuple.injEq, PyData.bool.injEq]
    refine call_draw hw2 rfl (by decide) fun w3 x hw3 x1 x2 => ?_
    obtain ⟨x, rfl⟩ := Int.eq_ofNat_of_zero_le x1
    obtain ⟨ns3, st3, t3, hns3, rfl⟩ := id hw3
    obtain ⟨n, hn, n1, n2⟩ : ∃ n : Nat, (2 : Int) + (x : Nat) = n ∧ 2 ≤ n ∧ n ≤ 24 := ⟨2 + x, by omega, by omega, by omega⟩
    simp only [e0, h0, hn, wSs, wS, wE, wA, wB, wT, wO, wI, endPt, ini, vw_fz, vw_tm, vw_sl, vws, dat_d, dat_l, dat_o, pvw_fz, pvw_fzL, pvw_mls, hd_fz, hd_fzL, hd_mls, kid_fz, kid_tm, kidsOf, frz_fz, frz_tm, frz_sl, kid_sl, frzs, setAll, toD_fzL, toD_mls, toD_fz, st_fz, st_tm, st_sl, seq_dl, seq_dt, seq_l, asL_dl, asL_l, asL_dt, asT_dt, asT_dl, asT_l, isiB_some, isiV_b, isiV_i, isiV_s, isiV_l, isiV_t, isiV_d, isBB, isII, isSS, isLL, isTT, isDD, isB_fz, bop_add, bop_sub, bop_mul, bop_div, bop_mod, bop_pow, bop_shl, bop_shr, bop_and, bop_or, bop_xor, cop_eq, cop_ne, cop_eqS, cop_neS, cop_lt, cop_le, cop_gt, cop_ge, cop_is, bip_len, bip_abs, bip_intI, bip_intB, bip_tup, bip_lst, bip_repr, ixp_l, ixp_t, slp_dl, slp_l, slp_dt, atI_0, atI_1, atI_2, atI_cast, Es.len, asg_nm, asg_tp, asg_tl, asgs_nil, end0, end1, prep_nil, prep_fz, prep_tm, pickS, pickD, Hd.into, wipeL, bip_min2, bip_max2, szl_0, szl_1, szl_2, szl_3, szl_4, szl_5, szl_6, szl_7, szl_8, szl_9, szl_10, szl_11, szl_12, pvw_0, pvw_1, pvw_2, pvw_3, pvw_4, pvw_5, pvw_6, pvw_7, pvw_8, List.map_nil, List.map_cons, List.nil_append, List.cons_append, List.length_nil, List.length_cons, List.getElem?_cons_zero, List.getElem?_cons_succ, List.getElem?_nil, List.set_cons_zero, List.set_cons_succ, List.replicate, Option.some.injEq, Prod.mk.injEq, exists_eq_left', exists_eq_left, exists_and_left, and_assoc, and_true, true_and, or_true, true_or, Nat.sub_self, Nat.reduceAdd, Nat.reduceSub, Nat.zero_add, Nat.reduceLT, Nat.lt_add_one, if_true, if_false, ite_true, ite_false, Bool.not_true, Bool.not_false, Bool.false_eq_true, Bool.true_eq_false, eq_self_iff_true, forall_const, true_implies, false_implies, implies_true, reduceCtorEq, and_false, false_and, false_or, or_false, Hd.fz.injEq, PyData.int.injEq, PyData.list.injEq, PyData.tuple.injEq, PyData.bool.injEq]
    unfold b_law_15
    simp only [e0, h2, wSs, wS, wE, wA, wB, wT, wO, wI, endPt, ini, vw_fz, vw_tm, vw_sl, vws, dat_d, dat_l, dat_o, pvw_fz, pvw_fzL, pvw_mls, hd_fz, hd_fzL, hd_mls, kid_fz, kid_tm, kidsOf, frz_fz, frz_tm, frz_sl, kid_sl, frzs, setAll, toD_fzL, toD_mls, toD_fz, st_fz, st_tm, st_sl, seq_dl, seq_dt, seq_l, asL_dl, asL_l, asL_dt, asT_dt, asT_dl, asT_l, isiB_some, isiV_b, isiV_i, isiV_s, isiV_l, isiV_t, isiV_d, isBB, isII, isSS, isLL, isTT, isDD, isB_fz, bop_add, bop_sub, bop_mul, bop_div, bop_mod, bop_pow, bop_shl, bop_shr, bop_and, bop_or, bop_xor, cop_eq, cop_ne, cop_eqS, cop_neS, cop_lt, cop_le, cop_gt, cop_ge, cop_is, bip_len, bip_abs, bip_intI, bip_intB, bip_tup, bip_lst, bip_repr, ixp_l, ixp_t, slp_dl, slp_l, slp_dt, atI_0, atI_1, atI_2, atI_cast, Es.len, asg_nm, asg_tp, asg_tl, asgs_nil, end0, end1, prep_nil, prep_fz, prep_tm, pickS, pickD, Hd.into, wipeL, bip_min2, bip_max2, szl_0, szl_1, szl_2, szl_3, szl_4, szl_5, szl_6, szl_7, szl_8, szl_9, szl_10, szl_11, szl_12, pvw_0, pvw_1, pvw_2, pvw_3, pvw_4, pvw_5, pvw_6, pvw_7, pvw_8, List.map_nil, List.map_cons, List.nil_append, List.cons_append, List.length_nil, List.length_cons, List.getElem?_cons_zero, List.getElem?_cons_succ, List.getElem?_nil, List.set_cons_zero, List.set_cons_succ, List.replicate, Option.some.injEq, Prod.mk.injEq, exists_eq_left', exists_eq_left, exists_and_left, and_assoc, and_true, true_and, or_true, true_or, Nat.sub_self, Nat.reduceAdd, Nat.reduceSub, Nat.zero_add, Nat.reduceLT, Nat.lt_add_one, if_true, if_false, ite_true, ite_false, Bool.not_true, Bool.not_false, Bool.false_eq_true, Bool.true_eq_false, eq_self_iff_true, forall_const, true_implies, false_implies, implies_true, reduceCtorEq, and_false, false_and, false_or, or_false, Hd.fz.injEq, PyData.int.injEq, PyData.list.injEq, PyData.tuple.injEq, PyData.bool.injEq]
    refine call_net hw3 rfl n1 n2 (by decide) (by decide) fun w4 g hw4 hg hok => ?_
    obtain ⟨ns4, st4, t4, hns4, rfl⟩ := id hw4
    simp only [e0, h2, wSs, wS, wE, wA, wB, wT, wO, wI, endPt, ini, vw_fz, vw_tm, vw_sl, vws, dat_d, dat_l, dat_o, pvw_fz, pvw_fzL, pvw_mls, hd_fz, hd_fzL, hd_mls, kid_fz, kid_tm, kidsOf, frz_fz, frz_tm, frz_sl, kid_sl, frzs, setAll, toD_fzL, toD_mls, toD_fz, st_fz, st_tm, st_sl, seq_dl, seq_dt, seq_l, asL_dl, asL_l, asL_dt, asT_dt, asT_dl, asT_l, isiB_some, isiV_b, isiV_i, isiV_s, isiV_l, isiV_t, isiV_d, isBB, isII, isSS, isLL, isTT, isDD, isB_fz, bop_add, bop_sub, bop_mul, bop_div, bop_mod, bop_pow, bop_shl, bop_shr, bop_and, bop_or, bop_xor, cop_eq, cop_ne, cop_eqS, cop_neS, cop_lt, cop_le, cop_gt, cop_ge, cop_is, bip_len, bip_abs, bip_intI, bip_intB, bip_tup, bip_lst, bip_repr, ixp_l, ixp_t, slp_dl, slp_l, slp_dt, atI_0, atI_1, atI_2, atI_cast, Es.len, asg_nm, asg_tp, asg_tl, asgs_nil, end0, end1, prep_nil, prep_fz, prep_tm, pickS, pickD, Hd.into, wipeL, bip_min2, bip_max2, szl_0, szl_1, szl_2, szl_3, szl_4, szl_5, szl_6, szl_7, szl_8, szl_9, szl_10, szl_11, szl_12, pvw_0, pvw_1, pvw_2, pvw_3, pvw_4, pvw_5, pvw_6, pvw_7, pvw_8, List.map_nil, List.map_cons, List.nil_append, List.cons_append, List.length_nil, List.length_cons, List.getElem?_cons_zero, List.getElem?_cons_succ, List.getElem?_nil, List.set_cons_zero, List.set_cons_succ, List.replicate, Option.some.injEq, Prod.mk.injEq, exists_eq_left', exists_eq_left, exists_and_left, and_assoc, and_true, true_and, or_true, true_or, Nat.sub_self, Nat.reduceAdd, Nat.reduceSub, Nat.zero_add, Nat.reduceLT, Nat.lt_add_one, if_true, if_false, ite_true, ite_false, Bool.not_true, Bool.not_false, Bool.false_eq_true, Bool.true_eq_false, eq_self_iff_true, forall_const, true_implies, false_implies, implies_true, reduceCtorEq, and_false, false_and, false_or, or_false, Hd.fz.injEq, PyData.int.injEq, PyData.list.injEq, PyData.tuple.injEq, PyData.bool.injEq]
    refine bop_catT rfl rfl (sz_le (by simp; omega)) ?_
    have hg2 : g.map Tk.prD ++ [PyData.tuple [.int 0, .int ((n : Int) - 1)]] = (g ++ [(0, n - 1)]).map Tk.prD := by
      rw [List.map_append]
      congr 1
      show _ = [PyData.tuple [.int ((0 : Nat) : Int), .int ((n - 1 : Nat) : Int)]]
      rw [show ((n - 1 : Nat) : Int) = (n : Int) - 1 by omega]
      rfl
    rw [hg2]
    have hok2 : NetOk n (g ++ [(0, n - 1)]) := hok.add (NetOk.one (by omega) (by omega))
    have hl2 : (g ++ [(0, n - 1)]).length ≤ 41 ∧ 1 ≤ (g ++ [(0, n - 1)]).length := by rw [List.length_append]; simp; omega
    generalize g ++ [(0, n - 1)] = h at hok2 hl2 ⊢
    simp only [e0, wSs, wS, wE, wA, wB, wT, wO, wI, endPt, ini, vw_fz, vw_tm, vw_sl, vws, dat_d, dat_l, dat_o, pvw_fz, pvw_fzL, pvw_mls, hd_fz, hd_fzL, hd_mls, kid_fz, kid_tm, kidsOf, frz_fz, frz_tm, frz_sl, kid_sl, frzs, setAll, toD_fzL, toD_mls, toD_fz, st_fz, st_tm, st_sl, seq_dl, seq_dt, seq_l, asL_dl, asL_l, asL_dt, asT_dt, asT_dl, asT_l, isiB_some, isiV_b, isiV_i, isiV_s, isiV_l, isiV_t, isiV_d, isBB, isII, isSS, isLL, isTT, isDD, isB_fz, bop_add, bop_sub, bop_mul, bop_div, bop_mod, bop_pow, bop_shl, bop_shr, bop_and, bop_or, bop_xor, cop_eq, cop_ne, cop_eqS, cop_neS, cop_lt, cop_le, cop_gt, cop_ge, cop_is, bip_len, bip_abs, bip_intI, bip_intB, bip_tup, bip_lst, bip_repr, ixp_l, ixp_t, slp_dl, slp_l, slp_dt, atI_0, atI_1, atI_2, atI_cast, Es.len, asg_nm, asg_tp, asg_tl, asgs_nil, end0, end1, prep_nil, prep_fz, prep_tm, pickS, pickD, Hd.into, wipeL, bip_min2, bip_max2, szl_0, szl_1, szl_2, szl_3, szl_4, szl_5, szl_6, szl_7, szl_8, szl_9, szl_10, szl_11, szl_12, pvw_0, pvw_1, pvw_2, pvw_3, pvw_4, pvw_5, pvw_6, pvw_7, pvw_8, List.map_nil, List.map_cons, List.nil_append, List.cons_append, List.length_nil, List.length_cons, List.getElem?_cons_zero, List.getElem?_cons_succ, List.getElem?_nil, List.set_cons_zero, List.set_cons_succ, List.replicate, Option.some.injEq, Prod.mk.injEq, exists_eq_left', exists_eq_left, exists_and_left, and_assoc, and_true, true_and, or_true, true_or, Nat.sub_self, Nat.reduceAdd, Nat.reduceSub, Nat.zero_add, Nat.reduceLT, Nat.lt_add_one, if_true, if_false, ite_true, ite_false, Bool.not_true, Bool.not_false, Bool.false_eq_true, Bool.true_eq_false, eq_self_iff_true, forall_const, true_implies, false_implies, implies_true, reduceCtorEq, and_false, false_and, false_or, or_false, Hd.fz.injEq, PyData.int.injEq, PyData.list.injEq, PyData.tuple.injEq, PyData.bool.injEq]
    unfold b_law_16
    simp only [e0, List.length_map, wSs, wS, wE, wA, wB, wT, wO, wI, endPt, ini, vw_fz, vw_tm, vw_sl, vws, dat_d, dat_l, dat_o, pvw_fz, pvw_fzL, pvw_mls, hd_fz, hd_fzL, hd_mls, kid_fz, kid_tm, kidsOf, frz_fz, frz_tm, frz_sl, kid_sl, frzs, setAll, toD_fzL, toD_mls, toD_fz, st_fz, st_tm, st_sl, seq_dl, seq_dt, seq_l, asL_dl, asL_l, asL_dt, asT_dt, asT_dl, asT_l, isiB_some, isiV_b, isiV_i, isiV_s, isiV_l, isiV_t, isiV_d, isBB, isII, isSS, isLL, isTT, isDD, isB_fz, bop_add, bop_sub, bop_mul, bop_div, bop_mod, bop_pow, bop_shl, bop_shr, bop_and, bop_or, bop_xor, cop_eq, cop_ne, cop_eqS, cop_neS, cop_lt, cop_le, cop_gt, cop_ge, cop_is, bip_len, bip_abs, bip_intI, bip_intB, bip_tup, bip_lst, bip_repr, ixp_l, ixp_t, slp_dl, slp_l, slp_dt, atI_0, atI_1, atI_2, atI_cast, Es.len, asg_nm, asg_tp, asg_tl, asgs_nil, end0, end1, prep_nil, prep_fz, prep_tm, pickS, pickD, Hd.into, wipeL, bip_min2, bip_max2, szl_0, szl_1, szl_2, szl_3, szl_4, szl_5, szl_6, szl_7, szl_8, szl_9, szl_10, szl_11, szl_12, pvw_0, pvw_1, pvw_2, pvw_3, pvw_4, pvw_5, pvw_6, pvw_7, pvw_8, List.map_nil, List.map_cons, List.nil_append, List.cons_append, List.length_nil, List.length_cons, List.getElem?_cons_zero, List.getElem?_cons_succ, List.getElem?_nil, List.set_cons_zero, List.set_cons_succ, List.replicate, Option.some.injEq, Prod.mk.injEq, exists_eq_left', exists_eq_left, exists_and_left, and_assoc, and_true, true_and, or_true, true_or, Nat.sub_self, Nat.reduceAdd, Nat.reduceSub, Nat.zero_add, Nat.reduceLT, Nat.lt_add_one, if_true, if_false, ite_true, ite_false, Bool.not_true, Bool.not_false, Bool.false_eq_true, Bool.true_eq_false, eq_self_iff_true, forall_const, true_implies, false_implies, implies_true, reduceCtorEq, and_false, false_and, false_or, or_false, Hd.fz.injEq, PyData.int.injEq, PyData.list.injEq, PyData.tuple.injEq, PyData.bool.injEq]
    have hdiv : 24 ≤ (1000 : Int) / (h.length : Int) ∧ (1000 : Int) / (h.length : Int) ≤ 1000 := by
      constructor
      · exact (Int.le_ediv_iff_mul_le (by omega)).mpr (by omega)
      · exact Int.ediv_le_of_le_mul (by omega) (by omega)
    refine ⟨by omega, log_small (by omega) (by omega), bop_repT rfl (by intro z; rw [List.map_eq_nil_iff] at z; rw [z] at hl2; simp at hl2) (by omega) (by omega) (by rw [List.length_map]; omega) ?_⟩
    rw [rep_net]
    have hok3 : NetOk n (List.replicate ((1000 : Int) / (h.length : Int) + 1).toNat h).flatten := fun x hx => by
      obtain ⟨l, hl, hx⟩ := List.mem_flatten.mp hx
      rw [List.eq_of_mem_replicate hl] at hx
      exact hok2 x hx
    generalize (List.replicate ((1000 : Int) / (h.length : Int) + 1).toNat h).flatten = g3 at hok3 ⊢
    simp only [e0, wSs, wS, wE, wA, wB, wT, wO, wI, endPt, ini, vw_fz, vw_tm, vw_sl, vws, dat_d, dat_l, dat_o, pvw_fz, pvw_fzL, pvw_mls, hd_fz, hd_fzL, hd_mls, kid_fz, kid_tm, kidsOf, frz_fz, frz_tm, frz_sl, kid_sl, frzs, setAll, toD_fzL, toD_mls, toD_fz, st_fz, st_tm, st_sl, seq_dl, seq_dt, seq_l, asL_dl, asL_l, asL_dt, asT_dt, asT_dl, asT_l, isiB_some, isiV_b, isiV_i, isiV_s, isiV_l, isiV_t, isiV_d, isBB, isII, isSS, isLL, isTT, isDD, isB_fz, bop_add, bop_sub, bop_mul, bop_div, bop_mod, bop_pow, bop_shl, bop_shr, bop_and, bop_or, bop_xor, cop_eq, cop_ne, cop_eqS, cop_neS, cop_lt, cop_le, cop_gt, cop_ge, cop_is, bip_len, bip_abs, bip_intI, bip_intB, bip_tup, bip_lst, bip_repr, ixp_l, ixp_t, slp_dl, slp_l, slp_dt, atI_0, atI_1, atI_2, atI_cast, Es.len, asg_nm, asg_tp, asg_tl, asgs_nil, end0, end1, prep_nil, prep_fz, prep_tm, pickS, pickD, Hd.into, wipeL, bip_min2, bip_max2, szl_0, szl_1, szl_2, szl_3, szl_4, szl_5, szl_6, szl_7, szl_8, szl_9, szl_10, szl_11, szl_12, pvw_0, pvw_1, pvw_2, pvw_3, pvw_4, pvw_5, pvw_6, pvw_7, pvw_8, List.map_nil, List.map_cons, List.nil_append, List.cons_append, List.length_nil, List.length_cons, List.getElem?_cons_zero, List.getElem?_cons_succ, List.getElem?_nil, List.set_cons_zero, List.set_cons_succ, List.replicate, Option.some.injEq, Prod.mk.injEq, exists_eq_left', exists_eq_left, exists_and_left, and_assoc, and_true, true_and, or_true, true_or, Nat.sub_self, Nat.reduceAdd, Nat.reduceSub, Nat.zero_add, Nat.reduceLT, Nat.lt_add_one, if_true, if_false, ite_true, ite_false, Bool.not_true, Bool.not_false, Bool.false_eq_true, Bool.true_eq_false, eq_self_iff_true, forall_const, true_implies, false_implies, implies_true, reduceCtorEq, and_false, false_and, false_or, or_false, Hd.fz.injEq, PyData.int.injEq, PyData.list.injEq, PyData.tuple.injEq, PyData.bool.injEq]
    unfold b_law_17
    simp only [e0, h1, h3, wSs, wS, wE, wA, wB, wT, wO, wI, endPt, ini, vw_fz, vw_tm, vw_sl, vws, dat_d, dat_l, dat_o, pvw_fz, pvw_fzL, pvw_mls, hd_fz, hd_fzL, hd_mls, kid_fz, kid_tm, kidsOf, frz_fz, frz_tm, frz_sl, kid_sl, frzs, setAll, toD_fzL, toD_mls, toD_fz, st_fz, st_tm, st_sl, seq_dl, seq_dt, seq_l, asL_dl, asL_l, asL_dt, asT_dt, asT_dl, asT_l, isiB_some, isiV_b, isiV_i, isiV_s, isiV_l, isiV_t, isiV_d, isBB, isII, isSS, isLL, isTT, isDD, isB_fz, bop_add, bop_sub, bop_mul, bop_div, bop_mod, bop_pow, bop_shl, bop_shr, bop_and, bop_or, bop_xor, cop_eq, cop_ne, cop_eqS, cop_neS, cop_lt, cop_le, cop_gt, cop_ge, cop_is, bip_len, bip_abs, bip_intI, bip_intB, bip_tup, bip_lst, bip_repr, ixp_l, ixp_t, slp_dl, slp_l, slp_dt, atI_0, atI_1, atI_2, atI_cast, Es.len, asg_nm, asg_tp, asg_tl, asgs_nil, end0, end1, prep_nil, prep_fz, prep_tm, pickS, pickD, Hd.into, wipeL, bip_min2, bip_max2, szl_0, szl_1, szl_2, szl_3, szl_4, szl_5, szl_6, szl_7, szl_8, szl_9, szl_10, szl_11, szl_12, pvw_0, pvw_1, pvw_2, pvw_3, pvw_4, pvw_5, pvw_6, pvw_7, pvw_8, List.map_nil, List.map_cons, List.nil_append, List.cons_append, List.length_nil, List.length_cons, List.getElem?_cons_zero, List.getElem?_cons_succ, List.getElem?_nil, List.set_cons_zero, List.set_cons_succ, List.replicate, Option.some.injEq, Prod.mk.injEq, exists_eq_left', exists_eq_left, exists_and_left, and_assoc, and_true, true_and, or_true, true_or, Nat.sub_self, Nat.reduceAdd, Nat.reduceSub, Nat.zero_add, Nat.reduceLT, Nat.lt_add_one, if_true, if_false, ite_true, ite_false, Bool.not_true, Bool.not_false, Bool.false_eq_true, Bool.true_eq_false, eq_self_iff_true, forall_const, true_implies, false_implies, implies_true, reduceCtorEq, and_false, false_and, false_or, or_false, Hd.fz.injEq, PyData.int.injEq, PyData.list.injEq, PyData.tuple.injEq, PyData.bool.injEq]
    rw [show (1000 : Int) = ((1000 : Nat) : Int) from rfl, cut_to, ← List.map_take]
    refine call_row hw4 rfl (by omega) n2 fun w5 r hw5 hr hrow => ?_
    simp only [e0, h1, h3, wSs, wS, wE, wA, wB, wT, wO, wI, endPt, ini, vw_fz, vw_tm, vw_sl, vws, dat_d, dat_l, dat_o, pvw_fz, pvw_fzL, pvw_mls, hd_fz, hd_fzL, hd_mls, kid_fz, kid_tm, kidsOf, frz_fz, frz_tm, frz_sl, kid_sl, frzs, setAll, toD_fzL, toD_mls, toD_fz, st_fz, st_tm, st_sl, seq_dl, seq_dt, seq_l, asL_dl, asL_l, asL_dt, asT_dt, asT_dl, asT_l, isiB_some, isiV_b, isiV_i, isiV_s, isiV_l, isiV_t, isiV_d, isBB, isII, isSS, isLL, isTT, isDD, isB_fz, bop_add, bop_sub, bop_mul, bop_div, bop_mod, bop_pow, bop_shl, bop_shr, bop_and, bop_or, bop_xor, cop_eq, cop_ne, cop_eqS, cop_neS, cop_lt, cop_le, cop_gt, cop_ge, cop_is, bip_len, bip_abs, bip_intI, bip_intB, bip_tup, bip_lst, bip_repr, ixp_l, ixp_t, slp_dl, slp_l, slp_dt, atI_0, atI_1, atI_2, atI_cast, Es.len, asg_nm, asg_tp, asg_tl, asgs_nil, end0, end1, prep_nil, prep_fz, prep_tm, pickS, pickD, Hd.into, wipeL, bip_min2, bip_max2, szl_0, szl_1, szl_2, szl_3, szl_4, szl_5, szl_6, szl_7, szl_8, szl_9, szl_10, szl_11, szl_12, pvw_0, pvw_1, pvw_2, pvw_3, pvw_4, pvw_5, pvw_6, pvw_7, pvw_8, List.map_nil, List.map_cons, List.nil_append, List.cons_append, List.length_nil, List.length_cons, List.getElem?_cons_zero, List.getElem?_cons_succ, List.getElem?_nil, List.set_cons_zero, List.set_cons_succ, List.replicate, Option.some.injEq, Prod.mk.injEq, exists_eq_left', exists_eq_left, exists_and_left, and_assoc, and_true, true_and, or_true, true_or, Nat.sub_self, Nat.reduceAdd, Nat.reduceSub, Nat.zero_add, Nat.reduceLT, Nat.lt_add_one, if_true, if_false, ite_true, ite_false, Bool.not_true, Bool.not_false, Bool.false_eq_true, Bool.true_eq_false, eq_self_iff_true, forall_const, true_implies, false_implies, implies_true, reduceCtorEq, and_false, false_and, false_or, or_false, Hd.fz.injEq, PyData.int.injEq, PyData.list.injEq, PyData.tuple.injEq, PyData.bool.injEq]
    refine call_right (by rw [hr]; exact hok3.sub fun x hx => List.mem_of_mem_take hx) (by rw [List.length_take]; omega) (by omega) hrow ?_
    simp only [e0, wSs, wS, wE, wA, wB, wT, wO, wI, endPt, ini, vw_fz, vw_tm, vw_sl, vws, dat_d, dat_l, dat_o, pvw_fz, pvw_fzL, pvw_mls, hd_fz, hd_fzL, hd_mls, kid_fz, kid_tm, kidsOf, frz_fz, frz_tm, frz_sl, kid_sl, frzs, setAll, toD_fzL, toD_mls, toD_fz, st_fz, st_tm, st_sl, seq_dl, seq_dt, seq_l, asL_dl, asL_l, asL_dt, asT_dt, asT_dl, asT_l, isiB_some, isiV_b, isiV_i, isiV_s, isiV_l, isiV_t, isiV_d, isBB, isII, isSS, isLL, isTT, isDD, isB_fz, bop_add, bop_sub, bop_mul, bop_div, bop_mod, bop_pow, bop_shl, bop_shr, bop_and, bop_or, bop_xor, cop_eq, cop_ne, cop_eqS, cop_neS, cop_lt, cop_le, cop_gt, cop_ge, cop_is, bip_len, bip_abs, bip_intI, bip_intB, bip_tup, bip_lst, bip_repr, ixp_l, ixp_t, slp_dl, slp_l, slp_dt, atI_0, atI_1, atI_2, atI_cast, Es.len, asg_nm, asg_tp, asg_tl, asgs_nil, end0, end1, prep_nil, prep_fz, prep_tm, pickS, pickD, Hd.into, wipeL, bip_min2, bip_max2, szl_0, szl_1, szl_2, szl_3, szl_4, szl_5, szl_6, szl_7, szl_8, szl_9, szl_10, szl_11, szl_12, pvw_0, pvw_1, pvw_2, pvw_3, pvw_4, pvw_5, pvw_6, pvw_7, pvw_8, List.map_nil, List.map_cons, List.nil_append, List.cons_append, List.length_nil, List.length_cons, List.getElem?_cons_zero, List.getElem?_cons_succ, List.getElem?_nil, List.set_cons_zero, List.set_cons_succ, List.replicate, Option.some.injEq, Prod.mk.injEq, exists_eq_left', exists_eq_left, exists_and_left, and_assoc, and_true, true_and, or_true, true_or, Nat.sub_self, Nat.reduceAdd, Nat.reduceSub, Nat.zero_add, Nat.reduceLT, Nat.lt_add_one, if_true, if_false, ite_true, ite_false, Bool.not_true, Bool.not_false, Bool.false_eq_true, Bool.true_eq_false, eq_self_iff_true, forall_const, true_implies, false_implies, implies_true, reduceCtorEq, and_false, false_and, false_or, or_false, Hd.fz.injEq, PyData.int.injEq, PyData.list.injEq, PyData.tuple.injEq, PyData.bool.injEq]
    exact hq
end
end K07

set_option Elab.async false
set_option linter.all false
set_option maxRecDepth 100000
set_option maxHeartbeats 0
namespace K07
open PySem PySem.Spec PyProof.Rows L2 Tk
/-! ### the defs as they stand (printed by gen.py) -/
def topS (i : Nat) : Stmt := PySem.Challenge.pw_tieskept_k07_whole_rows_that_go_through.main.body.getD i (.Pass ⟨0, 0, 0, 0⟩)
def gBlt : List Str := ["len", "abs", "int", "repr", "tuple", "list", "sorted", "min", "max", "sum", "all", "any", "str", "isinstance", "bool", "dict", "range", "enumerate", "zip", "set"]
def gGcs : List (Str × Int) := []
abbrev d_gone_through : Stmt := topS 1
def n_gone_through : List Str := ["network", "row", "keys", "places", "spots", "spot", "i", "j"]
def p_gone_through : List Str := ["network", "row"]
def f_gone_through : List (Str × List (Nat × List Str × List Nat)) := []
theorem s_gone_through : FnScope n_gone_through p_gone_through (defScope d_gone_through) := ⟨rfl, rfl, rfl, by decide +kernel, rfl, by decide +kernel, by decide +kernel⟩
theorem c_gone_through : cSs ⟨n_gone_through, defScope d_gone_through, none, gBlt, gGcs, f_gone_through⟩ 0 b_gone_through (defBody d_gone_through) = true := by decide +kernel
abbrev D_gone_through : He.DefD := ⟨("gone_through", none), "gone_through", "gone_through", defArgs d_gone_through, defBody d_gone_through, defScope d_gone_through, [], []⟩
abbrev d_out : Stmt := topS 2
def n_out : List Str := ["network", "row"]
def p_out : List Str := ["network", "row"]
def f_out : List (Str × List (Nat × List Str × List Nat)) := [("gone_through", [(2, [], [0, 1])])]
theorem s_out : FnScope n_out p_out (defScope d_out) := ⟨rfl, rfl, rfl, by decide +kernel, rfl, by decide +kernel, by decide +kernel⟩
theorem c_out : cSs ⟨n_out, defScope d_out, none, gBlt, gGcs, f_out⟩ 0 b_out (defBody d_out) = true := by decide +kernel
abbrev D_out : He.DefD := ⟨("out", none), "out", "out", defArgs d_out, defBody d_out, defScope d_out, [], []⟩
abbrev d_came : Stmt := topS 3
def n_came : List Str := ["network", "row"]
def p_came : List Str := ["network", "row"]
def f_came : List (Str × List (Nat × List Str × List Nat)) := [("gone_through", [(2, [], [0, 1])])]
theorem s_came : FnScope n_came p_came (defScope d_came) := ⟨rfl, rfl, rfl, by decide +kernel, rfl, by decide +kernel, by decide +kernel⟩
theorem c_came : cSs ⟨n_came, defScope d_came, none, gBlt, gGcs, f_came⟩ 0 b_came (defBody d_came) = true := by decide +kernel
abbrev D_came : He.DefD := ⟨("came", none), "came", "came", defArgs d_came, defBody d_came, defScope d_came, [], []⟩
abbrev d_exchanged : Stmt := topS 4
def n_exchanged : List Str := ["network", "row"]
def p_exchanged : List Str := ["network", "row"]
def f_exchanged : List (Str × List (Nat × List Str × List Nat)) := [("gone_through", [(2, [], [0, 1])])]
theorem s_exchanged : FnScope n_exchanged p_exchanged (defScope d_exchanged) := ⟨rfl, rfl, rfl, by decide +kernel, rfl, by decide +kernel, by decide +kernel⟩
theorem c_exchanged : cSs ⟨n_exchanged, defScope d_exchanged, none, gBlt, gGcs, f_exchanged⟩ 0 b_exchanged (defBody d_exchanged) = true := by decide +kernel
abbrev D_exchanged : He.DefD := ⟨("exchanged", none), "exchanged", "exchanged", defArgs d_exchanged, defBody d_exchanged, defScope d_exchanged, [], []⟩
abbrev d_l_well : Stmt := topS 6
def n_l_well : List Str := ["script", "cell", "cells", "stirred"]
def p_l_well : List Str := ["script"]
def f_l_well : List (Str × List (Nat × List Str × List Nat)) := []
theorem s_l_well : FnScope n_l_well p_l_well (defScope d_l_well) := ⟨rfl, rfl, rfl, by decide +kernel, rfl, by decide +kernel, by decide +kernel⟩
theorem c_l_well : cSs ⟨n_l_well, defScope d_l_well, none, gBlt, gGcs, f_l_well⟩ 0 b_l_well (defBody d_l_well) = true := by decide +kernel
abbrev D_l_well : He.DefD := ⟨("_law_well", none), "_law_well", "_law_well", defArgs d_l_well, defBody d_l_well, defScope d_l_well, [], []⟩
abbrev d_l_draw : Stmt := topS 7
def n_l_draw : List Str := ["well", "many", "mixed", "cell"]
def p_l_draw : List Str := ["well", "many"]
def f_l_draw : List (Str × List (Nat × List Str × List Nat)) := []
theorem s_l_draw : FnScope n_l_draw p_l_draw (defScope d_l_draw) := ⟨rfl, rfl, rfl, by decide +kernel, rfl, by decide +kernel, by decide +kernel⟩
theorem c_l_draw : cSs ⟨n_l_draw, defScope d_l_draw, none, gBlt, gGcs, f_l_draw⟩ 1 b_l_draw (defBody d_l_draw) = true := by decide +kernel
abbrev D_l_draw : He.DefD := ⟨("_law_draw", none), "_law_draw", "_law_draw", defArgs d_l_draw, defBody d_l_draw, defScope d_l_draw, [], []⟩
abbrev d_l_pick : Stmt := topS 8
def n_l_pick : List Str := ["well", "items"]
def p_l_pick : List Str := ["well", "items"]
def f_l_pick : List (Str × List (Nat × List Str × List Nat)) := [("_law_draw", [(2, [], [0, 1])])]
theorem s_l_pick : FnScope n_l_pick p_l_pick (defScope d_l_pick) := ⟨rfl, rfl, rfl, by decide +kernel, rfl, by decide +kernel, by decide +kernel⟩
theorem c_l_pick : cSs ⟨n_l_pick, defScope d_l_pick, none, gBlt, gGcs, f_l_pick⟩ 1 b_l_pick (defBody d_l_pick) = true := by decide +kernel
abbrev D_l_pick : He.DefD := ⟨("_law_pick", none), "_law_pick", "_law_pick", defArgs d_l_pick, defBody d_l_pick, defScope d_l_pick, [], []⟩
abbrev d_l_mixed : Stmt := topS 9
def n_l_mixed : List Str := ["well", "items", "rest", "found"]
def p_l_mixed : List Str := ["well", "items"]
def f_l_mixed : List (Str × List (Nat × List Str × List Nat)) := [("_law_draw", [(2, [], [0, 1])])]
theorem s_l_mixed : FnScope n_l_mixed p_l_mixed (defScope d_l_mixed) := ⟨rfl, rfl, rfl, by decide +kernel, rfl, by decide +kernel, by decide +kernel⟩
theorem c_l_mixed : cSs ⟨n_l_mixed, defScope d_l_mixed, none, gBlt, gGcs, f_l_mixed⟩ 1 b_l_mixed (defBody d_l_mixed) = true := by decide +kernel
abbrev D_l_mixed : He.DefD := ⟨("_law_mixed", none), "_law_mixed", "_law_mixed", defArgs d_l_mixed, defBody d_l_mixed, defScope d_l_mixed, [], []⟩
abbrev d_l_row : Stmt := topS 10
def n_l_row : List Str := ["well", "n", "way", "found", "p"]
def p_l_row : List Str := ["well", "n"]
def f_l_row : List (Str × List (Nat × List Str × List Nat)) := [("_law_draw", [(2, [], [0, 1])]), ("_law_mixed", [(2, [], [0, 1])]), ("_law_pick", [(2, [], [0, 1])])]
theorem s_l_row : FnScope n_l_row p_l_row (defScope d_l_row) := ⟨rfl, rfl, rfl, by decide +kernel, rfl, by decide +kernel, by decide +kernel⟩
theorem c_l_row : cSs ⟨n_l_row, defScope d_l_row, none, gBlt, gGcs, f_l_row⟩ 1 b_l_row (defBody d_l_row) = true := by decide +kernel
abbrev D_l_row : He.DefD := ⟨("_law_row", none), "_law_row", "_law_row", defArgs d_l_row, defBody d_l_row, defScope d_l_row, [], []⟩
abbrev d_l_net : Stmt := topS 11
def n_l_net : List Str := ["well", "n", "most", "count", "way", "found", "i", "p"]
def p_l_net : List Str := ["well", "n", "most"]
def f_l_net : List (Str × List (Nat × List Str × List Nat)) := [("_law_draw", [(2, [], [0, 1])])]
theorem s_l_net : FnScope n_l_net p_l_net (defScope d_l_net) := ⟨rfl, rfl, rfl, by decide +kernel, rfl, by decide +kernel, by decide +kernel⟩
theorem c_l_net : cSs ⟨n_l_net, defScope d_l_net, none, gBlt, gGcs, f_l_net⟩ 1 b_l_net (defBody d_l_net) = true := by decide +kernel
abbrev D_l_net : He.DefD := ⟨("_law_net", none), "_law_net", "_law_net", defArgs d_l_net, defBody d_l_net, defScope d_l_net, [], []⟩
abbrev d_l_run : Stmt := topS 12
def n_l_run : List Str := ["network", "row", "lines", "spots", "spot", "i", "j", "place", "key"]
def p_l_run : List Str := ["network", "row"]
def f_l_run : List (Str × List (Nat × List Str × List Nat)) := []
theorem s_l_run : FnScope n_l_run p_l_run (defScope d_l_run) := ⟨rfl, rfl, rfl, by decide +kernel, rfl, by decide +kernel, by decide +kernel⟩
theorem c_l_run : cSs ⟨n_l_run, defScope d_l_run, none, gBlt, gGcs, f_l_run⟩ 0 b_l_run (defBody d_l_run) = true := by decide +kernel
abbrev D_l_run : He.DefD := ⟨("_law_run", none), "_law_run", "_law_run", defArgs d_l_run, defBody d_l_run, defScope d_l_run, [], []⟩
abbrev d_l_seen : Stmt := topS 13
def n_l_seen : List Str := ["network", "row", "is_named"]
def p_l_seen : List Str := ["network", "row", "is_named"]
def f_l_seen : List (Str × List (Nat × List Str × List Nat)) := [("came", [(0, ["row", "network"], [1, 0]), (2, [], [0, 1])]), ("exchanged", [(0, ["row", "network"], [1, 0]), (2, [], [0, 1])]), ("out", [(0, ["row", "network"], [1, 0]), (2, [], [0, 1])])]
theorem s_l_seen : FnScope n_l_seen p_l_seen (defScope d_l_seen) := ⟨rfl, rfl, rfl, by decide +kernel, rfl, by decide +kernel, by decide +kernel⟩
theorem c_l_seen : cSs ⟨n_l_seen, defScope d_l_seen, none, gBlt, gGcs, f_l_seen⟩ 0 b_l_seen (defBody d_l_seen) = true := by decide +kernel
abbrev D_l_seen : He.DefD := ⟨("_law_seen", none), "_law_seen", "_law_seen", defArgs d_l_seen, defBody d_l_seen, defScope d_l_seen, [], []⟩
abbrev d_l_are_kept : Stmt := topS 14
def n_l_are_kept : List Str := ["keys", "places", "last", "key", "place"]
def p_l_are_kept : List Str := ["keys", "places"]
def f_l_are_kept : List (Str × List (Nat × List Str × List Nat)) := []
theorem s_l_are_kept : FnScope n_l_are_kept p_l_are_kept (defScope d_l_are_kept) := ⟨rfl, rfl, rfl, by decide +kernel, rfl, by decide +kernel, by decide +kernel⟩
theorem c_l_are_kept : cSs ⟨n_l_are_kept, defScope d_l_are_kept, none, gBlt, gGcs, f_l_are_kept⟩ 0 b_l_are_kept (defBody d_l_are_kept) = true := by decide +kernel
abbrev D_l_are_kept : He.DefD := ⟨("_law_are_kept", none), "_law_are_kept", "_law_are_kept", defArgs d_l_are_kept, defBody d_l_are_kept, defScope d_l_are_kept, [], []⟩
abbrev d_l_is_right : Stmt := topS 15
def n_l_is_right : List Str := ["network", "row", "is_named", "known", "due", "keys", "places", "spots", "place", "i", "j"]
def p_l_is_right : List Str := ["network", "row", "is_named"]
def f_l_is_right : List (Str × List (Nat × List Str × List Nat)) := [("_law_are_kept", [(2, [], [0, 1])]), ("_law_run", [(2, [], [0, 1])]), ("_law_seen", [(3, [], [0, 1, 2])])]
theorem s_l_is_right : FnScope n_l_is_right p_l_is_right (defScope d_l_is_right) := ⟨rfl, rfl, rfl, by decide +kernel, rfl, by decide +kernel, by decide +kernel⟩
theorem c_l_is_right : cSs ⟨n_l_is_right, defScope d_l_is_right, none, gBlt, gGcs, f_l_is_right⟩ 0 b_l_is_right (defBody d_l_is_right) = true := by decide +kernel
abbrev D_l_is_right : He.DefD := ⟨("_law_is_right", none), "_law_is_right", "_law_is_right", defArgs d_l_is_right, defBody d_l_is_right, defScope d_l_is_right, [], []⟩
abbrev d_law : Stmt := topS 16
def n_law : List Str := ["script", "well", "turn", "n", "network", "row", "again", "calm"]
def p_law : List Str := ["script"]
def f_law : List (Str × List (Nat × List Str × List Nat)) := [("_law_draw", [(2, [], [0, 1])]), ("_law_is_right", [(3, [], [0, 1, 2])]), ("_law_net", [(3, [], [0, 1, 2])]), ("_law_row", [(2, [], [0, 1])]), ("_law_seen", [(3, [], [0, 1, 2])]), ("_law_well", [(1, [], [0])])]
theorem s_law : FnScope n_law p_law (defScope d_law) := ⟨rfl, rfl, rfl, by decide +kernel, rfl, by decide +kernel, by decide +kernel⟩
theorem c_law : cSs ⟨n_law, defScope d_law, none, gBlt, gGcs, f_law⟩ 0 b_law (defBody d_law) = true := by decide +kernel
abbrev D_law : He.DefD := ⟨("law", none), "law", "law", defArgs d_law, defBody d_law, defScope d_law, [], []⟩
end K07

set_option Elab.async false
set_option linter.all false
set_option maxRecDepth 100000
set_option maxHeartbeats 0
namespace K07
open PySem PySem.Spec PyProof.Rows L2 Tk
def fnL : List He.DefD := [D_gone_through, D_out, D_came, D_exchanged, D_l_well, D_l_draw, D_l_pick, D_l_mixed, D_l_row, D_l_net, D_l_run, D_l_seen, D_l_are_kept, D_l_is_right, D_law]
def Phi : Fns := fun x => if x = "gone_through" then F_gone else if x = "out" then F_out else if x = "came" then F_came else if x = "exchanged" then F_exch else if x = "_law_well" then F_well else if x = "_law_draw" then F_draw else if x = "_law_pick" then F_pick else if x = "_law_mixed" then F_mixed else if x = "_law_row" then F_row else if x = "_law_net" then F_net else if x = "_law_run" then F_run else if x = "_law_seen" then F_seen else if x = "_law_are_kept" then F_kept else if x = "_law_is_right" then F_right else if x = "law" then F_law else F_law
section
variable {P : Program} {w : World} {K : PySem.W.Frag} {mg : Str → Option Value} {base h : Heap} (KX : K.In h) (G : h.Ns mainGlobals mg) (c : He.SaysD (faOf fnL gBlt gGcs) fnL K) (aw : AwB base)
include KX G c aw
theorem o_gone_through : DefOk P w K mg base noX 1 D_gone_through p_gone_through F_gone :=
  defOk (Φ := Phi) KX G c aw noX_ok 0 rfl rfl rfl rfl calls_nil s_gone_through (by decide) c_gone_through (by apply k_gone <;> rfl)
theorem o_out : DefOk P w K mg base noX 2 D_out p_out F_out :=
  defOk (Φ := Phi) KX G c aw noX_ok 1 rfl rfl rfl rfl (calls_cons (x := "gone_through") (sh := [(2, [], [0, 1])]) (o_gone_through KX G c aw) (by decide) rfl rfl ⟨⟨rfl, fun _ _ _ _ _ _ us ws h1 h2 => match us, ws, h1, h2 with | [_, _], [], _, _ => rfl⟩, trivial⟩ calls_nil) s_out (by decide) c_out (by apply k_out <;> rfl)
theorem o_came : DefOk P w K mg base noX 2 D_came p_came F_came :=
  defOk (Φ := Phi) KX G c aw noX_ok 2 rfl rfl rfl rfl (calls_cons (x := "gone_through") (sh := [(2, [], [0, 1])]) (o_gone_through KX G c aw) (by decide) rfl rfl ⟨⟨rfl, fun _ _ _ _ _ _ us ws h1 h2 => match us, ws, h1, h2 with | [_, _], [], _, _ => rfl⟩, trivial⟩ calls_nil) s_came (by decide) c_came (by apply k_came <;> rfl)
theorem o_exchanged : DefOk P w K mg base noX 2 D_exchanged p_exchanged F_exch :=
  defOk (Φ := Phi) KX G c aw noX_ok 3 rfl rfl rfl rfl (calls_cons (x := "gone_through") (sh := [(2, [], [0, 1])]) (o_gone_through KX G c aw) (by decide) rfl rfl ⟨⟨rfl, fun _ _ _ _ _ _ us ws h1 h2 => match us, ws, h1, h2 with | [_, _], [], _, _ => rfl⟩, trivial⟩ calls_nil) s_exchanged (by decide) c_exchanged (by apply k_exch <;> rfl)
theorem o_l_well : DefOk P w K mg base noX 1 D_l_well p_l_well F_well :=
  defOk (Φ := Phi) KX G c aw noX_ok 4 rfl rfl rfl rfl calls_nil s_l_well (by decide) c_l_well (by apply k_well <;> rfl)
theorem o_l_draw : DefOk P w K mg base noX 1 D_l_draw p_l_draw F_draw :=
  defOk (Φ := Phi) KX G c aw noX_ok 5 rfl rfl rfl rfl calls_nil s_l_draw (by decide) c_l_draw (by apply k_draw <;> rfl)
theorem o_l_pick : DefOk P w K mg base noX 2 D_l_pick p_l_pick F_pick :=
  defOk (Φ := Phi) KX G c aw noX_ok 6 rfl rfl rfl rfl (calls_cons (x := "_law_draw") (sh := [(2, [], [0, 1])]) (o_l_draw KX G c aw) (by decide) rfl rfl ⟨⟨rfl, fun _ _ _ _ _ _ us ws h1 h2 => match us, ws, h1, h2 with | [_, _], [], _, _ => rfl⟩, trivial⟩ calls_nil) s_l_pick (by decide) c_l_pick (by apply k_pick <;> rfl)
theorem o_l_mixed : DefOk P w K mg base noX 2 D_l_mixed p_l_mixed F_mixed :=
  defOk (Φ := Phi) KX G c aw noX_ok 7 rfl rfl rfl rfl (calls_cons (x := "_law_draw") (sh := [(2, [], [0, 1])]) (o_l_draw KX G c aw) (by decide) rfl rfl ⟨⟨rfl, fun _ _ _ _ _ _ us ws h1 h2 => match us, ws, h1, h2 with | [_, _], [], _, _ => rfl⟩, trivial⟩ calls_nil) s_l_mixed (by decide) c_l_mixed (by apply k_mixed <;> rfl)
theorem o_l_row : DefOk P w K mg base noX 3 D_l_row p_l_row F_row :=
  defOk (Φ := Phi) KX G c aw noX_ok 8 rfl rfl rfl rfl (calls_cons (x := "_law_draw") (sh := [(2, [], [0, 1])]) (o_l_draw KX G c aw) (by decide) rfl rfl ⟨⟨rfl, fun _ _ _ _ _ _ us ws h1 h2 => match us, ws, h1, h2 with | [_, _], [], _, _ => rfl⟩, trivial⟩ (calls_cons (x := "_law_mixed") (sh := [(2, [], [0, 1])]) (o_l_mixed KX G c aw) (by decide) rfl rfl ⟨⟨rfl, fun _ _ _ _ _ _ us ws h1 h2 => match us, ws, h1, h2 with | [_, _], [], _, _ => rfl⟩, trivial⟩ (calls_cons (x := "_law_pick") (sh := [(2, [], [0, 1])]) (o_l_pick KX G c aw) (by decide) rfl rfl ⟨⟨rfl, fun _ _ _ _ _ _ us ws h1 h2 => match us, ws, h1, h2 with | [_, _], [], _, _ => rfl⟩, trivial⟩ calls_nil))) s_l_row (by decide) c_l_row (by apply k_row <;> rfl)
theorem o_l_net : DefOk P w K mg base noX 2 D_l_net p_l_net F_net :=
  defOk (Φ := Phi) KX G c aw noX_ok 9 rfl rfl rfl rfl (calls_cons (x := "_law_draw") (sh := [(2, [], [0, 1])]) (o_l_draw KX G c aw) (by decide) rfl rfl ⟨⟨rfl, fun _ _ _ _ _ _ us ws h1 h2 => match us, ws, h1, h2 with | [_, _], [], _, _ => rfl⟩, trivial⟩ calls_nil) s_l_net (by decide) c_l_net (by apply k_net <;> rfl)
theorem o_l_run : DefOk P w K mg base noX 1 D_l_run p_l_run F_run :=
  defOk (Φ := Phi) KX G c aw noX_ok 10 rfl rfl rfl rfl calls_nil s_l_run (by decide) c_l_run (by apply k_run <;> rfl)
theorem o_l_seen : DefOk P w K mg base noX 3 D_l_seen p_l_seen F_seen :=
  defOk (Φ := Phi) KX G c aw noX_ok 11 rfl rfl rfl rfl (calls_cons (x := "came") (sh := [(0, ["row", "network"], [1, 0]), (2, [], [0, 1])]) (o_came KX G c aw) (by decide) rfl rfl ⟨⟨rfl, fun _ _ _ _ _ _ us ws h1 h2 => match us, ws, h1, h2 with | [], [_, _], _, _ => rfl⟩, ⟨⟨rfl, fun _ _ _ _ _ _ us ws h1 h2 => match us, ws, h1, h2 with | [_, _], [], _, _ => rfl⟩, trivial⟩⟩ (calls_cons (x := "exchanged") (sh := [(0, ["row", "network"], [1, 0]), (2, [], [0, 1])]) (o_exchanged KX G c aw) (by decide) rfl rfl ⟨⟨rfl, fun _ _ _ _ _ _ us ws h1 h2 => match us, ws, h1, h2 with | [], [_, _], _, _ => rfl⟩, ⟨⟨rfl, fun _ _ _ _ _ _ us ws h1 h2 => match us, ws, h1, h2 with | [_, _], [], _, _ => rfl⟩, trivial⟩⟩ (calls_cons (x := "out") (sh := [(0, ["row", "network"], [1, 0]), (2, [], [0, 1])]) (o_out KX G c aw) (by decide) rfl rfl ⟨⟨rfl, fun _ _ _ _ _ _ us ws h1 h2 => match us, ws, h1, h2 with | [], [_, _], _, _ => rfl⟩, ⟨⟨rfl, fun _ _ _ _ _ _ us ws h1 h2 => match us, ws, h1, h2 with | [_, _], [], _, _ => rfl⟩, trivial⟩⟩ calls_nil))) s_l_seen (by decide) c_l_seen (by apply k_seen <;> rfl)
theorem o_l_are_kept : DefOk P w K mg base noX 1 D_l_are_kept p_l_are_kept F_kept :=
  defOk (Φ := Phi) KX G c aw noX_ok 12 rfl rfl rfl rfl calls_nil s_l_are_kept (by decide) c_l_are_kept (by apply k_kept <;> rfl)
theorem o_l_is_right : DefOk P w K mg base noX 4 D_l_is_right p_l_is_right F_right :=
  defOk (Φ := Phi) KX G c aw noX_ok 13 rfl rfl rfl rfl (calls_cons (x := "_law_are_kept") (sh := [(2, [], [0, 1])]) (o_l_are_kept KX G c aw) (by decide) rfl rfl ⟨⟨rfl, fun _ _ _ _ _ _ us ws h1 h2 => match us, ws, h1, h2 with | [_, _], [], _, _ => rfl⟩, trivial⟩ (calls_cons (x := "_law_run") (sh := [(2, [], [0, 1])]) (o_l_run KX G c aw) (by decide) rfl rfl ⟨⟨rfl, fun _ _ _ _ _ _ us ws h1 h2 => match us, ws, h1, h2 with | [_, _], [], _, _ => rfl⟩, trivial⟩ (calls_cons (x := "_law_seen") (sh := [(3, [], [0, 1, 2])]) (o_l_seen KX G c aw) (by decide) rfl rfl ⟨⟨rfl, fun _ _ _ _ _ _ us ws h1 h2 => match us, ws, h1, h2 with | [_, _, _], [], _, _ => rfl⟩, trivial⟩ calls_nil))) s_l_is_right (by decide) c_l_is_right (by apply k_right <;> rfl)
theorem o_law : DefOk P w K mg base noX 5 D_law p_law F_law :=
  defOk (Φ := Phi) KX G c aw noX_ok 14 rfl rfl rfl rfl (calls_cons (x := "_law_draw") (sh := [(2, [], [0, 1])]) (o_l_draw KX G c aw) (by decide) rfl rfl ⟨⟨rfl, fun _ _ _ _ _ _ us ws h1 h2 => match us, ws, h1, h2 with | [_, _], [], _, _ => rfl⟩, trivial⟩ (calls_cons (x := "_law_is_right") (sh := [(3, [], [0, 1, 2])]) (o_l_is_right KX G c aw) (by decide) rfl rfl ⟨⟨rfl, fun _ _ _ _ _ _ us ws h1 h2 => match us, ws, h1, h2 with | [_, _, _], [], _, _ => rfl⟩, trivial⟩ (calls_cons (x := "_law_net") (sh := [(3, [], [0, 1, 2])]) (o_l_net KX G c aw) (by decide) rfl rfl ⟨⟨rfl, fun _ _ _ _ _ _ us ws h1 h2 => match us, ws, h1, h2 with | [_, _, _], [], _, _ => rfl⟩, trivial⟩ (calls_cons (x := "_law_row") (sh := [(2, [], [0, 1])]) (o_l_row KX G c aw) (by decide) rfl rfl ⟨⟨rfl, fun _ _ _ _ _ _ us ws h1 h2 => match us, ws, h1, h2 with | [_, _], [], _, _ => rfl⟩, trivial⟩ (calls_cons (x := "_law_seen") (sh := [(3, [], [0, 1, 2])]) (o_l_seen KX G c aw) (by decide) rfl rfl ⟨⟨rfl, fun _ _ _ _ _ _ us ws h1 h2 => match us, ws, h1, h2 with | [_, _, _], [], _, _ => rfl⟩, trivial⟩ (calls_cons (x := "_law_well") (sh := [(1, [], [0])]) (o_l_well KX G c aw) (by decide) rfl rfl ⟨⟨rfl, fun _ _ _ _ _ _ us ws h1 h2 => match us, ws, h1, h2 with | [_], [], _, _ => rfl⟩, trivial⟩ calls_nil)))))) s_law (by decide) c_law (by apply k_law <;> rfl)
end
abbrev Rw : PySem.W.OpenRow := PySem.W.OpenLaw.row PySem.Challenge.rw_tieskept_k07_whole_rows_that_go_through
abbrev hk : PySem.W.Hook := hookT 4 (faOf fnL gBlt gGcs) fnL
def ob (s : PySem.W.SharedT) : AlT := obsT 4 (faOf fnL gBlt gGcs) fnL (HandSHeadRun.getT s)
theorem ob_eq (s : PySem.W.SharedT) : ob s = hk.obs s.abs := obsT_eq (HandSHeadRun.getT_eq s)
theorem run (w : World) : HandSHeadRun.RunEq Rw (PySem.W.view Rw.prog [16]) hk ob 4000 ["gone_through", "out", "came", "exchanged", "_law_well", "_law_draw", "_law_pick", "_law_mixed", "_law_row", "_law_net", "_law_run", "_law_seen", "_law_are_kept", "_law_is_right"] w := by
  intro os
  kernel_rfl
theorem facts {P : Program} {w : World} {K : PySem.W.Frag} {h : Heap} {mg : Str → Option Value} {f : Addr} (X : K.In h) (c : He.SaysD (faOf fnL gBlt gGcs) fnL K) (G : h.Ns mainGlobals mg) (hf : mg ("law" : Str) = some (.ref f)) :
    ∃ fd : FuncData, (∀ (s : Shared) (u : Value), BindsTo s fd ⟨[u], []⟩ [("script", u)]) ∧ ∀ base : Heap, K.In base → base.Ns mainGlobals mg → AwB base → FnG P w K mg base 5 f fd ["script"] (spOf K noX 1 F_law) := by
  obtain ⟨fd, FD⟩ := c.def_ 14 (d := D_law) rfl
  have b := FunD.bindsA (ps := ["script"]) FD fun _ _ _ _ _ _ us hl => match us, hl with | [_], _ => rfl
  refine ⟨fd, fun s u => b s [u] rfl, fun base _ _ aw => ?_⟩
  obtain ⟨f2, fd2, h1, h2, h3⟩ := o_law (P := P) (w := w) X G c aw
  have e1 := h1.symm.trans hf
  have e2 := hf.symm.trans (He.glo_ok X G (fact_of c (faOf_glo (List.mem_of_getElem? (show fnL[14]? = some D_law from rfl)))))
  cases e2
  cases e1
  obtain ⟨_, _, _, _, _, _, _, _, _, _, e3, l3, _⟩ := h2.ex
  obtain ⟨_, _, _, _, _, _, _, _, _, _, e4, l4, _⟩ := FD.ex
  have e5 := l3.symm.trans l4
  have e6 : fd2 = fd := by injection e5 with e5; injection e5 with _ _ e5 _; injection e5
  rw [← e6]
  exact h3
end K07
open PySem PySem.W PySem.Calls PyProof.Rows
theorem PySem.Challenge.cw_tieskept_k07_whole_rows_that_go_through_holds : PySem.Challenge.rw_tieskept_k07_whole_rows_that_go_through.Holds := by
  w_on; o_law
  refine HandSHeadRun.head_any (r := OpenLaw.row PySem.Challenge.rw_tieskept_k07_whole_rows_that_go_through) (q := view (OpenLaw.row PySem.Challenge.rw_tieskept_k07_whole_rows_that_go_through).prog [16]) (H := K07.hk) (ob := K07.ob) (M := 4000) (loose := ["gone_through", "out", "came", "exchanged", "_law_well", "_law_draw", "_law_pick", "_law_mixed", "_law_row", "_law_net", "_law_run", "_law_seen", "_law_are_kept", "_law_is_right"]) (d := HandSHeadRun.topDef (OpenLaw.row PySem.Challenge.rw_tieskept_k07_whole_rows_that_go_through).prog 16) (kwd := []) K07.ob_eq
    (by kernel_rfl) (fun s => by kernel_rfl) K07.run (by kernel_rfl) (by kernel_rfl) (by kernel_rfl) (by rfl) (by first | assumption | decide +kernel) (by decide +kernel) ⟨rfl, rfl, rfl, rfl, rfl, by decide +kernel⟩ ?hw ?hc
  case hw => w_witness2
  case hc =>
    refine Tk.walkG (l := PySem.Challenge.rw_tieskept_k07_whole_rows_that_go_through) (n := 63) (k := 5) (x := "script") (XR := Tk.noX) (fl := K07.F_law) (fa := Tk.faOf K07.fnL K07.gBlt K07.gGcs) (dd := K07.fnL) rfl (by decide) (by kernel_rfl) ⟨rfl, by decide, by decide, rfl⟩ rfl ?F (fun ns _ _ => ⟨ns, rfl, rfl, rfl⟩)
    intro w mg fa h K KX c G hmg0
    have hmg : mg ("law" : PySem.Str) = some (.ref fa) := by
      have e : (HandSHeadRun.topDef (OpenLaw.row PySem.Challenge.rw_tieskept_k07_whole_rows_that_go_through).prog 16).name = ("law" : PySem.Str) := by kernel_rfl
      rw [← e]
      exact hmg0
    exact K07.facts (P := (PySem.Challenge.rw_tieskept_k07_whole_rows_that_go_through).prog) (w := w) KX c G hmg

