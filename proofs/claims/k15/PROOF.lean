import PyProof.Rows.All
import Wide.All
import OpenK.AllK
import Wide.FinOn
import HandS.ForMost
import HandS.ForExc
import HandS.Deep
import HandS.Style
import HandS.IsInst
import HandS.Wide
import HandS.Zip
import HandS.SortInts
import HandS.SortRule
import HandS.Strs
import HandS.TupAny
import HandS.TupMul
import HandS.Conv
import HandS.ExcIs
import HandS.DictComp
import KE.KDictSum
import KE.KDictWalk
import HandS.SetFor
import HandS.TupSets
import KE.GoesMore
import KE.GoesEnum
import HandS.Walk
import PySem.Challenge.RW_panelorder_k15_whole_cutting
set_option Elab.async false
set_option linter.all false
set_option maxRecDepth 100000
set_option maxHeartbeats 4000000
/-! Pi0: tables of known results (a dict that a def fills): what one holds; the heap without the owned lists; what is kept. -/
namespace Pi
open PySem PySem.Spec PyProof.Rows L2
abbrev D := PyData
class MP where
  P : Program
  w : World
  fa : Str → Option Addr
/-! ### what the tables hold: numbers of orders -/
def pairZ : D → Option (Int × Int)
  | .tuple [.int a, .int b] => if 0 ≤ a ∧ a < 8 ∧ 0 ≤ b ∧ b < 8 then some (a, b) else none
  | _ => none
def pairsZ : List D → Option (List (Int × Int))
  | [] => some []
  | d :: ds => match pairZ d, pairsZ ds with
    | some p, some r => some (p :: r)
    | _, _ => none
def knownZ : D → Option (List (Int × Int))
  | .list ds => pairsZ ds
  | _ => none
def kcode : List (Int × Int) → Nat
  | [] => 0
  | p :: r => (p.1.toNat * 8 + p.2.toNat + 1) + 65 * kcode r
def smallP (p : Int × Int) : Prop := 0 ≤ p.1 ∧ p.1 < 8 ∧ 0 ≤ p.2 ∧ p.2 < 8
theorem pairZ_small {d : D} {p : Int × Int} (h : pairZ d = some p) : smallP p := by
  unfold pairZ at h
  split at h
  · split at h
    · rename_i c; cases h; exact c
    · cases h
  · cases h
theorem pairsZ_small : ∀ {ds : List D} {l : List (Int × Int)}, pairsZ ds = some l → ∀ p ∈ l, smallP p
  | [], l, h, p, hp => by cases h; cases hp
  | d :: ds, l, h, p, hp => by
    unfold pairsZ at h
    split at h
    · rename_i q r e1 e2
      cases h
      rcases List.mem_cons.mp hp with rfl | hp
      · exact pairZ_small e1
      · exact pairsZ_small e2 p hp
    · cases h
theorem kcode_inj : ∀ {l m : List (Int × Int)}, (∀ p ∈ l, smallP p) → (∀ p ∈ m, smallP p) → kcode l = kcode m → l = m
  | [], [], _, _, _ => rfl
  | [], p :: r, _, _, e => by simp only [kcode] at e; omega
  | p :: r, [], _, _, e => by simp only [kcode] at e; omega
  | p :: r, q :: t, hl, hm, e => by
    have h1 := hl p List.mem_cons_self
    have h2 := hm q List.mem_cons_self
    unfold smallP at h1 h2
    simp only [kcode] at e
    have e1 : p.1.toNat * 8 + p.2.toNat = q.1.toNat * 8 + q.2.toNat := by omega
    have e2 : kcode r = kcode t := by omega
    have e3 : p = q := Prod.ext (by omega) (by omega)
    rw [e3, kcode_inj (fun p hp => hl p (List.mem_cons_of_mem _ hp)) (fun p hp => hm p (List.mem_cons_of_mem _ hp)) e2]
def nextZ (kn : List (Int × Int)) (ks : List Int) : List Int := ks.filter fun n => !((kn.filter fun p => decide (p.1 ∈ ks)).any fun p => decide (p.2 = n))
def cntZ (kn : List (Int × Int)) : Nat → List Int → Int
  | 0, _ => 1
  | f + 1, ks => if ks = [] then 1 else ((nextZ kn ks).map fun n => cntZ kn f (ks.filter fun m => decide (m ≠ n))).foldl (· + ·) 0
def range8 : List Int := [0, 1, 2, 3, 4, 5, 6, 7]
def memoG (kn : List (Int × Int)) (ks : List Int) : Option Int := if ks.isSublist range8 then some (cntZ kn ks.length ks) else none
def subsZ : List Int → List (List Int)
  | [] => [[]]
  | x :: r => (subsZ r).map (x :: ·) ++ subsZ r
theorem subsZ_mem : ∀ {l m : List Int}, l.Sublist m → l ∈ subsZ m
  | _, _, .slnil => by simp [subsZ]
  | _, _, .cons a h => by simp only [subsZ, List.mem_append]; exact .inr (subsZ_mem h)
  | _, _, .cons_cons a h => by simp only [subsZ, List.mem_append, List.mem_map]; exact .inl ⟨_, subsZ_mem h, rfl⟩
theorem nodup_sub_len {α : Type} [DecidableEq α] : ∀ {l m : List α}, l.Nodup → (∀ x ∈ l, x ∈ m) → l.length ≤ m.length
  | [], m, _, _ => Nat.zero_le _
  | x :: l, m, h, hs => by
    obtain ⟨h1, h2⟩ := List.nodup_cons.mp h
    have hx := hs x List.mem_cons_self
    have ih := nodup_sub_len (m := m.erase x) h2 fun y hy => by
      have hne : y ≠ x := fun e => h1 (e ▸ hy)
      exact (List.mem_erase_of_ne hne).mpr (hs y (List.mem_cons_of_mem _ hy))
    rw [List.length_erase_of_mem hx] at ih
    have := List.length_pos_of_mem hx
    simp only [List.length_cons]
    omega
/-! ### a table in the heap -/
abbrev TK [MP] : HeapKind MP.P MP.w (List Key) := tupleKind (mixKind MP.P MP.w)
/-- the object at a: a dict of these entries; m is a mark -/
def mphi (a : Addr) (es : Array DictEntry) (m : Nat) : Heap → Prop := fun h => ∃ o ep, h.get? a = some o ∧ o.ExactDict ∧ o.data = .dict es ep ∧ ep ≠ m
def MemO (a : Addr) (es : Array DictEntry) (m : Nat) : HO := .ext (mphi a es m)
def isMemo (a : Addr) (o : HO) : Prop := ∃ es m, o = MemO a es m
structure MEnt [MP] (H : Hp) (kn : List (Int × Int)) (x : List Key × Addr × Value) : Prop where
  ok : ∃ (ks : List Int) (n : Int) (tk : Tok) (ob : Obj), x.1 = ks.map Sum.inl ∧ H x.2.1 = some (.frz ob (.tup (ks.map V.int))) ∧ x.2.2 = .int n tk ∧ memoG kn ks = some n
/-- the table at a is right for t -/
def Mm [MP] (H : Hp) (a : Addr) (t : D) : Prop := ∃ (kn : List (Int × Int)) (es : Array DictEntry) (m : Nat) (xs : List (List Key × Addr × Value)), knownZ t = some kn ∧ H a = some (MemO a es m) ∧ m / 2 = kcode kn ∧
  es.toList = xs.map (entryOfKey TK) ∧ (xs.map (·.1)).Nodup ∧ (a == sysModules) = false ∧ ∀ x ∈ xs, MEnt H kn x
section
variable [MP] {H H' : Hp}
/-- a table leans on nothing but itself and tuples -/
theorem Mm.congr {a : Addr} {t : D} (h1 : ∀ b o, H b = some o → (∀ xs, o ≠ .lst xs) → H' b = some o) (h : Mm H a t) : Mm H' a t := by
  obtain ⟨kn, es, m, xs, e1, e2, e3, e4, e5, e6, e7⟩ := h
  refine ⟨kn, es, m, xs, e1, h1 _ _ e2 (fun xs z => nomatch z), e3, e4, e5, e6, fun x hx => ?_⟩
  obtain ⟨ks, n, tk, ob, q1, q2, q3, q4⟩ := (e7 x hx).ok
  exact ⟨ks, n, tk, ob, q1, h1 _ _ q2 (fun xs z => nomatch z), q3, q4⟩
/-- all that was tracked is as it was; but tables may have grown -/
structure Same [MP] (H H' : Hp) : Prop where
  get : ∀ b o, H b = some o → ¬ isMemo b o → H' b = some o
  tab : ∀ b o, H b = some o → isMemo b o → ∃ o', H' b = some o' ∧ isMemo b o'
  mem : ∀ b t, Mm H b t → Mm H' b t
theorem not_memo_lst {a : Addr} {xs : List V} : ¬ isMemo a (.lst xs) := fun ⟨_, _, h⟩ => nomatch h
theorem not_memo_frz {a : Addr} {o : Obj} {u : HO} : ¬ isMemo a (.frz o u) := fun ⟨_, _, h⟩ => nomatch h
theorem Same.l (s : Same H H') {b : Addr} {xs : List V} (h : H b = some (.lst xs)) : H' b = some (.lst xs) := s.get _ _ h not_memo_lst
theorem Same.f (s : Same H H') {b : Addr} {o : Obj} {u : HO} (h : H b = some (.frz o u)) : H' b = some (.frz o u) := s.get _ _ h not_memo_frz
theorem Same.refl (H : Hp) : Same H H := ⟨fun _ _ h _ => h, fun _ o h n => ⟨o, h, n⟩, fun _ _ h => h⟩
theorem Same.trans {H H1 H2 : Hp} (a : Same H H1) (b : Same H1 H2) : Same H H2 where
  get := fun c o h n => b.get c o (a.get c o h n) n
  tab := fun c o h n => by
    obtain ⟨o', h', q⟩ := a.tab c o h n
    exact b.tab c o' h' q
  mem := fun c t h => b.mem c t (a.mem c t h)
theorem Same.of (s : L2.Same H H') : Same H H' := ⟨fun b o h _ => s b o h, fun b o h n => ⟨o, s b o h, n⟩, fun b t h => h.congr fun b o q _ => s b o q⟩
theorem Same.kept (s : Same H H') {b : Addr} {o : HO} (h : H b = some o) : ∃ o', H' b = some o' := by
  by_cases q : isMemo b o
  · obtain ⟨o', h', _⟩ := s.tab b o h q
    exact ⟨o', h'⟩
  · exact ⟨o, s.get b o h q⟩
theorem Same.free (e : Same H H') {l : Addr} (h : H' l = Option.none) : H l = Option.none := by
  cases q : H l with
  | none => rfl
  | some o =>
    obtain ⟨o', h'⟩ := e.kept q
    rw [h'] at h
    cases h
theorem Same.seq {K : PySem.W.Frag} {a : Addr} {xs : List V} (e : Same H H') (h : SqL K H a xs) : SqL K H' a xs := by
  rcases h with (h | ⟨o, h⟩) | h
  · exact .inl (.inl (e.l h))
  · exact .inl (.inr ⟨o, e.f h⟩)
  · exact .inr h
/-- the heap without the owned lists -/
def isL : Option HO → Bool
  | some (.lst _) => true
  | _ => false
def Fz (H : Hp) (O : List Addr) : Hp := fun b => if b ∈ O ∧ isL (H b) = true then none else H b
theorem Fz.of {O : List Addr} {a : Addr} {o : HO} (h : Fz H O a = some o) : H a = some o ∧ (isL (some o) = true → a ∉ O) := by
  unfold Fz at h
  split at h
  · cases h
  · rename_i c
    refine ⟨h, fun q m => c ⟨m, by rw [h]; exact q⟩⟩
theorem Fz.mk2 {O : List Addr} {a : Addr} {o : HO} (h : H a = some o) (n : isL (some o) = true → a ∉ O) : Fz H O a = some o := by
  unfold Fz
  rw [if_neg (fun c => n (by rw [← h]; exact c.2) c.1)]
  exact h
theorem Fz.mk {O : List Addr} {a : Addr} {o : HO} (h : H a = some o) (n : a ∉ O) : Fz H O a = some o := Fz.mk2 h fun _ => n
theorem Mm.fz {O : List Addr} {a : Addr} {t : D} (h : Mm H a t) : Mm (Fz H O) a t := h.congr fun b o q n => Fz.mk2 q fun z => by
  cases o <;> first | (cases z; done) | exact (n _ rfl).elim
theorem Fz.lsub {O : List Addr} : L2.Same (Fz H O) H := fun b o h => (Fz.of h).1
theorem Mm.unfz {O : List Addr} {a : Addr} {t : D} (h : Mm (Fz H O) a t) : Mm H a t := h.congr fun b o q n => (Fz.of q).1
theorem Fz.sub {O : List Addr} : Same (Fz H O) H := .of Fz.lsub
theorem Fz.lless {O O' : List Addr} (h : ∀ a ∈ O', a ∈ O) : L2.Same (Fz H O) (Fz H O') := fun b o q =>
  Fz.mk2 (Fz.of q).1 fun z m => (Fz.of q).2 z (h b m)
theorem Fz.less {O O' : List Addr} (h : ∀ a ∈ O', a ∈ O) : Same (Fz H O) (Fz H O') := .of (Fz.lless h)
theorem Fz.same {O : List Addr} (s : Same H H') : Same (Fz H O) (Fz H' O) where
  get := fun b o h n => Fz.mk2 (s.get _ _ (Fz.of h).1 n) (Fz.of h).2
  tab := fun b o h n => by
    obtain ⟨o', h', q⟩ := s.tab b o (Fz.of h).1 n
    exact ⟨o', Fz.mk2 h' (fun z => by obtain ⟨es, m, rfl⟩ := q; cases z), q⟩
  mem := fun b t h => (s.mem b t h.unfz).fz
theorem same_upd {p : Addr} {o : HO} (h : H p = none) : Same H (L2.upd H p o) := .of fun b x e => by
  rw [upd_ne (ne_of_none e h)]; exact e
theorem Fz.updO {O : List Addr} {a : Addr} {xs ys : List V} (h : a ∈ O) (hl : H a = some (.lst xs)) : Fz (L2.upd H a (.lst ys)) O = Fz H O := by
  funext b
  unfold Fz
  by_cases hb : b = a
  · subst hb
    rw [upd_same, hl, if_pos ⟨h, rfl⟩, if_pos ⟨h, rfl⟩]
  · rw [upd_ne hb]
/-- a list grows: what was there before the list is kept -/
theorem Same.grow {H0 : Hp} (s : Same H0 H) {a : Addr} {xs ys : List V} (h0 : H0 a = none) (hl : H a = some (.lst xs)) : Same H0 (L2.upd H a (.lst ys)) where
  get := fun b o h n => by rw [upd_ne (ne_of_none h h0)]; exact s.get b o h n
  tab := fun b o h n => by rw [upd_ne (ne_of_none h h0)]; exact s.tab b o h n
  mem := fun b t h => (s.mem b t h).congr fun c o q n => by
    by_cases hc : c = a
    · subst hc; rw [hl] at q; cases q; exact (n _ rfl).elim
    · rw [upd_ne hc]; exact q
theorem Fz.cons {O : List Addr} {a : Addr} (s : Same H H') (hn : H a = none) : Same (Fz H O) (Fz H' (a :: O)) where
  get := fun b o q n => by
    obtain ⟨q1, q2⟩ := Fz.of q
    exact Fz.mk2 (s.get _ _ q1 n) fun z => by simp only [List.mem_cons, not_or]; exact ⟨ne_of_none q1 hn, q2 z⟩
  tab := fun b o h n => by
    obtain ⟨o', h', q⟩ := s.tab b o (Fz.of h).1 n
    exact ⟨o', Fz.mk2 h' (fun z => by obtain ⟨es, m, rfl⟩ := q; cases z), q⟩
  mem := fun b t h => (s.mem b t h.unfz).fz
/-! ### a mark is told by its table -/
theorem heap_at (a : Addr) (es : Array DictEntry) (ep : Nat) : ∃ h : Heap, h.get? a = some { cls := .type "dict", data := .dict es ep } := by
  refine ⟨{ objs := (List.replicate (a + 1) { cls := .type "dict", data := .dict es ep }).toArray }, ?_⟩
  simp [Heap.get?]
theorem mphi_inj {a : Addr} {es es' : Array DictEntry} {m m' : Nat} (h : mphi a es m = mphi a es' m') : es = es' ∧ m = m' := by
  have key : ∀ ep, (ep ≠ m → es = es' ∧ ep ≠ m') := fun ep hep => by
    obtain ⟨hp, e⟩ := heap_at a es ep
    have h1 : mphi a es m hp := ⟨_, ep, e, ⟨rfl, rfl, rfl⟩, rfl, hep⟩
    rw [h] at h1
    obtain ⟨o, ep', e1, _, e3, e4⟩ := h1
    rw [e] at e1
    cases e1
    cases e3
    exact ⟨rfl, e4⟩
  refine ⟨(key (m + 1) (by omega)).1, ?_⟩
  by_cases c : m = m'
  · exact c
  · exact ((key m' (fun z => c z.symm)).2 rfl).elim
end
end Pi

set_option Elab.async false
set_option linter.all false
set_option maxRecDepth 100000
set_option maxHeartbeats 4000000
/-! Pi1: data, results, owned addresses, what represents what. -/
namespace Pi
open PySem PySem.Spec PyProof.Rows L2

variable [MP]
/-- a result: a value, an exception of a class (by its number), or nothing is said -/
inductive R (α : Type) where
  | ok (a : α) | exc (c : Nat) | bad
namespace R
def bind {α β : Type} : R α → (α → R β) → R β
  | .ok a, f => f a
  | .exc c, _ => .exc c
  | .bad, _ => .bad
instance : Monad R where
  pure := R.ok
  bind := R.bind
omit [MP] in
@[simp] theorem ok_bind {α β : Type} (a : α) (f : α → R β) : (R.ok a >>= f) = f a := rfl
omit [MP] in
@[simp] theorem exc_bind {α β : Type} (c : Nat) (f : α → R β) : ((R.exc c : R α) >>= f) = R.exc c := rfl
omit [MP] in
@[simp] theorem bad_bind {α β : Type} (f : α → R β) : ((R.bad : R α) >>= f) = R.bad := rfl
omit [MP] in
@[simp] theorem pure_ok {α : Type} (a : α) : (pure a : R α) = R.ok a := rfl
end R

/-- the script as a value (a list of ints that is only read) -/
def scr (ns : List Int) : D := .dict (ns.map fun n => (.int n, .none))
/-- a table, by what is known of it -/
def memoD (t : D) : D := .dict [(.bool true, t)]
/-- a def as a value -/
def fnD (f : Str) : D := .dict [(.bool false, .str f)]

mutual
/-- the value v stands for d in the heap H -/
inductive Rp (K : PySem.W.Frag) (H : Hp) : V → D → Prop
  | non : Rp K H .non .none
  | bl (b : Bool) : Rp K H (.bl b) (.bool b)
  | int (i : Int) : Rp K H (.int i) (.int i)
  | str (x : Str) : Rp K H (.str x) (.str x)
  | lst {a : Addr} {xs : List V} {ds : List D} : H a = some (.lst xs) → RpL K H xs ds → Rp K H (.ref a) (.list ds)
  | tup {a : Addr} {o : Obj} {xs : List V} {ds : List D} : H a = some (.frz o (.tup xs)) → o.dict = none → RpL K H xs ds → Rp K H (.ref a) (.tuple ds)
  | scr {a : Addr} {ns : List Int} : SqL K H a (ns.map V.int) → Rp K H (.ref a) (scr ns)
  | memo {a : Addr} {t : D} : Mm H a t → Rp K H (.ref a) (memoD t)
  | fn {a : Addr} {f : Str} : MP.fa f = some a → Rp K H (.ref a) (fnD f)
inductive RpL (K : PySem.W.Frag) (H : Hp) : List V → List D → Prop
  | nil : RpL K H [] []
  | cons {v : V} {vs : List V} {d : D} {ds : List D} : Rp K H v d → RpL K H vs ds → RpL K H (v :: vs) (d :: ds)
end

section
variable {K : PySem.W.Frag} {H H' : Hp}
mutual
theorem Rp.mono (s : Same H H') : ∀ {v : V} {d : D}, Rp K H v d → Rp K H' v d
  | _, _, .non => .non
  | _, _, .bl b => .bl b
  | _, _, .int i => .int i
  | _, _, .str x => .str x
  | _, _, .lst h l => .lst (s.l h) (RpL.mono s l)
  | _, _, .tup h e l => .tup (s.f h) e (RpL.mono s l)
  | _, _, .scr h => .scr (s.seq h)
  | _, _, .memo h => .memo (s.mem _ _ h)
  | _, _, .fn h => .fn h
theorem RpL.mono (s : Same H H') : ∀ {vs : List V} {ds : List D}, RpL K H vs ds → RpL K H' vs ds
  | _, _, .nil => .nil
  | _, _, .cons h t => .cons (Rp.mono s h) (RpL.mono s t)
end
theorem RpL.length : ∀ {vs : List V} {ds : List D}, RpL K H vs ds → vs.length = ds.length
  | _, _, .nil => rfl
  | _, _, .cons _ t => by rw [List.length_cons, List.length_cons, RpL.length t]
theorem RpL.get : ∀ {vs : List V} {ds : List D} {i : Nat} {d : D}, RpL K H vs ds → ds[i]? = some d → ∃ v, vs[i]? = some v ∧ Rp K H v d
  | _, _, _, _, .nil, e => by simp at e
  | _, _, 0, _, .cons h _, e => by simp at e; subst e; exact ⟨_, rfl, h⟩
  | _, _, i + 1, d, .cons _ t, e => by
    obtain ⟨v, h1, h2⟩ := RpL.get (i := i) t (by simpa using e)
    exact ⟨v, by simpa using h1, h2⟩
theorem RpL.get' : ∀ {vs : List V} {ds : List D} {i : Nat} {v : V}, RpL K H vs ds → vs[i]? = some v → ∃ d, ds[i]? = some d ∧ Rp K H v d
  | _, _, _, _, .nil, e => by simp at e
  | _, _, 0, _, .cons h _, e => by simp at e; subst e; exact ⟨_, rfl, h⟩
  | _, _, i + 1, d, .cons _ t, e => by
    obtain ⟨v, h1, h2⟩ := RpL.get' (i := i) t (by simpa using e)
    exact ⟨v, by simpa using h1, h2⟩
theorem RpL.append : ∀ {vs ws : List V} {ds es : List D}, RpL K H vs ds → RpL K H ws es → RpL K H (vs ++ ws) (ds ++ es)
  | _, _, _, _, .nil, s => s
  | _, _, _, _, .cons h t, s => .cons h (RpL.append t s)
theorem RpL.drop : ∀ {vs : List V} {ds : List D} (n : Nat), RpL K H vs ds → RpL K H (vs.drop n) (ds.drop n)
  | _, _, 0, r => r
  | _, _, _ + 1, .nil => .nil
  | _, _, n + 1, .cons _ t => RpL.drop n t
theorem RpL.take : ∀ {vs : List V} {ds : List D} (n : Nat), RpL K H vs ds → RpL K H (vs.take n) (ds.take n)
  | _, _, 0, _ => .nil
  | _, _, _ + 1, .nil => .nil
  | _, _, n + 1, .cons h t => .cons h (RpL.take n t)
theorem RpL.reverse : ∀ {vs : List V} {ds : List D}, RpL K H vs ds → RpL K H vs.reverse ds.reverse
  | _, _, .nil => .nil
  | _, _, .cons h t => by
    rw [List.reverse_cons, List.reverse_cons]
    exact (RpL.reverse t).append (.cons h .nil)
theorem RpL.rep {vs : List V} {ds : List D} (h : RpL K H vs ds) : ∀ k : Nat, RpL K H (List.replicate k vs).flatten (List.replicate k ds).flatten
  | 0 => .nil
  | k + 1 => by
    rw [List.replicate_succ, List.replicate_succ, List.flatten_cons, List.flatten_cons]
    exact h.append (RpL.rep h k)
theorem RpL.ints : ∀ {vs : List V} {ns : List Int}, RpL K H vs (ns.map PyData.int) → vs = ns.map V.int
  | [], [], .nil => rfl
  | _ :: _, _ :: _, .cons h t => by cases h; rw [List.map_cons, RpL.ints t]
theorem RpL.strs : ∀ {vs : List V} {ns : List Str}, RpL K H vs (ns.map PyData.str) → vs = ns.map V.str
  | [], [], .nil => rfl
  | _ :: _, _ :: _, .cons h t => by cases h; rw [List.map_cons, RpL.strs t]
theorem RpL.bls : ∀ {vs : List V} {ns : List Bool}, RpL K H vs (ns.map PyData.bool) → vs = ns.map V.bl
  | [], [], .nil => rfl
  | _ :: _, _ :: _, .cons h t => by cases h; rw [List.map_cons, RpL.bls t]
theorem RpL.ofInts : ∀ (ns : List Int), RpL K H (ns.map V.int) (ns.map PyData.int)
  | [] => .nil
  | n :: ns => .cons (.int n) (RpL.ofInts ns)
theorem RpL.ofStrs : ∀ (ns : List Str), RpL K H (ns.map V.str) (ns.map PyData.str)
  | [] => .nil
  | n :: ns => .cons (.str n) (RpL.ofStrs ns)
mutual
/-- no script inside: as HandS has it -/
theorem Rp.dp : ∀ {v : V} {d : D}, Rp K H v d → d.canLay0 = true → Dp K H v d
  | _, _, .non, _ => .non
  | _, _, .bl b, _ => .bl b
  | _, _, .int i, _ => .int i
  | _, _, .str x, _ => .str x
  | _, _, .lst h l, c => .lst (.of h) (RpL.dp l (by rw [PyData.canLay0] at c; exact c))
  | _, _, .tup h e l, c => .tup (.inl (.inr ⟨_, h⟩)) (RpL.dp l (by rw [PyData.canLay0] at c; exact c))
  | _, _, .scr h, c => by simp [Pi.scr, PyData.canLay0] at c
  | _, _, .memo h, c => by simp [memoD, PyData.canLay0] at c
  | _, _, .fn h, c => by simp [fnD, PyData.canLay0] at c
theorem RpL.dp : ∀ {vs : List V} {ds : List D}, RpL K H vs ds → PyData.canLayAll0 ds = true → DpAll K H vs ds
  | _, _, .nil, _ => .nil
  | _, _, .cons h t, c => by
    rw [PyData.canLayAll0, Bool.and_eq_true] at c
    exact .cons (Rp.dp h c.1) (RpL.dp t c.2)
end
end

/-- a value that may be the owned list itself -/
def Rq (K : PySem.W.Frag) (H : Hp) (O : List Addr) (v : V) (d : D) : Prop :=
  Rp K (Fz H O) v d ∨ ∃ a vs ds, v = .ref a ∧ d = .list ds ∧ H a = some (.lst vs) ∧ RpL K (Fz H O) vs ds
section
variable {K : PySem.W.Frag} {H H' : Hp} {O : List Addr}
theorem Rq.lst {v : V} {ds : List D} (h : Rq K H O v (.list ds)) : ∃ a vs, v = .ref a ∧ H a = some (.lst vs) ∧ RpL K (Fz H O) vs ds := by
  rcases h with h | ⟨a, vs, ds', rfl, e, h, r⟩
  · cases h with
    | lst h r => exact ⟨_, _, rfl, (Fz.of h).1, r⟩
  · cases e; exact ⟨a, vs, rfl, h, r⟩
theorem Rq.tup {v : V} {ds : List D} (h : Rq K H O v (.tuple ds)) : ∃ a o vs, v = .ref a ∧ H a = some (.frz o (.tup vs)) ∧ o.dict = none ∧ RpL K (Fz H O) vs ds := by
  rcases h with h | ⟨a, vs, ds', rfl, e, h, r⟩
  · cases h with
    | tup h d r => exact ⟨_, _, _, rfl, (Fz.of h).1, d, r⟩
  · cases e
theorem Rq.int {v : V} {i : Int} (h : Rq K H O v (.int i)) : v = .int i := by
  rcases h with h | ⟨a, vs, ds', rfl, e, h, r⟩
  · cases h; rfl
  · cases e
theorem Rq.bl {v : V} {i : Bool} (h : Rq K H O v (.bool i)) : v = .bl i := by
  rcases h with h | ⟨a, vs, ds', rfl, e, h, r⟩
  · cases h; rfl
  · cases e
theorem Rq.str {v : V} {i : Str} (h : Rq K H O v (.str i)) : v = .str i := by
  rcases h with h | ⟨a, vs, ds', rfl, e, h, r⟩
  · cases h; rfl
  · cases e
theorem Rq.non {v : V} (h : Rq K H O v .none) : v = .non := by
  rcases h with h | ⟨a, vs, ds', rfl, e, h, r⟩
  · cases h; rfl
  · cases e
theorem Rq.mono (s : Same H H') {v : V} {d : D} (h : Rq K H O v d) : Rq K H' O v d := by
  rcases h with h | ⟨a, vs, ds', e1, e2, h, r⟩
  · exact .inl (h.mono (Fz.same s))
  · exact .inr ⟨a, vs, ds', e1, e2, s.l h, r.mono (Fz.same s)⟩
theorem Rq.dp {v : V} {d : D} (h : Rq K H O v d) (c : d.canLay0 = true) : Dp K H v d := by
  rcases h with h | ⟨a, vs, ds', rfl, rfl, h, r⟩
  · exact (h.mono Fz.sub).dp c
  · exact .lst (.of h) ((r.mono Fz.sub).dp (by rw [PyData.canLay0] at c; exact c))
end
end Pi

set_option Elab.async false
set_option linter.all false
set_option maxRecDepth 100000
set_option maxHeartbeats 4000000
/-! Pi2: the rules that make tuples, the tuple's object being known. -/
namespace Pi
open PySem PySem.Spec PyProof.Rows L2
/-- a new tuple -/
def NT (H : Hp) (zs : List V) (Q : VK) : Prop := ∀ p o, H p = none → o.dict = none → Q (.ref p) (upd H p (.frz o (.tup zs)))
abbrev tupO (us : List Value) : Obj := { cls := .type "tuple", data := .seq us.toArray }
section
variable {X : Cx} {pins : List (Addr × Obj)} {σ : L2.St} {H : Hp} {s : Shared}
theorem laidT {zs : List V} {us : List Value} {t' : Nat} (I : Inv X pins σ H s) (r : Vals zs us) (hz : zs.length ≤ sizeLine) :
    Inv X pins σ (upd H s.heap.objs.size (.frz (tupO us) (.tup zs))) { s with heap := s.heap.push (tupO us), toks := t' } :=
  I.laid (t' := t') (fun b ob q => Heap.get?_push_of_some _ q) (Nat.le_refl _) ⟨Heap.get?_push_size _ rfl, hz, us, r, IsTup.new _ _⟩
theorem endT {zs : List V} {us : List Value} {t' : Nat} {Q : VK} (I : Inv X pins σ H s) (r : Vals zs us) (hz : zs.length ≤ sizeLine) (q : NT H zs Q) :
    EP X pins σ Q (.ref s.heap.objs.size) { s with heap := s.heap.push (tupO us), toks := t' } :=
  ⟨.ref _, _, laidT I r hz, rfl, q _ _ (I.hok.fresh (Nat.le_refl _)) rfl⟩
end
section
variable {X : Cx} {es : List Expr} {t : TA} {pos : Pos}
def tTupF (t : TA) : TE := fun σ H Q => t σ H fun xs H1 => xs.length ≤ sizeLine ∧ NT H1 xs Q
theorem pe_tupF {x1} (h : PA X es t) : PE X (.Tuple es x1 pos) (tTupF t) := by
  refine ⟨fun pins s σ H Q I hq => ?_⟩
  refine wpAny_Tuple_spliced (thn (h.run pos pins s σ H _ I hq) fun us s1 ⟨xs, H1, I1, r, z, q⟩ => ⟨by rw [← r.length]; exact z, ?_⟩)
  exact endT (t' := s1.toks) I1 r z q
/-- t + u -/
def rCatF (K : PySem.W.Frag) : R2 := fun x y H Q => ∃ a b xs ys, x = .ref a ∧ y = .ref b ∧ SqT K H a xs ∧ SqT K H b ys ∧ xs.length + ys.length ≤ sizeLine ∧
  (xs = [] → Q (.ref b) H) ∧ (xs ≠ [] → ys = [] → Q (.ref a) H) ∧ (xs ≠ [] → ys ≠ [] → NT H (xs ++ ys) Q)
theorem op_catF : OpR X (binaryOp .Add) (rCatF X.K) := by
  intro pins s σ H x y v u Q I rx ry h
  obtain ⟨a, b, xs, ys, rfl, rfl, ha, hb, hz, q0, q1, q2⟩ := h
  cases rx
  cases ry
  obtain ⟨its, r1, p1, _⟩ := I.tuple ha
  obtain ⟨its2, r2, p2, _⟩ := I.tuple hb
  by_cases hx : xs = []
  · subst hx
    cases r1
    exact cat_tup0 p1 p2 ⟨.ref b, H, I, rfl, q0 rfl⟩
  · refine HT.cat_tup p1 p2 (fun z => hx (r1.nil_iff.mp z)) (fun z => ⟨.ref a, H, I, rfl, q1 hx (r2.nil_iff.mp z)⟩) (fun z => ?_) (by rw [← r1.length, ← r2.length]; exact hz)
    exact endT (t' := s.toks) I (r1.append r2) (by rw [List.length_append]; exact hz) (q2 hx fun w => z (r2.nil_iff.mpr w))
/-- tuple(xs), tuple(t) -/
theorem call_tupleF : CallR X (.type "tuple") (fun xs H Q => ∃ p ys, xs = [.ref p] ∧ ((SqL X.K H p ys ∧ NT H ys Q) ∨ (SqT X.K H p ys ∧ Q (.ref p) H))) := by
  intro pins s σ H xs us Q I r h
  obtain ⟨p, ys, rfl, h⟩ := h
  obtain ⟨u, rfl, rx⟩ := vals1 r
  cases rx
  rcases h with ⟨hq, q⟩ | ⟨hq, q⟩
  · obtain ⟨its, r', pl, hz⟩ := I.list hq
    have hlen := r'.length
    refine call_tuple_list pl.isList (fun h' kp => ?_) (by simp only [List.size_toArray] <;> omega)
    have I1 : Inv X pins σ H { s with heap := h' } := I.kept (t' := s.toks) kp
    exact endT (t' := s.toks) I1 r' hz q
  · obtain ⟨its, r', pl, hz⟩ := I.tuple hq
    exact call_tuple_same pl ⟨.ref p, H, I, rfl, q⟩
/-- tuple(range(..)) -/
def tTupRgF (te : L2.St → Hp → (Int → Int → Hp → Prop) → Prop) : TE := fun σ H Q => te σ H fun a b H1 => RgOk a b ∧ NT H1 (rgV a b) Q
theorem pe_tupRgF {e : Expr} {te : L2.St → Hp → (Int → Int → Hp → Prop) → Prop} {p pos : Pos} (hc : X.calm = true) (hg : Gl X "tuple") (hm : X.mg "tuple" = none) (he : PRg X e te) (na : starEach [e] X.env = (false, eval e X.env) :: starEach [] X.env := by rfl) : PE X (.Call (.Name "tuple" p) [e] [] pos) (tTupRgF te) := by
  refine ⟨fun pins s σ H Q I h => ?_⟩
  refine Call_ (ld_blt I hg hm boot_tuple (PyProof.Rows.callWith_type1 (args_cons (thn (he pins s σ H _ I h) fun x s1 ⟨r, a, b, t, u, v, H1, ex, hr, I1, ok, q⟩ => args_nil ?_) na) na))
  subst ex
  obtain ⟨b1, b2, b3, b4, b5⟩ := ok
  refine call_tuple_range (n := (b - a).toNat) (I1.ok.hd hc) hr (small_one b1 b2 b3 b4) (rangeSize_nat a b) b5 fun h' tk acc hk hi => ?_
  have I2 : Inv X pins σ H1 { s1 with heap := h', toks := tk } := I1.kept hk
  have e3 := endT (t' := tk) (us := acc.toList) (Q := Q) I2 (vals_rg hi) (by rw [rgV_length, sizeLine_eq]; omega) q
  have e4 : tupO acc.toList = { cls := .type "tuple", data := .seq acc } := by simp [tupO]
  rw [e4] at e3
  exact e3
/-- t[lo:hi] -/
def rSlF (K : PySem.W.Frag) : V → Option Int → Option Int → Hp → VK → Prop := fun x lo hi H Q => ∃ a xs, x = .ref a ∧ SqT K H a xs ∧
  (HT.sIx xs.length 0 lo = 0 ∧ HT.sIx xs.length xs.length hi = xs.length → Q (.ref a) H) ∧ (¬ (HT.sIx xs.length 0 lo = 0 ∧ HT.sIx xs.length xs.length hi = xs.length) → NT H (cutV xs lo hi) Q)
theorem sl_tupF : SlR X (rSlF X.K) := by
  intro pins s σ H x v vl vu lo hi sl Q I rx hs pl pu h
  obtain ⟨a, xs, rfl, hx, q1, q2⟩ := h
  cases rx
  obtain ⟨its, r, ht, hz⟩ := I.tuple hx
  have hlen : its.toArray.size = xs.length := by rw [List.size_toArray]; exact r.length.symm
  refine ⟨"tuple", _, PyProof.Rows.slot_tuple_getitem.lookup, ht.typeIs, ?_⟩
  by_cases hw : HT.sIx xs.length 0 lo = 0 ∧ HT.sIx xs.length xs.length hi = xs.length
  · exact getItem_tuple_whole ht hs pl pu (by rw [hlen]; exact hw) ⟨.ref a, H, I, rfl, q1 hw⟩
  · refine HT.getItem_tuple_cut ht hs pl pu (by rw [hlen]; exact hw) ?_ (by rw [hlen]; exact hz)
    rw [hlen]
    exact endT (t' := s.toks) I ((r.drop (HT.sIx xs.length 0 lo)).take (HT.sIx xs.length xs.length hi - HT.sIx xs.length 0 lo)) (Nat.le_trans (cutV_length xs lo hi) hz) (q2 hw)
end
end Pi

set_option Elab.async false
set_option linter.all false
set_option maxRecDepth 100000
set_option maxHeartbeats 4000000
/-! Pi2m: tuple * int, the new tuple's object known. -/
namespace Pi
open PySem PySem.Spec PyProof.Rows L2
theorem tup_mul1 (l : Addr) (items : Array Value) (n : Nat) (dd : Option Addr) (sl : Array (Option Value)) (u : Tok) :
    Meets (Builtin.«tuple.__mul__» ⟨[.ref l, .int 1 u], []⟩) (fun _ R s => s.heap.get? l = some { cls := .type "tuple", dict := dd, data := .seq items n, slots := sl } ∧ R (.ok (.ret (Value.ref l))) s) :=
  .of_wp fun prog w A R s h => by
    obtain ⟨hp, g, d, tk, os⟩ := s
    obtain ⟨hl, h⟩ := h
    have f1 := AutoSeq1.idx_int
    wp_walk using wpAny_loadPart' hl
    exact ⟨_, rfl, h⟩
section
variable {X : Cx}
def rRepF (K : PySem.W.Frag) : R2 := fun x y H Q => ∃ l k xs, x = .ref l ∧ y = .int k ∧ SqT K H l xs ∧ xs ≠ [] ∧ 1 ≤ k ∧ k ≤ 1000 ∧ xs.length ≤ 1000 ∧ (k = 1 → Q (.ref l) H) ∧ (k ≠ 1 → NT H (List.replicate k.toNat xs).flatten Q)
theorem op_repF : OpR X (binaryOp .Mult) (rRepF X.K) := by
  intro pins s σ H x y v u Q I rx ry h
  obtain ⟨l, k, xs, rfl, rfl, hT, hne, h1, h2, hz, q1, q2⟩ := h
  cases rx
  obtain ⟨t, rfl⟩ := ry
  obtain ⟨its, r, ⟨⟨cls, dd, data, sl⟩, ho, hc, n, hd⟩, hs⟩ := I.tuple hT
  simp only at hc hd; subst hc hd
  have hle : its.length = xs.length := r.length.symm
  have hi : its.toArray.isEmpty = false := by
    cases its with
    | nil => exact absurd (List.eq_nil_of_length_eq_zero (by rw [← hle]; rfl)) hne
    | cons a b => rfl
  by_cases hk1 : k = 1
  · subst hk1
    refine wpAny_binaryOp_repeat_ref (T := "tuple") (U := "int") (by decide) ⟨_, ho, rfl⟩ (fun s' => typeIs_int s' 1 t) noFill_tuple_mul F.fills_int_mul F.slot_int_rmul repeat_tuple F.slot_int_index.lookup
      (call_meets F.slot_int_rmul (typeIs_int s 1 t) F.entry_int_rmul (F.args_int_rmul_2 _ _) (int_rmul_tuple 1 t l its.toArray n dd sl) ⟨ho, rfl, ⟨_, ho, rfl⟩, call_meets F.slot_tuple_mul ⟨_, ho, rfl⟩ F.entry_tuple_mul (F.args_tuple_mul_2 _ _) (tup_mul1 l its.toArray n dd sl t) ⟨ho, ?_⟩⟩)
    exact ⟨.ref l, H, I, rfl, q1 rfl⟩
  · have z0 : its.toArray.size = xs.length := by rw [List.size_toArray, hle]
    have hm : ((its.toArray.size : Nat) : Int) * k ≤ 1000000 := by
      rw [z0]; have a1 : ((xs.length : Nat) : Int) * k ≤ 1000 * k := Int.mul_le_mul_of_nonneg_right (by omega) (by omega); omega
    have a2 : k.toNat * xs.length ≤ 1000 * 1000 := Nat.mul_le_mul (by omega) hz
    have fl : (List.replicate k.toNat its).flatten.length ≤ sizeLine := by rw [PyProof.Rows.lm_len_rep_flat, hle, sizeLine_eq]; omega
    have c0 : (decide (k < -(2 ^ 63)) || decide (k ≥ 2 ^ 63)) = false := by rw [decide_eq_false (by omega), decide_eq_false (by omega)]; rfl
    have c1 : (its.toArray.isEmpty || k == 1) = false := by rw [hi, Bool.false_or]; exact beq_eq_false_iff_ne.mpr hk1
    have c2 : (decide (k ≤ 0) || its.toArray.isEmpty) = false := by rw [hi, Bool.or_false]; exact decide_eq_false (by omega)
    have c4 : Builtin.Tuple.tupleTooMany (((its.toArray.size : Nat) : Int) * k) = false := by unfold Builtin.Tuple.tupleTooMany; rw [sizeLine_eq]; exact decide_eq_false (by omega)
    refine wpAny_binaryOp_repeat_ref (T := "tuple") (U := "int") (by decide) ⟨_, ho, rfl⟩ (fun s' => typeIs_int s' k t) noFill_tuple_mul F.fills_int_mul F.slot_int_rmul repeat_tuple F.slot_int_index.lookup
      (call_meets F.slot_int_rmul (typeIs_int s k t) F.entry_int_rmul (F.args_int_rmul_2 _ _) (int_rmul_tuple k t l its.toArray n dd sl) ⟨ho, rfl, ⟨_, ho, rfl⟩, call_meets F.slot_tuple_mul ⟨_, ho, rfl⟩ F.entry_tuple_mul (F.args_tuple_mul_2 _ _) (tuple_mulW l its.toArray n dd sl k t c0 c1 c2 (by omega) c4 (by rw [size_rep, List.size_toArray]; exact fl)) ⟨ho, ?_⟩⟩)
    rw [size_rep]
    exact endT (t' := s.toks) I (r.rep k.toNat) (by rw [PyProof.Rows.lm_len_rep_flat, sizeLine_eq]; omega) (q2 hk1)
end
end Pi

set_option Elab.async false
set_option linter.all false
set_option maxRecDepth 100000
set_option maxHeartbeats 4000000
/-! Pi3: operations on data, and that the model does the same. -/
namespace Pi
open PySem PySem.Spec PyProof.Rows L2
variable [MP]

abbrev big : Nat := 16777216
/-- a new list: its address is new, its items do not reach it -/
def New (K : PySem.W.Frag) (H H' : Hp) (O : List Addr) (v : V) (ds : List D) : Prop :=
  ∃ a vs, v = .ref a ∧ H a = none ∧ H' a = some (.lst vs) ∧ RpL K (Fz H' (a :: O)) vs ds
/-- what is known of a result: it stands for d; where d is a list, it is a new one -/
def Rn (K : PySem.W.Frag) (H H' : Hp) (O : List Addr) (v : V) (d : D) : Prop :=
  Rp K (Fz H' O) v d ∧ ∀ ds, d = .list ds → New K H H' O v ds
/-- the owned addresses are there -/
abbrev Dom (H : Hp) (O : List Addr) : Prop := ∀ a ∈ O, H a ≠ none
theorem Dom.out {H : Hp} {O : List Addr} (h : Dom H O) {p : Addr} (hp : H p = none) : p ∉ O := fun m => h p m hp
theorem Dom.same {H H' : Hp} {O : List Addr} (h : Dom H O) (s : Same H H') : Dom H' O := fun a m e => by
  exact h a m (s.free e)
theorem Fz.cons_upd {H : Hp} {O : List Addr} {p : Addr} {o : HO} (hp : H p = none) : Same (Fz H O) (Fz (upd H p o) (p :: O)) := .of fun b x h => by
  obtain ⟨h1, h2⟩ := Fz.of h
  have hne : b ≠ p := ne_of_none h1 hp
  exact Fz.mk2 (by rw [upd_ne hne]; exact h1) fun z => by simp only [List.mem_cons, not_or]; exact ⟨hne, h2 z⟩
section
variable {K : PySem.W.Frag} {H H' : Hp} {O : List Addr}
theorem New.rp {v : V} {ds : List D} (d : Dom H O) (h : New K H H' O v ds) : Rp K (Fz H' O) v (.list ds) := by
  obtain ⟨a, vs, rfl, hn, hl, r⟩ := h
  exact .lst (Fz.mk hl (d.out hn)) (r.mono (Fz.less fun x m => List.mem_cons_of_mem _ m))
theorem New.rn {v : V} {ds : List D} (d : Dom H O) (h : New K H H' O v ds) : Rn K H H' O v (.list ds) :=
  ⟨h.rp d, fun ds' e => by cases e; exact h⟩
theorem new_at {p : Addr} {vs : List V} {ds : List D} (hp : H p = none) (r : RpL K (Fz H O) vs ds) : New K H (upd H p (.lst vs)) O (.ref p) ds :=
  ⟨p, vs, rfl, hp, upd_same, r.mono (Fz.cons_upd hp)⟩
theorem Rn.of {v : V} {d : D} (h : Rp K (Fz H' O) v d) (n : ∀ ds, d ≠ .list ds) : Rn K H H' O v d := ⟨h, fun ds e => (n ds e).elim⟩
theorem tup_at {p : Addr} {o : Obj} {vs : List V} {ds : List D} (d : Dom H O) (hp : H p = none) (ho : o.dict = none) (r : RpL K (Fz H O) vs ds) : Rp K (Fz (upd H p (.frz o (.tup vs))) O) (.ref p) (.tuple ds) :=
  .tup (Fz.mk upd_same (d.out hp)) ho (r.mono (Fz.same (same_upd hp)))
theorem Rn.fromOld {H0 : Hp} (s : Same H0 H) {v : V} {d : D} (h : Rn K H H' O v d) : Rn K H0 H' O v d :=
  ⟨h.1, fun ds e => by
    obtain ⟨a, vs, e1, hn, hl, r⟩ := h.2 ds e
    exact ⟨a, vs, e1, s.free hn, hl, r⟩⟩
theorem SqT.fr {a : Addr} {o : Obj} {xs : List V} (h : H a = some (.frz o (.tup xs))) : SqT K H a xs := .inl (.inr ⟨o, h⟩)
end

/-! ### binary operations -/
inductive Bo where | add | sub | mul | fdiv | mod | pow | shl
  deriving DecidableEq
def Bo.op : Bo → Operator
  | .add => .Add | .sub => .Sub | .mul => .Mult | .fdiv => .FloorDiv | .mod => .Mod | .pow => .Pow | .shl => .LShift
def addD : D → D → R D
  | .int a, .int b => .ok (.int (a + b))
  | .int a, .bool b => .ok (.int (a + b2i b))
  | .str a, .str b => if a.length + b.length ≤ big then .ok (.str (a ++ b)) else .bad
  | .list a, .list b => if a.length + b.length ≤ big then .ok (.list (a ++ b)) else .bad
  | .tuple a, .tuple b => if a.length + b.length ≤ big then .ok (.tuple (a ++ b)) else .bad
  | _, _ => .bad
/-- below 2 ^ 64 in size (told so that the kernel is stuck at once at an unknown number) -/
def smallI : Int → Bool
  | .ofNat n => Nat.ble n 18446744073709551615
  | .negSucc n => Nat.ble n 18446744073709551614
omit [MP] in
theorem smallI_iff (i : Int) : smallI i = true ↔ -18446744073709551616 < i ∧ i < 18446744073709551616 := by
  cases i with
  | ofNat n =>
    show Nat.ble n _ = true ↔ _
    rw [Nat.ble_eq]
    show n ≤ 18446744073709551615 ↔ -18446744073709551616 < (n : Int) ∧ (n : Int) < 18446744073709551616
    omega
  | negSucc n =>
    show Nat.ble n _ = true ↔ _
    rw [Nat.ble_eq, Int.negSucc_eq]
    omega
/-- below 2 ^ 30 in size -/
def tinyI : Int → Bool
  | .ofNat n => Nat.ble n 1073741823
  | .negSucc n => Nat.ble n 1073741823
omit [MP] in
theorem tinyI_iff (i : Int) : tinyI i = true ↔ -1073741824 ≤ i ∧ i < 1073741824 := by
  cases i with
  | ofNat n =>
    show Nat.ble n _ = true ↔ _
    rw [Nat.ble_eq]
    show n ≤ 1073741823 ↔ -1073741824 ≤ (n : Int) ∧ (n : Int) < 1073741824
    omega
  | negSucc n =>
    show Nat.ble n _ = true ↔ _
    rw [Nat.ble_eq, Int.negSucc_eq]
    omega
def mulD : D → D → R D
  | .int a, .int b => if smallI a || smallI b then .ok (.int (a * b)) else .bad
  | .list a, .int k => if tinyI k && Nat.ble (a.length * k.toNat) big then .ok (.list (List.replicate k.toNat a).flatten) else .bad
  | .tuple a, .int k => if !a.isEmpty && (decide (1 ≤ k) && (decide (k ≤ 1000) && Nat.ble a.length 1000)) then .ok (.tuple (List.replicate k.toNat a).flatten) else .bad
  | _, _ => .bad
def binD : Bo → D → D → R D
  | .add, x, y => addD x y
  | .mul, x, y => mulD x y
  | .sub, .int a, .int b => .ok (.int (a - b))
  | .fdiv, .int a, .int b => if 0 < b ∧ b.natAbs.log2 < 9000 then .ok (.int (a / b)) else .bad
  | .mod, .int a, .int b => if 0 < b then .ok (.int (a % b)) else .bad
  | .pow, .int a, .int b => if 0 ≤ b ∧ b ≤ 1000000 ∧ a.natAbs < 18446744073709551616 then .ok (.int (a ^ b.toNat)) else .bad
  | .shl, .int a, .int b => if 0 ≤ b ∧ b ≤ 1000000 ∧ a.natAbs < 18446744073709551616 then .ok (.int (a * 2 ^ b.toNat)) else .bad
  | _, _, _ => .bad
/-- the reading of an operation on data -/
def rD (K : PySem.W.Frag) (g : D → D → R D) : R2 := fun x y H Q => ∃ O dx dy d, Dom H O ∧ Rq K H O x dx ∧ Rq K H O y dy ∧ g dx dy = .ok d ∧ ∀ v H', Same H H' → Rn K H H' O v d → Q v H'

section
variable {X : Cx}
theorem op_binD (o : Bo) : OpR X (binaryOp o.op) (rD X.K (binD o)) := by
  intro pins s σ H x y v u Q I rx ry h
  obtain ⟨O, dx, dy, d, dm, hx, hy, e, q⟩ := h
  have hz := sizeLine_eq
  have hbig : big = 16777216 := rfl
  cases o with
  | add =>
    change addD dx dy = _ at e
    unfold addD at e
    split at e
    · cases e; cases hx.int; cases hy.int
      exact op_add pins s σ H _ _ v u Q I rx ry ⟨_, _, rfl, rfl, q _ _ (Same.refl _) (.of (.int _) (fun _ z => nomatch z))⟩
    · cases e; cases hx.int; cases hy.bl
      exact op_add_ib pins s σ H _ _ v u Q I rx ry ⟨_, _, rfl, rfl, q _ _ (Same.refl _) (.of (.int _) (fun _ z => nomatch z))⟩
    · split at e
      · cases e; cases hx.str; cases hy.str
        exact op_add_str pins s σ H _ _ v u Q I rx ry ⟨_, _, rfl, rfl, by omega, q _ _ (Same.refl _) (.of (.str _) (fun _ z => nomatch z))⟩
      · cases e
    · split at e
      · cases e
        obtain ⟨a, vs, rfl, ha, ra⟩ := hx.lst
        obtain ⟨b, ws, rfl, hb, rb⟩ := hy.lst
        have l1 := ra.length
        have l2 := rb.length
        refine op_cat pins s σ H _ _ v u Q I rx ry ⟨_, _, _, _, rfl, rfl, ha, hb, by omega, fun p hp => q _ _ (same_upd hp) ?_⟩
        exact (new_at hp (ra.append rb)).rn dm
      · cases e
    · split at e
      · cases e
        obtain ⟨a, oa, vs, rfl, ha, da, ra⟩ := hx.tup
        obtain ⟨b, ob, ws, rfl, hb, db, rb⟩ := hy.tup
        have l1 := ra.length
        have l2 := rb.length
        have nl : ∀ (xs : List D) (ds : List D), PyData.tuple xs ≠ .list ds := fun _ _ z => nomatch z
        refine op_catF pins s σ H _ _ v u Q I rx ry ⟨_, _, _, _, rfl, rfl, SqT.fr ha, SqT.fr hb, by omega, fun z => ?_, fun _ z => ?_, fun _ _ p o hp ho => ?_⟩
        · subst z
          cases ra
          rcases hy with hy | ⟨_, _, _, _, z, _⟩
          · exact q _ _ (Same.refl _) (.of hy (nl _))
          · cases z
        · subst z
          cases rb
          rcases hx with hx | ⟨_, _, _, _, z, _⟩
          · rw [List.append_nil] at q
            exact q _ _ (Same.refl _) (.of hx (nl _))
          · cases z
        · exact q _ _ (same_upd hp) (.of (tup_at dm hp ho (ra.append rb)) (nl _))
      · cases e
    · cases e
  | mul =>
    change mulD dx dy = _ at e
    unfold mulD at e
    split at e
    · split at e
      · cases e; cases hx.int; cases hy.int
        rename_i hc
        have hc' := hc
        rw [Bool.or_eq_true, smallI_iff, smallI_iff] at hc'
        exact op_mul pins s σ H _ _ v u Q I rx ry ⟨_, _, rfl, rfl, hc', q _ _ (Same.refl _) (.of (.int _) (fun _ z => nomatch z))⟩
      · cases e
    · split at e
      · rename_i hc
        cases e; cases hy.int
        obtain ⟨a, vs, rfl, ha, ra⟩ := hx.lst
        have l1 := ra.length
        rw [Bool.and_eq_true, tinyI_iff, Nat.ble_eq] at hc
        refine op_rep pins s σ H _ _ v u Q I rx ry ⟨_, _, _, rfl, rfl, ha, by omega, by omega, by rw [l1, hz]; exact hc.2, fun p hp => q _ _ (same_upd hp) ?_⟩
        exact (new_at hp (ra.rep _)).rn dm
      · cases e
    · split at e
      · rename_i ta tk hc
        cases e; cases hy.int
        rw [Bool.and_eq_true, Bool.and_eq_true, Bool.and_eq_true, decide_eq_true_eq, decide_eq_true_eq, Nat.ble_eq] at hc
        obtain ⟨a, oa, vs, rfl, ha, da, ra⟩ := hx.tup
        have l1 := ra.length
        have nl : ∀ (xs : List D) (ds : List D), PyData.tuple xs ≠ .list ds := fun _ _ z => nomatch z
        refine op_repF pins s σ H _ _ v u Q I rx ry ⟨_, _, _, rfl, rfl, SqT.fr ha, ?_, hc.2.1, hc.2.2.1, by omega, fun z => ?_, fun z p o hp ho => ?_⟩
        · intro z
          subst z
          cases ra
          simp at hc
        · subst z
          rcases hx with hx | ⟨_, _, _, _, z, _⟩
          · refine q _ _ (Same.refl _) (.of ?_ (nl _))
            simpa using hx
          · cases z
        · exact q _ _ (same_upd hp) (.of (tup_at dm hp ho (ra.rep _)) (nl _))
      · cases e
    · cases e
  | sub =>
    unfold binD at e
    split at e <;> first | contradiction | skip
    all_goals (try (cases e; cases hx.int; cases hy.int
                    exact op_sub pins s σ H _ _ v u Q I rx ry ⟨_, _, rfl, rfl, q _ _ (Same.refl _) (.of (.int _) (fun _ z => nomatch z))⟩))
  | fdiv =>
    unfold binD at e
    split at e <;> first | contradiction | skip
    all_goals (try (split at e <;> first | (cases e; cases hx.int; cases hy.int
                                            exact op_fdivW pins s σ H _ _ v u Q I rx ry ⟨_, _, rfl, rfl, (by assumption), q _ _ (Same.refl _) (.of (.int _) (fun _ z => nomatch z))⟩) | contradiction))
  | mod =>
    unfold binD at e
    split at e <;> first | contradiction | skip
    all_goals (try (split at e <;> first | (cases e; cases hx.int; cases hy.int
                                            exact op_mod pins s σ H _ _ v u Q I rx ry ⟨_, _, rfl, rfl, (by assumption), q _ _ (Same.refl _) (.of (.int _) (fun _ z => nomatch z))⟩) | contradiction))
  | pow =>
    unfold binD at e
    split at e <;> first | contradiction | skip
    all_goals (try (split at e <;> first | (cases e; cases hx.int; cases hy.int
                                            exact op_pow pins s σ H _ _ v u Q I rx ry ⟨_, _, rfl, rfl, (by assumption), q _ _ (Same.refl _) (.of (.int _) (fun _ z => nomatch z))⟩) | contradiction))
  | shl =>
    unfold binD at e
    split at e <;> first | contradiction | skip
    all_goals (try (split at e <;> first | (cases e; cases hx.int; cases hy.int
                                            exact op_shl pins s σ H _ _ v u Q I rx ry ⟨_, _, rfl, rfl, (by assumption), q _ _ (Same.refl _) (.of (.int _) (fun _ z => nomatch z))⟩) | contradiction))
end
end Pi

set_option Elab.async false
set_option linter.all false
set_option maxRecDepth 100000
set_option maxHeartbeats 4000000
/-! Pi3m: tables: looked into, filled. -/
namespace Pi
open PySem PySem.Spec PyProof.Rows L2
variable [MP]
/-- the table at a, all told -/
structure MT (P : Program) (w : World) (H : Hp) (a : Addr) (t : D) (kn : List (Int × Int)) (es : Array DictEntry) (m : Nat) (xs : List (List Key × Addr × Value)) : Prop where
  knw : knownZ t = some kn
  at_ : H a = some (MemO a es m)
  mark : m / 2 = kcode kn
  ents : es.toList = xs.map (entryOfKey (tupleKind (mixKind P w)))
  nd : (xs.map (·.1)).Nodup
  sys : (a == sysModules) = false
  good : ∀ x ∈ xs, MEnt H kn x
theorem Mm.mt {P : Program} {w : World} (mp : MP.P = P ∧ MP.w = w) {H : Hp} {a : Addr} {t : D} (h : Mm H a t) : ∃ kn es m xs, MT P w H a t kn es m xs := by
  obtain ⟨rfl, rfl⟩ := mp
  obtain ⟨kn, es, m, xs, e1, e2, e3, e4, e5, e6, e7⟩ := h
  exact ⟨kn, es, m, xs, e1, e2, e3, e4, e5, e6, e7⟩
theorem MT.mm {P : Program} {w : World} (mp : MP.P = P ∧ MP.w = w) {H : Hp} {a : Addr} {t : D} {kn : List (Int × Int)} {es : Array DictEntry} {m : Nat} {xs : List (List Key × Addr × Value)} (h : MT P w H a t kn es m xs) : Mm H a t := by
  obtain ⟨rfl, rfl⟩ := mp
  exact ⟨kn, es, m, xs, h.knw, h.at_, h.mark, h.ents, h.nd, h.sys, h.good⟩
section
variable {P : Program} {w : World} {H : Hp} {h : Heap} {a b : Addr} {t : D} {kn : List (Int × Int)} {es : Array DictEntry} {m : Nat} {xs : List (List Key × Addr × Value)} {ks : List Int} {ob : Obj}
theorem inl_map (ks : List Int) : (ks.map (Sum.inl : Int → Key)).map kV = ks.map V.int := by
  rw [List.map_map]; rfl
theorem inl_inj : ∀ {ks ls : List Int}, ks.map (Sum.inl : Int → Key) = ls.map Sum.inl → ks = ls
  | [], [], _ => rfl
  | [], _ :: _, e => by simp at e
  | _ :: _, [], e => by simp at e
  | x :: xs, y :: ys, e => by
    simp only [List.map_cons, List.cons.injEq] at e
    have e1 : x = y := Sum.inl.inj e.1
    rw [e1, inl_inj e.2]
theorem key_fz (ok : HOk P w H h) (e : H b = some (.frz ob (.tup (ks.map V.int)))) : (tupleKind (mixKind P w)).is h (ks.map Sum.inl) b := by
  obtain ⟨_, _, its, r, o, h1, h2, n, h3⟩ := (show h.get? b = some ob ∧ ObjOk P w H h b (.tup (ks.map V.int)) from ok b _ e)
  rw [← inl_map] at r
  exact ⟨o, its.toArray, n, h1, h2, h3, by simpa using items_are r⟩
theorem MT.dict (M : MT P w H a t kn es m xs) (ok : HOk P w H h) : h.DictOfH (tupleKind (mixKind P w)) a xs := by
  obtain ⟨⟨o, ep, h1, h2, h3, _⟩, _⟩ := (show mphi a es m h ∧ _ from ok a _ M.at_)
  refine ⟨o, es, ep, h1, h2, h3, M.ents, fun x hx => ?_, M.nd⟩
  obtain ⟨ks, n, tk, ob, q1, q2, _, _⟩ := (M.good x hx).ok
  rw [q1]
  exact key_fz ok q2
theorem MT.len (M : MT P w H a t kn es m xs) : xs.length ≤ 256 := by
  have h1 : (xs.map (·.1)).length ≤ ((subsZ range8).map fun ks => ks.map (Sum.inl : Int → Key)).length := by
    refine nodup_sub_len M.nd fun k hk => ?_
    obtain ⟨x, hx, rfl⟩ := List.mem_map.mp hk
    obtain ⟨ks, n, tk, ob, q1, _, _, q4⟩ := (M.good x hx).ok
    refine List.mem_map.mpr ⟨ks, subsZ_mem ?_, q1.symm⟩
    unfold memoG at q4
    split at q4
    · rename_i c; exact List.isSublist_iff_sublist.mp c
    · cases q4
  rw [List.length_map, List.length_map, show (subsZ range8).length = 256 by decide] at h1
  exact h1
end
/-- the table has n for ks -/
def MHas (P : Program) (w : World) (H : Hp) (a : Addr) (t : D) (ks : List Int) (n : Int) : Prop := ∃ kn es m xs, MT P w H a t kn es m xs ∧ memoG kn ks = some n ∧ ∃ p tk, atKey xs (ks.map Sum.inl) = some p ∧ p.2 = Value.int n tk
section
variable {X : Cx} {pins : List (Addr × Obj)} {σ : L2.St} {H : Hp} {s : Shared} {a b : Addr} {t : D} {ks : List Int} {ob : Obj} {A : Around} {E : Value → Shared → Prop}
theorem atKey_mem {K : Type} [DecidableEq K] : ∀ {xs : List (K × Addr × Value)} {k : K} {p : Addr × Value}, atKey xs k = some p → (k, p) ∈ xs
  | [], k, p, h => by cases h
  | x :: xs, k, p, h => by
    unfold atKey at h
    rw [List.find?_cons] at h
    split at h
    · rename_i c
      have c' : x.1 = k := by simpa using c
      cases h
      rw [← c']
      exact List.mem_cons_self
    · exact List.mem_cons_of_mem _ (atKey_mem h)
theorem memo_notIn {Q : Value → Shared → Prop} (mp : MP.P = X.prog ∧ MP.w = X.w) (hu : A.units + 1 < cLine) (I : L2.Inv X pins σ H s) (M : Mm H a t) (hk : H b = some (.frz ob (.tup (ks.map V.int))))
    (h1 : ∀ n s', L2.Inv X pins σ H s' → MHas X.prog X.w H a t ks n → Q (.bool false) s') (h2 : ∀ s', L2.Inv X pins σ H s' → Q (.bool true) s') : wpAny (model X.prog X.w) A (compareOp .NotIn (.ref b) (.ref a)) Q E s := by
  obtain ⟨kn, es, m, xs, mt⟩ := M.mt mp
  refine wpAny_notIn_heap (tupleKind_room_in1 hu) (key_fz I.hok hk) mt.sys (mt.dict I.hok) ?_
  cases e : atKey xs (ks.map Sum.inl) with
  | none => exact h2 _ (I.tok _)
  | some p =>
    obtain ⟨ks', n, tk, ob', q1, _, q3, q4⟩ := (mt.good _ (atKey_mem e)).ok
    have e1 : ks = ks' := inl_inj q1
    subst e1
    exact h1 n _ (I.tok _) ⟨kn, es, m, xs, mt, q4, p, tk, e, q3⟩
theorem memo_get {Q : Value → Shared → Prop} (hu : A.units + 1 < cLine) (I : L2.Inv X pins σ H s) {n : Int} (M : MHas X.prog X.w H a t ks n) (hk : H b = some (.frz ob (.tup (ks.map V.int))))
    (h : ∀ tk s', L2.Inv X pins σ H s' → Q (.int n tk) s') : wpAny (model X.prog X.w) A (getItem (.ref a) (.ref b)) Q E s := by
  obtain ⟨kn, es, m, xs, mt, _, p, tk, e, e2⟩ := M
  refine wpAny_getItem_heap (tupleKind_room_in1 hu) (key_fz I.hok hk) (mt.dict I.hok) e ?_
  rw [e2]
  exact h tk _ (I.tok _)
/-- the table, filled -/
theorem memo_set {Q : Unit → Shared → Prop} (mp : MP.P = X.prog ∧ MP.w = X.w) (hu : A.units + 1 < cLine) (I : L2.Inv X pins σ H s) (M : Mm H a t) (hk : H b = some (.frz ob (.tup (ks.map V.int)))) {n : Int} {tk : Tok} {kn0 : List (Int × Int)} (hkn : knownZ t = some kn0) (hg : memoG kn0 ks = some n)
    (h : ∀ H' s', Same H H' → (∀ c, c ≠ a → H' c = H c) → L2.Inv X pins σ H' s' → MHas X.prog X.w H' a t ks n → Q () s') : wpAny (model X.prog X.w) A (setItem (.ref a) (.ref b) (.int n tk)) Q E s := by
  obtain ⟨kn, es, m, xs, mt⟩ := M.mt mp
  have ekn : kn0 = kn := Option.some.inj (hkn.symm.trans mt.knw)
  subst ekn
  have hlen := mt.len
  refine wpAny_setItem_heap (hsz := by rw [sizeLine_eq]; omega) (tupleKind_room_in1 hu) (key_fz I.hok hk) (mt.dict I.hok) fun h' dd hs => ?_
  obtain ⟨o', es', ep', q1, q2, q3, q4, q5, q6⟩ := id dd
  obtain ⟨m', hm1, hm2⟩ : ∃ m', m' / 2 = kcode kn0 ∧ ep' ≠ m' := by
    by_cases c : ep' = 2 * kcode kn0
    · exact ⟨2 * kcode kn0 + 1, by omega, by omega⟩
    · exact ⟨2 * kcode kn0, by omega, c⟩
  have ha : H a = some (MemO a es m) := mt.at_
  have nef : ∀ c o u, H c = some (.frz o u) → c ≠ a := fun c o u e => ne_of e ha (fun z => nomatch z)
  have good' : ∀ x ∈ storedH xs (ks.map Sum.inl) b (.int n tk), MEnt (upd H a (MemO a es' m')) kn0 x := fun x hx => by
    have old : ∀ x ∈ xs, MEnt (upd H a (MemO a es' m')) kn0 x := fun x hx => by
      obtain ⟨ks', n', tk', ob', p1, p2, p3, p4⟩ := (mt.good x hx).ok
      exact ⟨ks', n', tk', ob', p1, by rw [upd_ne (nef _ _ _ p2)]; exact p2, p3, p4⟩
    unfold storedH at hx
    split at hx
    · obtain ⟨y, hy, rfl⟩ := List.mem_map.mp hx
      obtain ⟨ks', n', tk', ob', p1, p2, p3, p4⟩ := (old y hy).ok
      unfold putAt
      split
      · rename_i c
        have e1 : ks' = ks := inl_inj (p1.symm.trans c)
        subst e1
        exact ⟨ks', n, tk, ob', p1, p2, rfl, hg⟩
      · exact ⟨ks', n', tk', ob', p1, p2, p3, p4⟩
    · rcases List.mem_append.mp hx with hx | hx
      · exact old x hx
      · rw [List.mem_singleton.mp hx]
        exact ⟨ks, n, tk, ob, rfl, by rw [upd_ne (nef _ _ _ hk)]; exact hk, rfl, hg⟩
  have mt' : MT X.prog X.w (upd H a (MemO a es' m')) a t kn0 es' m' (storedH xs (ks.map Sum.inl) b (.int n tk)) := ⟨hkn, upd_same, hm1, q4, q6, mt.sys, good'⟩
  have I' : L2.Inv X pins σ (upd H a (MemO a es' m')) { s with heap := h', toks := s.toks + (tupleKind (mixKind X.prog X.w)).draws (ks.map Sum.inl) } :=
    d_write I (by rw [ha]; exact True.intro) hs ⟨o', q1⟩ ⟨⟨o', ep', q1, q2, q3, hm2⟩, ⟨o', q1⟩, fun h1 h2 ⟨o, ep, z1, z2⟩ k => ⟨o, ep, k o z1, z2⟩⟩
  refine h _ _ ⟨fun c o e nm => ?_, fun c o e im => ?_, fun c t' mc => ?_⟩ (fun c hc => upd_ne hc) I' ⟨kn0, es', m', _, mt', hg, ?_⟩
  · by_cases hc : c = a
    · subst hc; rw [ha] at e; cases e; exact (nm ⟨es, m, rfl⟩).elim
    · rw [upd_ne hc]; exact e
  · by_cases hc : c = a
    · subst hc; exact ⟨_, upd_same, es', m', rfl⟩
    · exact ⟨o, by rw [upd_ne hc]; exact e, im⟩
  · obtain ⟨kn2, es2, m2, xs2, mt2⟩ := mc.mt mp
    by_cases hc : c = a
    · subst hc
      have e1 := mt2.at_
      rw [ha] at e1
      have e2 : mphi c es m = mphi c es2 m2 := by
        have := Option.some.inj e1
        unfold MemO at this
        exact HO.ext.inj this
      obtain ⟨e3, e4⟩ := mphi_inj e2
      have small : ∀ {t : D} {l : List (Int × Int)}, knownZ t = some l → ∀ p ∈ l, smallP p := fun {t l} e => by
        unfold knownZ at e
        split at e
        · exact pairsZ_small e
        · cases e
      have e5 : kn2 = kn0 := kcode_inj (small mt2.knw) (small hkn) (by rw [← mt2.mark, ← mt.mark, e4])
      subst e5
      exact MT.mm mp (t := t') ⟨mt2.knw, mt'.at_, mt'.mark, mt'.ents, mt'.nd, mt'.sys, mt'.good⟩
    · refine MT.mm mp (t := t') ⟨mt2.knw, by rw [upd_ne hc]; exact mt2.at_, mt2.mark, mt2.ents, mt2.nd, mt2.sys, fun x hx => ?_⟩
      obtain ⟨ks', n', tk', ob', p1, p2, p3, p4⟩ := (mt2.good x hx).ok
      exact ⟨ks', n', tk', ob', p1, by rw [upd_ne (nef _ _ _ p2)]; exact p2, p3, p4⟩
  · have key : ∃ p tk', atKey (storedH xs (ks.map Sum.inl) b (.int n tk)) (ks.map Sum.inl) = some p ∧ p.2 = Value.int n tk' := by
      cases e : atKey xs (ks.map Sum.inl) with
      | none =>
        refine ⟨(b, .int n tk), tk, atKey_of_get q6 (i := xs.length) ?_, rfl⟩
        rw [storedH_new e]
        simp
      | some p =>
        have hm : ((ks.map Sum.inl : List Key), p.1, Value.int n tk) ∈ storedH xs (ks.map Sum.inl) b (.int n tk) := by
          rw [storedH_old e]
          refine List.mem_map.mpr ⟨_, atKey_mem e, ?_⟩
          unfold putAt
          rw [if_pos rfl]
        obtain ⟨i, hi⟩ := List.mem_iff_getElem?.mp hm
        exact ⟨_, tk, atKey_of_get q6 hi, rfl⟩
    exact key
end
end Pi

set_option Elab.async false
set_option linter.all false
set_option maxRecDepth 100000
set_option maxHeartbeats 4000000
/-! Pi4: comparisons, subscripts, built-ins on data. -/
namespace Pi
open PySem PySem.Spec PyProof.Rows L2
variable [MP]

/-- the script's own form -/
def isScr : List (D × D) → Bool
  | [] => true
  | (.int _, .none) :: r => isScr r
  | _ => false
omit [MP] in
theorem isScr_map : ∀ ns : List Int, isScr (ns.map fun n => ((PyData.int n : D), (PyData.none : D))) = true
  | [] => rfl
  | n :: ns => isScr_map ns
/-- the script as the list that it is -/
def unscr : D → D
  | .dict kvs => if isScr kvs then .list (kvs.map (·.1)) else .dict kvs
  | d => d
omit [MP] in
theorem unscr_scr (ns : List Int) : unscr (scr ns) = .list (ns.map PyData.int) := by
  unfold unscr scr
  simp only [isScr_map, if_true, List.map_map, Function.comp_def]
theorem dpAll_ints {K : PySem.W.Frag} {H : Hp} : ∀ ns : List Int, DpAll K H (ns.map V.int) (ns.map PyData.int)
  | [] => .nil
  | n :: ns => .cons (.int n) (dpAll_ints ns)
theorem Rq.dpS {K : PySem.W.Frag} {H : Hp} {O : List Addr} {v : V} {d : D} (h : Rq K H O v d) (c : (unscr d).canLay0 = true) : Dp K H v (unscr d) := by
  rcases h with h | ⟨a, vs, ds', rfl, rfl, h, r⟩
  · have h' := h.mono Fz.sub
    cases h' with
    | scr hs => rw [unscr_scr]; exact .lst hs (dpAll_ints _)
    | memo hm => simp [memoD, unscr, isScr, PyData.canLay0] at c
    | fn hm => simp [fnD, unscr, isScr, PyData.canLay0] at c
    | non => exact .non
    | bl b => exact .bl b
    | int b => exact .int b
    | str b => exact .str b
    | lst h1 h2 => exact (Rp.lst h1 h2).dp c
    | tup h1 h2 h3 => exact (Rp.tup h1 h2 h3).dp c
  · exact .lst (.of h) ((r.mono Fz.sub).dp (by simpa [unscr, PyData.canLay0] using c))

/-! ### comparisons -/
inductive Co where | lt | le | gt | ge | eq | ne | isin | notin
  deriving DecidableEq
def Co.op : Co → CmpOp
  | .lt => .Lt | .le => .LtE | .gt => .Gt | .ge => .GtE | .eq => .Eq | .ne => .NotEq | .isin => .In | .notin => .NotIn
def asInts : List D → Option (List Int)
  | [] => some []
  | .int i :: r => (asInts r).map (i :: ·)
  | _ :: _ => none
omit [MP] in
theorem asInts_eq : ∀ {ds : List D} {ns : List Int}, asInts ds = some ns → ds = ns.map PyData.int
  | [], ns, h => by cases h; rfl
  | .int i :: r, ns, h => by
    unfold asInts at h
    cases q : asInts r with
    | none => rw [q] at h; cases h
    | some ms => rw [q] at h; cases h; rw [asInts_eq q]; rfl
  | .none :: _, _, h => by cases h
  | .bool _ :: _, _, h => by cases h
  | .str _ :: _, _, h => by cases h
  | .list _ :: _, _, h => by cases h
  | .tuple _ :: _, _, h => by cases h
  | .dict _ :: _, _, h => by cases h
omit [MP] in
@[simp] theorem asInts_map (ns : List Int) : asInts (ns.map PyData.int) = some ns := by
  induction ns with
  | nil => rfl
  | cons n ns ih => simp [asInts, ih]
def flatD : D → Bool
  | .none | .bool _ | .int _ | .str _ => true
  | _ => false
def eqD (x y : D) : R Bool := if SeqAt.shaped (unscr x) && SeqAt.shaped (unscr y) then .ok (PyData.eqv (unscr x) (unscr y)) else .bad
def inD : D → D → R Bool
  | x, .list ds => if SeqAt.shaped x && SeqAt.shaped (.list ds) then .ok (ds.any fun z => PyData.eqv z x) else .bad
  | x, .tuple ds => if flatD x && ds.all flatD then .ok (ds.any fun z => PyData.eqv z x) else .bad
  | .str ⟨a⟩, .str z => match a.toList with
    | [c] => .ok (decide (c ∈ z.cps.toList))
    | _ => .bad
  | _, _ => .bad
def ltD : D → D → R Bool
  | .int a, .int b => .ok (decide (a < b))
  | .tuple a, .tuple b => match asInts a, asInts b with
    | some ns, some ms => .ok (HT.lexLt ns ms)
    | _, _ => .bad
  | _, _ => .bad
def boolR : R Bool → R D
  | .ok b => .ok (.bool b)
  | .exc c => .exc c
  | .bad => .bad
omit [MP] in
@[simp] theorem boolR_ok (b : Bool) : boolR (.ok b) = .ok (.bool b) := rfl
def cmpD : Co → D → D → R D
  | .lt, x, y => boolR (ltD x y)
  | .le, .int a, .int b => .ok (.bool (decide (a ≤ b)))
  | .gt, .int a, .int b => .ok (.bool (decide (b < a)))
  | .ge, .int a, .int b => .ok (.bool (decide (b ≤ a)))
  | .eq, x, y => boolR (eqD x y)
  | .ne, x, y => boolR (match eqD x y with | .ok b => .ok (!b) | r => r)
  | .isin, x, y => boolR (inD x y)
  | .notin, x, y => boolR (match inD x y with | .ok b => .ok (!b) | r => r)
  | _, _, _ => .bad

theorem flat_rp {K : PySem.W.Frag} {H : Hp} {v : V} {d : D} (h : Rp K H v d) (f : flatD d = true) : flatV v = true := by
  cases h <;> first | rfl | simp [flatD, scr, memoD, fnD] at f
theorem eq_rp {K : PySem.W.Frag} {H : Hp} {v w : V} {d e : D} (h : Rp K H v d) (h' : Rp K H w e) (f : flatD d = true) (f' : flatD e = true) : eqV v w = PyData.eqv d e := by
  cases h <;> first | (simp [flatD, scr, memoD, fnD] at f; done) | skip
  all_goals (cases h' <;> first | (simp [flatD, scr, memoD, fnD] at f'; done) | (simp [eqV, PyData.eqv]; done) | rfl)
theorem any_rp {K : PySem.W.Frag} {H : Hp} {w : V} {e : D} (h' : Rp K H w e) (f' : flatD e = true) : ∀ {vs : List V} {ds : List D}, RpL K H vs ds → ds.all flatD = true → (vs.any fun y => eqV y w) = ds.any fun z => PyData.eqv z e
  | _, _, .nil, _ => rfl
  | _, _, .cons h t, f => by
    rw [List.all_cons, Bool.and_eq_true] at f
    rw [List.any_cons, List.any_cons, eq_rp h h' f.1 f', any_rp h' f' t f.2]
theorem all_flat {K : PySem.W.Frag} {H : Hp} : ∀ {vs : List V} {ds : List D}, RpL K H vs ds → ds.all flatD = true → vs.all flatV = true
  | _, _, .nil, _ => rfl
  | _, _, .cons h t, f => by
    rw [List.all_cons, Bool.and_eq_true] at f ⊢
    exact ⟨flat_rp h f.1, all_flat t f.2⟩
omit [MP] in
theorem nlB (b : Bool) (ds : List D) : PyData.bool b ≠ .list ds := fun z => nomatch z
omit [MP] in
theorem nlI (b : Int) (ds : List D) : PyData.int b ≠ .list ds := fun z => nomatch z
section
variable {X : Cx}
omit [MP] in
theorem boolR_inv {r : R Bool} {d : D} (h : boolR r = .ok d) : ∃ b, r = .ok b ∧ d = .bool b := by
  cases r with
  | ok b => cases h; exact ⟨b, rfl, rfl⟩
  | exc c => cases h
  | bad => cases h
omit [MP] in
theorem eqD_inv {x y : D} {b : Bool} (h : eqD x y = .ok b) : SeqAt.shaped (unscr x) = true ∧ SeqAt.shaped (unscr y) = true ∧ b = PyData.eqv (unscr x) (unscr y) := by
  unfold eqD at h
  split at h
  · rename_i c
    rw [Bool.and_eq_true] at c
    cases h
    exact ⟨c.1, c.2, rfl⟩
  · cases h
theorem in_any (neg : Bool) (hu : X.A.units + 65 < cLine) {pins : List (Addr × Obj)} {s : Shared} {σ : L2.St} {H : Hp} {x y : V} {v u : Value} {Q : VK} (I : L2.Inv X pins σ H s) (rx : RelV x v) (ry : RelV y u)
    {O : List Addr} {dx dy : D} {b : Bool} (hx : Rq X.K H O x dx) (hy : Rq X.K H O y dy) (e : inD dx dy = .ok b) (q : Q (.bl (if neg then !b else b)) H) :
    wpAny (model X.prog X.w) X.A (compareOp (if neg then .NotIn else .In) v u) (EP X pins σ Q) X.xe s := by
  unfold inD at e
  split at e
  · split at e
    · rename_i c
      rw [Bool.and_eq_true] at c
      cases e
      cases neg with
      | false => exact op_inD hu pins s σ H _ _ v u Q I rx ry ⟨_, _, hx.dp (SeqAt.canLay_of_shaped c.1), hy.dp (SeqAt.canLay_of_shaped c.2), c.1, c.2, q⟩
      | true => exact op_notInD hu pins s σ H _ _ v u Q I rx ry ⟨_, _, hx.dp (SeqAt.canLay_of_shaped c.1), hy.dp (SeqAt.canLay_of_shaped c.2), c.1, c.2, q⟩
    · cases e
  · split at e
    · rename_i c
      rw [Bool.and_eq_true] at c
      cases e
      obtain ⟨a, o, vs, rfl, ha, _, ra⟩ := hy.tup
      rcases hx with hx | ⟨_, _, _, _, z, _⟩
      · cases neg with
        | false =>
          refine op_in_seq pins s σ H _ _ v u Q I rx ry ⟨a, vs, rfl, .inr (SqT.fr ha), flat_rp hx c.1, all_flat ra c.2, ?_⟩
          rw [if_neg (by decide)]; unfold inV; rw [any_rp hx c.1 ra c.2]; exact q
        | true =>
          refine op_notIn_seq pins s σ H _ _ v u Q I rx ry ⟨a, vs, rfl, .inr (SqT.fr ha), flat_rp hx c.1, all_flat ra c.2, ?_⟩
          rw [if_pos rfl]; unfold inV; rw [any_rp hx c.1 ra c.2]; exact q
      · subst z; simp [flatD] at c
    · cases e
  · split at e
    · rename_i ar z _ ch hc
      cases e
      cases hx.str; cases hy.str
      have ea : ar = #[ch] := by
        cases ar with
        | mk l => cases hc; rfl
      subst ea
      cases neg with
      | false => exact op_in_sign pins s σ H _ _ v u Q I rx ry ⟨ch, z, rfl, rfl, q⟩
      | true => exact op_notIn_sign pins s σ H _ _ v u Q I rx ry ⟨ch, z, rfl, rfl, q⟩
    · cases e
  · cases e
theorem op_cmpD (o : Co) (hu : X.A.units + 65 < cLine) : OpR X (compareOp o.op) (rD X.K (cmpD o)) := by
  intro pins s σ H x y v u Q I rx ry h
  obtain ⟨O, dx, dy, d, dm, hx, hy, e, q⟩ := h
  have fin : ∀ b, d = .bool b → Q (.bl b) H := fun b z => by
    subst z
    exact q _ _ (Same.refl _) (.of (.bl _) (nlB _))
  cases o with
  | eq =>
    obtain ⟨b, e1, e2⟩ := boolR_inv e
    obtain ⟨s1, s2, e3⟩ := eqD_inv e1
    exact op_eqD (by omega) pins s σ H _ _ v u Q I rx ry ⟨_, _, hx.dpS (SeqAt.canLay_of_shaped s1), hy.dpS (SeqAt.canLay_of_shaped s2), s1, s2, by rw [← e3]; exact fin b e2⟩
  | ne =>
    obtain ⟨b, e1, e2⟩ := boolR_inv e
    cases e4 : eqD dx dy with
    | ok c =>
      rw [e4] at e1
      have e5 : (!c) = b := R.ok.inj e1
      obtain ⟨s1, s2, e3⟩ := eqD_inv e4
      exact op_neD (by omega) pins s σ H _ _ v u Q I rx ry ⟨_, _, hx.dpS (SeqAt.canLay_of_shaped s1), hy.dpS (SeqAt.canLay_of_shaped s2), s1, s2, by rw [← e3, e5]; exact fin b e2⟩
    | exc c => rw [e4] at e1; cases e1
    | bad => rw [e4] at e1; cases e1
  | isin =>
    obtain ⟨b, e1, e2⟩ := boolR_inv e
    exact in_any false hu I rx ry hx hy e1 (fin b e2)
  | notin =>
    obtain ⟨b, e1, e2⟩ := boolR_inv e
    cases e4 : inD dx dy with
    | ok c =>
      rw [e4] at e1
      have e5 : (!c) = b := R.ok.inj e1
      exact in_any true hu I rx ry hx hy e4 (by rw [if_pos rfl, e5]; exact fin b e2)
    | exc c => rw [e4] at e1; cases e1
    | bad => rw [e4] at e1; cases e1
  | lt =>
    obtain ⟨b, e1, e2⟩ := boolR_inv e
    unfold ltD at e1
    split at e1
    · cases e1; cases hx.int; cases hy.int
      exact op_lt pins s σ H _ _ v u Q I rx ry ⟨_, _, rfl, rfl, fin _ e2⟩
    · split at e1
      · rename_i a b' ns ms h1 h2
        cases e1
        rw [asInts_eq h1] at hx
        rw [asInts_eq h2] at hy
        obtain ⟨a, o, vs, rfl, ha, _, ra⟩ := hx.tup
        obtain ⟨b, o', ws, rfl, hb, _, rb⟩ := hy.tup
        have k1 := ra.ints
        have k2 := rb.ints
        subst k1 k2
        exact op_ltT (by omega) pins s σ H _ _ v u Q I rx ry ⟨_, _, ns, ms, rfl, rfl, SqT.fr ha, SqT.fr hb, fin _ e2⟩
      · cases e1
    · cases e1
  | le =>
    unfold cmpD at e
    split at e <;> first | contradiction | skip
    all_goals (try (cases e; cases hx.int; cases hy.int; exact op_le pins s σ H _ _ v u Q I rx ry ⟨_, _, rfl, rfl, fin _ rfl⟩))
  | gt =>
    unfold cmpD at e
    split at e <;> first | contradiction | skip
    all_goals (try (cases e; cases hx.int; cases hy.int; exact op_gt pins s σ H _ _ v u Q I rx ry ⟨_, _, rfl, rfl, fin _ rfl⟩))
  | ge =>
    unfold cmpD at e
    split at e <;> first | contradiction | skip
    all_goals (try (cases e; cases hx.int; cases hy.int; exact op_ge pins s σ H _ _ v u Q I rx ry ⟨_, _, rfl, rfl, fin _ rfl⟩))
/-- a is True, a is not True -/
theorem op_isBD (neg : Bool) : OpR X (compareOp (if neg then .IsNot else .Is)) (fun x y H Q => ∃ a b : Bool, x = .bl a ∧ y = .bl b ∧ Q (.bl (if neg then !decide (a = b) else decide (a = b))) H) := by
  cases neg with
  | false => exact op_isBl
  | true => exact op_notBl

/-! ### subscripts -/
def ixD : D → D → R D
  | .list ds, .int i => match atI ds i with | some d => .ok d | none => .bad
  | .tuple ds, .int i => match atI ds i with | some d => .ok d | none => .bad
  | .dict kvs, .int i => if isScr kvs then (match atI kvs i with | some d => .ok d.1 | none => .bad) else .bad
  | .str z, .int i => if z.length ≤ big then (match atI z.cps.toList i with | some c => .ok (.str ⟨#[c]⟩) | none => .bad) else .bad
  | _, _ => .bad
theorem atI_rp {K : PySem.W.Frag} {H : Hp} {vs : List V} {ds : List D} {i : Int} {d : D} (r : RpL K H vs ds) (h : atI ds i = some d) : ∃ v, atI vs i = some v ∧ Rp K H v d := by
  unfold atI at h ⊢
  rw [r.length]
  cases q : ixN ds.length i with
  | none => rw [q] at h; cases h
  | some j =>
    rw [q] at h
    obtain ⟨v, h1, h2⟩ := r.get (i := j) h
    exact ⟨v, h1, h2⟩
/-- the item, not a new list -/
def rDp (K : PySem.W.Frag) (g : D → D → R D) : R2 := fun x y H Q => ∃ O dx dy d, Dom H O ∧ Rq K H O x dx ∧ Rq K H O y dy ∧ g dx dy = .ok d ∧ ∀ v H', Same H H' → Rp K (Fz H' O) v d → Q v H'
theorem ix_D : IxR X (rDp X.K ixD) := by
  intro ve se pins s σ H x y v u Q I rx ry h hsub
  obtain ⟨O, dx, dy, d, dm, hx, hy, e, q⟩ := h
  have hz := sizeLine_eq
  have hbig : big = 16777216 := rfl
  unfold ixD at e
  split at e
  · split at e
    · rename_i hd
      cases e; cases hy.int
      obtain ⟨a, vs, rfl, ha, ra⟩ := hx.lst
      obtain ⟨w, h1, h2⟩ := atI_rp ra hd
      exact ix_list ve se pins s σ H _ _ v u Q I rx ry ⟨_, _, _, _, rfl, rfl, .of ha, h1, q _ _ (Same.refl _) h2⟩ hsub
    · cases e
  · split at e
    · rename_i hd
      cases e; cases hy.int
      obtain ⟨a, o, vs, rfl, ha, _, ra⟩ := hx.tup
      obtain ⟨w, h1, h2⟩ := atI_rp ra hd
      exact ix_tup ve se pins s σ H _ _ v u Q I rx ry ⟨_, _, _, _, rfl, rfl, SqT.fr ha, h1, q _ _ (Same.refl _) h2⟩ hsub
    · cases e
  · rename_i kvs i
    have hscr : isScr kvs = true := by
      by_cases hscr : isScr kvs = true
      · exact hscr
      · rw [if_neg hscr] at e; cases e
    rw [if_pos hscr] at e
    split at e
    · rename_i d' hd
      cases e; cases hy.int
      rcases hx with hx | ⟨_, _, _, _, z, _⟩
      · generalize hk : PyData.dict kvs = dd at hx
        cases hx with
        | @scr a ns hs =>
          have hk2 : kvs = ns.map fun n => (PyData.int n, PyData.none) := by
            unfold scr at hk
            cases hk; rfl
          have hs' : SqL X.K H a (ns.map V.int) := Fz.sub.seq hs
          have h3 : atI (ns.map V.int) i = some (match d'.1 with | .int n => V.int n | _ => .non) ∧ ∃ n, d'.1 = .int n := by
            subst hk2
            unfold atI at hd ⊢
            rw [List.length_map] at hd ⊢
            cases qq : ixN ns.length i with
            | none => rw [qq] at hd; cases hd
            | some j =>
              rw [qq] at hd
              simp only [Option.bind_some, List.getElem?_map] at hd ⊢
              cases q2 : ns[j]? with
              | none => rw [q2] at hd; cases hd
              | some n => rw [q2] at hd; cases hd; exact ⟨rfl, n, rfl⟩
          obtain ⟨h4, n, h5⟩ := h3
          rw [h5] at h4
          exact ix_list ve se pins s σ H _ _ v u Q I rx ry ⟨_, _, _, _, rfl, rfl, hs', h4, q _ _ (Same.refl _) (by rw [h5]; exact .int n)⟩ hsub
        | memo hm => unfold memoD at hk; cases hk; simp [isScr] at hscr
        | fn hm => unfold fnD at hk; cases hk; simp [isScr] at hscr
        | _ => cases hk
      · cases z
    · cases e
  · split at e
    · split at e
      · rename_i hle _ c hc
        cases e; cases hx.str; cases hy.int
        exact ix_str ve se pins s σ H _ _ v u Q I rx ry ⟨_, _, _, rfl, rfl, by omega, hc, q _ _ (Same.refl _) (.str _)⟩ hsub
      · cases e
    · cases e
  · cases e
/-- lo, hi of a slice: an int or nothing -/
def cutD (ds : List D) (lo hi : Option Int) : List D := (ds.drop (HT.sIx ds.length 0 lo)).take (HT.sIx ds.length ds.length hi - HT.sIx ds.length 0 lo)
def slD : D → Option Int → Option Int → R D
  | .list ds, lo, hi => .ok (.list (cutD ds lo hi))
  | .tuple ds, lo, hi => .ok (.tuple (cutD ds lo hi))
  | _, _, _ => .bad
theorem cut_rp {K : PySem.W.Frag} {H : Hp} {vs : List V} {ds : List D} (r : RpL K H vs ds) (lo hi : Option Int) : RpL K H (cutV vs lo hi) (cutD ds lo hi) := by
  unfold cutV cutD
  rw [r.length]
  exact (r.drop _).take _
theorem sl_D : SlR X (fun x lo hi H Q => ∃ O dx d, Dom H O ∧ Rq X.K H O x dx ∧ slD dx lo hi = .ok d ∧ ∀ v H', Same H H' → Rn X.K H H' O v d → Q v H') := by
  intro pins s σ H x v vl vu lo hi sl Q I rx hs pl pu h
  obtain ⟨O, dx, d, dm, hx, e, q⟩ := h
  unfold slD at e
  split at e
  · cases e
    obtain ⟨a, vs, rfl, ha, ra⟩ := hx.lst
    exact sl_list pins s σ H _ v vl vu _ _ sl Q I rx hs pl pu ⟨a, vs, rfl, .of ha, fun p hp => q _ _ (same_upd hp) ((new_at hp (cut_rp ra _ _)).rn dm)⟩
  · cases e
    obtain ⟨a, o, vs, rfl, ha, da, ra⟩ := hx.tup
    have nl : ∀ (xs : List D) (ds : List D), PyData.tuple xs ≠ .list ds := fun _ _ z => nomatch z
    refine sl_tupF pins s σ H _ v vl vu lo hi sl Q I rx hs pl pu ⟨a, vs, rfl, SqT.fr ha, fun z => ?_, fun z p o' hp ho => ?_⟩
    · rcases hx with hx | ⟨_, _, _, _, z, _⟩
      · refine q _ _ (Same.refl _) (.of ?_ (nl _))
        have hl := ra.length
        have key : ∀ (es : List D), vs.length = es.length → cutD es lo hi = es := fun es hl => by
          unfold cutD
          rw [← hl, z.1, z.2, List.drop_zero, Nat.sub_zero, hl, List.take_length]
        rw [key _ hl]
        exact hx
      · cases z
    · exact q _ _ (same_upd hp) (.of (tup_at dm hp ho (cut_rp ra _ _)) (nl _))
  · cases e
end
end Pi

set_option Elab.async false
set_option linter.all false
set_option maxRecDepth 100000
set_option maxHeartbeats 4000000
/-! Pi4r: t[::-1], sorted(pairs). -/
namespace Pi
open PySem PySem.Spec PyProof.Rows L2
section
variable {prog : Program} {w : World} {A : Around} {E : Value → Shared → Prop} {s : Shared}
theorem places_rev (n : Nat) : Builtin.Slice.slicePlaces ((n : Int) - 1) (-1) (-1) = n := by
  unfold Builtin.Slice.slicePlaces
  have h1 : ¬ ((-1 : Int) > 0) := by decide
  simp only [h1, if_false]
  split
  · have : (-(-1) : Int) = 1 := by decide
    simp only [this, Int.ediv_one]
    omega
  · omega
theorem applied_rev {sl : Addr} {vs : Value} {n : Nat} {Q : Int × Int × Nat → Shared → Prop} (hs : s.heap.IsSliceOf sl .none .none vs) (ps : IsPart vs (some (-1)))
    (h : Q ((n : Int) - 1, -1, n) s) : wpAny (model prog w) A (Builtin.Slice.sliceApplied (.ref sl) (pure (n : Int))) Q E s := by
  obtain ⟨os, hos, hcs, hds⟩ := id hs
  unfold Builtin.Slice.sliceApplied Builtin.Slice.sliceFields
  refine wpAny_bind (wpAny_bind (wpAny_field hos hds (x := .none) rfl (wpAny_bind (wpAny_field hos hds (x := .none) rfl (wpAny_bind (wpAny_field hos hds (x := vs) rfl (wpAny_pure ?_)))))))
  refine wpAny_bind (HT.slicePart_ ps ?_)
  show wpAny _ _ (if ((-1 : Int) == 0) = true then _ else _) _ _ s
  rw [if_neg (by decide)]
  refine wpAny_bind (HT.slicePart_ .none (wpAny_bind (HT.slicePart_ .none (wpAny_bind (wpAny_pure ?_)))))
  show wpAny _ _ (pure ((n : Int) - 1, (-1 : Int), Builtin.Slice.slicePlaces ((n : Int) - 1) (-1) (-1))) _ _ s
  rw [places_rev]
  exact wpAny_pure h
theorem pick_rev (xs : Array Value) : ((List.range xs.size).filterMap fun (m : Nat) => xs[((xs.size : Int) - 1 + (m : Int) * (-1)).toNat]?).toArray = xs.toList.reverse.toArray := by
  have e : (fun (m : Nat) => xs[((xs.size : Int) - 1 + (m : Int) * (-1)).toNat]?) = (fun i => xs[i]?) ∘ fun m => xs.size - 1 - m := by
    funext m
    have : ((xs.size : Int) - 1 + (m : Int) * (-1)).toNat = xs.size - 1 - m := by omega
    rw [this]
    rfl
  rw [e, ← List.filterMap_map, PySem.W.krv_range, List.filterMap_reverse, PySem.W.krv_all]
theorem getItem_tup_rev {t sl : Addr} {items : Array Value} {vs : Value} {Q : Value → Shared → Prop} (ht : IsTup s.heap t items) (hs : s.heap.IsSliceOf sl .none .none vs) (ps : IsPart vs (some (-1)))
    (h : Q (.ref s.heap.objs.size) { s with heap := s.heap.push { cls := .type "tuple", data := .seq items.toList.reverse.toArray } })
    (hsz : items.size ≤ sizeLine) : wpAny (model prog w) A (getItem (.ref t) (.ref sl)) Q E s := by
  have htake : sizeOk (.seq items.toList.reverse.toArray) := by
    show items.toList.reverse.toArray.size ≤ sizeLine
    rw [List.size_toArray, List.length_reverse, Array.length_toList]
    exact hsz
  obtain ⟨os, hos, hcs, hds⟩ := id hs
  have hTs : s.TypeIs (.ref sl) "slice" := ⟨os, hos, hcs⟩
  unfold getItem; try with_reducible refine wpAny_holding ?_
  first | refine wpAny_bind (wpAny_pure ?_) | skip
  refine wpAny_bind (wpAny_sequenceKey ht.typeIs (by decide) ?_); refine wpAny_bind (wpAny_callSpecial?_slot (name := Str.ofString "__getitem__") ht.typeIs PyProof.Rows.slot_tuple_getitem (wpAny_call_entry PyProof.Rows.slot_tuple_getitem ht.typeIs entry_tuple_getitem ?_ (args_tuple_getitem _ _)))
  show wpAny _ _ (Builtin.Tuple.tupleItemsOf (.ref t) >>= _) _ _ s; refine wpAny_bind (tupleItemsOf_ ht ?_)
  refine wpAny_bind (wpAny_typeOf hTs ?_); rw [if_pos (by decide)]
  refine wpAny_bind (applied_rev hs ps ?_)
  have hno : ¬ (((items.size : Int) - 1 == 0 && (-1 : Int) == 1 && items.size == items.size) = true) := by simp
  show wpAny _ _ (if ((items.size : Int) - 1 == 0 && (-1 : Int) == 1 && items.size == items.size) = true then _ else _) _ _ s
  rw [if_neg hno, pick_rev]
  first
    | exact wpAny_bind (m := Builtin.Tuple.tupleExact _) (wpAny_newObj_type (wpAny_pure ⟨_, rfl, wpAny_pure h⟩) htake)
    | exact wpAny_bind (m := Builtin.Tuple.tupleExact _) (wpAny_newObj_type (wpAny_bind (wpAny_pure (wpAny_pure ⟨_, rfl, wpAny_pure h⟩))) htake)
    | exact wpAny_bind (wpAny_bind (m := Builtin.Tuple.tupleExact _) (wpAny_newObj_type (wpAny_pure (wpAny_pure ⟨_, rfl, wpAny_pure h⟩)) htake))
    | exact wpAny_bind (wpAny_bind (m := Builtin.Tuple.tupleExact _) (wpAny_newObj_type (wpAny_pure ⟨_, rfl, wpAny_pure h⟩) htake))
end
section
variable {X : Cx}
/-- l[::-1], t[::-1] -/
def tRev (K : PySem.W.Frag) (te : TE) : TE := fun σ H Q => te σ H fun x H1 => ∃ a xs, x = .ref a ∧ ((SqL K H1 a xs ∧ ∀ p, H1 p = none → Q (.ref p) (upd H1 p (.lst xs.reverse))) ∨ (SqT K H1 a xs ∧ NT H1 xs.reverse Q))
theorem pe_rev {e : Expr} {te : TE} {k : Nat} {p1 p2 p3 pos : Pos} (he : PE X e te) : PE X (.Subscript e (.Slice none none (some (.UnaryOp .USub (.Constant (.int 1) k p1) p2)) p3) pos) (tRev X.K te) := by
  refine ⟨fun pins s σ H Q I h => ?_⟩
  refine Subscript_ (thn (he.run pins s σ H _ I h) fun v s1 ⟨x, H1, I1, r1, q1⟩ => ?_); obtain ⟨a, xs, ex, hh⟩ := q1
  subst ex; cases r1
  have hst : PO X (some (.UnaryOp .USub (.Constant (.int 1) k p1) p2)) (tPart (tUn (rU fun i => .int (-i)) (tC (.int 1)))) := po_some (pe_un un_neg pe_int)
  refine wpAny_Slice (thn (po_none.run pins s1 σ H1 (fun o H2 => o = none ∧ H2 = H1) I1 ⟨rfl, rfl⟩) fun vl s2 ⟨l, H2, I2, pl, el, e2⟩ => ?_); subst el e2
  refine thn (po_none.run pins s2 σ H2 (fun o H3 => o = none ∧ H3 = H2) I2 ⟨rfl, rfl⟩) fun vu s3 ⟨u, H3, I3, pu, eu, e3⟩ => ?_; subst eu e3
  refine thn (hst.run pins s3 σ H3 (fun o H4 => o = some (-1) ∧ H4 = H3) I3 ⟨1, rfl, -1, rfl, rfl, rfl⟩) fun vs s4 ⟨o, H4, I4, ps, eo, e4⟩ => ?_; subst eo e4
  have I5 : Inv X pins σ H4 { s4 with heap := s4.heap.push { cls := .type "slice", data := .fields #[vl, vu, vs] } } := I4.kept (t' := s4.toks) fun b ob q => Heap.get?_push_of_some _ q; show wpAny (model X.prog X.w) X.A (subscriptTail e (.Slice none none (some (.UnaryOp .USub (.Constant (.int 1) k p1) p2)) p3) (.ref a) (.ref s4.heap.objs.size)) (EP X pins σ Q) X.xe { s4 with heap := s4.heap.push { cls := .type "slice", data := .fields #[vl, vu, vs] } }
  rcases hh with ⟨hx, q⟩ | ⟨hx, q⟩
  · obtain ⟨its, r, ht, hz⟩ := I5.list hx
    have hlen := r.length; refine tail_any (ops := [.ref a, .ref s4.heap.objs.size]) ht.isList.typeIs (PySem.slot_list_getitem.lookup) ?_ (by with_unfolding_all rfl)
    refine wpAny_getItem_list_slice ht.isList (Heap.IsSliceOf.new _ vl vu vs) pl pu ps (by decide) ?_ (by rw [List.size_toArray]; omega); rw [PySem.W.krv_pick]
    refine ⟨.ref _, _, I5.laid (t' := s4.toks) (o := .lst xs.reverse) (fun b ob q => Heap.get?_push_of_some _ q) (Nat.le_refl _) ?_, rfl, q _ (I5.hok.fresh (Nat.le_refl _))⟩; exact ⟨by rw [List.length_reverse]; exact hz, _, 0, r.reverse, Heap.get?_push_size _ rfl⟩
  · obtain ⟨its, r, ht, hz⟩ := I5.tuple hx
    have hlen := r.length
    cases pl; cases pu
    refine tail_any (ops := [.ref a, .ref s4.heap.objs.size]) ht.typeIs (PyProof.Rows.slot_tuple_getitem.lookup) ?_ (by with_unfolding_all rfl)
    refine getItem_tup_rev ht (Heap.IsSliceOf.new _ .none .none vs) ps ?_ (by rw [List.size_toArray]; omega)
    exact endT (t' := s4.toks) I5 r.reverse (by rw [List.length_reverse]; exact hz) q
/-! ### sorted(pairs) -/
/-- sorted(l) of a list of pairs of ints -/
theorem cr_sortedF : CallR X (.builtin "sorted") (fun vs H Q => ∃ (a : Addr) (xs : List V) (k : V → Int × Int), vs = [V.ref a] ∧ SqL X.K H a xs ∧ (∀ x ∈ xs, ∃ t, x = V.ref t ∧ SqT X.K H t [.int (k x).1, .int (k x).2]) ∧
    ∀ ys p, SrtO.Srtd (ltP k) ys → SrtO.Stb (ltP k) ys xs → H p = none → Q (.ref p) (upd H p (.lst ys))) := by
  intro pins s σ H vs us Q I r h
  obtain ⟨a, xs, k, rfl, hs, hx, q⟩ := h
  obtain ⟨its, rv, hl, hz⟩ := I.list hs
  obtain ⟨u, rfl, ru⟩ := vals1 r; obtain rfl : u = Value.ref a := ru
  obtain ⟨e1, e2⟩ := refs_back rv fun x m => by
    obtain ⟨t, e, _⟩ := hx x m
    exact ⟨t, e⟩
  refine SrtO.sorted_pairsO (k := fun u => k (backV u)) hl.isList (by rw [← rv.length]; exact hz) (fun v hv => ?_) fun h' d out h1 h2 kp hd hn => ?_; obtain ⟨t, rfl⟩ := e2 v hv
  · have hm : V.ref t ∈ xs := by rw [e1]; exact List.mem_map.mpr ⟨_, hv, rfl⟩
    obtain ⟨t', e, ht⟩ := hx _ hm
    cases e
    obtain ⟨its2, r2, ⟨o, ho, hc, n, hd⟩, _⟩ := I.tuple ht
    obtain ⟨u1, u2, rfl, ri, rj⟩ := vals2 r2
    obtain ⟨t1, rfl⟩ := ri; obtain ⟨t2, rfl⟩ := rj
    exact ⟨t, o, t1, t2, n, rfl, ho, hc, hd⟩
  · have h3 : ∀ u ∈ out, ∃ a, u = Value.ref a := fun u hu => e2 u (h2.perm.mem_iff.mp hu)
    obtain ⟨n, hn⟩ := hn
    have hb : SrtO.Stb (ltP k) (out.map backV) xs := by rw [e1]; exact SrtO.Stb.map (ltP_swo k) backV h2
    exact ⟨.ref d, upd H d (.lst (out.map backV)), I.laid (t' := s.toks) kp hd ⟨by rw [hb.len]; exact hz, out, n, vals_back h3, hn⟩, rfl, q _ d (SrtO.srtd_map h1) hb (I.hok.fresh hd)⟩
end
end Pi

set_option Elab.async false
set_option linter.all false
set_option maxRecDepth 100000
set_option maxHeartbeats 4000000
/-! Pi5s: sorted lists of pairs, as data. -/
namespace Pi
open PySem PySem.Spec PyProof.Rows L2
def pD (p : Int × Int) : D := .tuple [.int p.1, .int p.2]
def asPair : D → Option (Int × Int)
  | .tuple [.int a, .int b] => some (a, b)
  | _ => none
def asPairs : List D → Option (List (Int × Int))
  | [] => some []
  | d :: ds => match asPair d, asPairs ds with | some p, some ps => some (p :: ps) | _, _ => none
theorem asPair_eq {d : D} {p : Int × Int} (h : asPair d = some p) : d = pD p := by
  unfold asPair at h
  split at h
  · cases h; rfl
  · cases h
theorem asPairs_eq : ∀ {ds : List D} {ps : List (Int × Int)}, asPairs ds = some ps → ds = ps.map pD
  | [], ps, h => by cases h; rfl
  | d :: ds, ps, h => by
    unfold asPairs at h
    split at h
    · rename_i p qs h1 h2
      cases h
      rw [List.map_cons, asPair_eq h1, asPairs_eq h2]
    · cases h
def leP (p q : Int × Int) : Prop := p.1 < q.1 ∨ (p.1 = q.1 ∧ p.2 ≤ q.2)
instance (p q : Int × Int) : Decidable (leP p q) := inferInstanceAs (Decidable (_ ∨ _))
def insP (x : Int × Int) : List (Int × Int) → List (Int × Int)
  | [] => [x]
  | y :: r => if leP x y then x :: y :: r else y :: insP x r
def sortP : List (Int × Int) → List (Int × Int)
  | [] => []
  | x :: r => insP x (sortP r)
theorem insP_perm (x : Int × Int) : ∀ l, (insP x l).Perm (x :: l)
  | [] => .refl _
  | y :: r => by
    unfold insP
    split
    · exact .refl _
    · exact ((insP_perm x r).cons y).trans (.swap x y r)
theorem sortP_perm : ∀ l, (sortP l).Perm l
  | [] => .refl _
  | x :: r => (insP_perm x _).trans ((sortP_perm r).cons x)
theorem insP_sorted (x : Int × Int) : ∀ {l}, l.Pairwise leP → (insP x l).Pairwise leP
  | [], _ => by simp [insP]
  | y :: r, h => by
    obtain ⟨h1, h2⟩ := List.pairwise_cons.mp h
    unfold insP
    split
    · rename_i c
      refine List.pairwise_cons.mpr ⟨fun z hz => ?_, h⟩
      rcases List.mem_cons.mp hz with rfl | hz
      · exact c
      · have := h1 z hz
        unfold leP at *
        omega
    · rename_i c
      refine List.pairwise_cons.mpr ⟨fun z hz => ?_, insP_sorted x h2⟩
      rcases List.mem_cons.mp ((insP_perm x r).mem_iff.mp hz) with rfl | hz
      · unfold leP at *
        omega
      · exact h1 z hz
theorem sortP_sorted : ∀ l, (sortP l).Pairwise leP
  | [] => .nil
  | x :: r => insP_sorted x (sortP_sorted r)
theorem sortedP_uniq {l l' : List (Int × Int)} (p : l.Perm l') (h : l.Pairwise leP) (h' : l'.Pairwise leP) : l = l' :=
  p.eq_of_pairwise (fun a b _ _ x y => by unfold leP at x y; exact Prod.ext (by omega) (by omega)) h h'
section
variable [MP] {K : PySem.W.Frag} {H : Hp}
theorem rp_pair {x : V} {p : Int × Int} (h : Rp K H x (pD p)) : ∃ t o, x = .ref t ∧ H t = some (.frz o (.tup [.int p.1, .int p.2])) := by
  unfold pD at h
  cases h with
  | tup h d r =>
    cases r with
    | cons r1 r2 =>
      cases r1
      cases r2 with
      | cons r3 r4 =>
        cases r3
        cases r4
        exact ⟨_, _, rfl, h⟩
theorem rp_pair_uniq {x : V} {p q : Int × Int} (h : Rp K H x (pD p)) (h' : Rp K H x (pD q)) : p = q := by
  obtain ⟨t, o, rfl, e⟩ := rp_pair h
  obtain ⟨t', o', e', e2⟩ := rp_pair h'
  cases e'
  rw [e] at e2
  injection e2 with e3
  injection e3 with _ e4
  injection e4 with e5
  injection e5 with e6 e7
  injection e7 with e8 _
  injection e6 with e9
  injection e8 with e10
  exact Prod.ext e9 e10
noncomputable def keyP (K : PySem.W.Frag) (H : Hp) (x : V) : Int × Int := open Classical in if h : ∃ p, Rp K H x (pD p) then h.choose else (0, 0)
theorem keyP_eq {x : V} {p : Int × Int} (h : Rp K H x (pD p)) : keyP K H x = p := by
  have hx : ∃ p, Rp K H x (pD p) := ⟨p, h⟩
  unfold keyP
  rw [dif_pos hx]
  exact rp_pair_uniq hx.choose_spec h
theorem keyP_map : ∀ {vs : List V} {ps : List (Int × Int)}, RpL K H vs (ps.map pD) → vs.map (keyP K H) = ps ∧ ∀ x ∈ vs, Rp K H x (pD (keyP K H x))
  | [], ps, r => by
    cases ps with
    | nil => exact ⟨rfl, fun x z => by cases z⟩
    | cons => cases r
  | v :: vs, ps, r => by
    cases ps with
    | nil => cases r
    | cons p ps =>
      cases r with
      | cons r1 r2 =>
        obtain ⟨a1, a2⟩ := keyP_map r2
        refine ⟨by rw [List.map_cons, a1, keyP_eq r1], fun x hx => ?_⟩
        rcases List.mem_cons.mp hx with rfl | hx
        · rw [keyP_eq r1]; exact r1
        · exact a2 x hx
theorem rpl_all {f : V → D} : ∀ {vs : List V}, (∀ x ∈ vs, Rp K H x (f x)) → RpL K H vs (vs.map f)
  | [], _ => .nil
  | v :: vs, h => .cons (h v List.mem_cons_self) (rpl_all fun x hx => h x (List.mem_cons_of_mem _ hx))
theorem sorted_rp {vs ys : List V} {ps : List (Int × Int)} (r : RpL K H vs (ps.map pD)) (h1 : SrtO.Srtd (ltP (keyP K H)) ys) (h2 : ys.Perm vs) : RpL K H ys ((sortP ps).map pD) := by
  obtain ⟨a1, a2⟩ := keyP_map r
  have e : ys.map (keyP K H) = sortP ps := by
    refine sortedP_uniq ?_ ?_ (sortP_sorted ps)
    · refine (h2.map _).trans ?_
      rw [a1]
      exact (sortP_perm ps).symm
    · rw [List.pairwise_map]
      refine h1.imp fun {x y} h => ?_
      have := SrtO.lexB_no.mp h
      unfold leP
      omega
  rw [← e, List.map_map]
  exact rpl_all fun x hx => a2 x (h2.mem_iff.mp hx)
end
end Pi

set_option Elab.async false
set_option linter.all false
set_option maxRecDepth 100000
set_option maxHeartbeats 4000000
/-! PiD: a dict whose keys are pairs of ints, its keys told: looked into, filled, sorted. -/
namespace Pi
open PySem PySem.Spec PyProof.Rows L2
/-- the object at a: a dict of these entries -/
def dphi (a : Addr) (es : Array DictEntry) : Heap → Prop := fun h => ∃ o ep, h.get? a = some o ∧ o.ExactDict ∧ o.data = .dict es ep
def DicO (a : Addr) (es : Array DictEntry) : HO := .ext (dphi a es)
theorem heap_all (n : Nat) (es : Array DictEntry) (ep : Nat) : ∃ h : Heap, ∀ a, a < n → h.get? a = some { cls := .type "dict", data := .dict es ep } := by
  refine ⟨{ objs := (List.replicate n { cls := .type "dict", data := .dict es ep }).toArray }, fun a ha => ?_⟩
  simp [Heap.get?, ha]
theorem not_memo_dic {a b : Addr} {es : Array DictEntry} : ¬ isMemo b (DicO a es) := fun ⟨es', m, z⟩ => by
  have e : dphi a es = mphi b es' m := by
    unfold DicO MemO at z
    exact HO.ext.inj z
  obtain ⟨h, hh⟩ := heap_all (a + b + 1) es m
  have h1 : dphi a es h := ⟨_, m, hh a (by omega), ⟨rfl, rfl, rfl⟩, rfl⟩
  rw [e] at h1
  obtain ⟨o, ep, e1, _, e3, e4⟩ := h1
  rw [hh b (by omega)] at e1
  cases e1
  cases e3
  exact e4 rfl
def KeyP (p : Int × Int) : List Key := [Sum.inl p.1, Sum.inl p.2]
theorem KeyP_inj {p q : Int × Int} (h : KeyP p = KeyP q) : p = q := by
  unfold KeyP at h
  simp only [List.cons.injEq, Sum.inl.injEq, and_true] at h
  exact Prod.ext h.1 h.2
def insZ (ps : List (Int × Int)) (p : Int × Int) : List (Int × Int) := if p ∈ ps then ps else ps ++ [p]
/-- the dict at a has the keys ps -/
structure DicH (P : Program) (w : World) (H : Hp) (a : Addr) (ps : List (Int × Int)) (es : Array DictEntry) (xs : List (List Key × Addr × Value)) : Prop where
  at_ : H a = some (DicO a es)
  ents : es.toList = xs.map (entryOfKey (tupleKind (mixKind P w)))
  keys : xs.map (·.1) = ps.map KeyP
  nd : ps.Nodup
  sys : (a == sysModules) = false
  good : ∀ x ∈ xs, ∃ (p : Int × Int) (ob : Obj), x.1 = KeyP p ∧ ob.dict = none ∧ H x.2.1 = some (.frz ob (.tup [.int p.1, .int p.2]))
def Dic (P : Program) (w : World) (H : Hp) (a : Addr) (ps : List (Int × Int)) : Prop := ∃ es xs, DicH P w H a ps es xs
section
variable {P : Program} {w : World} {H H' : Hp} {h : Heap} {a b : Addr} {ps : List (Int × Int)} {es : Array DictEntry} {xs : List (List Key × Addr × Value)} {p : Int × Int} {ob : Obj}
theorem DicH.kn (M : DicH P w H a ps es xs) : (xs.map (·.1)).Nodup := by
  rw [M.keys]
  exact List.pairwise_map.mpr (M.nd.imp fun h e => h (KeyP_inj e))
theorem DicH.len (M : DicH P w H a ps es xs) : xs.length = ps.length := by
  have := congrArg List.length M.keys
  simpa using this
theorem key_pr [MP] (ok : HOk P w H h) (e : H b = some (.frz ob (.tup [.int p.1, .int p.2]))) : (tupleKind (mixKind P w)).is h (KeyP p) b := key_fz (ks := [p.1, p.2]) ok e
theorem DicH.dict [MP] (M : DicH P w H a ps es xs) (ok : HOk P w H h) : h.DictOfH (tupleKind (mixKind P w)) a xs := by
  obtain ⟨⟨o, ep, h1, h2, h3⟩, _⟩ := (show dphi a es h ∧ _ from ok a _ M.at_)
  refine ⟨o, es, ep, h1, h2, h3, M.ents, fun x hx => ?_, M.kn⟩
  obtain ⟨p, ob, q1, _, q2⟩ := M.good x hx
  rw [q1]
  exact key_pr ok q2
theorem DicH.mono [MP] (s : Same H H') (M : DicH P w H a ps es xs) : DicH P w H' a ps es xs where
  at_ := s.get _ _ M.at_ not_memo_dic
  ents := M.ents
  keys := M.keys
  nd := M.nd
  sys := M.sys
  good := fun x hx => by
    obtain ⟨p, ob, q1, q2, q3⟩ := M.good x hx
    exact ⟨p, ob, q1, q2, s.f q3⟩
theorem Dic.mono [MP] (s : Same H H') (M : Dic P w H a ps) : Dic P w H' a ps := by
  obtain ⟨es, xs, M⟩ := M
  exact ⟨es, xs, M.mono s⟩
theorem DicH.has (M : DicH P w H a ps es xs) (p : Int × Int) : (atKey xs (KeyP p)).isSome = decide (p ∈ ps) := by
  have h1 : (atKey xs (KeyP p)).isSome = true ↔ KeyP p ∈ xs.map (·.1) := by
    unfold atKey
    rw [Option.isSome_map, List.find?_isSome]
    simp only [decide_eq_true_eq, List.mem_map]
  have h2 : KeyP p ∈ xs.map (·.1) ↔ p ∈ ps := by
    rw [M.keys, List.mem_map]
    constructor
    · rintro ⟨q, hq, e⟩
      rw [← KeyP_inj e]; exact hq
    · exact fun hp => ⟨p, hp, rfl⟩
  rw [Bool.eq_iff_iff, h1, h2, decide_eq_true_eq]
theorem putAt_fst (k : List Key) (v : Value) (xs : List (List Key × Addr × Value)) : (xs.map (putAt k v)).map (·.1) = xs.map (·.1) := by
  rw [List.map_map]
  refine List.map_congr_left fun x _ => ?_
  show (putAt k v x).1 = x.1
  unfold putAt
  split <;> rfl
/-- a key more -/
theorem DicH.put (M : DicH P w H a ps es xs) (hk : H b = some (.frz ob (.tup [.int p.1, .int p.2]))) (hd : ob.dict = none) (v : Value) {es' : Array DictEntry}
    (he : es'.toList = (storedH xs (KeyP p) b v).map (entryOfKey (tupleKind (mixKind P w)))) : DicH P w (upd H a (DicO a es')) a (insZ ps p) es' (storedH xs (KeyP p) b v) := by
  have nef : ∀ c o u, H c = some (.frz o u) → c ≠ a := fun c o u e => ne_of e M.at_ (fun z => nomatch z)
  have hh := M.has p
  have old : ∀ x ∈ xs, ∃ (q : Int × Int) (ob : Obj), x.1 = KeyP q ∧ ob.dict = none ∧ (upd H a (DicO a es')) x.2.1 = some (.frz ob (.tup [.int q.1, .int q.2])) := fun x hx => by
    obtain ⟨q, ob', q1, q2, q3⟩ := M.good x hx
    exact ⟨q, ob', q1, q2, by rw [upd_ne (nef _ _ _ q3)]; exact q3⟩
  by_cases c : p ∈ ps
  · rw [decide_eq_true c] at hh
    have e1 : storedH xs (KeyP p) b v = xs.map (putAt (KeyP p) v) := by unfold storedH; rw [if_pos hh]
    rw [e1] at he ⊢
    refine ⟨upd_same, he, ?_, ?_, M.sys, fun x hx => ?_⟩
    · rw [putAt_fst, M.keys]; unfold insZ; rw [if_pos c]
    · unfold insZ; rw [if_pos c]; exact M.nd
    · obtain ⟨y, hy, rfl⟩ := List.mem_map.mp hx
      obtain ⟨q, ob', q1, q2, q3⟩ := old y hy
      unfold putAt
      split
      · exact ⟨q, ob', q1, q2, q3⟩
      · exact ⟨q, ob', q1, q2, q3⟩
  · rw [decide_eq_false c] at hh
    have e1 : storedH xs (KeyP p) b v = xs ++ [(KeyP p, b, v)] := by unfold storedH; rw [if_neg (by rw [hh]; exact Bool.false_ne_true)]
    rw [e1] at he ⊢
    refine ⟨upd_same, he, ?_, ?_, M.sys, fun x hx => ?_⟩
    · rw [List.map_append, M.keys]; unfold insZ; rw [if_neg c, List.map_append]; rfl
    · unfold insZ; rw [if_neg c]
      refine List.nodup_append.mpr ⟨M.nd, by simp, fun x hx y hy e => ?_⟩
      rw [List.mem_singleton.mp hy] at e
      exact c (e ▸ hx)
    · rcases List.mem_append.mp hx with hx | hx
      · exact old x hx
      · rw [List.mem_singleton.mp hx]
        exact ⟨p, ob, rfl, hd, by rw [upd_ne (nef _ _ _ hk)]; exact hk⟩
theorem DicH.vals [MP] {K : PySem.W.Frag} (M : DicH P w H a ps es xs) : RpL K H (xs.map fun x => V.ref x.2.1) (ps.map pD) := by
  have go : ∀ {xs : List (List Key × Addr × Value)} {ps : List (Int × Int)}, xs.map (·.1) = ps.map KeyP → (∀ x ∈ xs, ∃ (p : Int × Int) (ob : Obj), x.1 = KeyP p ∧ ob.dict = none ∧ H x.2.1 = some (.frz ob (.tup [.int p.1, .int p.2]))) →
      RpL K H (xs.map fun x => V.ref x.2.1) (ps.map pD) := by
    intro xs
    induction xs with
    | nil =>
      intro ps e _
      cases ps with
      | nil => exact .nil
      | cons _ _ => cases e
    | cons x xs ih =>
      intro ps e g
      cases ps with
      | nil => cases e
      | cons p ps =>
        simp only [List.map_cons, List.cons.injEq] at e
        obtain ⟨q, ob, q1, q2, q3⟩ := g x List.mem_cons_self
        have e2 : q = p := KeyP_inj (q1.symm.trans e.1)
        subst e2
        exact .cons (.tup q3 q2 (.cons (.int _) (.cons (.int _) .nil))) (ih e.2 fun y hy => g y (List.mem_cons_of_mem _ hy))
  exact go M.keys M.good
end
section
variable {X : Cx} {pins : List (Addr × Obj)} {σ : L2.St} {H : Hp} {s : Shared} {a b : Addr} {ps : List (Int × Int)} {p : Int × Int} {ob : Obj} {A : Around} {E : Value → Shared → Prop}
/-- p in d -/
theorem dic_in [MP] {Q : Value → Shared → Prop} (hu : A.units + 1 < cLine) (I : L2.Inv X pins σ H s) (M : Dic X.prog X.w H a ps) (hk : H b = some (.frz ob (.tup [.int p.1, .int p.2])))
    (q : ∀ s', L2.Inv X pins σ H s' → Q (.bool (decide (p ∈ ps))) s') : wpAny (model X.prog X.w) A (compareOp .In (.ref b) (.ref a)) Q E s := by
  obtain ⟨es, xs, M⟩ := M
  refine wpAny_in_heap (tupleKind_room_in1 hu) (key_pr I.hok hk) M.sys (M.dict I.hok) ?_
  rw [M.has p]
  exact q _ (I.tok _)
theorem dic_end {h' : Heap} {t' : Nat} {xs : List (List Key × Addr × Value)} {es : Array DictEntry} {v : Value} (I : L2.Inv X pins σ H s) (M : DicH X.prog X.w H a ps es xs) (hk : H b = some (.frz ob (.tup [.int p.1, .int p.2]))) (hd : ob.dict = none)
    (dd : h'.DictOfH (tupleKind (mixKind X.prog X.w)) a (storedH xs (KeyP p) b v)) (hs : Heap.SameBut a s.heap h') :
    ∃ es', L2.Inv X pins σ (upd H a (DicO a es')) { s with heap := h', toks := t' } ∧ Dic X.prog X.w (upd H a (DicO a es')) a (insZ ps p) := by
  obtain ⟨o', es', ep', q1, q2, q3, q4, q5, q6⟩ := id dd
  refine ⟨es', d_write I (by rw [M.at_]; exact True.intro) hs ⟨o', q1⟩ ⟨⟨o', ep', q1, q2, q3⟩, ⟨o', q1⟩, fun h1 h2 ⟨o, ep, z1, z2⟩ k => ⟨o, ep, k o z1, z2⟩⟩, es', _, M.put hk hd v q4⟩
/-- d[p] = v -/
theorem dic_set [MP] {Q : Unit → Shared → Prop} {v : Value} (hu : A.units + 1 < cLine) (I : L2.Inv X pins σ H s) (M : Dic X.prog X.w H a ps) (hk : H b = some (.frz ob (.tup [.int p.1, .int p.2]))) (hd : ob.dict = none) (hz : ps.length ≤ 1000)
    (q : ∀ es' s', L2.Inv X pins σ (upd H a (DicO a es')) s' → Dic X.prog X.w (upd H a (DicO a es')) a (insZ ps p) → Q () s') : wpAny (model X.prog X.w) A (setItem (.ref a) (.ref b) v) Q E s := by
  obtain ⟨es, xs, M⟩ := M
  have hl := M.len
  refine wpAny_setItem_heap (hsz := by rw [sizeLine_eq]; omega) (tupleKind_room_in1 hu) (key_pr I.hok hk) (M.dict I.hok) fun h' dd hs => ?_
  obtain ⟨es', I', M'⟩ := dic_end I M hk hd dd hs
  exact q es' _ I' M'
/-- the same by a comprehension -/
theorem dic_set0 [MP] {Q : Unit → Shared → Prop} {v : Value} (hu : A.units < cLine) (I : L2.Inv X pins σ H s) (M : Dic X.prog X.w H a ps) (hk : H b = some (.frz ob (.tup [.int p.1, .int p.2]))) (hd : ob.dict = none) (hz : ps.length ≤ 1000)
    (q : ∀ es' s', L2.Inv X pins σ (upd H a (DicO a es')) s' → Dic X.prog X.w (upd H a (DicO a es')) a (insZ ps p) → Q () s') : wpAny (model X.prog X.w) A (dictSet a (.ref b) v) Q E s := by
  obtain ⟨es, xs, M⟩ := M
  have hl := M.len
  refine wpAny_dictSet_heap (hsz := by rw [sizeLine_eq]; omega) (show (tupleKind (mixKind X.prog X.w)).room A from hu) (key_pr I.hok hk) (M.dict I.hok) fun h' dd hs => ?_
  obtain ⟨es', I', M'⟩ := dic_end I M hk hd dd hs
  exact q es' _ I' M'
/-- the keys, one by one -/
theorem src_dic {prog : Program} {w : World} {d : Addr} {es : Array DictEntry} {ep : Nat} (lo : (d == sysModules) = false) : PySem.W.KdlSrc prog w "dict" d d es.size (fun i v => ∃ hi : i < es.size, v = es[i].key) (fun h => h.DictRaw d es ep) where
  type := fun _ hm => hm.typeIs
  there := fun _ hm => let ⟨_, ho, _⟩ := hm; ⟨Heap.lt_size ho, Heap.lt_size ho⟩
  keep := fun _ _ hm hk => hm.at fun o e => hk d (.inl rfl) o e
  notList := by decide
  notTuple := by decide
  hint := fun _ _ _ _ hm hq => PySem.W.kdl_hint_dict hm.typeIs hq
  iter := fun _ _ hh hm => ⟨_, _, (fun _ _ hq => wpAny_pyIter_dict_raw lo hm hq), Walks.rawKeys hh _ d (let ⟨_, ho, _⟩ := hm; Nat.ne_of_lt (Heap.lt_size ho)) es ep, ⟨⟨_, Heap.get?_push_size _ rfl, rfl, rfl⟩, hm.at fun o e => Heap.get?_push_of_some _ e⟩⟩
end
section
variable {X : Cx}
/-- sorted(d) -/
theorem cr_sortedD [MP] (hcalm : X.calm = true) : CallR X (.builtin "sorted") (fun vs H Q => ∃ (a : Addr) (ps : List (Int × Int)), vs = [V.ref a] ∧ Dic X.prog X.w H a ps ∧ ps.length ≤ 1000 ∧
    ∀ ys p, RpL X.K H ys ((sortP ps).map pD) → H p = none → Q (.ref p) (upd H p (.lst ys))) := by
  intro pins s σ H vs us Q I r h
  obtain ⟨a, ps, rfl, ⟨es, xs, M⟩, hz, q⟩ := h
  obtain ⟨u, rfl, ru⟩ := vals1 r; obtain rfl : u = Value.ref a := ru
  obtain ⟨⟨o, ep, h1, h2, h3⟩, _⟩ := (show dphi a es s.heap ∧ _ from I.hok a _ M.at_)
  have hraw : s.heap.DictRaw a es ep := ⟨o, h1, h2, h3⟩
  have hes : es.size = xs.length := by
    have := congrArg List.length M.ents
    simpa using this
  have hn : es.size ≤ sizeLine := by rw [hes, M.len, sizeLine_eq]; omega
  refine Calls.call_function_entry PyProof.Rows.kind_sorted PyProof.Rows.plain_sorted PyProof.Rows.entry_sorted (PyProof.Rows.args_sorted1 _) ?_; unfold Builtin.«sorted»
  refine wpAny_bind (m := checkCount "sorted" 1 1 _) (wpAny_pure ?_); refine wpAny_bind (PySem.W.kdu_collect (A := X.A.in1) (src_dic (ep := ep) M.sys) (I.ok.hd hcalm) hraw hn fun h' tk acc hk hacc => ?_)
  have el : acc.toList = xs.map fun x => Value.ref x.2.1 := by
    apply List.ext_getElem?
    intro j
    by_cases hj : j < es.size
    · have hja : j < acc.toList.length := by rw [Array.length_toList, hacc.1]; exact hj
      obtain ⟨hi, e⟩ := hacc.2 j acc.toList[j] (by rw [← Array.getElem?_toList]; exact List.getElem?_eq_getElem hja)
      rw [List.getElem?_eq_getElem hja, e, List.getElem?_map]
      have e2 := congrArg (fun l => l[j]?) M.ents
      simp only [List.getElem?_map, Array.getElem?_toList] at e2
      rw [Array.getElem?_eq_getElem hi] at e2
      cases e3 : xs[j]? with
      | none => rw [e3] at e2; cases e2
      | some y =>
        rw [e3] at e2
        have e4 := Option.some.inj e2
        rw [e4]
        rfl
    · rw [List.getElem?_eq_none (by rw [Array.length_toList, hacc.1]; omega), List.getElem?_eq_none (by rw [List.length_map]; omega)]
  have rl := M.vals (K := X.K)
  have hal : acc.toList.length ≤ sizeLine := by rw [el, List.length_map, ← hes]; exact hn
  have I1 : Inv X pins σ H { s with heap := h', toks := tk } := I.kept hk
  refine wpAny_bind (wpAny_newList ?_ hal)
  have hoL : (h'.push (seqObj "list" acc.toList.toArray 0)).get? h'.objs.size = some (seqObj "list" acc.toList.toArray 0) := Heap.get?_push_size _ rfl; show wpAny _ _ _ _ _ { s with heap := h'.push (seqObj "list" acc.toList.toArray 0), toks := tk }
  have hp : ∀ v ∈ acc.toList, Srt.IsPair (h'.push (seqObj "list" acc.toList.toArray 0)) v (keyP X.K H (backV v)).1 (keyP X.K H (backV v)).2 := fun v hv => by
    rw [el] at hv
    obtain ⟨x, hx, rfl⟩ := List.mem_map.mp hv
    obtain ⟨p, ob, q1, q2, q3⟩ := M.good x hx
    have hr : Rp X.K H (V.ref x.2.1) (pD p) := .tup q3 q2 (.cons (.int _) (.cons (.int _) .nil))
    show Srt.IsPair _ _ (keyP X.K H (V.ref x.2.1)).1 (keyP X.K H (V.ref x.2.1)).2
    rw [keyP_eq hr]
    obtain ⟨its2, r2, ⟨o, ho, hc, n, hd⟩, _⟩ := I1.tuple (SqT.fr q3)
    obtain ⟨u1, u2, rfl, ri, rj⟩ := vals2 r2; obtain ⟨t1, rfl⟩ := ri; obtain ⟨t2, rfl⟩ := rj
    exact ⟨x.2.1, o, t1, t2, n, rfl, Heap.get?_push_of_some _ ho, hc, hd⟩
  refine wpAny_bind (wpAny_holding (wpAny_call_entry PyProof.Rows.slot_list_sort ⟨_, hoL, rfl⟩ PyProof.Rows.entry_list_sort
    (SrtO.list_sort_ord (s := { s with heap := h'.push (seqObj "list" acc.toList.toArray 0), toks := tk }) (SrtO.swo_lex fun u => keyP X.K H (backV u)) hoL hal (fun h2 => SrtO.pairs_sortableO (by omega) hp fun o e => ?_) fun out hs hb => ⟨_, rfl, ?_⟩) (PyProof.Rows.args_list_sort _)))
  · have e' : some o = some (seqObj "list" acc.toList.toArray 0) := e.symm.trans hoL
    cases e'
    intro c
    exact absurd (Value.type.inj c) (by decide)
  · obtain ⟨e', he'⟩ := PyProof.Rows.sortedHeap_at (vs := acc.toList) (out := out.toArray) hoL
    have hperm := hb.perm
    have href : ∀ u ∈ out, ∃ a, u = Value.ref a := fun u hu => by
      have := hperm.mem_iff.mp hu
      rw [el] at this
      obtain ⟨x, _, rfl⟩ := List.mem_map.mp this
      exact ⟨_, rfl⟩
    have hpm : (out.map backV).Perm (xs.map fun x => V.ref x.2.1) := by
      have := hperm.map backV
      rw [el, List.map_map] at this
      exact this
    have hlen : (out.map backV).length ≤ sizeLine := by rw [hpm.length_eq, List.length_map, ← hes]; exact hn
    refine wpAny_pure ⟨_, rfl, .ref h'.objs.size, upd H h'.objs.size (.lst (out.map backV)), I1.laid (t' := tk) (fun b u e => ?_) (Nat.le_refl _)
      (show ObjOk X.prog X.w _ _ _ (.lst (out.map backV)) from ⟨hlen, out, e', vals_back href, he'⟩), rfl, q _ _ (sorted_rp rl (SrtO.srtd_map hs) hpm) (I1.hok.fresh (Nat.le_refl _))⟩
    have hlt : b < h'.objs.size := Heap.lt_size e
    rw [PyProof.Rows.sortedHeap_old (Nat.ne_of_lt hlt) (by rw [size_push']; exact Nat.lt_succ_of_lt hlt)]; exact Heap.get?_push_of_some _ e
end
end Pi

set_option Elab.async false
set_option linter.all false
set_option maxRecDepth 100000
set_option maxHeartbeats 4000000
/-! PiE: name = {pair: v for pair in ..}, the keys pairs of ints. -/
namespace Pi
open PySem PySem.Spec PyProof.Rows L2
section
variable {X : Cx}
/-- what a turn needs -/
def tDcT (P : Program) (w : World) (wi : TI) (g : TG) (tk tv : TE) (vs : List Nat) : TE := fun σ H Q => wi σ H fun J H1 => ∀ D, H1 D = none → (D == sysModules) = false → ∃ Wv : Nat → Nat → Hp → Prop, (∃ m, Wv 0 m (upd H1 D (DicO D #[]))) ∧ ∀ i m H, Wv i m H →
  (J.stop i H ∧ Q (.ref D) H) ∨ (J.go i H ∧ ∃ Nx : Hp → Prop, (∀ H', Nx H' → ∃ m', m' < m ∧ Wv (i + 1) m' H') ∧ ∀ x H', J.yld i H x H' → g x (wipe σ vs) H' fun σ2 H2 => wipe σ2 vs = wipe σ vs ∧
    tk σ2 H2 fun y H4 => tv σ2 H4 fun z H5 => ∃ (ps : List (Int × Int)) (p : Int × Int) (b : Addr) (ob : Obj), y = .ref b ∧ H5 b = some (.frz ob (.tup [.int p.1, .int p.2])) ∧ ob.dict = none ∧ Dic P w H5 D ps ∧ ps.length ≤ 1000 ∧
      ∀ es', Dic P w (upd H5 D (DicO D es')) D (insZ ps p) → Nx (upd H5 D (DicO D es')))
abbrev eDict : Obj := { cls := .type "dict", data := .dict #[] }
theorem dcT_core [MP] {pins : List (Addr × Obj)} {s : Shared} {σ : L2.St} {H : Hp} {Q : VK} {kx vx tg iter : Expr} {scope : Scope} {own : List (Str × Nat)} {pos pos' : Pos} {wi : TI} {g : TG} {tk tv : TE} {use : Option (Value → Sem Unit)} {Qf : Value → Shared → Prop}
    (hu : X.A.units < cLine) (hc : X.calm = true) (hN : X.N.Nodup) (I : Inv X pins σ H s) (hi : PI X tg iter wi) (ok : BlkOk X.N X.env.scope scope own)
    (hg : ∀ (s : Shared) (H : Hp) (C : Addr) (cl : List (Str × Addr)) (fp : List Addr), PG (X.blk s H scope (compEnvC scope cl C X.env) fp) tg g) (hk : ∀ (s : Shared) (H : Hp) (C : Addr) (cl : List (Str × Addr)) (fp : List Addr), PE (X.blk s H scope (compEnvC scope cl C X.env) fp) kx tk) (he : ∀ (s : Shared) (H : Hp) (C : Addr) (cl : List (Str × Addr)) (fp : List Addr), PE (X.blk s H scope (compEnvC scope cl C X.env) fp) vx tv)
    (hs : ∀ x, foldedSetIterable iter X.env x = pure x) (h : tDcT X.prog X.w wi g tk tv (own.map (·.2)) σ H Q)
    (hRR : ∀ D C s' m H', Inv X pins σ H' s' → Q (.ref D) H' → s'.heap.Ns C m → FpOk X pins H' C → compPost (model X.prog X.w) X.A X.xe use Qf (.ref D) C (.ok .next) s') :
    wpAny (model X.prog X.w) X.A (comprehension (.DictComp kx vx [⟨tg, iter, [], 0⟩] scope pos) scope X.env pos' newDict false (eval iter X.env) use) Qf X.xe s := by
  have hfr : ∀ y ∈ scope.names, y.2 = .free → ∃ c, X.env.cells.lookup y.1 = some c := fun y hy e => by
    rcases ok.free y hy e with k | k <;> first | exact I.ok.has _ (.inl k) | exact I.ok.has _ (.inr k)
  refine wpAny_comprehension_free (use := use) rfl hs (closure_ok hfr) ok.kind (fun y hy e => by rw [ok.uniq y hy, e]) (thn (hi.run pins s σ H _ I h) fun xv s1 hx => thn hx fun itv s2 ⟨it, fp, tn, J, H2, ei, I2, T, st2, f2, q⟩ => ?_)
  subst ei
  refine wpAny_newObj_type (newEnv_comp ?_)
  generalize hD : s2.heap.objs.size = D
  have hbig : sysModules < s2.heap.objs.size := I2.big
  obtain ⟨Wv, ⟨m0, w0⟩, turn⟩ := q D (I2.hok.fresh (Nat.le_of_eq hD)) (beq_eq_false_iff_ne.mpr (by rw [← hD]; exact Ne.symm (Nat.ne_of_lt hbig)))
  generalize hs3 : ({ s2 with heap := s2.heap.push eDict } : Shared) = s3
  have h3 : s3.heap = s2.heap.push eDict := by rw [← hs3]
  have I3 : Inv X pins σ (upd H2 D (DicO D #[])) s3 := by
    rw [← hs3]
    refine I2.laid (t' := s2.toks) (o := DicO D #[]) (fun b o e => Heap.get?_push_of_some _ e) (Nat.le_of_eq hD) ?_
    rw [← hD]
    exact ⟨⟨_, 0, Heap.get?_push_size _ rfl, ⟨rfl, rfl, rfl⟩, rfl⟩, ⟨_, Heap.get?_push_size _ rfl⟩, fun h1 h2 ⟨o, ep, z1, z2⟩ k => ⟨o, ep, k o z1, z2⟩⟩
  have lts : ∀ b ∈ fp, b < s2.heap.objs.size := fun b hb => let ⟨o, e, _⟩ := T.obj _ _ st2 b hb; Heap.lt_size e
  have f3 : ∀ b ∈ fp, FpOk X pins (upd H2 D (DicO D #[])) b ∧ b < s3.heap.objs.size := fun b hb =>
    ⟨⟨by rw [upd_ne (by rw [← hD]; exact Nat.ne_of_lt (lts b hb))]; exact (f2 b hb).1, (f2 b hb).2⟩, by rw [h3, Heap.size_push]; exact Nat.lt_succ_of_lt (lts b hb)⟩
  have st3 : tn 0 s3.heap := T.keep _ _ _ st2 fun b _ o e => by rw [h3]; exact Heap.get?_push_of_some _ e
  have I4 := block_start I3 ok hN f3
  have nfp : ∀ b ∈ fp, (upd H2 D (DicO D #[])) b = none := fun b hb => (f3 b hb).1.1
  have pg := hg s3 (upd H2 D (DicO D #[])) s3.heap.objs.size (cellsFrom (s3.heap.objs.size + 1) scope.names (cloFrom X.env.cells scope.names [])) fp
  have pk := hk s3 (upd H2 D (DicO D #[])) s3.heap.objs.size (cellsFrom (s3.heap.objs.size + 1) scope.names (cloFrom X.env.cells scope.names [])) fp
  have pe := he s3 (upd H2 D (DicO D #[])) s3.heap.objs.size (cellsFrom (s3.heap.objs.size + 1) scope.names (cloFrom X.env.cells scope.names [])) fp
  show codeAny _ _ (.compStart (.DictComp kx vx [⟨tg, iter, [], 0⟩] scope pos) 0 (.ref it) (.ref D) (compEnvC scope (cellsFrom (s3.heap.objs.size + 1) scope.names (cloFrom X.env.cells scope.names [])) s3.heap.objs.size X.env)) (compPost (model X.prog X.w) X.A X.xe use Qf (.ref D) s3.heap.objs.size) { s3 with heap := pushCells (s3.heap.push eDict) scope.names }
  generalize hce : compEnvC scope (cellsFrom (s3.heap.objs.size + 1) scope.names (cloFrom X.env.cells scope.names [])) s3.heap.objs.size X.env = ce at I4 pg pk pe ⊢; have cL : ce.locals = s3.heap.objs.size := by subst hce; rfl
  generalize hH3 : upd H2 D (DicO D #[]) = H3 at I3 I4 pg pk pe w0 nfp f3
  generalize hs4 : ({ s3 with heap := pushCells (s3.heap.push eDict) scope.names } : Shared) = s4 at I4 ⊢
  have st4 : tn 0 s4.heap := T.keep _ _ _ st3 fun b _ o e => by rw [← hs4]; exact pushCells_keeps _ _ _ _ (Heap.get?_push_of_some _ e)
  have stt : ∀ {σ' : L2.St} {H' : Hp} {s' : Shared}, Inv (X.blk s3 H3 scope ce fp) [] σ' H' s' → (∀ b ∈ fp, H' b = none) → ∀ b ∈ fp, FpOk (X.blk s3 H3 scope ce fp) [] H' b := fun {σ' H' s'} I' hn b hb =>
    ⟨hn b hb, (I'.ok.exf b hb).1, I'.ok.exfs b hb, .inl hb, fun x c e => (I'.ok.exf b hb).2 x c e, fun z hz => absurd (show z ∈ ([] : List (Addr × Obj)) ++ [] from hz) (by simp)⟩
  have loop : codeAny (model X.prog X.w) X.A (.compLoop (.DictComp kx vx [⟨tg, iter, [], 0⟩] scope pos) 0 (.ref it) (.ref D) ce) (compPost (model X.prog X.w) X.A X.xe use Qf (.ref D) s3.heap.objs.size) s4 := by
    refine compLoop_anyD (fun n s' => ∃ i H', Inv (X.blk s3 H3 scope ce fp) [] (wipe σ (own.map (·.2))) H' s' ∧ tn i s'.heap ∧ (∀ b ∈ fp, H' b = none) ∧ Wv i n H') ?_ m0 ⟨0, H3, I4, st4, nfp, w0⟩
    rintro n s5 ⟨i, H5, I5, st5, n5, w5⟩; rcases turn i n H5 w5 with ⟨stop, qq⟩ | ⟨go, Nx, hNx, step⟩
    · refine thnF (T.done (X.blk s3 H3 scope ce fp) rfl rfl rfl hc i [] s5 _ H5 (fun _ _ => False) I5 (stt I5 n5) st5 stop) fun r s6 ⟨hr, I6⟩ => ?_
      subst hr
      have I7 : Inv X pins σ H5 s6 := I3.call' (ch := fp) I6.os I6.base I6.hok I6.bare fun b hb => ⟨(f3 b hb).1.2.2.2.1, (f3 b hb).1.2.1, (f3 b hb).1.2.2.2.2.1, (f3 b hb).1.2.2.2.2.2⟩
      have nC : H5 s3.heap.objs.size = none := cL ▸ (show H5 ce.locals = none from I6.free)
      obtain ⟨m, hn, _⟩ := I6.loc
      have hn2 : s6.heap.Ns s3.heap.objs.size m := cL ▸ (show s6.heap.Ns ce.locals m from hn)
      exact hRR D s3.heap.objs.size s6 m H5 I7 qq hn2 (I3.fpOk (Nat.le_refl _) nC)
    · refine thnF (T.item (X.blk s3 H3 scope ce fp) rfl rfl rfl hc i [] s5 _ H5 (fun _ _ => False) I5 (stt I5 n5) st5 go) fun r s6 ⟨u, hr, h6⟩ => ?_
      subst hr
      refine thnF h6 fun _ s7 ⟨x, H7, I7, r7, y7, st7, n7⟩ => ?_; have I7' := I7.pinned (stt I7 n7) (T.obj _ _ st7)
      refine thnF (pg.run _ s7 _ H7 x u _ I7' r7 (step x H7 y7)) fun _ s8 ⟨σ8, H8, I8, hw8, q8⟩ => wpAny_tests_nil ?_
      have fin : ∀ {s' : Shared} {H' : Hp}, Inv (X.blk s3 H3 scope ce fp) ([] ++ pinsAt fp s7.heap) σ8 H' s' → Nx H' → ∃ m, m < n ∧ ∃ i H', Inv (X.blk s3 H3 scope ce fp) [] (wipe σ (own.map (·.2))) H' s' ∧ tn i s'.heap ∧ (∀ b ∈ fp, H' b = none) ∧ Wv i m H' := fun {s' H'} I' nx => by
        obtain ⟨m', hm, w'⟩ := hNx H' nx
        have pin2 : ∀ b ∈ fp, ∀ o, s7.heap.get? b = some o → s'.heap.get? b = some o ∧ H' b = none := fun b hb o e => let z := I'.pin (b, o) (List.mem_append_right _ (List.mem_append_right _ (mem_pinsAt hb e))); ⟨z.1, z.2.1⟩
        refine ⟨m', hm, i + 1, H', (I'.unpinned (pins := [])).weak (by rw [← hw8, wipe_length]) (fun j v e => ?_), T.keep _ _ _ st7 fun b hb o e => (pin2 b hb o e).1, fun b hb => ?_, w'⟩
        · rw [← hw8] at e; exact (wipe_some e).1
        · obtain ⟨o, e, _⟩ := T.obj _ _ st7 b hb; exact (pin2 b hb o e).2
      simp only [if_true]
      refine thnF (pk.run _ s8 σ8 H8 _ I8 q8) fun z s10 ⟨yk, H10, I10, r10, q10⟩ => thnF (pe.run _ s10 σ8 H10 _ I10 q10) fun z2 s11 ⟨yv, H11, I11, r11, ps, p, b, ob, ek, hb1, hb2, hD11, hz11, nx⟩ => ?_
      subst ek
      obtain rfl : z = Value.ref b := r10
      exact dic_set0 (X := X.blk s3 H3 scope ce fp) hu I11 hD11 hb1 hb2 hz11 fun es' s12 I12 M12 => fin I12 (nx es' M12)
  exact codeAny_compStart_dict loop (T.self X.A 0 _ _ _ st4 loop)
theorem swD_true {kx vx : Expr} {gs : List Comprehension} {scope : Scope} {pos py : Pos} {y : Str} {l : Nat} {env : Env} (hk : env.scope.kind = .function) (hy : env.scope.names.lookup y = some .local) (hl : (py.line == pos.line) = true)
    (ha : (scope.names.any fun (n, k) => n == y && (k == .local || k == .cell)) = false) : swapsWith (.DictComp kx vx gs scope pos) (some (.Name y py)) l env = pure true := by
  have ky : env.kindOf y = some .local := hy
  have hb : env.blockKind = .function := by unfold Env.blockKind; rw [hk] <;> rfl
  have hp : (Expr.DictComp kx vx gs scope pos).pos = pos := rfl
  unfold swapsWith
  simp only [hb, ky, hp, hl, ha]
  rfl
/-- name = {..}: stored within the comprehension's frame -/
theorem ps_setDcT [MP] {i : Nat} {y : Str} {py : Pos} {kx vx tg iter : Expr} {scope : Scope} {own : List (Str × Nat)} {pos spos : Pos} {wi : TI} {g : TG} {tk tv : TE} (hu : X.A.units < cLine) (hc : X.calm = true) (hN : X.N.Nodup) (hy : X.N[i]? = some y) (hyl : X.env.scope.names.lookup y = some .local)
    (hsw : swapsWith (.DictComp kx vx [⟨tg, iter, [], 0⟩] scope pos) (some (.Name y py)) spos.line X.env = pure true) (hi : PI X tg iter wi) (ok : BlkOk X.N X.env.scope scope own)
    (hg : ∀ (s : Shared) (H : Hp) (C : Addr) (cl : List (Str × Addr)) (fp : List Addr), PG (X.blk s H scope (compEnvC scope cl C X.env) fp) tg g) (hk : ∀ (s : Shared) (H : Hp) (C : Addr) (cl : List (Str × Addr)) (fp : List Addr), PE (X.blk s H scope (compEnvC scope cl C X.env) fp) kx tk) (he : ∀ (s : Shared) (H : Hp) (C : Addr) (cl : List (Str × Addr)) (fp : List Addr), PE (X.blk s H scope (compEnvC scope cl C X.env) fp) vx tv)
    (hs : ∀ x, foldedSetIterable iter X.env x = pure x) :
    PS X (.Assign [.Name y py] (.DictComp kx vx [⟨tg, iter, [], 0⟩] scope pos) spos) (tAsg (tDcT X.prog X.w wi g tk tv (own.map (·.2))) (gName i)) := by
  refine ⟨fun pins s σ H D I h => ?_⟩
  rw [exec_Assign_Name_used _ _ _ _ hsw]
  refine wpAny_bind (wpAny_standAt (wpAny_bind ?_)); show wpAny _ X.A (do let _ ← comprehension (.DictComp kx vx [⟨tg, iter, [], 0⟩] scope pos) scope X.env (firstIterPos [⟨tg, iter, [], 0⟩] pos) newDict false (eval iter X.env) (some (assign (.Name y py) X.env))) _ _ s
  have hh : tDcT X.prog X.w wi g tk tv (own.map (·.2)) σ H (fun x H1 => gName i x σ H1 D.nx) := h
  refine wpAny_bind (thn (dcT_core (Qf := fun _ s' => SP X pins D .next s') hu hc hN I hi ok hg hk he hs hh fun L C s' m H' I' q hn f => ?_) fun _ s' hq => wpAny_pure (wpAny_pure hq))
  show wpAny _ _ (assign (.Name y py) X.env (.ref L)) _ _ _
  refine wpAny_assign_Name (store_ok2 (v := V.ref L) I' hN hy (.inl hyl) rfl (fun s2 I2 ⟨a, sb, ha⟩ => ?_) (.inr hyl))
  obtain ⟨g0, g1, g2, g3, g4, g5⟩ := f
  have haC : C ≠ a := by rcases ha with z | z <;> first | (rw [z]; exact g1) | exact fun e => g4 y a z e.symm
  exact ⟨m, hn.sameBut sb haC, fun h3 sb3 => ⟨_, H', I2.turned (t' := s2.toks) (fun b o hb e => (sb3.2 b hb).trans e) g0 g1 g3 g4 g5, q⟩⟩
end
end Pi

set_option Elab.async false
set_option linter.all false
set_option maxRecDepth 100000
set_option maxHeartbeats 4000000
/-! Pi5b: set(l) of a list of ints, sorted(set(l)). -/
namespace Pi
open PySem PySem.Spec PyProof.Rows L2
abbrev nSet (w : World) : Obj := { cls := .type "set", dict := none, data := .set #[] 0 (.fresh 0 0 (!w.params.followText "set-order")) }
section
variable {P : Program} {w : World} {A : Around} {E : Value → Shared → Prop} {s : Shared}
set_option maxHeartbeats 8000000 in
theorem set_listI {l : Addr} {items : Array Value} (ns : List Int) {Q : Value → Shared → Prop} (hh : A.handled = none) (hl : s.heap.IsList l items) (hit : IntsAre items.toList ns) (hb : ns.length + 1 < scanBound)
    (fin : ∀ (h' : Heap) (tk c : Nat), SetR w h' s.heap.objs.size (fun j => decide (j ∈ ns)) c → c ≤ ns.length → (∀ b o, s.heap.get? b = some o → h'.get? b = some o) → Q (.ref s.heap.objs.size) { s with heap := h', toks := tk }) :
    wpAny (model P w) A (call (.type "set") [.ref l]) Q E s := by
  have hisz : items.size = ns.length := by have q := IntsAre.length hit; rwa [Array.length_toList] at q
  obtain ⟨c0, tl0, m0⟩ := F.called_set.mro; have m1 := F.called_set.made; have m2 := F.called_set.sub
  refine wpAny_call (codeAny_of_tree ?_); show wpAny _ _ (callAny (.type "set") _) _ _ _
  refine wpAny_pure ⟨Code.quiet_builtin _ (by decide +kernel), codeAny_builtin F.entry_type_call ?_⟩; rw [Around.under_plain (weight_type_call_type "set" [.ref l] []) rfl]
  have m3 := F.called_set.notType; have m4 := F.called_set.canCreate; have m5 := F.typeCall_set_1 (.ref l)
  repeat (any_goals (first | assumption | wp_step))
  refine codeAny_mono (code_set_led1 (.ref l) (E := E) (Q₁ := fun obj s₁ => obj = .ref s.heap.objs.size ∧ s₁ = { s with heap := s.heap.push (nSet w) }) ⟨rfl, rfl⟩) fun r s₁ hr => ?_
  cases r with
  | error e => exact hr
  | ok fl =>
    cases fl with
    | ret obj =>
      obtain ⟨rfl, rfl⟩ := hr
      have gS : (s.heap.push (nSet w)).get? s.heap.objs.size = some (nSet w) := Heap.get?_push_size _ rfl
      have tS : Shared.TypeIs { s with heap := s.heap.push (nSet w) } (.ref s.heap.objs.size) "set" := ⟨_, gS, rfl⟩
      have m6 := F.called_set.init.lookup; have m7 := F.called_set.init.bind (.ref s.heap.objs.size)
      repeat (any_goals (first | assumption | wp_step))
      refine codeAny_mono (codeAny_call_builtin (R := wants (fun r s₂ => r = .none ∧ ∃ h' tk c, s₂ = { s with heap := h', toks := tk } ∧ SetR w h' s.heap.objs.size (fun j => decide (j ∈ ns)) c ∧ c ≤ ns.length ∧ (∀ b o, s.heap.get? b = some o → h'.get? b = some o)) E) F.called_set.init.plain F.entry_set_init (check_set_init_1 tS ?_)) fun r₂ s₂ hr₂ => ?_
      · obtain ⟨⟨ocls, odict, odata, oslots⟩, hol, hcl, nl, hdl⟩ := hl
        simp only at hcl hdl; subst hcl; subst hdl
        have hol' : (s.heap.push (nSet w)).get? l = some { cls := .type "list", dict := odict, data := .seq items nl, slots := oslots } := Heap.get?_push_of_some _ hol
        have n1 := F.sub_list_set; have n2 := F.sub_list_frozenset; have n3 : (Value.type "list" == Value.type "dict") = false := by decide
        have hl1 : (s.heap.push (nSet w)).IsList l items := ⟨_, hol', rfl, nl, rfl⟩
        unfold Builtin.«set.__init__» noKeywords Builtin.Frozenset.updateFrom; generalize hPI : pyIter = PI
        wp_walk
        subst hPI
        refine wpAny_pyIter_list hl1 ?_; refine wpAny_bind (wpAny_runValue ?_)
        have lt1 : l < s.heap.objs.size := Heap.lt_size hol; have hh3 : A.in1.in1.in1.handled = none := by simp [hh]
        have ne1 : l ≠ (s.heap.push (nSet w)).objs.size := by rw [Heap.size_push]; exact Nat.ne_of_lt (Nat.lt_succ_of_lt lt1)
        have no1 : s.heap.objs.size ∉ [(s.heap.push (nSet w)).objs.size, l] := by
          rw [Heap.size_push]; simp only [List.mem_cons, List.not_mem_nil, or_false, not_or]; exact ⟨Nat.ne_of_lt (Nat.lt_succ_self _), Nat.ne_of_gt lt1⟩
        have vals : ∀ (i : Nat) (v : Value), items[i]? = some v → ∃ k t, ns[i]? = some k ∧ v = .int k t := fun i v hv => by
          have hi : i < ns.length := by rw [← hisz]; exact (Array.getElem?_eq_some_iff.mp hv).1
          obtain ⟨t, e⟩ := PyProof.Rows.IntsAre.int_at hit i v (by rw [Array.getElem?_toList]; exact hv)
          exact ⟨ns[i], t, List.getElem?_eq_getElem hi, by rw [e, List.getD_eq_getElem?_getD, List.getElem?_eq_getElem hi]; rfl⟩
        refine set_update_ints ((Walks.list hh3 _ l ne1 items).toS) s.heap.objs.size no1 ns hisz hb vals (items.size - 0) 0 _ (by omega) (Nat.zero_le _) ⟨⟨_, Heap.get?_push_size _ rfl, rfl, rfl⟩, (hl1.push _)⟩ ?hS0 ?hR
        case hS0 => exact ⟨0, Nat.le_refl 0, setR_new_at (Heap.get?_push_of_some _ gS)⟩
        case hR =>
          intro s' c' hm hc' hS'
          obtain ⟨h', g2, d', tk', os'⟩ := s'
          have eg : g2 = s.gens := hm.gens; have ed : d' = s.drawn := hm.drawn; have eo : os' = s.os := hm.os
          subst eg; subst ed; subst eo
          show wpAny _ _ _ _ _ _
          refine wpAny_pure ?_
          show wpAny _ _ (ret Value.none) _ _ _
          rw [hisz] at hc'
          refine wpAny_pure ⟨rfl, h', tk', c', rfl, hS', hc', fun b o e => ?_⟩
          have b0 : b < s.heap.objs.size := Heap.lt_size e; have b1 : b ≠ s.heap.objs.size := Nat.ne_of_lt b0
          have b2 : b ≠ (s.heap.push (nSet w)).objs.size := by rw [Heap.size_push]; exact Nat.ne_of_lt (Nat.lt_succ_of_lt b0)
          exact hm.heap b o (by simp only [List.mem_cons, List.not_mem_nil, or_false, not_or]; exact ⟨b1, b2⟩) (Heap.get?_push_of_some _ (Heap.get?_push_of_some _ e))
      · cases r₂ with
        | error e => exact hr₂
        | ok fl₂ =>
          cases fl₂ with
          | ret r =>
            obtain ⟨rfl, h', tk, c', rfl, hS', hc', hk'⟩ := hr₂
            repeat (any_goals (first | assumption | wp_step))
            exact fin _ _ _ hS' hc' hk'
          | _ => exact hr₂.elim
    | _ => exact hr.elim
end
end Pi

set_option Elab.async false
set_option linter.all false
set_option maxRecDepth 100000
set_option maxHeartbeats 4000000
/-! Pi5t: sorted(t) of a tuple of ints. -/
namespace Pi
open PySem PySem.Spec PyProof.Rows L2
section
variable {P : Program} {w : World} {A : Around} {E : Value → Shared → Prop} {s : Shared}
abbrev mtL : Obj := seqObj "list" #[] 0
theorem gather_tup {l : Addr} {vs : List Value} {Q : List Value → Shared → Prop} (hl : IsTup s.heap l vs.toArray) (hsz : vs.length ≤ sizeLine)
    (fin : Q vs { s with heap := (s.heap.push mtL).update s.heap.objs.size (Obj.mapSeq (· ++ vs.toArray)) }) : wpAny (model P w) A (collect (.ref l)) Q E s := by
  obtain ⟨o, ho, hc, n, hd⟩ := id hl
  unfold collect; refine wpAny_bind (wpAny_runValue (codeAny_builtin entry_proto_collect' ?_))
  show wpAny _ _ (do again (.builtin "list.__iadd__" ⟨[← newList [], .ref l], []⟩)) _ _ s; refine wpAny_bind (wpAny_newList (wpAny_pure ⟨Code.quiet_builtin _ (by decide +kernel), codeAny_builtin entry_list_iadd' ?_⟩))
  show wpAny _ _ (Builtin.List.listExtendWith (.ref s.heap.objs.size) (.ref l) (.ref s.heap.objs.size)) _ _ { s with heap := s.heap.push mtL }; unfold Builtin.List.listExtendWith
  have g1 : (s.heap.push mtL).get? l = some o := Heap.get?_push_of_some _ ho
  refine wpAny_bind (wpAny_typeOf (T := "tuple") ⟨o, g1, hc⟩ ?_)
  rw [if_pos (by simp)]
  refine wpAny_bind (listItems_at g1 hd ?_); refine wpAny_bind (listItems_at (xs := #[]) (n := 0) (Heap.get?_push_size _ rfl) rfl ?_); rw [if_neg (by simp)]
  refine wpAny_bind (listUpdate_at (xs := #[]) (n := 0) (Heap.get?_push_size _ rfl) rfl ?_ (Nat.zero_le _) (by show (#[] ++ vs.toArray).size ≤ sizeLine + 1; simp only [Array.size_append, List.size_toArray, List.length_nil]; omega)); refine wpAny_pure ?_
  show wpAny (model P w) A (do let o ← load s.heap.objs.size; match o.data with | .seq xs _ => pure xs.toList | _ => unsupported "internal:collect") Q E { s with heap := (s.heap.push mtL).update s.heap.objs.size (Obj.mapSeq (· ++ vs.toArray)) }
  refine wpAny_bind (wpAny_load (get?_update_seq (Heap.get?_push_size _ rfl) _) ?_); show wpAny _ _ (pure ((#[] : Array Value) ++ vs.toArray).toList) Q E _
  rw [show ((#[] : Array Value) ++ vs.toArray).toList = vs by simp]; exact wpAny_pure fin
theorem sorted_tupI {l : Addr} {vs : List Value} {ns : List Int} {Q : Value → Shared → Prop} (hl : IsTup s.heap l vs.toArray) (hI : IntsAre vs ns) (h64 : vs.length < 64)
    (fin : ∀ (out : Array Value) (ns' : List Int), IntsAre out.toList ns' → ns'.Perm ns → ns'.Pairwise (· ≤ ·) → Q (.ref (s.heap.objs.size + 1)) { s with heap := sortedAll s.heap vs out }) :
    wpAny (model P w) A (call (.builtin "sorted") [.ref l]) Q E s := by
  have hz : vs.length ≤ sizeLine := by rw [sizeLine_eq]; omega
  refine Calls.call_function_entry kind_sorted plain_sorted entry_sorted (args_sorted1 _) ?_; unfold Builtin.«sorted»
  refine wpAny_bind (m := checkCount "sorted" 1 1 _) (wpAny_pure ?_); refine wpAny_bind (gather_tup hl hz ?_)
  refine wpAny_bind (wpAny_newList ?_ hz)
  have z1 : ((s.heap.push mtL).update s.heap.objs.size (Obj.mapSeq (· ++ vs.toArray))).objs.size = s.heap.objs.size + 1 := by rw [Heap.size_update, size_push']
  have g2 : (((s.heap.push mtL).update s.heap.objs.size (Obj.mapSeq (· ++ vs.toArray))).push (seqObj "list" vs.toArray 0)).get? (s.heap.objs.size + 1) = some (seqObj "list" vs.toArray 0) := by rw [← z1]; exact Heap.get?_push_size _ rfl
  show wpAny _ _ _ _ _ { s with heap := ((s.heap.push mtL).update s.heap.objs.size (Obj.mapSeq (· ++ vs.toArray))).push (seqObj "list" vs.toArray 0) }
  rw [z1]
  refine wpAny_bind (wpAny_holding (wpAny_call_entry slot_list_sort ⟨_, g2, rfl⟩ entry_list_sort (list_sort_tree g2 hI h64 fun out ns' a1 a2 a3 => ⟨_, rfl, ?_⟩) (args_list_sort _)))
  exact wpAny_pure ⟨_, rfl, fin out ns' a1 a2 a3⟩
end
theorem cr_sortedT {X : Cx} : CallR X (.builtin "sorted") (fun vs H Q => ∃ (a : Addr) (ns : List Int), vs = [V.ref a] ∧ SqT X.K H a (ns.map V.int) ∧ ns.length < 64 ∧ ∀ (ns' : List Int) (p : Addr), ns'.Perm ns → ns'.Pairwise (· ≤ ·) → H p = none → Q (.ref p) (upd H p (.lst (ns'.map V.int)))) := by
  intro pins s σ H vs us Q I r h
  obtain ⟨a, ns, rfl, hs, h64, q⟩ := h
  obtain ⟨its, rv, hl, hz⟩ := I.tuple hs
  rw [Vals.ref1 r]
  have hlen := rv.length
  rw [List.length_map] at hlen
  refine sorted_tupI hl (ints_of_vals rv) (by omega) fun out ns' k1 k2 k3 => ?_
  obtain ⟨ep, he'⟩ := PyProof.Rows.sortedAll_at s.heap its out
  have hl2 : (ns'.map V.int).length ≤ sizeLine := by rw [List.length_map, k2.length_eq, sizeLine_eq]; omega
  exact ⟨.ref _, upd H (s.heap.objs.size + 1) (.lst (ns'.map V.int)), I.laid (t' := s.toks) (fun _ _ => PyProof.Rows.sortedAll_old) (Nat.le_succ _) ⟨hl2, out.toList, ep, vals_of_ints k1, by simpa using he'⟩, rfl, q _ _ k2 k3 (I.hok.fresh (Nat.le_succ _))⟩
end Pi

set_option Elab.async false
set_option linter.all false
set_option maxRecDepth 100000
set_option maxHeartbeats 4000000
/-! Pi5: built-in functions on data. -/
namespace Pi
open PySem PySem.Spec PyProof.Rows L2
variable [MP]

inductive RqL (K : PySem.W.Frag) (H : Hp) (O : List Addr) : List V → List D → Prop
  | nil : RqL K H O [] []
  | cons {v : V} {vs : List V} {d : D} {ds : List D} : Rq K H O v d → RqL K H O vs ds → RqL K H O (v :: vs) (d :: ds)
theorem RqL.one {K : PySem.W.Frag} {H : Hp} {O : List Addr} {vs : List V} {d : D} (h : RqL K H O vs [d]) : ∃ v, vs = [v] ∧ Rq K H O v d := by
  cases h with
  | cons h t => cases t; exact ⟨_, rfl, h⟩
theorem RqL.two {K : PySem.W.Frag} {H : Hp} {O : List Addr} {vs : List V} {d e : D} (h : RqL K H O vs [d, e]) : ∃ v w, vs = [v, w] ∧ Rq K H O v d ∧ Rq K H O w e := by
  cases h with
  | cons h t =>
    cases t with
    | cons h' t' => cases t'; exact ⟨_, _, rfl, h, h'⟩
theorem Rq.scrL {K : PySem.W.Frag} {H : Hp} {O : List Addr} {v : V} {kvs : List (D × D)} (hscr : isScr kvs = true) (h : Rq K H O v (.dict kvs)) : ∃ (a : Addr) (ns : List Int), v = .ref a ∧ kvs = ns.map (fun n => (PyData.int n, PyData.none)) ∧ SqL K H a (ns.map V.int) := by
  rcases h with h | ⟨a, vs, ds', rfl, e, h, r⟩
  · generalize hk : PyData.dict kvs = dd at h
    cases h with
    | @scr a ns hs =>
      unfold scr at hk
      cases hk
      exact ⟨a, ns, rfl, rfl, Fz.sub.seq hs⟩
    | memo hm => unfold memoD at hk; cases hk; simp [isScr] at hscr
    | fn hm => unfold fnD at hk; cases hk; simp [isScr] at hscr
    | _ => cases hk
  · cases e

def asBools : List D → Option (List Bool)
  | [] => some []
  | .bool i :: r => (asBools r).map (i :: ·)
  | _ :: _ => none
theorem Rq.dictR {K : PySem.W.Frag} {H : Hp} {O : List Addr} {v : V} {kvs : List (D × D)} (h : Rq K H O v (.dict kvs)) : ∃ a : Addr, v = .ref a := by
  rcases h with h | ⟨a, vs, ds', rfl, e, h, r⟩
  · generalize hk : PyData.dict kvs = dd at h
    cases h <;> first | exact ⟨_, rfl⟩ | cases hk
  · exact ⟨_, rfl⟩

omit [MP] in
theorem asBools_eq : ∀ {ds : List D} {ns : List Bool}, asBools ds = some ns → ds = ns.map PyData.bool
  | [], ns, h => by cases h; rfl
  | .bool i :: r, ns, h => by
    unfold asBools at h
    cases q : asBools r with
    | none => rw [q] at h; cases h
    | some ms => rw [q] at h; cases h; rw [asBools_eq q]; rfl
  | .none :: _, _, h => by cases h
  | .int _ :: _, _, h => by cases h
  | .str _ :: _, _, h => by cases h
  | .list _ :: _, _, h => by cases h
  | .tuple _ :: _, _, h => by cases h
  | .dict _ :: _, _, h => by cases h
omit [MP] in
@[simp] theorem asBools_map (ns : List Bool) : asBools (ns.map PyData.bool) = some ns := by
  induction ns with
  | nil => rfl
  | cons n ns ih => simp [asBools, ih]

/-- the greatest, the least -/
def maxI : List Int → Int
  | [] => 0
  | [x] => x
  | x :: r => if maxI r > x then maxI r else x
def minI : List Int → Int
  | [] => 0
  | [x] => x
  | x :: r => if minI r < x then minI r else x
omit [MP] in
theorem maxI_mem : ∀ {ns : List Int}, 0 < ns.length → maxI ns ∈ ns ∧ ∀ y ∈ ns, y ≤ maxI ns
  | [x], _ => by simp [maxI]
  | x :: y :: r, _ => by
    obtain ⟨h1, h2⟩ := maxI_mem (ns := y :: r) (by simp)
    have e : maxI (x :: y :: r) = if maxI (y :: r) > x then maxI (y :: r) else x := rfl
    rw [e]
    split
    · refine ⟨List.mem_cons_of_mem _ h1, fun z hz => ?_⟩
      rcases List.mem_cons.mp hz with rfl | hz
      · omega
      · exact h2 z hz
    · refine ⟨List.mem_cons_self, fun z hz => ?_⟩
      rcases List.mem_cons.mp hz with rfl | hz
      · omega
      · have := h2 z hz; omega
omit [MP] in
theorem minI_mem : ∀ {ns : List Int}, 0 < ns.length → minI ns ∈ ns ∧ ∀ y ∈ ns, minI ns ≤ y
  | [x], _ => by simp [minI]
  | x :: y :: r, _ => by
    obtain ⟨h1, h2⟩ := minI_mem (ns := y :: r) (by simp)
    have e : minI (x :: y :: r) = if minI (y :: r) < x then minI (y :: r) else x := rfl
    rw [e]
    split
    · refine ⟨List.mem_cons_of_mem _ h1, fun z hz => ?_⟩
      rcases List.mem_cons.mp hz with rfl | hz
      · omega
      · exact h2 z hz
    · refine ⟨List.mem_cons_self, fun z hz => ?_⟩
      rcases List.mem_cons.mp hz with rfl | hz
      · omega
      · have := h2 z hz; omega
/-- sorted ints, by insertion -/
def insI (x : Int) : List Int → List Int
  | [] => [x]
  | y :: r => if x ≤ y then x :: y :: r else y :: insI x r
def sortI : List Int → List Int
  | [] => []
  | x :: r => insI x (sortI r)
omit [MP] in
theorem insI_perm (x : Int) : ∀ l : List Int, (insI x l).Perm (x :: l)
  | [] => .refl _
  | y :: r => by
    unfold insI
    split
    · exact .refl _
    · exact ((insI_perm x r).cons y).trans (.swap x y r)
omit [MP] in
theorem sortI_perm : ∀ l : List Int, (sortI l).Perm l
  | [] => .refl _
  | x :: r => (insI_perm x _).trans ((sortI_perm r).cons x)
omit [MP] in
theorem insI_sorted (x : Int) : ∀ {l : List Int}, l.Pairwise (· ≤ ·) → (insI x l).Pairwise (· ≤ ·)
  | [], _ => by simp [insI]
  | y :: r, h => by
    obtain ⟨h1, h2⟩ := List.pairwise_cons.mp h
    unfold insI
    split
    · rename_i c
      refine List.pairwise_cons.mpr ⟨fun z hz => ?_, h⟩
      rcases List.mem_cons.mp hz with rfl | hz
      · exact c
      · exact Int.le_trans c (h1 z hz)
    · rename_i c
      refine List.pairwise_cons.mpr ⟨fun z hz => ?_, insI_sorted x h2⟩
      rcases List.mem_cons.mp ((insI_perm x r).mem_iff.mp hz) with rfl | hz
      · omega
      · exact h1 z hz
omit [MP] in
theorem sortI_sorted : ∀ l : List Int, (sortI l).Pairwise (· ≤ ·)
  | [] => .nil
  | x :: r => insI_sorted x (sortI_sorted r)
omit [MP] in
theorem sorted_uniq {l l' : List Int} (p : l.Perm l') (h : l.Pairwise (· ≤ ·)) (h' : l'.Pairwise (· ≤ ·)) : l = l' :=
  p.eq_of_pairwise (fun a b _ _ x y => Int.le_antisymm x y) h h'

inductive Bi where | len | all | any | list | tuple | max1 | min1 | max2 | min2 | sorted
  deriving DecidableEq
def Bi.nm : Bi → Str
  | .len => "len" | .all => "all" | .any => "any" | .list => "list" | .tuple => "tuple" | .max1 => "max" | .min1 => "min" | .max2 => "max" | .min2 => "min" | .sorted => "sorted"
def Bi.val : Bi → Value
  | .len => .builtin "len" | .all => .builtin "all" | .any => .builtin "any" | .list => .type "list" | .tuple => .type "tuple" | .max1 => .builtin "max" | .min1 => .builtin "min" | .max2 => .builtin "max" | .min2 => .builtin "min" | .sorted => .builtin "sorted"
def lenD : D → R D
  | .list ds => .ok (.int ds.length)
  | .tuple ds => .ok (.int ds.length)
  | .dict ds => if isScr ds then .ok (.int ds.length) else .bad
  | .str z => if z.length ≤ big then .ok (.int z.length) else .bad
  | _ => .bad
def biD : Bi → List D → R D
  | .len, [d] => lenD d
  | .all, [.list ds] => match asBools ds with | some bs => .ok (.bool (bs.all id)) | none => .bad
  | .any, [.list ds] => match asBools ds with | some bs => .ok (.bool (bs.any id)) | none => .bad
  | .list, [.list ds] => .ok (.list ds)
  | .list, [.tuple ds] => .ok (.list ds)
  | .tuple, [.list ds] => .ok (.tuple ds)
  | .tuple, [.tuple ds] => .ok (.tuple ds)
  | .max1, [.list ds] => match asInts ds with | some ns => (match ns with | [] => .bad | _ :: _ => .ok (.int (maxI ns))) | none => .bad
  | .min1, [.list ds] => match asInts ds with | some ns => (match ns with | [] => .bad | _ :: _ => .ok (.int (minI ns))) | none => .bad
  | .max2, [.int i, .int j] => .ok (.int (if j > i then j else i))
  | .min2, [.int i, .int j] => .ok (.int (if j < i then j else i))
  | .sorted, [.list ds] => match asInts ds with | some ns => .ok (.list ((sortI ns).map PyData.int)) | none => (match asPairs ds with | some ps => .ok (.list ((sortP ps).map pD)) | none => .bad)
  | .sorted, [.tuple ds] => match asInts ds with | some ns => if Nat.ble ns.length 60 then .ok (.list ((sortI ns).map PyData.int)) else .bad | none => .bad
  | _, _ => .bad
/-- a call on data -/
def rCD (K : PySem.W.Frag) (g : List D → R D) : List V → Hp → VK → Prop := fun xs H Q => ∃ O ds d, Dom H O ∧ RqL K H O xs ds ∧ g ds = .ok d ∧ ∀ v H', Same H H' → Rn K H H' O v d → Q v H'
theorem nlT (b : List D) (ds : List D) : PyData.tuple b ≠ .list ds := fun z => nomatch z
section
variable {X : Cx}
theorem call_biD (b : Bi) (hc : X.calm = true) : CallR X b.val (rCD X.K (biD b)) := by
  intro pins s σ H xs us Q I r h
  obtain ⟨O, ds, d, dm, hx, e, q⟩ := h
  have hz := sizeLine_eq
  have hbig : big = 16777216 := rfl
  unfold biD at e
  split at e
  · obtain ⟨v, rfl, hv⟩ := hx.one
    have fin : ∀ n : Nat, d = .int (n : Int) → Q (.int (n : Int)) H := fun n z => by
      subst z; exact q _ _ (Same.refl _) (.of (.int _) (nlI _))
    unfold lenD at e
    split at e
    · cases e
      obtain ⟨a, vs, rfl, ha, ra⟩ := hv.lst
      exact call_len pins s σ H _ us Q I r ⟨_, _, rfl, .inl ⟨vs, .of ha, rfl⟩, by rw [ra.length]; exact fin _ rfl⟩
    · cases e
      obtain ⟨a, o, vs, rfl, ha, _, ra⟩ := hv.tup
      exact call_len pins s σ H _ us Q I r ⟨_, _, rfl, .inr ⟨vs, SqT.fr ha, rfl⟩, by rw [ra.length]; exact fin _ rfl⟩
    · rename_i kk
      have hscr : isScr kk = true := by
        by_cases hscr : isScr kk = true
        · exact hscr
        · rw [if_neg hscr] at e; cases e
      rw [if_pos hscr] at e
      cases e
      obtain ⟨a, ns, rfl, hk, hs⟩ := hv.scrL hscr
      refine call_len pins s σ H _ us Q I r ⟨_, _, rfl, .inl ⟨_, hs, rfl⟩, ?_⟩
      have := fin ns.length (by rw [hk, List.length_map])
      rw [List.length_map]
      exact this
    · split at e
      · cases e; cases hv.str
        exact call_len pins s σ H _ us Q I r ⟨_, _, rfl, ⟨by omega, rfl⟩, fin _ rfl⟩
      · cases e
    · cases e
  · split at e
    · rename_i hb
      cases e
      obtain ⟨v, rfl, hv⟩ := hx.one
      rw [asBools_eq hb] at hv
      obtain ⟨a, vs, rfl, ha, ra⟩ := hv.lst
      have := ra.bls
      subst this
      exact cr_all hc pins s σ H _ us Q I r ⟨a, _, rfl, .of ha, q _ _ (Same.refl _) (.of (.bl _) (nlB _))⟩
    · cases e
  · split at e
    · rename_i hb
      cases e
      obtain ⟨v, rfl, hv⟩ := hx.one
      rw [asBools_eq hb] at hv
      obtain ⟨a, vs, rfl, ha, ra⟩ := hv.lst
      have := ra.bls
      subst this
      exact cr_any hc pins s σ H _ us Q I r ⟨a, _, rfl, .of ha, q _ _ (Same.refl _) (.of (.bl _) (nlB _))⟩
    · cases e
  · cases e
    obtain ⟨v, rfl, hv⟩ := hx.one
    obtain ⟨a, vs, rfl, ha, ra⟩ := hv.lst
    exact call_list_of pins s σ H _ us Q I r ⟨a, vs, rfl, .inl (.of ha), fun p hp => q _ _ (same_upd hp) ((new_at hp ra).rn dm)⟩
  · cases e
    obtain ⟨v, rfl, hv⟩ := hx.one
    obtain ⟨a, o, vs, rfl, ha, _, ra⟩ := hv.tup
    exact call_list_of pins s σ H _ us Q I r ⟨a, vs, rfl, .inr (SqT.fr ha), fun p hp => q _ _ (same_upd hp) ((new_at hp ra).rn dm)⟩
  · cases e
    obtain ⟨v, rfl, hv⟩ := hx.one
    obtain ⟨a, vs, rfl, ha, ra⟩ := hv.lst
    exact call_tupleF pins s σ H _ us Q I r ⟨a, vs, rfl, .inl ⟨.of ha, fun p o hp ho => q _ _ (same_upd hp) (.of (tup_at dm hp ho ra) (nlT _))⟩⟩
  · cases e
    obtain ⟨v, rfl, hv⟩ := hx.one
    obtain ⟨a, o, vs, rfl, ha, _, ra⟩ := hv.tup
    refine call_tupleF pins s σ H _ us Q I r ⟨a, vs, rfl, .inr ⟨SqT.fr ha, ?_⟩⟩
    rcases hv with hv | ⟨_, _, _, _, z, _⟩
    · exact q _ _ (Same.refl _) (.of hv (nlT _))
    · cases z
  · split at e
    · rename_i hb
      split at e
      · cases e
      · cases e
        obtain ⟨v, rfl, hv⟩ := hx.one
        rw [asInts_eq hb] at hv
        obtain ⟨a, vs, rfl, ha, ra⟩ := hv.lst
        have := ra.ints
        subst this
        refine cr_max hc pins s σ H _ us Q I r ⟨a, _, rfl, .of ha, by simp, fun m hm hle => ?_⟩
        obtain ⟨h1, h2⟩ := maxI_mem (ns := _ :: _) (by simp)
        rw [Int.le_antisymm (h2 _ hm) (hle _ h1)]
        exact q _ _ (Same.refl _) (.of (.int _) (nlI _))
    · cases e
  · split at e
    · rename_i hb
      split at e
      · cases e
      · cases e
        obtain ⟨v, rfl, hv⟩ := hx.one
        rw [asInts_eq hb] at hv
        obtain ⟨a, vs, rfl, ha, ra⟩ := hv.lst
        have := ra.ints
        subst this
        refine cr_min hc pins s σ H _ us Q I r ⟨a, _, rfl, .of ha, by simp, fun m hm hle => ?_⟩
        obtain ⟨h1, h2⟩ := minI_mem (ns := _ :: _) (by simp)
        rw [Int.le_antisymm (hle _ h1) (h2 _ hm)]
        exact q _ _ (Same.refl _) (.of (.int _) (nlI _))
    · cases e
  · cases e
    obtain ⟨v, w, rfl, hv, hw⟩ := hx.two
    cases hv.int; cases hw.int
    exact call_max2 hc pins s σ H _ us Q I r ⟨_, _, rfl, q _ _ (Same.refl _) (.of (.int _) (nlI _))⟩
  · cases e
    obtain ⟨v, w, rfl, hv, hw⟩ := hx.two
    cases hv.int; cases hw.int
    exact call_min2 hc pins s σ H _ us Q I r ⟨_, _, rfl, q _ _ (Same.refl _) (.of (.int _) (nlI _))⟩
  · split at e
    · rename_i hb
      cases e
      obtain ⟨v, rfl, hv⟩ := hx.one
      rw [asInts_eq hb] at hv
      obtain ⟨a, vs, rfl, ha, ra⟩ := hv.lst
      have := ra.ints
      subst this
      refine cr_sortedI pins s σ H _ us Q I r ⟨a, _, rfl, .of ha, fun ns' p hp hs hn => q _ _ (same_upd hn) ?_⟩
      rw [sorted_uniq (hp.trans (sortI_perm _).symm) hs (sortI_sorted _)]
      exact (new_at hn (RpL.ofInts _)).rn dm
    · split at e
      · rename_i ps hb
        cases e
        obtain ⟨v, rfl, hv⟩ := hx.one
        rw [asPairs_eq hb] at hv
        obtain ⟨a, vs, rfl, ha, ra⟩ := hv.lst
        refine cr_sortedF pins s σ H _ us Q I r ⟨a, _, keyP X.K (Fz H O), rfl, .of ha, fun x hx => ?_, fun ys p h1 h2 hn => q _ _ (same_upd hn) ?_⟩
        · obtain ⟨t, o, e, ht⟩ := rp_pair ((keyP_map ra).2 x hx)
          exact ⟨t, e, SqT.fr (Fz.of ht).1⟩
        · exact (new_at hn (sorted_rp ra h1 h2.perm)).rn dm
      · cases e
  · split at e
    · rename_i hn
      split at e
      · rename_i hle
        cases e
        obtain ⟨v, rfl, hv⟩ := hx.one
        obtain ⟨a, o, vs, rfl, ha, _, ra⟩ := hv.tup
        have hds := asInts_eq hn
        subst hds
        have hvs := ra.ints
        subst hvs
        have hle' := Nat.le_of_ble_eq_true hle
        refine cr_sortedT pins s σ H _ us Q I r ⟨a, _, rfl, SqT.fr ha, by omega, fun ns' p hp hs hn => q _ _ (same_upd hn) ?_⟩
        rw [sorted_uniq (hp.trans (sortI_perm _).symm) hs (sortI_sorted _)]
        exact (new_at hn (RpL.ofInts _)).rn dm
      · cases e
    · cases e
  · cases e

/-! ### isinstance -/
inductive Ty where | int | bool | tuple | list | str
  deriving DecidableEq
def Ty.nm : Ty → Str
  | .int => "int" | .bool => "bool" | .tuple => "tuple" | .list => "list" | .str => "str"
def Ty.ty : Ty → String
  | .int => "int" | .bool => "bool" | .tuple => "tuple" | .list => "list" | .str => "str"
@[simp] def isD : D → Ty → Bool
  | .int _, .int => true
  | .bool _, .int => true
  | .bool _, .bool => true
  | .tuple _, .tuple => true
  | .list _, .list => true
  | .dict _, .list => true
  | .str _, .str => true
  | _, _ => false
theorem Rq.isi {K : PySem.W.Frag} {H : Hp} {O : List Addr} {v : V} {d : D} (h : Rq K H O v d) (hs : ∀ kvs, d ≠ .dict kvs) (T : Ty) : ∃ t, TyX K H v t ∧ PySem.W.kitOne K t (.type T.ty) = some (isD d T) := by
  rcases h with h | ⟨a, vs, ds', rfl, rfl, h, r⟩
  · have h' := h.mono Fz.sub
    cases h' with
    | non => exact ⟨_, .base .non, by cases T <;> with_unfolding_all rfl⟩
    | bl b => exact ⟨_, .base (.bl b), by cases T <;> with_unfolding_all rfl⟩
    | int b => exact ⟨_, .base (.int b), by cases T <;> with_unfolding_all rfl⟩
    | str b => exact ⟨_, .base (.str b), by cases T <;> with_unfolding_all rfl⟩
    | lst h1 h2 => exact ⟨_, .base (.lst h1), by cases T <;> with_unfolding_all rfl⟩
    | tup h1 h2 h3 => exact ⟨_, .fTuple h1, by cases T <;> with_unfolding_all rfl⟩
    | scr h1 => exact (hs _ rfl).elim
    | memo h1 => exact (hs _ rfl).elim
    | fn h1 => exact (hs _ rfl).elim
  · exact ⟨_, .base (.lst h), by cases T <;> with_unfolding_all rfl⟩
theorem call_isiD (T : Ty) : CallR X (.builtin "isinstance") (fun xs H Q => ∃ O v d, Dom H O ∧ xs = [v, .ty T.ty] ∧ Rq X.K H O v d ∧ (∀ kvs, d ≠ .dict kvs) ∧ Q (.bl (isD d T)) H) := by
  intro pins s σ H xs us Q I r h
  obtain ⟨O, v, d, dm, rfl, hv, hs, q⟩ := h
  obtain ⟨t, ht, hk⟩ := hv.isi hs T
  exact call_isi pins s σ H _ us Q I r ⟨v, .ty T.ty, t, .type T.ty, _, rfl, .ty _, ht, hk, q⟩
end
end Pi

set_option Elab.async false
set_option linter.all false
set_option maxRecDepth 100000
set_option maxHeartbeats 4000000
namespace Pi
open PySem PySem.Spec PyProof.Rows L2
/-! ### sorted without repeats -/
def insU (x : Int) : List Int → List Int
  | [] => [x]
  | y :: r => if x < y then x :: y :: r else if x = y then y :: r else y :: insU x r
def usort : List Int → List Int
  | [] => []
  | x :: r => insU x (usort r)
theorem insU_mem (x z : Int) : ∀ l : List Int, z ∈ insU x l ↔ z = x ∨ z ∈ l
  | [] => by simp [insU]
  | y :: r => by
    unfold insU
    split
    · simp
    · split
      · rename_i h; subst h; simp
      · rw [List.mem_cons, insU_mem x z r, List.mem_cons]
        constructor
        · rintro (h | h | h)
          · exact .inr (.inl h)
          · exact .inl h
          · exact .inr (.inr h)
        · rintro (h | h | h)
          · exact .inr (.inl h)
          · exact .inl h
          · exact .inr (.inr h)
theorem insU_sorted (x : Int) : ∀ {l : List Int}, l.Pairwise (· < ·) → (insU x l).Pairwise (· < ·)
  | [], _ => by simp [insU]
  | y :: r, h => by
    obtain ⟨h1, h2⟩ := List.pairwise_cons.mp h
    unfold insU
    split
    · rename_i c
      refine List.pairwise_cons.mpr ⟨fun z hz => ?_, h⟩
      rcases List.mem_cons.mp hz with rfl | hz
      · exact c
      · exact Int.lt_trans c (h1 z hz)
    · split
      · exact h
      · refine List.pairwise_cons.mpr ⟨fun z hz => ?_, insU_sorted x h2⟩
        rcases (insU_mem x z r).mp hz with rfl | hz
        · omega
        · exact h1 z hz
theorem usort_mem (z : Int) : ∀ l : List Int, z ∈ usort l ↔ z ∈ l
  | [] => by simp [usort]
  | x :: r => by unfold usort; rw [insU_mem, usort_mem z r, List.mem_cons]
theorem usort_sorted : ∀ l : List Int, (usort l).Pairwise (· < ·)
  | [] => .nil
  | x :: r => insU_sorted x (usort_sorted r)
theorem strict_uniq : ∀ {l m : List Int}, l.Pairwise (· < ·) → m.Pairwise (· < ·) → (∀ z, z ∈ l ↔ z ∈ m) → l = m
  | [], [], _, _, _ => rfl
  | [], y :: r, _, _, h => by have := (h y).mpr List.mem_cons_self; cases this
  | x :: r, [], _, _, h => by have := (h x).mp List.mem_cons_self; cases this
  | x :: r, y :: t, h1, h2, h => by
    obtain ⟨a1, a2⟩ := List.pairwise_cons.mp h1
    obtain ⟨b1, b2⟩ := List.pairwise_cons.mp h2
    have e : x = y := by
      rcases List.mem_cons.mp ((h x).mp List.mem_cons_self) with e | e
      · exact e
      · rcases List.mem_cons.mp ((h y).mpr List.mem_cons_self) with e2 | e2
        · exact e2.symm
        · have := a1 y e2; have := b1 x e; omega
    subst e
    rw [strict_uniq a2 b2 fun z => ?_]
    constructor
    · intro hz
      rcases List.mem_cons.mp ((h z).mp (List.mem_cons_of_mem _ hz)) with rfl | q
      · have := a1 z hz; omega
      · exact q
    · intro hz
      rcases List.mem_cons.mp ((h z).mpr (List.mem_cons_of_mem _ hz)) with rfl | q
      · have := b1 z hz; omega
      · exact q
def tSS (K : PySem.W.Frag) (ta : TE) : TE := fun σ H Q => ta σ H fun x H1 => ∃ (l : Addr) (ns : List Int), x = .ref l ∧ SqL K H1 l (ns.map V.int) ∧ (ns.length ≤ 4000 ∧ (usort ns).length ≤ 60) ∧ ∀ p, H1 p = none → Q (.ref p) (upd H1 p (.lst ((usort ns).map V.int)))
theorem pe_sortset {X : Cx} {a : Expr} {ta : TE} {p p2 q pos : Pos} (hg : Gl X "sorted") (hm : X.mg "sorted" = none) (hg2 : Gl X "set") (hm2 : X.mg "set" = none) (ha : PE X a ta) (hc : X.calm = true)
    (na : starEach [a] X.env = (false, eval a X.env) :: starEach [] X.env) : PE X (.Call (.Name "sorted" p) [.Call (.Name "set" p2) [a] [] q] [] pos) (tSS X.K ta) := by
  refine ⟨fun pins s σ H Q I h => ?_⟩
  have bs : bootBuiltins (Str.ofString "sorted") = some (.builtin "sorted") := by decide +kernel
  refine Call_ (ld_blt I hg hm bs ?_)
  refine PyProof.Rows.callWith_builtin1 (PyProof.Rows.args_cons ?_ rfl) rfl rfl
  refine Call_ (ld_blt I hg2 hm2 boot_set ?_)
  refine PyProof.Rows.callWith_type1 (PyProof.Rows.args_cons (thn (ha.run pins s σ H _ I h) fun v s1 ⟨x, H1, I1, r1, q1⟩ => PyProof.Rows.args_nil ?_) na) na rfl
  obtain ⟨l, ns, rfl, hq, hlen, q1⟩ := q1
  cases r1
  obtain ⟨its, r, pl, hz⟩ := I1.list hq
  refine set_listI ns (I1.ok.hd hc) pl.isList (by simpa using ints_of_vals r) (by unfold scanBound; omega) fun h' tk c hS hcl0 hk => ?_
  have hcl : c ≤ (usort ns).length := by
    obtain ⟨o, es, ep, t, _, _, _, _, nd, hm, _, _, hn, _⟩ := id hS
    have := nodup_sub_len nd fun k hk => (usort_mem k ns).mpr (of_decide_eq_true ((hm k).mpr hk))
    rw [List.length_map, Array.length_toList] at this
    omega
  refine PyProof.Rows.args_nil ?_
  have I2 : Inv X pins σ H1 { s1 with heap := h', toks := tk } := I1.kept hk
  refine sorted_set hS (I2.ok.hd hc) (by omega) fun s' p out c2 ns' k g o hp hgt hi hs hm hl => ?_
  have e1 : ns' = usort ns := strict_uniq hs (usort_sorted ns) fun z => by rw [hm z, usort_mem, decide_eq_true_eq]
  subst e1
  have hlen2 : ((usort ns).map V.int).length ≤ sizeLine := by rw [List.length_map, hl, sizeLine_eq]; omega
  have hn : H1 p = none := I2.hok.fresh hp
  have J : L2.Inv X pins σ (upd H1 p (.lst ((usort ns).map V.int))) { ({ s1 with heap := h', toks := tk } : Shared) with heap := s'.heap, gens := s'.gens, drawn := s'.drawn, toks := s'.toks } :=
    I2.call (ch := []) (Un.laid k hp hn) (I2.hok.laid k hp ⟨hlen2, out.toList, c2, vals_of_ints hi, hgt⟩) (by rw [g]; exact I2.bare) (fun _ z => nomatch z)
  have e : s' = { ({ s1 with heap := h', toks := tk } : Shared) with heap := s'.heap, gens := s'.gens, drawn := s'.drawn, toks := s'.toks } := by
    cases s'; cases s1; cases o; rfl
  rw [e]
  exact ⟨.ref p, _, J, rfl, q1 p hn⟩
end Pi

set_option Elab.async false
set_option linter.all false
set_option maxRecDepth 100000
set_option maxHeartbeats 4000000
/-! Pi6e: enumerate(tuple). -/
namespace Pi
open PySem PySem.Spec PyProof.Rows L2
theorem meets_enumerate_newT (l : Addr) (items : Array Value) (n : Nat) (dct : Option Addr) (sl : Array (Option Value)) :
    Meets (Builtin.«enumerate.__new__» ⟨[.type "enumerate", .ref l], []⟩) (fun _ R s =>
      s.heap.get? l = some { cls := .type "tuple", dict := dct, data := .seq items n, slots := sl } ∧
      R (.ok (.ret (.ref (s.heap.push { cls := .type "tuple_iterator", data := .fields #[.ref l, .int 0 0] }).objs.size)))
        { s with heap := (s.heap.push { cls := .type "tuple_iterator", data := .fields #[.ref l, .int 0 0] }).push { cls := .type "enumerate", data := .fields #[.none, .bool false, .ref s.heap.objs.size, rawInt 0, .none, .none] } }) :=
  .of_wp fun prog w A R s h => by
    obtain ⟨hp, g, d, tk, os⟩ := s
    obtain ⟨hl, h⟩ := h
    have hsub := sub_enumerate
    have hL : Heap.IsTuple hp l items := ⟨_, hl, rfl, n, rfl⟩
    wp_walk
    refine wpAny_stack_any fun st => wpAny_pure ?_
    split
    · rename_i c _ _ _ _ _
      cases (c == Value.type "enumerate")
      · wp_walk using wpAny_loadPart' hl, wpAny_pyIter_tuple hL
        exact ⟨_, rfl, h⟩
      · wp_walk using wpAny_loadPart' hl, wpAny_pyIter_tuple hL
        exact ⟨_, rfl, h⟩
    · wp_walk using wpAny_loadPart' hl, wpAny_pyIter_tuple hL
      exact ⟨_, rfl, h⟩
section
variable {prog : Program} {w : World} {A : Around} {E : Value → Shared → Prop} {s : Shared}
theorem call_enumerate_tuple {l : Addr} {items : Array Value} {Q : Value → Shared → Prop} (hL : s.heap.IsTuple l items)
    (h : ∀ h', IsEnum h' (s.heap.objs.size + 1) s.heap.objs.size 0 .none → h'.IsTupleIter s.heap.objs.size l 0 → h'.objs.size = s.heap.objs.size + 2 →
      (∀ b o, s.heap.get? b = some o → h'.get? b = some o) → Q (.ref (s.heap.objs.size + 1)) { s with heap := h' }) :
    wpAny (model prog w) A (call (.type "enumerate") [.ref l]) Q E s := by
  obtain ⟨⟨c, dct, dt, sl⟩, hl, hc, n, hd⟩ := hL
  replace hc : c = .type "tuple" := hc
  replace hd : dt = .seq items n := hd
  subst hc hd
  refine callType_new F.called_enumerate (by decide) (F.typeCall_enumerate_1 _) (F.newCall_enumerate_1 _) (fun obj => F.args_object_init_2 obj _) F.entry_enumerate_new
    (meets_enumerate_newT l items n dct sl) ⟨hl, ?_⟩
  have hz : (s.heap.push { cls := .type "tuple_iterator", data := .fields #[.ref l, .int 0 0] }).objs.size = s.heap.objs.size + 1 := Heap.size_push ..
  show _ ∧ _
  rw [hz]
  have he : IsEnum ((s.heap.push { cls := .type "tuple_iterator", data := .fields #[.ref l, .int 0 0] }).push
      { cls := .type "enumerate", data := .fields #[.none, .bool false, .ref s.heap.objs.size, rawInt 0, .none, .none] }) (s.heap.objs.size + 1) s.heap.objs.size 0 .none := by
    have := Heap.get?_push_size (s.heap.push { cls := .type "tuple_iterator", data := .fields #[.ref l, .int 0 0] })
      (o := { cls := .type "enumerate", data := .fields #[.none, .bool false, .ref s.heap.objs.size, rawInt 0, .none, .none] }) rfl
    rw [hz] at this; exact this
  refine ⟨⟨_, he, rfl⟩, h _ he ⟨_, Heap.get?_push_of_some _ (Heap.get?_push_size _ rfl), rfl, rfl⟩ (by rw [Heap.size_push, hz]) fun b o x => Heap.get?_push_of_some _ (Heap.get?_push_of_some _ x)⟩
end
section
variable {prog : Program} {w : World} {A : Around} {E : Value → Shared → Prop} {s : Shared}
theorem pyNext_enumT_end {e it t : Addr} {i : Nat} {items : Array Value} {k : Int} {old : Value} {Q : Option Value → Shared → Prop} (hh : A.handled = none)
    (he : IsEnum s.heap e it k old) (hit : s.heap.IsTupleIter it t i) (ht : s.heap.IsTuple t items) (hx : items[i]? = none)
    (hQ : ∀ h', Heap.ExtBut it s.heap h' → Q none { s with heap := h' }) : wpAny (model prog w) A (pyNext (.ref e)) Q E s := by
  have hT : s.TypeIs (.ref e) "enumerate" := ⟨_, he, rfl⟩
  unfold pyNext
  refine wpAny_bind (wpAny_attempt (wpAny_callSpecial?_slot (name := Str.ofString "__next__") hT F.slot_enumerate_next
    (wpAny_call_entry F.slot_enumerate_next hT F.entry_enumerate_next ?_ (F.args_enumerate_next_1 _))))
  show wpAny _ _ (field (.ref e) 2 >>= _) _ _ _
  refine wpAny_bind (wpAny_field he rfl (x := .ref it) rfl ?_)
  refine wpAny_bind (wpAny_nextOf_tuple_end (show A.in1.handled = none from hh) hit ht hx fun h' x he' hx' => ?_)
  obtain ⟨o, ho, hc⟩ := hx'
  refine wpAny_bind (wpAny_isInstance (T := "StopIteration") (b := true) ⟨o, ho, hc⟩ isSubtype_stop ?_)
  exact wpAny_pure (hQ _ he')
end
/-- the tuple at a, each item in a new pair -/
def IteT (K : PySem.W.Frag) (a : Addr) : It :=
  ⟨fun i H => ∃ (xs : List V) (x : V), SqT K H a xs ∧ xs[i]? = some x, fun i H v H' => ∃ T x, v = .ref T ∧ H T = none ∧ H' = upd H T (.tup [.int (i : Nat), x]) ∧ ∀ xs, SqT K H a xs → xs[i]? = some x, fun i H => ∃ xs : List V, SqT K H a xs ∧ xs.length ≤ i⟩
theorem turn_enumT {P : Program} {w : World} {K : PySem.W.Frag} {elts : List Expr} {kk : Nat} {tpos : Pos} (a e it : Addr) :
    Turn P w K (.Tuple elts kk tpos) (IteT K a) [e, it] e (fun i h => (∃ old, IsEnum h e it ((i : Nat) : Int) old) ∧ h.IsTupleIter it a i ∧ e ≠ it ∧ a ≠ it ∧ a ≠ e) where
  mem := by simp
  obj := fun i h st b hb => by
    obtain ⟨⟨old, he⟩, ⟨o, ho, hc, hd⟩, _⟩ := st
    have e' : b = e ∨ b = it := by simpa using hb
    rcases e' with z | z
    · rw [z]; exact ⟨_, he, fun v q => nomatch q⟩
    · rw [z]; exact ⟨o, ho, fun v q => by rw [hd] at q; cases q⟩
  keep := fun i h h' st k => let ⟨⟨old, he⟩, hi, hne⟩ := st; ⟨⟨old, k e (by simp) _ he⟩, hi.at fun o q => k it (by simp) o q, hne⟩
  item := by
    intro X hP hw hK hc i pins s σ H E I hf st hg
    subst hP hw hK
    obtain ⟨⟨old, he⟩, hit, hne, hai, hae⟩ := st
    obtain ⟨xs, x, hq, hx⟩ := hg
    obtain ⟨its, rv, p, hz⟩ := I.tuple hq
    obtain ⟨u, hu, ru⟩ := rv.get hx
    have hel : e < s.heap.objs.size := Heap.lt_size he
    have hil : it < s.heap.objs.size := by obtain ⟨_, q, _⟩ := hit; exact Heap.lt_size q
    have D : Draws X.prog X.w X.A.in1 it [it, a] its.toArray.size (fun i v => its.toArray[i]? = some v) (fun i h => h.IsTupleIter it a i ∧ h.IsTuple a its.toArray) := Draws.tuple (A := X.A.in1) (show X.A.in1.handled = none from I.ok.hd hc) it a hai its.toArray
    have hlt : i < its.toArray.size := by
      have := (List.getElem?_eq_some_iff.mp hu).1
      simpa using this
    refine wpAny_pyNext_enum_itemD D he ⟨hit, p⟩ hlt hne (by simp; exact ⟨hne, fun z => hae z.symm⟩) fun y h' tk hP ho hit' hT hsz hk => ?_
    have ey : y = u := by
      have h1 : its.toArray[i]? = some u := by simpa using hu
      rw [hP] at h1
      exact Option.some.inj h1
    subst ey
    refine ⟨_, rfl, wpAny_letOwnedTupleGo_enum (s := { s with heap := h', toks := tk + 1 }) ho fun h'' he' sb => ?_⟩
    have hT2 : h''.get? s.heap.objs.size = some { cls := .type "tuple", data := .seq #[.int i tk, y] } := (sb.2 _ (Nat.ne_of_gt hel)).trans hT
    have new : ObjOk X.prog X.w (upd H s.heap.objs.size (.tup [.int (i : Nat), x])) h'' s.heap.objs.size (.tup [.int (i : Nat), x]) :=
      ⟨by show 2 ≤ sizeLine; decide, [.int i tk, y], .cons ⟨_, rfl⟩ (.cons ru .nil), ⟨_, hT2, rfl, _, rfl⟩⟩
    have I1 : L2.Inv X pins σ (upd H s.heap.objs.size (.tup [.int (i : Nat), x])) { s with heap := h'', toks := tk + 1 } :=
      I.turnedNew (ch := [e, it]) (fun b ob hb q => (sb.2 b (fun z => hb (by simp [z]))).trans (hk b ob (fun z => hb (by simp [z])) (fun z => hb (by simp [z])) q)) hf (Nat.le_refl _) new
    refine ⟨.ref s.heap.objs.size, _, I1, rfl, ⟨_, x, rfl, I.hok.fresh (Nat.le_refl _), rfl, fun ys hy => by rw [I.tuple_inj hy hq]; exact hx⟩, ⟨⟨y, ?_⟩, hit'.1.at fun o q => (sb.2 it (Ne.symm hne)).trans q, hne, hai, hae⟩, fun b hb => ?_⟩
    · have e1 : ((i + 1 : Nat) : Int) = (i : Int) + 1 := by omega
      rw [e1]; exact he'
    · have hb' : b < s.heap.objs.size := by
        have e' : b = e ∨ b = it := by simpa using hb
        rcases e' with z | z
        · rw [z]; exact hel
        · rw [z]; exact hil
      rw [upd_ne (Nat.ne_of_lt hb')]
      exact (hf b hb).1
  done := by
    intro X hP hw hK hc i pins s σ H E I hf st hg
    subst hP hw hK
    obtain ⟨⟨old, he⟩, hit, hne, hai, hae⟩ := st
    obtain ⟨xs, hq, hx⟩ := hg
    obtain ⟨its, rv, p, hz⟩ := I.tuple hq
    obtain ⟨f0, f1, f2, f3, f4, f5⟩ := hf it (by simp)
    have hl := rv.length
    exact pyNext_enumT_end (I.ok.hd hc) he hit p (by simp; omega) fun h' eb => ⟨rfl, I.turned (t' := s.toks) (fun b o hb q => eb b o hb q) f0 f1 f3 f4 f5⟩
  self := fun A i s Q E st h => let ⟨⟨_, he⟩, _⟩ := st; wpAny_pyIter_enum he h
def iEnumT (K : PySem.W.Frag) (ta : TA) : TI := fun σ H R => ta σ H fun vs H1 => ∃ a xs, vs = [.ref a] ∧ SqT K H1 a xs ∧ R (IteT K a) H1
theorem pi_enumT {X : Cx} {e : Expr} {ta : TA} {p pos tpos : Pos} {elts : List Expr} {kk : Nat} (hg : Gl X "enumerate") (hm : X.mg "enumerate" = none) (ha : PA X [e] ta) (hs : starEach [e] X.env = [(false, eval e X.env)] := by rfl) :
    PI X (.Tuple elts kk tpos) (.Call (.Name "enumerate" p) [e] [] pos) (iEnumT X.K ta) := by
  refine ⟨fun pins s σ H R I h => ?_⟩
  refine Call_ (ld_blt I hg hm boot_enumerate (PyProof.Rows.callWith_type1 (thn (ha.run pos pins s σ H _ I h) fun us s1 ⟨vs, H1, I1, r1, q1⟩ => ?_) hs rfl))
  obtain ⟨a, xs, ex, hq, q⟩ := q1
  subst ex
  cases r1 with
  | cons r rr =>
    cases rr
    cases r
    obtain ⟨its, rv, p', hz⟩ := I1.tuple hq
    obtain ⟨oa, hoa, _⟩ := id p'
    have hlt : a < s1.heap.objs.size := Heap.lt_size hoa
    refine call_enumerate_tuple p' fun h' he hit hsz hk => wpAny_pyIter_enum he ?_
    have I2 : L2.Inv X pins σ H1 { s1 with heap := h' } := I1.kept (t' := s1.toks) hk
    refine ⟨s1.heap.objs.size + 1, [s1.heap.objs.size + 1, s1.heap.objs.size], _, _, H1, rfl, I2, turn_enumT a (s1.heap.objs.size + 1) s1.heap.objs.size, ⟨⟨.none, he⟩, hit, Nat.succ_ne_self _, Nat.ne_of_lt hlt, Nat.ne_of_lt (Nat.lt_succ_of_lt hlt)⟩, fun b hb => ?_, q⟩
    have e' : b = s1.heap.objs.size + 1 ∨ b = s1.heap.objs.size := by simpa using hb
    have hle : s1.heap.objs.size ≤ b := by
      rcases e' with z | z
      · rw [z]; exact Nat.le_add_right _ _
      · rw [z]; exact Nat.le_refl _
    exact I1.fpOk hle (I1.hok.fresh hle)
theorem walk_enumT {K : PySem.W.Frag} {a : Addr} {xs : List V} : Walk (IteT K a) xs.length (fun H => SqT K H a xs) (YPair (fun i => some (.int (i : Nat))) (fun i => xs[i]?)) := by
  refine ⟨fun i H hi h => ⟨xs, xs[i], h, by simp [hi]⟩, fun H h => ⟨xs, h, Nat.le_refl _⟩, fun i H x H' hi h y => ?_⟩
  obtain ⟨T, z, e1, e2, e3, e4⟩ := y
  exact ⟨T, _, z, e1, e2, e3, rfl, e4 xs h⟩
end Pi

set_option Elab.async false
set_option linter.all false
set_option maxRecDepth 100000
set_option maxHeartbeats 4000000
/-! Pi6: the small language, what it means, and when a Python text is such a text. -/
namespace Pi
open PySem PySem.Spec PyProof.Rows L2

inductive Tg where | nm (i : Nat) | tp (is : List Nat)
inductive E where
  | var (i : Nat) | bor (i : Nat)
  | glob (x : Str) (c : Key)
  | non | bl (b : Bool) | int (i : Int) | str (s : Str)
  | bin (o : Bo) (a b : E) | neg (a : E) | not (a : E)
  | and (es : E) | or (es : E)
  | ite (c a b : E)
  | cmp (o : Co) (a b : E) | chain (o1 o2 : Co) (a b c : E)
  | isB (n : Bool) (a : E) (b : Bool) | isN (n : Bool) (a : E)
  | idx (a b : E) | slc (a lo hi : E) | rev (a : E)
  | tup (es : E) | lst (es : E) | nil | cons (a as : E)
  | call (f : Str) (as : E) | callIx (fs : List Str) (ix as : E) | fnm (f : Str) | callv (i : Nat) (fs : List Str) (as : E)
  | bi (b : Bi) (as : E) | isi (a : E) (t : Ty)
  | lrg (a b : E) | trg (a b : E) | sset (a : E) | dnew (g : E)
  | index (a b : E)
  | comp (own : List (Str × Nat)) (t : Tg) (it c e : E)
  | comp2 (own : List (Str × Nat)) (t1 : Tg) (it1 c1 : E) (t2 : Tg) (it2 c2 e : E)
  | yes
  | iter (a : E) | rg (a b : E) | enum (a : E) | zip (a b : E)

/-- a slot: nothing, a value, a list that only this slot reaches -/
inductive Sl where | no | val (d : D) | own (ds : List D)
abbrev En := List Sl

@[simp] def setAll : List Nat → List D → En → En
  | i :: is, d :: ds, ρ => setAll is ds (ρ.set i (.val d))
  | _, _, ρ => ρ
def setT : Tg → D → En → R En
  | .nm i, d, ρ => .ok (ρ.set i (.val d))
  | .tp is, .tuple ds, ρ => if is.length = ds.length then .ok (setAll is ds ρ) else .bad
  | _, _, _ => .bad
@[simp] def tgSl : Tg → List Nat
  | .nm i => [i]
  | .tp is => is
@[simp] def wipeR (ρ : En) : List Nat → En
  | [] => ρ
  | v :: vs => (wipeR ρ vs).set v .no
def nx {α : Type} : R α → R α
  | .exc _ => .bad
  | r => r
@[simp] theorem nx_ok {α : Type} (a : α) : nx (.ok a) = .ok a := rfl
@[simp] theorem nx_bad {α : Type} : nx (.bad : R α) = .bad := rfl
/-- the items that a comprehension takes -/
def compGo (f : D → R (Option D)) : List D → R (List D)
  | [] => .ok []
  | x :: xs => match f x with
    | .ok none => compGo f xs
    | .ok (some y) => (match compGo f xs with | .ok ys => .ok (y :: ys) | _ => .bad)
    | _ => .bad
def compGo2 (f : D → R (List D)) : List D → R (List D)
  | [] => .ok []
  | x :: xs => match f x with
    | .ok ys => (match compGo2 f xs with | .ok zs => .ok (ys ++ zs) | _ => .bad)
    | _ => .bad
def isSeqD : D → Bool
  | .list _ => true
  | .tuple _ => true
  | _ => false
/-- a test and an element -/
def pick (c e : R D) : R (Option D) :=
  match c with
  | .ok (.bool true) => (match e with | .ok y => .ok (some y) | _ => .bad)
  | .ok (.bool false) => .ok none
  | _ => .bad
def pick2 (c : R D) (ds : R (List D)) (f : D → R (Option D)) : R (List D) :=
  match c with
  | .ok (.bool true) => (match ds with | .ok xs => compGo f xs | _ => .bad)
  | .ok (.bool false) => .ok []
  | _ => .bad
def onT {β : Type} (r : R En) (f : En → R β) : R β :=
  match r with
  | .ok ρ => f ρ
  | _ => .bad
def listR : R (List D) → R D
  | .ok ys => .ok (.list ys)
  | _ => .bad
def capR : R (List D) → R D
  | .ok ys => if ys.length ≤ big then .ok (.list ys) else .bad
  | _ => .bad
@[simp] theorem onT_ok {β : Type} (ρ : En) (f : En → R β) : onT (.ok ρ) f = f ρ := rfl
@[simp] theorem listR_ok (ys : List D) : listR (.ok ys) = .ok (.list ys) := rfl
@[simp] theorem pick_true (y : D) : pick (.ok (.bool true)) (.ok y) = .ok (some y) := rfl
@[simp] theorem pick_false (e : R D) : pick (.ok (.bool false)) e = .ok none := rfl
theorem pick_none {c e : R D} (h : pick c e = .ok none) : c = .ok (.bool false) := by
  unfold pick at h
  split at h
  · split at h <;> cases h
  · rfl
  · cases h
theorem pick_some {c e : R D} {y : D} (h : pick c e = .ok (some y)) : c = .ok (.bool true) ∧ e = .ok y := by
  unfold pick at h
  split at h
  · split at h
    · cases h; exact ⟨rfl, rfl⟩
    · cases h
  · cases h
  · cases h
theorem onT_inv {β : Type} {r : R En} {f : En → R β} {b : β} (h : onT r f = .ok b) : ∃ ρ, r = .ok ρ ∧ f ρ = .ok b := by
  unfold onT at h
  split at h
  · exact ⟨_, rfl, h⟩
  · cases h
theorem pick2_inv {c : R D} {ds : R (List D)} {f : D → R (Option D)} {ys : List D} (h : pick2 c ds f = .ok ys) : (c = .ok (.bool false) ∧ ys = []) ∨ ∃ xs, c = .ok (.bool true) ∧ ds = .ok xs ∧ compGo f xs = .ok ys := by
  unfold pick2 at h
  split at h
  · split at h
    · exact .inr ⟨_, rfl, rfl, h⟩
    · cases h
  · cases h; exact .inl ⟨rfl, rfl⟩
  · cases h
/-- list.index -/
def indexD : D → D → R D
  | .list ds, x => if SeqAt.shaped x && SeqAt.shaped (.list ds) then (match ds.findIdx? fun z => PyData.eqv z x with | some j => .ok (.int j) | none => .bad) else .bad
  | .tuple ds, x => if flatD x && ds.all flatD then (match ds.findIdx? fun z => PyData.eqv z x with | some j => .ok (.int j) | none => .bad) else .bad
  | _, _ => .bad
def rgL (lo hi : Int) : List D := (List.range (hi - lo).toNat).map fun (i : Nat) => PyData.int (lo + i)
def rgOk (lo hi : Int) : Bool := tinyI lo && tinyI hi && Nat.ble (hi - lo).toNat big
def RgB (lo hi : Int) : Prop := rgOk lo hi = true
instance (lo hi : Int) : Decidable (RgB lo hi) := inferInstanceAs (Decidable (rgOk lo hi = true))
theorem RgB.iff (lo hi : Int) : RgB lo hi ↔ -1073741824 ≤ lo ∧ lo < 1073741824 ∧ -1073741824 ≤ hi ∧ hi < 1073741824 ∧ (hi - lo).toNat ≤ big := by
  unfold RgB rgOk
  rw [Bool.and_eq_true, Bool.and_eq_true, tinyI_iff, tinyI_iff, Nat.ble_eq]
  constructor
  · rintro ⟨⟨⟨a, b⟩, c, d⟩, e⟩; exact ⟨a, b, c, d, e⟩
  · rintro ⟨a, b, c, d, e⟩; exact ⟨⟨⟨a, b⟩, c, d⟩, e⟩
def asInt : D → R Int
  | .int i => .ok i
  | _ => .bad
/-- a part that is not written -/
def mark : D := .dict [(.none, .none)]
def asOpt : D → R (Option Int)
  | .int i => .ok (some i)
  | .dict [(.none, .none)] => .ok none
  | _ => .bad
def pairUp : Nat → List D → List D
  | _, [] => []
  | i, d :: ds => .tuple [.int (i : Nat), d] :: pairUp (i + 1) ds
def zipUp : List D → List D → List D
  | a :: as, b :: bs => .tuple [a, b] :: zipUp as bs
  | _, _ => []
def seqOf : D → R (List D)
  | .list ds => .ok ds
  | .tuple ds => .ok ds
  | _ => .bad

/-- sorted(set(l)) -/
def ssetD : D → R D
  | .list ds => match asInts ds with | some ns => if Nat.ble ns.length 4000 && Nat.ble (usort ns).length 60 then .ok (.list ((usort ns).map PyData.int)) else .bad | none => .bad
  | _ => .bad
/-- the def that a value is -/
def fnOf : D → Option Str
  | .dict [(.bool false, .str f)] => some f
  | _ => none
section
variable (T : Str → List D → R D)
mutual
def ev : E → En → R D
  | .var i, ρ => match ρ[i]? with | some (.val d) => .ok d | _ => .bad
  | .bor i, ρ => match ρ[i]? with | some (.own ds) => .ok (.list ds) | some (.val d) => .ok d | _ => .bad
  | .glob _ c, _ => .ok (match c with | .inl i => .int i | .inr s => .str s)
  | .non, _ => .ok .none
  | .bl b, _ => .ok (.bool b)
  | .int i, _ => .ok (.int i)
  | .str s, _ => .ok (.str s)
  | .bin o a b, ρ => do
    let x ← ev a ρ
    let y ← ev b ρ
    nx (binD o x y)
  | .neg a, ρ => do
    let x ← ev a ρ
    match x with | .int i => .ok (.int (-i)) | _ => .bad
  | .not a, ρ => do
    let x ← ev a ρ
    match x with | .bool b => .ok (.bool (!b)) | _ => .bad
  | .and es, ρ => evA es ρ
  | .or es, ρ => evO es ρ
  | .ite c a b, ρ => do
    let x ← ev c ρ
    match x with | .bool true => ev a ρ | .bool false => ev b ρ | _ => .bad
  | .cmp o a b, ρ => do
    let x ← ev a ρ
    let y ← ev b ρ
    nx (cmpD o x y)
  | .chain o1 o2 a b c, ρ => do
    let x ← ev a ρ
    let y ← ev b ρ
    let k ← nx (cmpD o1 x y)
    match k with
    | .bool true => do
      let z ← ev c ρ
      nx (cmpD o2 y z)
    | .bool false => .ok (.bool false)
    | _ => .bad
  | .isB n a b, ρ => do
    let x ← ev a ρ
    match x with | .bool c => .ok (.bool (if n then !decide (c = b) else decide (c = b))) | _ => .bad
  | .isN n a, ρ => do
    let x ← ev a ρ
    match x with | .none => .ok (.bool (!n)) | _ => .ok (.bool n)
  | .idx a b, ρ => do
    let x ← ev a ρ
    let y ← ev b ρ
    nx (ixD x y)
  | .slc a lo hi, ρ => do
    let x ← ev a ρ
    let l0 ← ev lo ρ
    let l ← asOpt l0
    let h0 ← ev hi ρ
    let h ← asOpt h0
    nx (slD x l h)
  | .rev a, ρ => do
    let x ← ev a ρ
    match x with | .list ds => .ok (.list ds.reverse) | .tuple ds => .ok (.tuple ds.reverse) | _ => .bad
  | .tup es, ρ => do
    let ds ← evL es ρ
    if ds.length ≤ big then .ok (.tuple ds) else .bad
  | .lst es, ρ => do
    let ds ← evL es ρ
    if ds.length ≤ big then .ok (.list ds) else .bad
  | .call f as, ρ => do
    let ds ← evL as ρ
    T f ds
  | .callIx fs ix as, ρ => do
    let i ← ev ix ρ
    match i with
    | .int k => match atI fs k with
      | some f => do
        let ds ← evL as ρ
        T f ds
      | none => .bad
    | _ => .bad
  | .fnm f, _ => .ok (fnD f)
  | .callv i fs as, ρ => match ρ[i]? with
    | some (.val d) => match fnOf d with
      | some f => if f ∈ fs then do
          let ds ← evL as ρ
          T f ds
        else .bad
      | none => .bad
    | _ => .bad
  | .bi b as, ρ => do
    let ds ← evL as ρ
    nx (biD b ds)
  | .isi a t, ρ => do
    let x ← ev a ρ
    match x with | .dict _ => .bad | _ => .ok (.bool (isD x t))
  | .lrg a b, ρ => do
    let l0 ← ev a ρ
    let l ← asOpt l0
    let h0 ← ev b ρ
    let h ← asOpt h0
    match h with
    | some hi => if RgB (l.getD 0) hi then .ok (.list (rgL (l.getD 0) hi)) else .bad
    | none => .bad
  | .trg a b, ρ => do
    let l0 ← ev a ρ
    let l ← asOpt l0
    let h0 ← ev b ρ
    let h ← asOpt h0
    match h with
    | some hi => if RgB (l.getD 0) hi then .ok (.tuple (rgL (l.getD 0) hi)) else .bad
    | none => .bad
  | .sset a, ρ => do
    let x ← ev a ρ
    nx (ssetD x)
  | .dnew g, ρ => match ev g ρ with
    | .ok t => (match knownZ t with | some _ => .ok (memoD t) | none => .bad)
    | _ => .bad
  | .index a b, ρ => do
    let x ← ev a ρ
    if isSeqD x then do
      let y ← ev b ρ
      nx (indexD x y)
    else .bad
  | .comp own t it c e, ρ => do
    let ds ← evI it ρ
    listR (compGo (fun d => onT (setT t d (wipeR ρ (own.map (·.2)))) fun ρ' => pick (ev c ρ') (ev e ρ')) ds)
  | .comp2 own t1 it1 c1 t2 it2 c2 e, ρ => do
    let ds ← evI it1 ρ
    capR (compGo2 (fun d => onT (setT t1 d (wipeR ρ (own.map (·.2)))) fun ρ' => pick2 (ev c1 ρ') (evI it2 ρ') (fun d2 => onT (setT t2 d2 (wipeR ρ' (tgSl t2))) fun ρ2 => pick (ev c2 ρ2) (ev e ρ2))) ds)
  | .yes, _ => .ok (.bool true)
  | .nil, _ => .ok mark
  | .cons _ _, _ => .bad
  | .iter _, _ => .bad
  | .rg _ _, _ => .bad
  | .enum _, _ => .bad
  | .zip _ _, _ => .bad
def evL : E → En → R (List D)
  | .nil, _ => .ok []
  | .cons a as, ρ => do
    let x ← ev a ρ
    let xs ← evL as ρ
    .ok (x :: xs)
  | _, _ => .bad
def evA : E → En → R D
  | .cons a .nil, ρ => ev a ρ
  | .cons a as, ρ => do
    let x ← ev a ρ
    match x with | .bool true => evA as ρ | .bool false => .ok (.bool false) | _ => .bad
  | _, _ => .bad
def evO : E → En → R D
  | .cons a .nil, ρ => ev a ρ
  | .cons a as, ρ => do
    let x ← ev a ρ
    match x with | .bool true => .ok (.bool true) | .bool false => evO as ρ | _ => .bad
  | _, _ => .bad
def evI : E → En → R (List D)
  | .iter a, ρ => do
    let x ← ev a ρ
    nx (seqOf x)
  | .rg a b, ρ => do
    let l0 ← ev a ρ
    let l ← asOpt l0
    let h0 ← ev b ρ
    let h ← asOpt h0
    match h with
    | some hi => if RgB (l.getD 0) hi then .ok (rgL (l.getD 0) hi) else .bad
    | none => .bad
  | .enum a, ρ => do
    let x ← ev a ρ
    let ds ← nx (seqOf x)
    .ok (pairUp 0 ds)
  | .zip a b, ρ => do
    let x ← ev a ρ
    let y ← ev b ρ
    match x, y with
    | .list xs, .list ys => .ok (zipUp xs ys)
    | .tuple xs, .tuple ys => .ok (zipUp xs ys)
    | _, _ => .bad
  | _, _ => .bad
end
@[simp] theorem ev_var (i : Nat) (ρ : En) : ev T (.var i) ρ = (match ρ[i]? with | some (.val d) => .ok d | _ => .bad) := rfl
@[simp] theorem ev_bor (i : Nat) (ρ : En) : ev T (.bor i) ρ = (match ρ[i]? with | some (.own ds) => .ok (.list ds) | some (.val d) => .ok d | _ => .bad) := rfl
@[simp] theorem ev_glob (z0 : Str) (c : Key) (y0 : En) : ev T (.glob z0 c) y0 = (.ok (match c with | .inl i => .int i | .inr s => .str s)) := rfl
@[simp] theorem ev_non  (y0 : En) : ev T (.non) y0 = (.ok .none) := rfl
@[simp] theorem ev_bl (b : Bool) (y0 : En) : ev T (.bl b) y0 = (.ok (.bool b)) := rfl
@[simp] theorem ev_int (i : Int) (y0 : En) : ev T (.int i) y0 = (.ok (.int i)) := rfl
@[simp] theorem ev_str (s : Str) (y0 : En) : ev T (.str s) y0 = (.ok (.str s)) := rfl
@[simp] theorem ev_bin (o : Bo) (a : E) (b : E) (ρ : En) : ev T (.bin o a b) ρ = (do
    let x ← ev T a ρ
    let y ← ev T b ρ
    nx (binD o x y)) := rfl
@[simp] theorem ev_neg (a : E) (ρ : En) : ev T (.neg a) ρ = (do
    let x ← ev T a ρ
    match x with | .int i => .ok (.int (-i)) | _ => .bad) := rfl
@[simp] theorem ev_not (a : E) (ρ : En) : ev T (.not a) ρ = (do
    let x ← ev T a ρ
    match x with | .bool b => .ok (.bool (!b)) | _ => .bad) := rfl
@[simp] theorem ev_and (es : E) (ρ : En) : ev T (.and es) ρ = (evA T es ρ) := rfl
@[simp] theorem ev_or (es : E) (ρ : En) : ev T (.or es) ρ = (evO T es ρ) := rfl
@[simp] theorem ev_ite (c : E) (a : E) (b : E) (ρ : En) : ev T (.ite c a b) ρ = (do
    let x ← ev T c ρ
    match x with | .bool true => ev T a ρ | .bool false => ev T b ρ | _ => .bad) := rfl
@[simp] theorem ev_cmp (o : Co) (a : E) (b : E) (ρ : En) : ev T (.cmp o a b) ρ = (do
    let x ← ev T a ρ
    let y ← ev T b ρ
    nx (cmpD o x y)) := rfl
@[simp] theorem ev_chain (o1 : Co) (o2 : Co) (a : E) (b : E) (c : E) (ρ : En) : ev T (.chain o1 o2 a b c) ρ = (do
    let x ← ev T a ρ
    let y ← ev T b ρ
    let k ← nx (cmpD o1 x y)
    match k with
    | .bool true => do
      let z ← ev T c ρ
      nx (cmpD o2 y z)
    | .bool false => .ok (.bool false)
    | _ => .bad) := rfl
@[simp] theorem ev_isB (n : Bool) (a : E) (b : Bool) (ρ : En) : ev T (.isB n a b) ρ = (do
    let x ← ev T a ρ
    match x with | .bool c => .ok (.bool (if n then !decide (c = b) else decide (c = b))) | _ => .bad) := rfl
@[simp] theorem ev_isN (n : Bool) (a : E) (ρ : En) : ev T (.isN n a) ρ = (do
    let x ← ev T a ρ
    match x with | .none => .ok (.bool (!n)) | _ => .ok (.bool n)) := rfl
@[simp] theorem ev_idx (a : E) (b : E) (ρ : En) : ev T (.idx a b) ρ = (do
    let x ← ev T a ρ
    let y ← ev T b ρ
    nx (ixD x y)) := rfl
@[simp] theorem ev_slc (a : E) (lo : E) (hi : E) (ρ : En) : ev T (.slc a lo hi) ρ = (do
    let x ← ev T a ρ
    let l0 ← ev T lo ρ
    let l ← asOpt l0
    let h0 ← ev T hi ρ
    let h ← asOpt h0
    nx (slD x l h)) := rfl
@[simp] theorem ev_rev (a : E) (ρ : En) : ev T (.rev a) ρ = (do
    let x ← ev T a ρ
    match x with | .list ds => .ok (.list ds.reverse) | .tuple ds => .ok (.tuple ds.reverse) | _ => .bad) := rfl
@[simp] theorem ev_tup (es : E) (ρ : En) : ev T (.tup es) ρ = (do
    let ds ← evL T es ρ
    if ds.length ≤ big then .ok (.tuple ds) else .bad) := rfl
@[simp] theorem ev_lst (es : E) (ρ : En) : ev T (.lst es) ρ = (do
    let ds ← evL T es ρ
    if ds.length ≤ big then .ok (.list ds) else .bad) := rfl
@[simp] theorem ev_call (f : Str) (as : E) (ρ : En) : ev T (.call f as) ρ = (do
    let ds ← evL T as ρ
    T f ds) := rfl
theorem ev_callIx (fs : List Str) (ix : E) (as : E) (ρ : En) : ev T (.callIx fs ix as) ρ = (do
    let i ← ev T ix ρ
    match i with
    | .int k => match atI fs k with
      | some f => do
        let ds ← evL T as ρ
        T f ds
      | none => .bad
    | _ => .bad) := rfl
@[simp] theorem ev_fnm (f : Str) (ρ : En) : ev T (.fnm f) ρ = .ok (fnD f) := rfl
theorem ev_callv (i : Nat) (fs : List Str) (as : E) (ρ : En) : ev T (.callv i fs as) ρ = (match ρ[i]? with
    | some (.val d) => match fnOf d with
      | some f => if f ∈ fs then do
          let ds ← evL T as ρ
          T f ds
        else .bad
      | none => .bad
    | _ => .bad) := rfl
@[simp] theorem ev_bi (b : Bi) (as : E) (ρ : En) : ev T (.bi b as) ρ = (do
    let ds ← evL T as ρ
    nx (biD b ds)) := rfl
@[simp] theorem ev_isi (a : E) (t : Ty) (ρ : En) : ev T (.isi a t) ρ = (do
    let x ← ev T a ρ
    match x with | .dict _ => .bad | _ => .ok (.bool (isD x t))) := rfl
theorem ev_lrg (a : E) (b : E) (ρ : En) : ev T (.lrg a b) ρ = (do
    let l0 ← ev T a ρ
    let l ← asOpt l0
    let h0 ← ev T b ρ
    let h ← asOpt h0
    match h with
    | some hi => if RgB (l.getD 0) hi then .ok (.list (rgL (l.getD 0) hi)) else .bad
    | none => .bad) := rfl
theorem ev_trg (a : E) (b : E) (ρ : En) : ev T (.trg a b) ρ = (do
    let l0 ← ev T a ρ
    let l ← asOpt l0
    let h0 ← ev T b ρ
    let h ← asOpt h0
    match h with
    | some hi => if RgB (l.getD 0) hi then .ok (.tuple (rgL (l.getD 0) hi)) else .bad
    | none => .bad) := rfl
@[simp] theorem ev_sset (a : E) (ρ : En) : ev T (.sset a) ρ = (do
    let x ← ev T a ρ
    nx (ssetD x)) := rfl
@[simp] theorem ev_dnew (g : E) (ρ : En) : ev T (.dnew g) ρ = (match ev T g ρ with
    | .ok t => (match knownZ t with | some _ => .ok (memoD t) | none => .bad)
    | _ => .bad) := rfl
@[simp] theorem ev_index (a : E) (b : E) (ρ : En) : ev T (.index a b) ρ = (do
    let x ← ev T a ρ
    if isSeqD x then do
      let y ← ev T b ρ
      nx (indexD x y)
    else .bad) := rfl
theorem ev_comp (own : List (Str × Nat)) (t : Tg) (it : E) (c : E) (e : E) (ρ : En) : ev T (.comp own t it c e) ρ = (do
    let ds ← evI T it ρ
    listR (compGo (fun d => onT (setT t d (wipeR ρ (own.map (·.2)))) fun ρ' => pick (ev T c ρ') (ev T e ρ')) ds)) := rfl
theorem ev_comp2 (own : List (Str × Nat)) (t1 : Tg) (it1 : E) (c1 : E) (t2 : Tg) (it2 : E) (c2 : E) (e : E) (ρ : En) : ev T (.comp2 own t1 it1 c1 t2 it2 c2 e) ρ = (do
    let ds ← evI T it1 ρ
    capR (compGo2 (fun d => onT (setT t1 d (wipeR ρ (own.map (·.2)))) fun ρ' => pick2 (ev T c1 ρ') (evI T it2 ρ') (fun d2 => onT (setT t2 d2 (wipeR ρ' (tgSl t2))) fun ρ2 => pick (ev T c2 ρ2) (ev T e ρ2))) ds)) := rfl
@[simp] theorem ev_yes  (y0 : En) : ev T (.yes) y0 = (.ok (.bool true)) := rfl
@[simp] theorem ev_nil  (y0 : En) : ev T (.nil) y0 = (.ok mark) := rfl
theorem ev_cons (z0 : E) (z1 : E) (y0 : En) : ev T (.cons z0 z1) y0 = (.bad) := rfl
theorem ev_iter (z0 : E) (y0 : En) : ev T (.iter z0) y0 = (.bad) := rfl
theorem ev_rg (z0 : E) (z1 : E) (y0 : En) : ev T (.rg z0 z1) y0 = (.bad) := rfl
theorem ev_enum (z0 : E) (y0 : En) : ev T (.enum z0) y0 = (.bad) := rfl
theorem ev_zip (z0 : E) (z1 : E) (y0 : En) : ev T (.zip z0 z1) y0 = (.bad) := rfl
@[simp] theorem evL_nil  (y0 : En) : evL T (.nil) y0 = (.ok []) := rfl
@[simp] theorem evL_cons (a : E) (as : E) (ρ : En) : evL T (.cons a as) ρ = (do
    let x ← ev T a ρ
    let xs ← evL T as ρ
    .ok (x :: xs)) := rfl
@[simp] theorem evI_iter (a : E) (ρ : En) : evI T (.iter a) ρ = (do
    let x ← ev T a ρ
    nx (seqOf x)) := rfl
@[simp] theorem evI_rg (a : E) (b : E) (ρ : En) : evI T (.rg a b) ρ = (do
    let l0 ← ev T a ρ
    let l ← asOpt l0
    let h0 ← ev T b ρ
    let h ← asOpt h0
    match h with
    | some hi => if RgB (l.getD 0) hi then .ok (rgL (l.getD 0) hi) else .bad
    | none => .bad) := rfl
@[simp] theorem evI_enum (a : E) (ρ : En) : evI T (.enum a) ρ = (do
    let x ← ev T a ρ
    let ds ← nx (seqOf x)
    .ok (pairUp 0 ds)) := rfl
@[simp] theorem evI_zip (a : E) (b : E) (ρ : En) : evI T (.zip a b) ρ = (do
    let x ← ev T a ρ
    let y ← ev T b ρ
    match x, y with
    | .list xs, .list ys => .ok (zipUp xs ys)
    | .tuple xs, .tuple ys => .ok (zipUp xs ys)
    | _, _ => .bad) := rfl
@[simp] theorem evA_one (a : E) (ρ : En) : evA T (.cons a .nil) ρ = ev T a ρ := rfl
@[simp] theorem evO_one (a : E) (ρ : En) : evO T (.cons a .nil) ρ = ev T a ρ := rfl
@[simp] theorem evA_cons (a b bs : E) (ρ : En) : evA T (.cons a (.cons b bs)) ρ = (do
    let x ← ev T a ρ
    match x with | .bool true => evA T (.cons b bs) ρ | .bool false => .ok (.bool false) | _ => .bad) := rfl
@[simp] theorem evO_cons (a b bs : E) (ρ : En) : evO T (.cons a (.cons b bs)) ρ = (do
    let x ← ev T a ρ
    match x with | .bool true => .ok (.bool true) | .bool false => evO T (.cons b bs) ρ | _ => .bad) := rfl
example : ev T (.bin .add (.int 3) (.slc (.lst .nil) .nil .nil)) [] = .bad := rfl
example : ev T (.bin .add (.int 3) (.var 0)) [.val (.int 4)] = .ok (.int 7) := rfl
end
end Pi

set_option Elab.async false
set_option linter.all false
set_option maxRecDepth 100000
set_option maxHeartbeats 4000000
/-! Pi7: when a Python text is a text of the small language. -/
namespace Pi
open PySem PySem.Spec PyProof.Rows L2

structure Ctx where
  N : List Str
  sc : Scope
  fn : Str → Bool
  gl : List (Str × Key)
  fs : List (Str × Nat)
  ex : List (Str × Nat)
def visB (C : Ctx) (x : Str) : Bool := match C.sc.names.lookup x with | some .local => true | some .cell => true | some .free => true | _ => false
def glB (C : Ctx) (x : Str) : Bool := match C.sc.names.lookup x with | some .globalImplicit => true | _ => false
def locB (C : Ctx) (x : Str) : Bool := match C.sc.names.lookup x with | some .local => true | some .cell => C.fn x | _ => false
def okName (x : Str) : Bool := !(x == ("__debug__" : Str)) && !(x == ("__classdict__" : Str)) && !(x == ("__name__" : Str))
def Ctx.blk (C : Ctx) (scope : Scope) : Ctx := { C with sc := relS scope C.sc, fn := fun x => scope.names.lookup x == some .cell }
def isBor : E → Bool
  | .bor _ => true
  | _ => false
def isNil : E → Bool
  | .nil => true
  | _ => false
def isIte : E → Bool
  | .ite _ _ _ => true
  | _ => false
def isYes : E → Bool
  | .yes => true
  | _ => false
def chkNs (C : Ctx) : List Nat → List Expr → Bool
  | [], [] => true
  | i :: is, .Name x _ :: es => decide (C.N[i]? = some x) && locB C x && chkNs C is es
  | _, _ => false
def chkTg (C : Ctx) : Tg → Expr → Bool
  | .nm i, .Name x _ => decide (C.N[i]? = some x) && locB C x
  | .tp is, .Tuple es _ _ => chkNs C is es
  | _, _ => false
def tgIn (vs : List Nat) : Tg → Bool
  | .nm i => decide (i ∈ vs)
  | .tp is => is.all fun i => decide (i ∈ vs)
/-- a source that is nothing owned -/
def clean : E → Bool
  | .iter a => !isBor a
  | .enum a => !isBor a
  | .zip a b => !isBor a && !isBor b
  | _ => true
def isTp : Tg → Bool
  | .tp _ => true
  | _ => false
/-- an iterable that gives pairs wants several names -/
def pairIt : E → Bool
  | .enum _ => true
  | .zip _ _ => true
  | _ => false
/-- a receiver that is no bare call -/
def plainRecv : Expr → Bool
  | .Call (.Name _ _) [] [] _ => false
  | _ => true
def notSlice : Expr → Bool
  | .Slice _ _ _ _ => false
  | _ => true
def notStar : Expr → Bool
  | .Starred _ _ => false
  | _ => true
def notSet : Expr → Bool
  | .Set _ _ _ => false
  | _ => true
def namesOf : List Expr → Option (List Str)
  | [] => some []
  | .Name x _ :: es => (namesOf es).map (x :: ·)
  | _ => none

mutual
def chk : E → Ctx → Expr → Bool
  | .var i, C, x => (match x with | .Name n _ => visB C n && decide (C.N[i]? = some n) && okName n | _ => false)
  | .bor i, C, x => (match x with | .Name n _ => visB C n && decide (C.N[i]? = some n) && okName n | _ => false)
  | .glob y c, C, x => (match x with | .Name n _ => decide (n = y) && glB C n && okName n && decide (C.gl.lookup n = some c) | _ => false)
  | .non, _, x => (match x with | .Constant .none _ _ => true | _ => false)
  | .bl b, _, x => (match x with | .Constant (.bool c) _ _ => decide (c = b) | _ => false)
  | .int i, _, x => (match x with | .Constant (.int j) _ _ => decide (j = i) | _ => false)
  | .str s, _, x => (match x with | .Constant (.str t) _ _ => decide (t = s) | _ => false)
  | .bin o a b, C, x => (match x with | .BinOp l op r _ => decide (op = o.op) && chk a C l && chk b C r | _ => false)
  | .neg a, C, x => (match x with | .UnaryOp .USub y _ => chk a C y | _ => false)
  | .not a, C, x => (match x with | .UnaryOp .Not y _ => !isIte a && chk a C y | _ => false)
  | .and es, C, x => (match x with | .BoolOp .And xs _ => chkB es C xs | _ => false)
  | .or es, C, x => (match x with | .BoolOp .Or xs _ => chkB es C xs | _ => false)
  | .ite c a b, C, x => (match x with | .IfExp t y z _ => !isBor a && !isBor b && !isIte c && chk c C t && chk a C y && chk b C z | _ => false)
  | .cmp o a b, C, x => (match x with | .Compare l [op] [y] _ => decide (op = o.op) && notSet y && chk a C l && chk b C y | _ => false)
  | .chain o1 o2 a b c, C, x => (match x with | .Compare l [p1, p2] [y, z] _ => decide (p1 = o1.op) && decide (p2 = o2.op) && notSet y && notSet z && chk a C l && chk b C y && chk c C z | _ => false)
  | .isB n a b, C, x => (match x with | .Compare l [op] [.Constant (.bool c) _ _] _ => decide (op = if n then .IsNot else .Is) && decide (c = b) && chk a C l | _ => false)
  | .isN n a, C, x => (match x with | .Compare l [op] [.Constant .none _ _] _ => decide (op = if n then .IsNot else .Is) && chk a C l | _ => false)
  | .idx a b, C, x => (match x with | .Subscript l y _ => notSlice y && chk a C l && chk b C y | _ => false)
  | .slc a lo hi, C, x => (match x with
    | .Subscript y (.Slice l h none _) _ => chk a C y && (match l with | none => isNil lo | some z => !isNil lo && chk lo C z) && (match h with | none => isNil hi | some z => !isNil hi && chk hi C z)
    | _ => false)
  | .rev a, C, x => (match x with | .Subscript y (.Slice none none (some (.UnaryOp .USub (.Constant (.int j) _ _) _)) _) _ => decide (j = 1) && chk a C y | _ => false)
  | .tup es, C, x => (match x with | .Tuple xs _ _ => chkL true es C xs | _ => false)
  | .lst es, C, x => (match x with | .List xs _ => chkL true es C xs | _ => false)
  | .call f as, C, x => (match x with | .Call (.Name n _) xs [] _ => decide (n = f) && glB C n && okName n && decide (C.fs.lookup n = some xs.length) && !xs.isEmpty && chkL true as C xs | _ => false)
  | .callIx fs ix as, C, x => (match x with
    | .Call (.Subscript (.List ns _) y _) xs [] _ =>
      decide (namesOf ns = some fs) && fs.all (fun f => glB C f && okName f && decide (C.fs.lookup f = some xs.length)) && decide (fs.length ≤ 100) && notSlice y && !xs.isEmpty && !isBor ix && chk ix C y && chkL true as C xs
    | _ => false)
  | .fnm f, C, x => (match x with | .Name n _ => decide (n = f) && glB C n && okName n && (C.fs.lookup n).isSome | _ => false)
  | .callv i fs as, C, x => (match x with | .Call (.Name n _) xs [] _ => decide (C.N[i]? = some n) && visB C n && okName n && fs.all (fun f => decide (C.fs.lookup f = some xs.length)) && !xs.isEmpty && chkL true as C xs | _ => false)
  | .bi b as, C, x => (match x with | .Call (.Name n _) xs [] _ => decide (n = b.nm) && glB C n && !xs.isEmpty && chkL false as C xs | _ => false)
  | .isi a t, C, x => (match x with | .Call (.Name n _) [y, .Name m _] [] _ => decide (n = "isinstance") && glB C n && decide (m = t.nm) && glB C m && chk a C y | _ => false)
  | .lrg a b, C, x => (match x with
    | .Call (.Name n _) [.Call (.Name r _) xs [] _] [] _ => decide (n = "list") && glB C n && decide (r = "range") && glB C r &&
      (match xs with | [y] => isNil a && chk b C y | [z, y] => !isNil a && chk a C z && chk b C y | _ => false)
    | _ => false)
  | .trg a b, C, x => (match x with
    | .Call (.Name n _) [.Call (.Name r _) xs [] _] [] _ => decide (n = "tuple") && glB C n && decide (r = "range") && glB C r &&
      (match xs with | [y] => isNil a && chk b C y | [z, y] => !isNil a && chk a C z && chk b C y | _ => false)
    | _ => false)
  | .sset a, C, x => (match x with | .Call (.Name n _) [.Call (.Name m _) [y] [] _] [] _ => decide (n = "sorted") && glB C n && decide (m = "set") && glB C m && chk a C y | _ => false)
  | .dnew _, _, x => (match x with | .Dict [] [] _ => true | _ => false)
  | .index a b, C, x => (match x with | .Call (.Attribute y m ap) [z] [] cp => decide (m = "index") && decide (ap.endLine = cp.line) && plainRecv y && chk a C y && chk b C z | _ => false)
  | .comp own t it c e, C, x => (match x with
    | .ListComp elt [⟨tg, iter, ifs, 0⟩] scope _ =>
      blkC C.N C.sc scope own && tgIn (own.map (·.2)) t && chkTg (C.blk scope) t tg && (!pairIt it || isTp t) && !isBor e && notSet iter && chkI it C iter &&
        (match ifs with | [] => isYes c | [y] => !isYes c && !isIte c && chk c (C.blk scope) y | _ => false) && chk e (C.blk scope) elt
    | _ => false)
  | .comp2 own t1 it1 c1 t2 it2 c2 e, C, x => (match x with
    | .ListComp elt [⟨tg1, iter1, ifs1, 0⟩, ⟨tg2, iter2, ifs2, 0⟩] scope _ =>
      blkC C.N C.sc scope own && tgIn (own.map (·.2)) t1 && tgIn (own.map (·.2)) t2 && chkTg (C.blk scope) t1 tg1 && chkTg (C.blk scope) t2 tg2 && (!pairIt it1 || isTp t1) && (!pairIt it2 || isTp t2) && !isBor e && notSet iter1 && notSet iter2 &&
        chkI it1 C iter1 && (match ifs1 with | [] => isYes c1 | [y] => !isYes c1 && !isIte c1 && chk c1 (C.blk scope) y | _ => false) && chkI it2 (C.blk scope) iter2 &&
        (match ifs2 with | [] => isYes c2 | [y] => !isYes c2 && !isIte c2 && chk c2 (C.blk scope) y | _ => false) && chk e (C.blk scope) elt && clean it2
    | _ => false)
  | .nil, _, _ => false
  | .cons _ _, _, _ => false
  | .yes, _, _ => false
  | .iter _, _, _ => false
  | .rg _ _, _, _ => false
  | .enum _, _, _ => false
  | .zip _ _, _, _ => false
def chkL (strict : Bool) : E → Ctx → List Expr → Bool
  | .nil, _, xs => xs.isEmpty
  | .cons a as, C, xs => (match xs with | x :: xs => (!strict || !isBor a) && chk a C x && chkL strict as C xs | [] => false)
  | _, _, _ => false
def chkB : E → Ctx → List Expr → Bool
  | .cons a as, C, xs => (match xs with
    | [] => false
    | [x] => isNil as && !isBor a && !isIte a && chk a C x
    | x :: y :: r => !isNil as && !isIte a && chk a C x && chkB as C (y :: r))
  | _, _, _ => false
def chkI : E → Ctx → Expr → Bool
  | .iter a, C, x => chk a C x
  | .rg a b, C, x => (match x with
    | .Call (.Name r _) xs [] _ => decide (r = "range") && glB C r && (match xs with | [y] => isNil a && chk b C y | [z, y] => !isNil a && chk a C z && chk b C y | _ => false)
    | _ => false)
  | .enum a, C, x => (match x with | .Call (.Name r _) [y] [] _ => decide (r = "enumerate") && glB C r && chk a C y | _ => false)
  | .zip a b, C, x => (match x with | .Call (.Name r _) [y, z] [] _ => decide (r = "zip") && glB C r && chk a C y && chk b C z | _ => false)
  | _, _, _ => false
end

theorem chk_var (i : Nat) (C : Ctx) (x : Expr) : chk (.var i) C x = ((match x with | .Name n _ => visB C n && decide (C.N[i]? = some n) && okName n | _ => false)) := rfl
theorem chk_bor (i : Nat) (C : Ctx) (x : Expr) : chk (.bor i) C x = ((match x with | .Name n _ => visB C n && decide (C.N[i]? = some n) && okName n | _ => false)) := rfl
theorem chk_glob (y : Str) (c : Key) (C : Ctx) (x : Expr) : chk (.glob y c) C x = ((match x with | .Name n _ => decide (n = y) && glB C n && okName n && decide (C.gl.lookup n = some c) | _ => false)) := rfl
theorem chk_non  (y0 : Ctx) (x : Expr) : chk (.non) y0 x = ((match x with | .Constant .none _ _ => true | _ => false)) := rfl
theorem chk_bl (b : Bool) (y0 : Ctx) (x : Expr) : chk (.bl b) y0 x = ((match x with | .Constant (.bool c) _ _ => decide (c = b) | _ => false)) := rfl
theorem chk_int (i : Int) (y0 : Ctx) (x : Expr) : chk (.int i) y0 x = ((match x with | .Constant (.int j) _ _ => decide (j = i) | _ => false)) := rfl
theorem chk_str (s : Str) (y0 : Ctx) (x : Expr) : chk (.str s) y0 x = ((match x with | .Constant (.str t) _ _ => decide (t = s) | _ => false)) := rfl
theorem chk_bin (o : Bo) (a : E) (b : E) (C : Ctx) (x : Expr) : chk (.bin o a b) C x = ((match x with | .BinOp l op r _ => decide (op = o.op) && chk a C l && chk b C r | _ => false)) := rfl
theorem chk_neg (a : E) (C : Ctx) (x : Expr) : chk (.neg a) C x = ((match x with | .UnaryOp .USub y _ => chk a C y | _ => false)) := rfl
theorem chk_not (a : E) (C : Ctx) (x : Expr) : chk (.not a) C x = ((match x with | .UnaryOp .Not y _ => !isIte a && chk a C y | _ => false)) := rfl
theorem chk_and (es : E) (C : Ctx) (x : Expr) : chk (.and es) C x = ((match x with | .BoolOp .And xs _ => chkB es C xs | _ => false)) := rfl
theorem chk_or (es : E) (C : Ctx) (x : Expr) : chk (.or es) C x = ((match x with | .BoolOp .Or xs _ => chkB es C xs | _ => false)) := rfl
theorem chk_ite (c : E) (a : E) (b : E) (C : Ctx) (x : Expr) : chk (.ite c a b) C x = ((match x with | .IfExp t y z _ => !isBor a && !isBor b && !isIte c && chk c C t && chk a C y && chk b C z | _ => false)) := rfl
theorem chk_cmp (o : Co) (a : E) (b : E) (C : Ctx) (x : Expr) : chk (.cmp o a b) C x = ((match x with | .Compare l [op] [y] _ => decide (op = o.op) && notSet y && chk a C l && chk b C y | _ => false)) := rfl
theorem chk_chain (o1 : Co) (o2 : Co) (a : E) (b : E) (c : E) (C : Ctx) (x : Expr) : chk (.chain o1 o2 a b c) C x = ((match x with | .Compare l [p1, p2] [y, z] _ => decide (p1 = o1.op) && decide (p2 = o2.op) && notSet y && notSet z && chk a C l && chk b C y && chk c C z | _ => false)) := rfl
theorem chk_isB (n : Bool) (a : E) (b : Bool) (C : Ctx) (x : Expr) : chk (.isB n a b) C x = ((match x with | .Compare l [op] [.Constant (.bool c) _ _] _ => decide (op = if n then .IsNot else .Is) && decide (c = b) && chk a C l | _ => false)) := rfl
theorem chk_isN (n : Bool) (a : E) (C : Ctx) (x : Expr) : chk (.isN n a) C x = ((match x with | .Compare l [op] [.Constant .none _ _] _ => decide (op = if n then .IsNot else .Is) && chk a C l | _ => false)) := rfl
theorem chk_idx (a : E) (b : E) (C : Ctx) (x : Expr) : chk (.idx a b) C x = ((match x with | .Subscript l y _ => notSlice y && chk a C l && chk b C y | _ => false)) := rfl
theorem chk_slc (a : E) (lo : E) (hi : E) (C : Ctx) (x : Expr) : chk (.slc a lo hi) C x = ((match x with
    | .Subscript y (.Slice l h none _) _ => chk a C y && (match l with | none => isNil lo | some z => !isNil lo && chk lo C z) && (match h with | none => isNil hi | some z => !isNil hi && chk hi C z)
    | _ => false)) := rfl
theorem chk_rev (a : E) (C : Ctx) (x : Expr) : chk (.rev a) C x = ((match x with | .Subscript y (.Slice none none (some (.UnaryOp .USub (.Constant (.int j) _ _) _)) _) _ => decide (j = 1) && chk a C y | _ => false)) := rfl
theorem chk_tup (es : E) (C : Ctx) (x : Expr) : chk (.tup es) C x = ((match x with | .Tuple xs _ _ => chkL true es C xs | _ => false)) := rfl
theorem chk_lst (es : E) (C : Ctx) (x : Expr) : chk (.lst es) C x = ((match x with | .List xs _ => chkL true es C xs | _ => false)) := rfl
theorem chk_call (f : Str) (as : E) (C : Ctx) (x : Expr) : chk (.call f as) C x = ((match x with | .Call (.Name n _) xs [] _ => decide (n = f) && glB C n && okName n && decide (C.fs.lookup n = some xs.length) && !xs.isEmpty && chkL true as C xs | _ => false)) := rfl
theorem chk_callIx (fs : List Str) (ix : E) (as : E) (C : Ctx) (x : Expr) : chk (.callIx fs ix as) C x = ((match x with
    | .Call (.Subscript (.List ns _) y _) xs [] _ =>
      decide (namesOf ns = some fs) && fs.all (fun f => glB C f && okName f && decide (C.fs.lookup f = some xs.length)) && decide (fs.length ≤ 100) && notSlice y && !xs.isEmpty && !isBor ix && chk ix C y && chkL true as C xs
    | _ => false)) := rfl
theorem chk_fnm (f : Str) (C : Ctx) (x : Expr) : chk (.fnm f) C x = ((match x with | .Name n _ => decide (n = f) && glB C n && okName n && (C.fs.lookup n).isSome | _ => false)) := rfl
theorem chk_callv (i : Nat) (fs : List Str) (as : E) (C : Ctx) (x : Expr) : chk (.callv i fs as) C x = ((match x with | .Call (.Name n _) xs [] _ => decide (C.N[i]? = some n) && visB C n && okName n && fs.all (fun f => decide (C.fs.lookup f = some xs.length)) && !xs.isEmpty && chkL true as C xs | _ => false)) := rfl
theorem chk_bi (b : Bi) (as : E) (C : Ctx) (x : Expr) : chk (.bi b as) C x = ((match x with | .Call (.Name n _) xs [] _ => decide (n = b.nm) && glB C n && !xs.isEmpty && chkL false as C xs | _ => false)) := rfl
theorem chk_isi (a : E) (t : Ty) (C : Ctx) (x : Expr) : chk (.isi a t) C x = ((match x with | .Call (.Name n _) [y, .Name m _] [] _ => decide (n = "isinstance") && glB C n && decide (m = t.nm) && glB C m && chk a C y | _ => false)) := rfl
theorem chk_lrg (a : E) (b : E) (C : Ctx) (x : Expr) : chk (.lrg a b) C x = ((match x with
    | .Call (.Name n _) [.Call (.Name r _) xs [] _] [] _ => decide (n = "list") && glB C n && decide (r = "range") && glB C r &&
      (match xs with | [y] => isNil a && chk b C y | [z, y] => !isNil a && chk a C z && chk b C y | _ => false)
    | _ => false)) := rfl
theorem chk_trg (a : E) (b : E) (C : Ctx) (x : Expr) : chk (.trg a b) C x = ((match x with
    | .Call (.Name n _) [.Call (.Name r _) xs [] _] [] _ => decide (n = "tuple") && glB C n && decide (r = "range") && glB C r &&
      (match xs with | [y] => isNil a && chk b C y | [z, y] => !isNil a && chk a C z && chk b C y | _ => false)
    | _ => false)) := rfl
theorem chk_sset (a : E) (C : Ctx) (x : Expr) : chk (.sset a) C x = ((match x with | .Call (.Name n _) [.Call (.Name m _) [y] [] _] [] _ => decide (n = "sorted") && glB C n && decide (m = "set") && glB C m && chk a C y | _ => false)) := rfl
theorem chk_dnew (g : E) (C : Ctx) (x : Expr) : chk (.dnew g) C x = (match x with | .Dict [] [] _ => true | _ => false) := rfl
theorem chk_index (a : E) (b : E) (C : Ctx) (x : Expr) : chk (.index a b) C x = ((match x with | .Call (.Attribute y m ap) [z] [] cp => decide (m = "index") && decide (ap.endLine = cp.line) && plainRecv y && chk a C y && chk b C z | _ => false)) := rfl
theorem chk_comp (own : List (Str × Nat)) (t : Tg) (it : E) (c : E) (e : E) (C : Ctx) (x : Expr) : chk (.comp own t it c e) C x = ((match x with
    | .ListComp elt [⟨tg, iter, ifs, 0⟩] scope _ =>
      blkC C.N C.sc scope own && tgIn (own.map (·.2)) t && chkTg (C.blk scope) t tg && (!pairIt it || isTp t) && !isBor e && notSet iter && chkI it C iter &&
        (match ifs with | [] => isYes c | [y] => !isYes c && !isIte c && chk c (C.blk scope) y | _ => false) && chk e (C.blk scope) elt
    | _ => false)) := rfl
theorem chk_comp2 (own : List (Str × Nat)) (t1 : Tg) (it1 : E) (c1 : E) (t2 : Tg) (it2 : E) (c2 : E) (e : E) (C : Ctx) (x : Expr) : chk (.comp2 own t1 it1 c1 t2 it2 c2 e) C x = ((match x with
    | .ListComp elt [⟨tg1, iter1, ifs1, 0⟩, ⟨tg2, iter2, ifs2, 0⟩] scope _ =>
      blkC C.N C.sc scope own && tgIn (own.map (·.2)) t1 && tgIn (own.map (·.2)) t2 && chkTg (C.blk scope) t1 tg1 && chkTg (C.blk scope) t2 tg2 && (!pairIt it1 || isTp t1) && (!pairIt it2 || isTp t2) && !isBor e && notSet iter1 && notSet iter2 &&
        chkI it1 C iter1 && (match ifs1 with | [] => isYes c1 | [y] => !isYes c1 && !isIte c1 && chk c1 (C.blk scope) y | _ => false) && chkI it2 (C.blk scope) iter2 &&
        (match ifs2 with | [] => isYes c2 | [y] => !isYes c2 && !isIte c2 && chk c2 (C.blk scope) y | _ => false) && chk e (C.blk scope) elt && clean it2
    | _ => false)) := rfl
theorem chk_nil  (y0 : Ctx) (y1 : Expr) : chk (.nil) y0 y1 = (false) := rfl
theorem chk_cons (z0 : E) (z1 : E) (y0 : Ctx) (y1 : Expr) : chk (.cons z0 z1) y0 y1 = (false) := rfl
theorem chk_yes  (y0 : Ctx) (y1 : Expr) : chk (.yes) y0 y1 = (false) := rfl
theorem chk_iter (z0 : E) (y0 : Ctx) (y1 : Expr) : chk (.iter z0) y0 y1 = (false) := rfl
theorem chk_rg (z0 : E) (z1 : E) (y0 : Ctx) (y1 : Expr) : chk (.rg z0 z1) y0 y1 = (false) := rfl
theorem chk_enum (z0 : E) (y0 : Ctx) (y1 : Expr) : chk (.enum z0) y0 y1 = (false) := rfl
theorem chk_zip (z0 : E) (z1 : E) (y0 : Ctx) (y1 : Expr) : chk (.zip z0 z1) y0 y1 = (false) := rfl
theorem chkB_cons (a : E) (as : E) (C : Ctx) (xs : List Expr) : chkB (.cons a as) C xs = ((match xs with
    | [] => false
    | [x] => isNil as && !isBor a && !isIte a && chk a C x
    | x :: y :: r => !isNil as && !isIte a && chk a C x && chkB as C (y :: r))) := rfl
theorem chkI_iter (a : E) (C : Ctx) (x : Expr) : chkI (.iter a) C x = (chk a C x) := rfl
theorem chkI_rg (a : E) (b : E) (C : Ctx) (x : Expr) : chkI (.rg a b) C x = ((match x with
    | .Call (.Name r _) xs [] _ => decide (r = "range") && glB C r && (match xs with | [y] => isNil a && chk b C y | [z, y] => !isNil a && chk a C z && chk b C y | _ => false)
    | _ => false)) := rfl
theorem chkI_enum (a : E) (C : Ctx) (x : Expr) : chkI (.enum a) C x = ((match x with | .Call (.Name r _) [y] [] _ => decide (r = "enumerate") && glB C r && chk a C y | _ => false)) := rfl
theorem chkI_zip (a : E) (b : E) (C : Ctx) (x : Expr) : chkI (.zip a b) C x = ((match x with | .Call (.Name r _) [y, z] [] _ => decide (r = "zip") && glB C r && chk a C y && chk b C z | _ => false)) := rfl
theorem chkL_nil (st : Bool) (C : Ctx) (xs : List Expr) : chkL st .nil C xs = xs.isEmpty := rfl
theorem chkL_cons (st : Bool) (a as : E) (C : Ctx) (xs : List Expr) : chkL st (.cons a as) C xs = (match xs with | x :: xs => (!st || !isBor a) && chk a C x && chkL st as C xs | [] => false) := rfl
example : chk (.int 3) ⟨[], default, fun _ => true, [], [], []⟩ (.Constant (.int 3) 0 ⟨0, 0, 0, 0⟩) = true := rfl
end Pi

set_option Elab.async false
set_option linter.all false
set_option maxRecDepth 100000
set_option maxHeartbeats 4000000
/-! Pi8: the readings that every text has; what is asked of a context. -/
namespace Pi
open PySem PySem.Spec PyProof.Rows L2
variable [MP]

/-! ### every text has a reading -/
def Ev (X : Cx) (e : Expr) : TE := fun σ H Q => ∀ pins s, L2.Inv X pins σ H s → wpAny (model X.prog X.w) X.A (eval e X.env) (EP X pins σ Q) X.xe s
def EvT (X : Cx) (e : Expr) : TT := fun σ H Q => ∀ pins s, L2.Inv X pins σ H s → wpAny (model X.prog X.w) X.A (isTrue e X.env (eval e X.env)) (TP X pins σ Q) X.xe s
def EvW (X : Cx) (e : Expr) : TT := fun σ H Q => ∀ whole pins s, L2.Inv X pins σ H s → wpAny (model X.prog X.w) X.A (isTrue e X.env whole) (TP X pins σ Q) X.xe s
def EvA (X : Cx) (es : List Expr) : TA := fun σ H Q => ∀ pos pins s, L2.Inv X pins σ H s → wpAny (model X.prog X.w) X.A (spliced (backTo pos (starEach es X.env))) (AP X pins σ Q) X.xe s
def EvI (X : Cx) (tg iter : Expr) : TI := fun σ H R => ∀ pins s, L2.Inv X pins σ H s → wpAny (model X.prog X.w) X.A (eval iter X.env) (fun v s1 => wpAny (model X.prog X.w) X.A (pyIter v) (PIE X pins σ tg R) X.xe s1) X.xe s
section
variable {X : Cx} {σ : L2.St} {H : Hp}
theorem evPE (X : Cx) (e : Expr) : PE X e (Ev X e) := ⟨fun pins s σ H Q I h => h pins s I⟩
theorem evPT (X : Cx) (e : Expr) : PT X e (EvT X e) := ⟨fun pins s σ H Q I h => h pins s I⟩
theorem evPW (X : Cx) (e : Expr) : PW X e (EvW X e) := ⟨fun wh pins s σ H Q I h => h wh pins s I⟩
theorem evPA (X : Cx) (es : List Expr) : PA X es (EvA X es) := ⟨fun pos pins s σ H Q I h => h pos pins s I⟩
theorem evPI (X : Cx) (tg e : Expr) : PI X tg e (EvI X tg e) := ⟨fun pins s σ H Q I h => h pins s I⟩
theorem ofPE {e : Expr} {t : TE} {Q : VK} (h : PE X e t) (q : t σ H Q) : Ev X e σ H Q := fun pins s I => h.run pins s σ H Q I q
theorem ofPT {e : Expr} {t : TT} {Q : Bool → Hp → Prop} (h : PT X e t) (q : t σ H Q) : EvT X e σ H Q := fun pins s I => h.run pins s σ H Q I q
theorem ofPW {e : Expr} {t : TT} {Q : Bool → Hp → Prop} (h : PW X e t) (q : t σ H Q) : EvW X e σ H Q := fun wh pins s I => h.run wh pins s σ H Q I q
theorem ofPA {es : List Expr} {t : TA} {Q : List V → Hp → Prop} (h : PA X es t) (q : t σ H Q) : EvA X es σ H Q := fun pos pins s I => h.run pos pins s σ H Q I q
theorem ofPI {tg e : Expr} {t : TI} {Q : It → Hp → Prop} (h : PI X tg e t) (q : t σ H Q) : EvI X tg e σ H Q := fun pins s I => h.run pins s σ H Q I q
theorem Ev.imp {e : Expr} {Q Q' : VK} (h : Ev X e σ H Q) (hq : ∀ v H', Q v H' → Q' v H') : Ev X e σ H Q' := fun pins s I =>
  thn (h pins s I) fun u s' ⟨v, H', I', r, q⟩ => ⟨v, H', I', r, hq _ _ q⟩
/-- the state's own facts may be used -/
theorem Ev.inv {e : Expr} {Q : VK} (h : (∃ pins s, L2.Inv X pins σ H s) → Ev X e σ H Q) : Ev X e σ H Q := fun pins s I => h ⟨pins, s, I⟩ pins s I
end

/-! ### kinds of results -/
inductive Kd where | n | p | q
  deriving DecidableEq
def Res (k : Kd) (K : PySem.W.Frag) (H H' : Hp) (O : List Addr) (v : V) (d : D) : Prop :=
  match k with
  | .n => Rn K H H' O v d
  | .p => Rp K (Fz H' O) v d
  | .q => Rq K H' O v d
section
variable {K : PySem.W.Frag} {H H' : Hp} {O : List Addr} {v : V} {d : D}
theorem Res.ofN (k : Kd) (h : Rn K H H' O v d) : Res k K H H' O v d := by
  cases k
  · exact h
  · exact h.1
  · exact .inl h.1
theorem Res.rq {k : Kd} (h : Res k K H H' O v d) : Rq K H' O v d := by
  cases k
  · exact .inl h.1
  · exact .inl h
  · exact h
theorem Res.rp {k : Kd} (h : Res k K H H' O v d) (hk : k ≠ .q) : Rp K (Fz H' O) v d := by
  cases k
  · exact h.1
  · exact h
  · exact (hk rfl).elim
theorem Res.old {H0 : Hp} {k : Kd} (s : Same H0 H) (h : Res k K H H' O v d) : Res k K H0 H' O v d := by
  cases k
  · exact Rn.fromOld s h
  · exact h
  · exact h
end
def kd : E → Kd
  | .bor _ => .q
  | .lst _ => .n
  | .bin _ _ _ => .n
  | .slc _ _ _ => .n
  | .rev _ => .n
  | .bi _ _ => .n
  | .lrg _ _ => .n
  | .sset _ => .n
  | .comp _ _ _ _ _ => .n
  | .comp2 _ _ _ _ _ _ _ _ => .n
  | _ => .p
theorem kd_ne {e : E} (h : isBor e = false) : kd e ≠ .q := by
  cases e <;> first | (simp [isBor] at h; done) | (simp [kd]; done)

/-- what is wanted behind an expression, by its result -/
def PostE (K : PySem.W.Frag) (ca : Nat → Addr) (W : WX) (k : Kd) (O : List Addr) (σ : L2.St) (H : Hp) (r : R D) (Q : VK) : Prop :=
  match r with
  | .ok d => ∀ v H', Same H H' → Res k K H H' O v d → Q v H'
  | .exc c => ∀ H', Same H H' → W (.ref (ca c)) none σ H'
  | .bad => False
def PostT (ca : Nat → Addr) (W : WX) (σ : L2.St) (H : Hp) (r : R D) (Q : Bool → Hp → Prop) : Prop :=
  match r with
  | .ok (.bool b) => ∀ H', Same H H' → Q b H'
  | .exc c => ∀ H', Same H H' → W (.ref (ca c)) none σ H'
  | _ => False
def PostL (K : PySem.W.Frag) (ca : Nat → Addr) (W : WX) (strict : Bool) (O : List Addr) (σ : L2.St) (H : Hp) (r : R (List D)) (Q : List V → Hp → Prop) : Prop :=
  match r with
  | .ok ds => ∀ vs H', Same H H' → RqL K H' O vs ds → (strict = true → RpL K (Fz H' O) vs ds) → Q vs H'
  | .exc c => ∀ H', Same H H' → W (.ref (ca c)) none σ H'
  | .bad => False
/-- an item that is given out: as it is, or a new pair -/
def Itm (K : PySem.W.Frag) (F : Hp) (pr : Bool) (H : Hp) (x : V) (H' : Hp) (d : D) : Prop :=
  match pr with
  | false => H' = H ∧ Rp K F x d
  | true => ∃ t x1 x2 d1 d2, x = .ref t ∧ H t = none ∧ H' = upd H t (.tup [x1, x2]) ∧ d = .tuple [d1, d2] ∧ Rp K F x1 d1 ∧ Rp K F x2 d2
/-- what is walked: cl: nothing that is owned -/
def WalkD (K : PySem.W.Frag) (J : It) (cl pr : Bool) (O : List Addr) (H1 : Hp) (ds : List D) : Prop :=
  ds.length ≤ sizeLine ∧ ∃ G Y, Walk J ds.length G Y ∧ (∀ H', ((cl = true ∧ ∃ O', Same (Fz H1 O) (Fz H' O')) ∨ Same H1 H') → G H') ∧
    ∀ i H x H', i < ds.length → Y i H x H' → ∃ d, ds[i]? = some d ∧ Itm K (Fz H1 O) pr H x H' d
def PostI (K : PySem.W.Frag) (ca : Nat → Addr) (W : WX) (cl pr : Bool) (O : List Addr) (σ : L2.St) (H : Hp) (r : R (List D)) (Q : It → Hp → Prop) : Prop :=
  match r with
  | .ok ds => ∀ J H', Same H H' → WalkD K J cl pr O H' ds → Q J H'
  | .exc c => ∀ H', Same H H' → W (.ref (ca c)) none σ H'
  | .bad => False
section
variable {K : PySem.W.Frag} {ca : Nat → Addr} {W : WX} {k : Kd} {O : List Addr} {σ : L2.St} {H H1 : Hp}
theorem PostE.later {r : R D} {Q : VK} (s : Same H H1) (h : PostE K ca W k O σ H r Q) : PostE K ca W k O σ H1 r Q := by
  cases r with
  | ok d => exact fun v H' s' r => h v H' (s.trans s') (r.old s)
  | exc c => exact fun H' s' => h H' (s.trans s')
  | bad => exact h
theorem PostT.later {r : R D} {Q : Bool → Hp → Prop} (s : Same H H1) (h : PostT ca W σ H r Q) : PostT ca W σ H1 r Q := by
  cases r with
  | ok d =>
    cases d with
    | bool b => exact fun H' s' => h H' (s.trans s')
    | _ => exact (show False from h).elim
  | exc c => exact fun H' s' => h H' (s.trans s')
  | bad => exact h
theorem PostL.later {st : Bool} {r : R (List D)} {Q : List V → Hp → Prop} (s : Same H H1) (h : PostL K ca W st O σ H r Q) : PostL K ca W st O σ H1 r Q := by
  cases r with
  | ok d => exact fun v H' s' r1 r2 => h v H' (s.trans s') r1 r2
  | exc c => exact fun H' s' => h H' (s.trans s')
  | bad => exact h
theorem PostI.later {cl pr : Bool} {r : R (List D)} {Q : It → Hp → Prop} (s : Same H H1) (h : PostI K ca W cl pr O σ H r Q) : PostI K ca W cl pr O σ H1 r Q := by
  cases r with
  | ok d => exact fun v H' s' r1 => h v H' (s.trans s') r1
  | exc c => exact fun H' s' => h H' (s.trans s')
  | bad => exact h
/-- an operation that raises nothing -/
theorem PostE.nx {r : R D} {Q : VK} (h : PostE K ca W k O σ H (Pi.nx r) Q) : ∃ d, r = .ok d ∧ ∀ v H', Same H H' → Res k K H H' O v d → Q v H' := by
  cases r with
  | ok d => exact ⟨d, rfl, h⟩
  | exc c => exact (show False from h).elim
  | bad => exact (show False from h).elim
end

/-! ### slots -/
structure RelE (K : PySem.W.Frag) (ρ : En) (O : List Addr) (σ : L2.St) (H : Hp) : Prop where
  len : ρ.length = σ.length
  val : ∀ (i : Nat) (d : D), ρ[i]? = some (Sl.val d) → ∃ v, σ[i]? = some (some v) ∧ Rp K (Fz H O) v d
  own : ∀ (i : Nat) (ds : List D), ρ[i]? = some (Sl.own ds) → ∃ (a : Addr) (vs : List V), σ[i]? = some (some (V.ref a)) ∧ H a = some (.lst vs) ∧ RpL K (Fz H O) vs ds
  dom : Dom H O
section
variable {K : PySem.W.Frag} {ρ : En} {O O' : List Addr} {σ : L2.St} {H H' : Hp}
theorem RelE.mono2 (r : RelE K ρ O σ H) (s : ∀ b o, H b = some o → (∃ vs, o = .lst vs) → H' b = some o) (f : Same (Fz H O) (Fz H' O')) (d : Dom H' O') : RelE K ρ O' σ H' where
  len := r.len
  val := fun i d h => let ⟨v, h1, h2⟩ := r.val i d h; ⟨v, h1, h2.mono f⟩
  own := fun i ds h => let ⟨a, vs, h1, h2, h3⟩ := r.own i ds h; ⟨a, vs, h1, s _ _ h2 ⟨_, rfl⟩, h3.mono f⟩
  dom := d
theorem RelE.mono (r : RelE K ρ O σ H) (s : Same H H') : RelE K ρ O σ H' := r.mono2 (fun b o h ⟨vs, e⟩ => by subst e; exact s.l h) (Fz.same s) (r.dom.same s)
theorem getElem?_set_cases {α : Type} {l : List α} {i j : Nat} {x y : α} (h : (l.set i x)[j]? = some y) : (j = i ∧ i < l.length ∧ y = x) ∨ (j ≠ i ∧ l[j]? = some y) := by
  by_cases e : i = j
  · subst e
    by_cases hl : i < l.length
    · rw [List.getElem?_set_self hl] at h
      exact .inl ⟨rfl, hl, (Option.some.inj h).symm⟩
    · rw [List.getElem?_eq_none (by simpa using hl)] at h
      cases h
  · rw [List.getElem?_set_ne e] at h
    exact .inr ⟨fun z => e z.symm, h⟩
theorem RelE.set (r : RelE K ρ O σ H) {i : Nat} {d : D} {v : V} (h : Rp K (Fz H O) v d) : RelE K (ρ.set i (.val d)) O (σ.set i (some v)) H where
  len := by rw [List.length_set, List.length_set, r.len]
  val := fun j e q => by
    rcases getElem?_set_cases q with ⟨rfl, hl, e1⟩ | ⟨hne, q⟩
    · cases e1
      exact ⟨v, List.getElem?_set_self (by rw [← r.len]; exact hl), h⟩
    · obtain ⟨w, h1, h2⟩ := r.val j e q
      exact ⟨w, by rw [List.getElem?_set_ne (Ne.symm hne)]; exact h1, h2⟩
  own := fun j es q => by
    rcases getElem?_set_cases q with ⟨rfl, hl, e1⟩ | ⟨hne, q⟩
    · cases e1
    · obtain ⟨a, vs, h1, h2⟩ := r.own j es q
      exact ⟨a, vs, by rw [List.getElem?_set_ne (Ne.symm hne)]; exact h1, h2⟩
  dom := r.dom
theorem RelE.none (r : RelE K ρ O σ H) (i : Nat) : RelE K (ρ.set i .no) O (σ.set i Option.none) H where
  len := by rw [List.length_set, List.length_set, r.len]
  val := fun j e q => by
    rcases getElem?_set_cases q with ⟨rfl, hl, e1⟩ | ⟨hne, q⟩
    · cases e1
    · obtain ⟨w, h1, h2⟩ := r.val j e q
      exact ⟨w, by rw [List.getElem?_set_ne (Ne.symm hne)]; exact h1, h2⟩
  own := fun j es q => by
    rcases getElem?_set_cases q with ⟨rfl, hl, e1⟩ | ⟨hne, q⟩
    · cases e1
    · obtain ⟨a, vs, h1, h2⟩ := r.own j es q
      exact ⟨a, vs, by rw [List.getElem?_set_ne (Ne.symm hne)]; exact h1, h2⟩
  dom := r.dom
theorem RelE.wipe (r : RelE K ρ O σ H) : ∀ vs : List Nat, RelE K (wipeR ρ vs) O (L2.wipe σ vs) H
  | [] => r
  | v :: vs => (RelE.wipe r vs).none v
end

/-! ### what a def promises, over data -/
def spT (K : PySem.W.Frag) (ca : Nat → Addr) (n : Nat) (F : List D → R D) : Sp := fun vs H Q E => vs.length = n ∧ ∃ O ds, Dom H O ∧ RpL K (Fz H O) vs ds ∧
  match F ds with
  | .ok d => ∀ v H', Same H H' → Rp K (Fz H' O) v d → Q v H'
  | .exc c => ∀ H', Same H H' → E (.ref (ca c)) none H'
  | .bad => False
def bnames : List Str := ["len", "all", "any", "list", "tuple", "max", "min", "sorted", "isinstance", "range", "enumerate", "zip", "int", "bool", "str", "set", "sum"]
/-- an exception's class -/
structure ExcK (K : PySem.W.Frag) (mg : Str → Option Value) (x : Str) (C : Addr) : Prop where
  q : PySem.W.excIn K C [.type "ValueError", .type "Exception", .type "BaseException", .type "object"] "ValueError.__new__" = true
  g : mg x = some (.ref C)
  k : PySem.W.keepIn K (.ref C) = true
  b : PySem.W.subIn K (.ref C) (.type "BaseException") = some true
  t : PySem.W.typeIn K (.ref C) = some (.type "type")
/-- the exceptions' classes among themselves; 0: the one above all -/
structure ExcAll (K : PySem.W.Frag) (ca : Nat → Addr) (ex : List (Str × Nat)) : Prop where
  up : ∀ x c, ex.lookup x = some c → PySem.W.exmOne K (.ref (ca c)) (.ref (ca 0)) = some true
  is : ∀ x c y d, ex.lookup x = some c → ex.lookup y = some d → d ≠ 0 → PySem.W.kitOne K (.ref (ca c)) (.ref (ca d)) = some (c == d)
  cc : ∀ x c, ex.lookup x = some c → ExcC K (ca c)
/-- a context in which texts mean what they mean -/
structure Good (C : Ctx) (T : Str → List D → R D) (ca : Nat → Addr) (X : Cx) (W : WX) : Prop where
  N : X.N = C.N
  nd : C.N.Nodup
  sc : X.env.scope = C.sc
  fn : X.fn = C.fn
  calm : X.calm = true
  tk : Takes X W
  un : X.A.units + 65 < cLine
  bi : ∀ x ∈ bnames, X.mg x = none
  gl : ∀ x c, C.gl.lookup x = some c → ∃ u, X.mg x = some u ∧ L2.RelV (kV c) u
  fs : ∀ f n, C.fs.lookup f = some n → ∃ a fd ps k, X.mg f = some (.ref a) ∧ PySem.W.keepIn X.K (.ref a) = true ∧ Binds X.K fd ps [] ∧
    FnOk X.prog X.w X.K X.mg X.base (L2.CX X.prog X.w) k a fd ps (spT X.K ca n (T f)) ∧ Room k X.A
  ex : ∀ x c, C.ex.lookup x = some c → ExcK X.K X.mg x (ca c)
  xa : ExcAll X.K ca C.ex
  mp : MP.P = X.prog ∧ MP.w = X.w
  fa : ∀ f a, MP.fa f = some a ↔ X.mg f = some (.ref a)
section
variable {C : Ctx} {T : Str → List D → R D} {ca : Nat → Addr} {X : Cx} {W : WX}
theorem Good.vis (G : Good C T ca X W) {x : Str} (h : visB C x = true) : Vis X.env.scope x := by
  unfold visB at h
  unfold Vis
  rw [G.sc]
  cases q : C.sc.names.lookup x with
  | none => rw [q] at h; cases h
  | some k => rw [q] at h; cases k <;> simp at h ⊢
theorem Good.glo (G : Good C T ca X W) {x : Str} (h : glB C x = true) : Gl X x := by
  unfold glB at h
  unfold Gl Env.kindOf
  rw [G.sc]
  cases q : C.sc.names.lookup x with
  | none => rw [q] at h; cases h
  | some k => rw [q] at h; cases k <;> simp at h ⊢
theorem Good.loc (G : Good C T ca X W) {x : Str} (h : locB C x = true) : L2.Loc X.env.scope x ∧ (X.fn x = true ∨ X.env.scope.names.lookup x = some .local) := by
  unfold locB at h
  unfold L2.Loc
  rw [G.sc, G.fn]
  cases q : C.sc.names.lookup x with
  | none => rw [q] at h; cases h
  | some k =>
    rw [q] at h
    cases k with
    | «local» => exact ⟨.inl rfl, .inr rfl⟩
    | cell => exact ⟨.inr rfl, .inl h⟩
    | _ => cases h
/-- within a comprehension's block -/
theorem Good.blk (G : Good C T ca X W) (s : Shared) (H : Hp) (scope : Scope) (c : Addr) (cl : List (Str × Addr)) (fp : List Addr) :
    Good (C.blk scope) T ca (X.blk s H scope (compEnvC scope cl c X.env) fp) (fun _ _ _ _ => False) where
  N := G.N
  nd := G.nd
  sc := by show relS scope X.env.scope = relS scope C.sc; rw [G.sc]
  fn := rfl
  calm := G.calm
  tk := takes0
  un := G.un
  bi := G.bi
  gl := G.gl
  fs := G.fs
  ex := G.ex
  xa := G.xa
  mp := G.mp
  fa := G.fa
end
end Pi

set_option Elab.async false
set_option linter.all false
set_option maxRecDepth 100000
set_option maxHeartbeats 4000000
/-! Pi9: the model does what the small language means: expressions. -/
namespace Pi
open PySem PySem.Spec PyProof.Rows L2
variable [MP]

/-! ### forms -/
theorem chk_star {e : E} {C : Ctx} {a : Expr} {p : Pos} : chk e C (.Starred a p) = false := by cases e <;> rfl
theorem notStar_of {e : E} {C : Ctx} {x : Expr} (h : chk e C x = true) : notStar x = true := by
  cases x <;> first | rfl | (rw [chk_star] at h; cases h)
theorem star_cons {x : Expr} {xs : List Expr} {env : Env} (h : notStar x = true) : starEach (x :: xs) env = (false, eval x env) :: starEach xs env := by
  cases x <;> first | rfl | cases h
theorem any_star {st : Bool} {C : Ctx} {pos : Pos} {env : Env} : ∀ {e : E} {xs : List Expr}, chkL st e C xs = true → (backTo pos (starEach xs env)).any (·.1) = false
  | .nil, [], _ => rfl
  | .nil, _ :: _, h => by simp [chkL] at h
  | .cons a as, [], h => by simp [chkL] at h
  | .cons a as, x :: xs, h => by
    simp only [chkL, Bool.and_eq_true] at h
    rw [star_cons (notStar_of h.1.2)]
    show (false || (backTo pos (starEach xs env)).any (·.1)) = false
    rw [any_star h.2] <;> rfl
  | .var _, _, h | .bor _, _, h | .glob _ _, _, h | .non, _, h | .bl _, _, h | .int _, _, h | .str _, _, h | .bin _ _ _, _, h | .neg _, _, h | .not _, _, h | .and _, _, h | .or _, _, h | .ite _ _ _, _, h | .cmp _ _ _, _, h
  | .chain _ _ _ _ _, _, h | .isB _ _ _, _, h | .isN _ _, _, h | .idx _ _, _, h | .slc _ _ _, _, h | .rev _, _, h | .tup _, _, h | .lst _, _, h | .call _ _, _, h | .callIx _ _ _, _, h | .fnm _, _, h | .callv _ _ _, _, h | .bi _ _, _, h | .isi _ _, _, h
  | .lrg _ _, _, h | .trg _ _, _, h | .sset _, _, h | .dnew _, _, h | .index _ _, _, h | .comp _ _ _ _ _, _, h | .comp2 _ _ _ _ _ _ _ _, _, h | .yes, _, h | .iter _, _, h | .rg _ _, _, h | .enum _, _, h | .zip _ _, _, h => by simp [chkL] at h
theorem all_star {st : Bool} {C : Ctx} {pos : Pos} {env : Env} : ∀ {e : E} {xs : List Expr}, chkL st e C xs = true → (backTo pos (starEach xs env)).all (fun x => !x.1) = true := fun {e xs} h => by
  have := any_star (pos := pos) (env := env) h
  rw [List.all_eq_true]
  intro y hy
  rw [List.any_eq_false] at this
  have := this y hy
  simpa using this
theorem folded_of {x : Expr} (h : notSet x = true) (env : Env) (v : Value) : foldedSetIterable x env v = pure v := by
  cases x <;> first | rfl | cases h
theorem marks_of {x : Expr} (h : notSet x = true) (op : CmpOp) : behindInMarks op x = false := by
  cases x <;> first | rfl | cases h
theorem plainIx_of {x : Expr} (h : notSlice x = true) : PlainIx x := fun o i => by
  cases x <;> first | rfl | cases h
theorem base_of {x : Expr} (h : plainRecv x = true) (m : Str) (env : Env) : attributeBase x m env (eval x env) = eval x env := by
  cases x <;> first | rfl | skip
  rename_i f as kws p
  cases f <;> first | rfl | skip
  cases as <;> first | rfl | skip
  cases kws <;> first | rfl | cases h
theorem okName_of {x : Str} (h : okName x = true) : (x == ("__debug__" : Str)) = false ∧ (x == ("__classdict__" : Str)) = false ∧ x ≠ "__name__" := by
  unfold okName at h
  simp only [Bool.and_eq_true, Bool.not_eq_true'] at h
  exact ⟨h.1.1, h.1.2, fun e => by rw [e] at h; simp at h⟩

section
variable {T : Str → List D → R D} {ca : Nat → Addr}
variable (T ca) in
def SE (e : E) : Prop := ∀ (C : Ctx) (X : Cx) (W : WX) (x : Expr), Good C T ca X W → chk e C x = true → ∀ ρ O σ H, RelE X.K ρ O σ H → ∀ Q, PostE X.K ca W (kd e) O σ H (ev T e ρ) Q → Ev X x σ H Q
variable (T ca) in
def ST (e : E) : Prop := ∀ (C : Ctx) (X : Cx) (W : WX) (x : Expr), Good C T ca X W → chk e C x = true → isIte e = false → ∀ ρ O σ H, RelE X.K ρ O σ H → ∀ Q, PostT ca W σ H (ev T e ρ) Q → EvT X x σ H Q
variable (T ca) in
def SL (e : E) : Prop := ∀ (st : Bool) (C : Ctx) (X : Cx) (W : WX) (xs : List Expr), Good C T ca X W → chkL st e C xs = true → ∀ ρ O σ H, RelE X.K ρ O σ H → ∀ Q, PostL X.K ca W st O σ H (evL T e ρ) Q → EvA X xs σ H Q
variable (T ca) in
def SBA (e : E) : Prop := ∀ (C : Ctx) (X : Cx) (W : WX) (xs : List Expr), Good C T ca X W → chkB e C xs = true → ∀ ρ O σ H, RelE X.K ρ O σ H → ∀ pos,
  (∀ Q, PostE X.K ca W .p O σ H (evA T e ρ) Q → Ev X (.BoolOp .And xs pos) σ H Q) ∧ (∀ Q, PostT ca W σ H (evA T e ρ) Q → EvW X (.BoolOp .And xs pos) σ H Q)
variable (T ca) in
def SBO (e : E) : Prop := ∀ (C : Ctx) (X : Cx) (W : WX) (xs : List Expr), Good C T ca X W → chkB e C xs = true → ∀ ρ O σ H, RelE X.K ρ O σ H → ∀ pos,
  (∀ Q, PostE X.K ca W .p O σ H (evO T e ρ) Q → Ev X (.BoolOp .Or xs pos) σ H Q) ∧ (∀ Q, PostT ca W σ H (evO T e ρ) Q → EvW X (.BoolOp .Or xs pos) σ H Q)
variable (T ca) in
def SI (e : E) : Prop := ∀ (C : Ctx) (X : Cx) (W : WX) (tg x : Expr), Good C T ca X W → chkI e C x = true → (pairIt e = true → ∃ es k p, tg = .Tuple es k p) → ∀ ρ O σ H, RelE X.K ρ O σ H →
  ∀ Q, PostI X.K ca W (clean e) (pairIt e) O σ H (evI T e ρ) Q → EvI X tg x σ H Q

/-! ### one part after another -/
section
variable {a : E} {C : Ctx} {X : Cx} {W : WX} {x : Expr} {ρ : En} {O : List Addr} {σ : L2.St} {H : Hp}
theorem SE.goE (S : SE T ca a) (G : Good C T ca X W) (c : chk a C x = true) (r : RelE X.K ρ O σ H) {f : D → R D} {k : Kd} {Q0 Q : VK} (h : PostE X.K ca W k O σ H (ev T a ρ >>= f) Q0)
    (hk : ∀ d v H1, Same H H1 → Res (kd a) X.K H H1 O v d → PostE X.K ca W k O σ H1 (f d) Q0 → Q v H1) : Ev X x σ H Q := by
  refine S C X W x G c ρ O σ H r Q ?_
  cases e : ev T a ρ with
  | ok d => rw [e] at h; exact fun v H1 s rr => hk d v H1 s rr (PostE.later s h)
  | exc c => rw [e] at h; exact h
  | bad => rw [e] at h; exact h
theorem SE.goT (S : SE T ca a) (G : Good C T ca X W) (c : chk a C x = true) (r : RelE X.K ρ O σ H) {f : D → R D} {Q0 : Bool → Hp → Prop} {Q : VK} (h : PostT ca W σ H (ev T a ρ >>= f) Q0)
    (hk : ∀ d v H1, Same H H1 → Res (kd a) X.K H H1 O v d → PostT ca W σ H1 (f d) Q0 → Q v H1) : Ev X x σ H Q := by
  refine S C X W x G c ρ O σ H r Q ?_
  cases e : ev T a ρ with
  | ok d => rw [e] at h; exact fun v H1 s rr => hk d v H1 s rr (PostT.later s h)
  | exc c => rw [e] at h; exact h
  | bad => rw [e] at h; exact h
theorem SE.goL (S : SE T ca a) (G : Good C T ca X W) (c : chk a C x = true) (r : RelE X.K ρ O σ H) {st : Bool} {f : D → R (List D)} {Q0 : List V → Hp → Prop} {Q : VK} (h : PostL X.K ca W st O σ H (ev T a ρ >>= f) Q0)
    (hk : ∀ d v H1, Same H H1 → Res (kd a) X.K H H1 O v d → PostL X.K ca W st O σ H1 (f d) Q0 → Q v H1) : Ev X x σ H Q := by
  refine S C X W x G c ρ O σ H r Q ?_
  cases e : ev T a ρ with
  | ok d => rw [e] at h; exact fun v H1 s rr => hk d v H1 s rr (PostL.later s h)
  | exc c => rw [e] at h; exact h
  | bad => rw [e] at h; exact h
theorem SE.goI (S : SE T ca a) (G : Good C T ca X W) (c : chk a C x = true) (r : RelE X.K ρ O σ H) {cl pr : Bool} {f : D → R (List D)} {Q0 : It → Hp → Prop} {Q : VK} (h : PostI X.K ca W cl pr O σ H (ev T a ρ >>= f) Q0)
    (hk : ∀ d v H1, Same H H1 → Res (kd a) X.K H H1 O v d → PostI X.K ca W cl pr O σ H1 (f d) Q0 → Q v H1) : Ev X x σ H Q := by
  refine S C X W x G c ρ O σ H r Q ?_
  cases e : ev T a ρ with
  | ok d => rw [e] at h; exact fun v H1 s rr => hk d v H1 s rr (PostI.later s h)
  | exc c => rw [e] at h; exact h
  | bad => rw [e] at h; exact h
theorem SL.goE {xs : List Expr} {st : Bool} (S : SL T ca a) (G : Good C T ca X W) (c : chkL st a C xs = true) (r : RelE X.K ρ O σ H) {f : List D → R D} {k : Kd} {Q0 : VK} {Q : List V → Hp → Prop} (h : PostE X.K ca W k O σ H (evL T a ρ >>= f) Q0)
    (hk : ∀ ds vs H1, evL T a ρ = .ok ds → Same H H1 → RqL X.K H1 O vs ds → (st = true → RpL X.K (Fz H1 O) vs ds) → PostE X.K ca W k O σ H1 (f ds) Q0 → Q vs H1) : EvA X xs σ H Q := by
  refine S st C X W xs G c ρ O σ H r Q ?_
  cases e : evL T a ρ with
  | ok d => rw [e] at h; exact fun v H1 s r1 r2 => hk d v H1 e s r1 r2 (PostE.later s h)
  | exc c => rw [e] at h; exact h
  | bad => rw [e] at h; exact h
/-- a test from a value -/
theorem ST.of (S : SE T ca a) (hf : ∀ C x, chk a C x = true → ∀ env whole, isTrue x env whole = (do let v ← whole; standAt x.pos; holding [v] (truthy v))) : ST T ca a := by
  intro C X W x G c _ ρ O σ H r Q h
  refine ofPT (pt_val (evPE X x) (fun wh => hf C x c X.env wh)) ?_
  refine S C X W x G c ρ O σ H r _ ?_
  cases e : ev T a ρ with
  | ok d =>
    rw [e] at h
    cases d with
    | bool b => exact fun v H1 s rr => ⟨b, rr.rq.bl, h H1 s⟩
    | _ => exact (show False from h).elim
  | exc c => rw [e] at h; exact h
  | bad => rw [e] at h; exact h
end
end
end Pi

set_option Elab.async false
set_option linter.all false
set_option maxRecDepth 100000
set_option maxHeartbeats 4000000
/-! Pi10: expressions without walks, case by case. -/
namespace Pi
open PySem PySem.Spec PyProof.Rows L2
variable [MP]
section
variable {T : Str → List D → R D} {ca : Nat → Addr}

theorem se_var (i : Nat) : SE T ca (.var i) := by
  intro C X W x G c ρ O σ H r Q h
  rw [chk_var] at c
  split at c <;> first | (cases c; done) | skip
  rename_i n p
  simp only [Bool.and_eq_true, decide_eq_true_eq] at c
  obtain ⟨⟨hv, hN⟩, hk⟩ := c
  obtain ⟨k1, k2, k3⟩ := okName_of hk
  rw [ev_var] at h
  split at h
  · rename_i d hd
    obtain ⟨v, h1, h2⟩ := r.val i d hd
    exact ofPE (pe_var (i := i) (by rw [G.N]; exact hN) (G.vis hv) k1 k2) ⟨v, h1, h v H (Same.refl _) h2⟩
  · exact h.elim
theorem se_bor (i : Nat) : SE T ca (.bor i) := by
  intro C X W x G c ρ O σ H r Q h
  rw [chk_bor] at c
  split at c <;> first | (cases c; done) | skip
  rename_i n p
  simp only [Bool.and_eq_true, decide_eq_true_eq] at c
  obtain ⟨⟨hv, hN⟩, hk⟩ := c
  obtain ⟨k1, k2, k3⟩ := okName_of hk
  rw [ev_bor] at h
  split at h
  · rename_i ds hd
    obtain ⟨a, vs, h1, h2, h3⟩ := r.own i ds hd
    exact ofPE (pe_var (i := i) (by rw [G.N]; exact hN) (G.vis hv) k1 k2) ⟨_, h1, h _ H (Same.refl _) (.inr ⟨a, vs, ds, rfl, rfl, h2, h3⟩)⟩
  · rename_i d hd
    obtain ⟨v, h1, h2⟩ := r.val i d hd
    exact ofPE (pe_var (i := i) (by rw [G.N]; exact hN) (G.vis hv) k1 k2) ⟨v, h1, h v H (Same.refl _) (.inl h2)⟩
  · exact h.elim
theorem se_glob (y : Str) (k : Key) : SE T ca (.glob y k) := by
  intro C X W x G c ρ O σ H r Q h
  rw [chk_glob] at c
  split at c <;> first | (cases c; done) | skip
  rename_i n p
  simp only [Bool.and_eq_true, decide_eq_true_eq] at c
  obtain ⟨⟨⟨rfl, hg⟩, hk⟩, hl⟩ := c
  obtain ⟨k1, k2, k3⟩ := okName_of hk
  obtain ⟨u, hu, hr⟩ := G.gl _ _ hl
  refine ofPE (pe_glob (G.glo hg) hu hr k1) ?_
  cases k with
  | inl i => exact h _ H (Same.refl _) (.int i)
  | inr i => exact h _ H (Same.refl _) (.str i)
theorem se_non : SE T ca .non := by
  intro C X W x G c ρ O σ H r Q h
  rw [chk_non] at c
  split at c <;> first | (cases c; done) | skip
  rename_i v k p
  exact ofPE pe_non (h _ H (Same.refl _) .non)
theorem se_bl (b : Bool) : SE T ca (.bl b) := by
  intro C X W x G c ρ O σ H r Q h
  rw [chk_bl] at c
  split at c <;> first | (cases c; done) | skip
  rename_i v k p
  simp only [decide_eq_true_eq] at c
  subst c
  exact ofPE pe_bl (h _ H (Same.refl _) (.bl _))
theorem se_int (b : Int) : SE T ca (.int b) := by
  intro C X W x G c ρ O σ H r Q h
  rw [chk_int] at c
  split at c <;> first | (cases c; done) | skip
  rename_i v k p
  simp only [decide_eq_true_eq] at c
  subst c
  exact ofPE pe_int (h _ H (Same.refl _) (.int _))
theorem se_str (b : Str) : SE T ca (.str b) := by
  intro C X W x G c ρ O σ H r Q h
  rw [chk_str] at c
  split at c <;> first | (cases c; done) | skip
  rename_i v k p
  simp only [decide_eq_true_eq] at c
  subst c
  exact ofPE pe_str (h _ H (Same.refl _) (.str _))
theorem se_bin {o : Bo} {a b : E} (Sa : SE T ca a) (Sb : SE T ca b) : SE T ca (.bin o a b) := by
  intro C X W x G c ρ O σ H r Q h
  rw [chk_bin] at c
  split at c <;> first | (cases c; done) | skip
  rename_i l op rr p
  simp only [Bool.and_eq_true, decide_eq_true_eq] at c
  obtain ⟨⟨rfl, ca'⟩, cb⟩ := c
  rw [ev_bin] at h
  refine ofPE (pe_op (op_binD o) (evPE X l) (evPE X rr)) ?_
  refine Sa.goE G ca' r h fun dx v H1 s1 r1 h1 => ?_
  refine Sb.goE G cb (r.mono s1) h1 fun dy w H2 s2 r2 h2 => ?_
  obtain ⟨d, e, q⟩ := h2.nx
  exact ⟨O, dx, dy, d, (r.dom.same s1).same s2, r1.rq.mono s2, r2.rq, e, fun z H3 s3 rn => q z H3 s3 rn⟩
theorem se_neg {a : E} (Sa : SE T ca a) : SE T ca (.neg a) := by
  intro C X W x G c ρ O σ H r Q h
  rw [chk_neg] at c
  split at c <;> first | (cases c; done) | skip
  rename_i y p
  rw [ev_neg] at h
  refine ofPE (pe_un un_neg (evPE X y)) ?_
  refine Sa.goE G c r h fun dx v H1 s1 r1 h1 => ?_
  cases dx <;> first | exact (show False from h1).elim | skip
  exact ⟨_, r1.rq.int, h1 _ H1 (Same.refl _) (.int _)⟩
theorem se_not {a : E} (Sa : SE T ca a) : SE T ca (.not a) := by
  intro C X W x G c ρ O σ H r Q h
  rw [chk_not] at c
  split at c <;> first | (cases c; done) | skip
  rename_i y p
  simp only [Bool.and_eq_true] at c
  rw [ev_not] at h
  refine ofPE (pe_not (evPE X y)) ?_
  refine Sa.goE G c.2 r h fun dx v H1 s1 r1 h1 => ?_
  cases dx <;> first | exact (show False from h1).elim | skip
  exact ⟨_, r1.rq.bl, h1 _ H1 (Same.refl _) (.bl _)⟩
theorem se_ite {t a b : E} (St : ST T ca t) (Sa : SE T ca a) (Sb : SE T ca b) : SE T ca (.ite t a b) := by
  intro C X W x G c ρ O σ H r Q h
  rw [chk_ite] at c
  split at c <;> first | (cases c; done) | skip
  rename_i tx y z p
  simp only [Bool.and_eq_true, Bool.not_eq_true'] at c
  obtain ⟨⟨⟨⟨⟨na, nb⟩, ni⟩, ct⟩, ca'⟩, cb⟩ := c
  rw [ev_ite] at h
  refine ofPE (pe_ifExp (evPT X tx) (evPE X y) (evPE X z)) ?_
  refine St C X W tx G ct ni ρ O σ H r _ ?_
  cases e : ev T t ρ with
  | ok d =>
    rw [e] at h
    cases d with
    | bool q =>
      intro H1 s1
      cases q with
      | true =>
        rw [if_pos rfl]
        refine Sa C X W y G ca' ρ O σ H1 (r.mono s1) Q ?_
        have h' : PostE X.K ca W .p O σ H (ev T a ρ) Q := h
        have h2 := h'.later s1
        cases e2 : ev T a ρ with
        | ok d => rw [e2] at h2; exact fun v H2 s2 rr => h2 v H2 s2 (rr.rp (kd_ne na))
        | exc c => rw [e2] at h2; exact h2
        | bad => rw [e2] at h2; exact h2
      | false =>
        rw [if_neg Bool.false_ne_true]
        refine Sb C X W z G cb ρ O σ H1 (r.mono s1) Q ?_
        have h' : PostE X.K ca W .p O σ H (ev T b ρ) Q := h
        have h2 := h'.later s1
        cases e2 : ev T b ρ with
        | ok d => rw [e2] at h2; exact fun v H2 s2 rr => h2 v H2 s2 (rr.rp (kd_ne nb))
        | exc c => rw [e2] at h2; exact h2
        | bad => rw [e2] at h2; exact h2
    | _ => exact (show False from h).elim
  | exc c => rw [e] at h; exact h
  | bad => rw [e] at h; exact h
theorem se_cmp {o : Co} {a b : E} (Sa : SE T ca a) (Sb : SE T ca b) : SE T ca (.cmp o a b) := by
  intro C X W x G c ρ O σ H r Q h
  rw [chk_cmp] at c
  split at c <;> first | (cases c; done) | skip
  · rename_i l op y p'
    simp only [Bool.and_eq_true, decide_eq_true_eq] at c
    obtain ⟨⟨⟨rfl, ns⟩, ca'⟩, cb⟩ := c
    rw [ev_cmp] at h
    refine ofPE (pe_cmpR (op_cmpD o G.un) (evPE X l) (evPE X y) (marks_of ns _)) ?_
    refine Sa.goE G ca' r h fun dx v H1 s1 r1 h1 => ?_
    refine Sb.goE G cb (r.mono s1) h1 fun dy w H2 s2 r2 h2 => ?_
    obtain ⟨d, e, q⟩ := h2.nx
    exact ⟨O, dx, dy, d, (r.dom.same s1).same s2, r1.rq.mono s2, r2.rq, e, fun z H3 s3 rn => q z H3 s3 rn.1⟩
theorem st_cmp {o : Co} {a b : E} (Sa : SE T ca a) (Sb : SE T ca b) : ST T ca (.cmp o a b) := by
  intro C X W x G c _ ρ O σ H r Q h
  rw [chk_cmp] at c
  split at c <;> first | (cases c; done) | skip
  · rename_i l op y p'
    simp only [Bool.and_eq_true, decide_eq_true_eq] at c
    obtain ⟨⟨⟨rfl, ns⟩, ca'⟩, cb⟩ := c
    rw [ev_cmp] at h
    refine ofPT (pt_cmpR (op_cmpD o G.un) (evPE X l) (evPE X y) (marks_of ns _)) ?_
    refine Sa.goT G ca' r h fun dx v H1 s1 r1 h1 => ?_
    refine Sb.goT G cb (r.mono s1) h1 fun dy w H2 s2 r2 h2 => ?_
    cases e : cmpD o dx dy with
    | ok d =>
      rw [e] at h2
      refine ⟨O, dx, dy, d, (r.dom.same s1).same s2, r1.rq.mono s2, r2.rq, e, fun z H3 s3 rn => ?_⟩
      cases d with
      | bool b => exact ⟨b, (show Rq X.K H3 O z _ from .inl rn.1).bl, h2 H3 s3⟩
      | _ => exact (show False from h2).elim
    | exc c => rw [e] at h2; exact (show False from h2).elim
    | bad => rw [e] at h2; exact (show False from h2).elim
theorem chain_read {o1 o2 : Co} {a b cc : E} (Sa : SE T ca a) (Sb : SE T ca b) (Sc : SE T ca cc) {C : Ctx} {X : Cx} {W : WX} (G : Good C T ca X W) {l y z : Expr} (ka : chk a C l = true) (kb : chk b C y = true) (kc : chk cc C z = true)
    {ρ : En} {O : List Addr} {σ : L2.St} {H : Hp} (r : RelE X.K ρ O σ H) {Q : VK} (h : PostE X.K ca W .p O σ H (ev T (.chain o1 o2 a b cc) ρ) Q) :
    tChain (rD X.K (cmpD o1)) (rD X.K (cmpD o2)) (Ev X l) (Ev X y) (Ev X z) σ H Q := by
  rw [ev_chain] at h
  refine Sa.goE G ka r h fun dx v H1 s1 r1 h1 => ?_
  refine Sb.goE G kb (r.mono s1) h1 fun dy w H2 s2 r2 h2 => ?_
  cases e : cmpD o1 dx dy with
  | ok d =>
    rw [e] at h2
    refine ⟨O, dx, dy, d, (r.dom.same s1).same s2, r1.rq.mono s2, r2.rq, e, fun u H3 s3 rn => ?_⟩
    cases d with
    | bool k =>
      refine ⟨k, (show Rq X.K H3 O u _ from .inl rn.1).bl, ?_⟩
      cases k with
      | true =>
        rw [if_pos rfl]
        have h3 : PostE X.K ca W .p O σ H2 (ev T cc ρ >>= fun q => nx (cmpD o2 dy q)) Q := h2
        refine Sc.goE G kc (((r.mono s1).mono s2).mono s3) (h3.later s3) fun dz t H4 s4 r4 h4 => ?_
        obtain ⟨d', e', q⟩ := h4.nx
        exact ⟨O, dy, dz, d', (((r.dom.same s1).same s2).same s3).same s4, (r2.rq.mono s3).mono s4, r4.rq, e', fun z H5 s5 rn => q z H5 s5 rn.1⟩
      | false =>
        rw [if_neg Bool.false_ne_true]
        exact h2 _ H3 s3 (.bl false)
    | _ => exact (show False from h2).elim
  | exc c => rw [e] at h2; exact (show False from h2).elim
  | bad => rw [e] at h2; exact (show False from h2).elim
theorem se_chain {o1 o2 : Co} {a b cc : E} (Sa : SE T ca a) (Sb : SE T ca b) (Sc : SE T ca cc) : SE T ca (.chain o1 o2 a b cc) := by
  intro C X W x G c ρ O σ H r Q h
  rw [chk_chain] at c
  split at c <;> first | (cases c; done) | skip
  · rename_i l p1 p2 y z p'
    simp only [Bool.and_eq_true, decide_eq_true_eq] at c
    obtain ⟨⟨⟨⟨⟨⟨rfl, rfl⟩, n1⟩, n2⟩, ka⟩, kb⟩, kc⟩ := c
    exact ofPE (pe_chain (op_cmpD o1 G.un) (op_cmpD o2 G.un) (evPE X l) (evPE X y) (evPE X z) (marks_of n2 _)) (chain_read Sa Sb Sc G ka kb kc r h)
theorem postT_E {K : PySem.W.Frag} {W : WX} {O : List Addr} {σ : L2.St} {H : Hp} {r : R D} {Q : Bool → Hp → Prop} (h : PostT ca W σ H r Q) : PostE K ca W .p O σ H r fun v H' => ∃ k, v = .bl k ∧ Q k H' := by
  cases r with
  | ok d =>
    cases d with
    | bool b => exact fun v H' s rr => ⟨b, (show Rq K H' O v _ from .inl rr).bl, h H' s⟩
    | _ => exact (show False from h).elim
  | exc c => exact h
  | bad => exact h
theorem st_chain {o1 o2 : Co} {a b cc : E} (Sa : SE T ca a) (Sb : SE T ca b) (Sc : SE T ca cc) : ST T ca (.chain o1 o2 a b cc) := by
  intro C X W x G c _ ρ O σ H r Q h
  rw [chk_chain] at c
  split at c <;> first | (cases c; done) | skip
  · rename_i l p1 p2 y z p'
    simp only [Bool.and_eq_true, decide_eq_true_eq] at c
    obtain ⟨⟨⟨⟨⟨⟨rfl, rfl⟩, n1⟩, n2⟩, ka⟩, kb⟩, kc⟩ := c
    exact ofPT (pt_chain (op_cmpD o1 G.un) (op_cmpD o2 G.un) (evPE X l) (evPE X y) (evPE X z) (marks_of n2 _)) (chain_read Sa Sb Sc G ka kb kc r (postT_E h))
theorem isB_read {n : Bool} {a : E} {b : Bool} (Sa : SE T ca a) {C : Ctx} {X : Cx} {W : WX} (G : Good C T ca X W) {l : Expr} (ka : chk a C l = true)
    {ρ : En} {O : List Addr} {σ : L2.St} {H : Hp} (r : RelE X.K ρ O σ H) {Q : VK} (h : PostE X.K ca W .p O σ H (ev T (.isB n a b) ρ) Q) :
    tOp (fun x y H Q => ∃ a b : Bool, x = .bl a ∧ y = .bl b ∧ Q (.bl (if n then !decide (a = b) else decide (a = b))) H) (Ev X l) (tC (.bl b)) σ H Q := by
  rw [ev_isB] at h
  refine Sa.goE G ka r h fun dx v H1 s1 r1 h1 => ?_
  cases dx <;> first | exact (show False from h1).elim | skip
  exact ⟨_, b, r1.rq.bl, rfl, h1 _ H1 (Same.refl _) (.bl _)⟩
theorem se_isB {n : Bool} {a : E} {b : Bool} (Sa : SE T ca a) : SE T ca (.isB n a b) := by
  intro C X W x G c ρ O σ H r Q h
  rw [chk_isB] at c
  split at c <;> first | (cases c; done) | skip
  · rename_i l op c' k p2 p'
    simp only [Bool.and_eq_true, decide_eq_true_eq] at c
    obtain ⟨⟨rfl, rfl⟩, ka⟩ := c
    exact ofPE (pe_cmpR (op_isBD n) (evPE X l) pe_bl (by cases n <;> rfl)) (isB_read Sa G ka r h)
theorem st_isB {n : Bool} {a : E} {b : Bool} (Sa : SE T ca a) : ST T ca (.isB n a b) := by
  intro C X W x G c _ ρ O σ H r Q h
  rw [chk_isB] at c
  split at c <;> first | (cases c; done) | skip
  · rename_i l op c' k p2 p'
    simp only [Bool.and_eq_true, decide_eq_true_eq] at c
    obtain ⟨⟨rfl, rfl⟩, ka⟩ := c
    exact ofPT (pt_cmpR (op_isBD n) (evPE X l) pe_bl (by cases n <;> rfl)) (isB_read Sa G ka r (postT_E h))
theorem op_isND {X : Cx} (n : Bool) : OpR X (compareOp (if n then .IsNot else .Is)) (fun x y H Q => y = .non ∧ Q (.bl (if n then !decide (x = .non) else decide (x = .non))) H) := by
  cases n with
  | false => exact op_isN
  | true => exact op_notN
theorem isN_read {n : Bool} {a : E} (Sa : SE T ca a) {C : Ctx} {X : Cx} {W : WX} (G : Good C T ca X W) {l : Expr} (ka : chk a C l = true)
    {ρ : En} {O : List Addr} {σ : L2.St} {H : Hp} (r : RelE X.K ρ O σ H) {Q : VK} (h : PostE X.K ca W .p O σ H (ev T (.isN n a) ρ) Q) :
    tOp (fun x y H Q => y = .non ∧ Q (.bl (if n then !decide (x = .non) else decide (x = .non))) H) (Ev X l) (tC .non) σ H Q := by
  rw [ev_isN] at h
  refine Sa.goE G ka r h fun dx v H1 s1 r1 h1 => ⟨rfl, ?_⟩
  have key : ∀ b, (v ≠ .non → b = n) → (v = .non → b = !n) → (if n = true then !decide (v = .non) else decide (v = .non)) = b := fun b k1 k2 => by
    by_cases e : v = .non
    · rw [k2 e, decide_eq_true e]; cases n <;> rfl
    · rw [k1 e, decide_eq_false e]; cases n <;> rfl
  have rq := r1.rq
  cases dx with
  | none =>
    have hv := rq.non
    rw [key (!n) (fun z => (z hv).elim) (fun _ => rfl)]
    exact h1 _ H1 (Same.refl _) (.bl _)
  | bool b =>
    have hv := rq.bl
    rw [key n (fun _ => rfl) (fun z => by rw [z] at hv; cases hv)]
    exact h1 _ H1 (Same.refl _) (.bl _)
  | int b =>
    have hv := rq.int
    rw [key n (fun _ => rfl) (fun z => by rw [z] at hv; cases hv)]
    exact h1 _ H1 (Same.refl _) (.bl _)
  | str b =>
    have hv := rq.str
    rw [key n (fun _ => rfl) (fun z => by rw [z] at hv; cases hv)]
    exact h1 _ H1 (Same.refl _) (.bl _)
  | list b =>
    obtain ⟨_, _, hv, _⟩ := rq.lst
    rw [key n (fun _ => rfl) (fun z => by rw [z] at hv; cases hv)]
    exact h1 _ H1 (Same.refl _) (.bl _)
  | tuple b =>
    obtain ⟨_, _, _, hv, _⟩ := rq.tup
    rw [key n (fun _ => rfl) (fun z => by rw [z] at hv; cases hv)]
    exact h1 _ H1 (Same.refl _) (.bl _)
  | dict b =>
    obtain ⟨_, hv⟩ := rq.dictR
    rw [key n (fun _ => rfl) (fun z => by rw [z] at hv; cases hv)]
    exact h1 _ H1 (Same.refl _) (.bl _)
theorem se_isN {n : Bool} {a : E} (Sa : SE T ca a) : SE T ca (.isN n a) := by
  intro C X W x G c ρ O σ H r Q h
  rw [chk_isN] at c
  split at c <;> first | (cases c; done) | skip
  · rename_i l op k p2 p'
    simp only [Bool.and_eq_true, decide_eq_true_eq] at c
    obtain ⟨rfl, ka⟩ := c
    exact ofPE (pe_cmpR (op_isND n) (evPE X l) pe_non (by cases n <;> rfl)) (isN_read Sa G ka r h)
theorem st_isN {n : Bool} {a : E} (Sa : SE T ca a) : ST T ca (.isN n a) := by
  intro C X W x G c _ ρ O σ H r Q h
  rw [chk_isN] at c
  split at c <;> first | (cases c; done) | skip
  · rename_i l op k p2 p'
    simp only [Bool.and_eq_true, decide_eq_true_eq] at c
    obtain ⟨rfl, ka⟩ := c
    exact ofPT (pt_cmpR (op_isND n) (evPE X l) pe_non (by cases n <;> rfl)) (isN_read Sa G ka r (postT_E h))
theorem st_not {a : E} (Sa : ST T ca a) : ST T ca (.not a) := by
  intro C X W x G c _ ρ O σ H r Q h
  rw [chk_not] at c
  split at c <;> first | (cases c; done) | skip
  rename_i y p
  simp only [Bool.and_eq_true, Bool.not_eq_true'] at c
  rw [ev_not] at h
  refine ofPT (pt_not (evPT X y)) ?_
  refine Sa C X W y G c.2 c.1 ρ O σ H r _ ?_
  cases e : ev T a ρ with
  | ok d =>
    rw [e] at h
    cases d with
    | bool b => exact fun H' s => h H' s
    | _ => exact (show False from h).elim
  | exc c => rw [e] at h; exact h
  | bad => rw [e] at h; exact h
end
end Pi

set_option Elab.async false
set_option linter.all false
set_option maxRecDepth 100000
set_option maxHeartbeats 4000000
/-! Pi11: and, or, arguments, displays, subscripts, calls. -/
namespace Pi
open PySem PySem.Spec PyProof.Rows L2
variable [MP]
section
variable {T : Str → List D → R D} {ca : Nat → Addr}

theorem weaken_p {K : PySem.W.Frag} {W : WX} {O : List Addr} {σ : L2.St} {H : Hp} {r : R D} {Q : VK} {k : Kd} (hk : k ≠ .q) (h : PostE K ca W .p O σ H r Q) : PostE K ca W k O σ H r Q := by
  cases r with
  | ok d => exact fun v H' s rr => h v H' s (rr.rp hk)
  | exc c => exact h
  | bad => exact h
/-! ### and, or -/
theorem sba_cons {a as : E} (Sa : SE T ca a) (Ta : ST T ca a) (Sr : SBA T ca as) : SBA T ca (.cons a as) := by
  intro C X W xs G c ρ O σ H r pos
  rw [chkB_cons] at c
  split at c
  · cases c
  · rename_i x
    simp only [Bool.and_eq_true, Bool.not_eq_true'] at c
    obtain ⟨⟨⟨hn, hb⟩, hi⟩, hc⟩ := c
    cases as <;> first | (cases hn; done) | skip
    rw [evA_one]
    exact ⟨fun Q h => ofPE (pe_one (evPE X x)) (Sa C X W x G hc ρ O σ H r Q (weaken_p (kd_ne hb) h)), fun Q h => ofPW (pw_and1 (evPT X x)) (Ta C X W x G hc hi ρ O σ H r Q h)⟩
  · rename_i x y rr
    simp only [Bool.and_eq_true, Bool.not_eq_true'] at c
    obtain ⟨⟨⟨hn, hi⟩, hc⟩, hr⟩ := c
    cases as <;> first | (simp [isNil] at hn; done) | (simp [chkB] at hr; done) | skip
    rename_i b bs
    rw [evA_cons]
    refine ⟨fun Q h => ?_, fun Q h => ?_⟩
    · refine ofPE (pe_and (evPE X x) (evPE X (.BoolOp .And (y :: rr) pos))) ?_
      refine Sa.goE G hc r h fun d v H1 s1 r1 h1 => ?_
      cases d with
      | bool k =>
        refine ⟨k, r1.rq.bl, ?_⟩
        cases k with
        | true =>
          rw [if_pos rfl]
          exact (Sr C X W _ G hr ρ O σ H1 (r.mono s1) pos).1 Q h1
        | false =>
          rw [if_neg Bool.false_ne_true]
          exact h1 _ H1 (Same.refl _) (.bl _)
      | _ => exact (show False from h1).elim
    · refine ofPW (pw_and (evPT X x) (evPW X (.BoolOp .And (y :: rr) pos))) ?_
      refine Ta C X W x G hc hi ρ O σ H r _ ?_
      cases e : ev T a ρ with
      | ok d =>
        rw [e] at h
        cases d with
        | bool k =>
          intro H1 s1
          cases k with
          | true =>
            rw [if_pos rfl]
            exact (Sr C X W _ G hr ρ O σ H1 (r.mono s1) pos).2 Q (PostT.later s1 h)
          | false =>
            rw [if_neg Bool.false_ne_true]
            exact h H1 s1
        | _ => exact (show False from h).elim
      | exc c => rw [e] at h; exact h
      | bad => rw [e] at h; exact h
theorem sbo_cons {a as : E} (Sa : SE T ca a) (Ta : ST T ca a) (Sr : SBO T ca as) : SBO T ca (.cons a as) := by
  intro C X W xs G c ρ O σ H r pos
  rw [chkB_cons] at c
  split at c
  · cases c
  · rename_i x
    simp only [Bool.and_eq_true, Bool.not_eq_true'] at c
    obtain ⟨⟨⟨hn, hb⟩, hi⟩, hc⟩ := c
    cases as <;> first | (cases hn; done) | skip
    rw [evO_one]
    exact ⟨fun Q h => ofPE (pe_one (evPE X x)) (Sa C X W x G hc ρ O σ H r Q (weaken_p (kd_ne hb) h)), fun Q h => ofPW (pw_or1 (evPT X x)) (Ta C X W x G hc hi ρ O σ H r Q h)⟩
  · rename_i x y rr
    simp only [Bool.and_eq_true, Bool.not_eq_true'] at c
    obtain ⟨⟨⟨hn, hi⟩, hc⟩, hr⟩ := c
    cases as <;> first | (simp [isNil] at hn; done) | (simp [chkB] at hr; done) | skip
    rename_i b bs
    rw [evO_cons]
    refine ⟨fun Q h => ?_, fun Q h => ?_⟩
    · refine ofPE (pe_or (evPE X x) (evPE X (.BoolOp .Or (y :: rr) pos))) ?_
      refine Sa.goE G hc r h fun d v H1 s1 r1 h1 => ?_
      cases d with
      | bool k =>
        refine ⟨k, r1.rq.bl, ?_⟩
        cases k with
        | true =>
          rw [if_pos rfl]
          exact h1 _ H1 (Same.refl _) (.bl _)
        | false =>
          rw [if_neg Bool.false_ne_true]
          exact (Sr C X W _ G hr ρ O σ H1 (r.mono s1) pos).1 Q h1
      | _ => exact (show False from h1).elim
    · refine ofPW (pw_or (evPT X x) (evPW X (.BoolOp .Or (y :: rr) pos))) ?_
      refine Ta C X W x G hc hi ρ O σ H r _ ?_
      cases e : ev T a ρ with
      | ok d =>
        rw [e] at h
        cases d with
        | bool k =>
          intro H1 s1
          cases k with
          | true =>
            rw [if_pos rfl]
            exact h H1 s1
          | false =>
            rw [if_neg Bool.false_ne_true]
            exact (Sr C X W _ G hr ρ O σ H1 (r.mono s1) pos).2 Q (PostT.later s1 h)
        | _ => exact (show False from h).elim
      | exc c => rw [e] at h; exact h
      | bad => rw [e] at h; exact h
theorem se_and {es : E} (S : SBA T ca es) : SE T ca (.and es) := by
  intro C X W x G c ρ O σ H r Q h
  rw [chk_and] at c
  split at c <;> first | (cases c; done) | skip
  rw [ev_and] at h
  exact (S C X W _ G c ρ O σ H r _).1 Q h
theorem st_and {es : E} (S : SBA T ca es) : ST T ca (.and es) := by
  intro C X W x G c _ ρ O σ H r Q h
  rw [chk_and] at c
  split at c <;> first | (cases c; done) | skip
  rw [ev_and] at h
  exact fun pins s I => (S C X W _ G c ρ O σ H r _).2 Q h _ pins s I
theorem se_or {es : E} (S : SBO T ca es) : SE T ca (.or es) := by
  intro C X W x G c ρ O σ H r Q h
  rw [chk_or] at c
  split at c <;> first | (cases c; done) | skip
  rw [ev_or] at h
  exact (S C X W _ G c ρ O σ H r _).1 Q h
theorem st_or {es : E} (S : SBO T ca es) : ST T ca (.or es) := by
  intro C X W x G c _ ρ O σ H r Q h
  rw [chk_or] at c
  split at c <;> first | (cases c; done) | skip
  rw [ev_or] at h
  exact fun pins s I => (S C X W _ G c ρ O σ H r _).2 Q h _ pins s I

/-! ### arguments -/
theorem sl_nil : SL T ca .nil := by
  intro st C X W xs G c ρ O σ H r Q h
  rw [chkL_nil] at c
  cases xs with
  | nil => exact ofPA pa_nil (h [] H (Same.refl _) .nil (fun _ => .nil))
  | cons x xs => cases c
theorem sl_cons {a as : E} (Sa : SE T ca a) (Sr : SL T ca as) : SL T ca (.cons a as) := by
  intro st C X W xs G c ρ O σ H r Q h
  rw [chkL_cons] at c
  split at c
  · rename_i x xs
    simp only [Bool.and_eq_true, Bool.or_eq_true, Bool.not_eq_true'] at c
    obtain ⟨⟨hb, hc⟩, hr⟩ := c
    rw [evL_cons] at h
    refine ofPA (pa_cons (evPE X x) (evPA X xs) (star_cons (notStar_of hc))) ?_
    refine Sa.goL G hc r h fun d v H1 s1 r1 h1 => ?_
    refine Sr st C X W xs G hr ρ O σ H1 (r.mono s1) _ ?_
    cases e : evL T as ρ with
    | ok ds =>
      rw [e] at h1
      intro vs H2 s2 q1 q2
      refine h1 (v :: vs) H2 s2 (.cons (r1.rq.mono s2) q1) fun hs => ?_
      have hb' : isBor a = false := by
        rcases hb with z | z
        · rw [hs] at z; cases z
        · exact z
      exact .cons ((r1.rp (kd_ne hb')).mono (Fz.same s2)) (q2 hs)
    | exc c => rw [e] at h1; exact h1
    | bad => rw [e] at h1; exact h1
  · cases c

/-! ### displays -/
theorem se_tup {es : E} (S : SL T ca es) : SE T ca (.tup es) := by
  intro C X W x G c ρ O σ H r Q h
  rw [chk_tup] at c
  split at c <;> first | (cases c; done) | skip
  rw [ev_tup] at h
  have hz := sizeLine_eq
  refine ofPE (pe_tupF (evPA X _)) ?_
  refine S.goE G c r h fun ds vs H1 _ s1 r1 r2 h1 => ?_
  by_cases hl : ds.length ≤ big
  · rw [if_pos hl] at h1
    have rp := r2 rfl
    have hle := rp.length
    have hbig : big = 16777216 := rfl
    refine ⟨by omega, fun p o hp ho => h1 _ _ (same_upd hp) (tup_at (r.dom.same s1) hp ho rp)⟩
  · rw [if_neg hl] at h1; exact h1.elim
theorem se_lst {es : E} (S : SL T ca es) : SE T ca (.lst es) := by
  intro C X W x G c ρ O σ H r Q h
  rw [chk_lst] at c
  split at c <;> first | (cases c; done) | skip
  rw [ev_lst] at h
  have hz := sizeLine_eq
  refine ofPE (pe_lst (evPA X _)) ?_
  refine S.goE G c r h fun ds vs H1 _ s1 r1 r2 h1 => ?_
  by_cases hl : ds.length ≤ big
  · rw [if_pos hl] at h1
    have rp := r2 rfl
    have hle := rp.length
    have hbig : big = 16777216 := rfl
    exact ⟨by omega, fun p hp => h1 _ _ (same_upd hp) ((new_at hp rp).rn (r.dom.same s1))⟩
  · rw [if_neg hl] at h1; exact h1.elim

/-! ### subscripts -/
theorem se_idx {a b : E} (Sa : SE T ca a) (Sb : SE T ca b) : SE T ca (.idx a b) := by
  intro C X W x G c ρ O σ H r Q h
  rw [chk_idx] at c
  split at c <;> first | (cases c; done) | skip
  rename_i l y p
  simp only [Bool.and_eq_true] at c
  obtain ⟨⟨ns, k1⟩, k2⟩ := c
  rw [ev_idx] at h
  refine ofPE (pe_ix ix_D (evPE X l) (evPE X y) (plainIx_of ns)) ?_
  refine Sa.goE G k1 r h fun dx v H1 s1 r1 h1 => ?_
  refine Sb.goE G k2 (r.mono s1) h1 fun dy w H2 s2 r2 h2 => ?_
  obtain ⟨d, e, q⟩ := h2.nx
  exact ⟨O, dx, dy, d, (r.dom.same s1).same s2, r1.rq.mono s2, r2.rq, e, fun z H3 s3 rn => q z H3 s3 rn⟩
theorem no_mark {K : PySem.W.Frag} {H : Hp} {O : List Addr} {v : V} (h : Rq K H O v mark) : False := by
  rcases h with h | ⟨a, vs, ds', _, e, _⟩
  · generalize hk : mark = dd at h
    cases h with
    | @scr a ns hs =>
      unfold mark scr at hk
      cases ns with
      | nil => cases hk
      | cons n ns => cases hk
    | memo hm => unfold mark memoD at hk; cases hk
    | fn hm => unfold mark fnD at hk; cases hk
    | _ => cases hk
  · cases e
theorem nil_of {e : E} (h : isNil e = true) : e = .nil := by cases e <;> first | rfl | cases h
theorem part_go {a : E} (Sa : SE T ca a) {C : Ctx} {X : Cx} {W : WX} (G : Good C T ca X W) {o : Option Expr} (c : (match o with | none => isNil a | some z => !isNil a && chk a C z) = true)
    {ρ : En} {O : List Addr} {σ : L2.St} {H : Hp} (r : RelE X.K ρ O σ H) {f : Option Int → R D} {k : Kd} {Q0 : VK} {Q : Option Int → Hp → Prop} (h : PostE X.K ca W k O σ H (ev T a ρ >>= fun d => asOpt d >>= f) Q0)
    (hk : ∀ i H1, Same H H1 → PostE X.K ca W k O σ H1 (f i) Q0 → Q i H1) : (match o with | none => tNoPart | some z => tPart (Ev X z)) σ H Q := by
  cases o with
  | none =>
    have e := nil_of c
    subst e
    exact hk none H (Same.refl _) h
  | some z =>
    simp only [Bool.and_eq_true, Bool.not_eq_true'] at c
    show Ev X z σ H _
    refine Sa.goE G c.2 r h fun d v H1 s1 r1 h1 => ?_
    cases ed : asOpt d with
    | ok o =>
      rw [ed] at h1
      unfold asOpt at ed
      split at ed
      · cases ed
        exact ⟨_, r1.rq.int, hk _ H1 s1 h1⟩
      · exact (no_mark r1.rq).elim
      · cases ed
    | exc c => cases d <;> first | (simp [asOpt] at ed; done) | (unfold asOpt at ed; split at ed <;> cases ed)
    | bad => rw [ed] at h1; exact (show False from h1).elim
theorem po_of {X : Cx} (o : Option Expr) : PO X o (match o with | none => tNoPart | some z => tPart (Ev X z)) := by
  cases o with
  | none => exact po_none
  | some z => exact po_some (evPE X z)
theorem se_slc {a lo hi : E} (Sa : SE T ca a) (Sl : SE T ca lo) (Sh : SE T ca hi) : SE T ca (.slc a lo hi) := by
  intro C X W x G c ρ O σ H r Q h
  rw [chk_slc] at c
  split at c <;> first | (cases c; done) | skip
  rename_i y l hh p2 p
  rw [Bool.and_eq_true, Bool.and_eq_true] at c
  obtain ⟨⟨k1, k2⟩, k3⟩ := c
  rw [ev_slc] at h
  refine ofPE (pe_slice sl_D (evPE X y) (po_of l) (po_of hh)) ?_
  refine Sa.goE G k1 r h fun dx v H1 s1 r1 h1 => ?_
  refine part_go Sl G k2 (r.mono s1) h1 fun i H2 s2 h2 => ?_
  refine part_go Sh G k3 ((r.mono s1).mono s2) h2 fun j H3 s3 h3 => ?_
  obtain ⟨d, e, q⟩ := h3.nx
  exact ⟨O, dx, d, ((r.dom.same s1).same s2).same s3, (r1.rq.mono s2).mono s3, e, fun z H4 s4 rn => q z H4 s4 rn⟩
theorem se_rev {a : E} (Sa : SE T ca a) : SE T ca (.rev a) := by
  intro C X W x G c ρ O σ H r Q h
  rw [chk_rev] at c
  split at c <;> first | (cases c; done) | skip
  rename_i y j kk p1 p2 p3 p4
  simp only [Bool.and_eq_true, decide_eq_true_eq] at c
  obtain ⟨rfl, k1⟩ := c
  rw [ev_rev] at h
  refine ofPE (pe_rev (evPE X y)) ?_
  refine Sa.goE G k1 r h fun dx v H1 s1 r1 h1 => ?_
  cases dx <;> first | exact (show False from h1).elim | skip
  · obtain ⟨b, vs, rfl, hb, rb⟩ := r1.rq.lst
    exact ⟨b, vs, rfl, .inl ⟨.of hb, fun p hp => h1 _ _ (same_upd hp) ((new_at hp rb.reverse).rn (r.dom.same s1))⟩⟩
  · obtain ⟨b, o, vs, rfl, hb, _, rb⟩ := r1.rq.tup
    exact ⟨b, vs, rfl, .inr ⟨SqT.fr hb, fun p o' hp ho => h1 _ _ (same_upd hp) (.of (tup_at (r.dom.same s1) hp ho rb.reverse) (fun _ z => nomatch z))⟩⟩

theorem se_sset {a : E} (Sa : SE T ca a) : SE T ca (.sset a) := by
  intro C X W x G c ρ O σ H r Q h
  rw [chk_sset] at c
  split at c <;> first | (cases c; done) | skip
  rename_i n p1 m p2 y p3 p4
  simp only [Bool.and_eq_true, decide_eq_true_eq] at c
  obtain ⟨⟨⟨⟨rfl, k1⟩, rfl⟩, k2⟩, k3⟩ := c
  rw [ev_sset] at h
  refine ofPE (pe_sortset (G.glo k1) (G.bi _ (by simp [bnames])) (G.glo k2) (G.bi _ (by simp [bnames])) (evPE X y) G.calm (star_cons (notStar_of k3))) ?_
  refine Sa.goE G k3 r h fun dx v H1 s1 r1 h1 => ?_
  cases dx <;> first | exact (show False from h1).elim | skip
  rename_i ds
  obtain ⟨b, vs, rfl, hb, rb⟩ := r1.rq.lst
  obtain ⟨d, e1, h2⟩ := h1.nx
  cases hn : asInts ds with
  | none => rw [show ssetD (.list ds) = .bad by simp [ssetD, hn]] at e1; cases e1
  | some ns =>
    cases hle : (Nat.ble ns.length 4000 && Nat.ble (usort ns).length 60) with
    | false => rw [show ssetD (.list ds) = .bad by simp only [ssetD, hn, hle]; rfl] at e1; cases e1
    | true =>
      rw [show ssetD (.list ds) = .ok (.list ((usort ns).map PyData.int)) by simp only [ssetD, hn, hle]; rfl] at e1
      cases e1
      have hds := asInts_eq hn
      subst hds
      have hv := rb.ints
      subst hv
      rw [Bool.and_eq_true] at hle
      exact ⟨b, ns, rfl, .of hb, ⟨Nat.le_of_ble_eq_true hle.1, Nat.le_of_ble_eq_true hle.2⟩, fun p hp => h2 _ _ (same_upd hp) ((new_at hp (RpL.ofInts _)).rn (r.dom.same s1))⟩

def tMNew : TE := fun _ H Q => ∀ p m, H p = none → (p == sysModules) = false → m ≠ 0 → Q (.ref p) (upd H p (MemO p #[] m))
theorem pe_mnew {X : Cx} {pos : Pos} (m : Nat) (hm : m ≠ 0) : PE X (.Dict [] [] pos) (fun σ H Q => ∀ p, H p = none → (p == sysModules) = false → Q (.ref p) (upd H p (MemO p #[] m))) := ⟨fun pins s σ H Q I h => by
  have hg : (s.heap.push { cls := .type "dict", data := .dict #[] }).get? s.heap.objs.size = some { cls := .type "dict", data := .dict #[] } := Heap.get?_push_size _ rfl
  refine wpAny_Dict_empty ⟨.ref s.heap.objs.size, _, I.laid (a := s.heap.objs.size) (o := MemO s.heap.objs.size #[] m) (t' := s.toks) (fun _ _ q => Heap.get?_push_of_some _ q) (Nat.le_refl _) ⟨⟨_, 0, hg, ⟨rfl, rfl, rfl⟩, rfl, Ne.symm hm⟩, ⟨_, hg⟩, fun h1 h2 ⟨o, ep, z1, z2⟩ k => ⟨o, ep, k o z1, z2⟩⟩, rfl, h _ (I.hok.fresh (Nat.le_refl _)) ?_⟩
  exact beq_eq_false_iff_ne.mpr (Ne.symm (Nat.ne_of_lt I.big))⟩
theorem se_dnew {g : E} : SE T ca (.dnew g) := by
  intro C X W x G c ρ O σ H r Q h
  rw [chk_dnew] at c
  split at c <;> first | (cases c; done) | skip
  rename_i p
  rw [ev_dnew] at h
  cases eg : ev T g ρ with
  | exc _ => rw [eg] at h; exact (show False from h).elim
  | bad => rw [eg] at h; exact (show False from h).elim
  | ok t =>
    rw [eg] at h
    cases ek : knownZ t with
    | none => simp only [ek] at h; exact (show False from h).elim
    | some kn =>
      simp only [ek] at h
      refine ofPE (pe_mnew (2 * kcode kn + 1) (by omega)) fun a ha hs => ?_
      refine h (.ref a) _ (same_upd ha) (.memo (Mm.fz ⟨kn, #[], 2 * kcode kn + 1, [], ek, upd_same, by omega, rfl, List.nodup_nil, hs, fun x hx => by cases hx⟩))

/-! ### calls -/
theorem evL_len {C : Ctx} {ρ : En} {st : Bool} : ∀ {e : E} {xs : List Expr} {ds : List D}, chkL st e C xs = true → evL T e ρ = .ok ds → ds.length = xs.length := by
  intro e
  induction e with
  | nil =>
    intro xs ds h1 h2
    cases h2
    rw [chkL_nil] at h1
    cases xs with
    | nil => rfl
    | cons _ _ => cases h1
  | cons a as _ ih =>
    intro xs ds h1 h2
    rw [chkL_cons] at h1
    cases xs with
    | nil => cases h1
    | cons x xs =>
      simp only [Bool.and_eq_true] at h1
      rw [evL_cons] at h2
      cases q1 : ev T a ρ with
      | ok d =>
        rw [q1] at h2
        cases q2 : evL T as ρ with
        | ok es =>
          rw [q2] at h2
          cases h2
          rw [List.length_cons, List.length_cons, ih h1.2 q2]
        | exc c => rw [q2] at h2; cases h2
        | bad => rw [q2] at h2; cases h2
      | exc c => rw [q1] at h2; cases h2
      | bad => rw [q1] at h2; cases h2
  | _ => intro xs ds h1 h2; cases h2
theorem first_star {st : Bool} {as : E} {C : Ctx} {y : Expr} {ys : List Expr} (hl : chkL st as C (y :: ys) = true) : notStar y = true := by
  cases as <;> first | (simp [chkL] at hl; done) | skip
  rw [chkL_cons] at hl
  simp only [Bool.and_eq_true] at hl
  exact notStar_of hl.1.2
theorem rest_star {st : Bool} {as : E} {C : Ctx} {y : Expr} {ys : List Expr} {pos : Pos} {env : Env} (hl : chkL st as C (y :: ys) = true) : (backTo pos (starEach ys env)).any (·.1) = false := by
  have := any_star (pos := pos) (env := env) hl
  rw [star_cons (first_star hl)] at this
  have e : ((false || (backTo pos (starEach ys env)).any (·.1)) = false) := this
  simpa using e
/-- what a promise over data asks -/
theorem spT_of {K : PySem.W.Frag} {W : WX} {O : List Addr} {σ : L2.St} {H : Hp} {n : Nat} {F : List D → R D} {ds : List D} {vs : List V} {Q : VK} (hn : vs.length = n) (dm : Dom H O) (rp : RpL K (Fz H O) vs ds) (h : PostE K ca W .p O σ H (F ds) Q) :
    spT K ca n F vs H Q (WE W σ) := by
  refine ⟨hn, O, ds, dm, rp, ?_⟩
  cases e : F ds with
  | ok d => rw [e] at h; exact h
  | exc c => rw [e] at h; exact h
  | bad => rw [e] at h; exact h
theorem se_call {f : Str} {as : E} (S : SL T ca as) : SE T ca (.call f as) := by
  intro C X W x G c ρ O σ H r Q h
  rw [chk_call] at c
  split at c <;> first | (cases c; done) | skip
  rename_i n p xs p2
  simp only [Bool.and_eq_true, decide_eq_true_eq, Bool.not_eq_true'] at c
  obtain ⟨⟨⟨⟨⟨rfl, hg⟩, hk⟩, hf⟩, hne⟩, hl⟩ := c
  cases xs with
  | nil => cases hne
  | cons y ys =>
    obtain ⟨a, fd, ps, k, hm, hkp, hb, F, hr⟩ := G.fs _ _ hf
    rw [ev_call] at h
    refine ofPE (pe_callS (E := WE W) F hr (G.glo hg) hm hkp hb (fun σ => passAt G.tk σ) (evPA X (y :: ys)) (okName_of hk).1 (star_cons (first_star hl)) (rest_star hl)) ?_
    refine S.goE G hl r h fun ds vs H1 e s1 r1 r2 h1 => ?_
    exact spT_of (by rw [(r2 rfl).length, evL_len hl e]) (r.dom.same s1) (r2 rfl) h1
theorem pa_names {X : Cx} {af : Str → Addr} {σ : L2.St} {H : Hp} : ∀ {ns : List Expr} {fs : List Str} {Q : List V → Hp → Prop}, namesOf ns = some fs → (∀ f ∈ fs, Gl X f ∧ (f == ("__debug__" : Str)) = false ∧ X.mg f = some (.ref (af f))) →
    Q (fs.map fun f => V.ref (af f)) H → EvA X ns σ H Q
  | [], fs, Q, h, _, q => by
    cases h
    exact ofPA pa_nil q
  | n :: ns, fs, Q, h, hf, q => by
    cases n <;> first | (simp [namesOf] at h; done) | skip
    rename_i x p
    unfold namesOf at h
    cases e : namesOf ns with
    | none => rw [e] at h; cases h
    | some gs =>
      rw [e] at h
      cases h
      obtain ⟨h1, h2, h3⟩ := hf x List.mem_cons_self
      refine ofPA (pa_cons (pe_glob (v := .ref (af x)) h1 h3 rfl h2) (evPA X ns)) ?_
      exact pa_names e (fun f hm => hf f (List.mem_cons_of_mem _ hm)) q
theorem se_callIx {fs : List Str} {ix as : E} (Si : SE T ca ix) (S : SL T ca as) : SE T ca (.callIx fs ix as) := by
  intro C X W x G c ρ O σ H r Q h
  rw [chk_callIx] at c
  split at c <;> first | (cases c; done) | skip
  rename_i ns p1 y p2 xs p3
  simp only [Bool.and_eq_true, decide_eq_true_eq, Bool.not_eq_true', List.all_eq_true] at c
  obtain ⟨⟨⟨⟨⟨⟨⟨hns, hfs⟩, hlen⟩, hsl⟩, hne⟩, hbi⟩, hix⟩, hl⟩ := c
  cases xs with
  | nil => cases hne
  | cons z zs =>
    rw [ev_callIx] at h
    have hex : ∀ f ∈ fs, ∃ a fd ps k, X.mg f = some (.ref a) ∧ PySem.W.keepIn X.K (.ref a) = true ∧ Binds X.K fd ps [] ∧ FnOk X.prog X.w X.K X.mg X.base (L2.CX X.prog X.w) k a fd ps (spT X.K ca (z :: zs).length (T f)) ∧ Room k X.A := fun f hf => G.fs _ _ (hfs f hf).2
    have haf : ∃ af : Str → Addr, ∀ f ∈ fs, X.mg f = some (.ref (af f)) := by
      classical
      refine ⟨fun f => if hq : ∃ a, X.mg f = some (.ref a) then Classical.choose hq else 0, fun f hf => ?_⟩
      obtain ⟨a, _, _, _, ha, _⟩ := hex f hf
      have hq : ∃ a, X.mg f = some (.ref a) := ⟨a, ha⟩
      simp only [dif_pos hq]
      exact Classical.choose_spec hq
    obtain ⟨af, haf⟩ := haf
    have hfun : PE X (.Subscript (.List ns p1) y p2) (tOp (rIxL X.K) (tLst (EvA X ns)) (Ev X y)) := pe_ix ix_list (pe_lst (evPA X ns)) (evPE X y) (plainIx_of hsl)
    intro pins s I
    refine Call_ (thn (hfun.run pins s σ H (fun v H1 => ∃ f, f ∈ fs ∧ v = .ref (af f) ∧ EvA X (z :: zs) σ H1 fun vs H2 => spT X.K ca (z :: zs).length (T f) vs H2 Q (WE W σ)) I ?_) fun fv s1 hq => ?_)
    · -- the function
      refine pa_names (af := af) hns (fun f hf => ⟨G.glo (hfs f hf).1.1, (okName_of (hfs f hf).1.2).1, haf f hf⟩) ?_
      have hz := sizeLine_eq
      refine ⟨by rw [List.length_map]; omega, fun q hq => ?_⟩
      refine Si.goE G hix (r.mono (same_upd hq)) (h.later (same_upd hq)) fun d v H1 s1 r1 h1 => ?_
      cases d with
      | int k =>
        have hv := r1.rq.int
        cases e : atI fs k with
        | none =>
          have h1' : PostE X.K ca W .p O σ H1 (match atI fs k with | some f => (do let ds ← evL T as ρ; T f ds) | none => .bad) Q := h1
          rw [e] at h1'
          exact (show False from h1').elim
        | some f =>
          have h1' : PostE X.K ca W .p O σ H1 (match atI fs k with | some f => (do let ds ← evL T as ρ; T f ds) | none => .bad) Q := h1
          rw [e] at h1'
          have h2 : PostE X.K ca W .p O σ H1 (evL T as ρ >>= T f) Q := h1'
          have hmem : f ∈ fs := by
            unfold atI at e
            cases q : ixN fs.length k with
            | none => rw [q] at e; cases e
            | some j => rw [q] at e; exact List.mem_of_getElem? e
          have e2 : atI (fs.map fun f => V.ref (af f)) k = some (.ref (af f)) := by
            unfold atI at e ⊢
            rw [List.length_map]
            cases q : ixN fs.length k with
            | none => rw [q] at e; cases e
            | some j =>
              rw [q] at e
              have e' : fs[j]? = some f := e
              show (fs.map fun f => V.ref (af f))[j]? = _
              rw [List.getElem?_map, e']
              rfl
          refine ⟨q, _, k, _, rfl, hv, .of (s1.l upd_same), e2, f, hmem, rfl, ?_⟩
          refine S.goE G hl ((r.mono (same_upd hq)).mono s1) h2 fun ds vs H2 e3 s2 r1 r2 h3 => ?_
          exact spT_of (by rw [(r2 rfl).length, evL_len hl e3]) (((r.dom.same (same_upd hq)).same s1).same s2) (r2 rfl) h3
      | _ => exact (show False from h1).elim
    · obtain ⟨v, H1, I1, rv, f, hmem, rfl, hq⟩ := hq
      obtain rfl : fv = .ref (af f) := rv
      obtain ⟨a, fd, ps, k, hm, hkp, hb, F, hr⟩ := hex f hmem
      have ea : af f = a := by
        have := haf f hmem
        rw [hm] at this
        cases this; rfl
      rw [ea]
      refine PySem.W.callWith_K (h₀ := X.base) I.ok.mod.kin hkp (thn (hq p3 pins s1 I1) fun us s2 ⟨vs, H2, I2, r2, q2⟩ => ⟨I2.kIn, ?_⟩) (star_cons (first_star hl)) (rest_star hl)
      exact run_fnS (E := WE W) F hr hb (passAt G.tk σ) I2 r2 q2
theorem se_fnm (f : Str) : SE T ca (.fnm f) := by
  intro C X W x G c ρ O σ H r Q h
  rw [chk_fnm] at c
  split at c <;> first | (cases c; done) | skip
  rename_i n p
  simp only [Bool.and_eq_true, decide_eq_true_eq] at c
  obtain ⟨⟨⟨rfl, hg⟩, hk⟩, hf⟩ := c
  obtain ⟨m, hm⟩ := Option.isSome_iff_exists.mp hf
  obtain ⟨a, fd, ps, k, ha, _⟩ := G.fs _ _ hm
  refine ofPE (pe_glob (v := .ref a) (G.glo hg) ha rfl (okName_of hk).1) ?_
  exact h _ H (Same.refl _) (.fn ((G.fa _ _).mpr ha))
theorem fnOf_eq {d : D} {f : Str} (h : fnOf d = some f) : d = fnD f := by
  unfold fnOf at h
  split at h
  · cases h; rfl
  · cases h
theorem rp_fn {K : PySem.W.Frag} {H : Hp} {v : V} {f : Str} (h : Rp K H v (fnD f)) : ∃ a, v = .ref a ∧ MP.fa f = some a := by
  generalize hk : fnD f = dd at h
  cases h with
  | fn hm => unfold fnD at hk; cases hk; exact ⟨_, rfl, hm⟩
  | memo hm => unfold fnD memoD at hk; cases hk
  | @scr a ns hs =>
    unfold fnD scr at hk
    cases ns with
    | nil => cases hk
    | cons n ns => cases hk
  | _ => cases hk
theorem se_callv {i : Nat} {fs : List Str} {as : E} (S : SL T ca as) : SE T ca (.callv i fs as) := by
  intro C X W x G c ρ O σ H r Q h
  rw [chk_callv] at c
  split at c <;> first | (cases c; done) | skip
  rename_i n p1 xs p2
  simp only [Bool.and_eq_true, decide_eq_true_eq, Bool.not_eq_true', List.all_eq_true] at c
  obtain ⟨⟨⟨⟨⟨hi, hv⟩, hk⟩, hfs⟩, hne⟩, hl⟩ := c
  rw [ev_callv] at h
  cases ei : ρ[i]? with
  | none => rw [ei] at h; exact (show False from h).elim
  | some sl =>
    rw [ei] at h
    cases sl with
    | no => exact (show False from h).elim
    | own ds => exact (show False from h).elim
    | val d =>
      simp only at h
      cases ef : fnOf d with
      | none => rw [ef] at h; exact (show False from h).elim
      | some f =>
        rw [ef] at h
        simp only at h
        by_cases hm : f ∈ fs
        · rw [if_pos hm] at h
          have ed := fnOf_eq ef
          subst ed
          obtain ⟨u, hs, hr⟩ := r.val i _ ei
          obtain ⟨a, rfl, ha⟩ := rp_fn hr
          cases xs with
          | nil => cases hne
          | cons z zs =>
            obtain ⟨a', fd, ps, k, hmg, hkp, hb, F, hroom⟩ := G.fs _ _ (hfs f hm)
            have ea : a' = a := by
              have := (G.fa f a).mp ha
              rw [hmg] at this
              cases this; rfl
            subst ea
            have hfun : PE X (.Name n p1) (tVar i) := pe_var (i := i) (by rw [G.N]; exact hi) (G.vis hv) (okName_of hk).1 (okName_of hk).2.1
            intro pins s I
            refine Call_ (thn (hfun.run pins s σ H (fun v H1 => v = .ref a' ∧ EvA X (z :: zs) σ H1 fun vs H2 => spT X.K ca (z :: zs).length (T f) vs H2 Q (WE W σ)) I ⟨_, hs, rfl, ?_⟩) fun fv s1 hq => ?_)
            · refine S.goE G hl r h fun ds vs H2 e3 s2 r1 r2 h3 => ?_
              exact spT_of (by rw [(r2 rfl).length, evL_len hl e3]) (r.dom.same s2) (r2 rfl) h3
            · obtain ⟨v, H1, I1, rv, rfl, hq⟩ := hq
              obtain rfl : fv = .ref a' := rv
              refine PySem.W.callWith_K (h₀ := X.base) I.ok.mod.kin hkp (thn (hq p2 pins s1 I1) fun us s2 ⟨vs, H2, I2, r2, q2⟩ => ⟨I2.kIn, ?_⟩) (star_cons (first_star hl)) (rest_star hl)
              exact run_fnS (E := WE W) F hroom hb (passAt G.tk σ) I2 r2 q2
        · rw [if_neg hm] at h; exact (show False from h).elim
theorem se_bi {b : Bi} {as : E} (S : SL T ca as) : SE T ca (.bi b as) := by
  intro C X W x G c ρ O σ H r Q h
  rw [chk_bi] at c
  split at c <;> first | (cases c; done) | skip
  rename_i n p xs p2
  simp only [Bool.and_eq_true, decide_eq_true_eq, Bool.not_eq_true'] at c
  obtain ⟨⟨⟨rfl, hg⟩, hne⟩, hl⟩ := c
  cases xs with
  | nil => cases hne
  | cons y ys =>
    rw [ev_bi] at h
    have hm : X.mg b.nm = none := G.bi _ (by cases b <;> simp [Bi.nm, bnames])
    have rd : tCB (rCD X.K (biD b)) (EvA X (y :: ys)) σ H Q := by
      refine S.goE G hl r h fun ds vs H1 e s1 r1 r2 h1 => ?_
      obtain ⟨d, e2, q⟩ := h1.nx
      exact ⟨O, ds, d, r.dom.same s1, r1, e2, fun v H2 s2 rn => q v H2 s2 rn⟩
    cases b with
    | list => exact ofPE (pe_callTy (T := "list") (call_biD .list G.calm) (G.glo hg) hm (by decide +kernel) (evPA X (y :: ys)) (by decide) (by decide) (star_cons (first_star hl)) (rest_star hl)) rd
    | tuple => exact ofPE (pe_callTy (T := "tuple") (call_biD .tuple G.calm) (G.glo hg) hm (by decide +kernel) (evPA X (y :: ys)) (by decide) (by decide) (star_cons (first_star hl)) (rest_star hl)) rd
    | len => exact ofPE (pe_callB (id := "len") (call_biD .len G.calm) (G.glo hg) hm (by decide +kernel) (evPA X (y :: ys)) (by decide) (by decide) (star_cons (first_star hl)) (rest_star hl)) rd
    | all => exact ofPE (pe_callB (id := "all") (call_biD .all G.calm) (G.glo hg) hm (by decide +kernel) (evPA X (y :: ys)) (by decide) (by decide) (star_cons (first_star hl)) (rest_star hl)) rd
    | any => exact ofPE (pe_callB (id := "any") (call_biD .any G.calm) (G.glo hg) hm (by decide +kernel) (evPA X (y :: ys)) (by decide) (by decide) (star_cons (first_star hl)) (rest_star hl)) rd
    | max1 => exact ofPE (pe_callB (id := "max") (call_biD .max1 G.calm) (G.glo hg) hm (by decide +kernel) (evPA X (y :: ys)) (by decide) (by decide) (star_cons (first_star hl)) (rest_star hl)) rd
    | min1 => exact ofPE (pe_callB (id := "min") (call_biD .min1 G.calm) (G.glo hg) hm (by decide +kernel) (evPA X (y :: ys)) (by decide) (by decide) (star_cons (first_star hl)) (rest_star hl)) rd
    | max2 => exact ofPE (pe_callB (id := "max") (call_biD .max2 G.calm) (G.glo hg) hm (by decide +kernel) (evPA X (y :: ys)) (by decide) (by decide) (star_cons (first_star hl)) (rest_star hl)) rd
    | min2 => exact ofPE (pe_callB (id := "min") (call_biD .min2 G.calm) (G.glo hg) hm (by decide +kernel) (evPA X (y :: ys)) (by decide) (by decide) (star_cons (first_star hl)) (rest_star hl)) rd
    | sorted => exact ofPE (pe_callB (id := "sorted") (call_biD .sorted G.calm) (G.glo hg) hm (by decide +kernel) (evPA X (y :: ys)) (by decide) (by decide) (star_cons (first_star hl)) (rest_star hl)) rd
theorem se_isi {a : E} {t : Ty} (Sa : SE T ca a) : SE T ca (.isi a t) := by
  intro C X W x G c ρ O σ H r Q h
  rw [chk_isi] at c
  split at c <;> first | (cases c; done) | skip
  rename_i n p y m p2 p3
  simp only [Bool.and_eq_true, decide_eq_true_eq] at c
  obtain ⟨⟨⟨⟨rfl, hg⟩, rfl⟩, hg2⟩, k1⟩ := c
  rw [ev_isi] at h
  have hm : X.mg "isinstance" = none := G.bi _ (by simp [bnames])
  have hm2 : X.mg t.nm = none := G.bi _ (by cases t <;> simp [Ty.nm, bnames])
  have hty : PE X (.Name t.nm p2) (tC (.ty t.ty)) := by
    cases t <;> exact pe_bltn (v := .ty _) (G.glo hg2) hm2 (by decide +kernel) rfl (by decide) (by decide)
  refine ofPE (pe_callB (id := "isinstance") (call_isiD t) (G.glo hg) hm (by decide +kernel) (pa_cons (evPE X y) (pa_cons hty pa_nil) (star_cons (notStar_of k1))) (by decide) (by decide) (star_cons (notStar_of k1)) rfl) ?_
  refine Sa.goE G k1 r h fun d v H1 s1 r1 h1 => ?_
  have nd : ∀ kvs, d ≠ .dict kvs := fun kvs e => by subst e; exact h1
  refine ⟨O, v, d, r.dom.same s1, rfl, r1.rq, nd, ?_⟩
  cases d <;> first | exact (nd _ rfl).elim | exact h1 _ H1 (Same.refl _) (.bl _)
/-- range(..) -/
theorem rg_go {a b : E} (Sa : SE T ca a) (Sb : SE T ca b) {C : Ctx} {X : Cx} {W : WX} (G : Good C T ca X W) {xs : List Expr} {p pos : Pos} (hg : Gl X "range")
    (c : (match xs with | [y] => isNil a && chk b C y | [z, y] => !isNil a && chk a C z && chk b C y | _ => false) = true)
    {ρ : En} {O : List Addr} {σ : L2.St} {H : Hp} (r : RelE X.K ρ O σ H) {f : Int → Int → R D} {k : Kd} {Q0 : VK} {Q : Int → Int → Hp → Prop}
    (h : PostE X.K ca W k O σ H (do let l0 ← ev T a ρ; let l ← asOpt l0; let h0 ← ev T b ρ; let h ← asOpt h0; match h with | some hi => f (l.getD 0) hi | none => .bad) Q0)
    (hk : ∀ i j H1, Same H H1 → PostE X.K ca W k O σ H1 (f i j) Q0 → Q i j H1) : ∃ te, PRg X (.Call (.Name "range" p) xs [] pos) te ∧ te σ H Q := by
  have hm : X.mg "range" = none := G.bi _ (by simp [bnames])
  match xs, c with
  | [y], c =>
    simp only [Bool.and_eq_true] at c
    have e := nil_of c.1
    subst e
    refine ⟨_, prg_1 hg hm (evPE X y) (star_cons (notStar_of c.2)), ?_⟩
    rw [ev_nil] at h
    refine Sb.goE G c.2 r (f := fun h0 => do let h ← asOpt h0; match h with | some hi => f 0 hi | none => .bad) h fun d v H1 s1 r1 h1 => ?_
    cases d with
    | int j => exact ⟨j, r1.rq.int, hk 0 j H1 s1 h1⟩
    | dict kvs =>
      cases ed : asOpt (.dict kvs) with
      | ok o =>
        unfold asOpt at ed
        split at ed
        · rename_i e; cases e
        · rename_i e; rw [e] at r1; exact (no_mark r1.rq).elim
        · cases ed
      | exc c => rw [ed] at h1; unfold asOpt at ed; split at ed <;> cases ed
      | bad => rw [ed] at h1; exact (show False from h1).elim
    | _ => exact (show False from h1).elim
  | [z, y], c =>
    simp only [Bool.and_eq_true, Bool.not_eq_true'] at c
    refine ⟨_, prg_2 hg hm (evPE X z) (evPE X y) (star_cons (notStar_of c.1.2)) (star_cons (notStar_of c.2)) (by rw [star_cons (notStar_of c.2)] <;> rfl), ?_⟩
    refine Sa.goE G c.1.2 r h fun d v H1 s1 r1 h1 => ?_
    cases d with
    | int i =>
      refine Sb.goE G c.2 (r.mono s1) (f := fun h0 => do let h ← asOpt h0; match h with | some hi => f i hi | none => .bad) h1 fun d2 v2 H2 s2 r2 h2 => ?_
      cases d2 with
      | int j => exact ⟨i, j, r1.rq.int, r2.rq.int, hk i j H2 (s1.trans s2) h2⟩
      | dict kvs =>
        cases ed : asOpt (.dict kvs) with
        | ok o =>
          unfold asOpt at ed
          split at ed
          · rename_i e; cases e
          · rename_i e; rw [e] at r2; exact (no_mark r2.rq).elim
          · cases ed
        | exc c => unfold asOpt at ed; split at ed <;> cases ed
        | bad => rw [ed] at h2; exact (show False from h2).elim
      | _ => exact (show False from h2).elim
    | dict kvs =>
      cases ed : asOpt (.dict kvs) with
      | ok o =>
        unfold asOpt at ed
        split at ed
        · rename_i e; cases e
        · rename_i e; rw [e] at r1; exact (no_mark r1.rq).elim
        · cases ed
      | exc c => unfold asOpt at ed; split at ed <;> cases ed
      | bad => rw [ed] at h1; exact (show False from h1).elim
    | _ => exact (show False from h1).elim
theorem rgV_rp {K : PySem.W.Frag} {H : Hp} (lo hi : Int) : RpL K H (rgV lo hi) (rgL lo hi) := by
  unfold rgV rgL
  generalize List.range (hi - lo).toNat = l
  induction l with
  | nil => exact .nil
  | cons x xs ih => exact .cons (.int _) ih
theorem RgB.ok {lo hi : Int} (h : RgB lo hi) : RgOk lo hi := by
  have : (2 : Nat) ^ 24 = big := by decide
  obtain ⟨h1, h2, h3, h4, h5⟩ := (RgB.iff _ _).mp h
  exact ⟨by omega, by omega, by omega, by omega, by rw [this]; exact h5⟩
theorem se_lrg {a b : E} (Sa : SE T ca a) (Sb : SE T ca b) : SE T ca (.lrg a b) := by
  intro C X W x G c ρ O σ H r Q h
  rw [chk_lrg] at c
  split at c <;> first | (cases c; done) | skip
  rename_i n p rn p2 xs p3 p4
  simp only [Bool.and_eq_true, decide_eq_true_eq] at c
  obtain ⟨⟨⟨⟨rfl, hg⟩, rfl⟩, hg2⟩, k1⟩ := c
  rw [ev_lrg] at h
  have hm : X.mg "list" = none := G.bi _ (by simp [bnames])
  obtain ⟨te, hte, rd⟩ := rg_go Sa Sb G (p := p2) (pos := p3) (G.glo hg2) k1 r (f := fun lo hi => if RgB lo hi then .ok (.list (rgL lo hi)) else .bad) h
    (Q := fun i j H1 => RgOk i j ∧ ∀ q, H1 q = none → Q (.ref q) (upd H1 q (.lst (rgV i j)))) fun i j H1 s1 h1 => by
      by_cases hb : RgB i j
      · simp only [if_pos hb] at h1
        exact ⟨hb.ok, fun q hq => h1 _ _ (same_upd hq) ((new_at hq (rgV_rp i j)).rn (r.dom.same s1))⟩
      · simp only [if_neg hb] at h1
        exact h1.elim
  exact ofPE (pe_listRg G.calm (G.glo hg) hm hte) rd
theorem se_trg {a b : E} (Sa : SE T ca a) (Sb : SE T ca b) : SE T ca (.trg a b) := by
  intro C X W x G c ρ O σ H r Q h
  rw [chk_trg] at c
  split at c <;> first | (cases c; done) | skip
  rename_i n p rn p2 xs p3 p4
  simp only [Bool.and_eq_true, decide_eq_true_eq] at c
  obtain ⟨⟨⟨⟨rfl, hg⟩, rfl⟩, hg2⟩, k1⟩ := c
  rw [ev_trg] at h
  have hm : X.mg "tuple" = none := G.bi _ (by simp [bnames])
  obtain ⟨te, hte, rd⟩ := rg_go Sa Sb G (p := p2) (pos := p3) (G.glo hg2) k1 r (f := fun lo hi => if RgB lo hi then .ok (.tuple (rgL lo hi)) else .bad) h
    (Q := fun i j H1 => RgOk i j ∧ NT H1 (rgV i j) Q) fun i j H1 s1 h1 => by
      by_cases hb : RgB i j
      · simp only [if_pos hb] at h1
        exact ⟨hb.ok, fun q o hq ho => h1 _ _ (same_upd hq) (tup_at (r.dom.same s1) hq ho (rgV_rp i j))⟩
      · simp only [if_neg hb] at h1
        exact h1.elim
  exact ofPE (pe_tupRgF G.calm (G.glo hg) hm hte) rd
/-! ### xs.index(y), t.index(y) -/
theorem findIdx_at {α : Type} {p : α → Bool} : ∀ {l : List α} {j : Nat}, l.findIdx? p = some j → ∃ z, l[j]? = some z ∧ p z = true ∧ ∀ (m : Nat) z', m < j → l[m]? = some z' → p z' = false := by
  intro l j h
  rw [List.findIdx?_eq_some_iff_getElem] at h
  obtain ⟨hj, h1, h2⟩ := h
  refine ⟨l[j], List.getElem?_eq_getElem hj, h1, fun m z' hm hz => ?_⟩
  have := h2 m hm
  have hml : m < l.length := Nat.lt_trans hm hj
  rw [List.getElem?_eq_getElem hml] at hz
  cases hz
  simpa using this
theorem indexD_inv {x y j : D} (h : indexD x y = .ok j) : (∃ (ds : List D) (k : Nat), x = .list ds ∧ j = .int k ∧ SeqAt.shaped y = true ∧ SeqAt.shaped (.list ds) = true ∧ ds.findIdx? (fun z => PyData.eqv z y) = some k) ∨
    (∃ (ds : List D) (k : Nat), x = .tuple ds ∧ j = .int k ∧ flatD y = true ∧ ds.all flatD = true ∧ ds.findIdx? (fun z => PyData.eqv z y) = some k) := by
  unfold indexD at h
  split at h
  · split at h
    · rename_i c
      rw [Bool.and_eq_true] at c
      split at h
      · rename_i k e
        cases h
        exact .inl ⟨_, k, rfl, rfl, c.1, c.2, e⟩
      · cases h
    · cases h
  · split at h
    · rename_i c
      rw [Bool.and_eq_true] at c
      split at h
      · rename_i k e
        cases h
        exact .inr ⟨_, k, rfl, rfl, c.1, c.2, e⟩
      · cases h
    · cases h
  · cases h
theorem tup_index {X : Cx} {pins : List (Addr × Obj)} {s : Shared} {σ : L2.St} {H : Hp} {a : Addr} {o : Obj} {vs : List V} {ds : List D} {w : V} {u : Value} {y : D} {j : Nat} {O : List Addr} {Q : VK} (I : L2.Inv X pins σ H s)
    (ha : H a = some (.frz o (.tup vs))) (ra : RpL X.K (Fz H O) vs ds) (rw' : L2.RelV w u) (ry : Rp X.K (Fz H O) w y) (fy : flatD y = true) (fd : ds.all flatD = true) (hj : ds.findIdx? (fun z => PyData.eqv z y) = some j) (q : Q (.int (j : Nat)) H) :
    wpAny (model X.prog X.w) X.A (call (.builtin "tuple.index") [.ref a, u]) (EP X pins σ Q) X.xe s := by
  obtain ⟨its, r, pl, hz⟩ := I.tuple (SqT.fr ha)
  obtain ⟨⟨cls, dd, dt, sl⟩, ho, hc, n, hd⟩ := pl
  simp only at hc hd
  subst hc
  subst hd
  obtain ⟨z, e1, e2, e3⟩ := findIdx_at hj
  have hl : its.toArray.size = ds.length := by rw [List.size_toArray, ← r.length, ra.length]
  have hjl : j < its.toArray.size := by rw [hl]; exact (List.getElem?_eq_some_iff.mp e1).1
  have fv := flat_rp ry fy
  have fvs := all_flat ra fd
  have at' : ∀ (m : Nat) (hm : m < its.toArray.size) (z' : D), ds[m]? = some z' → eqU w its.toArray[m] = PyData.eqv z' y := fun m hm z' hz' => by
    obtain ⟨x, hx, rx⟩ := ra.get hz'
    obtain ⟨u', hu', ru⟩ := r.get hx
    have e : its.toArray[m] = u' := by
      have := (List.getElem?_eq_some_iff.mp hu').2
      rw [← this]
      simp
    have fz : flatD z' = true := List.all_eq_true.mp fd z' (List.mem_of_getElem? hz')
    rw [e, eqU_of ru (flat_rp rx fz), eq_rp rx ry fz fy]
  refine call_meets PySem.F.slot_tuple_index ⟨_, ho, rfl⟩ PySem.F.entry_tuple_index (PySem.F.args_tuple_index_2 _ _) (TI.tuple_indexAt a its.toArray n dd sl u (eqU w) j hjl ?_ ?_)
    ⟨ho, fun v hv => mem_eqAt rw' fv r fvs v (by simpa using hv), ⟨.int (j : Nat), H, I.tok _, ⟨_, rfl⟩, q⟩⟩
  · rw [at' j hjl z e1]; exact e2
  · intro m hm hmj
    have hmd : m < ds.length := by rw [← hl]; exact hm
    rw [at' m hm _ (List.getElem?_eq_getElem hmd)]
    exact e3 m _ hmj (List.getElem?_eq_getElem hmd)
theorem se_index {a b : E} (Sa : SE T ca a) (Sb : SE T ca b) : SE T ca (.index a b) := by
  intro C X W x G c ρ O σ H r Q h
  rw [chk_index] at c
  split at c <;> first | (cases c; done) | skip
  rename_i y m ap z cp
  simp only [Bool.and_eq_true, decide_eq_true_eq] at c
  obtain ⟨⟨⟨⟨rfl, hln⟩, hpl⟩, k1⟩, k2⟩ := c
  rw [ev_index] at h
  have hst : starEach [z] X.env = (false, eval z X.env) :: starEach [] X.env := star_cons (notStar_of k2)
  intro pins s I
  refine wpAny_Call_method_late (base_of hpl _ _) (by rw [hst] <;> rfl) (by rw [hln]; exact beq_self_eq_true _) rfl ?_
  have go : Ev X y σ H fun v H1 => ∃ dx, Rq X.K H1 O v dx ∧ Dom H1 O ∧ isSeqD dx = true ∧ Ev X z σ H1 fun w H2 => ∃ dy j, Same H1 H2 ∧ Rq X.K H2 O w dy ∧ indexD dx dy = .ok j ∧ ∀ v H', Same H2 H' → Rp X.K (Fz H' O) v j → Q v H' := by
    refine Sa.goE G k1 r h fun dx v H1 s1 r1 h1 => ?_
    cases hsq : isSeqD dx with
    | false => simp only [hsq] at h1; exact (show False from h1).elim
    | true =>
    simp only [hsq, if_true] at h1
    refine ⟨dx, r1.rq, r.dom.same s1, hsq, ?_⟩
    refine Sb.goE G k2 (r.mono s1) h1 fun dy w H2 s2 r2 h2 => ?_
    obtain ⟨j, e, q⟩ := h2.nx
    exact ⟨dy, j, s2, r2.rq, e, q⟩
  refine thn (go pins s I) fun ov s1 ⟨v, H1, I1, r1, dx, hx, dm, hsq, hz⟩ => ?_
  have args : wpAny (model X.prog X.w) X.A (spliced (backTo cp (starEach [z] X.env))) (fun us s2 => ∃ w u H2, us = [u] ∧ L2.Inv X pins σ H2 s2 ∧ L2.RelV w u ∧ ∃ dy j, Same H1 H2 ∧ Rq X.K H2 O w dy ∧ indexD dx dy = .ok j ∧ ∀ v H', Same H2 H' → Rp X.K (Fz H' O) v j → Q v H') X.xe s1 := by
    rw [hst]
    show wpAny _ _ (spliced ((false, eval z X.env) :: backTo cp (starEach [] X.env))) _ _ s1
    refine Calls.spliced_cons (thn (hz pins s1 I1) fun u s2 ⟨w, H2, I2, rw', q⟩ => ?_)
    exact Calls.spliced_nil ⟨w, u, H2, rfl, I2, rw', q⟩
  have isq : (∃ ds, dx = .list ds) ∨ (∃ ds, dx = .tuple ds) := by
    cases dx <;> first | (simp [isSeqD] at hsq; done) | simp
  rw [hst] at args ⊢
  rcases isq with ⟨ds, rfl⟩ | ⟨ds, rfl⟩
  · obtain ⟨a', vs, rfl, ha, ra⟩ := hx.lst
    cases r1
    obtain ⟨its, rv, ⟨ob, nn, e1, e2, e3, e4⟩, _⟩ := I1.list (.of ha)
    refine ⟨"list", "list.index", PySem.F.plainAttrs_list, PySem.F.slot_list_index, PySem.F.type_list_index, ⟨ob, e1, e2⟩, fun a'' e => by cases e; exact ⟨ob, e1, e3⟩, ?_⟩
    refine Calls.callWith_builtin rfl (Calls.evalArgs_plain (thn args fun us s2 ⟨w, u, H2, eu, I2, rw', dy, j, s2', hy, ej, q⟩ => ?_))
    subst eu
    rcases indexD_inv ej with ⟨ds', k, e, rfl, sh1, sh2, hf⟩ | ⟨ds', k, e, _⟩
    · cases e
      obtain ⟨zz, f1, f2, f3⟩ := findIdx_at hf
      have hx2 : Rq X.K H2 O (.ref a') (.list ds) := Rq.mono s2' hx
      exact mt_indexD (by have := G.un; omega) pins s2 σ H2 (.ref a') [w] (.ref a') [u] Q I2 rfl (.cons rw' .nil)
        ⟨a', w, dy, ds, k, zz, rfl, rfl, hx2.dp (SeqAt.canLay_of_shaped sh2), hy.dp (SeqAt.canLay_of_shaped sh1), sh2, sh1, f1, f2, f3, q _ H2 (Same.refl _) (.int _)⟩
    · cases e
  · obtain ⟨a', o, vs, rfl, ha, hod, ra⟩ := hx.tup
    cases r1
    have ho : s1.heap.get? a' = some o := (show ObjOk X.prog X.w H1 s1.heap a' (.frz o (.tup vs)) from I1.hok _ _ ha).1
    obtain ⟨its, rv, pl, _⟩ := I1.tuple (SqT.fr ha)
    refine ⟨"tuple", "tuple.index", PySem.F.plainAttrs_tuple, PySem.F.slot_tuple_index, PySem.F.type_tuple_index, pl.typeIs, fun a'' e => by cases e; exact ⟨o, ho, hod⟩, ?_⟩
    refine Calls.callWith_builtin rfl (Calls.evalArgs_plain (thn args fun us s2 ⟨w, u, H2, eu, I2, rw', dy, j, s2', hy, ej, q⟩ => ?_))
    subst eu
    rcases indexD_inv ej with ⟨ds', k, e, _⟩ | ⟨ds', k, e, rfl, sh1, sh2, hf⟩
    · cases e
    · cases e
      rcases hy with hy | ⟨_, _, _, _, z, _⟩
      · exact tup_index I2 (s2'.f ha) (ra.mono (Fz.same s2')) rw' hy sh1 sh2 hf (q _ H2 (Same.refl _) (.int _))
      · subst z; simp [flatD] at sh1
end
end Pi

set_option Elab.async false
set_option linter.all false
set_option maxRecDepth 100000
set_option maxHeartbeats 4000000
/-! Pi12: targets, what is walked, comprehensions. -/
namespace Pi
open PySem PySem.Spec PyProof.Rows L2
variable [MP]

/-! ### slots forgotten -/
theorem wipe_in {σ : L2.St} {i : Nat} : ∀ {vs : List Nat}, i ∈ vs → i < σ.length → (wipe σ vs)[i]? = some none
  | v :: vs, h, hl => by
    unfold wipe
    by_cases e : v = i
    · subst e
      exact List.getElem?_set_self (by rw [wipe_length]; exact hl)
    · rw [List.getElem?_set_ne e]
      rcases List.mem_cons.mp h with h | h
      · exact (e h.symm).elim
      · exact wipe_in h hl
theorem wipe_ext {σ τ : L2.St} {vs : List Nat} (hl : σ.length = τ.length) (h : ∀ i, i ∉ vs → σ[i]? = τ[i]?) : wipe σ vs = wipe τ vs := by
  apply List.ext_getElem?
  intro i
  by_cases hi : i ∈ vs
  · by_cases hb : i < σ.length
    · rw [wipe_in hi hb, wipe_in hi (by rw [← hl]; exact hb)]
    · rw [List.getElem?_eq_none (by rw [wipe_length]; omega), List.getElem?_eq_none (by rw [wipe_length]; omega)]
  · rw [wipe_out hi, wipe_out hi, h i hi]
theorem wipe_set {σ : L2.St} {vs : List Nat} {i : Nat} (x : Option V) (h : i ∈ vs) : wipe (σ.set i x) vs = wipe σ vs :=
  wipe_ext (by rw [List.length_set]) fun j hj => List.getElem?_set_ne (fun e => hj (by rw [← e]; exact h))
theorem wipe_wipe (σ : L2.St) (vs : List Nat) : wipe (wipe σ vs) vs = wipe σ vs :=
  wipe_ext (wipe_length _ _) fun j hj => wipe_out hj

/-! ### targets -/
def gAll : List Nat → TGs
  | [] => gNil
  | i :: is => gCons (gName i) (gAll is)
def gT (K : PySem.W.Frag) : Tg → TG
  | .nm i => gName i
  | .tp is => gTup K is.length (gAll is)
section
variable {T : Str → List D → R D} {ca : Nat → Addr} {C : Ctx} {X : Cx} {W : WX}
theorem pgs_of (G : Good C T ca X W) : ∀ {is : List Nat} {es : List Expr}, chkNs C is es = true → PGs X es (gAll is) ∧ (assignEach es X.env).length = is.length ∧ (assignEach es X.env).findIdx? (·.1) = none
  | [], [], _ => ⟨pgs_nil, rfl, rfl⟩
  | [], _ :: _, h => by cases h
  | _ :: _, [], h => by cases h
  | i :: is, e :: es, h => by
    cases e <;> first | (cases h; done) | skip
    rename_i x p
    simp only [chkNs, Bool.and_eq_true, decide_eq_true_eq] at h
    obtain ⟨⟨hN, hl⟩, hr⟩ := h
    obtain ⟨h1, h2, h3⟩ := pgs_of G hr
    obtain ⟨l1, l2⟩ := G.loc hl
    refine ⟨pgs_cons (pg_name (i := i) (by rw [G.N]; exact G.nd) (by rw [G.N]; exact hN) l1 l2) h1, ?_, ?_⟩
    · show (assignEach es X.env).length + 1 = is.length + 1
      rw [h2]
    · show List.findIdx? (·.1) ((false, assign (.Name x p) X.env) :: assignEach es X.env) = none
      rw [List.findIdx?_cons, h3]
      rfl
theorem pg_of (G : Good C T ca X W) {t : Tg} {e : Expr} (h : chkTg C t e = true) : PG X e (gT X.K t) := by
  cases t with
  | nm i =>
    cases e <;> first | (cases h; done) | skip
    simp only [chkTg, Bool.and_eq_true, decide_eq_true_eq] at h
    obtain ⟨l1, l2⟩ := G.loc h.2
    exact pg_name (i := i) (by rw [G.N]; exact G.nd) (by rw [G.N]; exact h.1) l1 l2
  | tp is =>
    cases e <;> first | (cases h; done) | skip
    obtain ⟨h1, h2, h3⟩ := pgs_of G (show chkNs C is _ = true from h)
    exact pg_tup G.calm h1 h2 h3
end
/-- an item that a target takes -/
def Tk (K : PySem.W.Frag) (H : Hp) (O : List Addr) (t : Tg) (x : V) (d : D) : Prop :=
  Rp K (Fz H O) x d ∨ (isTp t = true ∧ ∃ a xs ds, x = .ref a ∧ d = .tuple ds ∧ SqT K H a xs ∧ RpL K (Fz H O) xs ds)
theorem gAll_run {K : PySem.W.Frag} {O : List Addr} {H : Hp} : ∀ {is : List Nat} {xs : List V} {ds : List D} {ρ : En} {σ : L2.St} {Q : L2.St → Hp → Prop}, is.length = ds.length → RpL K (Fz H O) xs ds →
    (∀ σ', (∀ H'' O'', RelE K ρ O'' σ H'' → Same (Fz H O) (Fz H'' O'') → RelE K (setAll is ds ρ) O'' σ' H'') → (∀ vs : List Nat, (∀ i ∈ is, i ∈ vs) → wipe σ' vs = wipe σ vs) → Q σ' H) → gAll is xs σ H Q
  | [], _, _, ρ, σ, Q, hl, .nil, q => ⟨rfl, q σ (fun _ _ r _ => r) fun _ _ => rfl⟩
  | [], _, _, ρ, σ, Q, hl, .cons _ _, q => by cases hl
  | i :: is, _, _, ρ, σ, Q, hl, .nil, q => by cases hl
  | i :: is, v :: vs, d :: ds, ρ, σ, Q, hl, .cons h t, q => by
    refine ⟨v, vs, rfl, ?_⟩
    refine gAll_run (is := is) (ρ := ρ.set i (.val d)) (by simpa using hl) t fun σ' r' hw => q σ' (fun H'' O'' r s => r' H'' O'' (r.set (i := i) (h.mono s)) s) fun ws hin => ?_
    rw [hw ws fun j hj => hin j (List.mem_cons_of_mem _ hj), wipe_set _ (hin i List.mem_cons_self)]
theorem gT_run {K : PySem.W.Frag} {O : List Addr} {H : Hp} {t : Tg} {x : V} {d : D} {ρ ρ' : En} {σ : L2.St} {Q : L2.St → Hp → Prop} (hs : setT t d ρ = .ok ρ') (h : Tk K H O t x d)
    (q : ∀ σ', (∀ H'' O'', RelE K ρ O'' σ H'' → Same (Fz H O) (Fz H'' O'') → RelE K ρ' O'' σ' H'') → (∀ vs, tgIn vs t = true → wipe σ' vs = wipe σ vs) → Q σ' H) : gT K t x σ H Q := by
  cases t with
  | nm i =>
    cases hs
    rcases h with h | ⟨z, _⟩
    · exact q _ (fun H'' O'' r s => r.set (h.mono s)) fun vs hv => wipe_set _ (of_decide_eq_true hv)
    · cases z
  | tp is =>
    unfold setT at hs
    split at hs
    · rename_i e; cases e
    · rename_i is' ds e
      cases e
      split at hs
      · rename_i hl
        cases hs
        have hu : ∃ a xs, x = .ref a ∧ SqT K H a xs ∧ RpL K (Fz H O) xs ds := by
          rcases h with h | ⟨_, a, xs, ds', e1, e2, h1, h2⟩
          · cases h with
            | tup h1 h2 h3 => exact ⟨_, _, rfl, SqT.fr ((Fz.of h1).1), h3⟩
          · cases e2; exact ⟨a, xs, e1, h1, h2⟩
        obtain ⟨a, xs, e1, h1, h2⟩ := hu
        refine ⟨a, xs, e1, h1, by rw [h2.length, hl], ?_⟩
        exact gAll_run hl h2 fun σ' r' hw => q σ' r' fun vs hv => hw vs fun i hi => by
          have := List.all_eq_true.mp hv i hi
          exact of_decide_eq_true this
      · cases hs
    · cases hs
/-- an item of a walk goes to its target -/
theorem Itm.take {K : PySem.W.Frag} {F : Hp} {pr : Bool} {H : Hp} {O : List Addr} {x : V} {H' : Hp} {d : D} {t : Tg} (h : Itm K F pr H x H' d) (hp : (!pr || isTp t) = true) (s : Same F (Fz H O)) (dm : Dom H O) : Same H H' ∧ Tk K H' O t x d := by
  cases pr with
  | false =>
    obtain ⟨rfl, h⟩ := h
    exact ⟨Same.refl _, .inl (h.mono s)⟩
  | true =>
    obtain ⟨a, x1, x2, d1, d2, rfl, hn, rfl, rfl, h1, h2⟩ := h
    have st : Same H (upd H a (.tup [x1, x2])) := same_upd hn
    refine ⟨st, .inr ⟨by simpa using hp, a, [x1, x2], [d1, d2], rfl, rfl, .of upd_same, .cons ((h1.mono s).mono (Fz.same st)) (.cons ((h2.mono s).mono (Fz.same st)) .nil)⟩⟩

/-! ### what is walked -/
theorem Ev.str {X : Cx} {e : Expr} {σ : L2.St} {H : Hp} {Q : VK} (h : Ev X e σ H fun v H' => (∃ pins s, L2.Inv X pins σ H' s) → Q v H') : Ev X e σ H Q := fun pins s I =>
  thn (h pins s I) fun u s' ⟨v, H', I', r, q⟩ => ⟨v, H', I', r, q ⟨pins, s', I'⟩⟩
theorem EvA.str {X : Cx} {es : List Expr} {σ : L2.St} {H : Hp} {Q : List V → Hp → Prop} (h : EvA X es σ H fun v H' => (∃ pins s, L2.Inv X pins σ H' s) → Q v H') : EvA X es σ H Q := fun pos pins s I =>
  thn (h pos pins s I) fun u s' ⟨v, H', I', r, q⟩ => ⟨v, H', I', r, q ⟨pins, s', I'⟩⟩
theorem len_list {X : Cx} {σ : L2.St} {H : Hp} {a : Addr} {xs : List V} (h : ∃ pins s, L2.Inv X pins σ H s) (hl : SqL X.K H a xs) : xs.length ≤ sizeLine := by
  obtain ⟨_, _, I⟩ := h
  obtain ⟨_, _, _, hz⟩ := I.list hl
  exact hz
theorem len_tup {X : Cx} {σ : L2.St} {H : Hp} {a : Addr} {xs : List V} (h : ∃ pins s, L2.Inv X pins σ H s) (hl : SqT X.K H a xs) : xs.length ≤ sizeLine := by
  obtain ⟨_, _, I⟩ := h
  obtain ⟨_, _, _, hz⟩ := I.tuple hl
  exact hz
section
variable {K : PySem.W.Frag} {O : List Addr} {H : Hp}
/-- where the list stands -/
theorem Rq.stands {cl : Bool} {v : V} {ds : List D} (h : Rq K H O v (.list ds)) (hc : cl = true → Rp K (Fz H O) v (.list ds)) : ∃ a vs, v = .ref a ∧ SqL K H a vs ∧ RpL K (Fz H O) vs ds ∧
    ∀ H', ((cl = true ∧ ∃ O', Same (Fz H O) (Fz H' O')) ∨ Same H H') → SqL K H' a vs := by
  obtain ⟨a, vs, rfl, ha, ra⟩ := h.lst
  refine ⟨a, vs, rfl, .of ha, ra, fun H' hh => ?_⟩
  rcases hh with ⟨e, O', s⟩ | s
  · have h' := hc e
    generalize hd : PyData.list ds = dd at h'
    cases h' with
    | lst h1 h2 =>
      have e1 := (Fz.of h1).1
      rw [ha] at e1
      cases e1
      exact .of (Fz.of (s.l h1)).1
    | _ => cases hd
  · exact .of (s.l ha)
theorem Rq.standsT {cl : Bool} {v : V} {ds : List D} (h : Rq K H O v (.tuple ds)) : ∃ a vs, v = .ref a ∧ SqT K H a vs ∧ RpL K (Fz H O) vs ds ∧
    ∀ H', ((cl = true ∧ ∃ O', Same (Fz H O) (Fz H' O')) ∨ Same H H') → SqT K H' a vs := by
  rcases h with h | ⟨_, _, _, _, z, _⟩
  · cases h with
    | tup h1 h2 h3 =>
      refine ⟨_, _, rfl, SqT.fr ((Fz.of h1).1), h3, fun H' hh => ?_⟩
      rcases hh with ⟨_, O', s⟩ | s
      · exact SqT.fr (Fz.of (s.f h1)).1
      · exact SqT.fr (s.f ((Fz.of h1).1))
  · cases z
theorem walk_zipT {a b : Addr} {xs ys : List V} {n : Nat} (hn : n = min xs.length ys.length) : Walk (RZ.ItzT K a b) n (fun H => SqT K H a xs ∧ SqT K H b ys) (YPair (fun i => xs[i]?) (fun i => ys[i]?)) := by
  refine ⟨fun i H hi h => ⟨xs, ys, xs[i]'(by omega), ys[i]'(by omega), h.1, h.2, by simp, by simp⟩, fun H h => ⟨xs, ys, h.1, h.2, by omega⟩, fun i H x H' hi h y => ?_⟩
  obtain ⟨T, x, y, e1, e2, e3, e4, e5⟩ := y
  exact ⟨T, x, y, e1, e2, e3, e4 xs h.1, e5 ys h.2⟩
theorem pairUp_len : ∀ (k : Nat) (ds : List D), (pairUp k ds).length = ds.length
  | _, [] => rfl
  | k, d :: ds => by rw [pairUp, List.length_cons, List.length_cons, pairUp_len (k + 1) ds]
theorem pairUp_get : ∀ {k i : Nat} {ds : List D} {d : D}, ds[i]? = some d → (pairUp k ds)[i]? = some (.tuple [.int ((k + i : Nat)), d])
  | _, _, [], _, h => by simp at h
  | k, 0, e :: ds, d, h => by simp at h; subst h; rfl
  | k, i + 1, e :: ds, d, h => by
    have := pairUp_get (k := k + 1) (i := i) (ds := ds) (d := d) (by simpa using h)
    rw [show k + (i + 1) = k + 1 + i by omega]
    simpa [pairUp] using this
theorem zipUp_len : ∀ (as bs : List D), (zipUp as bs).length = min as.length bs.length
  | [], bs => by simp [zipUp]
  | a :: as, [] => by simp [zipUp]
  | a :: as, b :: bs => by rw [zipUp, List.length_cons, zipUp_len as bs, List.length_cons, List.length_cons]; omega
theorem zipUp_get : ∀ {i : Nat} {as bs : List D} {a b : D}, as[i]? = some a → bs[i]? = some b → (zipUp as bs)[i]? = some (.tuple [a, b])
  | _, [], _, _, _, h, _ => by simp at h
  | _, _ :: _, [], _, _, _, h => by simp at h
  | 0, a :: as, b :: bs, _, _, h, h' => by simp at h h'; subst h h'; rfl
  | i + 1, a :: as, b :: bs, _, _, h, h' => by
    have := zipUp_get (i := i) (as := as) (bs := bs) (by simpa using h) (by simpa using h')
    simpa [zipUp] using this
end
end Pi

set_option Elab.async false
set_option linter.all false
set_option maxRecDepth 100000
set_option maxHeartbeats 4000000
/-! Pi13: walks and comprehensions. -/
namespace Pi
open PySem PySem.Spec PyProof.Rows L2
variable [MP]
section
variable {T : Str → List D → R D} {ca : Nat → Addr}

theorem nx_seq {W : WX} {K : PySem.W.Frag} {cl pr : Bool} {O : List Addr} {σ : L2.St} {H : Hp} {d : D} {f : List D → R (List D)} {Q : It → Hp → Prop} (h : PostI K ca W cl pr O σ H (nx (seqOf d) >>= f) Q) :
    (∃ ds, d = .list ds ∧ PostI K ca W cl pr O σ H (f ds) Q) ∨ ∃ ds, d = .tuple ds ∧ PostI K ca W cl pr O σ H (f ds) Q := by
  cases d with
  | list ds => exact .inl ⟨ds, rfl, h⟩
  | tuple ds => exact .inr ⟨ds, rfl, h⟩
  | _ => exact (show False from h).elim
theorem si_iter {a : E} (Sa : SE T ca a) : SI T ca (.iter a) := by
  intro C X W tg x G c _ ρ O σ H r Q h
  rw [chkI_iter] at c
  rw [evI_iter] at h
  have cl : ∀ {d : D} {v : V} {H1 : Hp}, Res (kd a) X.K H H1 O v d → clean (.iter a) = true → Rp X.K (Fz H1 O) v d := fun rr e => rr.rp (kd_ne (by simpa [clean] using e))
  cases e : ev T a ρ with
  | ok d =>
    have h' : PostI X.K ca W (clean (.iter a)) false O σ H (nx (seqOf d) >>= fun ds => .ok ds) Q := by
      rw [e] at h
      cases d <;> exact h
    rcases nx_seq h' with ⟨ds, rfl, hq⟩ | ⟨ds, rfl, hq⟩
    · refine ofPI (pi_list (evPE X x)) (Ev.str ?_)
      refine Sa C X W x G c ρ O σ H r _ ?_
      rw [e]
      intro v H1 s1 r1 hI
      obtain ⟨b, vs, rfl, hs, rb, hst⟩ := Rq.stands (cl := clean (.iter a)) r1.rq (fun z => cl r1 z)
      refine ⟨b, rfl, ⟨vs, hs⟩, hq _ H1 s1 ⟨by rw [← rb.length]; exact len_list hI hs, fun H' => SqL X.K H' b vs, YAt vs, by rw [← rb.length]; exact walk_list, hst, ?_⟩⟩
      rintro i H2 y H3 hi ⟨rfl, hy⟩
      obtain ⟨d, h1, h2⟩ := rb.get' hy
      exact ⟨d, h1, rfl, h2⟩
    · refine ofPI (pi_tup (evPE X x)) (Ev.str ?_)
      refine Sa C X W x G c ρ O σ H r _ ?_
      rw [e]
      intro v H1 s1 r1 hI
      obtain ⟨b, vs, rfl, hs, rb, hst⟩ := Rq.standsT (cl := clean (.iter a)) r1.rq
      refine ⟨b, rfl, ⟨vs, hs⟩, hq _ H1 s1 ⟨by rw [← rb.length]; exact len_tup hI hs, fun H' => SqT X.K H' b vs, YAt vs, by rw [← rb.length]; exact walk_tup, hst, ?_⟩⟩
      rintro i H2 y H3 hi ⟨rfl, hy⟩
      obtain ⟨d, h1, h2⟩ := rb.get' hy
      exact ⟨d, h1, rfl, h2⟩
  | exc c' =>
    rw [e] at h
    refine ofPI (pi_list (evPE X x)) ?_
    refine Sa C X W x G c ρ O σ H r _ ?_
    rw [e]
    exact h
  | bad => rw [e] at h; exact (show False from h).elim
theorem si_enum {a : E} (Sa : SE T ca a) : SI T ca (.enum a) := by
  intro C X W tg x G c ht ρ O σ H r Q h
  obtain ⟨es, kk, tp, rfl⟩ := ht rfl
  rw [chkI_enum] at c
  split at c <;> first | (cases c; done) | skip
  rename_i n p y p2
  simp only [Bool.and_eq_true, decide_eq_true_eq] at c
  obtain ⟨⟨rfl, hg⟩, k1⟩ := c
  rw [evI_enum] at h
  have hm : X.mg "enumerate" = none := G.bi _ (by simp [bnames])
  have hst : starEach [y] X.env = [(false, eval y X.env)] := star_cons (notStar_of k1)
  have cl : ∀ {d : D} {v : V} {H1 : Hp}, Res (kd a) X.K H H1 O v d → clean (.enum a) = true → Rp X.K (Fz H1 O) v d := fun rr e => rr.rp (kd_ne (by simpa [clean] using e))
  cases e : ev T a ρ with
  | ok d =>
    rw [e] at h
    rcases nx_seq h with ⟨ds, rfl, hq⟩ | ⟨ds, rfl, hq⟩
    · refine ofPI (pi_enum (G.glo hg) hm (pa_cons (evPE X y) pa_nil hst) hst) (Ev.str ?_)
      refine Sa C X W y G k1 ρ O σ H r _ ?_
      rw [e]
      intro v H1 s1 r1 hI
      obtain ⟨b, vs, rfl, hs, rb, hstd⟩ := Rq.stands (cl := clean (.enum a)) r1.rq (fun z => cl r1 z)
      refine ⟨b, vs, rfl, hs, hq _ H1 s1 ⟨by rw [pairUp_len, ← rb.length]; exact len_list hI hs, fun H' => SqL X.K H' b vs, _, by rw [pairUp_len, ← rb.length]; exact walk_enum, hstd, ?_⟩⟩
      rintro i H2 z H3 hi ⟨t, x1, x2, rfl, hn, rfl, e1, e2⟩
      cases e1
      obtain ⟨d, h1, h2⟩ := rb.get' e2
      have := pairUp_get (k := 0) h1
      rw [Nat.zero_add] at this
      exact ⟨_, this, t, _, x2, _, d, rfl, hn, rfl, rfl, .int _, h2⟩
    · refine ofPI (pi_enumT (G.glo hg) hm (pa_cons (evPE X y) pa_nil hst) hst) (Ev.str ?_)
      refine Sa C X W y G k1 ρ O σ H r _ ?_
      rw [e]
      intro v H1 s1 r1 hI
      obtain ⟨b, vs, rfl, hs, rb, hstd⟩ := Rq.standsT (cl := clean (.enum a)) r1.rq
      refine ⟨b, vs, rfl, hs, hq _ H1 s1 ⟨by rw [pairUp_len, ← rb.length]; exact len_tup hI hs, fun H' => SqT X.K H' b vs, _, by rw [pairUp_len, ← rb.length]; exact walk_enumT, hstd, ?_⟩⟩
      rintro i H2 z H3 hi ⟨t, x1, x2, rfl, hn, rfl, e1, e2⟩
      cases e1
      obtain ⟨d, h1, h2⟩ := rb.get' e2
      have := pairUp_get (k := 0) h1
      rw [Nat.zero_add] at this
      exact ⟨_, this, t, _, x2, _, d, rfl, hn, rfl, rfl, .int _, h2⟩
  | exc c' =>
    rw [e] at h
    refine ofPI (pi_enum (G.glo hg) hm (pa_cons (evPE X y) pa_nil hst) hst) ?_
    refine Sa C X W y G k1 ρ O σ H r _ ?_
    rw [e]
    exact h
  | bad => rw [e] at h; exact (show False from h).elim
theorem asOpt_real {K : PySem.W.Frag} {H : Hp} {O : List Addr} {v : V} {d : D} (h : Rq K H O v d) : (∃ i, d = .int i) ∨ asOpt d = .bad := by
  cases e : asOpt d with
  | ok o =>
    unfold asOpt at e
    split at e
    · exact .inl ⟨_, rfl⟩
    · exact (no_mark h).elim
    · cases e
  | exc c => unfold asOpt at e; split at e <;> cases e
  | bad => exact .inr rfl
theorem rgL_len (lo hi : Int) : (rgL lo hi).length = (hi - lo).toNat := by unfold rgL; rw [List.length_map, List.length_range]
theorem rgL_get {lo hi : Int} {i : Nat} (h : i < (rgL lo hi).length) : (rgL lo hi)[i]? = some (.int (lo + (i : Nat))) := by
  rw [rgL_len] at h
  unfold rgL
  rw [List.getElem?_map, List.getElem?_range h]
  rfl
theorem walk_rg {K : PySem.W.Frag} {O : List Addr} {H1 : Hp} {lo hi : Int} {cl : Bool} (hb : RgB lo hi) : WalkD K (Itr lo (hi - lo).toNat) cl false O H1 (rgL lo hi) := by
  have hz := sizeLine_eq
  have h5 : (hi - lo).toNat ≤ 16777216 := ((RgB.iff _ _).mp hb).2.2.2.2
  refine ⟨by rw [rgL_len]; omega, fun _ => True, _, by rw [rgL_len]; exact walk_range, fun _ _ => trivial, ?_⟩
  rintro i H2 z H3 hi' ⟨rfl, rfl⟩
  exact ⟨_, rgL_get hi', rfl, .int _⟩
theorem si_rg {a b : E} (Sa : SE T ca a) (Sb : SE T ca b) : SI T ca (.rg a b) := by
  intro C X W tg x G c _ ρ O σ H r Q h
  rw [chkI_rg] at c
  split at c <;> first | (cases c; done) | skip
  rename_i n p xs p2
  simp only [Bool.and_eq_true, decide_eq_true_eq] at c
  obtain ⟨⟨rfl, hg⟩, k1⟩ := c
  rw [evI_rg] at h
  have hm : X.mg "range" = none := G.bi _ (by simp [bnames])
  match xs, k1 with
  | [y], k1 =>
    simp only [Bool.and_eq_true] at k1
    have e := nil_of k1.1
    subst e
    rw [ev_nil] at h
    refine ofPI (pi_range1 (G.glo hg) hm (pa_cons (evPE X y) pa_nil (star_cons (notStar_of k1.2))) (star_cons (notStar_of k1.2))) ?_
    refine Sb.goI G k1.2 r (f := fun h0 => do let h ← asOpt h0; match h with | some hi => if RgB 0 hi then .ok (rgL 0 hi) else .bad | none => .bad) h fun d v H1 s1 r1 h1 => ?_
    rcases asOpt_real r1.rq with ⟨j, rfl⟩ | hb
    · have h2 : PostI X.K ca W true false O σ H1 (if RgB 0 j then .ok (rgL 0 j) else .bad) Q := h1
      by_cases hb : RgB 0 j
      · rw [if_pos hb] at h2
        refine ⟨j, by rw [r1.rq.int], by have := (RgB.iff _ _).mp hb; omega, by have := (RgB.iff _ _).mp hb; omega, h2 _ H1 (Same.refl _) ?_⟩
        have := walk_rg (K := X.K) (O := O) (H1 := H1) (cl := true) hb
        rw [Int.sub_zero] at this
        exact this
      · rw [if_neg hb] at h2; exact (show False from h2).elim
    · rw [hb] at h1; exact (show False from h1).elim
  | [z, y], k1 =>
    simp only [Bool.and_eq_true, Bool.not_eq_true'] at k1
    have s1' := star_cons (xs := [y]) (env := X.env) (notStar_of k1.1.2)
    have s2' := star_cons (xs := []) (env := X.env) (notStar_of k1.2)
    refine ofPI (pi_range2 (G.glo hg) hm (pa_cons (evPE X z) (pa_cons (evPE X y) pa_nil s2') s1') (by rw [s1', s2'] <;> rfl) (by rw [s2'] <;> rfl)) ?_
    refine Sa.goI G k1.1.2 r h fun d v H1 s1 r1 h1 => ?_
    rcases asOpt_real r1.rq with ⟨i, rfl⟩ | hb
    · refine Sb.goI G k1.2 (r.mono s1) (f := fun h0 => do let h ← asOpt h0; match h with | some hi => if RgB i hi then .ok (rgL i hi) else .bad | none => .bad) h1 fun d2 v2 H2 s2 r2 h2 => ?_
      rcases asOpt_real r2.rq with ⟨j, rfl⟩ | hb
      · have h3 : PostI X.K ca W true false O σ H2 (if RgB i j then .ok (rgL i j) else .bad) Q := h2
        by_cases hb : RgB i j
        · rw [if_pos hb] at h3
          exact ⟨i, j, by rw [r1.rq.int, r2.rq.int], (by have := (RgB.iff _ _).mp hb; exact ⟨by omega, by omega, by omega, by omega⟩), h3 _ H2 (Same.refl _) (walk_rg hb)⟩
        · rw [if_neg hb] at h3; exact (show False from h3).elim
      · rw [hb] at h2; exact (show False from h2).elim
    · rw [hb] at h1; exact (show False from h1).elim
theorem si_zip {a b : E} (Sa : SE T ca a) (Sb : SE T ca b) : SI T ca (.zip a b) := by
  intro C X W tg x G c ht ρ O σ H r Q h
  obtain ⟨es, kk, tp, rfl⟩ := ht rfl
  rw [chkI_zip] at c
  split at c <;> first | (cases c; done) | skip
  rename_i n p y z p2
  simp only [Bool.and_eq_true, decide_eq_true_eq] at c
  obtain ⟨⟨⟨rfl, hg⟩, k1⟩, k2⟩ := c
  rw [evI_zip] at h
  have hm : X.mg "zip" = none := G.bi _ (by simp [bnames])
  have s1' := star_cons (xs := [z]) (env := X.env) (notStar_of k1)
  have s2' := star_cons (xs := []) (env := X.env) (notStar_of k2)
  refine ofPI (RZ.pi_zipA (G.glo hg) hm (pa_cons (evPE X y) (pa_cons (evPE X z) pa_nil s2') s1') s1' (by rw [s2'] <;> rfl)) ?_
  refine Sa.goI G k1 r h fun d v H1 s1 r1 h1 => ?_
  refine Ev.str (Sb.goI G k2 (r.mono s1) h1 fun d2 v2 H2 s2 r2 h2 hI => ?_)
  have ra := r1.rq.mono s2
  have rb := r2.rq
  have cla : clean (.zip a b) = true → Rp X.K (Fz H2 O) v d := fun e => by
    simp only [clean, Bool.and_eq_true, Bool.not_eq_true'] at e
    exact (r1.rp (kd_ne e.1)).mono (Fz.same s2)
  have clb : clean (.zip a b) = true → Rp X.K (Fz H2 O) v2 d2 := fun e => by
    simp only [clean, Bool.and_eq_true, Bool.not_eq_true'] at e
    exact r2.rp (kd_ne e.2)
  have nope : (∀ xs ys, ¬ (d = .list xs ∧ d2 = .list ys)) → (∀ xs ys, ¬ (d = .tuple xs ∧ d2 = .tuple ys)) → False := fun n1 n2 => by
    cases d <;> cases d2 <;> first | exact h2 | exact n1 _ _ ⟨rfl, rfl⟩ | exact n2 _ _ ⟨rfl, rfl⟩
  by_cases q1 : ∃ xs ys, d = .list xs ∧ d2 = .list ys
  · obtain ⟨xs, ys, rfl, rfl⟩ := q1
    obtain ⟨a1, vs, rfl, hs1, rv1, st1⟩ := Rq.stands (cl := clean (.zip a b)) ra cla
    obtain ⟨a2, ws, rfl, hs2, rv2, st2⟩ := Rq.stands (cl := clean (.zip a b)) rb clb
    have l1 := rv1.length
    have l2 := rv2.length
    have z1 := len_list hI hs1
    refine ⟨a1, a2, vs, ws, rfl, .inl ⟨hs1, hs2, h2 _ H2 (Same.refl _) ⟨by rw [zipUp_len]; omega, fun H' => SqL X.K H' a1 vs ∧ SqL X.K H' a2 ws, _, by rw [zipUp_len, ← l1, ← l2]; exact walk_zip rfl, fun H' hh => ⟨st1 H' hh, st2 H' hh⟩, ?_⟩⟩⟩
    rintro i H3 z H4 hi ⟨t, x1, x2, rfl, hn, rfl, e1, e2⟩
    obtain ⟨d1, f1, g1⟩ := rv1.get' e1
    obtain ⟨d2, f2, g2⟩ := rv2.get' e2
    exact ⟨_, zipUp_get f1 f2, t, x1, x2, d1, d2, rfl, hn, rfl, rfl, g1, g2⟩
  · by_cases q2 : ∃ xs ys, d = .tuple xs ∧ d2 = .tuple ys
    · obtain ⟨xs, ys, rfl, rfl⟩ := q2
      obtain ⟨a1, vs, rfl, hs1, rv1, st1⟩ := Rq.standsT (cl := clean (.zip a b)) ra
      obtain ⟨a2, ws, rfl, hs2, rv2, st2⟩ := Rq.standsT (cl := clean (.zip a b)) rb
      have l1 := rv1.length
      have l2 := rv2.length
      have z1 := len_tup hI hs1
      refine ⟨a1, a2, vs, ws, rfl, .inr ⟨hs1, hs2, h2 _ H2 (Same.refl _) ⟨by rw [zipUp_len]; omega, fun H' => SqT X.K H' a1 vs ∧ SqT X.K H' a2 ws, _, by rw [zipUp_len, ← l1, ← l2]; exact walk_zipT rfl, fun H' hh => ⟨st1 H' hh, st2 H' hh⟩, ?_⟩⟩⟩
      rintro i H3 z H4 hi ⟨t, x1, x2, rfl, hn, rfl, e1, e2⟩
      obtain ⟨d1, f1, g1⟩ := rv1.get' e1
      obtain ⟨d2, f2, g2⟩ := rv2.get' e2
      exact ⟨_, zipUp_get f1 f2, t, x1, x2, d1, d2, rfl, hn, rfl, rfl, g1, g2⟩
    · exact (nope (fun xs ys z => q1 ⟨xs, ys, z⟩) fun xs ys z => q2 ⟨xs, ys, z⟩).elim

/-! ### comprehensions -/
theorem compGo_cons {f : D → R (Option D)} {d : D} {ds : List D} {ys : List D} (h : compGo f (d :: ds) = .ok ys) :
    (f d = .ok none ∧ compGo f ds = .ok ys) ∨ ∃ y zs, f d = .ok (some y) ∧ compGo f ds = .ok zs ∧ ys = y :: zs := by
  unfold compGo at h
  split at h
  · rename_i e; exact .inl ⟨e, h⟩
  · rename_i y e
    split at h
    · rename_i zs e2
      cases h
      exact .inr ⟨y, zs, e, e2, rfl⟩
    · cases h
  · cases h
/-- the heap in a comprehension's turn: the new list at b, all else as it was -/
structure InC (K : PySem.W.Frag) (O : List Addr) (H1 : Hp) (b : Addr) (acc : List V) (done : List D) (H : Hp) : Prop where
  at_ : H b = some (.lst acc)
  same : Same H1 H
  rep : RpL K (Fz H (b :: O)) acc done
section
variable {K : PySem.W.Frag} {O : List Addr} {H1 H H' : Hp} {b : Addr} {acc : List V} {done : List D}
theorem InC.fz (h : InC K O H1 b acc done H) (hb : H1 b = none) : Same (Fz H1 O) (Fz H (b :: O)) := Fz.cons h.same hb
theorem InC.dom (h : InC K O H1 b acc done H) (d : Dom H1 O) : Dom H (b :: O) := fun a ha => by
  rcases List.mem_cons.mp ha with rfl | ha
  · rw [h.at_]; exact fun z => nomatch z
  · exact d.same h.same a ha
theorem InC.more (h : InC K O H1 b acc done H) (s : Same H H') : InC K O H1 b acc done H' := ⟨s.l h.at_, h.same.trans s, h.rep.mono (Fz.same s)⟩
theorem InC.push (h : InC K O H1 b acc done H) (hb : H1 b = none) {v : V} {d : D} (r : Rp K (Fz H (b :: O)) v d) : InC K O H1 b (acc ++ [v]) (done ++ [d]) (upd H b (.lst (acc ++ [v]))) where
  at_ := upd_same
  same := h.same.grow hb h.at_
  rep := by
    rw [Fz.updO List.mem_cons_self h.at_]
    exact h.rep.append (.cons r .nil)
theorem InC.start (hb : H1 b = none) : InC K O H1 b [] [] (upd H1 b (.lst [])) := ⟨upd_same, same_upd hb, .nil⟩
end
/-- a clause's test, its element, in every block -/
def tBlk (X : Cx) (scope : Scope) (y : Expr) : TE := fun σ H Q => ∀ s0 H0 c cl fp, Ev (X.blk s0 H0 scope (compEnvC scope cl c X.env) fp) y σ H Q
def tBlkT (X : Cx) (scope : Scope) : List Expr → TT
  | [] => tYes
  | y :: _ => fun σ H Q => ∀ s0 H0 c cl fp, EvT (X.blk s0 H0 scope (compEnvC scope cl c X.env) fp) y σ H Q
theorem pts_of {X : Cx} {scope : Scope} {ifs : List Expr} {c : E} {C : Ctx} (h : (match ifs with | [] => isYes c | [y] => !isYes c && !isIte c && chk c C y | _ => false) = true) (s0 : Shared) (H0 : Hp) (a : Addr) (cl : List (Str × Addr)) (fp : List Addr) :
    PTs (X.blk s0 H0 scope (compEnvC scope cl a X.env) fp) ifs (tBlkT X scope ifs) := by
  match ifs, h with
  | [], _ => exact pts_nil
  | [y], _ => exact pts_one ⟨fun pins s σ H Q I q => q s0 H0 a cl fp pins s I⟩
theorem test_go {c : E} (Tc : ST T ca c) {C : Ctx} {X : Cx} {W : WX} (G : Good C T ca X W) {scope : Scope} {ifs : List Expr}
    (h : (match ifs with | [] => isYes c | [y] => !isYes c && !isIte c && chk c (C.blk scope) y | _ => false) = true) {ρ : En} {O : List Addr} {σ : L2.St} {H : Hp} (r : RelE X.K ρ O σ H) {b : Bool} (e : ev T c ρ = .ok (.bool b))
    {Q : Bool → Hp → Prop} (q : ∀ H', Same H H' → Q b H') : tBlkT X scope ifs σ H Q := by
  match ifs, h with
  | [], h =>
    have : c = .yes := by cases c <;> first | rfl | cases h
    subst this
    cases e
    exact q H (Same.refl _)
  | [y], h =>
    simp only [Bool.and_eq_true, Bool.not_eq_true'] at h
    intro s0 H0 a cl fp
    refine Tc (C.blk scope) _ _ y (G.blk s0 H0 scope a cl fp) h.2 h.1.2 ρ O σ H r Q ?_
    rw [e]
    exact q
theorem elt_go {e : E} (Se : SE T ca e) {C : Ctx} {X : Cx} {W : WX} (G : Good C T ca X W) {scope : Scope} {y : Expr} (hb : isBor e = false) (h : chk e (C.blk scope) y = true) {ρ : En} {O : List Addr} {σ : L2.St} {H : Hp} (r : RelE X.K ρ O σ H) {d : D}
    (he : ev T e ρ = .ok d) {Q : VK} (q : ∀ v H', Same H H' → Rp X.K (Fz H' O) v d → Q v H') : tBlk X scope y σ H Q := by
  intro s0 H0 a cl fp
  refine Se (C.blk scope) _ _ y (G.blk s0 H0 scope a cl fp) h ρ O σ H r Q ?_
  rw [he]
  exact fun v H' s rr => q v H' s (rr.rp (kd_ne hb))
theorem SI.goE {a : E} {C : Ctx} {X : Cx} {W : WX} {tg x : Expr} {ρ : En} {O : List Addr} {σ : L2.St} {H : Hp} (S : SI T ca a) (G : Good C T ca X W) (c : chkI a C x = true) (ht : pairIt a = true → ∃ es k p, tg = .Tuple es k p) (r : RelE X.K ρ O σ H)
    {f : List D → R D} {k : Kd} {Q0 : VK} {Q : It → Hp → Prop} (h : PostE X.K ca W k O σ H (evI T a ρ >>= f) Q0)
    (hk : ∀ ds J H1, Same H H1 → WalkD X.K J (clean a) (pairIt a) O H1 ds → PostE X.K ca W k O σ H1 (f ds) Q0 → Q J H1) : EvI X tg x σ H Q := by
  refine S C X W tg x G c ht ρ O σ H r Q ?_
  cases e : evI T a ρ with
  | ok d => rw [e] at h; exact fun v H1 s rr => hk d v H1 s rr (PostE.later s h)
  | exc c => rw [e] at h; exact h
  | bad => rw [e] at h; exact h
theorem tp_of {C : Ctx} {t : Tg} {tg : Expr} (h : isTp t = true) (c : chkTg C t tg = true) : ∃ es k p, tg = .Tuple es k p := by
  cases t with
  | nm i => cases h
  | tp is => cases tg <;> first | (cases c; done) | exact ⟨_, _, _, rfl⟩
theorem comp_rd {own : List (Str × Nat)} {t : Tg} {it c e : E} (Si : SI T ca it) (Tc : ST T ca c) (Se : SE T ca e) {C : Ctx} {X : Cx} {W : WX} (G : Good C T ca X W) {elt tg iter : Expr} {ifs : List Expr} {scope : Scope}
    (k2 : tgIn (own.map (·.2)) t = true) (k3 : chkTg (C.blk scope) t tg = true) (k4 : (!pairIt it || isTp t) = true) (k5 : isBor e = false) (k7 : chkI it C iter = true)
    (k8 : (match ifs with | [] => isYes c | [y] => !isYes c && !isIte c && chk c (C.blk scope) y | _ => false) = true) (k9 : chk e (C.blk scope) elt = true)
    {ρ : En} {O : List Addr} {σ : L2.St} {H : Hp} (r : RelE X.K ρ O σ H) {Q : VK} (h : PostE X.K ca W .n O σ H (ev T (.comp own t it c e) ρ) Q) :
    tLc (EvI X tg iter) (gT X.K t) (tBlkT X scope ifs) (tBlk X scope elt) (own.map (·.2)) σ H Q := by
  have hz := sizeLine_eq
  rw [ev_comp] at h
  refine Si.goE G k7 (fun hp => tp_of (t := t) (by rw [hp] at k4; simpa using k4) k3) r h fun ds J H1 s1 hw h1 => ?_
  intro b hb
  obtain ⟨hlen, Gs, Y, wk, hG, hY⟩ := hw
  generalize hf : (fun d => onT (setT t d (wipeR ρ (own.map (·.2)))) fun ρ' => pick (ev T c ρ') (ev T e ρ')) = f at h1
  cases hgo : compGo f ds with
  | exc c' => rw [hgo] at h1; exact (show False from h1).elim
  | bad => rw [hgo] at h1; exact (show False from h1).elim
  | ok ys =>
    rw [hgo] at h1
    refine lc_it wk (fun i H' => ∃ acc done rest, InC X.K O H1 b acc done H' ∧ acc.length ≤ i ∧ compGo f (ds.drop i) = .ok rest ∧ ys = done ++ rest) ⟨[], [], ys, .start hb, Nat.zero_le _, hgo, rfl⟩ (fun i H' _ ⟨acc, done, rest, hc, _⟩ => hG H' (.inr hc.same)) ?_ ?_
    · rintro i x H2 H3 hi ⟨acc, done, rest, hc, hal, hgo', hys⟩ hy
      obtain ⟨d, hd, hitm⟩ := hY i H2 x H3 hi hy
      have hdrop : ds.drop i = d :: ds.drop (i + 1) := by
        obtain ⟨hlt, e2⟩ := List.getElem?_eq_some_iff.mp hd
        rw [List.drop_eq_getElem_cons hlt, e2]
      rw [hdrop] at hgo'
      have rb : RelE X.K ρ (b :: O) σ H2 := r.mono2 (fun a o q ⟨vs, e⟩ => by subst e; exact hc.same.l (s1.l q)) ((Fz.same s1).trans (hc.fz hb)) (hc.dom (r.dom.same s1))
      obtain ⟨s3, tk⟩ := hitm.take (t := t) (O := b :: O) k4 (hc.fz hb) (hc.dom (r.dom.same s1))
      have rw3 := (rb.mono s3).wipe (own.map (·.2))
      have hc3 := hc.more s3
      have fd : f d = onT (setT t d (wipeR ρ (own.map (·.2)))) fun ρ' => pick (ev T c ρ') (ev T e ρ') := by rw [← hf]
      rcases compGo_cons hgo' with ⟨f0, g0⟩ | ⟨y, zs, f0, g0, rfl⟩
      · rw [f0] at fd
        obtain ⟨ρ', es, fp⟩ := onT_inv fd.symm
        have ec := pick_none fp
        refine gT_run es tk fun σ2 r2' hw2 => ⟨by rw [hw2 _ k2, wipe_wipe], ?_⟩
        have r2 := r2' _ _ rw3 (Same.refl _)
        refine test_go Tc G k8 r2 ec fun H4 s4 => ?_
        rw [if_neg Bool.false_ne_true]
        exact ⟨acc, done, rest, hc3.more s4, by omega, g0, hys⟩
      · rw [f0] at fd
        obtain ⟨ρ', es, fp⟩ := onT_inv fd.symm
        have ec := pick_some fp
        refine gT_run es tk fun σ2 r2' hw2 => ⟨by rw [hw2 _ k2, wipe_wipe], ?_⟩
        have r2 := r2' _ _ rw3 (Same.refl _)
        refine test_go Tc G k8 r2 ec.1 fun H4 s4 => ?_
        rw [if_pos rfl]
        refine elt_go Se G k5 k9 (r2.mono s4) ec.2 fun v H5 s5 rv => ?_
        have hc5 := (hc3.more s4).more s5
        exact ⟨acc, hc5.at_, by omega, acc ++ [v], done ++ [y], zs, hc5.push hb rv, by rw [List.length_append]; simp; omega, g0, by rw [hys]; simp⟩
    · rintro H' ⟨acc, done, rest, hc, _, hgo', hys⟩
      rw [List.drop_length] at hgo'
      cases hgo'
      rw [List.append_nil] at hys
      subst hys
      exact h1 _ H' hc.same (New.rn (r.dom.same s1) ⟨b, acc, rfl, hb, hc.at_, hc.rep⟩)
theorem se_comp {own : List (Str × Nat)} {t : Tg} {it c e : E} (Si : SI T ca it) (Tc : ST T ca c) (Se : SE T ca e) : SE T ca (.comp own t it c e) := by
  intro C X W x G k ρ O σ H r Q h
  rw [chk_comp] at k
  split at k <;> first | (cases k; done) | skip
  rename_i elt tg iter ifs scope p
  rw [Bool.and_eq_true, Bool.and_eq_true, Bool.and_eq_true, Bool.and_eq_true, Bool.and_eq_true, Bool.and_eq_true, Bool.and_eq_true, Bool.and_eq_true] at k
  obtain ⟨⟨⟨⟨⟨⟨⟨⟨k1, k2⟩, k3⟩, k4⟩, k5⟩, k6⟩, k7⟩, k8⟩, k9⟩ := k
  rw [Bool.not_eq_true'] at k5
  refine ofPE (pe_lc (wi := EvI X tg iter) (g := gT X.K t) (tt := tBlkT X scope ifs) (te := tBlk X scope elt) G.calm (by rw [G.N]; exact G.nd) (evPI X tg iter) (blkOk_by (by rw [G.N, G.sc]; exact k1))
    (fun s0 H0 a cl fp => pg_of (G.blk s0 H0 scope a cl fp) k3) (fun s0 H0 a cl fp => pts_of k8 s0 H0 a cl fp) (fun s0 H0 a cl fp => ⟨fun pins s σ H Q I q => q s0 H0 a cl fp pins s I⟩) (fun v => folded_of k6 _ v)) (comp_rd Si Tc Se G k2 k3 k4 k5 k7 k8 k9 r h)
end
end Pi

set_option Elab.async false
set_option linter.all false
set_option maxRecDepth 100000
set_option maxHeartbeats 4000000
/-! Pi14: comprehensions of two clauses; all expressions. -/
namespace Pi
open PySem PySem.Spec PyProof.Rows L2
variable [MP]
theorem lc_in {J : It} {n : Nat} {Gs : Hp → Prop} {Y : Nat → Hp → V → Hp → Prop} (w : Walk J n Gs Y) {g : TG} {tt : TT} {te : TE} {vs : List Nat} {σ : L2.St} {H4 : Hp} {D : Addr} {Nx : Hp → Prop} (Pv : Nat → Hp → Prop) (h0 : Pv 0 H4) (hG : ∀ i H, i ≤ n → Pv i H → Gs H)
    (hs : ∀ i x H H', i < n → Pv i H → Y i H x H' → g x (wipe σ vs) H' fun σ2 H2 => wipe σ2 vs = wipe σ vs ∧ tt σ2 H2 fun b H3 =>
      if b = true then te σ2 H3 fun y H4 => ∃ acc, H4 D = some (.lst acc) ∧ acc.length < sizeLine ∧ Pv (i + 1) (upd H4 D (.lst (acc ++ [y]))) else Pv (i + 1) H3) (hd : ∀ H, Pv n H → Nx H) :
    ∃ W : Nat → Nat → Hp → Prop, (∃ m, W 0 m H4) ∧ ∀ i m H, W i m H →
      (J.stop i H ∧ Nx H) ∨ (J.go i H ∧ ∃ Nx : Hp → Prop, (∀ H', Nx H' → ∃ m', m' < m ∧ W (i + 1) m' H') ∧ ∀ x H', J.yld i H x H' → g x (wipe σ vs) H' fun σ2 H2 => wipe σ2 vs = wipe σ vs ∧ tt σ2 H2 fun b H3 =>
        if b = true then te σ2 H3 fun y H4 => ∃ acc, H4 D = some (.lst acc) ∧ acc.length < sizeLine ∧ Nx (upd H4 D (.lst (acc ++ [y]))) else Nx H3) := by
  refine ⟨fun i m H => m = n - i ∧ i ≤ n ∧ Pv i H, ⟨n, by simp, Nat.zero_le _, h0⟩, ?_⟩
  rintro i m H ⟨rfl, hi, p⟩
  have q := hG i H hi p
  by_cases hlt : i < n
  · refine .inr ⟨w.goes i H hlt q, Pv (i + 1), fun H' p' => ⟨n - (i + 1), by omega, rfl, hlt, p'⟩, fun x H' y => hs i x H H' hlt p (w.yields i H x H' hlt q y)⟩
  · have e : i = n := by omega
    subst e
    exact .inl ⟨w.stops H q, hd H p⟩
theorem compGo2_cons {f : D → R (List D)} {d : D} {ds : List D} {ys : List D} (h : compGo2 f (d :: ds) = .ok ys) : ∃ zs ws, f d = .ok zs ∧ compGo2 f ds = .ok ws ∧ ys = zs ++ ws := by
  unfold compGo2 at h
  split at h
  · rename_i zs e
    split at h
    · rename_i ws e2
      cases h
      exact ⟨zs, ws, e, e2, rfl⟩
    · cases h
  · cases h
theorem tgIn_self (t : Tg) : tgIn (tgSl t) t = true := by
  cases t with
  | nm i => simp [tgIn, tgSl]
  | tp is => exact List.all_eq_true.mpr fun i hi => decide_eq_true hi
theorem tgIn_mem {vs : List Nat} {t : Tg} (h : tgIn vs t = true) : ∀ i ∈ tgSl t, i ∈ vs := by
  cases t with
  | nm i => intro j hj; simp [tgSl] at hj; subst hj; simpa [tgIn] using h
  | tp is => intro j hj; have := List.all_eq_true.mp h j hj; simpa using this
def iBlk (X : Cx) (scope : Scope) (tg y : Expr) : TI := fun σ H Q => ∀ s0 H0 c cl fp, EvI (X.blk s0 H0 scope (compEnvC scope cl c X.env) fp) tg y σ H Q
section
variable {T : Str → List D → R D} {ca : Nat → Addr}
theorem comp2_rd {own : List (Str × Nat)} {t1 t2 : Tg} {it1 c1 it2 c2 e : E} (Si1 : SI T ca it1) (Tc1 : ST T ca c1) (Si2 : SI T ca it2) (Tc2 : ST T ca c2) (Se : SE T ca e) {C : Ctx} {X : Cx} {W : WX} (G : Good C T ca X W)
    {elt tg1 iter1 tg2 iter2 : Expr} {ifs1 ifs2 : List Expr} {scope : Scope} (k2 : tgIn (own.map (·.2)) t1 = true) (k2' : tgIn (own.map (·.2)) t2 = true) (k3 : chkTg (C.blk scope) t1 tg1 = true) (k3' : chkTg (C.blk scope) t2 tg2 = true)
    (k4 : (!pairIt it1 || isTp t1) = true) (k4' : (!pairIt it2 || isTp t2) = true) (k5 : isBor e = false) (k7 : chkI it1 C iter1 = true)
    (k8 : (match ifs1 with | [] => isYes c1 | [y] => !isYes c1 && !isIte c1 && chk c1 (C.blk scope) y | _ => false) = true) (k7' : chkI it2 (C.blk scope) iter2 = true)
    (k8' : (match ifs2 with | [] => isYes c2 | [y] => !isYes c2 && !isIte c2 && chk c2 (C.blk scope) y | _ => false) = true) (k9 : chk e (C.blk scope) elt = true) (kc : clean it2 = true)
    {ρ : En} {O : List Addr} {σ : L2.St} {H : Hp} (r : RelE X.K ρ O σ H) {Q : VK} (h : PostE X.K ca W .n O σ H (ev T (.comp2 own t1 it1 c1 t2 it2 c2 e) ρ) Q) :
    tLc2 (EvI X tg1 iter1) (gT X.K t1) (tBlkT X scope ifs1) (iBlk X scope tg2 iter2) (gT X.K t2) (tBlkT X scope ifs2) (tBlk X scope elt) (own.map (·.2)) (tgSl t2) σ H Q := by
  have hz := sizeLine_eq
  have hbig : big = 16777216 := rfl
  rw [ev_comp2] at h
  refine Si1.goE G k7 (fun hp => tp_of (t := t1) (by rw [hp] at k4; simpa using k4) k3) r h fun ds J H1 s1 hw h1 => ?_
  intro b hb
  obtain ⟨hlen, Gs, Y, wk, hG, hY⟩ := hw
  generalize hf : (fun d => onT (setT t1 d (wipeR ρ (own.map (·.2)))) fun ρ' => pick2 (ev T c1 ρ') (evI T it2 ρ') (fun d2 => onT (setT t2 d2 (wipeR ρ' (tgSl t2))) fun ρ2 => pick (ev T c2 ρ2) (ev T e ρ2))) = f at h1
  cases hgo : compGo2 f ds with
  | exc c' => rw [hgo] at h1; exact (show False from h1).elim
  | bad => rw [hgo] at h1; exact (show False from h1).elim
  | ok ys =>
    rw [hgo] at h1
    have h2 : PostE X.K ca W .n O σ H1 (if ys.length ≤ big then .ok (.list ys) else .bad) Q := h1
    by_cases hcap : ys.length ≤ big
    · rw [if_pos hcap] at h2
      refine ⟨fun i m H' => m = ds.length - i ∧ i ≤ ds.length ∧ ∃ acc done rest, InC X.K O H1 b acc done H' ∧ compGo2 f (ds.drop i) = .ok rest ∧ ys = done ++ rest, ⟨ds.length, by simp, Nat.zero_le _, [], [], ys, .start hb, hgo, rfl⟩, ?_⟩
      rintro i m H2 ⟨rfl, hile, acc, done, rest, hc, hgo', hys⟩
      by_cases hi : i < ds.length
      · refine .inr ⟨wk.goes i H2 hi (hG H2 (.inr hc.same)), fun H' => ∃ acc done rest, InC X.K O H1 b acc done H' ∧ compGo2 f (ds.drop (i + 1)) = .ok rest ∧ ys = done ++ rest, fun H' ⟨a1, d1, r1, q1⟩ => ⟨ds.length - (i + 1), by omega, rfl, hi, a1, d1, r1, q1⟩, fun x H3 hyld => ?_⟩
        have hy := wk.yields i H2 x H3 hi (hG H2 (.inr hc.same)) hyld
        obtain ⟨d, hd, hitm⟩ := hY i H2 x H3 hi hy
        have hdrop : ds.drop i = d :: ds.drop (i + 1) := by
          obtain ⟨hlt, e2⟩ := List.getElem?_eq_some_iff.mp hd
          rw [List.drop_eq_getElem_cons hlt, e2]
        rw [hdrop] at hgo'
        obtain ⟨zs, ws, fz, gz, rfl⟩ := compGo2_cons hgo'
        have fd : f d = onT (setT t1 d (wipeR ρ (own.map (·.2)))) fun ρ' => pick2 (ev T c1 ρ') (evI T it2 ρ') (fun d2 => onT (setT t2 d2 (wipeR ρ' (tgSl t2))) fun ρ2 => pick (ev T c2 ρ2) (ev T e ρ2)) := by rw [← hf]
        rw [fz] at fd
        obtain ⟨ρ', es, fp⟩ := onT_inv fd.symm
        have rb : RelE X.K ρ (b :: O) σ H2 := r.mono2 (fun a o q ⟨vs, e⟩ => by subst e; exact hc.same.l (s1.l q)) ((Fz.same s1).trans (hc.fz hb)) (hc.dom (r.dom.same s1))
        obtain ⟨s3, tk⟩ := hitm.take (t := t1) (O := b :: O) k4 (hc.fz hb) (hc.dom (r.dom.same s1))
        have rw3 := (rb.mono s3).wipe (own.map (·.2))
        have hc3 := hc.more s3
        refine gT_run es tk fun σ2 r2' hw2 => ⟨by rw [hw2 _ k2, wipe_wipe], ?_⟩
        have r2 := r2' _ _ rw3 (Same.refl _)
        rcases pick2_inv fp with ⟨ec, rfl⟩ | ⟨ds2, ec, ei, hgo2⟩
        · refine test_go Tc1 G k8 r2 ec fun H4 s4 => ?_
          rw [if_neg Bool.false_ne_true]
          exact ⟨acc, done, ws, hc3.more s4, gz, by rw [hys]; simp⟩
        · refine test_go Tc1 G k8 r2 ec fun H4 s4 => ?_
          rw [if_pos rfl]
          intro s0 H0 a cl fp
          have hc4 := hc3.more s4
          have r4 := r2.mono s4
          refine Si2 (C.blk scope) _ _ tg2 iter2 (G.blk s0 H0 scope a cl fp) k7' (fun hp => tp_of (t := t2) (by rw [hp] at k4'; simpa using k4') k3') ρ' (b :: O) σ2 H4 r4 _ ?_
          rw [ei]
          intro J1 H5 s5 hw5
          obtain ⟨hlen5, Gs5, Y5, wk5, hG5, hY5⟩ := hw5
          have hc5 := hc4.more s5
          generalize hg : (fun d2 => onT (setT t2 d2 (wipeR ρ' (tgSl t2))) fun ρ2 => pick (ev T c2 ρ2) (ev T e ρ2)) = g at hgo2
          refine lc_in wk5 (fun j H' => ∃ acc' done' restin, InC X.K O H1 b acc' done' H' ∧ Same (Fz H5 (b :: O)) (Fz H' (b :: O)) ∧ compGo g (ds2.drop j) = .ok restin ∧ done ++ zs = done' ++ restin) ⟨acc, done, zs, hc5, Same.refl _, hgo2, rfl⟩ ?_ ?_ ?_
          · rintro j H6 _ ⟨acc', done', restin, hc6, hk6, _⟩
            exact hG5 H6 (.inl ⟨kc, b :: O, hk6⟩)
          · rintro j x2 H6 H7 hj ⟨acc', done', restin, hc6, hk6, hgo6, hsum⟩ hy6
            obtain ⟨d2, hd2, hitm2⟩ := hY5 j H6 x2 H7 hj hy6
            have hdrop2 : ds2.drop j = d2 :: ds2.drop (j + 1) := by
              obtain ⟨hlt, e2⟩ := List.getElem?_eq_some_iff.mp hd2
              rw [List.drop_eq_getElem_cons hlt, e2]
            rw [hdrop2] at hgo6
            have fz6 := hk6
            have rb6 : RelE X.K ρ (b :: O) σ H6 := r.mono2 (fun a o q ⟨vs, e⟩ => by subst e; exact hc6.same.l (s1.l q)) ((Fz.same s1).trans (hc6.fz hb)) (hc6.dom (r.dom.same s1))
            have r6 : RelE X.K ρ' (b :: O) σ2 H6 := r2' _ _ (rb6.wipe (own.map (·.2))) ((Fz.same (s4.trans s5)).trans fz6)
            obtain ⟨s7, tk2⟩ := hitm2.take (t := t2) (O := b :: O) k4' fz6 (hc6.dom (r.dom.same s1))
            have hc7 := hc6.more s7
            have r7 := (r6.mono s7).wipe (tgSl t2)
            have hk7 : Same (Fz H5 (b :: O)) (Fz H7 (b :: O)) := fz6.trans (Fz.same s7)
            have gd : g d2 = onT (setT t2 d2 (wipeR ρ' (tgSl t2))) fun ρ2 => pick (ev T c2 ρ2) (ev T e ρ2) := by rw [← hg]
            rcases compGo_cons hgo6 with ⟨f0, g0⟩ | ⟨y, zs', f0, g0, rfl⟩
            · rw [f0] at gd
              obtain ⟨ρ2, es2, fp2⟩ := onT_inv gd.symm
              have ec2 := pick_none fp2
              refine gT_run es2 tk2 fun σ3 r3' hw3 => ⟨by rw [hw3 _ (tgIn_self t2), wipe_wipe], ?_⟩
              have r3 := r3' _ _ r7 (Same.refl _)
              refine test_go Tc2 G k8' r3 ec2 fun H8 s8 => ?_
              rw [if_neg Bool.false_ne_true]
              exact ⟨acc', done', restin, hc7.more s8, hk7.trans (Fz.same s8), g0, hsum⟩
            · rw [f0] at gd
              obtain ⟨ρ2, es2, fp2⟩ := onT_inv gd.symm
              have ec2 := pick_some fp2
              refine gT_run es2 tk2 fun σ3 r3' hw3 => ⟨by rw [hw3 _ (tgIn_self t2), wipe_wipe], ?_⟩
              have r3 := r3' _ _ r7 (Same.refl _)
              refine test_go Tc2 G k8' r3 ec2.1 fun H8 s8 => ?_
              rw [if_pos rfl]
              refine elt_go Se G k5 k9 (r3.mono s8) ec2.2 fun v H9 s9 rv => ?_
              have hc9 := (hc7.more s8).more s9
              have hl1 := hc9.rep.length
              have hl2 : (done' ++ y :: zs').length ≤ ys.length := by rw [← hsum, hys]; simp
              rw [List.length_append, List.length_cons] at hl2
              refine ⟨acc', hc9.at_, by omega, acc' ++ [v], done' ++ [y], zs', hc9.push hb rv, ?_, g0, by rw [hsum]; simp⟩
              rw [Fz.updO List.mem_cons_self hc9.at_]
              exact (hk7.trans (Fz.same s8)).trans (Fz.same s9)
          · rintro H6 ⟨acc', done', restin, hc6, hk6, hgo6, hsum⟩
            rw [List.drop_length] at hgo6
            cases hgo6
            rw [List.append_nil] at hsum
            exact ⟨acc', done', ws, hc6, gz, by rw [← hsum, hys, List.append_assoc]⟩
      · have e : i = ds.length := by omega
        subst e
        rw [List.drop_length] at hgo'
        cases hgo'
        rw [List.append_nil] at hys
        subst hys
        exact .inl ⟨wk.stops H2 (hG H2 (.inr hc.same)), h2 _ H2 hc.same (New.rn (r.dom.same s1) ⟨b, acc, rfl, hb, hc.at_, hc.rep⟩)⟩
    · rw [if_neg hcap] at h2; exact h2.elim
theorem se_comp2 {own : List (Str × Nat)} {t1 t2 : Tg} {it1 c1 it2 c2 e : E} (Si1 : SI T ca it1) (Tc1 : ST T ca c1) (Si2 : SI T ca it2) (Tc2 : ST T ca c2) (Se : SE T ca e) : SE T ca (.comp2 own t1 it1 c1 t2 it2 c2 e) := by
  intro C X W x G k ρ O σ H r Q h
  rw [chk_comp2] at k
  split at k <;> first | (cases k; done) | skip
  rename_i elt tg1 iter1 ifs1 tg2 iter2 ifs2 scope p
  simp only [Bool.and_eq_true] at k
  obtain ⟨⟨⟨⟨⟨⟨⟨⟨⟨⟨⟨⟨⟨⟨⟨k1, k2⟩, k2'⟩, k3⟩, k3'⟩, k4⟩, k4'⟩, k5⟩, k6⟩, k6'⟩, k7⟩, k8⟩, k7'⟩, k8'⟩, k9⟩, kc⟩ := k
  rw [Bool.not_eq_true'] at k5
  refine ofPE (pe_lc2 (wi := EvI X tg1 iter1) (g := gT X.K t1) (tt := tBlkT X scope ifs1) (wi1 := iBlk X scope tg2 iter2) (g1 := gT X.K t2) (tt1 := tBlkT X scope ifs2) (te := tBlk X scope elt) (vs1 := tgSl t2) G.calm (by rw [G.N]; exact G.nd) (evPI X tg1 iter1) (blkOk_by (by rw [G.N, G.sc]; exact k1)) (tgIn_mem k2')
    (fun s0 H0 a cl fp => pg_of (G.blk s0 H0 scope a cl fp) k3) (fun s0 H0 a cl fp => pts_of k8 s0 H0 a cl fp) (fun s0 H0 a cl fp => ⟨fun pins s σ H Q I q => q s0 H0 a cl fp pins s I⟩)
    (fun s0 H0 a cl fp => pg_of (G.blk s0 H0 scope a cl fp) k3') (fun s0 H0 a cl fp => pts_of k8' s0 H0 a cl fp)
    (fun s0 H0 a cl fp => ⟨fun pins s σ H Q I q => q s0 H0 a cl fp pins s I⟩) (fun v => folded_of k6 _ v) (fun env v => folded_of k6' env v)) (comp2_rd Si1 Tc1 Si2 Tc2 Se G k2 k2' k3 k3' k4 k4' k5 k7 k8 k7' k8' k9 kc r h)
/-! ### all of them -/
theorem never_L {e : E} (h : ∀ st C xs, chkL st e C xs = false) : SL T ca e := fun st C X W xs G c => by rw [h] at c; cases c
theorem never_BA {e : E} (h : ∀ C xs, chkB e C xs = false) : SBA T ca e := fun C X W xs G c => by rw [h] at c; cases c
theorem never_BO {e : E} (h : ∀ C xs, chkB e C xs = false) : SBO T ca e := fun C X W xs G c => by rw [h] at c; cases c
theorem never_I {e : E} (h : ∀ C x, chkI e C x = false) : SI T ca e := fun C X W tg x G c => by rw [h] at c; cases c
theorem never_E {e : E} (h : ∀ C x, chk e C x = false) : SE T ca e := fun C X W x G c => by rw [h] at c; cases c
theorem never_T {e : E} (h : ∀ C x, chk e C x = false) : ST T ca e := fun C X W x G c => by rw [h] at c; cases c
theorem all_S (e : E) : SE T ca e ∧ ST T ca e ∧ SL T ca e ∧ SBA T ca e ∧ SBO T ca e ∧ SI T ca e := by
  have mk : ∀ {e : E}, SE T ca e → ST T ca e → (∀ st C xs, chkL st e C xs = false) → (∀ C xs, chkB e C xs = false) → (∀ C x, chkI e C x = false) → SE T ca e ∧ ST T ca e ∧ SL T ca e ∧ SBA T ca e ∧ SBO T ca e ∧ SI T ca e :=
    fun h1 h2 h3 h4 h5 => ⟨h1, h2, never_L h3, never_BA h4, never_BO h4, never_I h5⟩
  induction e with
  | var i => exact mk (se_var i) (.of (se_var i) fun C x c env wh => by rw [chk_var] at c; split at c <;> first | rfl | cases c) (fun _ _ _ => rfl) (fun _ _ => rfl) (fun _ _ => rfl)
  | bor i => exact mk (se_bor i) (.of (se_bor i) fun C x c env wh => by rw [chk_bor] at c; split at c <;> first | rfl | cases c) (fun _ _ _ => rfl) (fun _ _ => rfl) (fun _ _ => rfl)
  | glob y k => exact mk (se_glob y k) (.of (se_glob y k) fun C x c env wh => by rw [chk_glob] at c; split at c <;> first | rfl | cases c) (fun _ _ _ => rfl) (fun _ _ => rfl) (fun _ _ => rfl)
  | non => exact mk se_non (.of se_non fun C x c env wh => by rw [chk_non] at c; split at c <;> first | rfl | cases c) (fun _ _ _ => rfl) (fun _ _ => rfl) (fun _ _ => rfl)
  | bl b => exact mk (se_bl b) (.of (se_bl b) fun C x c env wh => by rw [chk_bl] at c; split at c <;> first | rfl | cases c) (fun _ _ _ => rfl) (fun _ _ => rfl) (fun _ _ => rfl)
  | int b => exact mk (se_int b) (.of (se_int b) fun C x c env wh => by rw [chk_int] at c; split at c <;> first | rfl | cases c) (fun _ _ _ => rfl) (fun _ _ => rfl) (fun _ _ => rfl)
  | str b => exact mk (se_str b) (.of (se_str b) fun C x c env wh => by rw [chk_str] at c; split at c <;> first | rfl | cases c) (fun _ _ _ => rfl) (fun _ _ => rfl) (fun _ _ => rfl)
  | bin o a b ha hb => exact mk (se_bin ha.1 hb.1) (.of (se_bin ha.1 hb.1) fun C x c env wh => by rw [chk_bin] at c; split at c <;> first | rfl | cases c) (fun _ _ _ => rfl) (fun _ _ => rfl) (fun _ _ => rfl)
  | neg a ha => exact mk (se_neg ha.1) (.of (se_neg ha.1) fun C x c env wh => by rw [chk_neg] at c; split at c <;> first | rfl | cases c) (fun _ _ _ => rfl) (fun _ _ => rfl) (fun _ _ => rfl)
  | not a ha => exact mk (se_not ha.1) (st_not ha.2.1) (fun _ _ _ => rfl) (fun _ _ => rfl) (fun _ _ => rfl)
  | and es h => exact mk (se_and h.2.2.2.1) (st_and h.2.2.2.1) (fun _ _ _ => rfl) (fun _ _ => rfl) (fun _ _ => rfl)
  | or es h => exact mk (se_or h.2.2.2.2.1) (st_or h.2.2.2.2.1) (fun _ _ _ => rfl) (fun _ _ => rfl) (fun _ _ => rfl)
  | ite t a b ht ha hb => exact mk (se_ite ht.2.1 ha.1 hb.1) (fun C X W x G c hi => by cases hi) (fun _ _ _ => rfl) (fun _ _ => rfl) (fun _ _ => rfl)
  | cmp o a b ha hb => exact mk (se_cmp ha.1 hb.1) (st_cmp ha.1 hb.1) (fun _ _ _ => rfl) (fun _ _ => rfl) (fun _ _ => rfl)
  | chain o1 o2 a b c ha hb hc => exact mk (se_chain ha.1 hb.1 hc.1) (st_chain ha.1 hb.1 hc.1) (fun _ _ _ => rfl) (fun _ _ => rfl) (fun _ _ => rfl)
  | isB n a b ha => exact mk (se_isB ha.1) (st_isB ha.1) (fun _ _ _ => rfl) (fun _ _ => rfl) (fun _ _ => rfl)
  | isN n a ha => exact mk (se_isN ha.1) (st_isN ha.1) (fun _ _ _ => rfl) (fun _ _ => rfl) (fun _ _ => rfl)
  | idx a b ha hb => exact mk (se_idx ha.1 hb.1) (.of (se_idx ha.1 hb.1) fun C x c env wh => by rw [chk_idx] at c; split at c <;> first | rfl | cases c) (fun _ _ _ => rfl) (fun _ _ => rfl) (fun _ _ => rfl)
  | slc a lo hi ha hl hh => exact mk (se_slc ha.1 hl.1 hh.1) (.of (se_slc ha.1 hl.1 hh.1) fun C x c env wh => by rw [chk_slc] at c; split at c <;> first | rfl | cases c) (fun _ _ _ => rfl) (fun _ _ => rfl) (fun _ _ => rfl)
  | rev a ha => exact mk (se_rev ha.1) (.of (se_rev ha.1) fun C x c env wh => by rw [chk_rev] at c; split at c <;> first | rfl | cases c) (fun _ _ _ => rfl) (fun _ _ => rfl) (fun _ _ => rfl)
  | tup es h => exact mk (se_tup h.2.2.1) (.of (se_tup h.2.2.1) fun C x c env wh => by rw [chk_tup] at c; split at c <;> first | rfl | cases c) (fun _ _ _ => rfl) (fun _ _ => rfl) (fun _ _ => rfl)
  | lst es h => exact mk (se_lst h.2.2.1) (.of (se_lst h.2.2.1) fun C x c env wh => by rw [chk_lst] at c; split at c <;> first | rfl | cases c) (fun _ _ _ => rfl) (fun _ _ => rfl) (fun _ _ => rfl)
  | nil => exact ⟨never_E fun _ _ => rfl, never_T fun _ _ => rfl, sl_nil, never_BA fun _ _ => rfl, never_BO fun _ _ => rfl, never_I fun _ _ => rfl⟩
  | cons a as ha has => exact ⟨never_E fun _ _ => rfl, never_T fun _ _ => rfl, sl_cons ha.1 has.2.2.1, sba_cons ha.1 ha.2.1 has.2.2.2.1, sbo_cons ha.1 ha.2.1 has.2.2.2.2.1, never_I fun _ _ => rfl⟩
  | call f as h => exact mk (se_call h.2.2.1) (.of (se_call h.2.2.1) fun C x c env wh => by rw [chk_call] at c; split at c <;> first | rfl | cases c) (fun _ _ _ => rfl) (fun _ _ => rfl) (fun _ _ => rfl)
  | callIx fs ix as hi h => exact mk (se_callIx hi.1 h.2.2.1) (.of (se_callIx hi.1 h.2.2.1) fun C x c env wh => by rw [chk_callIx] at c; split at c <;> first | rfl | cases c) (fun _ _ _ => rfl) (fun _ _ => rfl) (fun _ _ => rfl)
  | fnm f => exact mk (se_fnm f) (.of (se_fnm f) fun C x c env wh => by rw [chk_fnm] at c; split at c <;> first | rfl | cases c) (fun _ _ _ => rfl) (fun _ _ => rfl) (fun _ _ => rfl)
  | callv i fs as h => exact mk (se_callv h.2.2.1) (.of (se_callv h.2.2.1) fun C x c env wh => by rw [chk_callv] at c; split at c <;> first | rfl | cases c) (fun _ _ _ => rfl) (fun _ _ => rfl) (fun _ _ => rfl)
  | bi b as h => exact mk (se_bi h.2.2.1) (.of (se_bi h.2.2.1) fun C x c env wh => by rw [chk_bi] at c; split at c <;> first | rfl | cases c) (fun _ _ _ => rfl) (fun _ _ => rfl) (fun _ _ => rfl)
  | isi a t ha => exact mk (se_isi ha.1) (.of (se_isi ha.1) fun C x c env wh => by rw [chk_isi] at c; split at c <;> first | rfl | cases c) (fun _ _ _ => rfl) (fun _ _ => rfl) (fun _ _ => rfl)
  | lrg a b ha hb => exact mk (se_lrg ha.1 hb.1) (.of (se_lrg ha.1 hb.1) fun C x c env wh => by rw [chk_lrg] at c; split at c <;> first | rfl | cases c) (fun _ _ _ => rfl) (fun _ _ => rfl) (fun _ _ => rfl)
  | trg a b ha hb => exact mk (se_trg ha.1 hb.1) (.of (se_trg ha.1 hb.1) fun C x c env wh => by rw [chk_trg] at c; split at c <;> first | rfl | cases c) (fun _ _ _ => rfl) (fun _ _ => rfl) (fun _ _ => rfl)
  | sset a ha => exact mk (se_sset ha.1) (.of (se_sset ha.1) fun C x c env wh => by rw [chk_sset] at c; split at c <;> first | rfl | cases c) (fun _ _ _ => rfl) (fun _ _ => rfl) (fun _ _ => rfl)
  | dnew g hg => exact mk se_dnew (.of se_dnew fun C x c env wh => by rw [chk_dnew] at c; split at c <;> first | rfl | cases c) (fun _ _ _ => rfl) (fun _ _ => rfl) (fun _ _ => rfl)
  | index a b ha hb => exact mk (se_index ha.1 hb.1) (.of (se_index ha.1 hb.1) fun C x c env wh => by rw [chk_index] at c; split at c <;> first | rfl | cases c) (fun _ _ _ => rfl) (fun _ _ => rfl) (fun _ _ => rfl)
  | comp own t it c e hi hc he => exact mk (se_comp hi.2.2.2.2.2 hc.2.1 he.1) (.of (se_comp hi.2.2.2.2.2 hc.2.1 he.1) fun C x c env wh => by rw [chk_comp] at c; split at c <;> first | rfl | cases c) (fun _ _ _ => rfl) (fun _ _ => rfl) (fun _ _ => rfl)
  | comp2 own t1 it1 c1 t2 it2 c2 e h1 h2 h3 h4 h5 => exact mk (se_comp2 h1.2.2.2.2.2 h2.2.1 h3.2.2.2.2.2 h4.2.1 h5.1) (.of (se_comp2 h1.2.2.2.2.2 h2.2.1 h3.2.2.2.2.2 h4.2.1 h5.1) fun C x c env wh => by rw [chk_comp2] at c; split at c <;> first | rfl | cases c) (fun _ _ _ => rfl) (fun _ _ => rfl) (fun _ _ => rfl)
  | yes => exact ⟨never_E fun _ _ => rfl, never_T fun _ _ => rfl, never_L fun _ _ _ => rfl, never_BA fun _ _ => rfl, never_BO fun _ _ => rfl, never_I fun _ _ => rfl⟩
  | iter a ha => exact ⟨never_E fun _ _ => rfl, never_T fun _ _ => rfl, never_L fun _ _ _ => rfl, never_BA fun _ _ => rfl, never_BO fun _ _ => rfl, si_iter ha.1⟩
  | rg a b ha hb => exact ⟨never_E fun _ _ => rfl, never_T fun _ _ => rfl, never_L fun _ _ _ => rfl, never_BA fun _ _ => rfl, never_BO fun _ _ => rfl, si_rg ha.1 hb.1⟩
  | enum a ha => exact ⟨never_E fun _ _ => rfl, never_T fun _ _ => rfl, never_L fun _ _ _ => rfl, never_BA fun _ _ => rfl, never_BO fun _ _ => rfl, si_enum ha.1⟩
  | zip a b ha hb => exact ⟨never_E fun _ _ => rfl, never_T fun _ _ => rfl, never_L fun _ _ _ => rfl, never_BA fun _ _ => rfl, never_BO fun _ _ => rfl, si_zip ha.1 hb.1⟩
end
end Pi

set_option Elab.async false
set_option linter.all false
set_option maxRecDepth 100000
set_option maxHeartbeats 4000000
/-! Pi15: statements: what they mean, when a text is one. -/
namespace Pi
open PySem PySem.Spec PyProof.Rows L2
/-- the slots and names of a def that tells all pairs that follow from some -/
structure SuN where
  f : Nat
  k : Nat
  m : Nat
  i1 : Nat
  i2 : Nat
  i3 : Nat
  x : Str
  a : Str
  y : Str
  v1 : Str
  v2 : Str
  v3 : Str
inductive S where
  | asg (t : Tg) (e : E) | own (i : Nat) (e : E) | expr (e : E) | ret (e : E) | retN
  | ite (c : E) (a b : S) | for_ (t : Tg) (it : E) (b : S) | while_ (n : Nat) (c : E) (b : S)
  | raise (x : Str) (c : Nat) | brk | pass
  | app (i : Nat) (e : E) | ext (i : Nat) (e : E) | frz (i : Nat) | mov (j i : Nat)
  | tryE (b : S) (i : Nat) (cs : List Nat)
  | own2 (f : Bool) (i j : Nat) (e : E)
  | memo (d k : Nat) (b : S) (e : E)
  | sure (n : SuN) (own : List (Str × Nat)) (e ne : E)
  | skip | seq (a b : S)
inductive Fl where | nx | rt (d : D) | bk
def forGo (f : D → En → R (Fl × En)) : List D → En → R (Fl × En)
  | [], ρ => .ok (.nx, ρ)
  | d :: ds, ρ => match f d ρ with
    | .ok (.nx, ρ') => forGo f ds ρ'
    | .ok (.bk, ρ') => .ok (.nx, ρ')
    | .ok (.rt v, ρ') => .ok (.rt v, ρ')
    | .exc c => .exc c
    | .bad => .bad
def whileGo (c : En → R D) (b : En → R (Fl × En)) : Nat → En → R (Fl × En)
  | 0, _ => .bad
  | n + 1, ρ => match c ρ with
    | .ok (.bool true) => (match b ρ with
      | .ok (.nx, ρ') => whileGo c b n ρ'
      | .ok (.bk, ρ') => .ok (.nx, ρ')
      | .ok (.rt v, ρ') => .ok (.rt v, ρ')
      | .exc c => .exc c
      | .bad => .bad)
    | .ok (.bool false) => .ok (.nx, ρ)
    | .exc c => .exc c
    | _ => .bad
def thenS (r : R (Fl × En)) (f : En → R (Fl × En)) : R (Fl × En) :=
  match r with
  | .ok (.nx, ρ) => f ρ
  | r => r
def bodyT (r : R En) (f : En → R (Fl × En)) : R (Fl × En) :=
  match r with
  | .ok ρ => f ρ
  | _ => .bad
def storeT (r : R En) : R (Fl × En) :=
  match r with
  | .ok ρ => .ok (.nx, ρ)
  | _ => .bad
@[simp] theorem thenS_nx (ρ : En) (f : En → R (Fl × En)) : thenS (.ok (.nx, ρ)) f = f ρ := rfl
@[simp] theorem thenS_rt (d : D) (ρ : En) (f : En → R (Fl × En)) : thenS (.ok (.rt d, ρ)) f = .ok (.rt d, ρ) := rfl
@[simp] theorem thenS_bk (ρ : En) (f : En → R (Fl × En)) : thenS (.ok (.bk, ρ)) f = .ok (.bk, ρ) := rfl
@[simp] theorem thenS_exc (c : Nat) (f : En → R (Fl × En)) : thenS (.exc c) f = .exc c := rfl
@[simp] theorem thenS_bad (f : En → R (Fl × En)) : thenS .bad f = .bad := rfl
@[simp] theorem bodyT_ok (ρ : En) (f : En → R (Fl × En)) : bodyT (.ok ρ) f = f ρ := rfl
@[simp] theorem storeT_ok (ρ : En) : storeT (.ok ρ) = .ok (.nx, ρ) := rfl
def ownR (i : Nat) (ρ : En) : D → R (Fl × En)
  | .list ds => .ok (.nx, ρ.set i (.own ds))
  | _ => .bad
def appR (i : Nat) (ρ : En) (d : D) : R (Fl × En) :=
  match ρ[i]? with
  | some (.own ds) => if ds.length < big then .ok (.nx, ρ.set i (.own (ds ++ [d]))) else .bad
  | _ => .bad
def extR (i : Nat) (ρ : En) (d : D) : R (Fl × En) :=
  match ρ[i]?, d with
  | some (.own ds), .list es => if ds.length + es.length ≤ big then .ok (.nx, ρ.set i (.own (ds ++ es))) else .bad
  | _, _ => .bad
def ownB (ρ : En) (i : Nat) : Bool :=
  match ρ[i]? with
  | some (.own _) => true
  | _ => false
def frzR (i : Nat) (ρ : En) : R (Fl × En) :=
  match ρ[i]? with
  | some (.own ds) => .ok (.nx, ρ.set i (.val (.list ds)))
  | _ => .ok (.nx, ρ)
def movR (j i : Nat) (ρ : En) : R (Fl × En) :=
  match ρ[i]? with
  | some (.own ds) => .ok (.nx, (ρ.set i .no).set j (.own ds))
  | _ => .bad
/-- except the highest as e: return [isinstance(e, c1), ..].index(True) -/
def tryJ (j : Option Nat) (ρ : En) : R (Fl × En) :=
  match j with
  | some j => .ok (.rt (.int (j : Nat)), ρ)
  | none => .bad
def tryR (cs : List Nat) (ρ : En) (r : R (Fl × En)) : R (Fl × En) :=
  match r with
  | .exc c => tryJ (cs.findIdx? (· == c)) ρ
  | .ok p => .ok p
  | .bad => .bad
/-- what the table in slot d must have for the key in slot k -/
def memoKey (ρ : En) (d k : Nat) : Option Int :=
  match ρ[d]?, ρ[k]? with
  | some (.val (.dict [(.bool true, t)])), some (.val (.tuple ds)) => (match knownZ t, asInts ds with
    | some kn, some ks => memoG kn ks
    | _, _ => none)
  | _, _ => none
/-- the end of a def that fills a table -/
def memoR (ρ : En) (d k : Nat) (r : R (Fl × En)) (e : En → R D) : R (Fl × En) :=
  match r with
  | .ok (.nx, ρ') => (match e ρ' with
    | .ok (.int n) => if memoKey ρ d k = some n ∧ memoKey ρ' d k = some n then .ok (.rt (.int n), ρ') else .bad
    | _ => .bad)
  | _ => .bad
def sureStep (mid one oth : Int) (ps : List (Int × Int)) : List (Int × Int) := if (one, mid) ∈ ps ∧ (mid, oth) ∈ ps then insZ ps (one, oth) else ps
def sureL (ns : List Int) (ps : List (Int × Int)) : List (Int × Int) := ns.foldl (fun ps mid => ns.foldl (fun ps one => ns.foldl (fun ps oth => sureStep mid one oth ps) ps) ps) ps
/-- all pairs that follow, sorted -/
def sureR (ρ : En) (f : Nat) (ne : En → R D) : D → R (Fl × En)
  | .list ds => (match pairsZ ds with
    | some ps => (match ne (ρ.set f .no) with
      | .ok (.list es) => (match asInts es with
        | some ns => if ns.all (fun x => decide (0 ≤ x) && decide (x < 8)) then .ok (.rt (.list ((sortP (sureL ns (ps.foldl insZ []))).map pD)), ρ) else .bad
        | none => .bad)
      | _ => .bad)
    | none => .bad)
  | _ => .bad
section
variable (T : Str → List D → R D)
def exS : S → En → R (Fl × En)
  | .asg t e, ρ => do
    let d ← ev T e ρ
    storeT (setT t d ρ)
  | .own i e, ρ => do
    let d ← ev T e ρ
    ownR i ρ d
  | .expr e, ρ => do
    let _ ← ev T e ρ
    .ok (.nx, ρ)
  | .ret e, ρ => do
    let d ← ev T e ρ
    .ok (.rt d, ρ)
  | .retN, ρ => .ok (.rt .none, ρ)
  | .ite c a b, ρ => do
    let x ← ev T c ρ
    match x with
    | .bool true => exS a ρ
    | .bool false => exS b ρ
    | _ => .bad
  | .for_ t it b, ρ => do
    let ds ← evI T it ρ
    forGo (fun d ρ => bodyT (setT t d ρ) (exS b)) ds ρ
  | .while_ n c b, ρ => whileGo (ev T c) (exS b) n ρ
  | .raise _ c, _ => .exc c
  | .brk, ρ => .ok (.bk, ρ)
  | .pass, ρ => .ok (.nx, ρ)
  | .app i e, ρ => if ownB ρ i then do
      let d ← ev T e ρ
      appR i ρ d
    else .bad
  | .ext i e, ρ => if ownB ρ i then do
      let d ← ev T e ρ
      extR i ρ d
    else .bad
  | .frz i, ρ => frzR i ρ
  | .mov j i, ρ => movR j i ρ
  | .tryE b _ cs, ρ => tryR cs ρ (exS b ρ)
  | .own2 _ i j e, ρ => do
    let d ← ev T e ρ
    .ok (.nx, (ρ.set j (.own [])).set i (.val d))
  | .memo d k b e, ρ => memoR ρ d k (exS b ρ) (ev T e)
  | .sure n _ e ne, ρ => do
    let d ← ev T e ρ
    sureR ρ n.f (ev T ne) d
  | .skip, ρ => .ok (.nx, ρ)
  | .seq a b, ρ => thenS (exS a ρ) (exS b)
/-- a def: its parameters, its other names empty -/
def runD (n : Nat) (b : S) (ds : List D) : R D :=
  match exS T b (ds.map Sl.val ++ List.replicate (n - ds.length) Sl.no) with
  | .ok (.rt d, _) => .ok d
  | .ok (.nx, _) => .ok .none
  | .ok (.bk, _) => .bad
  | .exc c => .exc c
  | .bad => .bad
end

/-! ### forms -/
def notComp : Expr → Bool
  | .ListComp _ _ _ _ => false
  | .SetComp _ _ _ _ => false
  | .DictComp _ _ _ _ _ => false
  | _ => true
def isTupX : Expr → Bool
  | .Tuple _ _ _ => true
  | _ => false
/-- x = [..]: stored within the comprehension's frame -/
def swLc (C : Ctx) (x : Str) (px : Pos) : Expr → Bool
  | .ListComp _ _ scope pos => decide (C.sc.names.lookup x = some .local) && decide (px.line = pos.line) && !(scope.names.any fun (n, k) => n == x && (k == .local || k == .cell))
  | _ => false
/-- x = [..]: stored as any value -/
def noLc (C : Ctx) (x : Str) : Expr → Bool
  | .ListComp _ _ _ _ => decide (C.sc.names.lookup x ≠ some .local)
  | e => notComp e
def sw2 (C : Ctx) : List Expr → List Expr → Bool
  | [.Name x px, .Name y py], [a, b] => decide (C.sc.names.lookup x = some .local) && decide (C.sc.names.lookup y = some .local) && decide (px.line = py.line) && decide (x ≠ y) && notStar a && notStar b && !([a, b].all (foldedForSure 8)) && !([a, b].all (constantsAlone 8))
  | _, _ => false
def sw3 (C : Ctx) : List Expr → List Expr → Bool
  | [.Name x px, .Name y py, .Name z pz], [a, b, c] => decide (C.sc.names.lookup x = some .local) && decide (C.sc.names.lookup y = some .local) && decide (C.sc.names.lookup z = some .local) && decide (px.line = py.line) && decide (px.line = pz.line) &&
    decide (x ≠ y) && decide (x ≠ z) && decide (y ≠ z) && notStar a && notStar b && notStar c && !([a, b, c].all (foldedForSure 8)) && !([a, b, c].all (constantsAlone 8))
  | _, _ => false
/-- (a, b) = (x, y) in the plain way -/
def notLoc (C : Ctx) : Expr → Bool
  | .Name id _ => !(C.sc.names.lookup id == some .local)
  | _ => true
def noSw (C : Ctx) (ts vs : List Expr) : Bool :=
  !(ts.length == 2 || ts.length == 3) || vs.length != ts.length || ts.any (notLoc C) || vs.all (foldedForSure 8)
def listy : E → Bool
  | .lst _ => true
  | .bin .add _ _ => true
  | .slc _ _ _ => true
  | .rev _ => true
  | .bi .list _ => true
  | .bi .sorted _ => true
  | .lrg _ _ => true
  | .sset _ => true
  | .comp _ _ _ _ _ => true
  | .comp2 _ _ _ _ _ _ _ _ => true
  | _ => false
/-- name = e -/
def chkSet (C : Ctx) (i : Nat) (e : E) (x : Str) (px : Pos) (y : Expr) : Bool :=
  decide (C.N[i]? = some x) && locB C x && chk e C y && (noLc C x y || swLc C x px y)
/-- isinstance(n, c), .. -/
def chkIs (C : Ctx) (n : Str) : List Nat → List Expr → Bool
  | [], [] => true
  | d :: ds, .Call (.Name f _) [.Name m _, .Name y _] [] _ :: es => decide (f = "isinstance") && glB C f && decide (m = n) && glB C y && okName y && decide (C.ex.lookup y = some d) && decide (d ≠ 0) && chkIs C n ds es
  | _, _ => false
/-- except x as n: return [..].index(True) -/
def chkH (C : Ctx) (i : Nat) (cs : List Nat) (x n : Str) : List Stmt → Bool
  | [.Return (some (.Call (.Attribute (.List es _) m ap) [.Constant (.bool true) _ _] [] cp)) _] =>
    decide (C.N[i]? = some n) && decide (C.sc.names.lookup n = some .local) && okName n && glB C x && okName x && decide (C.ex.lookup x = some 0) && decide (m = "index") && decide (ap.endLine = cp.line) && decide (cs.length ≤ 100) && chkIs C n cs es
  | _ => false
def isNilX : Expr → Bool
  | .List [] _ => true
  | _ => false
def noMemo : S → Bool
  | .memo _ _ _ _ => false
  | .sure _ _ _ _ => false
  | .seq _ b => noMemo b
  | _ => true
/-- (u, v) in x -/
def chkIn (x u v : Str) : Expr → Bool
  | .Compare (.Tuple [.Name a _, .Name b _] _ _) [.In] [.Name c _] _ => decide (a = u) && decide (b = v) && decide (c = x)
  | _ => false
/-- x[u, v] = True -/
def chkPut (x u v : Str) : Stmt → Bool
  | .Assign [.Subscript (.Name c _) (.Tuple [.Name a _, .Name b _] _ _) _] (.Constant (.bool _) _ _) _ => decide (a = u) && decide (b = v) && decide (c = x)
  | _ => false
def chkIf (n : SuN) : List Stmt → Bool
  | [.If (.BoolOp .And [e1, e2] _) [s1] [] _] => chkIn n.x n.v2 n.v1 e1 && chkIn n.x n.v1 n.v3 e2 && chkPut n.x n.v2 n.v3 s1
  | _ => false
/-- for v in y: .. -/
def chkFor (v y : Str) (k : List Stmt → Bool) : List Stmt → Bool
  | [.For (.Name a _) (.Name b _) body [] _] => decide (a = v) && decide (b = y) && k body
  | _ => false
def nmB (C : Ctx) (i : Nat) (x : Str) : Bool := decide (C.N[i]? = some x) && decide (C.sc.names.lookup x = some .local) && okName x
def chkSure (n : SuN) (own : List (Str × Nat)) (e ne : E) (C : Ctx) : List Stmt → Bool
  | [.Assign [.Name x px] (.DictComp (.Name a _) (.Constant (.bool _) _ _) [⟨.Name b _, it, [], 0⟩] scope pos) _, .Assign [.Name y py] ny _, s3, .Return (some (.Call (.Name so _) [.Name z _] [] _)) _] =>
    decide (x = n.x) && decide (z = n.x) && decide (a = n.a) && decide (b = n.a) && decide (y = n.y) && decide (so = "sorted") && glB C so && nmB C n.f n.x && nmB C n.m n.y && nmB C n.i1 n.v1 && nmB C n.i2 n.v2 && nmB C n.i3 n.v3 &&
    decide (px.line = pos.line) && !(scope.names.any fun (m, k) => m == n.x && (k == .local || k == .cell)) && blkC C.N C.sc scope own && decide (n.k ∈ own.map (·.2)) && nmB (C.blk scope) n.k n.a && notSet it && chk e C it && !isBor e &&
    chkSet C n.m ne y py ny && !isBor ne && decide (n.m ≠ n.f) && decide (n.i1 ≠ n.f) && decide (n.i2 ≠ n.f) && decide (n.i3 ≠ n.f) && decide (n.i1 ≠ n.m) && decide (n.i2 ≠ n.m) && decide (n.i3 ≠ n.m) && decide (n.i1 ≠ n.i2) && decide (n.i1 ≠ n.i3) && decide (n.i2 ≠ n.i3) &&
    chkFor n.v1 n.y (chkFor n.v2 n.y (chkFor n.v3 n.y (chkIf n))) [s3]
  | _ => false
def chkS : S → Ctx → Stmt → Bool
  | .asg t e, C, s => (match s with
    | .Assign [tg] y _ => !isBor e && (match t, tg with
      | .nm i, .Name x px => chkSet C i e x px y
      | .tp is, .Tuple ts _ _ => chkNs C is ts && chk e C y && notComp y && (match y with
        | .Tuple vs _ _ => noSw C ts vs || (decide (is.Nodup) && (sw2 C ts vs || sw3 C ts vs))
        | _ => true)
      | _, _ => false)
    | _ => false)
  | .own i e, C, s => (match s with
    | .Assign [.Name x px] y _ => listy e && chkSet C i e x px y
    | _ => false)
  | .expr e, C, s => (match s with | .Expr y _ => chk e C y && notComp y | _ => false)
  | .ret e, C, s => (match s with | .Return (some y) _ => !isBor e && chk e C y | _ => false)
  | .retN, _, s => (match s with | .Return none _ => true | _ => false)
  | .ite c a b, C, s => (match s with | .If y xs zs _ => !isIte c && chk c C y && chkSs a C xs && chkSs b C zs | _ => false)
  | .for_ t it b, C, s => (match s with
    | .For tg y xs [] _ => chkTg C t tg && (!pairIt it || isTp t) && notSet y && clean it && chkI it C y && chkSs b C xs
    | _ => false)
  | .while_ _ c b, C, s => (match s with | .While y xs [] _ => !isIte c && chk c C y && chkSs b C xs | _ => false)
  | .raise x c, C, s => (match s with
    | .Raise (some (.Call (.Name y _) [.Constant (.str _) _ _] [] _)) none _ => decide (y = x) && glB C y && okName y && decide (C.ex.lookup y = some c)
    | _ => false)
  | .brk, _, s => (match s with | .Break _ => true | _ => false)
  | .pass, _, s => (match s with | .Pass _ => true | _ => false)
  | .app i e, C, s => (match s with
    | .Expr (.Call (.Attribute (.Name x _) m ap) [y] [] cp) _ => decide (m = "append") && decide (ap.endLine = cp.line) && decide (C.N[i]? = some x) && visB C x && okName x && !isBor e && chk e C y
    | _ => false)
  | .ext i e, C, s => (match s with
    | .Expr (.Call (.Attribute (.Name x _) m ap) [y] [] cp) _ => decide (m = "extend") && decide (ap.endLine = cp.line) && decide (C.N[i]? = some x) && visB C x && okName x && !isBor e && chk e C y
    | _ => false)
  | .mov j i, C, s => (match s with
    | .Assign [.Name x _] (.Name y _) _ => decide (C.N[j]? = some x) && locB C x && decide (C.N[i]? = some y) && visB C y && okName y && decide (i ≠ j)
    | _ => false)
  | .tryE b i cs, C, s => (match s with
    | .Try xs [.ExceptHandler (some (.Name x _)) (some n) su _] [] [] _ => chkSs b C xs && chkH C i cs x n su
    | _ => false)
  | .own2 f i j e, C, s => (match s with
    | .Assign [.Tuple [.Name x px, .Name y py] _ _] (.Tuple [a, b] _ _) _ => (sw2 C [.Name x px, .Name y py] [a, b] || (!f && noSw C [.Name x px, .Name y py] [a, b] && chkNs C [i, j] [.Name x px, .Name y py])) && !isBor e && decide (i ≠ j) &&
      (if f then decide (C.N[j]? = some x) && decide (C.N[i]? = some y) && isNilX a && chk e C b else decide (C.N[i]? = some x) && decide (C.N[j]? = some y) && chk e C a && isNilX b)
    | _ => false)
  | .memo _ _ _ _, _, _ => false
  | .sure _ _ _ _, _, _ => false
  | .frz _, _, _ => false
  | .skip, _, _ => false
  | .seq _ _, _, _ => false
where
  chkSs : S → Ctx → List Stmt → Bool
  | .skip, _, ss => ss.isEmpty
  | .seq a b, C, ss => (match a with
    | .frz _ => chkSs b C ss
    | _ => (match ss with | s :: r => chkS a C s && chkSs b C r | [] => false))
  | .memo d k b e, C, ss => (match ss with
    | [.If (.Compare (.Name y _) [.NotIn] [.Name z _] _) xs [] _, .Return (some (.Subscript (.Name z2 _) (.Name y2 _) _)) _] =>
      decide (C.N[k]? = some y) && visB C y && okName y && decide (C.N[d]? = some z) && visB C z && okName z && decide (z2 = z) && decide (y2 = y) && noMemo b &&
      (match xs.reverse with
      | .Assign [.Subscript (.Name z3 _) (.Name y3 _) _] ex _ :: rs => decide (z3 = z) && decide (y3 = y) && chk e C ex && notComp ex && chkSs b C rs.reverse
      | _ => false)
    | _ => false)
  | .sure n own e ne, C, ss => chkSure n own e ne C ss
  | _, _, _ => false
theorem chkSs_skip (C : Ctx) (ss : List Stmt) : chkS.chkSs .skip C ss = ss.isEmpty := rfl
theorem chkSs_seq (a b : S) (C : Ctx) (ss : List Stmt) : chkS.chkSs (.seq a b) C ss = (match a with
    | .frz _ => chkS.chkSs b C ss
    | _ => (match ss with | s :: r => chkS a C s && chkS.chkSs b C r | [] => false)) := rfl
theorem chkSs_memo (d k : Nat) (b : S) (e : E) (C : Ctx) (ss : List Stmt) : chkS.chkSs (.memo d k b e) C ss = (match ss with
    | [.If (.Compare (.Name y _) [.NotIn] [.Name z _] _) xs [] _, .Return (some (.Subscript (.Name z2 _) (.Name y2 _) _)) _] =>
      decide (C.N[k]? = some y) && visB C y && okName y && decide (C.N[d]? = some z) && visB C z && okName z && decide (z2 = z) && decide (y2 = y) && noMemo b &&
      (match xs.reverse with
      | .Assign [.Subscript (.Name z3 _) (.Name y3 _) _] ex _ :: rs => decide (z3 = z) && decide (y3 = y) && chk e C ex && notComp ex && chkS.chkSs b C rs.reverse
      | _ => false)
    | _ => false) := rfl
end Pi

set_option Elab.async false
set_option linter.all false
set_option maxRecDepth 100000
set_option maxHeartbeats 4000000
/-! Pi16: the model does what statements mean. -/
namespace Pi
open PySem PySem.Spec PyProof.Rows L2
variable [MP]
def EvS (X : Cx) (st : Stmt) : TS := fun D σ H => ∀ pins s, L2.Inv X pins σ H s → wpAny (model X.prog X.w) X.A (exec st X.env) (SP X pins D) X.xe s
def EvSs (X : Cx) (st : List Stmt) : TS := fun D σ H => ∀ pins s, L2.Inv X pins σ H s → wpAny (model X.prog X.w) X.A (execs st X.env) (SP X pins D) X.xe s
theorem evPS (X : Cx) (st : Stmt) : PS X st (EvS X st) := ⟨fun pins s σ H D I h => h pins s I⟩
theorem evPSs (X : Cx) (st : List Stmt) : PSs X st (EvSs X st) := ⟨fun pins s σ H D I h => h pins s I⟩
theorem ofPS {X : Cx} {st : Stmt} {t : TS} {D : Ends} {σ : L2.St} {H : Hp} (h : PS X st t) (q : t D σ H) : EvS X st D σ H := fun pins s I => h.run pins s σ H D I q
theorem ofPSs {X : Cx} {st : List Stmt} {t : TS} {D : Ends} {σ : L2.St} {H : Hp} (h : PSs X st t) (q : t D σ H) : EvSs X st D σ H := fun pins s I => h.run pins s σ H D I q

/-- the slots and the heap at a statement; H0, O0: at the def's entry -/
structure Rel (K : PySem.W.Frag) (H0 : Hp) (O0 : List Addr) (ρ : En) (O : List Addr) (σ : L2.St) (H : Hp) : Prop extends RelE K ρ O σ H where
  ownO : ∀ (i : Nat) (ds : List D) (a : Addr), ρ[i]? = some (Sl.own ds) → σ[i]? = some (some (V.ref a)) → a ∈ O ∧ H0 a = none
  inj : ∀ (i j : Nat) (ds es : List D) (a : Addr), ρ[i]? = some (Sl.own ds) → ρ[j]? = some (Sl.own es) → σ[i]? = some (some (V.ref a)) → σ[j]? = some (some (V.ref a)) → i = j
  keep : Same H0 H
  sub : ∀ a ∈ O0, a ∈ O
  dom0 : Dom H0 O0
section
variable {K : PySem.W.Frag} {H0 : Hp} {O0 : List Addr} {ρ : En} {O : List Addr} {σ : L2.St} {H H' : Hp}
theorem Rel.mono (r : Rel K H0 O0 ρ O σ H) (s : Same H H') : Rel K H0 O0 ρ O σ H' := { r.toRelE.mono s with ownO := r.ownO, inj := r.inj, keep := r.keep.trans s, sub := r.sub, dom0 := r.dom0 }
theorem Rel.ret (r : Rel K H0 O0 ρ O σ H) {v : V} {d : D} (h : Rp K (Fz H O) v d) : Rp K (Fz H O0) v d := h.mono (Fz.less r.sub)
/-- a value stored -/
theorem Rel.set (r : Rel K H0 O0 ρ O σ H) {i : Nat} {d : D} {v : V} (h : Rp K (Fz H O) v d) : Rel K H0 O0 (ρ.set i (.val d)) O (σ.set i (some v)) H :=
  { r.toRelE.set h with
    ownO := fun j es a q q' => by
      rcases getElem?_set_cases q with ⟨rfl, hl, e1⟩ | ⟨hne, q⟩
      · cases e1
      · rw [List.getElem?_set_ne (Ne.symm hne)] at q'
        exact r.ownO j es a q q'
    inj := fun j k es fs a q1 q2 q3 q4 => by
      rcases getElem?_set_cases q1 with ⟨rfl, hl, e1⟩ | ⟨hne, q1⟩
      · cases e1
      · rcases getElem?_set_cases q2 with ⟨rfl, hl, e1⟩ | ⟨hne2, q2⟩
        · cases e1
        · rw [List.getElem?_set_ne (Ne.symm hne)] at q3
          rw [List.getElem?_set_ne (Ne.symm hne2)] at q4
          exact r.inj j k es fs a q1 q2 q3 q4
    keep := r.keep, sub := r.sub, dom0 := r.dom0 }
theorem Rel.setAll : ∀ {is : List Nat} {vs : List V} {ds : List D} {ρ : En} {σ : L2.St}, is.length = ds.length → Rel K H0 O0 ρ O σ H → RpL K (Fz H O) vs ds →
    ∃ σ', Rel K H0 O0 (Pi.setAll is ds ρ) O σ' H ∧ ∀ Q : L2.St → Hp → Prop, Q σ' H → gAll is vs σ H Q
  | [], _, _, ρ, σ, hl, r, .nil => ⟨σ, r, fun Q q => ⟨rfl, q⟩⟩
  | [], _, _, ρ, σ, hl, r, .cons _ _ => by cases hl
  | i :: is, _, _, ρ, σ, hl, r, .nil => by cases hl
  | i :: is, v :: vs, d :: ds, ρ, σ, hl, r, .cons h t => by
    obtain ⟨σ', r', q'⟩ := Rel.setAll (is := is) (by simpa using hl) (r.set (i := i) h) t
    exact ⟨σ', r', fun Q q => ⟨v, vs, rfl, q' Q q⟩⟩
theorem Rel.tgt {t : Tg} {x : V} {d : D} {ρ' : En} (r : Rel K H0 O0 ρ O σ H) (hs : setT t d ρ = .ok ρ') (h : Tk K H O t x d) : ∃ σ', Rel K H0 O0 ρ' O σ' H ∧ ∀ Q : L2.St → Hp → Prop, Q σ' H → gT K t x σ H Q := by
  cases t with
  | nm i =>
    cases hs
    rcases h with h | ⟨z, _⟩
    · exact ⟨_, r.set h, fun Q q => q⟩
    · cases z
  | tp is =>
    unfold setT at hs
    split at hs
    · rename_i e; cases e
    · rename_i is' ds e
      cases e
      split at hs
      · rename_i hl
        cases hs
        have hu : ∃ a xs, x = .ref a ∧ SqT K H a xs ∧ RpL K (Fz H O) xs ds := by
          rcases h with h | ⟨_, a, xs, ds', e1, e2, h1, h2⟩
          · cases h with
            | tup h1 h2 h3 => exact ⟨_, _, rfl, SqT.fr ((Fz.of h1).1), h3⟩
          · cases e2; exact ⟨a, xs, e1, h1, h2⟩
        obtain ⟨a, xs, e1, h1, h2⟩ := hu
        obtain ⟨σ', r', q'⟩ := r.setAll hl h2
        exact ⟨σ', r', fun Q q => ⟨a, xs, e1, h1, by rw [h2.length, hl], q' Q q⟩⟩
      · cases hs
    · cases hs
/-- a new list stored as one's own -/
theorem Rel.owns (r : Rel K H0 O0 ρ O σ H) (s : Same H H') {i : Nat} {v : V} {ds : List D} (h : New K H H' O v ds) : ∃ a, v = .ref a ∧ Rel K H0 O0 (ρ.set i (.own ds)) (a :: O) (σ.set i (some v)) H' ∧ Same (Fz H O) (Fz H' (a :: O)) := by
  obtain ⟨a, vs, rfl, hn, hl, rv⟩ := h
  have hnO : a ∉ O := r.dom.out hn
  have fz : Same (Fz H O) (Fz H' (a :: O)) := Fz.cons s hn
  have na : ∀ (j : Nat) (es : List D) (b : Addr), ρ[j]? = some (Sl.own es) → σ[j]? = some (some (V.ref b)) → b ≠ a := fun j es b q1 q2 e => by
    have := (r.ownO j es b q1 q2).1
    rw [e] at this
    exact hnO this
  have r1 : RelE K ρ (a :: O) σ H' := r.toRelE.mono2 (fun b o q ⟨vs, e⟩ => by subst e; exact s.l q) fz (fun b hb => by
    rcases List.mem_cons.mp hb with rfl | hb
    · rw [hl]; exact fun z => nomatch z
    · exact r.dom.same s b hb)
  refine ⟨a, rfl, { len := ?_, val := ?_, own := ?_, dom := r1.dom, ownO := ?_, inj := ?_, keep := r.keep.trans s, sub := fun b hb => List.mem_cons_of_mem _ (r.sub b hb), dom0 := r.dom0 }, fz⟩
  · rw [List.length_set, List.length_set, r.len]
  · intro j d q
    rcases getElem?_set_cases q with ⟨rfl, hl, e1⟩ | ⟨hne, q⟩
    · cases e1
    · obtain ⟨w, h1, h2⟩ := r1.val j d q
      exact ⟨w, by rw [List.getElem?_set_ne (Ne.symm hne)]; exact h1, h2⟩
  · intro j es q
    rcases getElem?_set_cases q with ⟨rfl, hlt, e1⟩ | ⟨hne, q⟩
    · cases e1
      exact ⟨a, vs, List.getElem?_set_self (by rw [← r.len]; exact hlt), hl, rv⟩
    · obtain ⟨b, ws, h1, h2⟩ := r1.own j es q
      exact ⟨b, ws, by rw [List.getElem?_set_ne (Ne.symm hne)]; exact h1, h2⟩
  · intro j es b q q'
    rcases getElem?_set_cases q with ⟨rfl, hlt, e1⟩ | ⟨hne, q⟩
    · rw [List.getElem?_set_self (by rw [← r.len]; exact hlt)] at q'
      cases q'
      exact ⟨List.mem_cons_self, r.keep.free hn⟩
    · rw [List.getElem?_set_ne (Ne.symm hne)] at q'
      obtain ⟨h1, h2⟩ := r.ownO j es b q q'
      exact ⟨List.mem_cons_of_mem _ h1, h2⟩
  · intro j k es fs b q1 q2 q3 q4
    rcases getElem?_set_cases q1 with ⟨ej, hlt, e1⟩ | ⟨hne, p1⟩
    · rcases getElem?_set_cases q2 with ⟨ek, hlt2, e2⟩ | ⟨hne2, p2⟩
      · rw [ej, ek]
      · rw [ej, List.getElem?_set_self (by rw [← r.len]; exact hlt)] at q3
        rw [List.getElem?_set_ne (Ne.symm hne2)] at q4
        cases q3
        exact (na k fs _ p2 q4 rfl).elim
    · rcases getElem?_set_cases q2 with ⟨ek, hlt2, e2⟩ | ⟨hne2, p2⟩
      · rw [ek, List.getElem?_set_self (by rw [← r.len]; exact hlt2)] at q4
        rw [List.getElem?_set_ne (Ne.symm hne)] at q3
        cases q4
        exact (na j es _ p1 q3 rfl).elim
      · rw [List.getElem?_set_ne (Ne.symm hne)] at q3
        rw [List.getElem?_set_ne (Ne.symm hne2)] at q4
        exact r.inj j k es fs b p1 p2 q3 q4
/-- one's own list grows -/
theorem Rel.grow (r : Rel K H0 O0 ρ O σ H) {i : Nat} {ds es : List D} {a : Addr} {vs ws : List V} (hi : ρ[i]? = some (Sl.own ds)) (hs : σ[i]? = some (some (V.ref a))) (hl : H a = some (.lst vs)) (rv : RpL K (Fz H O) vs ds) (rw' : RpL K (Fz H O) ws es) :
    Rel K H0 O0 (ρ.set i (.own (ds ++ es))) O σ (upd H a (.lst (vs ++ ws))) ∧ Same (Fz H O) (Fz (upd H a (.lst (vs ++ ws))) O) := by
  obtain ⟨haO, ha0⟩ := r.ownO i ds a hi hs
  have fz := Fz.updO (H := H) (O := O) (a := a) (ys := vs ++ ws) haO hl
  have hlt : i < ρ.length := (List.getElem?_eq_some_iff.mp hi).1
  refine ⟨{ len := by rw [List.length_set, r.len], val := ?_, own := ?_, dom := ?_, ownO := ?_, inj := ?_, keep := ?_, sub := r.sub, dom0 := r.dom0 }, by rw [fz]; exact Same.refl _⟩
  · intro j d q
    rcases getElem?_set_cases q with ⟨rfl, _, e1⟩ | ⟨hne, q⟩
    · cases e1
    · rw [fz]; exact r.val j d q
  · intro j fs q
    rcases getElem?_set_cases q with ⟨rfl, _, e1⟩ | ⟨hne, q⟩
    · cases e1
      refine ⟨a, vs ++ ws, hs, upd_same, ?_⟩
      rw [fz]; exact rv.append rw'
    · obtain ⟨b, us, h1, h2, h3⟩ := r.own j fs q
      have hb : b ≠ a := fun e => hne (r.inj j i fs ds a q hi (by rw [← e]; exact h1) hs)
      refine ⟨b, us, h1, by rw [upd_ne hb]; exact h2, ?_⟩
      rw [fz]; exact h3
  · intro b hb
    by_cases e : b = a
    · rw [e, upd_same]; exact fun z => nomatch z
    · rw [upd_ne e]; exact r.dom b hb
  · intro j fs b q q'
    rcases getElem?_set_cases q with ⟨rfl, _, e1⟩ | ⟨hne, q⟩
    · rw [hs] at q'; cases q'; exact ⟨haO, ha0⟩
    · exact r.ownO j fs b q q'
  · intro j k fs gs b q1 q2 q3 q4
    have go : ∀ (j : Nat) (fs : List D), (ρ.set i (.own (ds ++ es)))[j]? = some (Sl.own fs) → ∃ fs', ρ[j]? = some (Sl.own fs') := fun j fs q => by
      rcases getElem?_set_cases q with ⟨rfl, _, e1⟩ | ⟨hne, q⟩
      · exact ⟨ds, hi⟩
      · exact ⟨fs, q⟩
    obtain ⟨f1, p1⟩ := go j fs q1
    obtain ⟨f2, p2⟩ := go k gs q2
    exact r.inj j k f1 f2 b p1 p2 q3 q4
  · exact r.keep.grow ha0 hl
/-- one's own list is no longer changed -/
theorem Rel.frz (r : Rel K H0 O0 ρ O σ H) {i : Nat} {ds : List D} (hi : ρ[i]? = some (Sl.own ds)) : ∃ O', Rel K H0 O0 (ρ.set i (.val (.list ds))) O' σ H ∧ Same (Fz H O) (Fz H O') := by
  obtain ⟨a, vs, hs, hl, rv⟩ := r.own i ds hi
  obtain ⟨haO, ha0⟩ := r.ownO i ds a hi hs
  have hlt : i < ρ.length := (List.getElem?_eq_some_iff.mp hi).1
  have fz : Same (Fz H O) (Fz H (O.filter (· ≠ a))) := Fz.less fun b hb => (List.mem_filter.mp hb).1
  refine ⟨O.filter (· ≠ a), { len := by rw [List.length_set, r.len], val := ?_, own := ?_, dom := fun b hb => r.dom b (List.mem_filter.mp hb).1, ownO := ?_, inj := ?_, keep := r.keep, sub := fun b hb => List.mem_filter.mpr ⟨r.sub b hb, decide_eq_true fun e => r.dom0 b hb (by rw [e]; exact ha0)⟩, dom0 := r.dom0 }, fz⟩
  · intro j d q
    rcases getElem?_set_cases q with ⟨rfl, _, e1⟩ | ⟨hne, q⟩
    · cases e1
      exact ⟨_, hs, .lst (Fz.mk hl (fun m => by simpa using (List.mem_filter.mp m).2)) (rv.mono fz)⟩
    · obtain ⟨w, h1, h2⟩ := r.val j d q
      exact ⟨w, h1, h2.mono fz⟩
  · intro j fs q
    rcases getElem?_set_cases q with ⟨rfl, _, e1⟩ | ⟨hne, q⟩
    · cases e1
    · obtain ⟨b, us, h1, h2, h3⟩ := r.own j fs q
      exact ⟨b, us, h1, h2, h3.mono fz⟩
  · intro j fs b q q'
    rcases getElem?_set_cases q with ⟨rfl, _, e1⟩ | ⟨hne, q⟩
    · cases e1
    · obtain ⟨h1, h2⟩ := r.ownO j fs b q q'
      exact ⟨List.mem_filter.mpr ⟨h1, decide_eq_true fun e => hne (r.inj j i fs ds a q hi (by rw [← e]; exact q') hs)⟩, h2⟩
  · intro j k fs gs b q1 q2 q3 q4
    rcases getElem?_set_cases q1 with ⟨rfl, _, e1⟩ | ⟨_, q1⟩
    · cases e1
    · rcases getElem?_set_cases q2 with ⟨rfl, _, e1⟩ | ⟨_, q2⟩
      · cases e1
      · exact r.inj j k fs gs b q1 q2 q3 q4
/-- one's own list by another name -/
theorem Rel.mov (r : Rel K H0 O0 ρ O σ H) {i j : Nat} {ds : List D} (hij : i ≠ j) (hi : ρ[i]? = some (Sl.own ds)) : ∃ a, σ[i]? = some (some (V.ref a)) ∧ Rel K H0 O0 ((ρ.set i .no).set j (.own ds)) O (σ.set j (some (.ref a))) H := by
  obtain ⟨a, vs, hs, hl, rv⟩ := r.own i ds hi
  obtain ⟨haO, ha0⟩ := r.ownO i ds a hi hs
  have old : ∀ (k : Nat) (sl : Sl), k ≠ j → ((ρ.set i Sl.no).set j (.own ds))[k]? = some sl → sl ≠ .no → k ≠ i ∧ ρ[k]? = some sl := fun k sl hk q hn => by
    rw [List.getElem?_set_ne (Ne.symm hk)] at q
    rcases getElem?_set_cases q with ⟨rfl, _, e1⟩ | ⟨hne, q⟩
    · exact (hn e1).elim
    · exact ⟨hne, q⟩
  refine ⟨a, hs, { len := by rw [List.length_set, List.length_set, List.length_set, r.len], val := ?_, own := ?_, dom := r.dom, ownO := ?_, inj := ?_, keep := r.keep, sub := r.sub, dom0 := r.dom0 }⟩
  · intro k d q
    by_cases hk : k = j
    · subst hk
      rcases getElem?_set_cases q with ⟨_, _, e1⟩ | ⟨hne, _⟩
      · cases e1
      · exact (hne rfl).elim
    · obtain ⟨_, q⟩ := old k _ hk q (fun z => nomatch z)
      obtain ⟨w, h1, h2⟩ := r.val k d q
      exact ⟨w, by rw [List.getElem?_set_ne (Ne.symm hk)]; exact h1, h2⟩
  · intro k fs q
    by_cases hk : k = j
    · subst hk
      rcases getElem?_set_cases q with ⟨_, hlt, e1⟩ | ⟨hne, _⟩
      · cases e1
        rw [List.length_set] at hlt
        exact ⟨a, vs, List.getElem?_set_self (by rw [← r.len]; exact hlt), hl, rv⟩
      · exact (hne rfl).elim
    · obtain ⟨_, q⟩ := old k _ hk q (fun z => nomatch z)
      obtain ⟨b, us, h1, h2⟩ := r.own k fs q
      exact ⟨b, us, by rw [List.getElem?_set_ne (Ne.symm hk)]; exact h1, h2⟩
  · intro k fs b q q'
    by_cases hk : k = j
    · subst hk
      rcases getElem?_set_cases q with ⟨_, hlt, e1⟩ | ⟨hne, _⟩
      · rw [List.length_set] at hlt
        rw [List.getElem?_set_self (by rw [← r.len]; exact hlt)] at q'
        cases q'
        exact ⟨haO, ha0⟩
      · exact (hne rfl).elim
    · obtain ⟨_, q⟩ := old k _ hk q (fun z => nomatch z)
      rw [List.getElem?_set_ne (Ne.symm hk)] at q'
      exact r.ownO k fs b q q'
  · intro k l fs gs b q1 q2 q3 q4
    by_cases hk : k = j
    · by_cases hl' : l = j
      · rw [hk, hl']
      · subst hk
        obtain ⟨n2, p2⟩ := old l _ hl' q2 (fun z => nomatch z)
        rcases getElem?_set_cases q1 with ⟨_, hlt, e1⟩ | ⟨hne, _⟩
        · rw [List.length_set] at hlt
          rw [List.getElem?_set_self (by rw [← r.len]; exact hlt)] at q3
          cases q3
          rw [List.getElem?_set_ne (Ne.symm hl')] at q4
          exact (n2 (r.inj l i gs ds a p2 hi q4 hs)).elim
        · exact (hne rfl).elim
    · obtain ⟨n1, p1⟩ := old k _ hk q1 (fun z => nomatch z)
      rw [List.getElem?_set_ne (Ne.symm hk)] at q3
      by_cases hl' : l = j
      · subst hl'
        rcases getElem?_set_cases q2 with ⟨_, hlt, e1⟩ | ⟨hne, _⟩
        · rw [List.length_set] at hlt
          rw [List.getElem?_set_self (by rw [← r.len]; exact hlt)] at q4
          cases q4
          exact (n1 (r.inj k i fs ds a p1 hi q3 hs)).elim
        · exact (hne rfl).elim
      · obtain ⟨_, p2⟩ := old l _ hl' q2 (fun z => nomatch z)
        rw [List.getElem?_set_ne (Ne.symm hl')] at q4
        exact r.inj k l fs gs b p1 p2 q3 q4
end
/-- what is wanted behind a statement, by its result -/
def PostS (K : PySem.W.Frag) (ca : Nat → Addr) (W : WX) (H0 : Hp) (O0 : List Addr) (O : List Addr) (H : Hp) (r : R (Fl × En)) (D : Ends) : Prop :=
  match r with
  | .ok (.nx, ρ') => ∀ σ' H' O', Rel K H0 O0 ρ' O' σ' H' → Same (Fz H O) (Fz H' O') → D.nx σ' H'
  | .ok (.bk, ρ') => ∀ σ' H' O', Rel K H0 O0 ρ' O' σ' H' → Same (Fz H O) (Fz H' O') → D.bk σ' H'
  | .ok (.rt d, _) => ∀ v H', Same H0 H' → Rp K (Fz H' O0) v d → D.rt v H'
  | .exc c => ∀ σ' H', Same H0 H' → W (.ref (ca c)) none σ' H'
  | .bad => False
theorem PostS.later {K : PySem.W.Frag} {ca : Nat → Addr} {W : WX} {H0 : Hp} {O0 O O1 : List Addr} {H H1 : Hp} {r : R (Fl × En)} {D : Ends} (s : Same (Fz H O) (Fz H1 O1)) (h : PostS K ca W H0 O0 O H r D) : PostS K ca W H0 O0 O1 H1 r D := by
  cases r with
  | ok p =>
    obtain ⟨f, ρ'⟩ := p
    cases f with
    | nx => exact fun σ' H' O' r s' => h σ' H' O' r (s.trans s')
    | bk => exact fun σ' H' O' r s' => h σ' H' O' r (s.trans s')
    | rt d => exact h
  | exc c => exact h
  | bad => exact h
end Pi

set_option Elab.async false
set_option linter.all false
set_option maxRecDepth 100000
set_option maxHeartbeats 4000000
/-! Pi17: statements, case by case. -/
namespace Pi
open PySem PySem.Spec PyProof.Rows L2
variable [MP]
theorem swaps_no {C : Ctx} {x : Str} {px : Pos} {y : Expr} {l : Nat} {env : Env} (hs : env.scope = C.sc) (h : noLc C x y = true) : swapsWith y (some (.Name x px)) l env = pure false := by
  cases y <;> first | rfl | (cases h; done) | skip
  have h' : C.sc.names.lookup x ≠ some .local := of_decide_eq_true h
  have hk : (env.kindOf x == some NameKind.local) = false := by
    unfold Env.kindOf
    rw [hs]
    exact beq_eq_false_iff_ne.mpr h'
  unfold swapsWith
  simp only [hk, Bool.and_false, Bool.false_and]
theorem swaps_none {y : Expr} {l : Nat} {env : Env} (h : notComp y = true) (t : Option Expr) : swapsWith y t l env = pure false := by
  cases y <;> first | rfl | cases h
theorem stores_none {y : Expr} {ts : List Expr} {k : Nat} {p : Pos} {env : Env} (h : isTupX y = false) : swappedStores [.Tuple ts k p] y env = pure none := by
  cases y <;> first | rfl | cases h
def filterLen (f : Expr → Option Str) (ts : List Expr) : Nat := (ts.filterMap f).length
theorem stores_no {C : Ctx} {ts vs : List Expr} {k k2 : Nat} {p p2 : Pos} {env : Env} (hs : env.scope = C.sc) (hk : env.scope.kind = .function) (h : noSw C ts vs = true) : swappedStores [.Tuple ts k p] (.Tuple vs k2 p2) env = pure none := by
  have hb : env.blockKind = .function := by unfold Env.blockKind; rw [hk] <;> rfl
  have hkind : ∀ id, env.kindOf id = C.sc.names.lookup id := fun id => by unfold Env.kindOf; rw [hs]
  have key : ∀ (f : Expr → Option Str) (ts : List Expr), (filterLen f ts ≤ ts.length) ∧ ((∃ t ∈ ts, f t = none) → filterLen f ts < ts.length) := fun f ts => by
    induction ts with
    | nil => exact ⟨Nat.le_refl _, fun ⟨_, h, _⟩ => by cases h⟩
    | cons t ts ih =>
      unfold filterLen at ih ⊢
      rw [List.filterMap_cons]
      cases q : f t with
      | none =>
        simp only [List.length_cons]
        exact ⟨by omega, fun _ => by omega⟩
      | some z =>
        simp only [List.length_cons]
        refine ⟨by omega, fun ⟨u, hu, hf⟩ => ?_⟩
        rcases List.mem_cons.mp hu with rfl | hu
        · rw [q] at hf; cases hf
        · have := ih.2 ⟨u, hu, hf⟩; omega
  unfold noSw at h
  unfold swappedStores
  simp only [hb, hkind]
  simp only [Bool.or_eq_true] at h
  rcases h with ((h | h) | h) | h
  · simp only [h, Bool.true_or, if_true]
  · simp only [h, Bool.true_or, Bool.or_true, if_true]
  · split
    · rfl
    · split
      · rfl
      · split
        · rfl
        · rename_i hn
          exfalso
          apply hn
          rw [Bool.or_eq_true]
          left
          obtain ⟨t, ht, hl⟩ := List.any_eq_true.mp h
          refine bne_iff_ne.mpr (Nat.ne_of_lt ((key _ ts).2 ⟨t, ht, ?_⟩))
          cases t <;> first | rfl | skip
          simp only [notLoc, Bool.not_eq_true'] at hl
          simp only [hl, Bool.false_and]
          rfl
  · split
    · rfl
    · split
      · rfl
      · split
        · rfl
        · simp only [h, if_true]
theorem stores_2 {C : Ctx} {x y : Str} {px py p p2 : Pos} {a b : Expr} {k k2 : Nat} {env : Env} (hs : env.scope = C.sc) (hk : env.scope.kind = .function) (h : sw2 C [.Name x px, .Name y py] [a, b] = true) :
    swappedStores [.Tuple [.Name x px, .Name y py] k p] (.Tuple [a, b] k2 p2) env = pure (some [x, y]) := by
  have hb : env.blockKind = .function := by unfold Env.blockKind; rw [hk] <;> rfl
  have hkind : ∀ id, env.kindOf id = C.sc.names.lookup id := fun id => by unfold Env.kindOf; rw [hs]
  simp only [sw2, Bool.and_eq_true, decide_eq_true_eq, Bool.not_eq_true'] at h
  obtain ⟨⟨⟨⟨⟨⟨⟨h1, h2⟩, h3⟩, h4⟩, h5⟩, h6⟩, h7⟩, h8⟩ := h
  have st : ([a, b].any fun | .Starred .. => true | _ => false) = false := by
    have e : ∀ w : Expr, notStar w = true → (match w with | .Starred .. => true | _ => false) = false := fun w hw => by cases w <;> first | rfl | cases hw
    simp only [List.any_cons, List.any_nil, e a h5, e b h6]
    rfl
  have hne : (y == x) = false := beq_eq_false_iff_ne.mpr fun e => h4 e.symm
  unfold swappedStores
  simp only [hb, hkind, st, h7, h8]
  simp [h1, h2, h3, Expr.pos, List.eraseDups, List.eraseDupsBy, List.eraseDupsBy.loop, hne]
  rintro (hh | hh)
  · cases a <;> first | (cases h5; done) | cases hh
  · cases b <;> first | (cases h6; done) | cases hh
theorem stores_3 {C : Ctx} {x y z : Str} {px py pz p p2 : Pos} {a b c : Expr} {k k2 : Nat} {env : Env} (hs : env.scope = C.sc) (hk : env.scope.kind = .function) (h : sw3 C [.Name x px, .Name y py, .Name z pz] [a, b, c] = true) :
    swappedStores [.Tuple [.Name x px, .Name y py, .Name z pz] k p] (.Tuple [a, b, c] k2 p2) env = pure (some [x, y, z]) := by
  have hb : env.blockKind = .function := by unfold Env.blockKind; rw [hk] <;> rfl
  have hkind : ∀ id, env.kindOf id = C.sc.names.lookup id := fun id => by unfold Env.kindOf; rw [hs]
  simp only [sw3, Bool.and_eq_true, decide_eq_true_eq, Bool.not_eq_true'] at h
  obtain ⟨⟨⟨⟨⟨⟨⟨⟨⟨⟨⟨⟨h1, h2⟩, h3⟩, h4⟩, h5⟩, h6⟩, h7⟩, h8⟩, h9⟩, h10⟩, h11⟩, h12⟩, h13⟩ := h
  have st : ([a, b, c].any fun | .Starred .. => true | _ => false) = false := by
    have e : ∀ w : Expr, notStar w = true → (match w with | .Starred .. => true | _ => false) = false := fun w hw => by cases w <;> first | rfl | cases hw
    simp only [List.any_cons, List.any_nil, e a h9, e b h10, e c h11]
    rfl
  have n1 : (y == x) = false := beq_eq_false_iff_ne.mpr fun e => h6 e.symm
  have n2 : (z == x) = false := beq_eq_false_iff_ne.mpr fun e => h7 e.symm
  have n3 : (z == y) = false := beq_eq_false_iff_ne.mpr fun e => h8 e.symm
  unfold swappedStores
  simp only [hb, hkind, st, h12, h13]
  simp [h1, h2, h3, ← h4, ← h5, Expr.pos, List.eraseDups, List.eraseDupsBy, List.eraseDupsBy.loop, n1, n2, n3]
  rintro (hh | hh | hh)
  · cases a <;> first | (cases h9; done) | cases hh
  · cases b <;> first | (cases h10; done) | cases hh
  · cases c <;> first | (cases h11; done) | cases hh
end Pi

set_option Elab.async false
set_option linter.all false
set_option maxRecDepth 100000
set_option maxHeartbeats 4000000
/-! Pi18: the model does what statements mean. -/
namespace Pi
open PySem PySem.Spec PyProof.Rows L2
variable [MP]
/-- a def's own frame -/
structure Pl (X : Cx) : Prop where
  pass : PassesOwn (model X.prog X.w) X.A X.env X.xe
  stk : X.stack = X.env :: X.outer
  frm : X.env.frame = some X.env.locals
section
variable {T : Str → List D → R D} {ca : Nat → Addr}
variable (T ca) in
def SS (s : S) : Prop := ∀ (C : Ctx) (X : Cx) (W : WX) (st : Stmt), Good C T ca X W → Pl X → chkS s C st = true →
  ∀ H0 O0 ρ O σ H, Rel X.K H0 O0 ρ O σ H → ∀ D, PostS X.K ca W H0 O0 O H (exS T s ρ) D → EvS X st D σ H
variable (T ca) in
def SSs (s : S) : Prop := ∀ (C : Ctx) (X : Cx) (W : WX) (st : List Stmt), Good C T ca X W → Pl X → chkS.chkSs s C st = true →
  ∀ H0 O0 ρ O σ H, Rel X.K H0 O0 ρ O σ H → ∀ D, PostS X.K ca W H0 O0 O H (exS T s ρ) D → EvSs X st D σ H
section
variable {a : E} {C : Ctx} {X : Cx} {W : WX} {x : Expr} {ρ : En} {O O0 : List Addr} {σ : L2.St} {H H0 : Hp}
theorem post_ok {f : D → R (Fl × En)} {D : Ends} (r : Rel X.K H0 O0 ρ O σ H) (h : PostS X.K ca W H0 O0 O H (ev T a ρ >>= f) D) {k : Kd} {Q : VK}
    (hk : ∀ d v H1, Same H H1 → Res k X.K H H1 O v d → PostS X.K ca W H0 O0 O H1 (f d) D → Q v H1) : PostE X.K ca W k O σ H (ev T a ρ) Q := by
  cases e : ev T a ρ with
  | ok d => rw [e] at h; exact fun v H1 s rr => hk d v H1 s rr (PostS.later (Fz.same s) h)
  | exc c => rw [e] at h; exact fun H' s => h _ H' (r.keep.trans s)
  | bad => rw [e] at h; exact h
theorem SE.goS (S : SE T ca a) (G : Good C T ca X W) (c : chk a C x = true) (r : Rel X.K H0 O0 ρ O σ H) {f : D → R (Fl × En)} {D : Ends} {Q : VK} (h : PostS X.K ca W H0 O0 O H (ev T a ρ >>= f) D)
    (hk : ∀ d v H1, Same H H1 → Res (kd a) X.K H H1 O v d → PostS X.K ca W H0 O0 O H1 (f d) D → Q v H1) : Ev X x σ H Q := S C X W x G c ρ O σ H r.toRelE Q (post_ok r h hk)
end
theorem comp_only {e : E} {C : Ctx} {elt : Expr} {gs : List Comprehension} {scope : Scope} {p : Pos} (h : chk e C (.ListComp elt gs scope p) = true) : (∃ own t it c a, e = .comp own t it c a) ∨ (∃ own t1 it1 c1 t2 it2 c2 a, e = .comp2 own t1 it1 c1 t2 it2 c2 a) := by
  cases e <;> first
    | (exact .inl ⟨_, _, _, _, _, rfl⟩)
    | (exact .inr ⟨_, _, _, _, _, _, _, _, rfl⟩)
    | (cases (show false = true from h))
theorem tup_only {e : E} {C : Ctx} {xs : List Expr} {n : Nat} {p : Pos} (h : chk e C (.Tuple xs n p) = true) : ∃ es, e = .tup es ∧ chkL true es C xs = true := by
  cases e <;> first
    | (exact ⟨_, rfl, h⟩)
    | (cases (show false = true from h))
/-- name = e -/
theorem set_go {e : E} {C : Ctx} {X : Cx} {W : WX} {i : Nat} {x : Str} {px pos : Pos} {y : Expr} {ρ : En} {O : List Addr} {σ : L2.St} {H : Hp} (G : Good C T ca X W) (k : chkSet C i e x px y = true) (r : RelE X.K ρ O σ H) {Q : VK} {D : Ends}
    (h : PostE X.K ca W (kd e) O σ H (ev T e ρ) fun v H1 => D.nx (σ.set i (some v)) H1) : EvS X (.Assign [.Name x px] y pos) D σ H := by
  simp only [chkSet, Bool.and_eq_true, decide_eq_true_eq] at k
  obtain ⟨⟨⟨k1, k2⟩, k3⟩, k4⟩ := k
  have hN : X.N.Nodup := by rw [G.N]; exact G.nd
  have hi : X.N[i]? = some x := by rw [G.N]; exact k1
  obtain ⟨hx, hf⟩ := G.loc k2
  rw [Bool.or_eq_true] at k4
  rcases k4 with k4 | k4
  · refine ofPS (ps_set hN hi hx (evPE X y) (swaps_no G.sc k4) hf) ?_
    exact (all_S e).1 C X W y G k3 ρ O σ H r _ h
  · cases y <;> first | (cases (show false = true from k4); done) | skip
    rename_i elt gs scope p
    simp only [swLc, Bool.and_eq_true, decide_eq_true_eq, Bool.not_eq_true'] at k4
    obtain ⟨⟨w1, w2⟩, w3⟩ := k4
    intro pins s I
    have hsw := fun gs => sw_true (elt := elt) (gs := gs) (scope := scope) (pos := p) (py := px) (y := x) (l := pos.line) (env := X.env) I.ok.kind (by rw [G.sc]; exact w1) (by simp [w2]) w3
    have hl : X.env.scope.names.lookup x = some .local := by rw [G.sc]; exact w1
    rcases comp_only k3 with ⟨own, t, it, c, a, rfl⟩ | ⟨own, t1, it1, c1, t2, it2, c2, a, rfl⟩
    · rw [chk_comp] at k3
      split at k3 <;> first | (cases k3; done) | skip
      rename_i elt' tg iter ifs scope' p' heq
      cases heq
      rw [Bool.and_eq_true, Bool.and_eq_true, Bool.and_eq_true, Bool.and_eq_true, Bool.and_eq_true, Bool.and_eq_true, Bool.and_eq_true, Bool.and_eq_true] at k3
      obtain ⟨⟨⟨⟨⟨⟨⟨⟨k1, k2⟩, k3⟩, k4⟩, k5⟩, k6⟩, k7⟩, k8⟩, k9⟩ := k3
      rw [Bool.not_eq_true'] at k5
      exact ofPS (ps_setLc (wi := EvI X tg iter) (g := gT X.K t) (tt := tBlkT X scope ifs) (te := tBlk X scope elt) G.calm hN hi hl (hsw _) (evPI X tg iter) (blkOk_by (by rw [G.N, G.sc]; exact k1))
        (fun s0 H0 a cl fp => pg_of (G.blk s0 H0 scope a cl fp) k3) (fun s0 H0 a cl fp => pts_of k8 s0 H0 a cl fp) (fun s0 H0 a cl fp => ⟨fun pins s σ H Q I q => q s0 H0 a cl fp pins s I⟩) (fun v => folded_of k6 _ v))
        (comp_rd (all_S it).2.2.2.2.2 (all_S c).2.1 (all_S a).1 G k2 k3 k4 k5 k7 k8 k9 r h) pins s I
    · rw [chk_comp2] at k3
      split at k3 <;> first | (cases k3; done) | skip
      rename_i elt' tg1 iter1 ifs1 tg2 iter2 ifs2 scope' p' heq
      cases heq
      simp only [Bool.and_eq_true] at k3
      obtain ⟨⟨⟨⟨⟨⟨⟨⟨⟨⟨⟨⟨⟨⟨⟨k1, k2⟩, k2'⟩, k3⟩, k3'⟩, k4⟩, k4'⟩, k5⟩, k6⟩, k6'⟩, k7⟩, k8⟩, k7'⟩, k8'⟩, k9⟩, kc⟩ := k3
      rw [Bool.not_eq_true'] at k5
      exact ofPS (ps_setLc2 (wi := EvI X tg1 iter1) (g := gT X.K t1) (tt := tBlkT X scope ifs1) (wi1 := iBlk X scope tg2 iter2) (g1 := gT X.K t2) (tt1 := tBlkT X scope ifs2) (te := tBlk X scope elt) (vs1 := tgSl t2) G.calm hN hi hl (hsw _) (evPI X tg1 iter1) (blkOk_by (by rw [G.N, G.sc]; exact k1)) (tgIn_mem k2')
        (fun s0 H0 a cl fp => pg_of (G.blk s0 H0 scope a cl fp) k3) (fun s0 H0 a cl fp => pts_of k8 s0 H0 a cl fp) (fun s0 H0 a cl fp => ⟨fun pins s σ H Q I q => q s0 H0 a cl fp pins s I⟩)
        (fun s0 H0 a cl fp => pg_of (G.blk s0 H0 scope a cl fp) k3') (fun s0 H0 a cl fp => pts_of k8' s0 H0 a cl fp)
        (fun s0 H0 a cl fp => ⟨fun pins s σ H Q I q => q s0 H0 a cl fp pins s I⟩) (fun v => folded_of k6 _ v) (fun env v => folded_of k6' env v))
        (comp2_rd (all_S it1).2.2.2.2.2 (all_S c1).2.1 (all_S it2).2.2.2.2.2 (all_S c2).2.1 (all_S a).1 G k2 k2' k3 k3' k4 k4' k5 k7 k8 k7' k8' k9 kc r h) pins s I
theorem ss_asg_nm {i : Nat} {e : E} : SS T ca (.asg (.nm i) e) := by
  intro C X W st G hp k H0 O0 ρ O σ H r D h
  cases st <;> first | (cases (show false = true from k); done) | skip
  rename_i tgs y p
  cases tgs with
  | nil => cases (show false = true from k)
  | cons tg tgs =>
    cases tgs with
    | cons _ _ => cases (show false = true from k)
    | nil =>
      cases tg <;> first | (cases (show (!isBor e && false) = true from k ▸ rfl); done) | (rw [show chkS _ C _ = (!isBor e && false) from rfl, Bool.and_false] at k; cases k; done) | skip
      rename_i x px
      have k' : (!isBor e && chkSet C i e x px y) = true := k
      rw [Bool.and_eq_true, Bool.not_eq_true'] at k'
      obtain ⟨kb, k'⟩ := k'
      refine set_go (Q := fun _ _ => True) G k' r.toRelE (post_ok (D := D) (f := fun d => storeT (setT (.nm i) d ρ)) r h fun d v H1 s rr q => ?_)
      exact q _ H1 O ((r.mono s).set (rr.rp (kd_ne kb))) (Same.refl _)
theorem ss_own {i : Nat} {e : E} : SS T ca (.own i e) := by
  intro C X W st G hp k H0 O0 ρ O σ H r D h
  cases st <;> first | (cases (show false = true from k); done) | skip
  rename_i tgs y p
  cases tgs with
  | nil => cases (show false = true from k)
  | cons tg tgs =>
    cases tgs with
    | cons _ _ => cases tg <;> cases (show false = true from k)
    | nil =>
      cases tg <;> first | (cases (show false = true from k); done) | skip
      rename_i x px
      have k' : (listy e && chkSet C i e x px y) = true := k
      rw [Bool.and_eq_true] at k'
      obtain ⟨kl, k'⟩ := k'
      have hn : kd e = .n := by cases e <;> first | rfl | cases (show false = true from kl)
      refine set_go (Q := fun _ _ => True) G k' r.toRelE ?_
      have h' : PostS X.K ca W H0 O0 O H (ev T e ρ >>= ownR i ρ) D := h
      rw [hn]
      cases ee : ev T e ρ with
      | exc c => rw [ee] at h'; exact fun H' s => h' _ H' (r.keep.trans s)
      | bad => rw [ee] at h'; exact h'
      | ok d =>
        rw [ee] at h'
        have q : PostS X.K ca W H0 O0 O H (ownR i ρ d) D := h'
        intro v H1 s rr
        cases d <;> first | (exact (show False from q).elim) | skip
        rename_i ds
        obtain ⟨a, rfl, r', sf⟩ := r.owns (i := i) s (rr.2 ds rfl)
        exact q _ H1 (a :: O) r' sf
end
end Pi

set_option Elab.async false
set_option linter.all false
set_option maxRecDepth 100000
set_option maxHeartbeats 4000000
/-! Pi19: statements, the rest. -/
namespace Pi
open PySem PySem.Spec PyProof.Rows L2
variable [MP]
section
variable {T : Str → List D → R D} {ca : Nat → Addr}
def tpOk (C : Ctx) (is : List Nat) (ts : List Expr) (y : Expr) : Bool :=
  match y with
  | .Tuple vs _ _ => noSw C ts vs || (decide (is.Nodup) && (sw2 C ts vs || sw3 C ts vs))
  | _ => true
theorem one_tg {C : Ctx} {is : List Nat} {e : E} {st : Stmt} (k : chkS (.asg (.tp is) e) C st = true) : ∃ ts n q y p, st = .Assign [.Tuple ts n q] y p ∧ isBor e = false ∧ chkNs C is ts = true ∧ chk e C y = true ∧ notComp y = true ∧
    tpOk C is ts y = true := by
  cases st <;> first | (cases (show false = true from k); done) | skip
  rename_i tgs y p
  cases tgs with
  | nil => cases (show false = true from k)
  | cons tg tgs =>
    cases tgs with
    | cons _ _ => cases (show false = true from k)
    | nil =>
      cases tg <;> first | (rw [show chkS _ C _ = (!isBor e && false) from rfl, Bool.and_false] at k; cases k; done) | skip
      rename_i ts n q
      have k' : (!isBor e && (chkNs C is ts && chk e C y && notComp y && tpOk C is ts y)) = true := k
      rw [Bool.and_eq_true, Bool.and_eq_true, Bool.and_eq_true, Bool.and_eq_true, Bool.not_eq_true'] at k'
      obtain ⟨k1, ⟨⟨k2, k3⟩, k4⟩, k5⟩ := k'
      exact ⟨ts, n, q, y, p, rfl, k1, k2, k3, k4, k5⟩
theorem setT_tp {is : List Nat} {d : D} {ρ ρ' : En} (h : setT (.tp is) d ρ = .ok ρ') : ∃ ds, d = .tuple ds ∧ is.length = ds.length ∧ ρ' = setAll is ds ρ := by
  unfold setT at h
  split at h
  · rename_i e; cases e
  · rename_i is' ds e
    cases e
    split at h
    · rename_i hl
      cases h
      exact ⟨ds, rfl, hl, rfl⟩
    · cases h
  · cases h
theorem storeT_post {K : PySem.W.Frag} {W : WX} {H0 : Hp} {O0 O : List Addr} {H : Hp} {r : R En} {D : Ends} (h : PostS K ca W H0 O0 O H (storeT r) D) : ∃ ρ', r = .ok ρ' ∧ PostS K ca W H0 O0 O H (.ok (.nx, ρ')) D := by
  cases r with
  | ok ρ' => exact ⟨ρ', rfl, h⟩
  | exc c => exact (show False from h).elim
  | bad => exact (show False from h).elim
theorem ss_asg_tp {is : List Nat} {e : E} : SS T ca (.asg (.tp is) e) := by
  intro C X W st G hp k H0 O0 ρ O σ H r D h
  obtain ⟨ts, n, q, y, p, rfl, kb, k2, k3, k4, k5⟩ := one_tg k
  have hN : X.N.Nodup := by rw [G.N]; exact G.nd
  have hg : PG X (.Tuple ts n q) (gT X.K (.tp is)) := pg_of G (t := .tp is) k2
  have plain : swappedStores [.Tuple ts n q] y X.env = pure none → EvS X (.Assign [.Tuple ts n q] y p) D σ H := fun hw => by
    refine ofPS (ps_asg (evPE X y) hg (show swapsWith y (some (.Tuple ts n q)) p.line X.env = pure false from swaps_none k4 _) hw) ?_
    refine (all_S e).1.goS (D := D) (f := fun d => storeT (setT (.tp is) d ρ)) G k3 r h fun d v H1 s rr q1 => ?_
    obtain ⟨ρ', e1, q1⟩ := storeT_post q1
    obtain ⟨σ', r', run⟩ := (r.mono s).tgt e1 (.inl (rr.rp (kd_ne kb)))
    exact run _ (q1 σ' H1 O r' (Same.refl _))
  cases y <;> first | (exact plain (stores_none rfl)) | skip
  rename_i vs n2 q2
  replace k5 : (noSw C ts vs || (decide (is.Nodup) && (sw2 C ts vs || sw3 C ts vs))) = true := k5
  rw [Bool.or_eq_true, Bool.and_eq_true, Bool.or_eq_true, decide_eq_true_eq] at k5
  rcases k5 with k5 | ⟨nd, k5 | k5⟩
  · intro pins s I
    exact plain (stores_no G.sc I.ok.kind k5) pins s I
  · intro pins s I
    unfold sw2 at k5
    split at k5 <;> first | (cases k5; done) | skip
    rename_i x px y py a b
    have hw := stores_2 (k := n) (p := q) (k2 := n2) (p2 := q2) G.sc I.ok.kind (show sw2 C [.Name x px, .Name y py] [a, b] = true from k5)
    simp only [Bool.and_eq_true, decide_eq_true_eq] at k5
    have l1 := k5.1.1.1.1.1.1.1
    have l2 := k5.1.1.1.1.1.1.2
    rcases is with _ | ⟨i, _ | ⟨j, _ | ⟨_, _⟩⟩⟩ <;> first | (cases (show false = true from k2); done) | skip
    · simp [chkNs] at k2
    · simp only [chkNs, Bool.and_eq_true, decide_eq_true_eq, Bool.and_true] at k2
      have hij : i ≠ j := by simpa using nd
      obtain ⟨es, rfl, kl⟩ := tup_only k3
      refine ofPS (ps_par G.calm hN (by rw [G.N]; exact k2.1.1) (by rw [G.N]; exact k2.2.1) hij (by rw [G.sc]; exact l1) (by rw [G.sc]; exact l2) (evPA X [a, b]) hw) ?_ pins s I
      have h' : PostS X.K ca W H0 O0 O H ((evL T es ρ >>= fun ds => if ds.length ≤ big then R.ok (.tuple ds) else .bad) >>= fun d => storeT (setT (.tp [i, j]) d ρ)) D := h
      refine (all_S es).2.2.1 true C X W [a, b] G kl ρ O σ H r.toRelE _ ?_
      cases ee : evL T es ρ with
      | exc c => rw [ee] at h'; exact fun H' s => h' _ H' (r.keep.trans s)
      | bad => rw [ee] at h'; exact h'
      | ok ds =>
        rw [ee] at h'
        intro us H1 s1 _ rs
        have h2 : PostS X.K ca W H0 O0 O H (storeT (setT (.tp [i, j]) (.tuple ds) ρ)) D := by
          have h3 : PostS X.K ca W H0 O0 O H ((if ds.length ≤ big then R.ok (.tuple ds) else .bad) >>= fun d => storeT (setT (.tp [i, j]) d ρ)) D := h'
          split at h3
          · exact h3
          · exact (show False from h3).elim
        obtain ⟨ρ', e1, h2⟩ := storeT_post h2
        obtain ⟨ds', e2, hl, rfl⟩ := setT_tp e1
        cases e2
        have rl := rs rfl
        rcases rl with _ | ⟨r1, _ | ⟨r2, _ | ⟨_, _⟩⟩⟩ <;> first | (cases hl; done) | skip
        exact ⟨_, _, rfl, h2 _ H1 O (((r.mono s1).set r1).set r2) (Fz.same s1)⟩
    · simp [chkNs] at k2
  · intro pins s I
    unfold sw3 at k5
    split at k5 <;> first | (cases k5; done) | skip
    rename_i x px y py z pz a b c
    have hw := stores_3 (k := n) (p := q) (k2 := n2) (p2 := q2) G.sc I.ok.kind (show sw3 C [.Name x px, .Name y py, .Name z pz] [a, b, c] = true from k5)
    simp only [Bool.and_eq_true, decide_eq_true_eq] at k5
    have l1 := k5.1.1.1.1.1.1.1.1.1.1.1.1
    have l2 := k5.1.1.1.1.1.1.1.1.1.1.1.2
    have l3 := k5.1.1.1.1.1.1.1.1.1.1.2
    rcases is with _ | ⟨i, _ | ⟨j, _ | ⟨l, _ | ⟨_, _⟩⟩⟩⟩ <;> first | (simp [chkNs] at k2; done) | skip
    simp only [chkNs, Bool.and_eq_true, decide_eq_true_eq, Bool.and_true] at k2
    have hij : i ≠ j ∧ i ≠ l ∧ j ≠ l := by simp at nd; exact ⟨nd.1.1, nd.1.2, nd.2⟩
    obtain ⟨es, rfl, kl⟩ := tup_only k3
    refine ofPS (ps_par3 G.calm hN (by rw [G.N]; exact k2.1.1) (by rw [G.N]; exact k2.2.1.1) (by rw [G.N]; exact k2.2.2.1) hij.1 hij.2.1 hij.2.2 (by rw [G.sc]; exact l1) (by rw [G.sc]; exact l2) (by rw [G.sc]; exact l3) (evPA X [a, b, c]) hw) ?_ pins s I
    have h' : PostS X.K ca W H0 O0 O H ((evL T es ρ >>= fun ds => if ds.length ≤ big then R.ok (.tuple ds) else .bad) >>= fun d => storeT (setT (.tp [i, j, l]) d ρ)) D := h
    refine (all_S es).2.2.1 true C X W [a, b, c] G kl ρ O σ H r.toRelE _ ?_
    cases ee : evL T es ρ with
    | exc c => rw [ee] at h'; exact fun H' s => h' _ H' (r.keep.trans s)
    | bad => rw [ee] at h'; exact h'
    | ok ds =>
      rw [ee] at h'
      intro us H1 s1 _ rs
      have h2 : PostS X.K ca W H0 O0 O H (storeT (setT (.tp [i, j, l]) (.tuple ds) ρ)) D := by
        have h3 : PostS X.K ca W H0 O0 O H ((if ds.length ≤ big then R.ok (.tuple ds) else .bad) >>= fun d => storeT (setT (.tp [i, j, l]) d ρ)) D := h'
        split at h3
        · exact h3
        · exact (show False from h3).elim
      obtain ⟨ρ', e1, h2⟩ := storeT_post h2
      obtain ⟨ds', e2, hl, rfl⟩ := setT_tp e1
      cases e2
      have rl := rs rfl
      rcases rl with _ | ⟨r1, _ | ⟨r2, _ | ⟨r3, _ | ⟨_, _⟩⟩⟩⟩ <;> first | (cases hl; done) | skip
      exact ⟨_, _, _, rfl, h2 _ H1 O ((((r.mono s1).set r1).set r2).set r3) (Fz.same s1)⟩
theorem ss_expr {e : E} : SS T ca (.expr e) := by
  intro C X W st G hp k H0 O0 ρ O σ H r D h
  cases st <;> first | (cases (show false = true from k); done) | skip
  rename_i y p
  have k' : (chk e C y && notComp y) = true := k
  rw [Bool.and_eq_true] at k'
  refine ofPS (ps_expr (evPE X y) (swaps_none k'.2 _)) ?_
  refine (all_S e).1.goS (D := D) (f := fun _ => .ok (.nx, ρ)) G k'.1 r h fun d v H1 s rr q1 => ?_
  exact q1 σ H1 O (r.mono s) (Same.refl _)
theorem ss_ret {e : E} : SS T ca (.ret e) := by
  intro C X W st G hp k H0 O0 ρ O σ H r D h
  cases st <;> first | (cases (show false = true from k); done) | skip
  rename_i y p
  cases y with
  | none => cases (show false = true from k)
  | some y =>
    have k' : (!isBor e && chk e C y) = true := k
    rw [Bool.and_eq_true, Bool.not_eq_true'] at k'
    refine ofPS (ps_ret (evPE X y)) ?_
    refine (all_S e).1.goS (D := D) (f := fun d => .ok (.rt d, ρ)) G k'.2 r h fun d v H1 s rr q1 => ?_
    exact q1 v H1 (r.keep.trans s) ((r.mono s).ret (rr.rp (kd_ne k'.1)))
theorem ss_retN : SS T ca .retN := by
  intro C X W st G hp k H0 O0 ρ O σ H r D h
  cases st <;> first | (cases (show false = true from k); done) | skip
  rename_i y p
  cases y with
  | some y => cases (show false = true from k)
  | none =>
    refine ofPS ps_retN ?_
    exact h _ H r.keep .non
theorem test_S {c : E} {C : Ctx} {X : Cx} {W : WX} {y : Expr} {ρ : En} {O O0 : List Addr} {σ : L2.St} {H H0 : Hp} {f : D → R (Fl × En)} {D : Ends} {Q : Bool → Hp → Prop} (G : Good C T ca X W) (k1 : isIte c = false) (k2 : chk c C y = true) (r : Rel X.K H0 O0 ρ O σ H)
    (h : PostS X.K ca W H0 O0 O H (ev T c ρ >>= f) D) (hb : ∀ d, (∀ b, d ≠ .bool b) → f d = .bad) (hk : ∀ b H1, Same H H1 → PostS X.K ca W H0 O0 O H1 (f (.bool b)) D → Q b H1) : EvT X y σ H Q := by
  refine (all_S c).2.1 C X W y G k2 k1 ρ O σ H r.toRelE _ ?_
  cases e : ev T c ρ with
  | exc x => rw [e] at h; exact fun H' s => h _ H' (r.keep.trans s)
  | bad => rw [e] at h; exact h
  | ok d =>
    rw [e] at h
    have h' : PostS X.K ca W H0 O0 O H (f d) D := h
    cases d with
    | bool b => exact fun H1 s => hk b H1 s (PostS.later (Fz.same s) h')
    | _ => rw [hb _ (by intro b z; cases z)] at h'; exact h'
theorem ss_ite {c : E} {a b : S} (Ha : SSs T ca a) (Hb : SSs T ca b) : SS T ca (.ite c a b) := by
  intro C X W st G hp k H0 O0 ρ O σ H r D h
  cases st <;> first | (cases (show false = true from k); done) | skip
  rename_i y xs zs p
  have k' : (!isIte c && chk c C y && chkS.chkSs a C xs && chkS.chkSs b C zs) = true := k
  rw [Bool.and_eq_true, Bool.and_eq_true, Bool.and_eq_true, Bool.not_eq_true'] at k'
  obtain ⟨⟨⟨k1, k2⟩, k3⟩, k4⟩ := k'
  refine ofPS (ps_if (evPT X y) (evPSs X xs) (evPSs X zs)) ?_
  refine test_S (D := D) (f := fun x => match x with | .bool true => exS T a ρ | .bool false => exS T b ρ | _ => .bad) G k1 k2 r h (fun d hd => ?_) fun q H1 s q1 => ?_
  · cases d <;> first | rfl | skip
    exact (hd _ rfl).elim
  · cases q with
    | true => exact Ha C X W xs G hp k3 H0 O0 ρ O σ H1 (r.mono s) D q1
    | false => exact Hb C X W zs G hp k4 H0 O0 ρ O σ H1 (r.mono s) D q1
theorem ss_for {t : Tg} {it : E} {b : S} (Hb : SSs T ca b) : SS T ca (.for_ t it b) := by
  intro C X W st G hp k H0 O0 ρ O σ H r D h
  cases st <;> first | (cases (show false = true from k); done) | skip
  rename_i tg y xs orelse p
  cases orelse with
  | cons _ _ => cases (show false = true from k)
  | nil =>
    have k' : (chkTg C t tg && (!pairIt it || isTp t) && notSet y && clean it && chkI it C y && chkS.chkSs b C xs) = true := k
    rw [Bool.and_eq_true, Bool.and_eq_true, Bool.and_eq_true, Bool.and_eq_true, Bool.and_eq_true] at k'
    obtain ⟨⟨⟨⟨⟨k1, k2⟩, k3⟩, k4⟩, k5⟩, k6⟩ := k'
    refine ofPS (ps_for hp.pass G.calm (evPI X tg y) (pg_of G k1) (evPSs X xs) (fun v => folded_of k3 _ v)) ?_
    refine (all_S it).2.2.2.2.2 C X W tg y G k5 (fun hpr => tp_of (t := t) (by rw [hpr] at k2; simpa using k2) k1) ρ O σ H r.toRelE _ ?_
    have h' : PostS X.K ca W H0 O0 O H (evI T it ρ >>= fun ds => forGo (fun d ρ => bodyT (setT t d ρ) (exS T b)) ds ρ) D := h
    cases ee : evI T it ρ with
    | exc c => rw [ee] at h'; exact fun H' s => h' _ H' (r.keep.trans s)
    | bad => rw [ee] at h'; exact h'
    | ok ds =>
      rw [ee] at h'
      intro J H1 s1 hw
      obtain ⟨hlen, Gs, Y, wk, hG, hY⟩ := hw
      generalize hf : (fun d ρ => bodyT (setT t d ρ) (exS T b)) = f at h'
      generalize hr : forGo f ds ρ = res
      have h2 : PostS X.K ca W H0 O0 O H res D := by rw [← hr]; exact h'
      refine for_it wk (fun i σ' H' => ∃ ρi O', Rel X.K H0 O0 ρi O' σ' H' ∧ Same (Fz H1 O) (Fz H' O') ∧ forGo f (ds.drop i) ρi = res) ⟨ρ, O, r.mono s1, Same.refl _, hr⟩ ?_ ?_ ?_
      · rintro i σ' H' _ ⟨ρi, O', _, sf, _⟩
        exact hG H' (.inl ⟨k4, O', sf⟩)
      · rintro i x σ2 H2 H3 hi ⟨ρi, O', r2, sf, hgo⟩ hy
        obtain ⟨d, hd, hitm⟩ := hY i H2 x H3 hi hy
        have hdrop : ds.drop i = d :: ds.drop (i + 1) := by
          obtain ⟨hlt, e2⟩ := List.getElem?_eq_some_iff.mp hd
          rw [List.drop_eq_getElem_cons hlt, e2]
        obtain ⟨s3, tk⟩ := hitm.take (t := t) (O := O') k2 sf r2.dom
        rw [hdrop] at hgo
        have fd : f d ρi = bodyT (setT t d ρi) (exS T b) := by rw [← hf]
        cases es : setT t d ρi with
        | exc c => rw [es] at fd; rw [show forGo f (d :: ds.drop (i + 1)) ρi = .bad by unfold forGo; rw [fd]; rfl] at hgo; rw [← hgo] at h2; exact (show False from h2).elim
        | bad => rw [es] at fd; rw [show forGo f (d :: ds.drop (i + 1)) ρi = .bad by unfold forGo; rw [fd]; rfl] at hgo; rw [← hgo] at h2; exact (show False from h2).elim
        | ok ρ' =>
          rw [es] at fd
          have fd : f d ρi = exS T b ρ' := fd
          obtain ⟨σ', r', run⟩ := (r2.mono s3).tgt es tk
          refine run _ (Hb C X W xs G hp k6 H0 O0 ρ' O' σ' H3 r' _ ?_)
          have s03 : Same (Fz H1 O) (Fz H3 O') := sf.trans (Fz.same s3)
          unfold forGo at hgo
          rw [fd] at hgo
          cases eb : exS T b ρ' with
          | exc c => rw [eb] at hgo; rw [← hgo] at h2; exact h2
          | bad => rw [eb] at hgo; rw [← hgo] at h2; exact (show False from h2).elim
          | ok pr =>
            obtain ⟨fl, ρ''⟩ := pr
            rw [eb] at hgo
            cases fl with
            | nx => exact fun σ4 H4 O4 r4 s4 => ⟨ρ'', O4, r4, s03.trans s4, hgo⟩
            | bk => rw [← hgo] at h2; exact fun σ4 H4 O4 r4 s4 => h2 σ4 H4 O4 r4 ((Fz.same s1).trans (s03.trans s4))
            | rt v => rw [← hgo] at h2; exact h2
      · rintro σ2 H2 ⟨ρi, O', r2, sf, hgo⟩
        rw [List.drop_length] at hgo
        have : res = .ok (.nx, ρi) := hgo.symm
        rw [this] at h2
        exact h2 σ2 H2 O' r2 ((Fz.same s1).trans sf)
theorem ss_while {n : Nat} {c : E} {b : S} (Hb : SSs T ca b) : SS T ca (.while_ n c b) := by
  intro C X W st G hp k H0 O0 ρ O σ H r D h
  cases st <;> first | (cases (show false = true from k); done) | skip
  rename_i y xs orelse p
  cases orelse with
  | cons _ _ => cases (show false = true from k)
  | nil =>
    have k' : (!isIte c && chk c C y && chkS.chkSs b C xs) = true := k
    rw [Bool.and_eq_true, Bool.and_eq_true, Bool.not_eq_true'] at k'
    obtain ⟨⟨k1, k2⟩, k3⟩ := k'
    refine ofPS (ps_while hp.pass (evPT X y) (evPSs X xs)) ?_
    generalize hr : whileGo (ev T c) (exS T b) n ρ = res
    have h2 : PostS X.K ca W H0 O0 O H res D := by rw [← hr]; exact h
    refine ⟨fun m σ' H' => ∃ ρi O', Rel X.K H0 O0 ρi O' σ' H' ∧ Same (Fz H O) (Fz H' O') ∧ whileGo (ev T c) (exS T b) m ρi = res, ⟨n, ρ, O, r, Same.refl _, hr⟩, ?_⟩
    rintro m σ2 H2 ⟨ρi, O', r2, sf, hgo⟩
    cases m with
    | zero => have : res = .bad := hgo.symm; rw [this] at h2; exact (show False from h2).elim
    | succ m =>
      refine (all_S c).2.1 C X W y G k2 k1 ρi O' σ2 H2 r2.toRelE _ ?_
      unfold whileGo at hgo
      cases e : ev T c ρi with
      | exc x => rw [e] at hgo; rw [← hgo] at h2; exact fun H' s => h2 _ H' (r2.keep.trans s)
      | bad => rw [e] at hgo; rw [← hgo] at h2; exact h2
      | ok d =>
        rw [e] at hgo
        cases d with
        | bool q =>
          cases q with
          | false =>
            intro H3 s3
            rw [if_neg Bool.false_ne_true]
            rw [← hgo] at h2
            exact h2 σ2 H3 O' (r2.mono s3) (sf.trans (Fz.same s3))
          | true =>
            intro H3 s3
            rw [if_pos rfl]
            refine ⟨fun σ' H' => ∃ ρi O', Rel X.K H0 O0 ρi O' σ' H' ∧ Same (Fz H O) (Fz H' O') ∧ whileGo (ev T c) (exS T b) m ρi = res, fun σ' H' q => ⟨m, Nat.lt_succ_self _, q⟩, ?_⟩
            refine Hb C X W xs G hp k3 H0 O0 ρi O' σ2 H3 (r2.mono s3) _ ?_
            have s03 : Same (Fz H O) (Fz H3 O') := sf.trans (Fz.same s3)
            cases eb : exS T b ρi with
            | exc c => rw [eb] at hgo; rw [← hgo] at h2; exact h2
            | bad => rw [eb] at hgo; rw [← hgo] at h2; exact (show False from h2).elim
            | ok pr =>
              obtain ⟨fl, ρ''⟩ := pr
              rw [eb] at hgo
              cases fl with
              | nx => exact fun σ4 H4 O4 r4 s4 => ⟨ρ'', O4, r4, s03.trans s4, hgo⟩
              | bk => rw [← hgo] at h2; exact fun σ4 H4 O4 r4 s4 => h2 σ4 H4 O4 r4 (s03.trans s4)
              | rt v => rw [← hgo] at h2; exact h2
        | _ => rw [← hgo] at h2; exact (show False from h2).elim
end
end Pi

set_option Elab.async false
set_option linter.all false
set_option maxRecDepth 100000
set_option maxHeartbeats 4000000
/-! Pi19d: a def that tells all pairs that follow from some. -/
namespace Pi
open PySem PySem.Spec PyProof.Rows L2
/-! ### data -/
theorem pairZ_eq {d : D} {p : Int × Int} (h : pairZ d = some p) : d = pD p := by
  unfold pairZ at h
  split at h
  · split at h
    · cases h; rfl
    · cases h
  · cases h
theorem pairsZ_eq : ∀ {ds : List D} {ps : List (Int × Int)}, pairsZ ds = some ps → ds = ps.map pD
  | [], ps, h => by cases h; rfl
  | d :: ds, ps, h => by
    unfold pairsZ at h
    split at h
    · rename_i p r h1 h2
      cases h
      rw [List.map_cons, pairZ_eq h1, pairsZ_eq h2]
    · cases h
def allP : List (Int × Int) := range8.flatMap fun a => range8.map fun b => (a, b)
theorem small_mem {p : Int × Int} (h : smallP p) : p ∈ allP := by
  unfold smallP at h
  obtain ⟨a, b⟩ := p
  simp only at h
  unfold allP
  rw [List.mem_flatMap]
  refine ⟨a, ?_, List.mem_map.mpr ⟨b, ?_, rfl⟩⟩ <;> · unfold range8; simp only [List.mem_cons, List.not_mem_nil, or_false]; omega
theorem small_len {ps : List (Int × Int)} (hn : ps.Nodup) (h : ∀ p ∈ ps, smallP p) : ps.length ≤ 64 := by
  have := nodup_sub_len hn fun p hp => small_mem (h p hp)
  rw [show allP.length = 64 by decide] at this
  exact this
theorem insZ_small {ps : List (Int × Int)} {p : Int × Int} (h : ∀ p ∈ ps, smallP p) (hp : smallP p) : ∀ q ∈ insZ ps p, smallP q := by
  unfold insZ
  split
  · exact h
  · intro q hq
    rcases List.mem_append.mp hq with hq | hq
    · exact h q hq
    · rw [List.mem_singleton.mp hq]; exact hp
/-! ### texts -/
theorem in_inv {x u v : Str} {e : Expr} (h : chkIn x u v e = true) : ∃ p1 p2 n q p3 p, e = .Compare (.Tuple [.Name u p1, .Name v p2] n q) [.In] [.Name x p3] p := by
  unfold chkIn at h
  split at h <;> first | (cases h; done) | skip
  simp only [Bool.and_eq_true, decide_eq_true_eq] at h
  obtain ⟨⟨rfl, rfl⟩, rfl⟩ := h
  exact ⟨_, _, _, _, _, _, rfl⟩
theorem put_inv {x u v : Str} {s : Stmt} (h : chkPut x u v s = true) : ∃ p1 p2 n q p3 p4 b k p5 p, s = .Assign [.Subscript (.Name x p3) (.Tuple [.Name u p1, .Name v p2] n q) p4] (.Constant (.bool b) k p5) p := by
  unfold chkPut at h
  split at h <;> first | (cases h; done) | skip
  simp only [Bool.and_eq_true, decide_eq_true_eq] at h
  obtain ⟨⟨rfl, rfl⟩, rfl⟩ := h
  exact ⟨_, _, _, _, _, _, _, _, _, _, rfl⟩
theorem if_inv {n : SuN} {ss : List Stmt} (h : chkIf n ss = true) : ∃ e1 e2 p1 s1 p2, ss = [.If (.BoolOp .And [e1, e2] p1) [s1] [] p2] ∧ chkIn n.x n.v2 n.v1 e1 = true ∧ chkIn n.x n.v1 n.v3 e2 = true ∧ chkPut n.x n.v2 n.v3 s1 = true := by
  unfold chkIf at h
  split at h <;> first | (cases h; done) | skip
  simp only [Bool.and_eq_true] at h
  exact ⟨_, _, _, _, _, rfl, h.1.1, h.1.2, h.2⟩
theorem for_inv {v y : Str} {k : List Stmt → Bool} {ss : List Stmt} (h : chkFor v y k ss = true) : ∃ p1 p2 body p, ss = [.For (.Name v p1) (.Name y p2) body [] p] ∧ k body = true := by
  unfold chkFor at h
  split at h <;> first | (cases h; done) | skip
  simp only [Bool.and_eq_true, decide_eq_true_eq] at h
  obtain ⟨⟨rfl, rfl⟩, h⟩ := h
  exact ⟨_, _, _, _, rfl, h⟩
variable [MP]
/-! ### what is kept -/
theorem Mm.congr2 {H H' : Hp} {a : Addr} {t : D} (h1 : ∀ b o, H b = some o → (isMemo b o ∨ ∃ ob u, o = .frz ob u) → H' b = some o) (h : Mm H a t) : Mm H' a t := by
  obtain ⟨kn, es, m, xs, e1, e2, e3, e4, e5, e6, e7⟩ := h
  refine ⟨kn, es, m, xs, e1, h1 _ _ e2 (.inl ⟨es, m, rfl⟩), e3, e4, e5, e6, fun x hx => ?_⟩
  obtain ⟨ks, n, tk, ob, q1, q2, q3, q4⟩ := (e7 x hx).ok
  exact ⟨ks, n, tk, ob, q1, h1 _ _ q2 (.inr ⟨_, _, rfl⟩), q3, q4⟩
theorem Same.dic {H0 H : Hp} (s : Same H0 H) {a : Addr} {es es' : Array DictEntry} (h0 : H0 a = none) (hl : H a = some (DicO a es)) : Same H0 (L2.upd H a (DicO a es')) where
  get := fun b o h n => by rw [upd_ne (ne_of_none h h0)]; exact s.get b o h n
  tab := fun b o h n => by rw [upd_ne (ne_of_none h h0)]; exact s.tab b o h n
  mem := fun b t h => (s.mem b t h).congr2 fun c o q n => by
    by_cases hc : c = a
    · subst hc
      rw [hl] at q
      cases q
      rcases n with n | ⟨ob, u, n⟩
      · exact (not_memo_dic n).elim
      · cases n
    · rw [upd_ne hc]; exact q
theorem rpl_fz {K : PySem.W.Frag} {H : Hp} {O : List Addr} : ∀ {ys : List V} {ps : List (Int × Int)}, RpL K H ys (ps.map pD) → RpL K (Fz H O) ys (ps.map pD)
  | [], [], _ => .nil
  | [], _ :: _, h => by cases h
  | _ :: _, [], h => by cases h
  | y :: ys, p :: ps, h => by
    cases h with
    | cons h1 h2 =>
      refine .cons ?_ (rpl_fz h2)
      unfold pD at h1 ⊢
      cases h1 with
      | tup e d r =>
        refine .tup (Fz.mk2 e (fun z => by cases z)) d ?_
        cases r with
        | cons r1 r2 =>
          cases r1
          cases r2 with
          | cons r3 r4 =>
            cases r3
            cases r4
            exact .cons (.int _) (.cons (.int _) .nil)
/-- in the loops: the dict, the numbers -/
structure LI (X : Cx) (n : SuN) (H0 : Hp) (d l : Addr) (ns : List Int) (ps : List (Int × Int)) (σ : L2.St) (H : Hp) : Prop where
  len : σ.length = X.N.length
  hf : σ[n.f]? = some (some (V.ref d))
  hm : σ[n.m]? = some (some (V.ref l))
  hl : H l = some (.lst (ns.map V.int))
  dic : Dic X.prog X.w H d ps
  sm : ∀ p ∈ ps, smallP p
  keep : Same H0 H
  d0 : H0 d = none
section
variable {X : Cx} {n : SuN} {H0 : Hp} {d l : Addr} {ns : List Int} {ps : List (Int × Int)} {σ : L2.St} {H H' : Hp}
theorem LI.mono (L : LI X n H0 d l ns ps σ H) (s : Same H H') : LI X n H0 d l ns ps σ H' := ⟨L.len, L.hf, L.hm, s.l L.hl, L.dic.mono s, L.sm, L.keep.trans s, L.d0⟩
theorem LI.set (L : LI X n H0 d l ns ps σ H) {i : Nat} {v : V} (h1 : i ≠ n.f) (h2 : i ≠ n.m) : LI X n H0 d l ns ps (σ.set i (some v)) H :=
  ⟨by rw [List.length_set]; exact L.len, by rw [List.getElem?_set_ne h1]; exact L.hf, by rw [List.getElem?_set_ne h2]; exact L.hm, L.hl, L.dic, L.sm, L.keep, L.d0⟩
theorem LI.put (L : LI X n H0 d l ns ps σ H) {es' : Array DictEntry} {p : Int × Int} (hp : smallP p) (h : Dic X.prog X.w (upd H d (DicO d es')) d (insZ ps p)) : LI X n H0 d l ns (insZ ps p) σ (upd H d (DicO d es')) := by
  obtain ⟨es, xs, M⟩ := L.dic
  refine ⟨L.len, L.hf, L.hm, ?_, h, insZ_small L.sm hp, L.keep.dic L.d0 M.at_, L.d0⟩
  rw [upd_ne (ne_of L.hl M.at_ (fun z => nomatch z))]
  exact L.hl
theorem LI.few (L : LI X n H0 d l ns ps σ H) : ps.length ≤ 1000 := by
  obtain ⟨es, xs, M⟩ := L.dic
  have := small_len M.nd L.sm
  omega
end
section
variable {X : Cx} {o i value : Expr} {pos pos' : Pos} {td ty tv : TE}
theorem pc_din (hu : X.A.units + 1 < cLine) (hi : PE X i ty) (ho : PE X o td) : PC X .In i o (fun σ H Q => ty σ H fun y H1 => td σ H1 fun x H2 => ∃ a b ob p ps, x = .ref a ∧ y = .ref b ∧ Dic X.prog X.w H2 a ps ∧ H2 b = some (.frz ob (.tup [.int p.1, .int p.2])) ∧ Q (.bl (decide (p ∈ ps))) H2) := by
  refine ⟨fun pins s σ H Q I h => ?_⟩
  refine thn (hi.run pins s σ H _ I h) fun iv s1 ⟨y, H1, I1, ry, q1⟩ => thn (ho.run pins s1 σ H1 _ I1 q1) fun u s2 ⟨x, H2, I2, rx, a, b, ob, p, ps, ex, ey, M, hk, q⟩ => ?_
  subst ex ey
  obtain rfl : u = Value.ref a := rx
  obtain rfl : iv = Value.ref b := ry
  exact dic_in hu I2 M hk fun s3 I3 => ⟨.bl _, H2, I3, rfl, q⟩
theorem ps_dput (hu : X.A.units + 1 < cLine) (ho : PE X o td) (hi : PE X i ty) (hv : PE X value tv) (hs : swapsWith value (some (.Subscript o i pos')) pos.line X.env = pure false) :
    PS X (.Assign [.Subscript o i pos'] value pos) (fun D σ H => tv σ H fun v H1 => td σ H1 fun x H2 => ty σ H2 fun y H3 => ∃ a b ob p ps, x = .ref a ∧ y = .ref b ∧ Dic X.prog X.w H3 a ps ∧ H3 b = some (.frz ob (.tup [.int p.1, .int p.2])) ∧ ob.dict = none ∧ ps.length ≤ 1000 ∧
      ∀ es', Dic X.prog X.w (upd H3 a (DicO a es')) a (insZ ps p) → D.nx σ (upd H3 a (DicO a es'))) := by
  refine ⟨fun pins s σ H D I h => ?_⟩
  refine wpAny_Assign_Subscript (thn (hv.run pins s σ H _ I h) fun r s1 ⟨v, H1, I1, rv, q1⟩ => thn (ho.run pins s1 σ H1 _ I1 q1) fun u s2 ⟨x, H2, I2, rx, q2⟩ => thn (hi.run pins s2 σ H2 _ I2 q2) fun iv s3 ⟨y, H3, I3, ry, a, b, ob, p, ps, ex, ey, M, hk, hd, hz, q3⟩ => ?_) hs
  subst ex ey
  obtain rfl : u = Value.ref a := rx
  obtain rfl : iv = Value.ref b := ry
  exact dic_set hu I3 M hk hd hz fun es' s4 I4 M4 => ⟨σ, _, I4, q3 es' M4⟩
end
section
variable {T : Str → List D → R D} {ca : Nat → Addr} {C : Ctx} {X : Cx} {W : WX}
theorem nm_inv {i : Nat} {x : Str} (G : Good C T ca X W) (h : nmB C i x = true) : X.N[i]? = some x ∧ (∀ p, PE X (.Name x p) (tVar i)) ∧ X.env.scope.names.lookup x = some .local ∧ (∀ p, PG X (.Name x p) (gName i)) := by
  unfold nmB at h
  simp only [Bool.and_eq_true, decide_eq_true_eq] at h
  obtain ⟨⟨h1, h2⟩, h3⟩ := h
  have hi : X.N[i]? = some x := by rw [G.N]; exact h1
  have hl : X.env.scope.names.lookup x = some .local := by rw [G.sc]; exact h2
  exact ⟨hi, fun p => pe_var (i := i) hi (.inl hl) (okName_of h3).1 (okName_of h3).2.1, hl, fun p => pg_name (by rw [G.N]; exact G.nd) hi (.inl hl) (.inr hl)⟩
/-- (u, v), a new tuple -/
theorem tup_rd {u v : Str} {iu iv : Nat} {p1 p2 q : Pos} {k : Nat} {a b : Int} {σ : L2.St} {H : Hp} {Q : VK} (hu : ∀ p, PE X (.Name u p) (tVar iu)) (hv : ∀ p, PE X (.Name v p) (tVar iv)) (su : σ[iu]? = some (some (V.int a))) (sv : σ[iv]? = some (some (V.int b)))
    (h : ∀ p o, H p = none → o.dict = none → Q (.ref p) (upd H p (.frz o (.tup [.int a, .int b])))) : Ev X (.Tuple [.Name u p1, .Name v p2] k q) σ H Q := by
  have hz := sizeLine_eq
  exact ofPE (pe_tupF (pa_cons (hu p1) (pa_cons (hv p2) pa_nil rfl) rfl)) ⟨_, su, _, sv, by simp; omega, fun p o h1 h2 => h p o h1 h2⟩
/-- the innermost text -/
theorem su_if {n : SuN} {ss : List Stmt} {H0 : Hp} {d l : Addr} {ns : List Int} {ps : List (Int × Int)} {σ : L2.St} {H : Hp} {D : Ends} {mid one oth : Int} (G : Good C T ca X W) (k : chkIf n ss = true) (kx : nmB C n.f n.x = true) (k1 : nmB C n.i1 n.v1 = true) (k2 : nmB C n.i2 n.v2 = true) (k3 : nmB C n.i3 n.v3 = true)
    (L : LI X n H0 d l ns ps σ H) (e1 : σ[n.i1]? = some (some (V.int mid))) (e2 : σ[n.i2]? = some (some (V.int one))) (e3 : σ[n.i3]? = some (some (V.int oth))) (b2 : 0 ≤ one ∧ one < 8) (b3 : 0 ≤ oth ∧ oth < 8)
    (h : ∀ H', LI X n H0 d l ns (sureStep mid one oth ps) σ H' → D.nx σ H') : EvSs X ss D σ H := by
  obtain ⟨x1, x2, q1, s1, q2, rfl, c1, c2, c3⟩ := if_inv k
  obtain ⟨a1, a2, a3, a4, a5, a6, rfl⟩ := in_inv c1
  obtain ⟨b1', b2', b3', b4', b5', b6', rfl⟩ := in_inv c2
  obtain ⟨d1, d2, d3, d4, d5, d6, d7, d8, d9, d10, rfl⟩ := put_inv c3
  obtain ⟨_, px, _⟩ := nm_inv G kx
  obtain ⟨_, p1, _⟩ := nm_inv G k1
  obtain ⟨_, p2, _⟩ := nm_inv G k2
  obtain ⟨_, p3, _⟩ := nm_inv G k3
  have hu : X.A.units + 1 < cLine := by have := G.un; omega
  have hmono : ∀ {H : Hp} {p : Addr} {o : HO}, H p = none → Same H (upd H p o) := fun h => same_upd h
  refine ofPSs (pss_one (ps_if (pw_and (pt_cmp (pc_din hu (evPE X _) (px a5)) rfl) (pw_and1 (pt_cmp (pc_din hu (evPE X _) (px b5')) rfl))).pt (pss_one (ps_dput hu (px d5) (evPE X _) (pe_bl (b := d7)) (by rfl))) pss_nil)) ?_
  refine tup_rd p2 p1 e2 e1 fun t o ht ho => ?_
  have L1 := L.mono (same_upd ht (o := .frz o (.tup [.int one, .int mid])))
  refine ⟨_, L1.hf, d, t, o, (one, mid), ps, rfl, rfl, L1.dic, upd_same, decide ((one, mid) ∈ ps), rfl, ?_⟩
  by_cases m1 : (one, mid) ∈ ps
  · dsimp only
    rw [if_pos (decide_eq_true m1)]
    refine tup_rd p1 p3 e1 e3 fun t2 o2 ht2 ho2 => ?_
    have L2' := L1.mono (same_upd ht2 (o := .frz o2 (.tup [.int mid, .int oth])))
    refine ⟨_, L2'.hf, d, t2, o2, (mid, oth), ps, rfl, rfl, L2'.dic, upd_same, decide ((mid, oth) ∈ ps), rfl, ?_⟩
    by_cases m2 : (mid, oth) ∈ ps
    · dsimp only
      rw [if_pos (decide_eq_true m2)]
      refine ⟨_, L2'.hf, tup_rd p2 p3 e2 e3 fun t3 o3 ht3 ho3 => ?_⟩
      have L3 := L2'.mono (same_upd ht3 (o := .frz o3 (.tup [.int one, .int oth])))
      refine ⟨d, t3, o3, (one, oth), ps, rfl, rfl, L3.dic, upd_same, ho3, L3.few, fun es' M' => h _ ?_⟩
      have := L3.put (p := (one, oth)) ⟨b2.1, b2.2, b3.1, b3.2⟩ M'
      unfold sureStep
      rw [if_pos ⟨m1, m2⟩]
      exact this
    · dsimp only
      rw [if_neg (by rw [decide_eq_false m2]; exact Bool.false_ne_true)]
      refine h _ ?_
      unfold sureStep
      rw [if_neg (fun z => m2 z.2)]
      exact L2'
  · dsimp only
    rw [if_neg (by rw [decide_eq_false m1]; exact Bool.false_ne_true), if_neg Bool.false_ne_true]
    refine h _ ?_
    unfold sureStep
    rw [if_neg (fun z => m1 z.1)]
    exact L1
theorem foldl_take {α β : Type} (f : β → α → β) (b : β) {xs : List α} {i : Nat} {x : α} (h : xs[i]? = some x) : (xs.take (i + 1)).foldl f b = f ((xs.take i).foldl f b) x := by
  obtain ⟨hlt, e⟩ := List.getElem?_eq_some_iff.mp h
  rw [List.take_add_one, h, List.foldl_append]
  rfl
/-- a loop over the numbers -/
theorem su_for1 {n : SuN} {st : Stmt} {kk : List Stmt → Bool} {v : Str} {j : Nat} {H0 : Hp} {d l : Addr} {ns : List Int} {ps : List (Int × Int)} {σ : L2.St} {H : Hp} {D : Ends} {F : Int → List (Int × Int) → List (Int × Int)} (G : Good C T ca X W) (hp : Pl X) (k : chkFor v n.y kk [st] = true) (ky : nmB C n.m n.y = true) (kv : nmB C j v = true)
    (hj1 : j ≠ n.f) (hj2 : j ≠ n.m) (Z : L2.St → Prop) (hZ : ∀ σ x, Z σ → Z (σ.set j (some x)))
    (hb : ∀ body σ H ps x D, kk body = true → x ∈ ns → Z σ → LI X n H0 d l ns ps σ H → σ[j]? = some (some (V.int x)) → (∀ σ' H', Z σ' → LI X n H0 d l ns (F x ps) σ' H' → D.nx σ' H') → EvSs X body D σ H)
    (L : LI X n H0 d l ns ps σ H) (z : Z σ) (h : ∀ σ' H', Z σ' → LI X n H0 d l ns (ns.foldl (fun ps x => F x ps) ps) σ' H' → D.nx σ' H') : EvS X st D σ H := by
  obtain ⟨p1, p2, body, p, est, kb⟩ := for_inv k
  cases est
  obtain ⟨_, py, _⟩ := nm_inv G ky
  obtain ⟨hvj, _, _, gv⟩ := nm_inv G kv
  refine ofPS (ps_for hp.pass G.calm (pi_list (py p2)) (gv p1) (evPSs X body)) ?_
  refine ⟨_, L.hm, l, rfl, ⟨_, SqL.of L.hl⟩, ?_⟩
  have hjl : j < X.N.length := (List.getElem?_eq_some_iff.mp hvj).1
  refine for_list (xs := ns.map V.int) (fun i σ' H' => Z σ' ∧ LI X n H0 d l ns ((ns.take i).foldl (fun ps x => F x ps) ps) σ' H') ⟨z, L⟩ (fun i σ' H' _ q => SqL.of q.2.hl) ?_ ?_
  · rintro i x σ' H' hx ⟨z', L'⟩
    rw [List.getElem?_map] at hx
    cases e : ns[i]? with
    | none => rw [e] at hx; cases hx
    | some y =>
      rw [e] at hx
      cases hx
      refine hb body _ H' _ y _ kb (List.mem_of_getElem? e) (hZ _ _ z') (L'.set hj1 hj2) (List.getElem?_set_self (by rw [L'.len]; exact hjl)) fun σ2 H2 z2 L2 => ⟨z2, ?_⟩
      rw [foldl_take _ _ e]
      exact L2
  · rintro σ' H' ⟨z', L'⟩
    rw [List.length_map, List.take_length] at L'
    exact h σ' H' z' L'
theorem su_for {n : SuN} {ss : List Stmt} {kk : List Stmt → Bool} {v : Str} {j : Nat} {H0 : Hp} {d l : Addr} {ns : List Int} {ps : List (Int × Int)} {σ : L2.St} {H : Hp} {D : Ends} {F : Int → List (Int × Int) → List (Int × Int)} (G : Good C T ca X W) (hp : Pl X) (k : chkFor v n.y kk ss = true) (ky : nmB C n.m n.y = true) (kv : nmB C j v = true)
    (hj1 : j ≠ n.f) (hj2 : j ≠ n.m) (Z : L2.St → Prop) (hZ : ∀ σ x, Z σ → Z (σ.set j (some x)))
    (hb : ∀ body σ H ps x D, kk body = true → x ∈ ns → Z σ → LI X n H0 d l ns ps σ H → σ[j]? = some (some (V.int x)) → (∀ σ' H', Z σ' → LI X n H0 d l ns (F x ps) σ' H' → D.nx σ' H') → EvSs X body D σ H)
    (L : LI X n H0 d l ns ps σ H) (z : Z σ) (h : ∀ σ' H', Z σ' → LI X n H0 d l ns (ns.foldl (fun ps x => F x ps) ps) σ' H' → D.nx σ' H') : EvSs X ss D σ H := by
  obtain ⟨p1, p2, body, p, rfl, kb⟩ := for_inv k
  exact ofPSs (pss_one (evPS X _)) (su_for1 (F := F) G hp k ky kv hj1 hj2 Z hZ hb L z h)
/-- the three loops -/
theorem su_loops {n : SuN} {st : Stmt} {H0 : Hp} {d l : Addr} {ns : List Int} {ps : List (Int × Int)} {σ : L2.St} {H : Hp} {D : Ends} (G : Good C T ca X W) (hp : Pl X) (k : chkFor n.v1 n.y (chkFor n.v2 n.y (chkFor n.v3 n.y (chkIf n))) [st] = true) (kx : nmB C n.f n.x = true) (ky : nmB C n.m n.y = true) (k1 : nmB C n.i1 n.v1 = true) (k2 : nmB C n.i2 n.v2 = true) (k3 : nmB C n.i3 n.v3 = true)
    (f1 : n.i1 ≠ n.f) (f2 : n.i2 ≠ n.f) (f3 : n.i3 ≠ n.f) (m1 : n.i1 ≠ n.m) (m2 : n.i2 ≠ n.m) (m3 : n.i3 ≠ n.m) (h12 : n.i1 ≠ n.i2) (h13 : n.i1 ≠ n.i3) (h23 : n.i2 ≠ n.i3) (hns : ∀ x ∈ ns, 0 ≤ x ∧ x < 8)
    (L : LI X n H0 d l ns ps σ H) (h : ∀ σ' H', LI X n H0 d l ns (sureL ns ps) σ' H' → D.nx σ' H') : EvS X st D σ H := by
  refine su_for1 (F := fun mid ps => ns.foldl (fun ps one => ns.foldl (fun ps oth => sureStep mid one oth ps) ps) ps) (j := n.i1) G hp k ky k1 f1 m1 (fun _ => True) (fun _ _ _ => trivial) ?_ L trivial fun σ' H' _ L' => h σ' H' L'
  intro b1 σ1 H1 ps1 mid D1 kb1 hm1 _ L1 e1 q1
  refine su_for (F := fun one ps => ns.foldl (fun ps oth => sureStep mid one oth ps) ps) (j := n.i2) G hp kb1 ky k2 f2 m2 (fun σ => σ[n.i1]? = some (some (V.int mid))) (fun σ x z => by rw [List.getElem?_set_ne (Ne.symm h12)]; exact z) ?_ L1 e1 fun σ' H' _ L' => q1 σ' H' trivial L'
  intro b2 σ2 H2 ps2 one D2 kb2 hm2 e2 L2 e3 q2
  refine su_for (F := fun oth ps => sureStep mid one oth ps) (j := n.i3) G hp kb2 ky k3 f3 m3 (fun σ => σ[n.i1]? = some (some (V.int mid)) ∧ σ[n.i2]? = some (some (V.int one))) (fun σ x z => ⟨by rw [List.getElem?_set_ne (Ne.symm h13)]; exact z.1, by rw [List.getElem?_set_ne (Ne.symm h23)]; exact z.2⟩) ?_ L2 ⟨e2, e3⟩ fun σ' H' z L' => q2 σ' H' z.1 L'
  intro b3 σ3 H3 ps3 oth D3 kb3 hm3 e4 L3 e5 q3
  exact su_if G kb3 kx k1 k2 k3 L3 e4.1 e4.2 e5 (hns one hm2) (hns oth hm3) fun H' L' => q3 σ3 H' e4 L'
theorem rp_pair2 {K : PySem.W.Frag} {H : Hp} {x : V} {p : Int × Int} (h : Rp K H x (pD p)) : ∃ t o, x = .ref t ∧ o.dict = none ∧ H t = some (.frz o (.tup [.int p.1, .int p.2])) := by
  unfold pD at h
  cases h with
  | tup h d r =>
    cases r with
    | cons r1 r2 =>
      cases r1
      cases r2 with
      | cons r3 r4 =>
        cases r3
        cases r4
        exact ⟨_, _, rfl, d, h⟩
theorem foldl_insZ_small : ∀ {qs ps : List (Int × Int)}, (∀ p ∈ qs, smallP p) → (∀ p ∈ ps, smallP p) → ∀ p ∈ qs.foldl insZ ps, smallP p
  | [], ps, _, h => h
  | q :: qs, ps, hq, h => foldl_insZ_small (qs := qs) (fun p hp => hq p (List.mem_cons_of_mem _ hp)) (insZ_small h (hq q List.mem_cons_self))
theorem Rel.drop {K : PySem.W.Frag} {H0 : Hp} {O0 : List Addr} {ρ : En} {O : List Addr} {σ : L2.St} {H : Hp} (r : Rel K H0 O0 ρ O σ H) (i : Nat) (v : V) : Rel K H0 O0 (ρ.set i .no) O (σ.set i (some v)) H where
  len := by rw [List.length_set, List.length_set, r.len]
  val := fun j e q => by
    rcases getElem?_set_cases q with ⟨rfl, hl, e1⟩ | ⟨hne, q⟩
    · cases e1
    · obtain ⟨w, h1, h2⟩ := r.val j e q
      exact ⟨w, by rw [List.getElem?_set_ne (Ne.symm hne)]; exact h1, h2⟩
  own := fun j es q => by
    rcases getElem?_set_cases q with ⟨rfl, hl, e1⟩ | ⟨hne, q⟩
    · cases e1
    · obtain ⟨a, vs, h1, h2⟩ := r.own j es q
      exact ⟨a, vs, by rw [List.getElem?_set_ne (Ne.symm hne)]; exact h1, h2⟩
  dom := r.dom
  ownO := fun j es a q q' => by
    rcases getElem?_set_cases q with ⟨rfl, hl, e1⟩ | ⟨hne, q⟩
    · cases e1
    · rw [List.getElem?_set_ne (Ne.symm hne)] at q'
      exact r.ownO j es a q q'
  inj := fun j k es fs a q1 q2 q3 q4 => by
    rcases getElem?_set_cases q1 with ⟨rfl, hl, e1⟩ | ⟨hne, q1⟩
    · cases e1
    · rcases getElem?_set_cases q2 with ⟨rfl, hl, e1⟩ | ⟨hne2, q2⟩
      · cases e1
      · rw [List.getElem?_set_ne (Ne.symm hne)] at q3
        rw [List.getElem?_set_ne (Ne.symm hne2)] at q4
        exact r.inj j k es fs a q1 q2 q3 q4
  keep := r.keep
  sub := r.sub
  dom0 := r.dom0
theorem sss_sure {n : SuN} {own : List (Str × Nat)} {e ne : E} : SSs T ca (.sure n own e ne) := by
  intro C X W st G hp k H0 O0 ρ O σ H r D h
  have k' : chkSure n own e ne C st = true := k
  clear k
  unfold chkSure at k'
  split at k' <;> first | (cases k'; done) | skip
  rename_i x px a pa b0 kb0 pc b pb it scope pos p1 y py ny p2 s3 so pso z pz pcall pret
  simp only [Bool.and_eq_true, decide_eq_true_eq, Bool.not_eq_true'] at k'
  obtain ⟨⟨⟨⟨⟨⟨⟨⟨⟨⟨⟨⟨⟨⟨⟨⟨⟨⟨⟨⟨⟨⟨⟨⟨⟨⟨⟨⟨⟨⟨⟨⟨rfl, rfl⟩, rfl⟩, rfl⟩, rfl⟩, rfl⟩, kso⟩, kx⟩, ky⟩, k1⟩, k2⟩, k3⟩, kln⟩, ksc⟩, kblk⟩, kin⟩, knk⟩, kns⟩, ke⟩, kbe⟩, kset⟩, kbn⟩, hmf⟩, f1⟩, f2⟩, f3⟩, m1⟩, m2⟩, m3⟩, h12⟩, h13⟩, h23⟩, kfor⟩ := k'
  have hu : X.A.units + 1 < cLine := by have := G.un; omega
  have hN : X.N.Nodup := by rw [G.N]; exact G.nd
  obtain ⟨nx, px', lx, _⟩ := nm_inv G kx
  obtain ⟨ny', py', ly, _⟩ := nm_inv G ky
  have hkN : n.k < X.N.length := by
    have := knk
    unfold nmB at this
    simp only [Bool.and_eq_true, decide_eq_true_eq] at this
    rw [G.N]
    exact (List.getElem?_eq_some_iff.mp this.1.1).1
  have h' : PostS X.K ca W H0 O0 O H (ev T e ρ >>= sureR ρ n.f (ev T ne)) D := h
  intro pins s I
  have hlen : σ.length = X.N.length := I.len
  refine ofPSs (pss_cons (ps_setDcT (own := own) (wi := iList X.K (Ev X it)) (g := gName n.k) (tk := tVar n.k) (tv := tC (.bl b0)) (by omega) G.calm hN nx lx (swD_true I.ok.kind lx (by simp [kln]) ksc) (pi_list (evPE X it)) (blkOk_by (by rw [G.N, G.sc]; exact kblk))
    (fun s0 H0 a cl fp => (nm_inv (G.blk s0 H0 scope a cl fp) knk).2.2.2 _) (fun s0 H0 a cl fp => (nm_inv (G.blk s0 H0 scope a cl fp) knk).2.1 _) (fun s0 H0 a cl fp => pe_bl) (fun v => folded_of kns _ v)) (evPSs X _)) ?_ pins s I
  refine (all_S e).1.goS (D := D) (f := sureR ρ n.f (ev T ne)) G ke r h' fun d v H1 s1 rr q1 => ?_
  cases d <;> first | (exact (show False from q1).elim) | skip
  rename_i ds
  unfold sureR at q1
  simp only at q1
  cases ep : pairsZ ds with
  | none => rw [ep] at q1; exact (show False from q1).elim
  | some ps =>
    rw [ep] at q1
    simp only at q1
    have eds := pairsZ_eq ep
    have hsm := pairsZ_small ep
    subst eds
    have hv := rr.rp (kd_ne kbe)
    cases hv with
    | @lst la xs _ ha hl =>
      have hxl : xs.length = ps.length := by rw [hl.length, List.length_map]
      refine ⟨la, rfl, ⟨xs, SqL.of (Fz.of ha).1⟩, fun dd hdd hsys => ?_⟩
      have few : ∀ {H' : Hp} {i : Nat}, Dic X.prog X.w H' dd ((ps.take i).foldl insZ []) → ((ps.take i).foldl insZ []).length ≤ 1000 := fun {H' i} M => by
        obtain ⟨es, ys, M⟩ := M
        have := small_len M.nd (foldl_insZ_small (fun p hp => hsm p (List.mem_of_mem_take hp)) (fun p hp => by cases hp))
        omega
      refine ⟨fun i m H' => m = xs.length - i ∧ i ≤ xs.length ∧ Same H1 H' ∧ Dic X.prog X.w H' dd ((ps.take i).foldl insZ []), ⟨xs.length, by simp, Nat.zero_le _, same_upd hdd, #[], [], upd_same, rfl, rfl, List.nodup_nil, hsys, fun x hx => by cases hx⟩, ?_⟩
      rintro i m H2 ⟨rfl, hi, s2, M2⟩
      by_cases hlt : i < xs.length
      · refine .inr ⟨⟨xs, xs[i], SqL.of (s2.l (Fz.of ha).1), by simp [hlt]⟩, fun H' => Same H1 H' ∧ Dic X.prog X.w H' dd ((ps.take (i + 1)).foldl insZ []), fun H' q => ⟨xs.length - (i + 1), by omega, rfl, hlt, q⟩, ?_⟩
        rintro x H3 ⟨rfl, hx⟩
        have hx' := hx xs (SqL.of (s2.l (Fz.of ha).1))
        obtain ⟨dp, hdp, rx⟩ := hl.get' hx'
        rw [List.getElem?_map] at hdp
        cases epi : ps[i]? with
        | none => rw [epi] at hdp; cases hdp
        | some p =>
          rw [epi] at hdp
          cases hdp
          obtain ⟨t, ob, rfl, hob, hft⟩ := rp_pair2 rx
          refine ⟨(wipe_set _ kin).trans (wipe_wipe σ _), _, List.getElem?_set_self (by rw [wipe_length, hlen]; exact hkN), _, p, t, ob, rfl, s2.f (Fz.of hft).1, hob, M2, few M2, fun es' M3 => ⟨?_, ?_⟩⟩
          · obtain ⟨es, ys, M⟩ := M2
            exact s2.dic hdd M.at_
          · rw [foldl_take _ _ epi]
            exact M3
      · have ei : i = xs.length := by omega
        subst ei
        refine .inl ⟨⟨xs, SqL.of (s2.l (Fz.of ha).1), Nat.le_refl _⟩, ?_⟩
        rw [hxl, List.take_length] at M2
        -- the numbers
        have r2 := (r.mono (s1.trans s2)).drop n.f (.ref dd)
        show EvSs X _ D (σ.set n.f (some (.ref dd))) H2
        refine ofPSs (pss_cons (evPS X _) (evPSs X _)) ?_
        refine set_go (Q := fun _ _ => True) G kset r2.toRelE ?_
        cases ee : ev T ne (ρ.set n.f .no) with
        | exc c => rw [ee] at q1; exact (show False from q1).elim
        | bad => rw [ee] at q1; exact (show False from q1).elim
        | ok dn =>
          rw [ee] at q1
          cases dn <;> first | (exact (show False from q1).elim) | skip
          rename_i es
          simp only at q1
          cases ei : asInts es with
          | none => rw [ei] at q1; exact (show False from q1).elim
          | some ns =>
            rw [ei] at q1
            simp only at q1
            split at q1 <;> first | (exact (show False from q1).elim) | skip
            rename_i hall
            have ees := asInts_eq ei
            subst ees
            have hns : ∀ x ∈ ns, 0 ≤ x ∧ x < 8 := fun x hx => by
              have := List.all_eq_true.mp hall x hx
              simpa using this
            intro v3 H3 s3 rr3
            have hv3 := rr3.rp (kd_ne kbn)
            cases hv3 with
            | @lst lb vs _ hb hlb =>
              have evs := hlb.ints
              subst evs
              have L : LI X n H0 dd lb ns (ps.foldl insZ []) ((σ.set n.f (some (.ref dd))).set n.m (some (.ref lb))) H3 := by
                have hfl : n.f < σ.length := by rw [hlen]; exact (List.getElem?_eq_some_iff.mp nx).1
                have hml : n.m < σ.length := by rw [hlen]; exact (List.getElem?_eq_some_iff.mp ny').1
                refine ⟨by rw [List.length_set, List.length_set]; exact hlen, ?_, List.getElem?_set_self (by rw [List.length_set]; exact hml), (Fz.of hb).1, M2.mono s3, foldl_insZ_small hsm (fun p hp => by cases hp), r2.keep.trans s3, (r.keep.trans s1).free hdd⟩
                rw [List.getElem?_set_ne hmf]
                exact List.getElem?_set_self hfl
              refine ofPSs (pss_cons (evPS X _) (evPSs X _)) ?_
              refine su_loops G hp kfor kx ky k1 k2 k3 f1 f2 f3 m1 m2 m3 h12 h13 h23 hns L fun σ' H4 L4 => ?_
              refine ofPSs (pss_one (ps_ret (pe_callB (X := X) (id := "sorted") (cr_sortedD G.calm) (G.glo kso) (G.bi _ (by simp [bnames])) (by decide +kernel) (pa_cons (px' pz) pa_nil rfl) (by decide) (by decide) rfl rfl))) ?_
              refine ⟨_, L4.hf, dd, _, rfl, L4.dic, L4.few, fun ys p ry hp0 => ?_⟩
              have hpO : p ∉ O0 := r.dom0.out (L4.keep.free hp0)
              exact q1 _ _ (L4.keep.trans (same_upd hp0)) (.lst (Fz.mk upd_same hpO) ((rpl_fz ry).mono (Fz.same (same_upd hp0))))
end
end Pi

set_option Elab.async false
set_option linter.all false
set_option maxRecDepth 100000
set_option maxHeartbeats 4000000
/-! Pi20: the last statements; all of them; a def. -/
namespace Pi
open PySem PySem.Spec PyProof.Rows L2
variable [MP]
section
variable {T : Str → List D → R D} {ca : Nat → Addr}
theorem chkS_raise (x : Str) (c : Nat) (C : Ctx) (s : Stmt) : chkS (.raise x c) C s = (match s with
    | .Raise (some (.Call (.Name y _) [.Constant (.str _) _ _] [] _)) none _ => decide (y = x) && glB C y && okName y && decide (C.ex.lookup y = some c)
    | _ => false) := rfl
theorem chkS_app (i : Nat) (e : E) (C : Ctx) (s : Stmt) : chkS (.app i e) C s = (match s with
    | .Expr (.Call (.Attribute (.Name x _) m ap) [y] [] cp) _ => decide (m = "append") && decide (ap.endLine = cp.line) && decide (C.N[i]? = some x) && visB C x && okName x && !isBor e && chk e C y
    | _ => false) := rfl
theorem chkS_ext (i : Nat) (e : E) (C : Ctx) (s : Stmt) : chkS (.ext i e) C s = (match s with
    | .Expr (.Call (.Attribute (.Name x _) m ap) [y] [] cp) _ => decide (m = "extend") && decide (ap.endLine = cp.line) && decide (C.N[i]? = some x) && visB C x && okName x && !isBor e && chk e C y
    | _ => false) := rfl
theorem chkS_mov (j i : Nat) (C : Ctx) (s : Stmt) : chkS (.mov j i) C s = (match s with
    | .Assign [.Name x _] (.Name y _) _ => decide (C.N[j]? = some x) && locB C x && decide (C.N[i]? = some y) && visB C y && okName y && decide (i ≠ j)
    | _ => false) := rfl
theorem chkS_try (b : S) (i : Nat) (cs : List Nat) (C : Ctx) (s : Stmt) : chkS (.tryE b i cs) C s = (match s with
    | .Try xs [.ExceptHandler (some (.Name x _)) (some n) su _] [] [] _ => chkS.chkSs b C xs && chkH C i cs x n su
    | _ => false) := rfl
theorem EvA.imp {X : Cx} {es : List Expr} {σ : L2.St} {H : Hp} {Q Q' : List V → Hp → Prop} (h : EvA X es σ H Q) (hq : ∀ vs H', Q vs H' → Q' vs H') : EvA X es σ H Q' := fun pos pins s I =>
  thn (h pos pins s I) fun u s' ⟨v, H', I', r, q⟩ => ⟨v, H', I', r, hq _ _ q⟩
theorem ss_raise {x : Str} {c : Nat} : SS T ca (.raise x c) := by
  intro C X W st G hp k H0 O0 ρ O σ H r D h
  rw [chkS_raise] at k
  split at k <;> first | (cases k; done) | skip
  rename_i y p1 m j p2 p3 p4
  simp only [Bool.and_eq_true, decide_eq_true_eq] at k
  obtain ⟨⟨⟨rfl, k2⟩, k3⟩, k4⟩ := k
  have F := G.ex _ _ k4
  refine ofPS (L2.ps_raise G.calm G.tk (L2.pmk_own PySem.F.excBase_ValueError F.q F.g F.k (raises_own F.b F.t) (G.glo k2) (okName_of k3).1)) ?_
  exact h σ H r.keep
theorem ss_brk : SS T ca .brk := by
  intro C X W st G hp k H0 O0 ρ O σ H r D h
  cases st <;> first | (cases (show false = true from k); done) | skip
  exact ofPS ps_break (h σ H O r (Same.refl _))
theorem ss_pass : SS T ca .pass := by
  intro C X W st G hp k H0 O0 ρ O σ H r D h
  cases st <;> first | (cases (show false = true from k); done) | skip
  exact ofPS ps_pass (h σ H O r (Same.refl _))
theorem own_inv {ρ : En} {i : Nat} (h : ownB ρ i = true) : ∃ ds, ρ[i]? = some (.own ds) := by
  unfold ownB at h
  split at h
  · rename_i ds e; exact ⟨ds, e⟩
  · cases h
theorem ss_app {i : Nat} {e : E} : SS T ca (.app i e) := by
  intro C X W st G hp k H0 O0 ρ O σ H r D h
  rw [chkS_app] at k
  split at k <;> first | (cases k; done) | skip
  rename_i x p1 m ap y cp p2
  simp only [Bool.and_eq_true, decide_eq_true_eq, Bool.not_eq_true'] at k
  obtain ⟨⟨⟨⟨⟨⟨rfl, k2⟩, k3⟩, k4⟩, k5⟩, k6⟩, k7⟩ := k
  have h' : PostS X.K ca W H0 O0 O H (if ownB ρ i then (ev T e ρ >>= fun d => appR i ρ d) else .bad) D := h
  split at h'
  · rename_i ho
    obtain ⟨ds, hi⟩ := own_inv ho
    obtain ⟨a, vs, hs, hl, rv⟩ := r.own i ds hi
    have hst := star_cons (xs := []) (env := X.env) (notStar_of k7)
    refine ofPS (ps_expr (pe_bm PySem.F.plainAttrs_list PySem.F.slot_list_append PySem.F.type_list_append mt_append (pe_var (i := i) (by rw [G.N]; exact k3) (G.vis k4) (okName_of k5).1 (okName_of k5).2.1) (evPA X [y]) rfl (by rw [hst]; rfl) (by simp [k2]) hst rfl)) ?_
    refine ⟨.ref a, hs, .inl ⟨rfl, _, SqL.of hl⟩, ?_⟩
    refine ofPA (pa_cons (evPE X y) pa_nil hst) ?_
    refine (all_S e).1.goS (D := D) (f := fun d => appR i ρ d) G k7 r h' fun d v H1 s rr q1 => ?_
    unfold appR at q1
    rw [hi] at q1
    by_cases hb : ds.length < big
    · have q2 : PostS X.K ca W H0 O0 O H1 (.ok (.nx, ρ.set i (.own (ds ++ [d])))) D := by
        simpa only [if_pos hb] using q1
      have r1 := r.mono s
      have rv1 := rv.mono (Fz.same (O := O) s)
      obtain ⟨r2, sf⟩ := r1.grow (es := [d]) (ws := [v]) hi hs (s.l hl) rv1 (.cons (rr.rp (kd_ne k6)) .nil)
      have hz := sizeLine_eq
      have hbig : big = 16777216 := rfl
      have hlen := rv.length
      exact ⟨a, vs, v, rfl, rfl, s.l hl, by omega, q2 _ _ _ r2 sf⟩
    · have q2 : PostS X.K ca W H0 O0 O H1 .bad D := by
        simpa only [if_neg hb] using q1
      exact (show False from q2).elim
  · exact (show False from h').elim
theorem ss_ext {i : Nat} {e : E} : SS T ca (.ext i e) := by
  intro C X W st G hp k H0 O0 ρ O σ H r D h
  rw [chkS_ext] at k
  split at k <;> first | (cases k; done) | skip
  rename_i x p1 m ap y cp p2
  simp only [Bool.and_eq_true, decide_eq_true_eq, Bool.not_eq_true'] at k
  obtain ⟨⟨⟨⟨⟨⟨rfl, k2⟩, k3⟩, k4⟩, k5⟩, k6⟩, k7⟩ := k
  have h' : PostS X.K ca W H0 O0 O H (if ownB ρ i then (ev T e ρ >>= fun d => extR i ρ d) else .bad) D := h
  split at h'
  · rename_i ho
    obtain ⟨ds, hi⟩ := own_inv ho
    obtain ⟨a, vs, hs, hl, rv⟩ := r.own i ds hi
    have hst := star_cons (xs := []) (env := X.env) (notStar_of k7)
    refine ofPS (ps_expr (pe_bm PySem.F.plainAttrs_list PySem.F.slot_list_extend PySem.F.type_list_extend mt_extend (pe_var (i := i) (by rw [G.N]; exact k3) (G.vis k4) (okName_of k5).1 (okName_of k5).2.1) (evPA X [y]) rfl (by rw [hst]; rfl) (by simp [k2]) hst rfl)) ?_
    refine ⟨.ref a, hs, .inl ⟨rfl, _, SqL.of hl⟩, ?_⟩
    refine ofPA (pa_cons (evPE X y) pa_nil hst) ?_
    refine (all_S e).1.goS (D := D) (f := fun d => extR i ρ d) G k7 r h' fun d v H1 s rr q1 => ?_
    unfold extR at q1
    rw [hi] at q1
    cases d <;> first | (exact (show False from q1).elim) | skip
    rename_i es
    by_cases hb : ds.length + es.length ≤ big
    · have q2 : PostS X.K ca W H0 O0 O H1 (.ok (.nx, ρ.set i (.own (ds ++ es)))) D := by
        simpa only [if_pos hb] using q1
      have r1 := r.mono s
      have rv1 := rv.mono (Fz.same (O := O) s)
      have hd := rr.rp (kd_ne k6)
      cases hd with
      | lst hb1 hb2 =>
        rename_i b ws
        obtain ⟨r2, sf⟩ := r1.grow (es := es) (ws := ws) hi hs (s.l hl) rv1 hb2
        have hz := sizeLine_eq
        have hbig : big = 16777216 := rfl
        have hlen := rv.length
        have hlen2 := hb2.length
        exact ⟨a, b, vs, ws, rfl, rfl, s.l hl, (Fz.of hb1).1, by omega, q2 _ _ _ r2 sf⟩
    · have q2 : PostS X.K ca W H0 O0 O H1 .bad D := by
        simpa only [if_neg hb] using q1
      exact (show False from q2).elim
  · exact (show False from h').elim
theorem ss_mov {j i : Nat} : SS T ca (.mov j i) := by
  intro C X W st G hp k H0 O0 ρ O σ H r D h
  rw [chkS_mov] at k
  split at k <;> first | (cases k; done) | skip
  rename_i x px y py p
  simp only [Bool.and_eq_true, decide_eq_true_eq] at k
  obtain ⟨⟨⟨⟨⟨k1, k2⟩, k3⟩, k4⟩, k5⟩, k6⟩ := k
  have h' : PostS X.K ca W H0 O0 O H (movR j i ρ) D := h
  unfold movR at h'
  split at h'
  · rename_i ds hi
    obtain ⟨hx, hf⟩ := G.loc k2
    obtain ⟨a, hs, r'⟩ := r.mov k6 hi
    refine ofPS (ps_set (i := j) (by rw [G.N]; exact G.nd) (by rw [G.N]; exact k1) hx (pe_var (i := i) (by rw [G.N]; exact k3) (G.vis k4) (okName_of k5).1 (okName_of k5).2.1) rfl hf) ?_
    exact ⟨.ref a, hs, h' _ H O r' (Same.refl _)⟩
  · exact (show False from h').elim
/-- in an except suite: the list of tests -/
theorem is_list {C : Ctx} {X : Cx} {W : WX} {n x0 : Str} {i c : Nat} {a : Addr} {oe : Obj} {pn : List (Addr × Obj)} (G : Good C T ca X W) (hz : Zc (.ref (ca c)) none oe) (hf : ∃ vs, oe.data = .fields vs) (hc : C.ex.lookup x0 = some c) (hi : C.N[i]? = some n) (hl : C.sc.names.lookup n = some .local) (hn : okName n = true) :
    ∀ {cs : List Nat} {es : List Expr}, chkIs C n cs es = true → ∀ {σ : L2.St} {H : Hp} {Q : List V → Hp → Prop}, σ[i]? = some (some (.ref a)) → Q (cs.map fun d => V.bl (c == d)) H →
      ∃ t, PA (X.suite a ((a, oe) :: pn)) es t ∧ t σ H Q
  | [], [], _, σ, H, Q, hs, q => ⟨_, pa_nil, q⟩
  | [], _ :: _, k, _, _, _, _, _ => by simp [chkIs] at k
  | _ :: _, [], k, _, _, _, _, _ => by simp [chkIs] at k
  | d :: ds, e :: es, k, σ, H, Q, hs, q => by
    unfold chkIs at k
    split at k <;> first | (cases k; done) | skip
    · rename_i h1 h2; cases h1
    · rename_i d' ds' f p1 m p2 y p3 p4 es' h1 h2
      cases h1
      cases h2
      simp only [Bool.and_eq_true, decide_eq_true_eq] at k
      obtain ⟨⟨⟨⟨⟨⟨⟨rfl, k1⟩, rfl⟩, k3⟩, k4⟩, k5⟩, k6⟩, k7⟩ := k
      obtain ⟨t, ht, hq⟩ := is_list (pn := pn) (Q := fun vs H' => Q (V.bl (c == d) :: vs) H') G hz hf hc hi hl hn k7 hs q
      have hm : X.mg "isinstance" = none := G.bi _ (by simp [bnames])
      have vis : Vis X.env.scope m := by unfold Vis; rw [G.sc]; exact .inl hl
      have F := G.ex _ _ k5
      refine ⟨_, pa_cons (pe_callB (X := X.suite a ((a, oe) :: pn)) (id := "isinstance") (call_isE (G.xa.cc _ _ hc) hz hf) (G.glo k1) hm (by decide +kernel)
        (pa_cons (pe_var (X := X.suite a ((a, oe) :: pn)) (i := i) (by show X.N[i]? = _; rw [G.N]; exact hi) vis (okName_of hn).1 (okName_of hn).2.1) (pa_cons (pe_glob (X := X.suite a ((a, oe) :: pn)) (v := .ref (ca d)) (G.glo k3) F.g rfl (okName_of k4).1) pa_nil)) (by decide) (by decide) rfl rfl) ht rfl, ?_⟩
      refine ⟨.ref a, hs, .ref (ca d), .ref (ca d), c == d, rfl, fun u r => ?_, G.xa.is _ _ _ _ hc k5 k6, hq⟩
      cases r; rfl
theorem findIdx_first : ∀ {cs : List Nat} {c j : Nat}, cs.findIdx? (· == c) = some j → cs[j]? = some c ∧ ∀ m z, m < j → cs[m]? = some z → z ≠ c := by
  intro cs c j h
  obtain ⟨hj, h1, h2⟩ := List.findIdx?_eq_some_iff_getElem.mp h
  refine ⟨by rw [List.getElem?_eq_getElem hj]; congr 1; simpa using h1, fun m z hm hz e => ?_⟩
  have := h2 m hm
  obtain ⟨hlt, e2⟩ := List.getElem?_eq_some_iff.mp hz
  rw [e2, e] at this
  simp at this
theorem chkIs_mem {C : Ctx} {n : Str} : ∀ {cs : List Nat} {es : List Expr}, chkIs C n cs es = true → ∀ c ∈ cs, ∃ x, C.ex.lookup x = some c
  | [], _, _, c, h => by cases h
  | _ :: _, [], k, _, _ => by simp [chkIs] at k
  | d :: ds, e :: es, k, c, h => by
    unfold chkIs at k
    split at k <;> first | (cases k; done) | skip
    · rename_i h1 h2; cases h1
    · rename_i d' ds' f p1 m p2 y p3 p4 es' h1 h2
      cases h1
      cases h2
      simp only [Bool.and_eq_true, decide_eq_true_eq] at k
      rcases List.mem_cons.mp h with rfl | h
      · exact ⟨y, k.1.1.2⟩
      · exact chkIs_mem k.2 c h
theorem ss_try {b : S} {i : Nat} {cs : List Nat} (Hb : SSs T ca b) : SS T ca (.tryE b i cs) := by
  intro C X W st G hp k H0 O0 ρ O σ H r D h
  rw [chkS_try] at k
  have k' := k
  clear k
  split at k' <;> first | (cases k'; done) | skip
  rename_i xs x p1 n su p2 p3
  rw [Bool.and_eq_true] at k'
  obtain ⟨kb, k'⟩ := k'
  unfold chkH at k'
  split at k' <;> first | (cases k'; done) | skip
  rename_i es p4 m ap j5 p5 cp p6
  simp only [Bool.and_eq_true, decide_eq_true_eq] at k'
  obtain ⟨⟨⟨⟨⟨⟨⟨⟨⟨k1, k2⟩, k3⟩, k4⟩, k5⟩, k6⟩, rfl⟩, k8⟩, k9⟩, k10⟩ := k'
  have F0 := G.ex _ _ k6
  have hN : X.N.Nodup := by rw [G.N]; exact G.nd
  refine ofPS (ps_try_as (x := x) (c := .ref (ca 0)) (tb := fun W' D σ H => ∀ pn xe, Takes (X.tr pn xe) W' → PassesOwn (model X.prog X.w) X.A X.env xe → EvSs (X.tr pn xe) xs D σ H)
    (ts := fun a cls d D σ H => ∀ oe pn, Zc cls d oe → (∃ vs, oe.data = .fields vs) → EvSs (X.suite a ((a, oe) :: pn)) _ D σ H) hp.stk hp.frm hN (by rw [G.N]; exact k1) (by show X.env.scope.names.lookup n = _; rw [G.sc]; exact k2) ⟨G.glo k4, (okName_of k5).1, .inl F0.g⟩ G.tk
    (fun W' pn xe tk ps => ⟨fun pins s σ H D I q => q pn xe tk ps pins s I⟩) (fun a oe cls d pn hz hf => ⟨fun pins s σ H D I q => q oe pn hz hf pins s I⟩)) ?_
  intro pn xe tk ps
  have G' : Good C T ca (X.tr pn xe) (wAs X.K (.ref (ca 0)) i (fun a cls d D σ H => ∀ oe pn, Zc cls d oe → (∃ vs, oe.data = .fields vs) → EvSs (X.suite a ((a, oe) :: pn)) _ D σ H) W D) :=
    { N := G.N, nd := G.nd, sc := G.sc, fn := G.fn, calm := G.calm, tk := tk, un := G.un, bi := G.bi, gl := G.gl, fs := G.fs, ex := G.ex, xa := G.xa, mp := G.mp, fa := G.fa }
  refine Hb C (X.tr pn xe) _ xs G' ⟨ps, hp.stk, hp.frm⟩ kb H0 O0 ρ O σ H r D ?_
  have h' : PostS X.K ca W H0 O0 O H (tryR cs ρ (exS T b ρ)) D := h
  cases e : exS T b ρ with
  | bad => rw [e] at h'; exact h'
  | ok pr =>
    rw [e] at h'
    obtain ⟨f, ρ'⟩ := pr
    cases f <;> exact h'
  | exc c =>
    rw [e] at h'
    intro σ' H' s'
    have h' : PostS X.K ca W H0 O0 O H (tryJ (cs.findIdx? (· == c)) ρ) D := h'
    cases ej : cs.findIdx? (· == c) with
    | none => rw [ej] at h'; exact (show False from h').elim
    | some j =>
      rw [ej] at h'
      obtain ⟨f1, f2⟩ := findIdx_first ej
      obtain ⟨x0, hx0⟩ := chkIs_mem k10 c (List.mem_of_getElem? f1)
      refine ⟨true, G.xa.up _ _ hx0, fun _ a ha oe pn hz hf => ?_, fun z => by cases z⟩
      intro pins s I
      have hlen : i < (σ'.set i (some (V.ref a))).length := by
        rw [I.len]
        show i < X.N.length
        rw [G.N]
        exact (List.getElem?_eq_some_iff.mp k1).1
      have hs : (σ'.set i (some (V.ref a)))[i]? = some (some (.ref a)) := List.getElem?_set_self (by simpa using hlen)
      have hsz := sizeLine_eq
      obtain ⟨t, ht, q⟩ := is_list (i := i) (pn := pn) (a := a) (σ := σ'.set i (some (V.ref a))) (H := H') (Q := fun vs H1 => vs = (cs.map fun d => V.bl (c == d)) ∧ H1 = H') G hz hf hx0 k1 k2 k3 k10 hs ⟨rfl, rfl⟩
      have hA := ofPA ht q
      refine ofPSs (pss_one (ps_ret (pe_bm (X := X.suite a ((a, oe) :: pn)) PySem.F.plainAttrs_list PySem.F.slot_list_index PySem.F.type_list_index mt_index (pe_lst (evPA _ es)) (pa_cons pe_bl pa_nil) rfl rfl (by simp [k8])))) ?_ pins s I
      refine hA.imp fun vs H1 ⟨e1, e2⟩ => ?_
      subst e1
      subst e2
      refine ⟨by rw [List.length_map]; omega, fun l hl => ⟨.inl ⟨rfl, _, SqL.of upd_same⟩, ?_⟩⟩
      refine ⟨l, cs.map fun d => V.bl (c == d), .bl true, j, .bl true, rfl, rfl, SqL.of upd_same, rfl, ?_, ?_, rfl, fun m z hm hz => ?_, ?_⟩
      · exact List.all_eq_true.mpr fun z hz => by
          obtain ⟨d, _, rfl⟩ := List.mem_map.mp hz
          rfl
      · rw [List.getElem?_map, f1]
        simp
      · rw [List.getElem?_map] at hz
        cases em : cs[m]? with
        | none => rw [em] at hz; cases hz
        | some d =>
          rw [em] at hz
          cases hz
          have := f2 m d hm em
          show eqV (V.bl (c == d)) (V.bl true) = false
          rw [show (c == d) = false from beq_eq_false_iff_ne.mpr fun e => this e.symm]
          rfl
      · exact h' _ _ (s'.trans (same_upd hl)) (.int _)
theorem chkS_own2 (f : Bool) (i j : Nat) (e : E) (C : Ctx) (s : Stmt) : chkS (.own2 f i j e) C s = (match s with
    | .Assign [.Tuple [.Name x px, .Name y py] _ _] (.Tuple [a, b] _ _) _ => (sw2 C [.Name x px, .Name y py] [a, b] || (!f && noSw C [.Name x px, .Name y py] [a, b] && chkNs C [i, j] [.Name x px, .Name y py])) && !isBor e && decide (i ≠ j) &&
      (if f then decide (C.N[j]? = some x) && decide (C.N[i]? = some y) && isNilX a && chk e C b else decide (C.N[i]? = some x) && decide (C.N[j]? = some y) && chk e C a && isNilX b)
    | _ => false) := rfl
theorem nilX_inv {a : Expr} (h : isNilX a = true) : ∃ p, a = .List [] p := by
  cases a <;> first | (cases h; done) | skip
  rename_i es p
  cases es with
  | nil => exact ⟨p, rfl⟩
  | cons _ _ => cases h
/-- x, y = e, [] and x, y = [], e: the new list is one's own -/
theorem ss_own2 {f : Bool} {i j : Nat} {e : E} : SS T ca (.own2 f i j e) := by
  intro C X W st G hp k H0 O0 ρ O σ H r D h
  rw [chkS_own2] at k
  split at k <;> first | (cases k; done) | skip
  rename_i x px y py n q a b n2 q2 p
  rw [Bool.and_eq_true, Bool.and_eq_true, Bool.and_eq_true, decide_eq_true_eq, Bool.not_eq_true'] at k
  obtain ⟨⟨⟨k5, kb⟩, hij⟩, k⟩ := k
  have hN : X.N.Nodup := by rw [G.N]; exact G.nd
  have h' : PostS X.K ca W H0 O0 O H (ev T e ρ >>= fun d => .ok (.nx, (ρ.set j (.own [])).set i (.val d))) D := h
  rw [Bool.or_eq_true] at k5
  rcases k5 with k5 | k5
  rotate_left
  · -- the plain way
    rw [Bool.and_eq_true, Bool.and_eq_true, Bool.not_eq_true'] at k5
    obtain ⟨⟨rfl, k5⟩, kns⟩ := k5
    simp only [Bool.false_eq_true, if_false, Bool.and_eq_true, decide_eq_true_eq] at k
    obtain ⟨⟨⟨k1, k2⟩, k3⟩, k4⟩ := k
    obtain ⟨pb, rfl⟩ := nilX_inv k4
    intro pins s I
    have hz := sizeLine_eq
    refine ofPS (ps_asg (pe_tupF (pa_cons (evPE X a) (pa_cons (pe_lst pa_nil) pa_nil rfl) (star_cons (notStar_of k3)))) (pg_of G (t := .tp [i, j]) (show chkTg C (.tp [i, j]) (.Tuple [.Name x px, .Name y py] n q) = true from kns)) rfl (stores_no G.sc I.ok.kind k5)) ?_ pins s I
    refine (all_S e).1.goS (D := D) (f := fun d => .ok (.nx, (ρ.set j (.own [])).set i (.val d))) G k3 r h' fun d v H1 s1 rr q1 => ?_
    refine ⟨Nat.zero_le _, fun l hl => ⟨by simp; omega, fun t o ht ho => ?_⟩⟩
    obtain ⟨a', ha, r2, sf⟩ := (r.mono s1).owns (i := j) (same_upd hl) (new_at hl .nil)
    cases ha
    have st := same_upd ht (o := .frz o (.tup [v, .ref l]))
    have r3 := (r2.mono st).set (i := i) (((rr.rp (kd_ne kb)).mono sf).mono (Fz.same st))
    rw [List.set_comm (l := σ) _ _ (Ne.symm hij)] at r3
    refine ⟨t, [v, .ref l], rfl, SqT.fr upd_same, rfl, v, [.ref l], rfl, .ref l, [], rfl, rfl, ?_⟩
    exact q1 _ _ _ r3 (sf.trans (Fz.same st))
  have k6 := k5
  simp only [sw2, Bool.and_eq_true, decide_eq_true_eq] at k6
  have l1 := k6.1.1.1.1.1.1.1
  have l2 := k6.1.1.1.1.1.1.2
  intro pins s I
  have hw := stores_2 (k := n) (p := q) (k2 := n2) (p2 := q2) G.sc I.ok.kind k5
  cases f with
  | false =>
    simp only [Bool.false_eq_true, if_false, Bool.and_eq_true, decide_eq_true_eq] at k
    obtain ⟨⟨⟨k1, k2⟩, k3⟩, k4⟩ := k
    obtain ⟨pb, rfl⟩ := nilX_inv k4
    refine ofPS (ps_par G.calm hN (by rw [G.N]; exact k1) (by rw [G.N]; exact k2) hij (by rw [G.sc]; exact l1) (by rw [G.sc]; exact l2) (pa_cons (evPE X a) (pa_cons (pe_lst pa_nil) pa_nil rfl) (star_cons (notStar_of k3))) hw) ?_ pins s I
    refine (all_S e).1.goS (D := D) (f := fun d => .ok (.nx, (ρ.set j (.own [])).set i (.val d))) G k3 r h' fun d v H1 s1 rr q1 => ?_
    refine ⟨Nat.zero_le _, fun l hl => ⟨v, .ref l, rfl, ?_⟩⟩
    obtain ⟨a', ha, r2, sf⟩ := (r.mono s1).owns (i := j) (same_upd hl) (new_at hl .nil)
    cases ha
    have r3 := r2.set (i := i) ((rr.rp (kd_ne kb)).mono sf)
    rw [List.set_comm _ _ (Ne.symm hij)] at r3
    rw [List.set_comm _ _ (Ne.symm hij)] at r3
    rw [List.set_comm _ _ hij] at r3
    exact q1 _ _ _ r3 sf
  | true =>
    simp only [if_true, Bool.and_eq_true, decide_eq_true_eq] at k
    obtain ⟨⟨⟨k1, k2⟩, k3⟩, k4⟩ := k
    obtain ⟨pb, rfl⟩ := nilX_inv k3
    refine ofPS (ps_par G.calm hN (by rw [G.N]; exact k1) (by rw [G.N]; exact k2) (Ne.symm hij) (by rw [G.sc]; exact l1) (by rw [G.sc]; exact l2) (pa_cons (pe_lst pa_nil) (pa_cons (evPE X b) pa_nil (star_cons (notStar_of k4))) rfl) hw) ?_ pins s I
    refine ⟨Nat.zero_le _, fun l hl => ?_⟩
    obtain ⟨a', ha, r2, sf⟩ := r.owns (i := j) (same_upd hl) (new_at hl .nil)
    cases ha
    have re : RelE X.K ρ (l :: O) σ (upd H l (.lst [])) := r.toRelE.mono2 (fun b o q ⟨vs, e⟩ => by subst e; exact (same_upd hl).l q) sf r2.dom
    refine (all_S e).1 C X W b G k4 ρ (l :: O) σ _ re _ ?_
    cases ee : ev T e ρ with
    | exc c => rw [ee] at h'; exact fun H' s' => h' _ H' (r.keep.trans ((same_upd hl).trans s'))
    | bad => rw [ee] at h'; exact h'
    | ok d =>
      rw [ee] at h'
      intro v H2 s2 rr
      refine ⟨.ref l, v, rfl, ?_⟩
      exact h' _ _ _ ((r2.mono s2).set (i := i) (rr.rp (kd_ne kb))) (sf.trans (Fz.same s2))
theorem sss_skip : SSs T ca .skip := by
  intro C X W st G hp k H0 O0 ρ O σ H r D h
  cases st with
  | cons _ _ => cases (show false = true from k)
  | nil => exact ofPSs pss_nil (h σ H O r (Same.refl _))
theorem sss_seq {a b : S} (Ha : SS T ca a) (Hb : SSs T ca b) (hn : ∀ i, a ≠ .frz i) : SSs T ca (.seq a b) := by
  intro C X W st G hp k H0 O0 ρ O σ H r D h
  cases st with
  | nil => cases a <;> first | (cases (show false = true from k); done) | exact (hn _ rfl).elim
  | cons s st =>
    have k' : (chkS a C s && chkS.chkSs b C st) = true := by cases a <;> first | exact k | exact (hn _ rfl).elim
    rw [Bool.and_eq_true] at k'
    refine ofPSs (pss_cons (evPS X s) (evPSs X st)) ?_
    refine Ha C X W s G hp k'.1 H0 O0 ρ O σ H r _ ?_
    have h' : PostS X.K ca W H0 O0 O H (thenS (exS T a ρ) (exS T b)) D := h
    cases e : exS T a ρ with
    | exc c => rw [e] at h'; exact h'
    | bad => rw [e] at h'; exact h'
    | ok p =>
      obtain ⟨f, ρ'⟩ := p
      rw [e] at h'
      cases f with
      | rt d => exact h'
      | bk => exact h'
      | nx => exact fun σ1 H1 O1 r1 s1 => Hb C X W st G hp k'.2 H0 O0 ρ' O1 σ1 H1 r1 D (PostS.later s1 h')
theorem sss_frz {i : Nat} {b : S} (Hb : SSs T ca b) : SSs T ca (.seq (.frz i) b) := by
  intro C X W st G hp k H0 O0 ρ O σ H r D h
  have h' : PostS X.K ca W H0 O0 O H (thenS (frzR i ρ) (exS T b)) D := h
  unfold frzR at h'
  split at h'
  · rename_i ds hi
    obtain ⟨O', r', sf⟩ := r.frz hi
    exact Hb C X W st G hp k H0 O0 _ O' σ H r' D (PostS.later sf h')
  · exact Hb C X W st G hp k H0 O0 _ O σ H r D h'
theorem never_SS {s : S} (h : ∀ C st, chkS s C st = false) : SS T ca s := fun C X W st G hp k => by rw [h] at k; cases k
theorem never_SSs {s : S} (h : ∀ C st, chkS.chkSs s C st = false) : SSs T ca s := fun C X W st G hp k => by rw [h] at k; cases k
/-- a text, and what follows -/
def STl (s : S) : Prop := ∀ (C : Ctx) (X : Cx) (W : WX) (st tail : List Stmt), Good C T ca X W → Pl X → chkS.chkSs s C st = true → noMemo s = true →
  ∀ H0 O0 ρ O σ H, Rel X.K H0 O0 ρ O σ H → ∀ D ρ', exS T s ρ = .ok (.nx, ρ') → (∀ σ' H' O', Rel X.K H0 O0 ρ' O' σ' H' → Same (Fz H O) (Fz H' O') → EvSs X tail D σ' H') → EvSs X (st ++ tail) D σ H
theorem stl_skip : STl (T := T) (ca := ca) .skip := by
  intro C X W st tail G hp k _ H0 O0 ρ O σ H r D ρ' e h
  cases st with
  | cons _ _ => cases (show false = true from k)
  | nil =>
    have e' : ρ' = ρ := by
      have : (R.ok (Fl.nx, ρ) : R (Fl × En)) = .ok (.nx, ρ') := e
      cases this; rfl
    subst e'
    exact h σ H O r (Same.refl _)
theorem stl_seq {a b : S} (Ha : SS T ca a) (Hb : STl (T := T) (ca := ca) b) (hn : ∀ i, a ≠ .frz i) : STl (T := T) (ca := ca) (.seq a b) := by
  intro C X W st tail G hp k nm H0 O0 ρ O σ H r D ρ2 e2 h
  cases st with
  | nil => cases a <;> first | (cases (show false = true from k); done) | exact (hn _ rfl).elim
  | cons s st =>
    have k' : (chkS a C s && chkS.chkSs b C st) = true := by cases a <;> first | exact k | exact (hn _ rfl).elim
    rw [Bool.and_eq_true] at k'
    rw [List.cons_append]
    refine ofPSs (pss_cons (evPS X s) (evPSs X (st ++ tail))) ?_
    refine Ha C X W s G hp k'.1 H0 O0 ρ O σ H r _ ?_
    have e' : thenS (exS T a ρ) (exS T b) = .ok (.nx, ρ2) := e2
    cases e : exS T a ρ with
    | exc c => rw [e] at e'; cases e'
    | bad => rw [e] at e'; cases e'
    | ok p =>
      obtain ⟨f, ρ'⟩ := p
      rw [e] at e'
      cases f with
      | rt d => cases e'
      | bk => cases e'
      | nx => exact fun σ1 H1 O1 r1 s1 => Hb C X W st tail G hp k'.2 nm H0 O0 ρ' O1 σ1 H1 r1 D ρ2 e' fun σ' H' O' r' s' => h σ' H' O' r' (s1.trans s')
theorem stl_frz {i : Nat} {b : S} (Hb : STl (T := T) (ca := ca) b) : STl (T := T) (ca := ca) (.seq (.frz i) b) := by
  intro C X W st tail G hp k nm H0 O0 ρ O σ H r D ρ2 e2 h
  have e' : thenS (frzR i ρ) (exS T b) = .ok (.nx, ρ2) := e2
  unfold frzR at e'
  split at e'
  · rename_i ds hi
    obtain ⟨O', r', sf⟩ := r.frz hi
    exact Hb C X W st tail G hp k nm H0 O0 _ O' σ H r' D ρ2 e' fun σ' H' O' r' s' => h σ' H' O' r' (sf.trans s')
  · exact Hb C X W st tail G hp k nm H0 O0 _ O σ H r D ρ2 e' h
theorem never_STl {s : S} (h : (∀ C st, chkS.chkSs s C st = false) ∨ noMemo s = false) : STl (T := T) (ca := ca) s := fun C X W st tail G hp k nm => by
  rcases h with h | h
  · rw [h] at k; cases k
  · rw [h] at nm; cases nm
/-! ### tables -/
section
variable {X : Cx} {o i value : Expr} {pos pos' : Pos} {td ty tv : TE}
theorem pc_mnotin (mp : MP.P = X.prog ∧ MP.w = X.w) (hu : X.A.units + 1 < cLine) (hi : PE X i ty) (ho : PE X o td) : PC X .NotIn i o (fun σ H Q => ty σ H fun y H1 => td σ H1 fun x H2 => ∃ a b ob ks t, x = .ref a ∧ y = .ref b ∧ Mm H2 a t ∧ H2 b = some (.frz ob (.tup (ks.map V.int))) ∧ (∀ n, MHas X.prog X.w H2 a t ks n → Q (.bl false) H2) ∧ Q (.bl true) H2) := by
  refine ⟨fun pins s σ H Q I h => ?_⟩
  refine thn (hi.run pins s σ H _ I h) fun iv s1 ⟨y, H1, I1, ry, q1⟩ => thn (ho.run pins s1 σ H1 _ I1 q1) fun u s2 ⟨x, H2, I2, rx, a, b, ob, ks, t, ex, ey, M, hk, qa, qb⟩ => ?_
  subst ex ey
  obtain rfl : u = Value.ref a := rx
  obtain rfl : iv = Value.ref b := ry
  exact memo_notIn mp hu I2 M hk (fun n s3 I3 hh => ⟨.bl false, H2, I3, rfl, qa n hh⟩) fun s3 I3 => ⟨.bl true, H2, I3, rfl, qb⟩
theorem pe_mget (hu : X.A.units + 1 < cLine) (ho : PE X o td) (hi : PE X i ty) (hs : NoSl i) : PE X (.Subscript o i pos) (fun σ H Q => td σ H fun x H1 => ty σ H1 fun y H2 => ∃ a b ob ks t n, x = .ref a ∧ y = .ref b ∧ MHas X.prog X.w H2 a t ks n ∧ H2 b = some (.frz ob (.tup (ks.map V.int))) ∧ Q (.int n) H2) := by
  refine ⟨fun pins s σ H Q I h => ?_⟩
  refine subD_of PySem.F.slot_dict_getitem.lookup hs (thn (ho.run pins s σ H _ I h) fun u s1 ⟨x, H1, I1, rx, q1⟩ => thn (hi.run pins s1 σ H1 _ I1 q1) fun iv s2 ⟨y, H2, I2, ry, a, b, ob, ks, t, n, ex, ey, M, hk, q2⟩ => ?_)
  subst ex ey
  obtain rfl : u = Value.ref a := rx
  obtain rfl : iv = Value.ref b := ry
  refine ⟨?_, memo_get hu I2 M hk fun tk s3 I3 => ⟨.int n, H2, I3, ⟨tk, rfl⟩, q2⟩⟩
  obtain ⟨kn, es, m, xs, mt, _⟩ := M
  obtain ⟨⟨o', ep, h1, h2, h3, _⟩, _⟩ := (show mphi a es m s2.heap ∧ _ from I2.hok a _ mt.at_)
  exact ⟨o', h1, h2.1⟩
theorem ps_mput (mp : MP.P = X.prog ∧ MP.w = X.w) (hu : X.A.units + 1 < cLine) (ho : PE X o td) (hi : PE X i ty) (hv : PE X value tv) (hs : swapsWith value (some (.Subscript o i pos')) pos.line X.env = pure false) :
    PS X (.Assign [.Subscript o i pos'] value pos) (fun D σ H => tv σ H fun v H1 => td σ H1 fun x H2 => ty σ H2 fun y H3 => ∃ a b ob ks t kn n, v = .int n ∧ x = .ref a ∧ y = .ref b ∧ Mm H3 a t ∧ H3 b = some (.frz ob (.tup (ks.map V.int))) ∧ knownZ t = some kn ∧ memoG kn ks = some n ∧
      ∀ H4, Same H3 H4 → MHas X.prog X.w H4 a t ks n → D.nx σ H4) := by
  refine ⟨fun pins s σ H D I h => ?_⟩
  refine wpAny_Assign_Subscript (thn (hv.run pins s σ H _ I h) fun r s1 ⟨v, H1, I1, rv, q1⟩ => thn (ho.run pins s1 σ H1 _ I1 q1) fun u s2 ⟨x, H2, I2, rx, q2⟩ => thn (hi.run pins s2 σ H2 _ I2 q2) fun iv s3 ⟨y, H3, I3, ry, a, b, ob, ks, t, kn, n, ev, ex, ey, M, hk, hkn, hg, q3⟩ => ?_) hs
  subst ev ex ey
  obtain rfl : u = Value.ref a := rx
  obtain rfl : iv = Value.ref b := ry
  obtain ⟨tk, rfl⟩ := rv
  exact memo_set mp hu I3 M hk hkn hg fun H4 s4 sm _ I4 hh => ⟨σ, H4, I4, q3 H4 sm hh⟩
end
theorem memoKey_inv {ρ : En} {d k : Nat} {n : Int} (h : memoKey ρ d k = some n) : ∃ t kn ks, ρ[d]? = some (.val (memoD t)) ∧ ρ[k]? = some (.val (.tuple (ks.map PyData.int))) ∧ knownZ t = some kn ∧ memoG kn ks = some n := by
  unfold memoKey at h
  split at h
  · rename_i t ds h1 h2
    split at h
    · rename_i kn ks h3 h4
      rw [asInts_eq h4] at h2
      exact ⟨t, kn, ks, h1, h2, h3, h⟩
    · cases h
  · cases h
theorem memo_slots {K : PySem.W.Frag} {ρ : En} {O : List Addr} {σ : L2.St} {H : Hp} (r : RelE K ρ O σ H) {d k : Nat} {t : D} {ks : List Int} (h1 : ρ[d]? = some (.val (memoD t))) (h2 : ρ[k]? = some (.val (.tuple (ks.map PyData.int)))) :
    ∃ a b ob, σ[d]? = some (some (V.ref a)) ∧ σ[k]? = some (some (V.ref b)) ∧ Mm H a t ∧ H b = some (.frz ob (.tup (ks.map V.int))) := by
  obtain ⟨v, s1, r1⟩ := r.val d _ h1
  obtain ⟨u, s2, r2⟩ := r.val k _ h2
  cases r2 with
  | tup hb hd hl =>
    have hv := hl.ints
    subst hv
    generalize hk : memoD t = dd at r1
    cases r1 with
    | memo hm =>
      unfold memoD at hk
      cases hk
      exact ⟨_, _, _, s1, s2, hm.unfz, (Fz.of hb).1⟩
    | @scr a ns hs =>
      unfold memoD scr at hk
      cases ns with
      | nil => cases hk
      | cons n ns => cases hk
    | fn hm => unfold memoD fnD at hk; cases hk
    | _ => cases hk
theorem sss_memo {d k : Nat} {b : S} {e : E} (Hb : STl (T := T) (ca := ca) b) : SSs T ca (.memo d k b e) := by
  intro C X W st G hp kk H0 O0 ρ O σ H r D h
  have h' : PostS X.K ca W H0 O0 O H (memoR ρ d k (exS T b ρ) (ev T e)) D := h
  unfold memoR at h'
  split at h' <;> first | (exact (show False from h').elim) | skip
  rename_i ρ' eb
  split at h' <;> first | (exact (show False from h').elim) | skip
  rename_i n ee
  split at h' <;> first | (exact (show False from h').elim) | skip
  rename_i hc
  obtain ⟨t, kn, ks, p1, p2, p3, p4⟩ := memoKey_inv hc.1
  obtain ⟨t', kn', ks', p1', p2', p3', p4'⟩ := memoKey_inv hc.2
  rw [chkSs_memo] at kk
  split at kk <;> first | (cases kk; done) | skip
  rename_i y q1 z q2 q3 xs q4 z2 q5 y2 q6 q7 q8
  simp only [Bool.and_eq_true, decide_eq_true_eq] at kk
  obtain ⟨⟨⟨⟨⟨⟨⟨⟨⟨k1, k2⟩, k3⟩, k4⟩, k5⟩, k6⟩, rfl⟩, rfl⟩, nm⟩, kk⟩ := kk
  split at kk <;> first | (cases kk; done) | skip
  rename_i z3 r1 y3 r2 r3 ex r4 rs hrev
  simp only [Bool.and_eq_true, decide_eq_true_eq] at kk
  obtain ⟨⟨⟨⟨rfl, rfl⟩, k7⟩, k8⟩, k9⟩ := kk
  have hxs : xs = rs.reverse ++ [.Assign [.Subscript (.Name z3 r1) (.Name y3 r2) r3] ex r4] := by
    have := congrArg List.reverse hrev
    rw [List.reverse_reverse, List.reverse_cons] at this
    exact this
  have hu : X.A.units + 1 < cLine := by have := G.un; omega
  have pk : ∀ q, PE X (.Name y3 q) (tVar k) := fun q => pe_var (i := k) (by rw [G.N]; exact k1) (G.vis k2) (okName_of k3).1 (okName_of k3).2.1
  have pd : ∀ q, PE X (.Name z3 q) (tVar d) := fun q => pe_var (i := d) (by rw [G.N]; exact k4) (G.vis k5) (okName_of k6).1 (okName_of k6).2.1
  have nosl : ∀ q, NoSl (.Name y3 q) := fun q o i => rfl
  -- the end
  have fin : ∀ σ1 H1 a b1 ob ks1 t1, σ1[d]? = some (some (V.ref a)) → σ1[k]? = some (some (V.ref b1)) → Same H0 H1 → MHas X.prog X.w H1 a t1 ks1 n → H1 b1 = some (.frz ob (.tup (ks1.map V.int))) →
      EvSs X [.Return (some (.Subscript (.Name z3 q5) (.Name y3 q6) q7)) q8] D σ1 H1 := fun σ1 H1 a b1 ob ks1 t1 e1 e2 sm mh hb => by
    refine ofPSs (pss_one (ps_ret (pe_mget hu (pd q5) (pk q6) (nosl q6)))) ?_
    exact ⟨.ref a, e1, .ref b1, e2, a, b1, ob, ks1, t1, n, rfl, rfl, mh, hb, h' (.int n) H1 sm (.int n)⟩
  obtain ⟨a, b0, ob, s1, s2, M, hb⟩ := memo_slots r.toRelE p1 p2
  refine ofPSs (pss_cons (ps_if (pt_cmp (pc_mnotin G.mp hu (pk q1) (pd q2)) rfl) (evPSs X xs) pss_nil) (evPSs X _)) ?_
  refine ⟨.ref b0, s2, .ref a, s1, a, b0, ob, ks, t, rfl, rfl, M, hb, fun n' mh => ⟨false, rfl, ?_⟩, ⟨true, rfl, ?_⟩⟩
  · -- there already
    simp only [Bool.false_eq_true, if_false]
    have en : n' = n := by
      obtain ⟨kn2, es, m, xs2, mt, g2, _⟩ := mh
      have e1 : kn2 = kn := Option.some.inj (mt.knw.symm.trans p3)
      subst e1
      exact Option.some.inj (g2.symm.trans p4)
    subst en
    exact fin σ H a b0 ob ks t s1 s2 r.keep mh hb
  · simp only [if_true]
    rw [hxs]
    refine Hb C X W rs.reverse _ G hp k9 nm H0 O0 ρ O σ H r _ ρ' eb fun σ' H' O' r' sf => ?_
    refine ofPSs (pss_one (ps_mput G.mp hu (pd r1) (pk r2) (evPE X ex) (swaps_none k8 _))) ?_
    refine (all_S e).1 C X W ex G k7 ρ' O' σ' H' r'.toRelE _ ?_
    rw [ee]
    intro v H1 sm1 rr
    have hv : v = .int n := by
      have := rr.rq
      exact this.int
    subst hv
    obtain ⟨a', b1, ob', s1', s2', M', hb'⟩ := memo_slots (r'.mono sm1).toRelE p1' p2'
    refine ⟨.ref a', s1', .ref b1, s2', a', b1, ob', ks', t', kn', n, rfl, rfl, rfl, M', hb', p3', p4', fun H4 sm4 mh => ?_⟩
    exact fin σ' H4 a' b1 ob' ks' t' s1' s2' ((r'.keep.trans sm1).trans sm4) mh (sm4.f hb')
theorem all_SS (s : S) : SS T ca s ∧ SSs T ca s ∧ STl (T := T) (ca := ca) s := by
  induction s with
  | asg t e => cases t with
    | nm i => exact ⟨ss_asg_nm, never_SSs fun _ _ => rfl, never_STl (.inl fun _ _ => rfl)⟩
    | tp is => exact ⟨ss_asg_tp, never_SSs fun _ _ => rfl, never_STl (.inl fun _ _ => rfl)⟩
  | own i e => exact ⟨ss_own, never_SSs fun _ _ => rfl, never_STl (.inl fun _ _ => rfl)⟩
  | expr e => exact ⟨ss_expr, never_SSs fun _ _ => rfl, never_STl (.inl fun _ _ => rfl)⟩
  | ret e => exact ⟨ss_ret, never_SSs fun _ _ => rfl, never_STl (.inl fun _ _ => rfl)⟩
  | retN => exact ⟨ss_retN, never_SSs fun _ _ => rfl, never_STl (.inl fun _ _ => rfl)⟩
  | ite c a b ha hb => exact ⟨ss_ite ha.2.1 hb.2.1, never_SSs fun _ _ => rfl, never_STl (.inl fun _ _ => rfl)⟩
  | for_ t it b hb => exact ⟨ss_for hb.2.1, never_SSs fun _ _ => rfl, never_STl (.inl fun _ _ => rfl)⟩
  | while_ n c b hb => exact ⟨ss_while hb.2.1, never_SSs fun _ _ => rfl, never_STl (.inl fun _ _ => rfl)⟩
  | raise x c => exact ⟨ss_raise, never_SSs fun _ _ => rfl, never_STl (.inl fun _ _ => rfl)⟩
  | brk => exact ⟨ss_brk, never_SSs fun _ _ => rfl, never_STl (.inl fun _ _ => rfl)⟩
  | pass => exact ⟨ss_pass, never_SSs fun _ _ => rfl, never_STl (.inl fun _ _ => rfl)⟩
  | app i e => exact ⟨ss_app, never_SSs fun _ _ => rfl, never_STl (.inl fun _ _ => rfl)⟩
  | ext i e => exact ⟨ss_ext, never_SSs fun _ _ => rfl, never_STl (.inl fun _ _ => rfl)⟩
  | frz i => exact ⟨never_SS fun _ _ => rfl, never_SSs fun _ _ => rfl, never_STl (.inl fun _ _ => rfl)⟩
  | mov j i => exact ⟨ss_mov, never_SSs fun _ _ => rfl, never_STl (.inl fun _ _ => rfl)⟩
  | tryE b i cs hb => exact ⟨ss_try hb.2.1, never_SSs fun _ _ => rfl, never_STl (.inl fun _ _ => rfl)⟩
  | own2 f i j e => exact ⟨ss_own2, never_SSs fun _ _ => rfl, never_STl (.inl fun _ _ => rfl)⟩
  | memo d k b e hb => exact ⟨never_SS fun _ _ => rfl, sss_memo hb.2.2, never_STl (.inr rfl)⟩
  | sure n own e ne => exact ⟨never_SS fun _ _ => rfl, sss_sure, never_STl (.inr rfl)⟩
  | skip => exact ⟨never_SS fun _ _ => rfl, sss_skip, stl_skip⟩
  | seq a b ha hb =>
    by_cases h : ∃ i, a = .frz i
    · obtain ⟨i, rfl⟩ := h; exact ⟨never_SS fun _ _ => rfl, sss_frz hb.2.1, stl_frz hb.2.2⟩
    · exact ⟨never_SS fun _ _ => rfl, sss_seq ha.1 hb.2.1 fun i z => h ⟨i, z⟩, stl_seq ha.1 hb.2.2 fun i z => h ⟨i, z⟩⟩
end
end Pi

set_option Elab.async false
set_option linter.all false
set_option maxRecDepth 100000
set_option maxHeartbeats 4000000
/-! Pi21: defs, by levels. -/
namespace Pi
open PySem PySem.Spec PyProof.Rows L2
variable [MP]
/-- a def: its name, its parameters' count, its names, its body -/
structure Df where
  nm : Str
  ar : Nat
  N : List Str
  ir : S
def findD (ds : List Df) (f : Str) : Option Df := ds.find? fun d => d.nm == f
/-- what the defs do when calls may go k deep -/
def Tb (ds : List Df) : Nat → Str → List D → R D
  | 0, _, _ => .bad
  | k + 1, f, xs => match findD ds f with
    | some d => if xs.length = d.ar then runD (Tb ds k) d.N.length d.ir xs else .bad
    | none => .bad
def fsOf (ds : List Df) : List (Str × Nat) := ds.map fun d => (d.nm, d.ar)
theorem lookup_fsOf : ∀ {ds : List Df} {f : Str} {n : Nat}, (fsOf ds).lookup f = some n → ∃ d, findD ds f = some d ∧ d ∈ ds ∧ d.nm = f ∧ d.ar = n
  | [], f, n, h => by cases h
  | d :: ds, f, n, h => by
    by_cases e : d.nm = f
    · refine ⟨d, ?_, List.mem_cons_self, e, ?_⟩
      · simp [findD, e]
      · have : (fsOf (d :: ds)).lookup f = some d.ar := by
          show List.lookup f ((d.nm, d.ar) :: fsOf ds) = _
          simp [List.lookup, e]
        rw [this] at h
        exact Option.some.inj h
    · have h2 : (fsOf ds).lookup f = some n := by
        have : (fsOf (d :: ds)).lookup f = (fsOf ds).lookup f := by
          show List.lookup f ((d.nm, d.ar) :: fsOf ds) = _
          have e' : (f == d.nm) = false := beq_eq_false_iff_ne.mpr fun z => e z.symm
          simp [List.lookup, e']
        rw [← this]; exact h
      obtain ⟨d', h3, h4, h5⟩ := lookup_fsOf h2
      refine ⟨d', ?_, List.mem_cons_of_mem _ h4, h5⟩
      have e' : (d.nm == f) = false := beq_eq_false_iff_ne.mpr e
      simp only [findD, List.find?_cons, e']
      exact h3
theorem Dom.nil {H : Hp} : Dom H [] := fun b hb => by cases hb
/-- what one has to say of a def of the text -/
structure DfAt (K : PySem.W.Frag) (mg : Str → Option Value) (gl : List (Str × Key)) (fs ex : List (Str × Nat)) (d : Df) (st : Stmt) (f : Addr) (fd : FuncData) (ps : List Str) : Prop where
  F : Fun K d.nm d.nm st f fd
  S : FnScope d.N ps (defScope st)
  hl : ps.length = d.ar
  hmg : mg d.nm = some (.ref f)
  hkp : PySem.W.keepIn K (.ref f) = true
  hbd : Binds K fd ps []
  hck : chkS.chkSs d.ir ⟨d.N, defScope st, fun _ => true, gl, fs, ex⟩ (defBody st) = true
def DfOk (K : PySem.W.Frag) (mg : Str → Option Value) (gl : List (Str × Key)) (fs ex : List (Str × Nat)) (d : Df) : Prop := ∃ st f fd ps, DfAt K mg gl fs ex d st f fd ps
theorem df_mk {K : PySem.W.Frag} {h : Heap} {mg : Str → Option Value} {gl : List (Str × Key)} {fs ex : List (Str × Nat)} (X : K.In h) (G : h.Ns mainGlobals mg) {d : Df} {st : Stmt} {ps : List Str} {f : Addr} {oc : Value} {od an : Option Addr} {osl : Array (Option Value)} {kV doc pm cdv ct : Value}
    (a : PySem.W.nsIn K mainGlobals d.nm = some (some (.ref f))) (l : K.lookup f = some ⟨oc, od, .func (PySem.W.fnOf d.nm d.nm (defArgs st) (defBody st) (defScope st) .none kV doc pm an cdv ct), osl⟩) (c : PySem.W.codeIn K cdv d.nm = true) (k : PySem.W.keepIn K (.ref f) = true)
    (S : FnScope d.N ps (defScope st)) (hl : ps.length = d.ar)
    (hb : ∀ (kV doc pm : Value) (an : Option Addr) (cdv ct : Value) (us : List Value), us.length = ps.length → bindArgs (PySem.W.fnOf d.nm d.nm (defArgs st) (defBody st) (defScope st) .none kV doc pm an cdv ct) ⟨us, []⟩ = pure (ps.zip us))
    (hck : chkS.chkSs d.ir ⟨d.N, defScope st, fun _ => true, gl, fs, ex⟩ (defBody st) = true) : DfAt K mg gl fs ex d st f (PySem.W.fnOf d.nm d.nm (defArgs st) (defBody st) (defScope st) .none kV doc pm an cdv ct) ps where
  F := fun_mk l c k
  S := S
  hl := hl
  hmg := PySem.W.mg_of X G a
  hkp := k
  hbd := (fun_mk (st := st) l c k).binds hb
  hck := hck
theorem DfAt.ok {K : PySem.W.Frag} {mg : Str → Option Value} {gl : List (Str × Key)} {fs ex : List (Str × Nat)} {d : Df} {st : Stmt} {f : Addr} {fd : FuncData} {ps : List Str} (h : DfAt K mg gl fs ex d st f fd ps) : DfOk K mg gl fs ex d := ⟨st, f, fd, ps, h⟩
section
variable {P : Program} {w : World} {K : PySem.W.Frag} {mg : Str → Option Value} {base : Heap} {gl : List (Str × Key)} {ex : List (Str × Nat)} {ca : Nat → Addr} {ds : List Df}
theorem start_rel {vs : List V} {xs : List D} {N : List Str} {H : Hp} {O : List Addr} (hr : RpL K (Fz H O) vs xs) (hd : Dom H O) : Rel K H O (xs.map Sl.val ++ List.replicate (N.length - xs.length) Sl.no) O (L2.start N vs) H := by
  have hl := hr.length
  have no : ∀ (i : Nat) (es : List D), ¬ (xs.map Sl.val ++ List.replicate (N.length - xs.length) Sl.no)[i]? = some (Sl.own es) := fun i es h => by
    have := List.mem_of_getElem? h
    rcases List.mem_append.mp this with q | q
    · obtain ⟨z, _, e⟩ := List.mem_map.mp q; cases e
    · have := List.eq_of_mem_replicate q; cases this
  refine { len := ?_, val := ?_, own := fun i es h => (no i es h).elim, dom := hd, ownO := fun i es a h _ => (no i es h).elim, inj := fun i j es fs a h _ _ _ => (no i es h).elim, keep := Same.refl _, sub := fun a h => h, dom0 := hd }
  · unfold L2.start
    simp [hl]
  · intro i d h
    have hi : i < xs.length := by
      by_cases q : i < xs.length
      · exact q
      · rw [List.getElem?_append_right (by simpa using q), List.getElem?_replicate] at h
        split at h <;> cases h
    rw [List.getElem?_append_left (by simpa using hi), List.getElem?_map] at h
    cases e : xs[i]? with
    | none => rw [e] at h; cases h
    | some d' =>
      rw [e] at h
      cases h
      obtain ⟨v, h1, h2⟩ := hr.get e
      refine ⟨v, ?_, h2⟩
      unfold L2.start
      rw [List.getElem?_append_left (by simp; omega), List.getElem?_map, h1]
      rfl
/-- THE RULE: every def of the table does, k deep, what Tb says -/
theorem defs_ok (mp : MP.P = P ∧ MP.w = w) (hfa : ∀ f a, MP.fa f = some a ↔ mg f = some (.ref a)) (hb : ∀ x ∈ bnames, mg x = none) (hg : ∀ x c, gl.lookup x = some c → ∃ u, mg x = some u ∧ L2.RelV (kV c) u) (hx : ∀ x c, ex.lookup x = some c → ExcK K mg x (ca c)) (xa : ExcAll K ca ex)
    (hd : ∀ d ∈ ds, DfOk K mg gl (fsOf ds) ex d) : ∀ (k : Nat) (d : Df) (st : Stmt) (a : Addr) (fd : FuncData) (ps : List Str), d ∈ ds → findD ds d.nm = some d → DfAt K mg gl (fsOf ds) ex d st a fd ps →
      FnOk P w K mg base (L2.CX P w) k a fd ps (spT K ca d.ar (Tb ds k d.nm))
  | 0, d, st, a, fd, ps, hm, hf, at_ => by
    refine ⟨fun vs H Q E h => by rw [at_.hl]; exact h.1, fun A outer s H args us vs Q E hr he hb hv h => ?_⟩
    obtain ⟨_, O, xs, _, _, h⟩ := h
    exact (show False from h).elim
  | k + 1, d, st, a, fd, ps, hm, hf, at_ => by
    obtain ⟨F, S, hl, hmg, hkp, hbd, hck⟩ := at_
    refine F.okX S (fun vs H Q E h => by rw [hl]; exact h.1) fun cdv A outer s H vs Q E hr h => ?_
    obtain ⟨hlen, O, xs, hdm, hrp, h⟩ := h
    have hxl : xs.length = d.ar := by rw [← hrp.length, hlen]
    have eT : Tb ds (k + 1) d.nm xs = runD (Tb ds k) d.N.length d.ir xs := by
      show (match findD ds d.nm with | some d => if xs.length = d.ar then runD (Tb ds k) d.N.length d.ir xs else R.bad | none => .bad) = _
      rw [hf]
      exact if_pos hxl
    rw [eT] at h
    generalize hX : cxOf (L2.CX P w) P w K mg base d.N d.nm (defScope st) a cdv A outer s H E = X
    have G : Good ⟨d.N, defScope st, fun _ => true, gl, fsOf ds, ex⟩ (Tb ds k) ca X (fun cls dd _ H' => E cls dd H') := by
      subst hX
      exact {
        N := rfl, nd := S.nd, sc := rfl, fn := rfl, calm := rfl, tk := takes_of rfl rfl rfl rfl
        un := by have := hr.un; show (A.deeper _).units + 65 < cLine; omega
        bi := hb, gl := hg
        fs := fun f n hlk => by
          obtain ⟨d', h1, h2, h3, h4⟩ := lookup_fsOf hlk
          obtain ⟨st', a', fd', ps', at'⟩ := hd d' h2
          have g5 := defs_ok mp hfa hb hg hx xa hd k d' st' a' fd' ps' h2 (by rw [h3]; exact h1) at'
          subst h3
          subst h4
          exact ⟨a', fd', ps', k, at'.hmg, at'.hkp, at'.hbd, g5, hr⟩
        ex := hx, xa := xa, mp := mp, fa := hfa }
    have pl : Pl X := by
      subst hX
      exact ⟨passes_of rfl, rfl, rfl⟩
    have eK : X.K = K := by subst hX; rfl
    refine ⟨EvSs X (defBody st), evPSs X (defBody st), ?_⟩
    refine (all_SS d.ir).2.1 _ X _ (defBody st) G pl hck H O _ O _ H (by rw [eK]; exact start_rel (N := d.N) hrp hdm) _ ?_
    unfold runD at h
    cases e : exS (Tb ds k) d.ir (xs.map Sl.val ++ List.replicate (d.N.length - xs.length) Sl.no) with
    | exc c => rw [e] at h; exact fun σ' H' s' => h H' s'
    | bad => rw [e] at h; exact h
    | ok p =>
      obtain ⟨f, ρ'⟩ := p
      rw [e] at h
      cases f with
      | nx => exact fun σ' H' O' r' s' => h .non H' r'.keep .non
      | rt v => rw [eK]; exact fun v H' s' r' => h v H' s' r'
      | bk => exact (show False from h).elim
theorem noCX {outer : List Env} {H : Hp} {s s' : Shared} {e : Value} (h : L2.CX P w outer H s (fun _ _ _ => False) e s') : False := by
  obtain ⟨_, _, _, _, _, _, _, _, _, _, _, _, z⟩ := h
  exact z.elim
theorem lookup_all {β : Type} {p : Str → β → Prop} : ∀ {l : List (Str × β)}, (∀ q ∈ l, p q.1 q.2) → ∀ x c, l.lookup x = some c → p x c
  | [], _, x, c, h => by cases h
  | (y, d) :: l, hp, x, c, h => by
    rw [List.lookup_cons] at h
    split at h
    · rename_i e
      have e' : x = y := by simpa using e
      cases h
      rw [e']
      exact hp (y, d) List.mem_cons_self
    · exact lookup_all (fun q hq => hp q (List.mem_cons_of_mem _ hq)) x c h
theorem kit_ref {A C : Addr} {b : Bool} (hdct : PySem.W.hasDictIn K C = true) (ht : PySem.W.typeIn K (.ref C) = some (.type "type")) (h : PySem.W.subIn K (.ref A) (.ref C) = some b) (ne : A ≠ C) : PySem.W.kitOne K (.ref A) (.ref C) = some b := by
  have hc : (PySem.W.clsIn K C).isSome = true := by
    unfold PySem.W.hasDictIn at hdct
    cases q : PySem.W.clsIn K C with
    | none => rw [q] at hdct; cases hdct
    | some z => rfl
  have e1 : ((PySem.W.clsIn K C).isSome && PySem.W.typeIn K (.ref C) == some (.type "type")) = true := by rw [hc, ht] <;> rfl
  unfold PySem.W.kitOne
  rw [if_neg (fun z => ne (Value.ref.inj (beq_iff_eq.mp z)))]
  show (if ((PySem.W.clsIn K C).isSome && PySem.W.typeIn K (.ref C) == some (.type "type")) = true then PySem.W.subIn K (.ref A) (.ref C) else none) = some b
  rw [if_pos e1]
  exact h
theorem kit_self {C : Addr} : PySem.W.kitOne K (.ref C) (.ref C) = some true := by
  unfold PySem.W.kitOne
  rw [if_pos (beq_self_eq_true _)]
theorem fa_iff {mg : Str → Option Value} (f : Str) (a : Addr) : (match mg f with | some (.ref a) => some a | _ => none) = some a ↔ mg f = some (.ref a) := by
  cases e : mg f with
  | none => simp
  | some v => cases v <;> simp
/-- the law -/
def spLaw (K : PySem.W.Frag) (n : Nat) : Sp := fun vs H Q _ => ∃ (a : Addr) (ns : List Int), vs = [.ref a] ∧ ns.length ≤ n ∧ SqL K H a (ns.map V.int) ∧ ∀ H', Q (.bl true) H'
theorem law_ok {k n : Nat} {f : Addr} {fd : FuncData} {ps : List Str} {x : Str} (h : FnOk P w K mg base (L2.CX P w) k f fd ps (spT K ca 1 (Tb ds k x))) (law : ∀ ns : List Int, ns.length ≤ n → Tb ds k x [scr ns] = .ok (.bool true)) :
    FnOk P w K mg base (L2.CX P w) k f fd ps (spLaw K n) := by
  refine h.imp fun vs H Q E ⟨a, ns, e, hl, hs, q⟩ => ?_
  subst e
  refine ⟨rfl, [], [scr ns], Dom.nil, .cons (.scr ?_) .nil, ?_⟩
  · exact Same.seq (.of fun b o q => Fz.mk q (by simp)) hs
  · rw [law ns hl]
    intro v H' s r
    cases r
    exact q H'
end
end Pi

set_option Elab.async false
set_option linter.all false
set_option maxRecDepth 100000
set_option maxHeartbeats 4000000
namespace Pi
open PySem PySem.Spec PyProof.Rows L2
def d_is_int : Df := ⟨"is_int", 3, ["value", "least", "most"],
  (.seq (.ret (.and (.cons (.isi (.var 0) .int) (.cons (.not (.isi (.var 0) .bool)) (.cons (.chain .le .le (.var 1) (.var 0) (.var 2)) .nil))))) .skip)⟩
def d_is_panel : Df := ⟨"is_panel", 1, ["value", "part"],
  (.seq (.ite (.or (.cons (.not (.isi (.var 0) .tuple)) (.cons (.cmp .ne (.bi .len (.cons (.var 0) .nil)) (.int 4)) (.cons (.not (.bi .all (.cons (.comp [("part", 1)] (.nm 1) (.iter (.var 0)) .yes (.call "is_int" (.cons (.var 1) (.cons (.int 0) (.cons (.glob "SIZE" (.inl 20)) .nil))))) .nil))) .nil)))) (.seq (.ret (.bl false)) .skip) .skip) (.seq (.ret (.and (.cons (.cmp .lt (.idx (.var 0) (.int 0)) (.idx (.var 0) (.int 2))) (.cons (.cmp .lt (.idx (.var 0) (.int 1)) (.idx (.var 0) (.int 3))) .nil)))) .skip))⟩
def d_share_widths : Df := ⟨"share_widths", 2, ["one", "other"],
  (.seq (.ret (.and (.cons (.cmp .lt (.idx (.var 0) (.int 0)) (.idx (.var 1) (.int 2))) (.cons (.cmp .lt (.idx (.var 1) (.int 0)) (.idx (.var 0) (.int 2))) .nil)))) .skip)⟩
def d_share_heights : Df := ⟨"share_heights", 2, ["one", "other"],
  (.seq (.ret (.and (.cons (.cmp .lt (.idx (.var 0) (.int 1)) (.idx (.var 1) (.int 3))) (.cons (.cmp .lt (.idx (.var 1) (.int 1)) (.idx (.var 0) (.int 3))) .nil)))) .skip)⟩
def d_is_page : Df := ⟨"is_page", 1, ["candidate", "panel", "index", "one", "other"],
  (.seq (.ite (.or (.cons (.not (.isi (.var 0) .tuple)) (.cons (.cmp .gt (.bi .len (.cons (.var 0) .nil)) (.glob "MAX_PANELS" (.inl 8))) .nil))) (.seq (.ret (.bl false)) .skip) .skip) (.seq (.ite (.not (.bi .all (.cons (.comp [("panel", 1)] (.nm 1) (.iter (.var 0)) .yes (.call "is_panel" (.cons (.var 1) .nil))) .nil))) (.seq (.ret (.bl false)) .skip) .skip) (.seq (.for_ (.tp [2, 3]) (.enum (.var 0)) (.seq (.ite (.bi .any (.cons (.comp [("other", 4)] (.nm 4) (.iter (.slc (.var 0) (.bin .add (.var 2) (.int 1)) .nil)) .yes (.and (.cons (.call "share_widths" (.cons (.var 3) (.cons (.var 4) .nil))) (.cons (.call "share_heights" (.cons (.var 3) (.cons (.var 4) .nil))) .nil)))) .nil)) (.seq (.ret (.bl false)) .skip) .skip) .skip)) (.seq (.ret (.bl true)) .skip))))⟩
def d_check_page : Df := ⟨"check_page", 1, ["value"],
  (.seq (.ite (.not (.call "is_page" (.cons (.var 0) .nil))) (.seq (.raise "InvalidPage" 1) .skip) .skip) .skip)⟩
def d_check_number : Df := ⟨"check_number", 3, ["value", "least", "most"],
  (.seq (.ite (.not (.call "is_int" (.cons (.var 0) (.cons (.var 1) (.cons (.var 2) .nil))))) (.seq (.raise "InvalidNumber" 2) .skip) .skip) .skip)⟩
def d_goes_before : Df := ⟨"goes_before", 3, ["page", "one", "other", "left", "right"],
  (.seq (.asg (.tp [3, 4]) (.tup (.cons (.idx (.var 0) (.var 1)) (.cons (.idx (.var 0) (.var 2)) .nil)))) (.seq (.ite (.and (.cons (.cmp .le (.idx (.var 3) (.int 2)) (.idx (.var 4) (.int 0))) (.cons (.call "share_heights" (.cons (.var 3) (.cons (.var 4) .nil))) .nil))) (.seq (.ret (.bl true)) .skip) .skip) (.seq (.ret (.and (.cons (.cmp .le (.idx (.var 3) (.int 3)) (.idx (.var 4) (.int 1))) (.cons (.call "share_widths" (.cons (.var 3) (.cons (.var 4) .nil))) .nil)))) .skip)))⟩
def d_is_before : Df := ⟨"is_before", 3, ["page", "one", "other"],
  (.seq (.expr (.call "check_page" (.cons (.var 0) .nil))) (.seq (.expr (.call "check_number" (.cons (.var 1) (.cons (.int 0) (.cons (.bin .sub (.bi .len (.cons (.var 0) .nil)) (.int 1)) .nil))))) (.seq (.expr (.call "check_number" (.cons (.var 2) (.cons (.int 0) (.cons (.bin .sub (.bi .len (.cons (.var 0) .nil)) (.int 1)) .nil))))) (.seq (.ret (.call "goes_before" (.cons (.var 0) (.cons (.var 1) (.cons (.var 2) .nil))))) .skip))))⟩
def d_find_pairs : Df := ⟨"find_pairs", 1, ["page", "numbers", "one", "other"],
  (.seq (.asg (.nm 1) (.lrg .nil (.bi .len (.cons (.var 0) .nil)))) (.seq (.ret (.comp2 [("one", 2), ("other", 3)] (.nm 2) (.iter (.var 1)) .yes (.nm 3) (.iter (.var 1)) (.call "goes_before" (.cons (.var 0) (.cons (.var 2) (.cons (.var 3) .nil)))) (.tup (.cons (.var 2) (.cons (.var 3) .nil))))) .skip))⟩
def d_pairs : Df := ⟨"pairs", 1, ["page"],
  (.seq (.expr (.call "check_page" (.cons (.var 0) .nil))) (.seq (.ret (.call "find_pairs" (.cons (.var 0) .nil))) .skip))⟩
def d_starts : Df := ⟨"starts", 1, ["page", "later", "one", "other", "number"],
  (.seq (.expr (.call "check_page" (.cons (.var 0) .nil))) (.seq (.asg (.nm 1) (.comp [("one", 2), ("other", 3)] (.tp [2, 3]) (.iter (.call "find_pairs" (.cons (.var 0) .nil))) .yes (.var 3))) (.seq (.ret (.comp [("number", 4)] (.nm 4) (.rg .nil (.bi .len (.cons (.var 0) .nil))) (.cmp .notin (.var 4) (.var 1)) (.var 4))) .skip)))⟩
def d_ends : Df := ⟨"ends", 1, ["page", "earlier", "one", "other", "number"],
  (.seq (.expr (.call "check_page" (.cons (.var 0) .nil))) (.seq (.asg (.nm 1) (.comp [("one", 2), ("other", 3)] (.tp [2, 3]) (.iter (.call "find_pairs" (.cons (.var 0) .nil))) .yes (.var 2))) (.seq (.ret (.comp [("number", 4)] (.nm 4) (.rg .nil (.bi .len (.cons (.var 0) .nil))) (.cmp .notin (.var 4) (.var 1)) (.var 4))) .skip)))⟩
def d__law_drawn : Df := ⟨"_law_drawn", 3, ["script", "k", "many", "cell", "turn", "rest"],
  (.seq (.asg (.nm 3) (.bin .mul (.int 7) (.var 1))) (.seq (.ite (.cmp .ne (.var 0) (.lst .nil)) (.seq (.asg (.nm 3) (.idx (.var 0) (.bin .mod (.var 1) (.bi .len (.cons (.var 0) .nil))))) (.seq (.asg (.nm 4) (.bin .fdiv (.var 1) (.bi .len (.cons (.var 0) .nil)))) (.seq (.ite (.and (.cons (.cmp .ge (.var 3) (.bin .pow (.int 10) (.int 18))) (.cons (.cmp .lt (.var 4) (.int 60)) .nil))) (.seq (.asg (.nm 5) (.bin .fdiv (.var 3) (.bin .pow (.int 10) (.int 18)))) (.seq (.while_ 64 (.and (.cons (.cmp .gt (.var 5) (.int 0)) (.cons (.cmp .gt (.var 4) (.int 0)) .nil))) (.seq (.asg (.nm 5) (.bin .fdiv (.var 5) (.int 1000000))) (.seq (.asg (.nm 4) (.bin .sub (.var 4) (.int 1))) .skip))) (.seq (.ite (.cmp .gt (.var 5) (.int 0)) (.seq (.ret (.bin .mod (.bin .mod (.var 5) (.int 1000000)) (.var 2))) .skip) .skip) .skip))) .skip) (.seq (.asg (.nm 3) (.bin .add (.var 3) (.bin .mul (.int 6553) (.bin .fdiv (.var 1) (.bi .len (.cons (.var 0) .nil)))))) .skip)))) .skip) (.seq (.asg (.nm 3) (.bin .mod (.bin .add (.bin .mul (.bin .mod (.var 3) (.int 2147483563)) (.int 69069)) (.bin .mul (.int 104723) (.bin .add (.var 1) (.int 1)))) (.int 2147483563))) (.seq (.asg (.nm 3) (.bin .mod (.bin .add (.bin .mul (.var 3) (.var 3)) (.bin .fdiv (.var 3) (.int 3))) (.int 2147483399))) (.seq (.ret (.bin .mod (.bin .fdiv (.bin .mod (.bin .add (.bin .mul (.var 3) (.var 3)) (.bin .fdiv (.var 3) (.int 7))) (.int 2147483647)) (.int 11)) (.var 2))) .skip)))))⟩
def d__law_page : Df := ⟨"_law_page", 3, ["script", "at", "most", "found", "kept", "k", "place", "way", "left", "top", "right", "bottom", "size", "line", "first", "second", "turn", "panel"],
  (.seq (.asg (.tp [3, 4]) (.tup (.cons (.lst (.cons (.tup (.cons (.int 0) (.cons (.int 0) (.cons (.int 12) (.cons (.int 12) .nil))))) .nil)) (.cons (.lst .nil) .nil)))) (.seq (.for_ (.nm 5) (.rg .nil (.call "_law_drawn" (.cons (.var 0) (.cons (.var 1) (.cons (.var 2) .nil))))) (.seq (.asg (.tp [6, 7]) (.tup (.cons (.call "_law_drawn" (.cons (.var 0) (.cons (.bin .add (.bin .add (.var 1) (.int 1)) (.bin .mul (.int 4) (.var 5))) (.cons (.bi .len (.cons (.var 3) .nil)) .nil)))) (.cons (.call "_law_drawn" (.cons (.var 0) (.cons (.bin .add (.bin .add (.var 1) (.int 2)) (.bin .mul (.int 4) (.var 5))) (.cons (.int 2) .nil)))) .nil)))) (.seq (.asg (.tp [8, 9, 10, 11]) (.idx (.var 3) (.var 6))) (.seq (.asg (.nm 12) (.ite (.cmp .eq (.var 7) (.int 0)) (.bin .sub (.var 10) (.var 8)) (.bin .sub (.var 11) (.var 9)))) (.seq (.ite (.cmp .gt (.var 12) (.int 1)) (.seq (.asg (.nm 13) (.bin .add (.int 1) (.call "_law_drawn" (.cons (.var 0) (.cons (.bin .add (.bin .add (.var 1) (.int 3)) (.bin .mul (.int 4) (.var 5))) (.cons (.bin .sub (.var 12) (.int 1)) .nil)))))) (.seq (.asg (.nm 14) (.ite (.cmp .eq (.var 7) (.int 0)) (.tup (.cons (.var 8) (.cons (.var 9) (.cons (.bin .add (.var 8) (.var 13)) (.cons (.var 11) .nil))))) (.tup (.cons (.var 8) (.cons (.var 9) (.cons (.var 10) (.cons (.bin .add (.var 9) (.var 13)) .nil))))))) (.seq (.asg (.nm 15) (.ite (.cmp .eq (.var 7) (.int 0)) (.tup (.cons (.bin .add (.var 8) (.var 13)) (.cons (.var 9) (.cons (.var 10) (.cons (.var 11) .nil))))) (.tup (.cons (.var 8) (.cons (.bin .add (.var 9) (.var 13)) (.cons (.var 10) (.cons (.var 11) .nil))))))) (.seq (.asg (.nm 16) (.call "_law_drawn" (.cons (.var 0) (.cons (.bin .add (.bin .add (.var 1) (.int 4)) (.bin .mul (.int 4) (.var 5))) (.cons (.int 2) .nil))))) (.seq (.asg (.nm 3) (.bin .add (.bin .add (.bin .add (.slc (.var 3) .nil (.var 6)) (.lst (.cons (.idx (.lst (.cons (.var 14) (.cons (.var 15) .nil))) (.var 16)) .nil))) (.slc (.var 3) (.bin .add (.var 6) (.int 1)) .nil)) (.lst (.cons (.idx (.lst (.cons (.var 15) (.cons (.var 14) .nil))) (.var 16)) .nil)))) .skip))))) .skip) .skip))))) (.seq (.for_ (.tp [5, 17]) (.enum (.var 3)) (.seq (.own 4 (.bin .add (.bor 4) (.ite (.cmp .gt (.call "_law_drawn" (.cons (.var 0) (.cons (.bin .add (.bin .add (.var 1) (.int 40)) (.var 5)) (.cons (.int 5) .nil)))) (.int 0)) (.lst (.cons (.var 17) .nil)) (.lst .nil)))) .skip)) (.seq (.ite (.cmp .eq (.call "_law_drawn" (.cons (.var 0) (.cons (.bin .add (.var 1) (.int 50)) (.cons (.int 4) .nil)))) (.int 0)) (.seq (.own 4 (.lst (.cons (.tup (.cons (.int 2) (.cons (.int 0) (.cons (.int 8) (.cons (.int 2) .nil))))) (.cons (.tup (.cons (.int 6) (.cons (.int 2) (.cons (.int 8) (.cons (.int 8) .nil))))) (.cons (.tup (.cons (.int 0) (.cons (.int 6) (.cons (.int 6) (.cons (.int 8) .nil))))) (.cons (.tup (.cons (.int 0) (.cons (.int 0) (.cons (.int 2) (.cons (.int 6) .nil))))) (.cons (.tup (.cons (.int 3) (.cons (.int 3) (.cons (.int 5) (.cons (.int 5) .nil))))) .nil))))))) (.seq (.own 4 (.slc (.bor 4) .nil (.bin .add (.int 2) (.call "_law_drawn" (.cons (.var 0) (.cons (.bin .add (.var 1) (.int 51)) (.cons (.int 4) .nil))))))) .skip)) .skip) (.seq (.ite (.cmp .eq (.call "_law_drawn" (.cons (.var 0) (.cons (.bin .add (.var 1) (.int 52)) (.cons (.int 4) .nil)))) (.int 0)) (.seq (.own 4 (.slc (.lst (.cons (.tup (.cons (.int 9) (.cons (.int 0) (.cons (.int 11) (.cons (.int 2) .nil))))) (.cons (.tup (.cons (.int 6) (.cons (.int 2) (.cons (.int 8) (.cons (.int 4) .nil))))) (.cons (.tup (.cons (.int 3) (.cons (.int 4) (.cons (.int 5) (.cons (.int 6) .nil))))) (.cons (.tup (.cons (.int 0) (.cons (.int 6) (.cons (.int 2) (.cons (.int 8) .nil))))) .nil))))) .nil (.bin .add (.int 2) (.call "_law_drawn" (.cons (.var 0) (.cons (.bin .add (.var 1) (.int 53)) (.cons (.int 3) .nil))))))) .skip) .skip) (.seq (.ite (.and (.cons (.cmp .lt (.bi .len (.cons (.bor 4) .nil)) (.var 2)) (.cons (.cmp .lt (.bi .max1 (.cons (.bin .add (.lst (.cons (.int 0) .nil)) (.comp [("panel", 17)] (.nm 17) (.iter (.bor 4)) .yes (.idx (.var 17) (.int 3)))) .nil)) (.int 9)) (.cons (.cmp .eq (.call "_law_drawn" (.cons (.var 0) (.cons (.bin .add (.var 1) (.int 54)) (.cons (.int 2) .nil)))) (.int 0)) .nil)))) (.seq (.app 4 (.tup (.cons (.int 0) (.cons (.int 9) (.cons (.int 12) (.cons (.int 12) .nil)))))) .skip) .skip) (.seq (.ret (.bi .tuple (.cons (.bor 4) .nil))) .skip)))))))⟩
def d__law_first : Df := ⟨"_law_first", 2, ["one", "other"],
  (.seq (.ite (.and (.cons (.cmp .le (.idx (.var 0) (.int 2)) (.idx (.var 1) (.int 0))) (.cons (.cmp .lt (.idx (.var 0) (.int 1)) (.idx (.var 1) (.int 3))) (.cons (.cmp .lt (.idx (.var 1) (.int 1)) (.idx (.var 0) (.int 3))) .nil)))) (.seq (.ret (.bl true)) .skip) .skip) (.seq (.ret (.and (.cons (.cmp .le (.idx (.var 0) (.int 3)) (.idx (.var 1) (.int 1))) (.cons (.cmp .lt (.idx (.var 0) (.int 0)) (.idx (.var 1) (.int 2))) (.cons (.cmp .lt (.idx (.var 1) (.int 0)) (.idx (.var 0) (.int 2))) .nil))))) .skip))⟩
def d__law_pairs : Df := ⟨"_law_pairs", 1, ["page", "found", "one", "other"],
  (.seq (.asg (.nm 1) (.lst .nil)) (.seq (.for_ (.nm 2) (.rg .nil (.bi .len (.cons (.var 0) .nil))) (.seq (.asg (.nm 1) (.bin .add (.var 1) (.comp [("other", 3)] (.nm 3) (.rg .nil (.bi .len (.cons (.var 0) .nil))) (.call "_law_first" (.cons (.idx (.var 0) (.var 2)) (.cons (.idx (.var 0) (.var 3)) .nil))) (.tup (.cons (.var 2) (.cons (.var 3) .nil)))))) .skip)) (.seq (.ret (.var 1)) .skip)))⟩
def d__law_badpage : Df := ⟨"_law_badpage", 2, ["script", "at", "bad", "k"],
  (.seq (.asg (.nm 2) (.lst (.cons .non (.cons (.lst .nil) (.cons (.lst (.cons (.tup (.cons (.int 0) (.cons (.int 0) (.cons (.int 1) (.cons (.int 1) .nil))))) .nil)) (.cons (.tup (.cons (.tup (.cons (.int 0) (.cons (.int 0) (.cons (.int 0) (.cons (.int 1) .nil))))) .nil)) (.cons (.tup (.cons (.tup (.cons (.int 0) (.cons (.int 0) (.cons (.int 21) (.cons (.int 1) .nil))))) .nil)) .nil))))))) (.seq (.asg (.nm 2) (.bin .add (.var 2) (.lst (.cons (.tup (.cons (.tup (.cons (.int 0) (.cons (.int 0) (.cons (.int 2) (.cons (.int 2) .nil))))) (.cons (.tup (.cons (.int 1) (.cons (.int 1) (.cons (.int 3) (.cons (.int 3) .nil))))) .nil))) .nil)))) (.seq (.asg (.nm 2) (.bin .add (.var 2) (.lst (.cons (.tup (.cons (.tup (.cons (.int 0) (.cons (.int 0) (.cons (.int 1) .nil)))) .nil)) (.cons (.tup (.cons (.tup (.cons (.int 0) (.cons (.int 0) (.cons (.int 1) (.cons (.str "1") .nil))))) .nil)) (.cons (.tup (.cons (.tup (.cons (.bl true) (.cons (.int 0) (.cons (.int 2) (.cons (.int 2) .nil))))) .nil)) (.cons (.tup (.cons (.int 0) (.cons (.int 0) (.cons (.int 1) (.cons (.int 1) .nil))))) .nil))))))) (.seq (.ret (.idx (.bin .add (.var 2) (.lst (.cons (.bi .tuple (.cons (.comp [("k", 3)] (.nm 3) (.rg .nil (.int 9)) .yes (.tup (.cons (.var 3) (.cons (.int 0) (.cons (.bin .add (.var 3) (.int 1)) (.cons (.int 1) .nil)))))) .nil)) .nil))) (.call "_law_drawn" (.cons (.var 0) (.cons (.var 1) (.cons (.int 11) .nil)))))) .skip))))⟩
def d__law_badnumber : Df := ⟨"_law_badnumber", 3, ["script", "at", "many"],
  (.seq (.ret (.idx (.lst (.cons .non (.cons (.neg (.int 1)) (.cons (.var 2) (.cons (.bl true) (.cons (.str "0") .nil)))))) (.call "_law_drawn" (.cons (.var 0) (.cons (.var 1) (.cons (.int 5) .nil)))))) .skip)⟩
def d__law_error_k01 : Df := ⟨"_law_error", 4, ["way", "one", "two", "three", "e"],
  (.seq (.tryE (.seq (.ite (.cmp .lt (.var 0) (.int 3)) (.seq (.expr (.callIx ["pairs", "starts", "ends"] (.var 0) (.cons (.var 1) .nil))) .skip) (.seq (.expr (.call "is_before" (.cons (.var 1) (.cons (.var 2) (.cons (.var 3) .nil))))) .skip)) .skip) 4 [1, 2]) (.seq (.ret .non) .skip))⟩
def d_law_k01 : Df := ⟨"law", 1, ["script", "page", "known", "one", "other", "number", "pair", "two", "k", "left", "top", "wide", "high", "apart", "aside", "odd", "told", "way"],
  (.seq (.asg (.nm 1) (.call "_law_page" (.cons (.var 0) (.cons (.int 10) (.cons (.int 8) .nil))))) (.seq (.asg (.nm 2) (.call "_law_pairs" (.cons (.var 1) .nil))) (.seq (.ite (.or (.cons (.isB true (.call "is_page" (.cons (.var 1) .nil)) true) (.cons (.cmp .ne (.call "pairs" (.cons (.var 1) .nil)) (.var 2)) .nil))) (.seq (.ret (.bl false)) .skip) .skip) (.seq (.for_ (.nm 3) (.rg .nil (.bi .len (.cons (.var 1) .nil))) (.seq (.for_ (.nm 4) (.rg .nil (.bi .len (.cons (.var 1) .nil))) (.seq (.ite (.cmp .ne (.call "is_before" (.cons (.var 1) (.cons (.var 3) (.cons (.var 4) .nil)))) (.cmp .isin (.tup (.cons (.var 3) (.cons (.var 4) .nil))) (.var 2))) (.seq (.ret (.bl false)) .skip) .skip) .skip)) .skip)) (.seq (.ite (.cmp .ne (.call "starts" (.cons (.var 1) .nil)) (.comp [("number", 5)] (.nm 5) (.rg .nil (.bi .len (.cons (.var 1) .nil))) (.cmp .eq (.comp [("pair", 6)] (.nm 6) (.iter (.var 2)) (.cmp .eq (.idx (.var 6) (.int 1)) (.var 5)) (.var 6)) (.lst .nil)) (.var 5))) (.seq (.ret (.bl false)) .skip) .skip) (.seq (.ite (.cmp .ne (.call "ends" (.cons (.var 1) .nil)) (.comp [("number", 5)] (.nm 5) (.rg .nil (.bi .len (.cons (.var 1) .nil))) (.cmp .eq (.comp [("pair", 6)] (.nm 6) (.iter (.var 2)) (.cmp .eq (.idx (.var 6) (.int 0)) (.var 5)) (.var 6)) (.lst .nil)) (.var 5))) (.seq (.ret (.bl false)) .skip) .skip) (.seq (.own 7 (.lst .nil)) (.seq (.for_ (.nm 8) (.rg .nil (.int 2)) (.seq (.asg (.tp [9, 10]) (.tup (.cons (.call "_law_drawn" (.cons (.var 0) (.cons (.bin .add (.int 70) (.bin .mul (.int 4) (.var 8))) (.cons (.int 17) .nil)))) (.cons (.call "_law_drawn" (.cons (.var 0) (.cons (.bin .add (.int 71) (.bin .mul (.int 4) (.var 8))) (.cons (.int 17) .nil)))) .nil)))) (.seq (.asg (.tp [11, 12]) (.tup (.cons (.bin .add (.int 1) (.call "_law_drawn" (.cons (.var 0) (.cons (.bin .add (.int 72) (.bin .mul (.int 4) (.var 8))) (.cons (.int 4) .nil))))) (.cons (.bin .add (.int 1) (.call "_law_drawn" (.cons (.var 0) (.cons (.bin .add (.int 73) (.bin .mul (.int 4) (.var 8))) (.cons (.int 4) .nil))))) .nil)))) (.seq (.app 7 (.tup (.cons (.var 9) (.cons (.var 10) (.cons (.bin .add (.var 9) (.var 11)) (.cons (.bin .add (.var 10) (.var 12)) .nil)))))) .skip)))) (.seq (.asg (.nm 13) (.or (.cons (.call "_law_first" (.cons (.idx (.bor 7) (.int 0)) (.cons (.idx (.bor 7) (.int 1)) .nil))) (.cons (.call "_law_first" (.cons (.idx (.bor 7) (.int 1)) (.cons (.idx (.bor 7) (.int 0)) .nil))) .nil)))) (.seq (.asg (.nm 14) (.and (.cons (.or (.cons (.cmp .le (.idx (.idx (.bor 7) (.int 0)) (.int 2)) (.idx (.idx (.bor 7) (.int 1)) (.int 0))) (.cons (.cmp .le (.idx (.idx (.bor 7) (.int 1)) (.int 2)) (.idx (.idx (.bor 7) (.int 0)) (.int 0))) .nil))) (.cons (.or (.cons (.cmp .le (.idx (.idx (.bor 7) (.int 0)) (.int 3)) (.idx (.idx (.bor 7) (.int 1)) (.int 1))) (.cons (.cmp .le (.idx (.idx (.bor 7) (.int 1)) (.int 3)) (.idx (.idx (.bor 7) (.int 0)) (.int 1))) .nil))) .nil)))) (.seq (.ite (.cmp .ne (.call "is_page" (.cons (.bi .tuple (.cons (.bor 7) .nil)) .nil)) (.or (.cons (.var 13) (.cons (.var 14) .nil)))) (.seq (.ret (.bl false)) .skip) .skip) (.seq (.asg (.tp [15, 5]) (.tup (.cons (.call "_law_badpage" (.cons (.var 0) (.cons (.int 1) .nil))) (.cons (.call "_law_badnumber" (.cons (.var 0) (.cons (.int 2) (.cons (.bi .len (.cons (.var 1) .nil)) .nil)))) .nil)))) (.seq (.ite (.or (.cons (.call "is_page" (.cons (.var 15) .nil)) (.cons (.isB true (.call "is_page" (.cons (.bi .tuple (.cons (.comp [("k", 8)] (.nm 8) (.rg .nil (.int 8)) .yes (.tup (.cons (.int 0) (.cons (.var 8) (.cons (.int 20) (.cons (.bin .add (.var 8) (.int 1)) .nil)))))) .nil)) .nil)) true) .nil))) (.seq (.ret (.bl false)) .skip) .skip) (.seq (.own 16 (.bin .add (.comp [("way", 17)] (.nm 17) (.rg .nil (.int 4)) .yes (.call "_law_error" (.cons (.var 17) (.cons (.var 15) (.cons (.var 5) (.cons (.var 5) .nil)))))) (.lst (.cons (.call "_law_error" (.cons (.int 3) (.cons (.var 1) (.cons (.var 5) (.cons (.int 0) .nil))))) .nil)))) (.seq (.ite (.cmp .ne (.var 1) (.tup .nil)) (.seq (.app 16 (.call "_law_error" (.cons (.int 3) (.cons (.var 1) (.cons (.int 0) (.cons (.var 5) .nil)))))) .skip) .skip) (.seq (.ret (.cmp .eq (.bor 16) (.bin .add (.bin .mul (.lst (.cons (.int 0) .nil)) (.int 4)) (.bin .mul (.lst (.cons (.int 1) .nil)) (.bin .sub (.bi .len (.cons (.bor 16) .nil)) (.int 4)))))) .skip))))))))))))))))⟩
def d_do_agree : Df := ⟨"do_agree", 2, ["one", "other"],
  (.seq (.ret (.and (.cons (.cmp .eq (.bi .len (.cons (.var 0) .nil)) (.bi .len (.cons (.var 1) .nil))) (.cons (.cmp .eq (.call "find_pairs" (.cons (.var 0) .nil)) (.call "find_pairs" (.cons (.var 1) .nil))) .nil)))) .skip)⟩
def d_are_alike : Df := ⟨"are_alike", 2, ["one", "other"],
  (.seq (.expr (.call "check_page" (.cons (.var 0) .nil))) (.seq (.expr (.call "check_page" (.cons (.var 1) .nil))) (.seq (.ret (.call "do_agree" (.cons (.var 0) (.cons (.var 1) .nil)))) .skip)))⟩
def d_still_moves : Df := ⟨"still_moves", 2, ["page", "number", "left", "top", "right", "bottom", "found", "across", "down", "panel", "other"],
  (.seq (.expr (.call "check_page" (.cons (.var 0) .nil))) (.seq (.expr (.call "check_number" (.cons (.var 1) (.cons (.int 0) (.cons (.bin .sub (.bi .len (.cons (.var 0) .nil)) (.int 1)) .nil))))) (.seq (.asg (.tp [2, 3, 4, 5]) (.idx (.var 0) (.var 1))) (.seq (.own 6 (.lst .nil)) (.seq (.for_ (.nm 7) (.rg (.bin .sub (.int 0) (.var 2)) (.bin .add (.bin .sub (.glob "SIZE" (.inl 20)) (.var 4)) (.int 1))) (.seq (.for_ (.nm 8) (.rg (.bin .sub (.int 0) (.var 3)) (.bin .add (.bin .sub (.glob "SIZE" (.inl 20)) (.var 5)) (.int 1))) (.seq (.asg (.nm 9) (.tup (.cons (.bin .add (.var 2) (.var 7)) (.cons (.bin .add (.var 3) (.var 8)) (.cons (.bin .add (.var 4) (.var 7)) (.cons (.bin .add (.var 5) (.var 8)) .nil)))))) (.seq (.asg (.nm 10) (.bin .add (.bin .add (.slc (.var 0) .nil (.var 1)) (.tup (.cons (.var 9) .nil))) (.slc (.var 0) (.bin .add (.var 1) (.int 1)) .nil))) (.seq (.ite (.and (.cons (.call "is_page" (.cons (.var 10) .nil)) (.cons (.call "do_agree" (.cons (.var 0) (.cons (.var 10) .nil))) .nil))) (.seq (.app 6 (.tup (.cons (.var 7) (.cons (.var 8) .nil)))) .skip) .skip) .skip)))) .skip)) (.seq (.frz 6) (.seq (.ret (.var 6)) .skip)))))))⟩
def d_exchanged : Df := ⟨"exchanged", 1, ["page", "left", "top", "right", "bottom"],
  (.seq (.ret (.bi .tuple (.cons (.comp [("left", 1), ("top", 2), ("right", 3), ("bottom", 4)] (.tp [1, 2, 3, 4]) (.iter (.var 0)) .yes (.tup (.cons (.bin .sub (.glob "SIZE" (.inl 20)) (.var 3)) (.cons (.var 2) (.cons (.bin .sub (.glob "SIZE" (.inl 20)) (.var 1)) (.cons (.var 4) .nil)))))) .nil))) .skip)⟩
def d_mirrored : Df := ⟨"mirrored", 1, ["page"],
  (.seq (.expr (.call "check_page" (.cons (.var 0) .nil))) (.seq (.ret (.call "exchanged" (.cons (.var 0) .nil))) .skip))⟩
def d_turned_pairs : Df := ⟨"turned_pairs", 1, ["page", "other", "pair"],
  (.seq (.expr (.call "check_page" (.cons (.var 0) .nil))) (.seq (.asg (.nm 1) (.call "find_pairs" (.cons (.call "exchanged" (.cons (.var 0) .nil)) .nil))) (.seq (.ret (.comp [("pair", 2)] (.nm 2) (.iter (.call "find_pairs" (.cons (.var 0) .nil))) (.cmp .isin (.tup (.cons (.idx (.var 2) (.int 1)) (.cons (.idx (.var 2) (.int 0)) .nil))) (.var 1)) (.var 2))) .skip)))⟩
def d__law_error_k21 : Df := ⟨"_law_error", 3, ["way", "one", "two", "e"],
  (.seq (.tryE (.seq (.ite (.cmp .lt (.var 0) (.int 2)) (.seq (.expr (.callIx ["mirrored", "turned_pairs"] (.var 0) (.cons (.var 1) .nil))) .skip) (.seq (.expr (.callIx ["are_alike", "still_moves"] (.bin .sub (.var 0) (.int 2)) (.cons (.var 1) (.cons (.var 2) .nil)))) .skip)) .skip) 3 [1, 2]) (.seq (.ret .non) .skip))⟩
def d__law_overlap : Df := ⟨"_law_overlap", 2, ["one", "other"],
  (.seq (.ret (.and (.cons (.cmp .lt (.idx (.var 0) (.int 0)) (.idx (.var 1) (.int 2))) (.cons (.cmp .lt (.idx (.var 1) (.int 0)) (.idx (.var 0) (.int 2))) (.cons (.cmp .lt (.idx (.var 0) (.int 1)) (.idx (.var 1) (.int 3))) (.cons (.cmp .lt (.idx (.var 1) (.int 1)) (.idx (.var 0) (.int 3))) .nil)))))) .skip)⟩
def d_law_k21 : Df := ⟨"law", 1, ["script", "page", "other", "a", "b", "c", "d", "known", "turned", "left", "top", "right", "bottom", "pair", "number", "rest", "due", "across", "down", "panel", "same", "one", "odd", "bad", "told"],
  (.seq (.asg (.tp [1, 2]) (.tup (.cons (.slc (.call "_law_page" (.cons (.var 0) (.cons (.int 10) (.cons (.int 5) .nil)))) .nil (.int 3)) (.cons (.slc (.call "_law_page" (.cons (.var 0) (.cons (.int 80) (.cons (.int 5) .nil)))) .nil (.int 3)) .nil)))) (.seq (.asg (.nm 2) (.idx (.lst (.cons (.var 2) (.cons (.var 1) (.cons (.bi .tuple (.cons (.comp [("a", 3), ("b", 4), ("c", 5), ("d", 6)] (.tp [3, 4, 5, 6]) (.iter (.var 1)) .yes (.tup (.cons (.bin .add (.var 3) (.int 2)) (.cons (.bin .add (.var 4) (.int 1)) (.cons (.bin .add (.var 5) (.int 2)) (.cons (.bin .add (.var 6) (.int 1)) .nil)))))) .nil)) .nil)))) (.call "_law_drawn" (.cons (.var 0) (.cons (.int 1) (.cons (.int 3) .nil)))))) (.seq (.asg (.nm 7) (.call "_law_pairs" (.cons (.var 1) .nil))) (.seq (.ite (.cmp .ne (.call "are_alike" (.cons (.var 1) (.cons (.var 2) .nil))) (.and (.cons (.cmp .eq (.bi .len (.cons (.var 1) .nil)) (.bi .len (.cons (.var 2) .nil))) (.cons (.cmp .eq (.var 7) (.call "_law_pairs" (.cons (.var 2) .nil))) .nil)))) (.seq (.ret (.bl false)) .skip) .skip) (.seq (.asg (.nm 8) (.bi .tuple (.cons (.comp [("left", 9), ("top", 10), ("right", 11), ("bottom", 12)] (.tp [9, 10, 11, 12]) (.iter (.var 1)) .yes (.tup (.cons (.bin .sub (.int 20) (.var 11)) (.cons (.var 10) (.cons (.bin .sub (.int 20) (.var 9)) (.cons (.var 12) .nil)))))) .nil))) (.seq (.ite (.cmp .ne (.call "mirrored" (.cons (.var 1) .nil)) (.var 8)) (.seq (.ret (.bl false)) .skip) .skip) (.seq (.ite (.cmp .ne (.call "turned_pairs" (.cons (.var 1) .nil)) (.comp [("pair", 13)] (.nm 13) (.iter (.var 7)) (.cmp .isin (.tup (.cons (.idx (.var 13) (.int 1)) (.cons (.idx (.var 13) (.int 0)) .nil))) (.call "_law_pairs" (.cons (.var 8) .nil))) (.var 13))) (.seq (.ret (.bl false)) .skip) .skip) (.seq (.ite (.cmp .ne (.var 1) (.tup .nil)) (.seq (.asg (.nm 14) (.call "_law_drawn" (.cons (.var 0) (.cons (.int 2) (.cons (.bi .len (.cons (.var 1) .nil)) .nil))))) (.seq (.asg (.tp [9, 10, 11, 12]) (.idx (.var 1) (.var 14))) (.seq (.own2 false 15 16 (.bin .add (.slc (.var 1) .nil (.var 14)) (.slc (.var 1) (.bin .add (.var 14) (.int 1)) .nil))) (.seq (.for_ (.nm 17) (.rg (.bin .sub (.int 0) (.var 9)) (.bin .sub (.int 21) (.var 11))) (.seq (.for_ (.nm 18) (.rg (.bin .sub (.int 0) (.var 10)) (.bin .sub (.int 21) (.var 12))) (.seq (.asg (.nm 19) (.tup (.cons (.bin .add (.var 9) (.var 17)) (.cons (.bin .add (.var 10) (.var 18)) (.cons (.bin .add (.var 11) (.var 17)) (.cons (.bin .add (.var 12) (.var 18)) .nil)))))) (.seq (.asg (.nm 20) (.cmp .eq (.comp [("one", 21)] (.nm 21) (.iter (.var 15)) (.call "_law_overlap" (.cons (.var 21) (.cons (.var 19) .nil))) (.var 21)) (.lst .nil))) (.seq (.for_ (.nm 21) (.iter (.var 15)) (.seq (.asg (.nm 20) (.and (.cons (.var 20) (.cons (.cmp .eq (.call "_law_first" (.cons (.var 21) (.cons (.var 19) .nil))) (.call "_law_first" (.cons (.var 21) (.cons (.idx (.var 1) (.var 14)) .nil)))) .nil)))) (.seq (.asg (.nm 20) (.and (.cons (.var 20) (.cons (.cmp .eq (.call "_law_first" (.cons (.var 19) (.cons (.var 21) .nil))) (.call "_law_first" (.cons (.idx (.var 1) (.var 14)) (.cons (.var 21) .nil)))) .nil)))) .skip))) (.seq (.ite (.var 20) (.seq (.app 16 (.tup (.cons (.var 17) (.cons (.var 18) .nil)))) .skip) .skip) .skip))))) .skip)) (.seq (.ite (.cmp .ne (.call "still_moves" (.cons (.var 1) (.cons (.var 14) .nil))) (.bor 16)) (.seq (.ret (.bl false)) .skip) .skip) .skip))))) .skip) (.seq (.asg (.tp [22, 23]) (.tup (.cons (.call "_law_badpage" (.cons (.var 0) (.cons (.int 3) .nil))) (.cons (.call "_law_badnumber" (.cons (.var 0) (.cons (.int 4) (.cons (.bi .len (.cons (.var 1) .nil)) .nil)))) .nil)))) (.seq (.asg (.nm 24) (.lst (.cons (.call "_law_error" (.cons (.int 0) (.cons (.var 22) (.cons (.int 0) .nil)))) (.cons (.call "_law_error" (.cons (.int 1) (.cons (.var 22) (.cons (.int 0) .nil)))) (.cons (.call "_law_error" (.cons (.int 2) (.cons (.var 22) (.cons (.var 22) .nil)))) .nil))))) (.seq (.asg (.nm 24) (.bin .add (.var 24) (.lst (.cons (.call "_law_error" (.cons (.int 2) (.cons (.var 1) (.cons (.var 22) .nil)))) (.cons (.call "_law_error" (.cons (.int 3) (.cons (.var 22) (.cons (.var 23) .nil)))) .nil))))) (.seq (.ret (.cmp .eq (.bin .add (.var 24) (.lst (.cons (.call "_law_error" (.cons (.int 3) (.cons (.var 1) (.cons (.var 23) .nil)))) .nil))) (.bin .add (.bin .mul (.lst (.cons (.int 0) .nil)) (.int 5)) (.lst (.cons (.int 1) .nil))))) .skip))))))))))))⟩
def d_find_cuts : Df := ⟨"find_cuts", 3, ["page", "part", "low", "found", "line", "number", "is_clear"],
  (.seq (.own 3 (.lst .nil)) (.seq (.for_ (.nm 4) (.iter (.sset (.comp [("number", 5)] (.nm 5) (.iter (.var 1)) .yes (.idx (.idx (.var 0) (.var 5)) (.var 2))))) (.seq (.asg (.nm 6) (.bi .all (.cons (.comp [("number", 5)] (.nm 5) (.iter (.var 1)) .yes (.or (.cons (.cmp .le (.idx (.idx (.var 0) (.var 5)) (.bin .add (.var 2) (.int 2))) (.var 4)) (.cons (.cmp .ge (.idx (.idx (.var 0) (.var 5)) (.var 2)) (.var 4)) .nil)))) .nil))) (.seq (.ite (.and (.cons (.var 6) (.cons (.bi .any (.cons (.comp [("number", 5)] (.nm 5) (.iter (.var 1)) .yes (.cmp .le (.idx (.idx (.var 0) (.var 5)) (.bin .add (.var 2) (.int 2))) (.var 4))) .nil)) .nil))) (.seq (.app 3 (.var 4)) .skip) .skip) .skip))) (.seq (.frz 3) (.seq (.ret (.var 3)) .skip))))⟩
def d_find_parts : Df := ⟨"find_parts", 3, ["page", "part", "low", "found", "rest", "line", "number"],
  (.seq (.own2 true 4 3 (.var 1)) (.seq (.for_ (.nm 5) (.iter (.call "find_cuts" (.cons (.var 0) (.cons (.var 1) (.cons (.var 2) .nil))))) (.seq (.app 3 (.bi .tuple (.cons (.comp [("number", 6)] (.nm 6) (.iter (.var 4)) (.cmp .le (.idx (.idx (.var 0) (.var 6)) (.bin .add (.var 2) (.int 2))) (.var 5)) (.var 6)) .nil))) (.seq (.asg (.nm 4) (.bi .tuple (.cons (.comp [("number", 6)] (.nm 6) (.iter (.var 4)) (.cmp .ge (.idx (.idx (.var 0) (.var 6)) (.var 2)) (.var 5)) (.var 6)) .nil))) .skip))) (.seq (.ret (.bin .add (.bor 3) (.lst (.cons (.var 4) .nil)))) .skip)))⟩
def d_check_part : Df := ⟨"check_part", 2, ["page", "value", "one", "other"],
  (.seq (.expr (.call "check_page" (.cons (.var 0) .nil))) (.seq (.ite (.or (.cons (.not (.isi (.var 1) .tuple)) (.cons (.cmp .eq (.var 1) (.tup .nil)) (.cons (.not (.bi .all (.cons (.comp [("one", 2)] (.nm 2) (.iter (.var 1)) .yes (.call "is_int" (.cons (.var 2) (.cons (.int 0) (.cons (.bin .sub (.bi .len (.cons (.var 0) .nil)) (.int 1)) .nil))))) .nil))) .nil)))) (.seq (.raise "InvalidPart" 4) .skip) .skip) (.seq (.ite (.not (.bi .all (.cons (.comp [("one", 2), ("other", 3)] (.tp [2, 3]) (.zip (.var 1) (.slc (.var 1) (.int 1) .nil)) .yes (.cmp .lt (.var 2) (.var 3))) .nil))) (.seq (.raise "InvalidPart" 4) .skip) .skip) .skip)))⟩
def d_row_parts : Df := ⟨"row_parts", 2, ["page", "part"],
  (.seq (.expr (.call "check_part" (.cons (.var 0) (.cons (.var 1) .nil)))) (.seq (.ret (.call "find_parts" (.cons (.var 0) (.cons (.var 1) (.cons (.int 1) .nil))))) .skip))⟩
def d_column_parts : Df := ⟨"column_parts", 2, ["page", "part"],
  (.seq (.expr (.call "check_part" (.cons (.var 0) (.cons (.var 1) .nil)))) (.seq (.ret (.call "find_parts" (.cons (.var 0) (.cons (.var 1) (.cons (.int 0) .nil))))) .skip))⟩
def d_read_part : Df := ⟨"read_part", 3, ["page", "part", "low", "parts", "found", "one", "order", "stuck"],
  (.seq (.ite (.cmp .lt (.bi .len (.cons (.var 1) .nil)) (.int 2)) (.seq (.ret (.tup (.cons (.var 1) (.cons .non .nil)))) .skip) .skip) (.seq (.asg (.nm 3) (.call "find_parts" (.cons (.var 0) (.cons (.var 1) (.cons (.var 2) .nil))))) (.seq (.ite (.cmp .eq (.bi .len (.cons (.var 3) .nil)) (.int 1)) (.seq (.asg (.nm 3) (.call "find_parts" (.cons (.var 0) (.cons (.var 1) (.cons (.bin .sub (.int 1) (.var 2)) .nil))))) .skip) .skip) (.seq (.ite (.cmp .eq (.bi .len (.cons (.var 3) .nil)) (.int 1)) (.seq (.ret (.tup (.cons (.tup .nil) (.cons (.var 1) .nil)))) .skip) .skip) (.seq (.asg (.nm 4) (.tup .nil)) (.seq (.for_ (.nm 5) (.iter (.var 3)) (.seq (.asg (.tp [6, 7]) (.call "read_part" (.cons (.var 0) (.cons (.var 5) (.cons (.var 2) .nil))))) (.seq (.ite (.isN true (.var 7)) (.seq (.ret (.tup (.cons (.tup .nil) (.cons (.var 7) .nil)))) .skip) .skip) (.seq (.asg (.nm 4) (.bin .add (.var 4) (.var 6))) .skip)))) (.seq (.ret (.tup (.cons (.var 4) (.cons .non .nil)))) .skip)))))))⟩
def d_find_reading : Df := ⟨"find_reading", 2, ["page", "low", "order", "stuck"],
  (.seq (.asg (.tp [2, 3]) (.call "read_part" (.cons (.var 0) (.cons (.trg .nil (.bi .len (.cons (.var 0) .nil))) (.cons (.var 1) .nil))))) (.seq (.ret (.ite (.isN false (.var 3)) (.var 2) .non)) .skip))⟩
def d_by_rows : Df := ⟨"by_rows", 1, ["page"],
  (.seq (.expr (.call "check_page" (.cons (.var 0) .nil))) (.seq (.ret (.call "find_reading" (.cons (.var 0) (.cons (.int 1) .nil)))) .skip))⟩
def d_by_columns : Df := ⟨"by_columns", 1, ["page"],
  (.seq (.expr (.call "check_page" (.cons (.var 0) .nil))) (.seq (.ret (.call "find_reading" (.cons (.var 0) (.cons (.int 0) .nil)))) .skip))⟩
def d_stuck_part : Df := ⟨"stuck_part", 1, ["page"],
  (.seq (.expr (.call "check_page" (.cons (.var 0) .nil))) (.seq (.ret (.idx (.call "read_part" (.cons (.var 0) (.cons (.trg .nil (.bi .len (.cons (.var 0) .nil))) (.cons (.int 1) .nil)))) (.int 1))) .skip))⟩
def d_is_cuttable : Df := ⟨"is_cuttable", 1, ["page"],
  (.seq (.expr (.call "check_page" (.cons (.var 0) .nil))) (.seq (.ret (.isN true (.call "find_reading" (.cons (.var 0) (.cons (.int 1) .nil))))) .skip))⟩
def d__law_error_k13 : Df := ⟨"_law_error", 3, ["way", "one", "two", "e"],
  (.seq (.tryE (.seq (.ite (.cmp .lt (.var 0) (.int 4)) (.seq (.expr (.callIx ["by_columns", "by_rows", "is_cuttable", "stuck_part"] (.var 0) (.cons (.var 1) .nil))) .skip) (.seq (.expr (.callIx ["column_parts", "row_parts"] (.bin .sub (.var 0) (.int 4)) (.cons (.var 1) (.cons (.var 2) .nil)))) .skip)) .skip) 3 [1, 4]) (.seq (.ret .non) .skip))⟩
def d__law_parts : Df := ⟨"_law_parts", 3, ["page", "part", "side", "found", "held", "line", "above", "number", "below"],
  (.seq (.own2 true 4 3 (.var 1)) (.seq (.for_ (.nm 5) (.rg (.int 1) (.int 20)) (.seq (.asg (.nm 6) (.bi .tuple (.cons (.comp [("number", 7)] (.nm 7) (.iter (.var 4)) (.cmp .le (.idx (.idx (.var 0) (.var 7)) (.bin .add (.var 2) (.int 2))) (.var 5)) (.var 7)) .nil))) (.seq (.asg (.nm 8) (.bi .tuple (.cons (.comp [("number", 7)] (.nm 7) (.iter (.var 4)) (.cmp .ge (.idx (.idx (.var 0) (.var 7)) (.var 2)) (.var 5)) (.var 7)) .nil))) (.seq (.ite (.and (.cons (.cmp .ne (.var 6) (.tup .nil)) (.cons (.cmp .ne (.var 8) (.tup .nil)) (.cons (.cmp .eq (.bin .add (.bi .len (.cons (.var 6) .nil)) (.bi .len (.cons (.var 8) .nil))) (.bi .len (.cons (.var 4) .nil))) .nil)))) (.seq (.app 3 (.var 6)) (.seq (.asg (.nm 4) (.var 8)) .skip)) .skip) .skip)))) (.seq (.ret (.bin .add (.bor 3) (.lst (.cons (.var 4) .nil)))) .skip)))⟩
def d__law_read : Df := ⟨"_law_read", 3, ["page", "part", "side", "way", "parts", "found", "one", "order", "stuck"],
  (.seq (.ite (.cmp .lt (.bi .len (.cons (.var 1) .nil)) (.int 2)) (.seq (.ret (.tup (.cons (.var 1) (.cons .non .nil)))) .skip) .skip) (.seq (.for_ (.nm 3) (.iter (.tup (.cons (.var 2) (.cons (.bin .sub (.int 1) (.var 2)) .nil)))) (.seq (.asg (.nm 4) (.call "_law_parts" (.cons (.var 0) (.cons (.var 1) (.cons (.var 3) .nil))))) (.seq (.ite (.cmp .gt (.bi .len (.cons (.var 4) .nil)) (.int 1)) (.seq (.asg (.nm 5) (.tup .nil)) (.seq (.for_ (.nm 6) (.iter (.var 4)) (.seq (.asg (.tp [7, 8]) (.call "_law_read" (.cons (.var 0) (.cons (.var 6) (.cons (.var 2) .nil))))) (.seq (.ite (.isN true (.var 8)) (.seq (.ret (.tup (.cons (.tup .nil) (.cons (.var 8) .nil)))) .skip) .skip) (.seq (.asg (.nm 5) (.bin .add (.var 5) (.var 7))) .skip)))) (.seq (.ret (.tup (.cons (.var 5) (.cons .non .nil)))) .skip))) .skip) .skip))) (.seq (.ret (.tup (.cons (.tup .nil) (.cons (.var 1) .nil)))) .skip)))⟩
def d_law_k13 : Df := ⟨"law", 1, ["script", "page", "whole", "order", "stuck", "other", "held", "k", "part", "number", "wheel", "odd", "bad", "told", "way"],
  (.seq (.asg (.nm 1) (.call "_law_page" (.cons (.var 0) (.cons (.int 10) (.cons (.int 8) .nil))))) (.seq (.asg (.nm 2) (.trg .nil (.bi .len (.cons (.var 1) .nil)))) (.seq (.asg (.tp [3, 4]) (.call "_law_read" (.cons (.var 1) (.cons (.var 2) (.cons (.int 1) .nil))))) (.seq (.ite (.or (.cons (.cmp .ne (.call "by_rows" (.cons (.var 1) .nil)) (.ite (.isN false (.var 4)) (.var 3) .non)) (.cons (.cmp .ne (.call "stuck_part" (.cons (.var 1) .nil)) (.var 4)) .nil))) (.seq (.ret (.bl false)) .skip) .skip) (.seq (.ite (.cmp .ne (.call "is_cuttable" (.cons (.var 1) .nil)) (.isN false (.var 4))) (.seq (.ret (.bl false)) .skip) .skip) (.seq (.asg (.tp [5, 6]) (.call "_law_read" (.cons (.var 1) (.cons (.var 2) (.cons (.int 0) .nil))))) (.seq (.ite (.cmp .ne (.call "by_columns" (.cons (.var 1) .nil)) (.ite (.isN false (.var 6)) (.var 5) .non)) (.seq (.ret (.bl false)) .skip) .skip) (.seq (.for_ (.nm 7) (.rg .nil (.int 4)) (.seq (.asg (.nm 8) (.bi .tuple (.cons (.comp [("number", 9)] (.nm 9) (.iter (.var 2)) (.cmp .gt (.call "_law_drawn" (.cons (.var 0) (.cons (.bin .add (.bin .add (.int 70) (.bin .mul (.int 8) (.var 7))) (.var 9)) (.cons (.int 3) .nil)))) (.int 0)) (.var 9)) .nil))) (.seq (.ite (.cmp .ne (.var 8) (.tup .nil)) (.seq (.ite (.cmp .ne (.call "row_parts" (.cons (.var 1) (.cons (.var 8) .nil))) (.call "_law_parts" (.cons (.var 1) (.cons (.var 8) (.cons (.int 1) .nil))))) (.seq (.ret (.bl false)) .skip) .skip) (.seq (.ite (.cmp .ne (.call "column_parts" (.cons (.var 1) (.cons (.var 8) .nil))) (.call "_law_parts" (.cons (.var 1) (.cons (.var 8) (.cons (.int 0) .nil))))) (.seq (.ret (.bl false)) .skip) .skip) .skip)) .skip) .skip))) (.seq (.asg (.nm 10) (.tup (.cons (.tup (.cons (.int 2) (.cons (.int 0) (.cons (.int 8) (.cons (.int 2) .nil))))) (.cons (.tup (.cons (.int 6) (.cons (.int 2) (.cons (.int 8) (.cons (.int 8) .nil))))) (.cons (.tup (.cons (.int 0) (.cons (.int 6) (.cons (.int 6) (.cons (.int 8) .nil))))) (.cons (.tup (.cons (.int 0) (.cons (.int 0) (.cons (.int 2) (.cons (.int 6) .nil))))) .nil)))))) (.seq (.ite (.or (.cons (.cmp .ne (.call "stuck_part" (.cons (.var 10) .nil)) (.tup (.cons (.int 0) (.cons (.int 1) (.cons (.int 2) (.cons (.int 3) .nil)))))) (.cons (.isN true (.call "by_rows" (.cons (.var 10) .nil))) (.cons (.cmp .ne (.call "by_rows" (.cons (.tup .nil) .nil)) (.tup .nil)) .nil)))) (.seq (.ret (.bl false)) .skip) .skip) (.seq (.asg (.nm 11) (.call "_law_badpage" (.cons (.var 0) (.cons (.int 1) .nil)))) (.seq (.asg (.nm 12) (.idx (.lst (.cons .non (.cons (.tup .nil) (.cons (.lst (.cons (.int 0) .nil)) (.cons (.tup (.cons (.int 0) (.cons (.int 0) .nil))) (.cons (.tup (.cons (.int 1) (.cons (.int 0) .nil))) (.cons (.tup (.cons (.bi .len (.cons (.var 1) .nil)) .nil)) (.cons (.tup (.cons (.neg (.int 1)) .nil)) (.cons (.tup (.cons (.bl true) .nil)) (.cons (.str "0") .nil)))))))))) (.call "_law_drawn" (.cons (.var 0) (.cons (.int 2) (.cons (.int 9) .nil)))))) (.seq (.asg (.nm 13) (.bin .add (.comp [("way", 14)] (.nm 14) (.rg .nil (.int 6)) .yes (.call "_law_error" (.cons (.var 14) (.cons (.var 11) (.cons (.var 12) .nil))))) (.comp [("way", 14)] (.nm 14) (.iter (.tup (.cons (.int 4) (.cons (.int 5) .nil)))) .yes (.call "_law_error" (.cons (.var 14) (.cons (.var 1) (.cons (.var 12) .nil))))))) (.seq (.ret (.cmp .eq (.var 13) (.bin .add (.bin .mul (.lst (.cons (.int 0) .nil)) (.int 6)) (.bin .mul (.lst (.cons (.int 1) .nil)) (.int 2))))) .skip))))))))))))))⟩
def d_has_order : Df := ⟨"has_order", 2, ["many", "candidate", "number"],
  (.seq (.ite (.or (.cons (.not (.isi (.var 1) .tuple)) (.cons (.not (.bi .all (.cons (.comp [("number", 2)] (.nm 2) (.iter (.var 1)) .yes (.call "is_int" (.cons (.var 2) (.cons (.int 0) (.cons (.bin .sub (.var 0) (.int 1)) .nil))))) .nil))) .nil))) (.seq (.ret (.bl false)) .skip) .skip) (.seq (.ret (.cmp .eq (.bi .sorted (.cons (.var 1) .nil)) (.lrg .nil (.var 0)))) .skip))⟩
def d_keeps_pairs : Df := ⟨"keeps_pairs", 2, ["order", "known", "one", "other"],
  (.seq (.ret (.bi .all (.cons (.comp [("one", 2), ("other", 3)] (.tp [2, 3]) (.iter (.var 1)) .yes (.cmp .lt (.index (.var 0) (.var 2)) (.index (.var 0) (.var 3)))) .nil))) .skip)⟩
def d_fits : Df := ⟨"fits", 2, ["page", "candidate"],
  (.seq (.ret (.and (.cons (.call "has_order" (.cons (.bi .len (.cons (.var 0) .nil)) (.cons (.var 1) .nil))) (.cons (.call "keeps_pairs" (.cons (.var 1) (.cons (.call "find_pairs" (.cons (.var 0) .nil)) .nil))) .nil)))) .skip)⟩
def d_is_order : Df := ⟨"is_order", 2, ["page", "candidate"],
  (.seq (.expr (.call "check_page" (.cons (.var 0) .nil))) (.seq (.ret (.call "has_order" (.cons (.bi .len (.cons (.var 0) .nil)) (.cons (.var 1) .nil)))) .skip))⟩
def d_can_read : Df := ⟨"can_read", 2, ["page", "candidate"],
  (.seq (.expr (.call "check_page" (.cons (.var 0) .nil))) (.seq (.ret (.call "fits" (.cons (.var 0) (.cons (.var 1) .nil)))) .skip))⟩
def d_next_ones : Df := ⟨"next_ones", 2, ["left", "known", "later", "one", "other", "number"],
  (.seq (.asg (.nm 2) (.comp [("one", 3), ("other", 4)] (.tp [3, 4]) (.iter (.var 1)) (.cmp .isin (.var 3) (.var 0)) (.var 4))) (.seq (.ret (.comp [("number", 5)] (.nm 5) (.iter (.var 0)) (.cmp .notin (.var 5) (.var 2)) (.var 5))) .skip))⟩
def d_count_left : Df := ⟨"count_left", 3, ["left", "known", "seen", "total", "number", "other"],
  (.seq (.ite (.cmp .eq (.var 0) (.tup .nil)) (.seq (.ret (.int 1)) .skip) .skip) (.memo 2 0 (.seq (.asg (.nm 3) (.int 0)) (.seq (.for_ (.nm 4) (.iter (.call "next_ones" (.cons (.var 0) (.cons (.var 1) .nil)))) (.seq (.asg (.nm 3) (.bin .add (.var 3) (.call "count_left" (.cons (.bi .tuple (.cons (.comp [("other", 5)] (.nm 5) (.iter (.var 0)) (.cmp .ne (.var 5) (.var 4)) (.var 5)) .nil)) (.cons (.var 1) (.cons (.var 2) .nil)))))) .skip)) .skip)) (.var 3)))⟩
def d_find_number : Df := ⟨"find_number", 2, ["many", "known"],
  (.seq (.ret (.call "count_left" (.cons (.trg .nil (.var 0)) (.cons (.var 1) (.cons (.dnew (.var 1)) .nil))))) .skip)⟩
def d_first_order : Df := ⟨"first_order", 1, ["page", "known", "left", "found", "number", "other"],
  (.seq (.expr (.call "check_page" (.cons (.var 0) .nil))) (.seq (.asg (.tp [1, 2, 3]) (.tup (.cons (.call "find_pairs" (.cons (.var 0) .nil)) (.cons (.trg .nil (.bi .len (.cons (.var 0) .nil))) (.cons (.tup .nil) .nil))))) (.seq (.while_ 64 (.cmp .ne (.var 2) (.tup .nil)) (.seq (.asg (.nm 4) (.idx (.call "next_ones" (.cons (.var 2) (.cons (.var 1) .nil))) (.int 0))) (.seq (.asg (.nm 3) (.bin .add (.var 3) (.tup (.cons (.var 4) .nil)))) (.seq (.asg (.nm 2) (.bi .tuple (.cons (.comp [("other", 5)] (.nm 5) (.iter (.var 2)) (.cmp .ne (.var 5) (.var 4)) (.var 5)) .nil))) .skip)))) (.seq (.ret (.var 3)) .skip))))⟩
def d_count_orders : Df := ⟨"count_orders", 1, ["page"],
  (.seq (.expr (.call "check_page" (.cons (.var 0) .nil))) (.seq (.ret (.call "find_number" (.cons (.bi .len (.cons (.var 0) .nil)) (.cons (.call "find_pairs" (.cons (.var 0) .nil)) .nil)))) .skip))⟩
def d_is_sure : Df := ⟨"is_sure", 1, ["page"],
  (.seq (.expr (.call "check_page" (.cons (.var 0) .nil))) (.seq (.ret (.cmp .eq (.call "find_number" (.cons (.bi .len (.cons (.var 0) .nil)) (.cons (.call "find_pairs" (.cons (.var 0) .nil)) .nil))) (.int 1))) .skip))⟩
def d_order_at : Df := ⟨"order_at", 2, ["page", "rank", "known", "left", "found", "seen", "number", "rest", "other", "many"],
  (.seq (.expr (.call "check_page" (.cons (.var 0) .nil))) (.seq (.asg (.tp [2, 3, 4, 5]) (.tup (.cons (.call "find_pairs" (.cons (.var 0) .nil)) (.cons (.trg .nil (.bi .len (.cons (.var 0) .nil))) (.cons (.tup .nil) (.cons (.dnew (.call "find_pairs" (.cons (.var 0) .nil))) .nil)))))) (.seq (.expr (.call "check_number" (.cons (.var 1) (.cons (.int 0) (.cons (.bin .sub (.call "count_left" (.cons (.var 3) (.cons (.var 2) (.cons (.var 5) .nil)))) (.int 1)) .nil))))) (.seq (.while_ 64 (.cmp .ne (.var 3) (.tup .nil)) (.seq (.for_ (.nm 6) (.iter (.call "next_ones" (.cons (.var 3) (.cons (.var 2) .nil)))) (.seq (.asg (.nm 7) (.bi .tuple (.cons (.comp [("other", 8)] (.nm 8) (.iter (.var 3)) (.cmp .ne (.var 8) (.var 6)) (.var 8)) .nil))) (.seq (.asg (.nm 9) (.call "count_left" (.cons (.var 7) (.cons (.var 2) (.cons (.var 5) .nil))))) (.seq (.ite (.cmp .lt (.var 1) (.var 9)) (.seq .brk .skip) .skip) (.seq (.asg (.nm 1) (.bin .sub (.var 1) (.var 9))) .skip))))) (.seq (.asg (.tp [4, 3]) (.tup (.cons (.bin .add (.var 4) (.tup (.cons (.var 6) .nil))) (.cons (.var 7) .nil)))) .skip))) (.seq (.ret (.var 4)) .skip)))))⟩
def d_check_order : Df := ⟨"check_order", 2, ["page", "value"],
  (.seq (.expr (.call "check_page" (.cons (.var 0) .nil))) (.seq (.ite (.not (.call "fits" (.cons (.var 0) (.cons (.var 1) .nil)))) (.seq (.raise "InvalidOrder" 3) .skip) .skip) .skip))⟩
def d_rank_of : Df := ⟨"rank_of", 2, ["page", "order", "known", "left", "seen", "rank", "number", "other", "one"],
  (.seq (.expr (.call "check_order" (.cons (.var 0) (.cons (.var 1) .nil)))) (.seq (.asg (.tp [2, 3, 4, 5]) (.tup (.cons (.call "find_pairs" (.cons (.var 0) .nil)) (.cons (.trg .nil (.bi .len (.cons (.var 0) .nil))) (.cons (.dnew (.call "find_pairs" (.cons (.var 0) .nil))) (.cons (.int 0) .nil)))))) (.seq (.for_ (.nm 6) (.iter (.var 1)) (.seq (.for_ (.nm 7) (.iter (.call "next_ones" (.cons (.var 3) (.cons (.var 2) .nil)))) (.seq (.ite (.cmp .lt (.var 7) (.var 6)) (.seq (.asg (.nm 5) (.bin .add (.var 5) (.call "count_left" (.cons (.bi .tuple (.cons (.comp [("one", 8)] (.nm 8) (.iter (.var 3)) (.cmp .ne (.var 8) (.var 7)) (.var 8)) .nil)) (.cons (.var 2) (.cons (.var 4) .nil)))))) .skip) .skip) .skip)) (.seq (.asg (.nm 3) (.bi .tuple (.cons (.comp [("one", 8)] (.nm 8) (.iter (.var 3)) (.cmp .ne (.var 8) (.var 6)) (.var 8)) .nil))) .skip))) (.seq (.ret (.var 5)) .skip))))⟩
def d__law_all : Df := ⟨"_law_all", 2, ["many", "known", "found", "turn", "longer", "some", "number", "held", "one", "other"],
  (.seq (.asg (.nm 2) (.lst (.cons (.tup .nil) .nil))) (.seq (.for_ (.nm 3) (.rg .nil (.var 0)) (.seq (.asg (.nm 4) (.lst .nil)) (.seq (.for_ (.nm 5) (.iter (.var 2)) (.seq (.for_ (.nm 6) (.rg .nil (.var 0)) (.seq (.asg (.nm 7) (.comp [("one", 8), ("other", 9)] (.tp [8, 9]) (.iter (.var 1)) (.and (.cons (.cmp .eq (.var 9) (.var 6)) (.cons (.cmp .notin (.var 8) (.var 5)) .nil))) (.var 8))) (.seq (.asg (.nm 4) (.bin .add (.var 4) (.ite (.and (.cons (.cmp .notin (.var 6) (.var 5)) (.cons (.cmp .eq (.var 7) (.lst .nil)) .nil))) (.lst (.cons (.bin .add (.var 5) (.tup (.cons (.var 6) .nil))) .nil)) (.lst .nil)))) .skip))) .skip)) (.seq (.asg (.nm 2) (.var 4)) .skip)))) (.seq (.ret (.var 2)) .skip)))⟩
def d__law_error_k03 : Df := ⟨"_law_error", 3, ["way", "one", "two", "e"],
  (.seq (.tryE (.seq (.ite (.cmp .lt (.var 0) (.int 3)) (.seq (.expr (.callIx ["count_orders", "first_order", "is_sure"] (.var 0) (.cons (.var 1) .nil))) .skip) (.seq (.expr (.callIx ["is_order", "can_read", "order_at", "rank_of"] (.bin .sub (.var 0) (.int 3)) (.cons (.var 1) (.cons (.var 2) .nil)))) .skip)) .skip) 3 [1, 2, 3]) (.seq (.ret .non) .skip))⟩
def d_law_k03 : Df := ⟨"law", 1, ["script", "page", "many", "rows", "k", "rank", "drawn", "number", "place", "order", "odd", "bad", "told", "way"],
  (.seq (.asg (.nm 1) (.slc (.call "_law_page" (.cons (.var 0) (.cons (.int 10) (.cons (.int 6) .nil)))) .nil (.int 5))) (.seq (.asg (.tp [2, 3]) (.tup (.cons (.bi .len (.cons (.var 1) .nil)) (.cons (.call "_law_all" (.cons (.bi .len (.cons (.var 1) .nil)) (.cons (.call "_law_pairs" (.cons (.var 1) .nil)) .nil))) .nil)))) (.seq (.ite (.or (.cons (.cmp .ne (.call "count_orders" (.cons (.var 1) .nil)) (.bi .len (.cons (.var 3) .nil))) (.cons (.cmp .ne (.call "first_order" (.cons (.var 1) .nil)) (.idx (.var 3) (.int 0))) .nil))) (.seq (.ret (.bl false)) .skip) .skip) (.seq (.ite (.cmp .ne (.call "is_sure" (.cons (.var 1) .nil)) (.cmp .eq (.bi .len (.cons (.var 3) .nil)) (.int 1))) (.seq (.ret (.bl false)) .skip) .skip) (.seq (.for_ (.nm 4) (.rg .nil (.int 3)) (.seq (.asg (.nm 5) (.call "_law_drawn" (.cons (.var 0) (.cons (.bin .add (.int 70) (.var 4)) (.cons (.bi .len (.cons (.var 3) .nil)) .nil))))) (.seq (.ite (.or (.cons (.cmp .ne (.call "order_at" (.cons (.var 1) (.cons (.var 5) .nil))) (.idx (.var 3) (.var 5))) (.cons (.cmp .ne (.call "rank_of" (.cons (.var 1) (.cons (.idx (.var 3) (.var 5)) .nil))) (.var 5)) .nil))) (.seq (.ret (.bl false)) .skip) .skip) .skip))) (.seq (.for_ (.nm 4) (.rg .nil (.int 5)) (.seq (.asg (.nm 6) (.lst .nil)) (.seq (.for_ (.nm 7) (.rg .nil (.var 2)) (.seq (.asg (.nm 8) (.call "_law_drawn" (.cons (.var 0) (.cons (.bin .add (.bin .add (.int 80) (.bin .mul (.int 8) (.var 4))) (.var 7)) (.cons (.bin .add (.bi .len (.cons (.var 6) .nil)) (.int 1)) .nil))))) (.seq (.asg (.nm 6) (.bin .add (.bin .add (.slc (.var 6) .nil (.var 8)) (.lst (.cons (.var 7) .nil))) (.slc (.var 6) (.var 8) .nil))) .skip))) (.seq (.asg (.nm 9) (.bi .tuple (.cons (.var 6) .nil))) (.seq (.ite (.or (.cons (.isB true (.call "is_order" (.cons (.var 1) (.cons (.var 9) .nil))) true) (.cons (.cmp .ne (.call "can_read" (.cons (.var 1) (.cons (.var 9) .nil))) (.cmp .isin (.var 9) (.var 3))) .nil))) (.seq (.ret (.bl false)) .skip) .skip) (.seq (.ite (.and (.cons (.cmp .notin (.var 9) (.var 3)) (.cons (.cmp .ne (.call "_law_error" (.cons (.int 6) (.cons (.var 1) (.cons (.var 9) .nil)))) (.int 2)) .nil))) (.seq (.ret (.bl false)) .skip) .skip) .skip)))))) (.seq (.asg (.tp [10, 5]) (.tup (.cons (.call "_law_badpage" (.cons (.var 0) (.cons (.int 1) .nil))) (.cons (.call "_law_badnumber" (.cons (.var 0) (.cons (.int 2) (.cons (.bi .len (.cons (.var 3) .nil)) .nil)))) .nil)))) (.seq (.asg (.nm 11) (.idx (.lst (.cons .non (.cons (.bi .list (.cons (.idx (.var 3) (.int 0)) .nil)) (.cons (.bin .add (.idx (.var 3) (.int 0)) (.tup (.cons (.var 2) .nil))) (.cons (.bin .add (.idx (.var 3) (.int 0)) (.tup (.cons (.int 0) .nil))) (.cons (.str "0") (.cons (.bin .mul (.tup (.cons (.bl true) .nil)) (.bin .add (.var 2) (.int 1))) .nil))))))) (.call "_law_drawn" (.cons (.var 0) (.cons (.int 3) (.cons (.int 6) .nil)))))) (.seq (.ite (.or (.cons (.call "is_order" (.cons (.var 1) (.cons (.var 11) .nil))) (.cons (.call "can_read" (.cons (.var 1) (.cons (.var 11) .nil))) .nil))) (.seq (.ret (.bl false)) .skip) .skip) (.seq (.asg (.nm 12) (.comp [("way", 13)] (.nm 13) (.rg .nil (.int 7)) .yes (.call "_law_error" (.cons (.var 13) (.cons (.var 10) (.cons (.var 11) .nil)))))) (.seq (.ret (.cmp .eq (.bin .add (.var 12) (.lst (.cons (.call "_law_error" (.cons (.int 5) (.cons (.var 1) (.cons (.var 5) .nil)))) (.cons (.call "_law_error" (.cons (.int 6) (.cons (.var 1) (.cons (.var 11) .nil)))) .nil)))) (.bin .add (.bin .mul (.lst (.cons (.int 0) .nil)) (.int 7)) (.lst (.cons (.int 1) (.cons (.int 2) .nil)))))) .skip)))))))))))⟩
def d__law_turned : Df := ⟨"_law_turned", 3, ["page", "order", "many", "turned", "left", "top", "right", "bottom", "back", "one", "other", "fewer", "pair"],
  (.seq (.asg (.nm 3) (.bi .tuple (.cons (.comp [("left", 4), ("top", 5), ("right", 6), ("bottom", 7)] (.tp [4, 5, 6, 7]) (.iter (.var 0)) .yes (.tup (.cons (.var 5) (.cons (.var 4) (.cons (.var 7) (.cons (.var 6) .nil)))))) .nil))) (.seq (.ite (.or (.cons (.cmp .ne (.call "pairs" (.cons (.var 3) .nil)) (.call "pairs" (.cons (.var 0) .nil))) (.cons (.cmp .ne (.call "count_orders" (.cons (.var 3) .nil)) (.var 2)) .nil))) (.seq (.ret (.bl false)) .skip) .skip) (.seq (.asg (.nm 8) (.bi .tuple (.cons (.comp [("left", 4), ("top", 5), ("right", 6), ("bottom", 7)] (.tp [4, 5, 6, 7]) (.iter (.var 0)) .yes (.tup (.cons (.bin .sub (.int 20) (.var 6)) (.cons (.bin .sub (.int 20) (.var 7)) (.cons (.bin .sub (.int 20) (.var 4)) (.cons (.bin .sub (.int 20) (.var 5)) .nil)))))) .nil))) (.seq (.ite (.cmp .ne (.call "pairs" (.cons (.var 8) .nil)) (.bi .sorted (.cons (.comp [("one", 9), ("other", 10)] (.tp [9, 10]) (.iter (.call "pairs" (.cons (.var 0) .nil))) .yes (.tup (.cons (.var 10) (.cons (.var 9) .nil)))) .nil))) (.seq (.ret (.bl false)) .skip) .skip) (.seq (.ite (.cmp .ne (.call "count_orders" (.cons (.var 8) .nil)) (.var 2)) (.seq (.ret (.bl false)) .skip) .skip) (.seq (.ite (.isB true (.call "can_read" (.cons (.var 8) (.cons (.rev (.var 1)) .nil))) true) (.seq (.ret (.bl false)) .skip) .skip) (.seq (.ite (.cmp .ne (.var 0) (.tup .nil)) (.seq (.asg (.nm 11) (.slc (.var 0) .nil (.neg (.int 1)))) (.seq (.ite (.cmp .ne (.call "pairs" (.cons (.var 11) .nil)) (.comp [("pair", 12)] (.nm 12) (.iter (.call "pairs" (.cons (.var 0) .nil))) (.cmp .notin (.bin .sub (.bi .len (.cons (.var 0) .nil)) (.int 1)) (.var 12)) (.var 12))) (.seq (.ret (.bl false)) .skip) .skip) (.seq (.ite (.cmp .gt (.var 2) (.bin .mul (.bi .len (.cons (.var 0) .nil)) (.call "count_orders" (.cons (.var 11) .nil)))) (.seq (.ret (.bl false)) .skip) .skip) .skip))) .skip) (.seq (.ret (.bl true)) .skip))))))))⟩
def d_law_k05 : Df := ⟨"law", 1, ["script", "page", "many", "order", "chain", "number", "before", "rank", "k", "row", "pair"],
  (.seq (.asg (.nm 1) (.call "_law_page" (.cons (.var 0) (.cons (.int 10) (.cons (.int 8) .nil))))) (.seq (.asg (.tp [2, 3]) (.tup (.cons (.call "count_orders" (.cons (.var 1) .nil)) (.cons (.call "first_order" (.cons (.var 1) .nil)) .nil)))) (.seq (.ite (.or (.cons (.cmp .lt (.var 2) (.int 1)) (.cons (.isB true (.call "is_order" (.cons (.var 1) (.cons (.var 3) .nil))) true) (.cons (.isB true (.call "can_read" (.cons (.var 1) (.cons (.var 3) .nil))) true) .nil)))) (.seq (.ret (.bl false)) .skip) .skip) (.seq (.ite (.or (.cons (.cmp .ne (.call "order_at" (.cons (.var 1) (.cons (.int 0) .nil))) (.var 3)) (.cons (.cmp .ne (.call "rank_of" (.cons (.var 1) (.cons (.var 3) .nil))) (.int 0)) (.cons (.cmp .ne (.call "is_sure" (.cons (.var 1) .nil)) (.cmp .eq (.var 2) (.int 1))) .nil)))) (.seq (.ret (.bl false)) .skip) .skip) (.seq (.asg (.nm 4) (.comp [("number", 5)] (.nm 5) (.rg .nil (.bin .sub (.bi .len (.cons (.var 1) .nil)) (.int 1))) (.not (.call "is_before" (.cons (.var 1) (.cons (.idx (.var 3) (.var 5)) (.cons (.idx (.var 3) (.bin .add (.var 5) (.int 1))) .nil))))) (.var 5))) (.seq (.ite (.or (.cons (.cmp .ne (.call "is_sure" (.cons (.var 1) .nil)) (.cmp .eq (.var 4) (.lst .nil))) (.cons (.and (.cons (.cmp .ne (.var 1) (.tup .nil)) (.cons (.cmp .notin (.idx (.var 3) (.int 0)) (.call "starts" (.cons (.var 1) .nil))) .nil))) .nil))) (.seq (.ret (.bl false)) .skip) .skip) (.seq (.asg (.nm 6) (.tup .nil)) (.seq (.for_ (.nm 7) (.iter (.sset (.bin .add (.comp [("k", 8)] (.nm 8) (.rg .nil (.int 3)) .yes (.call "_law_drawn" (.cons (.var 0) (.cons (.bin .add (.int 70) (.var 8)) (.cons (.var 2) .nil))))) (.lst (.cons (.bin .sub (.var 2) (.int 1)) .nil))))) (.seq (.asg (.nm 9) (.call "order_at" (.cons (.var 1) (.cons (.var 7) .nil)))) (.seq (.ite (.or (.cons (.isB true (.call "can_read" (.cons (.var 1) (.cons (.var 9) .nil))) true) (.cons (.cmp .ne (.call "rank_of" (.cons (.var 1) (.cons (.var 9) .nil))) (.var 7)) (.cons (.cmp .lt (.var 9) (.var 6)) .nil)))) (.seq (.ret (.bl false)) .skip) .skip) (.seq (.ite (.cmp .ne (.comp [("pair", 10)] (.nm 10) (.iter (.call "pairs" (.cons (.var 1) .nil))) (.cmp .gt (.index (.var 9) (.idx (.var 10) (.int 0))) (.index (.var 9) (.idx (.var 10) (.int 1)))) (.var 10)) (.lst .nil)) (.seq (.ret (.bl false)) .skip) .skip) (.seq (.asg (.nm 6) (.var 9)) .skip))))) (.seq (.ret (.call "_law_turned" (.cons (.var 1) (.cons (.var 3) (.cons (.var 2) .nil))))) .skip)))))))))⟩
end Pi

set_option Elab.async false
set_option linter.all false
set_option maxRecDepth 100000
set_option maxHeartbeats 4000000
namespace Pi
open PySem PySem.Spec PyProof.Rows L2
def d_find_sure : Df := ⟨"find_sure", 1, ["page", "found", "pair", "numbers", "middle", "one", "other"],
  (.sure ⟨1, 2, 3, 4, 5, 6, "found", "pair", "numbers", "middle", "one", "other"⟩ [("pair", 2)] (.call "find_pairs" (.cons (.var 0) .nil)) (.lrg .nil (.bi .len (.cons (.var 0) .nil))))⟩
def d_sure_pairs : Df := ⟨"sure_pairs", 1, ["page"],
  (.seq (.expr (.call "check_page" (.cons (.var 0) .nil))) (.seq (.ret (.call "find_sure" (.cons (.var 0) .nil))) .skip))⟩
def d_open_pairs : Df := ⟨"open_pairs", 1, ["page", "known", "found", "one", "other"],
  (.seq (.expr (.call "check_page" (.cons (.var 0) .nil))) (.seq (.own2 false 1 2 (.call "find_sure" (.cons (.var 0) .nil))) (.seq (.for_ (.nm 3) (.rg .nil (.bi .len (.cons (.var 0) .nil))) (.seq (.for_ (.nm 4) (.rg (.bin .add (.var 3) (.int 1)) (.bi .len (.cons (.var 0) .nil))) (.seq (.ite (.and (.cons (.cmp .notin (.tup (.cons (.var 3) (.cons (.var 4) .nil))) (.var 1)) (.cons (.cmp .notin (.tup (.cons (.var 4) (.cons (.var 3) .nil))) (.var 1)) .nil))) (.seq (.app 2 (.tup (.cons (.var 3) (.cons (.var 4) .nil)))) .skip) .skip) .skip)) .skip)) (.seq (.frz 2) (.seq (.ret (.var 2)) .skip)))))⟩
def d_places : Df := ⟨"places", 2, ["page", "number", "known", "before", "pair", "behind"],
  (.seq (.expr (.call "check_page" (.cons (.var 0) .nil))) (.seq (.expr (.call "check_number" (.cons (.var 1) (.cons (.int 0) (.cons (.bin .sub (.bi .len (.cons (.var 0) .nil)) (.int 1)) .nil))))) (.seq (.asg (.nm 2) (.call "find_sure" (.cons (.var 0) .nil))) (.seq (.asg (.nm 3) (.bi .len (.cons (.comp [("pair", 4)] (.nm 4) (.iter (.var 2)) (.cmp .eq (.idx (.var 4) (.int 1)) (.var 1)) (.var 4)) .nil))) (.seq (.asg (.nm 5) (.bi .len (.cons (.comp [("pair", 4)] (.nm 4) (.iter (.var 2)) (.cmp .eq (.idx (.var 4) (.int 0)) (.var 1)) (.var 4)) .nil))) (.seq (.ret (.lrg (.var 3) (.bin .sub (.bi .len (.cons (.var 0) .nil)) (.var 5)))) .skip))))))⟩
def d_needless_pairs : Df := ⟨"needless_pairs", 1, ["page", "known", "found", "one", "other", "middle"],
  (.seq (.expr (.call "check_page" (.cons (.var 0) .nil))) (.seq (.own2 false 1 2 (.call "find_sure" (.cons (.var 0) .nil))) (.seq (.for_ (.tp [3, 4]) (.iter (.call "find_pairs" (.cons (.var 0) .nil))) (.seq (.ite (.bi .any (.cons (.comp [("middle", 5)] (.nm 5) (.rg .nil (.bi .len (.cons (.var 0) .nil))) .yes (.and (.cons (.cmp .isin (.tup (.cons (.var 3) (.cons (.var 5) .nil))) (.var 1)) (.cons (.cmp .isin (.tup (.cons (.var 5) (.cons (.var 4) .nil))) (.var 1)) .nil)))) .nil)) (.seq (.app 2 (.tup (.cons (.var 3) (.cons (.var 4) .nil)))) .skip) .skip) .skip)) (.seq (.frz 2) (.seq (.ret (.var 2)) .skip)))))⟩
def d__law_error_k08 : Df := ⟨"_law_error", 3, ["way", "one", "two", "e"],
  (.seq (.tryE (.seq (.ite (.cmp .lt (.var 0) (.int 3)) (.seq (.expr (.callIx ["needless_pairs", "open_pairs", "sure_pairs"] (.var 0) (.cons (.var 1) .nil))) .skip) (.seq (.expr (.call "places" (.cons (.var 1) (.cons (.var 2) .nil)))) .skip)) .skip) 3 [1, 2]) (.seq (.ret .non) .skip))⟩
def d_law_k08 : Df := ⟨"law", 1, ["script", "page", "many", "known", "rows", "sure", "one", "other", "turned", "row", "loose", "later", "k", "number", "due", "odd", "way"],
  (.seq (.asg (.nm 1) (.slc (.call "_law_page" (.cons (.var 0) (.cons (.int 10) (.cons (.int 6) .nil)))) .nil (.int 5))) (.seq (.asg (.tp [2, 3]) (.tup (.cons (.bi .len (.cons (.var 1) .nil)) (.cons (.call "_law_pairs" (.cons (.var 1) .nil)) .nil)))) (.seq (.asg (.nm 4) (.call "_law_all" (.cons (.var 2) (.cons (.var 3) .nil)))) (.seq (.own 5 (.lst .nil)) (.seq (.for_ (.nm 6) (.rg .nil (.var 2)) (.seq (.for_ (.nm 7) (.rg .nil (.var 2)) (.seq (.asg (.nm 8) (.comp [("row", 9)] (.nm 9) (.iter (.var 4)) (.cmp .gt (.index (.var 9) (.var 6)) (.index (.var 9) (.var 7))) (.var 9))) (.seq (.ite (.and (.cons (.cmp .ne (.var 6) (.var 7)) (.cons (.cmp .eq (.var 8) (.lst .nil)) .nil))) (.seq (.app 5 (.tup (.cons (.var 6) (.cons (.var 7) .nil)))) .skip) .skip) .skip))) .skip)) (.seq (.ite (.cmp .ne (.call "sure_pairs" (.cons (.var 1) .nil)) (.bor 5)) (.seq (.ret (.bl false)) .skip) .skip) (.seq (.asg (.nm 10) (.lst .nil)) (.seq (.for_ (.nm 6) (.rg .nil (.var 2)) (.seq (.asg (.nm 11) (.comp [("k", 12)] (.nm 12) (.rg (.bin .add (.var 6) (.int 1)) (.var 2)) (.cmp .notin (.tup (.cons (.var 6) (.cons (.var 12) .nil))) (.bor 5)) (.var 12))) (.seq (.asg (.nm 10) (.bin .add (.var 10) (.comp [("k", 12)] (.nm 12) (.iter (.var 11)) (.cmp .notin (.tup (.cons (.var 12) (.cons (.var 6) .nil))) (.bor 5)) (.tup (.cons (.var 6) (.cons (.var 12) .nil)))))) .skip))) (.seq (.ite (.cmp .ne (.call "open_pairs" (.cons (.var 1) .nil)) (.var 10)) (.seq (.ret (.bl false)) .skip) .skip) (.seq (.for_ (.nm 13) (.rg .nil (.var 2)) (.seq (.ite (.cmp .ne (.call "places" (.cons (.var 1) (.cons (.var 13) .nil))) (.sset (.comp [("row", 9)] (.nm 9) (.iter (.var 4)) .yes (.index (.var 9) (.var 13))))) (.seq (.ret (.bl false)) .skip) .skip) .skip)) (.seq (.own 14 (.lst .nil)) (.seq (.for_ (.tp [6, 7]) (.iter (.var 3)) (.seq (.ite (.cmp .ne (.comp [("k", 12)] (.nm 12) (.rg .nil (.var 2)) (.and (.cons (.cmp .isin (.tup (.cons (.var 6) (.cons (.var 12) .nil))) (.bor 5)) (.cons (.cmp .isin (.tup (.cons (.var 12) (.cons (.var 7) .nil))) (.bor 5)) .nil))) (.var 12)) (.lst .nil)) (.seq (.app 14 (.tup (.cons (.var 6) (.cons (.var 7) .nil)))) .skip) .skip) .skip)) (.seq (.ite (.cmp .ne (.call "needless_pairs" (.cons (.var 1) .nil)) (.bor 14)) (.seq (.ret (.bl false)) .skip) .skip) (.seq (.asg (.tp [15, 13]) (.tup (.cons (.call "_law_badpage" (.cons (.var 0) (.cons (.int 1) .nil))) (.cons (.call "_law_badnumber" (.cons (.var 0) (.cons (.int 2) (.cons (.var 2) .nil)))) .nil)))) (.seq (.ret (.cmp .eq (.bin .add (.comp [("way", 16)] (.nm 16) (.rg .nil (.int 4)) .yes (.call "_law_error" (.cons (.var 16) (.cons (.var 15) (.cons (.var 13) .nil))))) (.lst (.cons (.call "_law_error" (.cons (.int 3) (.cons (.var 1) (.cons (.var 13) .nil)))) .nil))) (.bin .add (.bin .mul (.lst (.cons (.int 0) .nil)) (.int 4)) (.lst (.cons (.int 1) .nil))))) .skip)))))))))))))))⟩
def d__law_spare : Df := ⟨"_law_spare", 4, ["script", "page", "sure", "loose", "many", "known", "spare", "held", "pair", "turn", "one", "middle", "other", "count", "row", "number"],
  (.seq (.asg (.tp [4, 5]) (.tup (.cons (.bi .len (.cons (.var 1) .nil)) (.cons (.call "pairs" (.cons (.var 1) .nil)) .nil)))) (.seq (.asg (.nm 6) (.call "needless_pairs" (.cons (.var 1) .nil))) (.seq (.own 7 (.comp [("pair", 8)] (.nm 8) (.iter (.var 5)) (.cmp .notin (.var 8) (.var 6)) (.var 8))) (.seq (.for_ (.nm 9) (.rg .nil (.var 4)) (.seq (.for_ (.tp [10, 11]) (.iter (.bi .list (.cons (.bor 7) .nil))) (.seq (.for_ (.nm 12) (.rg .nil (.var 4)) (.seq (.ite (.and (.cons (.cmp .isin (.tup (.cons (.var 11) (.cons (.var 12) .nil))) (.bor 7)) (.cons (.cmp .notin (.tup (.cons (.var 10) (.cons (.var 12) .nil))) (.bor 7)) .nil))) (.seq (.app 7 (.tup (.cons (.var 10) (.cons (.var 12) .nil)))) .skip) .skip) .skip)) .skip)) .skip)) (.seq (.ite (.cmp .ne (.bi .sorted (.cons (.bor 7) .nil)) (.var 2)) (.seq (.ret (.bl false)) .skip) .skip) (.seq (.asg (.nm 13) (.call "count_orders" (.cons (.var 1) .nil))) (.seq (.asg (.nm 14) (.call "order_at" (.cons (.var 1) (.cons (.call "_law_drawn" (.cons (.var 0) (.cons (.int 70) (.cons (.var 13) .nil)))) .nil)))) (.seq (.ite (.cmp .ne (.comp [("pair", 8)] (.nm 8) (.iter (.var 2)) (.cmp .gt (.index (.var 14) (.idx (.var 8) (.int 0))) (.index (.var 14) (.idx (.var 8) (.int 1)))) (.var 8)) (.lst .nil)) (.seq (.ret (.bl false)) .skip) .skip) (.seq (.for_ (.nm 15) (.rg .nil (.bin .sub (.var 4) (.int 1))) (.seq (.asg (.nm 8) (.tup (.cons (.idx (.var 14) (.var 15)) (.cons (.idx (.var 14) (.bin .add (.var 15) (.int 1))) .nil)))) (.seq (.ite (.or (.cons (.cmp .isin (.var 8) (.var 6)) (.cons (.cmp .ne (.cmp .notin (.var 8) (.var 2)) (.cmp .isin (.bi .tuple (.cons (.bi .sorted (.cons (.var 8) .nil)) .nil)) (.var 3))) .nil))) (.seq (.ret (.bl false)) .skip) .skip) .skip))) (.seq (.ret (.cmp .le (.var 13) (.bin .shl (.int 1) (.bi .len (.cons (.var 3) .nil))))) .skip))))))))))⟩
def d_law_k10 : Df := ⟨"law", 1, ["script", "page", "many", "known", "sure", "loose", "pair", "one", "middle", "other", "number", "told", "before", "behind"],
  (.seq (.asg (.nm 1) (.call "_law_page" (.cons (.var 0) (.cons (.int 10) (.cons (.int 8) .nil))))) (.seq (.asg (.tp [2, 3]) (.tup (.cons (.bi .len (.cons (.var 1) .nil)) (.cons (.call "pairs" (.cons (.var 1) .nil)) .nil)))) (.seq (.asg (.tp [4, 5]) (.tup (.cons (.call "sure_pairs" (.cons (.var 1) .nil)) (.cons (.call "open_pairs" (.cons (.var 1) .nil)) .nil)))) (.seq (.ite (.or (.cons (.cmp .ne (.bin .mul (.int 2) (.bin .add (.bi .len (.cons (.var 4) .nil)) (.bi .len (.cons (.var 5) .nil)))) (.bin .mul (.var 2) (.bin .sub (.var 2) (.int 1)))) (.cons (.cmp .ne (.call "is_sure" (.cons (.var 1) .nil)) (.cmp .eq (.var 5) (.lst .nil))) .nil))) (.seq (.ret (.bl false)) .skip) .skip) (.seq (.ite (.cmp .ne (.comp [("pair", 6)] (.nm 6) (.iter (.var 3)) (.cmp .notin (.var 6) (.var 4)) (.var 6)) (.lst .nil)) (.seq (.ret (.bl false)) .skip) .skip) (.seq (.ite (.cmp .ne (.comp [("pair", 6)] (.nm 6) (.iter (.var 4)) (.cmp .isin (.tup (.cons (.idx (.var 6) (.int 1)) (.cons (.idx (.var 6) (.int 0)) .nil))) (.var 4)) (.var 6)) (.lst .nil)) (.seq (.ret (.bl false)) .skip) .skip) (.seq (.for_ (.tp [7, 8]) (.iter (.var 4)) (.seq (.for_ (.nm 9) (.rg .nil (.var 2)) (.seq (.ite (.and (.cons (.cmp .isin (.tup (.cons (.var 8) (.cons (.var 9) .nil))) (.var 4)) (.cons (.cmp .notin (.tup (.cons (.var 7) (.cons (.var 9) .nil))) (.var 4)) .nil))) (.seq (.ret (.bl false)) .skip) .skip) .skip)) .skip)) (.seq (.for_ (.nm 10) (.rg .nil (.var 2)) (.seq (.asg (.nm 11) (.call "places" (.cons (.var 1) (.cons (.var 10) .nil)))) (.seq (.asg (.nm 12) (.bi .len (.cons (.comp [("pair", 6)] (.nm 6) (.iter (.var 4)) (.cmp .eq (.idx (.var 6) (.int 1)) (.var 10)) (.var 6)) .nil))) (.seq (.asg (.nm 13) (.bi .len (.cons (.comp [("pair", 6)] (.nm 6) (.iter (.var 4)) (.cmp .eq (.idx (.var 6) (.int 0)) (.var 10)) (.var 6)) .nil))) (.seq (.ite (.or (.cons (.cmp .ne (.var 11) (.lrg (.var 12) (.bin .sub (.var 2) (.var 13)))) (.cons (.cmp .ne (.cmp .isin (.int 0) (.var 11)) (.cmp .isin (.var 10) (.call "starts" (.cons (.var 1) .nil)))) .nil))) (.seq (.ret (.bl false)) .skip) .skip) (.seq (.ite (.cmp .notin (.index (.call "first_order" (.cons (.var 1) .nil)) (.var 10)) (.var 11)) (.seq (.ret (.bl false)) .skip) .skip) .skip)))))) (.seq (.ret (.call "_law_spare" (.cons (.var 0) (.cons (.var 1) (.cons (.var 4) (.cons (.var 5) .nil)))))) .skip)))))))))⟩
def d__law_still : Df := ⟨"_law_still", 2, ["script", "page", "number", "moves", "across", "down", "left", "top", "right", "bottom", "panel", "later"],
  (.seq (.ite (.cmp .ne (.var 1) (.tup .nil)) (.seq (.asg (.nm 2) (.call "_law_drawn" (.cons (.var 0) (.cons (.int 1) (.cons (.bi .len (.cons (.var 1) .nil)) .nil))))) (.seq (.asg (.nm 3) (.call "still_moves" (.cons (.var 1) (.cons (.var 2) .nil)))) (.seq (.ite (.or (.cons (.cmp .notin (.tup (.cons (.int 0) (.cons (.int 0) .nil))) (.var 3)) (.cons (.cmp .ne (.var 3) (.sset (.var 3))) .nil))) (.seq (.ret (.bl false)) .skip) .skip) (.seq (.asg (.tp [4, 5]) (.idx (.var 3) (.call "_law_drawn" (.cons (.var 0) (.cons (.int 2) (.cons (.bi .len (.cons (.var 3) .nil)) .nil)))))) (.seq (.asg (.tp [6, 7, 8, 9]) (.idx (.var 1) (.var 2))) (.seq (.asg (.nm 10) (.tup (.cons (.bin .add (.var 6) (.var 4)) (.cons (.bin .add (.var 7) (.var 5)) (.cons (.bin .add (.var 8) (.var 4)) (.cons (.bin .add (.var 9) (.var 5)) .nil)))))) (.seq (.asg (.nm 11) (.bin .add (.bin .add (.slc (.var 1) .nil (.var 2)) (.tup (.cons (.var 10) .nil))) (.slc (.var 1) (.bin .add (.var 2) (.int 1)) .nil))) (.seq (.ite (.or (.cons (.isB true (.call "is_page" (.cons (.var 11) .nil)) true) (.cons (.isB true (.call "are_alike" (.cons (.var 1) (.cons (.var 11) .nil))) true) .nil))) (.seq (.ret (.bl false)) .skip) .skip) (.seq (.ite (.cmp .ne (.call "sure_pairs" (.cons (.var 11) .nil)) (.call "sure_pairs" (.cons (.var 1) .nil))) (.seq (.ret (.bl false)) .skip) .skip) (.seq (.ite (.cmp .notin (.tup (.cons (.bin .sub (.int 0) (.var 4)) (.cons (.bin .sub (.int 0) (.var 5)) .nil))) (.call "still_moves" (.cons (.var 11) (.cons (.var 2) .nil)))) (.seq (.ret (.bl false)) .skip) .skip) (.seq (.ite (.cmp .ne (.bi .len (.cons (.call "still_moves" (.cons (.var 11) (.cons (.var 2) .nil))) .nil)) (.bi .len (.cons (.var 3) .nil))) (.seq (.ret (.bl false)) .skip) .skip) .skip))))))))))) .skip) (.seq (.ret (.cmp .eq (.bi .len (.cons (.call "still_moves" (.cons (.tup (.cons (.tup (.cons (.int 0) (.cons (.int 0) (.cons (.int 19) (.cons (.int 18) .nil))))) .nil)) (.cons (.int 0) .nil))) .nil)) (.int 6))) .skip))⟩
def d_law_k23 : Df := ⟨"law", 1, ["script", "page", "moved", "left", "top", "right", "bottom", "told", "other", "one", "two"],
  (.seq (.asg (.nm 1) (.call "_law_page" (.cons (.var 0) (.cons (.int 10) (.cons (.int 6) .nil))))) (.seq (.ite (.or (.cons (.isB true (.call "are_alike" (.cons (.var 1) (.cons (.var 1) .nil))) true) (.cons (.cmp .ne (.call "mirrored" (.cons (.call "mirrored" (.cons (.var 1) .nil)) .nil)) (.var 1)) .nil))) (.seq (.ret (.bl false)) .skip) .skip) (.seq (.ite (.isB true (.call "is_page" (.cons (.call "mirrored" (.cons (.var 1) .nil)) .nil)) true) (.seq (.ret (.bl false)) .skip) .skip) (.seq (.asg (.nm 2) (.bi .tuple (.cons (.comp [("left", 3), ("top", 4), ("right", 5), ("bottom", 6)] (.tp [3, 4, 5, 6]) (.iter (.var 1)) .yes (.tup (.cons (.bin .add (.var 3) (.int 8)) (.cons (.bin .add (.var 4) (.int 7)) (.cons (.bin .add (.var 5) (.int 8)) (.cons (.bin .add (.var 6) (.int 7)) .nil)))))) .nil))) (.seq (.ite (.or (.cons (.isB true (.call "are_alike" (.cons (.var 1) (.cons (.var 2) .nil))) true) (.cons (.cmp .ne (.call "count_orders" (.cons (.var 2) .nil)) (.call "count_orders" (.cons (.var 1) .nil))) .nil))) (.seq (.ret (.bl false)) .skip) .skip) (.seq (.ite (.cmp .ne (.call "first_order" (.cons (.var 2) .nil)) (.call "first_order" (.cons (.var 1) .nil))) (.seq (.ret (.bl false)) .skip) .skip) (.seq (.asg (.tp [7, 8]) (.tup (.cons (.call "turned_pairs" (.cons (.var 1) .nil)) (.cons (.call "mirrored" (.cons (.var 1) .nil)) .nil)))) (.seq (.for_ (.tp [9, 10]) (.iter (.var 7)) (.seq (.asg (.tp [3, 5]) (.tup (.cons (.idx (.var 1) (.var 9)) (.cons (.idx (.var 1) (.var 10)) .nil)))) (.seq (.ite (.not (.and (.cons (.cmp .le (.idx (.var 3) (.int 2)) (.idx (.var 5) (.int 0))) (.cons (.cmp .lt (.idx (.var 3) (.int 1)) (.idx (.var 5) (.int 3))) (.cons (.cmp .lt (.idx (.var 5) (.int 1)) (.idx (.var 3) (.int 3))) .nil))))) (.seq (.ret (.bl false)) .skip) .skip) .skip))) (.seq (.for_ (.tp [9, 10]) (.iter (.call "pairs" (.cons (.var 1) .nil))) (.seq (.ite (.cmp .eq (.cmp .isin (.tup (.cons (.var 9) (.cons (.var 10) .nil))) (.var 7)) (.cmp .isin (.tup (.cons (.var 9) (.cons (.var 10) .nil))) (.call "pairs" (.cons (.var 8) .nil)))) (.seq (.ret (.bl false)) .skip) .skip) .skip)) (.seq (.ite (.cmp .ne (.cmp .eq (.var 7) (.lst .nil)) (.call "are_alike" (.cons (.var 1) (.cons (.var 8) .nil)))) (.seq (.ret (.bl false)) .skip) .skip) (.seq (.ite (.cmp .ne (.cmp .eq (.var 7) (.lst .nil)) (.call "can_read" (.cons (.var 8) (.cons (.call "first_order" (.cons (.var 1) .nil)) .nil)))) (.seq (.ret (.bl false)) .skip) .skip) (.seq (.ite (.cmp .ne (.bi .sorted (.cons (.comp [("one", 9), ("two", 10)] (.tp [9, 10]) (.iter (.var 7)) .yes (.tup (.cons (.var 10) (.cons (.var 9) .nil)))) .nil)) (.call "turned_pairs" (.cons (.var 8) .nil))) (.seq (.ret (.bl false)) .skip) .skip) (.seq (.ite (.cmp .ne (.bi .len (.cons (.call "pairs" (.cons (.var 8) .nil)) .nil)) (.bi .len (.cons (.call "pairs" (.cons (.var 1) .nil)) .nil))) (.seq (.ret (.bl false)) .skip) .skip) (.seq (.ret (.call "_law_still" (.cons (.var 0) (.cons (.slc (.var 1) .nil (.int 3)) .nil)))) .skip))))))))))))))⟩
def d_good_orders : Df := ⟨"good_orders", 1, ["page", "found", "turn", "order", "number"],
  (.seq (.expr (.call "check_page" (.cons (.var 0) .nil))) (.seq (.ite (.cmp .gt (.bi .len (.cons (.var 0) .nil)) (.glob "MAX_TRIED" (.inl 6))) (.seq (.raise "TooLarge" 7) .skip) .skip) (.seq (.asg (.nm 1) (.lst (.cons (.tup .nil) .nil))) (.seq (.for_ (.nm 2) (.rg .nil (.bi .len (.cons (.var 0) .nil))) (.seq (.asg (.nm 1) (.comp2 [("order", 3), ("number", 4)] (.nm 3) (.iter (.var 1)) .yes (.nm 4) (.rg .nil (.bi .len (.cons (.var 0) .nil))) (.cmp .notin (.var 4) (.var 3)) (.bin .add (.var 3) (.tup (.cons (.var 4) .nil))))) .skip)) (.seq (.ret (.comp [("order", 3)] (.nm 3) (.iter (.var 1)) (.call "is_good" (.cons (.var 0) (.cons (.var 3) .nil))) (.var 3))) .skip)))))⟩
def d_is_good : Df := ⟨"is_good", 2, ["page", "order", "place", "number", "earlier"],
  (.seq (.for_ (.tp [2, 3]) (.enum (.var 1)) (.seq (.ite (.bi .any (.cons (.comp [("earlier", 4)] (.nm 4) (.iter (.slc (.var 1) .nil (.var 2))) .yes (.call "goes_before" (.cons (.var 0) (.cons (.var 3) (.cons (.var 4) .nil))))) .nil)) (.seq (.ret (.bl false)) .skip) .skip) .skip)) (.seq (.ret (.bl true)) .skip))⟩
def d_naive_count : Df := ⟨"naive_count", 1, ["page"],
  (.seq (.ret (.bi .len (.cons (.call "good_orders" (.cons (.var 0) .nil)) .nil))) .skip)⟩
def d_naive_sure : Df := ⟨"naive_sure", 1, ["page", "found", "known", "one", "other", "order"],
  (.seq (.own2 true 2 1 (.call "good_orders" (.cons (.var 0) .nil))) (.seq (.for_ (.nm 3) (.rg .nil (.bi .len (.cons (.var 0) .nil))) (.seq (.for_ (.nm 4) (.rg .nil (.bi .len (.cons (.var 0) .nil))) (.seq (.ite (.and (.cons (.cmp .ne (.var 3) (.var 4)) (.cons (.bi .all (.cons (.comp [("order", 5)] (.nm 5) (.iter (.var 2)) .yes (.cmp .lt (.index (.var 5) (.var 3)) (.index (.var 5) (.var 4)))) .nil)) .nil))) (.seq (.app 1 (.tup (.cons (.var 3) (.cons (.var 4) .nil)))) .skip) .skip) .skip)) .skip)) (.seq (.frz 1) (.seq (.ret (.var 1)) .skip))))⟩
def d__law_pick : Df := ⟨"_law_pick", 3, ["script", "k", "many", "cell", "rest", "again", "drawn"],
  (.seq (.asg (.nm 3) (.ite (.cmp .ne (.var 0) (.lst .nil)) (.idx (.var 0) (.bin .mod (.var 1) (.bi .len (.cons (.var 0) .nil)))) (.int 0))) (.seq (.asg (.tp [4, 5]) (.tup (.cons (.bin .fdiv (.var 3) (.bin .pow (.int 10) (.int 18))) (.cons (.bin .fdiv (.var 1) (.bi .max2 (.cons (.bi .len (.cons (.var 0) .nil)) (.cons (.int 1) .nil)))) .nil)))) (.seq (.while_ 128 (.and (.cons (.cmp .gt (.var 4) (.int 0)) (.cons (.cmp .gt (.var 5) (.int 0)) .nil))) (.seq (.asg (.tp [4, 5]) (.tup (.cons (.bin .fdiv (.var 4) (.int 840)) (.cons (.bin .sub (.var 5) (.int 1)) .nil)))) .skip)) (.seq (.ite (.cmp .gt (.var 4) (.int 0)) (.seq (.ret (.bin .mod (.bin .mod (.var 4) (.int 840)) (.var 2))) .skip) .skip) (.seq (.asg (.nm 6) (.bin .mod (.bin .mul (.bin .add (.bin .mul (.var 3) (.int 31)) (.bin .mul (.int 6151) (.bin .add (.var 1) (.int 1)))) (.int 40692)) (.int 2147483399))) (.seq (.ret (.bin .mod (.bin .mod (.bin .add (.bin .mul (.var 6) (.var 6)) (.bin .fdiv (.var 6) (.int 31))) (.int 2147483629)) (.var 2))) .skip))))))⟩
def d__law_sheet : Df := ⟨"_law_sheet", 3, ["script", "at", "most", "kind", "grid", "y", "x", "wheel", "rows", "k", "index", "left", "top", "right", "bottom", "parts", "cut", "first"],
  (.seq (.asg (.nm 3) (.call "_law_pick" (.cons (.var 0) (.cons (.var 1) (.cons (.int 9) .nil))))) (.seq (.ite (.cmp .isin (.var 3) (.tup (.cons (.int 1) (.cons (.int 2) (.cons (.int 3) .nil))))) (.seq (.own 4 (.lst .nil)) (.seq (.for_ (.nm 5) (.rg .nil (.bin .add (.int 2) (.call "_law_pick" (.cons (.var 0) (.cons (.bin .add (.var 1) (.int 26)) (.cons (.int 2) .nil)))))) (.seq (.ext 4 (.comp [("x", 6)] (.nm 6) (.rg .nil (.bin .add (.int 2) (.cmp .eq (.var 3) (.int 3)))) .yes (.tup (.cons (.bin .mul (.int 2) (.var 6)) (.cons (.bin .mul (.int 2) (.var 5)) (.cons (.bin .add (.bin .mul (.int 2) (.var 6)) (.int 2)) (.cons (.bin .add (.bin .mul (.int 2) (.var 5)) (.int 2)) .nil))))))) .skip)) (.seq (.own 4 (.slc (.bor 4) (.call "_law_pick" (.cons (.var 0) (.cons (.bin .add (.var 1) (.int 27)) (.cons (.int 2) .nil)))) .nil)) (.seq (.ret (.bi .tuple (.cons (.slc (.bor 4) .nil (.var 2)) .nil))) .skip)))) .skip) (.seq (.ite (.cmp .eq (.var 3) (.int 0)) (.seq (.asg (.nm 7) (.tup (.cons (.tup (.cons (.int 0) (.cons (.int 0) (.cons (.int 2) (.cons (.int 1) .nil))))) (.cons (.tup (.cons (.int 2) (.cons (.int 0) (.cons (.int 3) (.cons (.int 2) .nil))))) (.cons (.tup (.cons (.int 1) (.cons (.int 2) (.cons (.int 3) (.cons (.int 3) .nil))))) (.cons (.tup (.cons (.int 0) (.cons (.int 1) (.cons (.int 1) (.cons (.int 3) .nil))))) (.cons (.tup (.cons (.int 1) (.cons (.int 1) (.cons (.int 2) (.cons (.int 2) .nil))))) .nil))))))) (.seq (.ret (.slc (.var 7) .nil (.var 2))) .skip)) .skip) (.seq (.asg (.nm 8) (.lst (.cons (.tup (.cons (.int 0) (.cons (.int 0) (.cons (.int 4) (.cons (.int 4) .nil))))) .nil))) (.seq (.for_ (.nm 9) (.rg .nil (.call "_law_pick" (.cons (.var 0) (.cons (.bin .add (.var 1) (.int 1)) (.cons (.var 2) .nil))))) (.seq (.asg (.nm 10) (.call "_law_pick" (.cons (.var 0) (.cons (.bin .add (.bin .add (.var 1) (.int 2)) (.bin .mul (.int 3) (.var 9))) (.cons (.bi .len (.cons (.var 8) .nil)) .nil))))) (.seq (.asg (.tp [11, 12, 13, 14]) (.idx (.var 8) (.var 10))) (.seq (.asg (.nm 15) (.lst (.cons (.idx (.var 8) (.var 10)) .nil))) (.seq (.ite (.and (.cons (.cmp .eq (.call "_law_pick" (.cons (.var 0) (.cons (.bin .add (.bin .add (.var 1) (.int 3)) (.bin .mul (.int 3) (.var 9))) (.cons (.int 2) .nil)))) (.int 0)) (.cons (.cmp .gt (.bin .sub (.var 13) (.var 11)) (.int 1)) .nil))) (.seq (.asg (.nm 16) (.bin .add (.bin .add (.var 11) (.int 1)) (.call "_law_pick" (.cons (.var 0) (.cons (.bin .add (.bin .add (.var 1) (.int 4)) (.bin .mul (.int 3) (.var 9))) (.cons (.bin .sub (.bin .sub (.var 13) (.var 11)) (.int 1)) .nil)))))) (.seq (.asg (.nm 15) (.lst (.cons (.tup (.cons (.var 11) (.cons (.var 12) (.cons (.var 16) (.cons (.var 14) .nil))))) (.cons (.tup (.cons (.var 16) (.cons (.var 12) (.cons (.var 13) (.cons (.var 14) .nil))))) .nil)))) .skip)) (.seq (.ite (.cmp .gt (.bin .sub (.var 14) (.var 12)) (.int 1)) (.seq (.asg (.nm 16) (.bin .add (.bin .add (.var 12) (.int 1)) (.call "_law_pick" (.cons (.var 0) (.cons (.bin .add (.bin .add (.var 1) (.int 4)) (.bin .mul (.int 3) (.var 9))) (.cons (.bin .sub (.bin .sub (.var 14) (.var 12)) (.int 1)) .nil)))))) (.seq (.asg (.nm 15) (.lst (.cons (.tup (.cons (.var 11) (.cons (.var 12) (.cons (.var 13) (.cons (.var 16) .nil))))) (.cons (.tup (.cons (.var 11) (.cons (.var 16) (.cons (.var 13) (.cons (.var 14) .nil))))) .nil)))) .skip)) .skip) .skip)) (.seq (.asg (.nm 8) (.bin .add (.bin .add (.slc (.var 8) .nil (.var 10)) (.var 15)) (.slc (.var 8) (.bin .add (.var 10) (.int 1)) .nil))) .skip)))))) (.seq (.asg (.nm 17) (.call "_law_pick" (.cons (.var 0) (.cons (.bin .add (.var 1) (.int 24)) (.cons (.bi .len (.cons (.var 8) .nil)) .nil))))) (.seq (.asg (.nm 8) (.bin .add (.slc (.var 8) (.var 17) .nil) (.slc (.var 8) .nil (.var 17)))) (.seq (.ret (.bi .tuple (.cons (.slc (.var 8) .nil (.bin .sub (.bi .len (.cons (.var 8) .nil)) (.call "_law_pick" (.cons (.var 0) (.cons (.bin .add (.var 1) (.int 25)) (.cons (.int 2) .nil)))))) .nil))) .skip))))))))⟩
def d__law_before : Df := ⟨"_law_before", 2, ["one", "other"],
  (.seq (.ite (.and (.cons (.cmp .lt (.idx (.var 0) (.int 1)) (.idx (.var 1) (.int 3))) (.cons (.cmp .lt (.idx (.var 1) (.int 1)) (.idx (.var 0) (.int 3))) .nil))) (.seq (.ret (.cmp .le (.idx (.var 0) (.int 2)) (.idx (.var 1) (.int 0)))) .skip) .skip) (.seq (.ret (.and (.cons (.cmp .le (.idx (.var 0) (.int 3)) (.idx (.var 1) (.int 1))) (.cons (.cmp .lt (.idx (.var 0) (.int 0)) (.idx (.var 1) (.int 2))) (.cons (.cmp .lt (.idx (.var 1) (.int 0)) (.idx (.var 0) (.int 2))) .nil))))) .skip))⟩
def d__law_reads : Df := ⟨"_law_reads", 1, ["page", "found", "k", "longer", "order", "left", "number", "other"],
  (.seq (.asg (.nm 1) (.lst (.cons (.tup .nil) .nil))) (.seq (.for_ (.nm 2) (.rg .nil (.bi .len (.cons (.var 0) .nil))) (.seq (.own 3 (.lst .nil)) (.seq (.for_ (.nm 4) (.iter (.var 1)) (.seq (.asg (.nm 5) (.comp [("number", 6)] (.nm 6) (.rg .nil (.bi .len (.cons (.var 0) .nil))) (.cmp .notin (.var 6) (.var 4)) (.var 6))) (.seq (.for_ (.nm 6) (.iter (.var 5)) (.seq (.ite (.not (.bi .any (.cons (.comp [("other", 7)] (.nm 7) (.iter (.var 5)) .yes (.call "_law_before" (.cons (.idx (.var 0) (.var 7)) (.cons (.idx (.var 0) (.var 6)) .nil)))) .nil))) (.seq (.app 3 (.bin .add (.var 4) (.tup (.cons (.var 6) .nil)))) .skip) .skip) .skip)) .skip))) (.seq (.frz 3) (.seq (.asg (.nm 1) (.var 3)) .skip))))) (.seq (.ret (.var 1)) .skip)))⟩
def d_law_k67 : Df := ⟨"law", 1, ["script", "i", "page", "every", "due", "one", "other", "marks", "order", "direct"],
  (.seq (.for_ (.nm 1) (.rg .nil (.int 3)) (.seq (.asg (.nm 2) (.call "_law_sheet" (.cons (.var 0) (.cons (.bin .mul (.int 40) (.var 1)) (.cons (.int 6) .nil))))) (.seq (.asg (.nm 3) (.call "_law_reads" (.cons (.var 2) .nil))) (.seq (.ite (.or (.cons (.cmp .ne (.call "naive_count" (.cons (.var 2) .nil)) (.bi .len (.cons (.var 3) .nil))) (.cons (.cmp .ne (.call "count_orders" (.cons (.var 2) .nil)) (.bi .len (.cons (.var 3) .nil))) (.cons (.cmp .ne (.call "first_order" (.cons (.var 2) .nil)) (.idx (.var 3) (.int 0))) .nil)))) (.seq (.ret (.bl false)) .skip) .skip) (.seq (.own 4 (.lst .nil)) (.seq (.for_ (.nm 5) (.rg .nil (.bi .len (.cons (.var 2) .nil))) (.seq (.for_ (.nm 6) (.rg .nil (.bi .len (.cons (.var 2) .nil))) (.seq (.asg (.nm 7) (.comp [("order", 8)] (.nm 8) (.iter (.var 3)) .yes (.cmp .lt (.index (.var 8) (.var 5)) (.index (.var 8) (.var 6))))) (.seq (.ite (.and (.cons (.cmp .ne (.var 5) (.var 6)) (.cons (.bi .all (.cons (.var 7) .nil)) .nil))) (.seq (.app 4 (.tup (.cons (.var 5) (.cons (.var 6) .nil)))) .skip) .skip) .skip))) .skip)) (.seq (.ite (.or (.cons (.cmp .ne (.call "naive_sure" (.cons (.var 2) .nil)) (.bor 4)) (.cons (.cmp .ne (.call "sure_pairs" (.cons (.var 2) .nil)) (.bor 4)) (.cons (.cmp .ne (.call "is_sure" (.cons (.var 2) .nil)) (.cmp .eq (.bi .len (.cons (.var 3) .nil)) (.int 1))) .nil)))) (.seq (.ret (.bl false)) .skip) .skip) (.seq (.own 9 (.lst .nil)) (.seq (.for_ (.nm 5) (.rg .nil (.bi .len (.cons (.var 2) .nil))) (.seq (.ext 9 (.comp [("other", 6)] (.nm 6) (.rg .nil (.bi .len (.cons (.var 2) .nil))) (.call "_law_before" (.cons (.idx (.var 2) (.var 5)) (.cons (.idx (.var 2) (.var 6)) .nil))) (.tup (.cons (.var 5) (.cons (.var 6) .nil))))) .skip)) (.seq (.ite (.cmp .ne (.call "pairs" (.cons (.var 2) .nil)) (.bor 9)) (.seq (.ret (.bl false)) .skip) .skip) .skip)))))))))) (.seq (.ret (.and (.cons (.cmp .eq (.call "naive_count" (.cons (.tup (.cons (.tup (.cons (.int 0) (.cons (.int 0) (.cons (.int 2) (.cons (.int 2) .nil))))) (.cons (.tup (.cons (.int 2) (.cons (.int 0) (.cons (.int 4) (.cons (.int 2) .nil))))) (.cons (.tup (.cons (.int 0) (.cons (.int 2) (.cons (.int 2) (.cons (.int 4) .nil))))) (.cons (.tup (.cons (.int 2) (.cons (.int 2) (.cons (.int 4) (.cons (.int 4) .nil))))) .nil))))) .nil)) (.int 2)) (.cons (.cmp .eq (.call "naive_sure" (.cons (.tup .nil) .nil)) (.lst .nil)) .nil)))) .skip))⟩
end Pi

set_option Elab.async false
set_option linter.all false
set_option maxRecDepth 100000
set_option maxHeartbeats 4000000
namespace Pi
open PySem PySem.Spec PyProof.Rows L2
def d__law_stuck : Df := ⟨"_law_stuck", 1, ["page", "stuck", "small", "number"],
  (.seq (.asg (.nm 1) (.call "stuck_part" (.cons (.var 0) .nil))) (.seq (.ite (.isN true (.var 1)) (.seq (.ite (.or (.cons (.cmp .lt (.bi .len (.cons (.var 1) .nil)) (.int 4)) (.cons (.cmp .ne (.call "row_parts" (.cons (.var 0) (.cons (.var 1) .nil))) (.lst (.cons (.var 1) .nil))) .nil))) (.seq (.ret (.bl false)) .skip) .skip) (.seq (.ite (.cmp .ne (.call "column_parts" (.cons (.var 0) (.cons (.var 1) .nil))) (.lst (.cons (.var 1) .nil))) (.seq (.ret (.bl false)) .skip) .skip) (.seq (.asg (.nm 2) (.bi .tuple (.cons (.comp [("number", 3)] (.nm 3) (.iter (.var 1)) .yes (.idx (.var 0) (.var 3))) .nil))) (.seq (.ite (.or (.cons (.call "is_cuttable" (.cons (.var 2) .nil)) (.cons (.cmp .ne (.call "stuck_part" (.cons (.var 2) .nil)) (.trg .nil (.bi .len (.cons (.var 2) .nil)))) .nil))) (.seq (.ret (.bl false)) .skip) .skip) .skip)))) .skip) (.seq (.ret (.or (.cons (.cmp .gt (.bi .len (.cons (.var 0) .nil)) (.int 3)) (.cons (.isB false (.call "is_cuttable" (.cons (.var 0) .nil)) true) .nil)))) .skip)))⟩
def d_law_k15 : Df := ⟨"law", 1, ["script", "page", "whole", "rows", "columns", "turned", "left", "top", "right", "bottom", "way", "parts", "held", "part", "one", "other", "a", "b", "turned_parts"],
  (.seq (.asg (.nm 1) (.call "_law_page" (.cons (.var 0) (.cons (.int 10) (.cons (.int 8) .nil))))) (.seq (.asg (.nm 2) (.trg .nil (.bi .len (.cons (.var 1) .nil)))) (.seq (.asg (.tp [3, 4]) (.tup (.cons (.call "by_rows" (.cons (.var 1) .nil)) (.cons (.call "by_columns" (.cons (.var 1) .nil)) .nil)))) (.seq (.ite (.or (.cons (.cmp .ne (.isN false (.var 3)) (.not (.call "is_cuttable" (.cons (.var 1) .nil)))) (.cons (.cmp .ne (.isN false (.var 3)) (.isN false (.var 4))) .nil))) (.seq (.ret (.bl false)) .skip) .skip) (.seq (.ite (.cmp .ne (.isN false (.var 3)) (.isN true (.call "stuck_part" (.cons (.var 1) .nil)))) (.seq (.ret (.bl false)) .skip) .skip) (.seq (.ite (.and (.cons (.isN true (.var 3)) (.cons (.isB true (.call "can_read" (.cons (.var 1) (.cons (.var 3) .nil))) true) .nil))) (.seq (.ret (.bl false)) .skip) .skip) (.seq (.ite (.and (.cons (.isN true (.var 3)) (.cons (.isB true (.call "can_read" (.cons (.var 1) (.cons (.var 4) .nil))) true) .nil))) (.seq (.ret (.bl false)) .skip) .skip) (.seq (.ite (.and (.cons (.isN true (.var 3)) (.cons (.call "is_sure" (.cons (.var 1) .nil)) (.cons (.or (.cons (.cmp .ne (.var 3) (.call "first_order" (.cons (.var 1) .nil))) (.cons (.cmp .ne (.var 4) (.var 3)) .nil))) .nil)))) (.seq (.ret (.bl false)) .skip) .skip) (.seq (.asg (.nm 5) (.bi .tuple (.cons (.comp [("left", 6), ("top", 7), ("right", 8), ("bottom", 9)] (.tp [6, 7, 8, 9]) (.iter (.var 1)) .yes (.tup (.cons (.var 7) (.cons (.var 6) (.cons (.var 9) (.cons (.var 8) .nil)))))) .nil))) (.seq (.ite (.or (.cons (.cmp .ne (.call "by_rows" (.cons (.var 5) .nil)) (.var 4)) (.cons (.cmp .ne (.call "by_columns" (.cons (.var 5) .nil)) (.var 3)) .nil))) (.seq (.ret (.bl false)) .skip) .skip) (.seq (.ite (.cmp .ne (.var 2) (.tup .nil)) (.seq (.for_ (.nm 10) (.iter (.tup (.cons (.fnm "row_parts") (.cons (.fnm "column_parts") .nil)))) (.seq (.asg (.nm 11) (.callv 10 ["row_parts", "column_parts"] (.cons (.var 1) (.cons (.var 2) .nil)))) (.seq (.asg (.nm 12) (.lst .nil)) (.seq (.for_ (.nm 13) (.iter (.var 11)) (.seq (.asg (.nm 12) (.bin .add (.var 12) (.bi .list (.cons (.var 13) .nil)))) (.seq (.ite (.or (.cons (.cmp .eq (.var 13) (.tup .nil)) (.cons (.cmp .ne (.callv 10 ["row_parts", "column_parts"] (.cons (.var 1) (.cons (.var 13) .nil))) (.lst (.cons (.var 13) .nil))) .nil))) (.seq (.ret (.bl false)) .skip) .skip) .skip))) (.seq (.ite (.cmp .ne (.bi .sorted (.cons (.var 12) .nil)) (.bi .list (.cons (.var 2) .nil))) (.seq (.ret (.bl false)) .skip) .skip) (.seq (.for_ (.tp [14, 15]) (.zip (.var 11) (.slc (.var 11) (.int 1) .nil)) (.seq (.ite (.cmp .ne (.comp [("a", 16)] (.nm 16) (.iter (.var 15)) (.cmp .ne (.comp [("b", 17)] (.nm 17) (.iter (.var 14)) (.call "is_before" (.cons (.var 1) (.cons (.var 16) (.cons (.var 17) .nil)))) (.var 17)) (.lst .nil)) (.var 16)) (.lst .nil)) (.seq (.ret (.bl false)) .skip) .skip) .skip)) .skip)))))) (.seq (.asg (.nm 18) (.call "column_parts" (.cons (.var 5) (.cons (.var 2) .nil)))) (.seq (.ite (.cmp .ne (.var 18) (.call "row_parts" (.cons (.var 1) (.cons (.var 2) .nil)))) (.seq (.ret (.bl false)) .skip) .skip) .skip))) .skip) (.seq (.ret (.call "_law_stuck" (.cons (.var 1) .nil))) .skip))))))))))))⟩
end Pi

set_option Elab.async false
set_option linter.all false
set_option maxRecDepth 100000
set_option maxHeartbeats 4000000
/-! M0: running the small language by hand; data of Lean types. -/
namespace Pi
open PySem PySem.Spec PyProof.Rows L2
section
variable (T : Str → List D → R D)
@[simp] theorem exS_nm (i : Nat) (e : E) (ρ : En) : exS T (.asg (.nm i) e) ρ = (do let d ← ev T e ρ; .ok (.nx, ρ.set i (.val d))) := rfl
@[simp] theorem exS_tp (is : List Nat) (e : E) (ρ : En) : exS T (.asg (.tp is) e) ρ = (do let d ← ev T e ρ; storeT (setT (.tp is) d ρ)) := rfl
@[simp] theorem exS_own (i : Nat) (e : E) (ρ : En) : exS T (.own i e) ρ = (do let d ← ev T e ρ; ownR i ρ d) := rfl
@[simp] theorem exS_expr (e : E) (ρ : En) : exS T (.expr e) ρ = (do let _ ← ev T e ρ; .ok (.nx, ρ)) := rfl
@[simp] theorem exS_ret (e : E) (ρ : En) : exS T (.ret e) ρ = (do let d ← ev T e ρ; .ok (.rt d, ρ)) := rfl
@[simp] theorem exS_retN (ρ : En) : exS T .retN ρ = .ok (.rt .none, ρ) := rfl
@[simp] theorem exS_ite (c : E) (a b : S) (ρ : En) : exS T (.ite c a b) ρ = (do let x ← ev T c ρ; match x with | .bool true => exS T a ρ | .bool false => exS T b ρ | _ => .bad) := rfl
@[simp] theorem exS_for (t : Tg) (it : E) (b : S) (ρ : En) : exS T (.for_ t it b) ρ = (do let ds ← evI T it ρ; forGo (fun d ρ => bodyT (setT t d ρ) (exS T b)) ds ρ) := rfl
theorem exS_while (n : Nat) (c : E) (b : S) (ρ : En) : exS T (.while_ n c b) ρ = whileGo (ev T c) (exS T b) n ρ := rfl
@[simp] theorem exS_raise (x : Str) (c : Nat) (ρ : En) : exS T (.raise x c) ρ = .exc c := rfl
theorem exS_brk (ρ : En) : exS T .brk ρ = .ok (.bk, ρ) := rfl
theorem exS_pass (ρ : En) : exS T .pass ρ = .ok (.nx, ρ) := rfl
theorem exS_app (i : Nat) (e : E) (ρ : En) : exS T (.app i e) ρ = (if ownB ρ i then do let d ← ev T e ρ; appR i ρ d else .bad) := rfl
theorem exS_ext (i : Nat) (e : E) (ρ : En) : exS T (.ext i e) ρ = (if ownB ρ i then do let d ← ev T e ρ; extR i ρ d else .bad) := rfl
theorem exS_frz (i : Nat) (ρ : En) : exS T (.frz i) ρ = frzR i ρ := rfl
theorem exS_mov (j i : Nat) (ρ : En) : exS T (.mov j i) ρ = movR j i ρ := rfl
@[simp] theorem exS_own2 (f : Bool) (i j : Nat) (e : E) (ρ : En) : exS T (.own2 f i j e) ρ = (do let d ← ev T e ρ; .ok (.nx, (ρ.set j (.own [])).set i (.val d))) := rfl
theorem exS_try (b : S) (i : Nat) (cs : List Nat) (ρ : En) : exS T (.tryE b i cs) ρ = tryR cs ρ (exS T b ρ) := rfl
@[simp] theorem exS_skip (ρ : En) : exS T .skip ρ = .ok (.nx, ρ) := rfl
@[simp] theorem exS_seq (a b : S) (ρ : En) : exS T (.seq a b) ρ = thenS (exS T a ρ) (exS T b) := rfl
end
theorem Tb_run {ds : List Df} {k : Nat} {f : Str} {d : Df} {xs : List D} (h : findD ds f = some d) (hl : xs.length = d.ar) : Tb ds (k + 1) f xs = runD (Tb ds k) d.N.length d.ir xs := by
  show (match findD ds f with | some d => if xs.length = d.ar then runD (Tb ds k) d.N.length d.ir xs else R.bad | none => .bad) = _
  rw [h]
  exact if_pos hl
/-- what a body's end is -/
def outR : R (Fl × En) → R D
  | .ok (.rt d, _) => .ok d
  | .ok (.nx, _) => .ok .none
  | .ok (.bk, _) => .bad
  | .exc c => .exc c
  | .bad => .bad
theorem runD_eq (T : Str → List D → R D) (n : Nat) (b : S) (ds : List D) : runD T n b ds = outR (exS T b (ds.map Sl.val ++ List.replicate (n - ds.length) Sl.no)) := by
  unfold runD outR
  rfl
@[simp] theorem outR_rt (d : D) (ρ : En) : outR (.ok (.rt d, ρ)) = .ok d := rfl
@[simp] theorem outR_nx (ρ : En) : outR (.ok (.nx, ρ)) = .ok .none := rfl
@[simp] theorem outR_exc (c : Nat) : outR (.exc c) = .exc c := rfl
/-! ### operations at given kinds -/
@[simp] theorem bi_len (d : D) : biD .len [d] = lenD d := rfl
@[simp] theorem bi_all (ds : List D) : biD .all [.list ds] = match asBools ds with | some bs => .ok (.bool (bs.all id)) | none => .bad := rfl
@[simp] theorem bi_any (ds : List D) : biD .any [.list ds] = match asBools ds with | some bs => .ok (.bool (bs.any id)) | none => .bad := rfl
@[simp] theorem bi_listL (ds : List D) : biD .list [.list ds] = .ok (.list ds) := rfl
@[simp] theorem bi_listT (ds : List D) : biD .list [.tuple ds] = .ok (.list ds) := rfl
@[simp] theorem bi_tupL (ds : List D) : biD .tuple [.list ds] = .ok (.tuple ds) := rfl
@[simp] theorem bi_tupT (ds : List D) : biD .tuple [.tuple ds] = .ok (.tuple ds) := rfl
theorem bi_max1 (n : Int) (ns : List Int) : biD .max1 [.list (.int n :: ns.map .int)] = .ok (.int (maxI (n :: ns))) := by
  have : asInts (.int n :: ns.map PyData.int) = some (n :: ns) := asInts_map (n :: ns)
  simp [biD, this]
@[simp] theorem ln_list (ds : List D) : lenD (.list ds) = .ok (.int ds.length) := rfl
@[simp] theorem ln_tup (ds : List D) : lenD (.tuple ds) = .ok (.int ds.length) := rfl
@[simp] theorem ln_scr (ns : List Int) : lenD (scr ns) = .ok (.int ns.length) := by simp [scr, lenD, isScr_map]
@[simp] theorem cm_lt (a b : Int) : cmpD .lt (.int a) (.int b) = .ok (.bool (decide (a < b))) := rfl
@[simp] theorem cm_le (a b : Int) : cmpD .le (.int a) (.int b) = .ok (.bool (decide (a ≤ b))) := rfl
@[simp] theorem cm_gt (a b : Int) : cmpD .gt (.int a) (.int b) = .ok (.bool (decide (b < a))) := rfl
@[simp] theorem cm_ge (a b : Int) : cmpD .ge (.int a) (.int b) = .ok (.bool (decide (b ≤ a))) := rfl
@[simp] theorem eqD_int (a b : Int) : eqD (.int a) (.int b) = .ok (decide (a = b)) := by
  unfold eqD
  have : (SeqAt.shaped (unscr (.int a)) && SeqAt.shaped (unscr (.int b))) = true := rfl
  rw [if_pos this]
  congr 1
@[simp] theorem cm_eq (x y : D) : cmpD .eq x y = boolR (eqD x y) := rfl
@[simp] theorem cm_ne (x y : D) : cmpD .ne x y = boolR (match eqD x y with | .ok b => .ok (!b) | r => r) := rfl
@[simp] theorem cm_in (x y : D) : cmpD .isin x y = boolR (inD x y) := rfl
@[simp] theorem cm_nin (x y : D) : cmpD .notin x y = boolR (match inD x y with | .ok b => .ok (!b) | r => r) := rfl
@[simp] theorem bo_add (x y : D) : binD .add x y = addD x y := rfl
@[simp] theorem bo_mul (x y : D) : binD .mul x y = mulD x y := rfl
@[simp] theorem bo_sub (a b : Int) : binD .sub (.int a) (.int b) = .ok (.int (a - b)) := rfl
@[simp] theorem bo_fdiv (a b : Int) : binD .fdiv (.int a) (.int b) = if 0 < b ∧ b.natAbs.log2 < 9000 then .ok (.int (a / b)) else .bad := rfl
@[simp] theorem bo_mod (a b : Int) : binD .mod (.int a) (.int b) = if 0 < b then .ok (.int (a % b)) else .bad := rfl
@[simp] theorem bo_pow (a b : Int) : binD .pow (.int a) (.int b) = if 0 ≤ b ∧ b ≤ 1000000 ∧ a.natAbs < 2 ^ 64 then .ok (.int (a ^ b.toNat)) else .bad := rfl
@[simp] theorem ad_int (a b : Int) : addD (.int a) (.int b) = .ok (.int (a + b)) := rfl
@[simp] theorem ad_list (a b : List D) : addD (.list a) (.list b) = if a.length + b.length ≤ big then .ok (.list (a ++ b)) else .bad := rfl
@[simp] theorem ad_tup (a b : List D) : addD (.tuple a) (.tuple b) = if a.length + b.length ≤ big then .ok (.tuple (a ++ b)) else .bad := rfl
@[simp] theorem ix_list (ds : List D) (i : Int) : ixD (.list ds) (.int i) = match atI ds i with | some d => .ok d | none => .bad := rfl
@[simp] theorem ix_tup (ds : List D) (i : Int) : ixD (.tuple ds) (.int i) = match atI ds i with | some d => .ok d | none => .bad := rfl
theorem atI_nat {α : Type} (xs : List α) (i : Nat) (h : i < xs.length) : atI xs (i : Int) = xs[i]? := by
  unfold atI ixN
  rw [if_pos (by omega), if_pos (by omega)]
  simp
@[simp] theorem sl_list (ds : List D) (lo hi : Option Int) : slD (.list ds) lo hi = .ok (.list (cutD ds lo hi)) := rfl
@[simp] theorem sl_tup (ds : List D) (lo hi : Option Int) : slD (.tuple ds) lo hi = .ok (.tuple (cutD ds lo hi)) := rfl
@[simp] theorem asOpt_int (i : Int) : asOpt (.int i) = .ok (some i) := rfl
@[simp] theorem asOpt_mark : asOpt mark = .ok none := rfl
@[simp] theorem seq_list (ds : List D) : seqOf (.list ds) = .ok ds := rfl
@[simp] theorem seq_tup (ds : List D) : seqOf (.tuple ds) = .ok ds := rfl
@[simp] theorem setT_nm (i : Nat) (d : D) (ρ : En) : setT (.nm i) d ρ = .ok (ρ.set i (.val d)) := rfl
@[simp] theorem setT_tup (is : List Nat) (ds : List D) (ρ : En) : setT (.tp is) (.tuple ds) ρ = if is.length = ds.length then .ok (setAll is ds ρ) else .bad := rfl
theorem cut_from {α : Type} (g : α → D) (xs : List α) (n : Nat) : cutD (xs.map g) (some (n : Int)) none = (xs.drop n).map g := by
  unfold cutD
  rw [HT.sIx_nat, HT.sIx_none, List.length_map, List.map_drop]
  by_cases h : n ≤ xs.length
  · rw [Nat.min_eq_left h, List.take_of_length_le (by simp)]
  · rw [Nat.min_eq_right (by omega), List.drop_of_length_le (by simp), List.drop_of_length_le (by simp; omega)]
    simp
theorem cut_to {α : Type} (g : α → D) (xs : List α) (n : Nat) : cutD (xs.map g) none (some (n : Int)) = (xs.take n).map g := by
  unfold cutD
  rw [HT.sIx_nat, HT.sIx_none, List.length_map, List.map_take]
  simp
/-! ### tools -/
section
variable {α β : Type}
theorem compGo_map {f : D → R (Option D)} {g : α → D} {h : α → D} : ∀ {xs : List α}, (∀ x ∈ xs, f (g x) = .ok (some (h x))) → compGo f (xs.map g) = .ok (xs.map h)
  | [], _ => rfl
  | x :: xs, hh => by
    simp only [List.map_cons, compGo, hh x List.mem_cons_self, compGo_map (xs := xs) fun y hy => hh y (List.mem_cons_of_mem _ hy)]
theorem compGo_filter {f : D → R (Option D)} {g : α → D} {h : α → D} {p : α → Bool} : ∀ {xs : List α}, (∀ x ∈ xs, f (g x) = .ok (if p x then some (h x) else none)) → compGo f (xs.map g) = .ok ((xs.filter p).map h)
  | [], _ => rfl
  | x :: xs, hh => by
    have e := hh x List.mem_cons_self
    have ih := compGo_filter (xs := xs) fun y hy => hh y (List.mem_cons_of_mem _ hy)
    cases q : p x <;> rw [q] at e <;> simp [compGo, e, ih, List.filter, q]
theorem compGo2_map {f : D → R (List D)} {g : α → D} {h : α → List D} : ∀ {xs : List α}, (∀ x ∈ xs, f (g x) = .ok (h x)) → compGo2 f (xs.map g) = .ok (xs.flatMap h)
  | [], _ => rfl
  | x :: xs, hh => by
    simp only [List.map_cons, compGo2, hh x List.mem_cons_self, compGo2_map (xs := xs) fun y hy => hh y (List.mem_cons_of_mem _ hy), List.flatMap_cons]
/-- a loop that looks for one -/
theorem forGo_any {f : D → En → R (Fl × En)} {g : α → D} {p : α → Bool} {d : D} (P : En → Prop) : ∀ {xs : List α}, (∀ x ∈ xs, ∀ ρ, P ρ → (p x = true ∧ ∃ ρ', f (g x) ρ = .ok (.rt d, ρ')) ∨ (p x = false ∧ ∃ ρ', f (g x) ρ = .ok (.nx, ρ') ∧ P ρ')) →
    ∀ {ρ}, P ρ → (xs.any p = true ∧ ∃ ρ', forGo f (xs.map g) ρ = .ok (.rt d, ρ')) ∨ (xs.any p = false ∧ ∃ ρ', forGo f (xs.map g) ρ = .ok (.nx, ρ') ∧ P ρ')
  | [], _, ρ, h => .inr ⟨rfl, ρ, rfl, h⟩
  | x :: xs, hh, ρ, h => by
    rcases hh x List.mem_cons_self ρ h with ⟨e, ρ', e2⟩ | ⟨e, ρ', e2, h2⟩
    · exact .inl ⟨by simp [e], ρ', by simp [forGo, e2]⟩
    · rcases forGo_any P (xs := xs) (fun y hy => hh y (List.mem_cons_of_mem _ hy)) h2 with ⟨q1, ρ3, q2⟩ | ⟨q1, ρ3, q2, q3⟩
      · exact .inl ⟨by rw [List.any_cons, e, q1]; rfl, ρ3, by simp only [List.map_cons, forGo, e2, q2]⟩
      · exact .inr ⟨by rw [List.any_cons, e, q1]; rfl, ρ3, by simp only [List.map_cons, forGo, e2, q2], q3⟩
/-- a loop that gathers -/
theorem forGo_fold {f : D → En → R (Fl × En)} {g : α → D} {step : β → α → β} (I : β → En → Prop) : ∀ {xs : List α}, (∀ x ∈ xs, ∀ a ρ, I a ρ → ∃ ρ', f (g x) ρ = .ok (.nx, ρ') ∧ I (step a x) ρ') →
    ∀ {a ρ}, I a ρ → ∃ ρ', forGo f (xs.map g) ρ = .ok (.nx, ρ') ∧ I (xs.foldl step a) ρ'
  | [], _, a, ρ, h => ⟨ρ, rfl, h⟩
  | x :: xs, hh, a, ρ, h => by
    obtain ⟨ρ', e, h2⟩ := hh x List.mem_cons_self a ρ h
    obtain ⟨ρ3, e3, h3⟩ := forGo_fold I (xs := xs) (fun y hy => hh y (List.mem_cons_of_mem _ hy)) h2
    exact ⟨ρ3, by simp only [List.map_cons, forGo, e, e3], h3⟩
/-- a loop by what it has gone through -/
theorem forGo_pre {f : D → En → R (Fl × En)} {g : α → D} (I : List α → En → Prop) {xs : List α} (hs : ∀ pre x post ρ, xs = pre ++ x :: post → I pre ρ → ∃ ρ', f (g x) ρ = .ok (.nx, ρ') ∧ I (pre ++ [x]) ρ') {ρ : En} (h0 : I [] ρ) :
    ∃ ρ', forGo f (xs.map g) ρ = .ok (.nx, ρ') ∧ I xs ρ' := by
  have go : ∀ (post pre : List α) (ρ : En), xs = pre ++ post → I pre ρ → ∃ ρ', forGo f (post.map g) ρ = .ok (.nx, ρ') ∧ I xs ρ' := by
    intro post
    induction post with
    | nil => intro pre ρ e h; rw [List.append_nil] at e; rw [e]; exact ⟨ρ, rfl, h⟩
    | cons x post ih =>
      intro pre ρ e h
      obtain ⟨ρ', e1, h1⟩ := hs pre x post ρ e h
      obtain ⟨ρ2, e2, h2⟩ := ih (pre ++ [x]) ρ' (by rw [e]; simp) h1
      exact ⟨ρ2, by simp only [List.map_cons, forGo, e1, e2], h2⟩
  exact go xs [] ρ rfl h0
theorem flatMap_length_le {β : Type} (f : α → List β) (m : Nat) : ∀ l : List α, (∀ x ∈ l, (f x).length ≤ m) → (l.flatMap f).length ≤ l.length * m
  | [], _ => by simp
  | x :: l, hh => by
    rw [List.flatMap_cons, List.length_append, List.length_cons, Nat.add_mul, Nat.one_mul]
    have := hh x List.mem_cons_self
    have := flatMap_length_le f m l fun y hy => hh y (List.mem_cons_of_mem _ hy)
    omega
theorem pairUp_eq {g : α → D} : ∀ (xs : List α) (i : Nat), pairUp i (xs.map g) = (xs.zipIdx i).map fun q => .tuple [.int (q.2 : Nat), g q.1]
  | [], _ => rfl
  | x :: xs, i => by
    simp only [List.map_cons, pairUp, List.zipIdx_cons, pairUp_eq xs (i + 1)]
theorem rgL_nat (n : Nat) : rgL 0 (n : Int) = (List.range n).map fun i => .int (i : Nat) := by
  unfold rgL
  simp
theorem asBools_map' (p : α → Bool) (xs : List α) : asBools (xs.map fun x => PyData.bool (p x)) = some (xs.map p) := by
  have := asBools_map (xs.map p)
  rwa [List.map_map] at this
end
/-! ### Lean types as data -/
class Enc (α : Type) where
  enc : α → D
  dep : Nat
  can : ∀ a, (enc a).canLay0 = true
  dpt : ∀ a, (enc a).depth ≤ dep
  eqv : ∀ a b, PyData.eqv (enc a) (enc b) = true ↔ a = b
open Enc (enc)
section
variable {α β : Type}
instance : Enc Int := ⟨.int, 0, fun _ => rfl, fun _ => Nat.le_refl _, fun a b => by simp [PyData.eqv]⟩
instance : Enc Nat := ⟨fun n => .int (n : Nat), 0, fun _ => rfl, fun _ => Nat.le_refl _, fun a b => by simp [PyData.eqv]; omega⟩
instance : Enc Bool := ⟨.bool, 0, fun _ => rfl, fun _ => Nat.le_refl _, fun a b => by simp [PyData.eqv]⟩
theorem canAll_map [Enc α] : ∀ xs : List α, PyData.canLayAll0 (xs.map enc) = true
  | [] => rfl
  | x :: xs => by simp [PyData.canLayAll0, Enc.can x, canAll_map xs]
theorem depAll_map [Enc α] : ∀ xs : List α, PyData.depthAll (xs.map enc) ≤ Enc.dep α
  | [] => Nat.zero_le _
  | x :: xs => by
    have := Enc.dpt x
    have := depAll_map xs
    simp only [List.map_cons, PyData.depthAll]
    omega
theorem eqvAll_map [Enc α] : ∀ xs ys : List α, PyData.eqvAll (xs.map enc) (ys.map enc) = true ↔ xs = ys
  | [], [] => by simp [PyData.eqvAll]
  | [], _ :: _ => by simp [PyData.eqvAll]
  | _ :: _, [] => by simp [PyData.eqvAll]
  | x :: xs, y :: ys => by simp [PyData.eqvAll, Enc.eqv, eqvAll_map xs ys]
instance [Enc α] : Enc (List α) := ⟨fun xs => .list (xs.map enc), Enc.dep α + 1, fun xs => canAll_map xs, fun xs => Nat.succ_le_succ (depAll_map xs), fun xs ys => by simp [PyData.eqv, eqvAll_map]⟩
/-- a list as a tuple -/
structure Tu (α : Type) where
  xs : List α
instance [Enc α] : Enc (Tu α) := ⟨fun x => .tuple (x.xs.map enc), Enc.dep α + 1, fun xs => canAll_map xs.xs, fun xs => Nat.succ_le_succ (depAll_map xs.xs), fun ⟨xs⟩ ⟨ys⟩ => by simp [PyData.eqv, eqvAll_map]⟩
instance [Enc α] [Enc β] : Enc (α × β) := ⟨fun x => .tuple [enc x.1, enc x.2], max (Enc.dep α) (Enc.dep β) + 1, fun x => by simp [PyData.canLay0, PyData.canLayAll0, Enc.can], fun x => by
  have h1 := Enc.dpt x.1
  have h2 := Enc.dpt x.2
  simp only [PyData.depth, PyData.depthAll]
  omega, fun ⟨a, b⟩ ⟨c, d⟩ => by simp [PyData.eqv, PyData.eqvAll, Enc.eqv]⟩
/-- a panel -/
structure Pn where
  l : Int
  t : Int
  r : Int
  b : Int
  deriving DecidableEq
instance : Enc Pn := ⟨fun p => .tuple [.int p.l, .int p.t, .int p.r, .int p.b], 1, fun _ => rfl, fun _ => by simp [PyData.depth, PyData.depthAll], fun ⟨a, b, c, d⟩ ⟨a', b', c', d'⟩ => by simp [PyData.eqv, PyData.eqvAll]⟩
theorem unscr_enc [Enc α] (a : α) : unscr (enc a) = enc a := by
  have := Enc.can a
  cases e : (enc a : D) <;> first | rfl | (rw [e] at this; cases this)
theorem shaped_enc [Enc α] (h : Enc.dep α ≤ 64) (a : α) : SeqAt.shaped (enc a) = true := by
  unfold SeqAt.shaped
  have := Enc.dpt a
  rw [Enc.can a]
  simp
  omega
theorem eqD_enc [Enc α] [DecidableEq α] (h : Enc.dep α ≤ 64) (a b : α) : eqD (enc a) (enc b) = .ok (decide (a = b)) := by
  unfold eqD
  rw [unscr_enc, unscr_enc, shaped_enc h, shaped_enc h]
  simp only [Bool.and_self, if_true]
  congr 1
  rw [Bool.eq_iff_iff, decide_eq_true_eq]
  exact Enc.eqv a b
theorem inD_enc [Enc α] [DecidableEq α] (h : Enc.dep α ≤ 63) (a : α) (xs : List α) : inD (enc a) (.list (xs.map enc)) = .ok (decide (a ∈ xs)) := by
  have s1 : SeqAt.shaped (enc a) = true := shaped_enc (by omega) a
  have s2 : SeqAt.shaped (.list (xs.map enc)) = true := shaped_enc (α := List α) (show Enc.dep α + 1 ≤ 64 by omega) xs
  have e : inD (enc a) (.list (xs.map enc)) = if SeqAt.shaped (enc a) && SeqAt.shaped (.list (xs.map enc)) then .ok ((xs.map enc).any fun z => PyData.eqv z (enc a)) else .bad := by
    cases (enc a : D) <;> rfl
  rw [e, s1, s2]
  simp only [Bool.and_self, if_true]
  congr 1
  rw [Bool.eq_iff_iff, decide_eq_true_eq, List.any_eq_true]
  constructor
  · rintro ⟨z, hz, e⟩
    obtain ⟨x, hx, rfl⟩ := List.mem_map.mp hz
    rw [(Enc.eqv x a).mp e] at hx
    exact hx
  · intro hx
    exact ⟨enc a, List.mem_map.mpr ⟨a, hx, rfl⟩, (Enc.eqv a a).mpr rfl⟩
end
end Pi

set_option Elab.async false
set_option linter.all false
set_option maxRecDepth 100000
set_option maxHeartbeats 4000000
/-! M1: pages. -/
namespace Pi
open PySem PySem.Spec PyProof.Rows L2
open Enc (enc)
structure HP (ds : List Df) : Prop where
  is_int : findD ds "is_int" = some d_is_int
  is_panel : findD ds "is_panel" = some d_is_panel
  share_widths : findD ds "share_widths" = some d_share_widths
  share_heights : findD ds "share_heights" = some d_share_heights
  is_page : findD ds "is_page" = some d_is_page
  check_page : findD ds "check_page" = some d_check_page
def isInt (v : D) (a b : Int) : Bool := match v with | .int i => decide (a ≤ i) && decide (i ≤ b) | _ => false
def noDict : D → Bool | .dict _ => false | _ => true
section
variable {ds : List Df}
theorem r_is_int (h : findD ds "is_int" = some d_is_int) (k : Nat) (v : D) (a b : Int) (hv : noDict v = true) : Tb ds (k + 1) "is_int" [v, .int a, .int b] = .ok (.bool (isInt v a b)) := by
  rw [Tb_run h rfl, runD_eq]
  cases v <;> first | (cases hv; done) | simp [atI, ixN, d_is_int, isInt]
  split <;> simp_all <;> omega
/-- a panel within the paper -/
structure Pn.Ok (p : Pn) : Prop where
  l0 : 0 ≤ p.l
  t0 : 0 ≤ p.t
  lr : p.l < p.r
  tb : p.t < p.b
  r20 : p.r ≤ 20
  b20 : p.b ≤ 20
def shW (p q : Pn) : Bool := decide (p.l < q.r) && decide (q.l < p.r)
def shH (p q : Pn) : Bool := decide (p.t < q.b) && decide (q.t < p.b)
theorem r_shW (h : findD ds "share_widths" = some d_share_widths) (k : Nat) (p q : Pn) : Tb ds (k + 1) "share_widths" [enc p, enc q] = .ok (.bool (shW p q)) := by
  rw [Tb_run h rfl, runD_eq]
  simp [atI, ixN, d_share_widths, Enc.enc, shW]
  split <;> simp_all <;> omega
theorem r_shH (h : findD ds "share_heights" = some d_share_heights) (k : Nat) (p q : Pn) : Tb ds (k + 1) "share_heights" [enc p, enc q] = .ok (.bool (shH p q)) := by
  rw [Tb_run h rfl, runD_eq]
  simp [atI, ixN, d_share_heights, Enc.enc, shH]
  split <;> simp_all <;> omega
theorem r_is_panel (h : HP ds) (k : Nat) (p : Pn) (ok : p.Ok) : Tb ds (k + 2) "is_panel" [enc p] = .ok (.bool true) := by
  rw [Tb_run h.is_panel rfl, runD_eq]
  have hi : ∀ z : Int, 0 ≤ z → z ≤ 20 → Tb ds (k + 1) "is_int" [.int z, .int 0, .int 20] = .ok (.bool true) := fun z h1 h2 => by
    rw [r_is_int h.is_int k _ _ _ rfl]; simp [atI, ixN, isInt, h1, h2]
  obtain ⟨h1, h2, h3, h4, h5, h6⟩ := ok
  simp [atI, ixN, d_is_panel, Enc.enc, ev_comp, compGo, hi p.l h1 (by omega), hi p.t h2 (by omega), hi p.r (by omega) h5, hi p.b (by omega) h6, asBools, h3, h4]
def ovl (p q : Pn) : Bool := shW p q && shH p q
def apartAll (ps : List Pn) : Bool := !(ps.zipIdx.any fun q => (ps.drop (q.2 + 1)).any fun o => ovl q.1 o)
theorem r_is_page (h : HP ds) (k : Nat) (ps : List Pn) (hl : ps.length ≤ 8) (hv : ∀ p ∈ ps, p.Ok) : Tb ds (k + 3) "is_page" [enc (Tu.mk ps)] = .ok (.bool (apartAll ps)) := by
  rw [Tb_run h.is_page rfl, runD_eq]
  have hl' : ¬ (8 : Int) < (ps.length : Int) := by omega
  have ep : (enc (Tu.mk ps) : D) = .tuple (ps.map enc) := rfl
  rw [ep]
  simp [atI, ixN, d_is_page, hl', ev_comp]
  rw [compGo_map (h := fun _ => .bool true) (fun x hx => by simp [atI, ixN, r_is_panel h k x (hv x hx)])]
  have ha : (ps.all fun _ => true) = true := by simp
  simp [atI, ixN, asBools_map' (fun _ => true), ha]
  rw [pairUp_eq]
  generalize hf : (fun (d : D) (ρ : En) => bodyT _ _) = f
  have key := forGo_any (f := f) (g := fun q : Pn × Nat => PyData.tuple [.int (q.2 : Nat), enc q.1]) (p := fun q => (ps.drop (q.2 + 1)).any fun o => ovl q.1 o) (d := .bool false) (fun ρ => ∃ x1 x2 x3 x4, ρ = [.val (.tuple (ps.map enc)), x1, x2, x3, x4]) (xs := ps.zipIdx) (fun q hq ρ hρ => ?_) (ρ := [.val (.tuple (ps.map enc)), .no, .no, .no, .no]) ⟨_, _, _, _, rfl⟩
  · rcases key with ⟨e1, ρ', e2⟩ | ⟨e1, ρ', e2, x1, x2, x3, x4, rfl⟩
    · rw [e2]
      simp [atI, ixN, apartAll, e1]
    · rw [e2]
      simp [atI, ixN, apartAll, e1]
  · obtain ⟨x1, x2, x3, x4, rfl⟩ := hρ
    have hdr : cutD (ps.map enc) (some ((q.2 : Int) + 1)) none = (ps.drop (q.2 + 1)).map (enc (α := Pn)) := cut_from enc ps (q.2 + 1)
    have hb : f (PyData.tuple [.int (q.2 : Nat), enc q.1]) [.val (.tuple (ps.map enc)), x1, x2, x3, x4] = if ((ps.drop (q.2 + 1)).any fun o => ovl q.1 o) then .ok (.rt (.bool false), [.val (.tuple (ps.map enc)), x1, .val (.int q.2), .val (enc q.1), x4]) else .ok (.nx, [.val (.tuple (ps.map enc)), x1, .val (.int q.2), .val (enc q.1), x4]) := by
      generalize hbb : ((ps.drop (q.2 + 1)).any fun o => ovl q.1 o) = bb
      rw [← hf]
      simp [atI, ixN, ev_comp, hdr, -List.map_drop]
      rw [compGo_map (h := fun o => .bool (ovl q.1 o)) (fun x hx => by
        simp [atI, ixN, r_shW h.share_widths, r_shH h.share_heights, ovl]
        cases shW q.1 x <;> simp)]
      simp only [listR_ok, R.ok_bind, bi_any, asBools_map' (fun o => ovl q.1 o), List.any_map, Function.comp_def, id, hbb, nx_ok]
      cases bb <;> rfl
    rw [hb]
    cases e : (ps.drop (q.2 + 1)).any fun o => ovl q.1 o
    · exact .inr ⟨rfl, _, rfl, _, _, _, _, rfl⟩
    · exact .inl ⟨rfl, _, rfl⟩
end
end Pi

set_option Elab.async false
set_option linter.all false
set_option maxRecDepth 100000
set_option maxHeartbeats 4000000
/-! M2: pairs. -/
namespace Pi
open PySem PySem.Spec PyProof.Rows L2
open Enc (enc)
@[simp] theorem pick2_true (xs : List D) (f : D → R (Option D)) : pick2 (.ok (.bool true)) (.ok xs) f = compGo f xs := rfl
theorem atI_enc {α : Type} (g : α → D) {xs : List α} {i : Nat} {x : α} (h : xs[i]? = some x) : atI (xs.map g) (i : Int) = some (g x) := by
  have hl := (List.getElem?_eq_some_iff.mp h).1
  rw [atI_nat _ _ (by simpa using hl), List.getElem?_map, h]
  rfl
theorem rgB_nat {n : Nat} (h : n ≤ 1000) : RgB 0 (n : Int) := by
  rw [RgB.iff]
  unfold big
  omega
theorem if_getD {α : Type} {n : Nat} {a b : α} (h : n ≤ 1000) : (if RgB ((none : Option Int).getD 0) (n : Int) then a else b) = a := if_pos (rgB_nat h)
theorem lrg0 {T : Str → List D → R D} {b : E} {ρ : En} {n : Nat} (hb : ev T b ρ = .ok (.int (n : Nat))) (hn : n ≤ 1000) : ev T (.lrg .nil b) ρ = .ok (.list ((List.range n).map fun j => .int (j : Nat))) := by
  rw [ev_lrg, hb, ev_nil]
  simp only [R.ok_bind, asOpt_mark, asOpt_int]
  rw [if_getD hn, ← rgL_nat]
  rfl
theorem rg0 {T : Str → List D → R D} {b : E} {ρ : En} {n : Nat} (hb : ev T b ρ = .ok (.int (n : Nat))) (hn : n ≤ 1000) : evI T (.rg .nil b) ρ = .ok ((List.range n).map fun j => .int (j : Nat)) := by
  rw [evI_rg, hb, ev_nil]
  simp only [R.ok_bind, asOpt_mark, asOpt_int]
  rw [if_getD hn, ← rgL_nat]
  rfl
@[simp] theorem len_tu {α : Type} [Enc α] (ps : List α) : lenD (enc (Tu.mk ps)) = .ok (.int ps.length) := by
  show lenD (.tuple (ps.map enc)) = _
  rw [ln_tup, List.length_map]
@[simp] theorem len_li {α : Type} [Enc α] (ps : List α) : lenD (enc ps) = .ok (.int ps.length) := by
  show lenD (.list (ps.map enc)) = _
  rw [ln_list, List.length_map]
@[simp] theorem pn0 (p : Pn) : ixD (enc p) (.int 0) = .ok (.int p.l) := rfl
@[simp] theorem pn1 (p : Pn) : ixD (enc p) (.int 1) = .ok (.int p.t) := rfl
@[simp] theorem pn2 (p : Pn) : ixD (enc p) (.int 2) = .ok (.int p.r) := rfl
@[simp] theorem pn3 (p : Pn) : ixD (enc p) (.int 3) = .ok (.int p.b) := rfl
structure HQ (ds : List Df) : Prop extends HP ds where
  goes_before : findD ds "goes_before" = some d_goes_before
  find_pairs : findD ds "find_pairs" = some d_find_pairs
def bef (p q : Pn) : Bool := (decide (p.r ≤ q.l) && shH p q) || (decide (p.b ≤ q.t) && shW p q)
def befAt (ps : List Pn) (i j : Nat) : Bool := match ps[i]?, ps[j]? with | some p, some q => bef p q | _, _ => false
def prs (ps : List Pn) : List (Nat × Nat) := (List.range ps.length).flatMap fun i => ((List.range ps.length).filter fun j => befAt ps i j).map fun j => (i, j)
section
variable {ds : List Df}
theorem r_check_page (h : HP ds) (k : Nat) (ps : List Pn) (hl : ps.length ≤ 8) (hv : ∀ p ∈ ps, p.Ok) (ha : apartAll ps = true) : Tb ds (k + 4) "check_page" [enc (Tu.mk ps)] = .ok .none := by
  rw [Tb_run h.check_page rfl, runD_eq]
  simp [d_check_page, r_is_page h k ps hl hv, ha]
theorem r_check_bad (h : HP ds) (k : Nat) (v : D) (ha : Tb ds k "is_page" [v] = .ok (.bool false)) : Tb ds (k + 1) "check_page" [v] = .exc 1 := by
  rw [Tb_run h.check_page rfl, runD_eq]
  simp [d_check_page, ha]
theorem r_goes_before (h : HQ ds) (k : Nat) {ps : List Pn} {i j : Nat} {p q : Pn} (hi : ps[i]? = some p) (hj : ps[j]? = some q) : Tb ds (k + 2) "goes_before" [enc (Tu.mk ps), .int i, .int j] = .ok (.bool (bef p q)) := by
  rw [Tb_run h.goes_before rfl, runD_eq]
  have ep : (enc (Tu.mk ps) : D) = .tuple (ps.map enc) := rfl
  have hw := r_shW h.share_widths k p q
  have hh := r_shH h.share_heights k p q
  rw [ep]
  unfold bef
  by_cases h1 : p.r ≤ q.l <;> by_cases h2 : p.b ≤ q.t <;> cases e1 : shH p q <;> cases e2 : shW p q <;> simp [d_goes_before, atI_enc enc hi, atI_enc enc hj, big, hw, hh, e1, e2, h1, h2]
theorem le_big {n : Nat} (h : n ≤ 1000) : n ≤ big := Nat.le_trans h (by decide)
theorem range_get {n i : Nat} (h : i ∈ List.range n) : i < n := List.mem_range.mp h
theorem befAt_get {ps : List Pn} {i j : Nat} (hi : i < ps.length) (hj : j < ps.length) : ∃ p q, ps[i]? = some p ∧ ps[j]? = some q ∧ befAt ps i j = bef p q :=
  ⟨ps[i], ps[j], List.getElem?_eq_getElem hi, List.getElem?_eq_getElem hj, by unfold befAt; rw [List.getElem?_eq_getElem hi, List.getElem?_eq_getElem hj]⟩
theorem prs_length (ps : List Pn) : (prs ps).length ≤ ps.length * ps.length := by
  unfold prs
  have : ∀ (l : List Nat) (f : Nat → List (Nat × Nat)) (m : Nat), (∀ x ∈ l, (f x).length ≤ m) → (l.flatMap f).length ≤ l.length * m := fun l f m => by
    induction l with
    | nil => simp
    | cons x l ih =>
      intro hh
      rw [List.flatMap_cons, List.length_append, List.length_cons, Nat.add_mul, Nat.one_mul]
      have := hh x List.mem_cons_self
      have := ih fun y hy => hh y (List.mem_cons_of_mem _ hy)
      omega
  have h := this (List.range ps.length) (fun i => ((List.range ps.length).filter fun j => befAt ps i j).map fun j => (i, j)) ps.length (fun x _ => by
    rw [List.length_map]
    have := List.length_filter_le (fun j => befAt ps x j) (List.range ps.length)
    rwa [List.length_range] at this)
  rwa [List.length_range] at h
theorem fp_in (h : HQ ds) (k : Nat) {ps : List Pn} (i : Nat) (hi : i ∈ List.range ps.length) (x1 : Sl) :
    compGo (fun d2 => onT (.ok [Sl.val (enc (Tu.mk ps)), x1, .val (.int i), .val d2]) fun ρ2 => pick (ev (Tb ds (k + 2)) (.call "goes_before" (.cons (.var 0) (.cons (.var 2) (.cons (.var 3) .nil)))) ρ2) (ev (Tb ds (k + 2)) (.tup (.cons (.var 2) (.cons (.var 3) .nil))) ρ2)) ((List.range ps.length).map fun j => .int (j : Nat)) = .ok ((((List.range ps.length).filter fun j => befAt ps i j).map fun j => (i, j)).map enc) := by
  rw [compGo_filter (p := fun j => befAt ps i j) (h := fun j => enc (i, j)) (fun j hj => by
      obtain ⟨p, q, h1, h2, h3⟩ := befAt_get (range_get hi) (range_get hj)
      have := r_goes_before h k h1 h2
      have l2 : ∀ a b : D, [a, b].length ≤ big := fun a b => le_big (by simp)
      simp only [onT_ok, ev_call, evL_cons, evL_nil, ev_var, List.getElem?_cons_zero, List.getElem?_cons_succ, R.ok_bind, this, h3, ev_tup, if_pos (l2 _ _)]
      cases bef p q <;> rfl)]
  simp [List.map_map, Function.comp_def]
theorem prs_enc (ps : List Pn) : ((List.range ps.length).flatMap fun i => (((List.range ps.length).filter fun j => befAt ps i j).map fun j => (i, j)).map (enc (α := Nat × Nat))) = (prs ps).map enc := by
    unfold prs
    rw [List.map_flatMap]
section
variable (h : HQ ds) (k : Nat) {ps : List Pn}
theorem fp_c (hl : ps.length ≤ 8) (x2 x3 : Sl) : ev (Tb ds (k + 2)) (.comp2 [("one", 2), ("other", 3)] (.nm 2) (.iter (.var 1)) .yes (.nm 3) (.iter (.var 1)) (.call "goes_before" (.cons (.var 0) (.cons (.var 2) (.cons (.var 3) .nil)))) (.tup (.cons (.var 2) (.cons (.var 3) .nil)))) [.val (enc (Tu.mk ps)), .val (.list ((List.range ps.length).map fun j => .int (j : Nat))), .no, .no] = capR (compGo2 (fun d => compGo (fun d2 => onT (.ok [Sl.val (enc (Tu.mk ps)), .val (.list ((List.range ps.length).map fun j => .int (j : Nat))), .val d, .val d2]) fun ρ2 => pick (ev (Tb ds (k + 2)) (.call "goes_before" (.cons (.var 0) (.cons (.var 2) (.cons (.var 3) .nil)))) ρ2) (ev (Tb ds (k + 2)) (.tup (.cons (.var 2) (.cons (.var 3) .nil))) ρ2)) ((List.range ps.length).map fun j => .int (j : Nat))) ((List.range ps.length).map fun j => .int (j : Nat))) := rfl
theorem fp_c2 (hl : ps.length ≤ 8) (h : HQ ds) : capR (compGo2 (fun d => compGo (fun d2 => onT (.ok [Sl.val (enc (Tu.mk ps)), .val (.list ((List.range ps.length).map fun j => .int (j : Nat))), .val d, .val d2]) fun ρ2 => pick (ev (Tb ds (k + 2)) (.call "goes_before" (.cons (.var 0) (.cons (.var 2) (.cons (.var 3) .nil)))) ρ2) (ev (Tb ds (k + 2)) (.tup (.cons (.var 2) (.cons (.var 3) .nil))) ρ2)) ((List.range ps.length).map fun j => .int (j : Nat))) ((List.range ps.length).map fun j => .int (j : Nat))) = capR (.ok ((prs ps).map enc)) := by
    rw [compGo2_map (h := fun i => (((List.range ps.length).filter fun j => befAt ps i j).map fun j => (i, j)).map enc) (fun i hi => fp_in h k i hi _), prs_enc]
theorem fp_cap (hl : ps.length ≤ 8) : capR (.ok ((prs ps).map (enc (α := Nat × Nat)))) = .ok (enc (prs ps)) := by
  have hb : (prs ps).length ≤ 64 := Nat.le_trans (prs_length ps) (Nat.mul_le_mul hl hl)
  have this : ((prs ps).map (enc (α := Nat × Nat))).length ≤ big := by rw [List.length_map]; exact le_big (by omega)
  simp only [capR, if_pos this]
  rfl
theorem fp_l (hl : ps.length ≤ 8) : ev (Tb ds (k + 2)) (.lrg .nil (.bi .len (.cons (.var 0) .nil))) [.val (enc (Tu.mk ps)), .no, .no, .no] = .ok (.list ((List.range ps.length).map fun j => .int (j : Nat))) :=
  lrg0 (by simp) (by omega)
theorem r_find_pairs (h : HQ ds) (k : Nat) {ps : List Pn} (hl : ps.length ≤ 8) : Tb ds (k + 3) "find_pairs" [enc (Tu.mk ps)] = .ok (enc (prs ps)) := by
  rw [Tb_run h.find_pairs rfl, runD_eq]
  show outR (exS _ d_find_pairs.ir [.val (enc (Tu.mk ps)), .no, .no, .no]) = _
  simp only [d_find_pairs, exS_seq, exS_nm, fp_l k hl, R.ok_bind, thenS_nx, List.set_cons_succ, List.set_cons_zero, exS_ret, fp_c k hl .no .no, fp_c2 k hl h, fp_cap hl, thenS_rt, outR_rt]
end
end
end Pi

set_option Elab.async false
set_option linter.all false
set_option maxRecDepth 100000
set_option maxHeartbeats 4000000
/-! M3: what is asked of pages; the law's own pairs. -/
namespace Pi
open PySem PySem.Spec PyProof.Rows L2
open Enc (enc)
/-- a good page -/
structure Good8 (ps : List Pn) : Prop where
  len : ps.length ≤ 8
  ok : ∀ p ∈ ps, p.Ok
  ap : apartAll ps = true
section
variable {ds : List Df}
theorem r_check_number (h : findD ds "check_number" = some d_check_number) (hi : findD ds "is_int" = some d_is_int) (k : Nat) (v : D) (a b : Int) (hv : noDict v = true) : Tb ds (k + 2) "check_number" [v, .int a, .int b] = if isInt v a b then .ok .none else .exc 2 := by
  rw [Tb_run h rfl, runD_eq]
  simp [d_check_number, r_is_int hi k v a b hv]
  cases isInt v a b <;> simp
theorem r_pairs (h : HQ ds) (hp : findD ds "pairs" = some d_pairs) (k : Nat) {ps : List Pn} (g : Good8 ps) : Tb ds (k + 5) "pairs" [enc (Tu.mk ps)] = .ok (enc (prs ps)) := by
  rw [Tb_run hp rfl, runD_eq]
  simp [d_pairs, r_check_page h.toHP k ps g.len g.ok g.ap, r_find_pairs h (k + 1) g.len]
theorem r_is_before (h : HQ ds) (hp : findD ds "is_before" = some d_is_before) (hn : findD ds "check_number" = some d_check_number) (k : Nat) {ps : List Pn} (g : Good8 ps) {i j : Nat} (hi : i < ps.length) (hj : j < ps.length) :
    Tb ds (k + 5) "is_before" [enc (Tu.mk ps), .int i, .int j] = .ok (.bool (befAt ps i j)) := by
  rw [Tb_run hp rfl, runD_eq]
  obtain ⟨p, q, h1, h2, h3⟩ := befAt_get hi hj
  have e1 : isInt (.int i) 0 ((ps.length : Int) - 1) = true := by simp [isInt]; omega
  have e2 : isInt (.int j) 0 ((ps.length : Int) - 1) = true := by simp [isInt]; omega
  simp [d_is_before, r_check_page h.toHP k ps g.len g.ok g.ap, r_check_number hn h.is_int (k + 2) (.int i) 0 _ rfl, r_check_number hn h.is_int (k + 2) (.int j) 0 _ rfl, e1, e2, r_goes_before h (k + 2) h1 h2, h3]
theorem in_list {α : Type} [Enc α] [DecidableEq α] (hd : Enc.dep α ≤ 63) (a : α) (xs : List α) : inD (enc a) (enc xs) = .ok (decide (a ∈ xs)) := inD_enc hd a xs
def lat (ps : List Pn) : List Nat := (prs ps).map (·.2)
def ear (ps : List Pn) : List Nat := (prs ps).map (·.1)
theorem pn_pair (i j : Nat) (ρ : En) (a b : Nat) : setT (.tp [a, b]) (enc (i, j)) ρ = .ok ((ρ.set a (.val (.int i))).set b (.val (.int j))) := rfl
theorem r_starts (h : HQ ds) (hp : findD ds "starts" = some d_starts) (k : Nat) {ps : List Pn} (g : Good8 ps) : Tb ds (k + 5) "starts" [enc (Tu.mk ps)] = .ok (enc ((List.range ps.length).filter fun n => decide (n ∉ lat ps))) := by
  rw [Tb_run hp rfl, runD_eq]
  have c1 : ev (Tb ds (k + 4)) (.comp [("one", 2), ("other", 3)] (.tp [2, 3]) (.iter (.call "find_pairs" (.cons (.var 0) .nil))) .yes (.var 3)) [.val (enc (Tu.mk ps)), .no, .no, .no, .no] = .ok (enc (lat ps)) := by
    rw [ev_comp]
    have e : evI (Tb ds (k + 4)) (.iter (.call "find_pairs" (.cons (.var 0) .nil))) [.val (enc (Tu.mk ps)), .no, .no, .no, .no] = .ok ((prs ps).map enc) := by
      simp [r_find_pairs h (k + 1) g.len]
      rfl
    rw [e, R.ok_bind, compGo_map (h := fun q : Nat × Nat => .int q.2) (fun q hq => by rw [show (enc q : D) = enc (q.1, q.2) from rfl, pn_pair]; simp)]
    simp [lat, Enc.enc, List.map_map, Function.comp_def]
  have c2 : ev (Tb ds (k + 4)) (.comp [("number", 4)] (.nm 4) (.rg .nil (.bi .len (.cons (.var 0) .nil))) (.cmp .notin (.var 4) (.var 1)) (.var 4)) [.val (enc (Tu.mk ps)), .val (enc (lat ps)), .no, .no, .no] = .ok (enc ((List.range ps.length).filter fun n => decide (n ∉ lat ps))) := by
    rw [ev_comp, rg0 (n := ps.length) (by simp) (by have := g.len; omega), R.ok_bind, compGo_filter (p := fun n => decide (n ∉ lat ps)) (h := fun n => .int (n : Nat)) (fun n hn => by
      have := in_list (α := Nat) (by decide) n (lat ps)
      rw [show (enc n : D) = .int (n : Nat) from rfl] at this
      simp [this]
      by_cases hm : n ∈ lat ps <;> simp [hm])]
    rfl
  show outR (exS _ d_starts.ir [.val (enc (Tu.mk ps)), .no, .no, .no, .no]) = _
  simp only [d_starts, exS_seq, exS_expr, ev_call, evL_cons, evL_nil, ev_var, List.getElem?_cons_zero, R.ok_bind, r_check_page h.toHP k ps g.len g.ok g.ap, thenS_nx, exS_nm, c1, List.set_cons_succ, List.set_cons_zero, exS_ret, c2, thenS_rt, outR_rt]
theorem r_ends (h : HQ ds) (hp : findD ds "ends" = some d_ends) (k : Nat) {ps : List Pn} (g : Good8 ps) : Tb ds (k + 5) "ends" [enc (Tu.mk ps)] = .ok (enc ((List.range ps.length).filter fun n => decide (n ∉ ear ps))) := by
  rw [Tb_run hp rfl, runD_eq]
  have c1 : ev (Tb ds (k + 4)) (.comp [("one", 2), ("other", 3)] (.tp [2, 3]) (.iter (.call "find_pairs" (.cons (.var 0) .nil))) .yes (.var 2)) [.val (enc (Tu.mk ps)), .no, .no, .no, .no] = .ok (enc (ear ps)) := by
    rw [ev_comp]
    have e : evI (Tb ds (k + 4)) (.iter (.call "find_pairs" (.cons (.var 0) .nil))) [.val (enc (Tu.mk ps)), .no, .no, .no, .no] = .ok ((prs ps).map enc) := by
      simp [r_find_pairs h (k + 1) g.len]
      rfl
    rw [e, R.ok_bind, compGo_map (h := fun q : Nat × Nat => .int q.1) (fun q hq => by rw [show (enc q : D) = enc (q.1, q.2) from rfl, pn_pair]; simp)]
    simp [ear, Enc.enc, List.map_map, Function.comp_def]
  have c2 : ev (Tb ds (k + 4)) (.comp [("number", 4)] (.nm 4) (.rg .nil (.bi .len (.cons (.var 0) .nil))) (.cmp .notin (.var 4) (.var 1)) (.var 4)) [.val (enc (Tu.mk ps)), .val (enc (ear ps)), .no, .no, .no] = .ok (enc ((List.range ps.length).filter fun n => decide (n ∉ ear ps))) := by
    rw [ev_comp, rg0 (n := ps.length) (by simp) (by have := g.len; omega), R.ok_bind, compGo_filter (p := fun n => decide (n ∉ ear ps)) (h := fun n => .int (n : Nat)) (fun n hn => by
      have := in_list (α := Nat) (by decide) n (ear ps)
      rw [show (enc n : D) = .int (n : Nat) from rfl] at this
      simp [this]
      by_cases hm : n ∈ ear ps <;> simp [hm])]
    rfl
  show outR (exS _ d_ends.ir [.val (enc (Tu.mk ps)), .no, .no, .no, .no]) = _
  simp only [d_ends, exS_seq, exS_expr, ev_call, evL_cons, evL_nil, ev_var, List.getElem?_cons_zero, R.ok_bind, r_check_page h.toHP k ps g.len g.ok g.ap, thenS_nx, exS_nm, c1, List.set_cons_succ, List.set_cons_zero, exS_ret, c2, thenS_rt, outR_rt]
/-! ### the law's own -/
theorem r_first (h : findD ds "_law_first" = some d__law_first) (k : Nat) (p q : Pn) : Tb ds (k + 1) "_law_first" [enc p, enc q] = .ok (.bool (bef p q)) := by
  rw [Tb_run h rfl, runD_eq]
  unfold bef shH shW
  by_cases h1 : p.r ≤ q.l <;> by_cases h2 : p.t < q.b <;> by_cases h3 : q.t < p.b <;> by_cases h4 : p.b ≤ q.t <;> by_cases h5 : p.l < q.r <;> by_cases h6 : q.l < p.r <;> simp [d__law_first, h1, h2, h3, h4, h5, h6]
def row (ps : List Pn) (i : Nat) : List (Nat × Nat) := ((List.range ps.length).filter fun j => befAt ps i j).map fun j => (i, j)
theorem r_lpairs (h : findD ds "_law_first" = some d__law_first) (hp : findD ds "_law_pairs" = some d__law_pairs) (k : Nat) {ps : List Pn} (hl : ps.length ≤ 8) : Tb ds (k + 2) "_law_pairs" [enc (Tu.mk ps)] = .ok (enc (prs ps)) := by
  rw [Tb_run hp rfl, runD_eq]
  show outR (exS _ d__law_pairs.ir [.val (enc (Tu.mk ps)), .no, .no, .no]) = _
  simp only [d__law_pairs, exS_seq, exS_nm, ev_lst, evL_nil, R.ok_bind, List.length_nil, Nat.zero_le, if_true, thenS_nx, List.set_cons_succ, List.set_cons_zero]
  rw [exS_for, rg0 (n := ps.length) (by simp) (by omega), R.ok_bind]
  generalize hf : (fun (d : D) (ρ : En) => bodyT _ _) = f
  have hrow : ∀ i, (row ps i).length ≤ 8 := fun i => by
    simp only [row, List.length_map]
    have := List.length_filter_le (fun j => befAt ps i j) (List.range ps.length)
    rw [List.length_range] at this
    omega
  have key := forGo_pre (f := f) (g := fun i : Nat => PyData.int (i : Nat))
    (fun pre ρ => ∃ x2 x3, ρ = [.val (enc (Tu.mk ps)), .val (.list ((pre.flatMap (row ps)).map enc)), x2, x3]) (xs := List.range ps.length) (fun pre i post ρ hx hρ => ?_) (ρ := [.val (enc (Tu.mk ps)), .val (.list []), .no, .no]) ⟨_, _, rfl⟩
  · obtain ⟨ρ', e, x2, x3, he⟩ := key
    rw [e, he]
    have : ((List.range ps.length).flatMap (row ps)) = prs ps := rfl
    rw [this]
    simp
    rfl
  · obtain ⟨x2, x3, rfl⟩ := hρ
    have hi : i ∈ List.range ps.length := by rw [hx]; simp
    have hpl : pre.length ≤ 8 := by
      have := congrArg List.length hx
      simp at this
      omega
    have hb : (pre.flatMap (row ps)).length ≤ pre.length * 8 := flatMap_length_le _ 8 pre fun x _ => hrow x
    have c : ev (Tb ds (k + 1)) (.comp [("other", 3)] (.nm 3) (.rg .nil (.bi .len (.cons (.var 0) .nil))) (.call "_law_first" (.cons (.idx (.var 0) (.var 2)) (.cons (.idx (.var 0) (.var 3)) .nil))) (.tup (.cons (.var 2) (.cons (.var 3) .nil)))) [.val (enc (Tu.mk ps)), .val (.list ((pre.flatMap (row ps)).map enc)), .val (.int (i : Nat)), x3] = .ok (.list ((row ps i).map enc)) := by
      rw [ev_comp, rg0 (n := ps.length) (by simp) (by omega), R.ok_bind, compGo_filter (p := fun j => befAt ps i j) (h := fun j => enc (i, j)) (fun j hj => by
        obtain ⟨p, q, h1, h2, h3⟩ := befAt_get (range_get hi) (range_get hj)
        have l2 : ∀ a b : D, [a, b].length ≤ big := fun a b => le_big (by simp)
        have ep : (enc (Tu.mk ps) : D) = .tuple (ps.map enc) := rfl
        rw [ep]
        simp only [setT_nm, onT_ok, wipeR, List.map_cons, List.map_nil, List.set_cons_succ, List.set_cons_zero, ev_call, evL_cons, evL_nil, ev_idx, ev_var, List.getElem?_cons_zero, List.getElem?_cons_succ, R.ok_bind, ix_tup, atI_enc enc h1, atI_enc enc h2, nx_ok, r_first h k p q, h3, ev_tup, if_pos (l2 _ _)]
        cases bef p q <;> rfl)]
      simp [row, List.map_map, Function.comp_def]
    have hlen : ((pre.flatMap (row ps)).map (enc (α := Nat × Nat))).length + ((row ps i).map (enc (α := Nat × Nat))).length ≤ big := by
      rw [List.length_map, List.length_map]
      have := hrow i
      exact le_big (by omega)
    refine ⟨[.val (enc (Tu.mk ps)), .val (.list (((pre ++ [i]).flatMap (row ps)).map enc)), .val (.int (i : Nat)), x3], ?_, _, _, rfl⟩
    rw [← hf]
    simp only [setT_nm, bodyT_ok, List.set_cons_succ, List.set_cons_zero, exS_seq, exS_nm, ev_bin, ev_var, List.getElem?_cons_zero, List.getElem?_cons_succ, R.ok_bind, c, bo_add, ad_list, if_pos hlen, nx_ok, thenS_nx, exS_skip]
    simp
end
end Pi

set_option Elab.async false
set_option linter.all false
set_option maxRecDepth 100000
set_option maxHeartbeats 4000000
/-! M4: the law's draws. -/
namespace Pi
open PySem PySem.Spec PyProof.Rows L2
open Enc (enc)
theorem ix_scr {ns : List Int} {i : Nat} {z : Int} (h : ns[i]? = some z) : ixD (scr ns) (.int (i : Nat)) = .ok (.int z) := by
  show (if isScr (ns.map fun n => ((.int n : D), (.none : D))) then (match atI (ns.map fun n => ((.int n : D), (.none : D))) (i : Int) with | some d => R.ok d.1 | none => .bad) else .bad) = _
  rw [if_pos (isScr_map ns)]
  have hl := (List.getElem?_eq_some_iff.mp h).1
  rw [atI_nat _ _ (by simpa using hl), List.getElem?_map, h]
  rfl
theorem eq_scr (ns : List Int) : eqD (scr ns) (.list []) = .ok (decide (ns = [])) := by
  have h := eqD_enc (α := List Int) (by decide) ns []
  have e : (enc ns : D) = .list (ns.map .int) := rfl
  unfold eqD at h ⊢
  rw [unscr_enc, e] at h
  rw [unscr_scr]
  exact h
theorem mul_small {a b : Int} (h : smallI a = true ∨ smallI b = true) : mulD (.int a) (.int b) = .ok (.int (a * b)) := by
  show (if smallI a || smallI b then R.ok (PyData.int (a * b)) else .bad) = _
  rw [if_pos (by rw [Bool.or_eq_true]; exact h)]
def dLoop (rest : Int) : Nat → Int
  | 0 => rest
  | t + 1 => if 0 < rest then dLoop (rest / 1000000) t else rest
def dFin (cell : Int) (k : Nat) (many : Nat) : Int :=
  let a := (cell % 2147483563 * 69069 + 104723 * ((k : Int) + 1)) % 2147483563
  let b := (a * a + a / 3) % 2147483399
  (b * b + b / 7) % 2147483647 / 11 % many
def drw (ns : List Int) (k many : Nat) : Int :=
  match ns[k % ns.length]? with
  | none => dFin (7 * k) k many
  | some c => if 1000000000000000000 ≤ c ∧ k / ns.length < 60 ∧ 0 < dLoop (c / 1000000000000000000) (k / ns.length) then dLoop (c / 1000000000000000000) (k / ns.length) % 1000000 % many
    else dFin (c + 6553 * ((k / ns.length : Nat) : Int)) k many
theorem drw_lt (ns : List Int) (k many : Nat) (hm : 0 < many) : 0 ≤ drw ns k many ∧ drw ns k many < many := by
  have h : ∀ z : Int, 0 ≤ z % many ∧ z % many < many := fun z => ⟨Int.emod_nonneg _ (by omega), Int.emod_lt_of_pos _ (by omega)⟩
  unfold drw dFin
  split
  · exact h _
  · split
    · exact h _
    · exact h _
def wBody : S := (.seq (.asg (.nm 5) (.bin .fdiv (.var 5) (.int 1000000))) (.seq (.asg (.nm 4) (.bin .sub (.var 4) (.int 1))) .skip))
def wCond : E := (.and (.cons (.cmp .gt (.var 5) (.int 0)) (.cons (.cmp .gt (.var 4) (.int 0)) .nil)))
theorem d_while (T : Str → List D → R D) (x0 x1 x2 x3 : Sl) : ∀ (t n : Nat) (rest : Int), t < n → ∃ t' : Sl, whileGo (ev T wCond) (exS T wBody) n [x0, x1, x2, x3, .val (.int (t : Nat)), .val (.int rest)] = .ok (.nx, [x0, x1, x2, x3, t', .val (.int (dLoop rest t))])
  | 0, n + 1, rest, h => by
    refine ⟨.val (.int (0 : Nat)), ?_⟩
    unfold whileGo
    by_cases hr : 0 < rest <;> simp [wCond, hr, dLoop]
  | t + 1, n + 1, rest, h => by
    by_cases hr : 0 < rest
    · obtain ⟨t', e⟩ := d_while T x0 x1 x2 x3 t n (rest / 1000000) (by omega)
      refine ⟨t', ?_⟩
      unfold whileGo
      have ht : (0 : Int) < (t : Int) + 1 := by omega
      have hb : exS T wBody [x0, x1, x2, x3, .val (.int ((t + 1 : Nat) : Int)), .val (.int rest)] = .ok (.nx, [x0, x1, x2, x3, .val (.int (t : Nat)), .val (.int (rest / 1000000))]) := by
        have e1 : (((t + 1 : Nat) : Int) - 1) = (t : Int) := by omega
        have e2 : (1000000 : Int).natAbs.log2 < 9000 := by decide
        simp only [wBody, exS_seq, exS_nm, ev_bin, ev_var, ev_int, List.getElem?_cons_succ, List.getElem?_cons_zero, R.ok_bind, bo_fdiv, if_pos (show (0 : Int) < 1000000 ∧ (1000000 : Int).natAbs.log2 < 9000 from ⟨by decide, e2⟩), nx_ok, List.set_cons_succ, List.set_cons_zero, thenS_nx, bo_sub, e1, exS_skip]
      have hc : ev T wCond [x0, x1, x2, x3, .val (.int ((t + 1 : Nat) : Int)), .val (.int rest)] = .ok (.bool true) := by
        simp [wCond, hr, ht]
      simp only [hc, hb, dLoop, if_pos hr]
      exact e
    · refine ⟨.val (.int ((t + 1 : Nat) : Int)), ?_⟩
      unfold whileGo
      have hc : ev T wCond [x0, x1, x2, x3, .val (.int ((t + 1 : Nat) : Int)), .val (.int rest)] = .ok (.bool false) := by
        simp [wCond, hr]
      simp only [hc, dLoop, if_neg hr]
def dTail : S := (.seq (.asg (.nm 3) (.bin .mod (.bin .add (.bin .mul (.bin .mod (.var 3) (.int 2147483563)) (.int 69069)) (.bin .mul (.int 104723) (.bin .add (.var 1) (.int 1)))) (.int 2147483563))) (.seq (.asg (.nm 3) (.bin .mod (.bin .add (.bin .mul (.var 3) (.var 3)) (.bin .fdiv (.var 3) (.int 3))) (.int 2147483399))) (.seq (.ret (.bin .mod (.bin .fdiv (.bin .mod (.bin .add (.bin .mul (.var 3) (.var 3)) (.bin .fdiv (.var 3) (.int 7))) (.int 2147483647)) (.int 11)) (.var 2))) .skip)))
theorem fdiv_lit {a b : Int} (h : 0 < b) (h2 : b.natAbs.log2 < 9000) : binD .fdiv (.int a) (.int b) = .ok (.int (a / b)) := by
  rw [bo_fdiv, if_pos ⟨h, h2⟩]
theorem mod_lit {a b : Int} (h : 0 < b) : binD .mod (.int a) (.int b) = .ok (.int (a % b)) := by
  rw [bo_mod, if_pos h]
theorem small_mod {a b : Int} (h : 0 < b) (h2 : b ≤ 18446744073709551616) : smallI (a % b) = true := by
  rw [smallI_iff]
  have := Int.emod_nonneg a (show b ≠ 0 by omega)
  have := Int.emod_lt_of_pos a h
  omega
theorem dtail_run (T : Str → List D → R D) (x0 x4 x5 : Sl) (k many : Nat) (c : Int) (hm : 0 < many) : ∃ ρ', exS T dTail [x0, .val (.int (k : Nat)), .val (.int (many : Nat)), .val (.int c), x4, x5] = .ok (.rt (.int (dFin c k many)), ρ') := by
  have hm' : (0 : Int) < (many : Int) := by omega
  unfold dFin
  generalize ha : (c % 2147483563 * 69069 + 104723 * ((k : Int) + 1)) % 2147483563 = a
  have sa : smallI a = true := by rw [← ha]; exact small_mod (by decide) (by decide)
  generalize hb : (a * a + a / 3) % 2147483399 = b
  have sb : smallI b = true := by rw [← hb]; exact small_mod (by decide) (by decide)
  have m1 : mulD (.int (c % 2147483563)) (.int 69069) = .ok (.int (c % 2147483563 * 69069)) := mul_small (.inr rfl)
  have m2 : mulD (.int 104723) (.int ((k : Int) + 1)) = .ok (.int (104723 * ((k : Int) + 1))) := mul_small (.inl rfl)
  have m3 : mulD (.int a) (.int a) = .ok (.int (a * a)) := mul_small (.inl sa)
  have m4 : mulD (.int b) (.int b) = .ok (.int (b * b)) := mul_small (.inl sb)
  have d0 : binD .mod (.int c) (.int 2147483563) = .ok (.int (c % 2147483563)) := mod_lit (by decide)
  have d1 : binD .mod (.int (c % 2147483563 * 69069 + 104723 * ((k : Int) + 1))) (.int 2147483563) = .ok (.int a) := by rw [mod_lit (by decide), ha]
  have d2 : binD .fdiv (.int a) (.int 3) = .ok (.int (a / 3)) := fdiv_lit (by decide) (by decide)
  have d3 : binD .mod (.int (a * a + a / 3)) (.int 2147483399) = .ok (.int b) := by rw [mod_lit (by decide), hb]
  have d4 : binD .fdiv (.int b) (.int 7) = .ok (.int (b / 7)) := fdiv_lit (by decide) (by decide)
  have d5 : binD .mod (.int (b * b + b / 7)) (.int 2147483647) = .ok (.int ((b * b + b / 7) % 2147483647)) := mod_lit (by decide)
  have d6 : binD .fdiv (.int ((b * b + b / 7) % 2147483647)) (.int 11) = .ok (.int ((b * b + b / 7) % 2147483647 / 11)) := fdiv_lit (by decide) (by decide)
  have d7 : binD .mod (.int ((b * b + b / 7) % 2147483647 / 11)) (.int (many : Int)) = .ok (.int ((b * b + b / 7) % 2147483647 / 11 % (many : Int))) := mod_lit hm'
  refine ⟨[x0, .val (.int (k : Nat)), .val (.int (many : Nat)), .val (.int b), x4, x5], ?_⟩
  simp only [dTail, exS_seq, exS_nm, exS_ret, ev_bin, ev_var, ev_int, List.getElem?_cons_succ, List.getElem?_cons_zero, R.ok_bind, nx_ok, bo_add, bo_mul, ad_int, m1, m2, m3, m4, d0, d1, d2, d3, d4, d5, d6, d7, List.set_cons_succ, List.set_cons_zero, thenS_nx, thenS_rt, hb]
theorem drawn_run (T : Str → List D → R D) (ns : List Int) (hlen : ns.length ≤ 63) (k many : Nat) (hm : 0 < many) : runD T 6 d__law_drawn.ir [scr ns, .int (k : Nat), .int (many : Nat)] = .ok (.int (drw ns k many)) := by
  rw [runD_eq]
  have hm' : (0 : Int) < (many : Int) := by omega
  have e0 : d__law_drawn.ir = .seq (.asg (.nm 3) (.bin .mul (.int 7) (.var 1))) (.seq (.ite (.cmp .ne (.var 0) (.lst .nil)) (.seq (.asg (.nm 3) (.idx (.var 0) (.bin .mod (.var 1) (.bi .len (.cons (.var 0) .nil))))) (.seq (.asg (.nm 4) (.bin .fdiv (.var 1) (.bi .len (.cons (.var 0) .nil)))) (.seq (.ite (.and (.cons (.cmp .ge (.var 3) (.bin .pow (.int 10) (.int 18))) (.cons (.cmp .lt (.var 4) (.int 60)) .nil))) (.seq (.asg (.nm 5) (.bin .fdiv (.var 3) (.bin .pow (.int 10) (.int 18)))) (.seq (.while_ 64 wCond wBody) (.seq (.ite (.cmp .gt (.var 5) (.int 0)) (.seq (.ret (.bin .mod (.bin .mod (.var 5) (.int 1000000)) (.var 2))) .skip) .skip) .skip))) .skip) (.seq (.asg (.nm 3) (.bin .add (.var 3) (.bin .mul (.int 6553) (.bin .fdiv (.var 1) (.bi .len (.cons (.var 0) .nil)))))) .skip)))) .skip) dTail) := rfl
  show outR (exS T d__law_drawn.ir [.val (scr ns), .val (.int (k : Nat)), .val (.int (many : Nat)), .no, .no, .no]) = _
  rw [e0]
  have m7 : mulD (.int 7) (.int (k : Int)) = .ok (.int (7 * (k : Int))) := mul_small (.inl rfl)
  have hn : cmpD .ne (scr ns) (.list []) = .ok (.bool (!decide (ns = []))) := by rw [cm_ne, eq_scr]; rfl
  have l0 : ∀ ρ, ev T (.lst .nil) ρ = .ok (.list []) := fun _ => rfl
  have pw : binD .pow (.int 10) (.int 18) = .ok (.int 1000000000000000000) := rfl
  cases hz : ns[k % ns.length]? with
  | none =>
    have hnil : ns = [] := by
      cases ns with
      | nil => rfl
      | cons x xs => rw [List.getElem?_eq_none_iff] at hz; have := Nat.mod_lt k (show 0 < (x :: xs).length by simp); omega
    obtain ⟨ρ', e⟩ := dtail_run T (.val (scr ns)) .no .no k many (7 * k) hm
    rw [show drw ns k many = dFin (7 * k) k many by unfold drw; rw [hz]]
    subst hnil
    simp only [exS_seq, exS_nm, ev_bin, ev_var, ev_int, List.getElem?_cons_succ, List.getElem?_cons_zero, R.ok_bind, nx_ok, bo_mul, m7, List.set_cons_succ, List.set_cons_zero, thenS_nx, exS_ite, ev_cmp, l0, hn, decide_true, Bool.not_true, exS_skip, e, outR_rt]
  | some c =>
    have hpos : 0 < ns.length := by
      have := (List.getElem?_eq_some_iff.mp hz).1
      omega
    have hnil : ns ≠ [] := fun z => by rw [z] at hpos; cases hpos
    have hpos' : (0 : Int) < (ns.length : Int) := by omega
    have ed : decide (ns = []) = false := decide_eq_false hnil
    have hlog : (ns.length : Int).natAbs.log2 < 9000 := by
      rw [Int.natAbs_natCast]
      have := Nat.log2_le_self ns.length
      omega
    have d1 : binD .mod (.int (k : Int)) (.int (ns.length : Int)) = .ok (.int ((k % ns.length : Nat) : Int)) := by rw [mod_lit hpos']; rfl
    have d2 : binD .fdiv (.int (k : Int)) (.int (ns.length : Int)) = .ok (.int ((k / ns.length : Nat) : Int)) := by rw [fdiv_lit hpos' hlog]; rfl
    have ixs := ix_scr hz
    generalize ht : k / ns.length = t at d2
    have d3 : binD .fdiv (.int c) (.int 1000000000000000000) = .ok (.int (c / 1000000000000000000)) := fdiv_lit (by decide) (by decide)
    have m8 : mulD (.int 6553) (.int (t : Int)) = .ok (.int (6553 * (t : Int))) := mul_small (.inl rfl)
    have lenR : ∀ x1 x2 x3 x4 x5, ev T (.bi .len (.cons (.var 0) .nil)) [.val (scr ns), x1, x2, x3, x4, x5] = .ok (.int (ns.length : Int)) := fun x1 x2 x3 x4 x5 => by
      simp only [ev_bi, evL_cons, evL_nil, ev_var, List.getElem?_cons_zero, R.ok_bind, bi_len, ln_scr, nx_ok]
    have hdr : drw ns k many = if 1000000000000000000 ≤ c ∧ t < 60 ∧ 0 < dLoop (c / 1000000000000000000) t then dLoop (c / 1000000000000000000) t % 1000000 % many else dFin (c + 6553 * (t : Int)) k many := by
      unfold drw; rw [hz, ht]
    rw [hdr]
    by_cases h1 : (1000000000000000000 : Int) ≤ c
    · by_cases h2 : t < 60
      · have h2' : ((t : Int) < 60) := by omega
        obtain ⟨t', ew⟩ := d_while T (.val (scr ns)) (.val (.int (k : Nat))) (.val (.int (many : Nat))) (.val (.int c)) t 64 (c / 1000000000000000000) (by omega)
        generalize dLoop (c / 1000000000000000000) t = q at ew ⊢
        have md : binD .mod (.int q) (.int 1000000) = .ok (.int (q % 1000000)) := mod_lit (by decide)
        have md2 : binD .mod (.int (q % 1000000)) (.int (many : Int)) = .ok (.int (q % 1000000 % (many : Int))) := mod_lit hm'
        obtain ⟨ρ', ef⟩ := dtail_run T (.val (scr ns)) t' (.val (.int q)) k many (c + 6553 * (t : Int)) hm
        by_cases h3 : 0 < q
        · rw [if_pos ⟨h1, h2, h3⟩]
          simp only [exS_seq, exS_nm, ev_bin, ev_var, ev_int, ev_idx, List.getElem?_cons_succ, List.getElem?_cons_zero, R.ok_bind, nx_ok, bo_mul, m7, List.set_cons_succ, List.set_cons_zero, thenS_nx, exS_ite, ev_cmp, l0, hn, ed, Bool.not_false, lenR, d1, d2, ixs, ev_and, evA_cons, evA_one, pw, cm_ge, cm_lt, cm_gt, decide_eq_true h1, decide_eq_true h2', d3, exS_while, ew, decide_eq_true h3, exS_ret, md, md2, thenS_rt, outR_rt]
        · rw [if_neg (fun z => h3 z.2.2)]
          simp only [exS_seq, exS_nm, ev_bin, ev_var, ev_int, ev_idx, List.getElem?_cons_succ, List.getElem?_cons_zero, R.ok_bind, nx_ok, bo_mul, m7, List.set_cons_succ, List.set_cons_zero, thenS_nx, exS_ite, ev_cmp, l0, hn, ed, Bool.not_false, lenR, d1, d2, ixs, ev_and, evA_cons, evA_one, pw, cm_ge, cm_lt, cm_gt, decide_eq_true h1, decide_eq_true h2', d3, exS_while, ew, decide_eq_false h3, exS_skip, m8, bo_add, ad_int, ef, outR_rt]
      · have h2' : ¬ ((t : Int) < 60) := by omega
        obtain ⟨ρ', ef⟩ := dtail_run T (.val (scr ns)) (.val (.int (t : Nat))) .no k many (c + 6553 * (t : Int)) hm
        rw [if_neg (fun z => h2 z.2.1)]
        simp only [exS_seq, exS_nm, ev_bin, ev_var, ev_int, ev_idx, List.getElem?_cons_succ, List.getElem?_cons_zero, R.ok_bind, nx_ok, bo_mul, m7, List.set_cons_succ, List.set_cons_zero, thenS_nx, exS_ite, ev_cmp, l0, hn, ed, Bool.not_false, lenR, d1, d2, ixs, ev_and, evA_cons, evA_one, pw, cm_ge, cm_lt, cm_gt, decide_eq_true h1, decide_eq_false h2', exS_skip, m8, bo_add, ad_int, ef, outR_rt]
    · obtain ⟨ρ', ef⟩ := dtail_run T (.val (scr ns)) (.val (.int (t : Nat))) .no k many (c + 6553 * (t : Int)) hm
      rw [if_neg (fun z => h1 z.1)]
      simp only [exS_seq, exS_nm, ev_bin, ev_var, ev_int, ev_idx, List.getElem?_cons_succ, List.getElem?_cons_zero, R.ok_bind, nx_ok, bo_mul, m7, List.set_cons_succ, List.set_cons_zero, thenS_nx, exS_ite, ev_cmp, l0, hn, ed, Bool.not_false, lenR, d1, d2, ixs, ev_and, evA_cons, evA_one, pw, cm_ge, cm_lt, cm_gt, decide_eq_false h1, exS_skip, m8, bo_add, ad_int, ef, outR_rt]
theorem r_drawn {ds : List Df} (h : findD ds "_law_drawn" = some d__law_drawn) (L : Nat) {ns : List Int} (hlen : ns.length ≤ 63) (k many : Nat) (hm : 0 < many) : Tb ds (L + 1) "_law_drawn" [scr ns, .int (k : Nat), .int (many : Nat)] = .ok (.int (drw ns k many)) := by
  rw [Tb_run h rfl]
  exact drawn_run _ ns hlen k many hm
end Pi

set_option Elab.async false
set_option linter.all false
set_option maxRecDepth 100000
set_option maxHeartbeats 4000000
/-! M5: panels that lie apart; the law's page. -/
namespace Pi
open PySem PySem.Spec PyProof.Rows L2
open Enc (enc)
def Ap (p q : Pn) : Prop := p.r ≤ q.l ∨ q.r ≤ p.l ∨ p.b ≤ q.t ∨ q.b ≤ p.t
theorem Ap.symm {p q : Pn} (h : Ap p q) : Ap q p := by unfold Ap at *; omega
theorem ovl_iff (p q : Pn) : ovl p q = false ↔ Ap p q := by
  unfold ovl shW shH Ap
  rw [Bool.eq_false_iff]
  simp only [ne_eq, Bool.and_eq_true, decide_eq_true_eq]
  omega
theorem apart_iff (ps : List Pn) : apartAll ps = true ↔ ps.Pairwise Ap := by
  unfold apartAll
  rw [Bool.not_eq_true', List.any_eq_false, List.pairwise_iff_getElem]
  constructor
  · intro h i j hi hj hij
    have h1 := h (ps[i], i) (by rw [List.mem_zipIdx_iff_getElem?]; simp [List.getElem?_eq_getElem hi])
    rw [Bool.not_eq_true, List.any_eq_false] at h1
    have h2 := h1 ps[j] (by
      rw [List.mem_iff_getElem?]
      exact ⟨j - (i + 1), by rw [List.getElem?_drop, show i + 1 + (j - (i + 1)) = j by omega, List.getElem?_eq_getElem hj]⟩)
    rw [Bool.not_eq_true] at h2
    exact (ovl_iff _ _).mp h2
  · rintro h ⟨p, i⟩ hq
    rw [List.mem_zipIdx_iff_getElem?] at hq
    have hq : ps[i]? = some p := by simpa using hq
    obtain ⟨hi, e⟩ := List.getElem?_eq_some_iff.mp hq
    rw [Bool.not_eq_true, List.any_eq_false]
    intro o ho
    rw [List.mem_iff_getElem?] at ho
    obtain ⟨m, hm⟩ := ho
    rw [List.getElem?_drop] at hm
    obtain ⟨hj, e2⟩ := List.getElem?_eq_some_iff.mp hm
    have := h i (i + 1 + m) hi hj (by omega)
    rw [e, e2] at this
    rw [Bool.not_eq_true]
    exact (ovl_iff _ _).mpr this
/-- within the twelve -/
structure Pn.In (p : Pn) : Prop where
  l0 : 0 ≤ p.l
  t0 : 0 ≤ p.t
  lr : p.l < p.r
  tb : p.t < p.b
  r12 : p.r ≤ 12
  b12 : p.b ≤ 12
theorem Pn.In.ok {p : Pn} (h : p.In) : p.Ok := ⟨h.l0, h.t0, h.lr, h.tb, by have := h.r12; omega, by have := h.b12; omega⟩
structure Sheet (ps : List Pn) : Prop where
  ins : ∀ p ∈ ps, p.In
  ap : ps.Pairwise Ap
theorem Sheet.good {ps : List Pn} (h : Sheet ps) (hl : ps.length ≤ 8) : Good8 ps := ⟨hl, fun p hp => (h.ins p hp).ok, (apart_iff ps).mpr h.ap⟩
theorem Sheet.sub {ps qs : List Pn} (h : Sheet ps) (s : qs.Sublist ps) : Sheet qs := ⟨fun p hp => h.ins p (s.subset hp), h.ap.sublist s⟩
/-- x, y lie within p -/
def Wi (x p : Pn) : Prop := p.l ≤ x.l ∧ p.t ≤ x.t ∧ x.r ≤ p.r ∧ x.b ≤ p.b
theorem Ap.within {x p q : Pn} (h : Ap p q) (w : Wi x p) : Ap x q := by unfold Ap Wi at *; omega
theorem Sheet.split {A B : List Pn} {p x y : Pn} (h : Sheet (A ++ p :: B)) (hx : x.In) (hy : y.In) (wx : Wi x p) (wy : Wi y p) (a : Ap x y) : Sheet (A ++ [x] ++ B ++ [y]) := by
  obtain ⟨h1, h2⟩ := h
  rw [List.pairwise_append, List.pairwise_cons] at h2
  obtain ⟨hA, ⟨hp, hB⟩, hAB⟩ := h2
  have hAp : ∀ z ∈ A, Ap z p := fun z hz => hAB z hz p List.mem_cons_self
  refine ⟨fun q hq => ?_, ?_⟩
  · simp only [List.mem_append, List.mem_singleton] at hq
    rcases hq with ((hq | rfl) | hq) | rfl
    · exact h1 q (by simp [hq])
    · exact hx
    · exact h1 q (by simp [hq])
    · exact hy
  · rw [List.pairwise_append, List.pairwise_append, List.pairwise_append]
    refine ⟨⟨⟨hA, List.pairwise_singleton _ _, fun z hz w hw => ?_⟩, hB, fun z hz w hw => ?_⟩, List.pairwise_singleton _ _, fun z hz w hw => ?_⟩
    · rw [List.mem_singleton.mp hw]; exact ((hAp z hz).symm.within wx).symm
    · rcases List.mem_append.mp hz with hz | hz
      · exact hAB z hz w (List.mem_cons_of_mem _ hw)
      · rw [List.mem_singleton.mp hz]; exact (hp w hw).within wx
    · rw [List.mem_singleton.mp hw]
      rcases List.mem_append.mp hz with hz | hz
      · rcases List.mem_append.mp hz with hz | hz
        · exact ((hAp z hz).symm.within wy).symm
        · rw [List.mem_singleton.mp hz]; exact a
      · exact ((hp z hz).within wy).symm
theorem Sheet.snoc {ps : List Pn} {y : Pn} (h : Sheet ps) (hy : y.In) (a : ∀ p ∈ ps, Ap p y) : Sheet (ps ++ [y]) :=
  ⟨fun q hq => by rcases List.mem_append.mp hq with hq | hq; exact h.ins q hq; rw [List.mem_singleton.mp hq]; exact hy,
   by rw [List.pairwise_append]; exact ⟨h.ap, List.pairwise_singleton _ _, fun z hz w hw => by rw [List.mem_singleton.mp hw]; exact a z hz⟩⟩
/-! ### draws with integers -/
def dI (ns : List Int) (k many : Int) : Int := drw ns k.toNat many.toNat
theorem dI_lt (ns : List Int) (k : Int) {many : Int} (hm : 0 < many) : 0 ≤ dI ns k many ∧ dI ns k many < many := by
  have := drw_lt ns k.toNat many.toNat (by omega)
  unfold dI
  omega
theorem r_dI {ds : List Df} (h : findD ds "_law_drawn" = some d__law_drawn) (L : Nat) {ns : List Int} (hlen : ns.length ≤ 63) {k many : Int} (hk : 0 ≤ k) (hm : 0 < many) : Tb ds (L + 1) "_law_drawn" [scr ns, .int k, .int many] = .ok (.int (dI ns k many)) := by
  have := r_drawn h L hlen k.toNat many.toNat (by omega)
  rw [Int.toNat_of_nonneg hk, Int.toNat_of_nonneg (by omega)] at this
  exact this
end Pi

set_option Elab.async false
set_option linter.all false
set_option maxRecDepth 100000
set_option maxHeartbeats 4000000
/-! M6: the law's page: its cuts. -/
namespace Pi
open PySem PySem.Spec PyProof.Rows L2
open Enc (enc)
section
variable {α : Type} [Enc α]
theorem ix_enc {xs : List α} {i : Int} {x : α} (h0 : 0 ≤ i) (h : xs[i.toNat]? = some x) : ixD (enc xs) (.int i) = .ok (enc x) := by
  have := atI_enc enc h
  rw [Int.toNat_of_nonneg h0] at this
  show (match atI (xs.map enc) i with | some d => R.ok d | none => .bad) = _
  rw [this]
theorem add_enc {xs ys : List α} (h : xs.length + ys.length ≤ 1000) : addD (enc xs) (enc ys) = .ok (enc (xs ++ ys)) := by
  show (if (xs.map enc).length + (ys.map enc).length ≤ big then R.ok (PyData.list (xs.map enc ++ ys.map enc)) else .bad) = _
  rw [if_pos (by rw [List.length_map, List.length_map]; exact le_big h), ← List.map_append]
  rfl
theorem sl_to {xs : List α} {i : Int} (h0 : 0 ≤ i) : slD (enc xs) none (some i) = .ok (enc (xs.take i.toNat)) := by
  show R.ok (PyData.list (cutD (xs.map enc) none (some i))) = _
  have := cut_to enc xs i.toNat
  rw [Int.toNat_of_nonneg h0] at this
  rw [this]
  rfl
theorem sl_from {xs : List α} {i : Int} (h0 : 0 ≤ i) : slD (enc xs) (some (i + 1)) none = .ok (enc (xs.drop (i.toNat + 1))) := by
  show R.ok (PyData.list (cutD (xs.map enc) (some (i + 1)) none)) = _
  have := cut_from enc xs (i.toNat + 1)
  rw [show ((i.toNat + 1 : Nat) : Int) = i + 1 by omega] at this
  rw [this]
  rfl
theorem lst1 (x : α) : (PyData.list [enc x] : D) = enc [x] := rfl
theorem ix2 {x y : α} {i : Int} (h0 : 0 ≤ i) (h2 : i < 2) : ixD (.list [enc x, enc y]) (.int i) = .ok (enc (if i = 0 then x else y)) := by
  have : i = 0 ∨ i = 1 := by omega
  rcases this with rfl | rfl
  · rfl
  · rfl
end
theorem l1 (a : D) : [a].length ≤ big := le_big (by simp)
theorem l2 (a b : D) : [a, b].length ≤ big := le_big (by simp)
theorem l4 (a b c d : D) : [a, b, c, d].length ≤ big := le_big (by simp)
theorem pn_mk (a b c d : Int) : (PyData.tuple [.int a, .int b, .int c, .int d] : D) = enc (Pn.mk a b c d) := rfl
theorem pn_quad (p : Pn) (a b c d : Nat) (ρ : En) : setT (.tp [a, b, c, d]) (enc p) ρ = .ok ((((ρ.set a (.val (.int p.l))).set b (.val (.int p.t))).set c (.val (.int p.r))).set d (.val (.int p.b))) := rfl
theorem st_pair (x y : D) (a b : Nat) (ρ : En) : setT (.tp [a, b]) (.tuple [x, y]) ρ = .ok ((ρ.set a (.val x)).set b (.val y)) := rfl
def pgB1 : S := (.seq (.asg (.tp [6, 7]) (.tup (.cons (.call "_law_drawn" (.cons (.var 0) (.cons (.bin .add (.bin .add (.var 1) (.int 1)) (.bin .mul (.int 4) (.var 5))) (.cons (.bi .len (.cons (.var 3) .nil)) .nil)))) (.cons (.call "_law_drawn" (.cons (.var 0) (.cons (.bin .add (.bin .add (.var 1) (.int 2)) (.bin .mul (.int 4) (.var 5))) (.cons (.int 2) .nil)))) .nil)))) (.seq (.asg (.tp [8, 9, 10, 11]) (.idx (.var 3) (.var 6))) (.seq (.asg (.nm 12) (.ite (.cmp .eq (.var 7) (.int 0)) (.bin .sub (.var 10) (.var 8)) (.bin .sub (.var 11) (.var 9)))) (.seq (.ite (.cmp .gt (.var 12) (.int 1)) (.seq (.asg (.nm 13) (.bin .add (.int 1) (.call "_law_drawn" (.cons (.var 0) (.cons (.bin .add (.bin .add (.var 1) (.int 3)) (.bin .mul (.int 4) (.var 5))) (.cons (.bin .sub (.var 12) (.int 1)) .nil)))))) (.seq (.asg (.nm 14) (.ite (.cmp .eq (.var 7) (.int 0)) (.tup (.cons (.var 8) (.cons (.var 9) (.cons (.bin .add (.var 8) (.var 13)) (.cons (.var 11) .nil))))) (.tup (.cons (.var 8) (.cons (.var 9) (.cons (.var 10) (.cons (.bin .add (.var 9) (.var 13)) .nil))))))) (.seq (.asg (.nm 15) (.ite (.cmp .eq (.var 7) (.int 0)) (.tup (.cons (.bin .add (.var 8) (.var 13)) (.cons (.var 9) (.cons (.var 10) (.cons (.var 11) .nil))))) (.tup (.cons (.var 8) (.cons (.bin .add (.var 9) (.var 13)) (.cons (.var 10) (.cons (.var 11) .nil))))))) (.seq (.asg (.nm 16) (.call "_law_drawn" (.cons (.var 0) (.cons (.bin .add (.bin .add (.var 1) (.int 4)) (.bin .mul (.int 4) (.var 5))) (.cons (.int 2) .nil))))) (.seq (.asg (.nm 3) (.bin .add (.bin .add (.bin .add (.slc (.var 3) .nil (.var 6)) (.lst (.cons (.idx (.lst (.cons (.var 14) (.cons (.var 15) .nil))) (.var 16)) .nil))) (.slc (.var 3) (.bin .add (.var 6) (.int 1)) .nil)) (.lst (.cons (.idx (.lst (.cons (.var 15) (.cons (.var 14) .nil))) (.var 16)) .nil)))) .skip))))) .skip) .skip))))
def pgB2 : S := (.seq (.own 4 (.bin .add (.bor 4) (.ite (.cmp .gt (.call "_law_drawn" (.cons (.var 0) (.cons (.bin .add (.bin .add (.var 1) (.int 40)) (.var 5)) (.cons (.int 5) .nil)))) (.int 0)) (.lst (.cons (.var 17) .nil)) (.lst .nil)))) .skip)
def pgT : S := (.seq (.ite (.cmp .eq (.call "_law_drawn" (.cons (.var 0) (.cons (.bin .add (.var 1) (.int 50)) (.cons (.int 4) .nil)))) (.int 0)) (.seq (.own 4 (.lst (.cons (.tup (.cons (.int 2) (.cons (.int 0) (.cons (.int 8) (.cons (.int 2) .nil))))) (.cons (.tup (.cons (.int 6) (.cons (.int 2) (.cons (.int 8) (.cons (.int 8) .nil))))) (.cons (.tup (.cons (.int 0) (.cons (.int 6) (.cons (.int 6) (.cons (.int 8) .nil))))) (.cons (.tup (.cons (.int 0) (.cons (.int 0) (.cons (.int 2) (.cons (.int 6) .nil))))) (.cons (.tup (.cons (.int 3) (.cons (.int 3) (.cons (.int 5) (.cons (.int 5) .nil))))) .nil))))))) (.seq (.own 4 (.slc (.bor 4) .nil (.bin .add (.int 2) (.call "_law_drawn" (.cons (.var 0) (.cons (.bin .add (.var 1) (.int 51)) (.cons (.int 4) .nil))))))) .skip)) .skip) (.seq (.ite (.cmp .eq (.call "_law_drawn" (.cons (.var 0) (.cons (.bin .add (.var 1) (.int 52)) (.cons (.int 4) .nil)))) (.int 0)) (.seq (.own 4 (.slc (.lst (.cons (.tup (.cons (.int 9) (.cons (.int 0) (.cons (.int 11) (.cons (.int 2) .nil))))) (.cons (.tup (.cons (.int 6) (.cons (.int 2) (.cons (.int 8) (.cons (.int 4) .nil))))) (.cons (.tup (.cons (.int 3) (.cons (.int 4) (.cons (.int 5) (.cons (.int 6) .nil))))) (.cons (.tup (.cons (.int 0) (.cons (.int 6) (.cons (.int 2) (.cons (.int 8) .nil))))) .nil))))) .nil (.bin .add (.int 2) (.call "_law_drawn" (.cons (.var 0) (.cons (.bin .add (.var 1) (.int 53)) (.cons (.int 3) .nil))))))) .skip) .skip) (.seq (.ite (.and (.cons (.cmp .lt (.bi .len (.cons (.bor 4) .nil)) (.var 2)) (.cons (.cmp .lt (.bi .max1 (.cons (.bin .add (.lst (.cons (.int 0) .nil)) (.comp [("panel", 17)] (.nm 17) (.iter (.bor 4)) .yes (.idx (.var 17) (.int 3)))) .nil)) (.int 9)) (.cons (.cmp .eq (.call "_law_drawn" (.cons (.var 0) (.cons (.bin .add (.var 1) (.int 54)) (.cons (.int 2) .nil)))) (.int 0)) .nil)))) (.seq (.app 4 (.tup (.cons (.int 0) (.cons (.int 9) (.cons (.int 12) (.cons (.int 12) .nil)))))) .skip) .skip) (.seq (.ret (.bi .tuple (.cons (.bor 4) .nil))) .skip))))
theorem pg_ir : d__law_page.ir = .seq (.asg (.tp [3, 4]) (.tup (.cons (.lst (.cons (.tup (.cons (.int 0) (.cons (.int 0) (.cons (.int 12) (.cons (.int 12) .nil))))) .nil)) (.cons (.lst .nil) .nil)))) (.seq (.for_ (.nm 5) (.rg .nil (.call "_law_drawn" (.cons (.var 0) (.cons (.var 1) (.cons (.var 2) .nil))))) pgB1) (.seq (.for_ (.tp [5, 17]) (.enum (.var 3)) pgB2) pgT)) := rfl
section
variable {ds : List Df} (hd : findD ds "_law_drawn" = some d__law_drawn) (L : Nat) {ns : List Int} (hlen : ns.length ≤ 63) (at_ most : Nat)
include hd hlen
theorem pg_cut {fs : List Pn} (hs : Sheet fs) (hne : fs ≠ []) (hfl : fs.length ≤ 100) (k : Nat) (x6 x7 x8 x9 x10 x11 x12 x13 x14 x15 x16 x17 : Sl) :
    ∃ fs' y6 y7 y8 y9 y10 y11 y12 y13 y14 y15 y16, exS (Tb ds (L + 1)) pgB1 [.val (scr ns), .val (.int (at_ : Nat)), .val (.int (most : Nat)), .val (enc fs), .val (.list []), .val (.int (k : Nat)), x6, x7, x8, x9, x10, x11, x12, x13, x14, x15, x16, x17] =
      .ok (.nx, [.val (scr ns), .val (.int (at_ : Nat)), .val (.int (most : Nat)), .val (enc fs'), .val (.list []), .val (.int (k : Nat)), y6, y7, y8, y9, y10, y11, y12, y13, y14, y15, y16, x17]) ∧ Sheet fs' ∧ fs' ≠ [] ∧ fs'.length ≤ fs.length + 1 := by
  have m4 : mulD (.int 4) (.int (k : Int)) = .ok (.int (4 * (k : Int))) := mul_small (.inl rfl)
  have hfp : (0 : Int) < (fs.length : Int) := by
    have : 0 < fs.length := List.length_pos_iff.mpr hne
    omega
  have b1 := dI_lt ns ((at_ : Int) + 1 + 4 * (k : Int)) hfp
  have b2 := dI_lt ns ((at_ : Int) + 2 + 4 * (k : Int)) (many := 2) (by omega)
  have e1 := r_dI hd L hlen (k := (at_ : Int) + 1 + 4 * (k : Int)) (many := (fs.length : Int)) (by omega) hfp
  have e2 := r_dI hd L hlen (k := (at_ : Int) + 2 + 4 * (k : Int)) (many := 2) (by omega) (by omega)
  generalize dI ns ((at_ : Int) + 1 + 4 * (k : Int)) (fs.length : Int) = place at b1 e1
  generalize dI ns ((at_ : Int) + 2 + 4 * (k : Int)) 2 = way at b2 e2
  have hpl : place.toNat < fs.length := by omega
  obtain ⟨p, hp⟩ : ∃ p, fs[place.toNat]? = some p := ⟨_, List.getElem?_eq_getElem hpl⟩
  have e3 := ix_enc b1.1 hp
  have hin := hs.ins p (List.mem_of_getElem? hp)
  have hsplit : fs = fs.take place.toNat ++ p :: fs.drop (place.toNat + 1) := by
    obtain ⟨hl, e⟩ := List.getElem?_eq_some_iff.mp hp
    rw [← e, ← List.drop_eq_getElem_cons hl, List.take_append_drop]
  have key : ∀ (a b : Pn) (tn : Int), 0 ≤ tn → tn < 2 → a.In → b.In → Wi a p → Wi b p → Ap a b →
      ∃ fs' : List Pn, fs' = fs.take place.toNat ++ [if tn = 0 then a else b] ++ fs.drop (place.toNat + 1) ++ [if tn = 0 then b else a] ∧ Sheet fs' ∧ fs' ≠ [] ∧ fs'.length ≤ fs.length + 1 := fun a b tn t0 t2 ha hb wa wb ab => by
    refine ⟨_, rfl, ?_, by simp, ?_⟩
    · have hs' := hs
      rw [hsplit] at hs'
      by_cases ht : tn = 0
      · simp only [ht, if_true]; exact hs'.split ha hb wa wb ab
      · simp only [ht, if_false]; exact hs'.split hb ha wb wa ab.symm
    · simp only [List.length_append, List.length_cons, List.length_nil, List.length_take, List.length_drop]
      omega
  have b3 : ∀ sz : Int, 1 < sz → _ := fun sz hsz => dI_lt ns ((at_ : Int) + 3 + 4 * (k : Int)) (many := sz - 1) (by omega)
  have e4 : ∀ sz : Int, 1 < sz → _ := fun sz hsz => r_dI hd L hlen (k := (at_ : Int) + 3 + 4 * (k : Int)) (many := sz - 1) (by omega) (by omega)
  have b5 := dI_lt ns ((at_ : Int) + 4 + 4 * (k : Int)) (many := 2) (by omega)
  have e5 := r_dI hd L hlen (k := (at_ : Int) + 4 + 4 * (k : Int)) (many := 2) (by omega) (by omega)
  generalize dI ns ((at_ : Int) + 4 + 4 * (k : Int)) 2 = tn at b5 e5
  have sl1 := sl_to (xs := fs) b1.1
  have sl2 := sl_from (xs := fs) b1.1
  have ad1 : ∀ x : Pn, addD (enc (fs.take place.toNat)) (enc [x]) = .ok (enc (fs.take place.toNat ++ [x])) := fun x => add_enc (by simp; omega)
  have ad2 : ∀ x : Pn, addD (enc (fs.take place.toNat ++ [x])) (enc (fs.drop (place.toNat + 1))) = .ok (enc (fs.take place.toNat ++ [x] ++ fs.drop (place.toNat + 1))) := fun x => add_enc (by simp; omega)
  have ad3 : ∀ x y : Pn, addD (enc (fs.take place.toNat ++ [x] ++ fs.drop (place.toNat + 1))) (enc [y]) = .ok (enc (fs.take place.toNat ++ [x] ++ fs.drop (place.toNat + 1) ++ [y])) := fun x y => add_enc (by simp; omega)
  have i2 : ∀ x y : Pn, ixD (.list [enc x, enc y]) (.int tn) = .ok (enc (if tn = 0 then x else y)) := fun x y => ix2 b5.1 b5.2
  by_cases hw : way = 0
  · have hw' : decide (way = 0) = true := decide_eq_true hw
    by_cases hsz : 1 < p.r - p.l
    · have hz' : decide (1 < p.r - p.l) = true := decide_eq_true hsz
      have b3' := b3 _ hsz
      have e4' := e4 _ hsz
      generalize dI ns ((at_ : Int) + 3 + 4 * (k : Int)) (p.r - p.l - 1) = ln at b3' e4'
      obtain ⟨h1, h2, h3, h4, h5, h6⟩ := hin
      obtain ⟨fs', ef, q1, q2, q3⟩ := key ⟨p.l, p.t, p.l + (1 + ln), p.b⟩ ⟨p.l + (1 + ln), p.t, p.r, p.b⟩ tn b5.1 b5.2 ⟨by simp; omega, by simp; omega, by simp; omega, by simp; omega, by simp; omega, by simp; omega⟩ ⟨by simp; omega, by simp; omega, by simp; omega, by simp; omega, by simp; omega, by simp; omega⟩ ⟨by simp, by simp, by simp; omega, by simp⟩ ⟨by simp; omega, by simp, by simp, by simp⟩ (.inl (by simp))
      refine ⟨fs', .val (.int place), .val (.int way), .val (.int p.l), .val (.int p.t), .val (.int p.r), .val (.int p.b), .val (.int (p.r - p.l)), .val (.int (1 + ln)), .val (enc (Pn.mk p.l p.t (p.l + (1 + ln)) p.b)), .val (enc (Pn.mk (p.l + (1 + ln)) p.t p.r p.b)), .val (.int tn), ?_, q1, q2, q3⟩
      simp only [pgB1, exS_seq, exS_tp, exS_nm, exS_ite, exS_skip, ev_tup, evL_cons, evL_nil, ev_call, ev_bin, ev_var, ev_int, ev_bi, bi_len, len_li, ev_idx, ev_ite, ev_cmp, ev_lst, ev_slc, ev_nil, asOpt_mark, asOpt_int, List.getElem?_cons_succ, List.getElem?_cons_zero, R.ok_bind, nx_ok, bo_add, ad_int, bo_mul, bo_sub, m4, e1, e2, e3, if_pos (l2 _ _), if_pos (l4 _ _ _ _), if_pos (l1 _), st_pair, storeT_ok, pn_quad, List.set_cons_succ, List.set_cons_zero, thenS_nx, cm_eq, eqD_int, boolR_ok, cm_gt, hw', hz', e4', e5, pn_mk, i2, lst1, sl1, sl2, ad1, ad2, ad3, ← ef]
    · have hz' : decide (1 < p.r - p.l) = false := decide_eq_false hsz
      refine ⟨fs, .val (.int place), .val (.int way), .val (.int p.l), .val (.int p.t), .val (.int p.r), .val (.int p.b), .val (.int (p.r - p.l)), x13, x14, x15, x16, ?_, hs, hne, Nat.le_succ _⟩
      simp only [pgB1, exS_seq, exS_tp, exS_nm, exS_ite, exS_skip, ev_tup, evL_cons, evL_nil, ev_call, ev_bin, ev_var, ev_int, ev_bi, bi_len, len_li, ev_idx, ev_ite, ev_cmp, ev_lst, ev_slc, ev_nil, asOpt_mark, asOpt_int, List.getElem?_cons_succ, List.getElem?_cons_zero, R.ok_bind, nx_ok, bo_add, ad_int, bo_mul, bo_sub, m4, e1, e2, e3, if_pos (l2 _ _), if_pos (l4 _ _ _ _), if_pos (l1 _), st_pair, storeT_ok, pn_quad, List.set_cons_succ, List.set_cons_zero, thenS_nx, cm_eq, eqD_int, boolR_ok, cm_gt, hw', hz']
  · have hw' : decide (way = 0) = false := decide_eq_false hw
    by_cases hsz : 1 < p.b - p.t
    · have hz' : decide (1 < p.b - p.t) = true := decide_eq_true hsz
      have b3' := b3 _ hsz
      have e4' := e4 _ hsz
      generalize dI ns ((at_ : Int) + 3 + 4 * (k : Int)) (p.b - p.t - 1) = ln at b3' e4'
      obtain ⟨h1, h2, h3, h4, h5, h6⟩ := hin
      obtain ⟨fs', ef, q1, q2, q3⟩ := key ⟨p.l, p.t, p.r, p.t + (1 + ln)⟩ ⟨p.l, p.t + (1 + ln), p.r, p.b⟩ tn b5.1 b5.2 ⟨by simp; omega, by simp; omega, by simp; omega, by simp; omega, by simp; omega, by simp; omega⟩ ⟨by simp; omega, by simp; omega, by simp; omega, by simp; omega, by simp; omega, by simp; omega⟩ ⟨by simp, by simp, by simp, by simp; omega⟩ ⟨by simp, by simp; omega, by simp, by simp⟩ (.inr (.inr (.inl (by simp))))
      refine ⟨fs', .val (.int place), .val (.int way), .val (.int p.l), .val (.int p.t), .val (.int p.r), .val (.int p.b), .val (.int (p.b - p.t)), .val (.int (1 + ln)), .val (enc (Pn.mk p.l p.t p.r (p.t + (1 + ln)))), .val (enc (Pn.mk p.l (p.t + (1 + ln)) p.r p.b)), .val (.int tn), ?_, q1, q2, q3⟩
      simp only [pgB1, exS_seq, exS_tp, exS_nm, exS_ite, exS_skip, ev_tup, evL_cons, evL_nil, ev_call, ev_bin, ev_var, ev_int, ev_bi, bi_len, len_li, ev_idx, ev_ite, ev_cmp, ev_lst, ev_slc, ev_nil, asOpt_mark, asOpt_int, List.getElem?_cons_succ, List.getElem?_cons_zero, R.ok_bind, nx_ok, bo_add, ad_int, bo_mul, bo_sub, m4, e1, e2, e3, if_pos (l2 _ _), if_pos (l4 _ _ _ _), if_pos (l1 _), st_pair, storeT_ok, pn_quad, List.set_cons_succ, List.set_cons_zero, thenS_nx, cm_eq, eqD_int, boolR_ok, cm_gt, hw', hz', e4', e5, pn_mk, i2, lst1, sl1, sl2, ad1, ad2, ad3, ← ef]
    · have hz' : decide (1 < p.b - p.t) = false := decide_eq_false hsz
      refine ⟨fs, .val (.int place), .val (.int way), .val (.int p.l), .val (.int p.t), .val (.int p.r), .val (.int p.b), .val (.int (p.b - p.t)), x13, x14, x15, x16, ?_, hs, hne, Nat.le_succ _⟩
      simp only [pgB1, exS_seq, exS_tp, exS_nm, exS_ite, exS_skip, ev_tup, evL_cons, evL_nil, ev_call, ev_bin, ev_var, ev_int, ev_bi, bi_len, len_li, ev_idx, ev_ite, ev_cmp, ev_lst, ev_slc, ev_nil, asOpt_mark, asOpt_int, List.getElem?_cons_succ, List.getElem?_cons_zero, R.ok_bind, nx_ok, bo_add, ad_int, bo_mul, bo_sub, m4, e1, e2, e3, if_pos (l2 _ _), if_pos (l4 _ _ _ _), if_pos (l1 _), st_pair, storeT_ok, pn_quad, List.set_cons_succ, List.set_cons_zero, thenS_nx, cm_eq, eqD_int, boolR_ok, cm_gt, hw', hz']
end
end Pi

set_option Elab.async false
set_option linter.all false
set_option maxRecDepth 100000
set_option maxHeartbeats 4000000
/-! M7: the law's page: the rest. -/
namespace Pi
open PySem PySem.Spec PyProof.Rows L2
open Enc (enc)
instance (p q : Pn) : Decidable (Ap p q) := by unfold Ap; infer_instance
theorem l5 (a b c d e : D) : [a, b, c, d, e].length ≤ big := le_big (by simp)
theorem ownR_enc (i : Nat) (ρ : En) (xs : List Pn) : ownR i ρ (enc xs) = .ok (.nx, ρ.set i (.own (xs.map enc))) := rfl
theorem li_enc (xs : List Pn) : (PyData.list (xs.map enc) : D) = enc xs := rfl
theorem maxI_lt : ∀ (ns : List Int) (n m : Int), maxI (n :: ns) < m → ∀ x ∈ n :: ns, x < m
  | [], n, m, h, x, hx => by
    rw [List.mem_singleton.mp hx]; exact h
  | y :: ns, n, m, h, x, hx => by
    have h' : (if maxI (y :: ns) > n then maxI (y :: ns) else n) < m := h
    split at h'
    · rename_i hg
      rcases List.mem_cons.mp hx with rfl | hx
      · omega
      · exact maxI_lt ns y m h' x hx
    · rename_i hg
      rcases List.mem_cons.mp hx with rfl | hx
      · exact h'
      · exact maxI_lt ns y m (by omega) x hx
def sp5 : List Pn := [⟨2, 0, 8, 2⟩, ⟨6, 2, 8, 8⟩, ⟨0, 6, 6, 8⟩, ⟨0, 0, 2, 6⟩, ⟨3, 3, 5, 5⟩]
def sp4 : List Pn := [⟨9, 0, 11, 2⟩, ⟨6, 2, 8, 4⟩, ⟨3, 4, 5, 6⟩, ⟨0, 6, 2, 8⟩]
theorem sheet5 : Sheet sp5 := ⟨fun p hp => by
  simp only [sp5, List.mem_cons, List.not_mem_nil, or_false] at hp
  rcases hp with rfl | rfl | rfl | rfl | rfl <;> constructor <;> decide, by decide⟩
theorem sheet4 : Sheet sp4 := ⟨fun p hp => by
  simp only [sp4, List.mem_cons, List.not_mem_nil, or_false] at hp
  rcases hp with rfl | rfl | rfl | rfl <;> constructor <;> decide, by decide⟩
theorem lst5 : (PyData.list [enc (Pn.mk 2 0 8 2), enc (Pn.mk 6 2 8 8), enc (Pn.mk 0 6 6 8), enc (Pn.mk 0 0 2 6), enc (Pn.mk 3 3 5 5)] : D) = enc sp5 := rfl
theorem lst4 : (PyData.list [enc (Pn.mk 9 0 11 2), enc (Pn.mk 6 2 8 4), enc (Pn.mk 3 4 5 6), enc (Pn.mk 0 6 2 8)] : D) = enc sp4 := rfl
def pgS1 : S := (.ite (.cmp .eq (.call "_law_drawn" (.cons (.var 0) (.cons (.bin .add (.var 1) (.int 50)) (.cons (.int 4) .nil)))) (.int 0)) (.seq (.own 4 (.lst (.cons (.tup (.cons (.int 2) (.cons (.int 0) (.cons (.int 8) (.cons (.int 2) .nil))))) (.cons (.tup (.cons (.int 6) (.cons (.int 2) (.cons (.int 8) (.cons (.int 8) .nil))))) (.cons (.tup (.cons (.int 0) (.cons (.int 6) (.cons (.int 6) (.cons (.int 8) .nil))))) (.cons (.tup (.cons (.int 0) (.cons (.int 0) (.cons (.int 2) (.cons (.int 6) .nil))))) (.cons (.tup (.cons (.int 3) (.cons (.int 3) (.cons (.int 5) (.cons (.int 5) .nil))))) .nil))))))) (.seq (.own 4 (.slc (.bor 4) .nil (.bin .add (.int 2) (.call "_law_drawn" (.cons (.var 0) (.cons (.bin .add (.var 1) (.int 51)) (.cons (.int 4) .nil))))))) .skip)) .skip)
def pgS2 : S := (.ite (.cmp .eq (.call "_law_drawn" (.cons (.var 0) (.cons (.bin .add (.var 1) (.int 52)) (.cons (.int 4) .nil)))) (.int 0)) (.seq (.own 4 (.slc (.lst (.cons (.tup (.cons (.int 9) (.cons (.int 0) (.cons (.int 11) (.cons (.int 2) .nil))))) (.cons (.tup (.cons (.int 6) (.cons (.int 2) (.cons (.int 8) (.cons (.int 4) .nil))))) (.cons (.tup (.cons (.int 3) (.cons (.int 4) (.cons (.int 5) (.cons (.int 6) .nil))))) (.cons (.tup (.cons (.int 0) (.cons (.int 6) (.cons (.int 2) (.cons (.int 8) .nil))))) .nil))))) .nil (.bin .add (.int 2) (.call "_law_drawn" (.cons (.var 0) (.cons (.bin .add (.var 1) (.int 53)) (.cons (.int 3) .nil))))))) .skip) .skip)
def pgS3 : S := (.ite (.and (.cons (.cmp .lt (.bi .len (.cons (.bor 4) .nil)) (.var 2)) (.cons (.cmp .lt (.bi .max1 (.cons (.bin .add (.lst (.cons (.int 0) .nil)) (.comp [("panel", 17)] (.nm 17) (.iter (.bor 4)) .yes (.idx (.var 17) (.int 3)))) .nil)) (.int 9)) (.cons (.cmp .eq (.call "_law_drawn" (.cons (.var 0) (.cons (.bin .add (.var 1) (.int 54)) (.cons (.int 2) .nil)))) (.int 0)) .nil)))) (.seq (.app 4 (.tup (.cons (.int 0) (.cons (.int 9) (.cons (.int 12) (.cons (.int 12) .nil)))))) .skip) .skip)
theorem pgT_eq : pgT = .seq pgS1 (.seq pgS2 (.seq pgS3 (.seq (.ret (.bi .tuple (.cons (.bor 4) .nil))) .skip))) := rfl
section
variable {ds : List Df} (hd : findD ds "_law_drawn" = some d__law_drawn) (L : Nat) {ns : List Int} (hlen : ns.length ≤ 63) (at_ most : Nat) (hmost : 5 ≤ most) (x3 x5 x6 x7 x8 x9 x10 x11 x12 x13 x14 x15 x16 x17 : Sl)
include hd hlen hmost
theorem pg_s1 {ks : List Pn} (hs : Sheet ks) (hk : ks.length ≤ most) : ∃ ks', exS (Tb ds (L + 1)) pgS1 [.val (scr ns), .val (.int (at_ : Nat)), .val (.int (most : Nat)), x3, .own (ks.map enc), x5, x6, x7, x8, x9, x10, x11, x12, x13, x14, x15, x16, x17] = .ok (.nx, [.val (scr ns), .val (.int (at_ : Nat)), .val (.int (most : Nat)), x3, .own (ks'.map enc), x5, x6, x7, x8, x9, x10, x11, x12, x13, x14, x15, x16, x17]) ∧ Sheet ks' ∧ ks'.length ≤ most := by
  have b1 := dI_lt ns ((at_ : Int) + 50) (many := 4) (by omega)
  have e1 := r_dI hd L hlen (k := (at_ : Int) + 50) (many := 4) (by omega) (by omega)
  have b2 := dI_lt ns ((at_ : Int) + 51) (many := 4) (by omega)
  have e2 := r_dI hd L hlen (k := (at_ : Int) + 51) (many := 4) (by omega) (by omega)
  generalize dI ns ((at_ : Int) + 50) 4 = a at b1 e1
  generalize dI ns ((at_ : Int) + 51) 4 = b at b2 e2
  by_cases h : a = 0
  · have h' : decide (a = 0) = true := decide_eq_true h
    refine ⟨sp5.take (2 + b).toNat, ?_, sheet5.sub (List.take_sublist _ _), ?_⟩
    · have sl := sl_to (xs := sp5) (i := 2 + b) (by omega)
      simp only [pgS1, exS_seq, exS_nm, exS_ite, exS_skip, exS_own, exS_ret, ev_tup, evL_cons, evL_nil, ev_call, ev_bin, ev_var, ev_bor, ev_int, ev_bi, bi_len, len_li, ev_idx, ev_ite, ev_cmp, ev_lst, ev_slc, ev_nil, asOpt_mark, asOpt_int, List.getElem?_cons_succ, List.getElem?_cons_zero, R.ok_bind, nx_ok, bo_add, ad_int, bo_mul, bo_sub, if_pos (l1 _), if_pos (l2 _ _), if_pos (l4 _ _ _ _), List.set_cons_succ, List.set_cons_zero, thenS_nx, cm_eq, eqD_int, boolR_ok, cm_gt, cm_lt, e1, e2, h', if_pos (l5 _ _ _ _ _), pn_mk, lst5, ownR_enc, li_enc, sl]
    · rw [List.length_take]
      have : sp5.length = 5 := rfl
      omega
  · have h' : decide (a = 0) = false := decide_eq_false h
    refine ⟨ks, ?_, hs, hk⟩
    simp only [pgS1, exS_seq, exS_nm, exS_ite, exS_skip, exS_own, exS_ret, ev_tup, evL_cons, evL_nil, ev_call, ev_bin, ev_var, ev_bor, ev_int, ev_bi, bi_len, len_li, ev_idx, ev_ite, ev_cmp, ev_lst, ev_slc, ev_nil, asOpt_mark, asOpt_int, List.getElem?_cons_succ, List.getElem?_cons_zero, R.ok_bind, nx_ok, bo_add, ad_int, bo_mul, bo_sub, if_pos (l1 _), if_pos (l2 _ _), if_pos (l4 _ _ _ _), List.set_cons_succ, List.set_cons_zero, thenS_nx, cm_eq, eqD_int, boolR_ok, cm_gt, cm_lt, e1, h']
theorem pg_s2 {ks : List Pn} (hs : Sheet ks) (hk : ks.length ≤ most) : ∃ ks', exS (Tb ds (L + 1)) pgS2 [.val (scr ns), .val (.int (at_ : Nat)), .val (.int (most : Nat)), x3, .own (ks.map enc), x5, x6, x7, x8, x9, x10, x11, x12, x13, x14, x15, x16, x17] = .ok (.nx, [.val (scr ns), .val (.int (at_ : Nat)), .val (.int (most : Nat)), x3, .own (ks'.map enc), x5, x6, x7, x8, x9, x10, x11, x12, x13, x14, x15, x16, x17]) ∧ Sheet ks' ∧ ks'.length ≤ most := by
  have b1 := dI_lt ns ((at_ : Int) + 52) (many := 4) (by omega)
  have e1 := r_dI hd L hlen (k := (at_ : Int) + 52) (many := 4) (by omega) (by omega)
  have b2 := dI_lt ns ((at_ : Int) + 53) (many := 3) (by omega)
  have e2 := r_dI hd L hlen (k := (at_ : Int) + 53) (many := 3) (by omega) (by omega)
  generalize dI ns ((at_ : Int) + 52) 4 = a at b1 e1
  generalize dI ns ((at_ : Int) + 53) 3 = b at b2 e2
  by_cases h : a = 0
  · have h' : decide (a = 0) = true := decide_eq_true h
    refine ⟨sp4.take (2 + b).toNat, ?_, sheet4.sub (List.take_sublist _ _), ?_⟩
    · have sl := sl_to (xs := sp4) (i := 2 + b) (by omega)
      simp only [pgS2, exS_seq, exS_nm, exS_ite, exS_skip, exS_own, exS_ret, ev_tup, evL_cons, evL_nil, ev_call, ev_bin, ev_var, ev_bor, ev_int, ev_bi, bi_len, len_li, ev_idx, ev_ite, ev_cmp, ev_lst, ev_slc, ev_nil, asOpt_mark, asOpt_int, List.getElem?_cons_succ, List.getElem?_cons_zero, R.ok_bind, nx_ok, bo_add, ad_int, bo_mul, bo_sub, if_pos (l1 _), if_pos (l2 _ _), if_pos (l4 _ _ _ _), List.set_cons_succ, List.set_cons_zero, thenS_nx, cm_eq, eqD_int, boolR_ok, cm_gt, cm_lt, e1, e2, h', pn_mk, lst4, ownR_enc, sl]
    · rw [List.length_take]
      have : sp4.length = 4 := rfl
      omega
  · have h' : decide (a = 0) = false := decide_eq_false h
    refine ⟨ks, ?_, hs, hk⟩
    simp only [pgS2, exS_seq, exS_nm, exS_ite, exS_skip, exS_own, exS_ret, ev_tup, evL_cons, evL_nil, ev_call, ev_bin, ev_var, ev_bor, ev_int, ev_bi, bi_len, len_li, ev_idx, ev_ite, ev_cmp, ev_lst, ev_slc, ev_nil, asOpt_mark, asOpt_int, List.getElem?_cons_succ, List.getElem?_cons_zero, R.ok_bind, nx_ok, bo_add, ad_int, bo_mul, bo_sub, if_pos (l1 _), if_pos (l2 _ _), if_pos (l4 _ _ _ _), List.set_cons_succ, List.set_cons_zero, thenS_nx, cm_eq, eqD_int, boolR_ok, cm_gt, cm_lt, e1, h']
theorem pg_s3 (hm8 : most ≤ 8) {ks : List Pn} (hs : Sheet ks) (hk : ks.length ≤ most) : ∃ ks', exS (Tb ds (L + 1)) pgS3 [.val (scr ns), .val (.int (at_ : Nat)), .val (.int (most : Nat)), x3, .own (ks.map enc), x5, x6, x7, x8, x9, x10, x11, x12, x13, x14, x15, x16, x17] = .ok (.nx, [.val (scr ns), .val (.int (at_ : Nat)), .val (.int (most : Nat)), x3, .own (ks'.map enc), x5, x6, x7, x8, x9, x10, x11, x12, x13, x14, x15, x16, x17]) ∧ Sheet ks' ∧ ks'.length ≤ most := by
  have b1 := dI_lt ns ((at_ : Int) + 54) (many := 2) (by omega)
  have e1 := r_dI hd L hlen (k := (at_ : Int) + 54) (many := 2) (by omega) (by omega)
  generalize dI ns ((at_ : Int) + 54) 2 = a at b1 e1
  have c : ev (Tb ds (L + 1)) (.comp [("panel", 17)] (.nm 17) (.iter (.bor 4)) .yes (.idx (.var 17) (.int 3))) [.val (scr ns), .val (.int (at_ : Nat)), .val (.int (most : Nat)), x3, .own (ks.map enc), x5, x6, x7, x8, x9, x10, x11, x12, x13, x14, x15, x16, x17] = .ok (.list ((ks.map (·.b)).map .int)) := by
    rw [ev_comp]
    show listR (compGo _ (ks.map enc)) = _
    rw [compGo_map (h := fun p : Pn => .int p.b) (fun p hp => by simp), List.map_map]
    rfl
  have ad : addD (.list [.int 0]) (.list ((ks.map (·.b)).map .int)) = .ok (.list (.int 0 :: (ks.map (·.b)).map .int)) := by
    rw [ad_list, if_pos (le_big (by simp; omega))]
    rfl
  have mx := bi_max1 0 (ks.map (·.b))
  have hb : appR 4 [.val (scr ns), .val (.int (at_ : Nat)), .val (.int (most : Nat)), x3, .own (ks.map enc), x5, x6, x7, x8, x9, x10, x11, x12, x13, x14, x15, x16, x17] (enc (Pn.mk 0 9 12 12)) = .ok (.nx, [.val (scr ns), .val (.int (at_ : Nat)), .val (.int (most : Nat)), x3, .own ((ks ++ [Pn.mk 0 9 12 12]).map enc), x5, x6, x7, x8, x9, x10, x11, x12, x13, x14, x15, x16, x17]) := by
    have hlt : (ks.map (enc (α := Pn))).length < big := by
      rw [List.length_map]
      have : ks.length + 1 ≤ big := le_big (by omega)
      omega
    simp only [appR, List.getElem?_cons_succ, List.getElem?_cons_zero, if_pos hlt, List.set_cons_succ, List.set_cons_zero, List.map_append, List.map_cons, List.map_nil]
  have ow : ownB [.val (scr ns), .val (.int (at_ : Nat)), .val (.int (most : Nat)), x3, .own (ks.map (enc (α := Pn))), x5, x6, x7, x8, x9, x10, x11, x12, x13, x14, x15, x16, x17] 4 = true := rfl
  by_cases h1 : (ks.length : Int) < (most : Int)
  · by_cases h2 : maxI (0 :: ks.map (·.b)) < 9
    · by_cases h3 : a = 0
      · have hall := maxI_lt _ _ _ h2
        refine ⟨ks ++ [Pn.mk 0 9 12 12], ?_, hs.snoc ⟨by decide, by decide, by decide, by decide, by decide, by decide⟩ (fun p hp => ?_), ?_⟩
        · simp only [pgS3, exS_seq, exS_nm, exS_ite, exS_skip, exS_own, exS_ret, ev_tup, evL_cons, evL_nil, ev_call, ev_bin, ev_var, ev_bor, ev_int, ev_bi, bi_len, len_li, ev_idx, ev_ite, ev_cmp, ev_lst, ev_slc, ev_nil, asOpt_mark, asOpt_int, List.getElem?_cons_succ, List.getElem?_cons_zero, R.ok_bind, nx_ok, bo_add, ad_int, bo_mul, bo_sub, if_pos (l1 _), if_pos (l2 _ _), if_pos (l4 _ _ _ _), List.set_cons_succ, List.set_cons_zero, thenS_nx, cm_eq, eqD_int, boolR_ok, cm_gt, cm_lt, ev_and, evA_cons, evA_one, e1, li_enc, decide_eq_true h1, c, ad, mx, decide_eq_true h2, decide_eq_true h3, exS_app, ow, if_true, pn_mk, hb]
        · have := hall p.b (List.mem_cons_of_mem _ (List.mem_map.mpr ⟨p, hp, rfl⟩))
          unfold Ap
          simp
          omega
        · rw [List.length_append, List.length_singleton]
          omega
      · refine ⟨ks, ?_, hs, hk⟩
        simp only [pgS3, exS_seq, exS_nm, exS_ite, exS_skip, exS_own, exS_ret, ev_tup, evL_cons, evL_nil, ev_call, ev_bin, ev_var, ev_bor, ev_int, ev_bi, bi_len, len_li, ev_idx, ev_ite, ev_cmp, ev_lst, ev_slc, ev_nil, asOpt_mark, asOpt_int, List.getElem?_cons_succ, List.getElem?_cons_zero, R.ok_bind, nx_ok, bo_add, ad_int, bo_mul, bo_sub, if_pos (l1 _), if_pos (l2 _ _), if_pos (l4 _ _ _ _), List.set_cons_succ, List.set_cons_zero, thenS_nx, cm_eq, eqD_int, boolR_ok, cm_gt, cm_lt, ev_and, evA_cons, evA_one, e1, li_enc, decide_eq_true h1, c, ad, mx, decide_eq_true h2, decide_eq_false h3]
    · refine ⟨ks, ?_, hs, hk⟩
      simp only [pgS3, exS_seq, exS_nm, exS_ite, exS_skip, exS_own, exS_ret, ev_tup, evL_cons, evL_nil, ev_call, ev_bin, ev_var, ev_bor, ev_int, ev_bi, bi_len, len_li, ev_idx, ev_ite, ev_cmp, ev_lst, ev_slc, ev_nil, asOpt_mark, asOpt_int, List.getElem?_cons_succ, List.getElem?_cons_zero, R.ok_bind, nx_ok, bo_add, ad_int, bo_mul, bo_sub, if_pos (l1 _), if_pos (l2 _ _), if_pos (l4 _ _ _ _), List.set_cons_succ, List.set_cons_zero, thenS_nx, cm_eq, eqD_int, boolR_ok, cm_gt, cm_lt, ev_and, evA_cons, evA_one, e1, li_enc, decide_eq_true h1, c, ad, mx, decide_eq_false h2]
  · refine ⟨ks, ?_, hs, hk⟩
    simp only [pgS3, exS_seq, exS_nm, exS_ite, exS_skip, exS_own, exS_ret, ev_tup, evL_cons, evL_nil, ev_call, ev_bin, ev_var, ev_bor, ev_int, ev_bi, bi_len, len_li, ev_idx, ev_ite, ev_cmp, ev_lst, ev_slc, ev_nil, asOpt_mark, asOpt_int, List.getElem?_cons_succ, List.getElem?_cons_zero, R.ok_bind, nx_ok, bo_add, ad_int, bo_mul, bo_sub, if_pos (l1 _), if_pos (l2 _ _), if_pos (l4 _ _ _ _), List.set_cons_succ, List.set_cons_zero, thenS_nx, cm_eq, eqD_int, boolR_ok, cm_gt, cm_lt, ev_and, evA_cons, evA_one, e1, li_enc, decide_eq_false h1]
end
end Pi

set_option Elab.async false
set_option linter.all false
set_option maxRecDepth 100000
set_option maxHeartbeats 4000000
/-! M8: the law's page, whole. -/
namespace Pi
open PySem PySem.Spec PyProof.Rows L2
open Enc (enc)
section
variable {ds : List Df} (hd : findD ds "_law_drawn" = some d__law_drawn) (L : Nat) {ns : List Int} (hlen : ns.length ≤ 63) (at_ most : Nat)
include hd hlen
theorem pg_keep (ks : List Pn) (hks : ks.length ≤ 100) (p : Pn) (k : Nat) (s4 : Sl) (hs4 : s4 = .own (ks.map enc) ∨ (s4 = .val (.list []) ∧ ks = [])) (x3 x6 x7 x8 x9 x10 x11 x12 x13 x14 x15 x16 : Sl) :
    ∃ t : List Pn, (t = [p] ∨ t = []) ∧ exS (Tb ds (L + 1)) pgB2 [.val (scr ns), .val (.int (at_ : Nat)), .val (.int (most : Nat)), x3, s4, .val (.int (k : Nat)), x6, x7, x8, x9, x10, x11, x12, x13, x14, x15, x16, .val (enc p)] = .ok (.nx, [.val (scr ns), .val (.int (at_ : Nat)), .val (.int (most : Nat)), x3, .own ((ks ++ t).map enc), .val (.int (k : Nat)), x6, x7, x8, x9, x10, x11, x12, x13, x14, x15, x16, .val (enc p)]) := by
  have e1 := r_dI hd L hlen (k := (at_ : Int) + 40 + (k : Int)) (many := 5) (by omega) (by omega)
  generalize dI ns ((at_ : Int) + 40 + (k : Int)) 5 = a at e1
  have bor : ev (Tb ds (L + 1)) (.bor 4) [.val (scr ns), .val (.int (at_ : Nat)), .val (.int (most : Nat)), x3, s4, .val (.int (k : Nat)), x6, x7, x8, x9, x10, x11, x12, x13, x14, x15, x16, .val (enc p)] = .ok (enc ks) := by
    rcases hs4 with rfl | ⟨rfl, rfl⟩ <;> rfl
  have n0 : (PyData.list [] : D) = enc ([] : List Pn) := rfl
  have ad : ∀ t : List Pn, t.length ≤ 1 → addD (enc ks) (enc t) = .ok (enc (ks ++ t)) := fun t ht => add_enc (by omega)
  by_cases h : 0 < a
  · refine ⟨[p], .inl rfl, ?_⟩
    simp only [pgB2, exS_seq, exS_nm, exS_ite, exS_skip, exS_own, exS_ret, ev_tup, evL_cons, evL_nil, ev_call, ev_bin, ev_var, ev_int, ev_bi, bi_len, len_li, ev_idx, ev_ite, ev_cmp, ev_lst, ev_slc, ev_nil, asOpt_mark, asOpt_int, List.getElem?_cons_succ, List.getElem?_cons_zero, R.ok_bind, nx_ok, bo_add, ad_int, bo_mul, bo_sub, if_pos (l1 _), if_pos (l2 _ _), if_pos (l4 _ _ _ _), List.set_cons_succ, List.set_cons_zero, thenS_nx, cm_eq, eqD_int, boolR_ok, cm_gt, cm_lt, bor, e1, decide_eq_true h, lst1, ad [p] (by simp), ownR_enc]
  · refine ⟨[], .inr rfl, ?_⟩
    simp only [pgB2, exS_seq, exS_nm, exS_ite, exS_skip, exS_own, exS_ret, ev_tup, evL_cons, evL_nil, ev_call, ev_bin, ev_var, ev_int, ev_bi, bi_len, len_li, ev_idx, ev_ite, ev_cmp, ev_lst, ev_slc, ev_nil, asOpt_mark, asOpt_int, List.getElem?_cons_succ, List.getElem?_cons_zero, R.ok_bind, nx_ok, bo_add, ad_int, bo_mul, bo_sub, if_pos (l1 _), if_pos (l2 _ _), if_pos (l4 _ _ _ _), List.set_cons_succ, List.set_cons_zero, thenS_nx, cm_eq, eqD_int, boolR_ok, cm_gt, cm_lt, bor, e1, decide_eq_false h, List.length_nil, Nat.zero_le, if_true, n0, ad [] (by simp), ownR_enc]
theorem r_page (hp : findD ds "_law_page" = some d__law_page) (h5 : 5 ≤ most) (h8 : most ≤ 8) : ∃ ps : List Pn, Tb ds (L + 2) "_law_page" [scr ns, .int (at_ : Nat), .int (most : Nat)] = .ok (enc (Tu.mk ps)) ∧ Sheet ps ∧ ps.length ≤ most := by
  rw [Tb_run hp rfl, runD_eq, pg_ir]
  show ∃ ps, outR (exS _ _ [.val (scr ns), .val (.int (at_ : Nat)), .val (.int (most : Nat)), .no, .no, .no, .no, .no, .no, .no, .no, .no, .no, .no, .no, .no, .no, .no]) = _ ∧ _
  have e1 := r_dI hd L hlen (k := (at_ : Int)) (many := (most : Int)) (by omega) (by omega)
  have b1 := dI_lt ns (at_ : Int) (many := (most : Int)) (by omega)
  have hn : dI ns (at_ : Int) (most : Int) = ((dI ns (at_ : Int) (most : Int)).toNat : Int) := by omega
  generalize hnn : (dI ns (at_ : Int) (most : Int)).toNat = n at hn
  rw [hn] at e1
  have hnm : n < most := by omega
  have start : exS (Tb ds (L + 1)) (.asg (.tp [3, 4]) (.tup (.cons (.lst (.cons (.tup (.cons (.int 0) (.cons (.int 0) (.cons (.int 12) (.cons (.int 12) .nil))))) .nil)) (.cons (.lst .nil) .nil)))) [.val (scr ns), .val (.int (at_ : Nat)), .val (.int (most : Nat)), .no, .no, .no, .no, .no, .no, .no, .no, .no, .no, .no, .no, .no, .no, .no] = .ok (.nx, [.val (scr ns), .val (.int (at_ : Nat)), .val (.int (most : Nat)), .val (enc [Pn.mk 0 0 12 12]), .val (.list []), .no, .no, .no, .no, .no, .no, .no, .no, .no, .no, .no, .no, .no]) := by
    simp only [exS_tp, exS_seq, exS_nm, exS_ite, exS_skip, exS_own, exS_ret, ev_tup, evL_cons, evL_nil, ev_call, ev_bin, ev_var, ev_bor, ev_int, ev_bi, bi_len, len_li, ev_idx, ev_ite, ev_cmp, ev_lst, ev_slc, ev_nil, asOpt_mark, asOpt_int, List.getElem?_cons_succ, List.getElem?_cons_zero, R.ok_bind, nx_ok, bo_add, ad_int, bo_mul, bo_sub, if_pos (l1 _), if_pos (l2 _ _), if_pos (l4 _ _ _ _), List.set_cons_succ, List.set_cons_zero, thenS_nx, cm_eq, eqD_int, boolR_ok, cm_gt, cm_lt, List.length_nil, Nat.zero_le, if_true, st_pair, storeT_ok, pn_mk, lst1]
  have loop1 : ∃ fs x5 x6 x7 x8 x9 x10 x11 x12 x13 x14 x15 x16 x17, exS (Tb ds (L + 1)) (.for_ (.nm 5) (.rg .nil (.call "_law_drawn" (.cons (.var 0) (.cons (.var 1) (.cons (.var 2) .nil))))) pgB1) [.val (scr ns), .val (.int (at_ : Nat)), .val (.int (most : Nat)), .val (enc [Pn.mk 0 0 12 12]), .val (.list []), .no, .no, .no, .no, .no, .no, .no, .no, .no, .no, .no, .no, .no] = .ok (.nx, [.val (scr ns), .val (.int (at_ : Nat)), .val (.int (most : Nat)), .val (enc fs), .val (.list []), x5, x6, x7, x8, x9, x10, x11, x12, x13, x14, x15, x16, x17]) ∧ Sheet fs ∧ fs ≠ [] ∧ fs.length ≤ n + 1 := by
    rw [exS_for, rg0 (n := n) (by simp [e1]) (by omega), R.ok_bind]
    generalize hf : (fun (d : D) (ρ : En) => bodyT _ _) = f
    have key := forGo_pre (f := f) (g := fun i : Nat => PyData.int (i : Nat)) (fun pre ρ => ∃ fs x5 x6 x7 x8 x9 x10 x11 x12 x13 x14 x15 x16 x17, ρ = [.val (scr ns), .val (.int (at_ : Nat)), .val (.int (most : Nat)), .val (enc fs), .val (.list []), x5, x6, x7, x8, x9, x10, x11, x12, x13, x14, x15, x16, x17] ∧ Sheet fs ∧ fs ≠ [] ∧ fs.length ≤ pre.length + 1) (xs := List.range n) (fun pre i post ρ hx hρ => ?_) (ρ := [.val (scr ns), .val (.int (at_ : Nat)), .val (.int (most : Nat)), .val (enc [Pn.mk 0 0 12 12]), .val (.list []), .no, .no, .no, .no, .no, .no, .no, .no, .no, .no, .no, .no, .no]) ⟨[Pn.mk 0 0 12 12], _, _, _, _, _, _, _, _, _, _, _, _, _, rfl, ⟨fun p hp => ?_, List.pairwise_singleton _ _⟩, by simp, by simp⟩
    · obtain ⟨ρ', e, fs, x5, x6, x7, x8, x9, x10, x11, x12, x13, x14, x15, x16, x17, rfl, q1, q2, q3⟩ := key
      rw [List.length_range] at q3
      exact ⟨fs, x5, x6, x7, x8, x9, x10, x11, x12, x13, x14, x15, x16, x17, e, q1, q2, q3⟩
    · obtain ⟨fs, x5, x6, x7, x8, x9, x10, x11, x12, x13, x14, x15, x16, x17, rfl, q1, q2, q3⟩ := hρ
      have hpl : pre.length ≤ 8 := by
        have := congrArg List.length hx
        simp at this
        omega
      obtain ⟨fs', y6, y7, y8, y9, y10, y11, y12, y13, y14, y15, y16, e, r1, r2, r3⟩ := pg_cut hd L hlen at_ most q1 q2 (by omega) i x6 x7 x8 x9 x10 x11 x12 x13 x14 x15 x16 x17
      rw [← hf]
      exact ⟨_, e, fs', _, _, _, _, _, _, _, _, _, _, _, _, _, rfl, r1, r2, by rw [List.length_append, List.length_singleton]; omega⟩
    · rw [List.mem_singleton.mp hp]
      exact ⟨by decide, by decide, by decide, by decide, by decide, by decide⟩
  obtain ⟨fs, x5, x6, x7, x8, x9, x10, x11, x12, x13, x14, x15, x16, x17, el, hs, hne, hfl⟩ := loop1
  have loop2 : ∃ ks y5 y17, exS (Tb ds (L + 1)) (.for_ (.tp [5, 17]) (.enum (.var 3)) pgB2) [.val (scr ns), .val (.int (at_ : Nat)), .val (.int (most : Nat)), .val (enc fs), .val (.list []), x5, x6, x7, x8, x9, x10, x11, x12, x13, x14, x15, x16, x17] = .ok (.nx, [.val (scr ns), .val (.int (at_ : Nat)), .val (.int (most : Nat)), .val (enc fs), .own (ks.map enc), y5, x6, x7, x8, x9, x10, x11, x12, x13, x14, x15, x16, y17]) ∧ List.Sublist ks fs := by
    rw [exS_for]
    have ee : evI (Tb ds (L + 1)) (.enum (.var 3)) [.val (scr ns), .val (.int (at_ : Nat)), .val (.int (most : Nat)), .val (enc fs), .val (.list []), x5, x6, x7, x8, x9, x10, x11, x12, x13, x14, x15, x16, x17] = .ok (fs.zipIdx.map fun q => .tuple [.int (q.2 : Nat), enc q.1]) := by
      rw [evI_enum]
      show R.ok (pairUp 0 (fs.map enc)) = _
      rw [pairUp_eq]
    rw [ee, R.ok_bind]
    generalize hf : (fun (d : D) (ρ : En) => bodyT _ _) = f
    have key := forGo_pre (f := f) (g := fun q : Pn × Nat => PyData.tuple [.int (q.2 : Nat), enc q.1]) (fun pre ρ => ∃ ks s4 y5 y17, ρ = [.val (scr ns), .val (.int (at_ : Nat)), .val (.int (most : Nat)), .val (enc fs), s4, y5, x6, x7, x8, x9, x10, x11, x12, x13, x14, x15, x16, y17] ∧ List.Sublist ks (pre.map (·.1)) ∧ (s4 = .own (ks.map enc) ∨ (s4 = .val (.list []) ∧ ks = [])) ∧ (pre ≠ [] → s4 = .own (ks.map enc))) (xs := fs.zipIdx) (fun pre q post ρ hx hρ => ?_) (ρ := [.val (scr ns), .val (.int (at_ : Nat)), .val (.int (most : Nat)), .val (enc fs), .val (.list []), x5, x6, x7, x8, x9, x10, x11, x12, x13, x14, x15, x16, x17]) ⟨[], _, _, _, rfl, List.nil_sublist _, .inr ⟨rfl, rfl⟩, fun z => (z rfl).elim⟩
    · obtain ⟨ρ', e, ks, s4, y5, y17, rfl, q1, q2, q3⟩ := key
      have : fs.zipIdx ≠ [] := fun z => hne (by simpa using congrArg (List.map (·.1)) z)
      rw [q3 this] at e
      refine ⟨ks, y5, y17, e, ?_⟩
      rw [List.zipIdx_map_fst] at q1
      exact q1
    · obtain ⟨ks, s4, y5, y17, rfl, q1, q2, q3⟩ := hρ
      have hkl : ks.length ≤ 100 := by
        have h1 := q1.length_le
        have h2 := congrArg List.length hx
        simp at h1 h2
        omega
      obtain ⟨t, ht, e⟩ := pg_keep hd L hlen at_ most ks hkl q.1 q.2 s4 q2 (.val (enc fs)) x6 x7 x8 x9 x10 x11 x12 x13 x14 x15 x16
      have hsb : List.Sublist (ks ++ t) ((pre ++ [q]).map (·.1)) := by
        rw [List.map_append]
        refine q1.append ?_
        rcases ht with rfl | rfl
        · exact List.Sublist.refl _
        · exact List.nil_sublist _
      rw [← hf]
      exact ⟨_, e, ks ++ t, .own ((ks ++ t).map enc), _, _, rfl, hsb, .inl rfl, fun _ => rfl⟩
  obtain ⟨ks, y5, y17, el2, hsub⟩ := loop2
  have hk1 : ks.length ≤ most := by have := hsub.length_le; omega
  obtain ⟨ks1, t1, s1, k1⟩ := pg_s1 hd L hlen at_ most h5 (.val (enc fs)) y5 x6 x7 x8 x9 x10 x11 x12 x13 x14 x15 x16 y17 (hs.sub hsub) hk1
  obtain ⟨ks2, t2, s2, k2⟩ := pg_s2 hd L hlen at_ most h5 (.val (enc fs)) y5 x6 x7 x8 x9 x10 x11 x12 x13 x14 x15 x16 y17 s1 k1
  obtain ⟨ks3, t3, s3, k3⟩ := pg_s3 hd L hlen at_ most h5 (.val (enc fs)) y5 x6 x7 x8 x9 x10 x11 x12 x13 x14 x15 x16 y17 h8 s2 k2
  refine ⟨ks3, ?_, s3, k3⟩
  rw [exS_seq, start, thenS_nx, exS_seq, el, thenS_nx, exS_seq, el2, thenS_nx, pgT_eq, exS_seq, t1, thenS_nx, exS_seq, t2, thenS_nx, exS_seq, t3, thenS_nx]
  rfl
end
end Pi

set_option Elab.async false
set_option linter.all false
set_option maxRecDepth 100000
set_option maxHeartbeats 4000000
/-! M9: what is no page, what is no number. -/
namespace Pi
open PySem PySem.Spec PyProof.Rows L2
open Enc (enc)
def tI (xs : List Int) : D := .tuple (xs.map .int)
def bads : List D := [.none, .list [], .list [tI [0, 0, 1, 1]], .tuple [tI [0, 0, 0, 1]], .tuple [tI [0, 0, 21, 1]], .tuple [tI [0, 0, 2, 2], tI [1, 1, 3, 3]], .tuple [tI [0, 0, 1]], .tuple [.tuple [.int 0, .int 0, .int 1, .str "1"]],
  .tuple [.tuple [.bool true, .int 0, .int 2, .int 2]], tI [0, 0, 1, 1], .tuple [tI [0, 0, 1, 1], tI [1, 0, 2, 1], tI [2, 0, 3, 1], tI [3, 0, 4, 1], tI [4, 0, 5, 1], tI [5, 0, 6, 1], tI [6, 0, 7, 1], tI [7, 0, 8, 1], tI [8, 0, 9, 1]]]
theorem bads_len : bads.length = 11 := rfl
theorem bp_run (T : Str → List D → R D) (x0 x1 : Sl) (i : Int) (hd : ∀ ρ2 ρ3, ev T (.call "_law_drawn" (.cons (.var 0) (.cons (.var 1) (.cons (.int 11) .nil)))) [x0, x1, ρ2, ρ3] = .ok (.int i)) :
    outR (exS T d__law_badpage.ir [x0, x1, .no, .no]) = (match atI bads i with | some d => .ok d | none => .bad) := by
  have e0 : d__law_badpage.ir = .seq (.asg (.nm 2) (.lst (.cons .non (.cons (.lst .nil) (.cons (.lst (.cons (.tup (.cons (.int 0) (.cons (.int 0) (.cons (.int 1) (.cons (.int 1) .nil))))) .nil)) (.cons (.tup (.cons (.tup (.cons (.int 0) (.cons (.int 0) (.cons (.int 0) (.cons (.int 1) .nil))))) .nil)) (.cons (.tup (.cons (.tup (.cons (.int 0) (.cons (.int 0) (.cons (.int 21) (.cons (.int 1) .nil))))) .nil)) .nil))))))) (.seq (.asg (.nm 2) (.bin .add (.var 2) (.lst (.cons (.tup (.cons (.tup (.cons (.int 0) (.cons (.int 0) (.cons (.int 2) (.cons (.int 2) .nil))))) (.cons (.tup (.cons (.int 1) (.cons (.int 1) (.cons (.int 3) (.cons (.int 3) .nil))))) .nil))) .nil)))) (.seq (.asg (.nm 2) (.bin .add (.var 2) (.lst (.cons (.tup (.cons (.tup (.cons (.int 0) (.cons (.int 0) (.cons (.int 1) .nil)))) .nil)) (.cons (.tup (.cons (.tup (.cons (.int 0) (.cons (.int 0) (.cons (.int 1) (.cons (.str "1") .nil))))) .nil)) (.cons (.tup (.cons (.tup (.cons (.bl true) (.cons (.int 0) (.cons (.int 2) (.cons (.int 2) .nil))))) .nil)) (.cons (.tup (.cons (.int 0) (.cons (.int 0) (.cons (.int 1) (.cons (.int 1) .nil))))) .nil))))))) (.seq (.ret (.idx (.bin .add (.var 2) (.lst (.cons (.bi .tuple (.cons (.comp [("k", 3)] (.nm 3) (.rg .nil (.int 9)) .yes (.tup (.cons (.var 3) (.cons (.int 0) (.cons (.bin .add (.var 3) (.int 1)) (.cons (.int 1) .nil)))))) .nil)) .nil))) (.call "_law_drawn" (.cons (.var 0) (.cons (.var 1) (.cons (.int 11) .nil)))))) .skip))) := rfl
  have s1 : exS T (.asg (.nm 2) (.lst (.cons .non (.cons (.lst .nil) (.cons (.lst (.cons (.tup (.cons (.int 0) (.cons (.int 0) (.cons (.int 1) (.cons (.int 1) .nil))))) .nil)) (.cons (.tup (.cons (.tup (.cons (.int 0) (.cons (.int 0) (.cons (.int 0) (.cons (.int 1) .nil))))) .nil)) (.cons (.tup (.cons (.tup (.cons (.int 0) (.cons (.int 0) (.cons (.int 21) (.cons (.int 1) .nil))))) .nil)) .nil))))))) [x0, x1, .no, .no] = .ok (.nx, [x0, x1, .val (.list (bads.take 5)), .no]) := rfl
  have s2 : exS T (.asg (.nm 2) (.bin .add (.var 2) (.lst (.cons (.tup (.cons (.tup (.cons (.int 0) (.cons (.int 0) (.cons (.int 2) (.cons (.int 2) .nil))))) (.cons (.tup (.cons (.int 1) (.cons (.int 1) (.cons (.int 3) (.cons (.int 3) .nil))))) .nil))) .nil)))) [x0, x1, .val (.list (bads.take 5)), .no] = .ok (.nx, [x0, x1, .val (.list (bads.take 6)), .no]) := rfl
  have s3 : exS T (.asg (.nm 2) (.bin .add (.var 2) (.lst (.cons (.tup (.cons (.tup (.cons (.int 0) (.cons (.int 0) (.cons (.int 1) .nil)))) .nil)) (.cons (.tup (.cons (.tup (.cons (.int 0) (.cons (.int 0) (.cons (.int 1) (.cons (.str "1") .nil))))) .nil)) (.cons (.tup (.cons (.tup (.cons (.bl true) (.cons (.int 0) (.cons (.int 2) (.cons (.int 2) .nil))))) .nil)) (.cons (.tup (.cons (.int 0) (.cons (.int 0) (.cons (.int 1) (.cons (.int 1) .nil))))) .nil))))))) [x0, x1, .val (.list (bads.take 6)), .no] = .ok (.nx, [x0, x1, .val (.list (bads.take 10)), .no]) := rfl
  have s4 : ev T (.bin .add (.var 2) (.lst (.cons (.bi .tuple (.cons (.comp [("k", 3)] (.nm 3) (.rg .nil (.int 9)) .yes (.tup (.cons (.var 3) (.cons (.int 0) (.cons (.bin .add (.var 3) (.int 1)) (.cons (.int 1) .nil)))))) .nil)) .nil))) [x0, x1, .val (.list (bads.take 10)), .no] = .ok (.list bads) := rfl
  rw [e0, exS_seq, s1, thenS_nx, exS_seq, s2, thenS_nx, exS_seq, s3, thenS_nx, exS_seq, exS_ret, ev_idx, s4, R.ok_bind, hd, R.ok_bind, ix_list]
  cases atI bads i <;> rfl
theorem atI_in {α : Type} {xs : List α} {i : Int} (h0 : 0 ≤ i) (h1 : i < xs.length) : ∃ x, atI xs i = some x ∧ x ∈ xs := by
  have hl : i.toNat < xs.length := by omega
  have := atI_nat xs i.toNat hl
  rw [Int.toNat_of_nonneg h0] at this
  exact ⟨xs[i.toNat], by rw [this, List.getElem?_eq_getElem hl], List.getElem_mem hl⟩
section
variable {ds : List Df} (hd : findD ds "_law_drawn" = some d__law_drawn) (L : Nat) {ns : List Int} (hlen : ns.length ≤ 63)
include hd hlen
theorem r_badpage (hb : findD ds "_law_badpage" = some d__law_badpage) (at_ : Nat) : ∃ d ∈ bads, Tb ds (L + 2) "_law_badpage" [scr ns, .int (at_ : Nat)] = .ok d := by
  have e1 := r_dI hd L hlen (k := (at_ : Int)) (many := 11) (by omega) (by omega)
  have b1 := dI_lt ns (at_ : Int) (many := 11) (by omega)
  obtain ⟨d, h1, h2⟩ := atI_in (xs := bads) b1.1 (by rw [bads_len]; exact b1.2)
  refine ⟨d, h2, ?_⟩
  rw [Tb_run hb rfl, runD_eq]
  show outR (exS _ d__law_badpage.ir [.val (scr ns), .val (.int (at_ : Nat)), .no, .no]) = _
  rw [bp_run _ _ _ (dI ns (at_ : Int) 11) (fun _ _ => by simp [e1]), h1]
theorem r_badnumber (hb : findD ds "_law_badnumber" = some d__law_badnumber) (at_ many : Nat) : ∃ d, (d = .none ∨ d = .int (-1) ∨ d = .int (many : Nat) ∨ d = .bool true ∨ d = .str "0") ∧ Tb ds (L + 2) "_law_badnumber" [scr ns, .int (at_ : Nat), .int (many : Nat)] = .ok d := by
  have e1 := r_dI hd L hlen (k := (at_ : Int)) (many := 5) (by omega) (by omega)
  have b1 := dI_lt ns (at_ : Int) (many := 5) (by omega)
  obtain ⟨d, h1, h2⟩ := atI_in (xs := [PyData.none, .int (-1), .int (many : Nat), .bool true, .str "0"]) b1.1 b1.2
  refine ⟨d, by simpa using h2, ?_⟩
  rw [Tb_run hb rfl, runD_eq]
  show outR (exS _ d__law_badnumber.ir [.val (scr ns), .val (.int (at_ : Nat)), .val (.int (many : Nat))]) = _
  have s4 : ∀ T : Str → List D → R D, ev T (.lst (.cons .non (.cons (.neg (.int 1)) (.cons (.var 2) (.cons (.bl true) (.cons (.str "0") .nil)))))) [.val (scr ns), .val (.int (at_ : Nat)), .val (.int (many : Nat))] = .ok (.list [PyData.none, .int (-1), .int (many : Nat), .bool true, .str "0"]) := fun _ => rfl
  simp only [d__law_badnumber, exS_seq, exS_ret, ev_idx, s4, R.ok_bind, ev_call, evL_cons, evL_nil, ev_var, ev_int, List.getElem?_cons_zero, List.getElem?_cons_succ, e1, ix_list, h1, nx_ok, thenS_rt, outR_rt]
end
end Pi

set_option Elab.async false
set_option linter.all false
set_option maxRecDepth 100000
set_option maxHeartbeats 4000000
namespace Pi
open PySem PySem.Spec PyProof.Rows L2
def tab_k15 : List Df := [d_is_int, d_is_panel, d_share_widths, d_share_heights, d_is_page, d_check_page, d_check_number, d_goes_before, d_is_before, d_find_pairs, d_find_cuts, d_find_parts, d_check_part, d_row_parts, d_column_parts, d_read_part, d_find_reading, d_by_rows, d_by_columns, d_stuck_part, d_is_cuttable, d_has_order, d_keeps_pairs, d_fits, d_can_read, d_next_ones, d_count_left, d_find_number, d_first_order, d_is_sure, d__law_drawn, d__law_page, d__law_stuck, d_law_k15]
def gl_k15 : List (Str × Key) := [("SIZE", .inl 20), ("MAX_PANELS", .inl 8)]
def ex_k15 : List (Str × Nat) := [("PanelError", 0), ("InvalidPage", 1), ("InvalidNumber", 2), ("InvalidPart", 4)]
def s_k15 (i : Nat) : Stmt := PySem.Challenge.pw_panelorder_k15_whole_cutting.main.body.getD i (.Pass ⟨0, 0, 0, 0⟩)
theorem sc_k15_is_int : FnScope d_is_int.N ["value", "least", "most"] (defScope (s_k15 8)) := ⟨rfl, rfl, rfl, by decide +kernel, rfl, by decide +kernel, by decide +kernel⟩
theorem ck_k15_is_int : chkS.chkSs d_is_int.ir ⟨d_is_int.N, defScope (s_k15 8), fun _ => true, gl_k15, fsOf tab_k15, ex_k15⟩ (defBody (s_k15 8)) = true := by decide +kernel
theorem sc_k15_is_panel : FnScope d_is_panel.N ["value"] (defScope (s_k15 9)) := ⟨rfl, rfl, rfl, by decide +kernel, rfl, by decide +kernel, by decide +kernel⟩
theorem ck_k15_is_panel : chkS.chkSs d_is_panel.ir ⟨d_is_panel.N, defScope (s_k15 9), fun _ => true, gl_k15, fsOf tab_k15, ex_k15⟩ (defBody (s_k15 9)) = true := by decide +kernel
theorem sc_k15_share_widths : FnScope d_share_widths.N ["one", "other"] (defScope (s_k15 10)) := ⟨rfl, rfl, rfl, by decide +kernel, rfl, by decide +kernel, by decide +kernel⟩
theorem ck_k15_share_widths : chkS.chkSs d_share_widths.ir ⟨d_share_widths.N, defScope (s_k15 10), fun _ => true, gl_k15, fsOf tab_k15, ex_k15⟩ (defBody (s_k15 10)) = true := by decide +kernel
theorem sc_k15_share_heights : FnScope d_share_heights.N ["one", "other"] (defScope (s_k15 11)) := ⟨rfl, rfl, rfl, by decide +kernel, rfl, by decide +kernel, by decide +kernel⟩
theorem ck_k15_share_heights : chkS.chkSs d_share_heights.ir ⟨d_share_heights.N, defScope (s_k15 11), fun _ => true, gl_k15, fsOf tab_k15, ex_k15⟩ (defBody (s_k15 11)) = true := by decide +kernel
theorem sc_k15_is_page : FnScope d_is_page.N ["candidate"] (defScope (s_k15 12)) := ⟨rfl, rfl, rfl, by decide +kernel, rfl, by decide +kernel, by decide +kernel⟩
theorem ck_k15_is_page : chkS.chkSs d_is_page.ir ⟨d_is_page.N, defScope (s_k15 12), fun _ => true, gl_k15, fsOf tab_k15, ex_k15⟩ (defBody (s_k15 12)) = true := by decide +kernel
theorem sc_k15_check_page : FnScope d_check_page.N ["value"] (defScope (s_k15 13)) := ⟨rfl, rfl, rfl, by decide +kernel, rfl, by decide +kernel, by decide +kernel⟩
theorem ck_k15_check_page : chkS.chkSs d_check_page.ir ⟨d_check_page.N, defScope (s_k15 13), fun _ => true, gl_k15, fsOf tab_k15, ex_k15⟩ (defBody (s_k15 13)) = true := by decide +kernel
theorem sc_k15_check_number : FnScope d_check_number.N ["value", "least", "most"] (defScope (s_k15 14)) := ⟨rfl, rfl, rfl, by decide +kernel, rfl, by decide +kernel, by decide +kernel⟩
theorem ck_k15_check_number : chkS.chkSs d_check_number.ir ⟨d_check_number.N, defScope (s_k15 14), fun _ => true, gl_k15, fsOf tab_k15, ex_k15⟩ (defBody (s_k15 14)) = true := by decide +kernel
theorem sc_k15_goes_before : FnScope d_goes_before.N ["page", "one", "other"] (defScope (s_k15 15)) := ⟨rfl, rfl, rfl, by decide +kernel, rfl, by decide +kernel, by decide +kernel⟩
theorem ck_k15_goes_before : chkS.chkSs d_goes_before.ir ⟨d_goes_before.N, defScope (s_k15 15), fun _ => true, gl_k15, fsOf tab_k15, ex_k15⟩ (defBody (s_k15 15)) = true := by decide +kernel
theorem sc_k15_is_before : FnScope d_is_before.N ["page", "one", "other"] (defScope (s_k15 16)) := ⟨rfl, rfl, rfl, by decide +kernel, rfl, by decide +kernel, by decide +kernel⟩
theorem ck_k15_is_before : chkS.chkSs d_is_before.ir ⟨d_is_before.N, defScope (s_k15 16), fun _ => true, gl_k15, fsOf tab_k15, ex_k15⟩ (defBody (s_k15 16)) = true := by decide +kernel
theorem sc_k15_find_pairs : FnScope d_find_pairs.N ["page"] (defScope (s_k15 17)) := ⟨rfl, rfl, rfl, by decide +kernel, rfl, by decide +kernel, by decide +kernel⟩
theorem ck_k15_find_pairs : chkS.chkSs d_find_pairs.ir ⟨d_find_pairs.N, defScope (s_k15 17), fun _ => true, gl_k15, fsOf tab_k15, ex_k15⟩ (defBody (s_k15 17)) = true := by decide +kernel
theorem sc_k15_find_cuts : FnScope d_find_cuts.N ["page", "part", "low"] (defScope (s_k15 19)) := ⟨rfl, rfl, rfl, by decide +kernel, rfl, by decide +kernel, by decide +kernel⟩
theorem ck_k15_find_cuts : chkS.chkSs d_find_cuts.ir ⟨d_find_cuts.N, defScope (s_k15 19), fun _ => true, gl_k15, fsOf tab_k15, ex_k15⟩ (defBody (s_k15 19)) = true := by decide +kernel
theorem sc_k15_find_parts : FnScope d_find_parts.N ["page", "part", "low"] (defScope (s_k15 20)) := ⟨rfl, rfl, rfl, by decide +kernel, rfl, by decide +kernel, by decide +kernel⟩
theorem ck_k15_find_parts : chkS.chkSs d_find_parts.ir ⟨d_find_parts.N, defScope (s_k15 20), fun _ => true, gl_k15, fsOf tab_k15, ex_k15⟩ (defBody (s_k15 20)) = true := by decide +kernel
theorem sc_k15_check_part : FnScope d_check_part.N ["page", "value"] (defScope (s_k15 21)) := ⟨rfl, rfl, rfl, by decide +kernel, rfl, by decide +kernel, by decide +kernel⟩
theorem ck_k15_check_part : chkS.chkSs d_check_part.ir ⟨d_check_part.N, defScope (s_k15 21), fun _ => true, gl_k15, fsOf tab_k15, ex_k15⟩ (defBody (s_k15 21)) = true := by decide +kernel
theorem sc_k15_row_parts : FnScope d_row_parts.N ["page", "part"] (defScope (s_k15 22)) := ⟨rfl, rfl, rfl, by decide +kernel, rfl, by decide +kernel, by decide +kernel⟩
theorem ck_k15_row_parts : chkS.chkSs d_row_parts.ir ⟨d_row_parts.N, defScope (s_k15 22), fun _ => true, gl_k15, fsOf tab_k15, ex_k15⟩ (defBody (s_k15 22)) = true := by decide +kernel
theorem sc_k15_column_parts : FnScope d_column_parts.N ["page", "part"] (defScope (s_k15 23)) := ⟨rfl, rfl, rfl, by decide +kernel, rfl, by decide +kernel, by decide +kernel⟩
theorem ck_k15_column_parts : chkS.chkSs d_column_parts.ir ⟨d_column_parts.N, defScope (s_k15 23), fun _ => true, gl_k15, fsOf tab_k15, ex_k15⟩ (defBody (s_k15 23)) = true := by decide +kernel
theorem sc_k15_read_part : FnScope d_read_part.N ["page", "part", "low"] (defScope (s_k15 24)) := ⟨rfl, rfl, rfl, by decide +kernel, rfl, by decide +kernel, by decide +kernel⟩
theorem ck_k15_read_part : chkS.chkSs d_read_part.ir ⟨d_read_part.N, defScope (s_k15 24), fun _ => true, gl_k15, fsOf tab_k15, ex_k15⟩ (defBody (s_k15 24)) = true := by decide +kernel
theorem sc_k15_find_reading : FnScope d_find_reading.N ["page", "low"] (defScope (s_k15 25)) := ⟨rfl, rfl, rfl, by decide +kernel, rfl, by decide +kernel, by decide +kernel⟩
theorem ck_k15_find_reading : chkS.chkSs d_find_reading.ir ⟨d_find_reading.N, defScope (s_k15 25), fun _ => true, gl_k15, fsOf tab_k15, ex_k15⟩ (defBody (s_k15 25)) = true := by decide +kernel
theorem sc_k15_by_rows : FnScope d_by_rows.N ["page"] (defScope (s_k15 26)) := ⟨rfl, rfl, rfl, by decide +kernel, rfl, by decide +kernel, by decide +kernel⟩
theorem ck_k15_by_rows : chkS.chkSs d_by_rows.ir ⟨d_by_rows.N, defScope (s_k15 26), fun _ => true, gl_k15, fsOf tab_k15, ex_k15⟩ (defBody (s_k15 26)) = true := by decide +kernel
theorem sc_k15_by_columns : FnScope d_by_columns.N ["page"] (defScope (s_k15 27)) := ⟨rfl, rfl, rfl, by decide +kernel, rfl, by decide +kernel, by decide +kernel⟩
theorem ck_k15_by_columns : chkS.chkSs d_by_columns.ir ⟨d_by_columns.N, defScope (s_k15 27), fun _ => true, gl_k15, fsOf tab_k15, ex_k15⟩ (defBody (s_k15 27)) = true := by decide +kernel
theorem sc_k15_stuck_part : FnScope d_stuck_part.N ["page"] (defScope (s_k15 28)) := ⟨rfl, rfl, rfl, by decide +kernel, rfl, by decide +kernel, by decide +kernel⟩
theorem ck_k15_stuck_part : chkS.chkSs d_stuck_part.ir ⟨d_stuck_part.N, defScope (s_k15 28), fun _ => true, gl_k15, fsOf tab_k15, ex_k15⟩ (defBody (s_k15 28)) = true := by decide +kernel
theorem sc_k15_is_cuttable : FnScope d_is_cuttable.N ["page"] (defScope (s_k15 29)) := ⟨rfl, rfl, rfl, by decide +kernel, rfl, by decide +kernel, by decide +kernel⟩
theorem ck_k15_is_cuttable : chkS.chkSs d_is_cuttable.ir ⟨d_is_cuttable.N, defScope (s_k15 29), fun _ => true, gl_k15, fsOf tab_k15, ex_k15⟩ (defBody (s_k15 29)) = true := by decide +kernel
theorem sc_k15_has_order : FnScope d_has_order.N ["many", "candidate"] (defScope (s_k15 31)) := ⟨rfl, rfl, rfl, by decide +kernel, rfl, by decide +kernel, by decide +kernel⟩
theorem ck_k15_has_order : chkS.chkSs d_has_order.ir ⟨d_has_order.N, defScope (s_k15 31), fun _ => true, gl_k15, fsOf tab_k15, ex_k15⟩ (defBody (s_k15 31)) = true := by decide +kernel
theorem sc_k15_keeps_pairs : FnScope d_keeps_pairs.N ["order", "known"] (defScope (s_k15 32)) := ⟨rfl, rfl, rfl, by decide +kernel, rfl, by decide +kernel, by decide +kernel⟩
theorem ck_k15_keeps_pairs : chkS.chkSs d_keeps_pairs.ir ⟨d_keeps_pairs.N, defScope (s_k15 32), fun _ => true, gl_k15, fsOf tab_k15, ex_k15⟩ (defBody (s_k15 32)) = true := by decide +kernel
theorem sc_k15_fits : FnScope d_fits.N ["page", "candidate"] (defScope (s_k15 33)) := ⟨rfl, rfl, rfl, by decide +kernel, rfl, by decide +kernel, by decide +kernel⟩
theorem ck_k15_fits : chkS.chkSs d_fits.ir ⟨d_fits.N, defScope (s_k15 33), fun _ => true, gl_k15, fsOf tab_k15, ex_k15⟩ (defBody (s_k15 33)) = true := by decide +kernel
theorem sc_k15_can_read : FnScope d_can_read.N ["page", "candidate"] (defScope (s_k15 34)) := ⟨rfl, rfl, rfl, by decide +kernel, rfl, by decide +kernel, by decide +kernel⟩
theorem ck_k15_can_read : chkS.chkSs d_can_read.ir ⟨d_can_read.N, defScope (s_k15 34), fun _ => true, gl_k15, fsOf tab_k15, ex_k15⟩ (defBody (s_k15 34)) = true := by decide +kernel
theorem sc_k15_next_ones : FnScope d_next_ones.N ["left", "known"] (defScope (s_k15 35)) := ⟨rfl, rfl, rfl, by decide +kernel, rfl, by decide +kernel, by decide +kernel⟩
theorem ck_k15_next_ones : chkS.chkSs d_next_ones.ir ⟨d_next_ones.N, defScope (s_k15 35), fun _ => true, gl_k15, fsOf tab_k15, ex_k15⟩ (defBody (s_k15 35)) = true := by decide +kernel
theorem sc_k15_count_left : FnScope d_count_left.N ["left", "known", "seen"] (defScope (s_k15 36)) := ⟨rfl, rfl, rfl, by decide +kernel, rfl, by decide +kernel, by decide +kernel⟩
theorem ck_k15_count_left : chkS.chkSs d_count_left.ir ⟨d_count_left.N, defScope (s_k15 36), fun _ => true, gl_k15, fsOf tab_k15, ex_k15⟩ (defBody (s_k15 36)) = true := by decide +kernel
theorem sc_k15_find_number : FnScope d_find_number.N ["many", "known"] (defScope (s_k15 37)) := ⟨rfl, rfl, rfl, by decide +kernel, rfl, by decide +kernel, by decide +kernel⟩
theorem ck_k15_find_number : chkS.chkSs d_find_number.ir ⟨d_find_number.N, defScope (s_k15 37), fun _ => true, gl_k15, fsOf tab_k15, ex_k15⟩ (defBody (s_k15 37)) = true := by decide +kernel
theorem sc_k15_first_order : FnScope d_first_order.N ["page"] (defScope (s_k15 38)) := ⟨rfl, rfl, rfl, by decide +kernel, rfl, by decide +kernel, by decide +kernel⟩
theorem ck_k15_first_order : chkS.chkSs d_first_order.ir ⟨d_first_order.N, defScope (s_k15 38), fun _ => true, gl_k15, fsOf tab_k15, ex_k15⟩ (defBody (s_k15 38)) = true := by decide +kernel
theorem sc_k15_is_sure : FnScope d_is_sure.N ["page"] (defScope (s_k15 39)) := ⟨rfl, rfl, rfl, by decide +kernel, rfl, by decide +kernel, by decide +kernel⟩
theorem ck_k15_is_sure : chkS.chkSs d_is_sure.ir ⟨d_is_sure.N, defScope (s_k15 39), fun _ => true, gl_k15, fsOf tab_k15, ex_k15⟩ (defBody (s_k15 39)) = true := by decide +kernel
theorem sc_k15__law_drawn : FnScope d__law_drawn.N ["script", "k", "many"] (defScope (s_k15 41)) := ⟨rfl, rfl, rfl, by decide +kernel, rfl, by decide +kernel, by decide +kernel⟩
theorem ck_k15__law_drawn : chkS.chkSs d__law_drawn.ir ⟨d__law_drawn.N, defScope (s_k15 41), fun _ => true, gl_k15, fsOf tab_k15, ex_k15⟩ (defBody (s_k15 41)) = true := by decide +kernel
theorem sc_k15__law_page : FnScope d__law_page.N ["script", "at", "most"] (defScope (s_k15 42)) := ⟨rfl, rfl, rfl, by decide +kernel, rfl, by decide +kernel, by decide +kernel⟩
theorem ck_k15__law_page : chkS.chkSs d__law_page.ir ⟨d__law_page.N, defScope (s_k15 42), fun _ => true, gl_k15, fsOf tab_k15, ex_k15⟩ (defBody (s_k15 42)) = true := by decide +kernel
theorem sc_k15__law_stuck : FnScope d__law_stuck.N ["page"] (defScope (s_k15 43)) := ⟨rfl, rfl, rfl, by decide +kernel, rfl, by decide +kernel, by decide +kernel⟩
theorem ck_k15__law_stuck : chkS.chkSs d__law_stuck.ir ⟨d__law_stuck.N, defScope (s_k15 43), fun _ => true, gl_k15, fsOf tab_k15, ex_k15⟩ (defBody (s_k15 43)) = true := by decide +kernel
theorem sc_k15_law : FnScope d_law_k15.N ["script"] (defScope (s_k15 44)) := ⟨rfl, rfl, rfl, by decide +kernel, rfl, by decide +kernel, by decide +kernel⟩
theorem ck_k15_law : chkS.chkSs d_law_k15.ir ⟨d_law_k15.N, defScope (s_k15 44), fun _ => true, gl_k15, fsOf tab_k15, ex_k15⟩ (defBody (s_k15 44)) = true := by decide +kernel
theorem mk_k15 {w : World} {K : PySem.W.Frag} {h : Heap} {mg : Str → Option Value} {fa : Addr} (X : K.In h) (G : h.Ns mainGlobals mg) (hfa : mg "law" = some (.ref fa))
    {f0 : Addr} {oc0 kV0 dc0 pm0 cd0 ct0 : Value} {od0 an0 : Option Addr} {sl0 : Array (Option Value)} {f1 : Addr} {oc1 kV1 dc1 pm1 cd1 ct1 : Value} {od1 an1 : Option Addr} {sl1 : Array (Option Value)} {f2 : Addr} {oc2 kV2 dc2 pm2 cd2 ct2 : Value} {od2 an2 : Option Addr} {sl2 : Array (Option Value)} {f3 : Addr} {oc3 kV3 dc3 pm3 cd3 ct3 : Value} {od3 an3 : Option Addr} {sl3 : Array (Option Value)} {f4 : Addr} {oc4 kV4 dc4 pm4 cd4 ct4 : Value} {od4 an4 : Option Addr} {sl4 : Array (Option Value)} {f5 : Addr} {oc5 kV5 dc5 pm5 cd5 ct5 : Value} {od5 an5 : Option Addr} {sl5 : Array (Option Value)} {f6 : Addr} {oc6 kV6 dc6 pm6 cd6 ct6 : Value} {od6 an6 : Option Addr} {sl6 : Array (Option Value)} {f7 : Addr} {oc7 kV7 dc7 pm7 cd7 ct7 : Value} {od7 an7 : Option Addr} {sl7 : Array (Option Value)} {f8 : Addr} {oc8 kV8 dc8 pm8 cd8 ct8 : Value} {od8 an8 : Option Addr} {sl8 : Array (Option Value)} {f9 : Addr} {oc9 kV9 dc9 pm9 cd9 ct9 : Value} {od9 an9 : Option Addr} {sl9 : Array (Option Value)} {f10 : Addr} {oc10 kV10 dc10 pm10 cd10 ct10 : Value} {od10 an10 : Option Addr} {sl10 : Array (Option Value)} {f11 : Addr} {oc11 kV11 dc11 pm11 cd11 ct11 : Value} {od11 an11 : Option Addr} {sl11 : Array (Option Value)} {f12 : Addr} {oc12 kV12 dc12 pm12 cd12 ct12 : Value} {od12 an12 : Option Addr} {sl12 : Array (Option Value)} {f13 : Addr} {oc13 kV13 dc13 pm13 cd13 ct13 : Value} {od13 an13 : Option Addr} {sl13 : Array (Option Value)} {f14 : Addr} {oc14 kV14 dc14 pm14 cd14 ct14 : Value} {od14 an14 : Option Addr} {sl14 : Array (Option Value)} {f15 : Addr} {oc15 kV15 dc15 pm15 cd15 ct15 : Value} {od15 an15 : Option Addr} {sl15 : Array (Option Value)} {f16 : Addr} {oc16 kV16 dc16 pm16 cd16 ct16 : Value} {od16 an16 : Option Addr} {sl16 : Array (Option Value)} {f17 : Addr} {oc17 kV17 dc17 pm17 cd17 ct17 : Value} {od17 an17 : Option Addr} {sl17 : Array (Option Value)} {f18 : Addr} {oc18 kV18 dc18 pm18 cd18 ct18 : Value} {od18 an18 : Option Addr} {sl18 : Array (Option Value)} {f19 : Addr} {oc19 kV19 dc19 pm19 cd19 ct19 : Value} {od19 an19 : Option Addr} {sl19 : Array (Option Value)} {f20 : Addr} {oc20 kV20 dc20 pm20 cd20 ct20 : Value} {od20 an20 : Option Addr} {sl20 : Array (Option Value)} {f21 : Addr} {oc21 kV21 dc21 pm21 cd21 ct21 : Value} {od21 an21 : Option Addr} {sl21 : Array (Option Value)} {f22 : Addr} {oc22 kV22 dc22 pm22 cd22 ct22 : Value} {od22 an22 : Option Addr} {sl22 : Array (Option Value)} {f23 : Addr} {oc23 kV23 dc23 pm23 cd23 ct23 : Value} {od23 an23 : Option Addr} {sl23 : Array (Option Value)} {f24 : Addr} {oc24 kV24 dc24 pm24 cd24 ct24 : Value} {od24 an24 : Option Addr} {sl24 : Array (Option Value)} {f25 : Addr} {oc25 kV25 dc25 pm25 cd25 ct25 : Value} {od25 an25 : Option Addr} {sl25 : Array (Option Value)} {f26 : Addr} {oc26 kV26 dc26 pm26 cd26 ct26 : Value} {od26 an26 : Option Addr} {sl26 : Array (Option Value)} {f27 : Addr} {oc27 kV27 dc27 pm27 cd27 ct27 : Value} {od27 an27 : Option Addr} {sl27 : Array (Option Value)} {f28 : Addr} {oc28 kV28 dc28 pm28 cd28 ct28 : Value} {od28 an28 : Option Addr} {sl28 : Array (Option Value)} {f29 : Addr} {oc29 kV29 dc29 pm29 cd29 ct29 : Value} {od29 an29 : Option Addr} {sl29 : Array (Option Value)} {f30 : Addr} {oc30 kV30 dc30 pm30 cd30 ct30 : Value} {od30 an30 : Option Addr} {sl30 : Array (Option Value)} {f31 : Addr} {oc31 kV31 dc31 pm31 cd31 ct31 : Value} {od31 an31 : Option Addr} {sl31 : Array (Option Value)} {f32 : Addr} {oc32 kV32 dc32 pm32 cd32 ct32 : Value} {od32 an32 : Option Addr} {sl32 : Array (Option Value)} {f33 : Addr} {oc33 kV33 dc33 pm33 cd33 ct33 : Value} {od33 an33 : Option Addr} {sl33 : Array (Option Value)} {gv0 : Value} {gv1 : Value} {C0 : Addr} {C1 : Addr} {C2 : Addr} {C4 : Addr}
    (a0 : PySem.W.nsIn K mainGlobals "is_int" = some (some (.ref f0)))
    (l0 : K.lookup f0 = some ⟨oc0, od0, .func (PySem.W.fnOf "is_int" "is_int" (defArgs (s_k15 8)) (defBody (s_k15 8)) (defScope (s_k15 8)) .none kV0 dc0 pm0 an0 cd0 ct0), sl0⟩)
    (c0 : PySem.W.codeIn K cd0 "is_int" = true)
    (k0 : PySem.W.keepIn K (.ref f0) = true)
    (a1 : PySem.W.nsIn K mainGlobals "is_panel" = some (some (.ref f1)))
    (l1 : K.lookup f1 = some ⟨oc1, od1, .func (PySem.W.fnOf "is_panel" "is_panel" (defArgs (s_k15 9)) (defBody (s_k15 9)) (defScope (s_k15 9)) .none kV1 dc1 pm1 an1 cd1 ct1), sl1⟩)
    (c1 : PySem.W.codeIn K cd1 "is_panel" = true)
    (k1 : PySem.W.keepIn K (.ref f1) = true)
    (a2 : PySem.W.nsIn K mainGlobals "share_widths" = some (some (.ref f2)))
    (l2 : K.lookup f2 = some ⟨oc2, od2, .func (PySem.W.fnOf "share_widths" "share_widths" (defArgs (s_k15 10)) (defBody (s_k15 10)) (defScope (s_k15 10)) .none kV2 dc2 pm2 an2 cd2 ct2), sl2⟩)
    (c2 : PySem.W.codeIn K cd2 "share_widths" = true)
    (k2 : PySem.W.keepIn K (.ref f2) = true)
    (a3 : PySem.W.nsIn K mainGlobals "share_heights" = some (some (.ref f3)))
    (l3 : K.lookup f3 = some ⟨oc3, od3, .func (PySem.W.fnOf "share_heights" "share_heights" (defArgs (s_k15 11)) (defBody (s_k15 11)) (defScope (s_k15 11)) .none kV3 dc3 pm3 an3 cd3 ct3), sl3⟩)
    (c3 : PySem.W.codeIn K cd3 "share_heights" = true)
    (k3 : PySem.W.keepIn K (.ref f3) = true)
    (a4 : PySem.W.nsIn K mainGlobals "is_page" = some (some (.ref f4)))
    (l4 : K.lookup f4 = some ⟨oc4, od4, .func (PySem.W.fnOf "is_page" "is_page" (defArgs (s_k15 12)) (defBody (s_k15 12)) (defScope (s_k15 12)) .none kV4 dc4 pm4 an4 cd4 ct4), sl4⟩)
    (c4 : PySem.W.codeIn K cd4 "is_page" = true)
    (k4 : PySem.W.keepIn K (.ref f4) = true)
    (a5 : PySem.W.nsIn K mainGlobals "check_page" = some (some (.ref f5)))
    (l5 : K.lookup f5 = some ⟨oc5, od5, .func (PySem.W.fnOf "check_page" "check_page" (defArgs (s_k15 13)) (defBody (s_k15 13)) (defScope (s_k15 13)) .none kV5 dc5 pm5 an5 cd5 ct5), sl5⟩)
    (c5 : PySem.W.codeIn K cd5 "check_page" = true)
    (k5 : PySem.W.keepIn K (.ref f5) = true)
    (a6 : PySem.W.nsIn K mainGlobals "check_number" = some (some (.ref f6)))
    (l6 : K.lookup f6 = some ⟨oc6, od6, .func (PySem.W.fnOf "check_number" "check_number" (defArgs (s_k15 14)) (defBody (s_k15 14)) (defScope (s_k15 14)) .none kV6 dc6 pm6 an6 cd6 ct6), sl6⟩)
    (c6 : PySem.W.codeIn K cd6 "check_number" = true)
    (k6 : PySem.W.keepIn K (.ref f6) = true)
    (a7 : PySem.W.nsIn K mainGlobals "goes_before" = some (some (.ref f7)))
    (l7 : K.lookup f7 = some ⟨oc7, od7, .func (PySem.W.fnOf "goes_before" "goes_before" (defArgs (s_k15 15)) (defBody (s_k15 15)) (defScope (s_k15 15)) .none kV7 dc7 pm7 an7 cd7 ct7), sl7⟩)
    (c7 : PySem.W.codeIn K cd7 "goes_before" = true)
    (k7 : PySem.W.keepIn K (.ref f7) = true)
    (a8 : PySem.W.nsIn K mainGlobals "is_before" = some (some (.ref f8)))
    (l8 : K.lookup f8 = some ⟨oc8, od8, .func (PySem.W.fnOf "is_before" "is_before" (defArgs (s_k15 16)) (defBody (s_k15 16)) (defScope (s_k15 16)) .none kV8 dc8 pm8 an8 cd8 ct8), sl8⟩)
    (c8 : PySem.W.codeIn K cd8 "is_before" = true)
    (k8 : PySem.W.keepIn K (.ref f8) = true)
    (a9 : PySem.W.nsIn K mainGlobals "find_pairs" = some (some (.ref f9)))
    (l9 : K.lookup f9 = some ⟨oc9, od9, .func (PySem.W.fnOf "find_pairs" "find_pairs" (defArgs (s_k15 17)) (defBody (s_k15 17)) (defScope (s_k15 17)) .none kV9 dc9 pm9 an9 cd9 ct9), sl9⟩)
    (c9 : PySem.W.codeIn K cd9 "find_pairs" = true)
    (k9 : PySem.W.keepIn K (.ref f9) = true)
    (a10 : PySem.W.nsIn K mainGlobals "find_cuts" = some (some (.ref f10)))
    (l10 : K.lookup f10 = some ⟨oc10, od10, .func (PySem.W.fnOf "find_cuts" "find_cuts" (defArgs (s_k15 19)) (defBody (s_k15 19)) (defScope (s_k15 19)) .none kV10 dc10 pm10 an10 cd10 ct10), sl10⟩)
    (c10 : PySem.W.codeIn K cd10 "find_cuts" = true)
    (k10 : PySem.W.keepIn K (.ref f10) = true)
    (a11 : PySem.W.nsIn K mainGlobals "find_parts" = some (some (.ref f11)))
    (l11 : K.lookup f11 = some ⟨oc11, od11, .func (PySem.W.fnOf "find_parts" "find_parts" (defArgs (s_k15 20)) (defBody (s_k15 20)) (defScope (s_k15 20)) .none kV11 dc11 pm11 an11 cd11 ct11), sl11⟩)
    (c11 : PySem.W.codeIn K cd11 "find_parts" = true)
    (k11 : PySem.W.keepIn K (.ref f11) = true)
    (a12 : PySem.W.nsIn K mainGlobals "check_part" = some (some (.ref f12)))
    (l12 : K.lookup f12 = some ⟨oc12, od12, .func (PySem.W.fnOf "check_part" "check_part" (defArgs (s_k15 21)) (defBody (s_k15 21)) (defScope (s_k15 21)) .none kV12 dc12 pm12 an12 cd12 ct12), sl12⟩)
    (c12 : PySem.W.codeIn K cd12 "check_part" = true)
    (k12 : PySem.W.keepIn K (.ref f12) = true)
    (a13 : PySem.W.nsIn K mainGlobals "row_parts" = some (some (.ref f13)))
    (l13 : K.lookup f13 = some ⟨oc13, od13, .func (PySem.W.fnOf "row_parts" "row_parts" (defArgs (s_k15 22)) (defBody (s_k15 22)) (defScope (s_k15 22)) .none kV13 dc13 pm13 an13 cd13 ct13), sl13⟩)
    (c13 : PySem.W.codeIn K cd13 "row_parts" = true)
    (k13 : PySem.W.keepIn K (.ref f13) = true)
    (a14 : PySem.W.nsIn K mainGlobals "column_parts" = some (some (.ref f14)))
    (l14 : K.lookup f14 = some ⟨oc14, od14, .func (PySem.W.fnOf "column_parts" "column_parts" (defArgs (s_k15 23)) (defBody (s_k15 23)) (defScope (s_k15 23)) .none kV14 dc14 pm14 an14 cd14 ct14), sl14⟩)
    (c14 : PySem.W.codeIn K cd14 "column_parts" = true)
    (k14 : PySem.W.keepIn K (.ref f14) = true)
    (a15 : PySem.W.nsIn K mainGlobals "read_part" = some (some (.ref f15)))
    (l15 : K.lookup f15 = some ⟨oc15, od15, .func (PySem.W.fnOf "read_part" "read_part" (defArgs (s_k15 24)) (defBody (s_k15 24)) (defScope (s_k15 24)) .none kV15 dc15 pm15 an15 cd15 ct15), sl15⟩)
    (c15 : PySem.W.codeIn K cd15 "read_part" = true)
    (k15 : PySem.W.keepIn K (.ref f15) = true)
    (a16 : PySem.W.nsIn K mainGlobals "find_reading" = some (some (.ref f16)))
    (l16 : K.lookup f16 = some ⟨oc16, od16, .func (PySem.W.fnOf "find_reading" "find_reading" (defArgs (s_k15 25)) (defBody (s_k15 25)) (defScope (s_k15 25)) .none kV16 dc16 pm16 an16 cd16 ct16), sl16⟩)
    (c16 : PySem.W.codeIn K cd16 "find_reading" = true)
    (k16 : PySem.W.keepIn K (.ref f16) = true)
    (a17 : PySem.W.nsIn K mainGlobals "by_rows" = some (some (.ref f17)))
    (l17 : K.lookup f17 = some ⟨oc17, od17, .func (PySem.W.fnOf "by_rows" "by_rows" (defArgs (s_k15 26)) (defBody (s_k15 26)) (defScope (s_k15 26)) .none kV17 dc17 pm17 an17 cd17 ct17), sl17⟩)
    (c17 : PySem.W.codeIn K cd17 "by_rows" = true)
    (k17 : PySem.W.keepIn K (.ref f17) = true)
    (a18 : PySem.W.nsIn K mainGlobals "by_columns" = some (some (.ref f18)))
    (l18 : K.lookup f18 = some ⟨oc18, od18, .func (PySem.W.fnOf "by_columns" "by_columns" (defArgs (s_k15 27)) (defBody (s_k15 27)) (defScope (s_k15 27)) .none kV18 dc18 pm18 an18 cd18 ct18), sl18⟩)
    (c18 : PySem.W.codeIn K cd18 "by_columns" = true)
    (k18 : PySem.W.keepIn K (.ref f18) = true)
    (a19 : PySem.W.nsIn K mainGlobals "stuck_part" = some (some (.ref f19)))
    (l19 : K.lookup f19 = some ⟨oc19, od19, .func (PySem.W.fnOf "stuck_part" "stuck_part" (defArgs (s_k15 28)) (defBody (s_k15 28)) (defScope (s_k15 28)) .none kV19 dc19 pm19 an19 cd19 ct19), sl19⟩)
    (c19 : PySem.W.codeIn K cd19 "stuck_part" = true)
    (k19 : PySem.W.keepIn K (.ref f19) = true)
    (a20 : PySem.W.nsIn K mainGlobals "is_cuttable" = some (some (.ref f20)))
    (l20 : K.lookup f20 = some ⟨oc20, od20, .func (PySem.W.fnOf "is_cuttable" "is_cuttable" (defArgs (s_k15 29)) (defBody (s_k15 29)) (defScope (s_k15 29)) .none kV20 dc20 pm20 an20 cd20 ct20), sl20⟩)
    (c20 : PySem.W.codeIn K cd20 "is_cuttable" = true)
    (k20 : PySem.W.keepIn K (.ref f20) = true)
    (a21 : PySem.W.nsIn K mainGlobals "has_order" = some (some (.ref f21)))
    (l21 : K.lookup f21 = some ⟨oc21, od21, .func (PySem.W.fnOf "has_order" "has_order" (defArgs (s_k15 31)) (defBody (s_k15 31)) (defScope (s_k15 31)) .none kV21 dc21 pm21 an21 cd21 ct21), sl21⟩)
    (c21 : PySem.W.codeIn K cd21 "has_order" = true)
    (k21 : PySem.W.keepIn K (.ref f21) = true)
    (a22 : PySem.W.nsIn K mainGlobals "keeps_pairs" = some (some (.ref f22)))
    (l22 : K.lookup f22 = some ⟨oc22, od22, .func (PySem.W.fnOf "keeps_pairs" "keeps_pairs" (defArgs (s_k15 32)) (defBody (s_k15 32)) (defScope (s_k15 32)) .none kV22 dc22 pm22 an22 cd22 ct22), sl22⟩)
    (c22 : PySem.W.codeIn K cd22 "keeps_pairs" = true)
    (k22 : PySem.W.keepIn K (.ref f22) = true)
    (a23 : PySem.W.nsIn K mainGlobals "fits" = some (some (.ref f23)))
    (l23 : K.lookup f23 = some ⟨oc23, od23, .func (PySem.W.fnOf "fits" "fits" (defArgs (s_k15 33)) (defBody (s_k15 33)) (defScope (s_k15 33)) .none kV23 dc23 pm23 an23 cd23 ct23), sl23⟩)
    (c23 : PySem.W.codeIn K cd23 "fits" = true)
    (k23 : PySem.W.keepIn K (.ref f23) = true)
    (a24 : PySem.W.nsIn K mainGlobals "can_read" = some (some (.ref f24)))
    (l24 : K.lookup f24 = some ⟨oc24, od24, .func (PySem.W.fnOf "can_read" "can_read" (defArgs (s_k15 34)) (defBody (s_k15 34)) (defScope (s_k15 34)) .none kV24 dc24 pm24 an24 cd24 ct24), sl24⟩)
    (c24 : PySem.W.codeIn K cd24 "can_read" = true)
    (k24 : PySem.W.keepIn K (.ref f24) = true)
    (a25 : PySem.W.nsIn K mainGlobals "next_ones" = some (some (.ref f25)))
    (l25 : K.lookup f25 = some ⟨oc25, od25, .func (PySem.W.fnOf "next_ones" "next_ones" (defArgs (s_k15 35)) (defBody (s_k15 35)) (defScope (s_k15 35)) .none kV25 dc25 pm25 an25 cd25 ct25), sl25⟩)
    (c25 : PySem.W.codeIn K cd25 "next_ones" = true)
    (k25 : PySem.W.keepIn K (.ref f25) = true)
    (a26 : PySem.W.nsIn K mainGlobals "count_left" = some (some (.ref f26)))
    (l26 : K.lookup f26 = some ⟨oc26, od26, .func (PySem.W.fnOf "count_left" "count_left" (defArgs (s_k15 36)) (defBody (s_k15 36)) (defScope (s_k15 36)) .none kV26 dc26 pm26 an26 cd26 ct26), sl26⟩)
    (c26 : PySem.W.codeIn K cd26 "count_left" = true)
    (k26 : PySem.W.keepIn K (.ref f26) = true)
    (a27 : PySem.W.nsIn K mainGlobals "find_number" = some (some (.ref f27)))
    (l27 : K.lookup f27 = some ⟨oc27, od27, .func (PySem.W.fnOf "find_number" "find_number" (defArgs (s_k15 37)) (defBody (s_k15 37)) (defScope (s_k15 37)) .none kV27 dc27 pm27 an27 cd27 ct27), sl27⟩)
    (c27 : PySem.W.codeIn K cd27 "find_number" = true)
    (k27 : PySem.W.keepIn K (.ref f27) = true)
    (a28 : PySem.W.nsIn K mainGlobals "first_order" = some (some (.ref f28)))
    (l28 : K.lookup f28 = some ⟨oc28, od28, .func (PySem.W.fnOf "first_order" "first_order" (defArgs (s_k15 38)) (defBody (s_k15 38)) (defScope (s_k15 38)) .none kV28 dc28 pm28 an28 cd28 ct28), sl28⟩)
    (c28 : PySem.W.codeIn K cd28 "first_order" = true)
    (k28 : PySem.W.keepIn K (.ref f28) = true)
    (a29 : PySem.W.nsIn K mainGlobals "is_sure" = some (some (.ref f29)))
    (l29 : K.lookup f29 = some ⟨oc29, od29, .func (PySem.W.fnOf "is_sure" "is_sure" (defArgs (s_k15 39)) (defBody (s_k15 39)) (defScope (s_k15 39)) .none kV29 dc29 pm29 an29 cd29 ct29), sl29⟩)
    (c29 : PySem.W.codeIn K cd29 "is_sure" = true)
    (k29 : PySem.W.keepIn K (.ref f29) = true)
    (a30 : PySem.W.nsIn K mainGlobals "_law_drawn" = some (some (.ref f30)))
    (l30 : K.lookup f30 = some ⟨oc30, od30, .func (PySem.W.fnOf "_law_drawn" "_law_drawn" (defArgs (s_k15 41)) (defBody (s_k15 41)) (defScope (s_k15 41)) .none kV30 dc30 pm30 an30 cd30 ct30), sl30⟩)
    (c30 : PySem.W.codeIn K cd30 "_law_drawn" = true)
    (k30 : PySem.W.keepIn K (.ref f30) = true)
    (a31 : PySem.W.nsIn K mainGlobals "_law_page" = some (some (.ref f31)))
    (l31 : K.lookup f31 = some ⟨oc31, od31, .func (PySem.W.fnOf "_law_page" "_law_page" (defArgs (s_k15 42)) (defBody (s_k15 42)) (defScope (s_k15 42)) .none kV31 dc31 pm31 an31 cd31 ct31), sl31⟩)
    (c31 : PySem.W.codeIn K cd31 "_law_page" = true)
    (k31 : PySem.W.keepIn K (.ref f31) = true)
    (a32 : PySem.W.nsIn K mainGlobals "_law_stuck" = some (some (.ref f32)))
    (l32 : K.lookup f32 = some ⟨oc32, od32, .func (PySem.W.fnOf "_law_stuck" "_law_stuck" (defArgs (s_k15 43)) (defBody (s_k15 43)) (defScope (s_k15 43)) .none kV32 dc32 pm32 an32 cd32 ct32), sl32⟩)
    (c32 : PySem.W.codeIn K cd32 "_law_stuck" = true)
    (k32 : PySem.W.keepIn K (.ref f32) = true)
    (a33 : PySem.W.nsIn K mainGlobals "law" = some (some (.ref f33)))
    (l33 : K.lookup f33 = some ⟨oc33, od33, .func (PySem.W.fnOf "law" "law" (defArgs (s_k15 44)) (defBody (s_k15 44)) (defScope (s_k15 44)) .none kV33 dc33 pm33 an33 cd33 ct33), sl33⟩)
    (c33 : PySem.W.codeIn K cd33 "law" = true)
    (k33 : PySem.W.keepIn K (.ref f33) = true)
    (z0 : PySem.W.nsIn K mainGlobals "len" = some none)
    (z1 : PySem.W.nsIn K mainGlobals "all" = some none)
    (z2 : PySem.W.nsIn K mainGlobals "any" = some none)
    (z3 : PySem.W.nsIn K mainGlobals "list" = some none)
    (z4 : PySem.W.nsIn K mainGlobals "tuple" = some none)
    (z5 : PySem.W.nsIn K mainGlobals "max" = some none)
    (z6 : PySem.W.nsIn K mainGlobals "min" = some none)
    (z7 : PySem.W.nsIn K mainGlobals "sorted" = some none)
    (z8 : PySem.W.nsIn K mainGlobals "isinstance" = some none)
    (z9 : PySem.W.nsIn K mainGlobals "range" = some none)
    (z10 : PySem.W.nsIn K mainGlobals "enumerate" = some none)
    (z11 : PySem.W.nsIn K mainGlobals "zip" = some none)
    (z12 : PySem.W.nsIn K mainGlobals "int" = some none)
    (z13 : PySem.W.nsIn K mainGlobals "bool" = some none)
    (z14 : PySem.W.nsIn K mainGlobals "str" = some none)
    (z15 : PySem.W.nsIn K mainGlobals "set" = some none)
    (z16 : PySem.W.nsIn K mainGlobals "sum" = some none)
    (cg0 : PySem.W.nsIn K mainGlobals "SIZE" = some (some gv0))
    (cr0 : L2.RelV (.int 20) gv0)
    (cg1 : PySem.W.nsIn K mainGlobals "MAX_PANELS" = some (some gv1))
    (cr1 : L2.RelV (.int 8) gv1)
    (x0 : PySem.W.nsIn K mainGlobals "PanelError" = some (some (.ref C0)))
    (xq0 : PySem.W.excIn K C0 [.type "ValueError", .type "Exception", .type "BaseException", .type "object"] "ValueError.__new__" = true)
    (xk0 : PySem.W.keepIn K (.ref C0) = true)
    (xb0 : PySem.W.subIn K (.ref C0) (.type "BaseException") = some true)
    (xt0 : PySem.W.typeIn K (.ref C0) = some (.type "type"))
    (ya0 : PySem.W.findIn K (.ref C0) "__getattribute__" = some (some (.builtin "BaseException.__getattribute__")))
    (yb0 : PySem.W.findIn K (.ref C0) "__getattr__" = some none)
    (yc0 : PySem.W.hasDictIn K C0 = true)
    (yd0 : PySem.W.findIn K (.ref C0) "__class__" = some (some (.builtin "object.__class__")))
    (ye0 : PySem.W.mroIn K C0 (.type "object") = some true)
    (yf0 : PySem.W.subIn K (.ref C0) (.ref C0) = some true)
    (x1 : PySem.W.nsIn K mainGlobals "InvalidPage" = some (some (.ref C1)))
    (xq1 : PySem.W.excIn K C1 [.type "ValueError", .type "Exception", .type "BaseException", .type "object"] "ValueError.__new__" = true)
    (xk1 : PySem.W.keepIn K (.ref C1) = true)
    (xb1 : PySem.W.subIn K (.ref C1) (.type "BaseException") = some true)
    (xt1 : PySem.W.typeIn K (.ref C1) = some (.type "type"))
    (ya1 : PySem.W.findIn K (.ref C1) "__getattribute__" = some (some (.builtin "BaseException.__getattribute__")))
    (yb1 : PySem.W.findIn K (.ref C1) "__getattr__" = some none)
    (yc1 : PySem.W.hasDictIn K C1 = true)
    (yd1 : PySem.W.findIn K (.ref C1) "__class__" = some (some (.builtin "object.__class__")))
    (ye1 : PySem.W.mroIn K C1 (.type "object") = some true)
    (yf1 : PySem.W.subIn K (.ref C1) (.ref C0) = some true)
    (x2 : PySem.W.nsIn K mainGlobals "InvalidNumber" = some (some (.ref C2)))
    (xq2 : PySem.W.excIn K C2 [.type "ValueError", .type "Exception", .type "BaseException", .type "object"] "ValueError.__new__" = true)
    (xk2 : PySem.W.keepIn K (.ref C2) = true)
    (xb2 : PySem.W.subIn K (.ref C2) (.type "BaseException") = some true)
    (xt2 : PySem.W.typeIn K (.ref C2) = some (.type "type"))
    (ya2 : PySem.W.findIn K (.ref C2) "__getattribute__" = some (some (.builtin "BaseException.__getattribute__")))
    (yb2 : PySem.W.findIn K (.ref C2) "__getattr__" = some none)
    (yc2 : PySem.W.hasDictIn K C2 = true)
    (yd2 : PySem.W.findIn K (.ref C2) "__class__" = some (some (.builtin "object.__class__")))
    (ye2 : PySem.W.mroIn K C2 (.type "object") = some true)
    (yf2 : PySem.W.subIn K (.ref C2) (.ref C0) = some true)
    (x4 : PySem.W.nsIn K mainGlobals "InvalidPart" = some (some (.ref C4)))
    (xq4 : PySem.W.excIn K C4 [.type "ValueError", .type "Exception", .type "BaseException", .type "object"] "ValueError.__new__" = true)
    (xk4 : PySem.W.keepIn K (.ref C4) = true)
    (xb4 : PySem.W.subIn K (.ref C4) (.type "BaseException") = some true)
    (xt4 : PySem.W.typeIn K (.ref C4) = some (.type "type"))
    (ya4 : PySem.W.findIn K (.ref C4) "__getattribute__" = some (some (.builtin "BaseException.__getattribute__")))
    (yb4 : PySem.W.findIn K (.ref C4) "__getattr__" = some none)
    (yc4 : PySem.W.hasDictIn K C4 = true)
    (yd4 : PySem.W.findIn K (.ref C4) "__class__" = some (some (.builtin "object.__class__")))
    (ye4 : PySem.W.mroIn K C4 (.type "object") = some true)
    (yf4 : PySem.W.subIn K (.ref C4) (.ref C0) = some true)
    (yg : PySem.W.specialIn K (.builtin "object.__class__") "__get__" = some (some (.builtin "getset_descriptor.__get__")))
    (yh : PySem.W.takesIn K (.builtin "object.__class__") = some true)
    (w0_1 : PySem.W.subIn K (.ref C0) (.ref C1) = some false)
    (v0_1 : C0 ≠ C1)
    (w0_2 : PySem.W.subIn K (.ref C0) (.ref C2) = some false)
    (v0_2 : C0 ≠ C2)
    (w0_4 : PySem.W.subIn K (.ref C0) (.ref C4) = some false)
    (v0_4 : C0 ≠ C4)
    (w1_2 : PySem.W.subIn K (.ref C1) (.ref C2) = some false)
    (v1_2 : C1 ≠ C2)
    (w1_4 : PySem.W.subIn K (.ref C1) (.ref C4) = some false)
    (v1_4 : C1 ≠ C4)
    (w2_1 : PySem.W.subIn K (.ref C2) (.ref C1) = some false)
    (v2_1 : C2 ≠ C1)
    (w2_4 : PySem.W.subIn K (.ref C2) (.ref C4) = some false)
    (v2_4 : C2 ≠ C4)
    (w4_1 : PySem.W.subIn K (.ref C4) (.ref C1) = some false)
    (v4_1 : C4 ≠ C1)
    (w4_2 : PySem.W.subIn K (.ref C4) (.ref C2) = some false)
    (v4_2 : C4 ≠ C2)
    (law : ∀ ns : List Int, ns.length ≤ 63 → Tb tab_k15 20 "law" [scr ns] = .ok (.bool true)) :
    ∃ fd : FuncData, (∀ (s : Shared) (v : Value), BindsTo s fd ⟨[v], []⟩ [("script", v)]) ∧ ∀ base : Heap, K.In base → base.Ns mainGlobals mg → FnOk PySem.Challenge.rw_panelorder_k15_whole_cutting.prog w K mg base (L2.CX PySem.Challenge.rw_panelorder_k15_whole_cutting.prog w) 20 fa fd ["script"] (spLaw K 63) := by
  letI : MP := ⟨PySem.Challenge.rw_panelorder_k15_whole_cutting.prog, w, fun x => match mg x with | some (.ref a) => some a | _ => none⟩
  have hfv : ∀ f a, MP.fa f = some a ↔ mg f = some (.ref a) := fun f a => fa_iff f a
  have e := hfa.symm.trans (PySem.W.mg_of X G a33)
  cases e
  have D0 := df_mk (d := d_is_int) (st := s_k15 8) (ps := ["value", "least", "most"]) (gl := gl_k15) (fs := fsOf tab_k15) (ex := ex_k15) X G a0 l0 c0 k0 sc_k15_is_int rfl (fun _ _ _ _ _ _ us hl => match us, hl with | [_, _, _], _ => rfl) ck_k15_is_int
  have D1 := df_mk (d := d_is_panel) (st := s_k15 9) (ps := ["value"]) (gl := gl_k15) (fs := fsOf tab_k15) (ex := ex_k15) X G a1 l1 c1 k1 sc_k15_is_panel rfl (fun _ _ _ _ _ _ us hl => match us, hl with | [_], _ => rfl) ck_k15_is_panel
  have D2 := df_mk (d := d_share_widths) (st := s_k15 10) (ps := ["one", "other"]) (gl := gl_k15) (fs := fsOf tab_k15) (ex := ex_k15) X G a2 l2 c2 k2 sc_k15_share_widths rfl (fun _ _ _ _ _ _ us hl => match us, hl with | [_, _], _ => rfl) ck_k15_share_widths
  have D3 := df_mk (d := d_share_heights) (st := s_k15 11) (ps := ["one", "other"]) (gl := gl_k15) (fs := fsOf tab_k15) (ex := ex_k15) X G a3 l3 c3 k3 sc_k15_share_heights rfl (fun _ _ _ _ _ _ us hl => match us, hl with | [_, _], _ => rfl) ck_k15_share_heights
  have D4 := df_mk (d := d_is_page) (st := s_k15 12) (ps := ["candidate"]) (gl := gl_k15) (fs := fsOf tab_k15) (ex := ex_k15) X G a4 l4 c4 k4 sc_k15_is_page rfl (fun _ _ _ _ _ _ us hl => match us, hl with | [_], _ => rfl) ck_k15_is_page
  have D5 := df_mk (d := d_check_page) (st := s_k15 13) (ps := ["value"]) (gl := gl_k15) (fs := fsOf tab_k15) (ex := ex_k15) X G a5 l5 c5 k5 sc_k15_check_page rfl (fun _ _ _ _ _ _ us hl => match us, hl with | [_], _ => rfl) ck_k15_check_page
  have D6 := df_mk (d := d_check_number) (st := s_k15 14) (ps := ["value", "least", "most"]) (gl := gl_k15) (fs := fsOf tab_k15) (ex := ex_k15) X G a6 l6 c6 k6 sc_k15_check_number rfl (fun _ _ _ _ _ _ us hl => match us, hl with | [_, _, _], _ => rfl) ck_k15_check_number
  have D7 := df_mk (d := d_goes_before) (st := s_k15 15) (ps := ["page", "one", "other"]) (gl := gl_k15) (fs := fsOf tab_k15) (ex := ex_k15) X G a7 l7 c7 k7 sc_k15_goes_before rfl (fun _ _ _ _ _ _ us hl => match us, hl with | [_, _, _], _ => rfl) ck_k15_goes_before
  have D8 := df_mk (d := d_is_before) (st := s_k15 16) (ps := ["page", "one", "other"]) (gl := gl_k15) (fs := fsOf tab_k15) (ex := ex_k15) X G a8 l8 c8 k8 sc_k15_is_before rfl (fun _ _ _ _ _ _ us hl => match us, hl with | [_, _, _], _ => rfl) ck_k15_is_before
  have D9 := df_mk (d := d_find_pairs) (st := s_k15 17) (ps := ["page"]) (gl := gl_k15) (fs := fsOf tab_k15) (ex := ex_k15) X G a9 l9 c9 k9 sc_k15_find_pairs rfl (fun _ _ _ _ _ _ us hl => match us, hl with | [_], _ => rfl) ck_k15_find_pairs
  have D10 := df_mk (d := d_find_cuts) (st := s_k15 19) (ps := ["page", "part", "low"]) (gl := gl_k15) (fs := fsOf tab_k15) (ex := ex_k15) X G a10 l10 c10 k10 sc_k15_find_cuts rfl (fun _ _ _ _ _ _ us hl => match us, hl with | [_, _, _], _ => rfl) ck_k15_find_cuts
  have D11 := df_mk (d := d_find_parts) (st := s_k15 20) (ps := ["page", "part", "low"]) (gl := gl_k15) (fs := fsOf tab_k15) (ex := ex_k15) X G a11 l11 c11 k11 sc_k15_find_parts rfl (fun _ _ _ _ _ _ us hl => match us, hl with | [_, _, _], _ => rfl) ck_k15_find_parts
  have D12 := df_mk (d := d_check_part) (st := s_k15 21) (ps := ["page", "value"]) (gl := gl_k15) (fs := fsOf tab_k15) (ex := ex_k15) X G a12 l12 c12 k12 sc_k15_check_part rfl (fun _ _ _ _ _ _ us hl => match us, hl with | [_, _], _ => rfl) ck_k15_check_part
  have D13 := df_mk (d := d_row_parts) (st := s_k15 22) (ps := ["page", "part"]) (gl := gl_k15) (fs := fsOf tab_k15) (ex := ex_k15) X G a13 l13 c13 k13 sc_k15_row_parts rfl (fun _ _ _ _ _ _ us hl => match us, hl with | [_, _], _ => rfl) ck_k15_row_parts
  have D14 := df_mk (d := d_column_parts) (st := s_k15 23) (ps := ["page", "part"]) (gl := gl_k15) (fs := fsOf tab_k15) (ex := ex_k15) X G a14 l14 c14 k14 sc_k15_column_parts rfl (fun _ _ _ _ _ _ us hl => match us, hl with | [_, _], _ => rfl) ck_k15_column_parts
  have D15 := df_mk (d := d_read_part) (st := s_k15 24) (ps := ["page", "part", "low"]) (gl := gl_k15) (fs := fsOf tab_k15) (ex := ex_k15) X G a15 l15 c15 k15 sc_k15_read_part rfl (fun _ _ _ _ _ _ us hl => match us, hl with | [_, _, _], _ => rfl) ck_k15_read_part
  have D16 := df_mk (d := d_find_reading) (st := s_k15 25) (ps := ["page", "low"]) (gl := gl_k15) (fs := fsOf tab_k15) (ex := ex_k15) X G a16 l16 c16 k16 sc_k15_find_reading rfl (fun _ _ _ _ _ _ us hl => match us, hl with | [_, _], _ => rfl) ck_k15_find_reading
  have D17 := df_mk (d := d_by_rows) (st := s_k15 26) (ps := ["page"]) (gl := gl_k15) (fs := fsOf tab_k15) (ex := ex_k15) X G a17 l17 c17 k17 sc_k15_by_rows rfl (fun _ _ _ _ _ _ us hl => match us, hl with | [_], _ => rfl) ck_k15_by_rows
  have D18 := df_mk (d := d_by_columns) (st := s_k15 27) (ps := ["page"]) (gl := gl_k15) (fs := fsOf tab_k15) (ex := ex_k15) X G a18 l18 c18 k18 sc_k15_by_columns rfl (fun _ _ _ _ _ _ us hl => match us, hl with | [_], _ => rfl) ck_k15_by_columns
  have D19 := df_mk (d := d_stuck_part) (st := s_k15 28) (ps := ["page"]) (gl := gl_k15) (fs := fsOf tab_k15) (ex := ex_k15) X G a19 l19 c19 k19 sc_k15_stuck_part rfl (fun _ _ _ _ _ _ us hl => match us, hl with | [_], _ => rfl) ck_k15_stuck_part
  have D20 := df_mk (d := d_is_cuttable) (st := s_k15 29) (ps := ["page"]) (gl := gl_k15) (fs := fsOf tab_k15) (ex := ex_k15) X G a20 l20 c20 k20 sc_k15_is_cuttable rfl (fun _ _ _ _ _ _ us hl => match us, hl with | [_], _ => rfl) ck_k15_is_cuttable
  have D21 := df_mk (d := d_has_order) (st := s_k15 31) (ps := ["many", "candidate"]) (gl := gl_k15) (fs := fsOf tab_k15) (ex := ex_k15) X G a21 l21 c21 k21 sc_k15_has_order rfl (fun _ _ _ _ _ _ us hl => match us, hl with | [_, _], _ => rfl) ck_k15_has_order
  have D22 := df_mk (d := d_keeps_pairs) (st := s_k15 32) (ps := ["order", "known"]) (gl := gl_k15) (fs := fsOf tab_k15) (ex := ex_k15) X G a22 l22 c22 k22 sc_k15_keeps_pairs rfl (fun _ _ _ _ _ _ us hl => match us, hl with | [_, _], _ => rfl) ck_k15_keeps_pairs
  have D23 := df_mk (d := d_fits) (st := s_k15 33) (ps := ["page", "candidate"]) (gl := gl_k15) (fs := fsOf tab_k15) (ex := ex_k15) X G a23 l23 c23 k23 sc_k15_fits rfl (fun _ _ _ _ _ _ us hl => match us, hl with | [_, _], _ => rfl) ck_k15_fits
  have D24 := df_mk (d := d_can_read) (st := s_k15 34) (ps := ["page", "candidate"]) (gl := gl_k15) (fs := fsOf tab_k15) (ex := ex_k15) X G a24 l24 c24 k24 sc_k15_can_read rfl (fun _ _ _ _ _ _ us hl => match us, hl with | [_, _], _ => rfl) ck_k15_can_read
  have D25 := df_mk (d := d_next_ones) (st := s_k15 35) (ps := ["left", "known"]) (gl := gl_k15) (fs := fsOf tab_k15) (ex := ex_k15) X G a25 l25 c25 k25 sc_k15_next_ones rfl (fun _ _ _ _ _ _ us hl => match us, hl with | [_, _], _ => rfl) ck_k15_next_ones
  have D26 := df_mk (d := d_count_left) (st := s_k15 36) (ps := ["left", "known", "seen"]) (gl := gl_k15) (fs := fsOf tab_k15) (ex := ex_k15) X G a26 l26 c26 k26 sc_k15_count_left rfl (fun _ _ _ _ _ _ us hl => match us, hl with | [_, _, _], _ => rfl) ck_k15_count_left
  have D27 := df_mk (d := d_find_number) (st := s_k15 37) (ps := ["many", "known"]) (gl := gl_k15) (fs := fsOf tab_k15) (ex := ex_k15) X G a27 l27 c27 k27 sc_k15_find_number rfl (fun _ _ _ _ _ _ us hl => match us, hl with | [_, _], _ => rfl) ck_k15_find_number
  have D28 := df_mk (d := d_first_order) (st := s_k15 38) (ps := ["page"]) (gl := gl_k15) (fs := fsOf tab_k15) (ex := ex_k15) X G a28 l28 c28 k28 sc_k15_first_order rfl (fun _ _ _ _ _ _ us hl => match us, hl with | [_], _ => rfl) ck_k15_first_order
  have D29 := df_mk (d := d_is_sure) (st := s_k15 39) (ps := ["page"]) (gl := gl_k15) (fs := fsOf tab_k15) (ex := ex_k15) X G a29 l29 c29 k29 sc_k15_is_sure rfl (fun _ _ _ _ _ _ us hl => match us, hl with | [_], _ => rfl) ck_k15_is_sure
  have D30 := df_mk (d := d__law_drawn) (st := s_k15 41) (ps := ["script", "k", "many"]) (gl := gl_k15) (fs := fsOf tab_k15) (ex := ex_k15) X G a30 l30 c30 k30 sc_k15__law_drawn rfl (fun _ _ _ _ _ _ us hl => match us, hl with | [_, _, _], _ => rfl) ck_k15__law_drawn
  have D31 := df_mk (d := d__law_page) (st := s_k15 42) (ps := ["script", "at", "most"]) (gl := gl_k15) (fs := fsOf tab_k15) (ex := ex_k15) X G a31 l31 c31 k31 sc_k15__law_page rfl (fun _ _ _ _ _ _ us hl => match us, hl with | [_, _, _], _ => rfl) ck_k15__law_page
  have D32 := df_mk (d := d__law_stuck) (st := s_k15 43) (ps := ["page"]) (gl := gl_k15) (fs := fsOf tab_k15) (ex := ex_k15) X G a32 l32 c32 k32 sc_k15__law_stuck rfl (fun _ _ _ _ _ _ us hl => match us, hl with | [_], _ => rfl) ck_k15__law_stuck
  have D33 := df_mk (d := d_law_k15) (st := s_k15 44) (ps := ["script"]) (gl := gl_k15) (fs := fsOf tab_k15) (ex := ex_k15) X G a33 l33 c33 k33 sc_k15_law rfl (fun _ _ _ _ _ _ us hl => match us, hl with | [_], _ => rfl) ck_k15_law
  have hd : ∀ d ∈ tab_k15, DfOk K mg gl_k15 (fsOf tab_k15) ex_k15 d := List.forall_mem_cons.mpr ⟨D0.ok, List.forall_mem_cons.mpr ⟨D1.ok, List.forall_mem_cons.mpr ⟨D2.ok, List.forall_mem_cons.mpr ⟨D3.ok, List.forall_mem_cons.mpr ⟨D4.ok, List.forall_mem_cons.mpr ⟨D5.ok, List.forall_mem_cons.mpr ⟨D6.ok, List.forall_mem_cons.mpr ⟨D7.ok, List.forall_mem_cons.mpr ⟨D8.ok, List.forall_mem_cons.mpr ⟨D9.ok, List.forall_mem_cons.mpr ⟨D10.ok, List.forall_mem_cons.mpr ⟨D11.ok, List.forall_mem_cons.mpr ⟨D12.ok, List.forall_mem_cons.mpr ⟨D13.ok, List.forall_mem_cons.mpr ⟨D14.ok, List.forall_mem_cons.mpr ⟨D15.ok, List.forall_mem_cons.mpr ⟨D16.ok, List.forall_mem_cons.mpr ⟨D17.ok, List.forall_mem_cons.mpr ⟨D18.ok, List.forall_mem_cons.mpr ⟨D19.ok, List.forall_mem_cons.mpr ⟨D20.ok, List.forall_mem_cons.mpr ⟨D21.ok, List.forall_mem_cons.mpr ⟨D22.ok, List.forall_mem_cons.mpr ⟨D23.ok, List.forall_mem_cons.mpr ⟨D24.ok, List.forall_mem_cons.mpr ⟨D25.ok, List.forall_mem_cons.mpr ⟨D26.ok, List.forall_mem_cons.mpr ⟨D27.ok, List.forall_mem_cons.mpr ⟨D28.ok, List.forall_mem_cons.mpr ⟨D29.ok, List.forall_mem_cons.mpr ⟨D30.ok, List.forall_mem_cons.mpr ⟨D31.ok, List.forall_mem_cons.mpr ⟨D32.ok, List.forall_mem_cons.mpr ⟨D33.ok, (fun _ z => by cases z)⟩⟩⟩⟩⟩⟩⟩⟩⟩⟩⟩⟩⟩⟩⟩⟩⟩⟩⟩⟩⟩⟩⟩⟩⟩⟩⟩⟩⟩⟩⟩⟩⟩⟩
  have hb : ∀ x ∈ bnames, mg x = none := List.forall_mem_cons.mpr ⟨PySem.W.mg_none_of X G z0, List.forall_mem_cons.mpr ⟨PySem.W.mg_none_of X G z1, List.forall_mem_cons.mpr ⟨PySem.W.mg_none_of X G z2, List.forall_mem_cons.mpr ⟨PySem.W.mg_none_of X G z3, List.forall_mem_cons.mpr ⟨PySem.W.mg_none_of X G z4, List.forall_mem_cons.mpr ⟨PySem.W.mg_none_of X G z5, List.forall_mem_cons.mpr ⟨PySem.W.mg_none_of X G z6, List.forall_mem_cons.mpr ⟨PySem.W.mg_none_of X G z7, List.forall_mem_cons.mpr ⟨PySem.W.mg_none_of X G z8, List.forall_mem_cons.mpr ⟨PySem.W.mg_none_of X G z9, List.forall_mem_cons.mpr ⟨PySem.W.mg_none_of X G z10, List.forall_mem_cons.mpr ⟨PySem.W.mg_none_of X G z11, List.forall_mem_cons.mpr ⟨PySem.W.mg_none_of X G z12, List.forall_mem_cons.mpr ⟨PySem.W.mg_none_of X G z13, List.forall_mem_cons.mpr ⟨PySem.W.mg_none_of X G z14, List.forall_mem_cons.mpr ⟨PySem.W.mg_none_of X G z15, List.forall_mem_cons.mpr ⟨PySem.W.mg_none_of X G z16, (fun _ z => by cases z)⟩⟩⟩⟩⟩⟩⟩⟩⟩⟩⟩⟩⟩⟩⟩⟩⟩
  have hg : ∀ x c, gl_k15.lookup x = some c → ∃ u, mg x = some u ∧ L2.RelV (kV c) u := lookup_all (p := fun x c => ∃ u, mg x = some u ∧ L2.RelV (kV c) u) (List.forall_mem_cons.mpr ⟨⟨_, PySem.W.mg_of X G cg0, cr0⟩, List.forall_mem_cons.mpr ⟨⟨_, PySem.W.mg_of X G cg1, cr1⟩, (fun _ z => by cases z)⟩⟩)
  let ca : Nat → Addr := fun n => if n = 0 then C0 else if n = 1 then C1 else if n = 2 then C2 else if n = 4 then C4 else 0
  have hx : ∀ x c, ex_k15.lookup x = some c → ExcK K mg x (ca c) := lookup_all (p := fun x c => ExcK K mg x (ca c)) (List.forall_mem_cons.mpr ⟨⟨xq0, PySem.W.mg_of X G x0, xk0, xb0, xt0⟩, List.forall_mem_cons.mpr ⟨⟨xq1, PySem.W.mg_of X G x1, xk1, xb1, xt1⟩, List.forall_mem_cons.mpr ⟨⟨xq2, PySem.W.mg_of X G x2, xk2, xb2, xt2⟩, List.forall_mem_cons.mpr ⟨⟨xq4, PySem.W.mg_of X G x4, xk4, xb4, xt4⟩, (fun _ z => by cases z)⟩⟩⟩⟩)
  have xa : ExcAll K ca ex_k15 := ⟨lookup_all (p := fun x c => PySem.W.exmOne K (.ref (ca c)) (.ref (ca 0)) = some true) (List.forall_mem_cons.mpr ⟨PySem.W.exm_ref xb0 yc0 xt0 yf0, List.forall_mem_cons.mpr ⟨PySem.W.exm_ref xb0 yc0 xt0 yf1, List.forall_mem_cons.mpr ⟨PySem.W.exm_ref xb0 yc0 xt0 yf2, List.forall_mem_cons.mpr ⟨PySem.W.exm_ref xb0 yc0 xt0 yf4, (fun _ z => by cases z)⟩⟩⟩⟩), fun x c y d h1 h2 => lookup_all (l := ex_k15) (p := fun x c => ∀ y d, ex_k15.lookup y = some d → d ≠ 0 → PySem.W.kitOne K (.ref (ca c)) (.ref (ca d)) = some (c == d)) (List.forall_mem_cons.mpr ⟨lookup_all (l := ex_k15) (p := fun y d => d ≠ 0 → PySem.W.kitOne K (.ref (ca 0)) (.ref (ca d)) = some (0 == d)) (List.forall_mem_cons.mpr ⟨fun z => (z rfl).elim, List.forall_mem_cons.mpr ⟨fun _ => kit_ref yc1 xt1 w0_1 v0_1, List.forall_mem_cons.mpr ⟨fun _ => kit_ref yc2 xt2 w0_2 v0_2, List.forall_mem_cons.mpr ⟨fun _ => kit_ref yc4 xt4 w0_4 v0_4, (fun _ z => by cases z)⟩⟩⟩⟩), List.forall_mem_cons.mpr ⟨lookup_all (l := ex_k15) (p := fun y d => d ≠ 0 → PySem.W.kitOne K (.ref (ca 1)) (.ref (ca d)) = some (1 == d)) (List.forall_mem_cons.mpr ⟨fun z => (z rfl).elim, List.forall_mem_cons.mpr ⟨fun _ => kit_self, List.forall_mem_cons.mpr ⟨fun _ => kit_ref yc2 xt2 w1_2 v1_2, List.forall_mem_cons.mpr ⟨fun _ => kit_ref yc4 xt4 w1_4 v1_4, (fun _ z => by cases z)⟩⟩⟩⟩), List.forall_mem_cons.mpr ⟨lookup_all (l := ex_k15) (p := fun y d => d ≠ 0 → PySem.W.kitOne K (.ref (ca 2)) (.ref (ca d)) = some (2 == d)) (List.forall_mem_cons.mpr ⟨fun z => (z rfl).elim, List.forall_mem_cons.mpr ⟨fun _ => kit_ref yc1 xt1 w2_1 v2_1, List.forall_mem_cons.mpr ⟨fun _ => kit_self, List.forall_mem_cons.mpr ⟨fun _ => kit_ref yc4 xt4 w2_4 v2_4, (fun _ z => by cases z)⟩⟩⟩⟩), List.forall_mem_cons.mpr ⟨lookup_all (l := ex_k15) (p := fun y d => d ≠ 0 → PySem.W.kitOne K (.ref (ca 4)) (.ref (ca d)) = some (4 == d)) (List.forall_mem_cons.mpr ⟨fun z => (z rfl).elim, List.forall_mem_cons.mpr ⟨fun _ => kit_ref yc1 xt1 w4_1 v4_1, List.forall_mem_cons.mpr ⟨fun _ => kit_ref yc2 xt2 w4_2 v4_2, List.forall_mem_cons.mpr ⟨fun _ => kit_self, (fun _ z => by cases z)⟩⟩⟩⟩), (fun _ z => by cases z)⟩⟩⟩⟩) x c h1 y d h2, lookup_all (p := fun x c => ExcC K (ca c)) (List.forall_mem_cons.mpr ⟨⟨ya0, yb0, xb0, yc0, yd0, yg, yh, ye0⟩, List.forall_mem_cons.mpr ⟨⟨ya1, yb1, xb1, yc1, yd1, yg, yh, ye1⟩, List.forall_mem_cons.mpr ⟨⟨ya2, yb2, xb2, yc2, yd2, yg, yh, ye2⟩, List.forall_mem_cons.mpr ⟨⟨ya4, yb4, xb4, yc4, yd4, yg, yh, ye4⟩, (fun _ z => by cases z)⟩⟩⟩⟩)⟩
  exact ⟨_, fun s v => .of_eq rfl, fun base _ _ => law_ok (x := "law") (defs_ok ⟨rfl, rfl⟩ hfv hb hg hx xa hd 20 d_law_k15 _ _ _ _ (by simp [tab_k15]) (by rfl) D33) law⟩
end Pi

set_option Elab.async false
set_option linter.all false
set_option maxRecDepth 100000
set_option maxHeartbeats 4000000
/-! G0: running statements forward. -/
namespace Pi
open PySem PySem.Spec PyProof.Rows L2
open Enc (enc)
/-- the text s, run at ρ, ends so that P -/
def Go (T : Str → List D → R D) (s : S) (ρ : En) (P : Fl → En → Prop) : Prop := ∃ f ρ', exS T s ρ = .ok (f, ρ') ∧ P f ρ'
section
variable {T : Str → List D → R D} {ρ : En} {P : Fl → En → Prop} {r : S}
theorem Go.imp {s : S} {P' : Fl → En → Prop} (h : Go T s ρ P) (k : ∀ f ρ', P f ρ' → P' f ρ') : Go T s ρ P' := by
  obtain ⟨f, ρ', e, p⟩ := h; exact ⟨f, ρ', e, k f ρ' p⟩
theorem go_run {ds : List Df} {k : Nat} {f : Str} {df : Df} {xs : List D} {d : D} (h : findD ds f = some df) (hl : xs.length = df.ar) (g : Go (Tb ds k) df.ir (xs.map Sl.val ++ List.replicate (df.N.length - xs.length) Sl.no) fun f _ => f = .rt d) : Tb ds (k + 1) f xs = .ok d := by
  rw [Tb_run h hl, runD_eq]
  obtain ⟨f, ρ', e, rfl⟩ := g
  rw [e]; rfl
theorem go_skip (h : P .nx ρ) : Go T .skip ρ P := ⟨_, _, rfl, h⟩
theorem go_seq {a : S} {ρ1 : En} (h : exS T a ρ = .ok (.nx, ρ1)) (g : Go T r ρ1 P) : Go T (.seq a r) ρ P := by
  obtain ⟨f, ρ', e, p⟩ := g
  exact ⟨f, ρ', by rw [exS_seq, h, thenS_nx, e], p⟩
theorem go_st {a : S} (h : Go T a ρ fun f ρ1 => (f = .nx ∧ Go T r ρ1 P) ∨ (f ≠ .nx ∧ P f ρ1)) : Go T (.seq a r) ρ P := by
  obtain ⟨f, ρ1, e, h⟩ := h
  rcases h with ⟨rfl, f2, ρ2, e2, p⟩ | ⟨hn, p⟩
  · exact ⟨f2, ρ2, by rw [exS_seq, e, thenS_nx, e2], p⟩
  · refine ⟨f, ρ1, ?_, p⟩
    rw [exS_seq, e]
    cases f with
    | nx => exact (hn rfl).elim
    | rt d => rfl
    | bk => rfl
theorem go_asg {i : Nat} {e : E} (d : D) (h : ev T e ρ = .ok d) (g : Go T r (ρ.set i (.val d)) P) : Go T (.seq (.asg (.nm i) e) r) ρ P := go_seq (by rw [exS_nm, h]; rfl) g
theorem go_tp {is : List Nat} {e : E} (ds : List D) (h : ev T e ρ = .ok (.tuple ds)) (hl : is.length = ds.length) (g : Go T r (setAll is ds ρ) P) : Go T (.seq (.asg (.tp is) e) r) ρ P :=
  go_seq (by rw [exS_tp, h, R.ok_bind, setT_tup, if_pos hl]; rfl) g
theorem go_own {i : Nat} {e : E} (ds : List D) (h : ev T e ρ = .ok (.list ds)) (g : Go T r (ρ.set i (.own ds)) P) : Go T (.seq (.own i e) r) ρ P := go_seq (by rw [exS_own, h]; rfl) g
theorem go_own2 {f : Bool} {i j : Nat} {e : E} (d : D) (h : ev T e ρ = .ok d) (g : Go T r ((ρ.set j (.own [])).set i (.val d)) P) : Go T (.seq (.own2 f i j e) r) ρ P := go_seq (by rw [exS_own2, h]; rfl) g
theorem go_expr {e : E} (d : D) (h : ev T e ρ = .ok d) (g : Go T r ρ P) : Go T (.seq (.expr e) r) ρ P := go_seq (by rw [exS_expr, h]; rfl) g
theorem go_frz {i : Nat} {ds : List D} (h : ρ[i]? = some (.own ds)) (g : Go T r (ρ.set i (.val (.list ds))) P) : Go T (.seq (.frz i) r) ρ P := go_seq (by rw [exS_frz]; unfold frzR; rw [h]) g
theorem go_app {i : Nat} {e : E} {ds : List D} (d : D) (h : ρ[i]? = some (.own ds)) (he : ev T e ρ = .ok d) (hl : ds.length < big) (g : Go T r (ρ.set i (.own (ds ++ [d]))) P) : Go T (.seq (.app i e) r) ρ P := by
  refine go_seq ?_ g
  have ho : ownB ρ i = true := by unfold ownB; rw [h]
  rw [exS_app, if_pos ho, he]
  show appR i ρ d = _
  unfold appR
  rw [h]
  exact if_pos hl
theorem go_ret {e : E} (d : D) (h : ev T e ρ = .ok d) (p : P (.rt d) ρ) : Go T (.seq (.ret e) r) ρ P := ⟨.rt d, ρ, by rw [exS_seq, exS_ret, h]; rfl, p⟩
/-- if c: a -/
theorem go_if {c : E} {a b : S} (x : Bool) (h : ev T c ρ = .ok (.bool x)) (g : Go T (if x then a else b) ρ fun f ρ1 => (f = .nx ∧ Go T r ρ1 P) ∨ (f ≠ .nx ∧ P f ρ1)) : Go T (.seq (.ite c a b) r) ρ P := by
  refine go_st ?_
  obtain ⟨f, ρ1, e, q⟩ := g
  refine ⟨f, ρ1, ?_, q⟩
  rw [exS_ite, h]
  cases x <;> exact e
/-- a test that fails -/
theorem go_no {c : E} {a : S} (h : ev T c ρ = .ok (.bool false)) (g : Go T r ρ P) : Go T (.seq (.ite c a .skip) r) ρ P := go_seq (by rw [exS_ite, h]; rfl) g
theorem go_yes {c : E} {a b : S} (h : ev T c ρ = .ok (.bool true)) (g : Go T a ρ fun f ρ1 => (f = .nx ∧ Go T r ρ1 P) ∨ (f ≠ .nx ∧ P f ρ1)) : Go T (.seq (.ite c a b) r) ρ P := go_if true h g
theorem go_els {c : E} {a b : S} (h : ev T c ρ = .ok (.bool false)) (g : Go T b ρ fun f ρ1 => (f = .nx ∧ Go T r ρ1 P) ∨ (f ≠ .nx ∧ P f ρ1)) : Go T (.seq (.ite c a b) r) ρ P := go_if false h g
/-- a loop that goes through, by what it has gone through -/
theorem go_for {α : Type} {t : Tg} {it : E} {b : S} {xs : List α} {g : α → D} (I : List α → En → Prop) (hi : evI T it ρ = .ok (xs.map g)) (h0 : I [] ρ)
    (hs : ∀ pre x post ρ1, xs = pre ++ x :: post → I pre ρ1 → ∃ ρ2, setT t (g x) ρ1 = .ok ρ2 ∧ Go T b ρ2 fun f ρ3 => f = .nx ∧ I (pre ++ [x]) ρ3)
    (k : ∀ ρ1, I xs ρ1 → Go T r ρ1 P) : Go T (.seq (.for_ t it b) r) ρ P := by
  obtain ⟨ρ', e, h⟩ := forGo_pre (f := fun d ρ => bodyT (setT t d ρ) (exS T b)) (g := g) I (xs := xs) (fun pre x post ρ1 hx hI => by
    obtain ⟨ρ2, e1, f, ρ3, e2, rfl, h3⟩ := hs pre x post ρ1 hx hI
    exact ⟨ρ3, by rw [e1]; exact e2, h3⟩) h0
  exact go_seq (by rw [exS_for, hi, R.ok_bind, e]) (k ρ' h)
/-- slots changed at will -/
def chg (f : Nat → Sl) (js : List Nat) (ρ : En) : En := js.foldl (fun r j => r.set j (f j)) ρ
end
@[simp] theorem ev_list0 (T : Str → List D → R D) (ρ : En) : ev T (.lst .nil) ρ = .ok (.list []) := rfl
@[simp] theorem ev_tup0 (T : Str → List D → R D) (ρ : En) : ev T (.tup .nil) ρ = .ok (.tuple []) := rfl
end Pi

set_option Elab.async false
set_option linter.all false
set_option maxRecDepth 100000
set_option maxHeartbeats 4000000
/-! A0: alike.py: what its functions compute. -/
namespace Pi
open PySem PySem.Spec PyProof.Rows L2
open Enc (enc)
def rngI (lo hi : Int) : List Int := (List.range (hi - lo).toNat).map fun (i : Nat) => lo + (i : Int)
theorem rgL_eq (lo hi : Int) : rgL lo hi = (rngI lo hi).map PyData.int := by
  unfold rgL rngI
  rw [List.map_map]
  rfl
theorem mem_rngI {lo hi z : Int} : z ∈ rngI lo hi ↔ lo ≤ z ∧ z < hi := by
  unfold rngI
  simp only [List.mem_map, List.mem_range]
  constructor
  · rintro ⟨i, h, rfl⟩; omega
  · rintro ⟨h1, h2⟩; exact ⟨(z - lo).toNat, by omega, by omega⟩
theorem rngI_length (lo hi : Int) : (rngI lo hi).length = (hi - lo).toNat := by simp [rngI]
theorem rgI {T : Str → List D → R D} {a b : E} {ρ : En} {lo hi : Int} (ha : ev T a ρ = .ok (.int lo)) (hb : ev T b ρ = .ok (.int hi)) (h1 : -1000 ≤ lo) (h2 : hi ≤ 1000) (h3 : lo ≤ 1000) (h4 : -1000 ≤ hi) : evI T (.rg a b) ρ = .ok ((rngI lo hi).map PyData.int) := by
  rw [evI_rg, ha, hb, ← rgL_eq]
  simp only [R.ok_bind, asOpt_int, Option.getD_some]
  exact if_pos (by rw [RgB.iff]; unfold big; omega)
@[simp] theorem tu_app {α : Type} [Enc α] (xs ys : List α) (h : xs.length + ys.length ≤ 1000) : addD (enc (Tu.mk xs)) (enc (Tu.mk ys)) = .ok (enc (Tu.mk (xs ++ ys))) := by
  show addD (.tuple (xs.map enc)) (.tuple (ys.map enc)) = _
  rw [ad_tup, if_pos (le_big (by rw [List.length_map, List.length_map]; exact h)), ← List.map_append]
  rfl
theorem tu_to {α : Type} [Enc α] (xs : List α) (n : Nat) : slD (enc (Tu.mk xs)) none (some (n : Int)) = .ok (enc (Tu.mk (xs.take n))) := by
  show slD (.tuple (xs.map enc)) _ _ = _
  rw [sl_tup, cut_to]; rfl
theorem tu_from {α : Type} [Enc α] (xs : List α) (n : Nat) : slD (enc (Tu.mk xs)) (some (n : Int)) none = .ok (enc (Tu.mk (xs.drop n))) := by
  show slD (.tuple (xs.map enc)) _ _ = _
  rw [sl_tup, cut_from]; rfl
theorem tu_ix {α : Type} [Enc α] {xs : List α} {n : Nat} {x : α} (h : xs[n]? = some x) : ixD (enc (Tu.mk xs)) (.int (n : Int)) = .ok (enc x) := by
  show ixD (.tuple (xs.map enc)) _ = _
  rw [ix_tup, atI_enc enc h]
structure HA (ds : List Df) : Prop extends HQ ds where
  check_number : findD ds "check_number" = some d_check_number
  do_agree : findD ds "do_agree" = some d_do_agree
  are_alike : findD ds "are_alike" = some d_are_alike
  still_moves : findD ds "still_moves" = some d_still_moves
  exchanged : findD ds "exchanged" = some d_exchanged
  mirrored : findD ds "mirrored" = some d_mirrored
  turned_pairs : findD ds "turned_pairs" = some d_turned_pairs
def agr (ps qs : List Pn) : Bool := decide (ps.length = qs.length) && decide (prs ps = prs qs)
def mir (p : Pn) : Pn := ⟨20 - p.r, p.t, 20 - p.l, p.b⟩
theorem mir_ok {p : Pn} (h : p.Ok) : (mir p).Ok := by
  obtain ⟨h1, h2, h3, h4, h5, h6⟩ := h
  exact ⟨by simp [mir]; omega, by simp [mir]; omega, by simp [mir]; omega, by simp [mir]; omega, by simp [mir]; omega, by simp [mir]; omega⟩
def trn (ps : List Pn) : List (Nat × Nat) := (prs ps).filter fun q => decide ((q.2, q.1) ∈ prs (ps.map mir))
section
variable {ds : List Df}
theorem r_do_agree (h : HA ds) (k : Nat) {ps qs : List Pn} (hp : ps.length ≤ 8) (hq : qs.length ≤ 8) : Tb ds (k + 4) "do_agree" [enc (Tu.mk ps), enc (Tu.mk qs)] = .ok (.bool (agr ps qs)) := by
  refine go_run h.do_agree rfl ?_
  have e1 := r_find_pairs h.toHQ k hp
  have e2 := r_find_pairs h.toHQ k hq
  have e3 := eqD_enc (α := List (Nat × Nat)) (by decide) (prs ps) (prs qs)
  have e4 : (decide ((ps.length : Int) = (qs.length : Int))) = decide (ps.length = qs.length) := decide_eq_decide.mpr (by omega)
  refine go_ret _ ?_ rfl
  simp [e1, e2, e3, e4, agr]
  by_cases hl : ps.length = qs.length <;> simp [hl]
theorem r_are_alike (h : HA ds) (k : Nat) {ps qs : List Pn} (gp : Good8 ps) (gq : Good8 qs) : Tb ds (k + 5) "are_alike" [enc (Tu.mk ps), enc (Tu.mk qs)] = .ok (.bool (agr ps qs)) := by
  refine go_run h.are_alike rfl ?_
  refine go_expr .none (by simp [r_check_page h.toHP k ps gp.len gp.ok gp.ap]) ?_
  refine go_expr .none (by simp [r_check_page h.toHP k qs gq.len gq.ok gq.ap]) ?_
  exact go_ret _ (by simp [r_do_agree h k gp.len gq.len]) rfl
theorem r_exchanged (h : HA ds) (k : Nat) (ps : List Pn) : Tb ds (k + 1) "exchanged" [enc (Tu.mk ps)] = .ok (enc (Tu.mk (ps.map mir))) := by
  refine go_run h.exchanged rfl ?_
  refine go_ret _ ?_ rfl
  have ep : (enc (Tu.mk ps) : D) = .tuple (ps.map enc) := rfl
  simp only [List.map_cons, List.map_nil, List.cons_append, List.nil_append]
  rw [ev_bi, evL_cons, evL_nil, ev_comp, ep]
  simp only [evI_iter, ev_var, List.getElem?_cons_zero, R.ok_bind, seq_tup, nx_ok]
  rw [compGo_map (h := fun p => enc (mir p)) (fun p hp => by
    rw [pn_quad]
    simp [big, mir]
    rfl)]
  simp
  rw [show (fun p => enc (mir p)) = (enc ∘ mir) from rfl, ← List.map_map]
  rfl
theorem r_mirrored (h : HA ds) (k : Nat) {ps : List Pn} (g : Good8 ps) : Tb ds (k + 5) "mirrored" [enc (Tu.mk ps)] = .ok (enc (Tu.mk (ps.map mir))) := by
  refine go_run h.mirrored rfl ?_
  refine go_expr .none (by simp [r_check_page h.toHP k ps g.len g.ok g.ap]) ?_
  exact go_ret _ (by simp [r_exchanged h (k + 3) ps]) rfl
end
end Pi

set_option Elab.async false
set_option linter.all false
set_option maxRecDepth 100000
set_option maxHeartbeats 4000000
/-! A1: turned_pairs, still_moves. -/
namespace Pi
open PySem PySem.Spec PyProof.Rows L2
open Enc (enc)
theorem pr0 (q : Nat × Nat) : ixD (enc q) (.int 0) = .ok (.int q.1) := rfl
theorem pr1 (q : Nat × Nat) : ixD (enc q) (.int 1) = .ok (.int q.2) := rfl
theorem filt_comp {α : Type} [Enc α] {T : Str → List D → R D} {ρ : En} {own : List (Str × Nat)} {t : Tg} {it c e : E} {xs : List α} (p : α → Bool) (hi : evI T it ρ = .ok (xs.map enc))
    (hb : ∀ x ∈ xs, ∃ ρ', setT t (enc x) (wipeR ρ (own.map (·.2))) = .ok ρ' ∧ ev T c ρ' = .ok (.bool (p x)) ∧ ev T e ρ' = .ok (enc x)) : ev T (.comp own t it c e) ρ = .ok (enc (xs.filter p)) := by
  rw [ev_comp, hi, R.ok_bind, compGo_filter (p := p) (h := enc) (fun x hx => by
    obtain ⟨ρ', e1, e2, e3⟩ := hb x hx
    rw [e1, onT_ok, e2, e3]
    cases p x <;> rfl)]
  rfl
theorem map_comp {α β : Type} [Enc α] [Enc β] {T : Str → List D → R D} {ρ : En} {own : List (Str × Nat)} {t : Tg} {it e : E} {xs : List α} (f : α → β) (hi : evI T it ρ = .ok (xs.map enc))
    (hb : ∀ x ∈ xs, ∃ ρ', setT t (enc x) (wipeR ρ (own.map (·.2))) = .ok ρ' ∧ ev T e ρ' = .ok (enc (f x))) : ev T (.comp own t it .yes e) ρ = .ok (enc (xs.map f)) := by
  rw [ev_comp, hi, R.ok_bind, compGo_map (h := fun x => enc (f x)) (fun x hx => by
    obtain ⟨ρ', e1, e3⟩ := hb x hx
    rw [e1, onT_ok, ev_yes, e3]
    rfl)]
  show R.ok (PyData.list (xs.map fun x => enc (f x))) = R.ok (.list ((xs.map f).map enc))
  rw [List.map_map]
  rfl
theorem it_enc {α : Type} [Enc α] {T : Str → List D → R D} {ρ : En} {a : E} {xs : List α} (h : ev T a ρ = .ok (enc xs)) : evI T (.iter a) ρ = .ok (xs.map enc) := by
  rw [evI_iter, h]; rfl
theorem it_tu {α : Type} [Enc α] {T : Str → List D → R D} {ρ : En} {a : E} {xs : List α} (h : ev T a ρ = .ok (enc (Tu.mk xs))) : evI T (.iter a) ρ = .ok (xs.map enc) := by
  rw [evI_iter, h]; rfl
section
variable {ds : List Df}
theorem r_turned (h : HA ds) (k : Nat) {ps : List Pn} (g : Good8 ps) : Tb ds (k + 5) "turned_pairs" [enc (Tu.mk ps)] = .ok (enc (trn ps)) := by
  refine go_run h.turned_pairs rfl ?_
  simp only [d_turned_pairs, List.map_cons, List.map_nil, List.length_cons, List.length_nil, Nat.reduceAdd, Nat.reduceSub, List.reduceReplicate, List.cons_append, List.nil_append]
  refine go_expr .none (by simp [r_check_page h.toHP k ps g.len g.ok g.ap]) ?_
  refine go_asg (enc (prs (ps.map mir))) (by simp [r_exchanged h (k + 3) ps, r_find_pairs h.toHQ (k + 1) (ps := ps.map mir) (by simpa using g.len)]) ?_
  refine go_ret (enc (trn ps)) ?_ rfl
  refine filt_comp _ (it_enc (by simp [r_find_pairs h.toHQ (k + 1) g.len])) fun q hq => ⟨_, rfl, ?_, rfl⟩
  have e := in_list (α := Nat × Nat) (by decide) (q.2, q.1) (prs (ps.map mir))
  rw [show (enc (q.2, q.1) : D) = .tuple [.int q.2, .int q.1] from rfl] at e
  simp [pr0, pr1, big, e]
def shf (p : Pn) (a d : Int) : Pn := ⟨p.l + a, p.t + d, p.r + a, p.b + d⟩
def mvs (p : Pn) (ok : Int → Int → Bool) : List (Int × Int) := (rngI (0 - p.l) (20 - p.r + 1)).flatMap fun a => ((rngI (0 - p.t) (20 - p.b + 1)).filter fun d => ok a d).map fun d => (a, d)
theorem shf_ok {p : Pn} (h : p.Ok) {a d : Int} (ha : a ∈ rngI (0 - p.l) (20 - p.r + 1)) (hd : d ∈ rngI (0 - p.t) (20 - p.b + 1)) : (shf p a d).Ok := by
  rw [mem_rngI] at ha hd
  obtain ⟨h1, h2, h3, h4, h5, h6⟩ := h
  exact ⟨by simp [shf]; omega, by simp [shf]; omega, by simp [shf]; omega, by simp [shf]; omega, by simp [shf]; omega, by simp [shf]; omega⟩
theorem mvs_length {p : Pn} (h : p.Ok) (ok : Int → Int → Bool) (pre : List Int) (hp : pre.length ≤ 21) : (pre.flatMap fun a => ((rngI (0 - p.t) (20 - p.b + 1)).filter fun d => ok a d).map fun d => (a, d)).length ≤ 441 := by
  refine Nat.le_trans (flatMap_length_le _ 21 pre fun a _ => ?_) (by omega)
  rw [List.length_map]
  have := List.length_filter_le (fun d => ok a d) (rngI (0 - p.t) (20 - p.b + 1))
  rw [rngI_length] at this
  obtain ⟨h1, h2, h3, h4, h5, h6⟩ := h
  omega
theorem r_still (h : HA ds) (k : Nat) {ps : List Pn} (g : Good8 ps) {i : Nat} {p : Pn} (hi : ps[i]? = some p) :
    Tb ds (k + 6) "still_moves" [enc (Tu.mk ps), .int (i : Nat)] = .ok (enc (mvs p fun a d => apartAll (ps.set i (shf p a d)) && agr ps (ps.set i (shf p a d)))) := by
  refine go_run h.still_moves rfl ?_
  simp only [d_still_moves, List.map_cons, List.map_nil, List.length_cons, List.length_nil, Nat.reduceAdd, Nat.reduceSub, List.reduceReplicate, List.cons_append, List.nil_append]
  have hl := g.len
  have hlt : i < ps.length := (List.getElem?_eq_some_iff.mp hi).1
  have pok := g.ok p (List.mem_of_getElem? hi)
  obtain ⟨h1, h2, h3, h4, h5, h6⟩ := id pok
  have e1 : isInt (.int i) 0 ((ps.length : Int) - 1) = true := by simp [isInt]; omega
  refine go_expr .none (by simp [r_check_page h.toHP (k + 1) ps g.len g.ok g.ap]) ?_
  refine go_expr .none (by simp [r_check_number h.check_number h.is_int (k + 3) (.int i) 0 _ rfl, e1]) ?_
  refine go_tp [.int p.l, .int p.t, .int p.r, .int p.b] (by simp [tu_ix hi]; rfl) rfl ?_
  refine go_own [] rfl ?_
  generalize hok : (fun a d => apartAll (ps.set i (shf p a d)) && agr ps (ps.set i (shf p a d))) = ok
  refine go_for (g := PyData.int) (fun pre ρ => ∃ x7 x8 x9 x10, ρ = [.val (enc (Tu.mk ps)), .val (.int i), .val (.int p.l), .val (.int p.t), .val (.int p.r), .val (.int p.b), .own ((pre.flatMap fun a => ((rngI (0 - p.t) (20 - p.b + 1)).filter fun d => ok a d).map fun d => (a, d)).map enc), x7, x8, x9, x10])
    (rgI (lo := 0 - p.l) (hi := 20 - p.r + 1) (by simp) (by simp) (by omega) (by omega) (by omega) (by omega)) ⟨_, _, _, _, rfl⟩ ?_ ?_
  · rintro pre a post ρ hx ⟨x7, x8, x9, x10, rfl⟩
    refine ⟨_, rfl, ?_⟩
    have ha : a ∈ rngI (0 - p.l) (20 - p.r + 1) := by rw [hx]; simp
    have hpre : pre.length ≤ 20 := by
      have := congrArg List.length hx
      rw [rngI_length] at this
      simp at this
      omega
    have hm := mvs_length pok ok pre (by omega)
    refine go_for (g := PyData.int) (fun pre2 ρ => ∃ x8 x9 x10, ρ = [.val (enc (Tu.mk ps)), .val (.int i), .val (.int p.l), .val (.int p.t), .val (.int p.r), .val (.int p.b), .own ((pre.flatMap fun a => ((rngI (0 - p.t) (20 - p.b + 1)).filter fun d => ok a d).map fun d => (a, d)).map enc ++ ((pre2.filter fun d => ok a d).map fun d => (a, d)).map enc), .val (.int a), x8, x9, x10])
      (rgI (lo := 0 - p.t) (hi := 20 - p.b + 1) (by simp) (by simp) (by omega) (by omega) (by omega) (by omega)) ⟨x8, x9, x10, by simp⟩ ?_ ?_
    · rintro pre2 d post2 ρ hx2 ⟨x8, x9, x10, rfl⟩
      refine ⟨_, rfl, ?_⟩
      have hd : d ∈ rngI (0 - p.t) (20 - p.b + 1) := by rw [hx2]; simp
      have hpre2 : pre2.length ≤ 20 := by
        have := congrArg List.length hx2
        rw [rngI_length] at this
        simp at this
        omega
      have hfl := List.length_filter_le (fun d => ok a d) pre2
      refine go_asg (enc (shf p a d)) (by simp [big]; rfl) ?_
      have hs : ps.set i (shf p a d) = ps.take i ++ [shf p a d] ++ ps.drop (i + 1) := by
        rw [List.set_eq_take_append_cons_drop, if_pos hlt]; simp
      have eo : ev (Tb ds (k + 5)) (.bin .add (.bin .add (.slc (.var 0) .nil (.var 1)) (.tup (.cons (.var 9) .nil))) (.slc (.var 0) (.bin .add (.var 1) (.int 1)) .nil)) [.val (enc (Tu.mk ps)), .val (.int i), .val (.int p.l), .val (.int p.t), .val (.int p.r), .val (.int p.b), .own ((pre.flatMap fun a => ((rngI (0 - p.t) (20 - p.b + 1)).filter fun d => ok a d).map fun d => (a, d)).map enc ++ ((pre2.filter fun d => ok a d).map fun d => (a, d)).map enc), .val (.int a), .val (.int d), .val (enc (shf p a d)), x10] = .ok (enc (Tu.mk (ps.set i (shf p a d)))) := by
        have t1 := tu_to ps i
        have t2 : slD (enc (Tu.mk ps)) (some ((i : Int) + 1)) none = .ok (enc (Tu.mk (ps.drop (i + 1)))) := tu_from ps (i + 1)
        have t3 : (PyData.tuple [enc (shf p a d)] : D) = enc (Tu.mk [shf p a d]) := rfl
        have t4 := tu_app (ps.take i) [shf p a d] (by simp; omega)
        have t5 := tu_app (ps.take i ++ [shf p a d]) (ps.drop (i + 1)) (by simp; omega)
        rw [hs]
        simp [big, t1, t2, t3, t4, -List.append_assoc]
        rw [t5]
        rfl
      refine go_asg _ eo ?_
      have q1 : Tb ds (k + 5) "is_page" [enc (Tu.mk (ps.set i (shf p a d)))] = .ok (.bool (apartAll (ps.set i (shf p a d)))) := r_is_page h.toHP (k + 2) _ (by simpa using hl) (fun q hq => by
        rcases List.mem_or_eq_of_mem_set hq with hq | rfl
        · exact g.ok q hq
        · exact shf_ok pok ha hd)
      have q2 : Tb ds (k + 5) "do_agree" [enc (Tu.mk ps), enc (Tu.mk (ps.set i (shf p a d)))] = .ok (.bool (agr ps (ps.set i (shf p a d)))) := r_do_agree h (k + 1) hl (by simpa using hl)
      have q3 : ok a d = (apartAll (ps.set i (shf p a d)) && agr ps (ps.set i (shf p a d))) := by rw [← hok]
      refine go_if (ok a d) (by
        simp [q1, q2, q3]
        cases apartAll (ps.set i (shf p a d)) <;> simp) ?_
      cases hb : ok a d with
      | false => exact go_skip (.inl ⟨rfl, go_skip ⟨rfl, _, _, _, by simp [List.filter_append, hb]; exact ⟨rfl, rfl, rfl⟩⟩⟩)
      | true =>
        refine go_app (ds := _) (enc (a, d)) rfl (by simp [big]; rfl) ?_ (go_skip (.inl ⟨rfl, go_skip ⟨rfl, _, _, _, by simp [List.filter_append, hb]; exact ⟨rfl, rfl, rfl⟩⟩⟩))
        simp only [List.length_append, List.length_map]
        unfold big
        omega
    · rintro ρ ⟨x8, x9, x10, rfl⟩
      exact go_skip ⟨rfl, .val (.int a), x8, x9, x10, by simp [List.flatMap_append]⟩
  · rintro ρ ⟨x7, x8, x9, x10, rfl⟩
    refine go_frz rfl ?_
    exact go_ret _ rfl rfl
end
end Pi

set_option Elab.async false
set_option linter.all false
set_option maxRecDepth 100000
set_option maxHeartbeats 4000000
/-! A2: moves that keep the page: the mathematics. -/
namespace Pi
open PySem PySem.Spec PyProof.Rows L2
open Enc (enc)
theorem prs_mem (ps : List Pn) (i j : Nat) : (i, j) ∈ prs ps ↔ i < ps.length ∧ j < ps.length ∧ befAt ps i j = true := by
  unfold prs
  simp only [List.mem_flatMap, List.mem_range, List.mem_map, List.mem_filter, Prod.mk.injEq]
  constructor
  · rintro ⟨a, ha, b, ⟨hb, hbb⟩, rfl, rfl⟩; exact ⟨ha, hb, hbb⟩
  · rintro ⟨ha, hb, h⟩; exact ⟨i, ha, j, ⟨hb, h⟩, rfl, rfl⟩
theorem prs_congr {ps qs : List Pn} (hl : ps.length = qs.length) (h : ∀ i j, i < ps.length → j < ps.length → befAt ps i j = befAt qs i j) : prs ps = prs qs := by
  unfold prs
  rw [← hl]
  have : ∀ l : List Nat, (∀ i ∈ l, i < ps.length) → l.flatMap (fun i => ((List.range ps.length).filter fun j => befAt ps i j).map fun j => (i, j)) = l.flatMap (fun i => ((List.range ps.length).filter fun j => befAt qs i j).map fun j => (i, j)) := fun l hl => by
    induction l with
    | nil => rfl
    | cons x l ih =>
      rw [List.flatMap_cons, List.flatMap_cons, ih fun i hi => hl i (List.mem_cons_of_mem _ hi)]
      congr 2
      exact List.filter_congr fun j hj => h x j (hl x List.mem_cons_self) (List.mem_range.mp hj)
  exact this _ fun i hi => List.mem_range.mp hi
theorem prs_eq_iff {ps qs : List Pn} (hl : ps.length = qs.length) : prs ps = prs qs ↔ ∀ i j, i < ps.length → j < ps.length → befAt ps i j = befAt qs i j := by
  refine ⟨fun e i j hi hj => ?_, prs_congr hl⟩
  have h1 := prs_mem ps i j
  have h2 := prs_mem qs i j
  rw [e] at h1
  rw [Bool.eq_iff_iff]
  constructor
  · intro h; exact (h2.mp (h1.mpr ⟨hi, hj, h⟩)).2.2
  · intro h; exact (h1.mp (h2.mpr ⟨by omega, by omega, h⟩)).2.2
theorem bef_self {p : Pn} (h : p.Ok) : bef p p = false := by
  obtain ⟨h1, h2, h3, h4, h5, h6⟩ := h
  simp [bef, shH, shW]
  omega
theorem befAt_some {ps : List Pn} {i j : Nat} {p q : Pn} (hi : ps[i]? = some p) (hj : ps[j]? = some q) : befAt ps i j = bef p q := by
  unfold befAt; rw [hi, hj]
def okB (rest : List Pn) (p p' : Pn) : Bool := decide (rest.filter (fun o => ovl o p') = []) && rest.all fun o => (bef o p' == bef o p) && (bef p' o == bef p o)
theorem still_iff {ps : List Pn} (g : Good8 ps) {i : Nat} {p p' : Pn} (hi : ps[i]? = some p) (ok' : p'.Ok) :
    (apartAll (ps.set i p') && agr ps (ps.set i p')) = okB (ps.take i ++ ps.drop (i + 1)) p p' := by
  have hlt : i < ps.length := (List.getElem?_eq_some_iff.mp hi).1
  have hp : ps[i] = p := (List.getElem?_eq_some_iff.mp hi).2
  have pok := g.ok p (List.mem_of_getElem? hi)
  rw [← List.eraseIdx_eq_take_drop_succ]
  have hm : ∀ o, o ∈ ps.eraseIdx i ↔ ∃ j, j ≠ i ∧ ps[j]? = some o := fun o => List.mem_eraseIdx_iff_getElem?
  have hset : ∀ j, j ≠ i → (ps.set i p')[j]? = ps[j]? := fun j hj => List.getElem?_set_ne (Ne.symm hj)
  have hsi : (ps.set i p')[i]? = some p' := List.getElem?_set_self hlt
  have key1 : apartAll (ps.set i p') = true ↔ (ps.eraseIdx i).filter (fun o => ovl o p') = [] := by
    rw [apart_iff, List.filter_eq_nil_iff]
    have hs : ps.set i p' = ps.take i ++ p' :: ps.drop (i + 1) := by rw [List.set_eq_take_append_cons_drop, if_pos hlt]
    have hpw : (ps.take i ++ p :: ps.drop (i + 1)).Pairwise Ap := by
      have := (apart_iff ps).mp g.ap
      rw [← hp, ← List.drop_eq_getElem_cons hlt, List.take_append_drop]
      exact this
    rw [hs, List.eraseIdx_eq_take_drop_succ]
    rw [List.pairwise_append, List.pairwise_cons] at hpw ⊢
    obtain ⟨a1, ⟨a2, a3⟩, a4⟩ := hpw
    constructor
    · rintro ⟨_, ⟨b2, _⟩, b4⟩ o ho
      rw [Bool.not_eq_true, ovl_iff]
      rcases List.mem_append.mp ho with ho | ho
      · exact b4 o ho p' List.mem_cons_self
      · exact (b2 o ho).symm
    · intro h
      refine ⟨a1, ⟨fun o ho => ?_, a3⟩, fun o ho q hq => ?_⟩
      · have := h o (List.mem_append.mpr (.inr ho))
        rw [Bool.not_eq_true, ovl_iff] at this
        exact this.symm
      · rcases List.mem_cons.mp hq with rfl | hq
        · have := h o (List.mem_append.mpr (.inl ho))
          rwa [Bool.not_eq_true, ovl_iff] at this
        · exact a4 o ho q (List.mem_cons_of_mem _ hq)
  have key2 : agr ps (ps.set i p') = true ↔ ∀ o ∈ ps.eraseIdx i, bef o p' = bef o p ∧ bef p' o = bef p o := by
    unfold agr
    rw [Bool.and_eq_true, decide_eq_true_eq, decide_eq_true_eq, prs_eq_iff (by simp)]
    constructor
    · rintro ⟨_, h⟩ o ho
      obtain ⟨j, hj, ho⟩ := (hm o).mp ho
      have hjl : j < ps.length := (List.getElem?_eq_some_iff.mp ho).1
      have h1 := h j i hjl hlt
      have h2 := h i j hlt hjl
      rw [befAt_some ho hi, befAt_some (by rw [hset j hj]; exact ho) hsi] at h1
      rw [befAt_some hi ho, befAt_some hsi (by rw [hset j hj]; exact ho)] at h2
      exact ⟨h1.symm, h2.symm⟩
    · intro h
      refine ⟨by simp, fun j k hj hk => ?_⟩
      have ej : ps[j]? = some ps[j] := List.getElem?_eq_getElem hj
      have ek : ps[k]? = some ps[k] := List.getElem?_eq_getElem hk
      by_cases c1 : j = i
      · by_cases c2 : k = i
        · rw [c1, c2, befAt_some hi hi, befAt_some hsi hsi, bef_self pok, bef_self ok']
        · have := (h ps[k] ((hm _).mpr ⟨k, c2, ek⟩)).2
          rw [c1, befAt_some hi ek, befAt_some hsi (by rw [hset k c2]; exact ek), this]
      · by_cases c2 : k = i
        · have := (h ps[j] ((hm _).mpr ⟨j, c1, ej⟩)).1
          rw [c2, befAt_some ej hi, befAt_some (by rw [hset j c1]; exact ej) hsi, this]
        · rw [befAt_some ej ek, befAt_some (by rw [hset j c1]; exact ej) (by rw [hset k c2]; exact ek)]
  unfold okB
  rw [Bool.eq_iff_iff, Bool.and_eq_true, Bool.and_eq_true, key1, key2, decide_eq_true_eq, List.all_eq_true]
  simp only [Bool.and_eq_true, beq_iff_eq]
theorem shift_good {ps : List Pn} (h : Sheet ps) (hl : ps.length ≤ 8) : Good8 (ps.map fun p => ⟨p.l + 2, p.t + 1, p.r + 2, p.b + 1⟩) := by
  refine ⟨by simpa using hl, fun p hp => ?_, (apart_iff _).mpr ?_⟩
  · obtain ⟨q, hq, rfl⟩ := List.mem_map.mp hp
    obtain ⟨h1, h2, h3, h4, h5, h6⟩ := h.ins q hq
    exact ⟨by simp; omega, by simp; omega, by simp; omega, by simp; omega, by simp; omega, by simp; omega⟩
  · rw [List.pairwise_map]
    refine h.ap.imp fun {a b} hab => ?_
    unfold Ap at *
    simp
    omega
instance {α : Type} [DecidableEq α] : DecidableEq (Tu α) := fun a b => decidable_of_iff (a.xs = b.xs) ⟨fun h => by cases a; cases b; cases h; rfl, fun h => by rw [h]⟩
theorem ne_enc {α : Type} [Enc α] [DecidableEq α] {T : Str → List D → R D} {ρ : En} {a b : E} (x y : α) (hd : Enc.dep α ≤ 64) (ha : ev T a ρ = .ok (enc x)) (hb : ev T b ρ = .ok (enc y)) : ev T (.cmp .ne a b) ρ = .ok (.bool (!decide (x = y))) := by
  rw [ev_cmp, ha, hb]
  simp only [R.ok_bind, cm_ne, eqD_enc hd, boolR_ok, nx_ok]
theorem eq_enc {α : Type} [Enc α] [DecidableEq α] {T : Str → List D → R D} {ρ : En} {a b : E} (x y : α) (hd : Enc.dep α ≤ 64) (ha : ev T a ρ = .ok (enc x)) (hb : ev T b ρ = .ok (enc y)) : ev T (.cmp .eq a b) ρ = .ok (.bool (decide (x = y))) := by
  rw [ev_cmp, ha, hb]
  simp only [R.ok_bind, cm_eq, eqD_enc hd, boolR_ok, nx_ok]
theorem ne_same {α : Type} [Enc α] [DecidableEq α] {T : Str → List D → R D} {ρ : En} {a b : E} (x : α) (hd : Enc.dep α ≤ 64) (ha : ev T a ρ = .ok (enc x)) (hb : ev T b ρ = .ok (enc x)) : ev T (.cmp .ne a b) ρ = .ok (.bool false) := by
  rw [ne_enc x x hd ha hb]; simp

theorem eq_tup (ps : List Pn) : eqD (enc (Tu.mk ps)) (.tuple []) = .ok (decide (ps = [])) := by
  have h := eqD_enc (α := Tu Pn) (by decide) (Tu.mk ps) (Tu.mk [])
  rw [show (enc (Tu.mk ([] : List Pn)) : D) = .tuple [] from rfl] at h
  rw [h]
  congr 1
  simp
end Pi

set_option Elab.async false
set_option linter.all false
set_option maxRecDepth 100000
set_option maxHeartbeats 4000000
/-! G1: loops that may end early; values of Lean types, more. -/
namespace Pi
open PySem PySem.Spec PyProof.Rows L2
open Enc (enc)
def GoF (T : Str → List D → R D) (t : Tg) (b : S) (xs : List D) (ρ : En) (P : Fl → En → Prop) : Prop := ∃ f ρ', forGo (fun d ρ => bodyT (setT t d ρ) (exS T b)) xs ρ = .ok (f, ρ') ∧ P f ρ'
section
variable {T : Str → List D → R D} {ρ : En} {P : Fl → En → Prop} {r : S} {t : Tg} {b : S}
theorem gof_nil (h : P .nx ρ) : GoF T t b [] ρ P := ⟨_, _, rfl, h⟩
theorem gof_cons {x : D} {xs : List D} {ρ2 : En} (h : setT t x ρ = .ok ρ2) (g : Go T b ρ2 fun f ρ3 => (f = .nx ∧ GoF T t b xs ρ3 P) ∨ (f = .bk ∧ P .nx ρ3) ∨ ∃ d, f = .rt d ∧ P (.rt d) ρ3) : GoF T t b (x :: xs) ρ P := by
  obtain ⟨f, ρ3, e, q⟩ := g
  rcases q with ⟨rfl, f', ρ4, e', p⟩ | ⟨rfl, p⟩ | ⟨d, rfl, p⟩
  · exact ⟨f', ρ4, by simp only [forGo, h, bodyT_ok, e, e'], p⟩
  · exact ⟨.nx, ρ3, by simp only [forGo, h, bodyT_ok, e], p⟩
  · exact ⟨.rt d, ρ3, by simp only [forGo, h, bodyT_ok, e], p⟩
theorem go_forF {it : E} (xs : List D) (hi : evI T it ρ = .ok xs) (g : GoF T t b xs ρ fun f ρ1 => (f = .nx ∧ Go T r ρ1 P) ∨ (f ≠ .nx ∧ P f ρ1)) : Go T (.seq (.for_ t it b) r) ρ P := by
  refine go_st ?_
  obtain ⟨f, ρ', e, p⟩ := g
  exact ⟨f, ρ', by rw [exS_for, hi, R.ok_bind, e], p⟩
end
theorem all_enc {α : Type} (xs : List α) (f : α → Bool) : biD .all [enc (xs.map f)] = .ok (.bool (xs.all f)) := by
  show biD .all [.list ((xs.map f).map PyData.bool)] = _
  rw [bi_all, asBools_map]
  simp [Function.comp_def]
theorem any_enc {α : Type} (xs : List α) (f : α → Bool) : biD .any [enc (xs.map f)] = .ok (.bool (xs.any f)) := by
  show biD .any [.list ((xs.map f).map PyData.bool)] = _
  rw [bi_any, asBools_map]
  simp [Function.comp_def]
theorem tup_enc {α : Type} [Enc α] (xs : List α) : biD .tuple [enc xs] = .ok (enc (Tu.mk xs)) := rfl
theorem usort_length : ∀ ns : List Int, (usort ns).length ≤ ns.length
  | [] => Nat.le_refl _
  | x :: r => by
    have ih := usort_length r
    have : ∀ l : List Int, (insU x l).length ≤ l.length + 1 := fun l => by
      induction l with
      | nil => simp [insU]
      | cons y l ih =>
        unfold insU
        split
        · simp
        · split
          · simp
          · simp only [List.length_cons]; omega
    have := this (usort r)
    simp only [usort, List.length_cons]
    omega
theorem sset_enc2 {ns : List Int} (h : ns.length ≤ 4000) (h2 : (usort ns).length ≤ 60) : ssetD (enc ns) = .ok (enc (usort ns)) := by
  show ssetD (.list (ns.map .int)) = _
  unfold ssetD
  simp only [asInts_map]
  rw [if_pos (by rw [Bool.and_eq_true, Nat.ble_eq, Nat.ble_eq]; exact ⟨h, h2⟩)]
  rfl
theorem sset_enc {ns : List Int} (h : ns.length ≤ 60) : ssetD (enc ns) = .ok (enc (usort ns)) := sset_enc2 (by omega) (Nat.le_trans (usort_length ns) h)
theorem ev_tupc {α : Type} [Enc α] {T : Str → List D → R D} {ρ : En} {e : E} {xs : List α} (h : ev T e ρ = .ok (enc xs)) : ev T (.bi .tuple (.cons e .nil)) ρ = .ok (enc (Tu.mk xs)) := by
  rw [ev_bi, evL_cons, evL_nil, h]; rfl
theorem ev_allc {α : Type} {T : Str → List D → R D} {ρ : En} {e : E} {xs : List α} {f : α → Bool} (h : ev T e ρ = .ok (enc (xs.map f))) : ev T (.bi .all (.cons e .nil)) ρ = .ok (.bool (xs.all f)) := by
  rw [ev_bi, evL_cons, evL_nil, h]
  simp only [R.ok_bind, all_enc, nx_ok]
theorem ev_anyc {α : Type} {T : Str → List D → R D} {ρ : En} {e : E} {xs : List α} {f : α → Bool} (h : ev T e ρ = .ok (enc (xs.map f))) : ev T (.bi .any (.cons e .nil)) ρ = .ok (.bool (xs.any f)) := by
  rw [ev_bi, evL_cons, evL_nil, h]
  simp only [R.ok_bind, any_enc, nx_ok]
theorem ev_trg0 {T : Str → List D → R D} {b : E} {ρ : En} {n : Nat} (hb : ev T b ρ = .ok (.int (n : Nat))) (hn : n ≤ 1000) : ev T (.trg .nil b) ρ = .ok (enc (Tu.mk (List.range n))) := by
  rw [ev_trg, hb, ev_nil]
  simp only [R.ok_bind, asOpt_mark, asOpt_int]
  rw [if_getD hn]
  show R.ok (PyData.tuple (rgL 0 n)) = _
  rw [rgL_nat]
  rfl
theorem enc_nat (n : Nat) : (enc n : D) = .int (n : Nat) := rfl
theorem enc_int (n : Int) : (enc n : D) = .int n := rfl
theorem enc_bool (n : Bool) : (enc n : D) = .bool n := rfl
end Pi

set_option Elab.async false
set_option linter.all false
set_option maxRecDepth 100000
set_option maxHeartbeats 4000000
/-! O0: orders: each page can be read; all orders, built from the front and from the rest. -/
namespace Pi
/-! ### some panel has none before it -/
theorem Ap.at {ps : List Pn} (h : ps.Pairwise Ap) {i j : Nat} {p q : Pn} (hi : ps[i]? = some p) (hj : ps[j]? = some q) (n : i ≠ j) : Ap p q := by
  obtain ⟨a1, a2⟩ := List.getElem?_eq_some_iff.mp hi
  obtain ⟨b1, b2⟩ := List.getElem?_eq_some_iff.mp hj
  have key := List.pairwise_iff_getElem.mp h
  rcases Nat.lt_or_gt_of_ne n with c | c
  · have := key i j a1 b1 c; rw [a2, b2] at this; exact this
  · have := key j i b1 a1 c; rw [a2, b2] at this; exact this.symm
/-- q stands above p and both have common widths -/
def abo (q p : Pn) : Prop := q.b ≤ p.t ∧ q.l < p.r ∧ p.l < q.r
theorem exists_min {α : Type} (f : α → Int) : ∀ {l : List α}, l ≠ [] → ∃ x ∈ l, ∀ y ∈ l, f x ≤ f y
  | [x], _ => ⟨x, by simp, fun y hy => by simp at hy; rw [hy]; exact Int.le_refl _⟩
  | x :: y :: r, _ => by
    obtain ⟨z, hz, h⟩ := exists_min f (l := y :: r) (by simp)
    by_cases c : f x ≤ f z
    · refine ⟨x, List.mem_cons_self, fun w hw => ?_⟩
      rcases List.mem_cons.mp hw with rfl | hw
      · exact Int.le_refl _
      · exact Int.le_trans c (h w hw)
    · refine ⟨z, List.mem_cons_of_mem _ hz, fun w hw => ?_⟩
      rcases List.mem_cons.mp hw with rfl | hw
      · omega
      · exact h w hw
theorem first_exists (S : List Pn) (hne : S ≠ []) (ok : ∀ p ∈ S, p.Ok) (ap : ∀ p ∈ S, ∀ q ∈ S, p = q ∨ Ap p q) : ∃ p ∈ S, ∀ q ∈ S, bef q p = false := by
  classical
  let U := S.filter fun p => decide (∀ q ∈ S, ¬ abo q p)
  have hU : U ≠ [] := by
    obtain ⟨p, hp, hm⟩ := exists_min (fun p : Pn => p.t) hne
    refine List.ne_nil_of_mem (a := p) (List.mem_filter.mpr ⟨hp, decide_eq_true fun q hq h => ?_⟩)
    have := hm q hq
    have := (ok q hq).tb
    obtain ⟨h1, _⟩ := h
    omega
  obtain ⟨p, hp, hm⟩ := exists_min (fun p : Pn => p.l) hU
  obtain ⟨hpS, hpU⟩ := List.mem_filter.mp hp
  have hpU := of_decide_eq_true hpU
  refine ⟨p, hpS, fun q hq => ?_⟩
  have pok := ok p hpS
  have no : ∀ (n : Nat) (q : Pn), q ∈ S → q.t.toNat = n → q.r ≤ p.l → q.t < p.b → False := by
    intro n
    induction n using Nat.strongRecOn with
    | _ n ih =>
      intro q hq hn h1 h2
      have qok := ok q hq
      have hqU : q ∉ U := fun z => by
        have := hm q z
        have := qok.lr
        omega
      have : ∃ r ∈ S, abo r q := by
        apply Classical.byContradiction
        intro hno
        exact hqU (List.mem_filter.mpr ⟨hq, decide_eq_true fun r hr h => hno ⟨r, hr, h⟩⟩)
      obtain ⟨r, hr, h3, h4, h5⟩ := this
      have rok := ok r hr
      have := rok.tb
      have := rok.t0
      by_cases c : r.r ≤ p.l
      · exact ih r.t.toNat (by have := qok.t0; omega) r hr rfl c (by omega)
      · rcases ap r hr p hpS with rfl | hap
        · exact absurd h4 (by have := rok.lr; omega)
        · have := pok.lr
          have := pok.tb
          have h6 : r.b ≤ p.t := by
            unfold Ap at hap
            have := rok.lr
            omega
          exact hpU r hr ⟨h6, by omega, by omega⟩
  by_cases c1 : q.b ≤ p.t ∧ q.l < p.r ∧ p.l < q.r
  · exact (hpU q hq c1).elim
  · have c2 : ¬ (q.r ≤ p.l ∧ q.t < p.b) := fun z => no _ q hq rfl z.1 z.2
    simp only [bef, shH, shW, Bool.or_eq_false_iff, Bool.and_eq_false_iff, decide_eq_false_iff_not]
    constructor
    · by_cases c3 : q.r ≤ p.l
      · exact .inr (.inl fun z => c2 ⟨c3, z⟩)
      · exact .inl c3
    · by_cases c3 : q.b ≤ p.t
      · by_cases c4 : q.l < p.r
        · exact .inr (.inr fun z => c1 ⟨c3, c4, z⟩)
        · exact .inr (.inl c4)
      · exact .inl c3
/-! ### orders of what is left -/
def later (kn : List (Nat × Nat)) (left : List Nat) : List Nat := (kn.filter fun p => decide (p.1 ∈ left)).map (·.2)
def nxt (kn : List (Nat × Nat)) (left : List Nat) : List Nat := left.filter fun j => decide (j ∉ later kn left)
def dl (left : List Nat) (x : Nat) : List Nat := left.filter fun y => decide (y ≠ x)
def ext (kn : List (Nat × Nat)) : Nat → List Nat → List (List Nat)
  | 0, _ => [[]]
  | f + 1, left => if left = [] then [[]] else (nxt kn left).flatMap fun x => (ext kn f (dl left x)).map (x :: ·)
def ords (kn : List (Nat × Nat)) (left : List Nat) : List (List Nat) := ext kn left.length left
theorem dl_sub (left : List Nat) (x : Nat) : (dl left x).Sublist left := List.filter_sublist
theorem mem_dl {left : List Nat} {x y : Nat} : y ∈ dl left x ↔ y ∈ left ∧ y ≠ x := by simp [dl]
theorem dl_length {left : List Nat} {x : Nat} (nd : left.Nodup) (h : x ∈ left) : (dl left x).length + 1 = left.length := by
  induction left with
  | nil => cases h
  | cons y l ih =>
    obtain ⟨n1, n2⟩ := List.nodup_cons.mp nd
    unfold dl at ih ⊢
    by_cases c : y = x
    · subst c
      have : l.filter (fun z => decide (z ≠ y)) = l := List.filter_eq_self.mpr fun z hz => decide_eq_true fun e => n1 (e ▸ hz)
      rw [List.filter_cons_of_neg (by simp), this, List.length_cons]
    · have hx : x ∈ l := by
        rcases List.mem_cons.mp h with e | h
        · exact (c e.symm).elim
        · exact h
      rw [List.filter_cons_of_pos (by simpa using c), List.length_cons, ih n2 hx, List.length_cons]
theorem nxt_sub (kn : List (Nat × Nat)) (left : List Nat) : (nxt kn left).Sublist left := List.filter_sublist
theorem ords_nil (kn : List (Nat × Nat)) : ords kn [] = [[]] := rfl
theorem ords_cons {kn : List (Nat × Nat)} {left : List Nat} (nd : left.Nodup) (hne : left ≠ []) : ords kn left = (nxt kn left).flatMap fun x => (ords kn (dl left x)).map (x :: ·) := by
  unfold ords
  obtain ⟨m, hm⟩ : ∃ m, left.length = m + 1 := ⟨left.length - 1, by have := List.length_pos_iff.mpr hne; omega⟩
  rw [hm, ext, if_neg hne]
  have : ∀ l : List Nat, (∀ x ∈ l, x ∈ left) → l.flatMap (fun x => (ext kn m (dl left x)).map (x :: ·)) = l.flatMap (fun x => (ext kn (dl left x).length (dl left x)).map (x :: ·)) := fun l hl => by
    induction l with
    | nil => rfl
    | cons x l ih =>
      have h1 := dl_length nd (hl x List.mem_cons_self)
      rw [List.flatMap_cons, List.flatMap_cons, ih fun y hy => hl y (List.mem_cons_of_mem _ hy), show (dl left x).length = m by omega]
  exact this _ fun x hx => (nxt_sub kn left).subset hx
/-- what is left of n behind a start -/
def lft (n : Nat) (s : List Nat) : List Nat := (List.range n).filter fun j => decide (j ∉ s)
theorem mem_lft {n j : Nat} {s : List Nat} : j ∈ lft n s ↔ j < n ∧ j ∉ s := by simp [lft]
theorem lft_nd (n : Nat) (s : List Nat) : (lft n s).Nodup := List.nodup_range.filter _
theorem lft_nil (n : Nat) : lft n [] = List.range n := by simp [lft]
theorem lft_snoc (n : Nat) (s : List Nat) (x : Nat) : lft n (s ++ [x]) = dl (lft n s) x := by
  unfold lft dl
  rw [List.filter_filter]
  exact List.filter_congr fun j _ => by
    rw [← Bool.decide_and]
    exact decide_eq_decide.mpr (by simp [and_comm])
/-- the law's way: from the front -/
def okp (kn : List (Nat × Nat)) (s : List Nat) (j : Nat) : Bool := decide (j ∉ s) && decide (((kn.filter fun p => decide (p.2 = j) && decide (p.1 ∉ s)).map (·.1)) = [])
def frt (kn : List (Nat × Nat)) (n : Nat) : Nat → List (List Nat)
  | 0 => [[]]
  | k + 1 => (frt kn n k).flatMap fun s => ((List.range n).filter (okp kn s)).map fun j => s ++ [j]
theorem okp_nxt {kn : List (Nat × Nat)} {n : Nat} (hk : ∀ p ∈ kn, p.1 < n) (s : List Nat) : (List.range n).filter (okp kn s) = nxt kn (lft n s) := by
  unfold nxt
  rw [show lft n s = (List.range n).filter (fun j => decide (j ∉ s)) from rfl, List.filter_filter]
  refine List.filter_congr fun j hj => ?_
  rw [Bool.eq_iff_iff]
  unfold okp later
  simp only [Bool.and_eq_true, decide_eq_true_eq, List.map_eq_nil_iff, List.filter_eq_nil_iff, List.mem_map, List.mem_filter, not_exists, not_and, List.mem_range]
  constructor
  · rintro ⟨h1, h2⟩
    refine ⟨fun p hp h3 => ?_, h1⟩
    have := h2 p hp.1
    simp only [h3, decide_true, true_and, Decidable.not_not] at this
    exact hp.2.2 (this trivial)
  · rintro ⟨h1, h2⟩
    refine ⟨h2, fun p hp => ?_⟩
    simp only [Bool.and_eq_true, decide_eq_true_eq, not_and, Decidable.not_not]
    intro h3
    apply Classical.byContradiction
    intro h4
    exact h1 p ⟨hp, hk p hp, h4⟩ h3
theorem frt_ords {kn : List (Nat × Nat)} {n : Nat} (hk : ∀ p ∈ kn, p.1 < n) : ∀ (m k : Nat), k + m = n → (∀ s ∈ frt kn n k, s.length = k ∧ s.Nodup ∧ ∀ j ∈ s, j < n) → frt kn n n = (frt kn n k).flatMap fun s => (ords kn (lft n s)).map (s ++ ·)
  | 0, k, hkm, hs => by
    have : k = n := by omega
    subst this
    have e : ∀ s ∈ frt kn k k, lft k s = [] := fun s h => by
      obtain ⟨h1, h2, h3⟩ := hs s h
      rw [List.eq_nil_iff_forall_not_mem]
      intro j hj
      obtain ⟨h4, h5⟩ := mem_lft.mp hj
      have hd := dl_length (List.nodup_range (n := k)) (List.mem_range.mpr h4)
      have := nodup_sub_len (m := dl (List.range k) j) h2 fun x hx => mem_dl.mpr ⟨List.mem_range.mpr (h3 x hx), fun e => h5 (e ▸ hx)⟩
      rw [List.length_range] at hd
      omega
    have : ∀ l : List (List Nat), (∀ s ∈ l, lft k s = []) → l = l.flatMap fun s => (ords kn (lft k s)).map (s ++ ·) := fun l hl => by
      induction l with
      | nil => rfl
      | cons x l ih =>
        rw [List.flatMap_cons, hl x List.mem_cons_self, ords_nil, ← ih fun s h => hl s (List.mem_cons_of_mem _ h)]
        simp
    exact this _ e
  | m + 1, k, hkm, hs => by
    have hs' : ∀ s ∈ frt kn n (k + 1), s.length = k + 1 ∧ s.Nodup ∧ ∀ j ∈ s, j < n := fun s h => by
      obtain ⟨s0, h0, h1⟩ := List.mem_flatMap.mp h
      obtain ⟨j, hj, rfl⟩ := List.mem_map.mp h1
      obtain ⟨a1, a2, a3⟩ := hs s0 h0
      obtain ⟨b1, b2⟩ := List.mem_filter.mp hj
      simp only [okp, Bool.and_eq_true, decide_eq_true_eq] at b2
      refine ⟨by simp [a1], ?_, fun i hi => ?_⟩
      · rw [List.nodup_append]
        exact ⟨a2, by simp, fun x hx y hy => by simp at hy; rw [hy]; exact fun e => b2.1 (e ▸ hx)⟩
      · rcases List.mem_append.mp hi with hi | hi
        · exact a3 i hi
        · simp at hi; rw [hi]; exact List.mem_range.mp b1
    rw [frt_ords hk m (k + 1) (by omega) hs', frt, List.flatMap_assoc]
    have : ∀ l : List (List Nat), (∀ s ∈ l, s.length = k ∧ s.Nodup ∧ ∀ j ∈ s, j < n) → (l.flatMap fun s => (((List.range n).filter (okp kn s)).map fun j => s ++ [j]).flatMap fun s => (ords kn (lft n s)).map (s ++ ·)) = l.flatMap fun s => (ords kn (lft n s)).map (s ++ ·) := fun l hl => by
      induction l with
      | nil => rfl
      | cons s l ih =>
        rw [List.flatMap_cons, List.flatMap_cons, ih fun t h => hl t (List.mem_cons_of_mem _ h)]
        congr 1
        have hne : lft n s ≠ [] := by
          obtain ⟨a1, a2, a3⟩ := hl s List.mem_cons_self
          intro e
          have hsub : ∀ j ∈ List.range n, j ∈ s := fun j hj => by
            apply Classical.byContradiction
            intro h
            have : j ∈ lft n s := mem_lft.mpr ⟨List.mem_range.mp hj, h⟩
            rw [e] at this; cases this
          have := nodup_sub_len (List.nodup_range (n := n)) hsub
          rw [List.length_range] at this
          omega
        rw [ords_cons (lft_nd n s) hne, okp_nxt hk, List.flatMap_map, List.map_flatMap]
        congr 1
        funext x
        rw [lft_snoc, List.map_map]
        apply List.map_congr_left
        intro o _
        simp
    exact this _ hs
end Pi

set_option Elab.async false
set_option linter.all false
set_option maxRecDepth 100000
set_option maxHeartbeats 4000000
/-! O1: all orders: their number, the first one, ranks. -/
namespace Pi
theorem frt_all {kn : List (Nat × Nat)} {n : Nat} (hk : ∀ p ∈ kn, p.1 < n) : frt kn n n = ords kn (List.range n) := by
  rw [frt_ords hk n 0 (by omega) (fun s h => by simp [frt] at h; subst h; simp)]
  simp [frt, lft_nil]
/-- what is left always has a next one -/
def Live (kn : List (Nat × Nat)) (left : List Nat) : Prop := ∀ l : List Nat, l.Sublist left → l ≠ [] → nxt kn l ≠ []
theorem Live.sub {kn : List (Nat × Nat)} {left l : List Nat} (h : Live kn left) (s : l.Sublist left) : Live kn l := fun m hm hne => h m (hm.trans s) hne
theorem ords_ne {kn : List (Nat × Nat)} : ∀ (m : Nat) {left : List Nat}, left.length = m → left.Nodup → Live kn left → ords kn left ≠ []
  | 0, left, hl, _, _ => by
    have : left = [] := List.length_eq_zero_iff.mp hl
    subst this
    simp [ords_nil]
  | m + 1, left, hl, nd, lv => by
    have hne : left ≠ [] := fun e => by rw [e] at hl; cases hl
    rw [ords_cons nd hne]
    cases e : nxt kn left with
    | nil => exact (lv left (List.Sublist.refl _) hne e).elim
    | cons x l =>
      have hx : x ∈ left := (nxt_sub kn left).subset (by rw [e]; exact List.mem_cons_self)
      have hd := dl_length nd hx
      have ih := ords_ne (kn := kn) m (left := dl left x) (by omega) (nd.sublist (dl_sub left x)) (lv.sub (dl_sub left x))
      rw [List.flatMap_cons]
      cases e2 : ords kn (dl left x) with
      | nil => exact (ih e2).elim
      | cons o os => simp
/-- the first order -/
def fst (kn : List (Nat × Nat)) : Nat → List Nat → List Nat
  | 0, _ => []
  | f + 1, left => match nxt kn left with
    | [] => []
    | x :: _ => x :: fst kn f (dl left x)
theorem fst_head {kn : List (Nat × Nat)} : ∀ (m : Nat) {left : List Nat}, left.length = m → left.Nodup → Live kn left → (ords kn left).head? = some (fst kn m left)
  | 0, left, hl, _, _ => by
    have : left = [] := List.length_eq_zero_iff.mp hl
    subst this
    rfl
  | m + 1, left, hl, nd, lv => by
    have hne : left ≠ [] := fun e => by rw [e] at hl; cases hl
    rw [ords_cons nd hne, fst]
    cases e : nxt kn left with
    | nil => exact (lv left (List.Sublist.refl _) hne e).elim
    | cons x l =>
      have hx : x ∈ left := (nxt_sub kn left).subset (by rw [e]; exact List.mem_cons_self)
      have hd := dl_length nd hx
      have ih := fst_head (kn := kn) m (left := dl left x) (by omega) (nd.sublist (dl_sub left x)) (lv.sub (dl_sub left x))
      rw [List.flatMap_cons, List.head?_append, List.head?_map, ih]
      rfl
/-! ### by rank -/
theorem flat_at {α β : Type} {f : α → List β} : ∀ {l : List α} {r : Nat}, r < (l.flatMap f).length → ∃ pre x post, l = pre ++ x :: post ∧ (pre.flatMap f).length ≤ r ∧ r < (pre.flatMap f).length + (f x).length ∧ (l.flatMap f)[r]? = (f x)[r - (pre.flatMap f).length]?
  | [], r, h => by simp at h
  | x :: l, r, h => by
    by_cases c : r < (f x).length
    · refine ⟨[], x, l, rfl, by simp, by simpa using c, ?_⟩
      rw [List.flatMap_cons, List.getElem?_append_left c]
      simp
    · rw [List.flatMap_cons, List.length_append] at h
      obtain ⟨pre, y, post, e, h1, h2, h3⟩ := flat_at (l := l) (f := f) (r := r - (f x).length) (by omega)
      refine ⟨x :: pre, y, post, by rw [e]; rfl, ?_, ?_, ?_⟩
      · rw [List.flatMap_cons, List.length_append]; omega
      · rw [List.flatMap_cons, List.length_append]; omega
      · rw [List.flatMap_cons, List.getElem?_append_right (by omega), h3, List.flatMap_cons, List.length_append]
        congr 1
        omega
/-- a rank, from an order -/
def rnk (kn : List (Nat × Nat)) : List Nat → List Nat → Nat
  | _, [] => 0
  | left, x :: o => (((nxt kn left).filter fun y => decide (y < x)).flatMap (fun y => ords kn (dl left y))).length + rnk kn (dl left x) o
theorem rnk_at {kn : List (Nat × Nat)} : ∀ (m : Nat) {left : List Nat}, left.length = m → left.Pairwise (· < ·) → ∀ (r : Nat) (o : List Nat), (ords kn left)[r]? = some o → rnk kn left o = r
  | 0, left, hl, _, r, o, h => by
    have : left = [] := List.length_eq_zero_iff.mp hl
    subst this
    rw [ords_nil] at h
    cases r with
    | zero => simp at h; subst h; rfl
    | succ r => simp at h
  | m + 1, left, hl, st, r, o, h => by
    have nd : left.Nodup := st.imp fun h => Nat.ne_of_lt h
    have hne : left ≠ [] := fun e => by rw [e] at hl; cases hl
    rw [ords_cons nd hne] at h
    have hr : r < ((nxt kn left).flatMap fun x => (ords kn (dl left x)).map (x :: ·)).length := (List.getElem?_eq_some_iff.mp h).1
    obtain ⟨pre, x, post, e, h1, h2, h3⟩ := flat_at hr
    rw [h3, List.getElem?_map] at h
    cases e2 : (ords kn (dl left x))[r - (pre.flatMap fun x => (ords kn (dl left x)).map (x :: ·)).length]? with
    | none => rw [e2] at h; cases h
    | some o' =>
      rw [e2] at h
      have ho : o = x :: o' := by simpa using h.symm
      subst ho
      have hx : x ∈ left := (nxt_sub kn left).subset (by rw [e]; simp)
      have hd := dl_length nd hx
      have ih := rnk_at (kn := kn) m (left := dl left x) (by omega) (st.sublist (dl_sub left x)) _ o' e2
      have hst : (pre ++ x :: post).Pairwise (· < ·) := by rw [← e]; exact st.sublist (nxt_sub kn left)
      rw [List.pairwise_append, List.pairwise_cons] at hst
      have hf : ((nxt kn left).filter fun y => decide (y < x)) = pre := by
        rw [e, List.filter_append, List.filter_cons_of_neg (by simp)]
        have f1 : pre.filter (fun y => decide (y < x)) = pre := List.filter_eq_self.mpr fun y hy => decide_eq_true (hst.2.2 y hy x List.mem_cons_self)
        have f2 : post.filter (fun y => decide (y < x)) = [] := List.filter_eq_nil_iff.mpr fun y hy => by
          have := hst.2.1.1 y hy
          simp
          omega
        rw [f1, f2, List.append_nil]
      have hlen : ∀ l : List Nat, (l.flatMap fun y => ords kn (dl left y)).length = (l.flatMap fun y => (ords kn (dl left y)).map (y :: ·)).length := fun l => by
        induction l with
        | nil => rfl
        | cons y l ih => rw [List.flatMap_cons, List.flatMap_cons, List.length_append, List.length_append, ih, List.length_map]
      rw [rnk, hf, ih, hlen]
      omega
/-! ### which lists are orders -/
def Kp (kn : List (Nat × Nat)) (left s : List Nat) : Prop := ∀ p ∈ kn, p.1 ∈ left → p.2 ∈ left → s.idxOf p.1 < s.idxOf p.2
theorem idx_ne {x y : Nat} (l : List Nat) (h : x ≠ y) : (x :: l).idxOf y = l.idxOf y + 1 := by
  rw [List.idxOf_cons, beq_false_of_ne h]; rfl
theorem perm_dl {left : List Nat} {x : Nat} (nd : left.Nodup) (h : x ∈ left) : (x :: dl left x).Perm left := by
  induction left with
  | nil => cases h
  | cons y l ih =>
    obtain ⟨n1, n2⟩ := List.nodup_cons.mp nd
    by_cases c : y = x
    · subst c
      have : dl (y :: l) y = l := by
        unfold dl
        rw [List.filter_cons_of_neg (by simp)]
        exact List.filter_eq_self.mpr fun z hz => decide_eq_true fun e => n1 (e ▸ hz)
      rw [this]
    · have hx : x ∈ l := by
        rcases List.mem_cons.mp h with e | h
        · exact (c e.symm).elim
        · exact h
      have : dl (y :: l) x = y :: dl l x := by
        unfold dl
        rw [List.filter_cons_of_pos (by simpa using c)]
      rw [this]
      exact (List.Perm.swap y x _).trans ((ih n2 hx).cons y)
theorem mem_nxt {kn : List (Nat × Nat)} {left : List Nat} {x : Nat} : x ∈ nxt kn left ↔ x ∈ left ∧ ∀ p ∈ kn, p.1 ∈ left → p.2 ≠ x := by
  unfold nxt later
  simp only [List.mem_filter, decide_eq_true_eq, List.mem_map, not_exists, not_and]
  constructor
  · rintro ⟨h1, h2⟩; exact ⟨h1, fun p hp h3 => h2 p ⟨hp, h3⟩⟩
  · rintro ⟨h1, h2⟩; exact ⟨h1, fun p hp => h2 p hp.1 hp.2⟩
theorem mem_ords {kn : List (Nat × Nat)} : ∀ (m : Nat) {left s : List Nat}, left.length = m → left.Nodup → (s ∈ ords kn left ↔ s.Perm left ∧ Kp kn left s)
  | 0, left, s, hl, _ => by
    have : left = [] := List.length_eq_zero_iff.mp hl
    subst this
    rw [ords_nil]
    simp only [List.mem_singleton, List.perm_nil]
    exact ⟨fun h => ⟨h, fun p _ z => by cases z⟩, fun h => h.1⟩
  | m + 1, left, s, hl, nd => by
    have hne : left ≠ [] := fun e => by rw [e] at hl; cases hl
    rw [ords_cons nd hne, List.mem_flatMap]
    constructor
    · rintro ⟨x, hx, h⟩
      obtain ⟨o, ho, rfl⟩ := List.mem_map.mp h
      obtain ⟨x1, x2⟩ := mem_nxt.mp hx
      have hd := dl_length nd x1
      obtain ⟨o1, o2⟩ := (mem_ords m (by omega) (nd.sublist (dl_sub left x))).mp ho
      refine ⟨(o1.cons x).trans (perm_dl nd x1), fun p hp p1 p2 => ?_⟩
      have c2 : p.2 ≠ x := x2 p hp p1
      by_cases c1 : p.1 = x
      · rw [c1, List.idxOf_cons_self, idx_ne _ (Ne.symm c2)]
        omega
      · rw [idx_ne _ (Ne.symm c1), idx_ne _ (Ne.symm c2)]
        have := o2 p hp (mem_dl.mpr ⟨p1, c1⟩) (mem_dl.mpr ⟨p2, c2⟩)
        omega
    · rintro ⟨hp, hk⟩
      cases s with
      | nil => exact (hne (List.perm_nil.mp hp.symm)).elim
      | cons x o =>
        have x1 : x ∈ left := hp.mem_iff.mp List.mem_cons_self
        have hd := dl_length nd x1
        have hx : x ∈ nxt kn left := mem_nxt.mpr ⟨x1, fun p hp p1 e => by
          have := hk p hp p1 (e ▸ x1)
          rw [e, List.idxOf_cons_self] at this
          omega⟩
        have op : o.Perm (dl left x) := List.Perm.cons_inv (a := x) (hp.trans (perm_dl nd x1).symm)
        refine ⟨x, hx, List.mem_map.mpr ⟨o, (mem_ords m (by omega) (nd.sublist (dl_sub left x))).mpr ⟨op, fun p hp p1 p2 => ?_⟩, rfl⟩⟩
        obtain ⟨a1, a2⟩ := mem_dl.mp p1
        obtain ⟨b1, b2⟩ := mem_dl.mp p2
        have := hk p hp a1 b1
        rw [idx_ne _ (Ne.symm a2), idx_ne _ (Ne.symm b2)] at this
        omega
end Pi

set_option Elab.async false
set_option linter.all false
set_option maxRecDepth 100000
set_option maxHeartbeats 4000000
/-! O2: orders.py: next_ones, count_left. -/
namespace Pi
open PySem PySem.Spec PyProof.Rows L2
open Enc (enc)
theorem go_memo {T : Str → List D → R D} {ρ : En} {d k : Nat} {b : S} {e : E} (n : Int) (h0 : memoKey ρ d k = some n) (g : Go T b ρ fun f ρ' => f = .nx ∧ ev T e ρ' = .ok (.int n) ∧ memoKey ρ' d k = some n) : Go T (.memo d k b e) ρ fun f _ => f = .rt (.int n) := by
  obtain ⟨f, ρ', e1, rfl, e2, e3⟩ := g
  refine ⟨.rt (.int n), ρ', ?_, rfl⟩
  show memoR ρ d k (exS T b ρ) (ev T e) = _
  rw [e1]
  unfold memoR
  simp only [e2]
  exact if_pos ⟨h0, e3⟩
theorem in_tu (i : Nat) (xs : List Nat) : inD (.int (i : Nat)) (enc (Tu.mk xs)) = .ok (decide (i ∈ xs)) := by
  show inD (.int (i : Nat)) (.tuple (xs.map enc)) = _
  have hf : (xs.map (enc (α := Nat))).all flatD = true := by
    rw [List.all_eq_true]
    intro z hz
    obtain ⟨x, _, rfl⟩ := List.mem_map.mp hz
    rfl
  show (if flatD (.int (i : Nat)) && (xs.map (enc (α := Nat))).all flatD then R.ok ((xs.map (enc (α := Nat))).any fun z => PyData.eqv z (.int (i : Nat))) else .bad) = _
  rw [hf]
  simp only [flatD, Bool.and_self, if_true]
  congr 1
  rw [Bool.eq_iff_iff, decide_eq_true_eq, List.any_eq_true]
  constructor
  · rintro ⟨z, hz, e⟩
    obtain ⟨x, hx, rfl⟩ := List.mem_map.mp hz
    have : x = i := (Enc.eqv x i).mp e
    rw [← this]; exact hx
  · intro hx
    exact ⟨enc i, List.mem_map.mpr ⟨i, hx, rfl⟩, (Enc.eqv i i).mpr rfl⟩
/-! ### the tables' numbers -/
def zz (p : Nat × Nat) : Int × Int := ((p.1 : Int), (p.2 : Int))
theorem knownZ_enc {kn : List (Nat × Nat)} (h : ∀ p ∈ kn, p.1 < 8 ∧ p.2 < 8) : knownZ (enc kn) = some (kn.map zz) := by
  show pairsZ (kn.map enc) = _
  induction kn with
  | nil => rfl
  | cons p r ih =>
    have hp := h p List.mem_cons_self
    rw [List.map_cons, pairsZ, ih fun q hq => h q (List.mem_cons_of_mem _ hq)]
    have : pairZ (enc p) = some (zz p) := by
      show (if (0 : Int) ≤ (p.1 : Int) ∧ (p.1 : Int) < 8 ∧ (0 : Int) ≤ (p.2 : Int) ∧ (p.2 : Int) < 8 then some ((p.1 : Int), (p.2 : Int)) else none) = _
      rw [if_pos (by omega)]
      rfl
    rw [this]
    rfl
def zl (l : List Nat) : List Int := l.map fun (n : Nat) => (n : Int)
theorem mem_zl {n : Nat} {l : List Nat} : (n : Int) ∈ zl l ↔ n ∈ l := by
  unfold zl
  rw [List.mem_map]
  constructor
  · rintro ⟨m, hm, e⟩
    have : m = n := by omega
    rw [← this]; exact hm
  · intro h; exact ⟨n, h, rfl⟩
theorem filter_zl (l : List Nat) (f : Int → Bool) (g : Nat → Bool) (h : ∀ n ∈ l, f (n : Int) = g n) : (zl l).filter f = zl (l.filter g) := by
  unfold zl
  rw [List.filter_map]
  congr 1
  exact List.filter_congr fun n hn => h n hn
theorem nextZ_eq (kn : List (Nat × Nat)) (l : List Nat) : nextZ (kn.map zz) (zl l) = zl (nxt kn l) := by
  unfold nextZ nxt
  refine filter_zl l _ _ fun n _ => ?_
  rw [Bool.eq_iff_iff, decide_eq_true_iff, Bool.not_eq_true', List.any_eq_false]
  simp only [later, List.mem_filter, List.mem_map, not_exists, not_and, decide_eq_true_eq]
  constructor
  · intro h p hp e
    refine h (zz p) ⟨⟨p, hp.1, rfl⟩, mem_zl.mpr hp.2⟩ ?_
    show (p.2 : Int) = n
    rw [e]
  · rintro h q ⟨⟨p, hp, rfl⟩, h2⟩ e
    exact h p ⟨hp, mem_zl.mp h2⟩ (by have : (p.2 : Int) = n := e; omega)
theorem foldl_sum : ∀ (l : List Int) (a : Int), l.foldl (· + ·) a = a + l.sum
  | [], a => by simp
  | x :: l, a => by rw [List.foldl_cons, foldl_sum l, List.sum_cons]; omega
theorem cntZ_eq (kn : List (Nat × Nat)) : ∀ (f : Nat) (l : List Nat), cntZ (kn.map zz) f (zl l) = ((ext kn f l).length : Nat)
  | 0, l => by simp [cntZ, ext]
  | f + 1, l => by
    rw [cntZ, ext]
    by_cases hl : l = []
    · subst hl; simp [zl]
    · rw [if_neg (by unfold zl; simpa using hl), if_neg hl, nextZ_eq, foldl_sum, Int.zero_add]
      have : ∀ m : List Nat, ((zl m).map fun n => cntZ (kn.map zz) f ((zl l).filter fun k => decide (k ≠ n))).sum = (((m.flatMap fun x => (ext kn f (dl l x)).map (x :: ·)).length : Nat) : Int) := fun m => by
        induction m with
        | nil => rfl
        | cons x m ih =>
          have e : (zl l).filter (fun k => decide (k ≠ (x : Int))) = zl (dl l x) := filter_zl l _ _ fun n _ => decide_eq_decide.mpr (by omega)
          have ih' : ((zl m).map fun n => cntZ (kn.map zz) f ((zl l).filter fun k => decide (k ≠ n))).sum = (((m.flatMap fun x => (ext kn f (dl l x)).map (x :: ·)).length : Nat) : Int) := ih
          show ((((x : Int) :: zl m).map fun n => cntZ (kn.map zz) f ((zl l).filter fun k => decide (k ≠ n))).sum) = _
          rw [List.map_cons, List.sum_cons, ih', e, cntZ_eq kn f, List.flatMap_cons, List.length_append, List.length_map]
          omega
      exact this _
theorem memoG_eq {kn : List (Nat × Nat)} {l : List Nat} (h : l.Sublist (List.range 8)) : memoG (kn.map zz) (zl l) = some ((ords kn l).length : Nat) := by
  unfold memoG
  have hs : (zl l).isSublist range8 = true := List.isSublist_iff_sublist.mpr (by
    have : range8 = zl (List.range 8) := rfl
    rw [this]
    exact h.map _)
  rw [if_pos hs, show (zl l).length = l.length by simp [zl], cntZ_eq]
  rfl
structure HO2 (ds : List Df) : Prop where
  next_ones : findD ds "next_ones" = some d_next_ones
  count_left : findD ds "count_left" = some d_count_left
section
variable {ds : List Df}
theorem r_next (h : findD ds "next_ones" = some d_next_ones) (k : Nat) (left : List Nat) (kn : List (Nat × Nat)) : Tb ds (k + 1) "next_ones" [enc (Tu.mk left), enc kn] = .ok (enc (nxt kn left)) := by
  refine go_run h rfl ?_
  simp only [d_next_ones, List.map_cons, List.map_nil, List.length_cons, List.length_nil, Nat.reduceAdd, Nat.reduceSub, List.reduceReplicate, List.cons_append, List.nil_append]
  have c : ev (Tb ds k) (.comp [("one", 3), ("other", 4)] (.tp [3, 4]) (.iter (.var 1)) (.cmp .isin (.var 3) (.var 0)) (.var 4)) [.val (enc (Tu.mk left)), .val (enc kn), .no, .no, .no, .no] = .ok (enc (later kn left)) := by
    rw [ev_comp, it_enc (xs := kn) (by simp), R.ok_bind, compGo_filter (p := fun p => decide (p.1 ∈ left)) (h := fun p => .int (p.2 : Nat)) (fun p hp => by
      rw [show (enc p : D) = enc (p.1, p.2) from rfl, pn_pair]
      simp [in_tu]
      by_cases hm : p.1 ∈ left <;> simp [hm])]
    show R.ok (PyData.list _) = R.ok (PyData.list _)
    unfold later
    rw [List.map_map]
    rfl
  refine go_asg _ c ?_
  refine go_ret _ ?_ rfl
  refine filt_comp _ (it_tu (by simp)) fun j hj => ⟨_, rfl, ?_, by simp⟩
  have e := in_list (α := Nat) (by decide) j (later kn left)
  simp [e]
theorem ev_dl {T : Str → List D → R D} {ρ : En} {nm : Str} {i x l : Nat} {left : List Nat} {n : Nat} (hl : ρ[l]? = some (.val (enc (Tu.mk left)))) (hx : ρ[x]? = some (.val (.int (n : Nat)))) (hix : x ≠ i) (hi : i < ρ.length) :
    ev T (.bi .tuple (.cons (.comp [(nm, i)] (.nm i) (.iter (.var l)) (.cmp .ne (.var i) (.var x)) (.var i)) .nil)) ρ = .ok (enc (Tu.mk (dl left n))) := by
  refine ev_tupc (filt_comp (fun y => decide (y ≠ n)) (it_tu (by rw [ev_var, hl])) fun y hy => ⟨_, rfl, ?_, ?_⟩)
  · have e1 : (((wipeR ρ ([(nm, i)].map (·.2))).set i (.val (enc y)))[i]?) = some (.val (enc y)) := by
      simp [wipeR, hi]
    have e2 : (((wipeR ρ ([(nm, i)].map (·.2))).set i (.val (enc y)))[x]?) = some (.val (.int (n : Nat))) := by
      simp only [wipeR, List.map_cons, List.map_nil]
      rw [List.getElem?_set_ne (Ne.symm hix), List.getElem?_set_ne (Ne.symm hix), hx]
    rw [ev_cmp, ev_var, ev_var, e1, e2]
    simp [enc_nat]
    omega
  · have e1 : (((wipeR ρ ([(nm, i)].map (·.2))).set i (.val (enc y)))[i]?) = some (.val (enc y)) := by
      simp [wipeR, hi]
    rw [ev_var, e1]
theorem asInts_enc (l : List Nat) : asInts (l.map (enc (α := Nat))) = some (zl l) := by
  have := asInts_map (zl l)
  unfold zl at this ⊢
  rw [List.map_map] at this
  exact this
theorem r_count (h : HO2 ds) {kn : List (Nat × Nat)} (hk : ∀ p ∈ kn, p.1 < 8 ∧ p.2 < 8) : ∀ (m L : Nat) (left : List Nat), left.length = m → left.Sublist (List.range 8) → Tb ds (L + m + 2) "count_left" [enc (Tu.mk left), enc kn, memoD (enc kn)] = .ok (.int ((ords kn left).length : Nat)) := by
  intro m
  induction m with
  | zero =>
    intro L left hl hs
    have : left = [] := List.length_eq_zero_iff.mp hl
    subst this
    refine go_run h.count_left rfl ?_
    refine go_yes rfl ?_
    exact go_ret (.int 1) rfl (.inr ⟨by simp, rfl⟩)
  | succ m ih =>
    intro L left hl hs
    have hne : left ≠ [] := fun e => by rw [e] at hl; cases hl
    have nd : left.Nodup := List.nodup_range.sublist hs
    refine go_run h.count_left rfl ?_
    simp only [d_count_left, List.map_cons, List.map_nil, List.length_cons, List.length_nil, Nat.reduceAdd, Nat.reduceSub, List.reduceReplicate, List.cons_append, List.nil_append]
    have et : eqD (enc (Tu.mk left)) (.tuple []) = .ok (decide (left = [])) := by
      have h := eqD_enc (α := Tu Nat) (by decide) (Tu.mk left) (Tu.mk [])
      rw [show (enc (Tu.mk ([] : List Nat)) : D) = .tuple [] from rfl] at h
      rw [h]; congr 1; simp
    refine go_no (by rw [ev_cmp, ev_tup0]; simp [et, hne]) ?_
    have mk : ∀ x3 x4 x5, memoKey [.val (enc (Tu.mk left)), .val (enc kn), .val (memoD (enc kn)), x3, x4, x5] 2 0 = some (((ords kn left).length : Nat) : Int) := fun x3 x4 x5 => by
      show (match knownZ (enc kn), asInts (left.map (enc (α := Nat))) with | some kn, some ks => memoG kn ks | _, _ => none) = _
      rw [knownZ_enc hk, asInts_enc]
      exact memoG_eq hs
    refine go_memo _ (mk _ _ _) ?_
    refine go_asg (.int 0) rfl ?_
    simp only [List.set_cons_succ, List.set_cons_zero]
    have e1 : Tb ds (L + (m + 1) + 1) "next_ones" [enc (Tu.mk left), enc kn] = .ok (enc (nxt kn left)) := r_next h.next_ones _ left kn
    refine go_for (g := enc) (fun pre ρ => ∃ x4 x5, ρ = [.val (enc (Tu.mk left)), .val (enc kn), .val (memoD (enc kn)), .val (.int ((pre.flatMap fun x => (ords kn (dl left x)).map (x :: ·)).length : Nat)), x4, x5]) (xs := nxt kn left) (it_enc (by simp [e1])) ⟨_, _, rfl⟩ ?_ ?_
    · rintro pre x post ρ hx ⟨x4, x5, rfl⟩
      refine ⟨_, rfl, ?_⟩
      have hxl : x ∈ left := (nxt_sub kn left).subset (by rw [hx]; simp)
      have hd := dl_length nd hxl
      have e2 := ih L (dl left x) (by omega) ((dl_sub left x).trans hs)
      have e3 : ev (Tb ds (L + (m + 1) + 1)) (.bi .tuple (.cons (.comp [("other", 5)] (.nm 5) (.iter (.var 0)) (.cmp .ne (.var 5) (.var 4)) (.var 5)) .nil)) [.val (enc (Tu.mk left)), .val (enc kn), .val (memoD (enc kn)), .val (.int ((pre.flatMap fun x => (ords kn (dl left x)).map (x :: ·)).length : Nat)), .val (enc x), x5] = .ok (enc (Tu.mk (dl left x))) :=
        ev_dl rfl rfl (by decide) (by simp)
      refine go_asg (.int ((((pre ++ [x]).flatMap fun x => (ords kn (dl left x)).map (x :: ·)).length : Nat) : Int)) ?_ (go_skip ⟨rfl, .val (enc x), x5, rfl⟩)
      rw [ev_bin, ev_call, evL_cons, evL_cons, evL_cons, evL_nil]
      simp only [List.set_cons_succ, List.set_cons_zero]
      rw [e3]
      simp only [ev_var, List.getElem?_cons_zero, List.getElem?_cons_succ, R.ok_bind]
      rw [show L + (m + 1) + 1 = L + m + 2 by omega, e2]
      simp [List.flatMap_append]
    · rintro ρ ⟨x4, x5, rfl⟩
      refine go_skip ⟨rfl, ?_, ?_⟩
      · rw [ords_cons nd hne]; rfl
      · exact mk _ _ _
end
end Pi

set_option Elab.async false
set_option linter.all false
set_option maxRecDepth 100000
set_option maxHeartbeats 4000000
/-! O3: orders.py: find_number, count_orders, is_sure, first_order. -/
namespace Pi
open PySem PySem.Spec PyProof.Rows L2
open Enc (enc)
theorem go_while {T : Str → List D → R D} {c : E} {b r : S} {P : Fl → En → Prop} (I : Nat → En → Prop) (hs : ∀ m ρ, I (m + 1) ρ → ev T c ρ = .ok (.bool true) ∧ Go T b ρ fun f ρ' => f = .nx ∧ I m ρ')
    (he : ∀ ρ, I 0 ρ → ev T c ρ = .ok (.bool false) ∧ Go T r ρ P) : ∀ (m n : Nat) (ρ : En), m < n → I m ρ → Go T (.seq (.while_ n c b) r) ρ P := by
  have key : ∀ (m n : Nat) (ρ : En), m < n → I m ρ → ∃ ρ', whileGo (ev T c) (exS T b) n ρ = .ok (.nx, ρ') ∧ I 0 ρ' := by
    intro m
    induction m with
    | zero =>
      intro n ρ hn h
      obtain ⟨n, rfl⟩ : ∃ k, n = k + 1 := ⟨n - 1, by omega⟩
      exact ⟨ρ, by unfold whileGo; simp only [(he ρ h).1], h⟩
    | succ m ih =>
      intro n ρ hn h
      obtain ⟨n, rfl⟩ : ∃ k, n = k + 1 := ⟨n - 1, by omega⟩
      obtain ⟨e1, f, ρ1, e2, rfl, h1⟩ := hs m ρ h
      obtain ⟨ρ', e3, h3⟩ := ih n ρ1 (by omega) h1
      exact ⟨ρ', by unfold whileGo; simp only [e1, e2, e3], h3⟩
  intro m n ρ hn h
  obtain ⟨ρ', e, h'⟩ := key m n ρ hn h
  exact go_seq (by rw [exS_while, e]) (he ρ' h').2
theorem prs_lt {ps : List Pn} : ∀ p ∈ prs ps, p.1 < ps.length ∧ p.2 < ps.length := fun p hp => by
  have := (prs_mem ps p.1 p.2).mp hp
  exact ⟨this.1, this.2.1⟩
theorem prs_8 {ps : List Pn} (h : ps.length ≤ 8) : ∀ p ∈ prs ps, p.1 < 8 ∧ p.2 < 8 := fun p hp => by
  have := prs_lt p hp
  omega
/-- each page can be read -/
theorem live_page {ps : List Pn} (g : Good8 ps) : Live (prs ps) (List.range ps.length) := by
  intro l hl hne e
  have hlt : ∀ i ∈ l, i < ps.length := fun i hi => List.mem_range.mp (hl.subset hi)
  have hS : ∀ p, p ∈ l.filterMap (fun i => ps[i]?) ↔ ∃ i ∈ l, ps[i]? = some p := fun p => by rw [List.mem_filterMap]
  have apw := (apart_iff ps).mp g.ap
  obtain ⟨p, hp, hb⟩ := first_exists (l.filterMap fun i => ps[i]?) (by
    cases l with
    | nil => exact (hne rfl).elim
    | cons x l =>
      have hx := hlt x List.mem_cons_self
      exact List.ne_nil_of_mem ((hS ps[x]).mpr ⟨x, List.mem_cons_self, List.getElem?_eq_getElem hx⟩)) (fun p hp => by
    obtain ⟨i, _, h⟩ := (hS p).mp hp
    exact g.ok p (List.mem_of_getElem? h)) (fun p hp q hq => by
    obtain ⟨i, _, h1⟩ := (hS p).mp hp
    obtain ⟨j, _, h2⟩ := (hS q).mp hq
    by_cases c : i = j
    · subst c; rw [h1] at h2; exact .inl (Option.some.inj h2)
    · exact .inr (Ap.at apw h1 h2 c))
  obtain ⟨i, hi, h1⟩ := (hS p).mp hp
  have : i ∈ nxt (prs ps) l := mem_nxt.mpr ⟨hi, fun q hq q1 q2 => by
    have h3 := ((prs_mem ps q.1 q.2).mp hq)
    have h4 : ps[q.1]? = some ps[q.1] := List.getElem?_eq_getElem h3.1
    have h5 := h3.2.2
    rw [q2, befAt_some h4 h1, hb _ ((hS _).mpr ⟨q.1, q1, h4⟩)] at h5
    cases h5⟩
  rw [e] at this
  cases this
def ordP (ps : List Pn) : List (List Nat) := ords (prs ps) (List.range ps.length)
theorem range_sub8 {n : Nat} (h : n ≤ 8) : (List.range n).Sublist (List.range 8) := List.range_sublist.mpr h
structure HO3m (ds : List Df) : Prop extends HQ ds, HO2 ds where
  find_number : findD ds "find_number" = some d_find_number
  first_order : findD ds "first_order" = some d_first_order
structure HO3a (ds : List Df) : Prop extends HO3m ds where
  count_orders : findD ds "count_orders" = some d_count_orders
structure HO3 (ds : List Df) : Prop extends HO3a ds where
  is_sure : findD ds "is_sure" = some d_is_sure
section
variable {ds : List Df}
theorem r_count' (h : HO2 ds) {kn : List (Nat × Nat)} (hk : ∀ p ∈ kn, p.1 < 8 ∧ p.2 < 8) {L : Nat} {left : List Nat} (hL : left.length + 2 ≤ L) (hs : left.Sublist (List.range 8)) : Tb ds L "count_left" [enc (Tu.mk left), enc kn, memoD (enc kn)] = .ok (.int ((ords kn left).length : Nat)) := by
  obtain ⟨K, rfl⟩ : ∃ K, L = K + left.length + 2 := ⟨L - (left.length + 2), by omega⟩
  exact r_count h hk left.length K left rfl hs
theorem r_find_number (h : HO3m ds) {kn : List (Nat × Nat)} (hk : ∀ p ∈ kn, p.1 < 8 ∧ p.2 < 8) (L : Nat) {n : Nat} (hn : n ≤ 8) (hL : n + 2 ≤ L) : Tb ds (L + 1) "find_number" [.int (n : Nat), enc kn] = .ok (.int ((ords kn (List.range n)).length : Nat)) := by
  refine go_run h.find_number rfl ?_
  simp only [d_find_number, List.map_cons, List.map_nil, List.length_cons, List.length_nil, Nat.reduceAdd, Nat.reduceSub, List.reduceReplicate, List.cons_append, List.nil_append]
  refine go_ret _ ?_ rfl
  have e1 : ev (Tb ds L) (.trg .nil (.var 0)) [.val (.int (n : Nat)), .val (enc kn)] = .ok (enc (Tu.mk (List.range n))) := ev_trg0 (by simp) (by omega)
  have e2 : ev (Tb ds L) (.dnew (.var 1)) [.val (.int (n : Nat)), .val (enc kn)] = .ok (memoD (enc kn)) := by
    rw [ev_dnew]
    simp [knownZ_enc hk]
  rw [ev_call, evL_cons, evL_cons, evL_cons, evL_nil, e1, e2]
  simp only [ev_var, List.getElem?_cons_zero, List.getElem?_cons_succ, R.ok_bind]
  exact r_count' h.toHO2 hk (by simpa using hL) (range_sub8 hn)
theorem r_count_ordersA (h : HO3a ds) (L : Nat) {ps : List Pn} (g : Good8 ps) (hL : 12 ≤ L) : Tb ds (L + 1) "count_orders" [enc (Tu.mk ps)] = .ok (.int ((ordP ps).length : Nat)) := by
  have hl := g.len
  obtain ⟨K, rfl⟩ : ∃ K, L = K + 11 + 1 := ⟨L - 12, by omega⟩
  refine go_run h.count_orders rfl ?_
  refine go_expr .none (by simp [r_check_page h.toHP (K + 8) ps g.len g.ok g.ap]) ?_
  refine go_ret _ ?_ rfl
  have e1 := r_find_pairs h.toHQ (K + 9) (ps := ps) hl
  have e2 := r_find_number h.toHO3m (prs_8 hl) (K + 11) hl (by omega)
  simp [e1, e2]
  rfl
theorem r_count_orders (h : HO3 ds) (L : Nat) {ps : List Pn} (g : Good8 ps) (hL : 12 ≤ L) : Tb ds (L + 1) "count_orders" [enc (Tu.mk ps)] = .ok (.int ((ordP ps).length : Nat)) := r_count_ordersA h.toHO3a L g hL
theorem r_is_sureM (h : HO3m ds) (his : findD ds "is_sure" = some d_is_sure) (L : Nat) {ps : List Pn} (g : Good8 ps) (hL : 12 ≤ L) : Tb ds (L + 1) "is_sure" [enc (Tu.mk ps)] = .ok (.bool (decide ((ordP ps).length = 1))) := by
  have hl := g.len
  obtain ⟨K, rfl⟩ : ∃ K, L = K + 11 + 1 := ⟨L - 12, by omega⟩
  refine go_run his rfl ?_
  refine go_expr .none (by simp [r_check_page h.toHP (K + 8) ps g.len g.ok g.ap]) ?_
  refine go_ret _ ?_ rfl
  have e1 := r_find_pairs h.toHQ (K + 9) (ps := ps) hl
  have e2 := r_find_number h (prs_8 hl) (K + 11) hl (by omega)
  simp [e1, e2]
  unfold ordP
  omega
theorem r_is_sure (h : HO3 ds) (L : Nat) {ps : List Pn} (g : Good8 ps) (hL : 12 ≤ L) : Tb ds (L + 1) "is_sure" [enc (Tu.mk ps)] = .ok (.bool (decide ((ordP ps).length = 1))) := r_is_sureM h.toHO3m h.is_sure L g hL
theorem r_first_orderM (h : HO3m ds) (L : Nat) {ps : List Pn} (g : Good8 ps) (hL : 5 ≤ L) : Tb ds (L + 1) "first_order" [enc (Tu.mk ps)] = .ok (enc (Tu.mk (fst (prs ps) ps.length (List.range ps.length)))) := by
  have hl := g.len
  obtain ⟨K, rfl⟩ : ∃ K, L = K + 5 := ⟨L - 5, by omega⟩
  refine go_run h.first_order rfl ?_
  simp only [d_first_order, List.map_cons, List.map_nil, List.length_cons, List.length_nil, Nat.reduceAdd, Nat.reduceSub, List.reduceReplicate, List.cons_append, List.nil_append]
  refine go_expr .none (by simp [r_check_page h.toHP (K + 1) ps g.len g.ok g.ap]) ?_
  have e0 : ev (Tb ds (K + 5)) (.trg .nil (.bi .len (.cons (.var 0) .nil))) [.val (enc (Tu.mk ps)), .no, .no, .no, .no, .no] = .ok (enc (Tu.mk (List.range ps.length))) := ev_trg0 (by simp) (by omega)
  refine go_tp [enc (prs ps), enc (Tu.mk (List.range ps.length)), enc (Tu.mk ([] : List Nat))] (by
    rw [ev_tup, evL_cons, evL_cons, evL_cons, evL_nil, e0]
    simp [r_find_pairs h.toHQ (K + 2) (ps := ps) hl, big]
    rfl) rfl ?_
  simp only [setAll, List.set_cons_succ, List.set_cons_zero]
  have et : ∀ zs : List Nat, eqD (enc (Tu.mk zs)) (.tuple []) = .ok (decide (zs = [])) := fun zs => by
    have h := eqD_enc (α := Tu Nat) (by decide) (Tu.mk zs) (Tu.mk [])
    rw [show (enc (Tu.mk ([] : List Nat)) : D) = .tuple [] from rfl] at h
    rw [h]; congr 1; simp
  refine go_while (fun m ρ => ∃ left found x4 x5, left.length = m ∧ left.Sublist (List.range ps.length) ∧ found.length + m = ps.length ∧ found ++ fst (prs ps) m left = fst (prs ps) ps.length (List.range ps.length) ∧ ρ = [.val (enc (Tu.mk ps)), .val (enc (prs ps)), .val (enc (Tu.mk left)), .val (enc (Tu.mk found)), x4, x5])
    ?_ ?_ ps.length 64 _ (by omega) ⟨List.range ps.length, [], _, _, by simp, List.Sublist.refl _, by simp, rfl, rfl⟩
  · rintro m ρ ⟨left, found, x4, x5, h1, h2, h3, h4, rfl⟩
    have hne : left ≠ [] := fun e => by rw [e] at h1; cases h1
    have nd : left.Nodup := List.nodup_range.sublist h2
    refine ⟨by rw [ev_cmp, ev_tup0]; simp [et, hne], ?_⟩
    have e1 := r_next h.next_ones (K + 4) left (prs ps)
    cases en : nxt (prs ps) left with
    | nil => exact (live_page g left h2 hne en).elim
    | cons x l =>
      have hx : x ∈ left := (nxt_sub _ left).subset (by rw [en]; exact List.mem_cons_self)
      have hd := dl_length nd hx
      refine go_asg (.int (x : Nat)) (by
        rw [ev_idx, ev_call, evL_cons, evL_cons, evL_nil]
        simp only [ev_var, List.getElem?_cons_zero, List.getElem?_cons_succ, R.ok_bind, e1, en, ev_int]
        rw [ix_enc (x := x) (by decide) rfl]
        rfl) ?_
      refine go_asg (enc (Tu.mk (found ++ [x]))) (by
        have := tu_app found [x] (by simp; omega)
        have t3 : (PyData.tuple [.int (x : Nat)] : D) = enc (Tu.mk [x]) := rfl
        simp [big, t3, this]) ?_
      simp only [List.set_cons_succ, List.set_cons_zero]
      refine go_asg (enc (Tu.mk (dl left x))) (ev_dl rfl rfl (by decide) (by simp)) (go_skip ⟨rfl, dl left x, found ++ [x], _, _, by omega, (dl_sub left x).trans h2, by simp; omega, ?_, rfl⟩)
      rw [← h4, fst, en]
      simp
  · rintro ρ ⟨left, found, x4, x5, h1, h2, h3, h4, rfl⟩
    have : left = [] := List.length_eq_zero_iff.mp h1
    subst this
    refine ⟨by rw [ev_cmp, ev_tup0]; simp [et], ?_⟩
    rw [← h4]
    exact go_ret _ (by simp [fst]) rfl
theorem r_first_orderA (h : HO3a ds) (L : Nat) {ps : List Pn} (g : Good8 ps) (hL : 5 ≤ L) : Tb ds (L + 1) "first_order" [enc (Tu.mk ps)] = .ok (enc (Tu.mk (fst (prs ps) ps.length (List.range ps.length)))) := r_first_orderM h.toHO3m L g hL
theorem r_first_order (h : HO3 ds) (L : Nat) {ps : List Pn} (g : Good8 ps) (hL : 5 ≤ L) : Tb ds (L + 1) "first_order" [enc (Tu.mk ps)] = .ok (enc (Tu.mk (fst (prs ps) ps.length (List.range ps.length)))) := r_first_orderA h.toHO3a L g hL
end
end Pi

set_option Elab.async false
set_option linter.all false
set_option maxRecDepth 100000
set_option maxHeartbeats 4000000
/-! O4: orders.py: which are orders. -/
namespace Pi
open PySem PySem.Spec PyProof.Rows L2
open Enc (enc)
structure HO4 (ds : List Df) : Prop extends HO3 ds where
  check_number : findD ds "check_number" = some d_check_number
  has_order : findD ds "has_order" = some d_has_order
  keeps_pairs : findD ds "keeps_pairs" = some d_keeps_pairs
  fits : findD ds "fits" = some d_fits
  is_order : findD ds "is_order" = some d_is_order
  can_read : findD ds "can_read" = some d_can_read
  order_at : findD ds "order_at" = some d_order_at
  check_order : findD ds "check_order" = some d_check_order
  rank_of : findD ds "rank_of" = some d_rank_of
structure HO4m (ds : List Df) : Prop extends HQ ds where
  has_order : findD ds "has_order" = some d_has_order
  keeps_pairs : findD ds "keeps_pairs" = some d_keeps_pairs
  fits : findD ds "fits" = some d_fits
  can_read : findD ds "can_read" = some d_can_read
theorem HO4.m {ds : List Df} (h : HO4 ds) : HO4m ds := { toHQ := h.toHQ, has_order := h.has_order, keeps_pairs := h.keeps_pairs, fits := h.fits, can_read := h.can_read }
theorem zl_inj {a b : List Nat} (h : zl a = zl b) : a = b := by
  unfold zl at h
  exact (List.map_inj_right fun x y e => by omega).mp h
theorem zl_sorted (n : Nat) : (zl (List.range n)).Pairwise (· ≤ ·) := by
  unfold zl
  rw [List.pairwise_map]
  exact List.pairwise_lt_range.imp fun h => by omega
theorem sort_perm {s : List Nat} {n : Nat} : sortI (zl s) = zl (List.range n) ↔ s.Perm (List.range n) := by
  constructor
  · intro e
    have h1 := sortI_perm (zl s)
    rw [e] at h1
    have h2 : (s.map fun (n : Nat) => (n : Int)).Perm ((List.range n).map fun (n : Nat) => (n : Int)) := h1.symm
    have h3 := h2.map Int.toNat
    simpa [List.map_map, Function.comp_def] using h3
  · intro h
    refine sorted_uniq ((sortI_perm _).trans (h.map _)) (sortI_sorted _) (zl_sorted n)
def kpB (kn : List (Nat × Nat)) (s : List Nat) : Bool := kn.all fun p => decide (s.idxOf p.1 < s.idxOf p.2)
theorem idx_tu {s : List Nat} {i : Nat} (h : i ∈ s) : indexD (enc (Tu.mk s)) (.int (i : Nat)) = .ok (.int (s.idxOf i : Nat)) := by
  show indexD (.tuple (s.map enc)) (.int (i : Nat)) = _
  have hf : (s.map (enc (α := Nat))).all flatD = true := by
    rw [List.all_eq_true]
    intro z hz
    obtain ⟨x, _, rfl⟩ := List.mem_map.mp hz
    rfl
  have hi : (s.map (enc (α := Nat))).findIdx? (fun z => PyData.eqv z (.int (i : Nat))) = some (s.idxOf i) := by
    rw [List.findIdx?_map]
    have : ((fun z => PyData.eqv z (.int (i : Nat))) ∘ enc (α := Nat)) = fun x => x == i := by
      funext x
      rw [Bool.eq_iff_iff, beq_iff_eq]
      exact Enc.eqv x i
    rw [this]
    induction s with
    | nil => cases h
    | cons x s ih =>
      rw [List.findIdx?_cons]
      by_cases c : x = i
      · subst c; simp
      · rw [idx_ne _ c]
        have hm : i ∈ s := by
          rcases List.mem_cons.mp h with e | e
          · exact (c e.symm).elim
          · exact e
        rw [if_neg (by simpa using c), ih hm (by
          rw [List.all_eq_true]
          intro z hz
          obtain ⟨x, _, rfl⟩ := List.mem_map.mp hz
          rfl)]
        rfl
  show (if flatD (.int (i : Nat)) && (s.map (enc (α := Nat))).all flatD then (match (s.map (enc (α := Nat))).findIdx? (fun z => PyData.eqv z (.int (i : Nat))) with | some j => R.ok (PyData.int j) | none => .bad) else .bad) = _
  rw [hf, hi]
  rfl
section
variable {ds : List Df}
/-- numbers in range: an order exactly if sorted it is the range -/
theorem r_has_orderM (h : HO4m ds) (L : Nat) {n : Nat} (hn : n ≤ 8) {s : List Nat} (hs : ∀ j ∈ s, j < n) (hl : s.length ≤ 20) : Tb ds (L + 2) "has_order" [.int (n : Nat), enc (Tu.mk s)] = .ok (.bool (decide (sortI (zl s) = zl (List.range n)))) := by
  refine go_run h.has_order rfl ?_
  simp only [d_has_order, List.map_cons, List.map_nil, List.length_cons, List.length_nil, Nat.reduceAdd, Nat.reduceSub, List.reduceReplicate, List.cons_append, List.nil_append]
  have hi : ∀ j ∈ s, Tb ds (L + 1) "is_int" [.int (j : Nat), .int 0, .int ((n : Int) - 1)] = .ok (.bool true) := fun j hj => by
    rw [r_is_int h.is_int L _ _ _ rfl]
    have := hs j hj
    have e : isInt (.int (j : Nat)) 0 ((n : Int) - 1) = true := by simp [isInt]; omega
    rw [e]
  have ca : ev (Tb ds (L + 1)) (.bi .all (.cons (.comp [("number", 2)] (.nm 2) (.iter (.var 1)) .yes (.call "is_int" (.cons (.var 2) (.cons (.int 0) (.cons (.bin .sub (.var 0) (.int 1)) .nil))))) .nil)) [.val (.int (n : Nat)), .val (enc (Tu.mk s)), .no] = .ok (.bool (s.all fun _ => true)) :=
    ev_allc (map_comp _ (it_tu (by simp)) fun j hj => ⟨_, rfl, by simp [enc_nat, hi j hj, enc_bool]⟩)
  have hat : (s.all fun _ => true) = true := by simp
  refine go_no (by
    rw [ev_or, evO_cons, evO_one, ev_not, ev_not, ca]
    simp [hat]
    rfl) ?_
  have es : ev (Tb ds (L + 1)) (.bi .sorted (.cons (.var 1) .nil)) [.val (.int (n : Nat)), .val (enc (Tu.mk s)), .no] = .ok (enc (sortI (zl s))) := by
    rw [ev_bi, evL_cons, evL_nil, ev_var]
    show nx (biD .sorted [.tuple (s.map enc)]) = _
    have : biD .sorted [.tuple (s.map enc)] = match asInts (s.map (enc (α := Nat))) with | some ns => if Nat.ble ns.length 60 then .ok (.list ((sortI ns).map PyData.int)) else .bad | none => .bad := rfl
    rw [this, asInts_enc]
    simp only
    rw [if_pos (Nat.ble_eq.mpr (by unfold zl; rw [List.length_map]; omega))]
    rfl
  have er : ev (Tb ds (L + 1)) (.lrg .nil (.var 0)) [.val (.int (n : Nat)), .val (enc (Tu.mk s)), .no] = .ok (enc (zl (List.range n))) := by
    rw [lrg0 (n := n) (by simp) (by omega)]
    show R.ok (PyData.list _) = R.ok (PyData.list _)
    unfold zl
    rw [List.map_map]
    rfl
  exact go_ret _ (eq_enc (α := List Int) _ _ (by decide) es er) rfl
theorem r_has_order (h : HO4 ds) (L : Nat) {n : Nat} (hn : n ≤ 8) {s : List Nat} (hs : ∀ j ∈ s, j < n) (hl : s.length ≤ 20) : Tb ds (L + 2) "has_order" [.int (n : Nat), enc (Tu.mk s)] = .ok (.bool (decide (sortI (zl s) = zl (List.range n)))) := r_has_orderM h.m L hn hs hl
theorem r_keepsM (h : HO4m ds) (L : Nat) {kn : List (Nat × Nat)} {s : List Nat} (hs : ∀ p ∈ kn, p.1 ∈ s ∧ p.2 ∈ s) : Tb ds (L + 1) "keeps_pairs" [enc (Tu.mk s), enc kn] = .ok (.bool (kpB kn s)) := by
  refine go_run h.keeps_pairs rfl ?_
  simp only [d_keeps_pairs, List.map_cons, List.map_nil, List.length_cons, List.length_nil, Nat.reduceAdd, Nat.reduceSub, List.reduceReplicate, List.cons_append, List.nil_append]
  refine go_ret _ ?_ rfl
  refine ev_allc (map_comp (α := Nat × Nat) _ (it_enc (by simp)) fun p hp => ⟨_, pn_pair p.1 p.2 _ 2 3, ?_⟩)
  obtain ⟨h1, h2⟩ := hs p hp
  have q : isSeqD (enc (Tu.mk s)) = true := rfl
  simp [idx_tu h1, idx_tu h2, q, enc_bool]
theorem r_keeps (h : HO4 ds) (L : Nat) {kn : List (Nat × Nat)} {s : List Nat} (hs : ∀ p ∈ kn, p.1 ∈ s ∧ p.2 ∈ s) : Tb ds (L + 1) "keeps_pairs" [enc (Tu.mk s), enc kn] = .ok (.bool (kpB kn s)) := r_keepsM h.m L hs
theorem r_fitsM (h : HO4m ds) (L : Nat) {ps : List Pn} (hl : ps.length ≤ 8) {s : List Nat} (hp : s.Perm (List.range ps.length)) : Tb ds (L + 4) "fits" [enc (Tu.mk ps), enc (Tu.mk s)] = .ok (.bool (kpB (prs ps) s)) := by
  have hlen : s.length = ps.length := by rw [hp.length_eq, List.length_range]
  have hm : ∀ j, j ∈ s ↔ j < ps.length := fun j => by rw [hp.mem_iff, List.mem_range]
  refine go_run h.fits rfl ?_
  refine go_ret _ ?_ rfl
  have e1 := r_has_orderM h (L + 1) hl (s := s) (fun j hj => (hm j).mp hj) (by omega)
  rw [decide_eq_true (sort_perm.mpr hp)] at e1
  have e2 := r_find_pairs h.toHQ L (ps := ps) hl
  have e3 := r_keepsM h (L + 2) (kn := prs ps) (s := s) fun p hq => ⟨(hm _).mpr (prs_lt p hq).1, (hm _).mpr (prs_lt p hq).2⟩
  simp [e1, e2, e3]
theorem r_fits (h : HO4 ds) (L : Nat) {ps : List Pn} (hl : ps.length ≤ 8) {s : List Nat} (hp : s.Perm (List.range ps.length)) : Tb ds (L + 4) "fits" [enc (Tu.mk ps), enc (Tu.mk s)] = .ok (.bool (kpB (prs ps) s)) := r_fitsM h.m L hl hp
theorem mem_ordP {ps : List Pn} {s : List Nat} : s ∈ ordP ps ↔ s.Perm (List.range ps.length) ∧ kpB (prs ps) s = true := by
  unfold ordP
  rw [mem_ords ps.length (by simp) List.nodup_range]
  refine and_congr_right fun _ => ?_
  unfold Kp kpB
  rw [List.all_eq_true]
  constructor
  · intro h p hp
    exact decide_eq_true (h p hp (List.mem_range.mpr (prs_lt p hp).1) (List.mem_range.mpr (prs_lt p hp).2))
  · intro h p hp _ _
    exact of_decide_eq_true (h p hp)
theorem r_is_order (h : HO4 ds) (L : Nat) {ps : List Pn} (g : Good8 ps) {s : List Nat} (hp : s.Perm (List.range ps.length)) : Tb ds (L + 5) "is_order" [enc (Tu.mk ps), enc (Tu.mk s)] = .ok (.bool true) := by
  have hlen : s.length = ps.length := by rw [hp.length_eq, List.length_range]
  have hl := g.len
  refine go_run h.is_order rfl ?_
  refine go_expr .none (by simp [r_check_page h.toHP L ps g.len g.ok g.ap]) ?_
  have e1 := r_has_order h (L + 2) hl (s := s) (fun j hj => List.mem_range.mp (hp.mem_iff.mp hj)) (by omega)
  rw [decide_eq_true (sort_perm.mpr hp)] at e1
  exact go_ret _ (by simp [e1]) rfl
theorem r_can_readM (h : HO4m ds) (L : Nat) {ps : List Pn} (g : Good8 ps) {s : List Nat} (hp : s.Perm (List.range ps.length)) : Tb ds (L + 5) "can_read" [enc (Tu.mk ps), enc (Tu.mk s)] = .ok (.bool (kpB (prs ps) s)) := by
  refine go_run h.can_read rfl ?_
  refine go_expr .none (by simp [r_check_page h.toHP L ps g.len g.ok g.ap]) ?_
  exact go_ret _ (by simp [r_fitsM h L g.len hp]) rfl
theorem r_can_read (h : HO4 ds) (L : Nat) {ps : List Pn} (g : Good8 ps) {s : List Nat} (hp : s.Perm (List.range ps.length)) : Tb ds (L + 5) "can_read" [enc (Tu.mk ps), enc (Tu.mk s)] = .ok (.bool (kpB (prs ps) s)) := r_can_readM h.m L g hp
theorem r_check_order (h : HO4 ds) (L : Nat) {ps : List Pn} (g : Good8 ps) {s : List Nat} (hp : s.Perm (List.range ps.length)) : Tb ds (L + 5) "check_order" [enc (Tu.mk ps), enc (Tu.mk s)] = if kpB (prs ps) s then .ok .none else .exc 3 := by
  rw [Tb_run h.check_order rfl, runD_eq]
  have e1 := r_check_page h.toHP L ps g.len g.ok g.ap
  have e2 := r_fits h L g.len hp
  cases hb : kpB (prs ps) s <;> rw [hb] at e2 <;> simp [d_check_order, e1, e2]
end
end Pi

set_option Elab.async false
set_option linter.all false
set_option maxRecDepth 100000
set_option maxHeartbeats 4000000
/-! O7: orders: no repeats; only one; reversed; one panel more. -/
namespace Pi
theorem pw_flatMap {α β : Type} {R : α → α → Prop} {Q : β → β → Prop} {f : α → List β} : ∀ {l : List α}, l.Pairwise R → (∀ x ∈ l, (f x).Pairwise Q) → (∀ x y, R x y → ∀ a ∈ f x, ∀ b ∈ f y, Q a b) → (l.flatMap f).Pairwise Q
  | [], _, _, _ => .nil
  | x :: l, h, h1, h2 => by
    obtain ⟨a1, a2⟩ := List.pairwise_cons.mp h
    rw [List.flatMap_cons, List.pairwise_append]
    refine ⟨h1 x List.mem_cons_self, pw_flatMap a2 (fun y hy => h1 y (List.mem_cons_of_mem _ hy)) h2, fun a ha b hb => ?_⟩
    obtain ⟨y, hy, hb⟩ := List.mem_flatMap.mp hb
    exact h2 x y (a1 y hy) a ha b hb
/-- before, as words in a dictionary -/
def lexN : List Nat → List Nat → Prop
  | _, [] => False
  | [], _ :: _ => True
  | x :: a, y :: b => x < y ∨ (x = y ∧ lexN a b)
theorem lexN_irr : ∀ a : List Nat, ¬ lexN a a
  | [] => fun h => h
  | x :: a => fun h => by
    rcases h with h | ⟨_, h⟩
    · omega
    · exact lexN_irr a h
theorem lexN_asymm : ∀ {a b : List Nat}, lexN a b → ¬ lexN b a
  | a, [], h, _ => by cases a <;> exact h
  | [], _ :: _, _, h => h
  | x :: a, y :: b, h, h' => by
    rcases h with h | ⟨e, h⟩
    · rcases h' with h' | ⟨e', _⟩ <;> omega
    · rcases h' with h' | ⟨_, h'⟩
      · omega
      · exact lexN_asymm h h'
theorem ords_lex {kn : List (Nat × Nat)} : ∀ (m : Nat) {left : List Nat}, left.length = m → left.Pairwise (· < ·) → (ords kn left).Pairwise lexN
  | 0, left, hl, _ => by
    have : left = [] := List.length_eq_zero_iff.mp hl
    subst this
    rw [ords_nil]
    simp
  | m + 1, left, hl, st => by
    have nd : left.Nodup := st.imp fun h => Nat.ne_of_lt h
    have hne : left ≠ [] := fun e => by rw [e] at hl; cases hl
    rw [ords_cons nd hne]
    refine pw_flatMap (st.sublist (nxt_sub kn left)) (fun x hx => ?_) fun x y hxy a ha b hb => ?_
    · have hd := dl_length nd ((nxt_sub kn left).subset hx)
      rw [List.pairwise_map]
      exact (ords_lex m (by omega) (st.sublist (dl_sub left x))).imp fun {a b} h => .inr ⟨rfl, h⟩
    · obtain ⟨a', _, rfl⟩ := List.mem_map.mp ha
      obtain ⟨b', _, rfl⟩ := List.mem_map.mp hb
      exact .inl hxy
theorem ords_nd {kn : List (Nat × Nat)} {left : List Nat} (st : left.Pairwise (· < ·)) : (ords kn left).Nodup :=
  (ords_lex left.length rfl st).imp fun {a b} h e => by subst e; exact lexN_irr a h
/-! ### reversed -/
def swp (p : Nat × Nat) : Nat × Nat := (p.2, p.1)
theorem idx_rev {s : List Nat} (nd : s.Nodup) {i : Nat} (h : i ∈ s) : s.reverse.idxOf i + s.idxOf i + 1 = s.length := by
  have h1 : s.idxOf i < s.length := List.idxOf_lt_length_of_mem h
  have h2 : s.reverse.idxOf i < s.reverse.length := List.idxOf_lt_length_of_mem (List.mem_reverse.mpr h)
  have g1 : s[s.idxOf i] = i := List.getElem_idxOf h1
  have g2 : s.reverse[s.reverse.idxOf i] = i := List.getElem_idxOf h2
  rw [List.getElem_reverse] at g2
  rw [List.length_reverse] at h2
  have key := List.pairwise_iff_getElem.mp nd
  have : s.idxOf i = s.length - 1 - s.reverse.idxOf i := by
    apply Classical.byContradiction
    intro hne
    rcases Nat.lt_or_gt_of_ne hne with c | c
    · exact key _ _ h1 (by omega) c (g1.trans g2.symm)
    · exact key _ _ (by omega) h1 c (g2.trans g1.symm)
  omega
theorem rev_mem {kn kn' : List (Nat × Nat)} {left s : List Nat} (nd : left.Nodup) (hk : ∀ p, p ∈ kn' ↔ swp p ∈ kn) (h : s ∈ ords kn left) : s.reverse ∈ ords kn' left := by
  obtain ⟨h1, h2⟩ := (mem_ords left.length rfl nd).mp h
  have snd : s.Nodup := h1.nodup_iff.mpr nd
  refine (mem_ords left.length rfl nd).mpr ⟨(List.reverse_perm s).trans h1, fun p hp p1 p2 => ?_⟩
  have h3 := h2 (swp p) ((hk p).mp hp) p2 p1
  have e1 := idx_rev snd (h1.mem_iff.mpr p1)
  have e2 := idx_rev snd (h1.mem_iff.mpr p2)
  have h4 : s.idxOf p.2 < s.idxOf p.1 := h3
  omega
theorem rev_len {kn kn' : List (Nat × Nat)} {left : List Nat} (st : left.Pairwise (· < ·)) (hk : ∀ p, p ∈ kn' ↔ swp p ∈ kn) : (ords kn' left).length = (ords kn left).length := by
  have nd : left.Nodup := st.imp fun h => Nat.ne_of_lt h
  have hk' : ∀ p, p ∈ kn ↔ swp p ∈ kn' := fun p => by rw [hk (swp p)]; exact Iff.rfl
  have rv : ∀ {l : List (List Nat)}, l.Nodup → (l.map List.reverse).Nodup := fun {l} h => by
    rw [List.Nodup, List.pairwise_map]
    exact h.imp fun {a b} hab e => hab (by have := congrArg List.reverse e; simpa using this)
  have h1 := nodup_sub_len (rv (ords_nd (kn := kn) st)) (m := ords kn' left) fun x hx => by
    obtain ⟨s, hs, rfl⟩ := List.mem_map.mp hx
    exact rev_mem nd hk hs
  have h2 := nodup_sub_len (rv (ords_nd (kn := kn') st)) (m := ords kn left) fun x hx => by
    obtain ⟨s, hs, rfl⟩ := List.mem_map.mp hx
    exact rev_mem nd hk' hs
  rw [List.length_map] at h1 h2
  omega
end Pi

set_option Elab.async false
set_option linter.all false
set_option maxRecDepth 100000
set_option maxHeartbeats 4000000
/-! O8: only one order; one panel fewer. -/
namespace Pi
/-- the later ones stand later -/
def Pw (kn : List (Nat × Nat)) (s : List Nat) : Prop := s.Pairwise fun a b => (b, a) ∉ kn
theorem idx_at {s : List Nat} (nd : s.Nodup) {i : Nat} (h : i < s.length) : s.idxOf s[i] = i := by
  have h1 : s.idxOf s[i] < s.length := List.idxOf_lt_length_of_mem (List.getElem_mem h)
  have g1 : s[s.idxOf s[i]] = s[i] := List.getElem_idxOf h1
  have key := List.pairwise_iff_getElem.mp nd
  apply Classical.byContradiction
  intro hne
  rcases Nat.lt_or_gt_of_ne hne with c | c
  · exact key _ _ h1 h c g1
  · exact key _ _ h h1 c g1.symm
theorem kp_pw {kn : List (Nat × Nat)} (irr : ∀ p ∈ kn, p.1 ≠ p.2) {left s : List Nat} (hp : s.Perm left) (nd : left.Nodup) : Kp kn left s ↔ Pw kn s := by
  have snd : s.Nodup := hp.nodup_iff.mpr nd
  constructor
  · intro h
    refine List.pairwise_iff_getElem.mpr fun i j hi hj hij hm => ?_
    have := h _ hm (hp.mem_iff.mp (List.getElem_mem hj)) (hp.mem_iff.mp (List.getElem_mem hi))
    simp only [idx_at snd] at this
    omega
  · intro h p hm p1 p2
    have m1 := hp.mem_iff.mpr p1
    have m2 := hp.mem_iff.mpr p2
    have l1 : s.idxOf p.1 < s.length := List.idxOf_lt_length_of_mem m1
    have l2 : s.idxOf p.2 < s.length := List.idxOf_lt_length_of_mem m2
    have g1 : s[s.idxOf p.1] = p.1 := List.getElem_idxOf l1
    have g2 : s[s.idxOf p.2] = p.2 := List.getElem_idxOf l2
    apply Classical.byContradiction
    intro hne
    rcases Nat.lt_or_eq_of_le (Nat.le_of_not_lt hne) with c | c
    · have := List.pairwise_iff_getElem.mp h _ _ l2 l1 c
      rw [g1, g2] at this
      exact this hm
    · refine irr p hm ?_
      rw [← g1, ← g2]
      simp only [c]
theorem mem_pw {kn : List (Nat × Nat)} (irr : ∀ p ∈ kn, p.1 ≠ p.2) {left s : List Nat} (nd : left.Nodup) : s ∈ ords kn left ↔ s.Perm left ∧ Pw kn s := by
  rw [mem_ords left.length rfl nd]
  constructor
  · exact fun h => ⟨h.1, (kp_pw irr h.1 nd).mp h.2⟩
  · exact fun h => ⟨h.1, (kp_pw irr h.1 nd).mpr h.2⟩
/-- each right after the one before it -/
def Chn (kn : List (Nat × Nat)) : List Nat → Prop
  | x :: y :: l => (x, y) ∈ kn ∧ Chn kn (y :: l)
  | _ => True
theorem chn_prev {kn : List (Nat × Nat)} : ∀ {x : Nat} {l : List Nat}, Chn kn (x :: l) → ∀ y ∈ l, ∃ z ∈ x :: l, (z, y) ∈ kn
  | x, [], _, y, h => by cases h
  | x, z :: l, h, y, hy => by
    rcases List.mem_cons.mp hy with rfl | hy
    · exact ⟨x, List.mem_cons_self, h.1⟩
    · obtain ⟨w, hw, hk⟩ := chn_prev h.2 y hy
      exact ⟨w, List.mem_cons_of_mem _ hw, hk⟩
theorem chn_tail {kn : List (Nat × Nat)} {x : Nat} : ∀ {l : List Nat}, Chn kn (x :: l) → Chn kn l
  | [], _ => trivial
  | _ :: _, h => h.2
theorem chn_one {kn : List (Nat × Nat)} (irr : ∀ p ∈ kn, p.1 ≠ p.2) : ∀ {f left : List Nat}, f ∈ ords kn left → left.Nodup → Chn kn f → ∀ s ∈ ords kn left, s = f
  | [], left, hf, nd, _, s, hs => by
    have h1 := ((mem_pw irr nd).mp hf).1
    have h2 := ((mem_pw irr nd).mp hs).1
    exact List.length_eq_zero_iff.mp (by rw [h2.length_eq, ← h1.length_eq]; rfl)
  | x :: f, left, hf, nd, hc, s, hs => by
    have h1 := ((mem_pw irr nd).mp hf).1
    have hx : x ∈ left := h1.mem_iff.mp List.mem_cons_self
    have hne : left ≠ [] := fun e => by rw [e] at hx; cases hx
    rw [ords_cons nd hne] at hf hs
    obtain ⟨y, hy, hs⟩ := List.mem_flatMap.mp hs
    obtain ⟨s', hs', rfl⟩ := List.mem_map.mp hs
    obtain ⟨z, hz, hf⟩ := List.mem_flatMap.mp hf
    obtain ⟨f', hf', e⟩ := List.mem_map.mp hf
    cases e
    obtain ⟨y1, y2⟩ := mem_nxt.mp hy
    have : y = x := by
      apply Classical.byContradiction
      intro hyx
      have hyf : y ∈ f := by
        rcases List.mem_cons.mp (h1.mem_iff.mpr y1) with e | e
        · exact (hyx e).elim
        · exact e
      obtain ⟨w, hw, hk⟩ := chn_prev hc y hyf
      exact y2 _ hk (h1.mem_iff.mp hw) rfl
    subst this
    rw [chn_one irr hf' ((dl_sub left y).nodup nd) (chn_tail hc) s' hs']
theorem one_chn {kn : List (Nat × Nat)} (irr : ∀ p ∈ kn, p.1 ≠ p.2) {left : List Nat} (nd : left.Nodup) {a b : List Nat} {x y : Nat} (hf : a ++ x :: y :: b ∈ ords kn left) (hn : (x, y) ∉ kn) : a ++ y :: x :: b ∈ ords kn left := by
  obtain ⟨h1, h2⟩ := (mem_pw irr nd).mp hf
  refine (mem_pw irr nd).mpr ⟨((List.Perm.swap x y b).append_left a).trans h1, ?_⟩
  unfold Pw at *
  simp only [List.pairwise_append, List.pairwise_cons, List.mem_cons] at h2 ⊢
  obtain ⟨p1, ⟨p2, p3, p4⟩, p5⟩ := h2
  refine ⟨p1, ⟨fun z hz => ?_, fun z hz => p2 z (.inr hz), p4⟩, fun z hz w hw => p5 z hz w ?_⟩
  · rcases hz with rfl | hz
    · exact hn
    · exact p3 z hz
  · rcases hw with rfl | rfl | hw
    · exact .inr (.inl rfl)
    · exact .inl rfl
    · exact .inr (.inr hw)
theorem chn_or {kn : List (Nat × Nat)} : ∀ l : List Nat, Chn kn l ∨ ∃ a x y b, l = a ++ x :: y :: b ∧ (x, y) ∉ kn
  | [] => .inl trivial
  | [x] => .inl trivial
  | x :: y :: l => by
    by_cases h : (x, y) ∈ kn
    · rcases chn_or (kn := kn) (y :: l) with c | ⟨a, u, v, b, e, hn⟩
      · exact .inl ⟨h, c⟩
      · exact .inr ⟨x :: a, u, v, b, by rw [e]; rfl, hn⟩
    · exact .inr ⟨[], x, y, l, rfl, h⟩
theorem one_iff {kn : List (Nat × Nat)} (irr : ∀ p ∈ kn, p.1 ≠ p.2) {left : List Nat} (st : left.Pairwise (· < ·)) {f : List Nat} (hf : f ∈ ords kn left) : (ords kn left).length = 1 ↔ Chn kn f := by
  have nd : left.Nodup := st.imp fun h => Nat.ne_of_lt h
  constructor
  · intro h
    rcases chn_or (kn := kn) f with c | ⟨a, x, y, b, rfl, hn⟩
    · exact c
    · have h2 := one_chn irr nd hf hn
      obtain ⟨o, e⟩ := List.length_eq_one_iff.mp h
      rw [e] at hf h2
      have e1 := List.mem_singleton.mp hf
      have e2 := List.mem_singleton.mp h2
      rw [← e1] at e2
      have e3 := List.append_cancel_left e2
      have : y = x := (List.cons.inj e3).1
      have snd : (a ++ x :: y :: b).Nodup := (((mem_pw irr nd).mp (by rw [e]; exact hf)).1).nodup_iff.mpr nd
      rw [this] at snd
      exact ((List.nodup_cons.mp (List.nodup_append.mp snd).2.1).1 List.mem_cons_self).elim
  · intro h
    have h1 := chn_one irr hf nd h
    have h2 := nodup_sub_len (ords_nd (kn := kn) st) (m := [f]) fun s hs => List.mem_singleton.mpr (h1 s hs)
    have h3 : 0 < (ords kn left).length := List.length_pos_of_mem hf
    simp only [List.length_singleton] at h2
    omega
/-- one panel fewer -/
theorem fewer {kn kn' : List (Nat × Nat)} (irr : ∀ p ∈ kn, p.1 ≠ p.2) (hk : ∀ p ∈ kn', p ∈ kn) (n : Nat) : (ords kn (List.range (n + 1))).length ≤ (n + 1) * (ords kn' (List.range n)).length := by
  have h := nodup_sub_len (ords_nd (kn := kn) List.pairwise_lt_range) (m := (ords kn' (List.range n)).flatMap fun s => (List.range (n + 1)).map fun k => s.take k ++ n :: s.drop k) fun s hs => by
    obtain ⟨h1, h2⟩ := (mem_pw irr List.nodup_range).mp hs
    have hn : n ∈ s := h1.mem_iff.mpr (List.mem_range.mpr (Nat.lt_succ_self n))
    obtain ⟨a, b, rfl⟩ := List.append_of_mem hn
    have h3 : (a ++ b).Perm (List.range n) := by
      have : (n :: (a ++ b)).Perm (n :: List.range n) := by
        refine (List.perm_middle.symm.trans h1).trans ?_
        rw [List.range_succ]
        exact List.perm_append_singleton n _
      exact this.cons_inv
    refine List.mem_flatMap.mpr ⟨a ++ b, (mem_pw (fun p hp => irr p (hk p hp)) List.nodup_range).mpr ⟨h3, ?_⟩, List.mem_map.mpr ⟨a.length, ?_, ?_⟩⟩
    · have : (a ++ b).Sublist (a ++ n :: b) := (List.Sublist.refl a).append (List.sublist_cons_self n b)
      exact (h2.sublist this).imp fun h z => h (hk _ z)
    · have := h1.length_eq
      simp only [List.length_append, List.length_cons, List.length_range] at this
      exact List.mem_range.mpr (by omega)
    · simp
  rw [List.length_flatMap] at h
  simp only [List.length_map, List.length_range] at h
  refine Nat.le_trans h ?_
  generalize ords kn' (List.range n) = l
  induction l with
  | nil => simp
  | cons x l ih =>
    rw [List.map_cons, List.sum_cons, List.length_cons, Nat.mul_succ]
    have := ih
    omega
end Pi

set_option Elab.async false
set_option linter.all false
set_option maxRecDepth 100000
set_option maxHeartbeats 4000000
/-! O9: pages turned, turned round, without the last panel. -/
namespace Pi
def tr (p : Pn) : Pn := ⟨p.t, p.l, p.b, p.r⟩
def bk (p : Pn) : Pn := ⟨20 - p.r, 20 - p.b, 20 - p.l, 20 - p.t⟩
theorem map_good {ps : List Pn} (g : Good8 ps) {f : Pn → Pn} (h1 : ∀ p : Pn, p.Ok → (f p).Ok) (h2 : ∀ p q, Ap p q → Ap (f p) (f q)) : Good8 (ps.map f) := by
  refine ⟨by rw [List.length_map]; exact g.len, fun p hp => ?_, (apart_iff _).mpr ?_⟩
  · obtain ⟨q, hq, rfl⟩ := List.mem_map.mp hp
    exact h1 q (g.ok q hq)
  · rw [List.pairwise_map]
    exact ((apart_iff ps).mp g.3).imp fun {a b} h => h2 a b h
theorem tr_good {ps : List Pn} (g : Good8 ps) : Good8 (ps.map tr) := by
  refine map_good g (fun p h => ?_) fun p q h => ?_
  · obtain ⟨h1, h2, h3, h4, h5, h6⟩ := h
    exact ⟨h2, h1, h4, h3, h6, h5⟩
  · simp only [Ap, tr] at *
    omega
theorem bk_good {ps : List Pn} (g : Good8 ps) : Good8 (ps.map bk) := by
  refine map_good g (fun p h => ?_) fun p q h => ?_
  · obtain ⟨h1, h2, h3, h4, h5, h6⟩ := h
    refine ⟨?_, ?_, ?_, ?_, ?_, ?_⟩ <;> simp only [bk] <;> omega
  · simp only [Ap, bk] at *
    omega
theorem bef_tr (p q : Pn) : bef (tr p) (tr q) = bef p q := by
  simp only [bef, tr, shH, shW]
  exact Bool.or_comm _ _
theorem bef_bk (p q : Pn) : bef (bk p) (bk q) = bef q p := by
  rw [Bool.eq_iff_iff]
  simp only [bef, shH, shW, Bool.or_eq_true, Bool.and_eq_true, decide_eq_true_eq]
  simp only [bk]
  constructor <;> intro h <;> omega
theorem befAt_map {ps : List Pn} {f : Pn → Pn} {i j : Nat} (hi : i < ps.length) (hj : j < ps.length) : ∃ p q, ps[i]? = some p ∧ ps[j]? = some q ∧ befAt (ps.map f) i j = bef (f p) (f q) := by
  obtain ⟨p, q, h1, h2, _⟩ := befAt_get hi hj
  exact ⟨p, q, h1, h2, befAt_some (by rw [List.getElem?_map, h1]; rfl) (by rw [List.getElem?_map, h2]; rfl)⟩
theorem prs_tr (ps : List Pn) : prs (ps.map tr) = prs ps := by
  refine prs_congr (by rw [List.length_map]) fun i j hi hj => ?_
  rw [List.length_map] at hi hj
  obtain ⟨p, q, h1, h2, e⟩ := befAt_map (f := tr) hi hj
  rw [e, bef_tr, befAt_some h1 h2]
theorem prs_bk (ps : List Pn) (p : Nat × Nat) : p ∈ prs (ps.map bk) ↔ swp p ∈ prs ps := by
  obtain ⟨i, j⟩ := p
  show (i, j) ∈ prs (ps.map bk) ↔ (j, i) ∈ prs ps
  rw [prs_mem, prs_mem, List.length_map]
  constructor
  · rintro ⟨hi, hj, hb⟩
    obtain ⟨p, q, h1, h2, e⟩ := befAt_map (f := bk) hi hj
    rw [e, bef_bk] at hb
    exact ⟨hj, hi, by rw [befAt_some h2 h1]; exact hb⟩
  · rintro ⟨hj, hi, hb⟩
    obtain ⟨p, q, h1, h2, e⟩ := befAt_map (f := bk) hi hj
    rw [befAt_some h2 h1] at hb
    exact ⟨hi, hj, by rw [e, bef_bk]; exact hb⟩
theorem prs_irr {ps : List Pn} (g : Good8 ps) : ∀ p ∈ prs ps, p.1 ≠ p.2 := by
  rintro ⟨i, j⟩ hp e
  have e' : i = j := e
  subst e'
  obtain ⟨hi, _, hb⟩ := (prs_mem ps i i).mp hp
  obtain ⟨p, q, h1, h2, e⟩ := befAt_get hi hi
  rw [h1] at h2
  cases h2
  rw [e, bef_self (g.ok p (List.mem_of_getElem? h1))] at hb
  cases hb
/-- before, as pairs -/
def ltN (p q : Nat × Nat) : Prop := p.1 < q.1 ∨ (p.1 = q.1 ∧ p.2 < q.2)
theorem prs_sorted (ps : List Pn) : (prs ps).Pairwise ltN := by
  refine pw_flatMap (R := (· < ·)) List.pairwise_lt_range (fun i _ => ?_) fun i j hij a ha b hb => ?_
  · rw [List.pairwise_map]
    exact (List.pairwise_lt_range.filter _).imp fun h => .inr ⟨rfl, h⟩
  · obtain ⟨_, _, rfl⟩ := List.mem_map.mp ha
    obtain ⟨_, _, rfl⟩ := List.mem_map.mp hb
    exact .inl hij
theorem prs_nd (ps : List Pn) : (prs ps).Nodup := (prs_sorted ps).imp fun {a b} h e => by subst e; unfold ltN at h; omega
theorem swp_perm (ps : List Pn) : ((prs ps).map swp).Perm (prs (ps.map bk)) := by
  have hs : ((prs ps).map swp).Nodup := by
    rw [List.Nodup, List.pairwise_map]
    exact (prs_nd ps).imp fun {a b} h e => h (by obtain ⟨a1, a2⟩ := a; obtain ⟨b1, b2⟩ := b; cases e; rfl)
  refine (List.perm_ext_iff_of_nodup hs (prs_nd _)).mpr fun p => ?_
  rw [prs_bk, List.mem_map]
  constructor
  · rintro ⟨q, hq, rfl⟩; exact hq
  · exact fun h => ⟨swp p, h, rfl⟩
theorem sort_swp (ps : List Pn) : sortP (((prs ps).map swp).map zz) = (prs (ps.map bk)).map zz := by
  refine sortedP_uniq ((sortP_perm _).trans ((swp_perm ps).map zz)) (sortP_sorted _) ?_
  rw [List.pairwise_map]
  exact (prs_sorted _).imp fun {a b} h => by
    unfold ltN at h
    unfold leP zz
    simp only
    omega
/-- without the last panel -/
theorem sorted_eq {l l' : List (Nat × Nat)} (h : l.Pairwise ltN) (h' : l'.Pairwise ltN) (m : ∀ p, p ∈ l ↔ p ∈ l') : l = l' := by
  have nd : ∀ {l : List (Nat × Nat)}, l.Pairwise ltN → l.Nodup := fun h => h.imp fun {a b} h e => by subst e; unfold ltN at h; omega
  exact ((List.perm_ext_iff_of_nodup (nd h) (nd h')).mpr m).eq_of_pairwise (fun a b _ _ x y => by unfold ltN at x y; omega) h h'
theorem prs_take (ps : List Pn) (n : Nat) (hn : ps.length = n + 1) : prs (ps.take n) = (prs ps).filter fun p => decide (n ∉ [p.1, p.2]) := by
  refine sorted_eq (prs_sorted _) ((prs_sorted ps).filter _) fun p => ?_
  obtain ⟨i, j⟩ := p
  rw [List.mem_filter, prs_mem, prs_mem, List.length_take, hn]
  have hm : min n (n + 1) = n := by omega
  rw [hm]
  simp only [decide_eq_true_eq, List.mem_cons, List.not_mem_nil, or_false, not_or]
  constructor
  · rintro ⟨hi, hj, hb⟩
    refine ⟨⟨by omega, by omega, ?_⟩, by omega, by omega⟩
    obtain ⟨p, q, h1, h2, e⟩ := befAt_get (ps := ps) (i := i) (j := j) (by omega) (by omega)
    rw [e]
    rw [befAt_some (p := p) (q := q) (by rw [List.getElem?_take, if_pos hi]; exact h1) (by rw [List.getElem?_take, if_pos hj]; exact h2)] at hb
    exact hb
  · rintro ⟨⟨hi, hj, hb⟩, n1, n2⟩
    obtain ⟨p, q, h1, h2, e⟩ := befAt_get (ps := ps) (i := i) (j := j) (by omega) (by omega)
    refine ⟨by omega, by omega, ?_⟩
    rw [befAt_some (p := p) (q := q) (by rw [List.getElem?_take, if_pos (by omega)]; exact h1) (by rw [List.getElem?_take, if_pos (by omega)]; exact h2), ← e]
    exact hb
theorem take_good {ps : List Pn} (g : Good8 ps) (n : Nat) : Good8 (ps.take n) := by
  refine ⟨?_, fun p hp => g.ok p (List.mem_of_mem_take hp), (apart_iff _).mpr (((apart_iff ps).mp g.3).sublist (List.take_sublist n ps))⟩
  have := g.len
  rw [List.length_take]
  omega
/-! ### as orders of the page -/
theorem ord_tr (ps : List Pn) : ordP (ps.map tr) = ordP ps := by
  unfold ordP
  rw [prs_tr, List.length_map]
theorem ord_bk_len (ps : List Pn) : (ordP (ps.map bk)).length = (ordP ps).length := by
  unfold ordP
  rw [List.length_map]
  exact rev_len List.pairwise_lt_range (prs_bk ps)
theorem ord_bk_mem {ps : List Pn} {s : List Nat} (h : s ∈ ordP ps) : s.reverse ∈ ordP (ps.map bk) := by
  unfold ordP at *
  rw [List.length_map]
  exact rev_mem List.nodup_range (prs_bk ps) h
theorem ord_fewer {ps : List Pn} (g : Good8 ps) {n : Nat} (hn : ps.length = n + 1) : (ordP ps).length ≤ (n + 1) * (ordP (ps.take n)).length := by
  have hl : (ps.take n).length = n := by rw [List.length_take]; omega
  unfold ordP
  rw [hl, hn]
  refine fewer (prs_irr g) (fun p hp => ?_) n
  rw [prs_take ps n hn] at hp
  exact (List.mem_filter.mp hp).1
theorem ord_one {ps : List Pn} (g : Good8 ps) {f : List Nat} (hf : f ∈ ordP ps) : (ordP ps).length = 1 ↔ Chn (prs ps) f :=
  one_iff (prs_irr g) List.pairwise_lt_range hf
end Pi

set_option Elab.async false
set_option linter.all false
set_option maxRecDepth 100000
set_option maxHeartbeats 4000000
/-! C0: cutting: the mathematics. -/
namespace Pi
theorem rngI_cons {a b : Int} (h : a < b) : rngI a b = a :: rngI (a + 1) b := by
  unfold rngI
  obtain ⟨n, hn⟩ : ∃ n : Nat, (b - a).toNat = n + 1 := ⟨(b - a).toNat - 1, by omega⟩
  have hn' : (b - (a + 1)).toNat = n := by omega
  rw [hn, hn', List.range_succ_eq_map, List.map_cons, List.map_map]
  congr 1
  · simp
  · apply List.map_congr_left
    intro i _
    simp
    omega
theorem rngI_nil {a b : Int} (h : b ≤ a) : rngI a b = [] := by
  unfold rngI
  rw [show (b - a).toNat = 0 by omega]
  rfl
section
variable (lo hi : Nat → Int)
def abv (c : Int) (xs : List Nat) : List Nat := xs.filter fun n => decide (hi n ≤ c)
def blw (c : Int) (xs : List Nat) : List Nat := xs.filter fun n => decide (c ≤ lo n)
def clr (c : Int) (xs : List Nat) : Prop := ∀ n ∈ xs, hi n ≤ c ∨ c ≤ lo n
/-- the law's way -/
def scanA : List Int → List Nat → List (List Nat)
  | [], xs => [xs]
  | c :: cs, xs => if abv hi c xs ≠ [] ∧ blw lo c xs ≠ [] ∧ (abv hi c xs).length + (blw lo c xs).length = xs.length then abv hi c xs :: scanA cs (blw lo c xs) else scanA cs xs
/-- only at places where a panel begins -/
def goodC (c : Int) (xs : List Nat) : Prop := (∃ n ∈ xs, lo n = c) ∧ clr lo hi c xs ∧ ∃ n ∈ xs, hi n ≤ c
open Classical in
noncomputable def scanF : List Int → List Nat → List (List Nat)
  | [], xs => [xs]
  | c :: cs, xs => if goodC lo hi c xs then abv hi c xs :: scanF cs (blw lo c xs) else scanF cs xs
def cutF : List Int → List Nat → List (List Nat)
  | [], xs => [xs]
  | c :: cs, xs => abv hi c xs :: cutF cs (blw lo c xs)
def okI (xs : List Nat) : Prop := ∀ n ∈ xs, 0 ≤ lo n ∧ lo n < hi n ∧ lo n ≤ 19
end
section
variable {lo hi : Nat → Int}
theorem okI.sub {xs ys : List Nat} (h : okI lo hi xs) (s : ∀ n ∈ ys, n ∈ xs) : okI lo hi ys := fun n hn => h n (s n hn)
theorem blw_sub {c : Int} {xs : List Nat} : ∀ n ∈ blw lo c xs, n ∈ xs := fun n hn => (List.mem_filter.mp hn).1
theorem mem_blw {c : Int} {xs : List Nat} {n : Nat} : n ∈ blw lo c xs ↔ n ∈ xs ∧ c ≤ lo n := by simp [blw]
theorem mem_abv {c : Int} {xs : List Nat} {n : Nat} : n ∈ abv hi c xs ↔ n ∈ xs ∧ hi n ≤ c := by simp [abv]
theorem abv_ne {c : Int} {xs : List Nat} : abv hi c xs ≠ [] ↔ ∃ n ∈ xs, hi n ≤ c := by
  rw [ne_eq, List.eq_nil_iff_forall_not_mem]
  constructor
  · intro h
    apply Classical.byContradiction
    intro hn
    exact h fun n hm => hn ⟨n, mem_abv.mp hm⟩
  · rintro ⟨n, h1, h2⟩ h
    exact h n (mem_abv.mpr ⟨h1, h2⟩)
theorem blw_ne {c : Int} {xs : List Nat} : blw lo c xs ≠ [] ↔ ∃ n ∈ xs, c ≤ lo n := by
  rw [ne_eq, List.eq_nil_iff_forall_not_mem]
  constructor
  · intro h
    apply Classical.byContradiction
    intro hn
    exact h fun n hm => hn ⟨n, mem_blw.mp hm⟩
  · rintro ⟨n, h1, h2⟩ h
    exact h n (mem_blw.mpr ⟨h1, h2⟩)
theorem sum_len {c : Int} : ∀ {xs : List Nat}, okI lo hi xs → ((abv hi c xs).length + (blw lo c xs).length ≤ xs.length ∧ ((abv hi c xs).length + (blw lo c xs).length = xs.length ↔ clr lo hi c xs))
  | [], _ => by simp [abv, blw, clr]
  | x :: xs, h => by
    obtain ⟨i1, i2⟩ := sum_len (xs := xs) (h.sub fun n hn => List.mem_cons_of_mem _ hn)
    have hx := h x List.mem_cons_self
    have hc : clr lo hi c (x :: xs) ↔ (hi x ≤ c ∨ c ≤ lo x) ∧ clr lo hi c xs := by
      unfold clr
      simp
    unfold abv blw at *
    rw [hc, ← i2]
    simp only [List.filter_cons, List.length_cons]
    by_cases h1 : hi x ≤ c
    · have h2 : ¬ c ≤ lo x := by omega
      simp only [h1, h2, decide_true, decide_false, if_true, List.length_cons, Bool.false_eq_true, if_false, true_or, true_and]
      omega
    · by_cases h2 : c ≤ lo x
      · simp only [h1, h2, decide_true, decide_false, if_true, List.length_cons, Bool.false_eq_true, if_false, or_true, true_and]
        omega
      · simp only [h1, h2, decide_false, Bool.false_eq_true, if_false, or_self, false_and]
        constructor
        · omega
        · constructor
          · omega
          · exact fun z => z.elim
theorem filter_all {p : Nat → Bool} {xs : List Nat} (h : ∀ n ∈ xs, p n = true) : xs.filter p = xs := List.filter_eq_self.mpr h
/-- a part that is cut already at a gap -/
theorem scanF_gap : ∀ (m : Nat) (c : Int) (xs : List Nat) (c0 : Int), (20 - c).toNat = m → okI lo hi xs → c0 < c → (∃ n ∈ xs, hi n ≤ c0) → (∃ n ∈ xs, c ≤ lo n) → (∀ n ∈ xs, hi n ≤ c0 ∨ c ≤ lo n) →
    scanF lo hi (rngI c 20) xs = abv hi c0 xs :: scanF lo hi (rngI c 20) (blw lo c xs)
  | 0, c, xs, c0, hm, ok, hc, _, ⟨n, hn, hl⟩, _ => by
    have := ok n hn
    omega
  | m + 1, c, xs, c0, hm, ok, hc, ha, hb, hcl => by
    have hlt : c < 20 := by omega
    have eA : abv hi c xs = abv hi c0 xs := List.filter_congr fun n hn => decide_eq_decide.mpr (by
      have := ok n hn
      rcases hcl n hn with h | h <;> omega)
    have nb : ∀ n ∈ blw lo c xs, ¬ hi n ≤ c := fun n hn => by
      obtain ⟨h1, h2⟩ := mem_blw.mp hn
      have := ok n h1
      omega
    rw [rngI_cons hlt]
    have skip : scanF lo hi (c :: rngI (c + 1) 20) (blw lo c xs) = scanF lo hi (rngI (c + 1) 20) (blw lo c xs) := by
      rw [scanF, if_neg]
      rintro ⟨_, _, n, hn, h⟩
      exact nb n hn h
    rw [skip]
    by_cases hg : ∃ n ∈ xs, lo n = c
    · have hgood : goodC lo hi c xs := ⟨hg, fun n hn => by rcases hcl n hn with h | h <;> omega, by obtain ⟨n, hn, h⟩ := ha; exact ⟨n, hn, by omega⟩⟩
      rw [scanF, if_pos hgood, eA]
    · rw [scanF, if_neg (fun z => hg z.1)]
      have hcl' : ∀ n ∈ xs, hi n ≤ c0 ∨ c + 1 ≤ lo n := fun n hn => by
        rcases hcl n hn with h | h
        · exact .inl h
        · right
          have : lo n ≠ c := fun e => hg ⟨n, hn, e⟩
          omega
      have hb' : ∃ n ∈ xs, c + 1 ≤ lo n := by
        obtain ⟨n, hn, h⟩ := hb
        have : lo n ≠ c := fun e => hg ⟨n, hn, e⟩
        exact ⟨n, hn, by omega⟩
      have eB : blw lo (c + 1) xs = blw lo c xs := List.filter_congr fun n hn => decide_eq_decide.mpr (by
        have : lo n ≠ c := fun e => hg ⟨n, hn, e⟩
        omega)
      rw [scanF_gap m (c + 1) xs c0 (by omega) ok (by omega) ha hb' hcl', eB]
theorem scanA_F : ∀ (m : Nat) (c : Int) (xs : List Nat), (20 - c).toNat = m → okI lo hi xs → (∀ c' , c' < c → ¬ ((∃ n ∈ xs, hi n ≤ c') ∧ (∃ n ∈ xs, c' ≤ lo n) ∧ clr lo hi c' xs)) → scanA lo hi (rngI c 20) xs = scanF lo hi (rngI c 20) xs
  | 0, c, xs, hm, ok, _ => by
    rw [rngI_nil (by omega)]
    rfl
  | m + 1, c, xs, hm, ok, hno => by
    have hlt : c < 20 := by omega
    rw [rngI_cons hlt, scanA]
    by_cases hs : (∃ n ∈ xs, hi n ≤ c) ∧ (∃ n ∈ xs, c ≤ lo n) ∧ clr lo hi c xs
    · obtain ⟨s1, s2, s3⟩ := hs
      rw [if_pos ⟨abv_ne.mpr s1, blw_ne.mpr s2, (sum_len ok).2.mpr s3⟩]
      have okb : okI lo hi (blw lo c xs) := ok.sub blw_sub
      have nb : ∀ c', c' < c + 1 → ¬ ((∃ n ∈ blw lo c xs, hi n ≤ c') ∧ (∃ n ∈ blw lo c xs, c' ≤ lo n) ∧ clr lo hi c' (blw lo c xs)) := by
        rintro c' hc' ⟨⟨n, hn, h⟩, _⟩
        have := ok n (blw_sub n hn)
        have := (mem_blw.mp hn).2
        omega
      rw [scanA_F m (c + 1) (blw lo c xs) (by omega) okb nb]
      by_cases hg : ∃ n ∈ xs, lo n = c
      · rw [scanF, if_pos ⟨hg, s3, s1⟩]
      · rw [scanF, if_neg (fun z => hg z.1)]
        have hcl' : ∀ n ∈ xs, hi n ≤ c ∨ c + 1 ≤ lo n := fun n hn => by
          rcases s3 n hn with h | h
          · exact .inl h
          · right
            have : lo n ≠ c := fun e => hg ⟨n, hn, e⟩
            omega
        have hb' : ∃ n ∈ xs, c + 1 ≤ lo n := by
          obtain ⟨n, hn, h⟩ := s2
          have : lo n ≠ c := fun e => hg ⟨n, hn, e⟩
          exact ⟨n, hn, by omega⟩
        have eB : blw lo (c + 1) xs = blw lo c xs := List.filter_congr fun n hn => decide_eq_decide.mpr (by
          have : lo n ≠ c := fun e => hg ⟨n, hn, e⟩
          omega)
        rw [scanF_gap m (c + 1) xs c (by omega) ok (by omega) s1 hb' hcl', eB]
    · rw [if_neg]
      · have hg : ¬ goodC lo hi c xs := by
          rintro ⟨⟨n, hn, e⟩, g2, g3⟩
          exact hs ⟨g3, ⟨n, hn, by omega⟩, g2⟩
        rw [scanF, if_neg hg]
        refine scanA_F m (c + 1) xs (by omega) ok fun c' hc' => ?_
        by_cases e : c' = c
        · rw [e]; exact hs
        · exact hno c' (by omega)
      · rintro ⟨a1, a2, a3⟩
        exact hs ⟨abv_ne.mp a1, blw_ne.mp a2, (sum_len ok).2.mp a3⟩
/-- the program's test, over the whole part -/
def whl (lo hi : Nat → Int) (ys : List Nat) (c : Int) : Bool := (ys.all fun n => decide (hi n ≤ c) || decide (c ≤ lo n)) && ys.any fun n => decide (hi n ≤ c)
theorem scanF_cut (ys : List Nat) (oky : okI lo hi ys) : ∀ (m : Nat) (c : Int) (xs : List Nat), (20 - c).toNat = m → (xs = ys ∨ ∃ c0, c0 < c ∧ xs = blw lo c0 ys ∧ (∃ n ∈ ys, lo n = c0) ∧ ∀ n ∈ ys, hi n ≤ c0 ∨ c0 ≤ lo n) →
    scanF lo hi (rngI c 20) xs = cutF lo hi ((rngI c 20).filter fun z => decide (z ∈ ys.map lo) && whl lo hi ys z) xs
  | 0, c, xs, hm, _ => by
    rw [rngI_nil (by omega)]
    rfl
  | m + 1, c, xs, hm, hinv => by
    have hlt : c < 20 := by omega
    rw [rngI_cons hlt]
    have key : goodC lo hi c xs ↔ (decide (c ∈ ys.map lo) && whl lo hi ys c) = true := by
      unfold whl goodC clr
      simp only [Bool.and_eq_true, decide_eq_true_eq, List.all_eq_true, List.any_eq_true, Bool.or_eq_true, List.mem_map]
      rcases hinv with rfl | ⟨c0, hc0, rfl, ⟨e0, he0, hl0⟩, hcl⟩
      · exact Iff.rfl
      · constructor
        · rintro ⟨⟨n, hn, e⟩, g2, ⟨k, hk, hk2⟩⟩
          refine ⟨⟨n, blw_sub n hn, e⟩, fun z hz => ?_, ⟨k, blw_sub k hk, hk2⟩⟩
          rcases hcl z hz with h | h
          · left; omega
          · exact g2 z (mem_blw.mpr ⟨hz, h⟩)
        · rintro ⟨⟨n, hn, e⟩, g2, _⟩
          refine ⟨⟨n, mem_blw.mpr ⟨hn, by omega⟩, e⟩, fun z hz => g2 z (blw_sub z hz), ⟨e0, mem_blw.mpr ⟨he0, by omega⟩, ?_⟩⟩
          rcases g2 e0 he0 with h | h
          · exact h
          · omega
    by_cases hg : goodC lo hi c xs
    · rw [scanF, if_pos hg, List.filter_cons, if_pos (key.mp hg), cutF]
      congr 1
      have hw := key.mp hg
      simp only [Bool.and_eq_true, decide_eq_true_eq, whl, List.all_eq_true, Bool.or_eq_true, List.mem_map] at hw
      refine scanF_cut ys oky m (c + 1) _ (by omega) (.inr ⟨c, by omega, ?_, hw.1, fun n hn => hw.2.1 n hn⟩)
      rcases hinv with rfl | ⟨c0, hc0, rfl, _, _⟩
      · rfl
      · unfold blw
        rw [List.filter_filter]
        exact List.filter_congr fun n _ => by
          rw [← Bool.decide_and]
          exact decide_eq_decide.mpr ⟨fun z => z.1, fun z => ⟨z, by omega⟩⟩
    · rw [scanF, if_neg hg, List.filter_cons, if_neg (fun z => hg (key.mpr z))]
      refine scanF_cut ys oky m (c + 1) _ (by omega) ?_
      rcases hinv with h | ⟨c0, hc0, h1, h2, h3⟩
      · exact .inl h
      · exact .inr ⟨c0, by omega, h1, h2, h3⟩
theorem rngI_sorted (a b : Int) : (rngI a b).Pairwise (· < ·) := by
  unfold rngI
  rw [List.pairwise_map]
  exact List.pairwise_lt_range.imp fun h => by omega
/-- both ways of cutting agree -/
theorem cuts_eq {xs : List Nat} (ok : okI lo hi xs) : scanA lo hi (rngI 1 20) xs = cutF lo hi ((usort (xs.map lo)).filter (whl lo hi xs)) xs := by
  rw [scanA_F 19 1 xs rfl ok, scanF_cut xs ok 19 1 xs rfl (.inl rfl)]
  · congr 1
    refine strict_uniq ((rngI_sorted 1 20).filter _) ((usort_sorted _).filter _) fun z => ?_
    simp only [List.mem_filter, mem_rngI, Bool.and_eq_true, decide_eq_true_eq, usort_mem]
    constructor
    · rintro ⟨_, h1, h2⟩; exact ⟨h1, h2⟩
    · rintro ⟨h1, h2⟩
      obtain ⟨n, hn, rfl⟩ := List.mem_map.mp h1
      have h2' := h2
      simp only [whl, Bool.and_eq_true, List.any_eq_true, decide_eq_true_eq] at h2'
      obtain ⟨k, hk, hk2⟩ := h2'.2
      have := ok n hn
      have := ok k hk
      exact ⟨by omega, h1, h2⟩
  · rintro c' hc' ⟨⟨n, hn, h⟩, _⟩
    have := ok n hn
    omega
end
end Pi

set_option Elab.async false
set_option linter.all false
set_option maxRecDepth 100000
set_option maxHeartbeats 4000000
/-! C1: cutting.py: find_cuts, find_parts; the law's parts. -/
namespace Pi
open PySem PySem.Spec PyProof.Rows L2
open Enc (enc)
def loP (low : Int) (p : Pn) : Int := if low = 0 then p.l else p.t
def hiP (low : Int) (p : Pn) : Int := if low = 0 then p.r else p.b
def loN (ps : List Pn) (low : Int) (n : Nat) : Int := match ps[n]? with | some p => loP low p | none => 0
def hiN (ps : List Pn) (low : Int) (n : Nat) : Int := match ps[n]? with | some p => hiP low p | none => 0
structure LoOk (low : Int) : Prop where
  h : low = 0 ∨ low = 1
theorem LoOk.other {low : Int} (h : LoOk low) : LoOk (1 - low) := ⟨by have := h.h; omega⟩
theorem lo_ix {low : Int} (h : LoOk low) (p : Pn) : ixD (enc p) (.int low) = .ok (.int (loP low p)) := by
  rcases h.h with rfl | rfl <;> rfl
theorem hi_ix {low : Int} (h : LoOk low) (p : Pn) : ixD (enc p) (.int (low + 2)) = .ok (.int (hiP low p)) := by
  rcases h.h with rfl | rfl <;> rfl
/-- a part of a page -/
def Part (ps : List Pn) (xs : List Nat) : Prop := xs.length ≤ 8 ∧ ∀ n ∈ xs, n < ps.length
theorem Part.sub {ps : List Pn} {xs ys : List Nat} (h : Part ps xs) (s : ys.Sublist xs) : Part ps ys := ⟨Nat.le_trans s.length_le h.1, fun n hn => h.2 n (s.subset hn)⟩
theorem Part.okI {ps : List Pn} {xs : List Nat} {low : Int} (h : Part ps xs) (g : ∀ p ∈ ps, p.Ok) (hl : LoOk low) : Pi.okI (loN ps low) (hiN ps low) xs := fun n hn => by
  have hn' := h.2 n hn
  have e : ps[n]? = some ps[n] := List.getElem?_eq_getElem hn'
  obtain ⟨h1, h2, h3, h4, h5, h6⟩ := g ps[n] (List.getElem_mem hn')
  unfold loN hiN
  simp only [e]
  rcases hl.h with rfl | rfl
  · simp [loP, hiP]; omega
  · simp [loP, hiP]; omega
structure HC (ds : List Df) : Prop extends HP ds where
  find_cuts : findD ds "find_cuts" = some d_find_cuts
  find_parts : findD ds "find_parts" = some d_find_parts
section
variable {ds : List Df} {ps : List Pn} {xs : List Nat} {low : Int}
theorem ixs {n : Nat} (hn : n < ps.length) (hl : LoOk low) : ∃ p : Pn, ixD (enc (Tu.mk ps)) (.int (n : Nat)) = .ok (enc p) ∧ ixD (enc p) (.int low) = .ok (.int (loN ps low n)) ∧ ixD (enc p) (.int (low + 2)) = .ok (.int (hiN ps low n)) := by
  have e : ps[n]? = some ps[n] := List.getElem?_eq_getElem hn
  refine ⟨ps[n], tu_ix e, ?_, ?_⟩
  · rw [lo_ix hl]; unfold loN; rw [e]
  · rw [hi_ix hl]; unfold hiN; rw [e]
def cutsOf (ps : List Pn) (low : Int) (xs : List Nat) : List Int := (usort (xs.map (loN ps low))).filter (whl (loN ps low) (hiN ps low) xs)
theorem r_find_cuts (h : HC ds) (k : Nat) (hp : Part ps xs) (hl : LoOk low) : Tb ds (k + 1) "find_cuts" [enc (Tu.mk ps), enc (Tu.mk xs), .int low] = .ok (enc (cutsOf ps low xs)) := by
  refine go_run h.find_cuts rfl ?_
  simp only [d_find_cuts, List.map_cons, List.map_nil, List.length_cons, List.length_nil, Nat.reduceAdd, Nat.reduceSub, List.reduceReplicate, List.cons_append, List.nil_append]
  refine go_own [] rfl ?_
  simp only [List.set_cons_succ, List.set_cons_zero]
  have hx8 := hp.1
  have c0 : ∀ x4 x5 x6, ev (Tb ds k) (.comp [("number", 5)] (.nm 5) (.iter (.var 1)) .yes (.idx (.idx (.var 0) (.var 5)) (.var 2))) [.val (enc (Tu.mk ps)), .val (enc (Tu.mk xs)), .val (.int low), .own [], x4, x5, x6] = .ok (enc (xs.map (loN ps low))) := fun x4 x5 x6 =>
    map_comp _ (it_tu (by simp)) fun n hn => ⟨_, rfl, by
      obtain ⟨p, e1, e2, e3⟩ := ixs (low := low) (hp.2 n hn) hl
      simp [enc_nat, e1, e2, enc_int]⟩
  refine go_for (g := PyData.int) (fun pre ρ => ∃ x4 x5 x6, ρ = [.val (enc (Tu.mk ps)), .val (enc (Tu.mk xs)), .val (.int low), .own ((pre.filter (whl (loN ps low) (hiN ps low) xs)).map .int), x4, x5, x6]) (xs := usort (xs.map (loN ps low)))
    (by rw [evI_iter, ev_sset, c0, R.ok_bind, sset_enc (by simp; omega)]; rfl) ⟨_, _, _, rfl⟩ ?_ ?_
  · rintro pre c post ρ hx ⟨x4, x5, x6, rfl⟩
    refine ⟨_, rfl, ?_⟩
    have hpl : pre.length ≤ 8 := by
      have h1 := congrArg List.length hx
      have h2 := usort_length (xs.map (loN ps low))
      rw [List.length_map] at h2
      simp at h1
      omega
    have hfl := List.length_filter_le (whl (loN ps low) (hiN ps low) xs) pre
    refine go_asg (.bool (xs.all fun n => decide (hiN ps low n ≤ c) || decide (c ≤ loN ps low n))) ?_ ?_
    · refine ev_allc (map_comp _ (it_tu (by simp)) fun n hn => ⟨_, rfl, ?_⟩)
      obtain ⟨p, e1, e2, e3⟩ := ixs (low := low) (hp.2 n hn) hl
      simp [enc_nat, e1, e2, e3, enc_bool]
      by_cases hh : hiN ps low n ≤ c <;> simp [hh]
    · simp only [List.set_cons_succ, List.set_cons_zero]
      have ca : ∀ x6, ev (Tb ds k) (.bi .any (.cons (.comp [("number", 5)] (.nm 5) (.iter (.var 1)) .yes (.cmp .le (.idx (.idx (.var 0) (.var 5)) (.bin .add (.var 2) (.int 2))) (.var 4))) .nil)) [.val (enc (Tu.mk ps)), .val (enc (Tu.mk xs)), .val (.int low), .own ((pre.filter (whl (loN ps low) (hiN ps low) xs)).map .int), .val (.int c), x5, x6] = .ok (.bool (xs.any fun n => decide (hiN ps low n ≤ c))) := fun x6 => by
        refine ev_anyc (map_comp _ (it_tu (by simp)) fun n hn => ⟨_, rfl, ?_⟩)
        obtain ⟨p, e1, e2, e3⟩ := ixs (low := low) (hp.2 n hn) hl
        simp [enc_nat, e1, e2, e3, enc_bool]
      refine go_if (whl (loN ps low) (hiN ps low) xs c) (by
        rw [ev_and, evA_cons, evA_one, ca]
        simp only [ev_var, List.getElem?_cons_succ, List.getElem?_cons_zero, R.ok_bind]
        unfold whl
        cases (xs.all fun n => decide (hiN ps low n ≤ c) || decide (c ≤ loN ps low n)) <;> simp) ?_
      cases hb : whl (loN ps low) (hiN ps low) xs c with
      | false => exact go_skip (.inl ⟨rfl, go_skip ⟨rfl, _, _, _, by simp [List.filter_append, hb]; exact ⟨rfl, rfl, rfl⟩⟩⟩)
      | true => exact go_app (.int c) rfl (by simp) (by rw [List.length_map]; unfold big; omega) (go_skip (.inl ⟨rfl, go_skip ⟨rfl, _, _, _, by simp [List.filter_append, hb]; exact ⟨rfl, rfl, rfl⟩⟩⟩))
  · rintro ρ ⟨x4, x5, x6, rfl⟩
    exact go_frz rfl (go_ret _ rfl rfl)
def stC (lo hi : Nat → Int) (s : List (List Nat) × List Nat) (c : Int) : List (List Nat) × List Nat := (s.1 ++ [abv hi c s.2], blw lo c s.2)
theorem stC_cut (lo hi : Nat → Int) : ∀ (cs : List Int) (a : List (List Nat)) (xs : List Nat), (cs.foldl (stC lo hi) (a, xs)).1 ++ [(cs.foldl (stC lo hi) (a, xs)).2] = a ++ cutF lo hi cs xs
  | [], a, xs => by simp [cutF]
  | c :: cs, a, xs => by
    rw [List.foldl_cons, show stC lo hi (a, xs) c = (a ++ [abv hi c xs], blw lo c xs) from rfl, stC_cut lo hi cs, cutF]
    simp
theorem stC_len (lo hi : Nat → Int) : ∀ (cs : List Int) (a : List (List Nat)) (xs : List Nat), (cs.foldl (stC lo hi) (a, xs)).1.length = a.length + cs.length ∧ (cs.foldl (stC lo hi) (a, xs)).2.Sublist xs
  | [], a, xs => ⟨rfl, List.Sublist.refl _⟩
  | c :: cs, a, xs => by
    obtain ⟨h1, h2⟩ := stC_len lo hi cs (a ++ [abv hi c xs]) (blw lo c xs)
    rw [List.foldl_cons, show stC lo hi (a, xs) c = (a ++ [abv hi c xs], blw lo c xs) from rfl]
    exact ⟨by rw [h1]; simp; omega, h2.trans List.filter_sublist⟩
theorem pts_enc (f : List (List Nat)) (r : List Nat) (h : f.length ≤ 900) : addD (.list (f.map fun p => enc (Tu.mk p))) (.list [enc (Tu.mk r)]) = .ok (enc ((f ++ [r]).map Tu.mk)) := by
  rw [ad_list, if_pos (le_big (by rw [List.length_map]; simp; omega))]
  show R.ok (PyData.list _) = R.ok (PyData.list _)
  simp [List.map_map, Function.comp_def]
theorem r_find_parts (h : HC ds) (k : Nat) (hp : Part ps xs) (hl : LoOk low) : Tb ds (k + 2) "find_parts" [enc (Tu.mk ps), enc (Tu.mk xs), .int low] = .ok (enc ((cutF (loN ps low) (hiN ps low) (cutsOf ps low xs) xs).map Tu.mk)) := by
  refine go_run h.find_parts rfl ?_
  simp only [d_find_parts, List.map_cons, List.map_nil, List.length_cons, List.length_nil, Nat.reduceAdd, Nat.reduceSub, List.reduceReplicate, List.cons_append, List.nil_append]
  refine go_own2 (enc (Tu.mk xs)) (by simp) ?_
  have hx8 := hp.1
  have hcl : (cutsOf ps low xs).length ≤ 8 := by
    have h1 := List.length_filter_le (whl (loN ps low) (hiN ps low) xs) (usort (xs.map (loN ps low)))
    have h2 := usort_length (xs.map (loN ps low))
    rw [List.length_map] at h2
    unfold cutsOf
    omega
  generalize hS : stC (loN ps low) (hiN ps low) = st
  refine go_for (g := PyData.int) (fun pre ρ => ∃ x5 x6, ρ = [.val (enc (Tu.mk ps)), .val (enc (Tu.mk xs)), .val (.int low), .own ((pre.foldl st ([], xs)).1.map fun p => enc (Tu.mk p)), .val (enc (Tu.mk (pre.foldl st ([], xs)).2)), x5, x6]) (xs := cutsOf ps low xs)
    (it_enc (by simp [r_find_cuts h k hp hl])) ⟨_, _, rfl⟩ ?_ ?_
  · rintro pre c post ρ hx ⟨x5, x6, rfl⟩
    refine ⟨_, rfl, ?_⟩
    have hpl : pre.length ≤ 8 := by
      have h1 := congrArg List.length hx
      simp at h1
      omega
    have hlen := stC_len (loN ps low) (hiN ps low) pre [] xs
    rw [hS] at hlen
    have hap : (pre ++ [c]).foldl st ([], xs) = ((pre.foldl st ([], xs)).1 ++ [abv (hiN ps low) c (pre.foldl st ([], xs)).2], blw (loN ps low) c (pre.foldl st ([], xs)).2) := by
      rw [List.foldl_append, List.foldl_cons, List.foldl_nil]
      rw [← hS]
      rfl
    rw [hap]
    generalize pre.foldl st ([], xs) = q at hlen ⊢
    obtain ⟨f, r⟩ := q
    simp only at hlen ⊢
    have hr := hp.sub hlen.2
    refine go_app (enc (Tu.mk (abv (hiN ps low) c r))) rfl ?_ (by rw [List.length_map, hlen.1]; unfold big; simp; omega) ?_
    · refine ev_tupc (filt_comp (fun n => decide (hiN ps low n ≤ c)) (it_tu (by simp)) fun n hn => ⟨_, rfl, ?_, by simp⟩)
      obtain ⟨p, e1, e2, e3⟩ := ixs (low := low) (hr.2 n hn) hl
      simp [enc_nat, e1, e2, e3]
    · refine go_asg (enc (Tu.mk (blw (loN ps low) c r))) ?_ (go_skip ⟨rfl, .val (.int c), x6, by simp⟩)
      refine ev_tupc (filt_comp (fun n => decide (c ≤ loN ps low n)) (it_tu (by simp)) fun n hn => ⟨_, rfl, ?_, by simp⟩)
      obtain ⟨p, e1, e2, e3⟩ := ixs (low := low) (hr.2 n hn) hl
      simp [enc_nat, e1, e2, e3]
  · rintro ρ ⟨x5, x6, rfl⟩
    have hlen := stC_len (loN ps low) (hiN ps low) (cutsOf ps low xs) [] xs
    have hc := stC_cut (loN ps low) (hiN ps low) (cutsOf ps low xs) [] xs
    rw [hS] at hlen hc
    rw [List.nil_append] at hc
    rw [← hc]
    refine go_ret _ ?_ rfl
    have e := pts_enc ((cutsOf ps low xs).foldl st ([], xs)).1 ((cutsOf ps low xs).foldl st ([], xs)).2 (by rw [hlen.1]; simp; omega)
    simp [big, e]
end
end Pi

set_option Elab.async false
set_option linter.all false
set_option maxRecDepth 100000
set_option maxHeartbeats 4000000
/-! C2: the law's parts; reading by cutting. -/
namespace Pi
open PySem PySem.Spec PyProof.Rows L2
open Enc (enc)
def pts (ps : List Pn) (low : Int) (xs : List Nat) : List (List Nat) := scanA (loN ps low) (hiN ps low) (rngI 1 20) xs
theorem pts_eq {ps : List Pn} {xs : List Nat} {low : Int} (h : Part ps xs) (g : ∀ p ∈ ps, p.Ok) (hl : LoOk low) : cutF (loN ps low) (hiN ps low) (cutsOf ps low xs) xs = pts ps low xs := (cuts_eq (h.okI g hl)).symm
section
variable (lo hi : Nat → Int)
def cndA (c : Int) (xs : List Nat) : Bool := !decide (abv hi c xs = []) && (!decide (blw lo c xs = []) && decide ((abv hi c xs).length + (blw lo c xs).length = xs.length))
def stA (s : List (List Nat) × List Nat) (c : Int) : List (List Nat) × List Nat := if cndA lo hi c s.2 then (s.1 ++ [abv hi c s.2], blw lo c s.2) else s
theorem cndA_iff (c : Int) (xs : List Nat) : cndA lo hi c xs = true ↔ (abv hi c xs ≠ [] ∧ blw lo c xs ≠ [] ∧ (abv hi c xs).length + (blw lo c xs).length = xs.length) := by
  simp [cndA]
theorem stA_cut : ∀ (cs : List Int) (a : List (List Nat)) (xs : List Nat), (cs.foldl (stA lo hi) (a, xs)).1 ++ [(cs.foldl (stA lo hi) (a, xs)).2] = a ++ scanA lo hi cs xs
  | [], a, xs => by simp [scanA]
  | c :: cs, a, xs => by
    rw [List.foldl_cons, scanA]
    by_cases h : cndA lo hi c xs = true
    · rw [if_pos ((cndA_iff lo hi c xs).mp h), show stA lo hi (a, xs) c = (a ++ [abv hi c xs], blw lo c xs) by simp [stA, h], stA_cut cs]
      simp
    · rw [if_neg (fun z => h ((cndA_iff lo hi c xs).mpr z)), show stA lo hi (a, xs) c = (a, xs) by simp [stA, h], stA_cut cs]
theorem stA_len : ∀ (cs : List Int) (a : List (List Nat)) (xs : List Nat), (cs.foldl (stA lo hi) (a, xs)).1.length ≤ a.length + cs.length ∧ (cs.foldl (stA lo hi) (a, xs)).2.Sublist xs
  | [], a, xs => ⟨Nat.le_refl _, List.Sublist.refl _⟩
  | c :: cs, a, xs => by
    rw [List.foldl_cons]
    by_cases h : cndA lo hi c xs = true
    · rw [show stA lo hi (a, xs) c = (a ++ [abv hi c xs], blw lo c xs) by simp [stA, h]]
      obtain ⟨h1, h2⟩ := stA_len cs (a ++ [abv hi c xs]) (blw lo c xs)
      exact ⟨by simp at h1 ⊢; omega, h2.trans List.filter_sublist⟩
    · rw [show stA lo hi (a, xs) c = (a, xs) by simp [stA, h]]
      obtain ⟨h1, h2⟩ := stA_len cs a xs
      exact ⟨by simp at h1 ⊢; omega, h2⟩
theorem scanA_sub : ∀ (cs : List Int) (xs : List Nat), scanA lo hi cs xs ≠ [] ∧ (∀ p ∈ scanA lo hi cs xs, p.Sublist xs) ∧ ((scanA lo hi cs xs).length ≠ 1 → ∀ p ∈ scanA lo hi cs xs, p.length < xs.length)
  | [], xs => by simp [scanA]
  | c :: cs, xs => by
    rw [scanA]
    split
    · rename_i h
      obtain ⟨h1, h2, h3⟩ := h
      obtain ⟨i0, i1, i2⟩ := scanA_sub cs (blw lo c xs)
      have s1 : (abv hi c xs).Sublist xs := List.filter_sublist
      have s2 : (blw lo c xs).Sublist xs := List.filter_sublist
      have l1 : 0 < (abv hi c xs).length := List.length_pos_iff.mpr h1
      have l2 : 0 < (blw lo c xs).length := List.length_pos_iff.mpr h2
      refine ⟨by simp, fun p hp => ?_, fun _ p hp => ?_⟩
      · rcases List.mem_cons.mp hp with rfl | hp
        · exact s1
        · exact (i1 p hp).trans s2
      · rcases List.mem_cons.mp hp with rfl | hp
        · omega
        · have := (i1 p hp).length_le
          omega
    · exact scanA_sub cs xs
end
section
variable {ds : List Df} {ps : List Pn} {xs : List Nat} {low : Int}
theorem r_lparts (h : findD ds "_law_parts" = some d__law_parts) (k : Nat) (hp : Part ps xs) (hl : LoOk low) : Tb ds (k + 1) "_law_parts" [enc (Tu.mk ps), enc (Tu.mk xs), .int low] = .ok (enc ((pts ps low xs).map Tu.mk)) := by
  refine go_run h rfl ?_
  simp only [d__law_parts, List.map_cons, List.map_nil, List.length_cons, List.length_nil, Nat.reduceAdd, Nat.reduceSub, List.reduceReplicate, List.cons_append, List.nil_append]
  refine go_own2 (enc (Tu.mk xs)) (by simp) ?_
  simp only [List.set_cons_succ, List.set_cons_zero]
  generalize hS : stA (loN ps low) (hiN ps low) = st
  have r19 : (rngI 1 20).length = 19 := by rw [rngI_length]; rfl
  refine go_for (g := PyData.int) (fun pre ρ => ∃ x5 x6 x7 x8, ρ = [.val (enc (Tu.mk ps)), .val (enc (Tu.mk xs)), .val (.int low), .own ((pre.foldl st ([], xs)).1.map fun p => enc (Tu.mk p)), .val (enc (Tu.mk (pre.foldl st ([], xs)).2)), x5, x6, x7, x8]) (xs := rngI 1 20)
    (rgI (by simp) (by simp) (by decide) (by decide) (by decide) (by decide)) ⟨_, _, _, _, rfl⟩ ?_ ?_
  · rintro pre c post ρ hx ⟨x5, x6, x7, x8, rfl⟩
    refine ⟨_, rfl, ?_⟩
    have hpl : pre.length ≤ 19 := by
      have h1 := congrArg List.length hx
      simp at h1
      omega
    have hlen := stA_len (loN ps low) (hiN ps low) pre [] xs
    rw [hS] at hlen
    have hap : (pre ++ [c]).foldl st ([], xs) = stA (loN ps low) (hiN ps low) (pre.foldl st ([], xs)) c := by
      rw [List.foldl_append, List.foldl_cons, List.foldl_nil]
      rw [← hS]
    rw [hap]
    generalize pre.foldl st ([], xs) = q at hlen ⊢
    obtain ⟨f, r⟩ := q
    simp only at hlen ⊢
    have hr := hp.sub hlen.2
    refine go_asg (enc (Tu.mk (abv (hiN ps low) c r))) ?_ ?_
    · refine ev_tupc (filt_comp (fun n => decide (hiN ps low n ≤ c)) (it_tu (by simp)) fun n hn => ⟨_, rfl, ?_, by simp⟩)
      obtain ⟨p, e1, e2, e3⟩ := ixs (low := low) (hr.2 n hn) hl
      simp [enc_nat, e1, e2, e3]
    refine go_asg (enc (Tu.mk (blw (loN ps low) c r))) ?_ ?_
    · refine ev_tupc (filt_comp (fun n => decide (c ≤ loN ps low n)) (it_tu (by simp)) fun n hn => ⟨_, rfl, ?_, by simp⟩)
      obtain ⟨p, e1, e2, e3⟩ := ixs (low := low) (hr.2 n hn) hl
      simp [enc_nat, e1, e2, e3]
    simp only [List.set_cons_succ, List.set_cons_zero]
    have et : ∀ zs : List Nat, eqD (enc (Tu.mk zs)) (.tuple []) = .ok (decide (zs = [])) := fun zs => by
      have h := eqD_enc (α := Tu Nat) (by decide) (Tu.mk zs) (Tu.mk [])
      rw [show (enc (Tu.mk ([] : List Nat)) : D) = .tuple [] from rfl] at h
      rw [h]; congr 1; simp
    refine go_if (cndA (loN ps low) (hiN ps low) c r) (by
      have e4 : (decide (((abv (hiN ps low) c r).length : Int) + ((blw (loN ps low) c r).length : Int) = (r.length : Int))) = decide ((abv (hiN ps low) c r).length + (blw (loN ps low) c r).length = r.length) := decide_eq_decide.mpr (by omega)
      simp [et, e4]
      unfold cndA
      by_cases h1 : abv (hiN ps low) c r = [] <;> by_cases h2 : blw (loN ps low) c r = [] <;> simp [h1, h2]) ?_
    cases hb : cndA (loN ps low) (hiN ps low) c r with
    | false => exact go_skip (.inl ⟨rfl, go_skip ⟨rfl, _, _, _, _, by simp [stA, hb]; exact ⟨rfl, rfl, rfl, rfl⟩⟩⟩)
    | true => exact go_app (enc (Tu.mk (abv (hiN ps low) c r))) rfl (by simp) (by rw [List.length_map]; unfold big; simp at hlen; omega) (go_asg (enc (Tu.mk (blw (loN ps low) c r))) (by simp) (go_skip (.inl ⟨rfl, go_skip ⟨rfl, _, _, _, _, by simp [stA, hb]; exact ⟨rfl, rfl, rfl, rfl⟩⟩⟩)))
  · rintro ρ ⟨x5, x6, x7, x8, rfl⟩
    have hlen := stA_len (loN ps low) (hiN ps low) (rngI 1 20) [] xs
    have hc := stA_cut (loN ps low) (hiN ps low) (rngI 1 20) [] xs
    rw [hS] at hlen hc
    rw [List.nil_append] at hc
    unfold pts
    rw [← hc]
    refine go_ret _ ?_ rfl
    have e := pts_enc ((rngI 1 20).foldl st ([], xs)).1 ((rngI 1 20).foldl st ([], xs)).2 (by simp at hlen; omega)
    simp [big, e]
/-! ### reading -/
abbrev Rd2 := List Nat × Option (List Nat)
def encO : Option (List Nat) → D
  | none => .none
  | some x => enc (Tu.mk x)
def rdv (q : Rd2) : D := .tuple [enc (Tu.mk q.1), encO q.2]
def rdL (f : List Nat → Rd2) : List (List Nat) → List Nat → Rd2
  | [], acc => (acc, none)
  | x :: r, acc => match f x with
    | (_, some s) => ([], some s)
    | (o, none) => rdL f r (acc ++ o)
def rdF (ps : List Pn) : Nat → List Nat → Int → Rd2
  | 0, part, _ => (part, none)
  | n + 1, part, low => if part.length < 2 then (part, none) else
    if (pts ps low part).length = 1 then (if (pts ps (1 - low) part).length = 1 then ([], some part) else rdL (fun x => rdF ps n x low) (pts ps (1 - low) part) [])
    else rdL (fun x => rdF ps n x low) (pts ps low part) []
/-- an order as long as the part -/
theorem rdL_len {f : List Nat → Rd2} {m : Nat} : ∀ {l : List (List Nat)} {acc : List Nat}, (∀ x ∈ l, (f x).1.length ≤ m) → (rdL f l acc).1.length ≤ acc.length + l.length * m
  | [], acc, _ => by simp [rdL]
  | x :: l, acc, h => by
    have hx := h x List.mem_cons_self
    unfold rdL
    cases e : f x with
    | mk o s =>
      rw [e] at hx
      cases s with
      | some s => simp
      | none =>
        have ih := rdL_len (f := f) (m := m) (l := l) (acc := acc ++ o) fun y hy => h y (List.mem_cons_of_mem _ hy)
        simp only [List.length_append, List.length_cons] at ih hx ⊢
        rw [Nat.add_mul, Nat.one_mul]
        omega
end
end Pi

set_option Elab.async false
set_option linter.all false
set_option maxRecDepth 100000
set_option maxHeartbeats 4000000
/-! C3: read_part, the law's reading. -/
namespace Pi
open PySem PySem.Spec PyProof.Rows L2
open Enc (enc)
def lsum (l : List (List Nat)) : Nat := (l.map List.length).sum
theorem lsum_cons (x : List Nat) (l : List (List Nat)) : lsum (x :: l) = x.length + lsum l := by simp [lsum]
theorem scanA_sum (lo hi : Nat → Int) : ∀ (cs : List Int) (xs : List Nat), lsum (scanA lo hi cs xs) = xs.length
  | [], xs => by simp [scanA, lsum]
  | c :: cs, xs => by
    rw [scanA]
    split
    · rename_i h
      rw [lsum_cons, scanA_sum lo hi cs, h.2.2]
    · exact scanA_sum lo hi cs xs
theorem rdL_le {f : List Nat → Rd2} : ∀ {l : List (List Nat)} {acc : List Nat}, (∀ x ∈ l, (f x).1.length ≤ x.length) → (rdL f l acc).1.length ≤ acc.length + lsum l
  | [], acc, _ => by simp [rdL]
  | x :: l, acc, h => by
    have hx := h x List.mem_cons_self
    unfold rdL
    rw [lsum_cons]
    cases e : f x with
    | mk o s =>
      rw [e] at hx
      cases s with
      | some s => simp
      | none =>
        have ih := rdL_le (f := f) (l := l) (acc := acc ++ o) fun y hy => h y (List.mem_cons_of_mem _ hy)
        simp only [List.length_append] at ih hx ⊢
        omega
theorem rdF_le (ps : List Pn) : ∀ (n : Nat) (part : List Nat) (low : Int), (rdF ps n part low).1.length ≤ part.length
  | 0, part, low => Nat.le_refl _
  | n + 1, part, low => by
    have ih := rdF_le ps n
    have key : ∀ lw, (rdL (fun x => rdF ps n x low) (pts ps lw part) []).1.length ≤ part.length := fun lw => by
      have := rdL_le (f := fun x => rdF ps n x low) (l := pts ps lw part) (acc := []) fun x _ => ih x low
      rw [show lsum (pts ps lw part) = part.length from scanA_sum _ _ _ _] at this
      simpa using this
    unfold rdF
    split
    · exact Nat.le_refl _
    · split
      · split
        · simp
        · exact key _
      · exact key _
theorem go_retT {T : Str → List D → R D} {ρ : En} {P : Fl → En → Prop} {r : S} {e : E} {d : D} (h : ev T e ρ = .ok d) (p : P (.rt d) ρ) : Go T (.seq (.ret e) r) ρ P := go_ret d h p
def rpB : S := (.seq (.asg (.tp [6, 7]) (.call "read_part" (.cons (.var 0) (.cons (.var 5) (.cons (.var 2) .nil))))) (.seq (.ite (.isN true (.var 7)) (.seq (.ret (.tup (.cons (.tup .nil) (.cons (.var 7) .nil)))) .skip) .skip) (.seq (.asg (.nm 4) (.bin .add (.var 4) (.var 6))) .skip)))
theorem gof_read {T : Str → List D → R D} {f : List Nat → Rd2} {ps : List Pn} {low : Int} : ∀ (l : List (List Nat)) (acc : List Nat), (∀ x ∈ l, T "read_part" [enc (Tu.mk ps), enc (Tu.mk x), .int low] = .ok (rdv (f x)) ∧ (f x).1.length ≤ x.length) → acc.length + lsum l ≤ 100 → ∀ x1 x3 x5 x6 x7,
    GoF T (.nm 5) rpB (l.map fun x => enc (Tu.mk x)) [.val (enc (Tu.mk ps)), x1, .val (.int low), x3, .val (enc (Tu.mk acc)), x5, x6, x7] fun fl ρ => match rdL f l acc with
      | (o, none) => fl = .nx ∧ ∃ y5 y6 y7, ρ = [.val (enc (Tu.mk ps)), x1, .val (.int low), x3, .val (enc (Tu.mk o)), y5, y6, y7]
      | (_, some s) => fl = .rt (rdv ([], some s))
  | [], acc, _, _, x1, x3, x5, x6, x7 => gof_nil ⟨rfl, _, _, _, rfl⟩
  | x :: l, acc, h, hs, x1, x3, x5, x6, x7 => by
    obtain ⟨h1, h2⟩ := h x List.mem_cons_self
    rw [lsum_cons] at hs
    rw [List.map_cons]
    refine gof_cons rfl ?_
    unfold rpB
    refine go_tp [enc (Tu.mk (f x).1), encO (f x).2] (by simp [h1]; rfl) rfl ?_
    unfold rdL
    cases e : f x with
    | mk o s =>
      rw [e] at h2
      simp only at h2
      cases s with
      | some s =>
        refine go_yes (by simp [encO]) ?_
        refine go_ret (rdv ([], some s)) (by simp [big]; rfl) (.inr ⟨by simp, .inr (.inr ⟨_, rfl, rfl⟩)⟩)
      | none =>
        refine go_no (by simp [encO]) ?_
        have ht := tu_app acc o (by omega)
        refine go_asg (enc (Tu.mk (acc ++ o))) (by simp [ht]) (go_skip (.inl ⟨rfl, ?_⟩))
        exact gof_read l (acc ++ o) (fun y hy => h y (List.mem_cons_of_mem _ hy)) (by simp; omega) _ _ _ _ _
structure HR (ds : List Df) : Prop extends HC ds where
  read_part : findD ds "read_part" = some d_read_part
  find_reading : findD ds "find_reading" = some d_find_reading
theorem rp_ir : d_read_part.ir = (.seq (.ite (.cmp .lt (.bi .len (.cons (.var 1) .nil)) (.int 2)) (.seq (.ret (.tup (.cons (.var 1) (.cons .non .nil)))) .skip) .skip) (.seq (.asg (.nm 3) (.call "find_parts" (.cons (.var 0) (.cons (.var 1) (.cons (.var 2) .nil))))) (.seq (.ite (.cmp .eq (.bi .len (.cons (.var 3) .nil)) (.int 1)) (.seq (.asg (.nm 3) (.call "find_parts" (.cons (.var 0) (.cons (.var 1) (.cons (.bin .sub (.int 1) (.var 2)) .nil))))) .skip) .skip) (.seq (.ite (.cmp .eq (.bi .len (.cons (.var 3) .nil)) (.int 1)) (.seq (.ret (.tup (.cons (.tup .nil) (.cons (.var 1) .nil)))) .skip) .skip) (.seq (.asg (.nm 4) (.tup .nil)) (.seq (.for_ (.nm 5) (.iter (.var 3)) rpB) (.seq (.ret (.tup (.cons (.var 4) (.cons .non .nil)))) .skip))))))) := rfl
theorem len_pts (l : List (List Nat)) : lenD (enc (l.map Tu.mk)) = .ok (.int l.length) := by rw [len_li]; simp
section
variable {ds : List Df} {ps : List Pn}
theorem r_read (h : HR ds) (g : ∀ p ∈ ps, p.Ok) : ∀ (n L : Nat) (part : List Nat) (low : Int), Part ps part → LoOk low → part.length ≤ n + 1 → Tb ds (L + n + 3) "read_part" [enc (Tu.mk ps), enc (Tu.mk part), .int low] = .ok (rdv (rdF ps n part low)) := by
  intro n
  induction n with
  | zero =>
    intro L part low hp hl hn
    refine go_run h.read_part rfl ?_
    rw [rp_ir]
    simp only [d_read_part, List.map_cons, List.map_nil, List.length_cons, List.length_nil, Nat.reduceAdd, Nat.reduceSub, List.reduceReplicate, List.cons_append, List.nil_append]
    refine go_yes (by simp; omega) ?_
    exact go_ret (rdv (part, none)) (by simp [big]; rfl) (.inr ⟨by simp, rfl⟩)
  | succ n ih =>
    intro L part low hp hl hn
    refine go_run h.read_part rfl ?_
    rw [rp_ir]
    simp only [d_read_part, List.map_cons, List.map_nil, List.length_cons, List.length_nil, Nat.reduceAdd, Nat.reduceSub, List.reduceReplicate, List.cons_append, List.nil_append]
    unfold rdF
    by_cases h2 : part.length < 2
    · rw [if_pos h2]
      refine go_yes (by simp; omega) ?_
      exact go_ret (rdv (part, none)) (by simp [big]; rfl) (.inr ⟨by simp, rfl⟩)
    · rw [if_neg h2]
      refine go_no (by simp; omega) ?_
      have f1 : ∀ lw, LoOk lw → Tb ds (L + (n + 1) + 2) "find_parts" [enc (Tu.mk ps), enc (Tu.mk part), .int lw] = .ok (enc ((pts ps lw part).map Tu.mk)) := fun lw hlw => by
        rw [← pts_eq hp g hlw]; exact r_find_parts h.toHC (L + (n + 1)) hp hlw
      refine go_asg (enc ((pts ps low part).map Tu.mk)) (by simp [f1 low hl]) ?_
      simp only [List.set_cons_succ, List.set_cons_zero]
      have loop : ∀ lw, LoOk lw → (pts ps lw part).length ≠ 1 → ∀ x4 x5 x6 x7, Go (Tb ds (L + (n + 1) + 2)) (.seq (.ite (.cmp .eq (.bi .len (.cons (.var 3) .nil)) (.int 1)) (.seq (.ret (.tup (.cons (.tup .nil) (.cons (.var 1) .nil)))) .skip) .skip) (.seq (.asg (.nm 4) (.tup .nil)) (.seq (.for_ (.nm 5) (.iter (.var 3)) rpB) (.seq (.ret (.tup (.cons (.var 4) (.cons .non .nil)))) .skip))))
          [.val (enc (Tu.mk ps)), .val (enc (Tu.mk part)), .val (.int low), .val (enc ((pts ps lw part).map Tu.mk)), x4, x5, x6, x7] fun f _ => f = .rt (rdv (rdL (fun x => rdF ps n x low) (pts ps lw part) [])) := fun lw hlw hne x4 x5 x6 x7 => by
        refine go_no (by simp [len_pts]; omega) ?_
        refine go_asg (enc (Tu.mk ([] : List Nat))) (by simp; rfl) ?_
        refine go_forF ((pts ps lw part).map fun x => enc (Tu.mk x)) (by rw [evI_iter]; simp; show nx (seqOf (.list _)) = _; simp [List.map_map, Function.comp_def]) ?_
        obtain ⟨s0, s1, s2⟩ := scanA_sub (loN ps lw) (hiN ps lw) (rngI 1 20) part
        have hsum := scanA_sum (loN ps lw) (hiN ps lw) (rngI 1 20) part
        have gr := gof_read (T := Tb ds (L + (n + 1) + 2)) (f := fun x => rdF ps n x low) (ps := ps) (low := low) (pts ps lw part) [] (fun x hx => by
          have hsub := s1 x hx
          have hlt := s2 hne x hx
          exact ⟨ih L x low (hp.sub hsub) hl (by omega), rdF_le ps n x low⟩) (by
            have h8 := hp.1
            unfold pts
            rw [hsum]; simp; omega) (.val (enc (Tu.mk part))) (.val (enc ((pts ps lw part).map Tu.mk))) x5 x6 x7
        obtain ⟨fl, ρ', e1, q⟩ := gr
        refine ⟨fl, ρ', e1, ?_⟩
        cases e : rdL (fun x => rdF ps n x low) (pts ps lw part) [] with
        | mk o s =>
          rw [e] at q
          cases s with
          | none =>
            obtain ⟨rfl, y5, y6, y7, rfl⟩ := q
            exact .inl ⟨rfl, go_ret (rdv (o, none)) (by simp [big]; rfl) rfl⟩
          | some s =>
            have q : fl = .rt (rdv ([], some s)) := q
            subst q
            refine .inr ⟨by simp, ?_⟩
            have : o = [] := by
              have key : ∀ (l : List (List Nat)) (acc o : List Nat) (s : List Nat), rdL (fun x => rdF ps n x low) l acc = (o, some s) → o = [] := by
                intro l
                induction l with
                | nil => intro acc o s e; simp [rdL] at e
                | cons y l ihl =>
                  intro acc o s e
                  unfold rdL at e
                  split at e
                  · simp at e; exact e.1
                  · exact ihl _ _ _ e
              exact key _ _ _ _ e
            rw [this]
      by_cases h1 : (pts ps low part).length = 1
      · rw [if_pos h1]
        refine go_yes (by simp [len_pts, h1]) ?_
        refine go_asg (enc ((pts ps (1 - low) part).map Tu.mk)) (by simp [f1 _ hl.other]) (go_skip (.inl ⟨rfl, ?_⟩))
        simp only [List.set_cons_succ, List.set_cons_zero]
        by_cases h3 : (pts ps (1 - low) part).length = 1
        · rw [if_pos h3]
          refine go_yes (by simp [len_pts, h3]) ?_
          exact go_ret (rdv ([], some part)) (by simp [big]; rfl) (.inr ⟨by simp, rfl⟩)
        · rw [if_neg h3]
          exact loop _ hl.other h3 _ _ _ _
      · rw [if_neg h1]
        refine go_no (by simp [len_pts]; omega) ?_
        exact loop _ hl h1 _ _ _ _
end
end Pi

set_option Elab.async false
set_option linter.all false
set_option maxRecDepth 100000
set_option maxHeartbeats 4000000
/-! C4: the law's reading; by_rows and the others. -/
namespace Pi
open PySem PySem.Spec PyProof.Rows L2
open Enc (enc)
def lrB : S := (.seq (.asg (.tp [7, 8]) (.call "_law_read" (.cons (.var 0) (.cons (.var 6) (.cons (.var 2) .nil))))) (.seq (.ite (.isN true (.var 8)) (.seq (.ret (.tup (.cons (.tup .nil) (.cons (.var 8) .nil)))) .skip) .skip) (.seq (.asg (.nm 5) (.bin .add (.var 5) (.var 7))) .skip)))
theorem gof_lread {T : Str → List D → R D} {f : List Nat → Rd2} {ps : List Pn} {low : Int} : ∀ (l : List (List Nat)) (acc : List Nat), (∀ x ∈ l, T "_law_read" [enc (Tu.mk ps), enc (Tu.mk x), .int low] = .ok (rdv (f x)) ∧ (f x).1.length ≤ x.length) → acc.length + lsum l ≤ 100 → ∀ x1 x3 x4 x6 x7 x8,
    GoF T (.nm 6) lrB (l.map fun x => enc (Tu.mk x)) [.val (enc (Tu.mk ps)), x1, .val (.int low), x3, x4, .val (enc (Tu.mk acc)), x6, x7, x8] fun fl ρ => match rdL f l acc with
      | (o, none) => fl = .nx ∧ ∃ y6 y7 y8, ρ = [.val (enc (Tu.mk ps)), x1, .val (.int low), x3, x4, .val (enc (Tu.mk o)), y6, y7, y8]
      | (_, some s) => fl = .rt (rdv ([], some s))
  | [], acc, _, _, x1, x3, x4, x6, x7, x8 => gof_nil ⟨rfl, _, _, _, rfl⟩
  | x :: l, acc, h, hs, x1, x3, x4, x6, x7, x8 => by
    obtain ⟨h1, h2⟩ := h x List.mem_cons_self
    rw [lsum_cons] at hs
    rw [List.map_cons]
    refine gof_cons rfl ?_
    unfold lrB
    refine go_tp [enc (Tu.mk (f x).1), encO (f x).2] (by simp [h1]; rfl) rfl ?_
    unfold rdL
    cases e : f x with
    | mk o s =>
      rw [e] at h2
      simp only at h2
      cases s with
      | some s =>
        refine go_yes (by simp [encO]) ?_
        refine go_ret (rdv ([], some s)) (by simp [big]; rfl) (.inr ⟨by simp, .inr (.inr ⟨_, rfl, rfl⟩)⟩)
      | none =>
        refine go_no (by simp [encO]) ?_
        have ht := tu_app acc o (by omega)
        refine go_asg (enc (Tu.mk (acc ++ o))) (by simp [ht]) (go_skip (.inl ⟨rfl, ?_⟩))
        exact gof_lread l (acc ++ o) (fun y hy => h y (List.mem_cons_of_mem _ hy)) (by simp; omega) _ _ _ _ _ _
theorem rdL_some {f : List Nat → Rd2} : ∀ {l : List (List Nat)} {acc o s : List Nat}, rdL f l acc = (o, some s) → o = []
  | [], acc, o, s, e => by simp [rdL] at e
  | y :: l, acc, o, s, e => by
    unfold rdL at e
    split at e
    · simp at e; exact e.1
    · exact rdL_some e
def lwB : S := (.seq (.asg (.nm 4) (.call "_law_parts" (.cons (.var 0) (.cons (.var 1) (.cons (.var 3) .nil))))) (.seq (.ite (.cmp .gt (.bi .len (.cons (.var 4) .nil)) (.int 1)) (.seq (.asg (.nm 5) (.tup .nil)) (.seq (.for_ (.nm 6) (.iter (.var 4)) lrB) (.seq (.ret (.tup (.cons (.var 5) (.cons .non .nil)))) .skip))) .skip) .skip))
theorem lr_ir : d__law_read.ir = (.seq (.ite (.cmp .lt (.bi .len (.cons (.var 1) .nil)) (.int 2)) (.seq (.ret (.tup (.cons (.var 1) (.cons .non .nil)))) .skip) .skip) (.seq (.for_ (.nm 3) (.iter (.tup (.cons (.var 2) (.cons (.bin .sub (.int 1) (.var 2)) .nil)))) lwB) (.seq (.ret (.tup (.cons (.tup .nil) (.cons (.var 1) .nil)))) .skip))) := rfl
section
variable {ds : List Df} {ps : List Pn}
theorem r_lread (h1 : findD ds "_law_parts" = some d__law_parts) (h2 : findD ds "_law_read" = some d__law_read) : ∀ (n L : Nat) (part : List Nat) (low : Int), Part ps part → LoOk low → part.length ≤ n + 1 → Tb ds (L + n + 2) "_law_read" [enc (Tu.mk ps), enc (Tu.mk part), .int low] = .ok (rdv (rdF ps n part low)) := by
  intro n
  induction n with
  | zero =>
    intro L part low hp hl hn
    refine go_run h2 rfl ?_
    rw [lr_ir]
    simp only [d__law_read, List.map_cons, List.map_nil, List.length_cons, List.length_nil, Nat.reduceAdd, Nat.reduceSub, List.reduceReplicate, List.cons_append, List.nil_append]
    refine go_yes (by simp; omega) ?_
    exact go_ret (rdv (part, none)) (by simp [big]; rfl) (.inr ⟨by simp, rfl⟩)
  | succ n ih =>
    intro L part low hp hl hn
    refine go_run h2 rfl ?_
    rw [lr_ir]
    simp only [d__law_read, List.map_cons, List.map_nil, List.length_cons, List.length_nil, Nat.reduceAdd, Nat.reduceSub, List.reduceReplicate, List.cons_append, List.nil_append]
    unfold rdF
    by_cases hlt : part.length < 2
    · rw [if_pos hlt]
      refine go_yes (by simp; omega) ?_
      exact go_ret (rdv (part, none)) (by simp [big]; rfl) (.inr ⟨by simp, rfl⟩)
    · rw [if_neg hlt]
      refine go_no (by simp; omega) ?_
      have f1 : ∀ lw, LoOk lw → Tb ds (L + (n + 1) + 1) "_law_parts" [enc (Tu.mk ps), enc (Tu.mk part), .int lw] = .ok (enc ((pts ps lw part).map Tu.mk)) := fun lw hlw => r_lparts h1 (L + (n + 1)) hp hlw
      have pne : ∀ lw, 0 < (pts ps lw part).length := fun lw => List.length_pos_iff.mpr (scanA_sub (loN ps lw) (hiN ps lw) (rngI 1 20) part).1
      -- one turn
      have turn : ∀ lw, LoOk lw → (pts ps lw part).length ≠ 1 → ∀ x4 x5 x6 x7 x8, Go (Tb ds (L + (n + 1) + 1)) lwB [.val (enc (Tu.mk ps)), .val (enc (Tu.mk part)), .val (.int low), .val (.int lw), x4, x5, x6, x7, x8]
          fun f _ => f = .rt (rdv (rdL (fun x => rdF ps n x low) (pts ps lw part) [])) := fun lw hlw hne x4 x5 x6 x7 x8 => by
        have := pne lw
        unfold lwB
        refine go_asg (enc ((pts ps lw part).map Tu.mk)) (by simp [f1 lw hlw]) ?_
        simp only [List.set_cons_succ, List.set_cons_zero]
        refine go_yes (by simp [len_pts]; omega) ?_
        refine go_asg (enc (Tu.mk ([] : List Nat))) (by simp; rfl) ?_
        refine go_forF ((pts ps lw part).map fun x => enc (Tu.mk x)) (by rw [evI_iter]; simp; show nx (seqOf (.list _)) = _; simp [List.map_map, Function.comp_def]) ?_
        obtain ⟨s0, s1, s2⟩ := scanA_sub (loN ps lw) (hiN ps lw) (rngI 1 20) part
        have hsum := scanA_sum (loN ps lw) (hiN ps lw) (rngI 1 20) part
        have gr := gof_lread (T := Tb ds (L + (n + 1) + 1)) (f := fun x => rdF ps n x low) (ps := ps) (low := low) (pts ps lw part) [] (fun x hx => by
          have hsub := s1 x hx
          have hlt := s2 hne x hx
          exact ⟨ih L x low (hp.sub hsub) hl (by omega), rdF_le ps n x low⟩) (by
            have h8 := hp.1
            unfold pts
            rw [hsum]; simp; omega) (.val (enc (Tu.mk part))) (.val (.int lw)) (.val (enc ((pts ps lw part).map Tu.mk))) x6 x7 x8
        obtain ⟨fl, ρ', e1, q⟩ := gr
        refine ⟨fl, ρ', e1, ?_⟩
        cases e : rdL (fun x => rdF ps n x low) (pts ps lw part) [] with
        | mk o s =>
          rw [e] at q
          cases s with
          | none =>
            obtain ⟨rfl, y6, y7, y8, rfl⟩ := q
            exact .inl ⟨rfl, go_ret (rdv (o, none)) (by simp [big]; rfl) (.inr ⟨by simp, rfl⟩)⟩
          | some s =>
            have q : fl = .rt (rdv ([], some s)) := q
            subst q
            rw [rdL_some e]
            exact .inr ⟨by simp, .inr ⟨by simp, rfl⟩⟩
      have pass : ∀ lw, LoOk lw → (pts ps lw part).length = 1 → ∀ x4 x5 x6 x7 x8, Go (Tb ds (L + (n + 1) + 1)) lwB [.val (enc (Tu.mk ps)), .val (enc (Tu.mk part)), .val (.int low), .val (.int lw), x4, x5, x6, x7, x8]
          fun f ρ => f = .nx ∧ ∃ y4, ρ = [.val (enc (Tu.mk ps)), .val (enc (Tu.mk part)), .val (.int low), .val (.int lw), y4, x5, x6, x7, x8] := fun lw hlw he x4 x5 x6 x7 x8 => by
        unfold lwB
        refine go_asg (enc ((pts ps lw part).map Tu.mk)) (by simp [f1 lw hlw]) ?_
        simp only [List.set_cons_succ, List.set_cons_zero]
        exact go_no (by simp [len_pts, he]) (go_skip ⟨rfl, _, rfl⟩)
      refine go_forF [.int low, .int (1 - low)] (by simp [big]) ?_
      refine gof_cons rfl ?_
      by_cases h3 : (pts ps low part).length = 1
      · rw [if_pos h3]
        refine (pass low hl h3 _ _ _ _ _).imp ?_
        rintro f ρ ⟨rfl, y4, rfl⟩
        refine .inl ⟨rfl, gof_cons rfl ?_⟩
        by_cases h4 : (pts ps (1 - low) part).length = 1
        · rw [if_pos h4]
          refine (pass (1 - low) hl.other h4 _ _ _ _ _).imp ?_
          rintro f ρ ⟨rfl, y4, rfl⟩
          refine .inl ⟨rfl, gof_nil (.inl ⟨rfl, ?_⟩)⟩
          exact go_ret (rdv ([], some part)) (by simp [big]; rfl) rfl
        · rw [if_neg h4]
          refine (turn (1 - low) hl.other h4 _ _ _ _ _).imp ?_
          rintro f ρ rfl
          exact .inr (.inr ⟨_, rfl, .inr ⟨by simp, rfl⟩⟩)
      · rw [if_neg h3]
        refine (turn low hl h3 _ _ _ _ _).imp ?_
        rintro f ρ rfl
        exact .inr (.inr ⟨_, rfl, .inr ⟨by simp, rfl⟩⟩)
/-- the whole page as a part -/
theorem part_all {ps : List Pn} (h : ps.length ≤ 8) : Part ps (List.range ps.length) := ⟨by simpa using h, fun n hn => List.mem_range.mp hn⟩
def red (ps : List Pn) (low : Int) : Rd2 := rdF ps 7 (List.range ps.length) low
def redO (ps : List Pn) (low : Int) : Option (List Nat) := match (red ps low).2 with | none => some (red ps low).1 | some _ => none
theorem r_reading (h : HR ds) (g : Good8 ps) (L : Nat) {low : Int} (hl : LoOk low) : Tb ds (L + 11) "find_reading" [enc (Tu.mk ps), .int low] = .ok (encO (redO ps low)) := by
  refine go_run h.find_reading rfl ?_
  simp only [d_find_reading, List.map_cons, List.map_nil, List.length_cons, List.length_nil, Nat.reduceAdd, Nat.reduceSub, List.reduceReplicate, List.cons_append, List.nil_append]
  have hl8 := g.len
  have e1 : Tb ds (L + 10) "read_part" [enc (Tu.mk ps), enc (Tu.mk (List.range ps.length)), .int low] = .ok (rdv (red ps low)) := r_read h g.ok 7 L (List.range ps.length) low (part_all g.len) hl (by simp; omega)
  have e2 : ∀ x2 x3, ev (Tb ds (L + 10)) (.trg .nil (.bi .len (.cons (.var 0) .nil))) [.val (enc (Tu.mk ps)), .val (.int low), x2, x3] = .ok (enc (Tu.mk (List.range ps.length))) := fun x2 x3 => ev_trg0 (by simp) (by omega)
  refine go_tp [enc (Tu.mk (red ps low).1), encO (red ps low).2] (by rw [ev_call, evL_cons, evL_cons, evL_cons, evL_nil, e2]; simp [e1]; rfl) rfl ?_
  refine go_ret _ ?_ rfl
  unfold redO
  cases e : (red ps low).2 with
  | none => simp [encO]
  | some s => simp [encO]
theorem r_by_rows (h : HR ds) (hb : findD ds "by_rows" = some d_by_rows) (g : Good8 ps) (L : Nat) : Tb ds (L + 12) "by_rows" [enc (Tu.mk ps)] = .ok (encO (redO ps 1)) := by
  refine go_run hb rfl ?_
  simp only [d_by_rows, List.map_cons, List.map_nil, List.length_cons, List.length_nil, Nat.reduceAdd, Nat.reduceSub, List.reduceReplicate, List.cons_append, List.nil_append]
  refine go_expr .none (by simp [r_check_page h.toHP (L + 7) ps g.len g.ok g.ap]) ?_
  exact go_ret _ (by simp [r_reading h g L ⟨.inr rfl⟩]) rfl
theorem r_by_columns (h : HR ds) (hb : findD ds "by_columns" = some d_by_columns) (g : Good8 ps) (L : Nat) : Tb ds (L + 12) "by_columns" [enc (Tu.mk ps)] = .ok (encO (redO ps 0)) := by
  refine go_run hb rfl ?_
  simp only [d_by_columns, List.map_cons, List.map_nil, List.length_cons, List.length_nil, Nat.reduceAdd, Nat.reduceSub, List.reduceReplicate, List.cons_append, List.nil_append]
  refine go_expr .none (by simp [r_check_page h.toHP (L + 7) ps g.len g.ok g.ap]) ?_
  exact go_ret _ (by simp [r_reading h g L ⟨.inl rfl⟩]) rfl
theorem r_cuttable (h : HR ds) (hb : findD ds "is_cuttable" = some d_is_cuttable) (g : Good8 ps) (L : Nat) : Tb ds (L + 12) "is_cuttable" [enc (Tu.mk ps)] = .ok (.bool (red ps 1).2.isNone) := by
  refine go_run hb rfl ?_
  simp only [d_is_cuttable, List.map_cons, List.map_nil, List.length_cons, List.length_nil, Nat.reduceAdd, Nat.reduceSub, List.reduceReplicate, List.cons_append, List.nil_append]
  refine go_expr .none (by simp [r_check_page h.toHP (L + 7) ps g.len g.ok g.ap]) ?_
  refine go_ret _ ?_ rfl
  simp [r_reading h g L ⟨.inr rfl⟩]
  unfold redO
  cases e : (red ps 1).2 with
  | none => simp [encO]
  | some s => simp [encO]
theorem r_stuck (h : HR ds) (hb : findD ds "stuck_part" = some d_stuck_part) (g : Good8 ps) (L : Nat) : Tb ds (L + 11) "stuck_part" [enc (Tu.mk ps)] = .ok (encO (red ps 1).2) := by
  refine go_run hb rfl ?_
  simp only [d_stuck_part, List.map_cons, List.map_nil, List.length_cons, List.length_nil, Nat.reduceAdd, Nat.reduceSub, List.reduceReplicate, List.cons_append, List.nil_append]
  have hl8 := g.len
  refine go_expr .none (by simp [r_check_page h.toHP (L + 6) ps g.len g.ok g.ap]) ?_
  have e1 : Tb ds (L + 10) "read_part" [enc (Tu.mk ps), enc (Tu.mk (List.range ps.length)), .int 1] = .ok (rdv (red ps 1)) := r_read h g.ok 7 L (List.range ps.length) 1 (part_all g.len) ⟨.inr rfl⟩ (by simp; omega)
  have e2 : ev (Tb ds (L + 10)) (.trg .nil (.bi .len (.cons (.var 0) .nil))) [.val (enc (Tu.mk ps))] = .ok (enc (Tu.mk (List.range ps.length))) := ev_trg0 (by simp) (by omega)
  refine go_ret _ ?_ rfl
  rw [ev_idx, ev_call, evL_cons, evL_cons, evL_cons, evL_nil, e2]
  simp [e1]
  rfl
end
end Pi

set_option Elab.async false
set_option linter.all false
set_option maxRecDepth 100000
set_option maxHeartbeats 4000000
/-! C5: parts, checked. -/
namespace Pi
open PySem PySem.Spec PyProof.Rows L2
open Enc (enc)
theorem zipUp_enc {α β : Type} [Enc α] [Enc β] : ∀ (xs : List α) (ys : List β), zipUp (xs.map enc) (ys.map enc) = (xs.zip ys).map enc
  | [], _ => rfl
  | _ :: _, [] => rfl
  | x :: xs, y :: ys => by
    simp only [List.map_cons, zipUp, List.zip_cons_cons, zipUp_enc xs ys]
    rfl
theorem zip_lt : ∀ {xs : List Nat}, xs.Pairwise (· < ·) → ((xs.zip (xs.drop 1)).all fun q => decide (q.1 < q.2)) = true
  | [], _ => rfl
  | [_], _ => rfl
  | x :: y :: xs, h => by
    obtain ⟨h1, h2⟩ := List.pairwise_cons.mp h
    have ih := zip_lt h2
    simp only [List.drop_succ_cons, List.drop_zero, List.zip_cons_cons, List.all_cons, Bool.and_eq_true, decide_eq_true_eq] at ih ⊢
    exact ⟨h1 y List.mem_cons_self, ih⟩
theorem eq_tuN (zs : List Nat) : eqD (enc (Tu.mk zs)) (.tuple []) = .ok (decide (zs = [])) := by
  have h := eqD_enc (α := Tu Nat) (by decide) (Tu.mk zs) (Tu.mk [])
  rw [show (enc (Tu.mk ([] : List Nat)) : D) = .tuple [] from rfl] at h
  rw [h]; congr 1; simp
structure HK (ds : List Df) : Prop extends HR ds where
  check_part : findD ds "check_part" = some d_check_part
  row_parts : findD ds "row_parts" = some d_row_parts
  column_parts : findD ds "column_parts" = some d_column_parts
section
variable {ds : List Df} {ps : List Pn} {xs : List Nat}
theorem r_check_part (h : HK ds) (L : Nat) (g : Good8 ps) (hp : Part ps xs) (hne : xs ≠ []) (hs : xs.Pairwise (· < ·)) : Tb ds (L + 5) "check_part" [enc (Tu.mk ps), enc (Tu.mk xs)] = .ok .none := by
  rw [Tb_run h.check_part rfl, runD_eq]
  have g1 : Go (Tb ds (L + 4)) d_check_part.ir [.val (enc (Tu.mk ps)), .val (enc (Tu.mk xs)), .no, .no] fun f _ => f = .nx := by
    refine go_expr .none (by simp [r_check_page h.toHP L ps g.len g.ok g.ap]) ?_
    have hi : ∀ n ∈ xs, Tb ds (L + 4) "is_int" [.int (n : Nat), .int 0, .int ((ps.length : Int) - 1)] = .ok (.bool true) := fun n hn => by
      rw [r_is_int h.is_int (L + 3) _ _ _ rfl]
      have := hp.2 n hn
      have e : isInt (.int (n : Nat)) 0 ((ps.length : Int) - 1) = true := by simp [isInt]; omega
      rw [e]
    have ca : ev (Tb ds (L + 4)) (.bi .all (.cons (.comp [("one", 2)] (.nm 2) (.iter (.var 1)) .yes (.call "is_int" (.cons (.var 2) (.cons (.int 0) (.cons (.bin .sub (.bi .len (.cons (.var 0) .nil)) (.int 1)) .nil))))) .nil)) [.val (enc (Tu.mk ps)), .val (enc (Tu.mk xs)), .no, .no] = .ok (.bool (xs.all fun _ => true)) :=
      ev_allc (map_comp _ (it_tu (by simp)) fun n hn => ⟨_, rfl, by simp [enc_nat, hi n hn, enc_bool]⟩)
    have hat : (xs.all fun _ => true) = true := by simp
    have isT : isD (enc (Tu.mk xs)) .tuple = true := rfl
    refine go_no (by
      rw [ev_or, evO_cons, evO_cons, evO_one, ev_not, ev_not, ca]
      simp [eq_tuN, hne, hat]
      rfl) ?_
    have cz : ev (Tb ds (L + 4)) (.bi .all (.cons (.comp [("one", 2), ("other", 3)] (.tp [2, 3]) (.zip (.var 1) (.slc (.var 1) (.int 1) .nil)) .yes (.cmp .lt (.var 2) (.var 3))) .nil)) [.val (enc (Tu.mk ps)), .val (enc (Tu.mk xs)), .no, .no] = .ok (.bool ((xs.zip (xs.drop 1)).all fun q => decide (q.1 < q.2))) := by
      refine ev_allc (map_comp (α := Nat × Nat) _ ?_ fun q hq => ⟨_, pn_pair q.1 q.2 _ 2 3, ?_⟩)
      · have t2 : slD (enc (Tu.mk xs)) (some 1) none = .ok (enc (Tu.mk (xs.drop 1))) := tu_from xs 1
        rw [evI_zip]
        simp [t2, -List.drop_one]
        show R.ok (zipUp (xs.map enc) ((xs.drop 1).map enc)) = _
        rw [zipUp_enc]
      · simp [enc_bool]
    refine go_no (by rw [ev_not, cz, zip_lt hs]; simp) (go_skip rfl)
  obtain ⟨f, ρ', e, rfl⟩ := g1
  show outR (exS _ d_check_part.ir [.val (enc (Tu.mk ps)), .val (enc (Tu.mk xs)), .no, .no]) = _
  rw [e]
  rfl
theorem r_row_parts (h : HK ds) (L : Nat) (g : Good8 ps) (hp : Part ps xs) (hne : xs ≠ []) (hs : xs.Pairwise (· < ·)) : Tb ds (L + 6) "row_parts" [enc (Tu.mk ps), enc (Tu.mk xs)] = .ok (enc ((pts ps 1 xs).map Tu.mk)) := by
  refine go_run h.row_parts rfl ?_
  simp only [d_row_parts, List.map_cons, List.map_nil, List.length_cons, List.length_nil, Nat.reduceAdd, Nat.reduceSub, List.reduceReplicate, List.cons_append, List.nil_append]
  refine go_expr .none (by simp [r_check_part h L g hp hne hs]) ?_
  have e := r_find_parts h.toHC (L + 3) hp (low := 1) ⟨.inr rfl⟩
  rw [pts_eq hp g.ok ⟨.inr rfl⟩] at e
  exact go_ret _ (by simp [e]) rfl
theorem r_column_parts (h : HK ds) (L : Nat) (g : Good8 ps) (hp : Part ps xs) (hne : xs ≠ []) (hs : xs.Pairwise (· < ·)) : Tb ds (L + 6) "column_parts" [enc (Tu.mk ps), enc (Tu.mk xs)] = .ok (enc ((pts ps 0 xs).map Tu.mk)) := by
  refine go_run h.column_parts rfl ?_
  simp only [d_column_parts, List.map_cons, List.map_nil, List.length_cons, List.length_nil, Nat.reduceAdd, Nat.reduceSub, List.reduceReplicate, List.cons_append, List.nil_append]
  refine go_expr .none (by simp [r_check_part h L g hp hne hs]) ?_
  have e := r_find_parts h.toHC (L + 3) hp (low := 0) ⟨.inl rfl⟩
  rw [pts_eq hp g.ok ⟨.inl rfl⟩] at e
  exact go_ret _ (by simp [e]) rfl
def badParts (n : Nat) : List D := [.none, .tuple [], .list [.int 0], .tuple [.int 0, .int 0], .tuple [.int 1, .int 0], .tuple [.int (n : Nat)], .tuple [.int (-1)], .tuple [.bool true], .str "0"]
theorem r_check_part_bad (h : HK ds) (L : Nat) (g : Good8 ps) {d : D} (hd : d ∈ badParts ps.length) : Tb ds (L + 5) "check_part" [enc (Tu.mk ps), d] = .exc 4 := by
  have cp := r_check_page h.toHP L ps g.len g.ok g.ap
  have hi : ∀ v : D, noDict v = true → Tb ds (L + 4) "is_int" [v, .int 0, .int ((ps.length : Int) - 1)] = .ok (.bool (isInt v 0 ((ps.length : Int) - 1))) := fun v hv => r_is_int h.is_int (L + 3) _ _ _ hv
  have i1 := hi (.int 0) rfl
  have i2 := hi (.int 1) rfl
  have i3 := hi (.int (ps.length : Nat)) rfl
  have i4 := hi (.int (-1)) rfl
  have i5 := hi (.bool true) rfl
  have e0 : eqD (.tuple []) (.tuple []) = .ok true := rfl
  have e1 : eqD (.tuple [.int 0, .int 0]) (.tuple []) = .ok false := rfl
  have e2 : eqD (.tuple [.int 1, .int 0]) (.tuple []) = .ok false := rfl
  have e3 : eqD (.tuple [.int (ps.length : Nat)]) (.tuple []) = .ok false := rfl
  have e4 : eqD (.tuple [.int (-1)]) (.tuple []) = .ok false := rfl
  have e5 : eqD (.tuple [.bool true]) (.tuple []) = .ok false := rfl
  have c1 : cutD [.int 0, .int 0] (some 1) none = [.int 0] := rfl
  have c2 : cutD [.int 1, .int 0] (some 1) none = [.int 0] := rfl
  have n3 : isInt (.int (ps.length : Nat)) 0 ((ps.length : Int) - 1) = false := by simp [isInt]; omega
  have n4 : isInt (.int (-1)) 0 ((ps.length : Int) - 1) = false := by simp [isInt]
  have n5 : isInt (.bool true) 0 ((ps.length : Int) - 1) = false := rfl
  rw [n3] at i3
  rw [n4] at i4
  rw [n5] at i5
  rw [Tb_run h.check_part rfl, runD_eq]
  simp only [badParts, List.mem_cons, List.not_mem_nil, or_false] at hd
  rcases hd with rfl | rfl | rfl | rfl | rfl | rfl | rfl | rfl | rfl
  · simp [d_check_part, cp]
  · simp [d_check_part, cp, e0]
  · simp [d_check_part, cp]
  · cases b1 : isInt (.int 0) 0 ((ps.length : Int) - 1) <;> rw [b1] at i1 <;> simp [d_check_part, cp, e1, ev_comp, compGo, i1, asBools, c1, zipUp]
  · cases b1 : isInt (.int 0) 0 ((ps.length : Int) - 1) <;> cases b2 : isInt (.int 1) 0 ((ps.length : Int) - 1) <;> rw [b1] at i1 <;> rw [b2] at i2 <;> simp [d_check_part, cp, e2, ev_comp, compGo, i1, i2, asBools, c2, zipUp]
  · simp [d_check_part, cp, e3, ev_comp, compGo, i3, asBools]
  · simp [d_check_part, cp, e4, ev_comp, compGo, i4, asBools]
  · simp [d_check_part, cp, e5, ev_comp, compGo, i5, asBools]
  · simp [d_check_part, cp]
end
end Pi

set_option Elab.async false
set_option linter.all false
set_option maxRecDepth 100000
set_option maxHeartbeats 4000000
/-! T0: cutting: what cuts are, that all ways to cut end alike, that what is read so can be read. -/
namespace Pi
section
variable (lo hi : Nat → Int)
def Spl (c : Int) (xs : List Nat) : Prop := abv hi c xs ≠ [] ∧ blw lo c xs ≠ [] ∧ (abv hi c xs).length + (blw lo c xs).length = xs.length
end
section
variable {lo hi : Nat → Int}
theorem spl_iff {c : Int} {xs : List Nat} (ok : okI lo hi xs) : Spl lo hi c xs ↔ (∃ n ∈ xs, hi n ≤ c) ∧ (∃ n ∈ xs, c ≤ lo n) ∧ clr lo hi c xs := by
  unfold Spl
  rw [abv_ne, blw_ne, (sum_len ok).2]
theorem scan_yes {c : Int} {cs : List Int} {xs : List Nat} (h : Spl lo hi c xs) : scanA lo hi (c :: cs) xs = abv hi c xs :: scanA lo hi cs (blw lo c xs) := by
  unfold Spl at h
  rw [scanA, if_pos h]
theorem scan_no {c : Int} {cs : List Int} {xs : List Nat} (h : ¬ Spl lo hi c xs) : scanA lo hi (c :: cs) xs = scanA lo hi cs xs := by
  unfold Spl at h
  rw [scanA, if_neg h]
theorem scan_one : ∀ (cs : List Int) (xs : List Nat), ((scanA lo hi cs xs).length = 1 ↔ ∀ c ∈ cs, ¬ Spl lo hi c xs) ∧ ((∀ c ∈ cs, ¬ Spl lo hi c xs) → scanA lo hi cs xs = [xs])
  | [], xs => ⟨⟨fun _ c hc => (by cases hc), fun _ => rfl⟩, fun _ => rfl⟩
  | c :: cs, xs => by
    obtain ⟨h1, h2⟩ := scan_one cs xs
    by_cases h : Spl lo hi c xs
    · rw [scan_yes h]
      refine ⟨⟨fun e => ?_, fun e => (e c List.mem_cons_self h).elim⟩, fun e => (e c List.mem_cons_self h).elim⟩
      have := (scanA_sub (lo := lo) (hi := hi) cs (blw lo c xs)).1
      have := List.length_pos_iff.mpr this
      simp only [List.length_cons] at e
      omega
    · rw [scan_no h]
      refine ⟨⟨fun e c' hc' => ?_, fun e => h1.mpr fun c' hc' => e c' (List.mem_cons_of_mem _ hc')⟩, fun e => h2 fun c' hc' => e c' (List.mem_cons_of_mem _ hc')⟩
      rcases List.mem_cons.mp hc' with rfl | hc'
      · exact h
      · exact h1.mp e c' hc'
theorem part_perm {c : Int} {xs : List Nat} (ok : okI lo hi xs) (h : Spl lo hi c xs) : (abv hi c xs ++ blw lo c xs).Perm xs := by
  have hc := ((spl_iff ok).mp h).2.2
  have e : blw lo c xs = xs.filter fun n => !decide (hi n ≤ c) := by
    unfold blw
    refine List.filter_congr fun n hn => ?_
    have h1 := ok n hn
    have h2 := hc n hn
    rw [Bool.eq_iff_iff, decide_eq_true_eq, Bool.not_eq_true', decide_eq_false_iff_not]
    omega
  rw [e]
  exact List.filter_append_perm _ xs
theorem ok_abv {c : Int} {xs : List Nat} (ok : okI lo hi xs) : okI lo hi (abv hi c xs) := ok.sub fun n hn => (mem_abv.mp hn).1
theorem ok_blw {c : Int} {xs : List Nat} (ok : okI lo hi xs) : okI lo hi (blw lo c xs) := ok.sub fun n hn => (mem_blw.mp hn).1
theorem scan_perm : ∀ (cs : List Int) (xs : List Nat), okI lo hi xs → (scanA lo hi cs xs).flatten.Perm xs
  | [], xs, _ => by simp [scanA]
  | c :: cs, xs, ok => by
    by_cases h : Spl lo hi c xs
    · rw [scan_yes h, List.flatten_cons]
      exact (List.Perm.append_left _ (scan_perm cs _ (ok_blw ok))).trans (part_perm ok h)
    · rw [scan_no h]
      exact scan_perm cs xs ok
theorem scan_ord : ∀ (cs : List Int) (xs : List Nat), (scanA lo hi cs xs).Pairwise fun p q => ∀ a ∈ p, ∀ b ∈ q, hi a ≤ lo b
  | [], xs => by simp [scanA]
  | c :: cs, xs => by
    by_cases h : Spl lo hi c xs
    · rw [scan_yes h]
      refine List.pairwise_cons.mpr ⟨fun q hq a ha b hb => ?_, scan_ord cs _⟩
      have h1 := (mem_abv.mp ha).2
      have h2 := (mem_blw.mp (((scanA_sub (lo := lo) (hi := hi) cs (blw lo c xs)).2.1 q hq).subset hb)).2
      omega
    · rw [scan_no h]
      exact scan_ord cs xs
theorem scan_ne : ∀ (cs : List Int) (xs : List Nat), xs ≠ [] → ∀ p ∈ scanA lo hi cs xs, p ≠ []
  | [], xs, h, p, hp => by
    rw [scanA, List.mem_singleton] at hp
    rw [hp]; exact h
  | c :: cs, xs, hx, p, hp => by
    by_cases h : Spl lo hi c xs
    · rw [scan_yes h] at hp
      rcases List.mem_cons.mp hp with rfl | hp
      · exact h.1
      · exact scan_ne cs _ h.2.1 p hp
    · rw [scan_no h] at hp
      exact scan_ne cs xs hx p hp
theorem spl_up {c : Int} : ∀ (cs : List Int) (xs p : List Nat), okI lo hi xs → (∀ c' ∈ cs, c < c') → p ∈ scanA lo hi cs xs → Spl lo hi c p → Spl lo hi c xs
  | [], xs, p, _, _, hp, hs => by
    rw [scanA, List.mem_singleton] at hp
    rw [← hp]; exact hs
  | c1 :: cs, xs, p, ok, hc, hp, hs => by
    by_cases h : Spl lo hi c1 xs
    · rw [scan_yes h] at hp
      have hlt := hc c1 List.mem_cons_self
      rcases List.mem_cons.mp hp with rfl | hp
      · obtain ⟨⟨n, hn, h1⟩, ⟨m, hm, h2⟩, h3⟩ := (spl_iff (ok_abv ok)).mp hs
        refine (spl_iff ok).mpr ⟨⟨n, (mem_abv.mp hn).1, h1⟩, ⟨m, (mem_abv.mp hm).1, h2⟩, fun k hk => ?_⟩
        rcases ((spl_iff ok).mp h).2.2 k hk with q | q
        · exact h3 k (mem_abv.mpr ⟨hk, q⟩)
        · exact .inr (by omega)
      · have := spl_up cs _ p (ok_blw ok) (fun c' hc' => hc c' (List.mem_cons_of_mem _ hc')) hp hs
        obtain ⟨⟨n, hn, h1⟩, _⟩ := (spl_iff (ok_blw ok)).mp this
        obtain ⟨q1, q2⟩ := mem_blw.mp hn
        have := ok n q1
        omega
    · rw [scan_no h] at hp
      exact spl_up cs xs p ok (fun c' hc' => hc c' (List.mem_cons_of_mem _ hc')) hp hs
theorem scan_stable : ∀ (cs : List Int) (xs : List Nat), okI lo hi xs → cs.Pairwise (· < ·) → ∀ p ∈ scanA lo hi cs xs, ∀ c ∈ cs, ¬ Spl lo hi c p
  | [], xs, _, _, p, _, c, hc => by cases hc
  | c1 :: cs, xs, ok, hp0, p, hp, c, hc => by
    obtain ⟨g1, g2⟩ := List.pairwise_cons.mp hp0
    intro hs
    by_cases h : Spl lo hi c1 xs
    · rw [scan_yes h] at hp
      rcases List.mem_cons.mp hp with rfl | hp
      · obtain ⟨_, ⟨m, hm, h2⟩, _⟩ := (spl_iff (ok_abv ok)).mp hs
        obtain ⟨q1, q2⟩ := mem_abv.mp hm
        have := ok m q1
        rcases List.mem_cons.mp hc with rfl | hc
        · omega
        · have := g1 c hc; omega
      · rcases List.mem_cons.mp hc with rfl | hc
        · have sub := (scanA_sub (lo := lo) (hi := hi) cs (blw lo c xs)).2.1 p hp
          have okp : okI lo hi p := ok.sub fun n hn => (mem_blw.mp (sub.subset hn)).1
          obtain ⟨⟨n, hn, h1⟩, _⟩ := (spl_iff okp).mp hs
          have := (mem_blw.mp (sub.subset hn)).2
          have := okp n hn
          omega
        · exact scan_stable cs _ (ok_blw ok) g2 p hp c hc hs
    · rw [scan_no h] at hp
      rcases List.mem_cons.mp hc with rfl | hc
      · exact h (spl_up cs xs p ok g1 hp hs)
      · exact scan_stable cs xs ok g2 p hp c hc hs
end
/-! ### parts of a page -/
section
variable {ps : List Pn}
theorem pts_one {low : Int} {xs : List Nat} : ((pts ps low xs).length = 1 ↔ ∀ c ∈ rngI 1 20, ¬ Spl (loN ps low) (hiN ps low) c xs) ∧ ((∀ c ∈ rngI 1 20, ¬ Spl (loN ps low) (hiN ps low) c xs) → pts ps low xs = [xs]) := scan_one _ _
theorem pts_self {low : Int} {xs : List Nat} (h : (pts ps low xs).length = 1) : pts ps low xs = [xs] := pts_one.2 (pts_one.1.mp h)
theorem pts_stable {low : Int} {xs : List Nat} (ok : okI (loN ps low) (hiN ps low) xs) {p : List Nat} (hp : p ∈ pts ps low xs) : pts ps low p = [p] := pts_one.2 fun c hc => scan_stable _ xs ok (rngI_sorted 1 20) p hp c hc
inductive Cz (ps : List Pn) : List Nat → Prop
  | small {xs : List Nat} : xs.length ≤ 1 → Cz ps xs
  | cut {xs : List Nat} (low c : Int) : LoOk low → c ∈ rngI 1 20 → Spl (loN ps low) (hiN ps low) c xs → Cz ps (abv (hiN ps low) c xs) → Cz ps (blw (loN ps low) c xs) → Cz ps xs
theorem cz_sub (g : ∀ p ∈ ps, p.Ok) {xs : List Nat} (h : Cz ps xs) : ∀ {ys : List Nat}, Part ps xs → ys.Sublist xs → Cz ps ys := by
  induction h with
  | small h => exact fun _ s => .small (Nat.le_trans s.length_le h)
  | @cut xs low c hl hc hs h1 h2 i1 i2 =>
    intro ys hp s
    have ok := hp.okI g hl
    have oky := (hp.sub s).okI g hl
    have pa : Part ps (abv (hiN ps low) c xs) := hp.sub List.filter_sublist
    have pb : Part ps (blw (loN ps low) c xs) := hp.sub List.filter_sublist
    have sa : (abv (hiN ps low) c ys).Sublist (abv (hiN ps low) c xs) := s.filter _
    have sb : (blw (loN ps low) c ys).Sublist (blw (loN ps low) c xs) := s.filter _
    have cl := ((spl_iff ok).mp hs).2.2
    by_cases ea : abv (hiN ps low) c ys = []
    · have : blw (loN ps low) c ys = ys := List.filter_eq_self.mpr fun n hn => by
        rcases cl n (s.subset hn) with q | q
        · have : n ∈ abv (hiN ps low) c ys := mem_abv.mpr ⟨hn, q⟩
          rw [ea] at this; cases this
        · exact decide_eq_true q
      rw [this] at sb
      exact i2 pb sb
    · by_cases eb : blw (loN ps low) c ys = []
      · have : abv (hiN ps low) c ys = ys := List.filter_eq_self.mpr fun n hn => by
          rcases cl n (s.subset hn) with q | q
          · exact decide_eq_true q
          · have : n ∈ blw (loN ps low) c ys := mem_blw.mpr ⟨hn, q⟩
            rw [eb] at this; cases this
        rw [this] at sa
        exact i1 pa sa
      · refine .cut low c hl hc ((spl_iff oky).mpr ⟨abv_ne.mp ea, blw_ne.mp eb, fun n hn => cl n (s.subset hn)⟩) (i1 pa sa) (i2 pb sb)
theorem scan_cz {low : Int} (hl : LoOk low) : ∀ (cs : List Int) (xs : List Nat), (∀ c ∈ cs, c ∈ rngI 1 20) → (∀ p ∈ scanA (loN ps low) (hiN ps low) cs xs, Cz ps p) → Cz ps xs
  | [], xs, _, h => h xs (by simp [scanA])
  | c :: cs, xs, hc, h => by
    by_cases hs : Spl (loN ps low) (hiN ps low) c xs
    · rw [scan_yes hs] at h
      exact .cut low c hl (hc c List.mem_cons_self) hs (h _ List.mem_cons_self) (scan_cz hl cs _ (fun c' h' => hc c' (List.mem_cons_of_mem _ h')) fun p hp => h p (List.mem_cons_of_mem _ hp))
    · rw [scan_no hs] at h
      exact scan_cz hl cs xs (fun c' h' => hc c' (List.mem_cons_of_mem _ h')) h
theorem rdL_none {f : List Nat → Rd2} : ∀ {l : List (List Nat)} {acc : List Nat}, (rdL f l acc).2 = none → (∀ x ∈ l, (f x).2 = none) ∧ (rdL f l acc).1 = acc ++ (l.map fun x => (f x).1).flatten
  | [], acc, _ => ⟨fun x hx => (by cases hx), by simp [rdL]⟩
  | x :: l, acc, h => by
    unfold rdL at h ⊢
    cases e : f x with
    | mk o s =>
      rw [e] at h
      cases s with
      | some s => cases h
      | none =>
        simp only at h ⊢
        obtain ⟨h1, h2⟩ := rdL_none h
        refine ⟨fun y hy => ?_, ?_⟩
        · rcases List.mem_cons.mp hy with rfl | hy
          · rw [e]
          · exact h1 y hy
        · rw [h2, List.map_cons, List.flatten_cons, e, List.append_assoc]
theorem rdL_all {f : List Nat → Rd2} : ∀ {l : List (List Nat)} {acc : List Nat}, (∀ x ∈ l, (f x).2 = none) → (rdL f l acc).2 = none
  | [], acc, _ => rfl
  | x :: l, acc, h => by
    unfold rdL
    have := h x List.mem_cons_self
    cases e : f x with
    | mk o s =>
      rw [e] at this
      simp only at this
      subst this
      exact rdL_all fun y hy => h y (List.mem_cons_of_mem _ hy)
theorem rdL_stuck {f : List Nat → Rd2} {s : List Nat} : ∀ {l : List (List Nat)} {acc : List Nat}, (rdL f l acc).2 = some s → ∃ x ∈ l, (f x).2 = some s
  | [], acc, h => by cases h
  | x :: l, acc, h => by
    unfold rdL at h
    cases e : f x with
    | mk o t =>
      rw [e] at h
      cases t with
      | some t =>
        simp only [Option.some.injEq] at h
        subst h
        exact ⟨x, List.mem_cons_self, by rw [e]⟩
      | none =>
        obtain ⟨y, hy, h2⟩ := rdL_stuck h
        exact ⟨y, List.mem_cons_of_mem _ hy, h2⟩
/-- one step -/
theorem rd_step (n : Nat) (part : List Nat) (low : Int) (h2 : ¬ part.length < 2) : (((pts ps low part).length = 1 ∧ (pts ps (1 - low) part).length = 1) ∧ rdF ps (n + 1) part low = ([], some part)) ∨ ∃ low', (low' = low ∨ low' = 1 - low) ∧ (pts ps low' part).length ≠ 1 ∧ rdF ps (n + 1) part low = rdL (fun x => rdF ps n x low) (pts ps low' part) [] := by
  by_cases e1 : (pts ps low part).length = 1
  · by_cases e2 : (pts ps (1 - low) part).length = 1
    · exact .inl ⟨⟨e1, e2⟩, by rw [rdF, if_neg h2, if_pos e1, if_pos e2]⟩
    · exact .inr ⟨1 - low, .inr rfl, e2, by rw [rdF, if_neg h2, if_pos e1, if_neg e2]⟩
  · exact .inr ⟨low, .inl rfl, e1, by rw [rdF, if_neg h2, if_neg e1]⟩
theorem lo_or {low low' : Int} (h : LoOk low) (e : low' = low ∨ low' = 1 - low) : LoOk low' := by
  rcases e with rfl | rfl
  · exact h
  · exact h.other
theorem rd_cz (g : ∀ p ∈ ps, p.Ok) : ∀ (n : Nat) (part : List Nat) (low : Int), Part ps part → LoOk low → part.length ≤ n + 1 → ((rdF ps n part low).2 = none ↔ Cz ps part)
  | 0, part, low, hp, hl, hn => ⟨fun _ => .small (by omega), fun _ => rfl⟩
  | n + 1, part, low, hp, hl, hn => by
    by_cases h2 : part.length < 2
    · rw [rdF, if_pos h2]
      exact ⟨fun _ => .small (by omega), fun _ => rfl⟩
    · rcases rd_step (ps := ps) n part low h2 with ⟨⟨e1, e2⟩, er⟩ | ⟨low', hlow, hne, er⟩
      · rw [er]
        refine ⟨fun h => (by cases h), fun h => ?_⟩
        cases h with
        | small h => omega
        | cut low' c hl' hc hs _ _ =>
          have : low' = low ∨ low' = 1 - low := by
            have := hl.h
            have := hl'.h
            omega
          rcases this with rfl | rfl
          · exact ((pts_one.1.mp e1) c hc hs).elim
          · exact ((pts_one.1.mp e2) c hc hs).elim
      · rw [er]
        have hl' := lo_or hl hlow
        have sub := scanA_sub (lo := loN ps low') (hi := hiN ps low') (rngI 1 20) part
        have key : ∀ x ∈ pts ps low' part, ((rdF ps n x low).2 = none ↔ Cz ps x) := fun x hx => rd_cz g n x low (hp.sub (sub.2.1 x hx)) hl (by
          have := sub.2.2 hne x hx
          omega)
        constructor
        · intro h
          have := (rdL_none h).1
          exact scan_cz hl' _ part (fun c hc => hc) fun p hpp => (key p hpp).mp (this p hpp)
        · intro h
          exact rdL_all fun x hx => (key x hx).mpr (cz_sub g h hp (sub.2.1 x hx))
theorem rd_stuck : ∀ (n : Nat) (part : List Nat) (low : Int) (s : List Nat), (rdF ps n part low).2 = some s → s.Sublist part ∧ 2 ≤ s.length ∧ (pts ps low s).length = 1 ∧ (pts ps (1 - low) s).length = 1
  | 0, part, low, s, h => by cases h
  | n + 1, part, low, s, h => by
    by_cases h2 : part.length < 2
    · rw [rdF, if_pos h2] at h; cases h
    · rcases rd_step (ps := ps) n part low h2 with ⟨⟨e1, e2⟩, er⟩ | ⟨low', hlow, hne, er⟩
      · rw [er] at h
        simp only [Option.some.injEq] at h
        subst h
        exact ⟨List.Sublist.refl _, by omega, e1, e2⟩
      · rw [er] at h
        obtain ⟨x, hx, hs⟩ := rdL_stuck h
        obtain ⟨q1, q2⟩ := rd_stuck n x low s hs
        exact ⟨q1.trans ((scanA_sub (lo := loN ps low') (hi := hiN ps low') (rngI 1 20) part).2.1 x hx), q2⟩
theorem later_no (g : ∀ p ∈ ps, p.Ok) {low : Int} (hl : LoOk low) {a b : Nat} (h : hiN ps low a ≤ loN ps low b) : (b, a) ∉ prs ps := fun hm => by
  obtain ⟨hb, ha, e⟩ := (prs_mem ps b a).mp hm
  have hpa : ps[a]? = some ps[a] := List.getElem?_eq_getElem ha
  have hpb : ps[b]? = some ps[b] := List.getElem?_eq_getElem hb
  rw [befAt_some hpb hpa] at e
  have oa := g _ (List.mem_of_getElem? hpa)
  have ob := g _ (List.mem_of_getElem? hpb)
  unfold hiN loN at h
  rw [hpa, hpb] at h
  simp only at h
  generalize ps[a] = p at h oa e
  generalize ps[b] = q at h ob e
  obtain ⟨a1, a2, a3, a4, a5, a6⟩ := oa
  obtain ⟨b1, b2, b3, b4, b5, b6⟩ := ob
  unfold bef shH shW at e
  simp only [Bool.or_eq_true, Bool.and_eq_true, decide_eq_true_eq] at e
  have hl' := hl.h
  unfold hiP loP at h
  rcases hl' with rfl | rfl
  · simp only [if_true] at h
    omega
  · rw [if_neg (by omega), if_neg (by omega)] at h
    omega
theorem rd_pw (g : ∀ p ∈ ps, p.Ok) : ∀ (n : Nat) (part : List Nat) (low : Int), Part ps part → LoOk low → part.length ≤ n + 1 → (rdF ps n part low).2 = none → (rdF ps n part low).1.Perm part ∧ Pw (prs ps) (rdF ps n part low).1
  | 0, part, low, hp, hl, hn, h => ⟨List.Perm.refl _, by
      show Pw (prs ps) part
      unfold Pw
      match part, hn with
      | [], _ => exact .nil
      | [x], _ => simp⟩
  | n + 1, part, low, hp, hl, hn, h => by
    by_cases h2 : part.length < 2
    · rw [rdF, if_pos h2]
      refine ⟨List.Perm.refl _, ?_⟩
      unfold Pw
      match part, h2 with
      | [], _ => exact .nil
      | [x], _ => simp
    · rcases rd_step (ps := ps) n part low h2 with ⟨_, er⟩ | ⟨low', hlow, hne, er⟩
      · rw [er] at h; cases h
      · rw [er] at h ⊢
        have hl' := lo_or hl hlow
        have sub := scanA_sub (lo := loN ps low') (hi := hiN ps low') (rngI 1 20) part
        obtain ⟨h3, h4⟩ := rdL_none h
        rw [h4, List.nil_append]
        have key : ∀ x ∈ pts ps low' part, (rdF ps n x low).1.Perm x ∧ Pw (prs ps) (rdF ps n x low).1 := fun x hx => rd_pw g n x low (hp.sub (sub.2.1 x hx)) hl (by
          have := sub.2.2 hne x hx
          omega) (h3 x hx)
        constructor
        · have e1 : ((pts ps low' part).map fun x => (rdF ps n x low).1).flatten.Perm (pts ps low' part).flatten := by
            have : ∀ l : List (List Nat), (∀ x ∈ l, (rdF ps n x low).1.Perm x) → (l.map fun x => (rdF ps n x low).1).flatten.Perm l.flatten := by
              intro l
              induction l with
              | nil => exact fun _ => List.Perm.refl _
              | cons y l ih =>
                intro hy
                rw [List.map_cons, List.flatten_cons, List.flatten_cons]
                exact (hy y List.mem_cons_self).append (ih fun z hz => hy z (List.mem_cons_of_mem _ hz))
            exact this _ fun x hx => (key x hx).1
          exact e1.trans (scan_perm _ part (hp.okI g hl'))
        · unfold Pw
          rw [List.pairwise_flatten]
          constructor
          · intro l hl2
            obtain ⟨x, hx, rfl⟩ := List.mem_map.mp hl2
            exact (key x hx).2
          · refine List.pairwise_map.mpr (List.Pairwise.imp_of_mem ?_ (scan_ord (rngI 1 20) part))
            intro p q hp1 hq1 hpq a ha b hb
            exact later_no g hl' (hpq a ((key p hp1).1.mem_iff.mp ha) b ((key q hq1).1.mem_iff.mp hb))
end
end Pi

set_option Elab.async false
set_option linter.all false
set_option maxRecDepth 100000
set_option maxHeartbeats 4000000
/-! T1: turned pages, parts taken alone, small parts. -/
namespace Pi
section
variable {ps : List Pn}
theorem loN_tr {low : Int} (hl : LoOk low) (n : Nat) : loN (ps.map tr) low n = loN ps (1 - low) n ∧ hiN (ps.map tr) low n = hiN ps (1 - low) n := by
  unfold loN hiN
  rw [List.getElem?_map]
  cases ps[n]? with
  | none => exact ⟨rfl, rfl⟩
  | some p =>
    have := hl.h
    unfold loP hiP tr
    rcases this with rfl | rfl
    · exact ⟨by simp, by simp⟩
    · exact ⟨by simp, by simp⟩
theorem pts_tr {low : Int} (hl : LoOk low) (xs : List Nat) : pts (ps.map tr) low xs = pts ps (1 - low) xs := by
  unfold pts
  rw [show loN (ps.map tr) low = loN ps (1 - low) from funext fun n => (loN_tr hl n).1, show hiN (ps.map tr) low = hiN ps (1 - low) from funext fun n => (loN_tr hl n).2]
theorem rd_tr : ∀ (n : Nat) (part : List Nat) {low : Int}, LoOk low → rdF (ps.map tr) n part low = rdF ps n part (1 - low)
  | 0, part, low, hl => rfl
  | n + 1, part, low, hl => by
    have e : (1 - (1 - low)) = low := by omega
    have e2 : pts (ps.map tr) (1 - low) part = pts ps low part := by rw [pts_tr hl.other, e]
    have e3 : (fun x => rdF (ps.map tr) n x low) = fun x => rdF ps n x (1 - low) := funext fun x => rd_tr n x hl
    rw [rdF, rdF, pts_tr hl, e2, e, e3]
/-! ### a part taken alone -/
theorem fm_congr {α β : Type} {f g : α → Option β} : ∀ {l : List α}, (∀ x ∈ l, f x = g x) → l.filterMap f = l.filterMap g
  | [], _ => rfl
  | x :: l, h => by
    rw [List.filterMap_cons, List.filterMap_cons, h x List.mem_cons_self, fm_congr fun y hy => h y (List.mem_cons_of_mem _ hy)]
def sbP (ps : List Pn) (s : List Nat) : List Pn := s.filterMap fun n => ps[n]?
theorem sb_at : ∀ {s : List Nat}, (∀ n ∈ s, n < ps.length) → (sbP ps s).length = s.length ∧ ∀ k : Nat, (sbP ps s)[k]? = s[k]?.bind fun n => ps[n]?
  | [], _ => ⟨rfl, fun k => by simp [sbP]⟩
  | n :: s, h => by
    obtain ⟨h1, h2⟩ := sb_at (s := s) fun m hm => h m (List.mem_cons_of_mem _ hm)
    have hlt : n < ps.length := h n List.mem_cons_self
    have hn : ps[n]? = some ps[n] := List.getElem?_eq_getElem hlt
    have e : sbP ps (n :: s) = ps[n] :: sbP ps s := by
      unfold sbP
      rw [List.filterMap_cons, hn]
    rw [e]
    refine ⟨by simp [h1], fun k => ?_⟩
    cases k with
    | zero => simp [hn]
    | succ k => simpa using h2 k
theorem sb_lo {s : List Nat} (h : ∀ n ∈ s, n < ps.length) {low : Int} {k n : Nat} (e : s[k]? = some n) : loN (sbP ps s) low k = loN ps low n ∧ hiN (sbP ps s) low k = hiN ps low n := by
  unfold loN hiN
  rw [(sb_at h).2 k, e]
  exact ⟨rfl, rfl⟩
theorem sb_sub {s : List Nat} (hs : s.Pairwise (· < ·)) : (sbP ps s).Sublist ps := by
  have go : ∀ (l : List Pn) (off : Nat) (s : List Nat), s.Pairwise (· < ·) → (∀ n ∈ s, off ≤ n) → (s.filterMap fun n => l[n - off]?).Sublist l := by
    intro l
    induction l with
    | nil =>
      intro off s _ _
      have : (s.filterMap fun n => ([] : List Pn)[n - off]?) = [] := List.filterMap_eq_nil_iff.mpr fun n _ => by simp
      rw [this]
      exact List.Sublist.refl _
    | cons x l ih =>
      intro off s hs ho
      cases s with
      | nil => exact List.nil_sublist _
      | cons n s =>
        obtain ⟨g1, g2⟩ := List.pairwise_cons.mp hs
        have hn := ho n List.mem_cons_self
        have later : ∀ m ∈ s, off + 1 ≤ m := fun m hm => by have := g1 m hm; omega
        have e1 : (s.filterMap fun m => (x :: l)[m - off]?) = s.filterMap fun m => l[m - (off + 1)]? := by
          refine fm_congr fun m hm => ?_
          have := later m hm
          rw [show m - off = (m - (off + 1)) + 1 by omega]
          rfl
        by_cases e : n = off
        · subst e
          rw [List.filterMap_cons, Nat.sub_self]
          show (x :: (s.filterMap fun m => (x :: l)[m - n]?)).Sublist (x :: l)
          rw [e1]
          exact (ih (n + 1) s g2 later).cons_cons x
        · have e2 : ((n :: s).filterMap fun m => (x :: l)[m - off]?) = (n :: s).filterMap fun m => l[m - (off + 1)]? := by
            refine fm_congr fun m hm => ?_
            have : off + 1 ≤ m := by
              rcases List.mem_cons.mp hm with rfl | hm
              · omega
              · exact later m hm
            rw [show m - off = (m - (off + 1)) + 1 by omega]
            rfl
          rw [e2]
          exact (ih (off + 1) (n :: s) hs (fun m hm => by
            rcases List.mem_cons.mp hm with rfl | hm
            · omega
            · exact later m hm)).cons x
  exact go ps 0 s hs (fun n _ => Nat.zero_le _)
theorem sb_good {s : List Nat} (g : Good8 ps) (hs : s.Pairwise (· < ·)) : Good8 (sbP ps s) := by
  have sub := sb_sub (ps := ps) hs
  exact ⟨Nat.le_trans sub.length_le g.len, fun p hp => g.ok p (sub.subset hp), (apart_iff _).mpr (((apart_iff ps).mp g.ap).sublist sub)⟩
theorem sb_pts {s : List Nat} (g : Good8 ps) (hp : Part ps s) (hs : s.Pairwise (· < ·)) {low : Int} (hl : LoOk low) (h : (pts ps low s).length = 1) : (pts (sbP ps s) low (List.range (sbP ps s).length)).length = 1 := by
  have g' := sb_good g hs
  obtain ⟨hlen, _⟩ := sb_at (ps := ps) (s := s) hp.2
  have pa : Part (sbP ps s) (List.range (sbP ps s).length) := part_all g'.len
  have ok1 := pa.okI g'.ok hl
  have ok2 := hp.okI g.ok hl
  refine pts_one.1.mpr fun c hc hsp => (pts_one.1.mp h) c hc ?_
  obtain ⟨⟨a, ha, h1⟩, ⟨b, hb, h2⟩, h3⟩ := (spl_iff ok1).mp hsp
  have at_ : ∀ k ∈ List.range (sbP ps s).length, ∃ n ∈ s, loN (sbP ps s) low k = loN ps low n ∧ hiN (sbP ps s) low k = hiN ps low n := fun k hk => by
    have hk' : k < s.length := by rw [← hlen]; exact List.mem_range.mp hk
    exact ⟨s[k], List.getElem_mem hk', sb_lo hp.2 (List.getElem?_eq_getElem hk')⟩
  obtain ⟨n, hn, _, e1⟩ := at_ a ha
  obtain ⟨m, hm, e2, _⟩ := at_ b hb
  refine (spl_iff ok2).mpr ⟨⟨n, hn, by rw [← e1]; exact h1⟩, ⟨m, hm, by rw [← e2]; exact h2⟩, fun j hj => ?_⟩
  obtain ⟨k, hk, ek⟩ := List.mem_iff_getElem.mp hj
  have := h3 k (List.mem_range.mpr (by rw [hlen]; exact hk))
  obtain ⟨q1, q2⟩ := sb_lo (ps := ps) (low := low) hp.2 (List.getElem?_eq_getElem hk)
  rw [q1, q2, ek] at this
  exact this
/-! ### two or three panels can be cut -/
theorem few_cut (g : Good8 ps) {s : List Nat} (hp : Part ps s) (hs : s.Pairwise (· < ·)) (h2 : 2 ≤ s.length) (h3 : s.length ≤ 3) : ∃ low, LoOk low ∧ (pts ps low s).length ≠ 1 := by
  have ap := (apart_iff ps).mp g.ap
  have key : ∀ (low c : Int), LoOk low → (∃ n ∈ s, loN ps low n = c) → (∃ n ∈ s, hiN ps low n ≤ c) → (∀ n ∈ s, hiN ps low n ≤ c ∨ c ≤ loN ps low n) → ∃ low, LoOk low ∧ (pts ps low s).length ≠ 1 := fun low c hl ⟨n, hn, e⟩ ⟨m, hm, h1⟩ hcl => by
    have ok := hp.okI g.ok hl
    refine ⟨low, hl, fun z => (pts_one.1.mp z) c ?_ ((spl_iff ok).mpr ⟨⟨m, hm, h1⟩, ⟨n, hn, by omega⟩, hcl⟩)⟩
    have o1 := ok n hn
    have o2 := ok m hm
    rw [mem_rngI]
    omega
  have l0 : LoOk 0 := ⟨.inl rfl⟩
  have l1 : LoOk 1 := ⟨.inr rfl⟩
  have lo0 : ∀ {n : Nat} {p : Pn}, ps[n]? = some p → loN ps 0 n = p.l ∧ hiN ps 0 n = p.r ∧ loN ps 1 n = p.t ∧ hiN ps 1 n = p.b := fun {n p} e => by
    unfold loN hiN
    rw [e]
    exact ⟨rfl, rfl, rfl, rfl⟩
  have at_ : ∀ n ∈ s, ∃ p, ps[n]? = some p ∧ p.Ok := fun n hn => ⟨_, List.getElem?_eq_getElem (hp.2 n hn), g.ok _ (List.getElem_mem _)⟩
  match s, h2, h3 with
  | [a, b], _, _ =>
    obtain ⟨p, ea, oa⟩ := at_ a (by simp)
    obtain ⟨q, eb, ob⟩ := at_ b (by simp)
    have hab : a ≠ b := by
      have := (List.pairwise_cons.mp hs).1 b (by simp)
      omega
    have hap := Ap.at ap ea eb hab
    obtain ⟨a1, a2, a3, a4⟩ := lo0 ea
    obtain ⟨b1, b2, b3, b4⟩ := lo0 eb
    obtain ⟨p1, p2, p3, p4, p5, p6⟩ := oa
    obtain ⟨q1, q2, q3, q4, q5, q6⟩ := ob
    unfold Ap at hap
    rcases hap with h | h | h | h
    · refine key 0 q.l l0 ⟨b, by simp, b1⟩ ⟨a, by simp, by omega⟩ fun n hn => ?_
      simp only [List.mem_cons, List.not_mem_nil, or_false] at hn
      rcases hn with rfl | rfl <;> omega
    · refine key 0 p.l l0 ⟨a, by simp, a1⟩ ⟨b, by simp, by omega⟩ fun n hn => ?_
      simp only [List.mem_cons, List.not_mem_nil, or_false] at hn
      rcases hn with rfl | rfl <;> omega
    · refine key 1 q.t l1 ⟨b, by simp, b3⟩ ⟨a, by simp, by omega⟩ fun n hn => ?_
      simp only [List.mem_cons, List.not_mem_nil, or_false] at hn
      rcases hn with rfl | rfl <;> omega
    · refine key 1 p.t l1 ⟨a, by simp, a3⟩ ⟨b, by simp, by omega⟩ fun n hn => ?_
      simp only [List.mem_cons, List.not_mem_nil, or_false] at hn
      rcases hn with rfl | rfl <;> omega
  | [a, b, c], _, _ =>
    obtain ⟨p, ea, oa⟩ := at_ a (by simp)
    obtain ⟨q, eb, ob⟩ := at_ b (by simp)
    obtain ⟨r, ec, oc⟩ := at_ c (by simp)
    obtain ⟨s1, s2⟩ := List.pairwise_cons.mp hs
    have hab : a ≠ b := by have := s1 b (by simp); omega
    have hac : a ≠ c := by have := s1 c (by simp); omega
    have hbc : b ≠ c := by have := (List.pairwise_cons.mp s2).1 c (by simp); omega
    have ab := Ap.at ap ea eb hab
    have ac := Ap.at ap ea ec hac
    have bc := Ap.at ap eb ec hbc
    obtain ⟨a1, a2, a3, a4⟩ := lo0 ea
    obtain ⟨b1, b2, b3, b4⟩ := lo0 eb
    obtain ⟨c1, c2, c3, c4⟩ := lo0 ec
    obtain ⟨p1, p2, p3, p4, p5, p6⟩ := oa
    obtain ⟨q1, q2, q3, q4, q5, q6⟩ := ob
    obtain ⟨r1, r2, r3, r4, r5, r6⟩ := oc
    have tri : ∀ (low c0 : Int) (n m : Nat), LoOk low → n ∈ [a, b, c] → m ∈ [a, b, c] → loN ps low n = c0 → hiN ps low m ≤ c0 → (hiN ps low a ≤ c0 ∨ c0 ≤ loN ps low a) → (hiN ps low b ≤ c0 ∨ c0 ≤ loN ps low b) → (hiN ps low c ≤ c0 ∨ c0 ≤ loN ps low c) → ∃ low, LoOk low ∧ (pts ps low [a, b, c]).length ≠ 1 := fun low c0 n m hl hn hm e1 e2 e3 e4 e5 => key low c0 hl ⟨n, hn, e1⟩ ⟨m, hm, e2⟩ fun k hk => by
      simp only [List.mem_cons, List.not_mem_nil, or_false] at hk
      rcases hk with rfl | rfl | rfl
      · exact e3
      · exact e4
      · exact e5
    clear key at_ lo0
    unfold Ap at ab ac bc
    rcases ab with h | h | h | h <;> rcases ac with h' | h' | h' | h' <;> rcases bc with h'' | h'' | h'' | h'' <;> first
      | (refine tri 0 p.l a b l0 (by simp) (by simp) a1 ?_ ?_ ?_ ?_ <;> omega)
      | (refine tri 0 p.l a c l0 (by simp) (by simp) a1 ?_ ?_ ?_ ?_ <;> omega)
      | (refine tri 0 q.l b a l0 (by simp) (by simp) b1 ?_ ?_ ?_ ?_ <;> omega)
      | (refine tri 0 q.l b c l0 (by simp) (by simp) b1 ?_ ?_ ?_ ?_ <;> omega)
      | (refine tri 0 r.l c a l0 (by simp) (by simp) c1 ?_ ?_ ?_ ?_ <;> omega)
      | (refine tri 0 r.l c b l0 (by simp) (by simp) c1 ?_ ?_ ?_ ?_ <;> omega)
      | (refine tri 1 p.t a b l1 (by simp) (by simp) a3 ?_ ?_ ?_ ?_ <;> omega)
      | (refine tri 1 p.t a c l1 (by simp) (by simp) a3 ?_ ?_ ?_ ?_ <;> omega)
      | (refine tri 1 q.t b a l1 (by simp) (by simp) b3 ?_ ?_ ?_ ?_ <;> omega)
      | (refine tri 1 q.t b c l1 (by simp) (by simp) b3 ?_ ?_ ?_ ?_ <;> omega)
      | (refine tri 1 r.t c a l1 (by simp) (by simp) c3 ?_ ?_ ?_ ?_ <;> omega)
      | (refine tri 1 r.t c b l1 (by simp) (by simp) c3 ?_ ?_ ?_ ?_ <;> omega)
      | (rcases Int.le_total p.l q.l with o | o <;> rcases Int.le_total p.l r.l with o' | o' <;> rcases Int.le_total q.l r.l with o'' | o'' <;> rcases Int.le_total p.t q.t with w | w <;> rcases Int.le_total p.t r.t with w' | w' <;> rcases Int.le_total q.t r.t with w'' | w'' <;> first
        | (refine tri 0 p.l a b l0 (by simp) (by simp) a1 ?_ ?_ ?_ ?_ <;> omega)
        | (refine tri 0 p.l a c l0 (by simp) (by simp) a1 ?_ ?_ ?_ ?_ <;> omega)
        | (refine tri 0 q.l b a l0 (by simp) (by simp) b1 ?_ ?_ ?_ ?_ <;> omega)
        | (refine tri 0 q.l b c l0 (by simp) (by simp) b1 ?_ ?_ ?_ ?_ <;> omega)
        | (refine tri 0 r.l c a l0 (by simp) (by simp) c1 ?_ ?_ ?_ ?_ <;> omega)
        | (refine tri 0 r.l c b l0 (by simp) (by simp) c1 ?_ ?_ ?_ ?_ <;> omega)
        | (refine tri 1 p.t a b l1 (by simp) (by simp) a3 ?_ ?_ ?_ ?_ <;> omega)
        | (refine tri 1 p.t a c l1 (by simp) (by simp) a3 ?_ ?_ ?_ ?_ <;> omega)
        | (refine tri 1 q.t b a l1 (by simp) (by simp) b3 ?_ ?_ ?_ ?_ <;> omega)
        | (refine tri 1 q.t b c l1 (by simp) (by simp) b3 ?_ ?_ ?_ ?_ <;> omega)
        | (refine tri 1 r.t c a l1 (by simp) (by simp) c3 ?_ ?_ ?_ ?_ <;> omega)
        | (refine tri 1 r.t c b l1 (by simp) (by simp) c3 ?_ ?_ ?_ ?_ <;> omega))
end
end Pi

set_option Elab.async false
set_option linter.all false
set_option maxRecDepth 100000
set_option maxHeartbeats 4000000
/-! K15a: law k15: what is read, what is stuck. -/
namespace Pi
open PySem PySem.Spec PyProof.Rows L2
open Enc (enc)
theorem hk15 : HK tab_k15 := { is_int := rfl, is_panel := rfl, share_widths := rfl, share_heights := rfl, is_page := rfl, check_page := rfl, find_cuts := rfl, find_parts := rfl, read_part := rfl, find_reading := rfl, check_part := rfl, row_parts := rfl, column_parts := rfl }
theorem ho15 : HO3m tab_k15 := { is_int := rfl, is_panel := rfl, share_widths := rfl, share_heights := rfl, is_page := rfl, check_page := rfl, goes_before := rfl, find_pairs := rfl, next_ones := rfl, count_left := rfl, find_number := rfl, first_order := rfl }
theorem h415 : HO4m tab_k15 := { is_int := rfl, is_panel := rfl, share_widths := rfl, share_heights := rfl, is_page := rfl, check_page := rfl, goes_before := rfl, find_pairs := rfl, has_order := rfl, keeps_pairs := rfl, fits := rfl, can_read := rfl }
section
variable {T : Str → List D → R D} {ρ : En} {a : E}
theorem isN_no {o : Option (List Nat)} (h : ev T a ρ = .ok (encO o)) : ev T (.isN false a) ρ = .ok (.bool o.isNone) := by
  rw [ev_isN, h]
  cases o <;> rfl
theorem isN_yes {o : Option (List Nat)} (h : ev T a ρ = .ok (encO o)) : ev T (.isN true a) ρ = .ok (.bool o.isSome) := by
  rw [ev_isN, h]
  cases o <;> rfl
theorem eq_encO (o : Option (List Nat)) : eqD (encO o) (encO o) = .ok true := by
  cases o with
  | none => rfl
  | some s =>
    have := eqD_enc (α := Tu Nat) (by decide) (Tu.mk s) (Tu.mk s)
    show eqD (enc (Tu.mk s)) (enc (Tu.mk s)) = _
    rw [this]
    simp
theorem ne_encO {b : E} {o : Option (List Nat)} (h : ev T a ρ = .ok (encO o)) (h' : ev T b ρ = .ok (encO o)) : ev T (.cmp .ne a b) ρ = .ok (.bool false) := by
  rw [ev_cmp, h, h']
  simp only [R.ok_bind, cm_ne, eq_encO]
  rfl
theorem ne_bool {b : E} {x : Bool} (h : ev T a ρ = .ok (.bool x)) (h' : ev T b ρ = .ok (.bool x)) : ev T (.cmp .ne a b) ρ = .ok (.bool false) := by
  rw [ev_cmp, h, h']
  cases x <;> rfl
theorem or_ff {b : E} (h : ev T a ρ = .ok (.bool false)) (h' : ev T b ρ = .ok (.bool false)) : ev T (.or (.cons a (.cons b .nil))) ρ = .ok (.bool false) := by
  rw [ev_or, evO_cons, h]
  simp only [R.ok_bind, evO_one, h']
end
section
variable {ps : List Pn} (g : Good8 ps)
include g
theorem red_cz {low : Int} (hl : LoOk low) : (red ps low).2 = none ↔ Cz ps (List.range ps.length) := rd_cz g.ok 7 _ low (part_all g.len) hl (by rw [List.length_range]; have := g.len; omega)
theorem red_ord {low : Int} (hl : LoOk low) (h : (red ps low).2 = none) : (red ps low).1 ∈ ordP ps := by
  obtain ⟨h1, h2⟩ := rd_pw g.ok 7 _ low (part_all g.len) hl (by rw [List.length_range]; have := g.len; omega) h
  exact (mem_pw (prs_irr g) List.nodup_range).mpr ⟨h1, h2⟩
theorem red_same : (red ps 0).2.isNone = (red ps 1).2.isNone := by
  have l0 : LoOk 0 := ⟨.inl rfl⟩
  have l1 : LoOk 1 := ⟨.inr rfl⟩
  rw [Bool.eq_iff_iff, Option.isNone_iff_eq_none, Option.isNone_iff_eq_none, red_cz g l0, red_cz g l1]
omit g in
theorem redO_none (low : Int) : (redO ps low).isNone = !(red ps low).2.isNone := by
  unfold redO
  cases (red ps low).2 <;> rfl
omit g in
theorem redO_some {low : Int} (h : (red ps low).2 = none) : redO ps low = some (red ps low).1 := by
  unfold redO
  rw [h]
theorem redO_tr {low : Int} (hl : LoOk low) : redO (ps.map tr) low = redO ps (1 - low) := by
  have : red (ps.map tr) low = red ps (1 - low) := by
    unfold red
    rw [List.length_map]
    exact rd_tr 7 _ hl
  unfold redO
  rw [this]
theorem stuck_long {s : List Nat} (h : (red ps 1).2 = some s) : s.Sublist (List.range ps.length) ∧ 4 ≤ s.length ∧ (pts ps 1 s).length = 1 ∧ (pts ps 0 s).length = 1 := by
  obtain ⟨h1, h2, h3, h4⟩ := rd_stuck 7 _ 1 s h
  have h4' : (pts ps 0 s).length = 1 := h4
  refine ⟨h1, ?_, h3, h4'⟩
  apply Classical.byContradiction
  intro hlt
  obtain ⟨low, hl, hne⟩ := few_cut g ((part_all g.len).sub h1) (List.pairwise_lt_range.sublist h1) h2 (by omega)
  rcases hl.h with rfl | rfl
  · exact hne h4'
  · exact hne h3
theorem small_stuck {s : List Nat} (h : (red ps 1).2 = some s) : red (sbP ps s) 1 = ([], some (List.range (sbP ps s).length)) ∧ (sbP ps s).length = s.length := by
  obtain ⟨h1, h2, h3, h4⟩ := stuck_long g h
  have hp := (part_all g.len).sub h1
  have hs : s.Pairwise (· < ·) := List.pairwise_lt_range.sublist h1
  have l0 : LoOk 0 := ⟨.inl rfl⟩
  have l1 : LoOk 1 := ⟨.inr rfl⟩
  obtain ⟨hlen, _⟩ := sb_at (ps := ps) (s := s) hp.2
  have e1 := sb_pts g hp hs l1 h3
  have e0 := sb_pts g hp hs l0 h4
  refine ⟨?_, hlen⟩
  unfold red
  rcases rd_step (ps := sbP ps s) 6 (List.range (sbP ps s).length) 1 (by rw [List.length_range]; omega) with ⟨_, er⟩ | ⟨low', hlow, hne, _⟩
  · exact er
  · rcases hlow with rfl | rfl
    · exact (hne e1).elim
    · exact (hne e0).elim
omit g in
theorem sb_map {s : List Nat} (h : ∀ n ∈ s, n < ps.length) : s.map (fun n => (ps[n]?).getD ⟨0, 0, 0, 0⟩) = sbP ps s := by
  induction s with
  | nil => rfl
  | cons n s ih =>
    have hlt : n < ps.length := h n List.mem_cons_self
    have hn : ps[n]? = some ps[n] := List.getElem?_eq_getElem hlt
    rw [List.map_cons, ih fun m hm => h m (List.mem_cons_of_mem _ hm)]
    unfold sbP
    rw [List.filterMap_cons, hn]
    rfl
theorem r_lstuck : Tb tab_k15 19 "_law_stuck" [enc (Tu.mk ps)] = .ok (.bool true) := by
  have hl := g.len
  refine go_run (df := d__law_stuck) rfl rfl ?_
  simp only [d__law_stuck, List.map_cons, List.map_nil, List.length_cons, List.length_nil, Nat.reduceAdd, Nat.reduceSub, List.reduceReplicate, List.cons_append, List.nil_append]
  have qs := r_stuck hk15.toHR (ds := tab_k15) rfl g 7
  have qc := r_cuttable hk15.toHR (ds := tab_k15) rfl g 6
  refine go_asg (encO (red ps 1).2) (by simp [qs]) ?_
  simp only [List.set_cons_succ, List.set_cons_zero]
  cases e : (red ps 1).2 with
  | none =>
    refine go_no (by rw [isN_yes (o := none) rfl]; rfl) ?_
    refine go_ret (.bool true) ?_ rfl
    rw [e] at qc
    have dq : ∀ b : Bool, (match PyData.bool b with | .bool true => R.ok (PyData.bool true) | .bool false => R.ok (PyData.bool true) | _ => R.bad) = R.ok (PyData.bool true) := fun b => by cases b <;> rfl
    simp only [ev_or, evO_cons, evO_one, ev_cmp, ev_isB, ev_call, evL_cons, evL_nil, ev_bi, ev_var, ev_int, List.getElem?_cons_zero, List.getElem?_cons_succ, R.ok_bind, bi_len, len_tu, nx_ok, cm_gt, qc]
    exact dq _
  | some s =>
    obtain ⟨h1, h2, h3, h4⟩ := stuck_long g e
    have hp := (part_all g.len).sub h1
    have hs : s.Pairwise (· < ·) := List.pairwise_lt_range.sublist h1
    have hne : s ≠ [] := fun z => by rw [z] at h2; simp at h2
    obtain ⟨hr, hlen⟩ := small_stuck g e
    have q1 := r_row_parts hk15 12 g hp hne hs
    have q0 := r_column_parts hk15 12 g hp hne hs
    rw [pts_self h3] at q1
    rw [pts_self h4] at q0
    have hls : s.length ≤ ps.length := by have := h1.length_le; simpa using this
    have eL : (PyData.list [enc (Tu.mk s)] : D) = enc [Tu.mk s] := rfl
    refine go_yes (by rw [isN_yes (o := some s) rfl]; rfl) ?_
    refine go_no (or_ff (by
      have : ¬ (s.length : Int) < 4 := by omega
      have l1 : lenD (enc (Tu.mk s)) = .ok (.int (s.length : Nat)) := len_tu s
      simp only [ev_cmp, ev_bi, evL_cons, evL_nil, ev_var, ev_int, List.getElem?_cons_zero, List.getElem?_cons_succ, R.ok_bind, encO, bi_len, l1, nx_ok, cm_lt, decide_eq_false this]) (ne_same [Tu.mk s] (by decide) (by simp [encO, q1]) (by simp [encO, big]; rfl))) ?_
    refine go_no (ne_same [Tu.mk s] (by decide) (by simp [encO, q0]) (by simp [encO, big]; rfl)) ?_
    refine go_asg (enc (Tu.mk (sbP ps s))) (by
      rw [← sb_map hp.2]
      refine ev_tupc (map_comp (α := Nat) (β := Pn) _ (it_tu (by simp [encO])) fun n hn => ⟨_, rfl, ?_⟩)
      have hlt : n < ps.length := hp.2 n hn
      have hn' : ps[n]? = some ps[n] := List.getElem?_eq_getElem hlt
      have t1 := tu_ix hn'
      simp only [enc_nat, ev_idx, ev_var, wipeR, List.map_cons, List.map_nil, List.set_cons_succ, List.set_cons_zero, List.getElem?_cons_zero, List.getElem?_cons_succ, R.ok_bind, t1, nx_ok, hn', Option.getD_some]) ?_
    simp only [List.set_cons_succ, List.set_cons_zero]
    have g' := sb_good (ps := ps) g hs
    have qc2 := r_cuttable hk15.toHR (ds := tab_k15) rfl g' 6
    have qs2 := r_stuck hk15.toHR (ds := tab_k15) rfl g' 7
    rw [hr] at qc2 qs2
    have gl' := g'.len
    have et : ∀ x1 x3, ev (Tb tab_k15 18) (.trg .nil (.bi .len (.cons (.var 2) .nil))) [.val (enc (Tu.mk ps)), x1, .val (enc (Tu.mk (sbP ps s))), x3] = .ok (enc (Tu.mk (List.range (sbP ps s).length))) := fun x1 x3 => ev_trg0 (by simp) (by omega)
    refine go_no (or_ff (by simp [qc2]) (ne_encO (o := some (List.range (sbP ps s).length)) (by simp [qs2]) (et _ _))) ?_
    refine go_skip (.inl ⟨rfl, ?_⟩)
    refine go_ret (.bool true) ?_ rfl
    have c : (3 : Int) < (ps.length : Int) := by omega
    simp [c]
end
end Pi

set_option Elab.async false
set_option linter.all false
set_option maxRecDepth 100000
set_option maxHeartbeats 4000000
/-! K15b: law k15. -/
namespace Pi
open PySem PySem.Spec PyProof.Rows L2
open Enc (enc)
theorem li_fr {α : Type} [Enc α] (xs : List α) (n : Nat) : slD (enc xs) (some (n : Int)) none = .ok (enc (xs.drop n)) := by
  show slD (.list (xs.map enc)) _ _ = _
  rw [sl_list, cut_from]; rfl
theorem zip_next {α : Type} {Rr : α → α → Prop} : ∀ {l : List α}, l.Pairwise Rr → ∀ x ∈ l.zip (l.drop 1), Rr x.1 x.2 ∧ x.1 ∈ l ∧ x.2 ∈ l
  | [], _, x, h => by cases h
  | [a], _, x, h => by cases h
  | a :: b :: l, hp, x, h => by
    obtain ⟨h1, h2⟩ := List.pairwise_cons.mp hp
    have h' : x ∈ (a, b) :: ((b :: l).zip ((b :: l).drop 1)) := h
    rcases List.mem_cons.mp h' with rfl | h'
    · exact ⟨h1 b (by simp), by simp, by simp⟩
    · obtain ⟨q1, q2, q3⟩ := zip_next h2 x h'
      exact ⟨q1, List.mem_cons_of_mem _ q2, List.mem_cons_of_mem _ q3⟩
theorem flat_len {l : List (List Nat)} {pre post : List (List Nat)} {x : List Nat} (e : l = pre ++ x :: post) : pre.flatten.length + x.length ≤ l.flatten.length := by
  rw [e, List.flatten_append, List.flatten_cons, List.length_append, List.length_append]
  omega
theorem sorted_nat {held : List Nat} {n : Nat} (h : held.Perm (List.range n)) : biD .sorted [enc held] = .ok (enc (List.range n)) := by
  show (match asInts (held.map enc) with | some ns => R.ok (PyData.list ((sortI ns).map PyData.int)) | none => (match asPairs (held.map enc) with | some ps => .ok (.list ((sortP ps).map pD)) | none => .bad)) = _
  rw [asInts_enc]
  simp only
  rw [sort_perm.mpr h]
  show R.ok (PyData.list _) = R.ok (PyData.list _)
  unfold zl
  rw [List.map_map]
  rfl
theorem wy_run {ps : List Pn} (g : Good8 ps) {zs : List Nat} (hp : Part ps zs) (hne : zs ≠ []) (hs : zs.Pairwise (· < ·)) {x : Str × Int} (hx : x ∈ [(("row_parts" : Str), (1 : Int)), ("column_parts", 0)]) : Tb tab_k15 19 x.1 [enc (Tu.mk ps), enc (Tu.mk zs)] = .ok (enc ((pts ps x.2 zs).map Tu.mk)) := by
  simp only [List.mem_cons, List.not_mem_nil, or_false] at hx
  rcases hx with rfl | rfl
  · exact r_row_parts hk15 13 g hp hne hs
  · exact r_column_parts hk15 13 g hp hne hs
theorem ev_way {T : Str → List D → R D} {ρ : En} {i : Nat} {f : Str} {fs : List Str} {as : E} {ds : List D} {d : D} (h : ρ[i]? = some (.val (fnD f))) (hf : f ∈ fs) (ha : evL T as ρ = .ok ds) (ht : T f ds = .ok d) : ev T (.callv i fs as) ρ = .ok d := by
  rw [ev_callv, h]
  show (if f ∈ fs then _ else _) = _
  rw [if_pos hf, ha]
  exact ht
theorem law_k15 : ∀ ns : List Int, ns.length ≤ 63 → Tb tab_k15 20 "law" [scr ns] = .ok (.bool true) := by
  intro ns hlen
  have hd : findD tab_k15 "_law_drawn" = some d__law_drawn := rfl
  obtain ⟨ps, ep, hs, hl0⟩ := r_page (ds := tab_k15) hd 17 hlen 10 8 rfl (by decide) (by decide)
  have ep' : Tb tab_k15 19 "_law_page" [scr ns, .int 10, .int 8] = .ok (enc (Tu.mk ps)) := ep
  have g := hs.good hl0
  have hl := g.len
  have l0 : LoOk 0 := ⟨.inl rfl⟩
  have l1 : LoOk 1 := ⟨.inr rfl⟩
  refine go_run (df := d_law_k15) rfl rfl ?_
  simp only [d_law_k15, List.map_cons, List.map_nil, List.length_cons, List.length_nil, Nat.reduceAdd, Nat.reduceSub, List.reduceReplicate, List.cons_append, List.nil_append]
  refine go_asg (enc (Tu.mk ps)) (by simp [ep']) ?_
  simp only [List.set_cons_succ, List.set_cons_zero]
  refine go_asg (enc (Tu.mk (List.range ps.length))) (ev_trg0 (by simp) (by omega)) ?_
  simp only [List.set_cons_succ, List.set_cons_zero]
  have qr := r_by_rows hk15.toHR (ds := tab_k15) rfl g 7
  have qc := r_by_columns hk15.toHR (ds := tab_k15) rfl g 7
  have qk := r_cuttable hk15.toHR (ds := tab_k15) rfl g 7
  have qs := r_stuck hk15.toHR (ds := tab_k15) rfl g 8
  refine go_tp [encO (redO ps 1), encO (redO ps 0)] (by simp [qr, qc, big]) rfl ?_
  simp only [setAll, List.set_cons_succ, List.set_cons_zero]
  have n1 := redO_none (ps := ps) 1
  have n0 := redO_none (ps := ps) 0
  have rs := red_same g
  refine go_no (or_ff (ne_bool (x := (redO ps 1).isNone) (isN_no rfl) (by rw [n1]; simp [qk])) (ne_bool (x := (redO ps 1).isNone) (isN_no rfl) (by rw [isN_no (o := redO ps 0) rfl, n1, n0, rs]))) ?_
  refine go_no (ne_bool (x := (redO ps 1).isNone) (isN_no rfl) (by
    rw [isN_yes (o := (red ps 1).2) (by simp [qs]), n1]
    cases (red ps 1).2 <;> rfl)) ?_
  -- what is read can be read
  have rdB : ∀ {low : Int}, LoOk low → (red ps low).2 = none → Tb tab_k15 19 "can_read" [enc (Tu.mk ps), enc (Tu.mk (red ps low).1)] = .ok (.bool true) := fun {low} hlo h => by
    obtain ⟨h1, h2⟩ := mem_ordP.mp (red_ord g hlo h)
    have := r_can_readM h415 14 g h1
    rw [h2] at this
    exact this
  have hcs : (red ps 1).2 = none → (red ps 0).2 = none := fun h => by
    rw [h] at rs
    exact Option.isNone_iff_eq_none.mp rs
  have t0 : ∀ {i : Nat} {low : Int} {ρ : En}, LoOk low → ρ[1]? = some (.val (enc (Tu.mk ps))) → ρ[3]? = some (.val (encO (redO ps 1))) → ρ[i]? = some (.val (encO (redO ps low))) → ((red ps 1).2 = none → (red ps low).2 = none) → ev (Tb tab_k15 19) (.and (.cons (.isN true (.var 3)) (.cons (.isB true (.call "can_read" (.cons (.var 1) (.cons (.var i) .nil))) true) .nil))) ρ = .ok (.bool false) := fun {i low ρ} hlo e1 e3 ei hnn => by
    rw [ev_and, evA_cons, isN_yes (o := redO ps 1) (by rw [ev_var, e3])]
    cases e : (red ps 1).2 with
    | none =>
      rw [redO_some e]
      have e2 := hnn e
      simp only [R.ok_bind, Option.isSome_some, evA_one, ev_isB, ev_call, evL_cons, evL_nil, ev_var, e1, ei, redO_some e2, encO, rdB hlo e2]
      rfl
    | some s =>
      have : redO ps 1 = none := by unfold redO; rw [e]
      rw [this]
      rfl
  refine go_no (t0 (i := 3) l1 rfl rfl rfl id) ?_
  refine go_no (t0 (i := 4) l0 rfl rfl rfl hcs) ?_
  have q6 := r_is_sureM ho15 (ds := tab_k15) rfl 18 g (by omega)
  have q7 := r_first_orderM ho15 (ds := tab_k15) 18 g (by omega)
  have hh := fst_head (kn := prs ps) ps.length (left := List.range ps.length) (by simp) List.nodup_range (live_page g)
  have hf : fst (prs ps) ps.length (List.range ps.length) ∈ ordP ps := List.mem_of_mem_head? hh
  generalize fst (prs ps) ps.length (List.range ps.length) = fo at q7 hf
  refine go_no (by
    rw [ev_and, evA_cons, isN_yes (o := redO ps 1) rfl]
    cases e : (red ps 1).2 with
    | some s =>
      have : redO ps 1 = none := by unfold redO; rw [e]
      rw [this]
      rfl
    | none =>
      have e0 := hcs e
      have m1 := red_ord g l1 e
      have m0 := red_ord g l0 e0
      rw [redO_some e, redO_some e0]
      simp only [R.ok_bind, Option.isSome_some]
      rw [evA_cons]
      simp only [ev_call, evL_cons, evL_nil, ev_var, List.getElem?_cons_zero, List.getElem?_cons_succ, R.ok_bind, q6]
      by_cases c : (ordP ps).length = 1
      · obtain ⟨z, hz⟩ := List.length_eq_one_iff.mp c
        have one : ∀ x ∈ ordP ps, x = z := fun x hx => by rw [hz] at hx; exact List.mem_singleton.mp hx
        have w1 : (red ps 1).1 = fo := (one _ m1).trans (one _ hf).symm
        have w0 : (red ps 0).1 = fo := (one _ m0).trans (one _ hf).symm
        rw [w1, w0]
        simp only [c, decide_true, evA_one]
        exact or_ff (ne_encO (o := some fo) rfl (by simp [q7]; rfl)) (ne_encO (o := some fo) rfl rfl)
      · simp only [c, decide_false]) ?_
  -- turned
  refine go_asg (enc (Tu.mk (ps.map tr))) (ev_tupc (map_comp (α := Pn) (β := Pn) tr (it_tu (by simp)) fun p hp => ⟨_, pn_quad p 6 7 8 9 _, by simp [big]; rfl⟩)) ?_
  simp only [List.set_cons_succ, List.set_cons_zero]
  have gt := tr_good g
  have qr2 := r_by_rows hk15.toHR (ds := tab_k15) rfl gt 7
  have qc2 := r_by_columns hk15.toHR (ds := tab_k15) rfl gt 7
  rw [redO_tr g l1] at qr2
  rw [redO_tr g l0] at qc2
  refine go_no (or_ff (ne_encO (o := redO ps 0) (by simp [qr2]) rfl) (ne_encO (o := redO ps 1) (by simp [qc2]) rfl)) ?_
  have fin : ∀ x6 x7 x8 x9 x10 x11 x12 x13 x14 x15 x16 x17 x18, Go (Tb tab_k15 19) (.seq (.ret (.call "_law_stuck" (.cons (.var 1) .nil))) .skip) [.val (scr ns), .val (enc (Tu.mk ps)), .val (enc (Tu.mk (List.range ps.length))), .val (encO (redO ps 1)), .val (encO (redO ps 0)), .val (enc (Tu.mk (ps.map tr))), x6, x7, x8, x9, x10, x11, x12, x13, x14, x15, x16, x17, x18] fun f _ => f = .rt (.bool true) := fun x6 x7 x8 x9 x10 x11 x12 x13 x14 x15 x16 x17 x18 => go_ret (.bool true) (by simp [r_lstuck g]) rfl
  have ew := eqD_enc (α := Tu Nat) (by decide) (Tu.mk (List.range ps.length)) (Tu.mk [])
  rw [show (enc (Tu.mk ([] : List Nat)) : D) = .tuple [] from rfl] at ew
  by_cases hz : ps.length = 0
  · have : (Tu.mk (List.range ps.length) : Tu Nat) = Tu.mk [] := by rw [hz]; rfl
    rw [decide_eq_true this] at ew
    exact go_no (by simp [ew]) (fin _ _ _ _ _ _ _ _ _ _ _ _ _)
  have hne : List.range ps.length ≠ [] := fun e => hz (by simpa using e)
  have nt : ¬ (Tu.mk (List.range ps.length) : Tu Nat) = Tu.mk [] := fun e => hne (Tu.mk.inj e)
  rw [decide_eq_false nt] at ew
  refine go_yes (by simp [ew]) ?_
  have pa := part_all (ps := ps) hl
  have sw : (List.range ps.length).Pairwise (· < ·) := List.pairwise_lt_range
  have ei : evI (Tb tab_k15 19) (.iter (.tup (.cons (.fnm "row_parts") (.cons (.fnm "column_parts") .nil)))) [.val (scr ns), .val (enc (Tu.mk ps)), .val (enc (Tu.mk (List.range ps.length))), .val (encO (redO ps 1)), .val (encO (redO ps 0)), .val (enc (Tu.mk (ps.map tr))), .no, .no, .no, .no, .no, .no, .no, .no, .no, .no, .no, .no, .no] = .ok (([(("row_parts" : Str), (1 : Int)), ("column_parts", 0)]).map fun x => fnD x.1) := by
    simp [big]
  refine go_for (g := fun x : Str × Int => fnD x.1) (fun pre ρ => ∃ x10 x11 x12 x13 x14 x15 x16 x17, ρ = [.val (scr ns), .val (enc (Tu.mk ps)), .val (enc (Tu.mk (List.range ps.length))), .val (encO (redO ps 1)), .val (encO (redO ps 0)), .val (enc (Tu.mk (ps.map tr))), .no, .no, .no, .no, x10, x11, x12, x13, x14, x15, x16, x17, .no]) (xs := [(("row_parts" : Str), (1 : Int)), ("column_parts", 0)]) ei ⟨_, _, _, _, _, _, _, _, rfl⟩ ?_ ?_
  · rintro pre x post ρ hx ⟨x10, x11, x12, x13, x14, x15, x16, x17, rfl⟩
    refine ⟨_, rfl, ?_⟩
    have hxm : x ∈ [(("row_parts" : Str), (1 : Int)), ("column_parts", 0)] := by rw [hx]; simp
    have hlo : LoOk x.2 := by
      simp only [List.mem_cons, List.not_mem_nil, or_false] at hxm
      rcases hxm with rfl | rfl
      · exact l1
      · exact l0
    have hfm : x.1 ∈ [("row_parts" : Str), "column_parts"] := by
      simp only [List.mem_cons, List.not_mem_nil, or_false] at hxm ⊢
      rcases hxm with rfl | rfl
      · exact .inl rfl
      · exact .inr rfl
    have run := fun zs hp hn hs => wy_run g (zs := zs) hp hn hs hxm
    obtain ⟨f, low⟩ := x
    simp only at hlo hfm run ⊢
    simp only [List.set_cons_succ, List.set_cons_zero]
    refine go_asg (enc ((pts ps low (List.range ps.length)).map Tu.mk)) (ev_way rfl hfm (by simp) (run _ pa hne sw)) ?_
    simp only [List.set_cons_succ, List.set_cons_zero]
    have ok := pa.okI g.ok hlo
    have sub := scanA_sub (lo := loN ps low) (hi := hiN ps low) (rngI 1 20) (List.range ps.length)
    have nes := scan_ne (lo := loN ps low) (hi := hiN ps low) (rngI 1 20) (List.range ps.length) hne
    have prm := scan_perm (lo := loN ps low) (hi := hiN ps low) (rngI 1 20) (List.range ps.length) ok
    have ord := scan_ord (lo := loN ps low) (hi := hiN ps low) (rngI 1 20) (List.range ps.length)
    have stb := fun p (hp : p ∈ pts ps low (List.range ps.length)) => pts_stable (ps := ps) ok hp
    change (∀ p ∈ pts ps low (List.range ps.length), p ≠ []) at nes
    change (pts ps low (List.range ps.length)).flatten.Perm _ at prm
    change (pts ps low (List.range ps.length)).Pairwise _ at ord
    have sub2 : ∀ p ∈ pts ps low (List.range ps.length), p.Sublist (List.range ps.length) := sub.2.1
    generalize pts ps low (List.range ps.length) = prt at nes prm ord stb sub2
    refine go_asg (enc ([] : List Nat)) rfl ?_
    simp only [List.set_cons_succ, List.set_cons_zero]
    have pfl := prm.length_eq
    rw [List.length_range] at pfl
    refine go_for (g := fun p : List Nat => enc (Tu.mk p)) (fun pre2 ρ => ∃ x13, ρ = [.val (scr ns), .val (enc (Tu.mk ps)), .val (enc (Tu.mk (List.range ps.length))), .val (encO (redO ps 1)), .val (encO (redO ps 0)), .val (enc (Tu.mk (ps.map tr))), .no, .no, .no, .no, .val (fnD f), .val (enc (prt.map Tu.mk)), .val (enc pre2.flatten), x13, x14, x15, x16, x17, .no]) (xs := prt) (by
      rw [it_enc (xs := prt.map Tu.mk) (by simp), List.map_map]; rfl) ⟨_, rfl⟩ ?_ ?_
    · rintro pre2 p post2 ρ hx2 ⟨x13, rfl⟩
      refine ⟨_, rfl, ?_⟩
      have hp : p ∈ prt := by rw [hx2]; simp
      have hfl := flat_len hx2
      simp only [List.set_cons_succ, List.set_cons_zero]
      have a1 := add_enc (xs := pre2.flatten) (ys := p) (by omega)
      have b1 : biD .list [enc (Tu.mk p)] = .ok (enc p) := rfl
      refine go_asg (enc (pre2.flatten ++ p)) (by
        simp only [ev_bin, ev_var, ev_bi, evL_cons, evL_nil, List.getElem?_cons_zero, List.getElem?_cons_succ, R.ok_bind, b1, nx_ok, bo_add, a1]) ?_
      simp only [List.set_cons_succ, List.set_cons_zero]
      have e1 := eq_tuN p
      rw [decide_eq_false (nes p hp)] at e1
      have hsp := sub2 p hp
      refine go_no (or_ff (by
        simp only [ev_cmp, ev_var, ev_tup0, List.getElem?_cons_zero, List.getElem?_cons_succ, R.ok_bind, cm_eq, e1, boolR_ok, nx_ok]) (ne_same [Tu.mk p] (by decide) (ev_way rfl hfm (by simp; rfl) (by
        have := run p (pa.sub hsp) (nes p hp) (sw.sublist hsp)
        rw [stb p hp] at this
        exact this)) (by simp [big]; rfl))) (go_skip ⟨rfl, .val (enc (Tu.mk p)), ?_⟩)
      rw [List.flatten_append]
      simp
    · rintro ρ ⟨x13, rfl⟩
      have b2 : biD .list [enc (Tu.mk (List.range ps.length))] = .ok (enc (List.range ps.length)) := rfl
      refine go_no (ne_same (List.range ps.length) (by decide) (by
        rw [ev_bi, evL_cons, evL_nil]
        simp only [ev_var, List.getElem?_cons_zero, List.getElem?_cons_succ, R.ok_bind, sorted_nat prm, nx_ok]) (by
        rw [ev_bi, evL_cons, evL_nil]
        simp only [ev_var, List.getElem?_cons_zero, List.getElem?_cons_succ, R.ok_bind, b2, nx_ok])) ?_
      have s1 : slD (enc (prt.map (Tu.mk (α := Nat)))) (some 1) none = .ok (enc ((prt.map (Tu.mk (α := Nat))).drop 1)) := li_fr _ 1
      refine go_for (g := fun q : Tu Nat × Tu Nat => enc q) (fun pre2 ρ => ∃ x14 x15 x16 x17, ρ = [.val (scr ns), .val (enc (Tu.mk ps)), .val (enc (Tu.mk (List.range ps.length))), .val (encO (redO ps 1)), .val (encO (redO ps 0)), .val (enc (Tu.mk (ps.map tr))), .no, .no, .no, .no, .val (fnD f), .val (enc (prt.map Tu.mk)), .val (enc prt.flatten), x13, x14, x15, x16, x17, .no]) (xs := (prt.map (Tu.mk (α := Nat))).zip ((prt.map (Tu.mk (α := Nat))).drop 1)) (by
        rw [evI_zip]
        simp only [ev_var, ev_slc, ev_int, ev_nil, List.getElem?_cons_zero, List.getElem?_cons_succ, R.ok_bind, asOpt_int, asOpt_mark, s1, nx_ok]
        show R.ok (zipUp _ _) = _
        rw [zipUp_enc]) ⟨_, _, _, _, rfl⟩ ?_ ?_
      · rintro pre2 q post2 ρ hx2 ⟨x14, x15, x16, x17, rfl⟩
        obtain ⟨⟨p1⟩, ⟨p2⟩⟩ := q
        refine ⟨_, st_pair (enc (Tu.mk p1)) (enc (Tu.mk p2)) 14 15 _, ?_⟩
        have hq : ((Tu.mk p1 : Tu Nat), Tu.mk p2) ∈ (prt.map (Tu.mk (α := Nat))).zip ((prt.map (Tu.mk (α := Nat))).drop 1) := by rw [hx2]; simp
        obtain ⟨hr, m1, m2⟩ := zip_next (Rr := fun s t : Tu Nat => ∀ a ∈ s.xs, ∀ b ∈ t.xs, hiN ps low a ≤ loN ps low b) (List.pairwise_map.mpr ord) _ hq
        simp only at hr m1 m2
        obtain ⟨p1', mp1, e1⟩ := List.mem_map.mp m1
        obtain ⟨p2', mp2, e2⟩ := List.mem_map.mp m2
        cases e1
        cases e2
        simp only [List.set_cons_succ, List.set_cons_zero]
        have lt1 : ∀ b ∈ p1, b < ps.length := fun b hb => List.mem_range.mp ((sub2 p1 mp1).subset hb)
        have lt2 : ∀ a ∈ p2, a < ps.length := fun a ha => List.mem_range.mp ((sub2 p2 mp2).subset ha)
        have no : ∀ a ∈ p2, ∀ b ∈ p1, befAt ps a b = false := fun a ha b hb => by
          cases e : befAt ps a b with
          | false => rfl
          | true => exact (later_no g.ok hlo (hr b hb a ha) ((prs_mem ps a b).mpr ⟨lt2 a ha, lt1 b hb, e⟩)).elim
        refine go_no (ne_same ([] : List Nat) (by decide) (by
          have e3 : p2.filter (fun _ => false) = [] := List.filter_eq_nil_iff.mpr fun _ _ => by simp
          rw [← e3]
          refine filt_comp (α := Nat) _ (it_tu (by simp)) fun a ha => ⟨_, rfl, ?_, rfl⟩
          refine ne_same ([] : List Nat) (by decide) ?_ rfl
          have e4 : p1.filter (fun _ => false) = [] := List.filter_eq_nil_iff.mpr fun _ _ => by simp
          rw [← e4]
          refine filt_comp (α := Nat) _ (it_tu (by simp)) fun b hb => ⟨_, rfl, ?_, rfl⟩
          have := r_is_before ho15.toHQ (ds := tab_k15) rfl rfl 14 g (lt2 a ha) (lt1 b hb)
          rw [no a ha b hb] at this
          simp only [enc_nat, ev_call, evL_cons, evL_nil, ev_var, wipeR, List.map_cons, List.map_nil, List.set_cons_succ, List.set_cons_zero, List.getElem?_cons_zero, List.getElem?_cons_succ, R.ok_bind, this]) rfl) (go_skip ⟨rfl, _, _, _, _, rfl⟩)
      · rintro ρ ⟨x14, x15, x16, x17, rfl⟩
        exact go_skip ⟨rfl, _, _, _, _, _, _, _, _, rfl⟩
  · rintro ρ ⟨x10, x11, x12, x13, x14, x15, x16, x17, rfl⟩
    have pat : Part (ps.map tr) (List.range ps.length) := by
      have := part_all (ps := ps.map tr) gt.len
      rw [List.length_map] at this
      exact this
    have qa := r_column_parts hk15 13 gt pat hne sw
    have qb := r_row_parts hk15 13 g pa hne sw
    rw [pts_tr l0] at qa
    refine go_asg (enc ((pts ps 1 (List.range ps.length)).map Tu.mk)) (by simp [qa]) ?_
    simp only [List.set_cons_succ, List.set_cons_zero]
    refine go_no (ne_same ((pts ps 1 (List.range ps.length)).map (Tu.mk (α := Nat))) (by decide) (by simp) (by simp [qb])) (go_skip (.inl ⟨rfl, fin _ _ _ _ _ _ _ _ _ _ _ _ _⟩))
end Pi

open PySem PySem.W PyProof.Rows
set_option maxHeartbeats 0 in
theorem PySem.Challenge.cw_panelorder_k15_whole_cutting_holds : PySem.Challenge.rw_panelorder_k15_whole_cutting.Holds := by
  w_on; o_law; k_head; (case hw => w_witness2)
  k_fill
  refine L2.walk_of (l := PySem.Challenge.rw_panelorder_k15_whole_cutting) (n := 63) (k := 20) (x := "script") (CX := fun w => L2.CX PySem.Challenge.rw_panelorder_k15_whole_cutting.prog w) (sp := fun w => Pi.spLaw _ 63) rfl (by decide) rfl ⟨rfl, by decide, by decide⟩ (fun w h Y => PySem.W.kIn_of Y) ?F (fun _ _ a ns hl _ hS => ⟨a, ns, rfl, hl, hS, fun _ => rfl⟩) (fun _ _ _ _ _ h => by obtain ⟨_, _, _, _, _, _, _, _, _, _, _, _, z⟩ := h; exact z.elim)
  case F =>
    intro w mg fa h KX G hmg
    refine' Pi.mk_k15 KX G hmg ?a0 ?l0 ?c0 ?k0 ?a1 ?l1 ?c1 ?k1 ?a2 ?l2 ?c2 ?k2 ?a3 ?l3 ?c3 ?k3 ?a4 ?l4 ?c4 ?k4 ?a5 ?l5 ?c5 ?k5 ?a6 ?l6 ?c6 ?k6 ?a7 ?l7 ?c7 ?k7 ?a8 ?l8 ?c8 ?k8 ?a9 ?l9 ?c9 ?k9 ?a10 ?l10 ?c10 ?k10 ?a11 ?l11 ?c11 ?k11 ?a12 ?l12 ?c12 ?k12 ?a13 ?l13 ?c13 ?k13 ?a14 ?l14 ?c14 ?k14 ?a15 ?l15 ?c15 ?k15 ?a16 ?l16 ?c16 ?k16 ?a17 ?l17 ?c17 ?k17 ?a18 ?l18 ?c18 ?k18 ?a19 ?l19 ?c19 ?k19 ?a20 ?l20 ?c20 ?k20 ?a21 ?l21 ?c21 ?k21 ?a22 ?l22 ?c22 ?k22 ?a23 ?l23 ?c23 ?k23 ?a24 ?l24 ?c24 ?k24 ?a25 ?l25 ?c25 ?k25 ?a26 ?l26 ?c26 ?k26 ?a27 ?l27 ?c27 ?k27 ?a28 ?l28 ?c28 ?k28 ?a29 ?l29 ?c29 ?k29 ?a30 ?l30 ?c30 ?k30 ?a31 ?l31 ?c31 ?k31 ?a32 ?l32 ?c32 ?k32 ?a33 ?l33 ?c33 ?k33 ?z0 ?z1 ?z2 ?z3 ?z4 ?z5 ?z6 ?z7 ?z8 ?z9 ?z10 ?z11 ?z12 ?z13 ?z14 ?z15 ?z16 ?cg0 ?cr0 ?cg1 ?cr1 ?x0 ?xq0 ?xk0 ?xb0 ?xt0 ?ya0 ?yb0 ?yc0 ?yd0 ?ye0 ?yf0 ?x1 ?xq1 ?xk1 ?xb1 ?xt1 ?ya1 ?yb1 ?yc1 ?yd1 ?ye1 ?yf1 ?x2 ?xq2 ?xk2 ?xb2 ?xt2 ?ya2 ?yb2 ?yc2 ?yd2 ?ye2 ?yf2 ?x4 ?xq4 ?xk4 ?xb4 ?xt4 ?ya4 ?yb4 ?yc4 ?yd4 ?ye4 ?yf4 ?yg ?yh ?w0_1 ?v0_1 ?w0_2 ?v0_2 ?w0_4 ?v0_4 ?w1_2 ?v1_2 ?w1_4 ?v1_4 ?w2_1 ?v2_1 ?w2_4 ?v2_4 ?w4_1 ?v4_1 ?w4_2 ?v4_2 Pi.law_k15
    (case a0 => k_is); (case l0 => k_is); (case c0 => k_is); (case k0 => k_is); (case a1 => k_is); (case l1 => k_is); (case c1 => k_is); (case k1 => k_is); (case a2 => k_is); (case l2 => k_is); (case c2 => k_is); (case k2 => k_is); (case a3 => k_is); (case l3 => k_is); (case c3 => k_is); (case k3 => k_is); (case a4 => k_is); (case l4 => k_is); (case c4 => k_is); (case k4 => k_is); (case a5 => k_is); (case l5 => k_is); (case c5 => k_is); (case k5 => k_is); (case a6 => k_is); (case l6 => k_is); (case c6 => k_is); (case k6 => k_is); (case a7 => k_is); (case l7 => k_is); (case c7 => k_is); (case k7 => k_is); (case a8 => k_is); (case l8 => k_is); (case c8 => k_is); (case k8 => k_is); (case a9 => k_is); (case l9 => k_is); (case c9 => k_is); (case k9 => k_is); (case a10 => k_is); (case l10 => k_is); (case c10 => k_is); (case k10 => k_is); (case a11 => k_is); (case l11 => k_is); (case c11 => k_is); (case k11 => k_is); (case a12 => k_is); (case l12 => k_is); (case c12 => k_is); (case k12 => k_is); (case a13 => k_is); (case l13 => k_is); (case c13 => k_is); (case k13 => k_is); (case a14 => k_is); (case l14 => k_is); (case c14 => k_is); (case k14 => k_is); (case a15 => k_is); (case l15 => k_is); (case c15 => k_is); (case k15 => k_is); (case a16 => k_is); (case l16 => k_is); (case c16 => k_is); (case k16 => k_is); (case a17 => k_is); (case l17 => k_is); (case c17 => k_is); (case k17 => k_is); (case a18 => k_is); (case l18 => k_is); (case c18 => k_is); (case k18 => k_is); (case a19 => k_is); (case l19 => k_is); (case c19 => k_is); (case k19 => k_is); (case a20 => k_is); (case l20 => k_is); (case c20 => k_is); (case k20 => k_is); (case a21 => k_is); (case l21 => k_is); (case c21 => k_is); (case k21 => k_is); (case a22 => k_is); (case l22 => k_is); (case c22 => k_is); (case k22 => k_is); (case a23 => k_is); (case l23 => k_is); (case c23 => k_is); (case k23 => k_is); (case a24 => k_is); (case l24 => k_is); (case c24 => k_is); (case k24 => k_is); (case a25 => k_is); (case l25 => k_is); (case c25 => k_is); (case k25 => k_is); (case a26 => k_is); (case l26 => k_is); (case c26 => k_is); (case k26 => k_is); (case a27 => k_is); (case l27 => k_is); (case c27 => k_is); (case k27 => k_is); (case a28 => k_is); (case l28 => k_is); (case c28 => k_is); (case k28 => k_is); (case a29 => k_is); (case l29 => k_is); (case c29 => k_is); (case k29 => k_is); (case a30 => k_is); (case l30 => k_is); (case c30 => k_is); (case k30 => k_is); (case a31 => k_is); (case l31 => k_is); (case c31 => k_is); (case k31 => k_is); (case a32 => k_is); (case l32 => k_is); (case c32 => k_is); (case k32 => k_is); (case a33 => k_is); (case l33 => k_is); (case c33 => k_is); (case k33 => k_is); (case z0 => k_is); (case z1 => k_is); (case z2 => k_is); (case z3 => k_is); (case z4 => k_is); (case z5 => k_is); (case z6 => k_is); (case z7 => k_is); (case z8 => k_is); (case z9 => k_is); (case z10 => k_is); (case z11 => k_is); (case z12 => k_is); (case z13 => k_is); (case z14 => k_is); (case z15 => k_is); (case z16 => k_is); (case cg0 => k_is); (case cr0 => exact ⟨_, rfl⟩); (case cg1 => k_is); (case cr1 => exact ⟨_, rfl⟩); (case x0 => k_is); (case xq0 => k_exc); (case xk0 => k_is); (case xb0 => k_is); (case xt0 => k_is); (case ya0 => k_is); (case yb0 => k_is); (case yc0 => k_is); (case yd0 => k_is); (case ye0 => k_is); (case yf0 => k_is); (case x1 => k_is); (case xq1 => k_exc); (case xk1 => k_is); (case xb1 => k_is); (case xt1 => k_is); (case ya1 => k_is); (case yb1 => k_is); (case yc1 => k_is); (case yd1 => k_is); (case ye1 => k_is); (case yf1 => k_is); (case x2 => k_is); (case xq2 => k_exc); (case xk2 => k_is); (case xb2 => k_is); (case xt2 => k_is); (case ya2 => k_is); (case yb2 => k_is); (case yc2 => k_is); (case yd2 => k_is); (case ye2 => k_is); (case yf2 => k_is); (case x4 => k_is); (case xq4 => k_exc); (case xk4 => k_is); (case xb4 => k_is); (case xt4 => k_is); (case ya4 => k_is); (case yb4 => k_is); (case yc4 => k_is); (case yd4 => k_is); (case ye4 => k_is); (case yf4 => k_is); (case yg => k_is); (case yh => k_is); (case w0_1 => k_is); (case v0_1 => decide); (case w0_2 => k_is); (case v0_2 => decide); (case w0_4 => k_is); (case v0_4 => decide); (case w1_2 => k_is); (case v1_2 => decide); (case w1_4 => k_is); (case v1_4 => decide); (case w2_1 => k_is); (case v2_1 => decide); (case w2_4 => k_is); (case v2_4 => decide); (case w4_1 => k_is); (case v4_1 => decide); (case w4_2 => k_is); (case v4_2 => decide)

