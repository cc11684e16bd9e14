import PyProof.Rows.All
import Wide.All
import OpenK.AllK
import Wide.FinOn
import HandS.ForMost
import HandS.Flow
import HandS.Style
import HandS.Codes
import HandS.SortInts
import HandS.Conv
import HandS.Nested
import HandS.TryOnly
import HandS.ExcOwn
import HandS.WordsExc
import HandS.Small
import HandS.EndOwn
import HandS.Defaults
import KE.DataEq
import HandS.GenList
import HandS.AnyAll
import HandS.JoinGen
import PyProof.TupleOfGen
import HandS.Walk
import HandS.Lambda
import HandS.HeadHook4
import HandS.HeadWalk
import HandS.Head2
import HandS.HeadEnd
import HandS.DeepEq
import HandS.DictComp
import KE.KEqNest
import HandS.More
import PyProof.TupleOfSeq
import HandS.TryMany
import HandS.Keys
import HandS.IsInst
import HandS.Text
import HandS.TupAny
import HandS.List
import PyProof.DictFindH
import PyProof.EqAt
import PyProof.EqKinds
import PyProof.P3Eq
import PySem.Challenge.RW_shardstack_k13_leases_by_clocks_that_dri
import KE.KExcLine
set_option Elab.async false
set_option maxRecDepth 100000
set_option maxHeartbeats 4000000
set_option linter.all false
namespace Sd
open PySem L2

/-! ### the ledger: objects of the heap, all at different places -/
abbrev Lg := List (Addr × HO)
def Led (H : Hp) (L : Lg) : Prop := (∀ x ∈ L, H x.1 = some x.2) ∧ (L.map (·.1)).Nodup
/-- the object at a is known -/
def At (L : Lg) (a : Addr) (o : HO) : Prop := ∃ i : Nat, L[i]? = some (a, o)
section
variable {H H' : Hp} {L A B C R : Lg} {a p : Addr} {o o' : HO}
theorem Led.mem (h : Led H L) (m : (a, o) ∈ L) : H a = some o := h.1 _ m
theorem Led.at (h : Led H L) (e : At L a o) : H a = some o := let ⟨_, q⟩ := e; h.1 _ (List.mem_of_getElem? q)
theorem Led.ne (h : Led H L) (e : At L a o) (hp : H p = none) : a ≠ p := ne_of_none (h.at e) hp
theorem Led.nin (h : Led H L) (hp : H p = none) : p ∉ L.map (·.1) := fun m => by
  obtain ⟨x, hx, e⟩ := List.mem_map.mp m
  have := h.1 x hx
  rw [e, hp] at this
  cases this
theorem Led.new (h : Led H L) (hp : H p = none) : Led (upd H p o) ((p, o) :: L) := by
  refine ⟨fun x hx => ?_, ?_⟩
  · rcases List.mem_cons.mp hx with e | hx
    · rw [e]; exact upd_same
    · have := h.1 x hx
      rw [upd_ne (ne_of_none this hp)]; exact this
  · rw [List.map_cons]
    exact List.nodup_cons.mpr ⟨h.nin hp, h.2⟩
theorem Led.skip (h : Led H L) (hp : H p = none) : Led (upd H p o) L :=
  let q := h.new (o := o) hp
  ⟨fun x hx => q.1 x (List.mem_cons_of_mem _ hx), h.2⟩
theorem Led.perm (h : Led H L) (q : L.Perm B) : Led H B := ⟨fun x hx => h.1 x (q.mem_iff.mpr hx), (q.map _).nodup_iff.mp h.2⟩
theorem Led.head (h : Led H ((a, o) :: B)) : Led (upd H a o') ((a, o') :: B) := by
  have n : a ∉ B.map (·.1) := (List.nodup_cons.mp h.2).1
  refine ⟨fun x hx => ?_, h.2⟩
  rcases List.mem_cons.mp hx with e | hx
  · rw [e]; exact upd_same
  · rw [upd_ne (fun e => n (List.mem_map.mpr ⟨x, hx, e⟩))]
    exact h.1 x (List.mem_cons_of_mem _ hx)
theorem Led.mid (h : Led H (A ++ (a, o) :: B)) : Led (upd H a o') (A ++ (a, o') :: B) :=
  (((h.perm List.perm_middle).head (o' := o')).perm List.perm_middle.symm)
theorem Led.set (i : Nat) (h : Led H L) (e : L[i]? = some (a, o)) : Led (upd H a o') (L.set i (a, o')) := by
  obtain ⟨hi, e⟩ := List.getElem?_eq_some_iff.mp e
  have s1 : L = L.take i ++ (a, o) :: L.drop (i + 1) := by
    rw [← e, List.getElem_cons_drop, List.take_append_drop]
  rw [s1] at h
  have q := h.mid (o' := o')
  rw [List.set_eq_take_append_cons_drop, if_pos hi]
  exact q
theorem Led.swap (h : Led H (A ++ (B ++ C))) : Led H (B ++ (A ++ C)) := by
  refine h.perm ?_
  rw [← List.append_assoc, ← List.append_assoc]
  exact List.perm_append_comm.append_right _
theorem Led.sub (h : Led H L) (q : B.Sublist L) : Led H B := ⟨fun x hx => h.1 x (q.subset hx), h.2.sublist (q.map _)⟩
theorem Led.drop (h : Led H (A ++ B)) : Led H B := h.sub (List.sublist_append_right _ _)
theorem Led.left (h : Led H (A ++ B)) : Led H A := h.sub (List.sublist_append_left _ _)
theorem Led.tail (h : Led H ((a, o) :: B)) : Led H B := h.sub (List.sublist_cons_self _ _)
theorem Led.nil : Led H [] := ⟨fun _ hx => (nomatch hx), List.nodup_nil⟩
theorem Led.mono (h : Led H L) (e : ∀ x ∈ L, H' x.1 = some x.2) : Led H' L := ⟨e, h.2⟩
end

/-! ### an instance's attributes, a dict with written keys: names and values -/
def fz (names : List Str) (vals : List V) : List (Str × V) := names.zip vals
def dz (names : List Str) (vals : List V) : List (Key × V) := (names.map Sum.inr).zip vals
theorem fz_at {f : Str} {v : V} : ∀ (i : Nat) {names : List Str} {vals : List V}, names.Nodup → names[i]? = some f → vals[i]? = some v → (fz names vals).lookup f = some v
  | 0, n :: ns, w :: ws, _, h1, h2 => by
    simp only [List.getElem?_cons_zero, Option.some.injEq] at h1 h2
    subst h1 h2
    simp [fz]
  | i + 1, n :: ns, w :: ws, nd, h1, h2 => by
    rw [List.getElem?_cons_succ] at h1 h2
    obtain ⟨n1, n2⟩ := List.nodup_cons.mp nd
    have ne : ¬ f = n := fun e => n1 (e ▸ List.mem_of_getElem? h1)
    have ih := fz_at i n2 h1 h2
    unfold fz at ih ⊢
    rw [List.zip_cons_cons, List.lookup_cons, beq_eq_false_iff_ne.mpr ne]
    exact ih
  | _, [], _, _, h1, _ => by simp at h1
  | _, _ :: _, [], _, _, h2 => by simp at h2
theorem fz_no {f : Str} : ∀ {names : List Str} {vals : List V}, f ∉ names → (fz names vals).lookup f = none
  | [], _, _ => by simp [fz]
  | _ :: _, [], _ => by simp [fz]
  | n :: ns, w :: ws, h => by
    have ne : ¬ f = n := fun e => h (by rw [e]; exact List.mem_cons_self)
    have ih := fz_no (f := f) (names := ns) (vals := ws) fun m => h (List.mem_cons_of_mem _ m)
    unfold fz at ih ⊢
    rw [List.zip_cons_cons, List.lookup_cons, beq_eq_false_iff_ne.mpr ne]
    exact ih
theorem fz_put {f : Str} {v : V} : ∀ (i : Nat) {names : List Str} {vals : List V}, names.Nodup → names[i]? = some f → i < vals.length → putF f v (fz names vals) = fz names (vals.set i v)
  | 0, n :: ns, w :: ws, _, h1, _ => by
    simp only [List.getElem?_cons_zero, Option.some.injEq] at h1
    subst h1
    unfold fz
    rw [List.zip_cons_cons, putF, if_pos rfl]
    rfl
  | i + 1, n :: ns, w :: ws, nd, h1, h2 => by
    rw [List.getElem?_cons_succ] at h1
    obtain ⟨n1, n2⟩ := List.nodup_cons.mp nd
    have ne : ¬ n = f := fun e => n1 (e.symm ▸ List.mem_of_getElem? h1)
    have ih := fz_put (v := v) i (vals := ws) n2 h1 (by simpa using h2)
    unfold fz at ih ⊢
    rw [List.zip_cons_cons, putF, if_neg ne, ih]
    rfl
  | _, [], _, _, h1, _ => by simp at h1
  | _, _ :: _, [], _, _, h2 => by simp at h2
theorem fz_new {f : Str} {v : V} : ∀ {names : List Str} {vals : List V}, f ∉ names → names.length = vals.length → putF f v (fz names vals) = fz (names ++ [f]) (vals ++ [v])
  | [], [], _, _ => rfl
  | [], _ :: _, _, h => by simp at h
  | _ :: _, [], _, h => by simp at h
  | n :: ns, w :: ws, h, hl => by
    have ne : ¬ n = f := fun e => h (by rw [e]; exact List.mem_cons_self)
    have ih := fz_new (f := f) (v := v) (names := ns) (vals := ws) (fun m => h (List.mem_cons_of_mem _ m)) (by simpa using hl)
    unfold fz at ih ⊢
    rw [List.zip_cons_cons, putF, if_neg ne, ih]
    rfl
theorem fz_len {names : List Str} {vals : List V} : (fz names vals).length ≤ names.length := by
  unfold fz
  rw [List.length_zip]
  exact Nat.min_le_left _ _
theorem fz_nil : ([] : List (Str × V)) = fz [] [] := rfl
theorem dz_at {f : Str} {v : V} : ∀ (i : Nat) {names : List Str} {vals : List V}, names.Nodup → names[i]? = some f → vals[i]? = some v → valV (dz names vals) (Sum.inr f) = some v
  | 0, n :: ns, w :: ws, _, h1, h2 => by
    simp only [List.getElem?_cons_zero, Option.some.injEq] at h1 h2
    subst h1 h2
    exact valV_pos (p := (Sum.inr n, w)) rfl
  | i + 1, n :: ns, w :: ws, nd, h1, h2 => by
    rw [List.getElem?_cons_succ] at h1 h2
    obtain ⟨n1, n2⟩ := List.nodup_cons.mp nd
    have ne : ¬ (Sum.inr n : Key) = Sum.inr f := fun e => n1 ((Sum.inr.inj e).symm ▸ List.mem_of_getElem? h1)
    have ih := dz_at i n2 h1 h2
    show valV ((Sum.inr n, w) :: dz ns ws) (Sum.inr f) = some v
    rw [valV_neg ne]
    exact ih
  | _, [], _, _, h1, _ => by simp at h1
  | _, _ :: _, [], _, _, h2 => by simp at h2
theorem dz_put {f : Str} {v : V} (i : Nat) {names : List Str} {vals : List V} (nd : names.Nodup) (h1 : names[i]? = some f) (h2 : i < vals.length) : putK (dz names vals) (Sum.inr f) v = dz names (vals.set i v) := by
  have e1 : vals[i]? = some vals[i] := List.getElem?_eq_getElem h2
  have hs : valV (dz names vals) (Sum.inr f) = some vals[i] := dz_at i nd h1 e1
  unfold putK
  rw [valV_any, hs]
  rw [if_pos (by rfl)]
  clear hs e1
  induction names generalizing vals i with
  | nil => simp at h1
  | cons n ns ih =>
    cases vals with
    | nil => simp at h2
    | cons w ws =>
      obtain ⟨n1, n2⟩ := List.nodup_cons.mp nd
      cases i with
      | zero =>
        simp only [List.getElem?_cons_zero, Option.some.injEq] at h1
        subst h1
        show (if (Sum.inr n : Key) = Sum.inr n then ((Sum.inr n : Key), v) else (Sum.inr n, w)) :: (dz ns ws).map _ = (Sum.inr n, v) :: dz ns ws
        rw [if_pos rfl]
        congr 1
        have : ∀ kv ∈ dz ns ws, (fun kv : Key × V => if kv.1 = Sum.inr n then (kv.1, v) else kv) kv = id kv := fun kv hk => by
          have m : kv.1 ∈ ns.map (Sum.inr : Str → Key) := (List.of_mem_zip hk).1
          obtain ⟨z, hz, e⟩ := List.mem_map.mp m
          have ne : ¬ kv.1 = Sum.inr n := fun q => n1 (by rw [← e] at q; exact (Sum.inr.inj q) ▸ hz)
          simp [ne]
        rw [List.map_congr_left this, List.map_id]
      | succ i =>
        rw [List.getElem?_cons_succ] at h1
        have ne : ¬ (Sum.inr n : Key) = Sum.inr f := fun e => n1 ((Sum.inr.inj e).symm ▸ List.mem_of_getElem? h1)
        show (if (Sum.inr n : Key) = Sum.inr f then ((Sum.inr n : Key), v) else (Sum.inr n, w)) :: (dz ns ws).map _ = (Sum.inr n, w) :: dz ns (ws.set i v)
        rw [if_neg ne, ih i n2 h1 (by simpa using h2)]
theorem mergeK_nd : ∀ (more kvs : List (Key × V)), ((kvs ++ more).map (·.1)).Nodup → mergeK kvs more = kvs ++ more
  | [], kvs, _ => by rw [List.append_nil]; rfl
  | p :: r, kvs, h => by
    have hp : valV kvs p.1 = none := by
      cases e : valV kvs p.1 with
      | none => rfl
      | some v =>
        have m := valV_in e
        rw [List.map_append, List.map_cons] at h
        have := (List.nodup_append.mp h).2.2 _ m _ List.mem_cons_self
        exact absurd rfl this
    have e : mergeK kvs (p :: r) = mergeK (putK kvs p.1 p.2) r := rfl
    rw [e, putK_new _ hp, mergeK_nd r (kvs ++ [(p.1, p.2)]) (by rw [List.append_assoc]; exact h), List.append_assoc]
    rfl
end Sd


namespace Sd
open PySem L2
/-- a word that the walk does not open -/
inductive Hold (p : Prop) : Prop where
  | mk (h : p)
  | mk' (h : p)
theorem Hold.out {p : Prop} (h : Hold p) : p := by cases h <;> assumption

section
variable {K : PySem.W.Frag} {H H1 : Hp} {L : Lg} {a b l p q : Addr} {o : HO} {P : V → Prop} {f : Str} {C dx : Addr} {fs : List (Str × V)} {v y : V} {xs ys : List V} {kvs : List (Key × V)} {names : List Str} {vals : List V}
theorem k_fld {P : Addr → Addr → V → Prop} (hL : Led H L) (e : At L a (.ins C dx fs)) (c : Cls K C) (n : NoAttr K C f) (lk : fs.lookup f = some v) (q : P a C v) :
    ∃ a' C' dx' fs' v', V.ref a = .ref a' ∧ H a' = some (.ins C' dx' fs') ∧ Cls K C' ∧ NoAttr K C' f ∧ fs'.lookup f = some v' ∧ P a' C' v' := ⟨_, _, _, _, _, rfl, hL.at e, c, n, lk, q⟩
/-- the ledger behind a change at a -/
def Upd (L : Lg) (a : Addr) (o o' : HO) (L' : Lg) : Prop := ∃ i : Nat, L[i]? = some (a, o) ∧ L' = L.set i (a, o')
theorem Upd.at {o' : HO} {L' : Lg} (u : Upd L a o o' L') : At L a o := let ⟨i, e, _⟩ := u; ⟨i, e⟩
theorem Led.upU {o' : HO} {L' : Lg} (hL : Led H L) (u : Upd L a o o' L') (hH : L2.upd H a o' = H1) : Led H1 L' := by
  obtain ⟨i, e, rfl⟩ := u
  rw [← hH]; exact hL.set i e
theorem Led.upF {fs' : List (Str × V)} {L' : Lg} (hL : Led H L) (u : Upd L a (.ins C dx fs) (.ins C dx fs') L') (e : putF f v fs = fs') (hH : L2.upd H a (.ins C dx (putF f v fs)) = H1) : Led H1 L' := by
  rw [e] at hH; exact hL.upU u hH
theorem Led.newH (hL : Led H L) (hp : H p = none) (hH : L2.upd H p o = H1) : Led H1 ((p, o) :: L) := by
  rw [← hH]; exact hL.new hp
theorem Led.made {x : Addr} (hL : Led H L) (hx : H x = none) (hd : H dx = none) (ne : dx ≠ x) (hH : L2.upd (L2.upd H dx (.own x)) x (.ins C dx []) = H1) : Led H1 ((x, .ins C dx (fz [] [])) :: L) := by
  rw [← hH]; exact (hL.skip hd).new (by rw [upd_ne ne.symm]; exact hx)
theorem Led.last {A R : Lg} {x : Addr × HO} (h : Led H (x :: (A ++ R))) : Led H ((A ++ [x]) ++ R) := by
  refine h.perm ?_
  rw [List.append_assoc]
  exact List.perm_middle.symm
/-- o.m(..): the object -/
theorem k_meth {P : Prop} (hL : Led H L) (e : At L a (.ins C dx fs)) (lk : fs.lookup f = none) (q : P) :
    ∃ a' dx' fs', V.ref a = .ref a' ∧ H a' = some (.ins C dx' fs') ∧ fs'.lookup f = none ∧ P := ⟨_, _, _, rfl, hL.at e, lk, q⟩
theorem k_dgetS {P : Addr → V → Prop} {x : Str} (hL : Led H L) (e : At L a (.dK kvs)) (lk : valV kvs (.inr x) = some v) (q : P a v) : ∃ a' v', V.ref a = .ref a' ∧ DGet H a' (.str x) (some v') ∧ P a' v' :=
  ⟨_, _, rfl, lk ▸ (DGet.k (k := .inr x) (hL.at e)), q⟩
theorem k_dgetI {P : Addr → V → Prop} {n : Int} (hL : Led H L) (e : At L a (.dK kvs)) (lk : valV kvs (.inl n) = some v) (q : P a v) : ∃ a' v', V.ref a = .ref a' ∧ DGet H a' (.int n) (some v') ∧ P a' v' :=
  ⟨_, _, rfl, lk ▸ (DGet.k (k := .inl n) (hL.at e)), q⟩
theorem k_dinS {P : Option V → Prop} {x : Str} (hL : Led H L) (e : At L a (.dK kvs)) (q : P (valV kvs (.inr x))) : ∃ a' o', V.ref a = .ref a' ∧ DGet H a' (.str x) o' ∧ P o' :=
  ⟨_, _, rfl, DGet.k (k := .inr x) (hL.at e), q⟩
theorem k_dinI {P : Option V → Prop} {n : Int} (hL : Led H L) (e : At L a (.dK kvs)) (q : P (valV kvs (.inl n))) : ∃ a' o', V.ref a = .ref a' ∧ DGet H a' (.int n) o' ∧ P o' :=
  ⟨_, _, rfl, DGet.k (k := .inl n) (hL.at e), q⟩
/-- d.get(k): the dict, then the answer -/
theorem k_isd {P : Prop} (hL : Led H L) (e : At L a (.dK kvs)) (q : P) : IsD H a ∧ P := ⟨.inl ⟨_, .inl (hL.at e)⟩, q⟩
theorem k_lenL' {P : Prop} (hL : Led H L) (e : At L l (.lst xs)) (q : P) : (SqL K H l xs ∨ SqT K H l xs) ∧ P := ⟨.inl (.of (hL.at e)), q⟩
theorem k_getI {P : Option V → Prop} {n : Int} (hL : Led H L) (e : At L a (.dK kvs)) (q : P (valV kvs (.inl n))) : ∃ o', DGet H a (.int n) o' ∧ P o' := ⟨_, DGet.k (k := .inl n) (hL.at e), q⟩
theorem k_getS {P : Option V → Prop} {x : Str} (hL : Led H L) (e : At L a (.dK kvs)) (q : P (valV kvs (.inr x))) : ∃ o', DGet H a (.str x) o' ∧ P o' := ⟨_, DGet.k (k := .inr x) (hL.at e), q⟩
theorem k_popI {P : List (Key × V) → Key → V → Prop} {n : Int} (hL : Led H L) (e : At L a (.dK kvs)) (lk : valV kvs (.inl n) = some v) (q : P kvs (.inl n) v) :
    ∃ kvs' k' v', H a = some (.dK kvs') ∧ V.int n = kV k' ∧ valV kvs' k' = some v' ∧ P kvs' k' v' := ⟨_, .inl n, _, hL.at e, rfl, lk, q⟩
theorem k_listD {P : List (Key × V) → Prop} (hL : Led H L) (e : At L a (.dK kvs)) (q : P kvs) : ∃ p kvs', [V.ref a] = [.ref p] ∧ H p = some (.dK kvs') ∧ P kvs' := ⟨_, _, rfl, hL.at e, q⟩
theorem Led.front {A B : Lg} {x : Addr × HO} (h : Led H (A ++ x :: B)) : Led H (x :: (A ++ B)) := h.perm List.perm_middle
theorem Led.back {A B : Lg} {x : Addr × HO} (h : Led H (x :: (A ++ B))) : Led H (A ++ x :: B) := h.perm List.perm_middle.symm
theorem k_dputS {P : Hp → Prop} {x : Str} {kvs' : List (Key × V)} {L' : Lg} (hL : Led H L) (e : At L a (.dK kvs)) (hz : kvs.length < sizeLine) (ep : putK kvs (.inr x) v = kvs') (u : Upd L a (.dK kvs) (.dK kvs') L')
    (q : ∀ H1, Led H1 L' → P H1) : ∃ a' H4, V.ref a = .ref a' ∧ DPut H a' (.str x) v H4 ∧ P H4 :=
  ⟨_, _, rfl, DPut.k (k := .inr x) (hL.at e) hz, q _ (hL.upU (ep ▸ u) rfl)⟩
theorem k_dputI {P : Hp → Prop} {n : Int} {kvs' : List (Key × V)} {L' : Lg} (hL : Led H L) (e : At L a (.dK kvs)) (hz : kvs.length < sizeLine) (ep : putK kvs (.inl n) v = kvs') (u : Upd L a (.dK kvs) (.dK kvs') L')
    (q : ∀ H1, Led H1 L' → P H1) : ∃ a' H4, V.ref a = .ref a' ∧ DPut H a' (.int n) v H4 ∧ P H4 :=
  ⟨_, _, rfl, DPut.k (k := .inl n) (hL.at e) hz, q _ (hL.upU (ep ▸ u) rfl)⟩
theorem dz_len : (dz names vals).length ≤ names.length := by unfold dz; rw [List.length_zip, List.length_map]; exact Nat.min_le_left _ _
theorem k_ixL {n : Int} (hL : Led H L) (e : At L l (.lst xs)) (lk : atI xs n = some v) (q : P v) : ∃ p xs' i v', V.ref l = .ref p ∧ V.int n = .int i ∧ SqL K H p xs' ∧ atI xs' i = some v' ∧ P v' :=
  ⟨_, _, _, _, rfl, rfl, .of (hL.at e), lk, q⟩
theorem k_ixT {n : Int} (hL : Led H L) (e : At L l (.tup xs)) (lk : atI xs n = some v) (q : P v) : ∃ p xs' i v', V.ref l = .ref p ∧ V.int n = .int i ∧ SqT K H p xs' ∧ atI xs' i = some v' ∧ P v' :=
  ⟨_, _, _, _, rfl, rfl, .of (hL.at e), lk, q⟩
theorem k_tyL {P : Prop} (hL : Led H L) (e : At L l (.lst xs)) (q : P) : tyV K "list" (.ref l) H ∧ P := ⟨.inl ⟨rfl, _, .of (hL.at e)⟩, q⟩
theorem k_lenL {P : Nat → Prop} (hL : Led H L) (e : At L l (.lst xs)) (q : P xs.length) : ∃ p ys, [V.ref l] = [.ref p] ∧ (SqL K H p ys ∨ SqT K H p ys) ∧ P ys.length := ⟨_, _, rfl, .inl (.of (hL.at e)), q⟩
theorem k_lenT {P : Nat → Prop} (hL : Led H L) (e : At L l (.tup xs)) (q : P xs.length) : ∃ p ys, [V.ref l] = [.ref p] ∧ (SqL K H p ys ∨ SqT K H p ys) ∧ P ys.length := ⟨_, _, rfl, .inr (.of (hL.at e)), q⟩
theorem k_gtup {P : List V → Prop} {n : Nat} (hL : Led H L) (e : At L a (.tup xs)) (hn : xs.length = n) (q : P xs) : ∃ a' xs', V.ref a = .ref a' ∧ SqT K H a' xs' ∧ xs'.length = n ∧ P xs' := ⟨_, _, rfl, .of (hL.at e), hn, q⟩
theorem k_cat {Q : VK} (hL : Led H L) (e1 : At L l (.lst xs)) (e2 : At L b (.lst ys)) (hz : xs.length + ys.length ≤ sizeLine) (q : ∀ p, H p = none → Q (.ref p) (L2.upd H p (.lst (xs ++ ys)))) : rCat (.ref l) (.ref b) H Q :=
  ⟨_, _, _, _, rfl, rfl, hL.at e1, hL.at e2, hz, q⟩
theorem k_yes {σ : L2.St} {A B : Hp → Prop} (h : A H) : tYes σ H fun b H3 => if b = true then A H3 else B H3 := by
  show (if true = true then A H else B H)
  rw [if_pos rfl]
  exact h
theorem ite_d {c A B : Prop} [Decidable c] (a : c → A) (b : ¬ c → B) : if decide c = true then A else B := by
  by_cases h : c
  · rw [if_pos (decide_eq_true h)]; exact a h
  · rw [if_neg (by rw [decide_eq_false h]; decide)]; exact b h
theorem ite_n {c A B : Prop} [Decidable c] (a : ¬ c → A) (b : c → B) : if (!decide c) = true then A else B := by
  by_cases h : c
  · rw [decide_eq_true h]; exact b h
  · rw [decide_eq_false h]; exact a h
theorem ite_b {b : Bool} {A B : Prop} (h1 : b = true → A) (h2 : b = false → B) : if b = true then A else B := by
  cases b with
  | true => exact h1 rfl
  | false => exact h2 rfl
theorem ite_t {b : Bool} {A B : Prop} (e : b = true) (h : A) : if b = true then A else B := by rw [if_pos e]; exact h
theorem ite_f {b : Bool} {A B : Prop} (e : b = false) (h : B) : if b = true then A else B := by rw [e]; exact h
end
end Sd


/-! A lambda without parameters as a value: made, kept, called by another def; what told makes of it. -/
namespace Sd
open PySem PySem.Spec PyProof.Rows L2 LamX NdefX
/-- the object at f is the lambda whose words F tells, its body b -/
def LamO (f : Addr) (F : NF) (b : Expr) : HO := .ext fun h => ∃ pm ctv : Value, h.get? f = some (PySem.W.kla_obj F.name F.qual F.params b F.scope F.cl pm F.c ctv)
theorem lamO_at {P : Program} {w : World} {H : Hp} {h : Heap} {f : Addr} {F : NF} {b : Expr} (hok : HOk P w H h) (e : H f = some (LamO f F b)) : ∃ pm ctv : Value, h.get? f = some (PySem.W.kla_obj F.name F.qual F.params b F.scope F.cl pm F.c ctv) :=
  (hok f _ e).1
section
variable {X : Cx} {pins : List (Addr × Obj)} {σ : L2.St} {H : Hp} {s : Shared}
theorem inv_lam {F : NF} {b : Expr} {t' : Nat} {pm ctv : Value} (I : Inv X pins σ H s) :
    Inv X pins σ (upd H s.heap.objs.size (LamO s.heap.objs.size F b)) { s with heap := s.heap.push (PySem.W.kla_obj F.name F.qual F.params b F.scope F.cl pm F.c ctv), toks := t' } := by
  have e : (s.heap.push (PySem.W.kla_obj F.name F.qual F.params b F.scope F.cl pm F.c ctv)).get? s.heap.objs.size = some (PySem.W.kla_obj F.name F.qual F.params b F.scope F.cl pm F.c ctv) := Heap.get?_push_size _ rfl
  exact I.laid (fun b u e => Heap.get?_push_of_some _ e) (Nat.le_refl _) ⟨⟨pm, ctv, e⟩, ⟨_, e⟩, fun h1 h2 ⟨p, t, z⟩ st => ⟨p, t, st _ z⟩⟩
theorem lam_value {q : Str} {c P : Addr} {params : Arguments} {body : Expr} {scope : Scope} {pos : Pos} {E : Value → Shared → Prop} {Q : Value → Shared → Prop} (I : Inv X pins σ H s) (TB : TabB X.base X.mg c P) (hcode : X.env.code = .ref c) (hq : X.env.qual ++ "<lambda>" = q)
    (hT : TabS H P q) (hdef : defaultsOf params X.env = ([], [])) (hfree : ∀ y ∈ scope.names, y.2 = .free → ∃ c, X.env.cells.lookup y.1 = some c)
    (h : ∀ (f c' : Addr) (H1 : Hp) (s' : Shared), Inv X pins σ H1 s' → ExtN H H1 → TabS H1 P q → H f = none → H1 f = some (LamO f ⟨"<lambda>", q, params, [], scope, cloFrom X.env.cells scope.names [], c'⟩ body) → H1 c' = some (CodeO c' q) → Q (.ref f) s') :
    wpAny (model X.prog X.w) X.A (eval (.Lambda params body scope pos) X.env) Q E s := by
  subst hq
  obtain ⟨ps, hP, ht, ha⟩ := hT
  have bP : s.heap.BuiltinsAt X.mg P := TB.bm.keeps I.bk
  have hP' : s.heap.get? P = some { cls := .none, data := .fields ps } := I.hok P _ hP
  refine PySem.W.kla_eval hdef ?_
  rcases hc : codeAmong pos ps.toList with _ | cv
  · refine PySem.W.kla_makeFunction (mg := X.mg) (c := c) (P := P) (ps := ps) (closure_ok hfree) I.ok.glob (I.mod.glob.keeps I.bk) hcode (TB.code.keeps I.bk) hP' ht hc TB.gP bP fun c' ctv h' tk hx hge hlt hrec htb => ?_
    obtain ⟨_, oc, vs, t, e2, hoc, hd, hv⟩ := hrec
    cases e2
    have nC : H c' = none := I.hok.fresh hge
    have I1 := inv_table (t' := tk) (more := #[rawInt pos.line, rawInt pos.col, .ref c']) (h' := h') I hP (fun b o hb e => hx b o hb e) htb hge ⟨oc, vs, t, hoc, hd, hv⟩
    have eN : ExtN H (upd (upd H P (.tbl (ps ++ #[rawInt pos.line, rawInt pos.col, .ref c']))) c' (CodeO c' (X.env.qual ++ "<lambda>"))) := fun b o e n => by
      rw [upd_ne (ne_of_none e nC), upd_ne (fun z => n ps (Option.some.inj (e.symm.trans (by rw [z]; exact hP))))]
      exact e
    have nF := I1.hok.fresh (Nat.le_refl _)
    have I2 := inv_lam (F := ⟨"<lambda>", X.env.qual ++ "<lambda>", params, [], scope, cloFrom X.env.cells scope.names [], c'⟩) (b := body) (t' := tk) (pm := (X.mg "__name__").getD .none) (ctv := ctv) I1
    have T1 : TabS (upd (upd H P (.tbl (ps ++ #[rawInt pos.line, rawInt pos.col, .ref c']))) c' (CodeO c' (X.env.qual ++ "<lambda>"))) P (X.env.qual ++ "<lambda>") := by
      have eL : (ps ++ #[rawInt pos.line, rawInt pos.col, .ref c']).toList = ps.toList ++ [rawInt pos.line, rawInt pos.col, .ref c'] := by simp
      refine ⟨_, by rw [upd_ne (ne_of_none hP nC), upd_same], by rw [eL]; exact PySem.TriplesOk_snoc _ _ _ _ ht, fun p' cv hcv => ?_⟩
      rw [eL] at hcv
      rcases among_app _ ht hcv with z | z
      · obtain ⟨c0, e1, e2⟩ := ha p' cv z
        exact ⟨c0, e1, eN _ _ e2 codeO_ne⟩
      · exact ⟨c', z, upd_same⟩
    refine h h'.objs.size c' _ _ I2 (fun b o e n => ?_) (T1.ext fun b o e => ?_) (I.hok.fresh (Nat.le_trans hge (Nat.le_of_lt hlt))) upd_same ?_
    · have e1 := eN b o e n
      exact (upd_ne (ne_of_none e1 nF)).trans e1
    · exact (upd_ne (ne_of_none e nF)).trans e
    · exact (upd_ne (Nat.ne_of_lt hlt)).trans upd_same
  · obtain ⟨c', e, hco⟩ := ha pos cv hc
    subst e
    refine PySem.W.kla_makeFunctionHit (mg := X.mg) (c := c) (P := P) (ps := ps) (closure_ok hfree) I.ok.glob (I.mod.glob.keeps I.bk) hcode (TB.code.keeps I.bk) hP' ht hc bP fun ctv h' tk hx hsz => ?_
    have I1 : Inv X pins σ H { s with heap := h', toks := tk } := I.kept hx
    have nF : H h'.objs.size = none := I1.hok.fresh (Nat.le_refl _)
    have I2 := inv_lam (F := ⟨"<lambda>", X.env.qual ++ "<lambda>", params, [], scope, cloFrom X.env.cells scope.names [], c'⟩) (b := body) (t' := tk) (pm := (X.mg "__name__").getD .none) (ctv := ctv) I1
    refine h h'.objs.size c' _ _ I2 (fun b o e n => ?_) (TabS.ext ⟨ps, hP, ht, ha⟩ fun b o e => ?_) nF upd_same ?_
    · exact (upd_ne (ne_of_none e nF)).trans e
    · exact (upd_ne (ne_of_none e nF)).trans e
    · exact (upd_ne (ne_of_none hco nF)).trans hco
end
/-- lambda: body; the names that it captures: none -/
def tLamV (P : Addr) (q : Str) (params : Arguments) (body : Expr) (scope : Scope) : TE := fun _ H Q => TabS H P q ∧ ∀ (f c' : Addr) (H1 : Hp), ExtN H H1 → TabS H1 P q → H f = none → H1 f = some (LamO f ⟨"<lambda>", q, params, [], scope, [], c'⟩ body) → H1 c' = some (CodeO c' q) → Q (.ref f) H1
theorem clo_nil {cells : List (Str × Addr)} : ∀ {names : List (Str × NameKind)}, (∀ y ∈ names, y.2 ≠ .free) → cloFrom cells names [] = []
  | [], _ => rfl
  | (x, k) :: r, h => by
    have ih := clo_nil (cells := cells) (names := r) fun y hy => h y (List.mem_cons_of_mem _ hy)
    have hk := h (x, k) List.mem_cons_self
    cases k <;> first | exact absurd rfl hk | (simp only [cloFrom]; first | exact ih | (rw [ih]) | simpa using ih)
theorem pe_lamv {X : Cx} {q : Str} {c P : Addr} {params : Arguments} {body : Expr} {scope : Scope} {pos : Pos} (TB : TabB X.base X.mg c P) (hcode : X.env.code = .ref c) (hq : X.env.qual ++ "<lambda>" = q) (hdef : defaultsOf params X.env = ([], []))
    (hfree : ∀ y ∈ scope.names, y.2 ≠ .free) : PE X (.Lambda params body scope pos) (tLamV P q params body scope) := by
  refine ⟨fun pins s σ H Q I h => ?_⟩
  obtain ⟨hT, h⟩ := h
  refine lam_value I TB hcode hq hT hdef (fun y hy e => absurd e (hfree y hy)) fun f c' H1 s' I1 eN T1 f0 f1 c1 => ?_
  rw [clo_nil hfree] at f1
  exact ⟨.ref f, H1, I1, rfl, h f c' H1 eN T1 f0 f1 c1⟩
/-! ### what it promises -/
structure LOk (P : Program) (w : World) (K : PySem.W.Frag) (mg : Str → Option Value) (base : Heap) (k : Nat) (f : Addr) (F : NF) (b : Expr) (tl : Hp → VK → XK → Prop) : Prop where
  run : ∀ (A : Around) (outer : List Env) (s : Shared) (H : Hp) (Q : VK) (E : XK), Room k A → Env0 P w K mg base A outer s H → H f = some (LamO f F b) → H F.c = some (CodeO F.c F.qual) → tl H Q E →
    codeAny (model P w) A (.call (.ref f) ⟨[], []⟩) (CR (L2.CX P w) outer P w H s Q E) s
section
variable {P : Program} {w : World} {K : PySem.W.Frag} {mg : Str → Option Value} {base : Heap} {F : NF} {f : Addr} {b : Expr} {k j : Nat} {tl : Hp → VK → XK → Prop}
theorem lok_of (S : NScope [] [] [] F.scope) (hcl : F.cl = []) (hb : ∀ pm cv ctv : Value, bindArgs (PySem.W.kla_fn F.name F.qual F.params b F.scope F.cl pm cv ctv) ⟨[], []⟩ = pure [])
    (hbody : ∀ (A : Around) (outer : List Env) (s : Shared) (H : Hp) (Q : VK) (E : XK), Room k (A.deeper (envF F f s.heap.objs.size)) → tl H Q E → ∃ t : TE, PE (ncx (L2.CX P w) P w K mg base [] F f A outer s H E) b t ∧ t [] H Q) :
    LOk P w K mg base (k + 1) f F b tl := by
  refine ⟨fun A outer s H Q E hr e0 hf hc h => ?_⟩
  have lim : s.heap.NoLimit := e0.mod.nolimit.keeps fun b o e => (e0.bs b o e).1
  obtain ⟨pm, ctv, ho⟩ := lamO_at e0.hok hf
  refine PySem.W.kla_callFunE hr.depth ho rfl S.co S.gen rfl (codeO_at e0.hok hc) ?_
  rw [hb]
  refine wpAny_pure (wpAny_newFunctionEnv S.nocell (fun y hy => absurd hy (by simp)) (fun h₁ hns hsb => ⟨lim.fresh _ hsb, ?_⟩) S.kind)
  show codeAny _ _ (.expr b (envF F f s.heap.objs.size)) _ _
  have kp : ∀ b o, s.heap.get? b = some o → h₁.get? b = some o := fun b o e => hsb.extBut b o (Nat.ne_of_lt (Heap.lt_size e)) (Heap.get?_push_of_some _ e)
  obtain ⟨t, ht, hq⟩ := hbody A outer s H Q E (hr.deeper _) h
  have C : CellsAt F.cl [] [] s.heap H := by
    rw [hcl]
    exact ⟨rfl, (fun y c e => by cases e), (fun x y c e => by cases e), (fun i y e => by simp at e)⟩
  have I : Inv (ncx (L2.CX P w) P w K mg base [] F f A outer s H E) [] (startF [] [] []) H { s with heap := h₁, toks := s.toks + ([] : List (Str × Value)).length } :=
    inv_startN (N := []) (ps := []) (fr := []) (vs := []) (us := []) (ws := []) S hr.hd e0 rfl .nil C hns kp
  refine PySem.W.kla_codeExpr (wpAny_mono (ht.run [] _ [] H Q I hq) (fun v s' hq => ?_) fun e s' hq => hq)
  obtain ⟨w', H', J', rv, q⟩ := hq
  exact ⟨w', H', J'.os, J'.bare, J'.base, J'.hok, rv, q⟩
end
/-- x(), x a name that holds a lambda -/
def tLamC (P : Program) (w : World) (K : PySem.W.Frag) (mg : Str → Option Value) (base : Heap) (k i : Nat) (W : WX) : TE := fun σ H Q => ∃ (f : Addr) (F : NF) (b : Expr) (tl : Hp → VK → XK → Prop) (E : XK), (∀ cls d σ' H', E cls d H' → W cls d σ' H') ∧
  σ[i]? = some (some (.ref f)) ∧ H f = some (LamO f F b) ∧ H F.c = some (CodeO F.c F.qual) ∧ LOk P w K mg base k f F b tl ∧ tl H Q E
theorem pe_lamc {X : Cx} {W : WX} {i k : Nat} {x : Str} {p pos : Pos} (tk : Takes X W) (hr : Room k X.A) (hN : X.N[i]? = some x) (hv : Vis X.env.scope x) (hd : (x == ("__debug__" : Str)) = false := by decide) (hcd : (x == ("__classdict__" : Str)) = false := by decide) :
    PE X (.Call (.Name x p) [] [] pos) (tLamC X.prog X.w X.K X.mg X.base k i W) := by
  refine ⟨fun pins s σ H Q I h => ?_⟩
  obtain ⟨f, F, b, tl, E, hW, hs, hf, hc, L, ht⟩ := h
  refine wpAny_Call_Name_kw (thn ((pe_var (pos := p) hN hv hd hcd).run pins s σ H (fun v H1 => v = .ref f ∧ H1 = H) I ⟨.ref f, hs, rfl, rfl⟩) fun u s1 ⟨v, H1, I1, r1, q1⟩ => ?_)
  obtain ⟨ev, eH⟩ := q1
  subst ev
  rw [eH] at I1
  obtain rfl : u = Value.ref f := r1
  obtain ⟨pm, ctv, ho⟩ := lamO_at I1.hok hf
  refine PySem.W.callWith_F0 (first := []) ⟨_, _, _, _, ho⟩ ?_
  show wpAny _ _ (call (.ref f) []) _ _ _
  refine wpAny_call (codeAny_mono (L.run X.A X.stack s1 H Q E hr I1.env0 hf hc ht) fun r s' hq => ?_)
  cases r with
  | error e => exact passes_call tk hW pins σ H s1 e s' I1 hq
  | ok fl =>
    cases fl with
    | ret u => exact I1.after hq
    | next => exact False.elim hq
    | brk => exact False.elim hq
    | cont => exact False.elim hq
/-- def told(what): try: return what() / except X: return ret -/
def spTold (P : Program) (w : World) (K : PySem.W.Frag) (mg : Str → Option Value) (base : Heap) (k : Nat) (CS : Addr) (ret : Str) : Sp := fun vs H Q _ => ∃ (f : Addr) (F : NF) (b : Expr) (tl : Hp → VK → XK → Prop), vs = [.ref f] ∧
  H f = some (LamO f F b) ∧ H F.c = some (CodeO F.c F.qual) ∧ LOk P w K mg base k f F b tl ∧ tl H Q (fun cls _ H' => ∃ b, PySem.W.exmOne K cls (.ref CS) = some b ∧ (b = true → Q (.str ret) H') ∧ (b = false → False))
theorem ps_told {P : Program} {w : World} {K : PySem.W.Frag} {mg : Str → Option Value} {base : Heap} {N : List Str} {q : Str} {sc : Scope} {g : Addr} {cdv : Value} {A : Around} {outer : List Env} {s : Shared} {H : Hp} {E : XK} {ret e a : Str} {CS : Addr} {k j : Nat} {p1 p2 p3 p4 p5 p6 p7 p8 : Pos} {Q : VK} {vs : List V}
    (hge : sc.names.lookup e = some .globalImplicit) (hme : mg e = some (.ref CS)) (hN : N[0]? = some a) (hv : Vis sc a) (h0 : ∀ f : Addr, (L2.start N [V.ref f])[0]? = some (some (V.ref f))) (hr : Room k (A.deeper (envOfC q sc s.heap.objs.size g cdv)))
    (h : spTold P w K mg base k CS ret vs H Q E) (hde : (e == ("__debug__" : Str)) = false := by decide) (hd : (a == ("__debug__" : Str)) = false := by decide) (hcd : (a == ("__classdict__" : Str)) = false := by decide) :
    ∃ t, PSs (cxOf C8.CX0 P w K mg base N q sc g cdv A outer s H E).nox [.Try [.Return (some (.Call (.Name a p1) [] [] p2)) p3] [.ExceptHandler (some (.Name e p4)) none [.Return (some (.Constant (.str ret) j p5)) p6] p7] [] [] p8] t ∧
      t { nx := fun _ H' => Q .non H', rt := Q } (L2.start N vs) H := by
  obtain ⟨f, F, b, tl, rfl, hf, hc, L, ht⟩ := h
  have hgl : Gl (cxOf C8.CX0 P w K mg base N q sc g cdv A outer s H E).nox e := hge
  refine ⟨_, pss_one (ps_try_only (c := .ref CS) (tb := fun W D σ H => tLamC P w K mg base k 0 W σ H D.rt) rfl rfl ⟨hgl, hde, .inl hme⟩ L2.takes0 (fun W pn xe tk _ => pss_one (ps_ret (pe_lamc tk hr hN hv hd hcd))) (fun a oe cls d pn _ _ => pss_one (ps_ret pe_str))), ?_⟩
  refine ⟨f, F, b, tl, _, fun cls d σ' H' q => ?_, h0 f, hf, hc, L, ht⟩
  obtain ⟨b, e1, e2, e3⟩ := q
  exact ⟨b, e1, fun hb a _ => e2 hb, fun hb => e3 hb⟩
/-! ### defs that may raise -/
structure MakX (P : Program) (w : World) (K : PySem.W.Frag) (mg : Str → Option Value) (base : Heap) (k : Nat) (x : Str) (C : Addr) (sp : Sp) (dvs : List V) : Prop where
  ex : ∃ (f : Addr) (fd : FuncData) (ps : List Str) (ds : List Value), Mk K C f ∧ FnOk P w K mg base (L2.CX P w) k f fd ps sp ∧ mg x = some (.ref C) ∧ Binds K fd ps ds ∧ Vals dvs ds
structure MetX (P : Program) (w : World) (K : PySem.W.Frag) (mg : Str → Option Value) (base : Heap) (k : Nat) (C : Addr) (m : Str) (sp : Sp) (dvs : List V) : Prop where
  ex : ∃ (f : Addr) (fd : FuncData) (ps : List Str) (ds : List Value), Cls K C ∧ Meth K C m f ∧ FnOk P w K mg base (L2.CX P w) k f fd ps sp ∧ Binds K fd ps ds ∧ Vals dvs ds
structure CalX (P : Program) (w : World) (K : PySem.W.Frag) (mg : Str → Option Value) (base : Heap) (k : Nat) (x : Str) (sp : Sp) (dvs : List V) : Prop where
  ex : ∃ (f : Addr) (fd : FuncData) (ps : List Str) (ds : List Value), FnOk P w K mg base (L2.CX P w) k f fd ps sp ∧ mg x = some (.ref f) ∧ PySem.W.keepIn K (.ref f) = true ∧ Binds K fd ps ds ∧ Vals dvs ds
section
variable {X : Cx} {k j : Nat} {C : Addr} {x m : Str} {sp : Sp} {dvs : List V} {p pos apos : Pos} {e o : Expr} {es : List Expr} {ta : TE} {t : TA} {E : XK}
theorem pe_cX (c : CalX X.prog X.w X.K X.mg X.base k x sp dvs) (hr : Room j X.A) (hk : k ≤ j) (hg : Gl X x) (tk : Takes X (fun cls d _ H => E cls d H)) (ha : PA X (e :: es) t)
    (hdb : (x == ("__debug__" : Str)) = false := by decide) (he : starEach (e :: es) X.env = (false, eval e X.env) :: starEach es X.env := by rfl) (hpl : (backTo pos (starEach es X.env)).any (·.1) = false := by rfl) :
    PE X (.Call (.Name x p) (e :: es) [] pos) (tCall sp dvs E t) := by
  obtain ⟨f, fd, ps, ds, F, hm, kp, b, d⟩ := c.ex
  exact pe_call F (hr.mono hk) hg hm kp b d (passes_call tk fun _ _ _ _ h => h) ha hdb he hpl
theorem pe_mkX (c : MakX X.prog X.w X.K X.mg X.base k x C sp dvs) (hr : Room j X.A) (hk : k + 1 ≤ j) (hg : Gl X x) (tk : Takes X (fun cls d _ H => E cls d H)) (ha : PA X (e :: es) t)
    (hdb : (x == ("__debug__" : Str)) = false := by decide) (he : starEach (e :: es) X.env = (false, eval e X.env) :: starEach es X.env := by rfl) (hpl : (backTo pos (starEach es X.env)).any (·.1) = false := by rfl) :
    PE X (.Call (.Name x p) (e :: es) [] pos) (tMake C sp dvs E t) := by
  obtain ⟨f, fd, ps, ds, M, F, hm, b, d⟩ := c.ex
  exact pe_make M F (hr.mono hk) hg hm b d (passes_call tk fun _ _ _ _ h => h) ha hdb he hpl
theorem pe_mtX {pl : Sem Bool} (c : MetX X.prog X.w X.K X.mg X.base k C m sp dvs) (hr : Room j X.A) (hk : k ≤ j) (tk : Takes X (fun cls d _ H => E cls d H)) (he : PE X o ta) (ha : PA X (e :: es) t)
    (hst : starEach (e :: es) X.env = (false, eval e X.env) :: starEach es X.env := by rfl) (hpl : (backTo pos (starEach es X.env)).any (·.1) = false := by rfl)
    (ht : eval (.Call (.Attribute o m apos) (e :: es) [] pos) X.env = (do
      let ov ← eval o X.env
      standAt apos.atName
      let (f, first) ← holding [ov] (getMethod ov m pl)
      callWith pos f first (backTo pos (starEach (e :: es) X.env)) (backToKw pos (keywordEach [] X.env))) := by rfl) :
    PE X (.Call (.Attribute o m apos) (e :: es) [] pos) (tMeth C m sp dvs E ta t) := by
  obtain ⟨f, fd, ps, ds, hc, hm, F, b, d⟩ := c.ex
  exact pe_meth (pl := pl) he hc hm F (hr.mono hk) b d (passes_call tk fun _ _ _ _ h => h) ha hst hpl ht
end
/-- an own error class below ValueError, without __init__ -/
structure ExcT (K : PySem.W.Frag) (mg : Str → Option Value) (x : Str) (C : Addr) : Prop where
  g : mg x = some (.ref C)
  ex : PySem.W.excIn K C [.type "ValueError", .type "Exception", .type "BaseException", .type "object"] "ValueError.__new__" = true
  kp : PySem.W.keepIn K (.ref C) = true
  sb : PySem.W.subIn K (.ref C) (.type "BaseException") = some true
  ty : PySem.W.typeIn K (.ref C) = some (.type "type")
  ic : PySem.W.isClsIn K C = true
  ss : PySem.W.subIn K (.ref C) (.ref C) = some true
theorem ExcT.em {K : PySem.W.Frag} {mg : Str → Option Value} {x : Str} {C : Addr} (T : ExcT K mg x C) : PySem.W.exmOne K (.ref C) (.ref C) = some true := by
  have ic : (PySem.W.clsIn K C).isSome = true := T.ic
  simp [PySem.W.exmOne, PySem.W.kitCls, T.sb, ic, T.ty, T.ss]
theorem ps_raiseT {X : Cx} {W : WX} {x m : Str} {C : Addr} {j : Nat} {p p2 pos pos2 : Pos} (T : ExcT X.K X.mg x C) (hc : X.calm = true) (tk : Takes X W) (hg : Gl X x) (hdb : (x == ("__debug__" : Str)) = false := by decide) :
    PS X (.Raise (some (.Call (.Name x p) [.Constant (.str m) j p2] [] pos)) none pos2) (fun _ σ H => W (.ref C) none σ H) :=
  ps_raise hc tk (pmk_own PySem.F.excBase_ValueError T.ex T.g T.kp (raises_own T.sb T.ty) hg hdb)
/-- Fun.ok for a def with defaults -/
theorem funD_ok0 {P : Program} {w : World} {K : PySem.W.Frag} {mg : Str → Option Value} {base : Heap} {x qual : Str} {params : Arguments} {body : List Stmt} {scope : Scope} {dvs : List V} {kws : List (Str × V)} {f : Addr} {fd : FuncData}
    {N ps : List Str} {k : Nat} {sp : Sp} (F : FunD K x qual params body scope dvs kws f fd) (S : FnScope N ps scope) (len : ∀ vs H Q E, sp vs H Q E → vs.length = ps.length)
    (hbody : ∀ (cdv : Value) (A : Around) (outer : List Env) (s : Shared) (H : Hp) (vs : List V) (Q : VK) (E : XK), Room k (A.deeper (envOfC qual scope s.heap.objs.size f cdv)) → sp vs H Q E →
      ∃ t, PSs (cxOf L2.CX0 P w K mg base N qual scope f cdv A outer s H E).nox body t ∧ t { nx := fun _ H' => Q .non H', rt := Q } (start N vs) H) : FnOk P w K mg base L2.CX0 (k + 1) f fd ps sp :=
  F.ok S len fun cdv A outer s H vs Q E hr hsp => let ⟨t, h, q⟩ := hbody cdv A outer s H vs Q E hr hsp; ⟨t, h.nox, q⟩
end Sd


/-! == and != of data without dicts: what the law compares. -/
namespace Sd
open PySem PySem.Spec PyProof.Rows L2
mutual
theorem eqv_self : ∀ d : PyData, d.plain = true → PyData.eqv d d = true
  | .none, _ => rfl
  | .bool b, _ => by simp [PyData.eqv]
  | .int i, _ => by simp [PyData.eqv]
  | .str x, _ => by simp [PyData.eqv]
  | .list xs, h => by
    simp only [PyData.eqv]
    exact eqv_selfAll xs (by simpa [PyData.plain] using h)
  | .tuple xs, h => by
    simp only [PyData.eqv]
    exact eqv_selfAll xs (by simpa [PyData.plain] using h)
  | .dict _, h => by simp [PyData.plain] at h
theorem eqv_selfAll : ∀ xs : List PyData, PyData.plainAll xs = true → PyData.eqvAll xs xs = true
  | [], _ => by simp [PyData.eqvAll]
  | x :: xs, h => by
    simp only [PyData.plainAll, Bool.and_eq_true] at h
    simp only [PyData.eqvAll, Bool.and_eq_true]
    exact ⟨eqv_self x h.1, eqv_selfAll xs h.2⟩
end
/-- data that may be compared: no dict, not deep -/
structure Shal (d : PyData) : Prop where
  p : d.plain = true
  d : d.depth ≤ 60
def rEqP (K : PySem.W.Frag) : R2 := fun x y H Q => ∃ d e, Dp K H x d ∧ Dp K H y e ∧ Shal d ∧ Shal e ∧ Q (.bl (PyData.eqv d e)) H
def rNeP (K : PySem.W.Frag) : R2 := fun x y H Q => ∃ d e, Dp K H x d ∧ Dp K H y e ∧ Shal d ∧ Shal e ∧ Q (.bl (!PyData.eqv d e)) H
section
variable {X : Cx}
theorem op_eqP (hu : X.A.units + 64 < cLine) : OpR X (compareOp .Eq) (rEqP X.K) := by
  intro pins s σ H x y v u Q I rx ry h
  obtain ⟨d, e, hd, he, sd, se, q⟩ := h
  obtain ⟨as, r1⟩ := Dp.reads I d x v hd rx
  obtain ⟨bs, r2⟩ := Dp.reads I e y u he ry
  have := sd.d
  exact PySem.SeqAt.eq_plain r1 r2 sd.p se.p (by omega) ⟨.bl _, H, I, rfl, q⟩
theorem op_neP (hu : X.A.units + 64 < cLine) : OpR X (compareOp .NotEq) (rNeP X.K) := by
  intro pins s σ H x y v u Q I rx ry h
  obtain ⟨d, e, hd, he, sd, se, q⟩ := h
  obtain ⟨as, r1⟩ := Dp.reads I d x v hd rx
  obtain ⟨bs, r2⟩ := Dp.reads I e y u he ry
  have := sd.d
  exact PySem.SeqAt.ne_plain r1 r2 sd.p se.p (by omega) ⟨.bl _, H, I, rfl, q⟩
end
section
variable {K : PySem.W.Frag} {H : Hp} {x y : V} {d e : PyData} {Q : VK}
theorem k_eqSame (h1 : Dp K H x d) (h2 : Dp K H y d) (s : Shal d) (q : Q (.bl true) H) : rEqP K x y H Q := ⟨d, d, h1, h2, s, s, by rw [eqv_self d s.p]; exact q⟩
theorem k_neSame (h1 : Dp K H x d) (h2 : Dp K H y d) (s : Shal d) (q : Q (.bl false) H) : rNeP K x y H Q := ⟨d, d, h1, h2, s, s, by rw [eqv_self d s.p]; exact q⟩
theorem dp_all {α : Type} {f : α → V} {g : α → PyData} : ∀ {l : List α}, (∀ a ∈ l, Dp K H (f a) (g a)) → DpAll K H (l.map f) (l.map g)
  | [], _ => .nil
  | a :: l, h => .cons (h a List.mem_cons_self) (dp_all fun b hb => h b (List.mem_cons_of_mem _ hb))
theorem plain_all {α : Type} {g : α → PyData} : ∀ {l : List α}, (∀ a ∈ l, (g a).plain = true) → PyData.plainAll (l.map g) = true
  | [], _ => by simp [PyData.plainAll]
  | a :: l, h => by
    simp only [List.map_cons, PyData.plainAll, Bool.and_eq_true]
    exact ⟨h a List.mem_cons_self, plain_all fun b hb => h b (List.mem_cons_of_mem _ hb)⟩
theorem depth_all {α : Type} {g : α → PyData} {n : Nat} : ∀ {l : List α}, (∀ a ∈ l, (g a).depth ≤ n) → PyData.depthAll (l.map g) ≤ n
  | [], _ => by simp [PyData.depthAll]
  | a :: l, h => by
    simp only [List.map_cons, PyData.depthAll]
    exact Nat.max_le.mpr ⟨h a List.mem_cons_self, depth_all fun b hb => h b (List.mem_cons_of_mem _ hb)⟩
theorem shal_list {α : Type} {g : α → PyData} {l : List α} {n : Nat} (hn : n < 60) (h : ∀ a ∈ l, (g a).plain = true ∧ (g a).depth ≤ n) : Shal (.list (l.map g)) := by
  refine ⟨by simp only [PyData.plain]; exact plain_all fun a ha => (h a ha).1, ?_⟩
  have := depth_all (l := l) (g := g) (n := n) fun a ha => (h a ha).2
  simp only [PyData.depth]
  omega
theorem dp_ints {ns : List Int} : DpAll K H (ns.map V.int) (ns.map PyData.int) := dp_all fun _ _ => .int _
theorem shal_ints {ns : List Int} : Shal (.list (ns.map PyData.int)) := shal_list (n := 0) (by decide) fun _ _ => ⟨by simp [PyData.plain], by simp [PyData.depth]⟩
theorem dp_strs {ns : List Str} : DpAll K H (ns.map V.str) (ns.map PyData.str) := dp_all fun _ _ => .str _
theorem shal_strs {ns : List Str} : Shal (.list (ns.map PyData.str)) := shal_list (n := 0) (by decide) fun _ _ => ⟨by simp [PyData.plain], by simp [PyData.depth]⟩
theorem dp_lst {a : Addr} {xs : List V} {ds : List PyData} (h : H a = some (.lst xs)) (hd : DpAll K H xs ds) : Dp K H (.ref a) (.list ds) := .lst (.of h) hd
theorem dp_tup {a : Addr} {xs : List V} {ds : List PyData} (h : H a = some (.tup xs)) (hd : DpAll K H xs ds) : Dp K H (.ref a) (.tuple ds) := .tup (.of h) hd
end
end Sd


/-! A generator expression of any element, consumed by tuple(..) or list(..). -/
namespace Gx
open PySem PySem.Spec PyProof.Rows L2 GenW

/-- the genexp's own frame over the def's -/
abbrev gx (X : Cx) (A : Around) (s : Shared) (H : Hp) (cenv : Env) (fp : List Addr) (pn : List (Addr × Obj)) : Cx :=
  { X with A := A, s_0 := s, H_0 := H, env := cenv, outer := X.stack, stack := cenv :: X.stack, ex := fp, fn := fun _ => false, calm := true, pn := pn, xe := fun _ _ => False }

/-- the genexp's names: «.0» (none of N), its own (with their places in N), captured ones -/
structure GxOk (N : List Str) (sc scope : Scope) (own : List (Str × Nat)) : Prop where
  kind : scope.kind = .function
  co : scope.isCoroutine = false
  cell : ∀ y ∈ scope.names, y.2 ≠ .cell
  dot : scope.names.lookup (".0" : Str) = some NameKind.local
  uniq : ∀ y ∈ scope.names, scope.names.lookup y.1 = some y.2
  ix : ∀ p ∈ own, N[p.2]? = some p.1
  free : ∀ y ∈ scope.names, y.2 = .free → sc.names.lookup y.1 = some .cell ∨ sc.names.lookup y.1 = some .free
  own : ∀ y ∈ scope.names, y.2 = .local → y.1 ∈ own.map (·.1) ∨ y.1 ∉ N

def gxC (N : List Str) (sc scope : Scope) (own : List (Str × Nat)) : Bool :=
  (match scope.kind with | .function => true | _ => false) && !scope.isCoroutine && decide (scope.names.lookup (".0" : Str) = some NameKind.local) && (scope.names.all fun y => decide (scope.names.lookup y.1 = some y.2)) && (own.all fun p => decide (N[p.2]? = some p.1)) &&
    (scope.names.all fun y => match y.2 with
      | .free => (match sc.names.lookup y.1 with | some .cell => true | some .free => true | _ => false)
      | .local => decide (y.1 ∈ own.map (·.1)) || decide (y.1 ∉ N)
      | .cell => false
      | _ => true)
theorem gxOk_by {N : List Str} {sc scope : Scope} {own : List (Str × Nat)} (h : gxC N sc scope own = true) : GxOk N sc scope own := by
  unfold gxC at h
  simp only [Bool.and_eq_true, List.all_eq_true, decide_eq_true_eq, Bool.not_eq_true'] at h
  obtain ⟨⟨⟨⟨⟨h1, h0⟩, hd⟩, h2⟩, h3⟩, h4⟩ := h
  refine ⟨?_, h0, fun y hy e => ?_, hd, h2, h3, fun y hy e => ?_, fun y hy e => ?_⟩
  · split at h1
    · assumption
    · cases h1
  · have q := h4 y hy
    simp only [e] at q
    cases q
  · have q := h4 y hy
    simp only [e] at q
    split at q <;> first | exact .inl (by assumption) | exact .inr (by assumption) | cases q
  · have q := h4 y hy
    simp only [e, Bool.or_eq_true, decide_eq_true_eq] at q
    exact q

theorem gx_over {A : Around} {elt : Expr} {gens : List Comprehension} {scope : Scope} {pos : Pos} {it acc : Value} {env : Env} :
    A.over (.compLoop (.GeneratorExp elt gens scope pos) 0 it acc env) [] = A.deeper env := by
  first
    | rfl
    | (obtain ⟨hd, d, fr, gs, u⟩ := A; simp [Around.over, Around.deeper, marksOver, frameCount, unitsOf, envsOf, guardsOf, pushEnvs, pushGuards, Code.envs, Code.env?, Code.isFrame, Code.guards, Code.isGuard, Code.weight, Code.frames, Code.isCreation, Code.isCaller, Code.cUnits])

section
variable {X : Cx} {pins : List (Addr × Obj)} {σ : L2.St} {H : Hp} {s : Shared}
theorem gx_start {A : Around} {scope : Scope} {own : List (Str × Nat)} {fp : List Addr} {code : Value} {m : Str → Option Value} {s' : Shared} {pn : List (Addr × Obj)} (I : Inv X pins σ H s) (ok : GxOk X.N X.env.scope scope own) (hN : X.N.Nodup)
    (hfp : ∀ b ∈ fp, FpOk X pins H b ∧ b < s.heap.objs.size) (hA : A.handled = none)
    (hfr : A.frames = some (genEnv scope (cloFrom X.env.cells scope.names []) s.heap.objs.size code builtinsNs X.env :: X.stack))
    (kp : ∀ b o, s.heap.get? b = some o → s'.heap.get? b = some o) (hos : s'.os = s.os) (hb : AllBare s'.gens) (hns : s'.heap.Ns s.heap.objs.size m)
    (hpn : ∀ p ∈ pn, s'.heap.get? p.1 = some p.2 ∧ s.heap.objs.size < p.1 ∧ ∀ v, p.2.data ≠ .cell v) :
    Inv (gx X A s H (genEnv scope (cloFrom X.env.cells scope.names []) s.heap.objs.size code builtinsNs X.env) fp pn) [] (wipe σ (own.map (·.2))) H s' := by
  have hfree : ∀ y ∈ scope.names, y.2 = .free → ∃ c, X.env.cells.lookup y.1 = some c := fun y hy e => by
    rcases ok.free y hy e with k | k
    · exact I.ok.has _ (.inl k)
    · exact I.ok.has _ (.inr k)
  generalize hcenv : genEnv scope (cloFrom X.env.cells scope.names []) s.heap.objs.size code builtinsNs X.env = cenv at hfr ⊢
  have hL : cenv.locals = s.heap.objs.size := by rw [← hcenv]; rfl
  have hcl : cenv.cells = cloFrom X.env.cells scope.names [] := by rw [← hcenv]; rfl
  have hsc : cenv.scope = scope := by rw [← hcenv]; rfl
  have cm : ∀ {y c}, cenv.cells.lookup y = some c → X.env.cells.lookup y = some c ∧ c < s.heap.objs.size := fun {y c} hm => by
    rw [hcl] at hm
    rcases cloFrom_mem (PySem.mem_of_lookup hm) with hm | ⟨h1, rfl⟩
    · cases hm
    · obtain ⟨c, hc⟩ := hfree _ h1 rfl
      rw [hc]
      obtain ⟨w, z⟩ := I.cell _ _ hc
      exact ⟨rfl, z.lt⟩
  have look : ∀ {y}, scope.names.lookup y = some .free → ∃ c, cenv.cells.lookup y = some c ∧ X.env.cells.lookup y = some c := fun {y} hl => by
    have hy : (y, NameKind.free) ∈ scope.names := PySem.mem_of_lookup hl
    obtain ⟨c', e'⟩ := mem_lookup (cloFrom_has (cells := X.env.cells) (acc := []) hy)
    rw [← hcl] at e'
    exact ⟨c', e', (cm e').1⟩
  have okB : (gx X A s H cenv fp pn).Ok := by
    refine ⟨I.ok.mod, by show cenv.scope.kind = _; rw [hsc]; exact ok.kind, by show cenv.globals = _; rw [← hcenv]; exact I.ok.glob, by show cenv.builtins = _; rw [← hcenv]; rfl, by show s.heap.objs.size ≤ cenv.locals; rw [hL]; exact Nat.le_refl _,
      fun y z c e1 e2 => ?_, fun y hy => ?_, fun y c z e => ?_, fun _ => hA, hfr, .inr ⟨rfl, by show cenv.frame = some cenv.locals; rw [← hcenv]; rfl⟩, fun b hb => ⟨?_, fun y c e z => ?_⟩, I.bs, Nat.le_trans I.ok.bsz I.sz, fun b o e hb => ?_, fun b hb z => ?_, I.stack, I.stkFree⟩
    · exact I.ok.inj y z c (cm e1).1 (cm e2).1
    · show ∃ c, cenv.cells.lookup y = some c
      have hy' : cenv.scope.names.lookup y = some .cell ∨ cenv.scope.names.lookup y = some .free := hy
      rw [hsc] at hy'
      rcases hy' with hy' | hy'
      · exact absurd rfl (ok.cell _ (PySem.mem_of_lookup hy'))
      · obtain ⟨c, h1, _⟩ := look hy'
        exact ⟨c, h1⟩
    · exact absurd z (by simp)
    · show b ≠ cenv.locals
      rw [hL]; exact Nat.ne_of_lt (hfp b hb).2
    · exact (hfp b hb).1.2.2.2.2.1 y c (cm e).1 z
    · rcases (hfp b hb).1.2.2.2.1 with z | z
      · exact I.ok.noex b o e z
      · exact absurd (Nat.lt_of_lt_of_le (Heap.lt_size e) (Nat.le_trans I.ok.bsz z)) (Nat.lt_irrefl _)
    · rcases List.mem_cons.mp (I.stkSub b z) with z | z
      · exact (hfp b hb).1.2.1 z
      · exact (hfp b hb).1.2.2.1 z
  refine ⟨okB, hos, hb, Un.kept kp, ⟨m, ?_, fun i y av e1 e2 e3 => ?_⟩, fun y c e => ?_, ?_, fun y c e => ?_, fun p hp => ?_, I.hok.kept kp, by rw [wipe_length]; exact I.len⟩
  · show Heap.Ns _ cenv.locals _
    rw [hL]; exact hns
  · obtain ⟨e2, hne⟩ := wipe_some e2
    have e3 : Vis cenv.scope y := e3
    rw [hsc] at e3
    have hfr : scope.names.lookup y = some .free := by
      rcases e3 with e3 | e3 | e3
      · rcases ok.own _ (PySem.mem_of_lookup e3) rfl with e' | e'
        · obtain ⟨p, hp, hpy⟩ := List.mem_map.mp e'
          have e3 := ok.ix p hp
          have : p.1 = y := hpy
          rw [this] at e3
          exact absurd (List.mem_map.mpr ⟨p, hp, nodup_ix hN e3 e1⟩) hne
        · exact absurd (List.mem_of_getElem? e1) e'
      · exact absurd rfl (ok.cell _ (PySem.mem_of_lookup e3))
      · exact e3
    obtain ⟨m, hn, hl⟩ := I.loc
    have hvis : Vis X.env.scope y := (ok.free _ (PySem.mem_of_lookup hfr) rfl).elim (fun k => .inr (.inl k)) (fun k => .inr (.inr k))
    obtain ⟨w, r, q⟩ := hl i y av e1 e2 hvis
    refine ⟨w, r, .inr ⟨.inr ?_, ?_⟩⟩
    · show cenv.scope.names.lookup y = _
      rw [hsc]; exact hfr
    obtain ⟨c, h1, h2⟩ := look hfr
    rcases q with ⟨k, _⟩ | ⟨_, c', e', z⟩
    · have k : X.env.scope.names.lookup y = some .local := k
      rcases ok.free _ (PySem.mem_of_lookup hfr) rfl with k' | k' <;> rw [show X.env.scope.names.lookup y = _ from k'] at k <;> cases k
    · rw [h2] at e'; cases e'
      exact ⟨c, h1, z.keeps kp⟩
  · obtain ⟨w, z⟩ := I.cell y c (cm e).1
    exact ⟨w, z.keeps kp⟩
  · show H cenv.locals = none
    rw [hL]; exact I.hok.fresh (Nat.le_refl _)
  · exact I.freeC y c (cm e).1
  · have hp : p ∈ pn := by simpa using hp
    obtain ⟨q1, q2, q3⟩ := hpn p hp
    refine ⟨q1, I.hok.fresh (Nat.le_of_lt q2), ?_, fun z => ?_, q3⟩
    · show p.1 ≠ cenv.locals
      rw [hL]; exact Nat.ne_of_gt q2
    · rcases List.mem_cons.mp (I.stkSub p.1 z) with z | z
      · exact absurd (z ▸ I.lt) (Nat.not_lt_of_ge (Nat.le_of_lt q2))
      · exact I.nofs (Nat.le_of_lt q2) z

/-! ### the run -/
/-- the end: all handed out stands in S -/
def GEnd (X' : Cx) (S : Addr) (σ : L2.St) (Q : List V → Hp → Prop) : GenEnd := fun n _ r s => r = .ok .next ∧ ∃ ys H, n + ys.length = sizeLine ∧ GI X' S [] ys σ H s ∧ Q ys H

theorem seg_gx {A : Around} {S : Addr} {elt tg iter : Expr} {ifs : List Expr} {scope : Scope} {gpos : Pos} {g : TG} {tt : TT} {te : TE} {vs : List Nat} {J : It} {fp : List Addr} {it : Addr} {tn : Nat → Heap → Prop} {H0 : Hp} {s0 : Shared} {cenv : Env} {pn : List (Addr × Obj)}
    {W : Nat → Nat → List V → Hp → Prop} {Q : List V → Hp → Prop}
    (T : Turn X.prog X.w X.K tg J fp it tn) (hco : cenv.scope.isCoroutine = false)
    (pg : PG (gx X (A.deeper cenv) s0 H0 cenv fp pn) tg g) (pt : PTs (gx X (A.deeper cenv) s0 H0 cenv fp pn) ifs tt) (pe : PE (gx X (A.deeper cenv) s0 H0 cenv fp pn) elt te)
    (hpn : ∀ p ∈ pn, p.1 ≠ S ∧ p.1 ∉ fp) (hA : Apart (gx X (A.deeper cenv) s0 H0 cenv fp pn) S) (hS : S ∉ fp)
    (turn : ∀ i m ys H, W i m ys H → (J.stop i H ∧ Q ys H) ∨ (J.go i H ∧ ∃ Nx : List V → Hp → Prop, (∀ ys' H', Nx ys' H' → ∃ m', m' < m ∧ W (i + 1) m' ys' H') ∧ ∀ x H', J.yld i H x H' → g x (wipe σ vs) H' fun σ2 H2 => wipe σ2 vs = wipe σ vs ∧ tt σ2 H2 fun b H3 =>
      if b = true then te σ2 H3 fun y H4 => ys.length < sizeLine ∧ Nx (ys ++ [y]) H4 else Nx ys H3)) :
    ∀ (m n i : Nat) (ys : List V) (H : Hp) (s₀ s : Shared), n + ys.length = sizeLine → W i m ys H → GI (gx X (A.deeper cenv) s0 H0 cenv fp pn) S [] ys (wipe σ vs) H s → tn i s.heap → (∀ b ∈ fp, H b = none) →
      Seg (model X.prog X.w) A (GEnd (gx X (A.deeper cenv) s0 H0 cenv fp pn) S (wipe σ vs) Q) (GY (gx X (A.deeper cenv) s0 H0 cenv fp pn) S) n s₀ (.compLoop (.GeneratorExp elt [⟨tg, iter, ifs, 0⟩] scope gpos) 0 (.ref it) .none cenv)
        ((model X.prog X.w).den (.compLoop (.GeneratorExp elt [⟨tg, iter, ifs, 0⟩] scope gpos) 0 (.ref it) .none cenv)) [] s := by
  have stat : ∀ {σ' : L2.St} {H' : Hp} {s' : Shared} {acc : Array Value} {c : Nat}, Inv (gx X (A.deeper cenv) s0 H0 cenv fp pn) [(S, lstObj acc c)] σ' H' s' → (∀ b ∈ fp, H' b = none) → ∀ b ∈ fp, FpOk (gx X (A.deeper cenv) s0 H0 cenv fp pn) [(S, lstObj acc c)] H' b := fun {σ' H' s' acc c} I' hn b hb =>
    ⟨hn b hb, (I'.ok.exf b hb).1, I'.ok.exfs b hb, .inl hb, fun x c e => (I'.ok.exf b hb).2 x c e, fun p hp z => by
      rcases List.mem_append.mp hp with hp | hp
      · exact (hpn p hp).2 (z ▸ hb)
      · rw [List.mem_singleton.mp hp] at z
        have z : S = b := z
        exact hS (by rw [z]; exact hb)⟩
  intro m
  induction m using Nat.strongRecOn with
  | ind m ih =>
    intro n i ys H s₀ s hn w hI hst hfn
    show Seg _ A _ _ _ s₀ _ ((compTurn (.GeneratorExp elt [⟨tg, iter, ifs, 0⟩] scope gpos) 0 (.ref it) .none cenv).onRaise (leaving cenv)) [] s
    rw [compTurn_gen, Sem.onRaise_eq_wrap]
    refine seg_bind_wrap (wpAny_standAt ?_)
    obtain ⟨acc, cc, r, I⟩ := hI
    rcases turn i m ys H w with ⟨stop, q⟩ | ⟨go, Nx, hNx, step⟩
    · refine seg_bind_wrap ?_
      rw [gx_over]
      refine thnF (T.done (gx X (A.deeper cenv) s0 H0 cenv fp pn) rfl rfl rfl rfl i _ s _ H (fun _ _ => False) I (stat I hfn) hst stop) fun rr s1 ⟨hr, I1⟩ => ?_
      subst hr
      exact seg_end (.ok .next) ⟨rfl, ys, H, hn, ⟨acc, cc, r, I1⟩, q⟩
    · refine seg_bind_wrap ?_
      rw [gx_over]
      refine thnF (T.item (gx X (A.deeper cenv) s0 H0 cenv fp pn) rfl rfl rfl rfl i _ s _ H (fun _ _ => False) I (stat I hfn) hst go) fun rr s1 ⟨u, hr, h1⟩ => ?_
      subst hr
      refine seg_bind_wrap ?_
      rw [gx_over]
      refine thnF h1 fun _ s2 ⟨x, H2, I2, r2, y2, st2, n2⟩ => ?_
      have I2' := I2.pinned (stat I2 n2) (T.obj _ _ st2)
      refine seg_bind_wrap ?_
      rw [gx_over]
      refine thnF (pg.run _ s2 _ H2 x u _ I2' r2 (step x H2 y2)) fun _ s3 ⟨σ3, H3, I3, hw3, q3⟩ => ?_
      refine seg_bind_wrap ?_
      rw [gx_over]
      refine thnF (pt.run _ s3 σ3 H3 _ I3 q3) fun b s4 ⟨H4, I4, q4⟩ => ?_
      -- the turn's end
      have hl : ∀ {s' : Shared} {H' : Hp}, Inv (gx X (A.deeper cenv) s0 H0 cenv fp pn) ([(S, lstObj acc cc)] ++ pinsAt fp s2.heap) σ3 H' s' →
          Inv (gx X (A.deeper cenv) s0 H0 cenv fp pn) [(S, lstObj acc cc)] (wipe σ vs) H' s' ∧ tn (i + 1) s'.heap ∧ ∀ b ∈ fp, H' b = none := fun {s' H'} I' => by
        have pin' : ∀ b ∈ fp, ∀ o, s2.heap.get? b = some o → s'.heap.get? b = some o ∧ H' b = none := fun b hb o e =>
          let z := I'.pin (b, o) (List.mem_append_right _ (List.mem_append_right _ (mem_pinsAt hb e)))
          ⟨z.1, z.2.1⟩
        have hl : (wipe σ vs).length = σ3.length := by rw [← hw3, wipe_length]
        refine ⟨I'.unpinned.weak hl (fun j v e => ?_), T.keep _ _ _ st2 fun b hb o e => (pin' b hb o e).1, fun b hb => ?_⟩
        · rw [← hw3] at e
          exact (wipe_some e).1
        · obtain ⟨o, e, _⟩ := T.obj _ _ st2 b hb
          exact (pin' b hb o e).2
      cases b with
      | false =>
        simp only [Bool.false_eq_true, if_false] at q4 ⊢
        obtain ⟨m', hm, w'⟩ := hNx ys H4 q4
        obtain ⟨I5, st5, n5⟩ := hl I4
        exact seg_again rfl (ih m' hm n (i + 1) ys H4 s₀ s4 hn w' ⟨acc, cc, r, I5⟩ st5 n5)
      | true =>
        simp only [if_true] at q4 ⊢
        have hy : ∀ v, yieldOut cenv v = yieldValue v := fun v => by simp only [yieldOut, hco, Bool.false_eq_true, if_false]
        simp only [hy]
        rw [Sem.bind_eq_wrap', Sem.bind_eq_wrap', Sem.wrap_wrap, Sem.wrap_wrap]
        refine seg_wrap ?_
        rw [gx_over]
        refine thnF (pe.run _ s4 σ3 H4 _ I4 q4) fun v s5 ⟨yv, H5, I5', r5, hlt, nx⟩ => ?_
        obtain ⟨I5, st5, n5⟩ := hl I5'
        obtain ⟨n, rfl⟩ : ∃ k, n = k + 1 := ⟨n - 1, by omega⟩
        obtain ⟨m', hm, w'⟩ := hNx _ H5 nx
        refine seg_at (seg_yield rfl rfl rfl ⟨ys, yv, [], wipe σ vs, H5, hn, r5, ⟨acc, cc, r, I5⟩, fun s'' z => ?_⟩)
        refine seg_again rfl (ih m' hm n (i + 1) _ H5 s'' s'' (by rw [List.length_append, List.length_singleton]; omega) w' ?_ ?_ n5)
        · exact GI.woken (fun p hp => (hpn p hp).1) (fun p hp => absurd hp (by simp)) hA ⟨acc, cc, r, I5⟩ r5 z
        · exact T.keep _ _ _ st5 fun b hb o e => z.keep b o (fun y => hS (y ▸ hb)) e

theorem seg_gx0 {A : Around} {elt tg iter : Expr} {ifs : List Expr} {scope : Scope} {gpos : Pos} {J : It} {fp : List Addr} {it : Addr} {tn : Nat → Heap → Prop} {cenv : Env} {R : GenEnd} {Y : Protocol} {n : Nat} {s₀ s : Shared} {i : Nat}
    (T : Turn X.prog X.w X.K tg J fp it tn) (hst : tn i s.heap)
    (loop : Seg (model X.prog X.w) A R Y n s₀ (.compLoop (.GeneratorExp elt [⟨tg, iter, ifs, 0⟩] scope gpos) 0 (.ref it) .none cenv) ((model X.prog X.w).den (.compLoop (.GeneratorExp elt [⟨tg, iter, ifs, 0⟩] scope gpos) 0 (.ref it) .none cenv)) [] s) :
    Seg (model X.prog X.w) A R Y n s₀ (.compStart (.GeneratorExp elt [⟨tg, iter, ifs, 0⟩] scope gpos) 0 (.ref it) .none cenv) ((model X.prog X.w).den (.compStart (.GeneratorExp elt [⟨tg, iter, ifs, 0⟩] scope gpos) 0 (.ref it) .none cenv)) [] s := by
  show Seg _ A _ _ _ s₀ _ ((compStart (.GeneratorExp elt [⟨tg, iter, ifs, 0⟩] scope gpos) 0 (.ref it) .none cenv).onRaise (leaving cenv)) [] s
  unfold compStart
  rw [Sem.onRaise_eq_wrap]
  show Seg _ A _ _ _ s₀ _ ((ask >>= _).wrap _ _ _ _) [] s
  refine seg_bind_wrap (wpAny_askSetting ?_)
  split
  · exact seg_again rfl loop
  · first
      | exact seg_bind_wrap (wpAny_rule (seg_bind_wrap (wpAny_standAt (seg_bind_wrap (T.self _ i s _ _ hst (seg_again rfl loop))))))
      | (refine seg_bind_wrap (wpAny_rule ?_); show Seg _ A _ _ _ s₀ _ ((standAt iter.pos >>= _).wrap _ _ _ _) [] s; exact seg_bind_wrap (wpAny_standAt (seg_bind_wrap (T.self _ i s _ _ hst (seg_again rfl loop)))))

/-! ### the expression -/
def tGx (wi : TI) (g : TG) (tt : TT) (te : TE) (vs : List Nat) (P : Addr) : TGen := fun σ H cont => wi σ H fun J H1 => GxR.TabG H1 P ∧ ∀ H2, GxR.Tabbed P H1 H2 → ∃ W : Nat → Nat → List V → Hp → Prop, (∃ m, W 0 m [] H2) ∧ ∀ i m ys H, W i m ys H →
  (J.stop i H ∧ cont ys H) ∨ (J.go i H ∧ ∃ Nx : List V → Hp → Prop, (∀ ys' H', Nx ys' H' → ∃ m', m' < m ∧ W (i + 1) m' ys' H') ∧ ∀ x H', J.yld i H x H' → g x (wipe σ vs) H' fun σ2 H2 => wipe σ2 vs = wipe σ vs ∧ tt σ2 H2 fun b H3 =>
    if b = true then te σ2 H3 fun y H4 => ys.length < sizeLine ∧ Nx (ys ++ [y]) H4 else Nx ys H3)

theorem pgen_gx {c P : Addr} {k : Nat} {elt tg iter : Expr} {ifs : List Expr} {scope : Scope} {own : List (Str × Nat)} {gpos : Pos} {wi : TI} {g : TG} {tt : TT} {te : TE}
    (hr : Room (k + 1) X.A) (TB : GxR.TabB X.base X.mg c P) (hcode : X.env.code = .ref c) (hN : X.N.Nodup) (hi : PI X tg iter wi) (ok : GxOk X.N X.env.scope scope own)
    (hg : ∀ (A : Around) (s : Shared) (H : Hp) (C : Addr) (cl : List (Str × Addr)) (code : Value) (fp : List Addr) (pn : List (Addr × Obj)), Room k A → PG (gx X A s H (genEnv scope cl C code builtinsNs X.env) fp pn) tg g)
    (ht : ∀ (A : Around) (s : Shared) (H : Hp) (C : Addr) (cl : List (Str × Addr)) (code : Value) (fp : List Addr) (pn : List (Addr × Obj)), Room k A → PTs (gx X A s H (genEnv scope cl C code builtinsNs X.env) fp pn) ifs tt)
    (he : ∀ (A : Around) (s : Shared) (H : Hp) (C : Addr) (cl : List (Str × Addr)) (code : Value) (fp : List Addr) (pn : List (Addr × Obj)), Room k A → PE (gx X A s H (genEnv scope cl C code builtinsNs X.env) fp pn) elt te)
    (hs : ∀ v, genFold iter X.env v = pure v) : PGen X (k + 1) (.GeneratorExp elt [⟨tg, iter, ifs, 0⟩] scope gpos) (tGx wi g tt te (own.map (·.2)) P) (fun _ _ _ => False) := by
  refine ⟨fun pins s σ H cont I h => ?_⟩
  have hfree : ∀ y ∈ scope.names, y.2 = .free → ∃ c, X.env.cells.lookup y.1 = some c := fun y hy e => by
    rcases ok.free y hy e with k | k
    · exact I.ok.has _ (.inl k)
    · exact I.ok.has _ (.inr k)
  refine wpAny_GeneratorExp_make ok.co (closure_ok hfree) ok.cell ok.dot ok.kind (by have := hr.dp; omega) (thn (hi.run pins s σ H _ I h) fun xv s1 hx => thn hx fun itv s2 h2 => ?_) hs
  obtain ⟨it, fp, tn, J, H2, e, I2, T, st2, f2, hTab, q⟩ := h2
  subst e
  refine ⟨I2.nolimit, ?_⟩
  obtain ⟨ps, hP, htr⟩ := hTab
  have hPs : s2.heap.get? P = some { cls := .none, data := .fields ps } := I2.hok P _ hP
  have cd : PySem.W.CodeHd s2.heap c P := TB.code.keeps fun b u e => I2.bk b u e
  have nfpP : ∀ b ∈ fp, b ≠ P := fun b hb z => by
    have := (f2 b hb).1
    rw [z, hP] at this; cases this
  have cont' : ∀ (code : Value) (h3 : Heap) (tk : Nat) (ps' : Array Value), Heap.ExtBut P s2.heap h3 → s2.heap.objs.size ≤ h3.objs.size → h3.get? P = some { cls := .none, data := .fields ps' } → (∃ more, ps' = ps ++ more) → TriplesOk ps'.toList →
      wpAny (model X.prog X.w) X.A (builtinsFor X.env.globals X.env.builtins) (fun bi s₄ => ∀ h', h'.Ns s₄.heap.objs.size (fun y => if y = ".0" then some (.ref it) else none) → Heap.SameBut s₄.heap.objs.size (s₄.heap.push { cls := .type "frame", data := .dict #[] }) h' →
          (∃ H1 sc ex, Inv X pins σ H1 sc ∧ ExOk X pins ex ∧ GMade X.prog X.w (k + 1) X.stack H1 sc ex cont (fun _ _ _ => False) (.ref h'.objs.size) { s₄ with
            gens := s₄.gens.push (.fresh (.compStart (.GeneratorExp elt [⟨tg, iter, ifs, 0⟩] scope gpos) 0 (.ref it) .none (genEnv scope (cloFrom X.env.cells scope.names []) s₄.heap.objs.size code bi X.env))),
            toks := s₄.toks + 1 + 1 + 1,
            heap := h'.push { cls := .type "generator", data := .fields #[.int s₄.gens.size 0, .str "<genexpr>" (s₄.toks + 1), .str (X.env.qual ++ "<genexpr>") (s₄.toks + 1 + 1)] } })) X.xe { s2 with heap := h3, toks := tk } := by
    intro code h3 tk ps' hx hsz hP3 hmore ht3
    obtain ⟨bm, ob, e1, e2, e3, e4, e5, e6, e7, e8⟩ := TB.bm
    have keep3 : ∀ b u, b ≠ P → s2.heap.get? b = some u → h3.get? b = some u := fun b u hb e => hx b u hb e
    refine wpAny_builtinsFor (m := X.mg) (by rw [I2.ok.glob]; exact (I2.mod.glob.keeps I2.bk).extBut hx TB.gP) e1 e2 (keep3 _ _ e4 (I2.bk _ _ e5)) e6 e7 e8 ?_
    obtain ⟨more, em⟩ := hmore
    have I3 : Inv X pins σ (upd H2 P (.tbl (ps ++ more))) { s2 with heap := h3, gens := s2.gens, drawn := s2.drawn, toks := tk } := GxR.inv_tab I2 hP (fun b u hb e => hx b u hb e) (by rw [← em]; exact hP3) I2.bare
    generalize hs3 : ({ s2 with heap := h3, gens := s2.gens, drawn := s2.drawn, toks := tk } : Shared) = s3 at I3
    have e3h : s3.heap = h3 := by rw [← hs3]
    intro h' hn' hs'
    generalize hH3 : upd H2 P (.tbl (ps ++ more)) = H3 at I3
    have hTb : GxR.Tabbed P H2 H3 := by
      rw [← hH3]
      exact ⟨⟨ps ++ more, upd_same, by rw [← em]; exact ht3⟩, fun b hb => upd_ne hb⟩
    have f3 : ∀ b ∈ fp, FpOk X pins H3 b ∧ b < s3.heap.objs.size := fun b hb => by
      obtain ⟨o, e, _⟩ := T.obj _ _ st2 b hb
      refine ⟨⟨?_, (f2 b hb).2⟩, by rw [e3h]; exact Heap.lt_size (keep3 b o (nfpP b hb) e)⟩
      rw [hTb.2 b (nfpP b hb)]
      exact (f2 b hb).1
    have st3 : tn 0 s3.heap := T.keep _ _ _ st2 fun b hb o e => by rw [e3h]; exact keep3 b o (nfpP b hb) e
    obtain ⟨W, ⟨m0, w0⟩, turn⟩ := q H3 hTb
    have keep' : ∀ b o, s3.heap.get? b = some o → h'.get? b = some o := fun b o e => hs'.extBut b o (Nat.ne_of_lt (Heap.lt_size e)) (Heap.get?_push_of_some _ e)
    have hsz' : h'.objs.size = s3.heap.objs.size + 1 := by rw [hs'.1, Heap.size_push]
    refine ⟨H3, s3, fp, I3, fun b hb => ?_, ?_⟩
    · obtain ⟨z1, z2, z3, z4, z5, z6⟩ := (f3 b hb).1
      exact ⟨z4, z2, z5, z6⟩
    generalize hce : genEnv scope (cloFrom X.env.cells scope.names []) s3.heap.objs.size code builtinsNs X.env = cenv
    have cL : cenv.locals = s3.heap.objs.size := by rw [← hce]; rfl
    generalize hgo : ({ cls := .type "generator", data := .fields #[.int s3.gens.size 0, .str "<genexpr>" (s3.toks + 1), .str (X.env.qual ++ "<genexpr>") (s3.toks + 1 + 1)] } : Obj) = go
    have hgc : go.cls = .type "generator" ∧ go.data = .fields #[.int s3.gens.size 0, .str "<genexpr>" (s3.toks + 1), .str (X.env.qual ++ "<genexpr>") (s3.toks + 1 + 1)] ∧ go.slots = #[] := by
      rw [← hgo]; exact ⟨rfl, rfl, rfl⟩
    have hgen : ∀ h : Heap, h.get? h'.objs.size = some go → h.IsGen h'.objs.size s3.gens.size := fun h e => ⟨go, _, _, e, hgc.1, hgc.2.1, hgc.2.2⟩
    have hpushed : (h'.push go).get? h'.objs.size = some go := by
      rw [← hgo]; exact Heap.get?_push_size _ rfl
    refine ⟨h'.objs.size, s3.gens.size, _, rfl, by omega, ?_, hgen _ hpushed, Array.getElem?_push_size .., rfl, AllBare.push I3.bare rfl, I3.nolimit.keeps fun b o e => Heap.get?_push_of_some _ (keep' b o e), fun b o e => Heap.get?_push_of_some _ (keep' b o e), ?_⟩
    · show _ < (h'.push _).objs.size
      rw [Heap.size_push]; exact Nat.lt_succ_self _
    intro Aw S s4 hrw hfr hSx hk2 hSo hos hba
    have hSz : h'.objs.size < S := by
      have hSx' : (h'.push go).objs.size ≤ S := hSx
      rw [Heap.size_push] at hSx'
      exact hSx'
    have hS3 : s3.heap.objs.size < S := by omega
    obtain ⟨cS, heS⟩ := hSo
    have hea : s4.heap.get? h'.objs.size = some go := hk2 _ go hpushed
    have hgd : ∀ v, go.data ≠ .cell v := fun v z => by rw [hgc.2.1] at z; cases z
    have kp4 : ∀ b o, s3.heap.get? b = some o → s4.heap.get? b = some o := fun b o e => hk2 b o (Heap.get?_push_of_some _ (keep' b o e))
    have I5 := gx_start (A := Aw.deeper cenv) (code := code) (s' := s4) (m := fun y => if y = ".0" then some (.ref it) else none) (pn := [(h'.objs.size, go)]) I3 ok hN f3 hrw.hd (by rw [hce]; exact Around.frames_deeper hfr) kp4 hos hba
      (hn'.keeps fun b o e => hk2 b o (Heap.get?_push_of_some _ e)) (fun p hp => by
        rw [List.mem_singleton.mp hp]
        exact ⟨hea, by show s3.heap.objs.size < h'.objs.size; omega, hgd⟩)
    rw [hce] at I5
    have hSL : S ≠ cenv.locals := by rw [cL]; exact Nat.ne_of_gt hS3
    have hG : GI (gx X (Aw.deeper cenv) s3 H3 cenv fp [(h'.objs.size, go)]) S [] [] (wipe σ (own.map (·.2))) H3 s4 := by
      refine ⟨#[], cS, .nil, I5.pins_of fun p hp => ?_⟩
      rw [List.mem_singleton.mp hp]
      refine ⟨heS, I3.hok.fresh (Nat.le_of_lt hS3), hSL, fun z => ?_, fun v q => by cases q⟩
      rcases List.mem_cons.mp (I3.stkSub S z) with z | z
      · exact absurd (z ▸ I3.lt) (Nat.not_lt_of_ge (Nat.le_of_lt hS3))
      · exact I3.nofs (Nat.le_of_lt hS3) z
    have hSfp : S ∉ fp := fun hb => absurd (f3 S hb).2 (Nat.not_lt_of_ge (Nat.le_of_lt hS3))
    have hAp : Apart (gx X (Aw.deeper cenv) s3 H3 cenv fp [(h'.objs.size, go)]) S := by
      refine ⟨Nat.le_of_lt hS3, hSL, fun x c e z => ?_⟩
      obtain ⟨v, o, ho, _⟩ := I5.cell x c e
      have e : cenv.cells.lookup x = some c := e
      rw [← hce] at e
      rcases cloFrom_mem (PySem.mem_of_lookup e) with hm | ⟨h1, h2⟩
      · cases hm
      · obtain ⟨c2, hc2⟩ := hfree _ h1 rfl
        rw [hc2] at h2
        have h2 : c = c2 := h2
        obtain ⟨v2, o2, ho2, _⟩ := I3.cell x c2 hc2
        have := Heap.lt_size ho2
        rw [← h2, z] at this
        exact absurd this (Nat.not_lt_of_ge (Nat.le_of_lt hS3))
    have pinned : ∀ {ip : List (Addr × Obj)} {ys : List V} {s' : Shared} {σ' : L2.St} {H' : Hp}, GI (gx X (Aw.deeper cenv) s3 H3 cenv fp [(h'.objs.size, go)]) S ip ys σ' H' s' → s'.heap.IsGen h'.objs.size s3.gens.size := fun {ip ys s' σ' H'} hI => by
      obtain ⟨acc, cc, _, J⟩ := hI
      exact hgen _ (J.pin (h'.objs.size, go) (List.mem_append_left _ (List.mem_singleton.mpr rfl))).1
    have st4 : tn 0 s4.heap := T.keep _ _ _ st3 fun b _ o e => kp4 b o e
    have loop := seg_gx (A := Aw) (S := S) (elt := elt) (iter := iter) (scope := scope) (gpos := gpos) (vs := own.map (·.2)) (H0 := H3) (s0 := s3) (cenv := cenv) (pn := [(h'.objs.size, go)]) (W := W) (Q := cont) (σ := σ) T (by rw [← hce]; exact ok.co)
      (by rw [← hce]; exact hg _ _ _ _ _ _ _ _ (hrw.deeper _)) (by rw [← hce]; exact ht _ _ _ _ _ _ _ _ (hrw.deeper _)) (by rw [← hce]; exact he _ _ _ _ _ _ _ _ (hrw.deeper _))
      (fun p hp => by
        rw [List.mem_singleton.mp hp]
        exact ⟨Nat.ne_of_lt hSz, fun hb => absurd (f3 _ hb).2 (by show ¬ (h'.objs.size < s3.heap.objs.size); omega)⟩) hAp hSfp turn m0 sizeLine 0 [] H3 s4 s4 (Nat.add_zero _) w0 hG st4 (fun b hb => (f3 b hb).1.1)
    refine seg_imp (R := GEnd (gx X (Aw.deeper cenv) s3 H3 cenv fp [(h'.objs.size, go)]) S (wipe σ (own.map (·.2))) cont) (Y := GY (gx X (Aw.deeper cenv) s3 H3 cenv fp [(h'.objs.size, go)]) S) (fun n s₀ r s1' hR => ?_) (fun n s₀ v s1' kap kap' hkk hY => ?_) sizeLine (seg_gx0 T st4 loop)
    · obtain ⟨rfl, ys, H', hn, hI, hQ⟩ := hR
      obtain ⟨a1, _, _, acc, cc, ra, ea⟩ := hI.at
      obtain ⟨_, _, _, J⟩ := hI
      exact .inl ⟨.inr rfl, H', ys, acc, cc, J.os, J.bare, J.base, J.hok, a1, ea, ra, by omega, hQ⟩
    · obtain ⟨ys, xx, ip, σ', H', hn, h2, hI, h3⟩ := hY
      obtain ⟨_, _, _, acc, cc, ra, ea⟩ := hI.at
      have hg := pinned hI
      obtain ⟨_, _, _, J⟩ := hI
      have hsz : acc.size = ys.length := by
        have e1 := ra.length
        have e2 : acc.toList.length = acc.size := by simp
        omega
      exact ⟨J.os, J.bare, J.nolimit, hg, ⟨acc, cc, ea, by rw [hsz]; exact hn⟩, fun s' z => hkk _ _ (h3 s' z)⟩
  cases hf : codeAmong gpos ps.toList with
  | none =>
    refine wpAny_genexprCodeX hcode (cd.code hPs htr) (cd.tab hPs) hf fun c' h' tk hx hge hlt hco' _ htab' _ => ?_
    obtain ⟨o1, vs, f1, tf, fl, tg, inF, tx, tt, op, _, _, _, _, _, _, _, _, _, htr', _⟩ := hco'
    exact cont' _ h' tk _ hx (Nat.le_trans hge (Nat.le_of_lt hlt)) htab'.2 ⟨_, rfl⟩ htr'
  | some cv =>
    refine wpAny_genexprCode_hit hcode (cd.code hPs htr) hf ?_
    exact cont' cv s2.heap s2.toks ps (Heap.ExtBut.refl _ _) (Nat.le_refl _) hPs ⟨#[], by simp⟩ htr
end

/-! ### tuple(g) -/
section
variable {P : Program} {w : World} {outer : List Env} {H : Hp} {sc s : Shared} {ex : List Addr} {Q : List V → Hp → Prop} {A : Around} {k : Nat} {u : Value} {E : Value → Shared → Prop}
/-- what a run of the generator to its end leaves -/
def Drained (P : Program) (w : World) (outer : List Env) (H : Hp) (sc : Shared) (ex : List Addr) (Q : List V → Hp → Prop) (acc : Array Value) (s' : Shared) : Prop :=
  ∃ H' ys, Vals ys acc.toList ∧ ys.length ≤ sizeLine ∧ s'.os = sc.os ∧ AllBare s'.gens ∧ Un (frs outer) ex H H' sc.heap s'.heap ∧ HOk P w H' s'.heap ∧ Q ys H'
theorem collect_gx {Q' : List Value → Shared → Prop} (hr : Room (k + 2) A) (hfr : A.frames = some outer) (h : GMade P w k outer H sc ex Q (fun _ _ _ => False) u s)
    (hQ : ∀ acc s', Drained P w outer H sc ex Q acc s' → Q' acc.toList s') : wpAny (model P w) A (collect u) Q' E s := by
  obtain ⟨a, g, c, rfl, ha1, ha2, hg, hgs, hos, hb, hl, hkp, wake⟩ := h
  have hSa : s.heap.objs.size ≠ a := Nat.ne_of_gt ha2
  have hcl : cStatics < s.heap.objs.size := let ⟨_, hn, _⟩ := hl; hn.lt
  have hSc : s.heap.objs.size ≠ cStatics := Nat.ne_of_gt hcl
  unfold collect
  refine wpAny_bind (wpAny_runValue (codeAny_builtin F.entry_proto_collect ?_))
  rw [Around.under_plainId F.plain_proto_collect _]
  show wpAny _ A.in1 (newList [] >>= fun l => again (.builtin "list.__iadd__" ⟨[l, .ref a], []⟩)) _ _ s
  refine wpAny_bind (wpAny_newObj_type ?_)
  refine wpAny_pure ⟨plainId_quiet F.plain_list_iadd _, codeAny_builtin F.entry_list_iadd ?_⟩
  rw [Around.under_plainId F.plain_list_iadd _]
  show wpAny _ A.in1 (Builtin.List.listExtendWith (.ref s.heap.objs.size) (.ref a) (.ref s.heap.objs.size)) _ _ _
  unfold Builtin.List.listExtendWith
  have k1 : ∀ b o, s.heap.get? b = some o → (s.heap.push { cls := .type "list", data := .seq ([] : List Value).toArray }).get? b = some o := fun b o e => Heap.get?_push_of_some _ e
  have gty : ∀ {h : Heap}, (∀ b o, s.heap.get? b = some o → h.get? b = some o) → h.IsGen a g := fun {h} q => hg.keeps q
  refine wpAny_bind (wpAny_typeOf (Heap.IsGen.typeIs (s := { s with heap := _ }) (gty k1)) ?_)
  have h1 : Builtin.List.listSameRef (.ref s.heap.objs.size) (.ref a) = false := by simp [Builtin.List.listSameRef, hSa]
  have h2 : (Value.type "generator" == Value.type "list") = false := by decide
  have h3 : (Value.type "generator" == Value.type "tuple") = false := by decide
  simp only [h1, h2, h3, Bool.or_false, Bool.false_eq_true, if_false]
  refine wpAny_bind (wpAny_pyIter_gen (s := { s with heap := _ }) (gty k1) ?_)
  refine wpAny_bind (wpAny_holding ?_)
  unfold Builtin.List.listLengthHint
  refine wpAny_bind (wpAny_specialOf (Heap.IsGen.typeIs (s := { s with heap := _ }) (gty k1)) F.gen_no_len ?_)
  show wpAny _ A.in1 (specialOf (Value.ref a) (Str.ofString "__length_hint__") >>= _) _ _ _
  refine wpAny_bind (wpAny_specialOf (Heap.IsGen.typeIs (s := { s with heap := _ }) (gty k1)) F.gen_no_hint ?_)
  refine wpAny_pure ?_
  show wpAny _ A.in1 (rule "list.extend.makes-room" >>= fun _ => Builtin.List.listTouch (.ref s.heap.objs.size) >>= fun _ =>
    again (.builtin "list.extend.loop" ⟨[.ref s.heap.objs.size, .ref a, .ref s.heap.objs.size], []⟩)) _ _ _
  refine wpAny_bind (wpAny_rule ?_)
  have hS₁ : (s.heap.push { cls := .type "list", data := .seq ([] : List Value).toArray }).get? s.heap.objs.size = some { cls := .type "list", data := .seq ([] : List Value).toArray } := Heap.get?_push_size _ rfl
  refine wpAny_bind ?_
  show wpAny _ A.in1 (updateSeq s.heap.objs.size (·.push .none) >>= fun _ => updateSeq s.heap.objs.size (·.pop)) _ _ _
  refine wpAny_bind (wpAny_updateSeq hS₁ rfl ?_)
  have hS₂ := Heap.get?_update_self (Obj.mapSeq (·.push Value.none)) hS₁ rfl
  refine wpAny_updateSeq hS₂ rfl ?_
  have hS₃ := Heap.get?_update_self (Obj.mapSeq (·.pop)) hS₂ rfl
  have up : ∀ (h : Heap) (f : Obj → Obj), (∀ b o, s.heap.get? b = some o → h.get? b = some o) → ∀ b o, s.heap.get? b = some o → (h.update s.heap.objs.size f).get? b = some o := fun h f q b o e =>
    (Heap.get?_update_other _ _ (Ne.symm (Nat.ne_of_lt (Heap.lt_size e)))).trans (q b o e)
  have k4 := up _ (Obj.mapSeq (·.pop)) (up _ (Obj.mapSeq (·.push Value.none)) k1)
  refine wpAny_pure ⟨plainId_quiet F.plain_extend_loop _, ?_⟩
  refine drain (P := P) (w := w) (outer := outer) (H := H) (sc := sc) (ex := ex) (Q := Q) (EX := fun _ _ _ => False) (A := A) (g := g) hr.hd (by have := hr.dp; omega) hSa hSc
    (fun s' acc c H' ys q1 q2 q3 q4 q5 q6 q7 q8 q9 => ?_) (fun e s' hc => ?_) sizeLine _ (gty k4) (hl.keeps k4) ⟨_, hgs, rfl, ?_⟩
  · show wpAny _ A (load s.heap.objs.size >>= _) _ _ s'
    refine wpAny_bind (wpAny_load q1 ?_)
    exact wpAny_pure (hQ acc s' ⟨H', ys, q2, q3, q4, q5, q6, q7, q9⟩)
  · obtain ⟨_, _, _, _, _, _, _, _, _, _, _, _, hf⟩ := hc
    exact hf.elim
  · refine wake _ _ _ ⟨hr.hd, ?_, ?_⟩ hfr (Nat.le_refl _) k4 ⟨_, hS₃⟩ hos (allBare_setGen (s := { s with heap := _ }) hb rfl)
    · have := hr.dp
      show A.depth + 3 * k + 5 < _
      omega
    · have := hr.un
      show A.units + 1 + 1 + 16 * k + 200 < _
      omega

theorem call_tuple_gx {Q' : Value → Shared → Prop} (hr : Room (k + 3) A) (hfr : A.frames = some outer) (h : GMade P w k outer H sc ex Q (fun _ _ _ => False) u s)
    (hQ : ∀ acc s', Drained P w outer H sc ex Q acc s' → Q' (.ref s'.heap.objs.size) { s' with heap := s'.heap.push { cls := .type "tuple", data := .seq acc } }) :
    wpAny (model P w) A (call (.type "tuple") [u]) Q' E s := by
  obtain ⟨a, g, c, hu, ha1, ha2, hg, r⟩ := id h
  have hTI : s.TypeIs u "generator" := by rw [hu]; exact hg.typeIs
  have hsub := sub_tuple_self
  have hinit := init_tuple_lookup
  have hmh := madeHere_tuple
  have r2 : Room (k + 2) A.in1.in1 := ⟨hr.hd, by have := hr.dp; show A.depth + 3 * (k + 2) + 5 < _; omega, by have := hr.un; show A.units + 1 + 1 + 16 * (k + 2) + 200 < _; omega⟩
  refine callType_codes (Q₁ := fun obj s₁ => s₁.TypeIs obj "tuple" ∧ Q' obj s₁) F.called_tuple (F.typeCall_tuple_1 _) F.entry_object_init ?_ fun obj s₁ h₁ =>
    ⟨h₁.1, F.args_object_init_2 obj _, object_init_meets F.called_tuple.init.lookup F.called_tuple.made (by decide) P w A.in1 _ s₁ ⟨h₁.1, rfl, h₁.2⟩⟩
  refine codeAny_of_tree ?_
  show wpAny _ A.in1.in1 (do checkBuiltinCall "tuple.__new__" ⟨[.type "tuple", u], []⟩; again (.builtin "tuple.__new__" ⟨[.type "tuple", u], []⟩)) _ _ s
  refine wpAny_bind (wpAny_of_eq (F.newCall_tuple_1 _) (wpAny_pure ⟨plainId_quiet F.plain_tuple_new _, codeAny_builtin F.entry_tuple_new ?_⟩))
  rw [Around.under_plainId F.plain_tuple_new _]
  have col := fun (Q'' : List Value → Shared → Prop) (E' : Value → Shared → Prop) (hq : ∀ acc s', Drained P w outer H sc ex Q acc s' → Q'' acc.toList s') => collect_gx (A := A.in1.in1) (Q' := Q'') (E := E') r2 hfr h hq
  clear r h
  subst hu
  wp_walk using wpAny_typeOf hTI, col
  intro acc s' hd
  show wpAny _ _ (Builtin.Tuple.tupleExact acc.toList.toArray >>= fun v => ret v) _ _ _
  unfold Builtin.Tuple.tupleExact
  have hz : acc.size ≤ sizeLine := by
    obtain ⟨H', ys, q1, q2, _⟩ := hd
    have e1 := q1.length
    have e2 : acc.toList.length = acc.size := by simp
    omega
  refine wpAny_bind (wpAny_newObj_type ?_ (by show acc.toList.toArray.size ≤ sizeLine; simp only [Array.toArray_toList]; exact hz))
  refine wpAny_pure ?_
  have e : acc.toList.toArray = acc := by simp
  rw [e]
  exact ⟨⟨_, Heap.get?_push_size _ rfl, rfl⟩, hQ acc s' hd⟩
end

section
variable {X : Cx}
def tTupleG (tg : TGen) : TE := fun σ H Q => tg σ H fun out H2 => ∀ p, H2 p = none → Q (.ref p) (upd H2 p (.tup out))
/-- tuple(g) -/
theorem pe_tupleG {k : Nat} {e : Expr} {tg : TGen} {p pos : Pos} (h : PGen X k e tg (fun _ _ _ => False)) (hr : Room (k + 3) X.A) (hg : Gl X "tuple") (hmg : X.mg "tuple" = none)
    (he : starEach [e] X.env = (false, eval e X.env) :: starEach [] X.env := by rfl) : PE X (.Call (.Name "tuple" p) [e] [] pos) (tTupleG tg) := by
  refine ⟨fun pins s σ H Q I hq => ?_⟩
  refine wpAny_Call_Name_kw (ld_blt I hg hmg (u := .type "tuple") (by rfl) ?_ (by decide) (by decide))
  refine PyProof.Rows.callWith_type1 ?_ he rfl
  rw [he]
  show wpAny _ _ (spliced ((false, eval e X.env) :: backTo pos (starEach [] X.env))) _ _ s
  refine Calls.spliced_cons (thn (h.run pins s σ H _ I hq) fun u s1 ⟨H1, sc, ex, I1, hex, hG⟩ => ?_)
  refine Calls.spliced_nil ?_
  refine call_tuple_gx hr I1.ok.frames hG fun acc s' hd => ?_
  obtain ⟨H', ys, q1, q2, q3, q4, q5, q6, q7⟩ := hd
  have I2 : Inv X pins σ H' s' := I1.call' (ch := ex) q3 q5 q6 q4 hex
  refine ⟨.ref s'.heap.objs.size, _, I2.laid (t' := s'.toks) (fun b o e => Heap.get?_push_of_some _ e) (Nat.le_refl _) (o := .tup ys) ⟨q2, acc.toList, q1, ?_⟩, rfl, q7 _ (I2.hok.fresh (Nat.le_refl _))⟩
  exact ⟨_, Heap.get?_push_size _ rfl, rfl, 0, by simp⟩
end
/-- a genexp's turns over a walk -/
theorem gx_it {J : It} {n : Nat} {G : Hp → Prop} {Y : Nat → Hp → V → Hp → Prop} (w : Walk J n G Y) {g : TG} {tt : TT} {te : TE} {vs : List Nat} {σ : L2.St} {H1 : Hp} {cont : List V → Hp → Prop} (Pv : Nat → List V → Hp → Prop) (h0 : Pv 0 [] H1) (hG : ∀ i ys H, i ≤ n → Pv i ys H → G H)
    (hs : ∀ i x ys H H', i < n → Pv i ys H → Y i H x H' → g x (wipe σ vs) H' fun σ2 H2 => wipe σ2 vs = wipe σ vs ∧ tt σ2 H2 fun b H3 =>
      if b = true then te σ2 H3 fun y H4 => ys.length < sizeLine ∧ Pv (i + 1) (ys ++ [y]) H4 else Pv (i + 1) ys H3) (hd : ∀ ys H, Pv n ys H → cont ys H) :
    ∃ W : Nat → Nat → List V → Hp → Prop, (∃ m, W 0 m [] H1) ∧ ∀ i m ys H, W i m ys H →
      (J.stop i H ∧ cont ys H) ∨ (J.go i H ∧ ∃ Nx : List V → Hp → Prop, (∀ ys' H', Nx ys' H' → ∃ m', m' < m ∧ W (i + 1) m' ys' H') ∧ ∀ x H', J.yld i H x H' → g x (wipe σ vs) H' fun σ2 H2 => wipe σ2 vs = wipe σ vs ∧ tt σ2 H2 fun b H3 =>
        if b = true then te σ2 H3 fun y H4 => ys.length < sizeLine ∧ Nx (ys ++ [y]) H4 else Nx ys H3) := by
  refine ⟨fun i m ys H => m = n - i ∧ i ≤ n ∧ Pv i ys H, ⟨n, by simp, Nat.zero_le _, h0⟩, ?_⟩
  rintro i m ys H ⟨rfl, hi, p⟩
  have q := hG i ys H hi p
  by_cases hlt : i < n
  · refine .inr ⟨w.goes i H hlt q, Pv (i + 1), fun ys' H' p' => ⟨n - (i + 1), by omega, rfl, hlt, p'⟩, fun x H' y => hs i x ys H H' hlt p (w.yields i H x H' hlt q y)⟩
  · have e : i = n := by omega
    subst e
    exact .inl ⟨w.stops H q, hd ys H p⟩
end Gx


/-! ledgers by counting: what stands in one stands in another, in any order -/
namespace Sd
open PySem L2
open Classical in
noncomputable def one1 (a x : Addr × HO) : Nat := if x = a then 1 else 0
noncomputable def cnt (a : Addr × HO) : Lg → Nat
  | [] => 0
  | x :: r => one1 a x + cnt a r
theorem cnt_nil {a : Addr × HO} : cnt a [] = 0 := rfl
theorem cnt_cons {a x : Addr × HO} {r : Lg} : cnt a (x :: r) = one1 a x + cnt a r := rfl
theorem cnt_app {a : Addr × HO} : ∀ {A B : Lg}, cnt a (A ++ B) = cnt a A + cnt a B
  | [], B => by rw [List.nil_append, cnt_nil, Nat.zero_add]
  | x :: r, B => by rw [List.cons_append, cnt_cons, cnt_cons, cnt_app]; omega
theorem cnt_pos {a : Addr × HO} : ∀ {A : Lg}, 0 < cnt a A → a ∈ A
  | [], h => by rw [cnt_nil] at h; omega
  | x :: r, h => by
    by_cases e : x = a
    · rw [e]; exact List.mem_cons_self
    · rw [cnt_cons, one1, if_neg e, Nat.zero_add] at h
      exact List.mem_cons_of_mem _ (cnt_pos h)
theorem Led.le_aux {H : Hp} : ∀ (B C L : Lg), Led H (C ++ L) → (∀ a, cnt a B ≤ cnt a L) → Led H (C ++ B)
  | [], C, L, h, _ => by rw [List.append_nil]; exact h.left
  | x :: r, C, L, h, e => by
    have h1 := e x
    have o1 : one1 x x = 1 := by unfold one1; rw [if_pos rfl]
    rw [cnt_cons, o1] at h1
    obtain ⟨A, B, rfl⟩ := List.append_of_mem (cnt_pos (show 0 < cnt x L by omega))
    have h2 : Led H ((C ++ [x]) ++ (A ++ B)) := by
      refine h.perm ?_
      rw [List.append_assoc]
      exact List.perm_middle.append_left C
    have := Led.le_aux r (C ++ [x]) (A ++ B) h2 fun a => by
      have := e a
      rw [cnt_cons, cnt_app, cnt_cons] at this
      rw [cnt_app]; omega
    rw [List.append_assoc] at this
    exact this
theorem Led.le {H : Hp} {B L : Lg} (h : Led H L) (e : ∀ a, cnt a B ≤ cnt a L) : Led H B := Led.le_aux B [] L h e
section
variable {K : PySem.W.Frag} {H : Hp} {L : Lg} {l : Addr} {xs : List V}
theorem k_lenL2 {P : List V → Prop} (hL : Led H L) (e : At L l (.lst xs)) (q : P xs) : ∃ p ys, [V.ref l] = [.ref p] ∧ (SqL K H p ys ∨ SqT K H p ys) ∧ P ys := ⟨_, _, rfl, .inl (.of (hL.at e)), q⟩
theorem k_lenT2 {P : List V → Prop} (hL : Led H L) (e : At L l (.tup xs)) (q : P xs) : ∃ p ys, [V.ref l] = [.ref p] ∧ (SqL K H p ys ∨ SqT K H p ys) ∧ P ys := ⟨_, _, rfl, .inr (.of (hL.at e)), q⟩
end
/-! loops with the ends told by what they take -/
/-- the ends of a turn: what stands behind it, a return, a break -/
structure EndsA (N : L2.St → Hp → Prop) (D D' : Ends) : Prop where
  nx : ∀ σ H, N σ H → D'.nx σ H
  ct : ∀ σ H, N σ H → D'.ct σ H
  bk : ∀ σ H, D.nx σ H → D'.bk σ H
  rt : ∀ v H, D.rt v H → D'.rt v H
section
variable {K : PySem.W.Frag} {a : Addr} {xs : List V} {g : TG} {tb : TS} {D : Ends} {σ : L2.St} {H : Hp}
theorem for_listA (Pv : Nat → L2.St → Hp → Prop) (h0 : Pv 0 σ H) (hl : ∀ i σ H, i ≤ xs.length → Pv i σ H → SqL K H a xs)
    (hs : ∀ i x σ H (D' : Ends), xs[i]? = some x → Pv i σ H → EndsA (Pv (i + 1)) D D' → g x σ H fun σ2 H2 => tb D' σ2 H2) (hd : ∀ σ H, Pv xs.length σ H → D.nx σ H) :
    ∃ W : Nat → Nat → L2.St → Hp → Prop, (∃ m, W 0 m σ H) ∧ ∀ i m σ H, W i m σ H →
      ((Itl K a).stop i H ∧ D.nx σ H) ∨ ((Itl K a).go i H ∧ ∃ N : L2.St → Hp → Prop, (∀ σ' H', N σ' H' → ∃ m', m' < m ∧ W (i + 1) m' σ' H') ∧ ∀ x H', (Itl K a).yld i H x H' → g x σ H' fun σ2 H2 => tb { D with nx := N, ct := N, bk := D.nx } σ2 H2) :=
  for_list Pv h0 hl (fun i x σ H hi h => hs i x σ H _ hi h ⟨fun _ _ q => q, fun _ _ q => q, fun _ _ q => q, fun _ _ q => q⟩) hd
theorem for_tupA (Pv : Nat → L2.St → Hp → Prop) (h0 : Pv 0 σ H) (hl : ∀ i σ H, i ≤ xs.length → Pv i σ H → SqT K H a xs)
    (hs : ∀ i x σ H (D' : Ends), xs[i]? = some x → Pv i σ H → EndsA (Pv (i + 1)) D D' → g x σ H fun σ2 H2 => tb D' σ2 H2) (hd : ∀ σ H, Pv xs.length σ H → D.nx σ H) :
    ∃ W : Nat → Nat → L2.St → Hp → Prop, (∃ m, W 0 m σ H) ∧ ∀ i m σ H, W i m σ H →
      ((Itt K a).stop i H ∧ D.nx σ H) ∨ ((Itt K a).go i H ∧ ∃ N : L2.St → Hp → Prop, (∀ σ' H', N σ' H' → ∃ m', m' < m ∧ W (i + 1) m' σ' H') ∧ ∀ x H', (Itt K a).yld i H x H' → g x σ H' fun σ2 H2 => tb { D with nx := N, ct := N, bk := D.nx } σ2 H2) :=
  for_tup Pv h0 hl (fun i x σ H hi h => hs i x σ H _ hi h ⟨fun _ _ q => q, fun _ _ q => q, fun _ _ q => q, fun _ _ q => q⟩) hd
theorem for_rangeA {lo : Int} {n : Nat} (Pv : Nat → L2.St → Hp → Prop) (h0 : Pv 0 σ H)
    (hs : ∀ i σ H (D' : Ends), i < n → Pv i σ H → EndsA (Pv (i + 1)) D D' → g (.int (lo + i)) σ H fun σ2 H2 => tb D' σ2 H2) (hd : ∀ σ H, Pv n σ H → D.nx σ H) :
    ∃ W : Nat → Nat → L2.St → Hp → Prop, (∃ m, W 0 m σ H) ∧ ∀ i m σ H, W i m σ H →
      ((Itr lo n).stop i H ∧ D.nx σ H) ∨ ((Itr lo n).go i H ∧ ∃ N : L2.St → Hp → Prop, (∀ σ' H', N σ' H' → ∃ m', m' < m ∧ W (i + 1) m' σ' H') ∧ ∀ x H', (Itr lo n).yld i H x H' → g x σ H' fun σ2 H2 => tb { D with nx := N, ct := N, bk := D.nx } σ2 H2) :=
  for_range Pv h0 (fun i σ H hi h => hs i σ H _ hi h ⟨fun _ _ q => q, fun _ _ q => q, fun _ _ q => q, fun _ _ q => q⟩) hd
theorem for_itA {J : It} {n : Nat} {G : Hp → Prop} {Y : Nat → Hp → V → Hp → Prop} (w : Walk J n G Y) (Pv : Nat → L2.St → Hp → Prop) (h0 : Pv 0 σ H) (hG : ∀ i σ H, i ≤ n → Pv i σ H → G H)
    (hs : ∀ i x σ H H' (D' : Ends), i < n → Pv i σ H → Y i H x H' → EndsA (Pv (i + 1)) D D' → g x σ H' fun σ2 H2 => tb D' σ2 H2) (hd : ∀ σ H, Pv n σ H → D.nx σ H) :
    ∃ W : Nat → Nat → L2.St → Hp → Prop, (∃ m, W 0 m σ H) ∧ ∀ i m σ H, W i m σ H →
      (J.stop i H ∧ D.nx σ H) ∨ (J.go i H ∧ ∃ N : L2.St → Hp → Prop, (∀ σ' H', N σ' H' → ∃ m', m' < m ∧ W (i + 1) m' σ' H') ∧ ∀ x H', J.yld i H x H' → g x σ H' fun σ2 H2 => tb { D with nx := N, ct := N, bk := D.nx } σ2 H2) :=
  for_it w Pv h0 hG (fun i x σ H H' hi h hy => hs i x σ H H' _ hi h hy ⟨fun _ _ q => q, fun _ _ q => q, fun _ _ q => q, fun _ _ q => q⟩) hd
/-- the ends of what is done while d is locked -/
structure EndsL (d : Addr) (od : Obj) (u : HO) (D D' : Ends) : Prop where
  nx : ∀ σ H, H d = some (.frz od u) → D.nx σ (L2.upd H d u) → D'.nx σ H
  rt : ∀ v H, H d = some (.frz od u) → D.rt v (L2.upd H d u) → D'.rt v H
  bk : ∀ σ H, H d = some (.frz od u) → D.bk σ (L2.upd H d u) → D'.bk σ H
  ct : ∀ σ H, H d = some (.frz od u) → D.ct σ (L2.upd H d u) → D'.ct σ H
theorem lockA {t : TS} {d : Addr} {u : HO} (hd : H d = some u) (mu : Mut (some u)) (h : ∀ od (D' : Ends), EndsL d od u D D' → t D' σ (L2.upd H d (.frz od u))) : tLock t D σ H :=
  ⟨d, u, hd, mu, fun od => h od _ ⟨fun _ _ a b => ⟨a, b⟩, fun _ _ a b => ⟨a, b⟩, fun _ _ a b => ⟨a, b⟩, fun _ _ a b => ⟨a, b⟩⟩⟩
end
end Sd


/-! rules within a comprehension (.blk) or a generator expression (.gx), told with the outer K; words for texts -/
namespace Sd
open PySem PySem.Spec PyProof.Rows L2
section
variable {X : Cx} {s : Shared} {H : Hp} {scope : Scope} {env : Env} {fp : List Addr} {e : Expr} {f : Str} {pos : Pos} {ta : TE}
theorem pe_fldB (he : PE (X.blk s H scope env fp) e ta) (hb : attributeBase e f env (eval e env) = eval e env) : PE (X.blk s H scope env fp) (.Attribute e f pos) (tFld X.K ta f) := pe_fld he hb
theorem ix_tupB : IxR (X.blk s H scope env fp) (rIxT X.K) := ix_tup
theorem ix_listB : IxR (X.blk s H scope env fp) (rIxL X.K) := ix_list
theorem pi_listB {tg e : Expr} {te : TE} (he : PE (X.blk s H scope env fp) e te) : PI (X.blk s H scope env fp) tg e (iList X.K te) := pi_list he
theorem call_dictPB (hcalm : X.calm = true) : CallR (X.blk s H scope env fp) (.type "dict") (fun xs H Q => ∃ (a : Addr) (ps : List Addr) (kvs : List (Key × V)), xs = [.ref a] ∧ SqL X.K H a (ps.map V.ref) ∧ Paired (fun p kv => SqT X.K H p [kV kv.1, kv.2]) ps kvs ∧ ∀ p, H p = none → Q (.ref p) (upd H p (.dK (mergeK [] kvs)))) := call_dictP hcalm
theorem op_in_seqB : OpR (X.blk s H scope env fp) (compareOp .In) (rIn X.K false) := op_in_seq
theorem op_notIn_seqB : OpR (X.blk s H scope env fp) (compareOp .NotIn) (rIn X.K true) := op_notIn_seq
theorem op_eqPB (hu : (X.blk s H scope env fp).A.units + 64 < cLine) : OpR (X.blk s H scope env fp) (compareOp .Eq) (rEqP X.K) := op_eqP hu
theorem op_nePB (hu : (X.blk s H scope env fp).A.units + 64 < cLine) : OpR (X.blk s H scope env fp) (compareOp .NotEq) (rNeP X.K) := op_neP hu
end
section
variable {X : Cx} {A : Around} {s : Shared} {H : Hp} {env : Env} {fp : List Addr} {pn : List (Addr × Obj)} {e : Expr} {f : Str} {pos : Pos} {ta : TE}
theorem pe_fldG (he : PE (Gx.gx X A s H env fp pn) e ta) (hb : attributeBase e f env (eval e env) = eval e env) : PE (Gx.gx X A s H env fp pn) (.Attribute e f pos) (tFld X.K ta f) := pe_fld he hb
theorem ix_tupG : IxR (Gx.gx X A s H env fp pn) (rIxT X.K) := ix_tup
theorem ix_listG : IxR (Gx.gx X A s H env fp pn) (rIxL X.K) := ix_list
theorem op_in_seqG : OpR (Gx.gx X A s H env fp pn) (compareOp .In) (rIn X.K false) := op_in_seq
theorem op_notIn_seqG : OpR (Gx.gx X A s H env fp pn) (compareOp .NotIn) (rIn X.K true) := op_notIn_seq
end
/-! texts in lists -/
theorem in_strs {x : Str} {ns : List Str} : inV (.str x) (ns.map .str) = decide (x ∈ ns) := by
  unfold inV
  induction ns with
  | nil => simp
  | cons y r ih =>
    rw [List.map_cons, List.any_cons, ih]
    show (y == x || _) = _
    by_cases e : y = x
    · subst e; simp
    · simp [e, Ne.symm e]
theorem flat_strs {ns : List Str} : (ns.map V.str).all flatV = true := by
  rw [List.all_map, List.all_eq_true]; exact fun _ _ => rfl
theorem eqvAll_strs : ∀ (a b : List Str), PyData.eqvAll (a.map PyData.str) (b.map PyData.str) = decide (a = b)
  | [], [] => by simp [PyData.eqvAll]
  | [], _ :: _ => by simp [PyData.eqvAll]
  | _ :: _, [] => by simp [PyData.eqvAll]
  | x :: r, y :: s => by
    rw [List.map_cons, List.map_cons, PyData.eqvAll, eqvAll_strs r s]
    by_cases e : x = y <;> simp [PyData.eqv, e]
theorem eqv_strs {a b : List Str} : PyData.eqv (.list (a.map PyData.str)) (.list (b.map PyData.str)) = decide (a = b) := by
  rw [PyData.eqv]; exact eqvAll_strs a b
section
variable {K : PySem.W.Frag} {H : Hp} {L : Lg} {p q : Addr} {a b : List Str} {Q : VK} {xs ys : List V}
theorem k_neStrs (hL : Led H L) (h1 : At L p (.lst xs)) (h2 : At L q (.lst ys)) (e1 : xs = a.map V.str) (e2 : ys = b.map V.str) (k : Q (.bl (!decide (a = b))) H) : rNeP K (.ref p) (.ref q) H Q :=
  ⟨_, _, dp_lst (e1 ▸ hL.at h1) dp_strs, dp_lst (e2 ▸ hL.at h2) dp_strs, shal_strs, shal_strs, by rw [eqv_strs]; exact k⟩
theorem k_eqStrs (hL : Led H L) (h1 : At L p (.lst xs)) (h2 : At L q (.lst ys)) (e1 : xs = a.map V.str) (e2 : ys = b.map V.str) (k : Q (.bl (decide (a = b))) H) : rEqP K (.ref p) (.ref q) H Q :=
  ⟨_, _, dp_lst (e1 ▸ hL.at h1) dp_strs, dp_lst (e2 ▸ hL.at h2) dp_strs, shal_strs, shal_strs, by rw [eqv_strs]; exact k⟩
theorem k_inS {x : Str} {ns : List Str} (hL : Led H L) (h1 : At L p (.lst (ns.map V.str))) (k : Q (.bl (decide (x ∈ ns))) H) : rIn K false (.str x) (.ref p) H Q :=
  ⟨_, _, rfl, .inl (.of (hL.at h1)), rfl, flat_strs, by rw [in_strs]; exact k⟩
theorem k_ninS {x : Str} {ns : List Str} (hL : Led H L) (h1 : At L p (.lst (ns.map V.str))) (k : Q (.bl (!decide (x ∈ ns))) H) : rIn K true (.str x) (.ref p) H Q :=
  ⟨_, _, rfl, .inl (.of (hL.at h1)), rfl, flat_strs, by rw [in_strs]; exact k⟩
end
theorem mergeK_dz {names : List Str} {vals : List V} (h : names.Nodup) (hl : names.length = vals.length) : mergeK [] (dz names vals) = dz names vals := by
  rw [mergeK_nd]
  · rfl
  · have : (dz names vals).map (·.1) = names.map (Sum.inr : Str → Key) := by
      unfold dz
      rw [← List.unzip_fst, List.unzip_zip (by simpa using hl)]
    rw [List.nil_append, this]
    exact List.pairwise_map.mpr (h.imp fun ne q => ne (Sum.inr.inj q))
theorem paired_map {α β γ : Type} {F : β → γ → Prop} {f : α → β} {g : α → γ} : ∀ {l : List α}, (∀ x ∈ l, F (f x) (g x)) → Paired F (l.map f) (l.map g)
  | [], _ => .nil
  | x :: r, h => .cons (h x List.mem_cons_self) (paired_map fun y hy => h y (.tail _ hy))
end Sd


/-! dicts with text keys, told by lists of (name, what) -/
namespace Sd
open PySem L2
def aget {α : Type} : List (Str × α) → Str → Option α
  | [], _ => none
  | x :: r, k => if x.1 = k then some x.2 else aget r k
def aput {α : Type} : List (Str × α) → Str → α → List (Str × α)
  | [], k, v => [(k, v)]
  | x :: r, k, v => if x.1 = k then (k, v) :: r else x :: aput r k v
def adel {α : Type} : List (Str × α) → Str → List (Str × α)
  | [], _ => []
  | x :: r, k => if x.1 = k then r else x :: adel r k
theorem aget_none {α : Type} {k : Str} : ∀ {l : List (Str × α)}, k ∉ l.map (·.1) → aget l k = none
  | [], _ => rfl
  | x :: r, h => by
    have h1 : ¬ x.1 = k := fun e => h (by rw [← e]; exact List.mem_cons_self)
    rw [aget, if_neg h1]
    exact aget_none fun m => h (List.mem_cons_of_mem _ m)
theorem aget_some {α : Type} {k : Str} {v : α} : ∀ {l : List (Str × α)}, aget l k = some v → k ∈ l.map (·.1)
  | x :: r, h => by
    by_cases e : x.1 = k
    · rw [← e]; exact List.mem_cons_self
    · rw [aget, if_neg e] at h
      exact List.mem_cons_of_mem _ (aget_some h)
theorem aget_in {α : Type} {k : Str} : ∀ {l : List (Str × α)}, k ∈ l.map (·.1) → ∃ v, aget l k = some v
  | x :: r, h => by
    by_cases e : x.1 = k
    · exact ⟨x.2, by rw [aget, if_pos e]⟩
    · rw [aget, if_neg e]
      refine aget_in ?_
      rcases List.mem_cons.mp h with z | z
      · exact absurd z.symm e
      · exact z
theorem aput_names_in {α : Type} {k : Str} {v : α} : ∀ {l : List (Str × α)}, k ∈ l.map (·.1) → (aput l k v).map (·.1) = l.map (·.1)
  | x :: r, h => by
    by_cases e : x.1 = k
    · rw [aput, if_pos e]; simp [e]
    · rw [aput, if_neg e]
      rw [List.map_cons, List.map_cons, aput_names_in]
      rcases List.mem_cons.mp h with z | z
      · exact absurd z.symm e
      · exact z
theorem aput_names_out {α : Type} {k : Str} {v : α} : ∀ {l : List (Str × α)}, k ∉ l.map (·.1) → aput l k v = l ++ [(k, v)]
  | [], _ => rfl
  | x :: r, h => by
    have h1 : ¬ x.1 = k := fun e => h (by rw [← e]; exact List.mem_cons_self)
    rw [aput, if_neg h1, aput_names_out fun m => h (List.mem_cons_of_mem _ m)]
    rfl
theorem aget_put {α : Type} {k j : Str} {v : α} : ∀ {l : List (Str × α)}, aget (aput l k v) j = if k = j then some v else aget l j
  | [] => by
    show aget [(k, v)] j = _
    unfold aget
    rfl
  | x :: r => by
    by_cases e : x.1 = k
    · rw [aput, if_pos e]
      by_cases e2 : k = j
      · rw [aget, if_pos e2, if_pos e2]
      · rw [aget, if_neg e2, if_neg e2]
        rw [aget, if_neg (by rw [e]; exact e2)]
    · rw [aput, if_neg e]
      by_cases e2 : x.1 = j
      · rw [aget, if_pos e2, aget, if_pos e2, if_neg (fun z => e (e2.trans z.symm))]
      · rw [aget, if_neg e2, aget_put, aget, if_neg e2]
theorem aget_del {α : Type} {k j : Str} : ∀ {l : List (Str × α)}, (l.map (·.1)).Nodup → aget (adel l k) j = if k = j then none else aget l j
  | [], _ => by simp [adel, aget]
  | x :: r, nd => by
    obtain ⟨n1, n2⟩ := List.nodup_cons.mp nd
    by_cases e : x.1 = k
    · rw [adel, if_pos e]
      by_cases e2 : k = j
      · rw [if_pos e2]
        exact aget_none (by rw [← e2, ← e]; exact n1)
      · rw [if_neg e2, aget, if_neg (by rw [e]; exact e2)]
    · rw [adel, if_neg e]
      by_cases e2 : x.1 = j
      · rw [aget, if_pos e2, aget, if_pos e2, if_neg (fun z => e (e2.trans z.symm))]
      · rw [aget, if_neg e2, aget_del n2, aget, if_neg e2]
theorem adel_names {α : Type} {k : Str} : ∀ {l : List (Str × α)}, ((adel l k).map (·.1)).Sublist (l.map (·.1))
  | [] => .refl _
  | x :: r => by
    by_cases e : x.1 = k
    · rw [adel, if_pos e]; exact List.sublist_cons_self _ _
    · rw [adel, if_neg e]; exact adel_names.cons_cons _
section
variable {α : Type} {vo : Str × α → V} {l : List (Str × α)} {k : Str}
def kk (vo : Str × α → V) (x : Str × α) : Key × V := (Sum.inr x.1, vo x)
theorem kk_val : valV (l.map (kk vo)) (.inr k) = (aget l k).map fun v => vo (k, v) := by
  induction l with
  | nil => rfl
  | cons x r ih =>
    by_cases e : x.1 = k
    · rw [List.map_cons, valV_pos (p := kk vo x) (by show Sum.inr x.1 = _; rw [e]), aget, if_pos e]
      show some (vo x) = some (vo (k, x.2))
      rw [← e]
    · rw [List.map_cons, valV_neg (p := kk vo x) (fun z => e (Sum.inr.inj z)), ih, aget, if_neg e]
theorem kk_any : ((l.map (kk vo)).any fun kv => decide (kv.1 = (Sum.inr k : Key))) = decide (k ∈ l.map (·.1)) := by
  induction l with
  | nil => rfl
  | cons x r ih =>
    rw [List.map_cons, List.any_cons, ih]
    have e1 : decide ((kk vo x).1 = (Sum.inr k : Key)) = decide (x.1 = k) := decide_eq_decide.mpr ⟨fun z => Sum.inr.inj z, fun z => by show Sum.inr x.1 = _; rw [z]⟩
    rw [e1]
    by_cases e : x.1 = k
    · simp [e]
    · have e' : ¬ k = x.1 := fun z => e z.symm
      simp [e, e']
theorem kk_put {v : α} (nd : (l.map (·.1)).Nodup) : putK (l.map (kk vo)) (.inr k) (vo (k, v)) = (aput l k v).map (kk vo) := by
  unfold putK
  rw [kk_any]
  by_cases h : k ∈ l.map (·.1)
  · rw [if_pos (decide_eq_true h)]
    induction l with
    | nil => simp at h
    | cons x r ih =>
      obtain ⟨n1, n2⟩ := List.nodup_cons.mp nd
      by_cases e : x.1 = k
      · rw [aput, if_pos e, List.map_cons, List.map_cons, List.map_cons, if_pos (by show Sum.inr x.1 = _; rw [e])]
        congr 1
        · show (Sum.inr x.1, _) = (Sum.inr k, _)
          rw [e]
        · refine (List.map_congr_left fun y hy => ?_).trans (List.map_id _)
          refine if_neg fun z => n1 ?_
          obtain ⟨q, hq, rfl⟩ := List.mem_map.mp hy
          have z : q.1 = k := Sum.inr.inj z
          exact List.mem_map.mpr ⟨q, hq, z.trans e.symm⟩
      · rw [aput, if_neg e, List.map_cons, List.map_cons, List.map_cons, if_neg (show ¬ (kk vo x).1 = (Sum.inr k : Key) from fun z => e (Sum.inr.inj z))]
        congr 1
        refine ih n2 ?_
        rcases List.mem_cons.mp h with z | z
        · exact absurd z.symm e
        · exact z
  · rw [if_neg (by rw [decide_eq_false h]; decide), aput_names_out h, List.map_append]
    rfl
theorem kk_drop (nd : (l.map (·.1)).Nodup) : dropK (l.map (kk vo)) (.inr k) = (adel l k).map (kk vo) := by
  unfold dropK
  induction l with
  | nil => rfl
  | cons x r ih =>
    obtain ⟨n1, n2⟩ := List.nodup_cons.mp nd
    by_cases e : x.1 = k
    · rw [adel, if_pos e, List.map_cons, List.filter_cons, if_neg (by simp [kk, e])]
      refine List.filter_eq_self.mpr fun y hy => ?_
      obtain ⟨q, hq, rfl⟩ := List.mem_map.mp hy
      have : ¬ q.1 = k := fun z => n1 (List.mem_map.mpr ⟨q, hq, z.trans e.symm⟩)
      simp [kk, this]
    · rw [adel, if_neg e, List.map_cons, List.filter_cons, if_pos (by simp [kk, e]), List.map_cons, ih n2]
theorem aput_map {α β : Type} {f : α → β} {k : Str} {v : α} : ∀ {l : List (Str × α)}, (aput l k v).map (fun x => (x.1, f x.2)) = aput (l.map fun x => (x.1, f x.2)) k (f v)
  | [] => rfl
  | x :: r => by
    by_cases e : x.1 = k
    · rw [aput, if_pos e, List.map_cons, List.map_cons, aput, if_pos e]
    · rw [aput, if_neg e, List.map_cons, List.map_cons, aput, if_neg e, aput_map]
theorem adel_map {α β : Type} {f : α → β} {k : Str} : ∀ {l : List (Str × α)}, (adel l k).map (fun x => (x.1, f x.2)) = adel (l.map fun x => (x.1, f x.2)) k
  | [] => rfl
  | x :: r => by
    by_cases e : x.1 = k
    · rw [adel, if_pos e, List.map_cons, adel, if_pos e]
    · rw [adel, if_neg e, List.map_cons, List.map_cons, adel, if_neg e, adel_map]
theorem aget_map {α β : Type} {f : α → β} {k : Str} : ∀ {l : List (Str × α)}, aget (l.map fun x => (x.1, f x.2)) k = (aget l k).map f
  | [] => rfl
  | x :: r => by
    by_cases e : x.1 = k
    · rw [List.map_cons, aget, if_pos e, aget, if_pos e]; rfl
    · rw [List.map_cons, aget, if_neg e, aget, if_neg e, aget_map]
end
theorem at_mem {L : Lg} {a : Addr} {o : HO} (h : (a, o) ∈ L) : At L a o := let ⟨i, hi, e⟩ := List.getElem_of_mem h; ⟨i, by rw [List.getElem?_eq_getElem hi, e]⟩
theorem nodup_len {α : Type} [DecidableEq α] : ∀ {l U : List α}, l.Nodup → (∀ k ∈ l, k ∈ U) → l.length ≤ U.length
  | [], _, _, _ => Nat.zero_le _
  | x :: r, U, nd, h => by
    obtain ⟨n1, n2⟩ := List.nodup_cons.mp nd
    have hx := h x List.mem_cons_self
    have := nodup_len (U := U.erase x) n2 fun k hk => (List.mem_erase_of_ne (fun e => n1 (by rw [← e]; exact hk))).mpr (h k (.tail _ hk))
    rw [List.length_erase_of_mem hx] at this
    have h0 : 0 < U.length := List.length_pos_of_mem hx
    rw [List.length_cons]
    omega
theorem kk_names {α : Type} {vo : Str × α → V} {l : List (Str × α)} : (l.map (kk vo)).map (·.1) = (l.map (·.1)).map Sum.inr := by
  rw [List.map_map, List.map_map]; rfl
theorem aput_nd {α : Type} {k : Str} {v : α} {l : List (Str × α)} (h : (l.map (·.1)).Nodup) : ((aput l k v).map (·.1)).Nodup := by
  by_cases hk : k ∈ l.map (·.1)
  · rw [aput_names_in hk]; exact h
  · rw [aput_names_out hk, List.map_append]
    exact List.nodup_append.mpr ⟨h, by simp, fun a ha b hb => by
      rw [List.map_cons, List.map_nil, List.mem_singleton] at hb
      rw [hb]
      exact fun e => hk ((show a = k from e) ▸ ha)⟩
theorem aput_mem {α : Type} {k j : Str} {v : α} {l : List (Str × α)} (h : j ∈ (aput l k v).map (·.1)) : j = k ∨ j ∈ l.map (·.1) := by
  by_cases hk : k ∈ l.map (·.1)
  · rw [aput_names_in hk] at h; exact .inr h
  · rw [aput_names_out hk, List.map_append] at h
    rcases List.mem_append.mp h with h | h
    · exact .inr h
    · exact .inl (by simpa using h)
theorem adel_mem {α : Type} {k j : Str} : ∀ {l : List (Str × α)}, j ∈ l.map (·.1) → j ≠ k → j ∈ (adel l k).map (·.1)
  | x :: r, h, ne => by
    by_cases e : x.1 = k
    · rw [adel, if_pos e]
      rcases List.mem_cons.mp h with z | z
      · exact absurd (z.trans e) ne
      · exact z
    · rw [adel, if_neg e]
      rcases List.mem_cons.mp h with z | z
      · rw [z]; exact List.mem_cons_self
      · exact List.mem_cons_of_mem _ (adel_mem z ne)
theorem aget_split {α : Type} {k : Str} {v : α} : ∀ {l : List (Str × α)}, aget l k = some v → ∃ B C, l = B ++ (k, v) :: C ∧ ∀ v', aput l k v' = B ++ (k, v') :: C
  | x :: r, h => by
    by_cases e : x.1 = k
    · rw [aget, if_pos e] at h
      obtain rfl := Option.some.inj h
      exact ⟨[], r, by rw [← e]; rfl, fun v' => by rw [aput, if_pos e]; rfl⟩
    · rw [aget, if_neg e] at h
      obtain ⟨B, C, e1, e2⟩ := aget_split h
      exact ⟨x :: B, C, by rw [e1]; rfl, fun v' => by rw [aput, if_neg e, e2 v']; rfl⟩
theorem aput_self {α : Type} {k : Str} {v : α} {l : List (Str × α)} (h : aget l k = some v) : aput l k v = l := by
  obtain ⟨B, C, e1, e2⟩ := aget_split h
  rw [e2, ← e1]
theorem k_dgetR {H : Hp} {a : Addr} {kvs : List (Key × V)} {v : V} {P : Addr → V → Prop} {x : Str} (r : Rd H a (.dK kvs)) (lk : valV kvs (.inr x) = some v) (q : P a v) : ∃ a' v', V.ref a = .ref a' ∧ DGet H a' (.str x) (some v') ∧ P a' v' :=
  ⟨_, _, rfl, .inl ⟨kvs, .inr x, r, rfl, lk.symm⟩, q⟩
theorem adel_none {α : Type} {k : Str} : ∀ {l : List (Str × α)}, aget l k = none → adel l k = l
  | [], _ => rfl
  | x :: r, h => by
    by_cases e : x.1 = k
    · rw [aget, if_pos e] at h; cases h
    · rw [aget, if_neg e] at h
      rw [adel, if_neg e, adel_none h]
theorem aput_nm {α : Type} {l : List (Str × α)} {k : Str} {v : α} {ns : List Str} (h : l.map (·.1) = ns) (hk : k ∈ ns) : (aput l k v).map (·.1) = ns := by
  rw [aput_names_in (by rw [h]; exact hk)]; exact h
theorem aget_const {α : Type} {v : α} {k : Str} : ∀ {ns : List Str}, k ∈ ns → aget (ns.map fun n => (n, v)) k = some v
  | x :: r, h => by
    by_cases z : x = k
    · rw [List.map_cons, aget, if_pos z]
    · rw [List.map_cons, aget, if_neg z]
      exact aget_const ((List.mem_cons.mp h).resolve_left fun y => z y.symm)
theorem aget_mem {α : Type} {k : Str} {v : α} {l : List (Str × α)} (h : aget l k = some v) : (k, v) ∈ l := by
  obtain ⟨B, C, e, _⟩ := aget_split h
  rw [e]; exact List.mem_append_right _ List.mem_cons_self
theorem mem_aget {α : Type} {k : Str} {v : α} {l : List (Str × α)} (nd : (l.map (·.1)).Nodup) (h : (k, v) ∈ l) : aget l k = some v := by
  induction l with
  | nil => cases h
  | cons x r ih =>
    obtain ⟨n1, n2⟩ := List.nodup_cons.mp nd
    rcases List.mem_cons.mp h with e | h
    · rw [← e, aget, if_pos rfl]
    · rw [aget, if_neg]
      · exact ih n2 h
      · intro e
        exact n1 (List.mem_map.mpr ⟨_, h, e.symm⟩)
theorem foldl_take {α β : Type} {f : β → α → β} {l : List α} {i : Nat} {x : α} {b : β} (h : l[i]? = some x) : (l.take (i + 1)).foldl f b = f ((l.take i).foldl f b) x := by
  rw [List.take_add_one, h, List.foldl_append]; rfl
theorem small60 {n : Nat} (h : n < 60) : n < sizeLine := Nat.lt_of_lt_of_le h (by decide)
theorem map_take {α β : Type} {f : α → β} {l : List α} {i : Nat} {x : α} (h : l[i]? = some x) : (l.take (i + 1)).map f = (l.take i).map f ++ [f x] := by
  rw [List.take_add_one, h, List.map_append]; rfl
theorem pss_imp {X : Cx} {sts : List Stmt} {t u : TS} (h : PSs X sts t) (k : ∀ D σ H, u D σ H → t D σ H) : PSs X sts u := ⟨fun pins s σ H D I q => h.run pins s σ H D I (k D σ H q)⟩
theorem ps_imp {X : Cx} {st : Stmt} {t u : TS} (h : PS X st t) (k : ∀ D σ H, u D σ H → t D σ H) : PS X st u := ⟨fun pins s σ H D I q => h.run pins s σ H D I (k D σ H q)⟩
end Sd


/-! lambdas that capture names, kept as values, called by told -/
namespace Sd
open PySem PySem.Spec PyProof.Rows L2 LamX NdefX
structure LOkC (P : Program) (w : World) (K : PySem.W.Frag) (mg : Str → Option Value) (base : Heap) (k : Nat) (f : Addr) (F : NF) (b : Expr) (fr : List Str) (tl : List (Option V) → Hp → VK → XK → Prop) : Prop where
  run : ∀ (A : Around) (outer : List Env) (s : Shared) (H : Hp) (ws : List (Option V)) (Q : VK) (E : XK), Room k A → Env0 P w K mg base A outer s H → H f = some (LamO f F b) → H F.c = some (CodeO F.c F.qual) → CellsAt F.cl fr ws s.heap H → tl ws H Q E →
    codeAny (model P w) A (.call (.ref f) ⟨[], []⟩) (CR (L2.CX P w) outer P w H s Q E) s
section
variable {P : Program} {w : World} {K : PySem.W.Frag} {mg : Str → Option Value} {base : Heap} {F : NF} {f : Addr} {b : Expr} {k : Nat} {N fr : List Str} {tl : List (Option V) → Hp → VK → XK → Prop}
theorem lokC_of (S : NScope N [] fr F.scope) (hb : ∀ pm cv ctv : Value, bindArgs (PySem.W.kla_fn F.name F.qual F.params b F.scope F.cl pm cv ctv) ⟨[], []⟩ = pure [])
    (hbody : ∀ (A : Around) (outer : List Env) (s : Shared) (H : Hp) (ws : List (Option V)) (Q : VK) (E : XK), Room k (A.deeper (envF F f s.heap.objs.size)) → tl ws H Q E → ∃ t : TE, PE (ncx (L2.CX P w) P w K mg base N F f A outer s H E) b t ∧ t (startF N [] ws) H Q) :
    LOkC P w K mg base (k + 1) f F b fr tl := by
  refine ⟨fun A outer s H ws Q E hr e0 hf hc C h => ?_⟩
  have lim : s.heap.NoLimit := e0.mod.nolimit.keeps fun b o e => (e0.bs b o e).1
  obtain ⟨pm, ctv, ho⟩ := lamO_at e0.hok hf
  refine PySem.W.kla_callFunE hr.depth ho rfl S.co S.gen rfl (codeO_at e0.hok hc) ?_
  rw [hb]
  refine wpAny_pure (wpAny_newFunctionEnv S.nocell (fun y hy => absurd hy (by simp)) (fun h₁ hns hsb => ⟨lim.fresh _ hsb, ?_⟩) S.kind)
  show codeAny _ _ (.expr b (envF F f s.heap.objs.size)) _ _
  have kp : ∀ b o, s.heap.get? b = some o → h₁.get? b = some o := fun b o e => hsb.extBut b o (Nat.ne_of_lt (Heap.lt_size e)) (Heap.get?_push_of_some _ e)
  obtain ⟨t, ht, hq⟩ := hbody A outer s H ws Q E (hr.deeper _) h
  have I : Inv (ncx (L2.CX P w) P w K mg base N F f A outer s H E) [] (startF N [] ws) H { s with heap := h₁, toks := s.toks + ([] : List (Str × Value)).length } :=
    inv_startN (N := N) (ps := []) (fr := fr) (vs := []) (us := []) (ws := ws) S hr.hd e0 rfl .nil C hns kp
  refine PySem.W.kla_codeExpr (wpAny_mono (ht.run [] _ _ H Q I hq) (fun v s' hq => ?_) fun e s' hq => hq)
  obtain ⟨w', H', J', rv, q⟩ := hq
  exact ⟨w', H', J'.os, J'.bare, J'.base, J'.hok, rv, q⟩
end
theorem pe_lamcC {X : Cx} {W : WX} {i k : Nat} {x : Str} {p pos : Pos} {f : Addr} {F : NF} {b : Expr} {fr : List Str} {ws : List (Option V)} {tl : List (Option V) → Hp → VK → XK → Prop} (tk : Takes X W) (hr : Room k X.A) (hN : X.N[i]? = some x) (hv : Vis X.env.scope x)
    (C : CellsAt F.cl fr ws X.s_0.heap X.H_0) (nf : ∀ y c, F.cl.lookup y = some c → c ∉ X.fs) (hx : ∀ y c, F.cl.lookup y = some c → c ∉ X.ex) (L : LOkC X.prog X.w X.K X.mg X.base k f F b fr tl)
    (hd : (x == ("__debug__" : Str)) = false := by decide) (hcd : (x == ("__classdict__" : Str)) = false := by decide) :
    PE X (.Call (.Name x p) [] [] pos) (fun σ H Q => σ[i]? = some (some (.ref f)) ∧ H f = some (LamO f F b) ∧ H F.c = some (CodeO F.c F.qual) ∧ ∃ E : XK, (∀ cls d σ' H', E cls d H' → W cls d σ' H') ∧ tl ws H Q E) := by
  refine ⟨fun pins s σ H Q I h => ?_⟩
  obtain ⟨hs, hf, hc, E, hW, ht⟩ := h
  refine wpAny_Call_Name_kw (thn ((pe_var (pos := p) hN hv hd hcd).run pins s σ H (fun v H1 => v = .ref f ∧ H1 = H) I ⟨.ref f, hs, rfl, rfl⟩) fun u s1 ⟨v, H1, I1, r1, q1⟩ => ?_)
  obtain ⟨ev, eH⟩ := q1
  subst ev
  rw [eH] at I1
  obtain rfl : u = Value.ref f := r1
  obtain ⟨pm, ctv, ho⟩ := lamO_at I1.hok hf
  refine PySem.W.callWith_F0 (first := []) ⟨_, _, _, _, ho⟩ ?_
  show wpAny _ _ (call (.ref f) []) _ _ _
  refine wpAny_call (codeAny_mono (L.run X.A X.stack s1 H ws Q E hr I1.env0 hf hc (C.later nf hx I1) ht) fun r s' hq => ?_)
  cases r with
  | error e => exact passes_call tk hW pins σ H s1 e s' I1 hq
  | ok fl =>
    cases fl with
    | ret u => exact I1.after hq
    | next => exact False.elim hq
    | brk => exact False.elim hq
    | cont => exact False.elim hq
/-- told(y), y a name that holds a lambda -/
def tToldC (K : PySem.W.Frag) (P : Program) (w : World) (mg : Str → Option Value) (base : Heap) (k i : Nat) (cl : List (Str × Addr)) (fr : List Str) (ws : List (Option V)) (CS : Addr) (ret : Str) : TE := fun σ H Q => ∃ (f : Addr) (F : NF) (b : Expr) (tl : List (Option V) → Hp → VK → XK → Prop),
  σ[i]? = some (some (.ref f)) ∧ H f = some (LamO f F b) ∧ H F.c = some (CodeO F.c F.qual) ∧ F.cl = cl ∧ LOkC P w K mg base k f F b fr tl ∧ tl ws H Q (fun cls _ H' => ∃ b, PySem.W.exmOne K cls (.ref CS) = some b ∧ (b = true → Q (.str ret) H') ∧ (b = false → False))
theorem pe_toldC {X : Cx} {i k j : Nat} {x y a e ret : Str} {g CS : Addr} {st : Stmt} {fd : FuncData} {N : List Str} {p py pos p1 p2 p3 p4 p5 p6 p7 p8 : Pos} {cl : List (Str × Addr)} {fr : List Str} {ws : List (Option V)} (Fn : Fun X.K x x st g fd) (S : FnScope N [a] (defScope st))
    (hbd : defBody st = [.Try [.Return (some (.Call (.Name a p1) [] [] p2)) p3] [.ExceptHandler (some (.Name e p4)) none [.Return (some (.Constant (.str ret) j p5)) p6] p7] [] [] p8]) (hbi : Binds X.K fd [a] []) (hm : X.mg x = some (.ref g)) (hge : (defScope st).names.lookup e = some .globalImplicit) (hme : X.mg e = some (.ref CS))
    (hN : N[0]? = some a) (hv : Vis (defScope st) a) (h0 : ∀ f : Addr, (L2.start N [V.ref f])[0]? = some (some (V.ref f)))
    (hr : Room (k + 1) X.A) (hg : Gl X x) (hy : X.N[i]? = some y) (hvy : Vis X.env.scope y)
    (C : CellsAt cl fr ws X.s_0.heap X.H_0) (nf : ∀ y c, cl.lookup y = some c → c ∉ X.fs) (hx : ∀ y c, cl.lookup y = some c → c ∉ X.ex) (nf2 : ∀ y c, cl.lookup y = some c → c ∉ frs X.stack)
    (hdb : (x == ("__debug__" : Str)) = false := by decide) (hdy : (y == ("__debug__" : Str)) = false := by decide) (hcy : (y == ("__classdict__" : Str)) = false := by decide) (hde : (e == ("__debug__" : Str)) = false := by decide) (hd : (a == ("__debug__" : Str)) = false := by decide) (hcd : (a == ("__classdict__" : Str)) = false := by decide) :
    PE X (.Call (.Name x p) [.Name y py] [] pos) (tToldC X.K X.prog X.w X.mg X.base k i cl fr ws CS ret) := by
  refine ⟨fun pins s σ H Q I h => ?_⟩
  obtain ⟨f, F, b, tl, hs, hf, hc, rfl, L, ht⟩ := h
  refine wpAny_Call_Name_kw (ld_glob I hg hm ?_ hdb)
  refine PySem.W.callWith_K (h₀ := X.base) I.ok.mod.kin Fn.kp (thn ((pa_cons (pe_var (pos := py) hy hvy hdy hcy) pa_nil).run pos pins s σ H (fun vs H1 => vs = [.ref f] ∧ H1 = H) I ⟨.ref f, hs, rfl, rfl⟩) fun us s1 ⟨vs, H1, I1, r, q⟩ => ⟨I1.kIn, ?_⟩) (by rfl) (by rfl)
  obtain ⟨ev, eH⟩ := q
  subst ev
  rw [eH] at I1
  obtain ⟨u, rfl, ru⟩ := r.one
  obtain rfl : u = Value.ref f := ru
  obtain ⟨oc, od, kV, doc, pm, an, cdv, ct, osl, rfl, lk, hcd2⟩ := Fn.ex
  have C1 : CellsAt F.cl fr ws s1.heap H := C.later nf hx I1
  have rc : codeAny (model X.prog X.w) X.A (.call (.ref g) ⟨[.ref f], []⟩) (CR C8.CX0 X.stack X.prog X.w H s1 Q C8.E0) s1 := by
    refine run_ofS (N := N) (ps := [a]) (us := [.ref f]) (vs := [.ref f]) lk hcd2 S hr I1.env0 (hbi s1 [.ref f] I1.kIn rfl) (.cons rfl .nil) rfl fun hr' => ?_
    have hgl : Gl (cxOf C8.CX0 X.prog X.w X.K X.mg X.base N x (defScope st) g cdv X.A X.stack s1 H C8.E0).nox e := hge
    rw [hbd]
    have hps : PSs (cxOf C8.CX0 X.prog X.w X.K X.mg X.base N x (defScope st) g cdv X.A X.stack s1 H C8.E0).nox [.Try [.Return (some (.Call (.Name a p1) [] [] p2)) p3] [.ExceptHandler (some (.Name e p4)) none [.Return (some (.Constant (.str ret) j p5)) p6] p7] [] [] p8] _ :=
      pss_one (ps_try_only (c := .ref CS) (tb := fun W D σ H => σ[0]? = some (some (.ref f)) ∧ H f = some (LamO f F b) ∧ H F.c = some (CodeO F.c F.qual) ∧ ∃ E : XK, (∀ cls d σ' H', E cls d H' → W cls d σ' H') ∧ tl ws H D.rt E) rfl rfl ⟨hgl, hde, .inl hme⟩ L2.takes0
        (fun W pn xe tk _ => pss_one (ps_ret (pe_lamcC tk hr' hN hv C1 nf2 (fun _ _ _ z => nomatch z) L hd hcd))) (fun a oe cls d pn _ _ => pss_one (ps_ret pe_str)))
    refine ⟨_, hps.nox, h0 f, hf, hc, _, fun cls d σ' H' q => ?_, ht⟩
    obtain ⟨b, e1, e2, e3⟩ := q
    exact ⟨b, e1, fun hb a _ => e2 hb, fun hb => e3 hb⟩
  refine wpAny_call (codeAny_mono rc fun r s2 hq => ?_)
  cases r with
  | error e => exact (show False from hq).elim
  | ok fl =>
    cases fl with
    | ret u => exact I1.after hq
    | next => exact False.elim hq
    | brk => exact False.elim hq
    | cont => exact False.elim hq
end Sd


/-! [e for f in xs if t], t false each time and fit to call what captures names of the running frame -/
namespace Sd
open PySem PySem.Spec PyProof.Rows L2 LamX NdefX
theorem cell_nofrs {X : Cx} {pins : List (Addr × Obj)} {σ : L2.St} {H : Hp} {s : Shared} (I : Inv X pins σ H s) (hfn : ∀ x, X.fn x = true) : ∀ x c, X.env.cells.lookup x = some c → c ∉ frs X.stack := fun x c e hb => by
  rcases List.mem_cons.mp (I.stkSub c hb) with z | z
  · exact I.cne x c e z
  · obtain ⟨_, o, ho, _⟩ := I.ok.funs.mem z
    exact absurd (Nat.lt_of_lt_of_le (Heap.lt_size ho) (I.ok.cab x c (hfn x) e)) (Nat.lt_irrefl _)
/-- what the block's start tells of the captured cells -/
def GdC (X : Cx) (cl : List (Str × Addr)) (fr : List Str) (ws : List (Option V)) (s : Shared) (H : Hp) (fp : List Addr) : Prop := CellsAt cl fr ws s.heap H ∧ ∀ y c, cl.lookup y = some c → c ∉ frs X.stack ∧ c ∉ fp
theorem pe_lcF {X : Cx} {elt tg iter : Expr} {ifs : List Expr} {scope : Scope} {own : List (Str × Nat)} {pos : Pos} {wi : TI} {g : TG} {tt : TT} {fr : List Str} {js : List Nat} {ws : List (Option V)} {lsc : Scope} (hfn : ∀ x, X.fn x = true) (hc : X.calm = true) (hN : X.N.Nodup) (hi : PI X tg iter wi) (ok : BlkOk X.N X.env.scope scope own)
    (caps : ∀ pins σ H s, Inv X pins σ H s → Caps X (cloFrom X.env.cells lsc.names []) fr js)
    (hg : ∀ (s : Shared) (H : Hp) (C : Addr) (cl : List (Str × Addr)) (fp : List Addr), PG (X.blk s H scope (compEnvC scope cl C X.env) fp) tg g)
    (ht : ∀ (s : Shared) (H : Hp) (C : Addr) (cl : List (Str × Addr)) (fp : List Addr), GdC X (cloFrom X.env.cells lsc.names []) fr ws s H fp → PTs (X.blk s H scope (compEnvC scope cl C X.env) fp) ifs tt)
    (hs : ∀ x, foldedSetIterable iter X.env x = pure x := by intro _; rfl) :
    PE X (.ListComp elt [⟨tg, iter, ifs, 0⟩] scope pos) (fun σ H Q => js.map (slotAt σ) = ws ∧ tLc wi g tt (fun _ _ _ => False) (own.map (·.2)) σ H Q) := by
  refine ⟨fun pins s σ H Q I h => ?_⟩
  obtain ⟨hws, h⟩ := h
  rw [eval_ListComp]
  refine wpAny_comprehension_free (use := none) rfl hs (closure_ok fun y hy e => ?_) ok.kind (fun y hy e => by rw [ok.uniq y hy, e]) (thn (hi.run pins s σ H _ I h) fun xv s1 hx => thn hx fun itv s2 h2 => ?_)
  · rcases ok.free y hy e with k | k
    · exact I.ok.has _ (.inl k)
    · exact I.ok.has _ (.inr k)
  obtain ⟨it, fp, tn, J, H2, e, I2, T, st2, f2, q⟩ := h2
  subst e
  refine wpAny_newObj_type (newEnv_comp ?_) (by show 0 ≤ sizeLine; decide)
  have hD2 : H2 s2.heap.objs.size = none := I2.hok.fresh (Nat.le_refl _)
  obtain ⟨W, ⟨m0, w0⟩, turn⟩ := q _ hD2
  generalize hs3 : ({ s2 with heap := s2.heap.push { cls := .type "list", data := .seq ([] : List Value).toArray } } : Shared) = s3
  have h3 : s3.heap = s2.heap.push { cls := .type "list", data := .seq ([] : List Value).toArray } := by rw [← hs3]
  have I3 : Inv X pins σ (upd H2 s2.heap.objs.size (.lst [])) s3 := by
    rw [← hs3]
    exact I2.laid (t' := s2.toks) (fun b o e => Heap.get?_push_of_some _ e) (Nat.le_refl _) ⟨Nat.zero_le _, [], 0, .nil, Heap.get?_push_size _ rfl⟩
  generalize hDD : s2.heap.objs.size = D at I3 w0 turn hD2 ⊢
  have fOk : ∀ b ∈ fp, FpOk X pins (upd H2 D (.lst [])) b ∧ b < s3.heap.objs.size := fun b hb => by
    obtain ⟨o, e, _⟩ := T.obj _ _ st2 b hb
    have hlt := Heap.lt_size e
    refine ⟨⟨?_, (f2 b hb).2⟩, by rw [h3, Heap.size_push]; exact Nat.lt_succ_of_lt hlt⟩
    rw [upd_ne (by rw [← hDD]; exact Nat.ne_of_lt hlt)]
    exact (f2 b hb).1
  have gd : GdC X (cloFrom X.env.cells lsc.names []) fr ws s3 (upd H2 D (.lst [])) fp := by
    refine ⟨hws ▸ cells_of I3 (caps _ _ _ _ I3), fun y c e => ⟨cell_nofrs I3 hfn y c ((caps _ _ _ _ I3).sub y c e), fun hb => ?_⟩⟩
    exact (fOk c hb).1.2.2.2.2.1 y c ((caps _ _ _ _ I3).sub y c e) rfl
  have I4 := block_start I3 ok hN fOk
  have pg := hg s3 (upd H2 D (.lst [])) s3.heap.objs.size (cellsFrom (s3.heap.objs.size + 1) scope.names (cloFrom X.env.cells scope.names [])) fp
  have pt := ht s3 (upd H2 D (.lst [])) s3.heap.objs.size (cellsFrom (s3.heap.objs.size + 1) scope.names (cloFrom X.env.cells scope.names [])) fp gd
  have t3 : tn 0 s3.heap := T.keep _ _ _ st2 fun b _ o e => by rw [h3]; exact Heap.get?_push_of_some _ e
  have n3 : ∀ b ∈ fp, (upd H2 D (.lst [])) b = none := fun b hb => (fOk b hb).1.1
  generalize hBX : X.blk s3 (upd H2 D (.lst [])) scope (compEnvC scope (cellsFrom (s3.heap.objs.size + 1) scope.names (cloFrom X.env.cells scope.names [])) s3.heap.objs.size X.env) fp = BX at I4 pg pt
  have bP : BX.prog = X.prog ∧ BX.w = X.w ∧ BX.K = X.K ∧ BX.calm = X.calm ∧ BX.A = X.A ∧ BX.ex = fp ∧ BX.pn = [] ∧ BX.env.locals = s3.heap.objs.size := by rw [← hBX]; exact ⟨rfl, rfl, rfl, rfl, rfl, rfl, rfl, rfl⟩
  have fpB : ∀ {σ' : L2.St} {H' : Hp} {s' : Shared}, Inv BX [] σ' H' s' → (∀ b ∈ fp, H' b = none) → ∀ b ∈ fp, FpOk BX [] H' b := fun {σ' H' s'} I' hn b hb => by
    have hbx : b ∈ BX.ex := by rw [bP.2.2.2.2.2.1]; exact hb
    exact ⟨hn b hb, (I'.ok.exf b hbx).1, I'.ok.exfs b hbx, .inl hbx, fun x c e => (I'.ok.exf b hbx).2 x c e, fun p hp => by rw [bP.2.2.2.2.2.2.1] at hp; cases hp⟩
  generalize hs4 : ({ s3 with heap := pushCells (s3.heap.push { cls := .type "dict", data := .dict #[] }) scope.names } : Shared) = s4 at I4
  have t4 : tn 0 s4.heap := T.keep _ _ _ t3 fun b _ o e => by rw [← hs4]; exact pushCells_keeps _ _ _ _ (Heap.get?_push_of_some _ e)
  show codeAny _ _ (.compStart (.ListComp elt [⟨tg, iter, ifs, 0⟩] scope pos) 0 (.ref it) (.ref D) (compEnvC scope (cellsFrom (s3.heap.objs.size + 1) scope.names (cloFrom X.env.cells scope.names [])) s3.heap.objs.size X.env)) (compPost (model X.prog X.w) X.A X.xe none (EP X pins σ Q) (.ref D) s3.heap.objs.size) s4
  have loop : codeAny (model X.prog X.w) X.A (.compLoop (.ListComp elt [⟨tg, iter, ifs, 0⟩] scope pos) 0 (.ref it) (.ref D) (compEnvC scope (cellsFrom (s3.heap.objs.size + 1) scope.names (cloFrom X.env.cells scope.names [])) s3.heap.objs.size X.env)) (compPost (model X.prog X.w) X.A X.xe none (EP X pins σ Q) (.ref D) s3.heap.objs.size) s4 := by
    refine compLoop_any (fun n s' => ∃ i H', Inv BX [] (wipe σ (own.map (·.2))) H' s' ∧ tn i s'.heap ∧ (∀ b ∈ fp, H' b = none) ∧ W i n H') ?_ m0 ⟨0, _, I4, t4, n3, w0⟩
    rintro n s5 ⟨i, H5, I5, t5, n5, w5⟩
    rcases turn i n H5 w5 with ⟨stop, qq⟩ | ⟨go, Nx, hNx, step⟩
    · have td := T.done BX bP.1 bP.2.1 bP.2.2.1 (bP.2.2.2.1.trans hc) i [] s5 _ H5 (fun _ _ => False) I5 (fpB I5 n5) t5 stop
      rw [bP.2.2.2.2.1] at td
      refine thnF td fun r s6 ⟨hr, I6⟩ => ?_
      subst hr
      subst hBX
      have I7 : Inv X pins σ H5 s6 := I3.call' (ch := fp) I6.os I6.base I6.hok I6.bare fun b hb => ⟨(fOk b hb).1.2.2.2.1, (fOk b hb).1.2.1, (fOk b hb).1.2.2.2.2.1, (fOk b hb).1.2.2.2.2.2⟩
      obtain ⟨m, hn, _⟩ := I6.loc
      have nC : H5 s3.heap.objs.size = none := I6.free
      obtain ⟨f0, f1, f2', f3, f4, f5⟩ := I3.fpOk (H' := H5) (Nat.le_refl _) nC
      exact ⟨m, hn, fun h'' sb => ⟨.ref D, H5, I7.turned (t' := s6.toks) (fun b o hb e => (sb.2 b hb).trans e) f0 f1 f3 f4 f5, rfl, qq⟩⟩
    · have ti := T.item BX bP.1 bP.2.1 bP.2.2.1 (bP.2.2.2.1.trans hc) i [] s5 _ H5 (fun _ _ => False) I5 (fpB I5 n5) t5 go
      rw [bP.2.2.2.2.1] at ti
      refine thnF ti fun r s6 ⟨u, hr, h6⟩ => ?_
      subst hr
      refine thnF h6 fun _ s7 ⟨x, H7, I7, r7, y7, t7, n7⟩ => ?_
      have I7' := I7.pinned (fpB I7 n7) (T.obj _ _ t7)
      subst hBX
      refine thnF (pg.run _ s7 _ H7 x u _ I7' r7 (step x H7 y7)) fun _ s8 ⟨σ8, H8, I8, hw8, q8⟩ => ?_
      refine thnF (pt.run _ s8 σ8 H8 _ I8 q8) fun b s9 ⟨H9, I9, q9⟩ => ?_
      cases b with
      | true => exact False.elim q9
      | false =>
        obtain ⟨m', hm, w'⟩ := hNx H9 q9
        have pin' : ∀ b ∈ fp, ∀ o, s7.heap.get? b = some o → s9.heap.get? b = some o ∧ H9 b = none := fun b hb o e =>
          let z := I9.pin (b, o) (List.mem_append_right _ (List.mem_append_right _ (mem_pinsAt hb e)))
          ⟨z.1, z.2.1⟩
        refine ⟨m', hm, i + 1, H9, (I9.unpinned (pins := [])).weak (by rw [← hw8, wipe_length]) (fun j v e => ?_), T.keep _ _ _ t7 fun b hb o e => (pin' b hb o e).1, fun b hb => ?_, w'⟩
        · rw [← hw8] at e
          exact (wipe_some e).1
        · obtain ⟨o, e, _⟩ := T.obj _ _ t7 b hb
          exact (pin' b hb o e).2
  exact codeAny_compStart_list loop (T.self X.A 0 _ _ _ t4 loop)
theorem pe_lcE {X : Cx} {elt tg iter : Expr} {ifs : List Expr} {scope : Scope} {own : List (Str × Nat)} {pos : Pos} {wi : TI} {g : TG} {tt : List (Option V) → TT} {fr : List Str} {js : List Nat} {lsc : Scope} (hfn : ∀ x, X.fn x = true) (hc : X.calm = true) (hN : X.N.Nodup) (hi : PI X tg iter wi) (ok : BlkOk X.N X.env.scope scope own)
    (caps : ∀ pins σ H s, Inv X pins σ H s → Caps X (cloFrom X.env.cells lsc.names []) fr js)
    (hg : ∀ (s : Shared) (H : Hp) (C : Addr) (cl : List (Str × Addr)) (fp : List Addr), PG (X.blk s H scope (compEnvC scope cl C X.env) fp) tg g)
    (ht : ∀ (ws : List (Option V)) (s : Shared) (H : Hp) (C : Addr) (cl : List (Str × Addr)) (fp : List Addr), GdC X (cloFrom X.env.cells lsc.names []) fr ws s H fp → PTs (X.blk s H scope (compEnvC scope cl C X.env) fp) ifs (tt ws))
    (hs : ∀ x, foldedSetIterable iter X.env x = pure x := by intro _; rfl) :
    PE X (.ListComp elt [⟨tg, iter, ifs, 0⟩] scope pos) (fun σ H Q => tLc wi g (tt (js.map (slotAt σ))) (fun _ _ _ => False) (own.map (·.2)) σ H Q) :=
  ⟨fun pins s σ H Q I h => (pe_lcF hfn hc hN hi ok caps hg (ht (js.map (slotAt σ))) hs).run pins s σ H Q I ⟨rfl, h⟩⟩
theorem pe_toldB {X : Cx} {s : Shared} {H : Hp} {scope : Scope} {cenv : Env} {fp : List Addr} {i k j : Nat} {x y a e ret : Str} {g CS : Addr} {st : Stmt} {fd : FuncData} {N : List Str} {p py pos p1 p2 p3 p4 p5 p6 p7 p8 : Pos} {cl : List (Str × Addr)} {fr : List Str} {ws : List (Option V)} (Fn : Fun X.K x x st g fd) (S : FnScope N [a] (defScope st))
    (hbd : defBody st = [.Try [.Return (some (.Call (.Name a p1) [] [] p2)) p3] [.ExceptHandler (some (.Name e p4)) none [.Return (some (.Constant (.str ret) j p5)) p6] p7] [] [] p8]) (hbi : Binds X.K fd [a] []) (hm : X.mg x = some (.ref g)) (hge : (defScope st).names.lookup e = some .globalImplicit) (hme : X.mg e = some (.ref CS))
    (hN : N[0]? = some a) (hv : Vis (defScope st) a) (h0 : ∀ f : Addr, (L2.start N [V.ref f])[0]? = some (some (V.ref f)))
    (hr : Room (k + 1) X.A) (gd : GdC X cl fr ws s H fp) (hg : cenv.scope.names.lookup x = some .globalImplicit) (hy : X.N[i]? = some y) (hvy : Vis cenv.scope y)
    (hdb : (x == ("__debug__" : Str)) = false := by decide) (hdy : (y == ("__debug__" : Str)) = false := by decide) (hcy : (y == ("__classdict__" : Str)) = false := by decide) (hde : (e == ("__debug__" : Str)) = false := by decide) (hd : (a == ("__debug__" : Str)) = false := by decide) (hcd : (a == ("__classdict__" : Str)) = false := by decide) :
    PE (X.blk s H scope cenv fp) (.Call (.Name x p) [.Name y py] [] pos) (tToldC X.K X.prog X.w X.mg X.base k i cl fr ws CS ret) :=
  pe_toldC (X := X.blk s H scope cenv fp) Fn S hbd hbi hm hge hme hN hv h0 hr hg hy hvy gd.1 (fun y c e => (gd.2 y c e).1) (fun y c e => (gd.2 y c e).2) (fun y c e => (gd.2 y c e).1) hdb hdy hcy hde hd hcd
/-- lambda: body; names captured: those of the running frame's cells -/
def tLamVC (P : Addr) (q : Str) (params : Arguments) (body : Expr) (scope : Scope) (cl : List (Str × Addr)) : TE := fun _ H Q => TabS H P q ∧ ∀ (f c' : Addr) (H1 : Hp), ExtN H H1 → TabS H1 P q → H f = none → H1 f = some (LamO f ⟨"<lambda>", q, params, [], scope, cl, c'⟩ body) → H1 c' = some (CodeO c' q) → Q (.ref f) H1
theorem pe_lamvC {X : Cx} {q : Str} {c P : Addr} {params : Arguments} {body : Expr} {scope : Scope} {pos : Pos} (TB : TabB X.base X.mg c P) (hcode : X.env.code = .ref c) (hq : X.env.qual ++ "<lambda>" = q) (hdef : defaultsOf params X.env = ([], []))
    (hfree : ∀ y ∈ scope.names, y.2 = .free → X.env.scope.names.lookup y.1 = some .cell) : PE X (.Lambda params body scope pos) (tLamVC P q params body scope (cloFrom X.env.cells scope.names [])) := by
  refine ⟨fun pins s σ H Q I h => ?_⟩
  obtain ⟨hT, h⟩ := h
  refine lam_value I TB hcode hq hT hdef (fun y hy e => I.ok.has _ (.inl (hfree y hy e))) fun f c' H1 s' I1 eN T1 f0 f1 c1 => ?_
  exact ⟨.ref f, H1, I1, rfl, h f c' H1 eN T1 f0 f1 c1⟩
theorem led_ext {H H1 : Hp} {L : Lg} (hL : Led H L) (hn : ∀ x ∈ L, ∀ ps, x.2 ≠ .tbl ps) (e : ExtN H H1) : Led H1 L := ⟨fun x hx => e _ _ (hL.1 x hx) fun ps z => hn x hx ps z, hL.2⟩
theorem led_moreX {H : Hp} : ∀ (as : List Addr) (R : Lg), Led H R → ∃ Z : Lg, Led H (Z ++ R) ∧ ∀ a ∈ as, ∀ o, H a = some o → ∀ H', Led H' (Z ++ R) → H' a = some o
  | [], R, h => ⟨[], h, fun _ h => nomatch h⟩
  | a :: as, R, h => by
    obtain ⟨Z, h1, k1⟩ := led_moreX as R h
    by_cases e : ∃ o, (a, o) ∈ Z ++ R
    · obtain ⟨o, ho⟩ := e
      refine ⟨Z, h1, fun b hb o' hb' H' h' => ?_⟩
      rcases List.mem_cons.mp hb with rfl | hb
      · have := h1.mem ho
        rw [hb'] at this
        cases this
        exact h'.mem ho
      · exact k1 b hb o' hb' H' h'
    · rcases ha : H a with _ | o
      · refine ⟨Z, h1, fun b hb o' hb' H' h' => ?_⟩
        rcases List.mem_cons.mp hb with rfl | hb
        · rw [ha] at hb'; cases hb'
        · exact k1 b hb o' hb' H' h'
      · refine ⟨(a, o) :: Z, ⟨fun x hx => ?_, ?_⟩, fun b hb o' hb' H' h' => ?_⟩
        · rcases List.mem_cons.mp hx with rfl | hx
          · exact ha
          · exact h1.1 x hx
        · rw [List.cons_append, List.map_cons]
          refine List.nodup_cons.mpr ⟨fun hm => ?_, h1.2⟩
          obtain ⟨x, hx, ex⟩ := List.mem_map.mp hm
          exact e ⟨x.2, by
            have ex : x.1 = a := ex
            rw [← ex]; exact hx⟩
        · rcases List.mem_cons.mp hb with rfl | hb
          · rw [ha] at hb'; cases hb'
            exact h'.mem (.head _)
          · exact k1 b hb o' hb' H' h'.tail
end Sd


/-! the head's facts for the end of a law -/
namespace Sd
open PySem PySem.Spec PyProof.Rows L2
theorem fun_ofD {K : PySem.W.Frag} {x qual : Str} {st : Stmt} {f : Addr} {fd : FuncData} (F : FunD K x qual (defArgs st) (defBody st) (defScope st) [] [] f fd) : Fun K x qual st f fd := by
  obtain ⟨oc, od, dV, kV, doc, pm, an, cdv, ct, osl, e, lk, hcd, hD, hK⟩ := F.ex
  rcases hD with ⟨_, rfl⟩ | ⟨ne, _⟩
  · exact ⟨⟨oc, od, kV, doc, pm, an, cdv, ct, osl, e, lk, hcd⟩, F.kp⟩
  · exact absurd rfl ne
/-- a def whose own code is told -/
theorem fun_code {K : PySem.W.Frag} {x qual : Str} {st : Stmt} {p : He.Defn} {fd : FuncData} (F : Fun K x qual st (He.fAd K p) fd) :
    ∃ (oc : Value) (od : Option Addr) (kV doc pm : Value) (an : Option Addr) (ct : Value) (osl : Array (Option Value)),
      fd = PySem.W.fnOf x qual (defArgs st) (defBody st) (defScope st) .none kV doc pm an (.ref (He.cT K p).1) ct ∧ K.lookup (He.fAd K p) = some ⟨oc, od, .func fd, osl⟩ ∧ PySem.W.codeIn K (.ref (He.cT K p).1) qual = true := by
  obtain ⟨oc, od, kV, doc, pm, an, cdv, ct, osl, rfl, lk, hcd⟩ := F.ex
  obtain ⟨c, rfl⟩ := He.codeIn_ref hcd
  have e : (He.cT K p).1 = c := He.codeOf_eq lk rfl
  rw [e]
  exact ⟨oc, od, kV, doc, pm, an, ct, osl, rfl, lk, hcd⟩
theorem fun_codeD {K : PySem.W.Frag} {x qual : Str} {params : Arguments} {body : List Stmt} {scope : Scope} {dvs : List V} {p : He.Defn} {fd : FuncData} (F : FunD K x qual params body scope dvs [] (He.fAd K p) fd) :
    ∃ (oc : Value) (od : Option Addr) (dV kV doc pm : Value) (an : Option Addr) (ct : Value) (osl : Array (Option Value)),
      fd = PySem.W.fnOf x qual params body scope dV kV doc pm an (.ref (He.cT K p).1) ct ∧ K.lookup (He.fAd K p) = some ⟨oc, od, .func fd, osl⟩ ∧ PySem.W.codeIn K (.ref (He.cT K p).1) qual = true := by
  obtain ⟨oc, od, dV, kV, doc, pm, an, cdv, ct, osl, rfl, lk, hcd, hD, hK⟩ := F.ex
  obtain ⟨c, rfl⟩ := He.codeIn_ref hcd
  have e : (He.cT K p).1 = c := He.codeOf_eq lk rfl
  rw [e]
  exact ⟨oc, od, dV, kV, doc, pm, an, ct, osl, rfl, lk, hcd⟩
theorem led3 {H : Hp} {a b c : Addr} {o u v : HO} (h1 : H a = some o) (h2 : H b = some u) (h3 : H c = some v) (n1 : a ≠ b) (n2 : a ≠ c) (n3 : b ≠ c) : Led H [(a, o), (b, u), (c, v)] :=
  ⟨fun x hx => by
    simp only [List.mem_cons, List.not_mem_nil, or_false] at hx
    rcases hx with rfl | rfl | rfl
    · exact h1
    · exact h2
    · exact h3, by simp [n1, n2, n3]⟩
theorem exc_T {K : PySem.W.Frag} {h : Heap} {mg : Str → Option Value} {x : Str} (X : K.In h) (G : h.Ns mainGlobals mg) (c1 : (He.Fa.glo x).ok K = true) (c2 : (He.Fa.exc x).ok K = true) (c3 : PySem.W.isClsIn K (He.ga K x) = true) (c4 : PySem.W.subIn K (.ref (He.ga K x)) (.ref (He.ga K x)) = some true) : ExcT K mg x (He.ga K x) := by
  obtain ⟨e1, e2, e3, e4⟩ := He.exc_ok c2
  exact ⟨He.glo_ok X G c1, e1, e2, e3, e4, c3, c4⟩
end Sd


/-! == and != of data that are equal: lists, tuples and dicts, nested -/
namespace PySem.SeqAt
open AutoSeq1 (wpAny_loadPart')
open MeetsSeq MeetsSeq2 MeetsSeq3 SeqRoads2
theorem sd_tuple_neIn {prog : Program} {w : World} (l b : Addr) (items items2 : Array Value) (n n2 : Nat) (dd dd2 : Option Addr) (sl sl2 : Array (Option Value)) (e : Nat → Bool) :
    MeetsIn prog w (Builtin.«tuple.__ne__» ⟨[.ref l, .ref b], []⟩)
      (fun A R s => s.heap.get? l = some { cls := .type "tuple", dict := dd, data := .seq items n, slots := sl } ∧ s.heap.get? b = some { cls := .type "tuple", dict := dd2, data := .seq items2 n2, slots := sl2 } ∧
        (∀ j (h1 : j < items.size) (h2 : j < items2.size), EqIn prog w A.in1 s items[j] items2[j] (e j)) ∧
        R (.ok (.ret (.bool (!((List.range (min items.size items2.size)).all e && items.size == items2.size))))) s) :=
  .of_wp fun A R s h => by
    obtain ⟨hp, g, d, tk, os⟩ := s; obtain ⟨hl, hb, he, h⟩ := h
    have f2 := AutoSeq1.sub_tuple_tuple
    have hZ : (items.toList.zip items2.toList).length = min items.size items2.size := by simp
    wp_walk using wpAny_loadPart' hl, wpAny_loadPart' hb, wpAny_forIn_list _ (fun rest b s' => b.1 = none ∧ s' = ⟨hp, g, d, tk, os⟩ ∧ ∃ i, rest = (items.toList.zip items2.toList).drop i ∧
      R (.ok (.ret (.bool (!(((List.range (min items.size items2.size)).drop i).all e && items.size == items2.size))))) ⟨hp, g, d, tk, os⟩) _
    case turn =>
      rintro ⟨y, x⟩ rest b s' ⟨hb', rfl, i, hz, hR⟩
      have hlt : i < (items.toList.zip items2.toList).length := by
        rcases Nat.lt_or_ge i (items.toList.zip items2.toList).length with h' | h'
        · exact h'
        · rw [List.drop_of_length_le h'] at hz; cases hz
      have hm : i < min items.size items2.size := hZ ▸ hlt
      have h1 : i < items.size := Nat.lt_of_lt_of_le hm (Nat.min_le_left _ _)
      have h2 : i < items2.size := Nat.lt_of_lt_of_le hm (Nat.min_le_right _ _)
      rw [List.drop_eq_getElem_cons hlt] at hz
      injection hz with hyx hrest
      have hy : y = items[i] := by have := congrArg Prod.fst hyx; simpa using this
      have hx : x = items2[i] := by have := congrArg Prod.snd hyx; simpa using this
      subst hy hx
      have hd : (List.range (min items.size items2.size)).drop i = i :: (List.range (min items.size items2.size)).drop (i + 1) := by simp [List.drop_eq_getElem_cons, hm]
      rw [hd, List.all_cons] at hR
      refine wpAny_bind (he i h1 h2 _ _ ?_)
      cases hy : e i with
      | true =>
        rw [hy] at hR
        wp_walk
        exact ⟨rfl, rfl, i + 1, hrest, by simpa using hR⟩
      | false =>
        rw [hy] at hR
        wp_walk
        exact ⟨_, rfl, by simpa using hR⟩
    case fin =>
      rintro ⟨b1, b2⟩ s' ⟨hb', rfl, i, hz, hR⟩
      simp only at hb'
      subst hb'
      have hge : min items.size items2.size ≤ i := by
        rcases Nat.lt_or_ge i (items.toList.zip items2.toList).length with h' | h'
        · rw [List.drop_eq_getElem_cons h'] at hz; cases hz
        · exact hZ ▸ h'
      rw [List.drop_of_length_le (by simpa using hge)] at hR
      wp_walk
      exact ⟨_, rfl, by simpa [Builtin.Tuple.tupleCompareSizes, bne] using hR⟩
    case h =>
      exact ⟨rfl, rfl, 0, rfl, by simpa using h⟩
theorem sd_rcNeIn_tuples {prog : Program} {w : World} {A : Around} {s : Shared} {E : Value → Shared → Prop} {l b : Addr} {items items2 : Array Value} {e : Nat → Bool} {Q : Value → Shared → Prop} (hl : s.heap.IsTuple l items) (hb : s.heap.IsTuple b items2) (hu : A.units < cLine)
    (he : ∀ j (h1 : j < items.size) (h2 : j < items2.size), EqIn prog w A.in1 s items[j] items2[j] (e j)) (h : Q (.bool (!((List.range (min items.size items2.size)).all e && items.size == items2.size))) s) :
    wpAny (model prog w) A (richCompare .NotEq (.ref l) (.ref b)) Q E s := by
  obtain ⟨⟨cls, dd, data, sl⟩, ho, hc, n, hd⟩ := id hl
  obtain ⟨⟨cls2, dd2, data2, sl2⟩, ho2, hc2, n2, hd2⟩ := id hb
  simp only at hc hd hc2 hd2
  subst hc hd hc2 hd2
  exact wpAny_richCompare_same_room (T := "tuple") (op := .NotEq) ⟨_, ho, rfl⟩ ⟨_, ho2, rfl⟩ F.slot_tuple_ne (call_meetsIn F.slot_tuple_ne ⟨_, ho, rfl⟩ F.entry_tuple_ne (F.args_tuple_ne_2 _ _) (sd_tuple_neIn l b items items2 n n2 dd dd2 sl sl2 e)
    ⟨ho, ho2, he, show Value.bool (!((List.range (min items.size items2.size)).all e && items.size == items2.size)) ≠ Value.notImplemented ∧ Q (.bool (!((List.range (min items.size items2.size)).all e && items.size == items2.size))) s from ⟨(fun x => nomatch x), h⟩⟩) hu
end PySem.SeqAt
namespace Sd
open PySem PySem.Spec PyProof.Rows L2
def EwT (K : PySem.W.Frag) (H : Hp) (E : V → V → Prop) (x y : V) : Prop := ∃ a b xs ys, x = .ref a ∧ y = .ref b ∧ SqT K H a xs ∧ SqT K H b ys ∧ Paired E xs ys
/-- equal, of nesting below n -/
def Ew (K : PySem.W.Frag) (H : Hp) : Nat → V → V → Prop
  | 0 => fun _ _ => False
  | n + 1 => fun x y => (x = y ∧ flatB x = true) ∨ EqR K H (Ew K H n) x y ∨ EwT K H (Ew K H n) x y
section
variable {X : Cx} {pins : List (Addr × Obj)} {σ : L2.St} {H : Hp} {s : Shared}
theorem all_true (n : Nat) : ((List.range n).all fun _ => true) = true := List.all_eq_true.mpr fun _ _ => rfl
theorem ewT_run (I : Inv X pins σ H s) {A : Around} {F : V → V → Prop} (hu : A.units < cLine) (ih : ∀ x y v u, F x y → RelV x v → RelV y u → SeqAt.EqP X.prog X.w A.in1 s v u true) {x y : V} {v u : Value} (h : EwT X.K H F x y) (rx : RelV x v) (ry : RelV y u)
    (E Q : Value → Shared → Prop) (q : Q (.bool true) s) : wpAny (model X.prog X.w) A (richCompare .Eq v u) Q E s := by
  obtain ⟨a, b, xs, ys, rfl, rfl, ha, hb, hp⟩ := h
  cases (show v = Value.ref a from rx)
  cases (show u = Value.ref b from ry)
  obtain ⟨us, r1, p1, _⟩ := I.tuple ha
  obtain ⟨ws, r2, p2, _⟩ := I.tuple hb
  have hsz : us.toArray.size = ws.toArray.size := by
    rw [List.size_toArray, List.size_toArray, ← r1.length, ← r2.length]
    exact Paired.length hp
  refine SeqAt.rcIn_tuples (e := fun _ => true) p1 p2 hu (fun j h1 h2 => ?_) ?_
  · have k := items_run ih hp r1 r2 j (by simpa using h1) (by simpa using h2)
    have k2 : SeqAt.EqIn X.prog X.w A.in1 s _ _ true := k
    simpa using k2
  · rw [all_true, hsz]
    simpa using q
theorem ewT_ne (I : Inv X pins σ H s) {A : Around} {F : V → V → Prop} (hu : A.units < cLine) (ih : ∀ x y v u, F x y → RelV x v → RelV y u → SeqAt.EqP X.prog X.w A.in1 s v u true) {x y : V} {v u : Value} (h : EwT X.K H F x y) (rx : RelV x v) (ry : RelV y u)
    (E Q : Value → Shared → Prop) (q : Q (.bool false) s) : wpAny (model X.prog X.w) A (richCompare .NotEq v u) Q E s := by
  obtain ⟨a, b, xs, ys, rfl, rfl, ha, hb, hp⟩ := h
  cases (show v = Value.ref a from rx)
  cases (show u = Value.ref b from ry)
  obtain ⟨us, r1, p1, _⟩ := I.tuple ha
  obtain ⟨ws, r2, p2, _⟩ := I.tuple hb
  have hsz : us.toArray.size = ws.toArray.size := by
    rw [List.size_toArray, List.size_toArray, ← r1.length, ← r2.length]
    exact Paired.length hp
  refine SeqAt.sd_rcNeIn_tuples (e := fun _ => true) p1 p2 hu (fun j h1 h2 => ?_) ?_
  · have k := items_run ih hp r1 r2 j (by simpa using h1) (by simpa using h2)
    have k2 : SeqAt.EqIn X.prog X.w A.in1 s _ _ true := k
    simpa using k2
  · rw [all_true, hsz]
    simpa using q
theorem ew_run (I : Inv X pins σ H s) : ∀ (n : Nat) (A : Around), A.units + n < cLine → ∀ (x y : V) (v u : Value), Ew X.K H n x y → RelV x v → RelV y u → SeqAt.EqP X.prog X.w A s v u true
  | 0, _, _, _, _, _, _, h, _, _ => (show False from h).elim
  | n + 1, A, hu, x, y, v, u, h, rx, ry => by
    rcases h with ⟨rfl, f⟩ | h | h
    · exact (eqAt_same rx ry f).eqP
    · have step := eqR_run I (A := A) (by omega) (ew_run I n A.in1 (by show A.units + 1 + n < cLine; omega)) h rx ry
      obtain ⟨a, b, rfl, rfl⟩ : ∃ a b, x = .ref a ∧ y = .ref b := by
        rcases h with ⟨a, b, _, _, e1, e2, _⟩ | ⟨a, b, _, _, e1, e2, _⟩
        · exact ⟨a, b, e1, e2⟩
        · exact ⟨a, b, e1, e2⟩
      cases (show v = Value.ref a from rx)
      cases (show u = Value.ref b from ry)
      by_cases e : a = b
      · subst e
        exact (SeqAt.EqAt.same _).eqP
      · exact SeqAt.eqP_refs e step
    · have step := ewT_run I (A := A) (by omega) (ew_run I n A.in1 (by show A.units + 1 + n < cLine; omega)) h rx ry
      obtain ⟨a, b, _, _, rfl, rfl, _⟩ := h
      cases (show v = Value.ref a from rx)
      cases (show u = Value.ref b from ry)
      by_cases e : a = b
      · subst e
        exact (SeqAt.EqAt.same _).eqP
      · exact SeqAt.eqP_refs e step
end
section
variable {X : Cx}
/-- a == b, a != b: two tuples that are equal -/
def rEqW (K : PySem.W.Frag) : R2 := fun x y H Q => ∃ n, n ≤ 60 ∧ EwT K H (Ew K H n) x y ∧ Q (.bl true) H
def rNeW (K : PySem.W.Frag) : R2 := fun x y H Q => ∃ n, n ≤ 60 ∧ EwT K H (Ew K H n) x y ∧ Q (.bl false) H
theorem op_eqW (hu : X.A.units + 64 < cLine) : OpR X (compareOp .Eq) (rEqW X.K) := by
  intro pins s σ H x y v u Q I rx ry h
  obtain ⟨n, hn, h, q⟩ := h
  exact ewT_run I (A := X.A) (by omega) (ew_run I n X.A.in1 (by show X.A.units + 1 + n < cLine; omega)) h rx ry _ _ ⟨.bl true, H, I, rfl, q⟩
theorem op_neW (hu : X.A.units + 64 < cLine) : OpR X (compareOp .NotEq) (rNeW X.K) := by
  intro pins s σ H x y v u Q I rx ry h
  obtain ⟨n, hn, h, q⟩ := h
  exact ewT_ne I (A := X.A) (by omega) (ew_run I n X.A.in1 (by show X.A.units + 1 + n < cLine; omega)) h rx ry _ _ ⟨.bl false, H, I, rfl, q⟩
end
section
variable {K : PySem.W.Frag} {H : Hp} {a b : Addr} {n : Nat}
theorem ew_flat {x : V} (h : flatB x = true) : Ew K H (n + 1) x x := .inl ⟨rfl, h⟩
theorem ew_tup {xs ys : List V} (h1 : H a = some (.tup xs)) (h2 : H b = some (.tup ys)) (h : Paired (Ew K H n) xs ys) : Ew K H (n + 1) (.ref a) (.ref b) := .inr (.inr ⟨_, _, _, _, rfl, rfl, .of h1, .of h2, h⟩)
theorem ew_lst {xs ys : List V} (h1 : H a = some (.lst xs)) (h2 : H b = some (.lst ys)) (h : Paired (Ew K H n) xs ys) : Ew K H (n + 1) (.ref a) (.ref b) := .inr (.inl (.inl ⟨_, _, _, _, rfl, rfl, .of h1, .of h2, h⟩))
theorem ew_dct {ks ls : List (Key × V)} (h1 : H a = some (.dK ks)) (h2 : H b = some (.dK ls)) (hl : ks.length = ls.length) (h : ∀ p ∈ ks, ∃ u, valV ls p.1 = some u ∧ Ew K H n p.2 u) : Ew K H (n + 1) (.ref a) (.ref b) := .inr (.inl (.inr ⟨_, _, _, _, rfl, rfl, h1, h2, hl, h⟩))
theorem ew_flats {xs : List V} (h : ∀ x ∈ xs, flatB x = true) : Paired (Ew K H (n + 1)) xs xs := by
  induction xs with
  | nil => exact .nil
  | cons x xs ih => exact .cons (ew_flat (h x List.mem_cons_self)) (ih fun y hy => h y (List.mem_cons_of_mem _ hy))
end
section
variable {X : Cx}
/-- sorted(t): a tuple of texts, fewer than 64 -/
def rSortedST (K : PySem.W.Frag) : List V → Hp → VK → Prop := fun vs H Q => ∃ (a : Addr) (xs : List Str), vs = [V.ref a] ∧ SqT K H a (xs.map V.str) ∧ xs.length < 64 ∧ ∀ (ys : List Str) (p : Addr), ys.Perm xs → sortedS ys = true → H p = none → Q (.ref p) (upd H p (.lst (ys.map V.str)))
theorem cr_sortedST : CallR X (.builtin "sorted") (rSortedST X.K) := by
  intro pins s σ H vs us Q I r h
  obtain ⟨a, xs, rfl, hs, h64, q⟩ := h
  obtain ⟨its, rv, hl, _⟩ := I.tuple hs
  rw [Vals.ref1 r]
  have hlen0 := rv.length
  rw [List.length_map] at hlen0
  obtain ⟨o, ho, hc, n, hd⟩ := hl
  refine Calls.call_function_entry PyProof.Rows.kind_sorted PyProof.Rows.plain_sorted PyProof.Rows.entry_sorted (PyProof.Rows.args_sorted1 _) ?_
  unfold Builtin.«sorted»
  refine wpAny_bind (m := checkCount "sorted" 1 1 _) (wpAny_pure ?_)
  have h16 : its.length ≤ sizeLine := by rw [← hlen0, sizeLine_eq]; omega
  refine wpAny_bind (wpAny_collect_seq (A := X.A.in1) a (.inr rfl) ho hc hd (fun h' hk => ?_) (by simpa using h16))
  have hS : StrsAre its xs := rv.strs
  have I1 : Inv X pins σ H { s with heap := h' } := I.kept (t' := s.toks) hk
  refine wpAny_bind (wpAny_newList ?_ (by simpa using h16))
  have hoL : (h'.push (seqObj "list" its.toArray 0)).get? h'.objs.size = some (seqObj "list" its.toArray 0) := Heap.get?_push_size _ rfl
  show wpAny _ _ _ _ _ { s with heap := h'.push (seqObj "list" its.toArray 0) }
  refine wpAny_bind (wpAny_holding (wpAny_call_entry PyProof.Rows.slot_list_sort ⟨_, hoL, rfl⟩ PyProof.Rows.entry_list_sort
    (list_sort_treeK strKind_oneLt (s := { s with heap := h'.push (seqObj "list" its.toArray 0) }) hoL hS.keysOf (fun v₁ v₂ rest e => keyKind_strs (by rw [← e]; exact hS)) (by rw [← hlen0]; exact h64) fun st' hp hs => ⟨_, rfl, ?_⟩)
    (PyProof.Rows.args_list_sort _)))
  obtain ⟨ys, g1, g2, g3⟩ := sorted_out_str hS hp hs
  obtain ⟨e', he'⟩ := PyProof.Rows.sortedHeap_at (vs := its) (out := (arrOf st').map (·.2)) hoL
  have hlen : (ys.map V.str).length ≤ sizeLine := by
    rw [List.length_map, g2.length_eq]
    exact Nat.le_trans (Nat.le_of_lt h64) (by decide)
  refine wpAny_pure ⟨_, rfl, .ref h'.objs.size, upd H h'.objs.size (.lst (ys.map V.str)), I1.laid (t' := s.toks) (fun b u e => ?_) (Nat.le_refl _)
    (show ObjOk X.prog X.w _ _ _ (.lst (ys.map V.str)) from ⟨hlen, ((arrOf st').map (·.2)).toList, e', vals_of_strs g1, by rw [Array.toArray_toList]; exact he'⟩), rfl, q ys _ g2 g3 (I1.hok.fresh (Nat.le_refl _))⟩
  have hb : b < h'.objs.size := Heap.lt_size e
  rw [PyProof.Rows.sortedHeap_old (Nat.ne_of_lt hb) (by rw [size_push']; exact Nat.lt_succ_of_lt hb)]
  exact Heap.get?_push_of_some _ e
end
section
variable {X : Cx} {s : Shared} {H : Hp} {scope : Scope} {env : Env} {fp : List Addr}
theorem call_list_ofB : CallR (X.blk s H scope env fp) (.type "list") (fun xs H Q => ∃ p ys, xs = [.ref p] ∧ (SqL X.K H p ys ∨ SqT X.K H p ys) ∧ ∀ l, H l = none → Q (.ref l) (upd H l (.lst ys))) := call_list_of
theorem call_tuple_ofB : CallR (X.blk s H scope env fp) (.type "tuple") (fun xs H Q => ∃ p ys, xs = [.ref p] ∧ ((SqL X.K H p ys ∧ ∀ l, H l = none → Q (.ref l) (upd H l (.tup ys))) ∨ (SqT X.K H p ys ∧ Q (.ref p) H))) := call_tuple_of
theorem cr_sortedSB : CallR (X.blk s H scope env fp) (.builtin "sorted") (rSortedS X.K) := cr_sortedS
theorem cr_sortedSTB : CallR (X.blk s H scope env fp) (.builtin "sorted") (rSortedST X.K) := cr_sortedST
end
section
variable {X : Cx}
theorem op_ne_dictB (hu : X.A.units + 64 < cLine) : OpR X (compareOp .NotEq) rNeDA := op_ne_dictA (by omega)
end
section
variable {K : PySem.W.Frag} {H : Hp} {Q : VK}
theorem k_neW {a b : Addr} {xs ys : List V} (n : Nat) (hn : n ≤ 60) (h1 : H a = some (.tup xs)) (h2 : H b = some (.tup ys)) (h : Paired (Ew K H n) xs ys) (q : Q (.bl false) H) : rNeW K (.ref a) (.ref b) H Q := ⟨n, hn, ⟨_, _, _, _, rfl, rfl, .of h1, .of h2, h⟩, q⟩
theorem k_eqW {a b : Addr} {xs ys : List V} (n : Nat) (hn : n ≤ 60) (h1 : H a = some (.tup xs)) (h2 : H b = some (.tup ys)) (h : Paired (Ew K H n) xs ys) (q : Q (.bl true) H) : rEqW K (.ref a) (.ref b) H Q := ⟨n, hn, ⟨_, _, _, _, rfl, rfl, .of h1, .of h2, h⟩, q⟩
end
end Sd


/-! promises that lean on the cells of an outer frame, at any depth; lambdas with parameters -/
namespace Sd
open PySem PySem.Spec PyProof.Rows L2 LamX NdefX
/-- cells of an outer frame, as a callee finds them -/
structure CellsO (cl : List (Str × Addr)) (fr : List Str) (ws : List (Option V)) (outer : List Env) (h : Heap) (H : Hp) : Prop where
  at_ : CellsAt cl fr ws h H
  nf : ∀ y c, cl.lookup y = some c → c ∉ frs outer
section
variable {X : Cx} {cl : List (Str × Addr)} {fr : List Str} {ws : List (Option V)} {js : List Nat} {pins : List (Addr × Obj)} {σ : L2.St} {H : Hp} {s : Shared}
theorem CellsO.st (C : CellsO cl fr ws X.outer X.s_0.heap X.H_0) (hx : X.ex = []) (I : Inv X pins σ H s) : CellsO cl fr ws X.stack s.heap H := by
  refine ⟨C.at_.later C.nf (fun y c e z => by rw [hx] at z; cases z) I, fun y c e hb => ?_⟩
  rcases List.mem_cons.mp (I.stkSub c hb) with z | z
  · obtain ⟨_, v, o, ho, _⟩ := C.at_.all y c e
    exact absurd (z ▸ Heap.lt_size ho) (Nat.not_lt_of_ge I.ok.above)
  · exact C.nf y c e z
/-- from the frame that makes them -/
theorem CellsO.made (hfn : ∀ x, X.fn x = true) (I : Inv X pins σ H s) (c : Caps X cl fr js) : CellsO cl fr (js.map (slotAt σ)) X.stack s.heap H :=
  ⟨cells_of I c, fun y a e => cell_nofrs I hfn y a (c.sub y a e)⟩
/-- from a frame that hands them through -/
theorem CellsO.thru {fr0 : List Str} {ws0 : List (Option V)} (C : CellsO X.env.cells fr0 ws0 X.outer X.s_0.heap X.H_0) (hx : X.ex = []) (I : Inv X pins σ H s) (c : Caps X cl fr js) : CellsO cl fr (js.map (slotAt σ)) X.stack s.heap H :=
  ⟨cells_of I c, fun y a e => (C.st hx I).nf y a (c.sub y a e)⟩
end
/-- what a promise asks of the outer frames, beside the heap that is told -/
abbrev GT := List Env → Heap → Hp → Prop
structure FnOkS (P : Program) (w : World) (K : PySem.W.Frag) (mg : Str → Option Value) (base : Heap) (k : Nat) (f : Addr) (fd : FuncData) (ps : List Str) (G : GT) (sp : Sp) : Prop where
  len : ∀ vs H Q E, sp vs H Q E → vs.length = ps.length
  run : ∀ (A : Around) (outer : List Env) (s : Shared) (H : Hp) (args : Args) (us : List Value) (vs : List V) (Q : VK) (E : XK), Room k A → Env0 P w K mg base A outer s H → BindsTo s fd args (ps.zip us) → Vals vs us → G outer s.heap H → sp vs H Q E →
    codeAny (model P w) A (.call (.ref f) args) (CR (L2.CX P w) outer P w H s Q E) s
section
variable {P : Program} {w : World} {K : PySem.W.Frag} {mg : Str → Option Value} {base : Heap}
theorem fun_okS {x qual : Str} {st : Stmt} {f : Addr} {fd : FuncData} {N ps : List Str} {k : Nat} {G : GT} {sp : Sp} (F : Fun K x qual st f fd) (S : FnScope N ps (defScope st)) (len : ∀ vs H Q E, sp vs H Q E → vs.length = ps.length)
    (hbody : ∀ (cdv : Value) (A : Around) (outer : List Env) (s : Shared) (H : Hp) (vs : List V) (Q : VK) (E : XK), Room k (A.deeper (envOfC qual (defScope st) s.heap.objs.size f cdv)) → G outer s.heap H → sp vs H Q E →
      ∃ t, PSs (cxOf (L2.CX P w) P w K mg base N qual (defScope st) f cdv A outer s H E) (defBody st) t ∧ t { nx := fun _ H' => Q .non H', rt := Q } (L2.start N vs) H) : FnOkS P w K mg base (k + 1) f fd ps G sp := by
  obtain ⟨oc, od, kV, doc, pm, an, cdv, ct, osl, rfl, lk, hcd⟩ := F.ex
  exact ⟨len, fun A outer s H args us vs Q E hr e0 hb r g h => run_ofS lk hcd S hr e0 hb r (len _ _ _ _ h) fun hr' => hbody _ A outer s H vs Q E hr' g h⟩
structure MetS (P : Program) (w : World) (K : PySem.W.Frag) (mg : Str → Option Value) (base : Heap) (k : Nat) (C : Addr) (m : Str) (G : GT) (sp : Sp) : Prop where
  ex : ∃ (f : Addr) (fd : FuncData) (ps : List Str), Cls K C ∧ Meth K C m f ∧ FnOkS P w K mg base k f fd ps G sp ∧ Binds K fd ps []
structure CalS (P : Program) (w : World) (K : PySem.W.Frag) (mg : Str → Option Value) (base : Heap) (k : Nat) (x : Str) (G : GT) (sp : Sp) : Prop where
  ex : ∃ (f : Addr) (fd : FuncData) (ps : List Str), FnOkS P w K mg base k f fd ps G sp ∧ mg x = some (.ref f) ∧ PySem.W.keepIn K (.ref f) = true ∧ Binds K fd ps []
end
section
variable {X : Cx} {k j : Nat} {C f : Addr} {fd : FuncData} {ps : List Str} {E : XK} {x m : Str} {p pos apos : Pos} {e o : Expr} {es : List Expr} {ta : TE} {t : TA} {ι : Type} {G : ι → GT} {sp : ι → Sp} {R : ι → L2.St → Prop}
theorem run_fnS {pins : List (Addr × Obj)} {σ : L2.St} {H : Hp} {s : Shared} {Q : VK} {us : List Value} {vs : List V} {g : GT} {sp : Sp} (F : FnOkS X.prog X.w X.K X.mg X.base k f fd ps g sp) (hr : Room k X.A) (hb : Binds X.K fd ps []) (tk : Takes X (fun cls d _ H => E cls d H))
    (I : Inv X pins σ H s) (hg : g X.stack s.heap H) (r : Vals vs us) (h : sp vs H Q E) : wpAny (model X.prog X.w) X.A (call (.ref f) us) (EP X pins σ Q) X.xe s := by
  have hl : (us ++ []).length = ps.length := by rw [List.append_nil, ← r.length]; exact F.len _ _ _ _ h
  have hb2 := hb s us I.kIn hl
  rw [List.append_nil] at hb2
  refine wpAny_call (codeAny_mono (F.run X.A X.stack s H ⟨us, []⟩ us vs Q E hr I.env0 hb2 r hg h) fun r s' hq => ?_)
  cases r with
  | error e => exact passes_call tk (fun _ _ _ _ h => h) pins σ H s e s' I hq
  | ok fl =>
    cases fl with
    | ret u => exact I.after hq
    | next => exact False.elim hq
    | brk => exact False.elim hq
    | cont => exact False.elim hq
/-- o.m(e, ..), the promise told by i -/
def tMethS (C : Addr) (m : Str) (sp : ι → Sp) (R : ι → L2.St → Prop) (E : XK) (ta : TE) (t : TA) : TE := fun σ H Q => ta σ H fun x H1 => ∃ a dx fs, x = .ref a ∧ H1 a = some (.ins C dx fs) ∧ fs.lookup m = none ∧
  t σ H1 fun vs H2 => ∃ i, R i σ ∧ sp i (x :: vs) H2 Q E
theorem pe_mtS {pl : Sem Bool} (c : ∀ i, MetS X.prog X.w X.K X.mg X.base k C m (G i) (sp i)) (hr : Room j X.A) (hk : k ≤ j) (hG : ∀ i pins σ H s, Inv X pins σ H s → R i σ → G i X.stack s.heap H) (tk : Takes X (fun cls d _ H => E cls d H)) (hc : Cls X.K C) {f : Addr} (hm : Meth X.K C m f) (he : PE X o ta) (ha : PA X (e :: es) t)
    (huq : ∀ g, Meth X.K C m g → g = f)
    (hst : starEach (e :: es) X.env = (false, eval e X.env) :: starEach es X.env := by rfl) (hpl : (backTo pos (starEach es X.env)).any (·.1) = false := by rfl)
    (ht : eval (.Call (.Attribute o m apos) (e :: es) [] pos) X.env = (do
      let ov ← eval o X.env
      standAt apos.atName
      let (f, first) ← holding [ov] (getMethod ov m pl)
      callWith pos f first (backTo pos (starEach (e :: es) X.env)) (backToKw pos (keywordEach [] X.env))) := by rfl) :
    PE X (.Call (.Attribute o m apos) (e :: es) [] pos) (tMethS C m sp R E ta t) := by
  refine ⟨fun pins s σ H Q I h => ?_⟩
  refine PySem.W.methodCall_KW (pl := pl) (thn (he.run pins s σ H _ I h) fun u s1 ⟨x, H1, I1, rx, a, dx, fs, ex, ea, l, q⟩ => ?_) ht
  subst ex
  obtain rfl : u = Value.ref a := rx
  refine getmeth_ok I1 ea hc hm l ?_
  refine PySem.W.callWith_K (first := [.ref a]) (h₀ := X.base) I.ok.mod.kin hm.kp (thn (ha.run pos pins s1 σ H1 _ I1 q) fun us s2 ⟨vs, H2, I2, r, i, hR, q2⟩ => ⟨I2.kIn, ?_⟩) hst hpl
  obtain ⟨g, fd, ps, _, hm2, F, b⟩ := (c i).ex
  obtain rfl := huq g hm2
  exact run_fnS (us := .ref a :: us) (vs := .ref a :: vs) F (hr.mono hk) b tk I2 (hG i _ _ _ _ I2 hR) (.cons rfl r) q2
/-- f(e, ..), the promise told by i -/
def tCallS (sp : ι → Sp) (R : ι → L2.St → Prop) (E : XK) (t : TA) : TE := fun σ H Q => t σ H fun vs H2 => ∃ i, R i σ ∧ sp i vs H2 Q E
theorem pe_cS (c : ∀ i, CalS X.prog X.w X.K X.mg X.base k x (G i) (sp i)) (hr : Room j X.A) (hk : k ≤ j) (hG : ∀ i pins σ H s, Inv X pins σ H s → R i σ → G i X.stack s.heap H) (hg : Gl X x) {f : Addr} (hm : X.mg x = some (.ref f)) (kp : PySem.W.keepIn X.K (.ref f) = true) (tk : Takes X (fun cls d _ H => E cls d H)) (ha : PA X (e :: es) t)
    (hdb : (x == ("__debug__" : Str)) = false := by decide) (he : starEach (e :: es) X.env = (false, eval e X.env) :: starEach es X.env := by rfl) (hpl : (backTo pos (starEach es X.env)).any (·.1) = false := by rfl) :
    PE X (.Call (.Name x p) (e :: es) [] pos) (tCallS sp R E t) := by
  refine ⟨fun pins s σ H Q I h => ?_⟩
  refine wpAny_Call_Name_kw (ld_glob I hg hm ?_ hdb)
  refine PySem.W.callWith_K (h₀ := X.base) I.ok.mod.kin kp (thn (ha.run pos pins s σ H _ I h) fun us s1 ⟨vs, H1, I1, r, i, hR, q⟩ => ⟨I1.kIn, ?_⟩) he hpl
  obtain ⟨g, fd, ps, F, hm2, _, b⟩ := (c i).ex
  obtain rfl : g = f := by rw [hm] at hm2; cases hm2; rfl
  exact run_fnS F (hr.mono hk) b tk I1 (hG i _ _ _ _ I1 hR) r q
end
/-- the code object's record at c bears the name q -/
def CdAt (P : Program) (w : World) (H : Hp) (c : Addr) (q : Str) : Prop := ∀ h, HOk P w H h → h.CodeRec (.ref c) q
theorem CdAt.of {P : Program} {w : World} {H : Hp} {c : Addr} {q : Str} (h : H c = some (CodeO c q)) : CdAt P w H c q := fun _ ok => codeO_at ok h
/-- a lambda with parameters, what it promises upon its cells -/
structure LOkS (P : Program) (w : World) (K : PySem.W.Frag) (mg : Str → Option Value) (base : Heap) (k : Nat) (f : Addr) (F : NF) (b : Expr) (fr : List Str) (tl : List V → List (Option V) → Hp → VK → XK → Prop) : Prop where
  run : ∀ (A : Around) (outer : List Env) (s : Shared) (H : Hp) (us : List Value) (vs : List V) (ws : List (Option V)) (Q : VK) (E : XK), Room k A → Env0 P w K mg base A outer s H → H f = some (LamO f F b) → CdAt P w H F.c F.qual → CellsO F.cl fr ws outer s.heap H → Vals vs us → tl vs ws H Q E →
    codeAny (model P w) A (.call (.ref f) ⟨us, []⟩) (CR (L2.CX P w) outer P w H s Q E) s
section
variable {P : Program} {w : World} {K : PySem.W.Frag} {mg : Str → Option Value} {base : Heap} {F : NF} {f : Addr} {b : Expr} {k : Nat} {N ps fr : List Str} {tl : List V → List (Option V) → Hp → VK → XK → Prop}
theorem lokS_of (S : NScope N ps fr F.scope) (hl : ∀ vs ws H Q E, tl vs ws H Q E → vs.length = ps.length) (hb : ∀ (pm cv ctv : Value) (us : List Value), us.length = ps.length → bindArgs (PySem.W.kla_fn F.name F.qual F.params b F.scope F.cl pm cv ctv) ⟨us, []⟩ = pure (ps.zip us))
    (hbody : ∀ (A : Around) (outer : List Env) (s : Shared) (H : Hp) (vs : List V) (ws : List (Option V)) (Q : VK) (E : XK), Room k (A.deeper (envF F f s.heap.objs.size)) → CellsO F.cl fr ws outer s.heap H → tl vs ws H Q E → ∃ t : TE, PE (ncx (L2.CX P w) P w K mg base N F f A outer s H E) b t ∧ t (startF N vs ws) H Q) :
    LOkS P w K mg base (k + 1) f F b fr tl := by
  refine ⟨fun A outer s H us vs ws Q E hr e0 hf hc C r h => ?_⟩
  have lim : s.heap.NoLimit := e0.mod.nolimit.keeps fun b o e => (e0.bs b o e).1
  obtain ⟨pm, ctv, ho⟩ := lamO_at e0.hok hf
  have hle := hl _ _ _ _ _ h
  refine PySem.W.kla_callFunE hr.depth ho rfl S.co S.gen rfl (hc _ e0.hok) ?_
  rw [hb _ _ _ us (by rw [← r.length]; exact hle)]
  refine wpAny_pure (wpAny_newFunctionEnv S.nocell (fun ⟨n, _⟩ hy => S.par n (List.of_mem_zip hy).1) (fun h₁ hns hsb => ⟨lim.fresh _ hsb, ?_⟩) S.kind)
  show codeAny _ _ (.expr b (envF F f s.heap.objs.size)) _ _
  have kp : ∀ b o, s.heap.get? b = some o → h₁.get? b = some o := fun b o e => hsb.extBut b o (Nat.ne_of_lt (Heap.lt_size e)) (Heap.get?_push_of_some _ e)
  obtain ⟨t, ht, hq⟩ := hbody A outer s H vs ws Q E (hr.deeper _) C h
  have I : Inv (ncx (L2.CX P w) P w K mg base N F f A outer s H E) [] (startF N vs ws) H { s with heap := h₁, toks := s.toks + (ps.zip us).length } :=
    inv_startN (N := N) (ps := ps) (fr := fr) (vs := vs) (us := us) (ws := ws) S hr.hd e0 hle r C.at_ hns kp
  refine PySem.W.kla_codeExpr (wpAny_mono (ht.run [] _ _ H Q I hq) (fun v s' hq => ?_) fun e s' hq => hq)
  obtain ⟨w', H', J', rv, q⟩ := hq
  exact ⟨w', H', J'.os, J'.bare, J'.base, J'.hok, rv, q⟩
end
/-- x(e, ..), x a name that holds a lambda; the cells stand in outer frames -/
def tLamS (i : Nat) (f : Addr) (F : NF) (b : Expr) (P : Program) (w : World) (ws : List (Option V)) (tl : List V → List (Option V) → Hp → VK → XK → Prop) (E : XK) (t : TA) : TE := fun σ H Q => σ[i]? = some (some (.ref f)) ∧ H f = some (LamO f F b) ∧ t σ H fun vs H1 => H1 f = some (LamO f F b) ∧ CdAt P w H1 F.c F.qual ∧ tl vs ws H1 Q E
theorem pe_lamS {X : Cx} {i k : Nat} {x : Str} {p pos : Pos} {f : Addr} {F : NF} {b : Expr} {fr : List Str} {ws : List (Option V)} {tl : List V → List (Option V) → Hp → VK → XK → Prop} {e : Expr} {es : List Expr} {t : TA} {E : XK} (tk : Takes X (fun cls d _ H => E cls d H)) (hr : Room k X.A) (hN : X.N[i]? = some x) (hv : Vis X.env.scope x)
    (C : CellsO F.cl fr ws X.outer X.s_0.heap X.H_0) (hx : X.ex = []) (L : LOkS X.prog X.w X.K X.mg X.base k f F b fr tl) (ha : PA X (e :: es) t)
    (hst : starEach (e :: es) X.env = (false, eval e X.env) :: starEach es X.env := by rfl) (hpl : (backTo pos (starEach es X.env)).any (·.1) = false := by rfl)
    (hd : (x == ("__debug__" : Str)) = false := by decide) (hcd : (x == ("__classdict__" : Str)) = false := by decide) :
    PE X (.Call (.Name x p) (e :: es) [] pos) (tLamS i f F b X.prog X.w ws tl E t) := by
  refine ⟨fun pins s σ H Q I h => ?_⟩
  obtain ⟨hs, hf0, h⟩ := h
  refine wpAny_Call_Name_kw (thn ((pe_var (pos := p) hN hv hd hcd).run pins s σ H (fun v H1 => v = .ref f ∧ H1 = H) I ⟨.ref f, hs, rfl, rfl⟩) fun u s1 ⟨v, H1, I1, r1, q1⟩ => ?_)
  obtain ⟨ev, eH⟩ := q1
  subst ev
  rw [eH] at I1
  obtain rfl : u = Value.ref f := r1
  obtain ⟨pm0, ctv0, ho0⟩ := lamO_at I1.hok hf0
  refine PySem.W.callWith_F (first := []) ⟨_, _, _, _, ho0⟩ (thn (ha.run pos pins s1 σ H _ I1 h) fun us s2 ⟨vs, H2, I2, r, hf, hc, ht⟩ => ?_) hst hpl
  obtain ⟨pm, ctv, ho⟩ := lamO_at I2.hok hf
  refine ⟨⟨_, _, _, _, ho⟩, ?_⟩
  refine wpAny_call (codeAny_mono (L.run X.A X.stack s2 H2 us vs ws Q E hr I2.env0 hf hc (C.st hx I2) r ht) fun r s' hq => ?_)
  cases r with
  | error e => exact passes_call tk (fun _ _ _ _ h => h) pins σ H2 s2 e s' I2 hq
  | ok fl =>
    cases fl with
    | ret u => exact I2.after hq
    | next => exact False.elim hq
    | brk => exact False.elim hq
    | cont => exact False.elim hq
/-- x(), the same -/
theorem pe_lamS0 {X : Cx} {W : WX} {i k : Nat} {x : Str} {p pos : Pos} {f : Addr} {F : NF} {b : Expr} {fr : List Str} {ws : List (Option V)} {tl : List V → List (Option V) → Hp → VK → XK → Prop} (tk : Takes X W) (hr : Room k X.A) (hN : X.N[i]? = some x) (hv : Vis X.env.scope x)
    (C : CellsO F.cl fr ws X.outer X.s_0.heap X.H_0) (hx : X.ex = []) (L : LOkS X.prog X.w X.K X.mg X.base k f F b fr tl)
    (hd : (x == ("__debug__" : Str)) = false := by decide) (hcd : (x == ("__classdict__" : Str)) = false := by decide) :
    PE X (.Call (.Name x p) [] [] pos) (fun σ H Q => σ[i]? = some (some (.ref f)) ∧ H f = some (LamO f F b) ∧ CdAt X.prog X.w H F.c F.qual ∧ ∃ E : XK, (∀ cls d σ' H', E cls d H' → W cls d σ' H') ∧ tl [] ws H Q E) := by
  refine ⟨fun pins s σ H Q I h => ?_⟩
  obtain ⟨hs, hf, hc, E, hW, ht⟩ := h
  refine wpAny_Call_Name_kw (thn ((pe_var (pos := p) hN hv hd hcd).run pins s σ H (fun v H1 => v = .ref f ∧ H1 = H) I ⟨.ref f, hs, rfl, rfl⟩) fun u s1 ⟨v, H1, I1, r1, q1⟩ => ?_)
  obtain ⟨ev, eH⟩ := q1
  subst ev
  rw [eH] at I1
  obtain rfl : u = Value.ref f := r1
  obtain ⟨pm, ctv, ho⟩ := lamO_at I1.hok hf
  refine PySem.W.callWith_F0 (first := []) ⟨_, _, _, _, ho⟩ ?_
  show wpAny _ _ (call (.ref f) []) _ _ _
  refine wpAny_call (codeAny_mono (L.run X.A X.stack s1 H [] [] ws Q E hr I1.env0 hf hc (C.st hx I1) .nil ht) fun r s' hq => ?_)
  cases r with
  | error e => exact passes_call tk hW pins σ H s1 e s' I1 hq
  | ok fl =>
    cases fl with
    | ret u => exact I1.after hq
    | next => exact False.elim hq
    | brk => exact False.elim hq
    | cont => exact False.elim hq
/-! ### told(what): return what(), and words for classes of exceptions -/
/-- what an exception of a lambda becomes: the words of the classes, in order -/
def wTold (K : PySem.W.Frag) (Q : VK) : List (Addr × Str) → Value → Hp → Prop
  | [], _, _ => False
  | (C, ret) :: r, cls, H => ∃ b, PySem.W.exmOne K cls (.ref C) = some b ∧ (b = true → Q (.str ret) H) ∧ (b = false → wTold K Q r cls H)
def spToldS (P : Program) (w : World) (K : PySem.W.Frag) (mg : Str → Option Value) (base : Heap) (k : Nat) (l : List (Addr × Str)) (F : NF) (fr : List Str) (ws : List (Option V)) : Sp := fun vs H Q _ => ∃ (f : Addr) (b : Expr) (tl : List V → List (Option V) → Hp → VK → XK → Prop),
  vs = [.ref f] ∧ H f = some (LamO f F b) ∧ CdAt P w H F.c F.qual ∧ LOkS P w K mg base k f F b fr tl ∧ tl [] ws H Q fun cls _ H' => wTold K Q l cls H'
def gTold (F : NF) (fr : List Str) (ws : List (Option V)) : GT := fun o h H => CellsO F.cl fr ws o h H
section
variable {P : Program} {w : World} {K : PySem.W.Frag} {mg : Str → Option Value} {base : Heap}
theorem ok_told2 {x a e1 e2 r1 r2 : Str} {st : Stmt} {f : Addr} {fd : FuncData} {N : List Str} {C1 C2 : Addr} {k : Nat} {p1 p2 p3 p4 p5 p6 p7 p8 p9 p10 p11 p12 : Pos} {j1 j2 : Nat} {F : NF} {fr : List Str} {ws : List (Option V)} (Fn : Fun K x x st f fd) (S : FnScope N [a] (defScope st))
    (hbd : defBody st = [.Try [.Return (some (.Call (.Name a p1) [] [] p2)) p3] [.ExceptHandler (some (.Name e1 p4)) none [.Return (some (.Constant (.str r1) j1 p5)) p6] p7, .ExceptHandler (some (.Name e2 p8)) none [.Return (some (.Constant (.str r2) j2 p9)) p10] p11] [] [] p12])
    (hg1 : (defScope st).names.lookup e1 = some .globalImplicit) (hm1 : mg e1 = some (.ref C1)) (hg2 : (defScope st).names.lookup e2 = some .globalImplicit) (hm2 : mg e2 = some (.ref C2)) (hN : N[0]? = some a) (hv : Vis (defScope st) a) (h0 : ∀ f : Addr, (L2.start N [V.ref f])[0]? = some (some (V.ref f)))
    (hd1 : (e1 == ("__debug__" : Str)) = false := by decide) (hd2 : (e2 == ("__debug__" : Str)) = false := by decide) (hd : (a == ("__debug__" : Str)) = false := by decide) (hcd : (a == ("__classdict__" : Str)) = false := by decide) :
    FnOkS P w K mg base (k + 1) f fd [a] (gTold F fr ws) (spToldS P w K mg base k [(C1, r1), (C2, r2)] F fr ws) := by
  refine fun_okS Fn S (fun vs H Q E h => ?_) fun cdv A outer s H vs Q E hr g h => ?_
  · obtain ⟨f, b, tl, rfl, _⟩ := h
    rfl
  · obtain ⟨f, b, tl, rfl, hf, hc, L, ht⟩ := h
    have g : CellsO F.cl fr ws outer s.heap H := g
    rw [hbd]
    have hgl1 : Gl (cxOf (L2.CX P w) P w K mg base N x (defScope st) (by assumption) cdv A outer s H E) e1 := hg1
    have hgl2 : Gl (cxOf (L2.CX P w) P w K mg base N x (defScope st) (by assumption) cdv A outer s H E) e2 := hg2
    refine ⟨_, pss_one (ps_try_many (l := [(.ref C1, _), (.ref C2, _)]) (tb := fun W D σ H => σ[0]? = some (some (.ref f)) ∧ H f = some (LamO f F b) ∧ CdAt P w H F.c F.qual ∧ ∃ E : XK, (∀ cls d σ' H', E cls d H' → W cls d σ' H') ∧ tl [] ws H D.rt E) rfl rfl L2.takes0
      (fun W pn xe tk _ => pss_one (ps_ret (pe_lamS0 tk hr hN hv g rfl L hd hcd))) (.cons ⟨hgl1, hd1, .inl hm1⟩ (fun a oe cls d pn _ _ => pss_one (ps_ret pe_str)) (.cons ⟨hgl2, hd2, .inl hm2⟩ (fun a oe cls d pn _ _ => pss_one (ps_ret pe_str)) .nil))), ?_⟩
    refine ⟨h0 f, hf, hc, _, fun cls d σ' H' q => ?_, ht⟩
    obtain ⟨b, q1, q2, q3⟩ := q
    refine ⟨b, q1, fun hb a _ => q2 hb, fun hb => ?_⟩
    obtain ⟨b, q1, q2, q3⟩ := q3 hb
    exact ⟨b, q1, fun hb a _ => q2 hb, fun hb => q3 hb⟩
end
end Sd


/-! the value of a lambda, told by ledgers: other tables beside the own one are kept -/
namespace Sd
open PySem PySem.Spec PyProof.Rows L2 LamX NdefX
/-- the own table's codes, in the ledger -/
def TabL (q : Str) (ps : Array Value) (L : Lg) : Prop := TriplesOk ps.toList ∧ ∀ (pos : Pos) (cv : Value), codeAmong pos ps.toList = some cv → ∃ c, cv = .ref c ∧ (c, CodeO c q) ∈ L
theorem TabL.nil {q : Str} {L : Lg} : TabL q #[] L := ⟨by simp [TriplesOk], fun pos cv h => by simp [codeAmong] at h⟩
theorem TabL.mono {q : Str} {ps : Array Value} {L L' : Lg} (h : TabL q ps L) (s : ∀ x ∈ L, x ∈ L') : TabL q ps L' := ⟨h.1, fun pos cv e => let ⟨c, e1, e2⟩ := h.2 pos cv e; ⟨c, e1, s _ e2⟩⟩
section
variable {X : Cx} {pins : List (Addr × Obj)} {σ : L2.St} {H : Hp} {s : Shared}
theorem lam_valueL {q : Str} {c P : Addr} {params : Arguments} {body : Expr} {scope : Scope} {pos : Pos} {E : Value → Shared → Prop} {Q : Value → Shared → Prop} {ps : Array Value} {L R : Lg} (I : Inv X pins σ H s) (TB : TabB X.base X.mg c P) (hcode : X.env.code = .ref c) (hq : X.env.qual ++ "<lambda>" = q)
    (hL : Led H ((P, .tbl ps) :: (L ++ R))) (hT : TabL q ps L) (hdef : defaultsOf params X.env = ([], [])) (hfree : ∀ y ∈ scope.names, y.2 = .free → ∃ c, X.env.cells.lookup y.1 = some c)
    (h : ∀ (f c' : Addr) (ps' : Array Value) (Z : Lg) (H1 : Hp) (s' : Shared), Inv X pins σ H1 s' → Led H1 ((f, LamO f ⟨"<lambda>", q, params, [], scope, cloFrom X.env.cells scope.names [], c'⟩ body) :: (P, .tbl ps') :: (Z ++ (L ++ R))) → TabL q ps' (Z ++ L) → (c', CodeO c' q) ∈ Z ++ L → Q (.ref f) s') :
    wpAny (model X.prog X.w) X.A (eval (.Lambda params body scope pos) X.env) Q E s := by
  subst hq
  obtain ⟨ht, ha⟩ := hT
  have hP : H P = some (.tbl ps) := hL.at ⟨0, rfl⟩
  have bP : s.heap.BuiltinsAt X.mg P := TB.bm.keeps I.bk
  have hP' : s.heap.get? P = some { cls := .none, data := .fields ps } := I.hok P _ hP
  refine PySem.W.kla_eval hdef ?_
  rcases hc : codeAmong pos ps.toList with _ | cv
  · refine PySem.W.kla_makeFunction (mg := X.mg) (c := c) (P := P) (ps := ps) (closure_ok hfree) I.ok.glob (I.mod.glob.keeps I.bk) hcode (TB.code.keeps I.bk) hP' ht hc TB.gP bP fun c' ctv h' tk hx hge hlt hrec htb => ?_
    obtain ⟨_, oc, vs, t, e2, hoc, hd, hv⟩ := hrec
    cases e2
    have nC : H c' = none := I.hok.fresh hge
    have I1 := inv_table (t' := tk) (more := #[rawInt pos.line, rawInt pos.col, .ref c']) (h' := h') I hP (fun b o hb e => hx b o hb e) htb hge ⟨oc, vs, t, hoc, hd, hv⟩
    have L1 : Led (upd (upd H P (.tbl (ps ++ #[rawInt pos.line, rawInt pos.col, .ref c']))) c' (CodeO c' (X.env.qual ++ "<lambda>"))) ((c', CodeO c' (X.env.qual ++ "<lambda>")) :: (P, .tbl (ps ++ #[rawInt pos.line, rawInt pos.col, .ref c'])) :: (L ++ R)) :=
      (hL.head).new (by rw [upd_ne (ne_of_none hP nC).symm]; exact nC)
    have nF := I1.hok.fresh (Nat.le_refl _)
    have I2 := inv_lam (F := ⟨"<lambda>", X.env.qual ++ "<lambda>", params, [], scope, cloFrom X.env.cells scope.names [], c'⟩) (b := body) (t' := tk) (pm := (X.mg "__name__").getD .none) (ctv := ctv) I1
    have eL : (ps ++ #[rawInt pos.line, rawInt pos.col, .ref c']).toList = ps.toList ++ [rawInt pos.line, rawInt pos.col, .ref c'] := by simp
    refine h h'.objs.size c' _ [(c', CodeO c' (X.env.qual ++ "<lambda>"))] _ _ I2 ((L1.new nF).perm (.cons _ (.swap _ _ _))) ⟨by rw [eL]; exact PySem.TriplesOk_snoc _ _ _ _ ht, fun p' cv hcv => ?_⟩ (.head _)
    rw [eL] at hcv
    rcases among_app _ ht hcv with z | z
    · obtain ⟨c0, e1, e2⟩ := ha p' cv z
      exact ⟨c0, e1, .tail _ e2⟩
    · exact ⟨c', z, .head _⟩
  · obtain ⟨c', e, hco⟩ := ha pos cv hc
    subst e
    refine PySem.W.kla_makeFunctionHit (mg := X.mg) (c := c) (P := P) (ps := ps) (closure_ok hfree) I.ok.glob (I.mod.glob.keeps I.bk) hcode (TB.code.keeps I.bk) hP' ht hc bP fun ctv h' tk hx hsz => ?_
    have I1 : Inv X pins σ H { s with heap := h', toks := tk } := I.kept hx
    have nF : H h'.objs.size = none := I1.hok.fresh (Nat.le_refl _)
    have I2 := inv_lam (F := ⟨"<lambda>", X.env.qual ++ "<lambda>", params, [], scope, cloFrom X.env.cells scope.names [], c'⟩) (b := body) (t' := tk) (pm := (X.mg "__name__").getD .none) (ctv := ctv) I1
    exact h h'.objs.size c' ps [] _ _ I2 (hL.new nF) ⟨ht, ha⟩ hco
end
/-- lambda: body, captured names; the own table and its codes in the ledger -/
def tLamVL (P : Addr) (q : Str) (params : Arguments) (body : Expr) (scope : Scope) (cl : List (Str × Addr)) : TE := fun _ H Q => ∃ (ps : Array Value) (L R : Lg), Led H ((P, .tbl ps) :: (L ++ R)) ∧ TabL q ps L ∧
  ∀ (f c' : Addr) (ps' : Array Value) (Z : Lg) (H1 : Hp), Led H1 ((f, LamO f ⟨"<lambda>", q, params, [], scope, cl, c'⟩ body) :: (P, .tbl ps') :: (Z ++ (L ++ R))) → TabL q ps' (Z ++ L) → (c', CodeO c' q) ∈ Z ++ L → Q (.ref f) H1
theorem pe_lamvL {X : Cx} {q : Str} {c P : Addr} {params : Arguments} {body : Expr} {scope : Scope} {pos : Pos} (TB : TabB X.base X.mg c P) (hcode : X.env.code = .ref c) (hq : X.env.qual ++ "<lambda>" = q) (hdef : defaultsOf params X.env = ([], []))
    (hfree : ∀ y ∈ scope.names, y.2 = .free → X.env.scope.names.lookup y.1 = some .cell) : PE X (.Lambda params body scope pos) (tLamVL P q params body scope (cloFrom X.env.cells scope.names [])) := by
  refine ⟨fun pins s σ H Q I h => ?_⟩
  obtain ⟨ps, L, R, hL, hT, h⟩ := h
  refine lam_valueL I TB hcode hq hL hT hdef (fun y hy e => I.ok.has _ (.inl (hfree y hy e))) fun f c' ps' Z H1 s' I1 h1 h2 h3 => ?_
  exact ⟨.ref f, H1, I1, rfl, h f c' ps' Z H1 h1 h2 h3⟩
section
variable {X : Cx} {s : Shared} {H : Hp} {scope : Scope} {env : Env} {fp : List Addr}
theorem sl_listB : SlR (X.blk s H scope env fp) (rSlL X.K) := sl_list
theorem call_len_seqB : CallR (X.blk s H scope env fp) (.builtin "len") (fun xs H Q => ∃ p ys, xs = [.ref p] ∧ (SqL X.K H p ys ∨ SqT X.K H p ys) ∧ Q (.int ys.length) H) := call_len_seq
end
end Sd


/-! a lambda made within a lambda's frame: code objects with tables of their own -/
namespace Sd
open PySem PySem.Spec PyProof.Rows L2 LamX NdefX
/-- a code object, its name, its table's place -/
def CodeT (c : Addr) (q : Str) (P : Addr) : HO := .ext fun h => PySem.W.CodeHd h c P ∧ ∃ (oc : Obj) (vs : Array Value) (t : Tok), h.get? c = some oc ∧ oc.data = .fields vs ∧ vs[1]? = some (.str q t)
theorem codeT_hd {P : Program} {w : World} {H : Hp} {h : Heap} {c Pc : Addr} {q : Str} (ok : HOk P w H h) (e : H c = some (CodeT c q Pc)) : PySem.W.CodeHd h c Pc := (ok c _ e).1.1
theorem CdAt.ofT {P : Program} {w : World} {H : Hp} {c Pc : Addr} {q : Str} (e : H c = some (CodeT c q Pc)) : CdAt P w H c q := fun _ ok => by
  obtain ⟨oc, vs, t, h1, h2, h3⟩ := (ok c _ e).1.2
  exact ⟨c, oc, vs, t, rfl, h1, h2, h3⟩
/-- the law's own table: each code with its own table, whose codes bear the name q2 -/
def TabT (q q2 : Str) (ps : Array Value) (L : Lg) : Prop := TriplesOk ps.toList ∧ ∀ (pos : Pos) (cv : Value), codeAmong pos ps.toList = some cv → ∃ (c P1 : Addr) (ps1 : Array Value), cv = .ref c ∧ (c, CodeT c q P1) ∈ L ∧ (P1, .tbl ps1) ∈ L ∧ TabL q2 ps1 L
theorem TabT.nil {q q2 : Str} {L : Lg} : TabT q q2 #[] L := ⟨by simp [TriplesOk], fun pos cv h => by simp [codeAmong] at h⟩
theorem TabT.mono {q q2 : Str} {ps : Array Value} {L L' : Lg} (h : TabT q q2 ps L) (s : ∀ x ∈ L, x ∈ L') : TabT q q2 ps L' :=
  ⟨h.1, fun pos cv e => let ⟨c, P1, ps1, e1, e2, e3, e4⟩ := h.2 pos cv e; ⟨c, P1, ps1, e1, s _ e2, s _ e3, e4.mono s⟩⟩
section
variable {M : Model} {A : Around} {E : Value → Shared → Prop} {s : Shared} {name qual : Str} {params : Arguments} {body : Expr} {scope : Scope} {env : Env} {c P : Addr} {ps : Array Value} {pos : Pos} {firstLine : Nat} {mg : Str → Option Value}
  {clos : List (Str × Addr)} {Q : Value → Shared → Prop}
/-- a new lambda whose code is new: the code's own header and table are told, too -/
theorem ln_make (hcl : closureFor scope env = pure clos) (hge0 : env.globals = mainGlobals) (hg : s.heap.Ns mainGlobals mg) (hcode : env.code = .ref c) (C : PySem.W.CodeHd s.heap c P) (hP : s.heap.get? P = some (PySem.W.tabObj ps)) (ht : TriplesOk ps.toList)
    (hnf : codeAmong pos ps.toList = none) (hgP : mainGlobals ≠ P) (hb : s.heap.BuiltinsAt mg P)
    (h : ∀ c' P' ctv h' tk, Heap.ExtBut P s.heap h' → s.heap.objs.size ≤ c' → c' < h'.objs.size → s.heap.objs.size ≤ P' → h'.CodeRec (.ref c') qual → h'.get? P = some (PySem.W.tabObj (ps ++ #[rawInt pos.line, rawInt pos.col, .ref c'])) → PySem.W.CodeHd h' c' P' → h'.get? P' = some (PySem.W.tabObj #[]) →
      Q (.ref h'.objs.size) { s with heap := h'.push (PySem.W.kla_obj name qual params body scope clos ((mg "__name__").getD .none) c' ctv), toks := tk }) :
    wpAny M A (makeFunction name qual params (.expr body) scope env [] [] [] pos firstLine) Q E s := by
  rw [makeFunction_eq]
  simp only [List.zip_nil_right, List.filterMap_nil, List.isEmpty_nil, if_true, pure_bind]
  show wpAny M A (makeTail name qual params (.expr body) scope env .none .none none pos firstLine) Q E s
  obtain ⟨bm, ob, hbm, hne0, _, hneP, hbo, hcls, hdict, hdata⟩ := hb
  have key : ∀ (hT : Heap) (ctv : Value), (∀ b o, s.heap.get? b = some o → hT.get? b = some o) → s.heap.objs.size ≤ hT.objs.size →
      wpAny M A (functionCode env pos firstLine name qual params scope (.expr body)) (fun cd s1 => wpAny M A (builtinsFor mainGlobals env.builtins) (fun bi s2 => wpAny M A (nsGet mainGlobals "__name__") (fun o s3 => bi = builtinsNs ∧
        ∃ c' h' tk, cd = .ref c' ∧ o = mg "__name__" ∧ s3 = { s with heap := h', toks := tk } ∧ Q (.ref h'.objs.size) { s with heap := h'.push (PySem.W.kla_obj name qual params body scope clos ((mg "__name__").getD .none) c' ctv), toks := tk }) E s2) E s1) E { s with heap := hT } := by
    intro hT ctv k1 k2
    refine wpAny_functionCodeX hcode ((C.keeps k1).code (k1 _ _ hP) ht) ((C.keeps k1).tab (k1 _ _ hP)) hnf fun c' h' tk hx hge hlt _ hrec htb ⟨P', hP', hic, hta⟩ => ?_
    have hx' : Heap.ExtBut P s.heap h' := fun b o hb' e => hx b o hb' (k1 b o e)
    have hg' := hg.extBut hx' hgP
    refine wpAny_builtinsFor hg' hbm hne0 (hx' _ _ hneP hbo) hcls hdict hdata (wpAny_nsGet hg' ⟨rfl, c', h', tk, rfl, rfl, rfl, ?_⟩)
    exact h c' P' ctv h' tk hx' (Nat.le_trans k2 hge) hlt (Nat.le_trans k2 hP') hrec htb.2 (PySem.W.CodeHd.of hic hta) hta.2
  unfold makeTail
  rw [hcl, hge0]
  refine wpAny_bind (wpAny_pure ?_)
  cases clos with
  | nil =>
    simp only [List.isEmpty_nil, if_true]
    refine wpAny_bind (wpAny_pure ?_)
    refine wpAny_bind (wpAny_mono (key s.heap .none (fun _ _ e => e) (Nat.le_refl _)) (fun cd s1 h1 => ?_) fun _ _ e => e)
    refine wpAny_bind (wpAny_mono h1 (fun bi s2 h2 => ?_) fun _ _ e => e)
    refine wpAny_bind (wpAny_mono h2 (fun o s3 h3 => ?_) fun _ _ e => e)
    obtain ⟨rfl, c', h', tk, rfl, rfl, rfl, hq⟩ := h3
    exact wpAny_bind (wpAny_pure (wpAny_newObj_type hq (by size_fits)))
  | cons q r =>
    simp only [List.isEmpty_cons, Bool.false_eq_true, if_false]
    refine wpAny_bind (wpAny_newTextTuple ?_)
    refine wpAny_bind (wpAny_mono (key _ (.ref s.heap.objs.size) (fun b o e => Heap.get?_push_of_some _ e) (by rw [Heap.size_push]; omega)) (fun cd s1 h1 => ?_) fun _ _ e => e)
    refine wpAny_bind (wpAny_mono h1 (fun bi s2 h2 => ?_) fun _ _ e => e)
    refine wpAny_bind (wpAny_mono h2 (fun o s3 h3 => ?_) fun _ _ e => e)
    obtain ⟨rfl, c', h', tk, rfl, rfl, rfl, hq⟩ := h3
    exact wpAny_bind (wpAny_pure (wpAny_newObj_type hq (by size_fits)))
end
section
variable {X : Cx} {pins : List (Addr × Obj)} {σ : L2.St} {H : Hp} {s : Shared}
/-- the table grows; the new code and its table are told -/
theorem inv_codeT {P c P' : Addr} {q : Str} {ps more : Array Value} {h' : Heap} {t' : Nat} (I : Inv X pins σ H s) (hP : H P = some (.tbl ps)) (k : ∀ b o, b ≠ P → s.heap.get? b = some o → h'.get? b = some o)
    (hm : h'.get? P = some { cls := .none, data := .fields (ps ++ more) }) (hc : s.heap.objs.size ≤ c) (hp : s.heap.objs.size ≤ P') (hne : c ≠ P') (hd : PySem.W.CodeHd h' c P') (hr : h'.CodeRec (.ref c) q) (ht : h'.get? P' = some (PySem.W.tabObj #[])) :
    Inv X pins σ (upd (upd (upd H P (.tbl (ps ++ more))) c (CodeT c q P')) P' (.tbl #[])) { s with heap := h', toks := t' } := by
  have I1 : Inv X pins σ (upd H P (.tbl (ps ++ more))) { s with heap := h', gens := s.gens, drawn := s.drawn, toks := t' } := GxR.inv_tab I hP k hm I.bare
  have nC : H c = none := I.hok.fresh hc
  have nP' : H P' = none := I.hok.fresh hp
  have nPc : c ≠ P := (ne_of_none hP nC).symm
  have nPP : P' ≠ P := (ne_of_none hP nP').symm
  have I2 := I1.take (h' := h') (t' := t') (it := c) (o := CodeT c q P') (fun b ob _ e => e) (I.fpOk hc (by rw [upd_ne nPc]; exact nC)) (by
    obtain ⟨c₂, oc, vs, t, e, h1, h2, h3⟩ := hr
    cases e
    refine ⟨⟨hd, oc, vs, t, h1, h2, h3⟩, ⟨oc, h1⟩, fun h1 h2 ⟨z1, oc, vs, t, a, b, d⟩ st => ⟨?_, oc, vs, t, st _ a, b, d⟩⟩
    obtain ⟨o, vs, file, tf, flags, tg, inF, text, tt, e, r⟩ := z1
    exact ⟨o, vs, file, tf, flags, tg, inF, text, tt, st _ e, r⟩)
  exact I2.take (h' := h') (t' := t') (it := P') (o := .tbl #[]) (fun b ob _ e => e) (I.fpOk hp (by rw [upd_ne hne.symm, upd_ne nPP]; exact nP')) ht
theorem codeHd_ne {h : Heap} {c P : Addr} (x : PySem.W.CodeHd h c P) : c ≠ P := let ⟨_, _, _, _, _, _, _, _, _, _, _, _, _, _, _, _, _, _, e⟩ := x; e
theorem lam_valueT {q q2 : Str} {c P : Addr} {params : Arguments} {body : Expr} {scope : Scope} {pos : Pos} {E : Value → Shared → Prop} {Q : Value → Shared → Prop} {ps : Array Value} {L R : Lg} (I : Inv X pins σ H s) (TB : TabB X.base X.mg c P) (hcode : X.env.code = .ref c) (hq : X.env.qual ++ "<lambda>" = q)
    (hL : Led H ((P, .tbl ps) :: (L ++ R))) (hT : TabT q q2 ps L) (hdef : defaultsOf params X.env = ([], [])) (hfree : ∀ y ∈ scope.names, y.2 = .free → ∃ c, X.env.cells.lookup y.1 = some c)
    (h : ∀ (f c' P1 : Addr) (ps1 ps' : Array Value) (Z : Lg) (H1 : Hp) (s' : Shared), Inv X pins σ H1 s' → Led H1 ((f, LamO f ⟨"<lambda>", q, params, [], scope, cloFrom X.env.cells scope.names [], c'⟩ body) :: (P, .tbl ps') :: (Z ++ (L ++ R))) → TabT q q2 ps' (Z ++ L) → (c', CodeT c' q P1) ∈ Z ++ L → (P1, .tbl ps1) ∈ Z ++ L → TabL q2 ps1 (Z ++ L) → Q (.ref f) s') :
    wpAny (model X.prog X.w) X.A (eval (.Lambda params body scope pos) X.env) Q E s := by
  subst hq
  obtain ⟨ht, ha⟩ := hT
  have hP : H P = some (.tbl ps) := hL.at ⟨0, rfl⟩
  have bP : s.heap.BuiltinsAt X.mg P := TB.bm.keeps I.bk
  have hP' : s.heap.get? P = some { cls := .none, data := .fields ps } := I.hok P _ hP
  refine PySem.W.kla_eval hdef ?_
  rcases hc : codeAmong pos ps.toList with _ | cv
  · refine ln_make (mg := X.mg) (c := c) (P := P) (ps := ps) (closure_ok hfree) I.ok.glob (I.mod.glob.keeps I.bk) hcode (TB.code.keeps I.bk) hP' ht hc TB.gP bP fun c' P1 ctv h' tk hx hge hlt hge1 hrec htb hhd ht1 => ?_
    have I1 := inv_codeT (t' := tk) (more := #[rawInt pos.line, rawInt pos.col, .ref c']) (h' := h') I hP (fun b o hb e => hx b o hb e) htb hge hge1 (codeHd_ne hhd) hhd hrec ht1
    have nC : H c' = none := I.hok.fresh hge
    have nP1 : H P1 = none := I.hok.fresh hge1
    have L1 : Led (upd (upd (upd H P (.tbl (ps ++ #[rawInt pos.line, rawInt pos.col, .ref c']))) c' (CodeT c' (X.env.qual ++ "<lambda>") P1)) P1 (.tbl #[])) ((P1, .tbl #[]) :: (c', CodeT c' (X.env.qual ++ "<lambda>") P1) :: (P, .tbl (ps ++ #[rawInt pos.line, rawInt pos.col, .ref c'])) :: (L ++ R)) :=
      ((hL.head).new (by rw [upd_ne (ne_of_none hP nC).symm]; exact nC)).new (by rw [upd_ne (codeHd_ne hhd).symm, upd_ne (ne_of_none hP nP1).symm]; exact nP1)
    have nF := I1.hok.fresh (Nat.le_refl _)
    have I2 := inv_lam (F := ⟨"<lambda>", X.env.qual ++ "<lambda>", params, [], scope, cloFrom X.env.cells scope.names [], c'⟩) (b := body) (t' := tk) (pm := (X.mg "__name__").getD .none) (ctv := ctv) I1
    have eL : (ps ++ #[rawInt pos.line, rawInt pos.col, .ref c']).toList = ps.toList ++ [rawInt pos.line, rawInt pos.col, .ref c'] := by simp
    refine h h'.objs.size c' P1 #[] _ [(P1, .tbl #[]), (c', CodeT c' (X.env.qual ++ "<lambda>") P1)] _ _ I2 ((L1.new nF).perm (.cons _ ((List.Perm.cons _ (.swap _ _ _)).trans (.swap _ _ _)))) ⟨by rw [eL]; exact PySem.TriplesOk_snoc _ _ _ _ ht, fun p' cv hcv => ?_⟩ (.tail _ (.head _)) (.head _) .nil
    rw [eL] at hcv
    rcases among_app _ ht hcv with z | z
    · obtain ⟨c0, P0, ps0, e1, e2, e3, e4⟩ := ha p' cv z
      exact ⟨c0, P0, ps0, e1, .tail _ (.tail _ e2), .tail _ (.tail _ e3), e4.mono fun x hx => .tail _ (.tail _ hx)⟩
    · exact ⟨c', P1, #[], z, .tail _ (.head _), .head _, .nil⟩
  · obtain ⟨c', P1, ps1, e, hco, hp1, ht1⟩ := ha pos cv hc
    subst e
    refine PySem.W.kla_makeFunctionHit (mg := X.mg) (c := c) (P := P) (ps := ps) (closure_ok hfree) I.ok.glob (I.mod.glob.keeps I.bk) hcode (TB.code.keeps I.bk) hP' ht hc bP fun ctv h' tk hx hsz => ?_
    have I1 : Inv X pins σ H { s with heap := h', toks := tk } := I.kept hx
    have nF : H h'.objs.size = none := I1.hok.fresh (Nat.le_refl _)
    have I2 := inv_lam (F := ⟨"<lambda>", X.env.qual ++ "<lambda>", params, [], scope, cloFrom X.env.cells scope.names [], c'⟩) (b := body) (t' := tk) (pm := (X.mg "__name__").getD .none) (ctv := ctv) I1
    exact h h'.objs.size c' P1 ps1 ps [] _ _ I2 (hL.new nF) ⟨ht, ha⟩ hco hp1 ht1
end
/-- lambda: body, at the law's level -/
def tLamVT (P : Addr) (q q2 : Str) (params : Arguments) (body : Expr) (scope : Scope) (cl : List (Str × Addr)) : TE := fun _ H Q => ∃ (ps : Array Value) (L R : Lg), Led H ((P, .tbl ps) :: (L ++ R)) ∧ TabT q q2 ps L ∧
  ∀ (f c' P1 : Addr) (ps1 ps' : Array Value) (Z : Lg) (H1 : Hp), Led H1 ((f, LamO f ⟨"<lambda>", q, params, [], scope, cl, c'⟩ body) :: (P, .tbl ps') :: (Z ++ (L ++ R))) → TabT q q2 ps' (Z ++ L) → (c', CodeT c' q P1) ∈ Z ++ L → (P1, .tbl ps1) ∈ Z ++ L → TabL q2 ps1 (Z ++ L) → Q (.ref f) H1
theorem pe_lamvT {X : Cx} {q q2 : Str} {c P : Addr} {params : Arguments} {body : Expr} {scope : Scope} {pos : Pos} (TB : TabB X.base X.mg c P) (hcode : X.env.code = .ref c) (hq : X.env.qual ++ "<lambda>" = q) (hdef : defaultsOf params X.env = ([], []))
    (hfree : ∀ y ∈ scope.names, y.2 = .free → X.env.scope.names.lookup y.1 = some .cell) : PE X (.Lambda params body scope pos) (tLamVT P q q2 params body scope (cloFrom X.env.cells scope.names [])) := by
  refine ⟨fun pins s σ H Q I h => ?_⟩
  obtain ⟨ps, L, R, hL, hT, h⟩ := h
  refine lam_valueT I TB hcode hq hL hT hdef (fun y hy e => I.ok.has _ (.inl (hfree y hy e))) fun f c' P1 ps1 ps' Z H1 s' I1 h1 h2 h3 h4 h5 => ?_
  exact ⟨.ref f, H1, I1, rfl, h f c' P1 ps1 ps' Z H1 h1 h2 h3 h4 h5⟩
/-- lambda: body, within a lambda's frame whose code object is c -/
def tLamVI (c : Addr) (q2 : Str) (params : Arguments) (body : Expr) (scope : Scope) (cl : List (Str × Addr)) : TE := fun _ H Q => ∃ (q : Str) (P1 : Addr) (ps : Array Value) (L R : Lg), Led H ((P1, .tbl ps) :: (L ++ R)) ∧ H c = some (CodeT c q P1) ∧ TabL q2 ps L ∧
  ∀ (f c' : Addr) (ps' : Array Value) (Z : Lg) (H1 : Hp), Led H1 ((f, LamO f ⟨"<lambda>", q2, params, [], scope, cl, c'⟩ body) :: (P1, .tbl ps') :: (Z ++ (L ++ R))) → TabL q2 ps' (Z ++ L) → (c', CodeO c' q2) ∈ Z ++ L → Q (.ref f) H1
theorem pe_lamvI {X : Cx} {q2 : Str} {c c0 P0 : Addr} {params : Arguments} {body : Expr} {scope : Scope} {pos : Pos} (TB : TabB X.base X.mg c0 P0) (hcode : X.env.code = .ref c) (hq : X.env.qual ++ "<lambda>" = q2) (hdef : defaultsOf params X.env = ([], []))
    (hfree : ∀ y ∈ scope.names, y.2 = .free → X.env.scope.names.lookup y.1 = some .free) : PE X (.Lambda params body scope pos) (tLamVI c q2 params body scope (cloFrom X.env.cells scope.names [])) := by
  refine ⟨fun pins s σ H Q I h => ?_⟩
  subst hq
  obtain ⟨q, P, ps, L, R, hL, hcT, ⟨ht, ha⟩, h⟩ := h
  have hP : H P = some (.tbl ps) := hL.at ⟨0, rfl⟩
  have hfr : ∀ y ∈ scope.names, y.2 = .free → ∃ c, X.env.cells.lookup y.1 = some c := fun y hy e => I.ok.has _ (.inr (hfree y hy e))
  have bP : s.heap.BuiltinsAt X.mg P := by
    obtain ⟨bm, o, e1, e2, e3, e4, e5, e6⟩ := TB.bm
    exact ⟨bm, o, e1, e2, e3, (fun z => by rw [z] at e5; rw [(I.bs _ _ e5).2] at hP; cases hP), I.bk _ _ e5, e6⟩
  have gP : mainGlobals ≠ P := fun z => by
    obtain ⟨o, es, ep, ho, _⟩ := I.mod.glob
    rw [z] at ho
    rw [(I.bs _ _ ho).2] at hP; cases hP
  have hP' : s.heap.get? P = some { cls := .none, data := .fields ps } := I.hok P _ hP
  have hhd : PySem.W.CodeHd s.heap c P := codeT_hd I.hok hcT
  refine PySem.W.kla_eval hdef ?_
  rcases hc : codeAmong pos ps.toList with _ | cv
  · refine PySem.W.kla_makeFunction (mg := X.mg) (c := c) (P := P) (ps := ps) (closure_ok hfr) I.ok.glob (I.mod.glob.keeps I.bk) hcode hhd hP' ht hc gP bP fun c' ctv h' tk hx hge hlt hrec htb => ?_
    obtain ⟨_, oc, vs, t, e2, hoc, hd, hv⟩ := hrec
    cases e2
    have nC : H c' = none := I.hok.fresh hge
    have I1 := inv_table (t' := tk) (more := #[rawInt pos.line, rawInt pos.col, .ref c']) (h' := h') I hP (fun b o hb e => hx b o hb e) htb hge ⟨oc, vs, t, hoc, hd, hv⟩
    have L1 : Led (upd (upd H P (.tbl (ps ++ #[rawInt pos.line, rawInt pos.col, .ref c']))) c' (CodeO c' (X.env.qual ++ "<lambda>"))) ((c', CodeO c' (X.env.qual ++ "<lambda>")) :: (P, .tbl (ps ++ #[rawInt pos.line, rawInt pos.col, .ref c'])) :: (L ++ R)) :=
      (hL.head).new (by rw [upd_ne (ne_of_none hP nC).symm]; exact nC)
    have nF := I1.hok.fresh (Nat.le_refl _)
    have I2 := inv_lam (F := ⟨"<lambda>", X.env.qual ++ "<lambda>", params, [], scope, cloFrom X.env.cells scope.names [], c'⟩) (b := body) (t' := tk) (pm := (X.mg "__name__").getD .none) (ctv := ctv) I1
    have eL : (ps ++ #[rawInt pos.line, rawInt pos.col, .ref c']).toList = ps.toList ++ [rawInt pos.line, rawInt pos.col, .ref c'] := by simp
    refine ⟨.ref h'.objs.size, _, I2, rfl, h h'.objs.size c' _ [(c', CodeO c' (X.env.qual ++ "<lambda>"))] _ ((L1.new nF).perm (.cons _ (.swap _ _ _))) ⟨by rw [eL]; exact PySem.TriplesOk_snoc _ _ _ _ ht, fun p' cv hcv => ?_⟩ (.head _)⟩
    rw [eL] at hcv
    rcases among_app _ ht hcv with z | z
    · obtain ⟨c0, e1, e2⟩ := ha p' cv z
      exact ⟨c0, e1, .tail _ e2⟩
    · exact ⟨c', z, .head _⟩
  · obtain ⟨c', e, hco⟩ := ha pos cv hc
    subst e
    refine PySem.W.kla_makeFunctionHit (mg := X.mg) (c := c) (P := P) (ps := ps) (closure_ok hfr) I.ok.glob (I.mod.glob.keeps I.bk) hcode hhd hP' ht hc bP fun ctv h' tk hx hsz => ?_
    have I1 : Inv X pins σ H { s with heap := h', toks := tk } := I.kept hx
    have nF : H h'.objs.size = none := I1.hok.fresh (Nat.le_refl _)
    have I2 := inv_lam (F := ⟨"<lambda>", X.env.qual ++ "<lambda>", params, [], scope, cloFrom X.env.cells scope.names [], c'⟩) (b := body) (t' := tk) (pm := (X.mg "__name__").getD .none) (ctv := ctv) I1
    exact ⟨.ref h'.objs.size, _, I2, rfl, h h'.objs.size c' ps [] _ (hL.new nF) ⟨ht, ha⟩ hco⟩
end Sd


/-! is True, is False; plain data in a ledger -/
namespace Sd
open PySem PySem.Spec PyProof.Rows L2
section
variable {X : Cx}
/-- x is True, x is False: x a None, a truth, a number, a text, or an object of the heap -/
def isBV (x : V) : Bool := match x with
  | .non | .bl _ | .int _ | .str _ | .ref _ => true
  | _ => false
def rIsB : R2 := fun x y H Q => ∃ b, y = .bl b ∧ isBV x = true ∧ Q (.bl (decide (x = .bl b))) H
theorem op_isB : OpR X (compareOp .Is) rIsB := by
  intro pins s σ H x y v u Q I rx ry h
  obtain ⟨b, rfl, hx, q⟩ := h
  cases (show u = Value.bool b from ry)
  cases x with
  | non => cases (show v = Value.none from rx); exact wpAny_is_other rfl (fun z => nomatch z) ⟨.bl false, H, I, rfl, by simpa using q⟩
  | bl c =>
    cases (show v = Value.bool c from rx)
    by_cases e : c = b
    · subst e; exact wpAny_is_self rfl ⟨.bl true, H, I, rfl, by simpa using q⟩
    · exact wpAny_is_other rfl (fun z => e (Value.bool.inj z)) ⟨.bl false, H, I, rfl, by simpa [e] using q⟩
  | int i => obtain ⟨t, rfl⟩ := (show ∃ t, v = Value.int i t from rx); exact wpAny_is_other rfl (fun z => nomatch z) ⟨.bl false, H, I, rfl, by simpa using q⟩
  | str i => obtain ⟨t, rfl⟩ := (show ∃ t, v = Value.str i t from rx); exact wpAny_is_other rfl (fun z => nomatch z) ⟨.bl false, H, I, rfl, by simpa using q⟩
  | ref a => cases (show v = Value.ref a from rx); exact wpAny_is_other rfl (fun z => nomatch z) ⟨.bl false, H, I, rfl, by simpa using q⟩
  | _ => cases hx
end
/-- plain data: None, truths, numbers, texts, rows -/
inductive Dv where
  | non
  | bl (b : Bool)
  | int (i : Int)
  | str (s : Str)
  | row (ds : List Dv)
/-- a tuple's place -/
def TupO (xs : List V) (o : HO) : Prop := o = .tup xs ∨ ∃ ob : Obj, o = .frz ob (.tup xs) ∧ ob.dict = none
/-- a tuple without attributes of its own -/
def FrzO (xs : List V) (o : HO) : Prop := ∃ ob : Obj, o = .frz ob (.tup xs) ∧ ob.dict = none
theorem TupO.rd {H : Hp} {a : Addr} {xs : List V} {o : HO} (h : TupO xs o) (e : H a = some o) : Rd H a (.tup xs) := by
  rcases h with rfl | ⟨ob, rfl, _⟩
  · exact .inl e
  · exact .inr ⟨ob, e⟩
theorem TupO.sq {K : PySem.W.Frag} {H : Hp} {a : Addr} {xs : List V} {o : HO} (h : TupO xs o) (e : H a = some o) : SqT K H a xs := .inl (h.rd e)
theorem TupO.ty {K : PySem.W.Frag} {H : Hp} {a : Addr} {xs : List V} {o : HO} (h : TupO xs o) (e : H a = some o) : TyX K H (.ref a) (.type "tuple") := by
  rcases h with rfl | ⟨ob, rfl, _⟩
  · exact .base (.tup e)
  · exact .fTuple e
mutual
/-- the value v of a ledger reads as d; T tells how a tuple stands -/
inductive DLp (T : List V → HO → Prop) (L : Lg) : V → Dv → Prop
  | non : DLp T L .non .non
  | bl (b : Bool) : DLp T L (.bl b) (.bl b)
  | int (i : Int) : DLp T L (.int i) (.int i)
  | str (s : Str) : DLp T L (.str s) (.str s)
  | row {p : Addr} {o : HO} {xs : List V} {ds : List Dv} (h : (p, o) ∈ L) (ho : T xs o) (h1 : DLps T L xs ds) : DLp T L (.ref p) (.row ds)
inductive DLps (T : List V → HO → Prop) (L : Lg) : List V → List Dv → Prop
  | nil : DLps T L [] []
  | cons {x : V} {xs : List V} {d : Dv} {ds : List Dv} (h : DLp T L x d) (h1 : DLps T L xs ds) : DLps T L (x :: xs) (d :: ds)
end
abbrev DL : Lg → V → Dv → Prop := DLp TupO
abbrev DLs : Lg → List V → List Dv → Prop := DLps TupO
abbrev DF : Lg → V → Dv → Prop := DLp FrzO
abbrev DFs : Lg → List V → List Dv → Prop := DLps FrzO
section
variable {T U : List V → HO → Prop}
mutual
theorem DLp.mono {L L' : Lg} (s : ∀ a ∈ L, a ∈ L') : ∀ {v : V} {d : Dv}, DLp T L v d → DLp T L' v d
  | _, _, .non => .non
  | _, _, .bl b => .bl b
  | _, _, .int i => .int i
  | _, _, .str x => .str x
  | _, _, .row h ho h1 => .row (s _ h) ho (DLps.mono s h1)
theorem DLps.mono {L L' : Lg} (s : ∀ a ∈ L, a ∈ L') : ∀ {v : List V} {d : List Dv}, DLps T L v d → DLps T L' v d
  | _, _, .nil => .nil
  | _, _, .cons h h1 => .cons (h.mono s) (DLps.mono s h1)
end
mutual
theorem DLp.imp {L : Lg} (s : ∀ xs o, T xs o → U xs o) : ∀ {v : V} {d : Dv}, DLp T L v d → DLp U L v d
  | _, _, .non => .non
  | _, _, .bl b => .bl b
  | _, _, .int i => .int i
  | _, _, .str x => .str x
  | _, _, .row h ho h1 => .row h (s _ _ ho) (DLps.imp s h1)
theorem DLps.imp {L : Lg} (s : ∀ xs o, T xs o → U xs o) : ∀ {v : List V} {d : List Dv}, DLps T L v d → DLps U L v d
  | _, _, .nil => .nil
  | _, _, .cons h h1 => .cons (h.imp s) (DLps.imp s h1)
end
theorem DLp.dl {L : Lg} {v : V} {d : Dv} (h : DLp FrzO L v d) : DL L v d := h.imp fun _ _ z => .inr z
theorem DLps.dl {L : Lg} {v : List V} {d : List Dv} (h : DLps FrzO L v d) : DLs L v d := h.imp fun _ _ z => .inr z
theorem DLps.len {L : Lg} : ∀ {xs : List V} {ds : List Dv}, DLps T L xs ds → xs.length = ds.length
  | _, _, .nil => rfl
  | _, _, .cons _ h => by rw [List.length_cons, List.length_cons, h.len]
theorem DLps.get {L : Lg} : ∀ {xs : List V} {ds : List Dv} {i : Nat} {x : V}, DLps T L xs ds → xs[i]? = some x → ∃ d, ds[i]? = some d ∧ DLp T L x d
  | _, _, 0, _, .cons h _, e => by
    rw [List.getElem?_cons_zero] at e
    cases e
    exact ⟨_, rfl, h⟩
  | _, _, i + 1, _, .cons _ h, e => by
    rw [List.getElem?_cons_succ] at e
    obtain ⟨d, h1, h2⟩ := h.get e
    exact ⟨d, by rw [List.getElem?_cons_succ]; exact h1, h2⟩
theorem DLps.at {L : Lg} : ∀ {xs : List V} {ds : List Dv} {i : Nat} {d : Dv}, DLps T L xs ds → ds[i]? = some d → ∃ x, xs[i]? = some x ∧ DLp T L x d
  | _, _, 0, _, .cons h _, e => by
    rw [List.getElem?_cons_zero] at e
    cases e
    exact ⟨_, rfl, h⟩
  | _, _, i + 1, _, .cons _ h, e => by
    rw [List.getElem?_cons_succ] at e
    obtain ⟨d, h1, h2⟩ := h.at e
    exact ⟨d, by rw [List.getElem?_cons_succ]; exact h1, h2⟩
theorem DLp.isB {L : Lg} {v : V} {d : Dv} (h : DLp T L v d) : isBV v = true := by cases h <;> rfl
end
theorem DLp.ty {K : PySem.W.Frag} {H : Hp} {L : Lg} {v : V} {d : Dv} (h : DLp TupO L v d) (hL : Led H L) : TyX K H v (match d with | .non => .type "NoneType" | .bl _ => .type "bool" | .int _ => .type "int" | .str _ => .type "str" | .row _ => .type "tuple") := by
  cases h with
  | non => exact .base .non
  | bl b => exact .base (.bl b)
  | int i => exact .base (.int i)
  | str s => exact .base (.str s)
  | row h ho h1 => exact ho.ty (hL.mem h)
theorem DL.ty {K : PySem.W.Frag} {H : Hp} {L : Lg} {v : V} {d : Dv} (hL : Led H L) (h : DL L v d) : TyX K H v (match d with | .non => .type "NoneType" | .bl _ => .type "bool" | .int _ => .type "int" | .str _ => .type "str" | .row _ => .type "tuple") := DLp.ty h hL
/-! ### t += u -/
theorem noI_tuple_add : typeLookup (.type "tuple") (dunderI "add") = pure none := by rw [typeLookup_type, builtinLookup_eq_fast]; kernel_rfl
section
variable {prog : Program} {w : World} {A : Around} {E : Value → Shared → Prop} {s : Shared}
theorem icat_tup {t b : Addr} {vs ws : List Value} {Q : Value → Shared → Prop} (ht : IsTup s.heap t vs.toArray) (hb : IsTup s.heap b ws.toArray)
    (h0 : vs = [] → Q (.ref b) s) (h1 : vs ≠ [] → ws = [] → Q (.ref t) s) (h2 : vs ≠ [] → ws ≠ [] → Q (.ref s.heap.objs.size) { s with heap := s.heap.push { cls := .type "tuple", data := .seq (vs ++ ws).toArray } })
    (hsz : vs.length + ws.length ≤ sizeLine) : wpAny (model prog w) A (inplaceOp .Add (.ref t) (.ref b)) Q E s := by
  obtain ⟨⟨cls, dd, data, sl⟩, ho, hc, n, hd⟩ := id ht
  obtain ⟨⟨cls2, dd2, data2, sl2⟩, ho2, hc2, n2, hd2⟩ := id hb
  simp only at hc hd hc2 hd2
  subst hc hd hc2 hd2
  have e : vs.toArray ++ ws.toArray = (vs ++ ws).toArray := by simp
  refine PySem.wpAny_inplaceOp_concat ⟨_, ho, rfl⟩ ⟨_, ho2, rfl⟩ noI_tuple_add noFill_tuple_add seq_tuple_add ?_
  by_cases hv : vs = []
  · exact call_meets PySem.F.slot_tuple_add ⟨_, ho, rfl⟩ PySem.F.entry_tuple_add (PySem.F.args_tuple_add_2 _ _)
      (tuple_addW0 t b vs.toArray ws.toArray n n2 dd dd2 sl sl2 (by simp [hv])) ⟨ho, ho2, h0 hv⟩
  · by_cases hw : ws = []
    · exact call_meets PySem.F.slot_tuple_add ⟨_, ho, rfl⟩ PySem.F.entry_tuple_add (PySem.F.args_tuple_add_2 _ _)
        (tuple_addW1 t b vs.toArray ws.toArray n n2 dd dd2 sl sl2 (by simpa using hv) (by simp [hw])) ⟨ho, ho2, h1 hv hw⟩
    · refine call_meets PySem.F.slot_tuple_add ⟨_, ho, rfl⟩ PySem.F.entry_tuple_add (PySem.F.args_tuple_add_2 _ _)
        (tuple_addW2 t b vs.toArray ws.toArray n n2 dd dd2 sl sl2 (by simpa using hv) (by simpa using hw) (by rw [List.size_toArray, List.size_toArray]; exact hsz)) ⟨ho, ho2, ?_⟩
      rw [e]
      exact h2 hv hw
end
section
variable {X : Cx}
theorem iop_catA : OpR X (inplaceOp .Add) (rCatA X.K) := by
  intro pins s σ H x y v u Q I rx ry h
  obtain ⟨a, b, xs, ys, rfl, rfl, ha, hb, hz, q0, q1, q2⟩ := h
  cases rx
  cases ry
  obtain ⟨its, r1, p1, _⟩ := I.tuple ha
  obtain ⟨its2, r2, p2, _⟩ := I.tuple hb
  refine icat_tup p1 p2 (fun z => ⟨.ref b, H, I, rfl, q0 (r1.nil_iff.mp z)⟩) (fun z1 z => ⟨.ref a, H, I, rfl, q1 (fun w => z1 (r1.nil_iff.mpr w)) (r2.nil_iff.mp z)⟩) (fun z1 z => ?_) (by rw [← r1.length, ← r2.length]; exact hz)
  refine ⟨.ref s.heap.objs.size, _, I.laid (t' := s.toks) (o := .tup (xs ++ ys)) (fun b ob q => Heap.get?_push_of_some _ q) (Nat.le_refl _) ?_, rfl, q2 (fun w => z1 (r1.nil_iff.mpr w)) (fun w => z (r2.nil_iff.mpr w)) _ (I.hok.fresh (Nat.le_refl _))⟩
  exact ⟨by rw [List.length_append]; exact hz, _, r1.append r2, IsTup.new _ _⟩
end
section
variable {K : PySem.W.Frag} {H : Hp} {L : Lg} {a b : Addr} {xs ys : List V} {Q : VK}
/-- t + u, t += u: both are given up for the sum -/
theorem k_catA (hL : Led H ((b, .tup ys) :: (a, .tup xs) :: L)) (hz : xs.length + ys.length ≤ sizeLine) (k : ∀ r H', Led H' ((r, .tup (xs ++ ys)) :: L) → Q (.ref r) H') : rCatA K (.ref a) (.ref b) H Q := by
  refine ⟨a, b, xs, ys, rfl, rfl, .of (hL.at ⟨1, rfl⟩), .of (hL.at ⟨0, rfl⟩), hz, fun e => ?_, fun _ e => ?_, fun _ _ _ hp => ?_⟩
  · subst e; exact k _ _ (hL.sub (.cons_cons _ (.cons _ (.refl _))))
  · subst e; rw [List.append_nil] at k; exact k _ _ hL.tail
  · exact k _ _ ((hL.new hp).sub (.cons_cons _ (.cons _ (.cons _ (.refl _)))))
/-- t + u, both not empty: a new one -/
theorem k_catN (hL : Led H L) (e1 : At L a (.tup xs)) (e2 : At L b (.tup ys)) (hx : xs ≠ []) (hy : ys ≠ []) (hz : xs.length + ys.length ≤ sizeLine) (k : ∀ r H', Led H' ((r, .tup (xs ++ ys)) :: L) → Q (.ref r) H') : rCatA K (.ref a) (.ref b) H Q :=
  ⟨a, b, xs, ys, rfl, rfl, .of (hL.at e1), .of (hL.at e2), hz, fun e => absurd e hx, fun _ e => absurd e hy, fun _ _ _ hp => k _ _ (hL.new hp)⟩
end
end Sd


/-! l != [] of a list of any things -/
namespace Sd
open PySem PySem.Spec PyProof.Rows L2
def rNeNil : R2 := fun x y H Q => ∃ (a b : Addr) (xs : List V), x = .ref a ∧ y = .ref b ∧ H a = some (.lst xs) ∧ H b = some (.lst []) ∧ Q (.bl (!xs.isEmpty)) H
theorem op_neNil {X : Cx} (hu : X.A.units + 64 < cLine) : OpR X (compareOp .NotEq) rNeNil := by
  intro pins s σ H x y v u Q I rx ry h
  obtain ⟨a, b, xs, rfl, rfl, ha, hb, q⟩ := h
  cases (show v = Value.ref a from rx)
  cases (show u = Value.ref b from ry)
  obtain ⟨_, its, n, _, e1, hl⟩ := I.lstM ha
  obtain ⟨_, its2, n2, _, e2, hl2⟩ := I.lstM hb
  have l1 : s.heap.IsList a its.toArray := ⟨_, hl, rfl, _, rfl⟩
  have l2 : s.heap.IsList b its2.toArray := ⟨_, hl2, rfl, _, rfl⟩
  have e2 : its2.length = 0 := e2.symm
  by_cases hx : xs = []
  · subst hx
    have e1 : its.length = 0 := e1.symm
    have h0 : its = [] := List.length_eq_zero_iff.mp e1
    have h02 : its2 = [] := List.length_eq_zero_iff.mp e2
    subst h0 h02
    have := PySem.SeqAt.RcNeAt.lists (A := X.A) (e := fun _ => true) l1 l2 rfl (by omega) (fun j h1 _ => absurd h1 (by simp)) X.prog X.w X.xe
    exact this _ ⟨.bl false, H, I, rfl, q⟩
  · have hb : (!xs.isEmpty) = true := by cases xs <;> simp at hx ⊢
    rw [hb] at q
    have hsz : (its.toArray.size != its2.toArray.size) = true := by
      have : xs.length ≠ 0 := fun e => hx (List.length_eq_zero_iff.mp e)
      simp only [List.size_toArray, bne_iff_ne]
      omega
    exact PySem.SeqAt.RcNeAt.lists_lengths (A := X.A) l1 l2 hsz (by omega) X.prog X.w X.xe _ ⟨.bl true, H, I, rfl, q⟩
end Sd


set_option linter.unusedVariables false
/-! A dict whose keys are ints and tuples (of ints and texts) side by side. -/
namespace Mx
open PySem PySem.Spec PyProof.Rows L2 PySem.SeqAt
abbrev MK := Int ⊕ List Key
section
variable (P : Program) (w : World)
def mIs (h : Heap) : MK → Value → Prop
  | .inl i, v => ∃ t, v = .int i t
  | .inr ks, v => ∃ a, v = .ref a ∧ (tupleKind (mixKind P w)).is h ks a
def mHash : MK → Int
  | .inl i => (mixKind P w).hash (.inl i)
  | .inr ks => (tupleKind (mixKind P w)).hash ks
def mDraw : MK → Nat
  | .inl _ => 1
  | .inr ks => (tupleKind (mixKind P w)).draws ks
end
section
variable {P : Program} {w : World} {A : Around} {E : Value → Shared → Prop} {s : Shared}
theorem mIs.inj {h : Heap} {x y : MK} {v : Value} (hx : mIs P w h x v) (hy : mIs P w h y v) : x = y := by
  cases x with
  | inl i =>
    obtain ⟨t, rfl⟩ := hx
    cases y with
    | inl j =>
      obtain ⟨u, e⟩ := hy
      injection e with e1 e2
      rw [e1]
    | inr ks =>
      obtain ⟨a, e, _⟩ := hy
      cases e
  | inr ks =>
    obtain ⟨a, rfl, k1⟩ := hx
    cases y with
    | inl j =>
      obtain ⟨u, e⟩ := hy
      cases e
    | inr js =>
      obtain ⟨b, e, k2⟩ := hy
      cases e
      rw [(tupleKind (mixKind P w)).inj k1 k2]
theorem m_hash {k : MK} {v : Value} {Q : Int → Shared → Prop} (hu : A.units < cLine) (hk : mIs P w s.heap k v) (h : Q (mHash P w k) { s with toks := s.toks + mDraw P w k }) : wpAny (model P w) A (pyHash v) Q E s := by
  cases k with
  | inl i =>
    obtain ⟨t, rfl⟩ := hk
    exact (mixKind P w).pyHash (mixKind_int P w i t) h
  | inr ks =>
    obtain ⟨a, rfl, k1⟩ := hk
    exact (tupleKind (mixKind P w)).pyHash hu k1 h
theorem is_tup {h : Heap} {ks : List Key} {a : Addr} (k : (tupleKind (mixKind P w)).is h ks a) : ∃ items, h.IsTuple a items := by
  obtain ⟨o, items, n, h1, h2, h3, _⟩ := k
  exact ⟨items, o, h1, h2, n, h3⟩
theorem m_eq {x y : MK} {u v : Value} {Q : Bool → Shared → Prop} (hu : A.units < cLine) (hx : mIs P w s.heap x u) (hy : mIs P w s.heap y v) (h : Q (decide (x = y)) s) : wpAny (model P w) A (eqBool u v) Q E s := by
  cases x with
  | inl i =>
    obtain ⟨t, rfl⟩ := hx
    cases y with
    | inl j =>
      obtain ⟨u, rfl⟩ := hy
      refine wpAny_eqBool_int ?_
      have e : decide ((Sum.inl i : MK) = Sum.inl j) = (i == j) := by
        by_cases q : i = j
        · subst q; simp
        · have q2 : ¬ (Sum.inl i : MK) = Sum.inl j := fun z => q (by injection z)
          rw [decide_eq_false q2]
          simp [q]
      rw [← e]
      exact h
    | inr ks =>
      obtain ⟨a, rfl, k1⟩ := hy
      obtain ⟨items, ht⟩ := is_tup k1
      refine EqAt.int_tuple i t ht hu P w E Q ?_
      rw [decide_eq_false (fun z => by cases z)] at h
      exact h
  | inr ks =>
    obtain ⟨a, rfl, k1⟩ := hx
    cases y with
    | inl j =>
      obtain ⟨u, rfl⟩ := hy
      obtain ⟨items, ht⟩ := is_tup k1
      refine EqAt.tuple_int j u ht hu P w E Q ?_
      rw [decide_eq_false (fun z => by cases z)] at h
      exact h
    | inr js =>
      obtain ⟨b, rfl, k2⟩ := hy
      refine (tupleKind (mixKind P w)).eqBool hu k1 k2 ?_
      have e : decide ((Sum.inr ks : MK) = Sum.inr js) = decide (ks = js) := by
        by_cases q : ks = js
        · subst q; simp
        · have q2 : ¬ (Sum.inr ks : MK) = Sum.inr js := fun z => q (by injection z)
          rw [decide_eq_false q2, decide_eq_false q]
      rw [← e]
      exact h
theorem m_quiet {k : MK} {v : Value} {Q : Bool → Shared → Prop} (hk : mIs P w s.heap k v) (h : Q true s) : wpAny (model P w) A (eqIsQuiet 8 v) Q E s := by
  cases k with
  | inl i =>
    obtain ⟨t, rfl⟩ := hk
    rw [eqIsQuiet_byValue 8 (show carriedByValue (.int i t) = true from rfl)]
    exact wpAny_pure h
  | inr ks =>
    obtain ⟨a, rfl, k1⟩ := hk
    exact (tupleKind (mixKind P w)).quiet k1 h
theorem mIs.keeps {h h' : Heap} {k : MK} {v : Value} {d : Addr} {o : Obj} {es ep} (x : mIs P w h k v) (ho : h.get? d = some o) (hd : o.data = .dict es ep) (hs : Heap.SameBut d h h') : mIs P w h' k v := by
  cases k with
  | inl i => exact x
  | inr ks =>
    obtain ⟨a, rfl, k1⟩ := x
    exact ⟨a, rfl, (tupleKind (mixKind P w)).keeps k1 ho hd hs⟩
end
/-! ### the entries -/
abbrev ME := MK × Value × Value
section
variable (P : Program) (w : World)
def mEnt (x : ME) : DictEntry := ⟨mHash P w x.1, x.2.1, x.2.2⟩
/-- the dict at d has these entries; the keys stand in the heap -/
structure MD (h : Heap) (d : Addr) (xs : List ME) : Prop where
  ex : ∃ o es ep, h.get? d = some o ∧ o.ExactDict ∧ o.data = .dict es ep ∧ es.toList = xs.map (mEnt P w)
  nd : (xs.map (·.1)).Nodup
end
def mAt (xs : List ME) (k : MK) : Option Value := (xs.find? fun x => decide (x.1 = k)).map (·.2.2)
theorem mAt_get {k : MK} : ∀ {xs : List ME} {j : Nat} {p : Value × Value}, (xs.map (·.1)).Nodup → xs[j]? = some (k, p) → mAt xs k = some p.2
  | [], _, _, _, h => by simp at h
  | x :: r, 0, p, _, h => by
    rw [List.getElem?_cons_zero] at h
    cases h
    simp [mAt]
  | x :: r, j + 1, p, hn, h => by
    rw [List.getElem?_cons_succ] at h
    rw [List.map_cons, List.nodup_cons] at hn
    have hne : ¬ x.1 = k := fun e => hn.1 (e ▸ List.mem_map.mpr ⟨(k, p), List.mem_of_getElem? h, rfl⟩)
    have := mAt_get hn.2 h
    unfold mAt at this ⊢
    rw [List.find?_cons, decide_eq_false hne]
    exact this
theorem mAt_none {k : MK} {xs : List ME} (h : ∀ (j : Nat) (p : Value × Value), xs[j]? ≠ some (k, p)) : mAt xs k = none ∧ k ∉ xs.map (·.1) := by
  have hn : k ∉ xs.map (·.1) := fun hm => by
    obtain ⟨x, hx, rfl⟩ := List.mem_map.mp hm
    obtain ⟨j, hj⟩ := List.mem_iff_getElem?.mp hx
    exact h j x.2 hj
  refine ⟨?_, hn⟩
  unfold mAt
  rw [List.find?_eq_none.mpr fun x hx e => hn (List.mem_map.mpr ⟨x, hx, of_decide_eq_true e⟩)]
  rfl
theorem one_place {xs : List ME} (hn : (xs.map (·.1)).Nodup) {i j : Nat} {k : MK} {p q : Value × Value} (h1 : xs[i]? = some (k, p)) (h2 : xs[j]? = some (k, q)) : i = j := by
  have e1 : (xs.map (·.1))[i]? = some k := by rw [List.getElem?_map, h1]; rfl
  have e2 : (xs.map (·.1))[j]? = some k := by rw [List.getElem?_map, h2]; rfl
  exact (List.getElem?_inj (List.getElem?_eq_some_iff.mp e1).1 hn).mp (e1.trans e2.symm)
section
variable {P : Program} {w : World} {A : Around} {E : Value → Shared → Prop} {s : Shared}
theorem tell_quiet {k : MK} {v : Value} {stored : List Value} {Q : Bool → Shared → Prop} (hk : mIs P w s.heap k v) (hst : ∀ u ∈ stored, ∃ j, mIs P w s.heap j u) (h : Q false s) : wpAny (model P w) A (tableMayTell v stored) Q E s := by
  unfold tableMayTell
  by_cases he : stored.isEmpty = true
  · rw [if_pos he]
    exact wpAny_pure h
  · rw [if_neg he]
    refine wpAny_bind (m_quiet hk ?_)
    rw [if_neg (by simp)]
    refine wpAny_bind (wpAny_forIn_list _ (fun rest r s' => s' = s ∧ r = (none, ()) ∧ ∀ u ∈ rest, ∃ j, mIs P w s.heap j u) _ (fun x rest r s' hI => ?_) (fun r s' hI => ?_) _ _ ⟨rfl, rfl, hst⟩)
    · obtain ⟨rfl, rfl, hr⟩ := hI
      obtain ⟨j, hj⟩ := hr x List.mem_cons_self
      refine wpAny_bind (m_quiet hj ?_)
      rw [if_neg (by simp)]
      exact wpAny_pure ⟨rfl, rfl, fun u hu => hr u (List.mem_cons_of_mem _ hu)⟩
    · obtain ⟨rfl, rfl, _⟩ := hI
      exact wpAny_pure h
set_option hygiene false in
local macro_rules | `(tactic| fail "mloop") => `(tactic| (
  rw [if_neg (by simp)]
  refine wpAny_bind (wpAny_forIn_list _ (fun rest b s' => s' = s ∧ ∃ hit done, b = (none, hit) ∧ L = done ++ rest ∧ ((hit = none ∧ ∀ j ∈ done, ∀ p, xs[j]? ≠ some (k, p)) ∨ ∃ j p, hit = some j ∧ j ∈ done ∧ xs[j]? = some (k, p))) _ (fun x rest b s' hI => ?_) (fun b s' hI => ?_) _ _ ⟨rfl, none, [], rfl, rfl, .inl ⟨rfl, fun j hj => by cases hj⟩⟩)
  · obtain ⟨rfl, hit, done, rfl, hLd, hH⟩ := hI
    obtain ⟨y, hy, hey, hh, hiy⟩ := stepE hLd
    simp only [hey]
    rw [if_pos (show ((mEnt P w y).hash == mHash P w k) = true from hh)]
    refine wpAny_bind (wpAny_dictEpoch ho hd (wpAny_bind (m_eq hu hiy hk (wpAny_bind (wpAny_dictEpoch ho hd ?_)))))
    rw [if_neg (by simp)]
    by_cases hkk : y.1 = k
    · rw [decide_eq_true hkk]
      subst hkk
      rcases hH with ⟨rfl, hno⟩ | ⟨j, p, _, hjd, hj⟩
      · rw [if_pos rfl, if_neg (by simp)]
        refine wpAny_bind (wpAny_rule ?_)
        split
        · exact wpAny_pure (wpAny_pure (hsome x y.2 hy))
        · exact wpAny_pure ⟨rfl, some x, done ++ [x], rfl, by rw [hLd]; simp, .inr ⟨x, y.2, rfl, by simp, hy⟩⟩
      · have e := one_place hn hj (show xs[x]? = some (y.1, y.2) from hy)
        rw [hLd] at hnd
        exact absurd e ((List.nodup_append.mp hnd).2.2 j hjd x List.mem_cons_self)
    · rw [decide_eq_false hkk, if_neg (by simp)]
      refine wpAny_bind (wpAny_rule ?_)
      rw [if_neg (by simp)]
      refine wpAny_pure ⟨rfl, hit, done ++ [x], rfl, by rw [hLd]; simp, ?_⟩
      rcases hH with ⟨h0, hno⟩ | ⟨j, p, h1, hjd, hj⟩
      · exact .inl ⟨h0, noHit hno hy hkk⟩
      · exact .inr ⟨j, p, h1, List.mem_append_left _ hjd, hj⟩
  · obtain ⟨rfl, hit, done, rfl, hLd, hH⟩ := hI
    rw [List.append_nil] at hLd
    rcases hH with ⟨rfl, hno⟩ | ⟨j, p, rfl, _, hj⟩
    · exact wpAny_pure (fin (by rw [hLd]; exact hno))
    · exact wpAny_pure (hsome j p hj)))
theorem m_find {d : Addr} {k : MK} {v : Value} {xs : List ME} {Q : Option Nat → Shared → Prop} (hu : A.units < cLine) (hk : mIs P w s.heap k v) (hm : MD P w s.heap d xs) (his : ∀ x ∈ xs, mIs P w s.heap x.1 x.2.1)
    (hnone : (∀ (j : Nat) (p : Value × Value), xs[j]? ≠ some (k, p)) → Q none s) (hsome : ∀ (j : Nat) (p : Value × Value), xs[j]? = some (k, p) → Q (some j) s) :
    wpAny (model P w) A (dictFind d v (mHash P w k)) Q E s := by
  obtain ⟨⟨o, es, ep, ho, hc, hd, he⟩, hn⟩ := hm
  have hat : ∀ j, es[j]? = (xs[j]?).map (mEnt P w) := fun j => by rw [← Array.getElem?_toList, he, List.getElem?_map]
  have hsz : es.size = xs.length := by rw [← Array.length_toList, he, List.length_map]
  obtain ⟨L, hL⟩ : ∃ L, L = placesWithHash es.size (fun i => es[i]?.map (·.hash)) (mHash P w k) := ⟨_, rfl⟩
  have hmL : ∀ j, j ∈ L → ∃ x, xs[j]? = some x ∧ mHash P w x.1 = mHash P w k := fun j hj => by
    rw [hL] at hj
    unfold placesWithHash at hj
    obtain ⟨h1, h2⟩ := List.mem_filter.mp hj
    have h2 : (es[j]?).map (·.hash) = some (mHash P w k) := eq_of_beq h2
    rw [hat] at h2
    cases hx : xs[j]? with
    | none => rw [hx] at h2; cases h2
    | some x =>
      rw [hx] at h2
      exact ⟨x, rfl, Option.some.inj h2⟩
  have hin : ∀ (j : Nat) (p : Value × Value), xs[j]? = some (k, p) → j ∈ L := fun j p hj => by
    rw [hL]
    unfold placesWithHash
    refine List.mem_filter.mpr ⟨List.mem_range.mpr (by rw [hsz]; exact (List.getElem?_eq_some_iff.mp hj).1), ?_⟩
    show ((es[j]?).map (·.hash) == some (mHash P w k)) = true
    rw [hat, hj]
    exact beq_self_eq_true _
  have hnd : L.Nodup := by
    rw [hL]
    unfold placesWithHash
    exact List.nodup_range.filter _
  have hst : ∀ u ∈ L.filterMap (fun i => es[i]?.map (·.key)), ∃ j, mIs P w s.heap j u := fun u hu => by
    obtain ⟨i, hi, e⟩ := List.mem_filterMap.mp hu
    obtain ⟨x, hx, _⟩ := hmL i hi
    rw [hat, hx] at e
    obtain rfl := Option.some.inj e
    exact ⟨x.1, his x (List.mem_of_getElem? hx)⟩
  have fin : (∀ j ∈ L, ∀ p, xs[j]? ≠ some (k, p)) → Q none s := fun h => hnone fun j p hj => h j (hin j p hj) p hj
  -- a place's step
  have stepE : ∀ {done rest : List Nat} {x : Nat}, L = done ++ x :: rest → ∃ y, xs[x]? = some y ∧ es[x]? = some (mEnt P w y) ∧ (mHash P w y.1 == mHash P w k) = true ∧ mIs P w s.heap y.1 y.2.1 := fun {done rest x} e => by
    obtain ⟨y, hy, hh⟩ := hmL x (by rw [e]; exact List.mem_append_right _ List.mem_cons_self)
    exact ⟨y, hy, by rw [hat, hy]; rfl, by rw [hh]; exact beq_self_eq_true _, his y (List.mem_of_getElem? hy)⟩
  have noHit : ∀ {done : List Nat} {x : Nat} {y : ME}, (∀ j ∈ done, ∀ p, xs[j]? ≠ some (k, p)) → xs[x]? = some y → ¬ y.1 = k → ∀ j ∈ done ++ [x], ∀ p, xs[j]? ≠ some (k, p) := fun {done x y} hd hy hne j hj p e => by
    rcases List.mem_append.mp hj with hj | hj
    · exact hd j hj p e
    · rw [List.mem_singleton.mp hj, hy] at e
      cases e
      exact hne rfl
  have plain : wpAny (model P w) A (dictWalkPlain d v (mHash P w k) es L) Q E s := by
    unfold dictWalkPlain
    refine wpAny_bind (wpAny_forIn_list _ (fun rest b s' => s' = s ∧ b = (none, ()) ∧ ∃ done, L = done ++ rest ∧ ∀ j ∈ done, ∀ p, xs[j]? ≠ some (k, p)) _ (fun x rest b s' hI => ?_) (fun b s' hI => ?_) _ _ ⟨rfl, rfl, [], rfl, fun j hj => by cases hj⟩)
    · obtain ⟨rfl, rfl, done, hLd, hdn⟩ := hI
      obtain ⟨y, hy, hey, hh, hiy⟩ := stepE hLd
      simp only [hey]
      rw [if_pos (show ((mEnt P w y).hash == mHash P w k) = true from hh)]
      refine wpAny_bind (wpAny_dictEpoch ho hd (wpAny_bind (m_eq hu hiy hk (wpAny_bind (wpAny_dictEpoch ho hd ?_)))))
      rw [if_neg (by simp)]
      by_cases hkk : y.1 = k
      · rw [decide_eq_true hkk]
        subst hkk
        exact wpAny_bind (wpAny_rule (wpAny_pure (wpAny_pure (hsome x y.2 hy))))
      · rw [decide_eq_false hkk]
        refine wpAny_bind (wpAny_rule (wpAny_pure ⟨rfl, rfl, done ++ [x], by rw [hLd]; simp, noHit hdn hy hkk⟩))
    · obtain ⟨rfl, rfl, done, hLd, hdn⟩ := hI
      rw [List.append_nil] at hLd
      exact wpAny_pure (fin (by rw [hLd]; exact hdn))
  have hany : ∀ a, v = .ref a → ¬ (es.any fun e => e.key == Value.ref a && e.hash != mHash P w k) = true := fun a hv => by
    rw [← Array.any_toList, he, List.any_eq_true]
    rintro ⟨e, hin, hc⟩
    obtain ⟨x, hx, rfl⟩ := List.mem_map.mp hin
    simp only [mEnt, Bool.and_eq_true, beq_iff_eq, bne_iff_ne, ne_eq] at hc
    obtain ⟨h1, h2⟩ := hc
    have h3 := his x hx
    rw [h1, ← hv] at h3
    exact h2 (by rw [h3.inj hk])
  have hvk : (∃ i t, v = .int i t) ∨ ∃ a, v = .ref a := by
    cases k with
    | inl i => obtain ⟨t, e⟩ := hk; exact .inl ⟨i, t, e⟩
    | inr ks => obtain ⟨a, e, _⟩ := hk; exact .inr ⟨a, e⟩
  unfold dictFind
  try with_reducible refine wpAny_holding ?_
  refine wpAny_bind (wpAny_dictEntries ho hd ?_)
  dsimp only
  rw [← hL]
  rcases hvk with ⟨i0, t0, rfl⟩ | ⟨a0, rfl⟩
  · dsimp only
    by_cases hall : (Value.int i0 t0 :: L.filterMap (fun i => es[i]?.map (·.key))).all carriedByValue = true
    · rw [if_pos hall]
      exact plain
    · rw [if_neg hall]
      by_cases hone : (L.filterMap (fun i => es[i]?.map (·.key)) == [Value.int i0 t0]) = true
      · rw [if_pos hone]
        refine wpAny_bind (wpAny_pure ?_)
        fail "mloop"
      · rw [if_neg hone]
        refine wpAny_bind (tell_quiet hk hst ?_)
        fail "mloop"
  · dsimp only
    rw [if_neg (show ¬ (Value.ref a0 :: L.filterMap (fun i => es[i]?.map (·.key))).all carriedByValue = true by simp [carriedByValue]), if_neg (hany a0 rfl)]
    by_cases hone : (L.filterMap (fun i => es[i]?.map (·.key)) == [Value.ref a0]) = true
    · rw [if_pos hone]
      refine wpAny_bind (wpAny_pure ?_)
      fail "mloop"
    · rw [if_neg hone]
      refine wpAny_bind (tell_quiet hk hst ?_)
      fail "mloop"
def mPut (xs : List ME) (k : MK) (key u : Value) : List ME := if (mAt xs k).isSome then xs.map (fun x => if x.1 = k then (x.1, x.2.1, u) else x) else xs ++ [(k, key, u)]
def mDrop (xs : List ME) (k : MK) : List ME := xs.filter fun x => decide (x.1 ≠ k)
theorem put_keys {xs : List ME} {k : MK} {u : Value} : (xs.map fun x : ME => if x.1 = k then (x.1, x.2.1, u) else x).map (·.1) = xs.map (·.1) := by
  rw [List.map_map]
  refine List.map_congr_left fun x _ => ?_
  show (if x.1 = k then (x.1, x.2.1, u) else x).1 = x.1
  split <;> rfl
theorem mPut_is {h : Heap} {xs : List ME} {k : MK} {key u : Value} (hk : mIs P w h k key) (his : ∀ x ∈ xs, mIs P w h x.1 x.2.1) : ∀ x ∈ mPut xs k key u, mIs P w h x.1 x.2.1 := fun x hx => by
  unfold mPut at hx
  split at hx
  · obtain ⟨y, hy, rfl⟩ := List.mem_map.mp hx
    split
    · exact his y hy
    · exact his y hy
  · rcases List.mem_append.mp hx with hx | hx
    · exact his x hx
    · rw [List.mem_singleton.mp hx]
      exact hk
theorem erase_is {k : MK} : ∀ {xs : List ME} {j : Nat} {p : Value × Value}, (xs.map (·.1)).Nodup → xs[j]? = some (k, p) → xs.eraseIdx j = mDrop xs k
  | [], _, _, _, h => by simp at h
  | x :: r, 0, p, hn, h => by
    rw [List.getElem?_cons_zero] at h
    cases h
    rw [List.map_cons, List.nodup_cons] at hn
    unfold mDrop
    rw [List.eraseIdx_cons_zero, List.filter_cons, if_neg (by simp), List.filter_eq_self.mpr]
    intro y hy
    exact decide_eq_true fun e => hn.1 (e ▸ List.mem_map.mpr ⟨y, hy, rfl⟩)
  | x :: r, j + 1, p, hn, h => by
    rw [List.getElem?_cons_succ] at h
    rw [List.map_cons, List.nodup_cons] at hn
    have hne : ¬ x.1 = k := fun e => hn.1 (e ▸ List.mem_map.mpr ⟨(k, p), List.mem_of_getElem? h, rfl⟩)
    have := erase_is hn.2 h
    unfold mDrop at this ⊢
    rw [List.eraseIdx_cons_succ, List.filter_cons, if_pos (decide_eq_true hne), this]
theorem erase_map {α β : Type} (f : α → β) : ∀ (l : List α) (j : Nat), (l.map f).eraseIdx j = (l.eraseIdx j).map f
  | [], _ => rfl
  | _ :: _, 0 => rfl
  | x :: l, j + 1 => by
    rw [List.map_cons, List.eraseIdx_cons_succ, List.eraseIdx_cons_succ, List.map_cons, erase_map f l j]
theorem MD.typeIs {s : Shared} {d : Addr} {xs : List ME} (hm : MD P w s.heap d xs) : s.TypeIs (.ref d) "dict" :=
  let ⟨o, _, _, ho, hc, _⟩ := hm.ex; ⟨o, ho, hc.1⟩
theorem m_get {d : Addr} {k : MK} {v : Value} {xs : List ME} {Q : Option Value → Shared → Prop} (hu : A.units < cLine) (hk : mIs P w s.heap k v) (hm : MD P w s.heap d xs) (his : ∀ x ∈ xs, mIs P w s.heap x.1 x.2.1)
    (h : Q (mAt xs k) { s with toks := s.toks + mDraw P w k }) : wpAny (model P w) A (dictGet d v) Q E s := by
  obtain ⟨o, es, ep, ho, hc, hd, he⟩ := hm.ex
  unfold dictGet
  try with_reducible refine wpAny_holding ?_
  refine wpAny_bind (m_hash hu hk (wpAny_bind (m_find (s := { s with toks := s.toks + mDraw P w k }) hu hk hm his (fun hno => ?_) (fun j p hj => ?_))))
  · rw [(mAt_none hno).1] at h
    exact wpAny_pure h
  · rw [mAt_get hm.nd hj] at h
    refine wpAny_bind (wpAny_dictEntries (s := { s with toks := s.toks + mDraw P w k }) ho hd ?_)
    rw [← Array.getElem?_toList, he, List.getElem?_map, hj]
    exact wpAny_pure h
theorem m_set {d : Addr} {k : MK} {v u : Value} {xs : List ME} {Q : Unit → Shared → Prop} (hu : A.units < cLine) (hk : mIs P w s.heap k v) (hm : MD P w s.heap d xs) (his : ∀ x ∈ xs, mIs P w s.heap x.1 x.2.1) (hsz : xs.length ≤ sizeLine)
    (hQ : ∀ h' tk, MD P w h' d (mPut xs k v u) → Heap.SameBut d s.heap h' → Q () { s with heap := h', toks := tk }) : wpAny (model P w) A (dictSet d v u) Q E s := by
  obtain ⟨o, es, ep, ho, hc, hd, he⟩ := hm.ex
  have hes : es.size = xs.length := by rw [← Array.length_toList, he, List.length_map]
  unfold dictSet
  try with_reducible refine wpAny_holding ?_
  refine wpAny_bind (m_hash hu hk ?_)
  unfold dictSetHashed
  try with_reducible refine wpAny_holding ?_
  refine wpAny_bind (m_find (s := { s with toks := s.toks + mDraw P w k }) hu hk hm his (fun hno => ?_) (fun j p hj => ?_))
  · obtain ⟨h1, h2⟩ := mAt_none hno
    refine wpAny_bind (wpAny_rule (wpAny_updateDictKeys (hz := by omega) (s := { s with toks := s.toks + mDraw P w k }) ho hd (hQ _ _ ⟨⟨_, _, ep + 1, Heap.get?_update_self _ ho (Obj.isFreed_of_dict (Obj.data_mapDictKeys hd _)), hc.mapDictKeys _, Obj.data_mapDictKeys hd _, ?_⟩, ?_⟩ (Heap.SameBut.update ..))))
    · unfold mPut
      rw [h1]
      simp [he, mEnt]
    · unfold mPut
      rw [h1]
      simp only [Option.isSome_none, Bool.false_eq_true, if_false]
      rw [List.map_append, List.nodup_append]
      refine ⟨hm.nd, by simp, fun a ha b hb e => ?_⟩
      simp only [List.map_cons, List.map_nil, List.mem_singleton] at hb
      exact h2 (by rw [← hb, ← e]; exact ha)
  · have h1 := mAt_get hm.nd hj
    refine wpAny_bind (wpAny_rule (wpAny_bind (wpAny_updateDict (s := { s with toks := s.toks + mDraw P w k }) ho hd (wpAny_point (hQ _ _ ⟨⟨_, _, ep, Heap.get?_update_self _ ho (Obj.isFreed_of_dict (Obj.data_mapDict hd _)), hc.mapDict _, Obj.data_mapDict hd _, ?_⟩, ?_⟩ (Heap.SameBut.update ..))))))
    · unfold mPut
      rw [h1]
      simp only [Option.isSome_some, if_true]
      rw [Array.toList_modify, he]
      refine List.ext_getElem? fun i => ?_
      rw [List.getElem?_modify, List.getElem?_map, List.getElem?_map, List.getElem?_map]
      cases hx : xs[i]? with
      | none => simp
      | some x =>
        by_cases e : j = i
        · subst e
          rw [hj] at hx
          cases hx
          simp [mEnt]
        · have hne : ¬ x.1 = k := fun z => e (one_place hm.nd hj (show xs[i]? = some (k, x.2) from by rw [hx, ← z]))
          simp [e, hne]
    · unfold mPut
      rw [h1]
      simp only [Option.isSome_some, if_true]
      rw [put_keys]
      exact hm.nd
theorem m_take {d : Addr} {k : MK} {v u : Value} {xs : List ME} {Q : Option DictEntry → Shared → Prop} (hu : A.units < cLine) (hk : mIs P w s.heap k v) (hm : MD P w s.heap d xs) (his : ∀ x ∈ xs, mIs P w s.heap x.1 x.2.1) (hsz : xs.length ≤ sizeLine) (hv : mAt xs k = some u)
    (hQ : ∀ (e : DictEntry) h' tk, e.val = u → MD P w h' d (mDrop xs k) → Heap.SameBut d s.heap h' → Q (some e) { s with heap := h', toks := tk }) : wpAny (model P w) A (Builtin.Dict.takeOut d v) Q E s := by
  obtain ⟨o, es, ep, ho, hc, hd, he⟩ := hm.ex
  have hes : es.size = xs.length := by rw [← Array.length_toList, he, List.length_map]
  unfold Builtin.Dict.takeOut
  try with_reducible refine wpAny_holding ?_
  refine wpAny_bind (m_hash hu hk ?_)
  refine wpAny_bind (m_find (s := { s with toks := s.toks + mDraw P w k }) hu hk hm his (fun hno => ?_) (fun j p hj => ?_))
  · rw [(mAt_none hno).1] at hv
    cases hv
  · rw [mAt_get hm.nd hj] at hv
    obtain rfl := Option.some.inj hv
    refine wpAny_bind (wpAny_dictEntries (s := { s with toks := s.toks + mDraw P w k }) ho hd ?_)
    rw [show es[j]? = some (mEnt P w (k, p)) from by rw [← Array.getElem?_toList, he, List.getElem?_map, hj]; rfl]
    refine wpAny_bind (wpAny_updateDictKeys (hz := by omega) (s := { s with toks := s.toks + mDraw P w k }) ho hd (wpAny_pure (hQ _ _ _ rfl ⟨⟨_, _, ep + 1, Heap.get?_update_self _ ho (Obj.isFreed_of_dict (Obj.data_mapDictKeys hd _)), hc.mapDictKeys _, Obj.data_mapDictKeys hd _, ?_⟩, ?_⟩ (Heap.SameBut.update ..))))
    · rw [← erase_is hm.nd hj]
      obtain ⟨l⟩ := es
      simp only at he
      subst he
      simp [erase_map]
    · unfold mDrop
      exact hm.nd.sublist (List.filter_sublist.map _)
/-! ### at the level of calls -/
theorem m_getItem {d : Addr} {k : MK} {v u : Value} {xs : List ME} {Q : Value → Shared → Prop} (hu : A.units + 1 < cLine) (hk : mIs P w s.heap k v) (hm : MD P w s.heap d xs) (his : ∀ x ∈ xs, mIs P w s.heap x.1 x.2.1) (hv : mAt xs k = some u)
    (h : ∀ tk, Q u { s with toks := tk }) : wpAny (model P w) A (getItem (.ref d) v) Q E s := by
  unfold getItem
  try with_reducible refine wpAny_holding ?_
  refine wpAny_bind (wpAny_sequenceKey hm.typeIs (by decide) ?_)
  refine wpAny_bind (wpAny_callSpecial?_slot (name := Str.ofString "__getitem__") hm.typeIs slot_dict_getitem (wpAny_call_entry slot_dict_getitem hm.typeIs entry_dict_getitem ?_ (args_dict_getitem _ _)))
  show wpAny _ _ (dictGet d v >>= _) _ _ s
  refine wpAny_bind (m_get hu hk hm his ?_)
  rw [hv]
  exact wpAny_pure ⟨u, rfl, wpAny_pure (h _)⟩
theorem m_in {d : Addr} {k : MK} {v : Value} {xs : List ME} {Q : Value → Shared → Prop} (hu : A.units + 1 < cLine) (hk : mIs P w s.heap k v) (hd : (d == sysModules) = false) (hm : MD P w s.heap d xs) (his : ∀ x ∈ xs, mIs P w s.heap x.1 x.2.1)
    (h : ∀ tk, Q (.bool (mAt xs k).isSome) { s with toks := tk }) : wpAny (model P w) A (compareOp .In v (.ref d)) Q E s := by
  show wpAny _ _ (do return .bool (← contains (.ref d) v)) Q E s
  refine wpAny_bind ?_
  unfold contains
  try with_reducible refine wpAny_holding ?_
  refine wpAny_bind (wpAny_specialOf hm.typeIs slot_dict_contains.lookup ?_)
  show wpAny _ _ (if (some (Value.builtin "dict.__contains__") == some Value.none) = true then _ else _) _ E s
  rw [if_neg (by rw [beq_builtin_none]; exact Bool.false_ne_true)]
  refine wpAny_bind (wpAny_callSpecialUnlessNone?_slot (name := Str.ofString "__contains__") hm.typeIs slot_dict_contains (wpAny_call_entry slot_dict_contains hm.typeIs entry_dict_contains ?_ (args_dict_contains _ _)))
  show wpAny _ _ (dictGet d v >>= _) _ _ s
  refine wpAny_bind (m_get hu hk hm his ?_)
  cases hf : mAt xs k with
  | some p =>
    rw [hf] at h
    show wpAny _ _ (ret (.bool true)) _ _ _
    exact wpAny_pure ⟨_, rfl, wpAny_truthy_bool (wpAny_pure (h _))⟩
  | none =>
    rw [hf] at h
    show wpAny _ _ (Builtin.Dict.pendingKey? d v >>= _) _ _ _
    exact wpAny_bind (wpAny_pendingKey_other hd (wpAny_pure ⟨_, rfl, wpAny_truthy_bool (wpAny_pure (h _))⟩))
theorem m_setItem {d : Addr} {k : MK} {v u : Value} {xs : List ME} {Q : Unit → Shared → Prop} (hu : A.units + 1 < cLine) (hk : mIs P w s.heap k v) (hm : MD P w s.heap d xs) (his : ∀ x ∈ xs, mIs P w s.heap x.1 x.2.1) (hsz : xs.length ≤ sizeLine)
    (hQ : ∀ h' tk, MD P w h' d (mPut xs k v u) → Heap.SameBut d s.heap h' → Q () { s with heap := h', toks := tk }) : wpAny (model P w) A (setItem (.ref d) v u) Q E s := by
  unfold setItem
  try with_reducible refine wpAny_holding ?_
  refine wpAny_bind (wpAny_sequenceKey hm.typeIs (by decide) ?_)
  refine wpAny_bind (wpAny_callSpecial?_slot (name := Str.ofString "__setitem__") hm.typeIs slot_dict_setitem (wpAny_call_entry slot_dict_setitem hm.typeIs entry_dict_setitem ?_ (args_dict_setitem _ _ _)))
  show wpAny _ _ (Builtin.Dict.notOrdered "__setitem__" ⟨[.ref d, v, u], []⟩ >>= _) _ _ s
  refine wpAny_bind (wpAny_notOrdered_dict hm.typeIs ?_)
  show wpAny _ _ (dictSet d v u >>= _) _ _ s
  exact wpAny_bind (m_set hu hk hm his hsz fun h' tk hm' hs' => wpAny_pure ⟨.none, rfl, wpAny_pure (hQ h' tk hm' hs')⟩)
/-- d.pop(i) of an int that is there -/
theorem m_pop {d : Addr} {i : Int} {t : Tok} {u : Value} {xs : List ME} {Q : Value → Shared → Prop} (hu : A.units + 1 < cLine) (hm : MD P w s.heap d xs) (his : ∀ x ∈ xs, mIs P w s.heap x.1 x.2.1) (hsz : xs.length ≤ sizeLine) (hv : mAt xs (.inl i) = some u)
    (hQ : ∀ h' tk, MD P w h' d (mDrop xs (.inl i)) → Heap.SameBut d s.heap h' → Q u { s with heap := h', toks := tk }) : wpAny (model P w) A (call (.builtin "dict.pop") [.ref d, .int i t]) Q E s := by
  have M : MeetsIn P w (Builtin.«dict.pop» ⟨[.ref d, .int i t], []⟩) (fun A R s => A.in1.units < cLine ∧ ∃ xs, MD P w s.heap d xs ∧ (∀ x ∈ xs, mIs P w s.heap x.1 x.2.1) ∧ xs.length ≤ sizeLine ∧ mAt xs (.inl i) = some u ∧
      ∀ h' tk, MD P w h' d (mDrop xs (.inl i)) → Heap.SameBut d s.heap h' → R (.ok (.ret u)) { s with heap := h', toks := tk }) :=
    .of_wp fun A R s ⟨hu, xs, hm, his, hsz, hv, h⟩ => by
      unfold Builtin.«dict.pop»
      refine wpAny_bind ?_
      unfold Builtin.Dict.keyAndDefault
      refine wpAny_bind (wpAny_notOrdered_dict hm.typeIs ?_)
      show wpAny _ _ (pure (d, Value.int i t, none)) _ _ s
      refine wpAny_pure ?_
      simp only [show (keyPart (Value.int i t)).isSome = true from rfl, if_true]
      refine wpAny_bind (wpAny_pure ?_)
      simp only [Bool.false_eq_true, if_false]
      refine wpAny_bind (m_take hu (show mIs P w s.heap (.inl i) (.int i t) from ⟨t, rfl⟩) hm his hsz hv fun e h' tk he hm' hs' => ?_)
      simp only [Option.isNone_some, Bool.false_eq_true, if_false]
      exact wpAny_bind (wpAny_letGo (wpAny_pure ⟨e.val, rfl, by rw [he]; exact h h' tk hm' hs'⟩))
  exact call_meetsIn PySem.F.slot_dict_pop hm.typeIs PySem.F.entry_dict_pop (PySem.F.args_dict_pop_2 _ _) M ⟨hu, xs, hm, his, hsz, hv, hQ⟩
end
/-! ### tracked -/
abbrev MV := MK × V × V
abbrev MP : List MV → List ME → Prop := Paired fun p q => p.1 = q.1 ∧ RelV p.2.1 q.2.1 ∧ RelV p.2.2 q.2.2
def mxOk (P : Program) (w : World) (a : Addr) (kvs : List MV) : Heap → Prop := fun h => kvs.length ≤ sizeLine ∧ (a == sysModules) = false ∧ ∃ xs, MP kvs xs ∧ MD P w h a xs
def mxO (P : Program) (w : World) (a : Addr) (kvs : List MV) : HO := .ext (mxOk P w a kvs)
def mVal (kvs : List MV) (k : MK) : Option V := (kvs.find? fun x => decide (x.1 = k)).map (·.2.2)
def vPut (kvs : List MV) (k : MK) (key v : V) : List MV := if (mVal kvs k).isSome then kvs.map (fun x => if x.1 = k then (x.1, x.2.1, v) else x) else kvs ++ [(k, key, v)]
def vDrop (kvs : List MV) (k : MK) : List MV := kvs.filter fun x => decide (x.1 ≠ k)
/-- what a key looks like -/
def keyV (H : Hp) : MK → V → Prop
  | .inl i, v => v = .int i
  | .inr ks, v => ∃ b, v = .ref b ∧ H b = some (.tup (ks.map kV))
def KeysAt (H : Hp) (kvs : List MV) : Prop := ∀ x ∈ kvs, keyV H x.1 x.2.1
theorem MP.val {k : MK} : ∀ {kvs : List MV} {xs : List ME}, MP kvs xs → RelO (mVal kvs k) (mAt xs k)
  | _, _, .nil => True.intro
  | p :: ps, q :: qs, .cons ⟨h1, _, h3⟩ t => by
    have ih := MP.val (k := k) t
    unfold mVal mAt at ih ⊢
    rw [List.find?_cons, List.find?_cons, ← h1]
    by_cases e : p.1 = k
    · rw [decide_eq_true e]; exact h3
    · rw [decide_eq_false e]; exact ih
theorem MP.len : ∀ {kvs : List MV} {xs : List ME}, MP kvs xs → kvs.length = xs.length
  | _, _, .nil => rfl
  | _, _, .cons _ t => by rw [List.length_cons, List.length_cons, MP.len t]
theorem MP.app : ∀ {kvs ks : List MV} {xs ys : List ME}, MP kvs xs → MP ks ys → MP (kvs ++ ks) (xs ++ ys)
  | _, _, _, _, .nil, h => h
  | _, _, _, _, .cons a t, h => .cons a (MP.app t h)
theorem MP.repl {k : MK} {v : V} {u : Value} (rv : RelV v u) : ∀ {kvs : List MV} {xs : List ME}, MP kvs xs → MP (kvs.map fun x => if x.1 = k then (x.1, x.2.1, v) else x) (xs.map fun x => if x.1 = k then (x.1, x.2.1, u) else x)
  | _, _, .nil => .nil
  | p :: ps, q :: qs, .cons ⟨h1, h2, h3⟩ t => by
    rw [List.map_cons, List.map_cons]
    refine .cons ?_ (MP.repl rv t)
    rw [← h1]
    by_cases e : p.1 = k
    · rw [if_pos e, if_pos e]; exact ⟨rfl, h2, rv⟩
    · rw [if_neg e, if_neg e]; exact ⟨h1, h2, h3⟩
theorem MP.put {k : MK} {key v : V} {ku u : Value} (rk : RelV key ku) (rv : RelV v u) {kvs : List MV} {xs : List ME} (h : MP kvs xs) : MP (vPut kvs k key v) (mPut xs k ku u) := by
  unfold vPut mPut
  have e := (h.val (k := k)).isSome_eq
  rw [e]
  split
  · exact h.repl rv
  · exact h.app (.cons ⟨rfl, rk, rv⟩ .nil)
theorem MP.drop {k : MK} : ∀ {kvs : List MV} {xs : List ME}, MP kvs xs → MP (vDrop kvs k) (mDrop xs k)
  | _, _, .nil => .nil
  | p :: ps, q :: qs, .cons ⟨h1, h2, h3⟩ t => by
    have ih := MP.drop (k := k) t
    unfold vDrop mDrop at ih ⊢
    rw [List.filter_cons, List.filter_cons, ← h1]
    by_cases e : p.1 = k
    · rw [if_neg (by simp [e]), if_neg (by simp [e])]; exact ih
    · rw [if_pos (decide_eq_true e), if_pos (decide_eq_true e)]; exact .cons ⟨h1, h2, h3⟩ ih
theorem vPut_len {kvs : List MV} {k : MK} {key v : V} : (vPut kvs k key v).length ≤ kvs.length + 1 := by
  unfold vPut
  split
  · rw [List.length_map]; omega
  · rw [List.length_append, List.length_singleton]; exact Nat.le_refl _
section
variable {X : Cx} {pins : List (Addr × Obj)} {σ : L2.St} {H : Hp} {s : Shared} {a : Addr} {kvs : List MV}
theorem mx_at (I : Inv X pins σ H s) (e : H a = some (mxO X.prog X.w a kvs)) : mxOk X.prog X.w a kvs s.heap := (show ObjOk X.prog X.w H s.heap a (mxO X.prog X.w a kvs) from I.hok a _ e).1
theorem mx_st {P : Program} {w : World} {h1 h2 : Heap} (x : mxOk P w a kvs h1) (k : ∀ o, h1.get? a = some o → h2.get? a = some o) : mxOk P w a kvs h2 := by
  obtain ⟨z, y, xs, hp, ⟨o, es, ep, ho, r⟩, nd⟩ := x
  exact ⟨z, y, xs, hp, ⟨o, es, ep, k o ho, r⟩, nd⟩
theorem mx_obj {P : Program} {w : World} {h : Heap} (x : mxOk P w a kvs h) : ObjOk P w H h a (mxO P w a kvs) := by
  obtain ⟨z, y, xs, hp, ⟨o, es, ep, ho, r⟩, nd⟩ := id x
  exact ⟨x, ⟨o, ho⟩, fun h1 h2 x1 k => mx_st x1 k⟩
theorem key_is {P : Program} {w : World} {h : Heap} (ok : HOk P w H h) {k : MK} {y : V} {u : Value} (hk : keyV H k y) (r : RelV y u) : mIs P w h k u := by
  cases k with
  | inl i =>
    have hk : y = .int i := hk
    subst hk
    exact r
  | inr ks =>
    obtain ⟨b, rfl, hb⟩ := hk
    cases (show u = Value.ref b from r)
    exact ⟨b, rfl, key_of ok hb⟩
theorem keys_are {P : Program} {w : World} {h : Heap} (ok : HOk P w H h) : ∀ {kvs : List MV} {xs : List ME}, MP kvs xs → KeysAt H kvs → ∀ x ∈ xs, mIs P w h x.1 x.2.1
  | _, _, .nil, _, _, hx => by cases hx
  | p :: ps, q :: qs, .cons ⟨h1, h2, _⟩ t, hk, x, hx => by
    rcases List.mem_cons.mp hx with rfl | hx
    · rw [← h1]
      exact key_is ok (hk p List.mem_cons_self) h2
    · exact keys_are ok t (fun y hy => hk y (List.mem_cons_of_mem _ hy)) x hx
theorem mx_write {h' : Heap} {t' : Nat} {kvs' : List MV} (I : Inv X pins σ H s) (e : H a = some (mxO X.prog X.w a kvs)) (hs : Heap.SameBut a s.heap h') (x : mxOk X.prog X.w a kvs' h') : Inv X pins σ (upd H a (mxO X.prog X.w a kvs')) { s with heap := h', toks := t' } := by
  have he : ∃ q, h'.get? a = some q := by
    obtain ⟨_, _, _, _, ⟨o, _, _, ho, _⟩, _⟩ := id x
    exact ⟨o, ho⟩
  exact d_write I (by rw [e]; exact True.intro) hs he (mx_obj x)
end
/-- d[k], d a dict of this kind -/
def rMGet (P : Program) (w : World) : R2 := fun x y H Q => ∃ a kvs k v, x = .ref a ∧ H a = some (mxO P w a kvs) ∧ KeysAt H kvs ∧ keyV H k y ∧ mVal kvs k = some v ∧ Q v H
def tMIn (P : Program) (w : World) (ty td : TE) : TE := fun σ H Q => ty σ H fun y H1 => td σ H1 fun x H2 => ∃ a kvs k, x = .ref a ∧ H2 a = some (mxO P w a kvs) ∧ KeysAt H2 kvs ∧ keyV H2 k y ∧ Q (.bl (mVal kvs k).isSome) H2
def sMPut (P : Program) (w : World) (td ty tv : TE) : TS := fun D σ H => tv σ H fun v H1 => td σ H1 fun x H2 => ty σ H2 fun y H3 => ∃ a kvs k, x = .ref a ∧ H3 a = some (mxO P w a kvs) ∧ KeysAt H3 kvs ∧ keyV H3 k y ∧ kvs.length < sizeLine ∧ D.nx σ (upd H3 a (mxO P w a (vPut kvs k y v)))
def tMPop (P : Program) (w : World) (td ty : TE) : TE := fun σ H Q => td σ H fun x H1 => ∃ a kvs0, x = .ref a ∧ H1 a = some (mxO P w a kvs0) ∧ ty σ H1 fun y H2 => ∃ kvs i v, H2 a = some (mxO P w a kvs) ∧ KeysAt H2 kvs ∧ y = .int i ∧ mVal kvs (.inl i) = some v ∧ Q v (upd H2 a (mxO P w a (vDrop kvs (.inl i))))
def tMNew (P : Program) (w : World) : TE := fun _ H Q => ∀ p, H p = none → Q (.ref p) (upd H p (mxO P w p []))
section
variable {X : Cx} {o i value : Expr} {pos pos' apos cpos : Pos} {td ty tv : TE}
theorem pe_mnew : PE X (.Dict [] [] pos) (tMNew X.prog X.w) := ⟨fun pins s σ H Q I h =>
  wpAny_Dict_empty ⟨.ref s.heap.objs.size, _, I.laid (a := s.heap.objs.size) (o := mxO X.prog X.w s.heap.objs.size []) (t' := s.toks) (fun _ _ q => Heap.get?_push_of_some _ q) (Nat.le_refl _)
    (mx_obj ⟨Nat.zero_le _, beq_eq_false_iff_ne.mpr (Ne.symm (Nat.ne_of_lt I.big)), [], .nil, ⟨_, #[], 0, Heap.get?_push_size _ rfl, ⟨rfl, rfl, rfl⟩, rfl, rfl⟩, List.nodup_nil⟩), rfl, h _ (I.hok.fresh (Nat.le_refl _))⟩⟩
theorem pe_mget (hu : X.A.units + 1 < cLine) (ho : PE X o td) (hi : PE X i ty) (hs : NoSl i) : PE X (.Subscript o i pos) (tOp (rMGet X.prog X.w) td ty) := by
  refine ⟨fun pins s σ H Q I h => ?_⟩
  refine subD_of PySem.F.slot_dict_getitem.lookup hs (thn (ho.run pins s σ H _ I h) fun u s1 ⟨x, H1, I1, rx, q1⟩ => thn (hi.run pins s1 σ H1 _ I1 q1) fun iv s2 ⟨y, H2, I2, ry, a, kvs, k, v, ex, e, hka, hk, hv, q2⟩ => ?_)
  subst ex
  obtain rfl : u = Value.ref a := rx
  obtain ⟨_, _, xs, hp, hm⟩ := mx_at I2 e
  obtain ⟨w', hw, rw'⟩ := RelO.some_of (v := v) (o := mAt xs k) (by rw [← hv]; exact hp.val)
  exact ⟨hm.typeIs, m_getItem hu (key_is I2.hok hk ry) hm (keys_are I2.hok hp hka) hw fun tk => ⟨v, H2, I2.tok _, rw', q2⟩⟩
theorem pc_min (hu : X.A.units + 1 < cLine) (hi : PE X i ty) (ho : PE X o td) : PC X .In i o (tMIn X.prog X.w ty td) := by
  refine ⟨fun pins s σ H Q I h => ?_⟩
  refine thn (hi.run pins s σ H _ I h) fun iv s1 ⟨y, H1, I1, ry, q1⟩ => thn (ho.run pins s1 σ H1 _ I1 q1) fun u s2 ⟨x, H2, I2, rx, a, kvs, k, ex, e, hka, hk, q2⟩ => ?_
  subst ex
  obtain rfl : u = Value.ref a := rx
  obtain ⟨_, hd, xs, hp, hm⟩ := mx_at I2 e
  refine m_in hu (key_is I2.hok hk ry) hd hm (keys_are I2.hok hp hka) fun tk => ⟨.bl (mVal kvs k).isSome, H2, I2.tok _, ?_, q2⟩
  show Value.bool _ = Value.bool _
  rw [(hp.val (k := k)).isSome_eq]
theorem ps_mput (hu : X.A.units + 1 < cLine) (ho : PE X o td) (hi : PE X i ty) (hv : PE X value tv) (hs : swapsWith value (some (.Subscript o i pos')) pos.line X.env = pure false) :
    PS X (.Assign [.Subscript o i pos'] value pos) (sMPut X.prog X.w td ty tv) := by
  refine ⟨fun pins s σ H D I h => ?_⟩
  refine wpAny_Assign_Subscript (thn (hv.run pins s σ H _ I h) fun r s1 ⟨v, H1, I1, rv, q1⟩ => thn (ho.run pins s1 σ H1 _ I1 q1) fun u s2 ⟨x, H2, I2, rx, q2⟩ => thn (hi.run pins s2 σ H2 _ I2 q2) fun iv s3 ⟨y, H3, I3, ry, a, kvs, k, ex, e, hka, hk, hl, q3⟩ => ?_) hs
  subst ex
  obtain rfl : u = Value.ref a := rx
  obtain ⟨z, hd, xs, hp, hm⟩ := mx_at I3 e
  refine m_setItem hu (key_is I3.hok hk ry) hm (keys_are I3.hok hp hka) (by rw [← hp.len]; exact z) fun h' tk hm' hs' => ⟨σ, _, mx_write I3 e hs' ⟨?_, hd, _, hp.put ry rv, hm'⟩, q3⟩
  have := vPut_len (kvs := kvs) (k := k) (key := y) (v := v)
  omega
theorem pe_mpop (hu : X.A.units + 1 < cLine) (ho : PE X o td) (hi : PE X i ty) (m : M1 X o "pop" apos i cpos) : PE X (.Call (.Attribute o "pop" apos) [i] [] cpos) (tMPop X.prog X.w td ty) := by
  refine ⟨fun pins s σ H Q I h => ?_⟩
  refine wpAny_Call_method m.base m.few m.line PySem.F.plainAttrs_dict PySem.F.slot_dict_pop PySem.F.type_dict_pop (thn (ho.run pins s σ H _ I h) fun u s1 ⟨x, H1, I1, rx, a, kvs0, ex, e0, q1⟩ => ?_)
  subst ex
  obtain rfl : u = Value.ref a := rx
  obtain ⟨_, _, _, _, hm0⟩ := mx_at I1 e0
  refine ⟨hm0.typeIs, fun b q => ?_, ?_⟩
  · cases q
    obtain ⟨ob, _, _, h1, h2, _⟩ := hm0.ex
    exact ⟨ob, h1, h2.2.1⟩
  rw [m.trees]
  refine Calls.callWith_builtin rfl (Calls.evalArgs_plain (Calls.spliced_cons (thn (hi.run pins s1 σ H1 _ I1 q1) fun iv s2 ⟨y, H2, I2, ry, kvs, i, v, e, hka, ey, hv, q2⟩ => Calls.spliced_nil ?_)))
  subst ey
  obtain ⟨t, rfl⟩ := ry
  obtain ⟨z, hd, xs, hp, hm⟩ := mx_at I2 e
  obtain ⟨w', hw, rw'⟩ := RelO.some_of (v := v) (o := mAt xs (.inl i)) (by rw [← hv]; exact hp.val)
  refine m_pop hu hm (keys_are I2.hok hp hka) (by rw [← hp.len]; exact z) hw fun h' tk hm' hs' => ⟨v, _, mx_write I2 e hs' ⟨Nat.le_trans (List.length_filter_le _ _) z, hd, _, hp.drop, hm'⟩, rw', q2⟩
end
end Mx


set_option linter.unusedVariables false
/-! targets that are attributes; lambdas within a comprehension that capture its names -/
namespace Sd
open PySem PySem.Spec PyProof.Rows L2 LamX NdefX
/-- o.f = .., as a target -/
def gFld (K : PySem.W.Frag) (to : TE) (f : Str) : TG := fun v σ H Q => to σ H fun x H1 => ∃ a C dx fs, x = .ref a ∧ H1 a = some (.ins C dx fs) ∧ Cls K C ∧ NoAttr K C f ∧ fs.length < 1000 ∧ Q σ (upd H1 a (.ins C dx (putF f v fs)))
theorem pg_fld {X : Cx} {o : Expr} {f : Str} {pos : Pos} {to : TE} (ho : PE X o to) : PG X (.Attribute o f pos) (gFld X.K to f) := by
  refine ⟨fun pins s σ H v u Q I r h => ?_⟩
  rw [assign_Attribute]
  refine wpAny_bind (wpAny_holding (thn (ho.run pins s σ H _ I h) fun ov s1 ⟨x, H1, I1, r1, a, C, dx, fs, ex, ea, c, n, l, q1⟩ => ?_))
  subst ex
  obtain rfl : ov = Value.ref a := r1
  exact wpAny_bind (wpAny_standAt (wpAny_bind (wpAny_holding (setattr_ok I1 ea c n l r fun s3 I3 => wpAny_release ⟨σ, _, I3, q1⟩))))
section
variable {X : Cx} {cl : List (Str × Addr)} {fr : List Str} {js : List Nat} {pins : List (Addr × Obj)} {σ : L2.St} {H : Hp} {s : Shared}
/-- as CellsO.made, for a frame some of whose names alone are its own -/
theorem CellsO.madeB (hfn : ∀ y c, cl.lookup y = some c → X.fn y = true) (I : Inv X pins σ H s) (c : Caps X cl fr js) : CellsO cl fr (js.map (slotAt σ)) X.stack s.heap H := by
  refine ⟨cells_of I c, fun y a e hb => ?_⟩
  have e1 := c.sub y a e
  rcases List.mem_cons.mp (I.stkSub a hb) with z | z
  · exact I.cne y a e1 z
  · obtain ⟨_, o, ho, _⟩ := I.ok.funs.mem z
    exact absurd (Nat.lt_of_lt_of_le (Heap.lt_size ho) (I.ok.cab y a (hfn y a e) e1)) (Nat.lt_irrefl _)
end
/-- a reading that is told for all there may be -/
theorem pe_inst {X : Cx} {e : Expr} {α : Type} {t : α → TE} (a : α) (h : PE X e (t a)) : PE X e (fun σ H Q => ∀ x, t x σ H Q) := ⟨fun pins s σ H Q I h' => h.run pins s σ H Q I (h' a)⟩
end Sd


namespace Sd
open PySem L2
open C8 (Cal Met Mak pe_c pe_mk pe_mt pe_mt0 tCut)
def top (i : Nat) : Stmt := PySem.Challenge.pw_shardstack_k13_leases_by_clocks_that_dri.main.body.getD i (.Pass ⟨0, 0, 0, 0⟩)
abbrev sDice : Stmt := top 12
abbrev sRoll : Stmt := top 13
abbrev sTold : Stmt := top 15
abbrev sRounds : Stmt := top 14

structure TxtL (mg : Str → Option Value) : Prop where
  abs : mg "abs" = none
  int : mg "int" = none
set_option linter.unusedSimpArgs false
set_option pp.deepTerms false
set_option pp.deepTerms.threshold 12
set_option hygiene false
local macro_rules | `(tactic| fail "nd") => `(tactic| first | assumption | decide +kernel)
local macro_rules | `(tactic| fail "ix") => `(tactic| first | exact ⟨0, rfl⟩ | exact ⟨1, rfl⟩ | exact ⟨2, rfl⟩ | exact ⟨3, rfl⟩ | exact ⟨4, rfl⟩ | exact ⟨5, rfl⟩ | exact ⟨6, rfl⟩ | exact ⟨7, rfl⟩ | exact ⟨8, rfl⟩ | exact ⟨9, rfl⟩ | exact ⟨10, rfl⟩ | exact ⟨11, rfl⟩ | exact ⟨12, rfl⟩ | exact ⟨13, rfl⟩ | exact ⟨14, rfl⟩ | exact ⟨15, rfl⟩ | exact ⟨16, rfl⟩ | exact ⟨17, rfl⟩ | exact ⟨18, rfl⟩ | assumption)
local macro_rules | `(tactic| fail "up") => `(tactic| first | exact ⟨0, rfl, rfl⟩ | exact ⟨1, rfl, rfl⟩ | exact ⟨2, rfl, rfl⟩ | exact ⟨3, rfl, rfl⟩ | exact ⟨4, rfl, rfl⟩ | exact ⟨5, rfl, rfl⟩ | exact ⟨6, rfl, rfl⟩ | exact ⟨7, rfl, rfl⟩ | exact ⟨8, rfl, rfl⟩ | exact ⟨9, rfl, rfl⟩ | exact ⟨10, rfl, rfl⟩ | exact ⟨11, rfl, rfl⟩ | exact ⟨12, rfl, rfl⟩ | exact ⟨13, rfl, rfl⟩ | exact ⟨14, rfl, rfl⟩ | exact ⟨15, rfl, rfl⟩ | exact ⟨16, rfl, rfl⟩ | assumption)
local macro_rules | `(tactic| fail "lkF") => `(tactic| first | assumption | exact fz_at 0 (by fail "nd") rfl rfl | exact fz_at 1 (by fail "nd") rfl rfl | exact fz_at 2 (by fail "nd") rfl rfl | exact fz_at 3 (by fail "nd") rfl rfl | exact fz_at 4 (by fail "nd") rfl rfl | exact fz_at 5 (by fail "nd") rfl rfl | exact fz_at 6 (by fail "nd") rfl rfl | exact fz_at 7 (by fail "nd") rfl rfl)
local macro_rules | `(tactic| fail "lkD") => `(tactic| first | assumption | exact dz_at 0 (by fail "nd") rfl rfl | exact dz_at 1 (by fail "nd") rfl rfl | exact dz_at 2 (by fail "nd") rfl rfl | exact dz_at 3 (by fail "nd") rfl rfl | exact dz_at 4 (by fail "nd") rfl rfl)
local macro_rules | `(tactic| fail "ptF") => `(tactic| first | assumption | exact fz_put 0 (by fail "nd") rfl (Nat.le_of_ble_eq_true rfl) | exact fz_put 1 (by fail "nd") rfl (Nat.le_of_ble_eq_true rfl) | exact fz_put 2 (by fail "nd") rfl (Nat.le_of_ble_eq_true rfl) | exact fz_put 3 (by fail "nd") rfl (Nat.le_of_ble_eq_true rfl) | exact fz_put 4 (by fail "nd") rfl (Nat.le_of_ble_eq_true rfl) | exact fz_put 5 (by fail "nd") rfl (Nat.le_of_ble_eq_true rfl) | exact fz_put 6 (by fail "nd") rfl (Nat.le_of_ble_eq_true rfl) | exact fz_put 7 (by fail "nd") rfl (Nat.le_of_ble_eq_true rfl) | exact fz_new (by decide +kernel) rfl)
local macro_rules | `(tactic| fail "ptD") => `(tactic| first | assumption | exact dz_put 0 (by fail "nd") rfl (Nat.le_of_ble_eq_true rfl) | exact dz_put 1 (by fail "nd") rfl (Nat.le_of_ble_eq_true rfl) | exact dz_put 2 (by fail "nd") rfl (Nat.le_of_ble_eq_true rfl) | exact dz_put 3 (by fail "nd") rfl (Nat.le_of_ble_eq_true rfl) | exact dz_put 4 (by fail "nd") rfl (Nat.le_of_ble_eq_true rfl))
local macro_rules | `(tactic| fail "sz") => `(tactic| first | assumption | exact (Nat.le_of_ble_eq_true rfl) | omega | decide)
local macro_rules | `(tactic| fail "sd") => `(tactic| first | rfl | assumption | decide | omega | (dsimp only; first | decide | omega) | exact .inr ⟨by decide, by decide⟩ | exact .inl ⟨by decide, by decide⟩ | exact ⟨by omega, by omega⟩ | exact .inl ⟨by omega, by omega⟩ | exact .inr ⟨by omega, by omega⟩ | exact ⟨by omega, by omega, by omega⟩)
local macro_rules | `(tactic| fail "cl") => `(tactic| (clear hH; dsimp only [List.set, List.cons_append, List.nil_append, List.append] at hL))
local macro_rules | `(tactic| fail "gn") => `(tactic| (intro p hp; generalize hH : upd H p _ = H; replace hL := Led.newH hL hp hH; clear hH hp))
local macro_rules | `(tactic| fail "gup") => `(tactic| (generalize hH : upd H _ _ = H; replace hL := Led.upU hL (by fail "up") hH; fail "cl"))
local macro_rules | `(tactic| fail "gmk") => `(tactic| (intro x dx hx hd ne; generalize hH : upd (upd H dx _) x _ = H; replace hL := Led.made hL hx hd ne hH; clear hH hx hd ne))
local macro_rules | `(tactic| fail "v") => `(tactic| refine ⟨_, rfl, ?_⟩)
local macro_rules | `(tactic| fail "i2") => `(tactic| refine ⟨_, _, rfl, rfl, ?_⟩)
local macro_rules | `(tactic| fail "go1") => `(tactic| first
  | refine ⟨_, rfl, ?_⟩
  | refine ⟨_, _, rfl, rfl, ?_⟩
  | refine ⟨_, _, rfl, ?_⟩
  | refine iteT ?_
  | refine iteF ?_
  | refine k_fld hL (by fail "ix") (by assumption) (by assumption) (by fail "lkF") ?_
  | refine k_dgetS hL (by fail "ix") (by fail "lkD") ?_
  | refine k_dgetI hL (by fail "ix") (by assumption) ?_
  | refine k_ixL hL (by fail "ix") (by first | rfl | assumption) ?_
  | refine k_ixT hL (by fail "ix") (by first | rfl | assumption) ?_
  | refine k_tyL hL (by fail "ix") ?_
  | refine k_isd hL (by fail "ix") ?_
  | (refine And.intro (by fail "sz") ?_; fail "gn")
  | refine And.intro (by fail "sd") ?_
  | fail "gn"
  | refine k_meth hL (by fail "ix") (by first | assumption | exact fz_no (by decide +kernel)) ?_
  | refine k_gtup hL (by fail "ix") rfl ?_
  | (refine k_popI hL (by fail "ix") (by assumption) ?_; fail "gup")
  | (refine k_listD hL (by fail "ix") ?_; fail "gn")
  | (refine ⟨_, _, _, _, rfl, rfl, hL.at (by fail "ix"), rfl, ?_⟩; fail "gup")
  | (refine ⟨_, _, _, rfl, rfl, hL.at (by fail "ix"), (by fail "sz"), ?_⟩; fail "gup")
  | (refine ⟨_, _, _, _, rfl, hL.at (by fail "ix"), by assumption, by assumption, Nat.lt_of_le_of_lt fz_len (by decide), ?_⟩; generalize hH : upd H _ _ = H; replace hL := Led.upF hL (by fail "up") (by fail "ptF") hH; fail "cl")
  | (refine ⟨_, _, hL.at (by fail "ix"), Nat.lt_of_le_of_lt fz_len (by decide), ?_⟩; generalize hH : upd H _ _ = H; replace hL := Led.upF hL (by fail "up") (by fail "ptF") hH; fail "cl")
  | (refine k_dputS hL (by fail "ix") (Nat.lt_of_le_of_lt dz_len (by decide)) (by fail "ptD") (by fail "up") ?_; clear hL; intro H hL; dsimp only [List.set, List.cons_append, List.nil_append, List.append] at hL)
  | refine k_lenL2 hL (by fail "ix") ?_
  | refine k_lenT2 hL (by fail "ix") ?_
  | refine .inl ⟨_, rfl, ?_⟩
  | refine .inr ⟨_, rfl, ?_⟩)
local macro_rules | `(tactic| fail "go") => `(tactic| repeat fail "go1")
local macro_rules | `(tactic| fail "pm") => `(tactic| (refine Led.le hL (fun a_ => ?_); simp only [cnt_nil, cnt_cons, cnt_app, List.map_append, List.map_cons, List.map_nil, List.flatMap_append, List.flatMap_cons, List.flatMap_nil, List.append_assoc, List.cons_append, List.nil_append]; omega))

def dD (a b c : Int) : HO := .lst [.int a, .int b, .int c]
def spDice : Sp := fun vs H Q _ => ∃ (c : Int) (L : Lg), vs = [.int c] ∧ Led H L ∧ ∀ (a b d : Int) (p : Addr) (H' : Hp), Led H' ((p, dD a b d) :: L) → Q (.ref p) H'
def spRoll : Sp := fun vs H Q _ => ∃ (l : Addr) (a b c m : Int) (R : Lg), vs = [.ref l, .int m] ∧ Led H ((l, dD a b c) :: R) ∧ 1 ≤ m ∧ m ≤ 100000000 ∧
  ∀ (r a' b' c' : Int) (H' : Hp), 0 ≤ r → r < m → Led H' ((l, dD a' b' c') :: R) → Q (.int r) H'
section
variable {P : Program} {w : World} {K : PySem.W.Frag} {mg : Str → Option Value} {base : Heap}
theorem scDice : FnScope ["cell"] ["cell"] (defScope sDice) := ⟨rfl, rfl, rfl, by decide +kernel, rfl, by decide +kernel, by decide +kernel⟩
theorem ok_dice {f : Addr} {fd : FuncData} (F : Fun K "_law_dice" "_law_dice" sDice f fd) (T : TxtL mg) : FnOk P w K mg base CX0 1 f fd ["cell"] spDice := by
  refine F.ok scDice (fun vs H Q E h => ?_) (fun cdv A outer s H vs Q E hr h => ?_)
  · obtain ⟨c, L, rfl, _⟩ := h
    rfl
  · obtain ⟨c, L, rfl, hL, k⟩ := h
    refine ⟨_, pss_cons (ps_if (pt_chain op_lt op_lt (pe_op op_sub pe_int pe_int) (pv 0) pe_int) (pss_one (ps_ret (pe_lst (pa_cons (pe_callB call_abs (by rfl) T.abs (by decide +kernel) (pa_cons (pv 0) pa_nil)) (pa_cons pe_int (pa_cons pe_int pa_nil)))))) pss_nil)
      (pss_one (ps_ret (pe_lst (pa_cons (pv 0) (pa_cons (pe_op op_add pe_int (pe_op op_mod (pe_callTy call_int1 (by rfl) T.int (by decide +kernel) (pa_cons (pv 0) pa_nil)) pe_int)) (pa_cons (pe_callTy call_int1 (by rfl) T.int (by decide +kernel) (pa_cons (pe_cmpR op_ge (pv 0) (pe_op op_pow pe_int pe_int) (nomark _)) pa_nil)) pa_nil)))))), ?_⟩
    fail "go"
    refine ite_d (fun h1 => ?_) (fun h1 => ?_)
    · fail "go"
      refine ite_d (fun h2 => ?_) (fun h2 => ?_)
      · fail "go"
        exact k _ _ _ _ _ hL
      · fail "go"
        exact k _ _ _ _ _ hL
    · fail "go"
      exact k _ _ _ _ _ hL
theorem scRoll : FnScope ["dice", "many", "found"] ["dice", "many"] (defScope sRoll) := ⟨rfl, rfl, rfl, by decide +kernel, rfl, by decide +kernel, by decide +kernel⟩
theorem ok_roll {f : Addr} {fd : FuncData} (F : Fun K "_law_roll" "_law_roll" sRoll f fd) (T : TxtL mg) : FnOk P w K mg base CX0 1 f fd ["dice", "many"] spRoll := by
  refine F.ok scRoll (fun vs H Q E h => ?_) (fun cdv A outer s H vs Q E hr h => ?_)
  · obtain ⟨l, a, b, c, m, R, rfl, _⟩ := h
    rfl
  · obtain ⟨l, a, b, c, m, R, rfl, hL, h1, h2, k⟩ := h
    refine ⟨_, pss_cons (ps_if (PW.pt (pw_or (pt_cmpR op_eq (pe_ix ix_list (pv 0) pe_int (fun _ _ => rfl)) pe_int (nomark _)) (pw_or1 (PW.pt (pw_and (pt_cmpR op_eq (pe_ix ix_list (pv 0) pe_int (fun _ _ => rfl)) pe_int (nomark _)) (pw_and1 (pt_cmpR op_gt (pe_ix ix_list (pv 0) pe_int (fun _ _ => rfl)) pe_int (nomark _))))))))
        (pss_cons (ps_set (i := 2) scRoll.nd rfl (Or.inl rfl) (pe_op op_mod (pe_callTy call_int1 (by rfl) T.int (by decide +kernel) (pa_cons (pe_ix ix_list (pv 0) pe_int (fun _ _ => rfl)) pa_nil)) (pv 1)))
          (pss_cons (ps_asg (pe_op op_fdiv (pe_ix ix_list (pv 0) pe_int (fun _ _ => rfl)) (pv 1)) (pg_sub (pv 0) pe_int set_list)) (pss_one (ps_ret (pv 2)))))
        pss_nil)
      (pss_cons (ps_asg pe_int (pg_sub (pv 0) pe_int set_list))
      (pss_cons (ps_if (pt_cmpR op_gt (pv 1) pe_int (nomark _)) pss_never pss_nil)
      (pss_cons (ps_asg (pe_op op_mod (pe_callTy call_int1 (by rfl) T.int (by decide +kernel) (pa_cons (pe_op op_add (pe_op op_add (pe_op op_mul (pe_ix ix_list (pv 0) pe_int (fun _ _ => rfl)) pe_int) (pe_op op_mul (pe_ix ix_list (pv 0) pe_int (fun _ _ => rfl)) pe_int)) pe_int) pa_nil)) pe_int) (pg_sub (pv 0) pe_int set_list))
      (pss_cons (ps_asg (pe_op op_add (pe_ix ix_list (pv 0) pe_int (fun _ _ => rfl)) pe_int) (pg_sub (pv 0) pe_int set_list))
      (pss_one (ps_ret (pe_op op_mod (pe_callTy call_int1 (by rfl) T.int (by decide +kernel) (pa_cons (pe_op op_fdiv (pe_ix ix_list (pv 0) pe_int (fun _ _ => rfl)) pe_int) pa_nil)) (pv 1)))))))), ?_⟩
    unfold dD at hL
    have hm : ∀ (x b c : Int) (H : Hp), Led H ((l, .lst [.int (x / m), .int b, .int c]) :: R) → Q (.int (x % m)) H := fun x b c H h => k _ _ _ _ _ (Int.emod_nonneg _ (by omega)) (Int.emod_lt_of_pos _ (by omega)) h
    have hd : ∀ (x a b c : Int) (H : Hp), Led H ((l, .lst [.int a, .int b, .int c]) :: R) → Q (.int (x % m)) H := fun x a b c H h => k _ _ _ _ _ (Int.emod_nonneg _ (by omega)) (Int.emod_lt_of_pos _ (by omega)) h
    fail "go"
    refine ite_d (fun q1 => ?_) (fun q1 => ?_)
    · fail "go"
      exact hm _ _ _ _ hL
    · fail "go"
      refine ite_d (fun q2 => ?_) (fun q2 => ?_)
      · fail "go"
        refine ite_d (fun q3 => ?_) (fun q3 => ?_)
        · fail "go"
          exact hm _ _ _ _ hL
        · fail "go"
          refine ite_d (fun q4 => absurd q4 (by omega)) (fun q4 => ?_)
          fail "go"
          exact hd _ _ _ _ _ hL
      · fail "go"
        refine ite_d (fun q4 => absurd q4 (by omega)) (fun q4 => ?_)
        fail "go"
        exact hd _ _ _ _ _ hL
end
/-- script[:1], or [0]: one dice -/
def spRounds (K : PySem.W.Frag) : Sp := fun vs H Q _ => ∃ (a : Addr) (ns : List Int) (L : Lg), vs = [.ref a, .int 1] ∧ SqL K H a (ns.map V.int) ∧ Led H L ∧ ∀ (p d : Addr) (x y z : Int) (H' : Hp), Led H' ((p, .lst [.ref d]) :: (d, dD x y z) :: L) → Q (.ref p) H'
section
variable {P : Program} {w : World} {K : PySem.W.Frag} {mg : Str → Option Value} {base : Heap}
theorem scRounds : FnScope ["script", "most", "cells", "cell"] ["script", "most"] (defScope sRounds) := ⟨rfl, rfl, rfl, by decide +kernel, rfl, by decide +kernel, by decide +kernel⟩
theorem cut_1 (ns : List Int) : cutV (ns.map V.int) none (some 1) = (ns.take 1).map V.int := by
  unfold cutV
  rw [show (some (1 : Int)) = some ((1 : Nat) : Int) from rfl, HT.sIx_nat, HT.sIx_none]
  cases ns <;> simp
theorem ok_rounds {f : Addr} {fd : FuncData} (F : Fun K "_law_rounds" "_law_rounds" sRounds f fd) (c__law_dice : Cal P w K mg base 1 "_law_dice" spDice []) :
    FnOk P w K mg base CX0 2 f fd ["script", "most"] (spRounds K) := by
  refine F.ok scRounds (fun vs H Q E h => ?_) (fun cdv A outer s H vs Q E hr h => ?_)
  · obtain ⟨a, ns, L, rfl, _⟩ := h
    rfl
  · obtain ⟨a, ns, L, rfl, hS, hL, k⟩ := h
    refine ⟨_, (pss_cons (ps_set (i := 2) scRounds.nd rfl (Or.inl rfl) (pe_slice sl_list (pv 0) po_none (po_some (pv 1))))
  (C8.pss_cut (ps_if (pt_cmpR (op_eqP hr.units) (pv 2) (pe_lst pa_nil) (nomark _))
  (pss_one (ps_set (i := 2) scRounds.nd rfl (Or.inl rfl) (pe_lst (pa_cons pe_int pa_nil))))
  pss_nil)
  (pss_one (ps_ret (pe_lc (own := [("cell", 3)]) (g := gName 3) (by rfl) scRounds.nd (pi_list (pv 2)) (blkOk_by (own := [("cell", 3)]) (N := ["script", "most", "cells", "cell"]) (sc := (defScope sRounds)) (by decide +kernel)) (fun _ _ _ _ _ => (pg_name (i := 3) scRounds.nd rfl (Or.inl rfl))) (fun _ _ _ _ _ => pts_nil) (fun _ _ _ _ _ => (pe_c c__law_dice hr (by decide) (by rfl) (pa_cons (pv 3) pa_nil)))))))), ?_⟩
    refine ⟨_, rfl, _, rfl, 1, rfl, a, _, rfl, hS, ?_⟩
    rw [cut_1]
    fail "gn"
    refine ⟨fun σ H => Hold (∃ (a p : Addr) (c : Int) (v3 : Option V), σ = [some (.ref a), some (.int 1), some (.ref p), v3] ∧ Led H ((p, .lst [.int c]) :: L)), ?_, ?_⟩
    · fail "go"
      refine ⟨_, _, dp_lst (hL.at ⟨1, rfl⟩) dp_ints, dp_lst (hL.at ⟨0, rfl⟩) .nil, shal_ints, shal_ints (ns := []), _, rfl, ?_⟩
      refine ite_b (fun h1 => ?_) (fun h1 => ?_)
      · fail "go"
        refine .mk ⟨a, _, 0, _, rfl, ?_⟩
        exact hL.sub (.cons_cons _ ((List.sublist_cons_self _ _).trans (List.sublist_cons_self _ _)))
      · cases ns with
        | nil => simp [PyData.eqv, PyData.eqvAll] at h1
        | cons n ns =>
          fail "go"
          exact .mk ⟨a, _, n, _, rfl, hL.tail⟩
    · intro σ H h
      obtain ⟨a, p, c, v3, rfl, hL⟩ := h.out
      clear h
      refine ⟨_, rfl, p, rfl, ⟨_, .of (hL.at ⟨0, rfl⟩)⟩, fun D hD => lc_list (K := K) (a := p) (xs := [.int c]) (fun i H => Hold ((i = 0 ∧ Led H ((D, .lst []) :: (p, .lst [.int c]) :: L)) ∨ (i = 1 ∧ ∃ (d : Addr) (x y z : Int), Led H ((D, .lst [.ref d]) :: (d, dD x y z) :: (p, .lst [.int c]) :: L)))) ?_ ?_ ?_ ?_⟩
      · exact .mk (.inl ⟨rfl, hL.new hD⟩)
      · intro i H _ h
        rcases h.out with ⟨_, hL⟩ | ⟨_, d, x, y, z, hL⟩
        · exact .of (hL.at ⟨1, rfl⟩)
        · exact .of (hL.at ⟨2, rfl⟩)
      · intro i y H hi h
        rcases h.out with ⟨rfl, hL⟩ | ⟨rfl, d, x, y, z, hL⟩
        · obtain rfl : V.int c = y := Option.some.inj hi
          clear h
          refine ⟨rfl, ?_⟩
          refine k_yes ?_
          refine ⟨_, rfl, c, _, rfl, hL, fun x y z d H hL => ⟨_, hL.at ⟨1, rfl⟩, by decide, ?_⟩⟩
          generalize hH : upd H _ _ = H
          refine .mk (.inr ⟨rfl, d, x, y, z, ?_⟩)
          exact (hL.upU (o' := .lst [.ref d]) ⟨1, rfl, rfl⟩ hH).perm (List.Perm.swap _ _ _)
        · cases hi
      · intro H h
        rcases h.out with ⟨q, _⟩ | ⟨_, d, x, y, z, hL⟩
        · cases q
        · refine k D d x y z _ (hL.sub ?_)
          exact .cons_cons _ (.cons_cons _ (List.sublist_cons_self _ _))
theorem scTold : FnScope ["what"] ["what"] (defScope sTold) := ⟨rfl, rfl, rfl, by decide +kernel, rfl, by decide +kernel, by decide +kernel⟩
theorem ok_told {CE : Addr} {f : Addr} {fd : FuncData} (F : Fun K "_law_told" "_law_told" sTold f fd) (T : ExcT K mg "MachineError" CE) : FnOk P w K mg base CX0 7 f fd ["what"] (spTold P w K mg base 6 CE "MachineError") := by
  refine F.ok scTold (fun vs H Q E h => ?_) (fun cdv A outer s H vs Q E hr h => ?_)
  · obtain ⟨f, F, b, tl, rfl, _⟩ := h
    rfl
  · exact ps_told (by rfl) T.g rfl (Or.inl rfl) (fun _ => rfl) hr h
end
end Sd


set_option linter.unusedVariables false
namespace Sd
open PySem L2 LamX
open C8 (Cal Met Mak pe_c pe_mk pe_mt pe_mt0 pss_cut tCut)
set_option linter.unusedSimpArgs false
set_option pp.deepTerms false
set_option pp.deepTerms.threshold 12
set_option hygiene false
local macro_rules | `(tactic| fail "nd") => `(tactic| first | assumption | decide +kernel)
local macro_rules | `(tactic| fail "ix") => `(tactic| first | exact ⟨0, rfl⟩ | exact ⟨1, rfl⟩ | exact ⟨2, rfl⟩ | exact ⟨3, rfl⟩ | exact ⟨4, rfl⟩ | exact ⟨5, rfl⟩ | exact ⟨6, rfl⟩ | exact ⟨7, rfl⟩ | exact ⟨8, rfl⟩ | exact ⟨9, rfl⟩ | exact ⟨10, rfl⟩ | exact ⟨11, rfl⟩ | exact ⟨12, rfl⟩ | exact ⟨13, rfl⟩ | exact ⟨14, rfl⟩ | exact ⟨15, rfl⟩ | exact ⟨16, rfl⟩ | exact ⟨17, rfl⟩ | exact ⟨18, rfl⟩ | assumption)
local macro_rules | `(tactic| fail "up") => `(tactic| first | exact ⟨0, rfl, rfl⟩ | exact ⟨1, rfl, rfl⟩ | exact ⟨2, rfl, rfl⟩ | exact ⟨3, rfl, rfl⟩ | exact ⟨4, rfl, rfl⟩ | exact ⟨5, rfl, rfl⟩ | exact ⟨6, rfl, rfl⟩ | exact ⟨7, rfl, rfl⟩ | exact ⟨8, rfl, rfl⟩ | exact ⟨9, rfl, rfl⟩ | exact ⟨10, rfl, rfl⟩ | exact ⟨11, rfl, rfl⟩ | exact ⟨12, rfl, rfl⟩ | exact ⟨13, rfl, rfl⟩ | exact ⟨14, rfl, rfl⟩ | exact ⟨15, rfl, rfl⟩ | exact ⟨16, rfl, rfl⟩ | assumption)
local macro_rules | `(tactic| fail "lkF") => `(tactic| first | assumption | exact fz_at 0 (by fail "nd") rfl rfl | exact fz_at 1 (by fail "nd") rfl rfl | exact fz_at 2 (by fail "nd") rfl rfl | exact fz_at 3 (by fail "nd") rfl rfl | exact fz_at 4 (by fail "nd") rfl rfl | exact fz_at 5 (by fail "nd") rfl rfl | exact fz_at 6 (by fail "nd") rfl rfl | exact fz_at 7 (by fail "nd") rfl rfl)
local macro_rules | `(tactic| fail "lkD") => `(tactic| first | assumption | exact dz_at 0 (by fail "nd") rfl rfl | exact dz_at 1 (by fail "nd") rfl rfl | exact dz_at 2 (by fail "nd") rfl rfl | exact dz_at 3 (by fail "nd") rfl rfl | exact dz_at 4 (by fail "nd") rfl rfl)
local macro_rules | `(tactic| fail "ptF") => `(tactic| first | assumption | exact fz_put 0 (by fail "nd") rfl (Nat.le_of_ble_eq_true rfl) | exact fz_put 1 (by fail "nd") rfl (Nat.le_of_ble_eq_true rfl) | exact fz_put 2 (by fail "nd") rfl (Nat.le_of_ble_eq_true rfl) | exact fz_put 3 (by fail "nd") rfl (Nat.le_of_ble_eq_true rfl) | exact fz_put 4 (by fail "nd") rfl (Nat.le_of_ble_eq_true rfl) | exact fz_put 5 (by fail "nd") rfl (Nat.le_of_ble_eq_true rfl) | exact fz_put 6 (by fail "nd") rfl (Nat.le_of_ble_eq_true rfl) | exact fz_put 7 (by fail "nd") rfl (Nat.le_of_ble_eq_true rfl) | exact fz_new (by decide +kernel) rfl)
local macro_rules | `(tactic| fail "ptD") => `(tactic| first | assumption | exact dz_put 0 (by fail "nd") rfl (Nat.le_of_ble_eq_true rfl) | exact dz_put 1 (by fail "nd") rfl (Nat.le_of_ble_eq_true rfl) | exact dz_put 2 (by fail "nd") rfl (Nat.le_of_ble_eq_true rfl) | exact dz_put 3 (by fail "nd") rfl (Nat.le_of_ble_eq_true rfl) | exact dz_put 4 (by fail "nd") rfl (Nat.le_of_ble_eq_true rfl))
local macro_rules | `(tactic| fail "sz") => `(tactic| first | assumption | exact (Nat.le_of_ble_eq_true rfl) | omega | decide)
local macro_rules | `(tactic| fail "sd") => `(tactic| first | rfl | assumption | decide | omega | (dsimp only; first | decide | omega) | exact .inr ⟨by decide, by decide⟩ | exact .inl ⟨by decide, by decide⟩ | exact ⟨by omega, by omega⟩ | exact .inl ⟨by omega, by omega⟩ | exact .inr ⟨by omega, by omega⟩ | exact ⟨by omega, by omega, by omega⟩)
local macro_rules | `(tactic| fail "cl") => `(tactic| (clear hH; dsimp only [List.set, List.cons_append, List.nil_append, List.append] at hL))
local macro_rules | `(tactic| fail "gn") => `(tactic| (intro p hp; generalize hH : upd H p _ = H; replace hL := Led.newH hL hp hH; clear hH hp))
local macro_rules | `(tactic| fail "gup") => `(tactic| (generalize hH : upd H _ _ = H; replace hL := Led.upU hL (by fail "up") hH; fail "cl"))
local macro_rules | `(tactic| fail "gmk") => `(tactic| (intro x dx hx hd ne; generalize hH : upd (upd H dx _) x _ = H; replace hL := Led.made hL hx hd ne hH; clear hH hx hd ne))
local macro_rules | `(tactic| fail "v") => `(tactic| refine ⟨_, rfl, ?_⟩)
local macro_rules | `(tactic| fail "i2") => `(tactic| refine ⟨_, _, rfl, rfl, ?_⟩)
local macro_rules | `(tactic| fail "go1") => `(tactic| first
  | refine ⟨_, rfl, ?_⟩
  | refine ⟨_, _, rfl, rfl, ?_⟩
  | refine ⟨_, _, rfl, ?_⟩
  | refine iteT ?_
  | refine iteF ?_
  | refine k_fld hL (by fail "ix") (by assumption) (by assumption) (by fail "lkF") ?_
  | refine k_dgetS hL (by fail "ix") (by fail "lkD") ?_
  | refine k_dgetI hL (by fail "ix") (by assumption) ?_
  | refine k_ixL hL (by fail "ix") (by first | rfl | assumption) ?_
  | refine k_ixT hL (by fail "ix") (by first | rfl | assumption) ?_
  | refine k_tyL hL (by fail "ix") ?_
  | refine k_isd hL (by fail "ix") ?_
  | (refine And.intro (by fail "sz") ?_; fail "gn")
  | refine And.intro (by fail "sd") ?_
  | fail "gn"
  | refine k_meth hL (by fail "ix") (by first | assumption | exact fz_no (by decide +kernel)) ?_
  | refine k_gtup hL (by fail "ix") rfl ?_
  | (refine k_popI hL (by fail "ix") (by assumption) ?_; fail "gup")
  | (refine k_listD hL (by fail "ix") ?_; fail "gn")
  | (refine ⟨_, _, _, _, rfl, rfl, hL.at (by fail "ix"), rfl, ?_⟩; fail "gup")
  | (refine ⟨_, _, _, rfl, rfl, hL.at (by fail "ix"), (by fail "sz"), ?_⟩; fail "gup")
  | (refine ⟨_, _, _, _, rfl, hL.at (by fail "ix"), by assumption, by assumption, Nat.lt_of_le_of_lt fz_len (by decide), ?_⟩; generalize hH : upd H _ _ = H; replace hL := Led.upF hL (by fail "up") (by fail "ptF") hH; fail "cl")
  | (refine ⟨_, _, hL.at (by fail "ix"), Nat.lt_of_le_of_lt fz_len (by decide), ?_⟩; generalize hH : upd H _ _ = H; replace hL := Led.upF hL (by fail "up") (by fail "ptF") hH; fail "cl")
  | (refine k_dputS hL (by fail "ix") (Nat.lt_of_le_of_lt dz_len (by decide)) (by fail "ptD") (by fail "up") ?_; clear hL; intro H hL; dsimp only [List.set, List.cons_append, List.nil_append, List.append] at hL)
  | refine k_lenL2 hL (by fail "ix") ?_
  | refine k_lenT2 hL (by fail "ix") ?_
  | refine .inl ⟨_, rfl, ?_⟩
  | refine .inr ⟨_, rfl, ?_⟩)
local macro_rules | `(tactic| fail "go") => `(tactic| repeat fail "go1")
local macro_rules | `(tactic| fail "pm") => `(tactic| (refine Led.le hL (fun a_ => ?_); simp only [cnt_nil, cnt_cons, cnt_app, List.map_append, List.map_cons, List.map_nil, List.flatMap_append, List.flatMap_cons, List.flatMap_nil, List.append_assoc, List.cons_append, List.nil_append]; omega))

def inCls (st : Stmt) (i : Nat) : Stmt := (C8.clsBody st).getD i (.Pass ⟨0, 0, 0, 0⟩)
/-! ### k13: clocks, granters, holders, guards -/
abbrev sCInit : Stmt := inCls (top 6) 0
abbrev sCAt : Stmt := inCls (top 6) 1
abbrev sWait : Stmt := top 7
abbrev sGInit : Stmt := inCls (top 8) 0
abbrev sGAsk : Stmt := inCls (top 8) 1
abbrev sGBack : Stmt := inCls (top 8) 2
abbrev sHInit : Stmt := inCls (top 9) 0
abbrev sHBegin : Stmt := inCls (top 9) 1
abbrev sHGrant : Stmt := inCls (top 9) 2
abbrev sHHolds : Stmt := inCls (top 9) 3
abbrev sHDrop : Stmt := inCls (top 9) 4
abbrev sUInit : Stmt := inCls (top 10) 0
abbrev sUAct : Stmt := inCls (top 10) 1
abbrev sLease : Stmt := top 16
structure TxtK (K : PySem.W.Frag) (mg : Str → Option Value) (S F : Addr) : Prop where
  max : mg "max" = none
  g_SLOWEST : ∃ u, mg "SLOWEST" = some u ∧ RelV (.ref S) u
  g_FASTEST : ∃ u, mg "FASTEST" = some u ∧ RelV (.ref F) u
  slow : ∀ H, SqT K H S [.int 9, .int 10]
  fast : ∀ H, SqT K H F [.int 11, .int 10]
structure TxtCl (K : PySem.W.Frag) (CC : Addr) (nm : List Str) : Prop where
  cl : Cls K CC
  n : ∀ f ∈ nm, NoAttr K CC f
def nmC : List Str := ["rate", "begun"]
def nmG : List Str := ["clock", "holder", "until", "number"]
def nmH : List Str := ["name", "clock", "number", "until", "asked", "length", "turn"]
def nmU : List Str := ["greatest", "acts"]
/-- a clock: its place, its dict's, its rate's; the rate, the start -/
structure Ck where
  a : Addr
  d : Addr
  r : Addr
  top : Int
  low : Int
  b : Int
def ckO (CC : Addr) (c : Ck) : Addr × HO := (c.a, .ins CC c.d (fz nmC [.ref c.r, .int c.b]))
def ckR (c : Ck) : Addr × HO := (c.r, .tup [.int c.top, .int c.low])
def ckL (CC : Addr) (c : Ck) : Lg := [ckO CC c, ckR c]
def Ck.Ok (c : Ck) : Prop := 1 ≤ c.low ∧ c.low ≤ 1000 ∧ c.low * 9 ≤ c.top * 10 ∧ c.top * 10 ≤ c.low * 11
def Ck.at (c : Ck) (t : Int) : Int := c.b + t * c.top / c.low
def waitI (n : Int) : Int := (n * 11 + 8) / 9 + 2
def optI : Option Int → V
  | none => .non
  | some i => .int i
def optS : Option Str → V
  | none => .non
  | some s => .str s
/-- what a granter keeps -/
structure GrS where
  ho : Option Str
  un : Option Int
  nu : Int
def GrS.Ok (g : GrS) : Prop := g.ho.isSome = true → g.un.isSome = true
def grO (CG g dg : Addr) (c : Addr) (s : GrS) : Addr × HO := (g, .ins CG dg (fz nmG [.ref c, optS s.ho, optI s.un, .int s.nu]))
/-- ask: none is given, or the lease behind it -/
def GrS.busy (g : GrS) (nm : Str) (now : Int) : Bool := match g.ho with
  | none => false
  | some h => decide (h ≠ nm) && decide (now < g.un.getD 0)
def GrS.fresh (g : GrS) (nm : Str) (now : Int) : Bool := match g.ho with
  | none => true
  | some h => decide (h ≠ nm) || decide (g.un.getD 0 ≤ now)
def maxI (a b : Int) : Int := if b > a then b else a
def GrS.give (g : GrS) (nm : Str) (len now : Int) : GrS := ⟨some nm, some (maxI (now + waitI len) (g.un.getD 0)), if g.fresh nm now then g.nu + 1 else g.nu⟩
def GrS.mine (g : GrS) (nm : Str) (n : Int) : Bool := decide (g.ho = some nm) && decide (g.nu = n)
structure HoS where
  nm : Str
  nu : Option Int
  un : Option Int
  ak : Option Int
  le : Int
  tu : Int
def HoS.Ok (h : HoS) : Prop := h.nu.isSome = true → h.un.isSome = true
def hoO (CH h dh : Addr) (c : Addr) (s : HoS) : Addr × HO := (h, .ins CH dh (fz nmH [.str s.nm, .ref c, optI s.nu, optI s.un, optI s.ak, .int s.le, .int s.tu]))
def HoS.begin (h : HoS) (len now : Int) : HoS := { h with ak := some now, le := len, tu := h.tu + 1 }
def HoS.hit (h : HoS) (t : Int) : Bool := h.ak.isSome && decide (t = h.tu)
def HoS.take (h : HoS) (n : Option Int) : HoS := match n with
  | none => { h with ak := none }
  | some k => { h with ak := none, nu := some k, un := some (h.ak.getD 0 + h.le) }
def HoS.holds (h : HoS) (now : Int) : Bool := h.nu.isSome && decide (now < h.un.getD 0)
def HoS.drop (h : HoS) : HoS := { h with nu := none, un := none, ak := none }
def guO (CU u du al : Addr) (n : Int) : Addr × HO := (u, .ins CU du (fz nmU [.int n, .ref al]))
def spCInit (CC : Addr) : Sp := fun vs H Q _ => ∃ (x dx r : Addr) (t l b : Int) (L : Lg), vs = [.ref x, .ref r, .int b] ∧ Led H ((x, .ins CC dx (fz [] [])) :: L) ∧ (r, HO.tup [.int t, .int l]) ∈ L ∧ Ck.Ok ⟨x, dx, r, t, l, b⟩ ∧
  ∀ (rt : Addr) H', Led H' (ckL CC ⟨x, dx, rt, t, l, b⟩ ++ L) → Q .non H'
def spCAt (CC : Addr) : Sp := fun vs H Q _ => ∃ (c : Ck) (t : Int) (L : Lg), vs = [.ref c.a, .int t] ∧ Led H L ∧ ckO CC c ∈ L ∧ ckR c ∈ L ∧ c.Ok ∧ ∀ H', Led H' L → Q (.int (c.at t)) H'
def spWait : Sp := fun vs H Q _ => ∃ n : Int, vs = [.int n] ∧ Q (.int (waitI n)) H
def spGInit (CG : Addr) : Sp := fun vs H Q _ => ∃ (g dg c : Addr) (L : Lg), vs = [.ref g, .ref c] ∧ Led H ((g, .ins CG dg (fz [] [])) :: L) ∧ ∀ H', Led H' (grO CG g dg c ⟨none, none, 0⟩ :: L) → Q .non H'
def spGAsk (CG CC : Addr) : Sp := fun vs H Q _ => ∃ (g dg : Addr) (c : Ck) (s : GrS) (nm : Str) (len t : Int) (L : Lg), vs = [.ref g, .str nm, .int len, .int t] ∧ Led H (grO CG g dg c.a s :: L) ∧ ckO CC c ∈ L ∧ ckR c ∈ L ∧ c.Ok ∧ s.Ok ∧ 0 < len ∧ len < 1000 ∧
  (s.busy nm (c.at t) = true → ∀ H', Led H' (grO CG g dg c.a s :: L) → Q .non H') ∧
  (s.busy nm (c.at t) = false → ∀ H', Led H' (grO CG g dg c.a (s.give nm len (c.at t)) :: L) → Q (.int (s.give nm len (c.at t)).nu) H')
def spGBack (CG : Addr) : Sp := fun vs H Q _ => ∃ (g dg c : Addr) (s : GrS) (nm : Str) (n : Int) (L : Lg), vs = [.ref g, .str nm, .int n] ∧ Led H (grO CG g dg c s :: L) ∧
  ∀ H', Led H' (grO CG g dg c (if s.mine nm n then ⟨none, none, s.nu⟩ else s) :: L) → Q (.bl (s.mine nm n)) H'
def spHInit (CH : Addr) : Sp := fun vs H Q _ => ∃ (h dh c : Addr) (nm : Str) (L : Lg), vs = [.ref h, .str nm, .ref c] ∧ Led H ((h, .ins CH dh (fz [] [])) :: L) ∧ ∀ H', Led H' (hoO CH h dh c ⟨nm, none, none, none, 0, 0⟩ :: L) → Q .non H'
def spHBegin (CH CC : Addr) : Sp := fun vs H Q _ => ∃ (h dh : Addr) (c : Ck) (s : HoS) (len t : Int) (L : Lg), vs = [.ref h, .int len, .int t] ∧ Led H (hoO CH h dh c.a s :: L) ∧ ckO CC c ∈ L ∧ ckR c ∈ L ∧ c.Ok ∧
  ∀ H', Led H' (hoO CH h dh c.a (s.begin len (c.at t)) :: L) → Q (.int (s.tu + 1)) H'
def spHGrant (CH : Addr) : Sp := fun vs H Q _ => ∃ (h dh c : Addr) (s : HoS) (t : Int) (n : Option Int) (L : Lg), vs = [.ref h, .int t, optI n] ∧ Led H (hoO CH h dh c s :: L) ∧
  ∀ H', Led H' (hoO CH h dh c (if s.hit t then s.take n else s) :: L) → Q (.bl (s.hit t && n.isSome)) H'
def spHHolds (CH CC : Addr) : Sp := fun vs H Q _ => ∃ (h dh : Addr) (c : Ck) (s : HoS) (t : Int) (L : Lg), vs = [.ref h, .int t] ∧ Led H L ∧ hoO CH h dh c.a s ∈ L ∧ ckO CC c ∈ L ∧ ckR c ∈ L ∧ c.Ok ∧ s.Ok ∧
  ∀ H', Led H' L → Q (.bl (s.holds (c.at t))) H'
def spHDrop (CH : Addr) : Sp := fun vs H Q _ => ∃ (h dh c : Addr) (s : HoS) (L : Lg), vs = [.ref h] ∧ Led H (hoO CH h dh c s :: L) ∧ ∀ H', Led H' (hoO CH h dh c s.drop :: L) → Q (optI s.nu) H'
def spUInit (CU : Addr) : Sp := fun vs H Q _ => ∃ (u du : Addr) (L : Lg), vs = [.ref u] ∧ Led H ((u, .ins CU du (fz [] [])) :: L) ∧ ∀ (al : Addr) H', Led H' (guO CU u du al 0 :: (al, .lst []) :: L) → Q .non H'
def spUAct (CU : Addr) : Sp := fun vs H Q _ => ∃ (u du al : Addr) (g n : Int) (w : V) (rs : List V) (L : Lg), vs = [.ref u, .int n, w] ∧ Led H (guO CU u du al g :: (al, .lst rs) :: L) ∧ rs.length < sizeLine ∧
  (n < g → ∀ H', Led H' (guO CU u du al g :: (al, .lst rs) :: L) → Q (.bl false) H') ∧
  (g ≤ n → ∀ (p : Addr) H', Led H' (guO CU u du al n :: (al, .lst (rs ++ [.ref p])) :: (p, .tup [.int n, w]) :: L) → Q (.bl true) H')
section
variable {P : Program} {w : World} {K : PySem.W.Frag} {mg : Str → Option Value} {base : Heap} {CC CG CH CU S F : Addr}
theorem scCInit : FnScope ["self", "rate", "start", "top", "low"] ["self", "rate", "start"] (defScope sCInit) := ⟨rfl, rfl, rfl, by decide +kernel, rfl, by decide +kernel, by decide +kernel⟩
theorem ok_CInit {f : Addr} {fd : FuncData} (F0 : FunD K "__init__" "DriftClock.__init__" (defArgs sCInit) (defBody sCInit) (defScope sCInit) [.int 0] [] f fd) (X : TxtCl K CC nmC) (T : TxtK K mg S F) : FnOk P w K mg base CX0 1 f fd ["self", "rate", "start"] (spCInit CC) := by
  refine funD_ok0 F0 scCInit (fun vs H Q E h => ?_) (fun cdv A outer s H vs Q E hr h => ?_)
  · obtain ⟨x, dx, r, t, l, b, L, rfl, _⟩ := h
    rfl
  · obtain ⟨x, dx, r, t, l, b, L, rfl, hL, hm, ⟨h1, h4, h2, h3⟩, k⟩ := h
    dsimp only at h1 h2 h3 h4
    have c1 := X.cl
    have f1 := X.n "rate" (by decide +kernel)
    have f2 := X.n "begun" (by decide +kernel)
    refine ⟨_, (pss_cons (ps_asg (pv 1) (pg_tup (by rfl) (pgs_cons (pg_name (i := 3) scCInit.nd rfl (Or.inl rfl)) (pgs_cons (pg_name (i := 4) scCInit.nd rfl (Or.inl rfl)) pgs_nil))))
  (pss_cons (ps_if (PW.pt (pw_or (pt_cmpR op_lt (pv 4) pe_int (nomark _)) (pw_or (pt_cmpR op_lt (pe_op op_mul (pv 3) (pe_ix ix_tup (C8.pe_gc (by rfl) T.g_SLOWEST) pe_int (fun _ _ => rfl))) (pe_op op_mul (pv 4) (pe_ix ix_tup (C8.pe_gc (by rfl) T.g_SLOWEST) pe_int (fun _ _ => rfl))) (nomark _)) (pw_or1 (pt_cmpR op_gt (pe_op op_mul (pv 3) (pe_ix ix_tup (C8.pe_gc (by rfl) T.g_FASTEST) pe_int (fun _ _ => rfl))) (pe_op op_mul (pv 4) (pe_ix ix_tup (C8.pe_gc (by rfl) T.g_FASTEST) pe_int (fun _ _ => rfl))) (nomark _))))))
  pss_never
  pss_nil)
  (pss_cons (ps_fld (pv 0) (pe_tup (pa_cons (pv 3) (pa_cons (pv 4) pa_nil))) rfl)
  (pss_one (ps_fld (pv 0) (pv 2) rfl))))), ?_⟩
    fail "go"
    refine ⟨r, [.int t, .int l], rfl, .of (hL.mem (.tail _ hm)), rfl, ?_⟩
    fail "go"
    refine ite_d (fun q => absurd q (by omega)) fun q => ?_
    fail "go"
    refine ⟨S, _, 1, _, rfl, rfl, T.slow _, rfl, ?_⟩
    fail "go"
    refine ⟨S, _, 0, _, rfl, rfl, T.slow _, rfl, ?_⟩
    fail "go"
    refine ite_d (fun q => absurd q (by omega)) fun q => ?_
    fail "go"
    refine ⟨F, _, 1, _, rfl, rfl, T.fast _, rfl, ?_⟩
    fail "go"
    refine ⟨F, _, 0, _, rfl, rfl, T.fast _, rfl, ?_⟩
    fail "go"
    refine ite_d (fun q => absurd q (by omega)) fun q => ?_
    fail "go"
    refine k p H (hL.le (fun a_ => ?_))
    simp only [ckL, ckO, ckR, nmC, cnt_cons, cnt_app, cnt_nil]
    omega
theorem scCAt : FnScope ["self", "time"] ["self", "time"] (defScope sCAt) := ⟨rfl, rfl, rfl, by decide +kernel, rfl, by decide +kernel, by decide +kernel⟩
theorem ok_CAt {f : Addr} {fd : FuncData} (F0 : Fun K "at" "DriftClock.at" sCAt f fd) (X : TxtCl K CC nmC) : FnOk P w K mg base CX0 1 f fd ["self", "time"] (spCAt CC) := by
  refine F0.ok scCAt (fun vs H Q E h => ?_) (fun cdv A outer s H vs Q E hr h => ?_)
  · obtain ⟨c, t, L, rfl, _⟩ := h
    rfl
  · obtain ⟨c, t, L, rfl, hL, m1, m2, ⟨h1, h4, h2, h3⟩, k⟩ := h
    have c1 := X.cl
    have f1 := X.n "rate" (by decide +kernel)
    have f2 := X.n "begun" (by decide +kernel)
    refine ⟨_, (pss_one (ps_ret (pe_op op_add (pe_fld (pv 0) rfl) (pe_op op_fdiv (pe_op op_mul (pv 1) (pe_ix ix_tup (pe_fld (pv 0) rfl) pe_int (fun _ _ => rfl))) (pe_ix ix_tup (pe_fld (pv 0) rfl) pe_int (fun _ _ => rfl)))))), ?_⟩
    have hm1 : (c.a, HO.ins CC c.d (fz nmC [.ref c.r, .int c.b])) ∈ L := m1
    have hm2 : (c.r, HO.tup [.int c.top, .int c.low]) ∈ L := m2
    fail "go"
    refine k_fld hL (at_mem hm1) c1 f2 (fz_at 1 (by decide +kernel) rfl rfl) ?_
    fail "go"
    refine k_fld hL (at_mem hm1) c1 f1 (fz_at 0 (by decide +kernel) rfl rfl) ?_
    refine k_ixT hL (at_mem hm2) (v := .int c.top) rfl ?_
    refine ⟨_, _, rfl, rfl, .inr ⟨by omega, by omega⟩, ?_⟩
    fail "go"
    refine k_fld hL (at_mem hm1) c1 f1 (fz_at 0 (by decide +kernel) rfl rfl) ?_
    refine k_ixT hL (at_mem hm2) (v := .int c.low) rfl ?_
    refine ⟨_, _, rfl, rfl, ⟨by omega, by omega⟩, ?_⟩
    fail "go"
    exact k H hL
theorem scWait : FnScope ["length"] ["length"] (defScope sWait) := ⟨rfl, rfl, rfl, by decide +kernel, rfl, by decide +kernel, by decide +kernel⟩
theorem ok_wait {f : Addr} {fd : FuncData} (F0 : Fun K "waiting_time" "waiting_time" sWait f fd) : FnOk P w K mg base CX0 1 f fd ["length"] spWait := by
  refine F0.ok scWait (fun vs H Q E h => ?_) (fun cdv A outer s H vs Q E hr h => ?_)
  · obtain ⟨n, rfl, _⟩ := h
    rfl
  · obtain ⟨n, rfl, k⟩ := h
    refine ⟨_, (pss_one (ps_ret (pe_op op_add (pe_op op_fdiv (pe_op op_add (pe_op op_mul (pv 0) pe_int) pe_int) pe_int) pe_int))), ?_⟩
    fail "go"
    exact k
theorem scGInit : FnScope ["self", "clock"] ["self", "clock"] (defScope sGInit) := ⟨rfl, rfl, rfl, by decide +kernel, rfl, by decide +kernel, by decide +kernel⟩
theorem ok_GInit {f : Addr} {fd : FuncData} (F0 : Fun K "__init__" "Granter.__init__" sGInit f fd) (X : TxtCl K CG nmG) : FnOk P w K mg base CX0 1 f fd ["self", "clock"] (spGInit CG) := by
  refine F0.ok scGInit (fun vs H Q E h => ?_) (fun cdv A outer s H vs Q E hr h => ?_)
  · obtain ⟨g, dg, c, L, rfl, _⟩ := h
    rfl
  · obtain ⟨g, dg, c, L, rfl, hL, k⟩ := h
    have c1 := X.cl
    have f1 := X.n "clock" (by decide +kernel)
    have f2 := X.n "holder" (by decide +kernel)
    have f3 := X.n "until" (by decide +kernel)
    have f4 := X.n "number" (by decide +kernel)
    refine ⟨_, (pss_cons (ps_fld (pv 0) (pv 1) rfl)
  (pss_cons (ps_fld (pv 0) pe_non rfl)
  (pss_cons (ps_fld (pv 0) pe_non rfl)
  (pss_one (ps_fld (pv 0) pe_int rfl))))), ?_⟩
    fail "go"
    exact k H hL
theorem scGAsk : FnScope ["self", "name", "length", "time", "now"] ["self", "name", "length", "time"] (defScope sGAsk) := ⟨rfl, rfl, rfl, by decide +kernel, rfl, by decide +kernel, by decide +kernel⟩
theorem ok_GAsk {f : Addr} {fd : FuncData} (F0 : Fun K "ask" "Granter.ask" sGAsk f fd) (X : TxtCl K CG nmG) (T : TxtK K mg S F) (c_DriftClock_at : Met P w K mg base 1 CC "at" (spCAt CC) []) (c_waiting_time : Cal P w K mg base 1 "waiting_time" spWait []) : FnOk P w K mg base CX0 2 f fd ["self", "name", "length", "time"] (spGAsk CG CC) := by
  refine F0.ok scGAsk (fun vs H Q E h => ?_) (fun cdv A outer s0 H vs Q E hr h => ?_)
  · obtain ⟨g, dg, c, s, nm, len, t, L, rfl, _⟩ := h
    rfl
  · obtain ⟨g, dg, c, s, nm, len, t, L, rfl, hL, m1, m2, hc, hs, h1, h2, k1, k2⟩ := h
    have x1 := X.cl
    have f1 := X.n "clock" (by decide +kernel)
    have f2 := X.n "holder" (by decide +kernel)
    have f3 := X.n "until" (by decide +kernel)
    have f4 := X.n "number" (by decide +kernel)
    refine ⟨_, (pss_cons (ps_if (pt_not (pt_chain op_lt op_lt pe_int (pv 2) pe_int))
  pss_never
  pss_nil)
  (pss_cons (ps_set (i := 4) scGAsk.nd rfl (Or.inl rfl) (pe_mt c_DriftClock_at hr (by decide) (pe_fld (pv 0) rfl) (pa_cons (pv 3) pa_nil)))
  (pss_cons (ps_if (PW.pt (pw_and (pt_cmpR op_notN (pe_fld (pv 0) rfl) pe_non (nomark _)) (pw_and (pt_cmpR op_ne (pe_fld (pv 0) rfl) (pv 1) (nomark _)) (pw_and1 (pt_cmpR op_lt (pv 4) (pe_fld (pv 0) rfl) (nomark _))))))
  (pss_one (ps_ret pe_non))
  pss_nil)
  (C8.pss_cut (ps_if (PW.pt (pw_or (pt_cmpR op_ne (pe_fld (pv 0) rfl) (pv 1) (nomark _)) (pw_or1 (pt_cmpR op_ge (pv 4) (pe_fld (pv 0) rfl) (nomark _)))))
  (pss_one (ps_fldaug (pv 0) pe_int in_add))
  pss_nil)
  (pss_cons (ps_fld (pv 0) (pv 1) rfl)
  (pss_cons (ps_fld (pv 0) (pe_callB (call_max2 rfl) (by rfl) T.max (by decide +kernel) (pa_cons (pe_op op_add (pv 4) (pe_c c_waiting_time hr (by decide) (by rfl) (pa_cons (pv 2) pa_nil))) (pa_cons (pe_ifExp (pt_cmpR op_isN (pe_fld (pv 0) rfl) pe_non (nomark _)) pe_int (pe_fld (pv 0) rfl)) pa_nil))) rfl)
  (pss_one (ps_ret (pe_fld (pv 0) rfl))))))))), ?_⟩
    have hL : Led H ((g, .ins CG dg (fz nmG [.ref c.a, optS s.ho, optI s.un, .int s.nu])) :: L) := hL
    fail "go"
    rw [if_pos (decide_eq_true h1)]
    fail "go"
    rw [decide_eq_true h2]
    fail "go"
    have m1' : (c.a, HO.ins CC c.d (fz nmC [.ref c.r, .int c.b])) ∈ L := m1
    refine k_meth hL (at_mem (.tail _ m1')) (fz_no (by decide +kernel)) ?_
    fail "go"
    refine ⟨c, t, _, rfl, hL, .tail _ m1, .tail _ m2, hc, fun H hL => ?_⟩
    obtain ⟨now, hnow⟩ : ∃ now, now = c.at t := ⟨_, rfl⟩
    rw [← hnow] at k1 k2 ⊢
    clear hnow
    obtain ⟨ho, un, nu⟩ := s
    cases ho with
    | none =>
      fail "go"
      refine ⟨fun σ H => Hold (σ = [some (.ref g), some (.str nm), some (.int len), some (.int t), some (.int now)] ∧ Led H ((g, .ins CG dg (fz nmG [.ref c.a, .non, optI un, .int (nu + 1)])) :: L)), ?_, fun σ H h => ?_⟩
      · fail "go"
        exact .mk ⟨rfl, hL⟩
      · clear hL
        obtain ⟨rfl, hL⟩ := h.out
        clear h
        cases un with
        | none =>
          fail "go"
          refine k2 rfl H hL
        | some u =>
          fail "go"
          refine k2 rfl H hL
    | some h =>
      obtain ⟨u, rfl⟩ : ∃ u, un = some u := Option.isSome_iff_exists.mp (hs rfl)
      fail "go"
      refine ite_n (c := optS (some h) = V.str nm) (fun q => ?_) (fun q => ?_)
      · have qn : ¬ h = nm := fun e => q (by rw [e]; rfl)
        fail "go"
        refine ite_d (fun q2 => ?_) (fun q2 => ?_)
        · fail "go"
          exact k1 (by simp [GrS.busy, qn, q2]) H hL
        · fail "go"
          refine ⟨fun σ H => Hold (σ = [some (.ref g), some (.str nm), some (.int len), some (.int t), some (.int now)] ∧ Led H ((g, .ins CG dg (fz nmG [.ref c.a, .str h, .int u, .int (nu + 1)])) :: L)), ?_, fun σ H h => ?_⟩
          · fail "go"
            refine ite_n (c := optS (some h) = V.str nm) (fun _ => ?_) (fun q3 => absurd q3 q)
            fail "go"
            exact .mk ⟨rfl, hL⟩
          · clear hL
            obtain ⟨rfl, hL⟩ := h.out
            clear h
            fail "go"
            have hb : GrS.busy ⟨some h, some u, nu⟩ nm now = false := by simp [GrS.busy]; try exact fun _ => by omega
            have hf : GrS.fresh ⟨some h, some u, nu⟩ nm now = true := by simp [GrS.fresh]; try (first | exact .inl qn | omega)
            have h1 := k2 hb H (by
              unfold grO GrS.give
              rw [hf]
              exact hL)
            unfold GrS.give at h1
            rw [hf] at h1
            exact h1
      · have qn : h = nm := by injection q
        subst qn
        fail "go"
        by_cases q2 : u ≤ now
        · refine ⟨fun σ H => Hold (σ = [some (.ref g), some (.str h), some (.int len), some (.int t), some (.int now)] ∧ Led H ((g, .ins CG dg (fz nmG [.ref c.a, .str h, .int u, .int (nu + 1)])) :: L)), ?_, fun σ H h => ?_⟩
          · fail "go"
            refine ite_n (c := optS (some h) = V.str h) (fun q3 => absurd q q3) (fun _ => ?_)
            fail "go"
            refine ite_d (fun _ => ?_) (fun q3 => absurd q2 q3)
            fail "go"
            exact .mk ⟨rfl, hL⟩
          · clear hL
            obtain ⟨rfl, hL⟩ := h.out
            clear h
            fail "go"
            have hb : GrS.busy ⟨some h, some u, nu⟩ h now = false := by simp [GrS.busy]
            have hf : GrS.fresh ⟨some h, some u, nu⟩ h now = true := by simp [GrS.fresh]; omega
            have h1 := k2 hb H (by
              unfold grO GrS.give
              rw [hf]
              exact hL)
            unfold GrS.give at h1
            rw [hf] at h1
            exact h1
        · refine ⟨fun σ H => Hold (σ = [some (.ref g), some (.str h), some (.int len), some (.int t), some (.int now)] ∧ Led H ((g, .ins CG dg (fz nmG [.ref c.a, .str h, .int u, .int nu])) :: L)), ?_, fun σ H h => ?_⟩
          · fail "go"
            refine ite_n (c := optS (some h) = V.str h) (fun q3 => absurd q q3) (fun _ => ?_)
            fail "go"
            refine ite_d (fun q3 => absurd q3 q2) (fun _ => ?_)
            fail "go"
            exact .mk ⟨rfl, hL⟩
          · clear hL
            obtain ⟨rfl, hL⟩ := h.out
            clear h
            fail "go"
            have hb : GrS.busy ⟨some h, some u, nu⟩ h now = false := by simp [GrS.busy]
            have hf : GrS.fresh ⟨some h, some u, nu⟩ h now = false := by simp [GrS.fresh]; omega
            have h1 := k2 hb H (by
              unfold grO GrS.give
              rw [hf]
              exact hL)
            unfold GrS.give at h1
            rw [hf] at h1
            exact h1
theorem scGBack : FnScope ["self", "name", "number"] ["self", "name", "number"] (defScope sGBack) := ⟨rfl, rfl, rfl, by decide +kernel, rfl, by decide +kernel, by decide +kernel⟩
theorem ok_GBack {f : Addr} {fd : FuncData} (F0 : Fun K "give_back" "Granter.give_back" sGBack f fd) (X : TxtCl K CG nmG) : FnOk P w K mg base CX0 1 f fd ["self", "name", "number"] (spGBack CG) := by
  refine F0.ok scGBack (fun vs H Q E h => ?_) (fun cdv A outer s0 H vs Q E hr h => ?_)
  · obtain ⟨g, dg, c, s, nm, n, L, rfl, _⟩ := h
    rfl
  · obtain ⟨g, dg, c, s, nm, n, L, rfl, hL, k⟩ := h
    have x1 := X.cl
    have f2 := X.n "holder" (by decide +kernel)
    have f3 := X.n "until" (by decide +kernel)
    have f4 := X.n "number" (by decide +kernel)
    refine ⟨_, (pss_cons (ps_if (PW.pt (pw_or (pt_cmpR op_ne (pe_fld (pv 0) rfl) (pv 1) (nomark _)) (pw_or1 (pt_cmpR op_ne (pe_fld (pv 0) rfl) (pv 2) (nomark _)))))
  (pss_one (ps_ret pe_bl))
  pss_nil)
  (pss_cons (ps_fld (pv 0) pe_non rfl)
  (pss_cons (ps_fld (pv 0) pe_non rfl)
  (pss_one (ps_ret pe_bl))))), ?_⟩
    have hL : Led H ((g, .ins CG dg (fz nmG [.ref c, optS s.ho, optI s.un, .int s.nu])) :: L) := hL
    fail "go"
    obtain ⟨ho, un, nu⟩ := s
    cases ho with
    | none =>
      fail "go"
      exact k H hL
    | some h =>
      refine ⟨rfl, ?_⟩
      refine ⟨_, rfl, ?_⟩
      refine ite_n (c := optS (some h) = V.str nm) (fun q => ?_) (fun q => ?_)
      · have qn : ¬ h = nm := fun e => q (by rw [e]; rfl)
        fail "go"
        have e : GrS.mine ⟨some h, un, nu⟩ nm n = false := by simp [GrS.mine, qn]
        have h1 := k H (by rw [e]; exact hL)
        rw [e] at h1
        exact h1
      · have qn : h = nm := by injection q
        subst qn
        fail "go"
        refine ite_n (c := V.int nu = V.int n) (fun q2 => ?_) (fun q2 => ?_)
        · fail "go"
          have e : GrS.mine ⟨some h, un, nu⟩ h n = false := by
            have : ¬ nu = n := fun z => q2 (by rw [z])
            simp [GrS.mine, this]
          have h1 := k H (by rw [e]; exact hL)
          rw [e] at h1
          exact h1
        · fail "go"
          have e : GrS.mine ⟨some h, un, nu⟩ h n = true := by
            have : nu = n := by injection q2
            simp [GrS.mine, this]
          have h1 := k H (by rw [e]; exact hL)
          rw [e] at h1
          exact h1
theorem scHInit : FnScope ["self", "name", "clock"] ["self", "name", "clock"] (defScope sHInit) := ⟨rfl, rfl, rfl, by decide +kernel, rfl, by decide +kernel, by decide +kernel⟩
theorem ok_HInit {f : Addr} {fd : FuncData} (F0 : Fun K "__init__" "Holder.__init__" sHInit f fd) (X : TxtCl K CH nmH) : FnOk P w K mg base CX0 1 f fd ["self", "name", "clock"] (spHInit CH) := by
  refine F0.ok scHInit (fun vs H Q E h => ?_) (fun cdv A outer s H vs Q E hr h => ?_)
  · obtain ⟨g, dg, c, nm, L, rfl, _⟩ := h
    rfl
  · obtain ⟨g, dg, c, nm, L, rfl, hL, k⟩ := h
    have c1 := X.cl
    have f1 := X.n "name" (by decide +kernel)
    have f2 := X.n "clock" (by decide +kernel)
    have f3 := X.n "number" (by decide +kernel)
    have f4 := X.n "until" (by decide +kernel)
    have f5 := X.n "asked" (by decide +kernel)
    have f6 := X.n "length" (by decide +kernel)
    have f7 := X.n "turn" (by decide +kernel)
    refine ⟨_, (pss_cons (ps_fld (pv 0) (pv 1) rfl)
  (pss_cons (ps_fld (pv 0) (pv 2) rfl)
  (pss_cons (ps_fld (pv 0) pe_non rfl)
  (pss_cons (ps_fld (pv 0) pe_non rfl)
  (pss_cons (ps_fld (pv 0) pe_non rfl)
  (pss_cons (ps_fld (pv 0) pe_int rfl)
  (pss_one (ps_fld (pv 0) pe_int rfl)))))))), ?_⟩
    fail "go"
    exact k H hL
theorem scHBegin : FnScope ["self", "length", "time"] ["self", "length", "time"] (defScope sHBegin) := ⟨rfl, rfl, rfl, by decide +kernel, rfl, by decide +kernel, by decide +kernel⟩
theorem ok_HBegin {f : Addr} {fd : FuncData} (F0 : Fun K "begin" "Holder.begin" sHBegin f fd) (X : TxtCl K CH nmH) (c_DriftClock_at : Met P w K mg base 1 CC "at" (spCAt CC) []) : FnOk P w K mg base CX0 2 f fd ["self", "length", "time"] (spHBegin CH CC) := by
  refine F0.ok scHBegin (fun vs H Q E h => ?_) (fun cdv A outer s0 H vs Q E hr h => ?_)
  · obtain ⟨g, dg, c, s, len, t, L, rfl, _⟩ := h
    rfl
  · obtain ⟨g, dg, c, s, len, t, L, rfl, hL, m1, m2, hc, k⟩ := h
    have c1 := X.cl
    have f2 := X.n "clock" (by decide +kernel)
    have f5 := X.n "asked" (by decide +kernel)
    have f6 := X.n "length" (by decide +kernel)
    have f7 := X.n "turn" (by decide +kernel)
    refine ⟨_, (pss_cons (ps_fld (pv 0) (pe_mt c_DriftClock_at hr (by decide) (pe_fld (pv 0) rfl) (pa_cons (pv 2) pa_nil)) rfl)
  (pss_cons (ps_fld (pv 0) (pv 1) rfl)
  (pss_cons (ps_fldaug (pv 0) pe_int in_add)
  (pss_one (ps_ret (pe_fld (pv 0) rfl)))))), ?_⟩
    have hL : Led H ((g, .ins CH dg (fz nmH [.str s.nm, .ref c.a, optI s.nu, optI s.un, optI s.ak, .int s.le, .int s.tu])) :: L) := hL
    fail "go"
    have m1' : (c.a, HO.ins CC c.d (fz nmC [.ref c.r, .int c.b])) ∈ L := m1
    refine k_meth hL (at_mem (.tail _ m1')) (fz_no (by decide +kernel)) ?_
    fail "go"
    refine ⟨c, t, _, rfl, hL, .tail _ m1, .tail _ m2, hc, fun H hL => ?_⟩
    fail "go"
    exact k H hL
theorem scHGrant : FnScope ["self", "turn", "number"] ["self", "turn", "number"] (defScope sHGrant) := ⟨rfl, rfl, rfl, by decide +kernel, rfl, by decide +kernel, by decide +kernel⟩
theorem ok_HGrant {f : Addr} {fd : FuncData} (F0 : Fun K "granted" "Holder.granted" sHGrant f fd) (X : TxtCl K CH nmH) : FnOk P w K mg base CX0 1 f fd ["self", "turn", "number"] (spHGrant CH) := by
  refine F0.ok scHGrant (fun vs H Q E h => ?_) (fun cdv A outer s0 H vs Q E hr h => ?_)
  · obtain ⟨g, dg, c, s, t, n, L, rfl, _⟩ := h
    rfl
  · obtain ⟨g, dg, c, s, t, n, L, rfl, hL, k⟩ := h
    have c1 := X.cl
    have f3 := X.n "number" (by decide +kernel)
    have f4 := X.n "until" (by decide +kernel)
    have f5 := X.n "asked" (by decide +kernel)
    have f6 := X.n "length" (by decide +kernel)
    have f7 := X.n "turn" (by decide +kernel)
    refine ⟨_, (pss_cons (ps_if (PW.pt (pw_or (pt_cmpR op_isN (pe_fld (pv 0) rfl) pe_non (nomark _)) (pw_or1 (pt_cmpR op_ne (pv 1) (pe_fld (pv 0) rfl) (nomark _)))))
  (pss_one (ps_ret pe_bl))
  pss_nil)
  (C8.pss_cut (ps_if (pt_cmpR op_notN (pv 2) pe_non (nomark _))
  (pss_cons (ps_fld (pv 0) (pv 2) rfl)
  (pss_one (ps_fld (pv 0) (pe_op op_add (pe_fld (pv 0) rfl) (pe_fld (pv 0) rfl)) rfl)))
  pss_nil)
  (pss_cons (ps_fld (pv 0) pe_non rfl)
  (pss_one (ps_ret (pe_cmpR op_notN (pv 2) pe_non (nomark _))))))), ?_⟩
    have hL : Led H ((g, .ins CH dg (fz nmH [.str s.nm, .ref c, optI s.nu, optI s.un, optI s.ak, .int s.le, .int s.tu])) :: L) := hL
    fail "go"
    obtain ⟨nm, nu, un, ak, le, tu⟩ := s
    cases ak with
    | none =>
      fail "go"
      exact k H hL
    | some ak =>
      fail "go"
      refine ite_n (c := V.int t = V.int tu) (fun q => ?_) (fun q => ?_)
      · have qn : ¬ t = tu := fun e => q (by rw [e])
        fail "go"
        have e : HoS.hit ⟨nm, nu, un, some ak, le, tu⟩ t = false := by simp [HoS.hit, qn]
        have h1 := k H (by rw [e]; exact hL)
        rw [e] at h1
        exact h1
      · have qn : t = tu := by injection q
        subst qn
        have e : HoS.hit ⟨nm, nu, un, some ak, le, t⟩ t = true := by simp [HoS.hit]
        rw [e] at k
        cases n with
        | none =>
          fail "go"
          refine ⟨fun σ H => Hold (σ = [some (.ref g), some (.int t), some .non] ∧ Led H ((g, .ins CH dg (fz nmH [.str nm, .ref c, optI nu, optI un, .int ak, .int le, .int t])) :: L)), ?_, fun σ H h => ?_⟩
          · fail "go"
            exact .mk ⟨rfl, hL⟩
          · clear hL
            obtain ⟨rfl, hL⟩ := h.out
            clear h
            fail "go"
            exact k H hL
        | some n =>
          fail "go"
          refine ⟨fun σ H => Hold (σ = [some (.ref g), some (.int t), some (.int n)] ∧ Led H ((g, .ins CH dg (fz nmH [.str nm, .ref c, .int n, .int (ak + le), .int ak, .int le, .int t])) :: L)), ?_, fun σ H h => ?_⟩
          · fail "go"
            exact .mk ⟨rfl, hL⟩
          · clear hL
            obtain ⟨rfl, hL⟩ := h.out
            clear h
            fail "go"
            exact k H hL
theorem scHHolds : FnScope ["self", "time"] ["self", "time"] (defScope sHHolds) := ⟨rfl, rfl, rfl, by decide +kernel, rfl, by decide +kernel, by decide +kernel⟩
theorem ok_HHolds {f : Addr} {fd : FuncData} (F0 : Fun K "holds" "Holder.holds" sHHolds f fd) (X : TxtCl K CH nmH) (c_DriftClock_at : Met P w K mg base 1 CC "at" (spCAt CC) []) : FnOk P w K mg base CX0 2 f fd ["self", "time"] (spHHolds CH CC) := by
  refine F0.ok scHHolds (fun vs H Q E h => ?_) (fun cdv A outer s0 H vs Q E hr h => ?_)
  · obtain ⟨g, dg, c, s, t, L, rfl, _⟩ := h
    rfl
  · obtain ⟨g, dg, c, s, t, L, rfl, hL, m0, m1, m2, hc, hs, k⟩ := h
    have c1 := X.cl
    have f2 := X.n "clock" (by decide +kernel)
    have f3 := X.n "number" (by decide +kernel)
    have f4 := X.n "until" (by decide +kernel)
    refine ⟨_, (pss_one (ps_ret (pe_and (pe_cmpR op_notN (pe_fld (pv 0) rfl) pe_non (nomark _)) (pe_one (pe_cmpR op_lt (pe_mt c_DriftClock_at hr (by decide) (pe_fld (pv 0) rfl) (pa_cons (pv 1) pa_nil)) (pe_fld (pv 0) rfl) (nomark _)))))), ?_⟩
    have m0 : (g, HO.ins CH dg (fz nmH [.str s.nm, .ref c.a, optI s.nu, optI s.un, optI s.ak, .int s.le, .int s.tu])) ∈ L := m0
    fail "go"
    obtain ⟨nm, nu, un, ak, le, tu⟩ := s
    refine k_fld hL (at_mem m0) c1 f3 (fz_at 2 (by decide +kernel) rfl rfl) ?_
    cases nu with
    | none =>
      fail "go"
      exact k H hL
    | some n =>
      obtain ⟨u, rfl⟩ : ∃ u, un = some u := Option.isSome_iff_exists.mp (hs rfl)
      fail "go"
      refine k_fld hL (at_mem m0) c1 f2 (fz_at 1 (by decide +kernel) rfl rfl) ?_
      have m1' : (c.a, HO.ins CC c.d (fz nmC [.ref c.r, .int c.b])) ∈ L := m1
      refine k_meth hL (at_mem m1') (fz_no (by decide +kernel)) ?_
      fail "go"
      refine ⟨c, t, _, rfl, hL, m1, m2, hc, fun H hL => ?_⟩
      fail "go"
      refine k_fld hL (at_mem m0) c1 f4 (fz_at 3 (by decide +kernel) rfl rfl) ?_
      fail "go"
      exact k H hL
theorem scHDrop : FnScope ["self", "found"] ["self"] (defScope sHDrop) := ⟨rfl, rfl, rfl, by decide +kernel, rfl, by decide +kernel, by decide +kernel⟩
theorem ok_HDrop {f : Addr} {fd : FuncData} (F0 : Fun K "drop" "Holder.drop" sHDrop f fd) (X : TxtCl K CH nmH) : FnOk P w K mg base CX0 1 f fd ["self"] (spHDrop CH) := by
  refine F0.ok scHDrop (fun vs H Q E h => ?_) (fun cdv A outer s0 H vs Q E hr h => ?_)
  · obtain ⟨g, dg, c, s, L, rfl, _⟩ := h
    rfl
  · obtain ⟨g, dg, c, s, L, rfl, hL, k⟩ := h
    have c1 := X.cl
    have f3 := X.n "number" (by decide +kernel)
    have f4 := X.n "until" (by decide +kernel)
    have f5 := X.n "asked" (by decide +kernel)
    refine ⟨_, (pss_cons (ps_asg (pe_tup (pa_cons (pe_fld (pv 0) rfl) (pa_cons pe_non (pa_cons pe_non (pa_cons pe_non pa_nil))))) (pg_tup (by rfl) (pgs_cons (pg_name (i := 1) scHDrop.nd rfl (Or.inl rfl)) (pgs_cons (pg_fld (pv 0)) (pgs_cons (pg_fld (pv 0)) (pgs_cons (pg_fld (pv 0)) pgs_nil))))))
  (pss_one (ps_ret (pv 1)))), ?_⟩
    have hL : Led H ((g, .ins CH dg (fz nmH [.str s.nm, .ref c, optI s.nu, optI s.un, optI s.ak, .int s.le, .int s.tu])) :: L) := hL
    fail "go"
    exact k H hL.tail
theorem scUInit : FnScope ["self"] ["self"] (defScope sUInit) := ⟨rfl, rfl, rfl, by decide +kernel, rfl, by decide +kernel, by decide +kernel⟩
theorem ok_UInit {f : Addr} {fd : FuncData} (F0 : Fun K "__init__" "Guarded.__init__" sUInit f fd) (X : TxtCl K CU nmU) : FnOk P w K mg base CX0 1 f fd ["self"] (spUInit CU) := by
  refine F0.ok scUInit (fun vs H Q E h => ?_) (fun cdv A outer s H vs Q E hr h => ?_)
  · obtain ⟨g, dg, L, rfl, _⟩ := h
    rfl
  · obtain ⟨g, dg, L, rfl, hL, k⟩ := h
    have c1 := X.cl
    have f1 := X.n "greatest" (by decide +kernel)
    have f2 := X.n "acts" (by decide +kernel)
    refine ⟨_, (pss_cons (ps_fld (pv 0) pe_int rfl)
  (pss_one (ps_fld (pv 0) (pe_lst pa_nil) rfl))), ?_⟩
    fail "go"
    refine k p H (hL.le (fun a_ => ?_))
    simp only [guO, nmU, cnt_cons]
    omega
theorem scUAct : FnScope ["self", "number", "what"] ["self", "number", "what"] (defScope sUAct) := ⟨rfl, rfl, rfl, by decide +kernel, rfl, by decide +kernel, by decide +kernel⟩
theorem ok_UAct {f : Addr} {fd : FuncData} (F0 : Fun K "act" "Guarded.act" sUAct f fd) (X : TxtCl K CU nmU) : FnOk P w K mg base CX0 1 f fd ["self", "number", "what"] (spUAct CU) := by
  refine F0.ok scUAct (fun vs H Q E h => ?_) (fun cdv A outer s H vs Q E hr h => ?_)
  · obtain ⟨u, du, al, g, n, wv, rs, L, rfl, _⟩ := h
    rfl
  · obtain ⟨u, du, al, g, n, wv, rs, L, rfl, hL, hl, k1, k2⟩ := h
    have c1 := X.cl
    have f1 := X.n "greatest" (by decide +kernel)
    have f2 := X.n "acts" (by decide +kernel)
    refine ⟨_, (pss_cons (ps_if (pt_cmpR op_lt (pv 1) (pe_fld (pv 0) rfl) (nomark _))
  (pss_one (ps_ret pe_bl))
  pss_nil)
  (pss_cons (ps_fld (pv 0) (pv 1) rfl)
  (pss_cons (ps_expr (pe_bm PySem.F.plainAttrs_list PySem.F.slot_list_append PySem.F.type_list_append mt_append (pe_fld (pv 0) rfl) (pa_cons (pe_tup (pa_cons (pv 1) (pa_cons (pv 2) pa_nil))) pa_nil)))
  (pss_one (ps_ret pe_bl))))), ?_⟩
    have hL : Led H ((u, .ins CU du (fz nmU [.int g, .ref al])) :: (al, .lst rs) :: L) := hL
    fail "go"
    refine ite_d (fun q => ?_) fun q => ?_
    · fail "go"
      exact k1 q H hL
    · fail "go"
      refine k2 (by omega) p H (hL.le (fun a_ => ?_))
      simp only [guO, nmU, cnt_cons]
      omega
end
end Sd


set_option linter.unusedVariables false
namespace Sd
open PySem L2 LamX
open C8 (Cal Met Mak pe_c pe_mk pe_mt pe_mt0 pss_cut tCut)
set_option linter.unusedSimpArgs false
set_option pp.deepTerms false
set_option pp.deepTerms.threshold 12
set_option hygiene false
local macro_rules | `(tactic| fail "nd") => `(tactic| first | assumption | decide +kernel)
local macro_rules | `(tactic| fail "ix") => `(tactic| first | exact ⟨0, rfl⟩ | exact ⟨1, rfl⟩ | exact ⟨2, rfl⟩ | exact ⟨3, rfl⟩ | exact ⟨4, rfl⟩ | exact ⟨5, rfl⟩ | exact ⟨6, rfl⟩ | exact ⟨7, rfl⟩ | exact ⟨8, rfl⟩ | exact ⟨9, rfl⟩ | exact ⟨10, rfl⟩ | exact ⟨11, rfl⟩ | exact ⟨12, rfl⟩ | exact ⟨13, rfl⟩ | exact ⟨14, rfl⟩ | exact ⟨15, rfl⟩ | exact ⟨16, rfl⟩ | exact ⟨17, rfl⟩ | exact ⟨18, rfl⟩ | assumption)
local macro_rules | `(tactic| fail "up") => `(tactic| first | exact ⟨0, rfl, rfl⟩ | exact ⟨1, rfl, rfl⟩ | exact ⟨2, rfl, rfl⟩ | exact ⟨3, rfl, rfl⟩ | exact ⟨4, rfl, rfl⟩ | exact ⟨5, rfl, rfl⟩ | exact ⟨6, rfl, rfl⟩ | exact ⟨7, rfl, rfl⟩ | exact ⟨8, rfl, rfl⟩ | exact ⟨9, rfl, rfl⟩ | exact ⟨10, rfl, rfl⟩ | exact ⟨11, rfl, rfl⟩ | exact ⟨12, rfl, rfl⟩ | exact ⟨13, rfl, rfl⟩ | exact ⟨14, rfl, rfl⟩ | exact ⟨15, rfl, rfl⟩ | exact ⟨16, rfl, rfl⟩ | assumption)
local macro_rules | `(tactic| fail "lkF") => `(tactic| first | assumption | exact fz_at 0 (by fail "nd") rfl rfl | exact fz_at 1 (by fail "nd") rfl rfl | exact fz_at 2 (by fail "nd") rfl rfl | exact fz_at 3 (by fail "nd") rfl rfl | exact fz_at 4 (by fail "nd") rfl rfl | exact fz_at 5 (by fail "nd") rfl rfl | exact fz_at 6 (by fail "nd") rfl rfl | exact fz_at 7 (by fail "nd") rfl rfl)
local macro_rules | `(tactic| fail "lkD") => `(tactic| first | assumption | exact dz_at 0 (by fail "nd") rfl rfl | exact dz_at 1 (by fail "nd") rfl rfl | exact dz_at 2 (by fail "nd") rfl rfl | exact dz_at 3 (by fail "nd") rfl rfl | exact dz_at 4 (by fail "nd") rfl rfl)
local macro_rules | `(tactic| fail "ptF") => `(tactic| first | assumption | exact fz_put 0 (by fail "nd") rfl (Nat.le_of_ble_eq_true rfl) | exact fz_put 1 (by fail "nd") rfl (Nat.le_of_ble_eq_true rfl) | exact fz_put 2 (by fail "nd") rfl (Nat.le_of_ble_eq_true rfl) | exact fz_put 3 (by fail "nd") rfl (Nat.le_of_ble_eq_true rfl) | exact fz_put 4 (by fail "nd") rfl (Nat.le_of_ble_eq_true rfl) | exact fz_put 5 (by fail "nd") rfl (Nat.le_of_ble_eq_true rfl) | exact fz_put 6 (by fail "nd") rfl (Nat.le_of_ble_eq_true rfl) | exact fz_put 7 (by fail "nd") rfl (Nat.le_of_ble_eq_true rfl) | exact fz_new (by decide +kernel) rfl)
local macro_rules | `(tactic| fail "ptD") => `(tactic| first | assumption | exact dz_put 0 (by fail "nd") rfl (Nat.le_of_ble_eq_true rfl) | exact dz_put 1 (by fail "nd") rfl (Nat.le_of_ble_eq_true rfl) | exact dz_put 2 (by fail "nd") rfl (Nat.le_of_ble_eq_true rfl) | exact dz_put 3 (by fail "nd") rfl (Nat.le_of_ble_eq_true rfl) | exact dz_put 4 (by fail "nd") rfl (Nat.le_of_ble_eq_true rfl))
local macro_rules | `(tactic| fail "sz") => `(tactic| first | assumption | exact (Nat.le_of_ble_eq_true rfl) | omega | decide)
local macro_rules | `(tactic| fail "sd") => `(tactic| first | rfl | assumption | decide | omega | (dsimp only; first | decide | omega) | exact .inr ⟨by decide, by decide⟩ | exact .inl ⟨by decide, by decide⟩ | exact ⟨by omega, by omega⟩ | exact .inl ⟨by omega, by omega⟩ | exact .inr ⟨by omega, by omega⟩ | exact ⟨by omega, by omega, by omega⟩)
local macro_rules | `(tactic| fail "cl") => `(tactic| (clear hH; dsimp only [List.set, List.cons_append, List.nil_append, List.append] at hL))
local macro_rules | `(tactic| fail "gn") => `(tactic| (intro p hp; generalize hH : upd H p _ = H; replace hL := Led.newH hL hp hH; clear hH hp))
local macro_rules | `(tactic| fail "gup") => `(tactic| (generalize hH : upd H _ _ = H; replace hL := Led.upU hL (by fail "up") hH; fail "cl"))
local macro_rules | `(tactic| fail "gmk") => `(tactic| (intro x dx hx hd ne; generalize hH : upd (upd H dx _) x _ = H; replace hL := Led.made hL hx hd ne hH; clear hH hx hd ne))
local macro_rules | `(tactic| fail "v") => `(tactic| refine ⟨_, rfl, ?_⟩)
local macro_rules | `(tactic| fail "i2") => `(tactic| refine ⟨_, _, rfl, rfl, ?_⟩)
local macro_rules | `(tactic| fail "go1") => `(tactic| first
  | refine ⟨_, rfl, ?_⟩
  | refine ⟨_, _, rfl, rfl, ?_⟩
  | refine ⟨_, _, rfl, ?_⟩
  | refine iteT ?_
  | refine iteF ?_
  | refine k_fld hL (by fail "ix") (by assumption) (by assumption) (by fail "lkF") ?_
  | refine k_dgetS hL (by fail "ix") (by fail "lkD") ?_
  | refine k_dgetI hL (by fail "ix") (by assumption) ?_
  | refine k_ixL hL (by fail "ix") (by first | rfl | assumption) ?_
  | refine k_ixT hL (by fail "ix") (by first | rfl | assumption) ?_
  | refine k_tyL hL (by fail "ix") ?_
  | refine k_isd hL (by fail "ix") ?_
  | (refine And.intro (by fail "sz") ?_; fail "gn")
  | refine And.intro (by fail "sd") ?_
  | fail "gn"
  | refine k_meth hL (by fail "ix") (by first | assumption | exact fz_no (by decide +kernel)) ?_
  | refine k_gtup hL (by fail "ix") rfl ?_
  | (refine k_popI hL (by fail "ix") (by assumption) ?_; fail "gup")
  | (refine k_listD hL (by fail "ix") ?_; fail "gn")
  | (refine ⟨_, _, _, _, rfl, rfl, hL.at (by fail "ix"), rfl, ?_⟩; fail "gup")
  | (refine ⟨_, _, _, rfl, rfl, hL.at (by fail "ix"), (by fail "sz"), ?_⟩; fail "gup")
  | (refine ⟨_, _, _, _, rfl, hL.at (by fail "ix"), by assumption, by assumption, Nat.lt_of_le_of_lt fz_len (by decide), ?_⟩; generalize hH : upd H _ _ = H; replace hL := Led.upF hL (by fail "up") (by fail "ptF") hH; fail "cl")
  | (refine ⟨_, _, hL.at (by fail "ix"), Nat.lt_of_le_of_lt fz_len (by decide), ?_⟩; generalize hH : upd H _ _ = H; replace hL := Led.upF hL (by fail "up") (by fail "ptF") hH; fail "cl")
  | (refine k_dputS hL (by fail "ix") (Nat.lt_of_le_of_lt dz_len (by decide)) (by fail "ptD") (by fail "up") ?_; clear hL; intro H hL; dsimp only [List.set, List.cons_append, List.nil_append, List.append] at hL)
  | refine k_lenL2 hL (by fail "ix") ?_
  | refine k_lenT2 hL (by fail "ix") ?_
  | refine .inl ⟨_, rfl, ?_⟩
  | refine .inr ⟨_, rfl, ?_⟩)
local macro_rules | `(tactic| fail "go") => `(tactic| repeat fail "go1")
local macro_rules | `(tactic| fail "pm") => `(tactic| (refine Led.le hL (fun a_ => ?_); simp only [cnt_nil, cnt_cons, cnt_app, List.map_append, List.map_cons, List.map_nil, List.flatMap_append, List.flatMap_cons, List.flatMap_nil, List.append_assoc, List.cons_append, List.nil_append]; omega))

/-! ### k13: the law's lease; what is refused -/
def nmL : List Str := ["holder", "until", "number"]
def lsO (l : Addr) (s : GrS) : Addr × HO := (l, .dK (dz nmL [optS s.ho, optI s.un, .int s.nu]))
def spLease : Sp := fun vs H Q _ => ∃ (l : Addr) (s : GrS) (nm : Str) (now len : Int) (L : Lg), vs = [.ref l, .str nm, .int now, .int len] ∧ Led H (lsO l s :: L) ∧ s.Ok ∧
  (s.busy nm now = true → ∀ H', Led H' (lsO l s :: L) → Q .non H') ∧
  (s.busy nm now = false → ∀ H', Led H' (lsO l (s.give nm len now) :: L) → Q (.int (s.give nm len now).nu) H')
def spCInitX (CM : Addr) : Sp := fun vs H Q E => ∃ (x r : Addr) (t l b : Int) (L : Lg), vs = [.ref x, .ref r, .int b] ∧ Led H L ∧ (r, HO.tup [.int t, .int l]) ∈ L ∧ (l < 1 ∨ t * 10 < l * 9 ∨ l * 11 < t * 10) ∧ ∀ H', Led H' L → E (.ref CM) none H'
def spGAskX (CM : Addr) : Sp := fun vs H Q E => ∃ (g : Addr) (v : V) (len t : Int), vs = [.ref g, v, .int len, .int t] ∧ ¬ (0 < len ∧ len < 1000) ∧ E (.ref CM) none H
section
variable {P : Program} {w : World} {K : PySem.W.Frag} {mg : Str → Option Value} {base : Heap} {CC CG CM S F : Addr}
theorem scLease : FnScope ["lease", "name", "now", "length"] ["lease", "name", "now", "length"] (defScope sLease) := ⟨rfl, rfl, rfl, by decide +kernel, rfl, by decide +kernel, by decide +kernel⟩
theorem ok_lease {f : Addr} {fd : FuncData} (F0 : Fun K "_law_lease" "_law_lease" sLease f fd) (T : TxtK K mg S F) (c_waiting_time : Cal P w K mg base 1 "waiting_time" spWait []) : FnOk P w K mg base CX0 2 f fd ["lease", "name", "now", "length"] spLease := by
  refine F0.ok scLease (fun vs H Q E h => ?_) (fun cdv A outer s0 H vs Q E hr h => ?_)
  · obtain ⟨l, s, nm, now, len, L, rfl, _⟩ := h
    rfl
  · obtain ⟨l, s, nm, now, len, L, rfl, hL, hs, k1, k2⟩ := h
    refine ⟨_, (pss_cons (ps_if (PW.pt (pw_and (pt_cmpR op_notN (pe_dget (hu_of hr) (pv 0) pe_str (fun _ _ => rfl)) pe_non (nomark _)) (pw_and (pt_cmpR op_ne (pe_dget (hu_of hr) (pv 0) pe_str (fun _ _ => rfl)) (pv 1) (nomark _)) (pw_and1 (pt_cmpR op_lt (pv 2) (pe_dget (hu_of hr) (pv 0) pe_str (fun _ _ => rfl)) (nomark _))))))
  (pss_one (ps_ret pe_non))
  pss_nil)
  (C8.pss_cut (ps_if (PW.pt (pw_or (pt_cmpR op_ne (pe_dget (hu_of hr) (pv 0) pe_str (fun _ _ => rfl)) (pv 1) (nomark _)) (pw_or1 (pt_cmpR op_ge (pv 2) (pe_dget (hu_of hr) (pv 0) pe_str (fun _ _ => rfl)) (nomark _)))))
  (pss_one (ps_dput (hu_of hr) (pv 0) pe_str (pe_op op_add (pe_dget (hu_of hr) (pv 0) pe_str (fun _ _ => rfl)) pe_int) rfl))
  pss_nil)
  (pss_cons (ps_dput (hu_of hr) (pv 0) pe_str (pv 1) rfl)
  (pss_cons (ps_dput (hu_of hr) (pv 0) pe_str (pe_callB (call_max2 rfl) (by rfl) T.max (by decide +kernel) (pa_cons (pe_op op_add (pv 2) (pe_c c_waiting_time hr (by decide) (by rfl) (pa_cons (pv 3) pa_nil))) (pa_cons (pe_ifExp (pt_cmpR op_isN (pe_dget (hu_of hr) (pv 0) pe_str (fun _ _ => rfl)) pe_non (nomark _)) pe_int (pe_dget (hu_of hr) (pv 0) pe_str (fun _ _ => rfl))) pa_nil))) rfl)
  (pss_one (ps_ret (pe_dget (hu_of hr) (pv 0) pe_str (fun _ _ => rfl)))))))), ?_⟩
    obtain ⟨ho, un, nu⟩ := s
    have hL : Led H ((l, .dK (dz nmL [optS ho, optI un, .int nu])) :: L) := hL
    cases ho with
    | none =>
      fail "go"
      refine ⟨fun σ H => Hold (σ = [some (.ref l), some (.str nm), some (.int now), some (.int len)] ∧ Led H ((l, .dK (dz nmL [.non, optI un, .int (nu + 1)])) :: L)), ?_, fun σ H h => ?_⟩
      · fail "go"
        exact .mk ⟨rfl, hL⟩
      · clear hL
        obtain ⟨rfl, hL⟩ := h.out
        clear h
        cases un with
        | none =>
          fail "go"
          refine k2 rfl H hL
        | some u =>
          fail "go"
          refine k2 rfl H hL
    | some h =>
      obtain ⟨u, rfl⟩ : ∃ u, un = some u := Option.isSome_iff_exists.mp (hs rfl)
      fail "go"
      refine ite_n (c := optS (some h) = V.str nm) (fun q => ?_) (fun q => ?_)
      · have qn : ¬ h = nm := fun e => q (by rw [e]; rfl)
        fail "go"
        refine ite_d (fun q2 => ?_) (fun q2 => ?_)
        · fail "go"
          exact k1 (by simp [GrS.busy, qn, q2]) H hL
        · fail "go"
          refine ⟨fun σ H => Hold (σ = [some (.ref l), some (.str nm), some (.int now), some (.int len)] ∧ Led H ((l, .dK (dz nmL [.str h, .int u, .int (nu + 1)])) :: L)), ?_, fun σ H h => ?_⟩
          · fail "go"
            refine ite_n (c := optS (some h) = V.str nm) (fun _ => ?_) (fun q3 => absurd q3 q)
            fail "go"
            exact .mk ⟨rfl, hL⟩
          · clear hL
            obtain ⟨rfl, hL⟩ := h.out
            clear h
            fail "go"
            have hb : GrS.busy ⟨some h, some u, nu⟩ nm now = false := by simp [GrS.busy]; try exact fun _ => by omega
            have hf : GrS.fresh ⟨some h, some u, nu⟩ nm now = true := by simp [GrS.fresh]; try (first | exact .inl qn | omega)
            have h1 := k2 hb H (by
              unfold lsO GrS.give
              rw [hf]
              exact hL)
            unfold GrS.give at h1
            rw [hf] at h1
            exact h1
      · have qn : h = nm := by injection q
        subst qn
        fail "go"
        by_cases q2 : u ≤ now
        · refine ⟨fun σ H => Hold (σ = [some (.ref l), some (.str h), some (.int now), some (.int len)] ∧ Led H ((l, .dK (dz nmL [.str h, .int u, .int (nu + 1)])) :: L)), ?_, fun σ H h => ?_⟩
          · fail "go"
            refine ite_n (c := optS (some h) = V.str h) (fun q3 => absurd q q3) (fun _ => ?_)
            fail "go"
            refine ite_d (fun _ => ?_) (fun q3 => absurd q2 q3)
            fail "go"
            exact .mk ⟨rfl, hL⟩
          · clear hL
            obtain ⟨rfl, hL⟩ := h.out
            clear h
            fail "go"
            have hb : GrS.busy ⟨some h, some u, nu⟩ h now = false := by simp [GrS.busy]
            have hf : GrS.fresh ⟨some h, some u, nu⟩ h now = true := by simp [GrS.fresh]; omega
            have h1 := k2 hb H (by
              unfold lsO GrS.give
              rw [hf]
              exact hL)
            unfold GrS.give at h1
            rw [hf] at h1
            exact h1
        · refine ⟨fun σ H => Hold (σ = [some (.ref l), some (.str h), some (.int now), some (.int len)] ∧ Led H ((l, .dK (dz nmL [.str h, .int u, .int nu])) :: L)), ?_, fun σ H h => ?_⟩
          · fail "go"
            refine ite_n (c := optS (some h) = V.str h) (fun q3 => absurd q q3) (fun _ => ?_)
            fail "go"
            refine ite_d (fun q3 => absurd q3 q2) (fun _ => ?_)
            fail "go"
            exact .mk ⟨rfl, hL⟩
          · clear hL
            obtain ⟨rfl, hL⟩ := h.out
            clear h
            fail "go"
            have hb : GrS.busy ⟨some h, some u, nu⟩ h now = false := by simp [GrS.busy]
            have hf : GrS.fresh ⟨some h, some u, nu⟩ h now = false := by simp [GrS.fresh]; omega
            have h1 := k2 hb H (by
              unfold lsO GrS.give
              rw [hf]
              exact hL)
            unfold GrS.give at h1
            rw [hf] at h1
            exact h1
theorem ok_CInitX {f : Addr} {fd : FuncData} (F0 : FunD K "__init__" "DriftClock.__init__" (defArgs sCInit) (defBody sCInit) (defScope sCInit) [.int 0] [] f fd) (T : TxtK K mg S F) (TE : ExcT K mg "MachineError" CM) : FnOk P w K mg base (L2.CX P w) 1 f fd ["self", "rate", "start"] (spCInitX CM) := by
  refine F0.ok scCInit (fun vs H Q E h => ?_) (fun cdv A outer s H vs Q E hr h => ?_)
  · obtain ⟨x, r, t, l, b, L, rfl, _⟩ := h
    rfl
  · obtain ⟨x, r, t, l, b, L, rfl, hL, hm, h1, k⟩ := h
    refine ⟨_, (pss_cons (ps_asg (pv 1) (pg_tup (by rfl) (pgs_cons (pg_name (i := 3) scCInit.nd rfl (Or.inl rfl)) (pgs_cons (pg_name (i := 4) scCInit.nd rfl (Or.inl rfl)) pgs_nil))))
  (pss_cons (ps_if (PW.pt (pw_or (pt_cmpR op_lt (pv 4) pe_int (nomark _)) (pw_or (pt_cmpR op_lt (pe_op op_mul (pv 3) (pe_ix ix_tup (C8.pe_gc (by rfl) T.g_SLOWEST) pe_int (fun _ _ => rfl))) (pe_op op_mul (pv 4) (pe_ix ix_tup (C8.pe_gc (by rfl) T.g_SLOWEST) pe_int (fun _ _ => rfl))) (nomark _)) (pw_or1 (pt_cmpR op_gt (pe_op op_mul (pv 3) (pe_ix ix_tup (C8.pe_gc (by rfl) T.g_FASTEST) pe_int (fun _ _ => rfl))) (pe_op op_mul (pv 4) (pe_ix ix_tup (C8.pe_gc (by rfl) T.g_FASTEST) pe_int (fun _ _ => rfl))) (nomark _))))))
  (pss_one (ps_raiseT TE rfl (takes_of rfl rfl rfl (E := E) rfl) rfl))
  pss_nil)
  (pss_cons (ps_fld (pv 0) (pe_tup (pa_cons (pv 3) (pa_cons (pv 4) pa_nil))) rfl)
  (pss_one (ps_fld (pv 0) (pv 2) rfl))))), ?_⟩
    fail "go"
    refine ⟨r, [.int t, .int l], rfl, .of (hL.mem hm), rfl, ?_⟩
    fail "go"
    refine ite_d (fun q => ?_) fun q => ?_
    · fail "go"
      exact k H hL
    fail "go"
    refine ⟨S, _, 1, _, rfl, rfl, T.slow _, rfl, ?_⟩
    fail "go"
    refine ⟨S, _, 0, _, rfl, rfl, T.slow _, rfl, ?_⟩
    fail "go"
    refine ite_d (fun q => ?_) fun q => ?_
    · fail "go"
      exact k H hL
    fail "go"
    refine ⟨F, _, 1, _, rfl, rfl, T.fast _, rfl, ?_⟩
    fail "go"
    refine ⟨F, _, 0, _, rfl, rfl, T.fast _, rfl, ?_⟩
    fail "go"
    refine ite_d (fun q => ?_) fun q => absurd h1 (by omega)
    · fail "go"
      exact k H hL
theorem ok_GAskX {f : Addr} {fd : FuncData} (F0 : Fun K "ask" "Granter.ask" sGAsk f fd) (T : TxtK K mg S F) (TE : ExcT K mg "MachineError" CM) (c_DriftClock_at : Met P w K mg base 1 CC "at" (spCAt CC) []) (c_waiting_time : Cal P w K mg base 1 "waiting_time" spWait []) : FnOk P w K mg base (L2.CX P w) 2 f fd ["self", "name", "length", "time"] (spGAskX CM) := by
  refine F0.okX scGAsk (fun vs H Q E h => ?_) (fun cdv A outer s0 H vs Q E hr h => ?_)
  · obtain ⟨g, v, len, t, rfl, _⟩ := h
    rfl
  · obtain ⟨g, v, len, t, rfl, hn, k⟩ := h
    refine ⟨_, (pss_cons (ps_if (pt_not (pt_chain op_lt op_lt pe_int (pv 2) pe_int))
  (pss_one (ps_raiseT TE rfl (takes_of rfl rfl rfl (E := E) rfl) rfl))
  pss_nil)
  (pss_cons (ps_set (i := 4) scGAsk.nd rfl (Or.inl rfl) (pe_mt c_DriftClock_at hr (by decide) (pe_fld (pv 0) rfl) (pa_cons (pv 3) pa_nil)))
  (pss_cons (ps_if (PW.pt (pw_and (pt_cmpR op_notN (pe_fld (pv 0) rfl) pe_non (nomark _)) (pw_and (pt_cmpR op_ne (pe_fld (pv 0) rfl) (pv 1) (nomark _)) (pw_and1 (pt_cmpR op_lt (pv 4) (pe_fld (pv 0) rfl) (nomark _))))))
  (pss_one (ps_ret pe_non))
  pss_nil)
  (C8.pss_cut (ps_if (PW.pt (pw_or (pt_cmpR op_ne (pe_fld (pv 0) rfl) (pv 1) (nomark _)) (pw_or1 (pt_cmpR op_ge (pv 4) (pe_fld (pv 0) rfl) (nomark _)))))
  (pss_one (ps_fldaug (pv 0) pe_int in_add))
  pss_nil)
  (pss_cons (ps_fld (pv 0) (pv 1) rfl)
  (pss_cons (ps_fld (pv 0) (pe_callB (call_max2 rfl) (by rfl) T.max (by decide +kernel) (pa_cons (pe_op op_add (pv 4) (pe_c c_waiting_time hr (by decide) (by rfl) (pa_cons (pv 2) pa_nil))) (pa_cons (pe_ifExp (pt_cmpR op_isN (pe_fld (pv 0) rfl) pe_non (nomark _)) pe_int (pe_fld (pv 0) rfl)) pa_nil))) rfl)
  (pss_one (ps_ret (pe_fld (pv 0) rfl))))))))), ?_⟩
    fail "go"
    by_cases h0 : 0 < len
    · rw [if_pos (decide_eq_true h0)]
      fail "go"
      rw [decide_eq_false (fun z => hn ⟨h0, z⟩)]
      fail "go"
      exact k
    · rw [if_neg (by rw [decide_eq_false h0]; exact Bool.false_ne_true)]
      fail "go"
      exact k
end
end Sd


set_option linter.unusedVariables false
namespace Sd
open PySem L2
/-! ### k13, plain: clocks that drift, leases that are safe -/
theorem div_at (a : Int) {l : Int} (h : 0 < l) : l * (a / l) ≤ a ∧ a < l * (a / l) + l := ⟨Int.mul_ediv_self_le (by omega), Int.lt_mul_ediv_self_add h⟩
/-- what little a clock tells took little time -/
theorem ck_lo {c : Ck} (ok : c.Ok) {b t len : Int} (hbt : b ≤ t) (h : c.at t < c.at b + len) : (t - b) * 9 < len * 10 := by
  obtain ⟨o1, _, o2, _⟩ := ok
  unfold Ck.at at h
  have hl : 0 < c.low := by omega
  obtain ⟨_, a2⟩ := div_at (t * c.top) hl
  obtain ⟨b1, _⟩ := div_at (b * c.top) hl
  have e1 : c.low * (t * c.top / c.low) + c.low ≤ c.low * (b * c.top / c.low + len) := by
    have : c.low * (t * c.top / c.low + 1) ≤ c.low * (b * c.top / c.low + len) := Int.mul_le_mul_of_nonneg_left (by omega) (by omega)
    rw [Int.mul_add, Int.mul_one] at this
    exact this
  rw [Int.mul_add] at e1
  have e2 : (t - b) * c.top < c.low * len := by
    rw [Int.sub_mul]
    omega
  have e3 : (t - b) * (c.low * 9) ≤ (t - b) * (c.top * 10) := Int.mul_le_mul_of_nonneg_left o2 (by omega)
  have e4 : c.low * ((t - b) * 9) < c.low * (len * 10) := by
    have f1 : (t - b) * (c.low * 9) = c.low * ((t - b) * 9) := by rw [Int.mul_left_comm]
    have f2 : (t - b) * (c.top * 10) = (t - b) * c.top * 10 := by rw [Int.mul_assoc]
    have f3 : c.low * (len * 10) = c.low * len * 10 := by rw [Int.mul_assoc]
    omega
  exact Int.lt_of_mul_lt_mul_left e4 (by omega)
/-- a clock tells little of little time -/
theorem ck_up {c : Ck} (ok : c.Ok) {b t : Int} (hbt : b ≤ t) : (c.at t - c.at b - 1) * 10 < (t - b) * 11 + 1 := by
  obtain ⟨o1, _, _, o2⟩ := ok
  unfold Ck.at
  have hl : 0 < c.low := by omega
  obtain ⟨a1, _⟩ := div_at (t * c.top) hl
  obtain ⟨_, b2⟩ := div_at (b * c.top) hl
  obtain ⟨x, hx⟩ : ∃ x, x = t * c.top / c.low := ⟨_, rfl⟩
  obtain ⟨y, hy⟩ : ∃ y, y = b * c.top / c.low := ⟨_, rfl⟩
  rw [← hx] at a1 ⊢
  rw [← hy] at b2 ⊢
  have e1 : c.low * (x - y - 1) < (t - b) * c.top := by
    rw [Int.sub_mul, Int.mul_sub, Int.mul_sub, Int.mul_one]
    omega
  have e3 : (t - b) * (c.top * 10) ≤ (t - b) * (c.low * 11) := Int.mul_le_mul_of_nonneg_left o2 (by omega)
  have e4 : c.low * ((x - y - 1) * 10) < c.low * ((t - b) * 11) := by
    have f1 : c.low * ((x - y - 1) * 10) = c.low * (x - y - 1) * 10 := by rw [Int.mul_assoc]
    have f2 : (t - b) * (c.top * 10) = (t - b) * c.top * 10 := by rw [Int.mul_assoc]
    have f3 : (t - b) * (c.low * 11) = c.low * ((t - b) * 11) := by rw [Int.mul_left_comm]
    omega
  have e5 := Int.lt_of_mul_lt_mul_left e4 (by omega)
  omega
theorem ck_mono {c : Ck} (ok : c.Ok) {b t : Int} (hbt : b ≤ t) : c.at b ≤ c.at t := by
  obtain ⟨o1, _, o2, _⟩ := ok
  unfold Ck.at
  have hl : 0 < c.low := by omega
  have : b * c.top ≤ t * c.top := Int.mul_le_mul_of_nonneg_right hbt (by omega)
  have := Int.ediv_le_ediv hl this
  omega
/-- while a holder's time of a lease runs, the granter's runs, too -/
theorem ck_lease {h g : Ck} (okh : h.Ok) (okg : g.Ok) {b T t len : Int} (h1 : b ≤ T) (h2 : T ≤ t) (hl : h.at t < h.at b + len) : g.at t < g.at T + waitI len := by
  have e1 := ck_lo okh (by omega : b ≤ t) hl
  have e2 := ck_up okg h2
  unfold waitI
  omega
structure Ho where
  a : Addr
  d : Addr
  c : Ck
  s : HoS
abbrev Fl := Nat × Int × Option Int
def hname (k : Nat) : Str := Str.ofString "h" ++ (toString (k : Int) : Str)
theorem hname_inj {i j : Nat} (hi : i < 3) (hj : j < 3) (h : hname i = hname j) : i = j := by
  have : ∀ i j : Fin 3, hname i.val = hname j.val → i = j := by decide +kernel
  have := this ⟨i, hi⟩ ⟨j, hj⟩ h
  exact congrArg Fin.val this
/-- a time by a holder's clock, within the granter's -/
def Cover (gc : Ck) (g : GrS) (T : Int) (nm : Str) (c : Ck) (u : Int) : Prop := ∀ t, T ≤ t → c.at t < u → g.ho = some nm ∧ gc.at t < g.un.getD 0
structure Safe (gc : Ck) (g : GrS) (hs : List Ho) (fl : List Fl) (T : Int) : Prop where
  gok : g.Ok
  gco : gc.Ok
  hok : ∀ x ∈ hs, x.s.Ok ∧ x.c.Ok
  n3 : hs.length ≤ 3
  nms : ∀ (k : Nat) (x : Ho), hs[k]? = some x → x.s.nm = hname k
  own : ∀ (k : Nat) (x : Ho), hs[k]? = some x → x.s.nu.isSome = true → Cover gc g T x.s.nm x.c (x.s.un.getD 0)
  fly : ∀ (k : Nat) (x : Ho) (tu n : Int), hs[k]? = some x → (k, tu, some n) ∈ fl → x.s.hit tu = true → Cover gc g T x.s.nm x.c (x.s.ak.getD 0 + x.s.le)
  tur : ∀ (k : Nat) (x : Ho) (tu : Int) (n : Option Int), hs[k]? = some x → (k, tu, n) ∈ fl → tu ≤ x.s.tu
theorem Cover.later {gc : Ck} {g : GrS} {T T' : Int} {nm : Str} {c : Ck} {u : Int} (h : Cover gc g T nm c u) (ht : T ≤ T') : Cover gc g T' nm c u := fun t h1 h2 => h t (by omega) h2
section
variable {gc : Ck} {g : GrS} {hs : List Ho} {fl : List Fl} {T : Int}
theorem Safe.later {T' : Int} (h : Safe gc g hs fl T) (ht : T ≤ T') : Safe gc g hs fl T' :=
  ⟨h.gok, h.gco, h.hok, h.n3, h.nms, fun k x a b => (h.own k x a b).later ht, fun k x tu n a b c => (h.fly k x tu n a b c).later ht, h.tur⟩
/-- never two -/
theorem Safe.one (h : Safe gc g hs fl T) {i j : Nat} {x y : Ho} {t : Int} (hi : hs[i]? = some x) (hj : hs[j]? = some y) (ht : T ≤ t) (h1 : x.s.holds (x.c.at t) = true) (h2 : y.s.holds (y.c.at t) = true) : i = j := by
  unfold HoS.holds at h1 h2
  rw [Bool.and_eq_true] at h1 h2
  have a1 := (h.own i x hi h1.1 t ht (of_decide_eq_true h1.2)).1
  have a2 := (h.own j y hj h2.1 t ht (of_decide_eq_true h2.2)).1
  rw [a1] at a2
  have a3 := Option.some.inj a2
  rw [h.nms i x hi, h.nms j y hj] at a3
  have b1 := (List.getElem?_eq_some_iff.mp hi).1
  have b2 := (List.getElem?_eq_some_iff.mp hj).1
  have := h.n3
  exact hname_inj (by omega) (by omega) a3
theorem set_get {k j : Nat} {x y : Ho} (h : (hs.set k y)[j]? = some x) : (j = k ∧ x = y) ∨ (j ≠ k ∧ hs[j]? = some x) := by
  rw [List.getElem?_set] at h
  by_cases e : k = j
  · rw [if_pos e] at h
    split at h
    · exact .inl ⟨e.symm, (Option.some.inj h).symm⟩
    · cases h
  · rw [if_neg e] at h
    exact .inr ⟨fun z => e z.symm, h⟩
theorem Safe.begin {k : Nat} {x : Ho} {len : Int} (h : Safe gc g hs fl T) (hx : hs[k]? = some x) : Safe gc g (hs.set k { x with s := x.s.begin len (x.c.at T) }) fl T := by
  have hm := List.mem_of_getElem? hx
  refine ⟨h.gok, h.gco, fun y hy => ?_, by rw [List.length_set]; exact h.n3, fun j y hj => ?_, fun j y hj hn => ?_, fun j y tu n hj hf hh => ?_, fun j y tu n hj hf => ?_⟩
  · rcases List.mem_or_eq_of_mem_set hy with hy | rfl
    · exact h.hok y hy
    · exact h.hok x hm
  · rcases set_get hj with ⟨rfl, rfl⟩ | ⟨_, hj⟩
    · exact h.nms j x hx
    · exact h.nms j y hj
  · rcases set_get hj with ⟨rfl, rfl⟩ | ⟨_, hj⟩
    · exact h.own j x hx hn
    · exact h.own j y hj hn
  · rcases set_get hj with ⟨rfl, rfl⟩ | ⟨_, hj⟩
    · have := h.tur j x _ _ hx hf
      unfold HoS.hit HoS.begin at hh
      simp only [Option.isSome_some, Bool.true_and, decide_eq_true_eq] at hh
      omega
    · exact h.fly j y tu n hj hf hh
  · rcases set_get hj with ⟨rfl, rfl⟩ | ⟨_, hj⟩
    · have := h.tur j x _ _ hx hf
      show tu ≤ x.s.tu + 1
      omega
    · exact h.tur j y tu n hj hf
theorem maxI_ge {a b : Int} : a ≤ maxI a b ∧ b ≤ maxI a b := by
  unfold maxI
  split <;> omega
/-- the holder k asks at T, having begun at T0; nothing stands behind this turn yet -/
theorem Safe.ask {k : Nat} {x : Ho} {T0 len : Int} (h : Safe gc g hs fl T) (hx : hs[k]? = some x) (h0 : T0 ≤ T) (hak : x.s.ak = some (x.c.at T0)) (hle : x.s.le = len) (hnew : ∀ tu n, (k, tu, n) ∈ fl → tu < x.s.tu) :
    (g.busy x.s.nm (gc.at T) = true → Safe gc g hs (fl ++ [(k, x.s.tu, none)]) T) ∧
    (g.busy x.s.nm (gc.at T) = false → Safe gc (g.give x.s.nm len (gc.at T)) hs (fl ++ [(k, x.s.tu, some (g.give x.s.nm len (gc.at T)).nu)]) T) := by
  refine ⟨fun hb => ⟨h.gok, h.gco, h.hok, h.n3, h.nms, h.own, fun j y tu n hj hf hh => ?_, fun j y tu n hj hf => ?_⟩, fun hb => ?_⟩
  · rcases List.mem_append.mp hf with hf | hf
    · exact h.fly j y tu n hj hf hh
    · simp at hf
  · rcases List.mem_append.mp hf with hf | hf
    · exact h.tur j y tu n hj hf
    · simp only [List.mem_singleton, Prod.mk.injEq] at hf
      obtain ⟨rfl, rfl, _⟩ := hf
      rw [hx] at hj
      cases hj
      exact Int.le_refl _
  · -- what was covered for others is over
    have over : ∀ {j : Nat} {y : Ho} {u : Int}, hs[j]? = some y → Cover gc g T y.s.nm y.c u → Cover gc (g.give x.s.nm len (gc.at T)) T y.s.nm y.c u := fun {j y u} hj hc t ht hu => by
      obtain ⟨c1, c2⟩ := hc t ht hu
      have hm := ck_mono h.gco ht
      by_cases e : y.s.nm = x.s.nm
      · refine ⟨by show some x.s.nm = some y.s.nm; rw [e], ?_⟩
        show gc.at t < maxI _ _
        have := (maxI_ge (a := gc.at T + waitI len) (b := g.un.getD 0)).2
        omega
      · exfalso
        unfold GrS.busy at hb
        rw [c1] at hb
        rcases Bool.and_eq_false_iff.mp hb with hb | hb
        · exact of_decide_eq_false hb e
        · have := of_decide_eq_false hb
          omega
    refine ⟨fun _ => rfl, h.gco, h.hok, h.n3, h.nms, fun j y hj hn => over hj (h.own j y hj hn), fun j y tu n hj hf hh => ?_, fun j y tu n hj hf => ?_⟩
    · rcases List.mem_append.mp hf with hf | hf
      · exact over hj (h.fly j y tu n hj hf hh)
      · simp only [List.mem_singleton, Prod.mk.injEq] at hf
        obtain ⟨rfl, rfl, _⟩ := hf
        rw [hx] at hj
        cases hj
        intro t ht hu
        refine ⟨rfl, ?_⟩
        rw [hak, hle] at hu
        have := ck_lease (h.hok _ (List.mem_of_getElem? hx)).2 h.gco h0 ht hu
        show gc.at t < maxI _ _
        have := (maxI_ge (a := gc.at T + waitI len) (b := g.un.getD 0)).1
        omega
    · rcases List.mem_append.mp hf with hf | hf
      · exact h.tur j y tu n hj hf
      · simp only [List.mem_singleton, Prod.mk.injEq] at hf
        obtain ⟨rfl, rfl, _⟩ := hf
        rw [hx] at hj
        cases hj
        exact Int.le_refl _
/-- an answer arrives -/
theorem Safe.take {i k : Nat} {x : Ho} {tu : Int} {n : Option Int} (h : Safe gc g hs fl T) (hi : fl[i]? = some (k, tu, n)) (hx : hs[k]? = some x) : Safe gc g (hs.set k { x with s := if x.s.hit tu then x.s.take n else x.s }) (fl.eraseIdx i) T := by
  have hm := List.mem_of_getElem? hx
  have hsub : ∀ {y}, y ∈ fl.eraseIdx i → y ∈ fl := fun hy => List.mem_of_mem_eraseIdx hy
  have nm1 : (if x.s.hit tu then x.s.take n else x.s).nm = x.s.nm := by
    split
    · cases n <;> rfl
    · rfl
  have tu1 : (if x.s.hit tu then x.s.take n else x.s).tu = x.s.tu := by
    split
    · cases n <;> rfl
    · rfl
  refine ⟨h.gok, h.gco, fun y hy => ?_, by rw [List.length_set]; exact h.n3, fun j y hj => ?_, fun j y hj hn => ?_, fun j y tu2 n2 hj hf hh => ?_, fun j y tu2 n2 hj hf => ?_⟩
  · rcases List.mem_or_eq_of_mem_set hy with hy | rfl
    · exact h.hok y hy
    · refine ⟨?_, (h.hok x hm).2⟩
      show HoS.Ok (if x.s.hit tu then x.s.take n else x.s)
      split
      · cases n with
        | none => exact (h.hok x hm).1
        | some n => exact fun _ => rfl
      · exact (h.hok x hm).1
  · rcases set_get hj with ⟨rfl, rfl⟩ | ⟨_, hj⟩
    · rw [nm1]
      exact h.nms j x hx
    · exact h.nms j y hj
  · rcases set_get hj with ⟨rfl, rfl⟩ | ⟨_, hj⟩
    · show Cover gc g T (if x.s.hit tu then x.s.take n else x.s).nm x.c _
      rw [nm1]
      revert hn
      show (if x.s.hit tu then x.s.take n else x.s).nu.isSome = true → Cover gc g T x.s.nm x.c ((if x.s.hit tu then x.s.take n else x.s).un.getD 0)
      by_cases hh : x.s.hit tu = true
      · rw [if_pos hh]
        cases n with
        | none => exact fun hn => h.own j x hx hn
        | some n => exact fun _ => h.fly j x _ _ hx (List.mem_of_getElem? hi) hh
      · rw [if_neg hh]
        exact fun hn => h.own j x hx hn
    · exact h.own j y hj hn
  · rcases set_get hj with ⟨rfl, rfl⟩ | ⟨_, hj⟩
    · revert hh
      show (if x.s.hit tu then x.s.take n else x.s).hit tu2 = true → _
      by_cases hh : x.s.hit tu = true
      · rw [if_pos hh]
        intro h2
        exfalso
        cases n <;> (unfold HoS.hit HoS.take at h2; simp at h2)
      · rw [if_neg hh]
        intro h2
        exact h.fly j x _ _ hx (hsub hf) h2
    · exact h.fly j y tu2 n2 hj (hsub hf) hh
  · rcases set_get hj with ⟨rfl, rfl⟩ | ⟨_, hj⟩
    · show tu2 ≤ (if x.s.hit tu then x.s.take n else x.s).tu
      rw [tu1]
      exact h.tur j x _ _ hx (hsub hf)
    · exact h.tur j y tu2 n2 hj (hsub hf)
/-- a lease is dropped and given back -/
theorem Safe.drop {k : Nat} {x : Ho} {n : Int} (h : Safe gc g hs fl T) (hx : hs[k]? = some x) : Safe gc (if g.mine x.s.nm n then ⟨none, none, g.nu⟩ else g) (hs.set k { x with s := x.s.drop }) fl T := by
  have hm := List.mem_of_getElem? hx
  have keep : ∀ {j : Nat} {y : Ho} {u : Int}, j ≠ k → hs[j]? = some y → Cover gc g T y.s.nm y.c u → Cover gc (if g.mine x.s.nm n then ⟨none, none, g.nu⟩ else g) T y.s.nm y.c u := fun {j y u} hne hj hc t ht hu => by
    obtain ⟨c1, c2⟩ := hc t ht hu
    by_cases e : g.mine x.s.nm n = true
    · exfalso
      unfold GrS.mine at e
      rw [Bool.and_eq_true] at e
      have e1 := of_decide_eq_true e.1
      rw [c1] at e1
      have e2 := Option.some.inj e1
      rw [h.nms j y hj, h.nms k x hx] at e2
      have b1 := (List.getElem?_eq_some_iff.mp hj).1
      have b2 := (List.getElem?_eq_some_iff.mp hx).1
      have := h.n3
      exact hne (hname_inj (by omega) (by omega) e2)
    · rw [if_neg e]
      exact ⟨c1, c2⟩
  refine ⟨?_, h.gco, fun y hy => ?_, by rw [List.length_set]; exact h.n3, fun j y hj => ?_, fun j y hj hn => ?_, fun j y tu2 n2 hj hf hh => ?_, fun j y tu2 n2 hj hf => ?_⟩
  · split
    · exact fun z => by cases z
    · exact h.gok
  · rcases List.mem_or_eq_of_mem_set hy with hy | rfl
    · exact h.hok y hy
    · exact ⟨(fun z => by cases z), (h.hok x hm).2⟩
  · rcases set_get hj with ⟨rfl, rfl⟩ | ⟨_, hj⟩
    · exact h.nms j x hx
    · exact h.nms j y hj
  · rcases set_get hj with ⟨rfl, rfl⟩ | ⟨hne, hj⟩
    · cases hn
    · exact keep hne hj (h.own j y hj hn)
  · rcases set_get hj with ⟨rfl, rfl⟩ | ⟨hne, hj⟩
    · unfold HoS.hit HoS.drop at hh
      simp at hh
    · exact keep hne hj (h.fly j y tu2 n2 hj hf hh)
  · rcases set_get hj with ⟨rfl, rfl⟩ | ⟨_, hj⟩
    · exact h.tur j x _ _ hx hf
    · exact h.tur j y tu2 n2 hj hf
end
end Sd


set_option linter.unusedVariables false
namespace Sd
open PySem L2 LamX Mx
open C8 (Cal Met Mak pe_c pe_mk pe_mt pe_mt0 pss_cut tCut)
set_option linter.unusedSimpArgs false
set_option pp.deepTerms false
set_option pp.deepTerms.threshold 12
set_option hygiene false
local macro_rules | `(tactic| fail "nd") => `(tactic| first | assumption | decide +kernel)
local macro_rules | `(tactic| fail "ix") => `(tactic| first | exact ⟨0, rfl⟩ | exact ⟨1, rfl⟩ | exact ⟨2, rfl⟩ | exact ⟨3, rfl⟩ | exact ⟨4, rfl⟩ | exact ⟨5, rfl⟩ | exact ⟨6, rfl⟩ | exact ⟨7, rfl⟩ | exact ⟨8, rfl⟩ | exact ⟨9, rfl⟩ | exact ⟨10, rfl⟩ | exact ⟨11, rfl⟩ | exact ⟨12, rfl⟩ | exact ⟨13, rfl⟩ | exact ⟨14, rfl⟩ | exact ⟨15, rfl⟩ | exact ⟨16, rfl⟩ | exact ⟨17, rfl⟩ | exact ⟨18, rfl⟩ | assumption)
local macro_rules | `(tactic| fail "up") => `(tactic| first | exact ⟨0, rfl, rfl⟩ | exact ⟨1, rfl, rfl⟩ | exact ⟨2, rfl, rfl⟩ | exact ⟨3, rfl, rfl⟩ | exact ⟨4, rfl, rfl⟩ | exact ⟨5, rfl, rfl⟩ | exact ⟨6, rfl, rfl⟩ | exact ⟨7, rfl, rfl⟩ | exact ⟨8, rfl, rfl⟩ | exact ⟨9, rfl, rfl⟩ | exact ⟨10, rfl, rfl⟩ | exact ⟨11, rfl, rfl⟩ | exact ⟨12, rfl, rfl⟩ | exact ⟨13, rfl, rfl⟩ | exact ⟨14, rfl, rfl⟩ | exact ⟨15, rfl, rfl⟩ | exact ⟨16, rfl, rfl⟩ | assumption)
local macro_rules | `(tactic| fail "lkF") => `(tactic| first | assumption | exact fz_at 0 (by fail "nd") rfl rfl | exact fz_at 1 (by fail "nd") rfl rfl | exact fz_at 2 (by fail "nd") rfl rfl | exact fz_at 3 (by fail "nd") rfl rfl | exact fz_at 4 (by fail "nd") rfl rfl | exact fz_at 5 (by fail "nd") rfl rfl | exact fz_at 6 (by fail "nd") rfl rfl | exact fz_at 7 (by fail "nd") rfl rfl)
local macro_rules | `(tactic| fail "lkD") => `(tactic| first | assumption | exact dz_at 0 (by fail "nd") rfl rfl | exact dz_at 1 (by fail "nd") rfl rfl | exact dz_at 2 (by fail "nd") rfl rfl | exact dz_at 3 (by fail "nd") rfl rfl | exact dz_at 4 (by fail "nd") rfl rfl)
local macro_rules | `(tactic| fail "ptF") => `(tactic| first | assumption | exact fz_put 0 (by fail "nd") rfl (Nat.le_of_ble_eq_true rfl) | exact fz_put 1 (by fail "nd") rfl (Nat.le_of_ble_eq_true rfl) | exact fz_put 2 (by fail "nd") rfl (Nat.le_of_ble_eq_true rfl) | exact fz_put 3 (by fail "nd") rfl (Nat.le_of_ble_eq_true rfl) | exact fz_put 4 (by fail "nd") rfl (Nat.le_of_ble_eq_true rfl) | exact fz_put 5 (by fail "nd") rfl (Nat.le_of_ble_eq_true rfl) | exact fz_put 6 (by fail "nd") rfl (Nat.le_of_ble_eq_true rfl) | exact fz_put 7 (by fail "nd") rfl (Nat.le_of_ble_eq_true rfl) | exact fz_new (by decide +kernel) rfl)
local macro_rules | `(tactic| fail "ptD") => `(tactic| first | assumption | exact dz_put 0 (by fail "nd") rfl (Nat.le_of_ble_eq_true rfl) | exact dz_put 1 (by fail "nd") rfl (Nat.le_of_ble_eq_true rfl) | exact dz_put 2 (by fail "nd") rfl (Nat.le_of_ble_eq_true rfl) | exact dz_put 3 (by fail "nd") rfl (Nat.le_of_ble_eq_true rfl) | exact dz_put 4 (by fail "nd") rfl (Nat.le_of_ble_eq_true rfl))
local macro_rules | `(tactic| fail "sz") => `(tactic| first | assumption | exact (Nat.le_of_ble_eq_true rfl) | omega | decide)
local macro_rules | `(tactic| fail "sd") => `(tactic| first | rfl | assumption | decide | omega | (dsimp only; first | decide | omega) | exact .inr ⟨by decide, by decide⟩ | exact .inl ⟨by decide, by decide⟩ | exact ⟨by omega, by omega⟩ | exact .inl ⟨by omega, by omega⟩ | exact .inr ⟨by omega, by omega⟩ | exact ⟨by omega, by omega, by omega⟩)
local macro_rules | `(tactic| fail "cl") => `(tactic| (clear hH; dsimp only [List.set, List.cons_append, List.nil_append, List.append] at hL))
local macro_rules | `(tactic| fail "gn") => `(tactic| (intro p hp; generalize hH : upd H p _ = H; replace hL := Led.newH hL hp hH; clear hH hp))
local macro_rules | `(tactic| fail "gup") => `(tactic| (generalize hH : upd H _ _ = H; replace hL := Led.upU hL (by fail "up") hH; fail "cl"))
local macro_rules | `(tactic| fail "gmk") => `(tactic| (intro x dx hx hd ne; generalize hH : upd (upd H dx _) x _ = H; replace hL := Led.made hL hx hd ne hH; clear hH hx hd ne))
local macro_rules | `(tactic| fail "v") => `(tactic| refine ⟨_, rfl, ?_⟩)
local macro_rules | `(tactic| fail "i2") => `(tactic| refine ⟨_, _, rfl, rfl, ?_⟩)
local macro_rules | `(tactic| fail "go1") => `(tactic| first
  | refine ⟨_, rfl, ?_⟩
  | refine ⟨_, _, rfl, rfl, ?_⟩
  | refine ⟨_, _, rfl, ?_⟩
  | refine iteT ?_
  | refine iteF ?_
  | refine k_fld hL (by fail "ix") (by assumption) (by assumption) (by fail "lkF") ?_
  | refine k_dgetS hL (by fail "ix") (by fail "lkD") ?_
  | refine k_dgetI hL (by fail "ix") (by assumption) ?_
  | refine k_ixL hL (by fail "ix") (by first | rfl | assumption) ?_
  | refine k_ixT hL (by fail "ix") (by first | rfl | assumption) ?_
  | refine k_tyL hL (by fail "ix") ?_
  | refine k_isd hL (by fail "ix") ?_
  | (refine And.intro (by fail "sz") ?_; fail "gn")
  | refine And.intro (by fail "sd") ?_
  | fail "gn"
  | refine k_meth hL (by fail "ix") (by first | assumption | exact fz_no (by decide +kernel)) ?_
  | refine k_gtup hL (by fail "ix") rfl ?_
  | (refine k_popI hL (by fail "ix") (by assumption) ?_; fail "gup")
  | (refine k_listD hL (by fail "ix") ?_; fail "gn")
  | (refine ⟨_, _, _, _, rfl, rfl, hL.at (by fail "ix"), rfl, ?_⟩; fail "gup")
  | (refine ⟨_, _, _, rfl, rfl, hL.at (by fail "ix"), (by fail "sz"), ?_⟩; fail "gup")
  | (refine ⟨_, _, _, _, rfl, hL.at (by fail "ix"), by assumption, by assumption, Nat.lt_of_le_of_lt fz_len (by decide), ?_⟩; generalize hH : upd H _ _ = H; replace hL := Led.upF hL (by fail "up") (by fail "ptF") hH; fail "cl")
  | (refine ⟨_, _, hL.at (by fail "ix"), Nat.lt_of_le_of_lt fz_len (by decide), ?_⟩; generalize hH : upd H _ _ = H; replace hL := Led.upF hL (by fail "up") (by fail "ptF") hH; fail "cl")
  | (refine k_dputS hL (by fail "ix") (Nat.lt_of_le_of_lt dz_len (by decide)) (by fail "ptD") (by fail "up") ?_; clear hL; intro H hL; dsimp only [List.set, List.cons_append, List.nil_append, List.append] at hL)
  | refine k_lenL2 hL (by fail "ix") ?_
  | refine k_lenT2 hL (by fail "ix") ?_
  | refine .inl ⟨_, rfl, ?_⟩
  | refine .inr ⟨_, rfl, ?_⟩)
local macro_rules | `(tactic| fail "go") => `(tactic| repeat fail "go1")
local macro_rules | `(tactic| fail "pm") => `(tactic| (refine Led.le hL (fun a_ => ?_); simp only [cnt_nil, cnt_cons, cnt_app, List.map_append, List.map_cons, List.map_nil, List.flatMap_append, List.flatMap_cons, List.flatMap_nil, List.append_assoc, List.cons_append, List.nil_append]; omega))

/-! ### k13: the law's state -/
abbrev sLaw : Stmt := top 17
def bodyF (st : Stmt) : List Stmt := match st with | .For _ _ b _ _ => b | _ => []
def thenS (st : Stmt) : List Stmt := match st with | .If _ b _ _ => b | _ => []
def elseS (st : Stmt) : List Stmt := match st with | .If _ _ b _ => b | _ => []
def nth (b : List Stmt) (i : Nat) : Stmt := b.getD i (.Pass ⟨0, 0, 0, 0⟩)
abbrev diceB : List Stmt := bodyF (nth (defBody sLaw) 0)
abbrev stepB : List Stmt := bodyF (nth diceB 4)
abbrev brS : Stmt := nth stepB 2
abbrev brA : List Stmt := thenS brS
abbrev br2 : Stmt := nth (elseS brS) 0
abbrev brB : List Stmt := thenS br2
abbrev br3 : Stmt := nth (elseS br2) 0
abbrev brC : List Stmt := thenS br3
abbrev br4 : Stmt := nth (elseS br3) 0
abbrev brD : List Stmt := thenS br4
abbrev NLw : List Str := "script" :: "dice" :: "granter" :: "guarded" :: "time" :: "holders" :: "k" :: "underway" :: "greatest" :: "acts" :: "held" :: "lease" :: "step" :: "place" :: "holder" :: "sort" :: "length" :: "turn" :: "begun" :: "number" :: "asked" :: "newest" :: "mine" :: "good" :: "one" :: "later" :: "rate" :: "other" :: "slow" :: "fast" :: "begin" :: "over" :: "moment" :: "wrong" :: []
theorem scLaw : FnScope NLw ["script"] (defScope sLaw) := ⟨rfl, rfl, rfl, by decide +kernel, rfl, by decide +kernel, by decide +kernel⟩
abbrev LX (P : Program) (w : World) (K : PySem.W.Frag) (mg : Str → Option Value) (base : Heap) (f : Addr) (cdv : Value) (A : Around) (outer : List Env) (s : Shared) (H : Hp) (E : XK) : Cx := (cxOf CX0 P w K mg base NLw "law" (defScope sLaw) f cdv A outer s H E).nox
structure Cl4 where
  C : Addr
  G : Addr
  H : Addr
  U : Addr
/-- an act: its number, its holder's name, its step -/
abbrev Ac := Int × Str × Int
def acD (x : Ac) : Dv := .row [.int x.1, .row [.str x.2.1, .int x.2.2]]
structure LwS where
  d : Addr
  g : Addr
  dg : Addr
  gc : Ck
  gs : GrS
  u : Addr
  du : Addr
  al : Addr
  ga : List V
  hl : Addr
  hs : List Ho
  ud : Addr
  fl : List (Addr × Fl)
  gr : Int
  la : Addr
  ar : List V
  ac : List Ac
  he : Addr
  kv : List MV
  ls : Addr
  T : Int
def hoL (C : Cl4) (x : Ho) : Lg := hoO C.H x.a x.d x.c.a x.s :: ckL C.C x.c
def hosL (C : Cl4) (hs : List Ho) : Lg := hs.flatMap (hoL C)
def flO (x : Addr × Fl) : Addr × HO := (x.1, .tup [.int (x.2.1 : Nat), .int x.2.2.1, optI x.2.2.2])
def hosV (hs : List Ho) : List V := hs.map fun x => .ref x.a
def flV (fl : List (Addr × Fl)) : List V := fl.map fun x => .ref x.1
def flsL (fl : List (Addr × Fl)) : Lg := fl.map flO
def LwL (P : Program) (w : World) (C : Cl4) (G : LwS) (a b c : Int) (Z : Lg) : Lg :=
  (G.d, dD a b c) :: grO C.G G.g G.dg G.gc.a G.gs :: (ckL C.C G.gc ++ (guO C.U G.u G.du G.al G.gr :: (G.al, .lst G.ga) :: (G.hl, .lst (hosV G.hs)) :: (G.ud, .lst (flV G.fl)) :: (G.la, .lst G.ar) :: (G.he, mxO P w G.he G.kv) :: lsO G.ls G.gs :: (hosL C G.hs ++ (flsL G.fl ++ Z))))
/-- the keys of held, as the ledger tells them -/
def KeyZ (Z : Lg) : MK → V → Prop
  | .inl i, v => v = .int i
  | .inr ks, v => ∃ b, v = .ref b ∧ (b, HO.tup (ks.map kV)) ∈ Z
theorem KeyZ.at {Z L : Lg} {H : Hp} (hL : Led H L) (s : ∀ x ∈ Z, x ∈ L) {k : MK} {v : V} (h : KeyZ Z k v) : keyV H k v := by
  cases k with
  | inl i => exact h
  | inr ks => obtain ⟨b, e, m⟩ := h; exact ⟨b, e, hL.mem (s _ m)⟩
theorem KeyZ.mono {Z Z' : Lg} (s : ∀ x ∈ Z, x ∈ Z') {k : MK} {v : V} (h : KeyZ Z k v) : KeyZ Z' k v := by
  cases k with
  | inl i => exact h
  | inr ks => obtain ⟨b, e, m⟩ := h; exact ⟨b, e, s _ m⟩
def akK (k : Nat) : MK := .inr [.inl (k : Nat), .inr "asked"]
def plK (k : Nat) : MK := .inl (k : Nat)
theorem mVal_put {kv : List MV} {k j : MK} {key v : V} : mVal (vPut kv k key v) j = if j = k then some v else mVal kv j := by
  unfold vPut
  have hmap : ∀ l : List MV, mVal (l.map fun x => if x.1 = k then (x.1, x.2.1, v) else x) j = (mVal l j).map fun y => if j = k then v else y := fun l => by
    induction l with
    | nil => rfl
    | cons p l ih =>
      unfold mVal at ih ⊢
      rw [List.map_cons, List.find?_cons, List.find?_cons]
      by_cases e : p.1 = k
      · rw [if_pos e]
        by_cases e2 : p.1 = j
        · have ejk : j = k := e2.symm.trans e
          simp only [decide_eq_true e2, Option.map_some]
          rw [if_pos ejk]
        · simp only [decide_eq_false e2]
          exact ih
      · rw [if_neg e]
        by_cases e2 : p.1 = j
        · have ejk : ¬ j = k := fun z => e (e2.trans z)
          simp only [decide_eq_true e2, Option.map_some]
          rw [if_neg ejk]
        · simp only [decide_eq_false e2]
          exact ih
  by_cases hk : (mVal kv k).isSome = true
  · rw [if_pos hk, hmap]
    by_cases e : j = k
    · subst e
      obtain ⟨y, hy⟩ := Option.isSome_iff_exists.mp hk
      rw [hy, if_pos rfl, Option.map_some, if_pos rfl]
    · rw [if_neg e]
      cases mVal kv j with
      | none => rfl
      | some y => rw [Option.map_some, if_neg e]
  · rw [if_neg hk]
    unfold mVal at hk ⊢
    rw [List.find?_append]
    by_cases e : j = k
    · subst e
      rw [if_pos rfl]
      cases hf : kv.find? (fun x => decide (x.1 = j)) with
      | some y => rw [hf] at hk; exact absurd rfl hk
      | none => simp
    · rw [if_neg e]
      have e2 : ¬ k = j := fun z => e z.symm
      cases hf : kv.find? (fun x => decide (x.1 = j)) with
      | some y => simp
      | none => simp [e2]
theorem mVal_drop {kv : List MV} {k j : MK} : mVal (vDrop kv k) j = if j = k then none else mVal kv j := by
  unfold vDrop mVal
  induction kv with
  | nil => simp
  | cons p l ih =>
    rw [List.filter_cons, List.find?_cons]
    by_cases e : p.1 = k
    · rw [if_neg (by simp [e]), ih]
      by_cases e2 : j = k
      · rw [if_pos e2, if_pos e2]
      · rw [if_neg e2, if_neg e2]
        have : ¬ p.1 = j := fun z => e2 (z.symm.trans e)
        simp only [decide_eq_false this]
    · rw [if_pos (decide_eq_true e), List.find?_cons]
      by_cases e3 : p.1 = j
      · have e2 : ¬ j = k := fun z => e (e3.trans z)
        rw [if_neg e2]
        simp only [decide_eq_true e3]
      · simp only [decide_eq_false e3]
        exact ih
theorem vPut_keys {kv : List MV} {k : MK} {key v : V} {Q : MK → V → Prop} (h : ∀ x ∈ kv, Q x.1 x.2.1) (hk : Q k key) : ∀ x ∈ vPut kv k key v, Q x.1 x.2.1 := fun x hx => by
  unfold vPut at hx
  split at hx
  · obtain ⟨y, hy, rfl⟩ := List.mem_map.mp hx
    split
    · exact h y hy
    · exact h y hy
  · rcases List.mem_append.mp hx with hx | hx
    · exact h x hx
    · rw [List.mem_singleton.mp hx]; exact hk
structure Inv (G : LwS) (Z : Lg) (i : Nat) : Prop where
  safe : Safe G.gc G.gs G.hs (G.fl.map (·.2)) G.T
  nob : G.gs.ho ≠ (some ("nobody" : Str))
  n1 : 1 ≤ G.hs.length
  fk : ∀ x ∈ G.fl, x.2.1 < G.hs.length
  fln : G.fl.length ≤ i
  kvn : G.kv.length ≤ i
  kz : ∀ x ∈ G.kv, KeyZ Z x.1 x.2.1
  pl : ∀ (k : Nat) (x : Ho), G.hs[k]? = some x → mVal G.kv (plK k) = if x.s.nu.isSome = true then some (.int (x.s.un.getD 0)) else none
  ak : ∀ (k : Nat) (x : Ho), G.hs[k]? = some x → x.s.ak.isSome = true → ∃ b tu, mVal G.kv (akK k) = some (.ref b) ∧ (b, HO.tup [.int tu, .int (x.s.ak.getD 0 + x.s.le)]) ∈ Z
  gad : DLs Z G.ga (G.ac.map acD)
  ard : DLs Z G.ar (G.ac.map acD)
  acn : G.ac.length ≤ i
  asc : (G.ac.map (·.1)).Pairwise (· ≤ ·)
  top : ∀ x ∈ G.ac, x.1 ≤ G.gr
theorem cnt_hos {C : Cl4} {hs : List Ho} {k : Nat} {x : Ho} (h : hs[k]? = some x) (a : Addr × HO) : cnt a (hosL C hs) = cnt a (hoL C x) + cnt a (hosL C (hs.eraseIdx k)) := by
  induction hs generalizing k with
  | nil => simp at h
  | cons y hs ih =>
    cases k with
    | zero =>
      rw [List.getElem?_cons_zero] at h
      cases h
      rw [List.eraseIdx_cons_zero]
      unfold hosL
      rw [List.flatMap_cons, cnt_app]
    | succ k =>
      rw [List.getElem?_cons_succ] at h
      have := ih h
      rw [List.eraseIdx_cons_succ]
      unfold hosL at this ⊢
      rw [List.flatMap_cons, List.flatMap_cons, cnt_app, cnt_app, this]
      omega
theorem erase_set {α : Type} {l : List α} {k : Nat} {y : α} : (l.set k y).eraseIdx k = l.eraseIdx k := by
  induction l generalizing k with
  | nil => rfl
  | cons x l ih =>
    cases k with
    | zero => rfl
    | succ k => rw [List.set_cons_succ, List.eraseIdx_cons_succ, List.eraseIdx_cons_succ, ih]
theorem cnt_hos_set {C : Cl4} {hs : List Ho} {k : Nat} {x y : Ho} (h : hs[k]? = some x) (a : Addr × HO) : cnt a (hosL C (hs.set k y)) = cnt a (hoL C y) + cnt a (hosL C (hs.eraseIdx k)) := by
  have hk := (List.getElem?_eq_some_iff.mp h).1
  have := cnt_hos (C := C) (hs := hs.set k y) (k := k) (x := y) (by rw [List.getElem?_set]; simp [hk]) a
  rw [this, erase_set]
theorem hosV_set {hs : List Ho} {k : Nat} {x : Ho} {s : HoS} (h : hs[k]? = some x) : hosV (hs.set k { x with s := s }) = hosV hs := by
  unfold hosV
  refine List.ext_getElem? fun i => ?_
  rw [List.getElem?_map, List.getElem?_map, List.getElem?_set]
  by_cases e : k = i
  · subst e
    rw [h]
    have := (List.getElem?_eq_some_iff.mp h).1
    simp [this]
  · rw [if_neg e]
end Sd


set_option linter.unusedVariables false
namespace Sd
open PySem L2 LamX Mx
open C8 (Cal Met Mak pe_c pe_mk pe_mt pe_mt0 pss_cut tCut)
set_option linter.unusedSimpArgs false
set_option pp.deepTerms false
set_option pp.deepTerms.threshold 12
set_option hygiene false
local macro_rules | `(tactic| fail "nd") => `(tactic| first | assumption | decide +kernel)
local macro_rules | `(tactic| fail "ix") => `(tactic| first | exact ⟨0, rfl⟩ | exact ⟨1, rfl⟩ | exact ⟨2, rfl⟩ | exact ⟨3, rfl⟩ | exact ⟨4, rfl⟩ | exact ⟨5, rfl⟩ | exact ⟨6, rfl⟩ | exact ⟨7, rfl⟩ | exact ⟨8, rfl⟩ | exact ⟨9, rfl⟩ | exact ⟨10, rfl⟩ | exact ⟨11, rfl⟩ | exact ⟨12, rfl⟩ | exact ⟨13, rfl⟩ | exact ⟨14, rfl⟩ | exact ⟨15, rfl⟩ | exact ⟨16, rfl⟩ | exact ⟨17, rfl⟩ | exact ⟨18, rfl⟩ | assumption)
local macro_rules | `(tactic| fail "up") => `(tactic| first | exact ⟨0, rfl, rfl⟩ | exact ⟨1, rfl, rfl⟩ | exact ⟨2, rfl, rfl⟩ | exact ⟨3, rfl, rfl⟩ | exact ⟨4, rfl, rfl⟩ | exact ⟨5, rfl, rfl⟩ | exact ⟨6, rfl, rfl⟩ | exact ⟨7, rfl, rfl⟩ | exact ⟨8, rfl, rfl⟩ | exact ⟨9, rfl, rfl⟩ | exact ⟨10, rfl, rfl⟩ | exact ⟨11, rfl, rfl⟩ | exact ⟨12, rfl, rfl⟩ | exact ⟨13, rfl, rfl⟩ | exact ⟨14, rfl, rfl⟩ | exact ⟨15, rfl, rfl⟩ | exact ⟨16, rfl, rfl⟩ | assumption)
local macro_rules | `(tactic| fail "lkF") => `(tactic| first | assumption | exact fz_at 0 (by fail "nd") rfl rfl | exact fz_at 1 (by fail "nd") rfl rfl | exact fz_at 2 (by fail "nd") rfl rfl | exact fz_at 3 (by fail "nd") rfl rfl | exact fz_at 4 (by fail "nd") rfl rfl | exact fz_at 5 (by fail "nd") rfl rfl | exact fz_at 6 (by fail "nd") rfl rfl | exact fz_at 7 (by fail "nd") rfl rfl)
local macro_rules | `(tactic| fail "lkD") => `(tactic| first | assumption | exact dz_at 0 (by fail "nd") rfl rfl | exact dz_at 1 (by fail "nd") rfl rfl | exact dz_at 2 (by fail "nd") rfl rfl | exact dz_at 3 (by fail "nd") rfl rfl | exact dz_at 4 (by fail "nd") rfl rfl)
local macro_rules | `(tactic| fail "ptF") => `(tactic| first | assumption | exact fz_put 0 (by fail "nd") rfl (Nat.le_of_ble_eq_true rfl) | exact fz_put 1 (by fail "nd") rfl (Nat.le_of_ble_eq_true rfl) | exact fz_put 2 (by fail "nd") rfl (Nat.le_of_ble_eq_true rfl) | exact fz_put 3 (by fail "nd") rfl (Nat.le_of_ble_eq_true rfl) | exact fz_put 4 (by fail "nd") rfl (Nat.le_of_ble_eq_true rfl) | exact fz_put 5 (by fail "nd") rfl (Nat.le_of_ble_eq_true rfl) | exact fz_put 6 (by fail "nd") rfl (Nat.le_of_ble_eq_true rfl) | exact fz_put 7 (by fail "nd") rfl (Nat.le_of_ble_eq_true rfl) | exact fz_new (by decide +kernel) rfl)
local macro_rules | `(tactic| fail "ptD") => `(tactic| first | assumption | exact dz_put 0 (by fail "nd") rfl (Nat.le_of_ble_eq_true rfl) | exact dz_put 1 (by fail "nd") rfl (Nat.le_of_ble_eq_true rfl) | exact dz_put 2 (by fail "nd") rfl (Nat.le_of_ble_eq_true rfl) | exact dz_put 3 (by fail "nd") rfl (Nat.le_of_ble_eq_true rfl) | exact dz_put 4 (by fail "nd") rfl (Nat.le_of_ble_eq_true rfl))
local macro_rules | `(tactic| fail "sz") => `(tactic| first | assumption | exact (Nat.le_of_ble_eq_true rfl) | omega | decide)
local macro_rules | `(tactic| fail "sd") => `(tactic| first | rfl | assumption | decide | omega | (dsimp only; first | decide | omega) | exact .inr ⟨by decide, by decide⟩ | exact .inl ⟨by decide, by decide⟩ | exact ⟨by omega, by omega⟩ | exact .inl ⟨by omega, by omega⟩ | exact .inr ⟨by omega, by omega⟩ | exact ⟨by omega, by omega, by omega⟩)
local macro_rules | `(tactic| fail "cl") => `(tactic| (clear hH; dsimp only [List.set, List.cons_append, List.nil_append, List.append] at hL))
local macro_rules | `(tactic| fail "gn") => `(tactic| (intro p hp; generalize hH : upd H p _ = H; replace hL := Led.newH hL hp hH; clear hH hp))
local macro_rules | `(tactic| fail "gup") => `(tactic| (generalize hH : upd H _ _ = H; replace hL := Led.upU hL (by fail "up") hH; fail "cl"))
local macro_rules | `(tactic| fail "gmk") => `(tactic| (intro x dx hx hd ne; generalize hH : upd (upd H dx _) x _ = H; replace hL := Led.made hL hx hd ne hH; clear hH hx hd ne))
local macro_rules | `(tactic| fail "v") => `(tactic| refine ⟨_, rfl, ?_⟩)
local macro_rules | `(tactic| fail "i2") => `(tactic| refine ⟨_, _, rfl, rfl, ?_⟩)
local macro_rules | `(tactic| fail "go1") => `(tactic| first
  | refine ⟨_, rfl, ?_⟩
  | refine ⟨_, _, rfl, rfl, ?_⟩
  | refine ⟨_, _, rfl, ?_⟩
  | refine iteT ?_
  | refine iteF ?_
  | refine k_fld hL (by fail "ix") (by assumption) (by assumption) (by fail "lkF") ?_
  | refine k_dgetS hL (by fail "ix") (by fail "lkD") ?_
  | refine k_dgetI hL (by fail "ix") (by assumption) ?_
  | refine k_ixL hL (by fail "ix") (by first | rfl | assumption) ?_
  | refine k_ixT hL (by fail "ix") (by first | rfl | assumption) ?_
  | refine k_tyL hL (by fail "ix") ?_
  | refine k_isd hL (by fail "ix") ?_
  | (refine And.intro (by fail "sz") ?_; fail "gn")
  | refine And.intro (by fail "sd") ?_
  | fail "gn"
  | refine k_meth hL (by fail "ix") (by first | assumption | exact fz_no (by decide +kernel)) ?_
  | refine k_gtup hL (by fail "ix") rfl ?_
  | (refine k_popI hL (by fail "ix") (by assumption) ?_; fail "gup")
  | (refine k_listD hL (by fail "ix") ?_; fail "gn")
  | (refine ⟨_, _, _, _, rfl, rfl, hL.at (by fail "ix"), rfl, ?_⟩; fail "gup")
  | (refine ⟨_, _, _, rfl, rfl, hL.at (by fail "ix"), (by fail "sz"), ?_⟩; fail "gup")
  | (refine ⟨_, _, _, _, rfl, hL.at (by fail "ix"), by assumption, by assumption, Nat.lt_of_le_of_lt fz_len (by decide), ?_⟩; generalize hH : upd H _ _ = H; replace hL := Led.upF hL (by fail "up") (by fail "ptF") hH; fail "cl")
  | (refine ⟨_, _, hL.at (by fail "ix"), Nat.lt_of_le_of_lt fz_len (by decide), ?_⟩; generalize hH : upd H _ _ = H; replace hL := Led.upF hL (by fail "up") (by fail "ptF") hH; fail "cl")
  | (refine k_dputS hL (by fail "ix") (Nat.lt_of_le_of_lt dz_len (by decide)) (by fail "ptD") (by fail "up") ?_; clear hL; intro H hL; dsimp only [List.set, List.cons_append, List.nil_append, List.append] at hL)
  | refine k_lenL2 hL (by fail "ix") ?_
  | refine k_lenT2 hL (by fail "ix") ?_
  | refine .inl ⟨_, rfl, ?_⟩
  | refine .inr ⟨_, rfl, ?_⟩)
local macro_rules | `(tactic| fail "go") => `(tactic| repeat fail "go1")
local macro_rules | `(tactic| fail "pm") => `(tactic| (refine Led.le hL (fun a_ => ?_); simp only [cnt_nil, cnt_cons, cnt_app, List.map_append, List.map_cons, List.map_nil, List.flatMap_append, List.flatMap_cons, List.flatMap_nil, List.append_assoc, List.cons_append, List.nil_append]; omega))

theorem atI_at {α : Type} {xs : List α} {j : Nat} {v : α} (h : xs[j]? = some v) : atI xs (j : Int) = some v := by
  have hj := (List.getElem?_eq_some_iff.mp h).1
  unfold atI ixN
  rw [if_pos (by omega)]
  simp [hj]
  exact (List.getElem?_eq_some_iff.mp h).2
/-- what ask answers, and the state behind it -/
def Asked (gs : GrS) (nm : Str) (ln now : Int) (n : Option Int) (gs' : GrS) : Prop := (gs.busy nm now = true → n = none ∧ gs' = gs) ∧ (gs.busy nm now = false → gs' = gs.give nm ln now ∧ n = some gs'.nu)
theorem ask_one {CG CC : Addr} {H : Hp} {Q : VK} {E : XK} {g dg : Addr} {c : Ck} {s : GrS} {nm : Str} {len t : Int} {L : Lg} (hL : Led H (grO CG g dg c.a s :: L)) (m1 : ckO CC c ∈ L) (m2 : ckR c ∈ L) (hc : c.Ok) (hs : s.Ok) (h0 : 0 < len) (h1 : len < 1000)
    (k : ∀ n s', Asked s nm len (c.at t) n s' → ∀ H', Led H' (grO CG g dg c.a s' :: L) → Q (optI n) H') : spGAsk CG CC [.ref g, .str nm, .int len, .int t] H Q E :=
  ⟨g, dg, c, s, nm, len, t, L, rfl, hL, m1, m2, hc, hs, h0, h1, fun hb H hL => k none s ⟨fun _ => ⟨rfl, rfl⟩, fun h => (by rw [hb] at h; cases h)⟩ H hL, fun hb H hL => k (some (s.give nm len (c.at t)).nu) (s.give nm len (c.at t)) ⟨fun h => (by rw [hb] at h; cases h), fun _ => ⟨rfl, rfl⟩⟩ H hL⟩
theorem lease_one {H : Hp} {Q : VK} {E : XK} {l : Addr} {s s' : GrS} {nm : Str} {now len : Int} {n : Option Int} {L : Lg} (hL : Led H (lsO l s :: L)) (hs : s.Ok) (ha : Asked s nm len now n s')
    (k : ∀ H', Led H' (lsO l s' :: L) → Q (optI n) H') : spLease [.ref l, .str nm, .int now, .int len] H Q E :=
  ⟨l, s, nm, now, len, L, rfl, hL, hs, fun hb H hL => (by obtain ⟨rfl, rfl⟩ := ha.1 hb; exact k H hL), fun hb H hL => (by obtain ⟨rfl, rfl⟩ := ha.2 hb; exact k H hL)⟩
theorem scal_optI {n m : Option Int} : scal (optI n) (optI m) = true := by cases n <;> cases m <;> rfl
structure TxtLw (mg : Str → Option Value) : Prop where
  range : mg "range" = none
  str : mg "str" = none
  len : mg "len" = none
  max : mg "max" = none
def tS0 : TS := fun D σ H => ∃ (d hl : Addr) (a b c T : Int) (rs : List V) (L : Lg), σ[1]? = some (some (.ref d)) ∧ σ[4]? = some (some (.int T)) ∧ σ[5]? = some (some (.ref hl)) ∧ σ.length = 34 ∧ 1 ≤ rs.length ∧ rs.length ≤ 3 ∧ Led H ((d, dD a b c) :: (hl, .lst rs) :: L) ∧
  ∀ (r : Int) (p : Nat) (a b c : Int) H', 0 ≤ r → r < 12 → p < rs.length → Led H' ((d, dD a b c) :: (hl, .lst rs) :: L) → D.nx ((σ.set 4 (some (.int (T + r)))).set 13 (some (.int p))) H'
def tS1 : TS := fun D σ H => ∃ (d hl : Addr) (a b c : Int) (p : Nat) (v : V) (rs : List V) (L : Lg), σ[1]? = some (some (.ref d)) ∧ σ[5]? = some (some (.ref hl)) ∧ σ[13]? = some (some (.int p)) ∧ σ.length = 34 ∧ rs[p]? = some v ∧ Led H ((d, dD a b c) :: (hl, .lst rs) :: L) ∧
  ∀ (so ln : Int) (a b c : Int) H', 0 ≤ so → so < 6 → 1 ≤ ln → ln ≤ 40 → Led H' ((d, dD a b c) :: (hl, .lst rs) :: L) → D.nx (((σ.set 14 (some v)).set 15 (some (.int so))).set 16 (some (.int ln))) H'
section
variable {P : Program} {w : World} {K : PySem.W.Frag} {mg : Str → Option Value} {base : Heap} {C : Cl4} {f cL : Addr} {A : Around} {outer : List Env} {s0 : Shared} {H0 : Hp} {E : XK}
theorem st_s0 (hr : Room 20 (LX P w K mg base f (.ref cL) A outer s0 H0 E).A) (T : TxtLw mg) (c__law_roll : Cal P w K mg base 1 "_law_roll" spRoll []) : PS (LX P w K mg base f (.ref cL) A outer s0 H0 E) (nth stepB 0) tS0 := by
  refine ps_imp (t := _) (ps_asg (pe_tup (pa_cons (pe_op op_add (pv 4) (pe_c c__law_roll hr (by decide) (by rfl) (pa_cons (pv 1) (pa_cons pe_int pa_nil)))) (pa_cons (pe_c c__law_roll hr (by decide) (by rfl) (pa_cons (pv 1) (pa_cons (pe_callB call_len_seq (by rfl) T.len (by decide +kernel) (pa_cons (pv 5) pa_nil)) pa_nil))) pa_nil))) (pg_tup (by rfl) (pgs_cons (pg_name (i := 4) scLaw.nd rfl (Or.inr rfl)) (pgs_cons (pg_name (i := 13) scLaw.nd rfl (Or.inl rfl)) pgs_nil)))) ?_
  rintro D σ H ⟨d, hl, a, b, c, T, rs, L, hs1, hs4, hs5, hsl, h1, h3, hL, k⟩
  match σ, hs1, hs4, hs5, hsl with
  | v0 :: v1 :: v2 :: v3 :: v4 :: v5 :: v6 :: v7 :: v8 :: v9 :: v10 :: v11 :: v12 :: v13 :: v14 :: v15 :: v16 :: v17 :: v18 :: v19 :: v20 :: v21 :: v22 :: v23 :: v24 :: v25 :: v26 :: v27 :: v28 :: v29 :: v30 :: v31 :: v32 :: v33 :: [], hs1, hs4, hs5, _ =>
  cases hs1
  cases hs4
  cases hs5
  fail "go"
  refine ⟨d, a, b, c, 12, _, rfl, hL, by decide, by decide, fun r a b c H hr0 hr1 hL => ?_⟩
  fail "go"
  refine ⟨d, a, b, c, rs.length, _, rfl, hL, by omega, by omega, fun q a b c H hq0 hq1 hL => ?_⟩
  fail "go"
  obtain ⟨p, rfl⟩ : ∃ p : Nat, q = p := ⟨q.toNat, by omega⟩
  exact k r p a b c H hr0 hr1 (by omega) hL.tail
theorem st_s1 (hr : Room 20 (LX P w K mg base f (.ref cL) A outer s0 H0 E).A) (c__law_roll : Cal P w K mg base 1 "_law_roll" spRoll []) : PS (LX P w K mg base f (.ref cL) A outer s0 H0 E) (nth stepB 1) tS1 := by
  refine ps_imp (t := _) (ps_asg (pe_tup (pa_cons (pe_ix ix_list (pv 5) (pv 13) (fun _ _ => rfl)) (pa_cons (pe_c c__law_roll hr (by decide) (by rfl) (pa_cons (pv 1) (pa_cons pe_int pa_nil))) (pa_cons (pe_op op_add pe_int (pe_c c__law_roll hr (by decide) (by rfl) (pa_cons (pv 1) (pa_cons pe_int pa_nil)))) pa_nil)))) (pg_tup (by rfl) (pgs_cons (pg_name (i := 14) scLaw.nd rfl (Or.inl rfl)) (pgs_cons (pg_name (i := 15) scLaw.nd rfl (Or.inl rfl)) (pgs_cons (pg_name (i := 16) scLaw.nd rfl (Or.inr rfl)) pgs_nil))))) ?_
  rintro D σ H ⟨d, hl, a, b, c, p, v, rs, L, hs1, hs5, hs13, hsl, hv, hL, k⟩
  match σ, hs1, hs5, hs13, hsl with
  | v0 :: v1 :: v2 :: v3 :: v4 :: v5 :: v6 :: v7 :: v8 :: v9 :: v10 :: v11 :: v12 :: v13 :: v14 :: v15 :: v16 :: v17 :: v18 :: v19 :: v20 :: v21 :: v22 :: v23 :: v24 :: v25 :: v26 :: v27 :: v28 :: v29 :: v30 :: v31 :: v32 :: v33 :: [], hs1, hs5, hs13, _ =>
  cases hs1
  cases hs5
  cases hs13
  fail "go"
  refine k_ixL hL ⟨1, rfl⟩ (v := v) (atI_at hv) ?_
  fail "go"
  refine ⟨d, a, b, c, 6, _, rfl, hL, by decide, by decide, fun so a b c H h0 h1 hL => ?_⟩
  fail "go"
  refine ⟨d, a, b, c, 40, _, rfl, hL, by decide, by decide, fun ln a b c H h2 h3 hL => ?_⟩
  fail "go"
  exact k so (1 + ln) a b c H h0 h1 (by omega) (by omega) hL.tail
/-- begun and asked -/
def tA (P : Program) (w : World) (C : Cl4) : TS := fun D σ H => ∃ (d g dg ls ud he : Addr) (gc : Ck) (gs : GrS) (x : Ho) (a b c T ln : Int) (pl : Nat) (fr : List V) (kv : List MV) (Z L : Lg),
  σ[1]? = some (some (.ref d)) ∧ σ[2]? = some (some (.ref g)) ∧ σ[4]? = some (some (.int T)) ∧ σ[7]? = some (some (.ref ud)) ∧ σ[10]? = some (some (.ref he)) ∧ σ[11]? = some (some (.ref ls)) ∧ σ[13]? = some (some (.int pl)) ∧ σ[14]? = some (some (.ref x.a)) ∧ σ[16]? = some (some (.int ln)) ∧ σ.length = 34 ∧
  gc.Ok ∧ x.c.Ok ∧ gs.Ok ∧ 0 < ln ∧ ln < 1000 ∧ fr.length < 1000 ∧ kv.length < 1000 ∧ (∀ y ∈ kv, KeyZ Z y.1 y.2.1) ∧ (∀ y ∈ Z, y ∈ L) ∧
  Led H ((d, dD a b c) :: grO C.G g dg gc.a gs :: hoO C.H x.a x.d x.c.a x.s :: lsO ls gs :: (ud, .lst fr) :: (he, mxO P w he kv) :: (ckL C.C gc ++ (ckL C.C x.c ++ L))) ∧
  ∀ (r a b c : Int) (n : Option Int) (gs' : GrS) (q e1 e2 : Addr) (v17 v18 v19 : Option V) H', 0 ≤ r → r < 6 →
    Asked gs x.s.nm ln (gc.at (T + r)) n gs' →
    Led H' ((d, dD a b c) :: grO C.G g dg gc.a gs' :: hoO C.H x.a x.d x.c.a (x.s.begin ln (x.c.at T)) :: lsO ls gs' :: (ud, .lst (fr ++ [.ref q])) :: (he, mxO P w he (vPut kv (akK pl) (.ref e1) (.ref e2))) :: (q, .tup [.int pl, .int (x.s.tu + 1), optI n]) :: (e1, .tup [.int pl, .str "asked"]) :: (e2, .tup [.int (x.s.tu + 1), .int (x.c.at T + ln)]) :: (ckL C.C gc ++ (ckL C.C x.c ++ L))) →
    D.nx ((((σ.set 4 (some (.int (T + r)))).set 17 v17).set 18 v18).set 19 v19) H'
theorem st_A (hr : Room 20 (LX P w K mg base f (.ref cL) A outer s0 H0 E).A) (XH : TxtCl K C.H nmH) (XG : TxtCl K C.G nmG) (c__law_roll : Cal P w K mg base 1 "_law_roll" spRoll []) (c_Holder_begin : Met P w K mg base 2 C.H "begin" (spHBegin C.H C.C) []) (c_Granter_ask : Met P w K mg base 2 C.G "ask" (spGAsk C.G C.C) []) (c__law_lease : Cal P w K mg base 2 "_law_lease" spLease []) (c_DriftClock_at : Met P w K mg base 1 C.C "at" (spCAt C.C) []) :
    PSs (LX P w K mg base f (.ref cL) A outer s0 H0 E) brA (tA P w C) := by
  refine pss_imp (t := _) (pss_cons (ps_par (i := 17) (j := 18) (by rfl) scLaw.nd rfl rfl (by decide) rfl rfl (pa_cons (pe_mt c_Holder_begin hr (by decide) (pv 14) (pa_cons (pv 16) (pa_cons (pv 4) pa_nil))) (pa_cons (pv 4) pa_nil)) (by rfl))
  (pss_cons (ps_set (i := 4) scLaw.nd rfl (Or.inr rfl) (pe_op op_add (pv 4) (pe_c c__law_roll hr (by decide) (by rfl) (pa_cons (pv 1) (pa_cons pe_int pa_nil)))))
  (pss_cons (ps_set (i := 19) scLaw.nd rfl (Or.inl rfl) (pe_mt c_Granter_ask hr (by decide) (pv 2) (pa_cons (pe_fld (pv 14) rfl) (pa_cons (pv 16) (pa_cons (pv 4) pa_nil)))))
  (pss_cons (ps_if (pt_cmpR op_ne (pv 19) (pe_c c__law_lease hr (by decide) (by rfl) (pa_cons (pv 11) (pa_cons (pe_fld (pv 14) rfl) (pa_cons (pe_mt c_DriftClock_at hr (by decide) (pe_fld (pv 2) rfl) (pa_cons (pv 4) pa_nil)) (pa_cons (pv 16) pa_nil))))) (nomark _))
  (pss_one (ps_ret pe_bl))
  pss_nil)
  (pss_cons (ps_expr (pe_bm PySem.F.plainAttrs_list PySem.F.slot_list_append PySem.F.type_list_append mt_append (pv 7) (pa_cons (pe_tup (pa_cons (pv 13) (pa_cons (pv 17) (pa_cons (pv 19) pa_nil)))) pa_nil)))
  (pss_one (Mx.ps_mput (hu_of hr) (pv 10) (pe_tup (pa_cons (pv 13) (pa_cons pe_str pa_nil))) (pe_tup (pa_cons (pv 17) (pa_cons (pe_op op_add (pe_mt c_DriftClock_at hr (by decide) (pe_fld (pv 14) rfl) (pa_cons (pv 18) pa_nil)) (pv 16)) pa_nil))) rfl))))))) ?_
  rintro D σ H ⟨d, g, dg, ls, ud, he, gc, gs, x, a, b, c, T, ln, pl, fr, kv, Z, L, hs1, hs2, hs4, hs7, hs10, hs11, hs13, hs14, hs16, hsl, hgc, hxc, hgs, hl0, hl1, hfr, hkv, hkz, hZ, hL, k⟩
  match σ, hs1, hs2, hs4, hs7, hs10, hs11, hs13, hs14, hs16, hsl with
  | v0 :: v1 :: v2 :: v3 :: v4 :: v5 :: v6 :: v7 :: v8 :: v9 :: v10 :: v11 :: v12 :: v13 :: v14 :: v15 :: v16 :: v17 :: v18 :: v19 :: v20 :: v21 :: v22 :: v23 :: v24 :: v25 :: v26 :: v27 :: v28 :: v29 :: v30 :: v31 :: v32 :: v33 :: [], hs1, hs2, hs4, hs7, hs10, hs11, hs13, hs14, hs16, _ =>
  cases hs1
  cases hs2
  cases hs4
  cases hs7
  cases hs10
  cases hs11
  cases hs13
  cases hs14
  cases hs16
  have hz1 : 1000 < sizeLine := by decide
  fail "go"
  dsimp only [tNil, tCons, tC, List.cons_append, List.nil_append]
  obtain ⟨R, hR⟩ : ∃ R : Lg, R = ckL C.C gc ++ (ckL C.C x.c ++ L) := ⟨_, rfl⟩
  rw [← hR] at hL k
  have mg1 : ckO C.C gc ∈ R := by rw [hR]; exact .head _
  have mg2 : ckR gc ∈ R := by rw [hR]; exact .tail _ (.head _)
  have mx1 : ckO C.C x.c ∈ R := by rw [hR]; exact .tail _ (.tail _ (.head _))
  have mx2 : ckR x.c ∈ R := by rw [hR]; exact .tail _ (.tail _ (.tail _ (.head _)))
  have mZ : ∀ y ∈ Z, y ∈ R := fun y h => by rw [hR]; exact List.mem_append_right _ (List.mem_append_right _ (hZ y h))
  clear hR
  have hB : Led H (hoO C.H x.a x.d x.c.a x.s :: (d, dD a b c) :: grO C.G g dg gc.a gs :: lsO ls gs :: (ud, .lst fr) :: (he, mxO P w he kv) :: R) := hL.le (fun a_ => by
    simp only [cnt_cons]
    omega)
  clear hL
  refine ⟨x.a, x.d, x.c, x.s, ln, T, _, rfl, hB, .tail _ (.tail _ (.tail _ (.tail _ (.tail _ mx1)))), .tail _ (.tail _ (.tail _ (.tail _ (.tail _ mx2)))), hxc, fun H hL => ?_⟩
  clear hB
  obtain ⟨s1, hs1⟩ : ∃ s1 : HoS, s1 = x.s.begin ln (x.c.at T) := ⟨_, rfl⟩
  rw [← hs1] at hL k
  have hnm : s1.nm = x.s.nm := by rw [hs1]; rfl
  fail "go"
  have hB : Led H ((d, dD a b c) :: hoO C.H x.a x.d x.c.a s1 :: grO C.G g dg gc.a gs :: lsO ls gs :: (ud, .lst fr) :: (he, mxO P w he kv) :: R) := hL.le (fun a_ => by
    simp only [cnt_cons]
    omega)
  clear hL
  refine ⟨d, a, b, c, 6, _, rfl, hB, by decide, by decide, fun r a b c H h0 h1 hL => ?_⟩
  clear hB
  have hL : Led H ((x.a, .ins C.H x.d (fz nmH [.str s1.nm, .ref x.c.a, optI s1.nu, optI s1.un, optI s1.ak, .int s1.le, .int s1.tu])) :: (g, .ins C.G dg (fz nmG [.ref gc.a, optS gs.ho, optI gs.un, .int gs.nu])) :: (d, dD a b c) :: lsO ls gs :: (ud, .lst fr) :: (he, mxO P w he kv) :: R) := hL.le (fun a_ => by
    simp only [hoO, grO, cnt_cons]
    omega)
  have c1 := XH.cl
  have f1 := XH.n "name" (by decide +kernel)
  have f2 := XH.n "clock" (by decide +kernel)
  have c2 := XG.cl
  have f3 := XG.n "clock" (by decide +kernel)
  fail "go"
  dsimp only [tNil, tCons, tC, List.cons_append, List.nil_append]
  have hB : Led H (grO C.G g dg gc.a gs :: (x.a, .ins C.H x.d (fz nmH [.str s1.nm, .ref x.c.a, optI s1.nu, optI s1.un, optI s1.ak, .int s1.le, .int s1.tu])) :: (d, dD a b c) :: lsO ls gs :: (ud, .lst fr) :: (he, mxO P w he kv) :: R) := hL.le (fun a_ => by
    simp only [grO, cnt_cons]
    omega)
  clear hL
  refine ask_one hB (.tail _ (.tail _ (.tail _ (.tail _ (.tail _ mg1))))) (.tail _ (.tail _ (.tail _ (.tail _ (.tail _ mg2))))) hgc hgs hl0 hl1 (fun n gs' hask H hL => ?_)
  clear hB
  have hL : Led H ((g, .ins C.G dg (fz nmG [.ref gc.a, optS gs'.ho, optI gs'.un, .int gs'.nu])) :: (x.a, .ins C.H x.d (fz nmH [.str s1.nm, .ref x.c.a, optI s1.nu, optI s1.un, optI s1.ak, .int s1.le, .int s1.tu])) :: (d, dD a b c) :: lsO ls gs :: (ud, .lst fr) :: (he, mxO P w he kv) :: R) := hL
  fail "go"
  have mg1' : (gc.a, HO.ins C.C gc.d (fz nmC [.ref gc.r, .int gc.b])) ∈ R := mg1
  have mx1' : (x.c.a, HO.ins C.C x.c.d (fz nmC [.ref x.c.r, .int x.c.b])) ∈ R := mx1
  refine k_meth hL (at_mem (.tail _ (.tail _ (.tail _ (.tail _ (.tail _ (.tail _ mg1'))))))) (fz_no (by decide +kernel)) ?_
  fail "go"
  dsimp only [tNil, tCons, tC, List.cons_append, List.nil_append]
  refine ⟨gc, T + r, _, rfl, hL, .tail _ (.tail _ (.tail _ (.tail _ (.tail _ (.tail _ mg1))))), .tail _ (.tail _ (.tail _ (.tail _ (.tail _ (.tail _ mg2))))), hgc, fun H hL => ?_⟩
  fail "go"
  dsimp only [tNil, tCons, tC, List.cons_append, List.nil_append]
  have hB : Led H (lsO ls gs :: (g, .ins C.G dg (fz nmG [.ref gc.a, optS gs'.ho, optI gs'.un, .int gs'.nu])) :: (x.a, .ins C.H x.d (fz nmH [.str s1.nm, .ref x.c.a, optI s1.nu, optI s1.un, optI s1.ak, .int s1.le, .int s1.tu])) :: (d, dD a b c) :: (ud, .lst fr) :: (he, mxO P w he kv) :: R) := hL.le (fun a_ => by
    simp only [cnt_cons]
    omega)
  clear hL
  refine lease_one hB hgs hask (fun H hL => ?_)
  clear hB
  refine ⟨scal_optI, ?_⟩
  rw [show (!decide (optI n = optI n)) = false by simp]
  refine ⟨_, rfl, ?_⟩
  fail "go"
  refine k_meth hL (at_mem (.tail _ (.tail _ (.tail _ (.tail _ (.tail _ (.tail _ (.tail _ mx1')))))))) (fz_no (by decide +kernel)) ?_
  fail "go"
  dsimp only [tNil, tCons, tC, List.cons_append, List.nil_append]
  refine ⟨x.c, T, _, rfl, hL, .tail _ (.tail _ (.tail _ (.tail _ (.tail _ (.tail _ (.tail _ mx1)))))), .tail _ (.tail _ (.tail _ (.tail _ (.tail _ (.tail _ (.tail _ mx2)))))), hxc, fun H hL => ?_⟩
  fail "go"
  rename_i q _ _ _ _ e2 _
  refine ⟨he, kv, akK pl, rfl, hL.mem (.tail _ (.tail _ (.tail _ (.tail _ (.tail _ (.tail _ (.tail _ (.tail _ (.head _))))))))), fun y hy => (hkz y hy).at hL (fun z hz => .tail _ (.tail _ (.tail _ (.tail _ (.tail _ (.tail _ (.tail _ (.tail _ (.tail _ (mZ z hz)))))))))), ⟨p, rfl, hL.mem (.head _)⟩, by omega, ?_⟩
  have h2 := Led.set (o' := mxO P w he (vPut kv (akK pl) (.ref p) (.ref e2))) 8 hL rfl
  exact k r a b c n gs' q p e2 _ _ _ _ h0 h1 (by rw [← hnm]; exact hask) (h2.le (fun a_ => by
    simp only [List.set, grO, hoO, cnt_cons]
    omega))
end
end Sd


set_option linter.unusedVariables false
namespace Sd
open PySem L2 LamX Mx
open C8 (Cal Met Mak pe_c pe_mk pe_mt pe_mt0 pss_cut tCut)
set_option linter.unusedSimpArgs false
set_option pp.deepTerms false
set_option pp.deepTerms.threshold 12
set_option hygiene false
local macro_rules | `(tactic| fail "nd") => `(tactic| first | assumption | decide +kernel)
local macro_rules | `(tactic| fail "ix") => `(tactic| first | exact ⟨0, rfl⟩ | exact ⟨1, rfl⟩ | exact ⟨2, rfl⟩ | exact ⟨3, rfl⟩ | exact ⟨4, rfl⟩ | exact ⟨5, rfl⟩ | exact ⟨6, rfl⟩ | exact ⟨7, rfl⟩ | exact ⟨8, rfl⟩ | exact ⟨9, rfl⟩ | exact ⟨10, rfl⟩ | exact ⟨11, rfl⟩ | exact ⟨12, rfl⟩ | exact ⟨13, rfl⟩ | exact ⟨14, rfl⟩ | exact ⟨15, rfl⟩ | exact ⟨16, rfl⟩ | exact ⟨17, rfl⟩ | exact ⟨18, rfl⟩ | assumption)
local macro_rules | `(tactic| fail "up") => `(tactic| first | exact ⟨0, rfl, rfl⟩ | exact ⟨1, rfl, rfl⟩ | exact ⟨2, rfl, rfl⟩ | exact ⟨3, rfl, rfl⟩ | exact ⟨4, rfl, rfl⟩ | exact ⟨5, rfl, rfl⟩ | exact ⟨6, rfl, rfl⟩ | exact ⟨7, rfl, rfl⟩ | exact ⟨8, rfl, rfl⟩ | exact ⟨9, rfl, rfl⟩ | exact ⟨10, rfl, rfl⟩ | exact ⟨11, rfl, rfl⟩ | exact ⟨12, rfl, rfl⟩ | exact ⟨13, rfl, rfl⟩ | exact ⟨14, rfl, rfl⟩ | exact ⟨15, rfl, rfl⟩ | exact ⟨16, rfl, rfl⟩ | assumption)
local macro_rules | `(tactic| fail "lkF") => `(tactic| first | assumption | exact fz_at 0 (by fail "nd") rfl rfl | exact fz_at 1 (by fail "nd") rfl rfl | exact fz_at 2 (by fail "nd") rfl rfl | exact fz_at 3 (by fail "nd") rfl rfl | exact fz_at 4 (by fail "nd") rfl rfl | exact fz_at 5 (by fail "nd") rfl rfl | exact fz_at 6 (by fail "nd") rfl rfl | exact fz_at 7 (by fail "nd") rfl rfl)
local macro_rules | `(tactic| fail "lkD") => `(tactic| first | assumption | exact dz_at 0 (by fail "nd") rfl rfl | exact dz_at 1 (by fail "nd") rfl rfl | exact dz_at 2 (by fail "nd") rfl rfl | exact dz_at 3 (by fail "nd") rfl rfl | exact dz_at 4 (by fail "nd") rfl rfl)
local macro_rules | `(tactic| fail "ptF") => `(tactic| first | assumption | exact fz_put 0 (by fail "nd") rfl (Nat.le_of_ble_eq_true rfl) | exact fz_put 1 (by fail "nd") rfl (Nat.le_of_ble_eq_true rfl) | exact fz_put 2 (by fail "nd") rfl (Nat.le_of_ble_eq_true rfl) | exact fz_put 3 (by fail "nd") rfl (Nat.le_of_ble_eq_true rfl) | exact fz_put 4 (by fail "nd") rfl (Nat.le_of_ble_eq_true rfl) | exact fz_put 5 (by fail "nd") rfl (Nat.le_of_ble_eq_true rfl) | exact fz_put 6 (by fail "nd") rfl (Nat.le_of_ble_eq_true rfl) | exact fz_put 7 (by fail "nd") rfl (Nat.le_of_ble_eq_true rfl) | exact fz_new (by decide +kernel) rfl)
local macro_rules | `(tactic| fail "ptD") => `(tactic| first | assumption | exact dz_put 0 (by fail "nd") rfl (Nat.le_of_ble_eq_true rfl) | exact dz_put 1 (by fail "nd") rfl (Nat.le_of_ble_eq_true rfl) | exact dz_put 2 (by fail "nd") rfl (Nat.le_of_ble_eq_true rfl) | exact dz_put 3 (by fail "nd") rfl (Nat.le_of_ble_eq_true rfl) | exact dz_put 4 (by fail "nd") rfl (Nat.le_of_ble_eq_true rfl))
local macro_rules | `(tactic| fail "sz") => `(tactic| first | assumption | exact (Nat.le_of_ble_eq_true rfl) | omega | decide)
local macro_rules | `(tactic| fail "sd") => `(tactic| first | rfl | assumption | decide | omega | (dsimp only; first | decide | omega) | exact .inr ⟨by decide, by decide⟩ | exact .inl ⟨by decide, by decide⟩ | exact ⟨by omega, by omega⟩ | exact .inl ⟨by omega, by omega⟩ | exact .inr ⟨by omega, by omega⟩ | exact ⟨by omega, by omega, by omega⟩)
local macro_rules | `(tactic| fail "cl") => `(tactic| (clear hH; dsimp only [List.set, List.cons_append, List.nil_append, List.append] at hL))
local macro_rules | `(tactic| fail "gn") => `(tactic| (intro p hp; generalize hH : upd H p _ = H; replace hL := Led.newH hL hp hH; clear hH hp))
local macro_rules | `(tactic| fail "gup") => `(tactic| (generalize hH : upd H _ _ = H; replace hL := Led.upU hL (by fail "up") hH; fail "cl"))
local macro_rules | `(tactic| fail "gmk") => `(tactic| (intro x dx hx hd ne; generalize hH : upd (upd H dx _) x _ = H; replace hL := Led.made hL hx hd ne hH; clear hH hx hd ne))
local macro_rules | `(tactic| fail "v") => `(tactic| refine ⟨_, rfl, ?_⟩)
local macro_rules | `(tactic| fail "i2") => `(tactic| refine ⟨_, _, rfl, rfl, ?_⟩)
local macro_rules | `(tactic| fail "go1") => `(tactic| first
  | refine ⟨_, rfl, ?_⟩
  | refine ⟨_, _, rfl, rfl, ?_⟩
  | refine ⟨_, _, rfl, ?_⟩
  | refine iteT ?_
  | refine iteF ?_
  | refine k_fld hL (by fail "ix") (by assumption) (by assumption) (by fail "lkF") ?_
  | refine k_dgetS hL (by fail "ix") (by fail "lkD") ?_
  | refine k_dgetI hL (by fail "ix") (by assumption) ?_
  | refine k_ixL hL (by fail "ix") (by first | rfl | assumption) ?_
  | refine k_ixT hL (by fail "ix") (by first | rfl | assumption) ?_
  | refine k_tyL hL (by fail "ix") ?_
  | refine k_isd hL (by fail "ix") ?_
  | (refine And.intro (by fail "sz") ?_; fail "gn")
  | refine And.intro (by fail "sd") ?_
  | fail "gn"
  | refine k_meth hL (by fail "ix") (by first | assumption | exact fz_no (by decide +kernel)) ?_
  | refine k_gtup hL (by fail "ix") rfl ?_
  | (refine k_popI hL (by fail "ix") (by assumption) ?_; fail "gup")
  | (refine k_listD hL (by fail "ix") ?_; fail "gn")
  | (refine ⟨_, _, _, _, rfl, rfl, hL.at (by fail "ix"), rfl, ?_⟩; fail "gup")
  | (refine ⟨_, _, _, rfl, rfl, hL.at (by fail "ix"), (by fail "sz"), ?_⟩; fail "gup")
  | (refine ⟨_, _, _, _, rfl, hL.at (by fail "ix"), by assumption, by assumption, Nat.lt_of_le_of_lt fz_len (by decide), ?_⟩; generalize hH : upd H _ _ = H; replace hL := Led.upF hL (by fail "up") (by fail "ptF") hH; fail "cl")
  | (refine ⟨_, _, hL.at (by fail "ix"), Nat.lt_of_le_of_lt fz_len (by decide), ?_⟩; generalize hH : upd H _ _ = H; replace hL := Led.upF hL (by fail "up") (by fail "ptF") hH; fail "cl")
  | (refine k_dputS hL (by fail "ix") (Nat.lt_of_le_of_lt dz_len (by decide)) (by fail "ptD") (by fail "up") ?_; clear hL; intro H hL; dsimp only [List.set, List.cons_append, List.nil_append, List.append] at hL)
  | refine k_lenL2 hL (by fail "ix") ?_
  | refine k_lenT2 hL (by fail "ix") ?_
  | refine .inl ⟨_, rfl, ?_⟩
  | refine .inr ⟨_, rfl, ?_⟩)
local macro_rules | `(tactic| fail "go") => `(tactic| repeat fail "go1")
local macro_rules | `(tactic| fail "pm") => `(tactic| (refine Led.le hL (fun a_ => ?_); simp only [cnt_nil, cnt_cons, cnt_app, List.map_append, List.map_cons, List.map_nil, List.flatMap_append, List.flatMap_cons, List.flatMap_nil, List.append_assoc, List.cons_append, List.nil_append]; omega))

/-- an answer arrives -/
def gotK (kv : List MV) (k : Nat) (x : Ho) (tu : Int) (n : Option Int) : List MV := if x.s.hit tu && n.isSome then vPut kv (plK k) (.int (k : Nat)) (.int (x.s.ak.getD 0 + x.s.le)) else kv
def tB (P : Program) (w : World) (C : Cl4) : TS := fun D σ H => ∃ (d ud hl he : Addr) (a b c : Int) (fl : List (Addr × Fl)) (hs : List Ho) (kv : List MV) (Z L : Lg),
  σ[1]? = some (some (.ref d)) ∧ σ[5]? = some (some (.ref hl)) ∧ σ[7]? = some (some (.ref ud)) ∧ σ[10]? = some (some (.ref he)) ∧ σ.length = 34 ∧
  fl ≠ [] ∧ fl.length < 1000 ∧ hs.length ≤ 3 ∧ (∀ y ∈ fl, y.2.1 < hs.length) ∧ kv.length < 1000 ∧ (∀ y ∈ kv, KeyZ Z y.1 y.2.1) ∧ (∀ y ∈ Z, y ∈ L) ∧
  (∀ (k : Nat) (x : Ho), hs[k]? = some x → x.s.ak.isSome = true → ∃ b tu, mVal kv (akK k) = some (.ref b) ∧ (b, HO.tup [.int tu, .int (x.s.ak.getD 0 + x.s.le)]) ∈ Z) ∧
  Led H ((d, dD a b c) :: (ud, .lst (flV fl)) :: (hl, .lst (hosV hs)) :: (he, mxO P w he kv) :: (hosL C hs ++ (flsL fl ++ L))) ∧
  ∀ (i k : Nat) (q : Addr) (tu : Int) (n : Option Int) (x : Ho) (a b c : Int) (v17 v19 v20 v21 : Option V) H', fl[i]? = some (q, k, tu, n) → hs[k]? = some x →
    Led H' ((d, dD a b c) :: (ud, .lst (flV (fl.eraseIdx i))) :: (hl, .lst (hosV hs)) :: (he, mxO P w he (gotK kv k x tu n)) :: (hosL C (hs.set k { x with s := if x.s.hit tu then x.s.take n else x.s }) ++ (flsL fl ++ L))) →
    D.nx (((((σ.set 13 (some (.int k))).set 17 v17).set 19 v19).set 20 v20).set 21 v21) H'
section
variable {P : Program} {w : World} {K : PySem.W.Frag} {mg : Str → Option Value} {base : Heap} {C : Cl4} {f cL : Addr} {A : Around} {outer : List Env} {s0 : Shared} {H0 : Hp} {E : XK}
theorem st_B (hr : Room 20 (LX P w K mg base f (.ref cL) A outer s0 H0 E).A) (T : TxtLw mg) (XH : TxtCl K C.H nmH) (c__law_roll : Cal P w K mg base 1 "_law_roll" spRoll []) (c_Holder_granted : Met P w K mg base 1 C.H "granted" (spHGrant C.H) []) :
    PSs (LX P w K mg base f (.ref cL) A outer s0 H0 E) brB (tB P w C) := by
  refine pss_imp (t := _) (pss_cons (ps_asg (pe_bm PySem.F.plainAttrs_list PySem.F.slot_list_pop PySem.F.type_list_pop mt_popAt (pv 7) (pa_cons (pe_c c__law_roll hr (by decide) (by rfl) (pa_cons (pv 1) (pa_cons (pe_callB call_len_seq (by rfl) T.len (by decide +kernel) (pa_cons (pv 7) pa_nil)) pa_nil))) pa_nil)) (pg_tup (by rfl) (pgs_cons (pg_name (i := 13) scLaw.nd rfl (Or.inl rfl)) (pgs_cons (pg_name (i := 17) scLaw.nd rfl (Or.inl rfl)) (pgs_cons (pg_name (i := 19) scLaw.nd rfl (Or.inl rfl)) pgs_nil)))))
  (pss_cons (ps_par (i := 20) (j := 21) (by rfl) scLaw.nd rfl rfl (by decide) rfl rfl (pa_cons (pe_cmpR op_notN (pe_fld (pe_ix ix_list (pv 5) (pv 13) (fun _ _ => rfl)) rfl) pe_non (nomark _)) (pa_cons (pe_cmpR op_eq (pe_fld (pe_ix ix_list (pv 5) (pv 13) (fun _ _ => rfl)) rfl) (pv 17) (nomark _)) pa_nil)) (by rfl))
  (pss_cons (ps_if (pt_cmpR op_ne (pe_mt c_Holder_granted hr (by decide) (pe_ix ix_list (pv 5) (pv 13) (fun _ _ => rfl)) (pa_cons (pv 17) (pa_cons (pv 19) pa_nil))) (pe_and (pv 20) (pe_and (pv 21) (pe_one (pe_cmpR op_notN (pv 19) pe_non (nomark _))))) (nomark _))
  (pss_one (ps_ret pe_bl))
  pss_nil)
  (pss_one (ps_if (PW.pt (pw_and (pt_truth (pv 20) (by intro _; rfl)) (pw_and (pt_truth (pv 21) (by intro _; rfl)) (pw_and1 (pt_cmpR op_notN (pv 19) pe_non (nomark _))))))
  (pss_one (Mx.ps_mput (hu_of hr) (pv 10) (pv 13) (pe_ix ix_tup (Mx.pe_mget (hu_of hr) (pv 10) (pe_tup (pa_cons (pv 13) (pa_cons pe_str pa_nil))) (fun _ _ => rfl)) pe_int (fun _ _ => rfl)) rfl))
  pss_nil))))) ?_
  rintro D σ H ⟨d, ud, hl, he, a, b, c, fl, hs, kv, Z, L, hs1, hs5, hs7, hs10, hsl, hne, hfn, h3, hfk, hkv, hkz, hZ, hak, hL, kk⟩
  match σ, hs1, hs5, hs7, hs10, hsl with
  | v0 :: v1 :: v2 :: v3 :: v4 :: v5 :: v6 :: v7 :: v8 :: v9 :: v10 :: v11 :: v12 :: v13 :: v14 :: v15 :: v16 :: v17 :: v18 :: v19 :: v20 :: v21 :: v22 :: v23 :: v24 :: v25 :: v26 :: v27 :: v28 :: v29 :: v30 :: v31 :: v32 :: v33 :: [], hs1, hs5, hs7, hs10, _ =>
  cases hs1
  cases hs5
  cases hs7
  cases hs10
  have hz1 : 1000 < sizeLine := by decide
  have hf1 : 1 ≤ (flV fl).length := by
    unfold flV
    rw [List.length_map]
    cases fl with
    | nil => exact absurd rfl hne
    | cons _ _ => simp
  have hf2 : (flV fl).length < 1000 := by unfold flV; rw [List.length_map]; exact hfn
  fail "go"
  refine ⟨d, a, b, c, (flV fl).length, _, rfl, hL, by omega, by omega, fun r a b c H h0 h1 hL => ?_⟩
  fail "go"
  dsimp only [tNil]
  obtain ⟨i, rfl⟩ : ∃ i : Nat, r = i := ⟨r.toNat, by omega⟩
  have hfl : (flV fl).length = fl.length := by unfold flV; rw [List.length_map]
  have hi : i < fl.length := by omega
  obtain ⟨⟨q, k, tu, n⟩, hfi⟩ : ∃ y, fl[i]? = some y := ⟨fl[i], List.getElem?_eq_getElem hi⟩
  have hfm := List.mem_of_getElem? hfi
  have hk3 := hfk _ hfm
  obtain ⟨x, hx⟩ : ∃ x, hs[k]? = some x := ⟨hs[k], List.getElem?_eq_getElem hk3⟩
  have hq : (q, HO.tup [.int (k : Nat), .int tu, optI n]) ∈ flsL fl := List.mem_map.mpr ⟨_, hfm, rfl⟩
  refine ⟨ud, flV fl, i, i, .ref q, rfl, rfl, hL.mem (.tail _ (.head _)), by omega, by omega, (ixN_seq (by unfold ixN; rw [if_pos (by omega)]; simp [hfl, hi])).1, by unfold flV; rw [List.getElem?_map, hfi]; rfl, ?_⟩
  have hL2 := Led.set (o' := .lst (flV (fl.eraseIdx i))) 1 hL rfl
  rw [show (flV fl).eraseIdx i = flV (fl.eraseIdx i) from by unfold flV; rw [erase_map]]
  generalize hH : upd H ud _ = H at hL2 ⊢
  clear hL hH
  have hL : Led H ((d, dD a b c) :: (ud, .lst (flV (fl.eraseIdx i))) :: (hl, .lst (hosV hs)) :: (he, mxO P w he kv) :: (hosL C hs ++ (flsL fl ++ L))) := hL2
  clear hL2
  refine ⟨q, _, rfl, .of (hL.mem (.tail _ (.tail _ (.tail _ (.tail _ (List.mem_append_right _ (List.mem_append_left _ hq))))))), rfl, ?_⟩
  fail "go"
  obtain ⟨R, hR⟩ : ∃ R : Lg, R = ckL C.C x.c ++ (hosL C (hs.eraseIdx k) ++ (flsL fl ++ L)) := ⟨_, rfl⟩
  have hvx : (hosV hs)[k]? = some (.ref x.a) := by unfold hosV; rw [List.getElem?_map, hx]; rfl
  have mZ : ∀ y ∈ Z, y ∈ R := fun y h => by rw [hR]; exact List.mem_append_right _ (List.mem_append_right _ (List.mem_append_right _ (hZ y h)))
  have hB : Led H ((x.a, .ins C.H x.d (fz nmH [.str x.s.nm, .ref x.c.a, optI x.s.nu, optI x.s.un, optI x.s.ak, .int x.s.le, .int x.s.tu])) :: (hl, .lst (hosV hs)) :: (d, dD a b c) :: (ud, .lst (flV (fl.eraseIdx i))) :: (he, mxO P w he kv) :: R) := hL.le (fun a_ => by
    have := cnt_hos (C := C) hx a_
    rw [hR]
    simp only [hoL, hoO, cnt_cons, cnt_app] at this ⊢
    omega)
  have hfin : ∀ {s' : HoS} {kv' : List MV} {H' : Hp}, Led H' ((x.a, .ins C.H x.d (fz nmH [.str s'.nm, .ref x.c.a, optI s'.nu, optI s'.un, optI s'.ak, .int s'.le, .int s'.tu])) :: (hl, .lst (hosV hs)) :: (d, dD a b c) :: (ud, .lst (flV (fl.eraseIdx i))) :: (he, mxO P w he kv') :: R) →
      Led H' ((d, dD a b c) :: (ud, .lst (flV (fl.eraseIdx i))) :: (hl, .lst (hosV hs)) :: (he, mxO P w he kv') :: (hosL C (hs.set k { x with s := s' }) ++ (flsL fl ++ L))) := fun {s' kv' H'} h => h.le (fun a_ => by
    have := cnt_hos_set (C := C) (y := { x with s := s' }) hx a_
    rw [hR]
    simp only [hoL, hoO, cnt_cons, cnt_app] at this ⊢
    omega)
  clear hL
  have hL := hB
  clear hB
  have c1 := XH.cl
  have f5 := XH.n "asked" (by decide +kernel)
  have f7 := XH.n "turn" (by decide +kernel)
  refine k_ixL hL ⟨1, rfl⟩ (v := .ref x.a) (atI_at hvx) ?_
  fail "go"
  refine k_ixL hL ⟨1, rfl⟩ (v := .ref x.a) (atI_at hvx) ?_
  fail "go"
  refine k_ixL hL ⟨1, rfl⟩ (v := .ref x.a) (atI_at hvx) ?_
  fail "go"
  have e20 : (!decide (optI x.s.ak = V.non)) = x.s.ak.isSome := by cases x.s.ak <;> simp [optI]
  have e21 : decide (V.int x.s.tu = V.int tu) = decide (tu = x.s.tu) := by
    by_cases q : tu = x.s.tu
    · simp [q]
    · have q2 : ¬ V.int x.s.tu = V.int tu := fun z => q (by injection z with z; exact z.symm)
      rw [decide_eq_false q2, decide_eq_false q]
  rw [e20, e21]
  dsimp only [tNil, List.cons_append, List.nil_append]
  have hB : Led H (hoO C.H x.a x.d x.c.a x.s :: (hl, .lst (hosV hs)) :: (d, dD a b c) :: (ud, .lst (flV (fl.eraseIdx i))) :: (he, mxO P w he kv) :: R) := hL
  clear hL
  obtain ⟨s', hs'⟩ : ∃ s' : HoS, s' = if x.s.hit tu then x.s.take n else x.s := ⟨_, rfl⟩
  obtain ⟨bb, hbb⟩ : ∃ bb, bb = (x.s.hit tu && n.isSome) := ⟨_, rfl⟩
  refine ⟨x.a, x.d, x.c.a, x.s, tu, n, _, rfl, hB, fun H hL => ?_⟩
  clear hB
  rw [← hs'] at hL
  rw [← hbb]
  have hkk : ∀ (v17 v19 v20 v21 : Option V) H', Led H' ((x.a, .ins C.H x.d (fz nmH [.str s'.nm, .ref x.c.a, optI s'.nu, optI s'.un, optI s'.ak, .int s'.le, .int s'.tu])) :: (hl, .lst (hosV hs)) :: (d, dD a b c) :: (ud, .lst (flV (fl.eraseIdx i))) :: (he, mxO P w he (gotK kv k x tu n)) :: R) → D.nx (v0 :: some (.ref d) :: v2 :: v3 :: v4 :: some (.ref hl) :: v6 :: some (.ref ud) :: v8 :: v9 :: some (.ref he) :: v11 :: v12 :: some (.int k) :: v14 :: v15 :: v16 :: v17 :: v18 :: v19 :: v20 :: v21 :: v22 :: v23 :: v24 :: v25 :: v26 :: v27 :: v28 :: v29 :: v30 :: v31 :: v32 :: v33 :: []) H' := fun v17 v19 v20 v21 H' h => by
    refine kk i k q tu n x a b c v17 v19 v20 v21 H' hfi hx ?_
    rw [← hs']
    exact hfin h
  have hL : Led H ((x.a, .ins C.H x.d (fz nmH [.str s'.nm, .ref x.c.a, optI s'.nu, optI s'.un, optI s'.ak, .int s'.le, .int s'.tu])) :: (hl, .lst (hosV hs)) :: (d, dD a b c) :: (ud, .lst (flV (fl.eraseIdx i))) :: (he, mxO P w he kv) :: R) := hL
  have hgot : gotK kv k x tu n = if bb then vPut kv (plK k) (.int (k : Nat)) (.int (x.s.ak.getD 0 + x.s.le)) else kv := by unfold gotK; rw [hbb]
  rw [hgot] at hkk
  clear hfin kk
  cases hA : x.s.ak.isSome with
  | false =>
    obtain rfl : bb = false := by rw [hbb]; simp [HoS.hit, hA]
    fail "go"
    exact hkk _ _ _ _ H hL
  | true =>
    by_cases hB : tu = x.s.tu
    · rw [decide_eq_true hB]
      cases n with
      | none =>
        obtain rfl : bb = false := by rw [hbb]; simp
        fail "go"
        exact hkk _ _ _ _ H hL
      | some n =>
        obtain rfl : bb = true := by rw [hbb]; simp [HoS.hit, hA, hB]
        fail "go"
        obtain ⟨b0, tu2, hmv, hmb⟩ := hak k x hx hA
        refine ⟨he, kv, akK k, .ref b0, rfl, hL.mem (.tail _ (.tail _ (.tail _ (.tail _ (.tail _ (.head _)))))), fun y hy => (hkz y hy).at hL (fun z hz => .tail _ (.tail _ (.tail _ (.tail _ (.tail _ (.tail _ (mZ z hz))))))), ⟨p, rfl, hL.mem (.head _)⟩, hmv, ?_⟩
        refine k_ixT hL (at_mem (.tail _ (.tail _ (.tail _ (.tail _ (.tail _ (.tail _ (mZ _ hmb)))))))) (v := .int (x.s.ak.getD 0 + x.s.le)) rfl ?_
        fail "go"
        refine ⟨he, kv, plK k, rfl, hL.mem (.tail _ (.tail _ (.tail _ (.tail _ (.tail _ (.head _)))))), fun y hy => (hkz y hy).at hL (fun z hz => .tail _ (.tail _ (.tail _ (.tail _ (.tail _ (.tail _ (mZ z hz))))))), rfl, by omega, ?_⟩
        have h2 := Led.set (o' := mxO P w he (vPut kv (plK k) (.int (k : Nat)) (.int (x.s.ak.getD 0 + x.s.le)))) 5 hL rfl
        exact hkk _ _ _ _ _ h2.tail
    · rw [decide_eq_false hB]
      obtain rfl : bb = false := by rw [hbb]; simp [HoS.hit, hA, hB]
      fail "go"
      exact hkk _ _ _ _ H hL
end
end Sd


set_option linter.unusedVariables false
namespace Sd
open PySem L2 LamX Mx
open C8 (Cal Met Mak pe_c pe_mk pe_mt pe_mt0 pss_cut tCut)
set_option linter.unusedSimpArgs false
set_option pp.deepTerms false
set_option pp.deepTerms.threshold 12
set_option hygiene false
local macro_rules | `(tactic| fail "nd") => `(tactic| first | assumption | decide +kernel)
local macro_rules | `(tactic| fail "ix") => `(tactic| first | exact ⟨0, rfl⟩ | exact ⟨1, rfl⟩ | exact ⟨2, rfl⟩ | exact ⟨3, rfl⟩ | exact ⟨4, rfl⟩ | exact ⟨5, rfl⟩ | exact ⟨6, rfl⟩ | exact ⟨7, rfl⟩ | exact ⟨8, rfl⟩ | exact ⟨9, rfl⟩ | exact ⟨10, rfl⟩ | exact ⟨11, rfl⟩ | exact ⟨12, rfl⟩ | exact ⟨13, rfl⟩ | exact ⟨14, rfl⟩ | exact ⟨15, rfl⟩ | exact ⟨16, rfl⟩ | exact ⟨17, rfl⟩ | exact ⟨18, rfl⟩ | assumption)
local macro_rules | `(tactic| fail "up") => `(tactic| first | exact ⟨0, rfl, rfl⟩ | exact ⟨1, rfl, rfl⟩ | exact ⟨2, rfl, rfl⟩ | exact ⟨3, rfl, rfl⟩ | exact ⟨4, rfl, rfl⟩ | exact ⟨5, rfl, rfl⟩ | exact ⟨6, rfl, rfl⟩ | exact ⟨7, rfl, rfl⟩ | exact ⟨8, rfl, rfl⟩ | exact ⟨9, rfl, rfl⟩ | exact ⟨10, rfl, rfl⟩ | exact ⟨11, rfl, rfl⟩ | exact ⟨12, rfl, rfl⟩ | exact ⟨13, rfl, rfl⟩ | exact ⟨14, rfl, rfl⟩ | exact ⟨15, rfl, rfl⟩ | exact ⟨16, rfl, rfl⟩ | assumption)
local macro_rules | `(tactic| fail "lkF") => `(tactic| first | assumption | exact fz_at 0 (by fail "nd") rfl rfl | exact fz_at 1 (by fail "nd") rfl rfl | exact fz_at 2 (by fail "nd") rfl rfl | exact fz_at 3 (by fail "nd") rfl rfl | exact fz_at 4 (by fail "nd") rfl rfl | exact fz_at 5 (by fail "nd") rfl rfl | exact fz_at 6 (by fail "nd") rfl rfl | exact fz_at 7 (by fail "nd") rfl rfl)
local macro_rules | `(tactic| fail "lkD") => `(tactic| first | assumption | exact dz_at 0 (by fail "nd") rfl rfl | exact dz_at 1 (by fail "nd") rfl rfl | exact dz_at 2 (by fail "nd") rfl rfl | exact dz_at 3 (by fail "nd") rfl rfl | exact dz_at 4 (by fail "nd") rfl rfl)
local macro_rules | `(tactic| fail "ptF") => `(tactic| first | assumption | exact fz_put 0 (by fail "nd") rfl (Nat.le_of_ble_eq_true rfl) | exact fz_put 1 (by fail "nd") rfl (Nat.le_of_ble_eq_true rfl) | exact fz_put 2 (by fail "nd") rfl (Nat.le_of_ble_eq_true rfl) | exact fz_put 3 (by fail "nd") rfl (Nat.le_of_ble_eq_true rfl) | exact fz_put 4 (by fail "nd") rfl (Nat.le_of_ble_eq_true rfl) | exact fz_put 5 (by fail "nd") rfl (Nat.le_of_ble_eq_true rfl) | exact fz_put 6 (by fail "nd") rfl (Nat.le_of_ble_eq_true rfl) | exact fz_put 7 (by fail "nd") rfl (Nat.le_of_ble_eq_true rfl) | exact fz_new (by decide +kernel) rfl)
local macro_rules | `(tactic| fail "ptD") => `(tactic| first | assumption | exact dz_put 0 (by fail "nd") rfl (Nat.le_of_ble_eq_true rfl) | exact dz_put 1 (by fail "nd") rfl (Nat.le_of_ble_eq_true rfl) | exact dz_put 2 (by fail "nd") rfl (Nat.le_of_ble_eq_true rfl) | exact dz_put 3 (by fail "nd") rfl (Nat.le_of_ble_eq_true rfl) | exact dz_put 4 (by fail "nd") rfl (Nat.le_of_ble_eq_true rfl))
local macro_rules | `(tactic| fail "sz") => `(tactic| first | assumption | exact (Nat.le_of_ble_eq_true rfl) | omega | decide)
local macro_rules | `(tactic| fail "sd") => `(tactic| first | rfl | assumption | decide | omega | (dsimp only; first | decide | omega) | exact .inr ⟨by decide, by decide⟩ | exact .inl ⟨by decide, by decide⟩ | exact ⟨by omega, by omega⟩ | exact .inl ⟨by omega, by omega⟩ | exact .inr ⟨by omega, by omega⟩ | exact ⟨by omega, by omega, by omega⟩)
local macro_rules | `(tactic| fail "cl") => `(tactic| (clear hH; dsimp only [List.set, List.cons_append, List.nil_append, List.append] at hL))
local macro_rules | `(tactic| fail "gn") => `(tactic| (intro p hp; generalize hH : upd H p _ = H; replace hL := Led.newH hL hp hH; clear hH hp))
local macro_rules | `(tactic| fail "gup") => `(tactic| (generalize hH : upd H _ _ = H; replace hL := Led.upU hL (by fail "up") hH; fail "cl"))
local macro_rules | `(tactic| fail "gmk") => `(tactic| (intro x dx hx hd ne; generalize hH : upd (upd H dx _) x _ = H; replace hL := Led.made hL hx hd ne hH; clear hH hx hd ne))
local macro_rules | `(tactic| fail "v") => `(tactic| refine ⟨_, rfl, ?_⟩)
local macro_rules | `(tactic| fail "i2") => `(tactic| refine ⟨_, _, rfl, rfl, ?_⟩)
local macro_rules | `(tactic| fail "go1") => `(tactic| first
  | refine ⟨_, rfl, ?_⟩
  | refine ⟨_, _, rfl, rfl, ?_⟩
  | refine ⟨_, _, rfl, ?_⟩
  | refine iteT ?_
  | refine iteF ?_
  | refine k_fld hL (by fail "ix") (by assumption) (by assumption) (by fail "lkF") ?_
  | refine k_dgetS hL (by fail "ix") (by fail "lkD") ?_
  | refine k_dgetI hL (by fail "ix") (by assumption) ?_
  | refine k_ixL hL (by fail "ix") (by first | rfl | assumption) ?_
  | refine k_ixT hL (by fail "ix") (by first | rfl | assumption) ?_
  | refine k_tyL hL (by fail "ix") ?_
  | refine k_isd hL (by fail "ix") ?_
  | (refine And.intro (by fail "sz") ?_; fail "gn")
  | refine And.intro (by fail "sd") ?_
  | fail "gn"
  | refine k_meth hL (by fail "ix") (by first | assumption | exact fz_no (by decide +kernel)) ?_
  | refine k_gtup hL (by fail "ix") rfl ?_
  | (refine k_popI hL (by fail "ix") (by assumption) ?_; fail "gup")
  | (refine k_listD hL (by fail "ix") ?_; fail "gn")
  | (refine ⟨_, _, _, _, rfl, rfl, hL.at (by fail "ix"), rfl, ?_⟩; fail "gup")
  | (refine ⟨_, _, _, rfl, rfl, hL.at (by fail "ix"), (by fail "sz"), ?_⟩; fail "gup")
  | (refine ⟨_, _, _, _, rfl, hL.at (by fail "ix"), by assumption, by assumption, Nat.lt_of_le_of_lt fz_len (by decide), ?_⟩; generalize hH : upd H _ _ = H; replace hL := Led.upF hL (by fail "up") (by fail "ptF") hH; fail "cl")
  | (refine ⟨_, _, hL.at (by fail "ix"), Nat.lt_of_le_of_lt fz_len (by decide), ?_⟩; generalize hH : upd H _ _ = H; replace hL := Led.upF hL (by fail "up") (by fail "ptF") hH; fail "cl")
  | (refine k_dputS hL (by fail "ix") (Nat.lt_of_le_of_lt dz_len (by decide)) (by fail "ptD") (by fail "up") ?_; clear hL; intro H hL; dsimp only [List.set, List.cons_append, List.nil_append, List.append] at hL)
  | refine k_lenL2 hL (by fail "ix") ?_
  | refine k_lenT2 hL (by fail "ix") ?_
  | refine .inl ⟨_, rfl, ?_⟩
  | refine .inr ⟨_, rfl, ?_⟩)
local macro_rules | `(tactic| fail "go") => `(tactic| repeat fail "go1")
local macro_rules | `(tactic| fail "pm") => `(tactic| (refine Led.le hL (fun a_ => ?_); simp only [cnt_nil, cnt_cons, cnt_app, List.map_append, List.map_cons, List.map_nil, List.flatMap_append, List.flatMap_cons, List.flatMap_nil, List.append_assoc, List.cons_append, List.nil_append]; omega))

def backG (gs : GrS) (nm : Str) (n : Int) : GrS := if gs.mine nm n then ⟨none, none, gs.nu⟩ else gs
/-- dropped and given back -/
def tC4 (P : Program) (w : World) (C : Cl4) : TS := fun D σ H => ∃ (g dg ls he : Addr) (gc : Ck) (gs : GrS) (x : Ho) (T n u : Int) (pl : Nat) (kv : List MV) (Z L : Lg),
  σ[2]? = some (some (.ref g)) ∧ σ[4]? = some (some (.int T)) ∧ σ[10]? = some (some (.ref he)) ∧ σ[11]? = some (some (.ref ls)) ∧ σ[13]? = some (some (.int pl)) ∧ σ[14]? = some (some (.ref x.a)) ∧ σ.length = 34 ∧
  x.c.Ok ∧ x.s.nu = some n ∧ mVal kv (plK pl) = some (.int u) ∧ gs.ho ≠ some "nobody" ∧ kv.length < 1000 ∧ (∀ y ∈ kv, KeyZ Z y.1 y.2.1) ∧ (∀ y ∈ Z, y ∈ L) ∧
  Led H (grO C.G g dg gc.a gs :: hoO C.H x.a x.d x.c.a x.s :: lsO ls gs :: (he, mxO P w he kv) :: (ckL C.C x.c ++ L)) ∧
  ∀ (v19 v22 : Option V) H', Led H' (grO C.G g dg gc.a (backG gs x.s.nm n) :: hoO C.H x.a x.d x.c.a x.s.drop :: lsO ls (backG gs x.s.nm n) :: (he, mxO P w he (vDrop kv (plK pl))) :: (ckL C.C x.c ++ L)) → D.nx ((σ.set 19 v19).set 22 v22) H'
section
variable {P : Program} {w : World} {K : PySem.W.Frag} {mg : Str → Option Value} {base : Heap} {C : Cl4} {f cL : Addr} {A : Around} {outer : List Env} {s0 : Shared} {H0 : Hp} {E : XK}
theorem st_C (hr : Room 20 (LX P w K mg base f (.ref cL) A outer s0 H0 E).A) (XH : TxtCl K C.H nmH) (c_Holder_drop : Met P w K mg base 1 C.H "drop" (spHDrop C.H) []) (c_Holder_holds : Met P w K mg base 2 C.H "holds" (spHHolds C.H C.C) []) (c_Granter_give_back : Met P w K mg base 1 C.G "give_back" (spGBack C.G) []) :
    PSs (LX P w K mg base f (.ref cL) A outer s0 H0 E) brC (tC4 P w C) := by
  refine pss_imp (t := _) (pss_cons (ps_set (i := 19) scLaw.nd rfl (Or.inl rfl) (pe_mt0 c_Holder_drop hr (by decide) (pv 14)))
  (pss_cons (ps_expr (Mx.pe_mpop (hu_of hr) (pv 10) (pv 13) ⟨rfl, rfl, rfl, rfl⟩))
  (pss_cons (ps_set (i := 22) scLaw.nd rfl (Or.inl rfl) (pe_and (pe_cmpR op_eq (pe_dget (hu_of hr) (pv 11) pe_str (fun _ _ => rfl)) (pe_fld (pv 14) rfl) (nomark _)) (pe_one (pe_cmpR op_eq (pe_dget (hu_of hr) (pv 11) pe_str (fun _ _ => rfl)) (pv 19) (nomark _)))))
  (pss_cons (ps_asg (pe_ifExp (pt_truth (pv 22) (by intro _; rfl)) (pe_tup (pa_cons pe_non (pa_cons pe_non pa_nil))) (pe_tup (pa_cons (pe_dget (hu_of hr) (pv 11) pe_str (fun _ _ => rfl)) (pa_cons (pe_dget (hu_of hr) (pv 11) pe_str (fun _ _ => rfl)) pa_nil)))) (pg_tup (by rfl) (pgs_cons (pg_sub (pv 11) pe_str (set_dict (hu_of hr))) (pgs_cons (pg_sub (pv 11) pe_str (set_dict (hu_of hr))) pgs_nil))))
  (pss_one (ps_if (PW.pt (pw_or (pt_cmpR op_ne (pe_mt c_Granter_give_back hr (by decide) (pv 2) (pa_cons (pe_fld (pv 14) rfl) (pa_cons (pv 19) pa_nil))) (pv 22) (nomark _)) (pw_or (pt_truth (pe_mt c_Holder_holds hr (by decide) (pv 14) (pa_cons (pv 4) pa_nil)) (by intro _; rfl)) (pw_or1 (pt_truth (pe_mt c_Granter_give_back hr (by decide) (pv 2) (pa_cons pe_str (pa_cons (pv 19) pa_nil))) (by intro _; rfl))))))
  (pss_one (ps_ret pe_bl))
  pss_nil)))))) ?_
  rintro D σ H ⟨g, dg, ls, he, gc, gs, x, T, n, u, pl, kv, Z, L, hs2, hs4, hs10, hs11, hs13, hs14, hsl, hxc, hnu, hmv, hnb, hkv, hkz, hZ, hL, kk⟩
  match σ, hs2, hs4, hs10, hs11, hs13, hs14, hsl with
  | v0 :: v1 :: v2 :: v3 :: v4 :: v5 :: v6 :: v7 :: v8 :: v9 :: v10 :: v11 :: v12 :: v13 :: v14 :: v15 :: v16 :: v17 :: v18 :: v19 :: v20 :: v21 :: v22 :: v23 :: v24 :: v25 :: v26 :: v27 :: v28 :: v29 :: v30 :: v31 :: v32 :: v33 :: [], hs2, hs4, hs10, hs11, hs13, hs14, _ =>
  cases hs2
  cases hs4
  cases hs10
  cases hs11
  cases hs13
  cases hs14
  have hz1 : 1000 < sizeLine := by decide
  obtain ⟨R, hR⟩ : ∃ R : Lg, R = ckL C.C x.c ++ L := ⟨_, rfl⟩
  rw [← hR] at hL kk
  have mx1 : ckO C.C x.c ∈ R := by rw [hR]; exact .head _
  have mx2 : ckR x.c ∈ R := by rw [hR]; exact .tail _ (.head _)
  have mZ : ∀ y ∈ Z, y ∈ R := fun y h => by rw [hR]; exact List.mem_append_right _ (hZ y h)
  clear hR
  have c1 := XH.cl
  have f1 := XH.n "name" (by decide +kernel)
  have hB : Led H (hoO C.H x.a x.d x.c.a x.s :: grO C.G g dg gc.a gs :: lsO ls gs :: (he, mxO P w he kv) :: R) := hL.le (fun a_ => by
    simp only [cnt_cons]
    omega)
  clear hL
  refine ⟨_, rfl, x.a, x.d, _, rfl, hB.at ⟨0, rfl⟩, fz_no (by decide +kernel), ?_⟩
  dsimp only [tNil, List.cons_append, List.nil_append]
  refine ⟨x.a, x.d, x.c.a, x.s, _, rfl, hB, fun H hL => ?_⟩
  clear hB
  rw [hnu]
  fail "go"
  refine ⟨he, kv, rfl, hL.mem (.tail _ (.tail _ (.tail _ (.head _)))), ?_⟩
  fail "go"
  refine ⟨kv, pl, .int u, hL.mem (.tail _ (.tail _ (.tail _ (.head _)))), fun y hy => (hkz y hy).at hL (fun z hz => .tail _ (.tail _ (.tail _ (.tail _ (mZ z hz))))), rfl, hmv, ?_⟩
  have h2 := Led.set (o' := mxO P w he (vDrop kv (plK pl))) 3 hL rfl
  have e1 : (LX P w K mg base f (.ref cL) A outer s0 H0 E).prog = P := rfl
  have e2 : (LX P w K mg base f (.ref cL) A outer s0 H0 E).w = w := rfl
  rw [e1, e2]
  rw [show (Sum.inl (pl : Int) : MK) = plK pl from rfl]
  generalize hH : upd H he _ = H at h2 ⊢
  clear hL hH
  have hL : Led H ((x.a, .ins C.H x.d (fz nmH [.str x.s.nm, .ref x.c.a, .non, .non, .non, .int x.s.le, .int x.s.tu])) :: grO C.G g dg gc.a gs :: (ls, .dK (dz nmL [optS gs.ho, optI gs.un, .int gs.nu])) :: (he, mxO P w he (vDrop kv (plK pl))) :: R) := h2
  clear h2
  fail "go"
  have eA : decide (optS gs.ho = V.str x.s.nm) = decide (gs.ho = some x.s.nm) := by
    cases gs.ho with
    | none => simp [optS]
    | some h =>
      by_cases q : h = x.s.nm
      · simp [optS, q]
      · have q2 : ¬ optS (some h) = V.str x.s.nm := fun z => q (by injection z)
        have q3 : ¬ some h = some x.s.nm := fun z => q (by injection z)
        rw [decide_eq_false q2, decide_eq_false q3]
  have hsc : scal (optS gs.ho) (V.str x.s.nm) = true := by cases gs.ho <;> rfl
  refine ⟨hsc, ?_⟩
  rw [eA]
  refine ⟨_, rfl, ?_⟩
  by_cases hA : gs.ho = some x.s.nm
  · rw [decide_eq_true hA]
    fail "go"
    by_cases hB : gs.nu = n
    · subst hB
      have hm : gs.mine x.s.nm gs.nu = true := by simp [GrS.mine, hA]
      have hbk : backG gs x.s.nm gs.nu = ⟨none, none, gs.nu⟩ := by unfold backG; rw [hm]; rfl
      rw [hbk] at kk
      fail "go"
      rw [show decide (V.int gs.nu = optI (some gs.nu)) = true by simp [optI]]
      rw [if_pos rfl]
      fail "go"
      dsimp only [tNil, tCons, tC, List.cons_append, List.nil_append]
      have hB : Led H (grO C.G g dg gc.a gs :: hoO C.H x.a x.d x.c.a x.s.drop :: (ls, .dK (dz nmL [.non, .non, .int gs.nu])) :: (he, mxO P w he (vDrop kv (plK pl))) :: R) := hL.le (fun a_ => by
        simp only [hoO, HoS.drop, optI, cnt_cons]
        omega)
      clear hL
      refine ⟨g, dg, gc.a, gs, x.s.nm, gs.nu, _, rfl, hB, fun H hL => ?_⟩
      clear hB
      rw [hm] at hL ⊢
      fail "go"
      have hB : Led H (hoO C.H x.a x.d x.c.a x.s.drop :: grO C.G g dg gc.a ⟨none, none, gs.nu⟩ :: (ls, .dK (dz nmL [.non, .non, .int gs.nu])) :: (he, mxO P w he (vDrop kv (plK pl))) :: R) := hL.le (fun a_ => by
        simp only [cnt_cons, Bool.false_eq_true, if_true, if_false]
        omega)
      clear hL
      dsimp only [tNil, tCons, tC, List.cons_append, List.nil_append]
      refine ⟨x.a, x.d, x.c, x.s.drop, T, _, rfl, hB, .head _, .tail _ (.tail _ (.tail _ (.tail _ mx1))), .tail _ (.tail _ (.tail _ (.tail _ mx2))), hxc, (fun z => by cases z), fun H hL => ?_⟩
      clear hB
      rw [show x.s.drop.holds (x.c.at T) = false from rfl]
      fail "go"
      dsimp only [tNil, tCons, tC, List.cons_append, List.nil_append]
      have hno : GrS.mine ⟨none, none, gs.nu⟩ "nobody" gs.nu = false := by simp [GrS.mine, hnb]
      have hB : Led H (grO C.G g dg gc.a ⟨none, none, gs.nu⟩ :: hoO C.H x.a x.d x.c.a x.s.drop :: (ls, .dK (dz nmL [.non, .non, .int gs.nu])) :: (he, mxO P w he (vDrop kv (plK pl))) :: R) := hL.le (fun a_ => by
        simp only [cnt_cons]
        omega)
      clear hL
      refine ⟨g, dg, gc.a, ⟨none, none, gs.nu⟩, "nobody", gs.nu, _, rfl, hB, fun H hL => ?_⟩
      clear hB
      rw [hno] at hL ⊢
      fail "go"
      exact kk _ _ H hL
    · have hm : gs.mine x.s.nm n = false := by simp [GrS.mine, hB]
      have hbk : backG gs x.s.nm n = gs := by unfold backG; rw [hm]; rfl
      rw [hbk] at kk
      fail "go"
      rw [show decide (V.int gs.nu = optI (some n)) = false from decide_eq_false (fun z => hB (by injection z))]
      fail "go"
      dsimp only [tNil, tCons, tC, List.cons_append, List.nil_append]
      have hB : Led H (grO C.G g dg gc.a gs :: hoO C.H x.a x.d x.c.a x.s.drop :: (ls, .dK (dz nmL [optS gs.ho, optI gs.un, .int gs.nu])) :: (he, mxO P w he (vDrop kv (plK pl))) :: R) := hL.le (fun a_ => by
        simp only [hoO, HoS.drop, optI, cnt_cons]
        omega)
      clear hL
      refine ⟨g, dg, gc.a, gs, x.s.nm, n, _, rfl, hB, fun H hL => ?_⟩
      clear hB
      rw [hm] at hL ⊢
      fail "go"
      have hB : Led H (hoO C.H x.a x.d x.c.a x.s.drop :: grO C.G g dg gc.a gs :: (ls, .dK (dz nmL [optS gs.ho, optI gs.un, .int gs.nu])) :: (he, mxO P w he (vDrop kv (plK pl))) :: R) := hL.le (fun a_ => by
        simp only [cnt_cons, Bool.false_eq_true, if_true, if_false]
        omega)
      clear hL
      dsimp only [tNil, tCons, tC, List.cons_append, List.nil_append]
      refine ⟨x.a, x.d, x.c, x.s.drop, T, _, rfl, hB, .head _, .tail _ (.tail _ (.tail _ (.tail _ mx1))), .tail _ (.tail _ (.tail _ (.tail _ mx2))), hxc, (fun z => by cases z), fun H hL => ?_⟩
      clear hB
      rw [show x.s.drop.holds (x.c.at T) = false from rfl]
      fail "go"
      dsimp only [tNil, tCons, tC, List.cons_append, List.nil_append]
      have hno : GrS.mine gs "nobody" n = false := by
        simp [GrS.mine]
        exact fun z => absurd z hnb
      have hB : Led H (grO C.G g dg gc.a gs :: hoO C.H x.a x.d x.c.a x.s.drop :: (ls, .dK (dz nmL [optS gs.ho, optI gs.un, .int gs.nu])) :: (he, mxO P w he (vDrop kv (plK pl))) :: R) := hL.le (fun a_ => by
        simp only [cnt_cons]
        omega)
      clear hL
      refine ⟨g, dg, gc.a, gs, "nobody", n, _, rfl, hB, fun H hL => ?_⟩
      clear hB
      rw [hno] at hL ⊢
      fail "go"
      exact kk _ _ H hL
  · rw [decide_eq_false hA]
    have hm : gs.mine x.s.nm n = false := by simp [GrS.mine, hA]
    have hbk : backG gs x.s.nm n = gs := by unfold backG; rw [hm]; rfl
    rw [hbk] at kk
    fail "go"
    dsimp only [tNil, tCons, tC, List.cons_append, List.nil_append]
    have hB : Led H (grO C.G g dg gc.a gs :: hoO C.H x.a x.d x.c.a x.s.drop :: (ls, .dK (dz nmL [optS gs.ho, optI gs.un, .int gs.nu])) :: (he, mxO P w he (vDrop kv (plK pl))) :: R) := hL.le (fun a_ => by
      simp only [hoO, HoS.drop, optI, cnt_cons]
      omega)
    clear hL
    refine ⟨g, dg, gc.a, gs, x.s.nm, n, _, rfl, hB, fun H hL => ?_⟩
    clear hB
    rw [hm] at hL ⊢
    fail "go"
    have hB : Led H (hoO C.H x.a x.d x.c.a x.s.drop :: grO C.G g dg gc.a gs :: (ls, .dK (dz nmL [optS gs.ho, optI gs.un, .int gs.nu])) :: (he, mxO P w he (vDrop kv (plK pl))) :: R) := hL.le (fun a_ => by
      simp only [cnt_cons, Bool.false_eq_true, if_true, if_false]
      omega)
    clear hL
    dsimp only [tNil, tCons, tC, List.cons_append, List.nil_append]
    refine ⟨x.a, x.d, x.c, x.s.drop, T, _, rfl, hB, .head _, .tail _ (.tail _ (.tail _ (.tail _ mx1))), .tail _ (.tail _ (.tail _ (.tail _ mx2))), hxc, (fun z => by cases z), fun H hL => ?_⟩
    clear hB
    rw [show x.s.drop.holds (x.c.at T) = false from rfl]
    fail "go"
    dsimp only [tNil, tCons, tC, List.cons_append, List.nil_append]
    have hno : GrS.mine gs "nobody" n = false := by
      simp [GrS.mine]
      exact fun z => absurd z hnb
    have hB : Led H (grO C.G g dg gc.a gs :: hoO C.H x.a x.d x.c.a x.s.drop :: (ls, .dK (dz nmL [optS gs.ho, optI gs.un, .int gs.nu])) :: (he, mxO P w he (vDrop kv (plK pl))) :: R) := hL.le (fun a_ => by
      simp only [cnt_cons]
      omega)
    clear hL
    refine ⟨g, dg, gc.a, gs, "nobody", n, _, rfl, hB, fun H hL => ?_⟩
    clear hB
    rw [hno] at hL ⊢
    fail "go"
    exact kk _ _ H hL
end
end Sd


set_option linter.unusedVariables false
namespace Sd
open PySem L2 LamX Mx
open C8 (Cal Met Mak pe_c pe_mk pe_mt pe_mt0 pss_cut tCut)
set_option linter.unusedSimpArgs false
set_option pp.deepTerms false
set_option pp.deepTerms.threshold 12
set_option hygiene false
local macro_rules | `(tactic| fail "nd") => `(tactic| first | assumption | decide +kernel)
local macro_rules | `(tactic| fail "ix") => `(tactic| first | exact ⟨0, rfl⟩ | exact ⟨1, rfl⟩ | exact ⟨2, rfl⟩ | exact ⟨3, rfl⟩ | exact ⟨4, rfl⟩ | exact ⟨5, rfl⟩ | exact ⟨6, rfl⟩ | exact ⟨7, rfl⟩ | exact ⟨8, rfl⟩ | exact ⟨9, rfl⟩ | exact ⟨10, rfl⟩ | exact ⟨11, rfl⟩ | exact ⟨12, rfl⟩ | exact ⟨13, rfl⟩ | exact ⟨14, rfl⟩ | exact ⟨15, rfl⟩ | exact ⟨16, rfl⟩ | exact ⟨17, rfl⟩ | exact ⟨18, rfl⟩ | assumption)
local macro_rules | `(tactic| fail "up") => `(tactic| first | exact ⟨0, rfl, rfl⟩ | exact ⟨1, rfl, rfl⟩ | exact ⟨2, rfl, rfl⟩ | exact ⟨3, rfl, rfl⟩ | exact ⟨4, rfl, rfl⟩ | exact ⟨5, rfl, rfl⟩ | exact ⟨6, rfl, rfl⟩ | exact ⟨7, rfl, rfl⟩ | exact ⟨8, rfl, rfl⟩ | exact ⟨9, rfl, rfl⟩ | exact ⟨10, rfl, rfl⟩ | exact ⟨11, rfl, rfl⟩ | exact ⟨12, rfl, rfl⟩ | exact ⟨13, rfl, rfl⟩ | exact ⟨14, rfl, rfl⟩ | exact ⟨15, rfl, rfl⟩ | exact ⟨16, rfl, rfl⟩ | assumption)
local macro_rules | `(tactic| fail "lkF") => `(tactic| first | assumption | exact fz_at 0 (by fail "nd") rfl rfl | exact fz_at 1 (by fail "nd") rfl rfl | exact fz_at 2 (by fail "nd") rfl rfl | exact fz_at 3 (by fail "nd") rfl rfl | exact fz_at 4 (by fail "nd") rfl rfl | exact fz_at 5 (by fail "nd") rfl rfl | exact fz_at 6 (by fail "nd") rfl rfl | exact fz_at 7 (by fail "nd") rfl rfl)
local macro_rules | `(tactic| fail "lkD") => `(tactic| first | assumption | exact dz_at 0 (by fail "nd") rfl rfl | exact dz_at 1 (by fail "nd") rfl rfl | exact dz_at 2 (by fail "nd") rfl rfl | exact dz_at 3 (by fail "nd") rfl rfl | exact dz_at 4 (by fail "nd") rfl rfl)
local macro_rules | `(tactic| fail "ptF") => `(tactic| first | assumption | exact fz_put 0 (by fail "nd") rfl (Nat.le_of_ble_eq_true rfl) | exact fz_put 1 (by fail "nd") rfl (Nat.le_of_ble_eq_true rfl) | exact fz_put 2 (by fail "nd") rfl (Nat.le_of_ble_eq_true rfl) | exact fz_put 3 (by fail "nd") rfl (Nat.le_of_ble_eq_true rfl) | exact fz_put 4 (by fail "nd") rfl (Nat.le_of_ble_eq_true rfl) | exact fz_put 5 (by fail "nd") rfl (Nat.le_of_ble_eq_true rfl) | exact fz_put 6 (by fail "nd") rfl (Nat.le_of_ble_eq_true rfl) | exact fz_put 7 (by fail "nd") rfl (Nat.le_of_ble_eq_true rfl) | exact fz_new (by decide +kernel) rfl)
local macro_rules | `(tactic| fail "ptD") => `(tactic| first | assumption | exact dz_put 0 (by fail "nd") rfl (Nat.le_of_ble_eq_true rfl) | exact dz_put 1 (by fail "nd") rfl (Nat.le_of_ble_eq_true rfl) | exact dz_put 2 (by fail "nd") rfl (Nat.le_of_ble_eq_true rfl) | exact dz_put 3 (by fail "nd") rfl (Nat.le_of_ble_eq_true rfl) | exact dz_put 4 (by fail "nd") rfl (Nat.le_of_ble_eq_true rfl))
local macro_rules | `(tactic| fail "sz") => `(tactic| first | assumption | exact (Nat.le_of_ble_eq_true rfl) | omega | decide)
local macro_rules | `(tactic| fail "sd") => `(tactic| first | rfl | assumption | decide | omega | (dsimp only; first | decide | omega) | exact .inr ⟨by decide, by decide⟩ | exact .inl ⟨by decide, by decide⟩ | exact ⟨by omega, by omega⟩ | exact .inl ⟨by omega, by omega⟩ | exact .inr ⟨by omega, by omega⟩ | exact ⟨by omega, by omega, by omega⟩)
local macro_rules | `(tactic| fail "cl") => `(tactic| (clear hH; dsimp only [List.set, List.cons_append, List.nil_append, List.append] at hL))
local macro_rules | `(tactic| fail "gn") => `(tactic| (intro p hp; generalize hH : upd H p _ = H; replace hL := Led.newH hL hp hH; clear hH hp))
local macro_rules | `(tactic| fail "gup") => `(tactic| (generalize hH : upd H _ _ = H; replace hL := Led.upU hL (by fail "up") hH; fail "cl"))
local macro_rules | `(tactic| fail "gmk") => `(tactic| (intro x dx hx hd ne; generalize hH : upd (upd H dx _) x _ = H; replace hL := Led.made hL hx hd ne hH; clear hH hx hd ne))
local macro_rules | `(tactic| fail "v") => `(tactic| refine ⟨_, rfl, ?_⟩)
local macro_rules | `(tactic| fail "i2") => `(tactic| refine ⟨_, _, rfl, rfl, ?_⟩)
local macro_rules | `(tactic| fail "go1") => `(tactic| first
  | refine ⟨_, rfl, ?_⟩
  | refine ⟨_, _, rfl, rfl, ?_⟩
  | refine ⟨_, _, rfl, ?_⟩
  | refine iteT ?_
  | refine iteF ?_
  | refine k_fld hL (by fail "ix") (by assumption) (by assumption) (by fail "lkF") ?_
  | refine k_dgetS hL (by fail "ix") (by fail "lkD") ?_
  | refine k_dgetI hL (by fail "ix") (by assumption) ?_
  | refine k_ixL hL (by fail "ix") (by first | rfl | assumption) ?_
  | refine k_ixT hL (by fail "ix") (by first | rfl | assumption) ?_
  | refine k_tyL hL (by fail "ix") ?_
  | refine k_isd hL (by fail "ix") ?_
  | (refine And.intro (by fail "sz") ?_; fail "gn")
  | refine And.intro (by fail "sd") ?_
  | fail "gn"
  | refine k_meth hL (by fail "ix") (by first | assumption | exact fz_no (by decide +kernel)) ?_
  | refine k_gtup hL (by fail "ix") rfl ?_
  | (refine k_popI hL (by fail "ix") (by assumption) ?_; fail "gup")
  | (refine k_listD hL (by fail "ix") ?_; fail "gn")
  | (refine ⟨_, _, _, _, rfl, rfl, hL.at (by fail "ix"), rfl, ?_⟩; fail "gup")
  | (refine ⟨_, _, _, rfl, rfl, hL.at (by fail "ix"), (by fail "sz"), ?_⟩; fail "gup")
  | (refine ⟨_, _, _, _, rfl, hL.at (by fail "ix"), by assumption, by assumption, Nat.lt_of_le_of_lt fz_len (by decide), ?_⟩; generalize hH : upd H _ _ = H; replace hL := Led.upF hL (by fail "up") (by fail "ptF") hH; fail "cl")
  | (refine ⟨_, _, hL.at (by fail "ix"), Nat.lt_of_le_of_lt fz_len (by decide), ?_⟩; generalize hH : upd H _ _ = H; replace hL := Led.upF hL (by fail "up") (by fail "ptF") hH; fail "cl")
  | (refine k_dputS hL (by fail "ix") (Nat.lt_of_le_of_lt dz_len (by decide)) (by fail "ptD") (by fail "up") ?_; clear hL; intro H hL; dsimp only [List.set, List.cons_append, List.nil_append, List.append] at hL)
  | refine k_lenL2 hL (by fail "ix") ?_
  | refine k_lenT2 hL (by fail "ix") ?_
  | refine .inl ⟨_, rfl, ?_⟩
  | refine .inr ⟨_, rfl, ?_⟩)
local macro_rules | `(tactic| fail "go") => `(tactic| repeat fail "go1")
local macro_rules | `(tactic| fail "pm") => `(tactic| (refine Led.le hL (fun a_ => ?_); simp only [cnt_nil, cnt_cons, cnt_app, List.map_append, List.map_cons, List.map_nil, List.flatMap_append, List.flatMap_cons, List.flatMap_nil, List.append_assoc, List.cons_append, List.nil_append]; omega))

/-- an act -/
def tD (C : Cl4) : TS := fun D σ H => ∃ (u du al la : Addr) (x : Ho) (gr n i : Int) (ga ar : List V) (L : Lg),
  σ[3]? = some (some (.ref u)) ∧ σ[8]? = some (some (.int gr)) ∧ σ[9]? = some (some (.ref la)) ∧ σ[12]? = some (some (.int i)) ∧ σ[14]? = some (some (.ref x.a)) ∧ σ.length = 34 ∧
  x.s.nu = some n ∧ ga.length < 1000 ∧ ar.length < 1000 ∧
  Led H (guO C.U u du al gr :: (al, .lst ga) :: (la, .lst ar) :: hoO C.H x.a x.d x.c.a x.s :: L) ∧
  (n < gr → ∀ (la' : Addr) (v23 : Option V) H', Led H' (guO C.U u du al gr :: (al, .lst ga) :: (la', .lst ar) :: hoO C.H x.a x.d x.c.a x.s :: L) → D.nx (((σ.set 23 v23).set 8 (some (.int gr))).set 9 (some (.ref la'))) H') ∧
  (gr ≤ n → ∀ (la' q1 q2 q3 q4 : Addr) (v23 : Option V) H', Led H' (guO C.U u du al n :: (al, .lst (ga ++ [.ref q1])) :: (la', .lst (ar ++ [.ref q3])) :: (q1, .tup [.int n, .ref q2]) :: (q2, .tup [.str x.s.nm, .int i]) :: (q3, .tup [.int n, .ref q4]) :: (q4, .tup [.str x.s.nm, .int i]) :: hoO C.H x.a x.d x.c.a x.s :: L) →
    D.nx (((σ.set 23 v23).set 8 (some (.int n))).set 9 (some (.ref la'))) H')
section
variable {P : Program} {w : World} {K : PySem.W.Frag} {mg : Str → Option Value} {base : Heap} {C : Cl4} {f cL : Addr} {A : Around} {outer : List Env} {s0 : Shared} {H0 : Hp} {E : XK}
theorem st_D (hr : Room 20 (LX P w K mg base f (.ref cL) A outer s0 H0 E).A) (T : TxtLw mg) (XH : TxtCl K C.H nmH) (c_Guarded_act : Met P w K mg base 1 C.U "act" (spUAct C.U) []) :
    PSs (LX P w K mg base f (.ref cL) A outer s0 H0 E) brD (tD C) := by
  refine pss_imp (t := _) (pss_cons (ps_set (i := 23) scLaw.nd rfl (Or.inl rfl) (pe_cmpR op_ge (pe_fld (pv 14) rfl) (pv 8) (nomark _)))
  (pss_cons (ps_if (pt_cmpR op_ne (pe_mt c_Guarded_act hr (by decide) (pv 3) (pa_cons (pe_fld (pv 14) rfl) (pa_cons (pe_tup (pa_cons (pe_fld (pv 14) rfl) (pa_cons (pv 12) pa_nil))) pa_nil))) (pv 23) (nomark _))
  (pss_one (ps_ret pe_bl))
  pss_nil)
  (pss_cons (ps_set (i := 8) scLaw.nd rfl (Or.inl rfl) (pe_callB (call_max2 rfl) (by rfl) T.max (by decide +kernel) (pa_cons (pv 8) (pa_cons (pe_fld (pv 14) rfl) pa_nil))))
  (pss_one (ps_set (i := 9) scLaw.nd rfl (Or.inr rfl) (pe_op op_cat (pv 9) (pe_ifExp (pt_truth (pv 23) (by intro _; rfl)) (pe_lst (pa_cons (pe_tup (pa_cons (pe_fld (pv 14) rfl) (pa_cons (pe_tup (pa_cons (pe_fld (pv 14) rfl) (pa_cons (pv 12) pa_nil))) pa_nil))) pa_nil)) (pe_lst pa_nil)))))))) ?_
  rintro D σ H ⟨u, du, al, la, x, gr, n, i, ga, ar, L, hs3, hs8, hs9, hs12, hs14, hsl, hnu, hga, har, hL, k1, k2⟩
  match σ, hs3, hs8, hs9, hs12, hs14, hsl with
  | v0 :: v1 :: v2 :: v3 :: v4 :: v5 :: v6 :: v7 :: v8 :: v9 :: v10 :: v11 :: v12 :: v13 :: v14 :: v15 :: v16 :: v17 :: v18 :: v19 :: v20 :: v21 :: v22 :: v23 :: v24 :: v25 :: v26 :: v27 :: v28 :: v29 :: v30 :: v31 :: v32 :: v33 :: [], hs3, hs8, hs9, hs12, hs14, _ =>
  cases hs3
  cases hs8
  cases hs9
  cases hs12
  cases hs14
  have hz1 : 1000 < sizeLine := by decide
  have c1 := XH.cl
  have f1 := XH.n "name" (by decide +kernel)
  have f3 := XH.n "number" (by decide +kernel)
  have hB : Led H ((x.a, .ins C.H x.d (fz nmH [.str x.s.nm, .ref x.c.a, .int n, optI x.s.un, optI x.s.ak, .int x.s.le, .int x.s.tu])) :: guO C.U u du al gr :: (al, .lst ga) :: (la, .lst ar) :: L) := hL.le (fun a_ => by
    simp only [hoO, hnu, optI, cnt_cons]
    omega)
  clear hL
  have hL := hB
  clear hB
  fail "go"
  dsimp only [tNil, List.cons_append, List.nil_append]
  obtain ⟨q2, hq2⟩ : ∃ q2, q2 = p := ⟨_, rfl⟩
  rw [← hq2] at hL ⊢
  clear hq2
  have hB : Led H (guO C.U u du al gr :: (al, .lst ga) :: (la, .lst ar) :: (q2, .tup [.str x.s.nm, .int i]) :: (x.a, .ins C.H x.d (fz nmH [.str x.s.nm, .ref x.c.a, .int n, optI x.s.un, optI x.s.ak, .int x.s.le, .int x.s.tu])) :: L) := hL.le (fun a_ => by
    simp only [cnt_cons]
    omega)
  clear hL
  have hfin : ∀ {g' : Int} {la' : Addr} {ga' ar' : List V} {Z : Lg} {H' : Hp}, Led H' (guO C.U u du al g' :: (al, .lst ga') :: (la', .lst ar') :: (Z ++ ((x.a, .ins C.H x.d (fz nmH [.str x.s.nm, .ref x.c.a, .int n, optI x.s.un, optI x.s.ak, .int x.s.le, .int x.s.tu])) :: L))) → Led H' (guO C.U u du al g' :: (al, .lst ga') :: (la', .lst ar') :: (Z ++ (hoO C.H x.a x.d x.c.a x.s :: L))) := fun {g' la' ga' ar' Z H'} h => h.le (fun a_ => by
    simp only [hoO, hnu, optI, cnt_cons, cnt_app]
    omega)
  refine ⟨u, du, al, gr, n, .ref q2, ga, _, rfl, hB, by omega, fun hlt H hL => ?_, fun hge q1 H hL => ?_⟩
  · clear hB
    rw [show decide (gr ≤ n) = false from decide_eq_false (by omega)]
    have hB : Led H ((x.a, .ins C.H x.d (fz nmH [.str x.s.nm, .ref x.c.a, .int n, optI x.s.un, optI x.s.ak, .int x.s.le, .int x.s.tu])) :: (la, .lst ar) :: (al, .lst ga) :: guO C.U u du al gr :: L) := hL.le (fun a_ => by
      simp only [cnt_cons]
      omega)
    clear hL
    have hL := hB
    clear hB
    fail "go"
    rw [if_neg (by omega : ¬ n > gr)]
    refine k_cat hL ⟨2, rfl⟩ ⟨0, rfl⟩ (by simp only [List.length_nil, List.length_cons]; omega) fun la' hla => ?_
    generalize hH : upd H la' _ = H
    replace hL := Led.newH hL hla hH
    clear hH hla
    rw [List.append_nil] at hL
    fail "go"
    exact k1 hlt la' _ H (hL.le (fun a_ => by
      simp only [hoO, hnu, optI, cnt_cons]
      omega))
  · clear hB
    rw [show decide (gr ≤ n) = true from decide_eq_true hge]
    have hB : Led H ((x.a, .ins C.H x.d (fz nmH [.str x.s.nm, .ref x.c.a, .int n, optI x.s.un, optI x.s.ak, .int x.s.le, .int x.s.tu])) :: (la, .lst ar) :: (al, .lst (ga ++ [.ref q1])) :: guO C.U u du al n :: (q1, .tup [.int n, .ref q2]) :: (q2, .tup [.str x.s.nm, .int i]) :: L) := hL.le (fun a_ => by
      simp only [cnt_cons]
      omega)
    clear hL
    have hL := hB
    clear hB
    fail "go"
    have e9 : (if n > gr then n else gr) = n := by
      by_cases h : n > gr
      · rw [if_pos h]
      · rw [if_neg h]; omega
    rw [e9]
    rename_i _ q4 _ q3 _
    refine k_cat hL ⟨4, rfl⟩ ⟨0, rfl⟩ (by simp only [List.length_nil, List.length_cons]; omega) fun la' hla => ?_
    generalize hH : upd H la' _ = H
    replace hL := Led.newH hL hla hH
    clear hH hla
    fail "go"
    exact k2 hge la' q1 q2 q3 q4 _ H (hL.le (fun a_ => by
      simp only [hoO, hnu, optI, cnt_cons]
      omega))
end
end Sd


set_option linter.unusedVariables false
namespace Sd
open PySem L2 LamX Mx
open C8 (Cal Met Mak pe_c pe_mk pe_mt pe_mt0 pss_cut tCut)
set_option linter.unusedSimpArgs false
set_option pp.deepTerms false
set_option pp.deepTerms.threshold 12
set_option hygiene false
local macro_rules | `(tactic| fail "nd") => `(tactic| first | assumption | decide +kernel)
local macro_rules | `(tactic| fail "ix") => `(tactic| first | exact ⟨0, rfl⟩ | exact ⟨1, rfl⟩ | exact ⟨2, rfl⟩ | exact ⟨3, rfl⟩ | exact ⟨4, rfl⟩ | exact ⟨5, rfl⟩ | exact ⟨6, rfl⟩ | exact ⟨7, rfl⟩ | exact ⟨8, rfl⟩ | exact ⟨9, rfl⟩ | exact ⟨10, rfl⟩ | exact ⟨11, rfl⟩ | exact ⟨12, rfl⟩ | exact ⟨13, rfl⟩ | exact ⟨14, rfl⟩ | exact ⟨15, rfl⟩ | exact ⟨16, rfl⟩ | exact ⟨17, rfl⟩ | exact ⟨18, rfl⟩ | assumption)
local macro_rules | `(tactic| fail "up") => `(tactic| first | exact ⟨0, rfl, rfl⟩ | exact ⟨1, rfl, rfl⟩ | exact ⟨2, rfl, rfl⟩ | exact ⟨3, rfl, rfl⟩ | exact ⟨4, rfl, rfl⟩ | exact ⟨5, rfl, rfl⟩ | exact ⟨6, rfl, rfl⟩ | exact ⟨7, rfl, rfl⟩ | exact ⟨8, rfl, rfl⟩ | exact ⟨9, rfl, rfl⟩ | exact ⟨10, rfl, rfl⟩ | exact ⟨11, rfl, rfl⟩ | exact ⟨12, rfl, rfl⟩ | exact ⟨13, rfl, rfl⟩ | exact ⟨14, rfl, rfl⟩ | exact ⟨15, rfl, rfl⟩ | exact ⟨16, rfl, rfl⟩ | assumption)
local macro_rules | `(tactic| fail "lkF") => `(tactic| first | assumption | exact fz_at 0 (by fail "nd") rfl rfl | exact fz_at 1 (by fail "nd") rfl rfl | exact fz_at 2 (by fail "nd") rfl rfl | exact fz_at 3 (by fail "nd") rfl rfl | exact fz_at 4 (by fail "nd") rfl rfl | exact fz_at 5 (by fail "nd") rfl rfl | exact fz_at 6 (by fail "nd") rfl rfl | exact fz_at 7 (by fail "nd") rfl rfl)
local macro_rules | `(tactic| fail "lkD") => `(tactic| first | assumption | exact dz_at 0 (by fail "nd") rfl rfl | exact dz_at 1 (by fail "nd") rfl rfl | exact dz_at 2 (by fail "nd") rfl rfl | exact dz_at 3 (by fail "nd") rfl rfl | exact dz_at 4 (by fail "nd") rfl rfl)
local macro_rules | `(tactic| fail "ptF") => `(tactic| first | assumption | exact fz_put 0 (by fail "nd") rfl (Nat.le_of_ble_eq_true rfl) | exact fz_put 1 (by fail "nd") rfl (Nat.le_of_ble_eq_true rfl) | exact fz_put 2 (by fail "nd") rfl (Nat.le_of_ble_eq_true rfl) | exact fz_put 3 (by fail "nd") rfl (Nat.le_of_ble_eq_true rfl) | exact fz_put 4 (by fail "nd") rfl (Nat.le_of_ble_eq_true rfl) | exact fz_put 5 (by fail "nd") rfl (Nat.le_of_ble_eq_true rfl) | exact fz_put 6 (by fail "nd") rfl (Nat.le_of_ble_eq_true rfl) | exact fz_put 7 (by fail "nd") rfl (Nat.le_of_ble_eq_true rfl) | exact fz_new (by decide +kernel) rfl)
local macro_rules | `(tactic| fail "ptD") => `(tactic| first | assumption | exact dz_put 0 (by fail "nd") rfl (Nat.le_of_ble_eq_true rfl) | exact dz_put 1 (by fail "nd") rfl (Nat.le_of_ble_eq_true rfl) | exact dz_put 2 (by fail "nd") rfl (Nat.le_of_ble_eq_true rfl) | exact dz_put 3 (by fail "nd") rfl (Nat.le_of_ble_eq_true rfl) | exact dz_put 4 (by fail "nd") rfl (Nat.le_of_ble_eq_true rfl))
local macro_rules | `(tactic| fail "sz") => `(tactic| first | assumption | exact (Nat.le_of_ble_eq_true rfl) | omega | decide)
local macro_rules | `(tactic| fail "sd") => `(tactic| first | rfl | assumption | decide | omega | (dsimp only; first | decide | omega) | exact .inr ⟨by decide, by decide⟩ | exact .inl ⟨by decide, by decide⟩ | exact ⟨by omega, by omega⟩ | exact .inl ⟨by omega, by omega⟩ | exact .inr ⟨by omega, by omega⟩ | exact ⟨by omega, by omega, by omega⟩)
local macro_rules | `(tactic| fail "cl") => `(tactic| (clear hH; dsimp only [List.set, List.cons_append, List.nil_append, List.append] at hL))
local macro_rules | `(tactic| fail "gn") => `(tactic| (intro p hp; generalize hH : upd H p _ = H; replace hL := Led.newH hL hp hH; clear hH hp))
local macro_rules | `(tactic| fail "gup") => `(tactic| (generalize hH : upd H _ _ = H; replace hL := Led.upU hL (by fail "up") hH; fail "cl"))
local macro_rules | `(tactic| fail "gmk") => `(tactic| (intro x dx hx hd ne; generalize hH : upd (upd H dx _) x _ = H; replace hL := Led.made hL hx hd ne hH; clear hH hx hd ne))
local macro_rules | `(tactic| fail "v") => `(tactic| refine ⟨_, rfl, ?_⟩)
local macro_rules | `(tactic| fail "i2") => `(tactic| refine ⟨_, _, rfl, rfl, ?_⟩)
local macro_rules | `(tactic| fail "go1") => `(tactic| first
  | refine ⟨_, rfl, ?_⟩
  | refine ⟨_, _, rfl, rfl, ?_⟩
  | refine ⟨_, _, rfl, ?_⟩
  | refine iteT ?_
  | refine iteF ?_
  | refine k_fld hL (by fail "ix") (by assumption) (by assumption) (by fail "lkF") ?_
  | refine k_dgetS hL (by fail "ix") (by fail "lkD") ?_
  | refine k_dgetI hL (by fail "ix") (by assumption) ?_
  | refine k_ixL hL (by fail "ix") (by first | rfl | assumption) ?_
  | refine k_ixT hL (by fail "ix") (by first | rfl | assumption) ?_
  | refine k_tyL hL (by fail "ix") ?_
  | refine k_isd hL (by fail "ix") ?_
  | (refine And.intro (by fail "sz") ?_; fail "gn")
  | refine And.intro (by fail "sd") ?_
  | fail "gn"
  | refine k_meth hL (by fail "ix") (by first | assumption | exact fz_no (by decide +kernel)) ?_
  | refine k_gtup hL (by fail "ix") rfl ?_
  | (refine k_popI hL (by fail "ix") (by assumption) ?_; fail "gup")
  | (refine k_listD hL (by fail "ix") ?_; fail "gn")
  | (refine ⟨_, _, _, _, rfl, rfl, hL.at (by fail "ix"), rfl, ?_⟩; fail "gup")
  | (refine ⟨_, _, _, rfl, rfl, hL.at (by fail "ix"), (by fail "sz"), ?_⟩; fail "gup")
  | (refine ⟨_, _, _, _, rfl, hL.at (by fail "ix"), by assumption, by assumption, Nat.lt_of_le_of_lt fz_len (by decide), ?_⟩; generalize hH : upd H _ _ = H; replace hL := Led.upF hL (by fail "up") (by fail "ptF") hH; fail "cl")
  | (refine ⟨_, _, hL.at (by fail "ix"), Nat.lt_of_le_of_lt fz_len (by decide), ?_⟩; generalize hH : upd H _ _ = H; replace hL := Led.upF hL (by fail "up") (by fail "ptF") hH; fail "cl")
  | (refine k_dputS hL (by fail "ix") (Nat.lt_of_le_of_lt dz_len (by decide)) (by fail "ptD") (by fail "up") ?_; clear hL; intro H hL; dsimp only [List.set, List.cons_append, List.nil_append, List.append] at hL)
  | refine k_lenL2 hL (by fail "ix") ?_
  | refine k_lenT2 hL (by fail "ix") ?_
  | refine .inl ⟨_, rfl, ?_⟩
  | refine .inr ⟨_, rfl, ?_⟩)
local macro_rules | `(tactic| fail "go") => `(tactic| repeat fail "go1")
local macro_rules | `(tactic| fail "pm") => `(tactic| (refine Led.le hL (fun a_ => ?_); simp only [cnt_nil, cnt_cons, cnt_app, List.map_append, List.map_cons, List.map_nil, List.flatMap_append, List.flatMap_cons, List.flatMap_nil, List.append_assoc, List.cons_append, List.nil_append]; omega))

section
variable {X : Cx} {s : Shared} {H : Hp} {scope : Scope} {env : Env} {fp : List Addr} {o i : Expr} {pos : Pos} {td ty : TE}
theorem pe_mgetB (hu : X.A.units + 1 < cLine) (ho : PE (X.blk s H scope env fp) o td) (hi : PE (X.blk s H scope env fp) i ty) (hs : NoSl i) : PE (X.blk s H scope env fp) (.Subscript o i pos) (tOp (rMGet X.prog X.w) td ty) := pe_mget (X := X.blk s H scope env fp) hu ho hi hs
theorem pc_minB (hu : X.A.units + 1 < cLine) (hi : PE (X.blk s H scope env fp) i ty) (ho : PE (X.blk s H scope env fp) o td) : PC (X.blk s H scope env fp) .In i o (tMIn X.prog X.w ty td) := pc_min (X := X.blk s H scope env fp) hu hi ho
theorem pt_truthB (ha : PE (X.blk s H scope env fp) i ty) (he : ∀ whole, isTrue i (X.blk s H scope env fp).env whole = (do let v ← whole; standAt i.pos; holding [v] (truthy v))) :
    PT (X.blk s H scope env fp) i (fun σ H Q => ty σ H fun x H' => ∃ k, TruV X.K x H' k ∧ Q k H') := pt_truth (X := X.blk s H scope env fp) ha he
end
/-- what stands in held of a holder -/
def HeldOf (kv : List MV) (hs : List Ho) : Prop := ∀ (k : Nat) (x : Ho), hs[k]? = some x → mVal kv (plK k) = if x.s.nu.isSome = true then some (.int (x.s.un.getD 0)) else none
/-- held as the law tells it -/
def tHeld (P : Program) (w : World) (C : Cl4) : TS := fun D σ H => ∃ (hl he : Addr) (hs : List Ho) (kv : List MV) (T : Int) (L : Lg),
  σ[4]? = some (some (.int T)) ∧ σ[5]? = some (some (.ref hl)) ∧ σ[10]? = some (some (.ref he)) ∧ σ.length = 34 ∧
  hs.length ≤ 3 ∧ (∀ x ∈ hs, x.s.Ok ∧ x.c.Ok) ∧ (∀ x ∈ hs, ∀ y ∈ hoL C x, y ∈ L) ∧ (hl, HO.lst (hosV hs)) ∈ L ∧ (he, mxO P w he kv) ∈ L ∧ (∀ y ∈ kv, KeyZ L y.1 y.2.1) ∧ HeldOf kv hs ∧ Led H L ∧
  ∀ H', Led H' L → D.nx σ H'
def tSafe (C : Cl4) : TS := fun D σ H => ∃ (hl : Addr) (hs : List Ho) (T : Int) (L : Lg),
  σ[4]? = some (some (.int T)) ∧ σ[5]? = some (some (.ref hl)) ∧ σ.length = 34 ∧
  hs.length ≤ 3 ∧ (∀ x ∈ hs, x.s.Ok ∧ x.c.Ok) ∧ (∀ x ∈ hs, ∀ y ∈ hoL C x, y ∈ L) ∧ (hl, HO.lst (hosV hs)) ∈ L ∧
  (∀ (i j : Nat) (x y : Ho) (t : Int), hs[i]? = some x → hs[j]? = some y → T ≤ t → x.s.holds (x.c.at t) = true → y.s.holds (y.c.at t) = true → i = j) ∧ Led H L ∧
  ∀ (v25 : Option V) H', Led H' L → D.nx (σ.set 25 v25) H'
section
variable {P : Program} {w : World} {K : PySem.W.Frag} {mg : Str → Option Value} {base : Heap} {C : Cl4} {f cL : Addr} {A : Around} {outer : List Env} {s0 : Shared} {H0 : Hp} {E : XK}
theorem st_held (hr : Room 20 (LX P w K mg base f (.ref cL) A outer s0 H0 E).A) (T : TxtLw mg) (XH : TxtCl K C.H nmH) (c_Holder_holds : Met P w K mg base 2 C.H "holds" (spHHolds C.H C.C) []) (c_DriftClock_at : Met P w K mg base 1 C.C "at" (spCAt C.C) []) : PS (LX P w K mg base f (.ref cL) A outer s0 H0 E) (nth stepB 3) (tHeld P w C) := by
  refine ps_imp (t := _) (ps_if (pt_cmpR (op_neP hr.units) (pe_lc (own := [("one", 24)]) (g := gName 24) (by rfl) scLaw.nd (pi_range1 (by rfl) T.range (pa_cons (pe_callB call_len_seq (by rfl) T.len (by decide +kernel) (pa_cons (pv 5) pa_nil)) pa_nil)) (blkOk_by (own := [("one", 24)]) (N := NLw) (sc := (defScope sLaw)) (by decide +kernel)) (fun _ _ _ _ _ => (pg_name (i := 24) scLaw.nd rfl (Or.inl rfl))) (fun _ _ _ _ _ => (pts_one (pt_cmpR op_ne (pe_mt c_Holder_holds hr (by decide) (pe_ix ix_listB (pv 5) (pv 24) (fun _ _ => rfl)) (pa_cons (pv 4) pa_nil)) (pe_and (pe_cmp (pc_minB (hu_of hr) (pv 24) (pv 10))) (pe_one (pe_cmpR op_lt (pe_mt c_DriftClock_at hr (by decide) (pe_fldB (pe_ix ix_listB (pv 5) (pv 24) (fun _ _ => rfl)) rfl) (pa_cons (pv 4) pa_nil)) (pe_mgetB (hu_of hr) (pv 10) (pv 24) (fun _ _ => rfl)) (nomark _)))) (nomark _)))) (fun _ _ _ _ _ => (pv 24))) (pe_lst pa_nil) (nomark _))
  (pss_one (ps_ret pe_bl))
  pss_nil) ?_
  rintro D σ H ⟨hl, he, hs, kv, T, L, hs4, hs5, hs10, hsl, h3, hok, hm, mhl, mhe, hkz, hpl, hL, k⟩
  match σ, hs4, hs5, hs10, hsl with
  | v0 :: v1 :: v2 :: v3 :: v4 :: v5 :: v6 :: v7 :: v8 :: v9 :: v10 :: v11 :: v12 :: v13 :: v14 :: v15 :: v16 :: v17 :: v18 :: v19 :: v20 :: v21 :: v22 :: v23 :: v24 :: v25 :: v26 :: v27 :: v28 :: v29 :: v30 :: v31 :: v32 :: v33 :: [], hs4, hs5, hs10, _ =>
  cases hs4
  cases hs5
  cases hs10
  have hz1 : 1000 < sizeLine := by decide
  have c1 := XH.cl
  have f1 := XH.n "clock" (by decide +kernel)
  fail "go"
  dsimp only [tNil]
  refine ⟨hl, hosV hs, rfl, .inl (.of (hL.mem mhl)), ?_⟩
  fail "go"
  have hln : (hosV hs).length = hs.length := by unfold hosV; rw [List.length_map]
  rw [hln]
  refine ⟨by omega, fun D1 hD => lc_range (lo := 0) (n := (hs.length : Int).toNat) (fun i H => Hold (Led H ((D1, .lst []) :: L))) (.mk (hL.new hD)) (fun i H hi q => ?_) (fun H q => ?_)⟩
  · clear hL hD
    have hL := q.out
    clear q
    obtain ⟨x, hx⟩ : ∃ x, hs[i]? = some x := ⟨hs[i]'(by omega), List.getElem?_eq_getElem _⟩
    have hxm := List.mem_of_getElem? hx
    have hxv : (hosV hs)[i]? = some (.ref x.a) := by unfold hosV; rw [List.getElem?_map, hx]; rfl
    rw [Int.zero_add]
    refine (show gName 24 _ _ _ _ from ?_)
    fail "go"
    refine k_ixL hL (at_mem (.tail _ mhl)) (atI_at hxv) ?_
    fail "go"
    refine k_meth hL (at_mem (.tail _ (hm x hxm _ (.head _)))) (fz_no (by decide +kernel)) ?_
    fail "go"
    dsimp only [tNil, tCons, tC, List.cons_append, List.nil_append]
    refine ⟨x.a, x.d, x.c, x.s, T, _, rfl, hL, .tail _ (hm x hxm _ (.head _)), .tail _ (hm x hxm _ (.tail _ (.head _))), .tail _ (hm x hxm _ (.tail _ (.tail _ (.head _)))), (hok x hxm).2, (hok x hxm).1, fun H hL => ?_⟩
    fail "go"
    refine ⟨he, kv, plK i, rfl, hL.mem (.tail _ mhe), fun y hy => (hkz y hy).at hL (fun z hz => .tail _ hz), rfl, ?_⟩
    have hv := hpl i x hx
    rw [hv]
    have hxh : ∀ u, x.s.nu = some u → x.s.holds (x.c.at T) = decide (x.c.at T < x.s.un.getD 0) := fun u h => by
      unfold HoS.holds
      rw [h]
      rfl
    cases hnu : x.s.nu with
    | none =>
      have e : x.s.holds (x.c.at T) = false := by
        unfold HoS.holds
        rw [hnu]
        rfl
      rw [e]
      refine ⟨false, rfl, iteF ?_⟩
      fail "go"
      exact .mk hL
    | some u =>
      rw [hxh u hnu]
      refine ⟨true, rfl, iteT ?_⟩
      fail "go"
      refine k_ixL hL (at_mem (.tail _ mhl)) (atI_at hxv) ?_
      fail "go"
      refine k_fld hL (at_mem (.tail _ (hm x hxm _ (.head _)))) c1 f1 (fz_at 1 (by decide +kernel) rfl rfl) ?_
      fail "go"
      refine k_meth hL (at_mem (.tail _ (hm x hxm _ (.tail _ (.head _))))) (fz_no (by decide +kernel)) ?_
      fail "go"
      dsimp only [tNil, tCons, tC, List.cons_append, List.nil_append]
      refine ⟨x.c, T, _, rfl, hL, .tail _ (hm x hxm _ (.tail _ (.head _))), .tail _ (hm x hxm _ (.tail _ (.tail _ (.head _)))), (hok x hxm).2, fun H hL => ?_⟩
      fail "go"
      refine ⟨he, kv, plK i, .int (x.s.un.getD 0), rfl, hL.mem (.tail _ mhe), fun y hy => (hkz y hy).at hL (fun z hz => .tail _ hz), rfl, hv.trans (by rw [hnu]; rfl), ?_⟩
      fail "go"
      rw [decide_eq_true (show V.bl (decide (x.c.at T < x.s.un.getD 0)) = (fun i j => V.bl (decide (i < j))) (x.c.at T) (x.s.un.getD 0) from rfl)]
      refine iteF ?_
      exact .mk hL
  · clear hL hD
    have hL := q.out
    clear q
    fail "go"
    refine k_neSame (d := .list []) (dp_lst (hL.mem (.tail _ (.head _))) .nil) (dp_lst (hL.mem (.head _)) .nil) ⟨by simp [PyData.plain, PyData.plainAll], by simp [PyData.depth, PyData.depthAll]⟩ ?_
    fail "go"
    exact k H hL.tail.tail
theorem st_safe (hr : Room 20 (LX P w K mg base f (.ref cL) A outer s0 H0 E).A) (T : TxtLw mg) (c_Holder_holds : Met P w K mg base 2 C.H "holds" (spHHolds C.H C.C) []) : PS (LX P w K mg base f (.ref cL) A outer s0 H0 E) (nth stepB 4) (tSafe C) := by
  refine ps_imp (t := _) (ps_for PassesOwn.never rfl (pi_range1 (by rfl) T.range (pa_cons pe_int pa_nil)) (pg_name (i := 25) scLaw.nd rfl (Or.inr rfl))
  (pss_one (ps_if (pt_cmpR op_gt (pe_callB call_len_seq (by rfl) T.len (by decide +kernel) (pa_cons (pe_lc (own := [("one", 24)]) (g := gName 24) (by rfl) scLaw.nd (pi_list (pv 5)) (blkOk_by (own := [("one", 24)]) (N := NLw) (sc := (defScope sLaw)) (by decide +kernel)) (fun _ _ _ _ _ => (pg_name (i := 24) scLaw.nd rfl (Or.inl rfl))) (fun _ _ _ _ _ => (pts_one (pt_truthB (pe_mt c_Holder_holds hr (by decide) (pv 24) (pa_cons (pe_op op_add (pv 4) (pv 25)) pa_nil)) (by intro _; rfl)))) (fun _ _ _ _ _ => (pv 24))) pa_nil)) pe_int (nomark _))
  (pss_one (ps_ret pe_bl))
  pss_nil))) ?_
  rintro D σ H ⟨hl, hs, T, L, hs4, hs5, hsl, h3, hok, hm, mhl, h1, hL, k⟩
  match σ, hs4, hs5, hsl with
  | v0 :: v1 :: v2 :: v3 :: v4 :: v5 :: v6 :: v7 :: v8 :: v9 :: v10 :: v11 :: v12 :: v13 :: v14 :: v15 :: v16 :: v17 :: v18 :: v19 :: v20 :: v21 :: v22 :: v23 :: v24 :: v25 :: v26 :: v27 :: v28 :: v29 :: v30 :: v31 :: v32 :: v33 :: [], hs4, hs5, _ =>
  cases hs4
  cases hs5
  have hz1 : 1000 < sizeLine := by decide
  fail "go"
  dsimp only
  refine for_rangeA (lo := 0) (n := Int.toNat 60) (fun i σ H => Hold (∃ v25 : Option V, σ = v0 :: v1 :: v2 :: v3 :: some (.int T) :: some (.ref hl) :: v6 :: v7 :: v8 :: v9 :: v10 :: v11 :: v12 :: v13 :: v14 :: v15 :: v16 :: v17 :: v18 :: v19 :: v20 :: v21 :: v22 :: v23 :: v24 :: v25 :: v26 :: v27 :: v28 :: v29 :: v30 :: v31 :: v32 :: v33 :: [] ∧ Led H L)) (.mk ⟨_, rfl, hL⟩) (fun i σ H D' hi q ed => ?_) (fun σ H q => ?_)
  · clear hL
    obtain ⟨v25', rfl, hL⟩ := q.out
    clear q
    fail "go"
    refine ⟨⟨_, .of (hL.mem mhl)⟩, fun D1 hD => ?_⟩
    refine lc_list (g := gName 24) (te := tVar 24) (tt := fun σ H Q => tMeth C.H "holds" (spHHolds C.H C.C) [] C8.E0 (tVar 24) (tCons (tOp (rI0 fun i j => .int (i + j)) (tVar 4) (tVar 25)) tNil) σ H fun x H' => ∃ k, TruV K x H' k ∧ Q k H') (K := K) (a := hl) (xs := hosV hs) (fun j H => Hold (∃ vs : List V, vs.length ≤ 1 ∧ (vs.length = 1 → ∃ j' x', j' < j ∧ hs[j']? = some x' ∧ x'.s.holds (x'.c.at (T + (0 + i))) = true) ∧ Led H ((D1, .lst vs) :: L))) (.mk ⟨[], by decide, fun z => absurd z (by decide), hL.new hD⟩) (fun j H _ q => ?_) (fun j y H hj q => ?_) (fun H q => ?_)
    · obtain ⟨vs, _, _, hL⟩ := q.out
      exact .of (hL.mem (.tail _ mhl))
    · clear hL hD
      obtain ⟨vs, v1, v2, hL⟩ := q.out
      clear q
      unfold hosV at hj
      rw [List.getElem?_map] at hj
      obtain ⟨x, hx, rfl⟩ := Option.map_eq_some_iff.mp hj
      clear hj
      have hxm := List.mem_of_getElem? hx
      refine (show gName 24 _ _ _ _ from ?_)
      fail "go"
      refine k_meth hL (at_mem (.tail _ (hm x hxm _ (.head _)))) (fz_no (by decide +kernel)) ?_
      fail "go"
      dsimp only [tNil, tCons, tC, List.cons_append, List.nil_append]
      refine ⟨x.a, x.d, x.c, x.s, T + (0 + i), _, rfl, hL, .tail _ (hm x hxm _ (.head _)), .tail _ (hm x hxm _ (.tail _ (.head _))), .tail _ (hm x hxm _ (.tail _ (.tail _ (.head _)))), (hok x hxm).2, (hok x hxm).1, fun H hL => ?_⟩
      fail "go"
      cases hh : x.s.holds (x.c.at (T + (0 + i))) with
      | false =>
        refine iteF ?_
        exact .mk ⟨vs, v1, fun z => (by obtain ⟨j', x', a, b⟩ := v2 z; exact ⟨j', x', by omega, b⟩), hL⟩
      | true =>
        refine iteT ?_
        fail "go"
        have hv0 : vs = [] := by
          cases vs with
          | nil => rfl
          | cons y ys =>
            obtain ⟨j', x', a1, a2, a3⟩ := v2 (by simp only [List.length_cons] at v1 ⊢; omega)
            have := h1 j' j x' x _ a2 hx (by omega) a3 hh
            omega
        subst hv0
        refine ⟨_, hL.at ⟨0, rfl⟩, by simp only [List.length_nil]; omega, .mk ⟨[.ref x.a], Nat.le_refl _, fun _ => ⟨j, x, by omega, hx, hh⟩, hL.set 0 rfl⟩⟩
    · clear hL hD
      obtain ⟨vs, v1, v2, hL⟩ := q.out
      clear q
      fail "go"
      dsimp only
      rw [decide_eq_false (by omega)]
      refine iteF ?_
      exact ed.nx _ _ (.mk ⟨_, rfl, hL.tail⟩)
  · clear hL
    obtain ⟨v25, rfl, hL⟩ := q.out
    exact k _ H hL
end
end Sd


set_option linter.unusedVariables false
namespace Sd
open PySem L2 LamX Mx
open C8 (Cal Met Mak pe_c pe_mk pe_mt pe_mt0 pss_cut tCut)
/-! ### the step, plain -/
theorem ds_snoc {T : List V → HO → Prop} {L : Lg} {v : V} {d : Dv} (h : DLp T L v d) : ∀ {xs : List V} {ds : List Dv}, DLps T L xs ds → DLps T L (xs ++ [v]) (ds ++ [d])
  | _, _, .nil => .cons h .nil
  | _, _, .cons a b => .cons a (ds_snoc h b)
theorem akK_inj {i j : Nat} : akK i = akK j ↔ i = j := by
  unfold akK
  constructor
  · intro h
    have h1 := Sum.inr.inj h
    have h2 := (List.cons.inj h1).1
    have h3 := Sum.inl.inj h2
    omega
  · rintro rfl
    rfl
theorem plK_inj {i j : Nat} : plK i = plK j ↔ i = j := by
  unfold plK
  constructor
  · intro h
    have h3 := Sum.inl.inj h
    omega
  · rintro rfl
    rfl
theorem akpl {i j : Nat} : akK i ≠ plK j := fun h => nomatch h
theorem plak {i j : Nat} : plK i ≠ akK j := fun h => nomatch h
theorem hname_nob {k : Nat} (h : k < 3) : hname k ≠ ("nobody" : Str) := by
  have : ∀ i : Fin 3, hname i.val ≠ ("nobody" : Str) := by decide +kernel
  exact this ⟨k, h⟩
variable {G : LwS} {Z : Lg} {i k : Nat} {x : Ho}
theorem Inv.klt (I : Inv G Z i) (hx : G.hs[k]? = some x) : k < 3 := by
  have := (List.getElem?_eq_some_iff.mp hx).1
  have := I.safe.n3
  omega
theorem Inv.nm (I : Inv G Z i) (hx : G.hs[k]? = some x) : x.s.nm ≠ ("nobody" : Str) := by
  rw [I.safe.nms k x hx]
  exact hname_nob (I.klt hx)
theorem Inv.later (I : Inv G Z i) {T' : Int} (h : G.T ≤ T') : Inv { G with T := T' } Z i :=
  ⟨I.safe.later h, I.nob, I.n1, I.fk, I.fln, I.kvn, I.kz, I.pl, I.ak, I.gad, I.ard, I.acn, I.asc, I.top⟩
theorem Inv.next (I : Inv G Z i) : Inv G Z (i + 1) :=
  ⟨I.safe, I.nob, I.n1, I.fk, Nat.le_succ_of_le I.fln, Nat.le_succ_of_le I.kvn, I.kz, I.pl, I.ak, I.gad, I.ard, Nat.le_succ_of_le I.acn, I.asc, I.top⟩
theorem inv_A {ln r : Int} {n : Option Int} {gs' : GrS} {q e1 e2 : Addr} (I : Inv G Z i) (hx : G.hs[k]? = some x) (hr : 0 ≤ r) (ha : Asked G.gs x.s.nm ln (G.gc.at (G.T + r)) n gs') :
    Inv { G with gs := gs', hs := G.hs.set k { x with s := x.s.begin ln (x.c.at G.T) }, fl := G.fl ++ [(q, k, x.s.tu + 1, n)], T := G.T + r, kv := vPut G.kv (akK k) (.ref e1) (.ref e2) }
      ((e1, .tup [.int k, .str "asked"]) :: (e2, .tup [.int (x.s.tu + 1), .int (x.c.at G.T + ln)]) :: Z) (i + 1) := by
  have hZ : ∀ y ∈ Z, y ∈ (e1, HO.tup [.int k, .str "asked"]) :: (e2, .tup [.int (x.s.tu + 1), .int (x.c.at G.T + ln)]) :: Z := fun y h => .tail _ (.tail _ h)
  have hk := (List.getElem?_eq_some_iff.mp hx).1
  have hx2 : (G.hs.set k { x with s := x.s.begin ln (x.c.at G.T) })[k]? = some { x with s := x.s.begin ln (x.c.at G.T) } := by
    rw [List.getElem?_set]
    simp [hk]
  refine ⟨?_, ?_, ?_, ?_, ?_, ?_, ?_, ?_, ?_, I.gad.mono hZ, I.ard.mono hZ, Nat.le_succ_of_le I.acn, I.asc, I.top⟩
  · have h1 := (I.safe.begin (len := ln) hx).later (T' := G.T + r) (by omega)
    obtain ⟨s1, s2⟩ := h1.ask (T0 := G.T) (len := ln) hx2 (by omega) rfl rfl (fun tu m hm => by
      have := I.safe.tur k x tu m hx hm
      show tu < x.s.tu + 1
      omega)
    show Safe G.gc gs' (G.hs.set k { x with s := x.s.begin ln (x.c.at G.T) }) ((G.fl ++ [(q, k, x.s.tu + 1, n)]).map (·.2)) (G.T + r)
    rw [List.map_append]
    cases hb : G.gs.busy x.s.nm (G.gc.at (G.T + r)) with
    | true =>
      obtain ⟨rfl, rfl⟩ := ha.1 hb
      exact s1 hb
    | false =>
      obtain ⟨rfl, rfl⟩ := ha.2 hb
      exact s2 hb
  · show gs'.ho ≠ (some ("nobody" : Str))
    cases hb : G.gs.busy x.s.nm (G.gc.at (G.T + r)) with
    | true =>
      obtain ⟨_, rfl⟩ := ha.1 hb
      exact I.nob
    | false =>
      obtain ⟨rfl, _⟩ := ha.2 hb
      exact fun h => I.nm hx (Option.some.inj h)
  · show 1 ≤ (G.hs.set k _).length
    rw [List.length_set]
    exact I.n1
  · intro y hy
    show y.2.1 < (G.hs.set k _).length
    rw [List.length_set]
    rcases List.mem_append.mp hy with hy | hy
    · exact I.fk y hy
    · rw [List.mem_singleton.mp hy]
      exact hk
  · show (G.fl ++ [_]).length ≤ i + 1
    have := I.fln
    rw [List.length_append, List.length_singleton]
    omega
  · exact Nat.le_trans vPut_len (Nat.succ_le_succ I.kvn)
  · exact vPut_keys (Q := KeyZ _) (fun y hy => (I.kz y hy).mono hZ) ⟨e1, rfl, .head _⟩
  · intro j y hj
    show mVal (vPut G.kv (akK k) _ _) (plK j) = _
    rw [mVal_put, if_neg plak]
    rcases set_get hj with ⟨rfl, rfl⟩ | ⟨_, hj⟩
    · exact I.pl j x hx
    · exact I.pl j y hj
  · intro j y hj hak
    show ∃ b tu, mVal (vPut G.kv (akK k) _ _) (akK j) = _ ∧ _
    rw [mVal_put]
    rcases set_get hj with ⟨rfl, rfl⟩ | ⟨hne, hj⟩
    · rw [if_pos rfl]
      exact ⟨e2, _, rfl, .tail _ (.head _)⟩
    · rw [if_neg (fun h => hne (akK_inj.mp h))]
      obtain ⟨b, tu, h1, h2⟩ := I.ak j y hj hak
      exact ⟨b, tu, h1, hZ _ h2⟩
theorem inv_B {f : Nat} {q : Addr} {tu : Int} {n : Option Int} (I : Inv G Z i) (hf : G.fl[f]? = some (q, k, tu, n)) (hx : G.hs[k]? = some x) :
    Inv { G with hs := G.hs.set k { x with s := if x.s.hit tu then x.s.take n else x.s }, fl := G.fl.eraseIdx f, kv := gotK G.kv k x tu n } Z (i + 1) := by
  have hsub : ∀ {y}, y ∈ G.fl.eraseIdx f → y ∈ G.fl := fun hy => List.mem_of_mem_eraseIdx hy
  refine ⟨?_, I.nob, ?_, ?_, ?_, ?_, ?_, ?_, ?_, I.gad, I.ard, Nat.le_succ_of_le I.acn, I.asc, I.top⟩
  · have h := I.safe.take (i := f) (k := k) (tu := tu) (n := n) (by rw [List.getElem?_map, hf]; rfl) hx
    show Safe G.gc G.gs _ ((G.fl.eraseIdx f).map (·.2)) G.T
    rw [show (G.fl.eraseIdx f).map (·.2) = (G.fl.map (·.2)).eraseIdx f from (erase_map _ _ _).symm]
    exact h
  · show 1 ≤ (G.hs.set k _).length
    rw [List.length_set]
    exact I.n1
  · intro y hy
    show y.2.1 < (G.hs.set k _).length
    rw [List.length_set]
    exact I.fk y (hsub hy)
  · show (G.fl.eraseIdx f).length ≤ i + 1
    have := I.fln
    have := List.length_eraseIdx_le G.fl f
    omega
  · show (gotK G.kv k x tu n).length ≤ i + 1
    unfold gotK
    split
    · exact Nat.le_trans vPut_len (Nat.succ_le_succ I.kvn)
    · exact Nat.le_succ_of_le I.kvn
  · show ∀ y ∈ gotK G.kv k x tu n, _
    unfold gotK
    split
    · exact vPut_keys (Q := KeyZ _) I.kz rfl
    · exact I.kz
  · intro j y hj
    show mVal (gotK G.kv k x tu n) (plK j) = _
    unfold gotK
    rcases set_get hj with ⟨rfl, rfl⟩ | ⟨hne, hj⟩
    · cases hh : x.s.hit tu with
      | false =>
        rw [Bool.false_and, if_neg (by decide)]
        exact I.pl j x hx
      | true =>
        cases n with
        | none =>
          rw [Bool.true_and, if_neg (by decide)]
          exact I.pl j x hx
        | some m =>
          rw [if_pos (show (true && (some m).isSome) = true from rfl), mVal_put, if_pos rfl]
          rfl
    · split
      · rw [mVal_put, if_neg (fun h => hne (plK_inj.mp h))]
        exact I.pl j y hj
      · exact I.pl j y hj
  · intro j y hj hak
    have hg : mVal (gotK G.kv k x tu n) (akK j) = mVal G.kv (akK j) := by
      unfold gotK
      split
      · rw [mVal_put, if_neg akpl]
      · rfl
    show ∃ b tu', mVal (gotK G.kv k x tu n) (akK j) = _ ∧ _
    rw [hg]
    rcases set_get hj with ⟨rfl, rfl⟩ | ⟨hne, hj⟩
    · cases hh : x.s.hit tu with
      | false =>
        dsimp only at hak ⊢
        rw [hh] at hak
        exact I.ak j x hx hak
      | true =>
        dsimp only at hak
        rw [hh, if_pos rfl] at hak
        cases n <;> cases hak
    · exact I.ak j y hj hak
theorem inv_C {n : Int} (I : Inv G Z i) (hx : G.hs[k]? = some x) :
    Inv { G with gs := backG G.gs x.s.nm n, hs := G.hs.set k { x with s := x.s.drop }, kv := vDrop G.kv (plK k) } Z (i + 1) := by
  refine ⟨I.safe.drop hx, ?_, ?_, ?_, Nat.le_succ_of_le I.fln, ?_, ?_, ?_, ?_, I.gad, I.ard, Nat.le_succ_of_le I.acn, I.asc, I.top⟩
  · show (backG G.gs x.s.nm n).ho ≠ (some ("nobody" : Str))
    unfold backG
    split
    · exact fun h => nomatch h
    · exact I.nob
  · show 1 ≤ (G.hs.set k _).length
    rw [List.length_set]
    exact I.n1
  · intro y hy
    show y.2.1 < (G.hs.set k _).length
    rw [List.length_set]
    exact I.fk y hy
  · show (vDrop G.kv (plK k)).length ≤ i + 1
    unfold vDrop
    exact Nat.le_trans (List.length_filter_le _ _) (Nat.le_succ_of_le I.kvn)
  · intro y hy
    exact I.kz y (List.mem_filter.mp hy).1
  · intro j y hj
    show mVal (vDrop G.kv (plK k)) (plK j) = _
    rw [mVal_drop]
    rcases set_get hj with ⟨rfl, rfl⟩ | ⟨hne, hj⟩
    · rw [if_pos rfl]
      rfl
    · rw [if_neg (fun h => hne (plK_inj.mp h))]
      exact I.pl j y hj
  · intro j y hj hak
    show ∃ b tu', mVal (vDrop G.kv (plK k)) (akK j) = _ ∧ _
    rw [mVal_drop, if_neg akpl]
    rcases set_get hj with ⟨rfl, rfl⟩ | ⟨hne, hj⟩
    · cases hak
    · exact I.ak j y hj hak
theorem inv_D {n : Int} {la q1 q2 q3 q4 : Addr} {nm : Str} {j : Int} (I : Inv G Z i) (h : G.gr ≤ n) :
    Inv { G with gr := n, la := la, ga := G.ga ++ [.ref q1], ar := G.ar ++ [.ref q3], ac := G.ac ++ [(n, nm, j)] }
      ((q1, .tup [.int n, .ref q2]) :: (q2, .tup [.str nm, .int j]) :: (q3, .tup [.int n, .ref q4]) :: (q4, .tup [.str nm, .int j]) :: Z) (i + 1) := by
  have hZ : ∀ y ∈ Z, y ∈ (q1, HO.tup [.int n, .ref q2]) :: (q2, .tup [.str nm, .int j]) :: (q3, .tup [.int n, .ref q4]) :: (q4, .tup [.str nm, .int j]) :: Z := fun y h => .tail _ (.tail _ (.tail _ (.tail _ h)))
  refine ⟨I.safe, I.nob, I.n1, I.fk, Nat.le_succ_of_le I.fln, Nat.le_succ_of_le I.kvn, fun y hy => (I.kz y hy).mono hZ, I.pl, fun j y a b => ?_, ?_, ?_, ?_, ?_, ?_⟩
  · obtain ⟨b, tu, h1, h2⟩ := I.ak j y a b
    exact ⟨b, tu, h1, hZ _ h2⟩
  · show DLs _ (G.ga ++ _) ((G.ac ++ _).map acD)
    rw [List.map_append]
    exact ds_snoc (.row (.head _) (.inl rfl) (.cons (.int _) (.cons (.row (.tail _ (.head _)) (.inl rfl) (.cons (.str _) (.cons (.int _) .nil))) .nil))) (I.gad.mono hZ)
  · show DLs _ (G.ar ++ _) ((G.ac ++ _).map acD)
    rw [List.map_append]
    exact ds_snoc (.row (.tail _ (.tail _ (.head _))) (.inl rfl) (.cons (.int _) (.cons (.row (.tail _ (.tail _ (.tail _ (.head _)))) (.inl rfl) (.cons (.str _) (.cons (.int _) .nil))) .nil))) (I.ard.mono hZ)
  · show (G.ac ++ _).length ≤ i + 1
    have := I.acn
    rw [List.length_append, List.length_singleton]
    omega
  · show ((G.ac ++ _).map (·.1)).Pairwise (· ≤ ·)
    rw [List.map_append, List.pairwise_append]
    refine ⟨I.asc, List.pairwise_singleton _ _, fun a ha b hb => ?_⟩
    obtain ⟨y, hy, rfl⟩ := List.mem_map.mp ha
    rw [List.mem_singleton.mp hb]
    have := I.top y hy
    show y.1 ≤ n
    omega
  · intro y hy
    show y.1 ≤ n
    rcases List.mem_append.mp hy with hy | hy
    · have := I.top y hy
      omega
    · rw [List.mem_singleton.mp hy]
      exact Int.le_refl _
end Sd


set_option linter.unusedVariables false
namespace Sd
open PySem L2 LamX Mx
open C8 (Cal Met Mak pe_c pe_mk pe_mt pe_mt0 pss_cut tCut)
set_option linter.unusedSimpArgs false
set_option pp.deepTerms false
set_option pp.deepTerms.threshold 12
set_option hygiene false
local macro_rules | `(tactic| fail "nd") => `(tactic| first | assumption | decide +kernel)
local macro_rules | `(tactic| fail "ix") => `(tactic| first | exact ⟨0, rfl⟩ | exact ⟨1, rfl⟩ | exact ⟨2, rfl⟩ | exact ⟨3, rfl⟩ | exact ⟨4, rfl⟩ | exact ⟨5, rfl⟩ | exact ⟨6, rfl⟩ | exact ⟨7, rfl⟩ | exact ⟨8, rfl⟩ | exact ⟨9, rfl⟩ | exact ⟨10, rfl⟩ | exact ⟨11, rfl⟩ | exact ⟨12, rfl⟩ | exact ⟨13, rfl⟩ | exact ⟨14, rfl⟩ | exact ⟨15, rfl⟩ | exact ⟨16, rfl⟩ | exact ⟨17, rfl⟩ | exact ⟨18, rfl⟩ | assumption)
local macro_rules | `(tactic| fail "up") => `(tactic| first | exact ⟨0, rfl, rfl⟩ | exact ⟨1, rfl, rfl⟩ | exact ⟨2, rfl, rfl⟩ | exact ⟨3, rfl, rfl⟩ | exact ⟨4, rfl, rfl⟩ | exact ⟨5, rfl, rfl⟩ | exact ⟨6, rfl, rfl⟩ | exact ⟨7, rfl, rfl⟩ | exact ⟨8, rfl, rfl⟩ | exact ⟨9, rfl, rfl⟩ | exact ⟨10, rfl, rfl⟩ | exact ⟨11, rfl, rfl⟩ | exact ⟨12, rfl, rfl⟩ | exact ⟨13, rfl, rfl⟩ | exact ⟨14, rfl, rfl⟩ | exact ⟨15, rfl, rfl⟩ | exact ⟨16, rfl, rfl⟩ | assumption)
local macro_rules | `(tactic| fail "lkF") => `(tactic| first | assumption | exact fz_at 0 (by fail "nd") rfl rfl | exact fz_at 1 (by fail "nd") rfl rfl | exact fz_at 2 (by fail "nd") rfl rfl | exact fz_at 3 (by fail "nd") rfl rfl | exact fz_at 4 (by fail "nd") rfl rfl | exact fz_at 5 (by fail "nd") rfl rfl | exact fz_at 6 (by fail "nd") rfl rfl | exact fz_at 7 (by fail "nd") rfl rfl)
local macro_rules | `(tactic| fail "lkD") => `(tactic| first | assumption | exact dz_at 0 (by fail "nd") rfl rfl | exact dz_at 1 (by fail "nd") rfl rfl | exact dz_at 2 (by fail "nd") rfl rfl | exact dz_at 3 (by fail "nd") rfl rfl | exact dz_at 4 (by fail "nd") rfl rfl)
local macro_rules | `(tactic| fail "ptF") => `(tactic| first | assumption | exact fz_put 0 (by fail "nd") rfl (Nat.le_of_ble_eq_true rfl) | exact fz_put 1 (by fail "nd") rfl (Nat.le_of_ble_eq_true rfl) | exact fz_put 2 (by fail "nd") rfl (Nat.le_of_ble_eq_true rfl) | exact fz_put 3 (by fail "nd") rfl (Nat.le_of_ble_eq_true rfl) | exact fz_put 4 (by fail "nd") rfl (Nat.le_of_ble_eq_true rfl) | exact fz_put 5 (by fail "nd") rfl (Nat.le_of_ble_eq_true rfl) | exact fz_put 6 (by fail "nd") rfl (Nat.le_of_ble_eq_true rfl) | exact fz_put 7 (by fail "nd") rfl (Nat.le_of_ble_eq_true rfl) | exact fz_new (by decide +kernel) rfl)
local macro_rules | `(tactic| fail "ptD") => `(tactic| first | assumption | exact dz_put 0 (by fail "nd") rfl (Nat.le_of_ble_eq_true rfl) | exact dz_put 1 (by fail "nd") rfl (Nat.le_of_ble_eq_true rfl) | exact dz_put 2 (by fail "nd") rfl (Nat.le_of_ble_eq_true rfl) | exact dz_put 3 (by fail "nd") rfl (Nat.le_of_ble_eq_true rfl) | exact dz_put 4 (by fail "nd") rfl (Nat.le_of_ble_eq_true rfl))
local macro_rules | `(tactic| fail "sz") => `(tactic| first | assumption | exact (Nat.le_of_ble_eq_true rfl) | omega | decide)
local macro_rules | `(tactic| fail "sd") => `(tactic| first | rfl | assumption | decide | omega | (dsimp only; first | decide | omega) | exact .inr ⟨by decide, by decide⟩ | exact .inl ⟨by decide, by decide⟩ | exact ⟨by omega, by omega⟩ | exact .inl ⟨by omega, by omega⟩ | exact .inr ⟨by omega, by omega⟩ | exact ⟨by omega, by omega, by omega⟩)
local macro_rules | `(tactic| fail "cl") => `(tactic| (clear hH; dsimp only [List.set, List.cons_append, List.nil_append, List.append] at hL))
local macro_rules | `(tactic| fail "gn") => `(tactic| (intro p hp; generalize hH : upd H p _ = H; replace hL := Led.newH hL hp hH; clear hH hp))
local macro_rules | `(tactic| fail "gup") => `(tactic| (generalize hH : upd H _ _ = H; replace hL := Led.upU hL (by fail "up") hH; fail "cl"))
local macro_rules | `(tactic| fail "gmk") => `(tactic| (intro x dx hx hd ne; generalize hH : upd (upd H dx _) x _ = H; replace hL := Led.made hL hx hd ne hH; clear hH hx hd ne))
local macro_rules | `(tactic| fail "v") => `(tactic| refine ⟨_, rfl, ?_⟩)
local macro_rules | `(tactic| fail "i2") => `(tactic| refine ⟨_, _, rfl, rfl, ?_⟩)
local macro_rules | `(tactic| fail "go1") => `(tactic| first
  | refine ⟨_, rfl, ?_⟩
  | refine ⟨_, _, rfl, rfl, ?_⟩
  | refine ⟨_, _, rfl, ?_⟩
  | refine iteT ?_
  | refine iteF ?_
  | refine k_fld hL (by fail "ix") (by assumption) (by assumption) (by fail "lkF") ?_
  | refine k_dgetS hL (by fail "ix") (by fail "lkD") ?_
  | refine k_dgetI hL (by fail "ix") (by assumption) ?_
  | refine k_ixL hL (by fail "ix") (by first | rfl | assumption) ?_
  | refine k_ixT hL (by fail "ix") (by first | rfl | assumption) ?_
  | refine k_tyL hL (by fail "ix") ?_
  | refine k_isd hL (by fail "ix") ?_
  | (refine And.intro (by fail "sz") ?_; fail "gn")
  | refine And.intro (by fail "sd") ?_
  | fail "gn"
  | refine k_meth hL (by fail "ix") (by first | assumption | exact fz_no (by decide +kernel)) ?_
  | refine k_gtup hL (by fail "ix") rfl ?_
  | (refine k_popI hL (by fail "ix") (by assumption) ?_; fail "gup")
  | (refine k_listD hL (by fail "ix") ?_; fail "gn")
  | (refine ⟨_, _, _, _, rfl, rfl, hL.at (by fail "ix"), rfl, ?_⟩; fail "gup")
  | (refine ⟨_, _, _, rfl, rfl, hL.at (by fail "ix"), (by fail "sz"), ?_⟩; fail "gup")
  | (refine ⟨_, _, _, _, rfl, hL.at (by fail "ix"), by assumption, by assumption, Nat.lt_of_le_of_lt fz_len (by decide), ?_⟩; generalize hH : upd H _ _ = H; replace hL := Led.upF hL (by fail "up") (by fail "ptF") hH; fail "cl")
  | (refine ⟨_, _, hL.at (by fail "ix"), Nat.lt_of_le_of_lt fz_len (by decide), ?_⟩; generalize hH : upd H _ _ = H; replace hL := Led.upF hL (by fail "up") (by fail "ptF") hH; fail "cl")
  | (refine k_dputS hL (by fail "ix") (Nat.lt_of_le_of_lt dz_len (by decide)) (by fail "ptD") (by fail "up") ?_; clear hL; intro H hL; dsimp only [List.set, List.cons_append, List.nil_append, List.append] at hL)
  | refine k_lenL2 hL (by fail "ix") ?_
  | refine k_lenT2 hL (by fail "ix") ?_
  | refine .inl ⟨_, rfl, ?_⟩
  | refine .inr ⟨_, rfl, ?_⟩)
local macro_rules | `(tactic| fail "go") => `(tactic| repeat fail "go1")
local macro_rules | `(tactic| fail "pm") => `(tactic| (refine Led.le hL (fun a_ => ?_); simp only [cnt_nil, cnt_cons, cnt_app, List.map_append, List.map_cons, List.map_nil, List.flatMap_append, List.flatMap_cons, List.flatMap_nil, List.append_assoc, List.cons_append, List.nil_append]; omega))

/-! ### the step -/
def ShL (G : LwS) (σ : L2.St) : Prop := σ[1]? = some (some (.ref G.d)) ∧ σ[2]? = some (some (.ref G.g)) ∧ σ[3]? = some (some (.ref G.u)) ∧ σ[4]? = some (some (.int G.T)) ∧ σ[5]? = some (some (.ref G.hl)) ∧ σ[7]? = some (some (.ref G.ud)) ∧ σ[8]? = some (some (.int G.gr)) ∧ σ[9]? = some (some (.ref G.la)) ∧ σ[10]? = some (some (.ref G.he)) ∧ σ[11]? = some (some (.ref G.ls)) ∧ σ.length = 34
theorem cnt_fls {fl : List (Addr × Fl)} (f : Nat) (a : Addr × HO) : cnt a (flsL (fl.eraseIdx f)) ≤ cnt a (flsL fl) := by
  induction fl generalizing f with
  | nil => exact Nat.le_refl _
  | cons y ys ih =>
    cases f with
    | zero =>
      rw [List.eraseIdx_cons_zero]
      unfold flsL
      rw [List.map_cons, cnt_cons]
      omega
    | succ f =>
      rw [List.eraseIdx_cons_succ]
      have := ih f
      unfold flsL at this ⊢
      rw [List.map_cons, List.map_cons, cnt_cons, cnt_cons]
      omega
theorem Inv.la {G : LwS} {Z : Lg} {i : Nat} (I : Inv G Z i) (la : Addr) : Inv { G with la := la } Z i :=
  ⟨I.safe, I.nob, I.n1, I.fk, I.fln, I.kvn, I.kz, I.pl, I.ak, I.gad, I.ard, I.acn, I.asc, I.top⟩
def tBr (P : Program) (w : World) (C : Cl4) : TS := fun D σ H => ∃ (G : LwS) (Z L : Lg) (a b c : Int) (i k : Nat) (x : Ho) (so ln : Int),
  ShL G σ ∧ σ[12]? = some (some (.int i)) ∧ σ[13]? = some (some (.int k)) ∧ σ[14]? = some (some (.ref x.a)) ∧ σ[15]? = some (some (.int so)) ∧ σ[16]? = some (some (.int ln)) ∧
  G.hs[k]? = some x ∧ 0 ≤ so ∧ so < 6 ∧ 1 ≤ ln ∧ ln ≤ 40 ∧ i < 100 ∧ Inv G Z i ∧ Led H (LwL P w C G a b c (Z ++ L)) ∧
  ∀ (G' : LwS) (Z' : Lg) (a b c : Int) σ' H', ShL G' σ' → Inv G' Z' (i + 1) → Led H' (LwL P w C G' a b c (Z' ++ L)) → D.nx σ' H'
section
variable {P : Program} {w : World} {K : PySem.W.Frag} {mg : Str → Option Value} {base : Heap} {C : Cl4} {f cL : Addr} {A : Around} {outer : List Env} {s0 : Shared} {H0 : Hp} {E : XK}
theorem st_br (hr : Room 20 (LX P w K mg base f (.ref cL) A outer s0 H0 E).A) (T : TxtLw mg) (XH : TxtCl K C.H nmH) (c_Holder_holds : Met P w K mg base 2 C.H "holds" (spHHolds C.H C.C) [])
    (bA : PSs (LX P w K mg base f (.ref cL) A outer s0 H0 E) brA (tA P w C)) (bB : PSs (LX P w K mg base f (.ref cL) A outer s0 H0 E) brB (tB P w C))
    (bC : PSs (LX P w K mg base f (.ref cL) A outer s0 H0 E) brC (tC4 P w C)) (bD : PSs (LX P w K mg base f (.ref cL) A outer s0 H0 E) brD (tD C)) :
    PS (LX P w K mg base f (.ref cL) A outer s0 H0 E) (nth stepB 2) (tBr P w C) := by
  refine ps_imp (t := _) (ps_if (pt_cmpR op_lt (pv 15) pe_int (nomark _))
  bA
  (pss_one (ps_if (PW.pt (pw_and (pt_cmpR op_lt (pv 15) pe_int (nomark _)) (pw_and1 (pt_cmpR (op_neNil hr.units) (pv 7) (pe_lst pa_nil) (nomark _)))))
  bB
  (pss_one (ps_if (PW.pt (pw_and (pt_cmpR op_eq (pv 15) pe_int (nomark _)) (pw_and1 (pt_truth (pe_mt c_Holder_holds hr (by decide) (pv 14) (pa_cons (pv 4) pa_nil)) (by intro _; rfl)))))
  bC
  (pss_one (ps_if (PW.pt (pw_and (pt_cmpR op_eq (pv 15) pe_int (nomark _)) (pw_and1 (pt_cmpR op_notN (pe_fld (pv 14) rfl) pe_non (nomark _)))))
  bD
  pss_nil))))))) ?_
  rintro D σ H ⟨G, Z, L, a, b, c, i, k, x, so, ln, sh, hs12, hs13, hs14, hs15, hs16, hx, so0, so1, ln1, ln2, hi, I, hL, kk⟩
  have shh := sh
  obtain ⟨hs1, hs2, hs3, hs4, hs5, hs7, hs8, hs9, hs10, hs11, hsl⟩ := shh
  match σ, hs1, hs2, hs3, hs4, hs5, hs7, hs8, hs9, hs10, hs11, hs12, hs13, hs14, hs15, hs16, hsl with
  | v0 :: v1 :: v2 :: v3 :: v4 :: v5 :: v6 :: v7 :: v8 :: v9 :: v10 :: v11 :: v12 :: v13 :: v14 :: v15 :: v16 :: v17 :: v18 :: v19 :: v20 :: v21 :: v22 :: v23 :: v24 :: v25 :: v26 :: v27 :: v28 :: v29 :: v30 :: v31 :: v32 :: v33 :: [], hs1, hs2, hs3, hs4, hs5, hs7, hs8, hs9, hs10, hs11, hs12, hs13, hs14, hs15, hs16, _ =>
  cases hs1
  cases hs2
  cases hs3
  cases hs4
  cases hs5
  cases hs7
  cases hs8
  cases hs9
  cases hs10
  cases hs11
  cases hs12
  cases hs13
  cases hs14
  cases hs15
  cases hs16
  have hz1 : 1000 < sizeLine := by decide
  have c1 := XH.cl
  have f3 := XH.n "number" (by decide +kernel)
  fail "go"
  have hfl : (flV G.fl).length = G.fl.length := by unfold flV; rw [List.length_map]
  have hfn := I.fln
  have hkn := I.kvn
  have hxm := List.mem_of_getElem? hx
  obtain ⟨xs1, xc1⟩ := I.safe.hok x hxm
  have hkk := (List.getElem?_eq_some_iff.mp hx).1
  have mx0 : ∀ y ∈ hoL C x, y ∈ LwL P w C G a b c (Z ++ L) := fun y hy => by
    have : y ∈ hosL C G.hs := List.mem_flatMap.mpr ⟨x, hxm, hy⟩
    unfold LwL
    simp [this]
  have mx1 := mx0 _ (.head _)
  have mx2 := mx0 _ (.tail _ (.head _))
  have mx3 := mx0 _ (.tail _ (.tail _ (.head _)))
  have hend : ∀ H', Led H' (LwL P w C G a b c (Z ++ L)) → D.nx (v0 :: some (.ref G.d) :: some (.ref G.g) :: some (.ref G.u) :: some (.int G.T) :: some (.ref G.hl) :: v6 :: some (.ref G.ud) :: some (.int G.gr) :: some (.ref G.la) :: some (.ref G.he) :: some (.ref G.ls) :: some (.int i) :: some (.int k) :: some (.ref x.a) :: some (.int so) :: some (.int ln) :: v17 :: v18 :: v19 :: v20 :: v21 :: v22 :: v23 :: v24 :: v25 :: v26 :: v27 :: v28 :: v29 :: v30 :: v31 :: v32 :: v33 :: []) H' := fun H' hL => kk G Z a b c _ H' sh I.next hL
  have h4 : ∀ H, Led H (LwL P w C G a b c (Z ++ L)) → (tIfS (tAnd (tTest (tOp rEq (tVar 15) (tC (.int 5)))) (tTest (tOp (fun x y H Q => y = .non ∧ Q (.bl (!decide (x = .non))) H) (tFld K (tVar 14) "number") (tC .non)))) (tD C) tNext) D (v0 :: some (.ref G.d) :: some (.ref G.g) :: some (.ref G.u) :: some (.int G.T) :: some (.ref G.hl) :: v6 :: some (.ref G.ud) :: some (.int G.gr) :: some (.ref G.la) :: some (.ref G.he) :: some (.ref G.ls) :: some (.int i) :: some (.int k) :: some (.ref x.a) :: some (.int so) :: some (.int ln) :: v17 :: v18 :: v19 :: v20 :: v21 :: v22 :: v23 :: v24 :: v25 :: v26 :: v27 :: v28 :: v29 :: v30 :: v31 :: v32 :: v33 :: []) H := fun H hL => by
    refine (show tIfS _ _ _ _ _ _ from ?_)
    fail "go"
    refine ite_d (fun h5 => ?_) fun h5 => hend H hL
    fail "go"
    refine k_fld hL (at_mem mx1) c1 f3 (fz_at 2 (by decide +kernel) rfl rfl) ?_
    fail "go"
    cases hnu : x.s.nu with
    | none =>
      exact hend H hL
    | some n =>
      refine (show tD C D _ H from ?_)
      have hg1 := I.gad.len
      have hg2 := I.ard.len
      rw [List.length_map] at hg1 hg2
      have hg3 := I.acn
      have hB : Led H (guO C.U G.u G.du G.al G.gr :: (G.al, .lst G.ga) :: (G.la, .lst G.ar) :: hoO C.H x.a x.d x.c.a x.s :: ((G.d, dD a b c) :: grO C.G G.g G.dg G.gc.a G.gs :: (ckL C.C G.gc ++ ((G.hl, .lst (hosV G.hs)) :: (G.ud, .lst (flV G.fl)) :: (G.he, mxO P w G.he G.kv) :: lsO G.ls G.gs :: (ckL C.C x.c ++ (hosL C (G.hs.eraseIdx k) ++ (flsL G.fl ++ (Z ++ L)))))))) := hL.le (fun a_ => by
        have := cnt_hos (C := C) hx a_
        simp only [LwL, hoL, cnt_cons, cnt_app] at this ⊢
        omega)
      clear hL
      refine ⟨G.u, G.du, G.al, G.la, x, G.gr, n, i, G.ga, G.ar, _, rfl, rfl, rfl, rfl, rfl, rfl, hnu, by omega, by omega, hB, fun hn la' v23 H' hL => ?_, fun hn la' q1 q2 q3 q4 v23 H' hL => ?_⟩
      · refine kk { G with la := la' } Z a b c _ H' ?_ (I.next.la la') (hL.le (fun a_ => ?_))
        · exact ⟨rfl, rfl, rfl, rfl, rfl, rfl, rfl, rfl, rfl, rfl, rfl⟩
        · have := cnt_hos (C := C) hx a_
          simp only [LwL, hoL, cnt_cons, cnt_app] at this ⊢
          omega
      · have I' := inv_D (la := la') (q1 := q1) (q2 := q2) (q3 := q3) (q4 := q4) (nm := x.s.nm) (j := i) I hn
        refine kk _ _ a b c _ H' ?_ I' (hL.le (fun a_ => ?_))
        · exact ⟨rfl, rfl, rfl, rfl, rfl, rfl, rfl, rfl, rfl, rfl, rfl⟩
        · have := cnt_hos (C := C) hx a_
          simp only [LwL, hoL, cnt_cons, cnt_app] at this ⊢
          omega
  have h3 : ∀ H, Led H (LwL P w C G a b c (Z ++ L)) → (tIfS (tAnd (tTest (tOp rEq (tVar 15) (tC (.int 4)))) (fun σ H Q => tMeth C.H "holds" (spHHolds C.H C.C) [] C8.E0 (tVar 14) (tCons (tVar 4) tNil) σ H fun x H' => ∃ k, TruV K x H' k ∧ Q k H')) (tC4 P w C) (tIfS (tAnd (tTest (tOp rEq (tVar 15) (tC (.int 5)))) (tTest (tOp (fun x y H Q => y = .non ∧ Q (.bl (!decide (x = .non))) H) (tFld K (tVar 14) "number") (tC .non)))) (tD C) tNext)) D (v0 :: some (.ref G.d) :: some (.ref G.g) :: some (.ref G.u) :: some (.int G.T) :: some (.ref G.hl) :: v6 :: some (.ref G.ud) :: some (.int G.gr) :: some (.ref G.la) :: some (.ref G.he) :: some (.ref G.ls) :: some (.int i) :: some (.int k) :: some (.ref x.a) :: some (.int so) :: some (.int ln) :: v17 :: v18 :: v19 :: v20 :: v21 :: v22 :: v23 :: v24 :: v25 :: v26 :: v27 :: v28 :: v29 :: v30 :: v31 :: v32 :: v33 :: []) H := fun H hL => by
    refine (show tIfS _ _ _ _ _ _ from ?_)
    fail "go"
    refine ite_d (fun h5 => ?_) fun h5 => h4 H hL
    fail "go"
    refine k_meth hL (at_mem mx1) (fz_no (by decide +kernel)) ?_
    fail "go"
    dsimp only [tNil, tCons, tC, List.cons_append, List.nil_append]
    refine ⟨x.a, x.d, x.c, x.s, G.T, _, rfl, hL, mx1, mx2, mx3, xc1, xs1, fun H hL => ?_⟩
    fail "go"
    cases hh : x.s.holds (x.c.at G.T) with
    | false =>
      refine iteF ?_
      exact h4 H hL
    | true =>
      refine iteT ?_
      have hnu : x.s.nu.isSome = true := by
        unfold HoS.holds at hh
        rw [Bool.and_eq_true] at hh
        exact hh.1
      have hpl := I.pl k x hx
      rw [if_pos hnu] at hpl
      obtain ⟨n, hnu⟩ := Option.isSome_iff_exists.mp hnu
      have hB : Led H (grO C.G G.g G.dg G.gc.a G.gs :: hoO C.H x.a x.d x.c.a x.s :: lsO G.ls G.gs :: (G.he, mxO P w G.he G.kv) :: (ckL C.C x.c ++ ((G.d, dD a b c) :: (ckL C.C G.gc ++ (guO C.U G.u G.du G.al G.gr :: (G.al, .lst G.ga) :: (G.hl, .lst (hosV G.hs)) :: (G.ud, .lst (flV G.fl)) :: (G.la, .lst G.ar) :: (hosL C (G.hs.eraseIdx k) ++ (flsL G.fl ++ (Z ++ L)))))))) := hL.le (fun a_ => by
        have := cnt_hos (C := C) hx a_
        simp only [LwL, hoL, cnt_cons, cnt_app] at this ⊢
        omega)
      clear hL
      refine ⟨G.g, G.dg, G.ls, G.he, G.gc, G.gs, x, G.T, n, _, k, G.kv, Z, _, rfl, rfl, rfl, rfl, rfl, rfl, rfl, xc1, hnu, hpl, I.nob, by omega, I.kz, fun y h => by simp [h], hB, fun v19 v22 H' hL => ?_⟩
      have I' := inv_C (n := n) I hx
      refine kk _ _ a b c _ H' ?_ I' (hL.le (fun a_ => ?_))
      · exact ⟨rfl, rfl, rfl, rfl, rfl, rfl, rfl, rfl, rfl, rfl, rfl⟩
      · have h1 := cnt_hos_set (C := C) (y := { x with s := x.s.drop }) hx a_
        simp only [LwL, hosV_set hx, hoL, cnt_cons, cnt_app, cnt_nil] at h1 ⊢
        omega
  refine ite_d (fun hA => ?_) fun hA => ?_
  · have hB : Led H ((G.d, dD a b c) :: grO C.G G.g G.dg G.gc.a G.gs :: hoO C.H x.a x.d x.c.a x.s :: lsO G.ls G.gs :: (G.ud, .lst (flV G.fl)) :: (G.he, mxO P w G.he G.kv) :: (ckL C.C G.gc ++ (ckL C.C x.c ++ (guO C.U G.u G.du G.al G.gr :: (G.al, .lst G.ga) :: (G.hl, .lst (hosV G.hs)) :: (G.la, .lst G.ar) :: (hosL C (G.hs.eraseIdx k) ++ (flsL G.fl ++ (Z ++ L))))))) := hL.le (fun a_ => by
      have := cnt_hos (C := C) hx a_
      simp only [LwL, hoL, cnt_cons, cnt_app] at this ⊢
      omega)
    clear hL
    refine ⟨G.d, G.g, G.dg, G.ls, G.ud, G.he, G.gc, G.gs, x, a, b, c, G.T, ln, k, flV G.fl, G.kv, Z, _, rfl, rfl, rfl, rfl, rfl, rfl, rfl, rfl, rfl, rfl, I.safe.gco, xc1, I.safe.gok, by omega, by omega, by omega, by omega, I.kz, fun y h => by simp [h], hB, fun r a b c n gs' q e1 e2 v17 v18 v19 H' hr0 hr1 ha hL => ?_⟩
    clear hB
    have I' := inv_A (q := q) (e1 := e1) (e2 := e2) I hx hr0 ha
    refine kk _ _ a b c _ H' ?_ I' (hL.le (fun a_ => ?_))
    · exact ⟨rfl, rfl, rfl, rfl, rfl, rfl, rfl, rfl, rfl, rfl, rfl⟩
    have h1 := cnt_hos_set (C := C) (y := { x with s := x.s.begin ln (x.c.at G.T) }) hx a_
    simp only [LwL, hosV_set hx, flsL, flV, flO, List.map_append, List.map_cons, List.map_nil, hoL, cnt_cons, cnt_app, cnt_nil, List.cons_append] at h1 ⊢
    omega
  · refine (show tIfS _ _ _ _ _ _ from ?_)
    fail "go"
    refine ite_d (fun hB => ?_) fun hB => h3 H hL
    have mud : (G.ud, HO.lst (flV G.fl)) ∈ LwL P w C G a b c (Z ++ L) := by
      unfold LwL
      simp
    fail "go"
    refine ⟨G.ud, p, flV G.fl, rfl, rfl, hL.mem (.tail _ mud), hL.at ⟨0, rfl⟩, ?_⟩
    fail "go"
    cases hfe : (flV G.fl).isEmpty with
    | true =>
      refine iteF ?_
      exact h3 H hL.tail
    | false =>
      refine iteT ?_
      have hne : G.fl ≠ [] := fun h => by
        unfold flV at hfe
        rw [h] at hfe
        cases hfe
      have hB : Led H ((G.d, dD a b c) :: (G.ud, .lst (flV G.fl)) :: (G.hl, .lst (hosV G.hs)) :: (G.he, mxO P w G.he G.kv) :: (hosL C G.hs ++ (flsL G.fl ++ (grO C.G G.g G.dg G.gc.a G.gs :: (ckL C.C G.gc ++ (guO C.U G.u G.du G.al G.gr :: (G.al, .lst G.ga) :: (G.la, .lst G.ar) :: lsO G.ls G.gs :: (Z ++ L))))))) := hL.le (fun a_ => by
        simp only [LwL, cnt_cons, cnt_app]
        omega)
      clear hL
      refine ⟨G.d, G.ud, G.hl, G.he, a, b, c, G.fl, G.hs, G.kv, Z, _, rfl, rfl, rfl, rfl, rfl, hne, by omega, I.safe.n3, I.fk, by omega, I.kz, fun y h => by simp [h], I.ak, hB, fun f k' q tu n x' a b c v17 v19 v20 v21 H' hf hx' hL => ?_⟩
      have I' := inv_B I hf hx'
      refine kk _ _ a b c _ H' ?_ I' (hL.le (fun a_ => ?_))
      · exact ⟨rfl, rfl, rfl, rfl, rfl, rfl, rfl, rfl, rfl, rfl, rfl⟩
      · have h1 := cnt_fls (fl := G.fl) f a_
        simp only [LwL, hosV_set hx', cnt_cons, cnt_app] at h1 ⊢
        omega
end
end Sd


set_option linter.unusedVariables false
namespace Sd
open PySem L2 LamX Mx
open C8 (Cal Met Mak pe_c pe_mk pe_mt pe_mt0 pss_cut tCut)
set_option linter.unusedSimpArgs false
set_option pp.deepTerms false
set_option pp.deepTerms.threshold 12
set_option hygiene false
local macro_rules | `(tactic| fail "nd") => `(tactic| first | assumption | decide +kernel)
local macro_rules | `(tactic| fail "ix") => `(tactic| first | exact ⟨0, rfl⟩ | exact ⟨1, rfl⟩ | exact ⟨2, rfl⟩ | exact ⟨3, rfl⟩ | exact ⟨4, rfl⟩ | exact ⟨5, rfl⟩ | exact ⟨6, rfl⟩ | exact ⟨7, rfl⟩ | exact ⟨8, rfl⟩ | exact ⟨9, rfl⟩ | exact ⟨10, rfl⟩ | exact ⟨11, rfl⟩ | exact ⟨12, rfl⟩ | exact ⟨13, rfl⟩ | exact ⟨14, rfl⟩ | exact ⟨15, rfl⟩ | exact ⟨16, rfl⟩ | exact ⟨17, rfl⟩ | exact ⟨18, rfl⟩ | assumption)
local macro_rules | `(tactic| fail "up") => `(tactic| first | exact ⟨0, rfl, rfl⟩ | exact ⟨1, rfl, rfl⟩ | exact ⟨2, rfl, rfl⟩ | exact ⟨3, rfl, rfl⟩ | exact ⟨4, rfl, rfl⟩ | exact ⟨5, rfl, rfl⟩ | exact ⟨6, rfl, rfl⟩ | exact ⟨7, rfl, rfl⟩ | exact ⟨8, rfl, rfl⟩ | exact ⟨9, rfl, rfl⟩ | exact ⟨10, rfl, rfl⟩ | exact ⟨11, rfl, rfl⟩ | exact ⟨12, rfl, rfl⟩ | exact ⟨13, rfl, rfl⟩ | exact ⟨14, rfl, rfl⟩ | exact ⟨15, rfl, rfl⟩ | exact ⟨16, rfl, rfl⟩ | assumption)
local macro_rules | `(tactic| fail "lkF") => `(tactic| first | assumption | exact fz_at 0 (by fail "nd") rfl rfl | exact fz_at 1 (by fail "nd") rfl rfl | exact fz_at 2 (by fail "nd") rfl rfl | exact fz_at 3 (by fail "nd") rfl rfl | exact fz_at 4 (by fail "nd") rfl rfl | exact fz_at 5 (by fail "nd") rfl rfl | exact fz_at 6 (by fail "nd") rfl rfl | exact fz_at 7 (by fail "nd") rfl rfl)
local macro_rules | `(tactic| fail "lkD") => `(tactic| first | assumption | exact dz_at 0 (by fail "nd") rfl rfl | exact dz_at 1 (by fail "nd") rfl rfl | exact dz_at 2 (by fail "nd") rfl rfl | exact dz_at 3 (by fail "nd") rfl rfl | exact dz_at 4 (by fail "nd") rfl rfl)
local macro_rules | `(tactic| fail "ptF") => `(tactic| first | assumption | exact fz_put 0 (by fail "nd") rfl (Nat.le_of_ble_eq_true rfl) | exact fz_put 1 (by fail "nd") rfl (Nat.le_of_ble_eq_true rfl) | exact fz_put 2 (by fail "nd") rfl (Nat.le_of_ble_eq_true rfl) | exact fz_put 3 (by fail "nd") rfl (Nat.le_of_ble_eq_true rfl) | exact fz_put 4 (by fail "nd") rfl (Nat.le_of_ble_eq_true rfl) | exact fz_put 5 (by fail "nd") rfl (Nat.le_of_ble_eq_true rfl) | exact fz_put 6 (by fail "nd") rfl (Nat.le_of_ble_eq_true rfl) | exact fz_put 7 (by fail "nd") rfl (Nat.le_of_ble_eq_true rfl) | exact fz_new (by decide +kernel) rfl)
local macro_rules | `(tactic| fail "ptD") => `(tactic| first | assumption | exact dz_put 0 (by fail "nd") rfl (Nat.le_of_ble_eq_true rfl) | exact dz_put 1 (by fail "nd") rfl (Nat.le_of_ble_eq_true rfl) | exact dz_put 2 (by fail "nd") rfl (Nat.le_of_ble_eq_true rfl) | exact dz_put 3 (by fail "nd") rfl (Nat.le_of_ble_eq_true rfl) | exact dz_put 4 (by fail "nd") rfl (Nat.le_of_ble_eq_true rfl))
local macro_rules | `(tactic| fail "sz") => `(tactic| first | assumption | exact (Nat.le_of_ble_eq_true rfl) | omega | decide)
local macro_rules | `(tactic| fail "sd") => `(tactic| first | rfl | assumption | decide | omega | (dsimp only; first | decide | omega) | exact .inr ⟨by decide, by decide⟩ | exact .inl ⟨by decide, by decide⟩ | exact ⟨by omega, by omega⟩ | exact .inl ⟨by omega, by omega⟩ | exact .inr ⟨by omega, by omega⟩ | exact ⟨by omega, by omega, by omega⟩)
local macro_rules | `(tactic| fail "cl") => `(tactic| (clear hH; dsimp only [List.set, List.cons_append, List.nil_append, List.append] at hL))
local macro_rules | `(tactic| fail "gn") => `(tactic| (intro p hp; generalize hH : upd H p _ = H; replace hL := Led.newH hL hp hH; clear hH hp))
local macro_rules | `(tactic| fail "gup") => `(tactic| (generalize hH : upd H _ _ = H; replace hL := Led.upU hL (by fail "up") hH; fail "cl"))
local macro_rules | `(tactic| fail "gmk") => `(tactic| (intro x dx hx hd ne; generalize hH : upd (upd H dx _) x _ = H; replace hL := Led.made hL hx hd ne hH; clear hH hx hd ne))
local macro_rules | `(tactic| fail "v") => `(tactic| refine ⟨_, rfl, ?_⟩)
local macro_rules | `(tactic| fail "i2") => `(tactic| refine ⟨_, _, rfl, rfl, ?_⟩)
local macro_rules | `(tactic| fail "go1") => `(tactic| first
  | refine ⟨_, rfl, ?_⟩
  | refine ⟨_, _, rfl, rfl, ?_⟩
  | refine ⟨_, _, rfl, ?_⟩
  | refine iteT ?_
  | refine iteF ?_
  | refine k_fld hL (by fail "ix") (by assumption) (by assumption) (by fail "lkF") ?_
  | refine k_dgetS hL (by fail "ix") (by fail "lkD") ?_
  | refine k_dgetI hL (by fail "ix") (by assumption) ?_
  | refine k_ixL hL (by fail "ix") (by first | rfl | assumption) ?_
  | refine k_ixT hL (by fail "ix") (by first | rfl | assumption) ?_
  | refine k_tyL hL (by fail "ix") ?_
  | refine k_isd hL (by fail "ix") ?_
  | (refine And.intro (by fail "sz") ?_; fail "gn")
  | refine And.intro (by fail "sd") ?_
  | fail "gn"
  | refine k_meth hL (by fail "ix") (by first | assumption | exact fz_no (by decide +kernel)) ?_
  | refine k_gtup hL (by fail "ix") rfl ?_
  | (refine k_popI hL (by fail "ix") (by assumption) ?_; fail "gup")
  | (refine k_listD hL (by fail "ix") ?_; fail "gn")
  | (refine ⟨_, _, _, _, rfl, rfl, hL.at (by fail "ix"), rfl, ?_⟩; fail "gup")
  | (refine ⟨_, _, _, rfl, rfl, hL.at (by fail "ix"), (by fail "sz"), ?_⟩; fail "gup")
  | (refine ⟨_, _, _, _, rfl, hL.at (by fail "ix"), by assumption, by assumption, Nat.lt_of_le_of_lt fz_len (by decide), ?_⟩; generalize hH : upd H _ _ = H; replace hL := Led.upF hL (by fail "up") (by fail "ptF") hH; fail "cl")
  | (refine ⟨_, _, hL.at (by fail "ix"), Nat.lt_of_le_of_lt fz_len (by decide), ?_⟩; generalize hH : upd H _ _ = H; replace hL := Led.upF hL (by fail "up") (by fail "ptF") hH; fail "cl")
  | (refine k_dputS hL (by fail "ix") (Nat.lt_of_le_of_lt dz_len (by decide)) (by fail "ptD") (by fail "up") ?_; clear hL; intro H hL; dsimp only [List.set, List.cons_append, List.nil_append, List.append] at hL)
  | refine k_lenL2 hL (by fail "ix") ?_
  | refine k_lenT2 hL (by fail "ix") ?_
  | refine .inl ⟨_, rfl, ?_⟩
  | refine .inr ⟨_, rfl, ?_⟩)
local macro_rules | `(tactic| fail "go") => `(tactic| repeat fail "go1")
local macro_rules | `(tactic| fail "pm") => `(tactic| (refine Led.le hL (fun a_ => ?_); simp only [cnt_nil, cnt_cons, cnt_app, List.map_append, List.map_cons, List.map_nil, List.flatMap_append, List.flatMap_cons, List.flatMap_nil, List.append_assoc, List.cons_append, List.nil_append]; omega))

def tStep (P : Program) (w : World) (C : Cl4) : TS := fun D σ H => ∃ (G : LwS) (Z L : Lg) (a b c : Int) (i : Nat),
  ShL G σ ∧ σ[12]? = some (some (.int i)) ∧ i < 100 ∧ Inv G Z i ∧ Led H (LwL P w C G a b c (Z ++ L)) ∧
  ∀ (G' : LwS) (Z' : Lg) (a b c : Int) σ' H', ShL G' σ' → Inv G' Z' (i + 1) → Led H' (LwL P w C G' a b c (Z' ++ L)) → D.nx σ' H'
section
variable {P : Program} {w : World} {K : PySem.W.Frag} {mg : Str → Option Value} {base : Heap} {C : Cl4} {f cL : Addr} {A : Around} {outer : List Env} {s0 : Shared} {H0 : Hp} {E : XK}
theorem st_step (b0 : PS (LX P w K mg base f (.ref cL) A outer s0 H0 E) (nth stepB 0) tS0) (b1 : PS (LX P w K mg base f (.ref cL) A outer s0 H0 E) (nth stepB 1) tS1)
    (b2 : PS (LX P w K mg base f (.ref cL) A outer s0 H0 E) (nth stepB 2) (tBr P w C)) (b3 : PS (LX P w K mg base f (.ref cL) A outer s0 H0 E) (nth stepB 3) (tHeld P w C)) (b4 : PS (LX P w K mg base f (.ref cL) A outer s0 H0 E) (nth stepB 4) (tSafe C)) :
    PSs (LX P w K mg base f (.ref cL) A outer s0 H0 E) stepB (tStep P w C) := by
  refine pss_imp (t := _) (pss_cons b0 (pss_cons b1 (pss_cons b2 (pss_cons b3 (pss_one b4))))) ?_
  rintro D σ H ⟨G, Z, L, a, b, c, i, sh, hs12, hi, I, hL, kk⟩
  obtain ⟨hs1, hs2, hs3, hs4, hs5, hs7, hs8, hs9, hs10, hs11, hsl⟩ := sh
  match σ, hs1, hs2, hs3, hs4, hs5, hs7, hs8, hs9, hs10, hs11, hs12, hsl with
  | v0 :: v1 :: v2 :: v3 :: v4 :: v5 :: v6 :: v7 :: v8 :: v9 :: v10 :: v11 :: v12 :: v13 :: v14 :: v15 :: v16 :: v17 :: v18 :: v19 :: v20 :: v21 :: v22 :: v23 :: v24 :: v25 :: v26 :: v27 :: v28 :: v29 :: v30 :: v31 :: v32 :: v33 :: [], hs1, hs2, hs3, hs4, hs5, hs7, hs8, hs9, hs10, hs11, hs12, _ =>
  cases hs1
  cases hs2
  cases hs3
  cases hs4
  cases hs5
  cases hs7
  cases hs8
  cases hs9
  cases hs10
  cases hs11
  cases hs12
  have hhl : (hosV G.hs).length = G.hs.length := by unfold hosV; rw [List.length_map]
  have hn1 := I.n1
  have hn3 := I.safe.n3
  refine (show tS0 _ _ _ from ?_)
  have hB : Led H ((G.d, dD a b c) :: (G.hl, .lst (hosV G.hs)) :: (grO C.G G.g G.dg G.gc.a G.gs :: (ckL C.C G.gc ++ (guO C.U G.u G.du G.al G.gr :: (G.al, .lst G.ga) :: (G.ud, .lst (flV G.fl)) :: (G.la, .lst G.ar) :: (G.he, mxO P w G.he G.kv) :: lsO G.ls G.gs :: (hosL C G.hs ++ (flsL G.fl ++ (Z ++ L))))))) := hL.le (fun a_ => by
    simp only [LwL, cnt_cons, cnt_app]
    omega)
  clear hL
  refine ⟨G.d, G.hl, a, b, c, G.T, hosV G.hs, _, rfl, rfl, rfl, rfl, by omega, by omega, hB, fun r p a b c H hr0 hr1 hp hL => ?_⟩
  clear hB
  obtain ⟨x, hx⟩ : ∃ x, G.hs[p]? = some x := ⟨G.hs[p]'(by omega), List.getElem?_eq_getElem _⟩
  have hxv : (hosV G.hs)[p]? = some (.ref x.a) := by unfold hosV; rw [List.getElem?_map, hx]; rfl
  refine (show tS1 _ _ _ from ?_)
  refine ⟨G.d, G.hl, a, b, c, p, _, hosV G.hs, _, rfl, rfl, rfl, rfl, hxv, hL, fun so ln a b c H so0 so1 ln1 ln2 hL2 => ?_⟩
  clear hL
  have hL : Led H (LwL P w C { G with T := G.T + r } a b c (Z ++ L)) := hL2.le (fun a_ => by
    simp only [LwL, cnt_cons, cnt_app]
    omega)
  clear hL2
  refine (show tBr P w C _ _ _ from ?_)
  refine ⟨{ G with T := G.T + r }, Z, L, a, b, c, i, p, x, so, ln, ⟨rfl, rfl, rfl, rfl, rfl, rfl, rfl, rfl, rfl, rfl, rfl⟩, rfl, rfl, rfl, rfl, rfl, hx, so0, so1, ln1, ln2, hi, I.later (by omega), hL, fun G' Z' a b c σ' H sh' I' hL => ?_⟩
  have shh := sh'
  obtain ⟨t1, t2, t3, t4, t5, t7, t8, t9, t10, t11, tl⟩ := shh
  have m0 : ∀ x ∈ G'.hs, ∀ y ∈ hoL C x, y ∈ LwL P w C G' a b c (Z' ++ L) := fun x hx y hy => by
    have : y ∈ hosL C G'.hs := List.mem_flatMap.mpr ⟨x, hx, hy⟩
    unfold LwL
    simp [this]
  refine (show tHeld P w C _ _ _ from ?_)
  refine ⟨G'.hl, G'.he, G'.hs, G'.kv, G'.T, _, t4, t5, t10, tl, I'.safe.n3, I'.safe.hok, m0, by unfold LwL; simp, by unfold LwL; simp, fun y hy => (I'.kz y hy).mono (fun z hz => by unfold LwL; simp [hz]), I'.pl, hL, fun H hL => ?_⟩
  refine (show tSafe C _ _ _ from ?_)
  refine ⟨G'.hl, G'.hs, G'.T, _, t4, t5, tl, I'.safe.n3, I'.safe.hok, m0, by unfold LwL; simp, fun i j x y t hi hj ht h1 h2 => I'.safe.one hi hj ht h1 h2, hL, fun v25 H hL => ?_⟩
  have e : ∀ {j : Nat}, j ≠ 25 → (σ'.set 25 v25)[j]? = σ'[j]? := fun {j} h => by
    rw [List.getElem?_set]
    rw [if_neg (fun z => h z.symm)]
  exact kk G' Z' a b c _ H ⟨(e (by decide)).trans t1, (e (by decide)).trans t2, (e (by decide)).trans t3, (e (by decide)).trans t4, (e (by decide)).trans t5, (e (by decide)).trans t7, (e (by decide)).trans t8, (e (by decide)).trans t9, (e (by decide)).trans t10, (e (by decide)).trans t11, (List.length_set ..).trans tl⟩ I' hL
end
end Sd


set_option linter.unusedVariables false
namespace Sd
open PySem L2 LamX Mx
open C8 (Cal Met Mak pe_c pe_mk pe_mt pe_mt0 pss_cut tCut)
set_option linter.unusedSimpArgs false
set_option pp.deepTerms false
set_option pp.deepTerms.threshold 12
set_option hygiene false
local macro_rules | `(tactic| fail "nd") => `(tactic| first | assumption | decide +kernel)
local macro_rules | `(tactic| fail "ix") => `(tactic| first | exact ⟨0, rfl⟩ | exact ⟨1, rfl⟩ | exact ⟨2, rfl⟩ | exact ⟨3, rfl⟩ | exact ⟨4, rfl⟩ | exact ⟨5, rfl⟩ | exact ⟨6, rfl⟩ | exact ⟨7, rfl⟩ | exact ⟨8, rfl⟩ | exact ⟨9, rfl⟩ | exact ⟨10, rfl⟩ | exact ⟨11, rfl⟩ | exact ⟨12, rfl⟩ | exact ⟨13, rfl⟩ | exact ⟨14, rfl⟩ | exact ⟨15, rfl⟩ | exact ⟨16, rfl⟩ | exact ⟨17, rfl⟩ | exact ⟨18, rfl⟩ | assumption)
local macro_rules | `(tactic| fail "up") => `(tactic| first | exact ⟨0, rfl, rfl⟩ | exact ⟨1, rfl, rfl⟩ | exact ⟨2, rfl, rfl⟩ | exact ⟨3, rfl, rfl⟩ | exact ⟨4, rfl, rfl⟩ | exact ⟨5, rfl, rfl⟩ | exact ⟨6, rfl, rfl⟩ | exact ⟨7, rfl, rfl⟩ | exact ⟨8, rfl, rfl⟩ | exact ⟨9, rfl, rfl⟩ | exact ⟨10, rfl, rfl⟩ | exact ⟨11, rfl, rfl⟩ | exact ⟨12, rfl, rfl⟩ | exact ⟨13, rfl, rfl⟩ | exact ⟨14, rfl, rfl⟩ | exact ⟨15, rfl, rfl⟩ | exact ⟨16, rfl, rfl⟩ | assumption)
local macro_rules | `(tactic| fail "lkF") => `(tactic| first | assumption | exact fz_at 0 (by fail "nd") rfl rfl | exact fz_at 1 (by fail "nd") rfl rfl | exact fz_at 2 (by fail "nd") rfl rfl | exact fz_at 3 (by fail "nd") rfl rfl | exact fz_at 4 (by fail "nd") rfl rfl | exact fz_at 5 (by fail "nd") rfl rfl | exact fz_at 6 (by fail "nd") rfl rfl | exact fz_at 7 (by fail "nd") rfl rfl)
local macro_rules | `(tactic| fail "lkD") => `(tactic| first | assumption | exact dz_at 0 (by fail "nd") rfl rfl | exact dz_at 1 (by fail "nd") rfl rfl | exact dz_at 2 (by fail "nd") rfl rfl | exact dz_at 3 (by fail "nd") rfl rfl | exact dz_at 4 (by fail "nd") rfl rfl)
local macro_rules | `(tactic| fail "ptF") => `(tactic| first | assumption | exact fz_put 0 (by fail "nd") rfl (Nat.le_of_ble_eq_true rfl) | exact fz_put 1 (by fail "nd") rfl (Nat.le_of_ble_eq_true rfl) | exact fz_put 2 (by fail "nd") rfl (Nat.le_of_ble_eq_true rfl) | exact fz_put 3 (by fail "nd") rfl (Nat.le_of_ble_eq_true rfl) | exact fz_put 4 (by fail "nd") rfl (Nat.le_of_ble_eq_true rfl) | exact fz_put 5 (by fail "nd") rfl (Nat.le_of_ble_eq_true rfl) | exact fz_put 6 (by fail "nd") rfl (Nat.le_of_ble_eq_true rfl) | exact fz_put 7 (by fail "nd") rfl (Nat.le_of_ble_eq_true rfl) | exact fz_new (by decide +kernel) rfl)
local macro_rules | `(tactic| fail "ptD") => `(tactic| first | assumption | exact dz_put 0 (by fail "nd") rfl (Nat.le_of_ble_eq_true rfl) | exact dz_put 1 (by fail "nd") rfl (Nat.le_of_ble_eq_true rfl) | exact dz_put 2 (by fail "nd") rfl (Nat.le_of_ble_eq_true rfl) | exact dz_put 3 (by fail "nd") rfl (Nat.le_of_ble_eq_true rfl) | exact dz_put 4 (by fail "nd") rfl (Nat.le_of_ble_eq_true rfl))
local macro_rules | `(tactic| fail "sz") => `(tactic| first | assumption | exact (Nat.le_of_ble_eq_true rfl) | omega | decide)
local macro_rules | `(tactic| fail "sd") => `(tactic| first | rfl | assumption | decide | omega | (dsimp only; first | decide | omega) | exact .inr ⟨by decide, by decide⟩ | exact .inl ⟨by decide, by decide⟩ | exact ⟨by omega, by omega⟩ | exact .inl ⟨by omega, by omega⟩ | exact .inr ⟨by omega, by omega⟩ | exact ⟨by omega, by omega, by omega⟩)
local macro_rules | `(tactic| fail "cl") => `(tactic| (clear hH; dsimp only [List.set, List.cons_append, List.nil_append, List.append] at hL))
local macro_rules | `(tactic| fail "gn") => `(tactic| (intro p hp; generalize hH : upd H p _ = H; replace hL := Led.newH hL hp hH; clear hH hp))
local macro_rules | `(tactic| fail "gup") => `(tactic| (generalize hH : upd H _ _ = H; replace hL := Led.upU hL (by fail "up") hH; fail "cl"))
local macro_rules | `(tactic| fail "gmk") => `(tactic| (intro x dx hx hd ne; generalize hH : upd (upd H dx _) x _ = H; replace hL := Led.made hL hx hd ne hH; clear hH hx hd ne))
local macro_rules | `(tactic| fail "v") => `(tactic| refine ⟨_, rfl, ?_⟩)
local macro_rules | `(tactic| fail "i2") => `(tactic| refine ⟨_, _, rfl, rfl, ?_⟩)
local macro_rules | `(tactic| fail "go1") => `(tactic| first
  | refine ⟨_, rfl, ?_⟩
  | refine ⟨_, _, rfl, rfl, ?_⟩
  | refine ⟨_, _, rfl, ?_⟩
  | refine iteT ?_
  | refine iteF ?_
  | refine k_fld hL (by fail "ix") (by assumption) (by assumption) (by fail "lkF") ?_
  | refine k_dgetS hL (by fail "ix") (by fail "lkD") ?_
  | refine k_dgetI hL (by fail "ix") (by assumption) ?_
  | refine k_ixL hL (by fail "ix") (by first | rfl | assumption) ?_
  | refine k_ixT hL (by fail "ix") (by first | rfl | assumption) ?_
  | refine k_tyL hL (by fail "ix") ?_
  | refine k_isd hL (by fail "ix") ?_
  | (refine And.intro (by fail "sz") ?_; fail "gn")
  | refine And.intro (by fail "sd") ?_
  | fail "gn"
  | refine k_meth hL (by fail "ix") (by first | assumption | exact fz_no (by decide +kernel)) ?_
  | refine k_gtup hL (by fail "ix") rfl ?_
  | (refine k_popI hL (by fail "ix") (by assumption) ?_; fail "gup")
  | (refine k_listD hL (by fail "ix") ?_; fail "gn")
  | (refine ⟨_, _, _, _, rfl, rfl, hL.at (by fail "ix"), rfl, ?_⟩; fail "gup")
  | (refine ⟨_, _, _, rfl, rfl, hL.at (by fail "ix"), (by fail "sz"), ?_⟩; fail "gup")
  | (refine ⟨_, _, _, _, rfl, hL.at (by fail "ix"), by assumption, by assumption, Nat.lt_of_le_of_lt fz_len (by decide), ?_⟩; generalize hH : upd H _ _ = H; replace hL := Led.upF hL (by fail "up") (by fail "ptF") hH; fail "cl")
  | (refine ⟨_, _, hL.at (by fail "ix"), Nat.lt_of_le_of_lt fz_len (by decide), ?_⟩; generalize hH : upd H _ _ = H; replace hL := Led.upF hL (by fail "up") (by fail "ptF") hH; fail "cl")
  | (refine k_dputS hL (by fail "ix") (Nat.lt_of_le_of_lt dz_len (by decide)) (by fail "ptD") (by fail "up") ?_; clear hL; intro H hL; dsimp only [List.set, List.cons_append, List.nil_append, List.append] at hL)
  | refine k_lenL2 hL (by fail "ix") ?_
  | refine k_lenT2 hL (by fail "ix") ?_
  | refine .inl ⟨_, rfl, ?_⟩
  | refine .inr ⟨_, rfl, ?_⟩)
local macro_rules | `(tactic| fail "go") => `(tactic| repeat fail "go1")
local macro_rules | `(tactic| fail "pm") => `(tactic| (refine Led.le hL (fun a_ => ?_); simp only [cnt_nil, cnt_cons, cnt_app, List.map_append, List.map_cons, List.map_nil, List.flatMap_append, List.flatMap_cons, List.flatMap_nil, List.append_assoc, List.cons_append, List.nil_append]; omega))

/-! ### the setting up -/
theorem pe_mkN {X : Cx} {k j : Nat} {x : Str} {C : Addr} {sp : Sp} {dvs : List V} {p pos : Pos} (c : C8.Mak X.prog X.w X.K X.mg X.base k x C sp dvs) (hr : Room j X.A) (hk : k + 1 ≤ j) (hg : Gl X x) (hdb : (x == ("__debug__" : Str)) = false := by decide) : PE X (.Call (.Name x p) [] [] pos) (tMake C sp dvs C8.E0 tNil) := by
  obtain ⟨f, fd, ps, ds, M, F, hm, b, d⟩ := c.ex
  exact pe_make0 M F (hr.mono hk) hg hm b d C8.pass0 hdb
def tD0 (C : Cl4) : TS := fun D σ H => ∃ (d : Addr) (a b c : Int) (L : Lg), σ[1]? = some (some (.ref d)) ∧ σ.length = 34 ∧ Led H ((d, dD a b c) :: L) ∧
  ∀ (g dg u du al : Addr) (gc : Ck) (a b c : Int) H', gc.Ok → Led H' ((d, dD a b c) :: grO C.G g dg gc.a ⟨none, none, 0⟩ :: (ckL C.C gc ++ (guO C.U u du al 0 :: (al, .lst []) :: L))) → D.nx (((σ.set 2 (some (.ref g))).set 3 (some (.ref u))).set 4 (some (.int 0))) H'
def tD1 (C : Cl4) : TS := fun D σ H => ∃ (d : Addr) (a b c : Int) (L : Lg), σ[1]? = some (some (.ref d)) ∧ σ.length = 34 ∧ Led H ((d, dD a b c) :: L) ∧
  ∀ (hl : Addr) (hs : List Ho) (a b c : Int) H', 1 ≤ hs.length → hs.length ≤ 3 → (∀ x ∈ hs, x.c.Ok) → (∀ (k : Nat) (x : Ho), hs[k]? = some x → x.s = ⟨hname k, none, none, none, 0, 0⟩) → Led H' ((d, dD a b c) :: (hl, .lst (hosV hs)) :: (hosL C hs ++ L)) → D.nx (σ.set 5 (some (.ref hl))) H'
section
variable {P : Program} {w : World} {K : PySem.W.Frag} {mg : Str → Option Value} {base : Heap} {C : Cl4} {f cL : Addr} {A : Around} {outer : List Env} {s0 : Shared} {H0 : Hp} {E : XK}
theorem rate_ok {a d r : Addr} {t b : Int} (h0 : 0 ≤ t) (h1 : t < 21) : Ck.Ok ⟨a, d, r, 90 + t, 100, b⟩ := by
  unfold Ck.Ok
  dsimp only
  omega
theorem st_d0 (hr : Room 20 (LX P w K mg base f (.ref cL) A outer s0 H0 E).A) (c__law_roll : Cal P w K mg base 1 "_law_roll" spRoll []) (c_DriftClock : Mak P w K mg base 1 "DriftClock" C.C (spCInit C.C) []) (c_Granter : Mak P w K mg base 1 "Granter" C.G (spGInit C.G) []) (c_Guarded : Mak P w K mg base 1 "Guarded" C.U (spUInit C.U) []) :
    PS (LX P w K mg base f (.ref cL) A outer s0 H0 E) (nth diceB 0) (tD0 C) := by
  refine ps_imp (t := _) (ps_asg (pe_tup (pa_cons (pe_mk c_Granter hr (by decide) (by rfl) (pa_cons (pe_mk c_DriftClock hr (by decide) (by rfl) (pa_cons (pe_tup (pa_cons (pe_op op_add pe_int (pe_c c__law_roll hr (by decide) (by rfl) (pa_cons (pv 1) (pa_cons pe_int pa_nil)))) (pa_cons pe_int pa_nil))) (pa_cons (pe_c c__law_roll hr (by decide) (by rfl) (pa_cons (pv 1) (pa_cons pe_int pa_nil))) pa_nil))) pa_nil)) (pa_cons (pe_mkN c_Guarded hr (by decide) (by rfl)) (pa_cons pe_int pa_nil)))) (pg_tup (by rfl) (pgs_cons (pg_name (i := 2) scLaw.nd rfl (Or.inl rfl)) (pgs_cons (pg_name (i := 3) scLaw.nd rfl (Or.inl rfl)) (pgs_cons (pg_name (i := 4) scLaw.nd rfl (Or.inr rfl)) pgs_nil))))) ?_
  rintro D σ H ⟨d, a, b, c, L, hs1, hsl, hL, kk⟩
  match σ, hs1, hsl with
  | v0 :: v1 :: v2 :: v3 :: v4 :: v5 :: v6 :: v7 :: v8 :: v9 :: v10 :: v11 :: v12 :: v13 :: v14 :: v15 :: v16 :: v17 :: v18 :: v19 :: v20 :: v21 :: v22 :: v23 :: v24 :: v25 :: v26 :: v27 :: v28 :: v29 :: v30 :: v31 :: v32 :: v33 :: [], hs1, _ =>
  cases hs1
  fail "go"
  refine ⟨d, a, b, c, 21, _, rfl, hL, by decide, by decide, fun r a b c H hr0 hr1 hL2 => ?_⟩
  clear hL
  have hL := hL2
  clear hL2
  fail "go"
  have hB : Led H ((d, dD a b c) :: (p, .tup [.int (90 + r), .int 100]) :: L) := hL.le (fun a_ => by
    simp only [cnt_cons]
    omega)
  clear hL
  dsimp only [tNil, tCons, tC, List.cons_append, List.nil_append]
  refine ⟨d, a, b, c, 50, _, rfl, hB, by decide, by decide, fun r2 a b c H hr2 hr3 hL => ?_⟩
  clear hB
  fail "go"
  fail "gmk"
  have ok1 : Ck.Ok ⟨x, dx, p, 90 + r, 100, r2⟩ := rate_ok hr0 hr1
  refine ⟨x, dx, p, 90 + r, 100, r2, _, rfl, hL, .tail _ (.head _), ok1, fun rt H hL2 => ?_⟩
  clear hL
  refine ⟨rfl, ?_⟩
  obtain ⟨gc, hgc, hga⟩ : ∃ gc : Ck, gc = ⟨x, dx, rt, 90 + r, 100, r2⟩ ∧ gc.a = x := ⟨_, rfl, rfl⟩
  rw [← hgc] at hL2
  have ok2 : gc.Ok := by rw [hgc]; exact rate_ok hr0 hr1
  rw [← hga]
  clear hgc hga
  have hL := hL2
  clear hL2
  fail "go"
  intro g dg hx hd ne
  generalize hH : upd (upd H dg _) g _ = H
  replace hL := Led.made hL hx hd ne hH
  clear hH hx hd ne
  refine ⟨g, dg, gc.a, _, rfl, hL, fun H hL2 => ?_⟩
  clear hL
  refine ⟨rfl, ?_⟩
  intro u du hx hd ne
  generalize hH : upd (upd H du _) u _ = H
  have hL := Led.made hL2 hx hd ne hH
  clear hH hx hd ne hL2
  refine ⟨u, du, _, rfl, hL, fun al H hL2 => ?_⟩
  clear hL
  refine ⟨rfl, ?_⟩
  have hL := hL2
  clear hL2
  fail "go"
  exact kk g dg u du al gc a b c H ok2 (hL.le (fun a_ => by
    simp only [ckL, cnt_cons, cnt_app, cnt_nil]
    omega))
theorem st_d1 (hr : Room 20 (LX P w K mg base f (.ref cL) A outer s0 H0 E).A) (T : TxtLw mg) (c__law_roll : Cal P w K mg base 1 "_law_roll" spRoll []) (c_DriftClock : Mak P w K mg base 1 "DriftClock" C.C (spCInit C.C) []) (c_Holder : Mak P w K mg base 1 "Holder" C.H (spHInit C.H) []) :
    PS (LX P w K mg base f (.ref cL) A outer s0 H0 E) (nth diceB 1) (tD1 C) := by
  refine ps_imp (t := _) (ps_set (i := 5) scLaw.nd rfl (Or.inr rfl) (pe_lc (own := [("k", 6)]) (g := gName 6) (by rfl) scLaw.nd (pi_range1 (by rfl) T.range (pa_cons (pe_op op_add pe_int (pe_c c__law_roll hr (by decide) (by rfl) (pa_cons (pv 1) (pa_cons pe_int pa_nil)))) pa_nil)) (blkOk_by (own := [("k", 6)]) (N := NLw) (sc := (defScope sLaw)) (by decide +kernel)) (fun _ _ _ _ _ => (pg_name (i := 6) scLaw.nd rfl (Or.inl rfl))) (fun _ _ _ _ _ => pts_nil) (fun _ _ _ _ _ => (pe_mk c_Holder hr (by decide) (by rfl) (pa_cons (pe_op op_add_str pe_str (pe_callTy call_str_int (by rfl) T.str (by decide +kernel) (pa_cons (pv 6) pa_nil))) (pa_cons (pe_mk c_DriftClock hr (by decide) (by rfl) (pa_cons (pe_tup (pa_cons (pe_op op_add pe_int (pe_c c__law_roll hr (by decide) (by rfl) (pa_cons (pv 1) (pa_cons pe_int pa_nil)))) (pa_cons pe_int pa_nil))) (pa_cons (pe_c c__law_roll hr (by decide) (by rfl) (pa_cons (pv 1) (pa_cons pe_int pa_nil))) pa_nil))) pa_nil)))))) ?_
  rintro D σ H ⟨d, a, b, c, L, hs1, hsl, hL, kk⟩
  match σ, hs1, hsl with
  | v0 :: v1 :: v2 :: v3 :: v4 :: v5 :: v6 :: v7 :: v8 :: v9 :: v10 :: v11 :: v12 :: v13 :: v14 :: v15 :: v16 :: v17 :: v18 :: v19 :: v20 :: v21 :: v22 :: v23 :: v24 :: v25 :: v26 :: v27 :: v28 :: v29 :: v30 :: v31 :: v32 :: v33 :: [], hs1, _ =>
  cases hs1
  fail "go"
  refine ⟨d, a, b, c, 3, _, rfl, hL, by decide, by decide, fun r a b c H hr0 hr1 hL2 => ?_⟩
  clear hL
  fail "go"
  refine (show ∀ D1 : Addr, _ from ?_)
  intro D1 hD
  refine lc_range (lo := 0) (n := (1 + r).toNat) (fun i H => Hold (∃ (hs : List Ho) (a b c : Int), hs.length = i ∧ (∀ x ∈ hs, x.c.Ok) ∧ (∀ (k : Nat) (x : Ho), hs[k]? = some x → x.s = ⟨hname k, none, none, none, 0, 0⟩) ∧ Led H ((D1, .lst (hosV hs)) :: (d, dD a b c) :: (hosL C hs ++ L)))) (.mk ⟨[], a, b, c, rfl, fun x h => absurd h (by simp), fun k x h => absurd h (by simp), hL2.new hD⟩) (fun i H hi q => ?_) (fun H q => ?_)
  · clear hL2 hD
    obtain ⟨hs, a, b, c, hln, hok, hst, hL⟩ := q.out
    clear q
    rw [Int.zero_add]
    refine (show gName 6 _ _ _ _ from ?_)
    refine ⟨rfl, k_yes ?_⟩
    have hi4 : i = 0 ∨ i = 1 ∨ i = 2 := by omega
    have hlog : (i : Int).natAbs.log2 < 1920 := by rcases hi4 with rfl | rfl | rfl <;> decide +kernel
    have hcat : (Str.ofString "h").length + (toString (i : Int) : Str).length ≤ sizeLine := by rcases hi4 with rfl | rfl | rfl <;> decide +kernel
    fail "go"
    have hB : Led H ((d, dD a b c) :: (D1, .lst (hosV hs)) :: (hosL C hs ++ L)) := hL.le (fun a_ => by
      simp only [cnt_cons]
      omega)
    clear hL
    fail "go"
    dsimp only [tNil, tCons, tC, List.cons_append, List.nil_append]
    refine ⟨d, a, b, c, 21, _, rfl, hB, by decide, by decide, fun r1 a b c H hr2 hr3 hL => ?_⟩
    clear hB
    fail "go"
    dsimp only [tNil, tCons, tC, List.cons_append, List.nil_append]
    have hB : Led H ((d, dD a b c) :: (p, .tup [.int (90 + r1), .int 100]) :: (D1, .lst (hosV hs)) :: (hosL C hs ++ L)) := hL.le (fun a_ => by
      simp only [cnt_cons]
      omega)
    clear hL
    refine ⟨d, a, b, c, 500, _, rfl, hB, by decide, by decide, fun r2 a b c H hr4 hr5 hL => ?_⟩
    clear hB
    intro x dx hx hd ne
    generalize hH : upd (upd H dx _) x _ = H
    replace hL := Led.made hL hx hd ne hH
    clear hH hx hd ne
    refine ⟨x, dx, p, 90 + r1, 100, r2, _, rfl, hL, .tail _ (.head _), rate_ok hr2 hr3, fun rt H hL2 => ?_⟩
    clear hL
    refine ⟨rfl, ?_⟩
    obtain ⟨gc, hgc, hga⟩ : ∃ gc : Ck, gc = ⟨x, dx, rt, 90 + r1, 100, r2⟩ ∧ gc.a = x := ⟨_, rfl, rfl⟩
    rw [← hgc] at hL2
    have ok2 : gc.Ok := by rw [hgc]; exact rate_ok hr2 hr3
    rw [← hga]
    clear hgc hga
    intro g dg hx hd ne
    generalize hH : upd (upd H dg _) g _ = H
    have hL := Led.made hL2 hx hd ne hH
    clear hH hx hd ne hL2
    refine ⟨g, dg, gc.a, hname i, _, rfl, hL, fun H hL2 => ?_⟩
    clear hL
    refine ⟨rfl, ?_⟩
    have hvl : (hosV hs).length = i := by unfold hosV; rw [List.length_map]; exact hln
    have h60 : 60 < sizeLine := by decide
    refine ⟨hosV hs, hL2.at ⟨5, rfl⟩, by omega, ?_⟩
    have hL := Led.set (o' := .lst (hosV hs ++ [.ref g])) 5 hL2 rfl
    generalize hH : upd H D1 _ = H at hL ⊢
    clear hL2 hH
    refine .mk ⟨hs ++ [⟨g, dg, gc, ⟨hname i, none, none, none, 0, 0⟩⟩], a, b, c, by rw [List.length_append, List.length_singleton]; omega, fun y hy => ?_, fun j y hj => ?_, hL.le (fun a_ => ?_)⟩
    · rcases List.mem_append.mp hy with hy | hy
      · exact hok y hy
      · rw [List.mem_singleton.mp hy]
        exact ok2
    · rcases Nat.lt_or_ge j i with h | h
      · rw [List.getElem?_append_left (by omega)] at hj
        exact hst j y hj
      · rw [List.getElem?_append_right (by omega)] at hj
        have h0 : j - hs.length = 0 := by
          have := (List.getElem?_eq_some_iff.mp hj).1
          rw [List.length_singleton] at this
          omega
        rw [h0] at hj
        cases hj
        have : j = i := by omega
        rw [this]
    · simp only [hosV, hosL, hoL, ckL, List.map_append, List.map_cons, List.map_nil, List.flatMap_append, List.flatMap_cons, List.flatMap_nil, List.set, List.cons_append, List.nil_append, cnt_cons, cnt_app, cnt_nil]
      omega
  · clear hL2 hD
    obtain ⟨hs, a, b, c, hln, hok, hst, hL⟩ := q.out
    clear q
    refine (show D.nx _ _ from ?_)
    exact kk D1 hs a b c H (by omega) (by omega) hok hst (hL.le (fun a_ => by
      simp only [cnt_cons]
      omega))
end
end Sd


set_option linter.unusedVariables false
namespace Sd
open PySem L2 LamX Mx
open C8 (Cal Met Mak pe_c pe_mk pe_mt pe_mt0 pss_cut tCut)
set_option linter.unusedSimpArgs false
set_option pp.deepTerms false
set_option pp.deepTerms.threshold 12
set_option hygiene false
local macro_rules | `(tactic| fail "nd") => `(tactic| first | assumption | decide +kernel)
local macro_rules | `(tactic| fail "ix") => `(tactic| first | exact ⟨0, rfl⟩ | exact ⟨1, rfl⟩ | exact ⟨2, rfl⟩ | exact ⟨3, rfl⟩ | exact ⟨4, rfl⟩ | exact ⟨5, rfl⟩ | exact ⟨6, rfl⟩ | exact ⟨7, rfl⟩ | exact ⟨8, rfl⟩ | exact ⟨9, rfl⟩ | exact ⟨10, rfl⟩ | exact ⟨11, rfl⟩ | exact ⟨12, rfl⟩ | exact ⟨13, rfl⟩ | exact ⟨14, rfl⟩ | exact ⟨15, rfl⟩ | exact ⟨16, rfl⟩ | exact ⟨17, rfl⟩ | exact ⟨18, rfl⟩ | assumption)
local macro_rules | `(tactic| fail "up") => `(tactic| first | exact ⟨0, rfl, rfl⟩ | exact ⟨1, rfl, rfl⟩ | exact ⟨2, rfl, rfl⟩ | exact ⟨3, rfl, rfl⟩ | exact ⟨4, rfl, rfl⟩ | exact ⟨5, rfl, rfl⟩ | exact ⟨6, rfl, rfl⟩ | exact ⟨7, rfl, rfl⟩ | exact ⟨8, rfl, rfl⟩ | exact ⟨9, rfl, rfl⟩ | exact ⟨10, rfl, rfl⟩ | exact ⟨11, rfl, rfl⟩ | exact ⟨12, rfl, rfl⟩ | exact ⟨13, rfl, rfl⟩ | exact ⟨14, rfl, rfl⟩ | exact ⟨15, rfl, rfl⟩ | exact ⟨16, rfl, rfl⟩ | assumption)
local macro_rules | `(tactic| fail "lkF") => `(tactic| first | assumption | exact fz_at 0 (by fail "nd") rfl rfl | exact fz_at 1 (by fail "nd") rfl rfl | exact fz_at 2 (by fail "nd") rfl rfl | exact fz_at 3 (by fail "nd") rfl rfl | exact fz_at 4 (by fail "nd") rfl rfl | exact fz_at 5 (by fail "nd") rfl rfl | exact fz_at 6 (by fail "nd") rfl rfl | exact fz_at 7 (by fail "nd") rfl rfl)
local macro_rules | `(tactic| fail "lkD") => `(tactic| first | assumption | exact dz_at 0 (by fail "nd") rfl rfl | exact dz_at 1 (by fail "nd") rfl rfl | exact dz_at 2 (by fail "nd") rfl rfl | exact dz_at 3 (by fail "nd") rfl rfl | exact dz_at 4 (by fail "nd") rfl rfl)
local macro_rules | `(tactic| fail "ptF") => `(tactic| first | assumption | exact fz_put 0 (by fail "nd") rfl (Nat.le_of_ble_eq_true rfl) | exact fz_put 1 (by fail "nd") rfl (Nat.le_of_ble_eq_true rfl) | exact fz_put 2 (by fail "nd") rfl (Nat.le_of_ble_eq_true rfl) | exact fz_put 3 (by fail "nd") rfl (Nat.le_of_ble_eq_true rfl) | exact fz_put 4 (by fail "nd") rfl (Nat.le_of_ble_eq_true rfl) | exact fz_put 5 (by fail "nd") rfl (Nat.le_of_ble_eq_true rfl) | exact fz_put 6 (by fail "nd") rfl (Nat.le_of_ble_eq_true rfl) | exact fz_put 7 (by fail "nd") rfl (Nat.le_of_ble_eq_true rfl) | exact fz_new (by decide +kernel) rfl)
local macro_rules | `(tactic| fail "ptD") => `(tactic| first | assumption | exact dz_put 0 (by fail "nd") rfl (Nat.le_of_ble_eq_true rfl) | exact dz_put 1 (by fail "nd") rfl (Nat.le_of_ble_eq_true rfl) | exact dz_put 2 (by fail "nd") rfl (Nat.le_of_ble_eq_true rfl) | exact dz_put 3 (by fail "nd") rfl (Nat.le_of_ble_eq_true rfl) | exact dz_put 4 (by fail "nd") rfl (Nat.le_of_ble_eq_true rfl))
local macro_rules | `(tactic| fail "sz") => `(tactic| first | assumption | exact (Nat.le_of_ble_eq_true rfl) | omega | decide)
local macro_rules | `(tactic| fail "sd") => `(tactic| first | rfl | assumption | decide | omega | (dsimp only; first | decide | omega) | exact .inr ⟨by decide, by decide⟩ | exact .inl ⟨by decide, by decide⟩ | exact ⟨by omega, by omega⟩ | exact .inl ⟨by omega, by omega⟩ | exact .inr ⟨by omega, by omega⟩ | exact ⟨by omega, by omega, by omega⟩)
local macro_rules | `(tactic| fail "cl") => `(tactic| (clear hH; dsimp only [List.set, List.cons_append, List.nil_append, List.append] at hL))
local macro_rules | `(tactic| fail "gn") => `(tactic| (intro p hp; generalize hH : upd H p _ = H; replace hL := Led.newH hL hp hH; clear hH hp))
local macro_rules | `(tactic| fail "gup") => `(tactic| (generalize hH : upd H _ _ = H; replace hL := Led.upU hL (by fail "up") hH; fail "cl"))
local macro_rules | `(tactic| fail "gmk") => `(tactic| (intro x dx hx hd ne; generalize hH : upd (upd H dx _) x _ = H; replace hL := Led.made hL hx hd ne hH; clear hH hx hd ne))
local macro_rules | `(tactic| fail "v") => `(tactic| refine ⟨_, rfl, ?_⟩)
local macro_rules | `(tactic| fail "i2") => `(tactic| refine ⟨_, _, rfl, rfl, ?_⟩)
local macro_rules | `(tactic| fail "go1") => `(tactic| first
  | refine ⟨_, rfl, ?_⟩
  | refine ⟨_, _, rfl, rfl, ?_⟩
  | refine ⟨_, _, rfl, ?_⟩
  | refine iteT ?_
  | refine iteF ?_
  | refine k_fld hL (by fail "ix") (by assumption) (by assumption) (by fail "lkF") ?_
  | refine k_dgetS hL (by fail "ix") (by fail "lkD") ?_
  | refine k_dgetI hL (by fail "ix") (by assumption) ?_
  | refine k_ixL hL (by fail "ix") (by first | rfl | assumption) ?_
  | refine k_ixT hL (by fail "ix") (by first | rfl | assumption) ?_
  | refine k_tyL hL (by fail "ix") ?_
  | refine k_isd hL (by fail "ix") ?_
  | (refine And.intro (by fail "sz") ?_; fail "gn")
  | refine And.intro (by fail "sd") ?_
  | fail "gn"
  | refine k_meth hL (by fail "ix") (by first | assumption | exact fz_no (by decide +kernel)) ?_
  | refine k_gtup hL (by fail "ix") rfl ?_
  | (refine k_popI hL (by fail "ix") (by assumption) ?_; fail "gup")
  | (refine k_listD hL (by fail "ix") ?_; fail "gn")
  | (refine ⟨_, _, _, _, rfl, rfl, hL.at (by fail "ix"), rfl, ?_⟩; fail "gup")
  | (refine ⟨_, _, _, rfl, rfl, hL.at (by fail "ix"), (by fail "sz"), ?_⟩; fail "gup")
  | (refine ⟨_, _, _, _, rfl, hL.at (by fail "ix"), by assumption, by assumption, Nat.lt_of_le_of_lt fz_len (by decide), ?_⟩; generalize hH : upd H _ _ = H; replace hL := Led.upF hL (by fail "up") (by fail "ptF") hH; fail "cl")
  | (refine ⟨_, _, hL.at (by fail "ix"), Nat.lt_of_le_of_lt fz_len (by decide), ?_⟩; generalize hH : upd H _ _ = H; replace hL := Led.upF hL (by fail "up") (by fail "ptF") hH; fail "cl")
  | (refine k_dputS hL (by fail "ix") (Nat.lt_of_le_of_lt dz_len (by decide)) (by fail "ptD") (by fail "up") ?_; clear hL; intro H hL; dsimp only [List.set, List.cons_append, List.nil_append, List.append] at hL)
  | refine k_lenL2 hL (by fail "ix") ?_
  | refine k_lenT2 hL (by fail "ix") ?_
  | refine .inl ⟨_, rfl, ?_⟩
  | refine .inr ⟨_, rfl, ?_⟩)
local macro_rules | `(tactic| fail "go") => `(tactic| repeat fail "go1")
local macro_rules | `(tactic| fail "pm") => `(tactic| (refine Led.le hL (fun a_ => ?_); simp only [cnt_nil, cnt_cons, cnt_app, List.map_append, List.map_cons, List.map_nil, List.flatMap_append, List.flatMap_cons, List.flatMap_nil, List.append_assoc, List.cons_append, List.nil_append]; omega))

def tD2 (P : Program) (w : World) : TS := fun D σ H => ∃ L : Lg, σ.length = 34 ∧ Led H L ∧
  ∀ (ud la he : Addr) H', Led H' ((ud, .lst []) :: (la, .lst []) :: (he, mxO P w he []) :: L) → D.nx ((((σ.set 7 (some (.ref ud))).set 8 (some (.int 0))).set 9 (some (.ref la))).set 10 (some (.ref he))) H'
def tD3 : TS := fun D σ H => ∃ L : Lg, σ.length = 34 ∧ Led H L ∧ ∀ (ls : Addr) H', Led H' (lsO ls ⟨none, none, 0⟩ :: L) → D.nx (σ.set 11 (some (.ref ls))) H'
/-- the acts are the law's, and ascend -/
def tD5 (C : Cl4) : TS := fun D σ H => ∃ (u du al la : Addr) (gr : Int) (ga ar : List V) (ac : List Ac) (Z L : Lg), σ[3]? = some (some (.ref u)) ∧ σ[9]? = some (some (.ref la)) ∧ σ.length = 34 ∧
  guO C.U u du al gr ∈ L ∧ (al, HO.lst ga) ∈ L ∧ (la, HO.lst ar) ∈ L ∧ (∀ y ∈ Z, y ∈ L) ∧ DLs Z ga (ac.map acD) ∧ DLs Z ar (ac.map acD) ∧ ac.length < 1000 ∧ (ac.map (·.1)).Pairwise (· ≤ ·) ∧ Led H L ∧
  ∀ H', Led H' L → D.nx σ H'
def pyA (x : Ac) : PyData := .tuple [.int x.1, .tuple [.str x.2.1, .int x.2.2]]
theorem dl_act {Z : Lg} {v : V} {x : Ac} (h : DL Z v (acD x)) : ∃ p o q o2, v = .ref p ∧ (p, o) ∈ Z ∧ TupO [.int x.1, .ref q] o ∧ (q, o2) ∈ Z ∧ TupO [.str x.2.1, .int x.2.2] o2 := by
  obtain ⟨n, nm, i⟩ := x
  unfold acD at h
  cases h with
  | row h ho h1 =>
    cases h1 with
    | cons a b =>
      cases a
      cases b with
      | cons c d =>
        cases d
        cases c with
        | row h2 ho2 h3 =>
          cases h3 with
          | cons e f =>
            cases e
            cases f with
            | cons g k =>
              cases g
              cases k
              exact ⟨_, _, _, _, rfl, h, ho, h2, ho2⟩
theorem acts_dp {K : PySem.W.Frag} {H : Hp} {Z L : Lg} (hL : Led H L) (s : ∀ x ∈ Z, x ∈ L) : ∀ {ac : List Ac} {v : List V}, DLs Z v (ac.map acD) → DpAll K H v (ac.map pyA) := fun {ac} => by
  induction ac with
  | nil =>
    intro v h
    rw [List.map_nil] at h ⊢
    cases h
    exact .nil
  | cons x r ih =>
    intro v h
    rw [List.map_cons] at h ⊢
    cases h with
    | cons a b =>
      obtain ⟨p, o, q, o2, rfl, m1, t1, m2, t2⟩ := dl_act a
      exact .cons (.tup (t1.sq (hL.mem (s _ m1))) (.cons (.int _) (.cons (.tup (t2.sq (hL.mem (s _ m2))) (.cons (.str _) (.cons (.int _) .nil))) .nil))) (ih b)
section
variable {P : Program} {w : World} {K : PySem.W.Frag} {mg : Str → Option Value} {base : Heap} {C : Cl4} {f cL : Addr} {A : Around} {outer : List Env} {s0 : Shared} {H0 : Hp} {E : XK}
theorem st_d2 (hr : Room 20 (LX P w K mg base f (.ref cL) A outer s0 H0 E).A) : PS (LX P w K mg base f (.ref cL) A outer s0 H0 E) (nth diceB 2) (tD2 P w) := by
  refine ps_imp (t := _) (ps_asg (pe_tup (pa_cons (pe_lst pa_nil) (pa_cons pe_int (pa_cons (pe_lst pa_nil) (pa_cons Mx.pe_mnew pa_nil))))) (pg_tup (by rfl) (pgs_cons (pg_name (i := 7) scLaw.nd rfl (Or.inl rfl)) (pgs_cons (pg_name (i := 8) scLaw.nd rfl (Or.inl rfl)) (pgs_cons (pg_name (i := 9) scLaw.nd rfl (Or.inr rfl)) (pgs_cons (pg_name (i := 10) scLaw.nd rfl (Or.inr rfl)) pgs_nil)))))) ?_
  rintro D σ H ⟨L, hsl, hL, kk⟩
  match σ, hsl with
  | v0 :: v1 :: v2 :: v3 :: v4 :: v5 :: v6 :: v7 :: v8 :: v9 :: v10 :: v11 :: v12 :: v13 :: v14 :: v15 :: v16 :: v17 :: v18 :: v19 :: v20 :: v21 :: v22 :: v23 :: v24 :: v25 :: v26 :: v27 :: v28 :: v29 :: v30 :: v31 :: v32 :: v33 :: [], _ =>
  fail "go"
  have hL2 : Led H ((_, HO.tup _) :: (_, mxO P w _ []) :: (_, .lst []) :: (_, .lst []) :: L) := hL
  exact kk _ _ _ H (hL2.le (fun a_ => by
    simp only [cnt_cons]
    omega))
theorem st_d3 (hr : Room 20 (LX P w K mg base f (.ref cL) A outer s0 H0 E).A) : PS (LX P w K mg base f (.ref cL) A outer s0 H0 E) (nth diceB 3) tD3 := by
  refine ps_imp (t := _) (ps_set (i := 11) scLaw.nd rfl (Or.inl rfl) (pe_disp (pps_cons pe_str pe_non (pps_cons pe_str pe_non (pps_cons pe_str pe_int pps_nil))) (by rfl) (by rfl) (fun z => by cases z) (by decide))) ?_
  rintro D σ H ⟨L, hsl, hL, kk⟩
  match σ, hsl with
  | v0 :: v1 :: v2 :: v3 :: v4 :: v5 :: v6 :: v7 :: v8 :: v9 :: v10 :: v11 :: v12 :: v13 :: v14 :: v15 :: v16 :: v17 :: v18 :: v19 :: v20 :: v21 :: v22 :: v23 :: v24 :: v25 :: v26 :: v27 :: v28 :: v29 :: v30 :: v31 :: v32 :: v33 :: [], _ =>
  fail "go"
  refine ⟨hL.at ⟨0, rfl⟩, dz nmL [.non, .non, .int 0], rfl, Nat.le_of_ble_eq_true rfl, ?_⟩
  have hnd : (((([] : List (Key × V)) ++ dz nmL [.non, .non, .int 0])).map (·.1)).Nodup := by decide +kernel
  rw [mergeK_nd _ _ hnd, List.nil_append]
  have h2 := Led.set (o' := .dK (dz nmL [.non, .non, .int 0])) 0 hL rfl
  exact kk p _ h2
theorem st_d5 (hr : Room 20 (LX P w K mg base f (.ref cL) A outer s0 H0 E).A) (T : TxtLw mg) (XU : TxtCl K C.U nmU) : PS (LX P w K mg base f (.ref cL) A outer s0 H0 E) (nth diceB 5) (tD5 C) := by
  refine ps_imp (t := _) (ps_if (PW.pt (pw_or (pt_cmpR (op_neP hr.units) (pe_fld (pv 3) rfl) (pv 9) (nomark _)) (pw_or1 (pt_cmpR (op_neP hr.units) (pe_lc (own := [("k", 6)]) (g := gName 6) (by rfl) scLaw.nd (pi_range2 (by rfl) T.range (pa_cons pe_int (pa_cons (pe_callB call_len_seq (by rfl) T.len (by decide +kernel) (pa_cons (pv 9) pa_nil)) pa_nil))) (blkOk_by (own := [("k", 6)]) (N := NLw) (sc := (defScope sLaw)) (by decide +kernel)) (fun _ _ _ _ _ => (pg_name (i := 6) scLaw.nd rfl (Or.inl rfl))) (fun _ _ _ _ _ => (pts_one (pt_cmpR op_lt (pe_ix ix_tupB (pe_ix ix_listB (pv 9) (pv 6) (fun _ _ => rfl)) pe_int (fun _ _ => rfl)) (pe_ix ix_tupB (pe_ix ix_listB (pv 9) (pe_op op_sub (pv 6) pe_int) (fun _ _ => rfl)) pe_int (fun _ _ => rfl)) (nomark _)))) (fun _ _ _ _ _ => (pv 6))) (pe_lst pa_nil) (nomark _)))))
  (pss_one (ps_ret pe_bl))
  pss_nil) ?_
  rintro D σ H ⟨u, du, al, la, gr, ga, ar, ac, Z, L, hs3, hs9, hsl, m1, m2, m3, hZ, d1, d2, hn, hp, hL, kk⟩
  match σ, hs3, hs9, hsl with
  | v0 :: v1 :: v2 :: v3 :: v4 :: v5 :: v6 :: v7 :: v8 :: v9 :: v10 :: v11 :: v12 :: v13 :: v14 :: v15 :: v16 :: v17 :: v18 :: v19 :: v20 :: v21 :: v22 :: v23 :: v24 :: v25 :: v26 :: v27 :: v28 :: v29 :: v30 :: v31 :: v32 :: v33 :: [], hs3, hs9, _ =>
  cases hs3
  cases hs9
  have c1 := XU.cl
  have f1 := XU.n "acts" (by decide +kernel)
  fail "go"
  refine k_fld hL (at_mem m1) c1 f1 (fz_at 1 (by decide +kernel) rfl rfl) ?_
  fail "go"
  refine k_neSame (dp_lst (hL.mem m2) (acts_dp hL hZ d1)) (dp_lst (hL.mem m3) (acts_dp hL hZ d2)) (shal_list (n := 2) (by decide) fun x _ => ⟨by simp [pyA, PyData.plain, PyData.plainAll], by simp [pyA, PyData.depth, PyData.depthAll]⟩) ?_
  fail "go"
  dsimp only [tNil]
  refine ⟨la, ar, rfl, .inl (.of (hL.mem m3)), ?_⟩
  have hrl : ar.length = ac.length := by
    have := d2.len
    rw [List.length_map] at this
    exact this
  rw [hrl]
  have hQ := hL
  clear hL
  fail "go"
  intro D1 hD
  refine lc_range (lo := 1) (n := ((ac.length : Int) - 1).toNat) (fun i H => Hold (Led H ((D1, .lst []) :: L))) (.mk (hQ.new hD)) (fun i H hi q => ?_) (fun H q => ?_)
  · clear hQ hD
    have hL := q.out
    clear q
    have hg : ∀ {j : Nat}, j < ac.length → ∃ x p o q, ac[j]? = some x ∧ ar[j]? = some (.ref p) ∧ (p, o) ∈ Z ∧ TupO [.int x.1, .ref q] o := fun {j} hj => by
      have hv : ar[j]? = some (ar[j]'(by omega)) := List.getElem?_eq_getElem _
      obtain ⟨d, e1, e2⟩ := d2.get hv
      rw [List.getElem?_map] at e1
      obtain ⟨x, e3, rfl⟩ := Option.map_eq_some_iff.mp e1
      obtain ⟨p, o, q, o2, e4, m, t, _⟩ := dl_act e2
      exact ⟨x, p, o, q, e3, by rw [hv, e4], m, t⟩
    obtain ⟨x1, p1, o1, q1, a1, b1, n1, t1⟩ := hg (j := i + 1) (by omega)
    obtain ⟨x0, p0, o0, q0, a0, b0, n0, t0⟩ := hg (j := i) (by omega)
    have hle : x0.1 ≤ x1.1 := by
      rw [List.pairwise_iff_getElem] at hp
      have h1 := hp i (i + 1) (by rw [List.length_map]; omega) (by rw [List.length_map]; omega) (by omega)
      rw [List.getElem_map, List.getElem_map] at h1
      rw [List.getElem?_eq_getElem (by omega)] at a0 a1
      rw [Option.some.inj a0, Option.some.inj a1] at h1
      exact h1
    rw [show (1 + (i : Int)) = ((i + 1 : Nat) : Int) by omega]
    refine (show gName 6 _ _ _ _ from ?_)
    fail "go"
    refine k_ixL hL (at_mem (.tail _ m3)) (atI_at b1) ?_
    dsimp only [tC]
    refine ⟨p1, _, 0, _, rfl, rfl, t1.sq (hL.mem (.tail _ (hZ _ n1))), rfl, ?_⟩
    fail "go"
    dsimp only [tC]
    rw [show ((i + 1 : Nat) : Int) - 1 = (i : Int) by omega]
    refine k_ixL hL (at_mem (.tail _ m3)) (atI_at b0) ?_
    fail "go"
    dsimp only [tC]
    refine ⟨p0, _, 0, _, rfl, rfl, t0.sq (hL.mem (.tail _ (hZ _ n0))), rfl, ?_⟩
    fail "go"
    rw [decide_eq_false (by omega)]
    refine iteF ?_
    exact .mk hL
  · clear hQ hD
    have hL := q.out
    clear q
    fail "go"
    refine k_neSame (d := .list []) (dp_lst (hL.mem (.tail _ (.head _))) .nil) (dp_lst (hL.mem (.head _)) .nil) ⟨by simp [PyData.plain, PyData.plainAll], by simp [PyData.depth, PyData.depthAll]⟩ ?_
    fail "go"
    exact kk H hL.tail.tail
end
end Sd


set_option linter.unusedVariables false
namespace Sd
open PySem L2 LamX Mx
open C8 (Cal Met Mak pe_c pe_mk pe_mt pe_mt0 pss_cut tCut)
set_option linter.unusedSimpArgs false
set_option pp.deepTerms false
set_option pp.deepTerms.threshold 12
set_option hygiene false
local macro_rules | `(tactic| fail "nd") => `(tactic| first | assumption | decide +kernel)
local macro_rules | `(tactic| fail "ix") => `(tactic| first | exact ⟨0, rfl⟩ | exact ⟨1, rfl⟩ | exact ⟨2, rfl⟩ | exact ⟨3, rfl⟩ | exact ⟨4, rfl⟩ | exact ⟨5, rfl⟩ | exact ⟨6, rfl⟩ | exact ⟨7, rfl⟩ | exact ⟨8, rfl⟩ | exact ⟨9, rfl⟩ | exact ⟨10, rfl⟩ | exact ⟨11, rfl⟩ | exact ⟨12, rfl⟩ | exact ⟨13, rfl⟩ | exact ⟨14, rfl⟩ | exact ⟨15, rfl⟩ | exact ⟨16, rfl⟩ | exact ⟨17, rfl⟩ | exact ⟨18, rfl⟩ | assumption)
local macro_rules | `(tactic| fail "up") => `(tactic| first | exact ⟨0, rfl, rfl⟩ | exact ⟨1, rfl, rfl⟩ | exact ⟨2, rfl, rfl⟩ | exact ⟨3, rfl, rfl⟩ | exact ⟨4, rfl, rfl⟩ | exact ⟨5, rfl, rfl⟩ | exact ⟨6, rfl, rfl⟩ | exact ⟨7, rfl, rfl⟩ | exact ⟨8, rfl, rfl⟩ | exact ⟨9, rfl, rfl⟩ | exact ⟨10, rfl, rfl⟩ | exact ⟨11, rfl, rfl⟩ | exact ⟨12, rfl, rfl⟩ | exact ⟨13, rfl, rfl⟩ | exact ⟨14, rfl, rfl⟩ | exact ⟨15, rfl, rfl⟩ | exact ⟨16, rfl, rfl⟩ | assumption)
local macro_rules | `(tactic| fail "lkF") => `(tactic| first | assumption | exact fz_at 0 (by fail "nd") rfl rfl | exact fz_at 1 (by fail "nd") rfl rfl | exact fz_at 2 (by fail "nd") rfl rfl | exact fz_at 3 (by fail "nd") rfl rfl | exact fz_at 4 (by fail "nd") rfl rfl | exact fz_at 5 (by fail "nd") rfl rfl | exact fz_at 6 (by fail "nd") rfl rfl | exact fz_at 7 (by fail "nd") rfl rfl)
local macro_rules | `(tactic| fail "lkD") => `(tactic| first | assumption | exact dz_at 0 (by fail "nd") rfl rfl | exact dz_at 1 (by fail "nd") rfl rfl | exact dz_at 2 (by fail "nd") rfl rfl | exact dz_at 3 (by fail "nd") rfl rfl | exact dz_at 4 (by fail "nd") rfl rfl)
local macro_rules | `(tactic| fail "ptF") => `(tactic| first | assumption | exact fz_put 0 (by fail "nd") rfl (Nat.le_of_ble_eq_true rfl) | exact fz_put 1 (by fail "nd") rfl (Nat.le_of_ble_eq_true rfl) | exact fz_put 2 (by fail "nd") rfl (Nat.le_of_ble_eq_true rfl) | exact fz_put 3 (by fail "nd") rfl (Nat.le_of_ble_eq_true rfl) | exact fz_put 4 (by fail "nd") rfl (Nat.le_of_ble_eq_true rfl) | exact fz_put 5 (by fail "nd") rfl (Nat.le_of_ble_eq_true rfl) | exact fz_put 6 (by fail "nd") rfl (Nat.le_of_ble_eq_true rfl) | exact fz_put 7 (by fail "nd") rfl (Nat.le_of_ble_eq_true rfl) | exact fz_new (by decide +kernel) rfl)
local macro_rules | `(tactic| fail "ptD") => `(tactic| first | assumption | exact dz_put 0 (by fail "nd") rfl (Nat.le_of_ble_eq_true rfl) | exact dz_put 1 (by fail "nd") rfl (Nat.le_of_ble_eq_true rfl) | exact dz_put 2 (by fail "nd") rfl (Nat.le_of_ble_eq_true rfl) | exact dz_put 3 (by fail "nd") rfl (Nat.le_of_ble_eq_true rfl) | exact dz_put 4 (by fail "nd") rfl (Nat.le_of_ble_eq_true rfl))
local macro_rules | `(tactic| fail "sz") => `(tactic| first | assumption | exact (Nat.le_of_ble_eq_true rfl) | omega | decide)
local macro_rules | `(tactic| fail "sd") => `(tactic| first | rfl | assumption | decide | omega | (dsimp only; first | decide | omega) | exact .inr ⟨by decide, by decide⟩ | exact .inl ⟨by decide, by decide⟩ | exact ⟨by omega, by omega⟩ | exact .inl ⟨by omega, by omega⟩ | exact .inr ⟨by omega, by omega⟩ | exact ⟨by omega, by omega, by omega⟩)
local macro_rules | `(tactic| fail "cl") => `(tactic| (clear hH; dsimp only [List.set, List.cons_append, List.nil_append, List.append] at hL))
local macro_rules | `(tactic| fail "gn") => `(tactic| (intro p hp; generalize hH : upd H p _ = H; replace hL := Led.newH hL hp hH; clear hH hp))
local macro_rules | `(tactic| fail "gup") => `(tactic| (generalize hH : upd H _ _ = H; replace hL := Led.upU hL (by fail "up") hH; fail "cl"))
local macro_rules | `(tactic| fail "gmk") => `(tactic| (intro x dx hx hd ne; generalize hH : upd (upd H dx _) x _ = H; replace hL := Led.made hL hx hd ne hH; clear hH hx hd ne))
local macro_rules | `(tactic| fail "v") => `(tactic| refine ⟨_, rfl, ?_⟩)
local macro_rules | `(tactic| fail "i2") => `(tactic| refine ⟨_, _, rfl, rfl, ?_⟩)
local macro_rules | `(tactic| fail "go1") => `(tactic| first
  | refine ⟨_, rfl, ?_⟩
  | refine ⟨_, _, rfl, rfl, ?_⟩
  | refine ⟨_, _, rfl, ?_⟩
  | refine iteT ?_
  | refine iteF ?_
  | refine k_fld hL (by fail "ix") (by assumption) (by assumption) (by fail "lkF") ?_
  | refine k_dgetS hL (by fail "ix") (by fail "lkD") ?_
  | refine k_dgetI hL (by fail "ix") (by assumption) ?_
  | refine k_ixL hL (by fail "ix") (by first | rfl | assumption) ?_
  | refine k_ixT hL (by fail "ix") (by first | rfl | assumption) ?_
  | refine k_tyL hL (by fail "ix") ?_
  | refine k_isd hL (by fail "ix") ?_
  | (refine And.intro (by fail "sz") ?_; fail "gn")
  | refine And.intro (by fail "sd") ?_
  | fail "gn"
  | refine k_meth hL (by fail "ix") (by first | assumption | exact fz_no (by decide +kernel)) ?_
  | refine k_gtup hL (by fail "ix") rfl ?_
  | (refine k_popI hL (by fail "ix") (by assumption) ?_; fail "gup")
  | (refine k_listD hL (by fail "ix") ?_; fail "gn")
  | (refine ⟨_, _, _, _, rfl, rfl, hL.at (by fail "ix"), rfl, ?_⟩; fail "gup")
  | (refine ⟨_, _, _, rfl, rfl, hL.at (by fail "ix"), (by fail "sz"), ?_⟩; fail "gup")
  | (refine ⟨_, _, _, _, rfl, hL.at (by fail "ix"), by assumption, by assumption, Nat.lt_of_le_of_lt fz_len (by decide), ?_⟩; generalize hH : upd H _ _ = H; replace hL := Led.upF hL (by fail "up") (by fail "ptF") hH; fail "cl")
  | (refine ⟨_, _, hL.at (by fail "ix"), Nat.lt_of_le_of_lt fz_len (by decide), ?_⟩; generalize hH : upd H _ _ = H; replace hL := Led.upF hL (by fail "up") (by fail "ptF") hH; fail "cl")
  | (refine k_dputS hL (by fail "ix") (Nat.lt_of_le_of_lt dz_len (by decide)) (by fail "ptD") (by fail "up") ?_; clear hL; intro H hL; dsimp only [List.set, List.cons_append, List.nil_append, List.append] at hL)
  | refine k_lenL2 hL (by fail "ix") ?_
  | refine k_lenT2 hL (by fail "ix") ?_
  | refine .inl ⟨_, rfl, ?_⟩
  | refine .inr ⟨_, rfl, ?_⟩)
local macro_rules | `(tactic| fail "go") => `(tactic| repeat fail "go1")
local macro_rules | `(tactic| fail "pm") => `(tactic| (refine Led.le hL (fun a_ => ?_); simp only [cnt_nil, cnt_cons, cnt_app, List.map_append, List.map_cons, List.map_nil, List.flatMap_append, List.flatMap_cons, List.flatMap_nil, List.append_assoc, List.cons_append, List.nil_append]; omega))

def tD6 : TS := fun D σ H => ∃ (d : Addr) (a b c : Int) (L : Lg), σ[1]? = some (some (.ref d)) ∧ σ.length = 34 ∧ Led H ((d, dD a b c) :: L) ∧
  ∀ (ln r1 r2 a b c : Int) (rt ot : Addr) H', 1 ≤ ln → ln ≤ 900 → 0 ≤ r1 → r1 < 21 → 0 ≤ r2 → r2 < 21 → Led H' ((d, dD a b c) :: (rt, .tup [.int (90 + r1), .int 100]) :: (ot, .tup [.int (90 + r2), .int 100]) :: L) →
    D.nx (((σ.set 16 (some (.int ln))).set 26 (some (.ref rt))).set 27 (some (.ref ot))) H'
def tD7 (C : Cl4) : TS := fun D σ H => ∃ (d rt ot : Addr) (a b c r1 r2 : Int) (L : Lg), σ[1]? = some (some (.ref d)) ∧ σ[26]? = some (some (.ref rt)) ∧ σ[27]? = some (some (.ref ot)) ∧ σ.length = 34 ∧
  0 ≤ r1 ∧ r1 < 21 ∧ 0 ≤ r2 ∧ r2 < 21 ∧ (rt, HO.tup [.int (90 + r1), .int 100]) ∈ L ∧ (ot, HO.tup [.int (90 + r2), .int 100]) ∈ L ∧ Led H ((d, dD a b c) :: L) ∧
  ∀ (sc fc : Ck) (bg a b c : Int) H', sc.Ok → fc.Ok → fc.low = 100 → fc.top = 90 + r2 → 0 ≤ bg → bg < 1000 → Led H' ((d, dD a b c) :: (ckL C.C sc ++ (ckL C.C fc ++ L))) →
    D.nx (((σ.set 28 (some (.ref sc.a))).set 29 (some (.ref fc.a))).set 30 (some (.int bg))) H'
def tD8 (C : Cl4) : TS := fun D σ H => ∃ (sc : Ck) (bg ln : Int) (L : Lg), σ[16]? = some (some (.int ln)) ∧ σ[28]? = some (some (.ref sc.a)) ∧ σ[30]? = some (some (.int bg)) ∧ σ.length = 34 ∧
  sc.Ok ∧ 1 ≤ ln ∧ ln ≤ 900 ∧ 0 ≤ bg ∧ bg < 1000 ∧ ckO C.C sc ∈ L ∧ ckR sc ∈ L ∧ Led H L ∧
  ∀ (ov : Int) H', bg ≤ ov - 1 → sc.at (ov - 1) < sc.at bg + ln → Led H' L → D.nx (σ.set 31 (some (.int ov))) H'
def tD9 (C : Cl4) : TS := fun D σ H => ∃ (fc : Ck) (bg ov ln : Int) (L : Lg), σ[16]? = some (some (.int ln)) ∧ σ[29]? = some (some (.ref fc.a)) ∧ σ[30]? = some (some (.int bg)) ∧ σ[31]? = some (some (.int ov)) ∧ σ.length = 34 ∧
  fc.Ok ∧ 1 ≤ ln ∧ fc.at ov - fc.at bg ≤ waitI ln ∧ ckO C.C fc ∈ L ∧ ckR fc ∈ L ∧ Led H L ∧ ∀ H', Led H' L → D.nx σ H'
def tD10 (C : Cl4) : TS := fun D σ H => ∃ (fc : Ck) (ot : Addr) (r2 : Int) (L : Lg), σ[27]? = some (some (.ref ot)) ∧ σ[29]? = some (some (.ref fc.a)) ∧ σ.length = 34 ∧
  fc.Ok ∧ fc.low = 100 ∧ fc.top = 90 + r2 ∧ (ot, HO.tup [.int (90 + r2), .int 100]) ∈ L ∧ ckO C.C fc ∈ L ∧ ckR fc ∈ L ∧ Led H L ∧ ∀ H', Led H' L → D.nx σ H'
theorem wait_fast {sc fc : Ck} (h1 : sc.Ok) (h2 : fc.Ok) {bg ov ln : Int} (hb : bg ≤ ov - 1) (hl : sc.at (ov - 1) < sc.at bg + ln) : fc.at ov - fc.at bg ≤ waitI ln := by
  have e1 := ck_lo h1 hb hl
  have e2 := ck_up h2 (by omega : bg ≤ ov)
  unfold waitI
  omega
section
variable {P : Program} {w : World} {K : PySem.W.Frag} {mg : Str → Option Value} {base : Heap} {C : Cl4} {f cL : Addr} {A : Around} {outer : List Env} {s0 : Shared} {H0 : Hp} {E : XK}
theorem st_d6 (hr : Room 20 (LX P w K mg base f (.ref cL) A outer s0 H0 E).A) (c__law_roll : Cal P w K mg base 1 "_law_roll" spRoll []) : PS (LX P w K mg base f (.ref cL) A outer s0 H0 E) (nth diceB 6) tD6 := by
  refine ps_imp (t := _) (ps_asg (pe_tup (pa_cons (pe_op op_add pe_int (pe_c c__law_roll hr (by decide) (by rfl) (pa_cons (pv 1) (pa_cons pe_int pa_nil)))) (pa_cons (pe_tup (pa_cons (pe_op op_add pe_int (pe_c c__law_roll hr (by decide) (by rfl) (pa_cons (pv 1) (pa_cons pe_int pa_nil)))) (pa_cons pe_int pa_nil))) (pa_cons (pe_tup (pa_cons (pe_op op_add pe_int (pe_c c__law_roll hr (by decide) (by rfl) (pa_cons (pv 1) (pa_cons pe_int pa_nil)))) (pa_cons pe_int pa_nil))) pa_nil)))) (pg_tup (by rfl) (pgs_cons (pg_name (i := 16) scLaw.nd rfl (Or.inr rfl)) (pgs_cons (pg_name (i := 26) scLaw.nd rfl (Or.inl rfl)) (pgs_cons (pg_name (i := 27) scLaw.nd rfl (Or.inl rfl)) pgs_nil))))) ?_
  rintro D σ H ⟨d, a, b, c, L, hs1, hsl, hL, kk⟩
  match σ, hs1, hsl with
  | v0 :: v1 :: v2 :: v3 :: v4 :: v5 :: v6 :: v7 :: v8 :: v9 :: v10 :: v11 :: v12 :: v13 :: v14 :: v15 :: v16 :: v17 :: v18 :: v19 :: v20 :: v21 :: v22 :: v23 :: v24 :: v25 :: v26 :: v27 :: v28 :: v29 :: v30 :: v31 :: v32 :: v33 :: [], hs1, _ =>
  cases hs1
  fail "go"
  refine ⟨d, a, b, c, 900, _, rfl, hL, by decide, by decide, fun r0 a b c H hr0 hr1 hL2 => ?_⟩
  clear hL
  fail "go"
  refine ⟨d, a, b, c, 21, _, rfl, hL2, by decide, by decide, fun r1 a b c H hr2 hr3 hL => ?_⟩
  clear hL2
  fail "go"
  have hB : Led H ((d, dD a b c) :: (p, .tup [.int (90 + r1), .int 100]) :: L) := hL.le (fun a_ => by
    simp only [cnt_cons]
    omega)
  clear hL
  dsimp only [tNil, tCons, tC, List.cons_append, List.nil_append]
  refine ⟨d, a, b, c, 21, _, rfl, hB, by decide, by decide, fun r2 a b c H hr4 hr5 hL => ?_⟩
  clear hB
  fail "go"
  exact kk (1 + r0) r1 r2 a b c _ _ H (by omega) (by omega) hr2 hr3 hr4 hr5 (hL.le (fun a_ => by
    simp only [cnt_cons]
    omega))
theorem st_d7 (hr : Room 20 (LX P w K mg base f (.ref cL) A outer s0 H0 E).A) (c__law_roll : Cal P w K mg base 1 "_law_roll" spRoll []) (c_DriftClock : Mak P w K mg base 1 "DriftClock" C.C (spCInit C.C) []) (c_DriftClock_d : Mak P w K mg base 1 "DriftClock" C.C (spCInit C.C) [.int 0]) : PS (LX P w K mg base f (.ref cL) A outer s0 H0 E) (nth diceB 7) (tD7 C) := by
  refine ps_imp (t := _) (ps_asg (pe_tup (pa_cons (pe_mk c_DriftClock_d hr (by decide) (by rfl) (pa_cons (pv 26) pa_nil)) (pa_cons (pe_mk c_DriftClock hr (by decide) (by rfl) (pa_cons (pv 27) (pa_cons (pe_c c__law_roll hr (by decide) (by rfl) (pa_cons (pv 1) (pa_cons pe_int pa_nil))) pa_nil))) (pa_cons (pe_c c__law_roll hr (by decide) (by rfl) (pa_cons (pv 1) (pa_cons pe_int pa_nil))) pa_nil)))) (pg_tup (by rfl) (pgs_cons (pg_name (i := 28) scLaw.nd rfl (Or.inr rfl)) (pgs_cons (pg_name (i := 29) scLaw.nd rfl (Or.inl rfl)) (pgs_cons (pg_name (i := 30) scLaw.nd rfl (Or.inr rfl)) pgs_nil))))) ?_
  rintro D σ H ⟨d, rt, ot, a, b, c, r1, r2, L, hs1, hs26, hs27, hsl, h1, h2, h3, h4, m1, m2, hL, kk⟩
  match σ, hs1, hs26, hs27, hsl with
  | v0 :: v1 :: v2 :: v3 :: v4 :: v5 :: v6 :: v7 :: v8 :: v9 :: v10 :: v11 :: v12 :: v13 :: v14 :: v15 :: v16 :: v17 :: v18 :: v19 :: v20 :: v21 :: v22 :: v23 :: v24 :: v25 :: v26 :: v27 :: v28 :: v29 :: v30 :: v31 :: v32 :: v33 :: [], hs1, hs26, hs27, _ =>
  cases hs1
  cases hs26
  cases hs27
  fail "go"
  dsimp only [tNil]
  intro x dx hx hd ne
  generalize hH : upd (upd H dx _) x _ = H
  have hL2 := Led.made hL hx hd ne hH
  clear hH hx hd ne hL
  refine ⟨x, dx, rt, 90 + r1, 100, 0, _, rfl, hL2, .tail _ m1, rate_ok h1 h2, fun rt2 H hL => ?_⟩
  clear hL2
  refine ⟨rfl, ?_⟩
  obtain ⟨sc, hsc, hsa⟩ : ∃ sc : Ck, sc = ⟨x, dx, rt2, 90 + r1, 100, 0⟩ ∧ sc.a = x := ⟨_, rfl, rfl⟩
  rw [← hsc] at hL
  have ok1 : sc.Ok := by rw [hsc]; exact rate_ok h1 h2
  rw [← hsa]
  clear hsc hsa
  have hB : Led H ((d, dD a b c) :: (ckL C.C sc ++ L)) := hL.le (fun a_ => by
    simp only [cnt_cons, cnt_app]
    omega)
  clear hL
  fail "go"
  dsimp only [tNil, tCons, tC, List.cons_append, List.nil_append]
  refine ⟨d, a, b, c, 9, _, rfl, hB, by decide, by decide, fun b2 a b c H hb0 hb1 hL => ?_⟩
  clear hB
  intro x dx hx hd ne
  generalize hH : upd (upd H dx _) x _ = H
  have hL2 := Led.made hL hx hd ne hH
  clear hH hx hd ne hL
  refine ⟨x, dx, ot, 90 + r2, 100, b2, _, rfl, hL2, .tail _ (List.mem_append_right _ m2), rate_ok h3 h4, fun rt2 H hL => ?_⟩
  clear hL2
  refine ⟨rfl, ?_⟩
  obtain ⟨fc, hsc, hsa, hsl2, hst⟩ : ∃ fc : Ck, fc = ⟨x, dx, rt2, 90 + r2, 100, b2⟩ ∧ fc.a = x ∧ fc.low = 100 ∧ fc.top = 90 + r2 := ⟨_, rfl, rfl, rfl, rfl⟩
  rw [← hsc] at hL
  have ok2 : fc.Ok := by rw [hsc]; exact rate_ok h3 h4
  rw [← hsa]
  clear hsc hsa
  have hB : Led H ((d, dD a b c) :: (ckL C.C sc ++ (ckL C.C fc ++ L))) := hL.le (fun a_ => by
    simp only [cnt_cons, cnt_app]
    omega)
  clear hL
  fail "go"
  dsimp only [tNil, tCons, tC, List.cons_append, List.nil_append]
  refine ⟨d, a, b, c, 1000, _, rfl, hB, by decide, by decide, fun bg a b c H hg0 hg1 hL => ?_⟩
  clear hB
  fail "go"
  exact kk sc fc bg a b c H ok1 ok2 hsl2 hst hg0 hg1 (hL.le (fun a_ => by
    simp only [cnt_cons]
    omega))
theorem st_d8 (hr : Room 20 (LX P w K mg base f (.ref cL) A outer s0 H0 E).A) (T : TxtLw mg) (c_DriftClock_at : Met P w K mg base 1 C.C "at" (spCAt C.C) []) : PS (LX P w K mg base f (.ref cL) A outer s0 H0 E) (nth diceB 8) (tD8 C) := by
  refine ps_imp (t := _) (ps_set (i := 31) scLaw.nd rfl (Or.inl rfl) (pe_ix ix_list (pe_lc (own := [("moment", 32)]) (g := gName 32) (by rfl) scLaw.nd (pi_range2 (by rfl) T.range (pa_cons (pv 30) (pa_cons (pe_op op_add (pv 30) pe_int) pa_nil))) (blkOk_by (own := [("moment", 32)]) (N := NLw) (sc := (defScope sLaw)) (by decide +kernel)) (fun _ _ _ _ _ => (pg_name (i := 32) scLaw.nd rfl (Or.inl rfl))) (fun _ _ _ _ _ => (pts_one (pt_cmpR op_ge (pe_op op_sub (pe_mt c_DriftClock_at hr (by decide) (pv 28) (pa_cons (pv 32) pa_nil)) (pe_mt c_DriftClock_at hr (by decide) (pv 28) (pa_cons (pv 30) pa_nil))) (pv 16) (nomark _)))) (fun _ _ _ _ _ => (pv 32))) pe_int (fun _ _ => rfl))) ?_
  rintro D σ H ⟨sc, bg, ln, L, hs16, hs28, hs30, hsl, h1, h2, h3, h4, h5, m1, m2, hL, kk⟩
  match σ, hs16, hs28, hs30, hsl with
  | v0 :: v1 :: v2 :: v3 :: v4 :: v5 :: v6 :: v7 :: v8 :: v9 :: v10 :: v11 :: v12 :: v13 :: v14 :: v15 :: v16 :: v17 :: v18 :: v19 :: v20 :: v21 :: v22 :: v23 :: v24 :: v25 :: v26 :: v27 :: v28 :: v29 :: v30 :: v31 :: v32 :: v33 :: [], hs16, hs28, hs30, _ =>
  cases hs16
  cases hs28
  cases hs30
  have hQ := hL
  clear hL
  fail "go"
  rw [show (bg + 3000 - bg).toNat = 3000 by omega]
  intro D1 hD
  refine lc_range (lo := bg) (n := 3000) (fun i H => Hold (∃ vs : List V, vs.length ≤ i ∧ ((vs = [] ∧ ∀ j : Nat, j < i → sc.at (bg + j) < sc.at bg + ln) ∨ ∃ (ov : Int) (r : List V), vs = .int ov :: r ∧ bg ≤ ov - 1 ∧ sc.at (ov - 1) < sc.at bg + ln) ∧ Led H ((D1, .lst vs) :: L)))
    (.mk ⟨[], Nat.le_refl _, .inl ⟨rfl, fun j h => absurd h (Nat.not_lt_zero _)⟩, hQ.new hD⟩) (fun i H hi q => ?_) (fun H q => ?_)
  · clear hQ hD
    obtain ⟨vs, hv, ha, hL⟩ := q.out
    clear q
    refine (show gName 32 _ _ _ _ from ?_)
    fail "go"
    refine k_meth hL (at_mem (.tail _ m1)) (fz_no (by decide +kernel)) ?_
    fail "go"
    dsimp only [tNil, tCons, tC, List.cons_append, List.nil_append]
    refine ⟨sc, bg + i, _, rfl, hL, .tail _ m1, .tail _ m2, h1, fun H hL => ?_⟩
    fail "go"
    refine k_meth hL (at_mem (.tail _ m1)) (fz_no (by decide +kernel)) ?_
    fail "go"
    dsimp only [tNil, tCons, tC, List.cons_append, List.nil_append]
    refine ⟨sc, bg, _, rfl, hL, .tail _ m1, .tail _ m2, h1, fun H hL => ?_⟩
    fail "go"
    have hz : 3000 < sizeLine := by decide
    refine ite_d (fun hh => ?_) fun hh => ?_
    · fail "go"
      refine ⟨vs, hL.at ⟨0, rfl⟩, by omega, .mk ⟨vs ++ [.int (bg + i)], by rw [List.length_append, List.length_singleton]; omega, .inr ?_, hL.set 0 rfl⟩⟩
      rcases ha with ⟨rfl, hn⟩ | ⟨ov, r, rfl, e1, e2⟩
      · have hi0 : 0 < i := by
          rcases Nat.eq_zero_or_pos i with h | h
          · subst h
            rw [show bg + ((0 : Nat) : Int) = bg by omega] at hh
            omega
          · exact h
        have h6 := hn (i - 1) (by omega)
        rw [show bg + ((i - 1 : Nat) : Int) = bg + i - 1 by omega] at h6
        exact ⟨bg + i, [], rfl, by omega, h6⟩
      · exact ⟨ov, r ++ [.int (bg + i)], rfl, e1, e2⟩
    · refine .mk ⟨vs, by omega, ?_, hL⟩
      rcases ha with ⟨rfl, hn⟩ | ⟨ov, r, rfl, e1, e2⟩
      · refine .inl ⟨rfl, fun j hj => ?_⟩
        rcases Nat.lt_or_ge j i with h | h
        · exact hn j h
        · rw [show j = i by omega]
          omega
      · exact .inr ⟨ov, r, rfl, e1, e2⟩
  · clear hQ hD
    obtain ⟨vs, hv, ha, hL⟩ := q.out
    clear q
    rcases ha with ⟨_, hn⟩ | ⟨ov, r, rfl, e1, e2⟩
    · exfalso
      have e1 := ck_lo h1 (by omega : bg ≤ bg + (2999 : Nat)) (hn 2999 (by omega))
      omega
    · dsimp only [tC]
      refine k_ixL hL ⟨0, rfl⟩ (v := .int ov) (atI_at (xs := .int ov :: r) (j := 0) rfl) ?_
      fail "go"
      exact kk ov H e1 e2 hL.tail
theorem st_d9 (hr : Room 20 (LX P w K mg base f (.ref cL) A outer s0 H0 E).A) (c_DriftClock_at : Met P w K mg base 1 C.C "at" (spCAt C.C) []) (c_waiting_time : Cal P w K mg base 1 "waiting_time" spWait []) : PS (LX P w K mg base f (.ref cL) A outer s0 H0 E) (nth diceB 9) (tD9 C) := by
  refine ps_imp (t := _) (ps_if (PW.pt (pw_or (pt_cmpR op_gt (pe_op op_sub (pe_mt c_DriftClock_at hr (by decide) (pv 29) (pa_cons (pv 31) pa_nil)) (pe_mt c_DriftClock_at hr (by decide) (pv 29) (pa_cons (pv 30) pa_nil))) (pe_c c_waiting_time hr (by decide) (by rfl) (pa_cons (pv 16) pa_nil)) (nomark _)) (pw_or1 (pt_cmpR op_gt (pe_c c_waiting_time hr (by decide) (by rfl) (pa_cons (pv 16) pa_nil)) (pe_op op_add (pe_op op_mul (pv 16) pe_int) pe_int) (nomark _)))))
  (pss_one (ps_ret pe_bl))
  pss_nil) ?_
  rintro D σ H ⟨fc, bg, ov, ln, L, hs16, hs29, hs30, hs31, hsl, h1, h2, h3, m1, m2, hL, kk⟩
  match σ, hs16, hs29, hs30, hs31, hsl with
  | v0 :: v1 :: v2 :: v3 :: v4 :: v5 :: v6 :: v7 :: v8 :: v9 :: v10 :: v11 :: v12 :: v13 :: v14 :: v15 :: v16 :: v17 :: v18 :: v19 :: v20 :: v21 :: v22 :: v23 :: v24 :: v25 :: v26 :: v27 :: v28 :: v29 :: v30 :: v31 :: v32 :: v33 :: [], hs16, hs29, hs30, hs31, _ =>
  cases hs16
  cases hs29
  cases hs30
  cases hs31
  fail "go"
  refine k_meth hL (at_mem m1) (fz_no (by decide +kernel)) ?_
  fail "go"
  dsimp only [tNil, tCons, tC, List.cons_append, List.nil_append]
  refine ⟨fc, ov, _, rfl, hL, m1, m2, h1, fun H hL => ?_⟩
  fail "go"
  refine k_meth hL (at_mem m1) (fz_no (by decide +kernel)) ?_
  fail "go"
  dsimp only [tNil, tCons, tC, List.cons_append, List.nil_append]
  refine ⟨fc, bg, _, rfl, hL, m1, m2, h1, fun H hL => ?_⟩
  fail "go"
  rw [decide_eq_false (by omega)]
  refine iteF ?_
  fail "go"
  dsimp only
  rw [decide_eq_false (by unfold waitI; omega)]
  refine iteF ?_
  exact kk H hL
theorem st_d10 (hr : Room 20 (LX P w K mg base f (.ref cL) A outer s0 H0 E).A) (XC : TxtCl K C.C nmC) (c_DriftClock_at : Met P w K mg base 1 C.C "at" (spCAt C.C) []) : PS (LX P w K mg base f (.ref cL) A outer s0 H0 E) (nth diceB 10) (tD10 C) := by
  refine ps_imp (t := _) (ps_if (PW.pt (pw_or (pt_cmpR op_ne (pe_mt c_DriftClock_at hr (by decide) (pv 29) (pa_cons pe_int pa_nil)) (pe_fld (pv 29) rfl) (nomark _)) (pw_or1 (pt_cmpR op_ne (pe_op op_sub (pe_mt c_DriftClock_at hr (by decide) (pv 29) (pa_cons pe_int pa_nil)) (pe_fld (pv 29) rfl)) (pe_ix ix_tup (pv 27) pe_int (fun _ _ => rfl)) (nomark _)))))
  (pss_one (ps_ret pe_bl))
  pss_nil) ?_
  rintro D σ H ⟨fc, ot, r2, L, hs27, hs29, hsl, h1, h2, h3, m0, m1, m2, hL, kk⟩
  match σ, hs27, hs29, hsl with
  | v0 :: v1 :: v2 :: v3 :: v4 :: v5 :: v6 :: v7 :: v8 :: v9 :: v10 :: v11 :: v12 :: v13 :: v14 :: v15 :: v16 :: v17 :: v18 :: v19 :: v20 :: v21 :: v22 :: v23 :: v24 :: v25 :: v26 :: v27 :: v28 :: v29 :: v30 :: v31 :: v32 :: v33 :: [], hs27, hs29, _ =>
  cases hs27
  cases hs29
  have c1 := XC.cl
  have f1 := XC.n "begun" (by decide +kernel)
  fail "go"
  refine k_meth hL (at_mem m1) (fz_no (by decide +kernel)) ?_
  fail "go"
  dsimp only [tNil, tCons, tC, List.cons_append, List.nil_append]
  refine ⟨fc, 0, _, rfl, hL, m1, m2, h1, fun H hL => ?_⟩
  fail "go"
  refine k_fld hL (at_mem m1) c1 f1 (fz_at 1 (by decide +kernel) rfl rfl) ?_
  fail "go"
  have e0 : fc.at 0 = fc.b := by
    unfold Ck.at
    rw [Int.zero_mul, Int.zero_ediv]
    omega
  have e1 : fc.at 100 - fc.b = 90 + r2 := by
    unfold Ck.at
    rw [h2, h3, Int.mul_comm, Int.mul_ediv_cancel _ (by decide)]
    omega
  rw [e0, show decide (V.int fc.b = V.int fc.b) = true from decide_eq_true rfl]
  refine iteF ?_
  fail "go"
  refine k_meth hL (at_mem m1) (fz_no (by decide +kernel)) ?_
  fail "go"
  dsimp only [tNil, tCons, tC, List.cons_append, List.nil_append]
  refine ⟨fc, 100, _, rfl, hL, m1, m2, h1, fun H hL => ?_⟩
  fail "go"
  refine k_fld hL (at_mem m1) c1 f1 (fz_at 1 (by decide +kernel) rfl rfl) ?_
  fail "go"
  dsimp only [tC]
  refine k_ixT hL (at_mem m0) rfl ?_
  fail "go"
  rw [e1, show decide (V.int (90 + r2) = V.int (90 + r2)) = true from decide_eq_true rfl]
  fail "go"
  exact kk H hL
end
end Sd


set_option linter.unusedVariables false
namespace Sd
open PySem L2 LamX Mx
open C8 (Cal Met Mak pe_c pe_mk pe_mt pe_mt0 pss_cut tCut)
set_option linter.unusedSimpArgs false
set_option pp.deepTerms false
set_option pp.deepTerms.threshold 12
set_option hygiene false
local macro_rules | `(tactic| fail "nd") => `(tactic| first | assumption | decide +kernel)
local macro_rules | `(tactic| fail "ix") => `(tactic| first | exact ⟨0, rfl⟩ | exact ⟨1, rfl⟩ | exact ⟨2, rfl⟩ | exact ⟨3, rfl⟩ | exact ⟨4, rfl⟩ | exact ⟨5, rfl⟩ | exact ⟨6, rfl⟩ | exact ⟨7, rfl⟩ | exact ⟨8, rfl⟩ | exact ⟨9, rfl⟩ | exact ⟨10, rfl⟩ | exact ⟨11, rfl⟩ | exact ⟨12, rfl⟩ | exact ⟨13, rfl⟩ | exact ⟨14, rfl⟩ | exact ⟨15, rfl⟩ | exact ⟨16, rfl⟩ | exact ⟨17, rfl⟩ | exact ⟨18, rfl⟩ | assumption)
local macro_rules | `(tactic| fail "up") => `(tactic| first | exact ⟨0, rfl, rfl⟩ | exact ⟨1, rfl, rfl⟩ | exact ⟨2, rfl, rfl⟩ | exact ⟨3, rfl, rfl⟩ | exact ⟨4, rfl, rfl⟩ | exact ⟨5, rfl, rfl⟩ | exact ⟨6, rfl, rfl⟩ | exact ⟨7, rfl, rfl⟩ | exact ⟨8, rfl, rfl⟩ | exact ⟨9, rfl, rfl⟩ | exact ⟨10, rfl, rfl⟩ | exact ⟨11, rfl, rfl⟩ | exact ⟨12, rfl, rfl⟩ | exact ⟨13, rfl, rfl⟩ | exact ⟨14, rfl, rfl⟩ | exact ⟨15, rfl, rfl⟩ | exact ⟨16, rfl, rfl⟩ | assumption)
local macro_rules | `(tactic| fail "lkF") => `(tactic| first | assumption | exact fz_at 0 (by fail "nd") rfl rfl | exact fz_at 1 (by fail "nd") rfl rfl | exact fz_at 2 (by fail "nd") rfl rfl | exact fz_at 3 (by fail "nd") rfl rfl | exact fz_at 4 (by fail "nd") rfl rfl | exact fz_at 5 (by fail "nd") rfl rfl | exact fz_at 6 (by fail "nd") rfl rfl | exact fz_at 7 (by fail "nd") rfl rfl)
local macro_rules | `(tactic| fail "lkD") => `(tactic| first | assumption | exact dz_at 0 (by fail "nd") rfl rfl | exact dz_at 1 (by fail "nd") rfl rfl | exact dz_at 2 (by fail "nd") rfl rfl | exact dz_at 3 (by fail "nd") rfl rfl | exact dz_at 4 (by fail "nd") rfl rfl)
local macro_rules | `(tactic| fail "ptF") => `(tactic| first | assumption | exact fz_put 0 (by fail "nd") rfl (Nat.le_of_ble_eq_true rfl) | exact fz_put 1 (by fail "nd") rfl (Nat.le_of_ble_eq_true rfl) | exact fz_put 2 (by fail "nd") rfl (Nat.le_of_ble_eq_true rfl) | exact fz_put 3 (by fail "nd") rfl (Nat.le_of_ble_eq_true rfl) | exact fz_put 4 (by fail "nd") rfl (Nat.le_of_ble_eq_true rfl) | exact fz_put 5 (by fail "nd") rfl (Nat.le_of_ble_eq_true rfl) | exact fz_put 6 (by fail "nd") rfl (Nat.le_of_ble_eq_true rfl) | exact fz_put 7 (by fail "nd") rfl (Nat.le_of_ble_eq_true rfl) | exact fz_new (by decide +kernel) rfl)
local macro_rules | `(tactic| fail "ptD") => `(tactic| first | assumption | exact dz_put 0 (by fail "nd") rfl (Nat.le_of_ble_eq_true rfl) | exact dz_put 1 (by fail "nd") rfl (Nat.le_of_ble_eq_true rfl) | exact dz_put 2 (by fail "nd") rfl (Nat.le_of_ble_eq_true rfl) | exact dz_put 3 (by fail "nd") rfl (Nat.le_of_ble_eq_true rfl) | exact dz_put 4 (by fail "nd") rfl (Nat.le_of_ble_eq_true rfl))
local macro_rules | `(tactic| fail "sz") => `(tactic| first | assumption | exact (Nat.le_of_ble_eq_true rfl) | omega | decide)
local macro_rules | `(tactic| fail "sd") => `(tactic| first | rfl | assumption | decide | omega | (dsimp only; first | decide | omega) | exact .inr ⟨by decide, by decide⟩ | exact .inl ⟨by decide, by decide⟩ | exact ⟨by omega, by omega⟩ | exact .inl ⟨by omega, by omega⟩ | exact .inr ⟨by omega, by omega⟩ | exact ⟨by omega, by omega, by omega⟩)
local macro_rules | `(tactic| fail "cl") => `(tactic| (clear hH; dsimp only [List.set, List.cons_append, List.nil_append, List.append] at hL))
local macro_rules | `(tactic| fail "gn") => `(tactic| (intro p hp; generalize hH : upd H p _ = H; replace hL := Led.newH hL hp hH; clear hH hp))
local macro_rules | `(tactic| fail "gup") => `(tactic| (generalize hH : upd H _ _ = H; replace hL := Led.upU hL (by fail "up") hH; fail "cl"))
local macro_rules | `(tactic| fail "gmk") => `(tactic| (intro x dx hx hd ne; generalize hH : upd (upd H dx _) x _ = H; replace hL := Led.made hL hx hd ne hH; clear hH hx hd ne))
local macro_rules | `(tactic| fail "v") => `(tactic| refine ⟨_, rfl, ?_⟩)
local macro_rules | `(tactic| fail "i2") => `(tactic| refine ⟨_, _, rfl, rfl, ?_⟩)
local macro_rules | `(tactic| fail "go1") => `(tactic| first
  | refine ⟨_, rfl, ?_⟩
  | refine ⟨_, _, rfl, rfl, ?_⟩
  | refine ⟨_, _, rfl, ?_⟩
  | refine iteT ?_
  | refine iteF ?_
  | refine k_fld hL (by fail "ix") (by assumption) (by assumption) (by fail "lkF") ?_
  | refine k_dgetS hL (by fail "ix") (by fail "lkD") ?_
  | refine k_dgetI hL (by fail "ix") (by assumption) ?_
  | refine k_ixL hL (by fail "ix") (by first | rfl | assumption) ?_
  | refine k_ixT hL (by fail "ix") (by first | rfl | assumption) ?_
  | refine k_tyL hL (by fail "ix") ?_
  | refine k_isd hL (by fail "ix") ?_
  | (refine And.intro (by fail "sz") ?_; fail "gn")
  | refine And.intro (by fail "sd") ?_
  | fail "gn"
  | refine k_meth hL (by fail "ix") (by first | assumption | exact fz_no (by decide +kernel)) ?_
  | refine k_gtup hL (by fail "ix") rfl ?_
  | (refine k_popI hL (by fail "ix") (by assumption) ?_; fail "gup")
  | (refine k_listD hL (by fail "ix") ?_; fail "gn")
  | (refine ⟨_, _, _, _, rfl, rfl, hL.at (by fail "ix"), rfl, ?_⟩; fail "gup")
  | (refine ⟨_, _, _, rfl, rfl, hL.at (by fail "ix"), (by fail "sz"), ?_⟩; fail "gup")
  | (refine ⟨_, _, _, _, rfl, hL.at (by fail "ix"), by assumption, by assumption, Nat.lt_of_le_of_lt fz_len (by decide), ?_⟩; generalize hH : upd H _ _ = H; replace hL := Led.upF hL (by fail "up") (by fail "ptF") hH; fail "cl")
  | (refine ⟨_, _, hL.at (by fail "ix"), Nat.lt_of_le_of_lt fz_len (by decide), ?_⟩; generalize hH : upd H _ _ = H; replace hL := Led.upF hL (by fail "up") (by fail "ptF") hH; fail "cl")
  | (refine k_dputS hL (by fail "ix") (Nat.lt_of_le_of_lt dz_len (by decide)) (by fail "ptD") (by fail "up") ?_; clear hL; intro H hL; dsimp only [List.set, List.cons_append, List.nil_append, List.append] at hL)
  | refine k_lenL2 hL (by fail "ix") ?_
  | refine k_lenT2 hL (by fail "ix") ?_
  | refine .inl ⟨_, rfl, ?_⟩
  | refine .inr ⟨_, rfl, ?_⟩)
local macro_rules | `(tactic| fail "go") => `(tactic| repeat fail "go1")
local macro_rules | `(tactic| fail "pm") => `(tactic| (refine Led.le hL (fun a_ => ?_); simp only [cnt_nil, cnt_cons, cnt_app, List.map_append, List.map_cons, List.map_nil, List.flatMap_append, List.flatMap_cons, List.flatMap_nil, List.append_assoc, List.cons_append, List.nil_append]; omega))

/-- a loop over a range, in the midst of a block -/
theorem for_rangeN {lo : Int} {n : Nat} {g : TG} {tb : TS} {D : Ends} {nx : L2.St → Hp → Prop} {σ : L2.St} {H : Hp} (Pv : Nat → L2.St → Hp → Prop) (h0 : Pv 0 σ H)
    (hs : ∀ i σ H (D' : Ends), i < n → Pv i σ H → EndsA (Pv (i + 1)) { D with nx := nx } D' → g (.int (lo + i)) σ H fun σ2 H2 => tb D' σ2 H2) (hd : ∀ σ H, Pv n σ H → nx σ H) :
    ∃ W : Nat → Nat → L2.St → Hp → Prop, (∃ m, W 0 m σ H) ∧ ∀ i m σ H, W i m σ H →
      ((Itr lo n).stop i H ∧ nx σ H) ∨ ((Itr lo n).go i H ∧ ∃ N : L2.St → Hp → Prop, (∀ σ' H', N σ' H' → ∃ m', m' < m ∧ W (i + 1) m' σ' H') ∧ ∀ x H', (Itr lo n).yld i H x H' → g x σ H' fun σ2 H2 => tb { nx := N, ct := N, bk := nx, rt := D.rt } σ2 H2) :=
  for_rangeA (D := { D with nx := nx }) Pv h0 hs hd
def tDice (K : PySem.W.Frag) : TS := fun D σ H => ∃ (a : Addr) (ns : List Int) (L : Lg), σ = L2.start NLw [.ref a] ∧ SqL K H a (ns.map V.int) ∧ Led H L ∧
  ∀ σ' H', σ'.length = 34 → Led H' L → D.nx σ' H'
section
variable {P : Program} {w : World} {K : PySem.W.Frag} {mg : Str → Option Value} {base : Heap} {C : Cl4} {f cL : Addr} {A : Around} {outer : List Env} {s0 : Shared} {H0 : Hp} {E : XK}
theorem st_dice (hr : Room 20 (LX P w K mg base f (.ref cL) A outer s0 H0 E).A) (T : TxtLw mg) (c__law_rounds : Cal P w K mg base 2 "_law_rounds" (spRounds K) []) (c__law_roll : Cal P w K mg base 1 "_law_roll" spRoll [])
    (b0 : PS (LX P w K mg base f (.ref cL) A outer s0 H0 E) (nth diceB 0) (tD0 C)) (b1 : PS (LX P w K mg base f (.ref cL) A outer s0 H0 E) (nth diceB 1) (tD1 C)) (b2 : PS (LX P w K mg base f (.ref cL) A outer s0 H0 E) (nth diceB 2) (tD2 P w)) (b3 : PS (LX P w K mg base f (.ref cL) A outer s0 H0 E) (nth diceB 3) tD3)
    (bS : PSs (LX P w K mg base f (.ref cL) A outer s0 H0 E) stepB (tStep P w C)) (b5 : PS (LX P w K mg base f (.ref cL) A outer s0 H0 E) (nth diceB 5) (tD5 C)) (b6 : PS (LX P w K mg base f (.ref cL) A outer s0 H0 E) (nth diceB 6) tD6) (b7 : PS (LX P w K mg base f (.ref cL) A outer s0 H0 E) (nth diceB 7) (tD7 C))
    (b8 : PS (LX P w K mg base f (.ref cL) A outer s0 H0 E) (nth diceB 8) (tD8 C)) (b9 : PS (LX P w K mg base f (.ref cL) A outer s0 H0 E) (nth diceB 9) (tD9 C)) (b10 : PS (LX P w K mg base f (.ref cL) A outer s0 H0 E) (nth diceB 10) (tD10 C)) :
    PS (LX P w K mg base f (.ref cL) A outer s0 H0 E) (nth (defBody sLaw) 0) (tDice K) := by
  refine ps_imp (t := _) (ps_for PassesOwn.never rfl (pi_list (pe_c c__law_rounds hr (by decide) (by rfl) (pa_cons (pv 0) (pa_cons pe_int pa_nil)))) (pg_name (i := 1) scLaw.nd rfl (Or.inr rfl))
  (pss_cons b0
  (pss_cons b1
  (pss_cons b2
  (pss_cons b3
  (pss_cons (ps_for PassesOwn.never rfl (pi_range1 (by rfl) T.range (pa_cons (pe_c c__law_roll hr (by decide) (by rfl) (pa_cons (pv 1) (pa_cons pe_int pa_nil))) pa_nil)) (pg_name (i := 12) scLaw.nd rfl (Or.inl rfl))
  bS)
  (pss_cons b5
  (pss_cons b6
  (pss_cons b7
  (pss_cons b8
  (pss_cons b9
  (pss_one b10)))))))))))) ?_
  rintro D σ H ⟨a, ns0, L, rfl, hS, hL, kk⟩
  fail "go"
  refine ⟨a, ns0, _, rfl, hS, hL, fun pr d x1 y1 z1 H hL2 => ?_⟩
  clear hL
  have hL := hL2
  clear hL2
  fail "go"
  refine ⟨⟨_, .of (hL.at ⟨0, rfl⟩)⟩, for_listA (K := K) (a := pr) (xs := [.ref d]) (fun i σ H => Hold ((i = 0 ∧ σ = L2.start NLw [.ref a] ∧ Led H ((pr, .lst [.ref d]) :: (d, dD x1 y1 z1) :: L)) ∨
    (i = 1 ∧ σ.length = 34 ∧ Led H ((pr, .lst [.ref d]) :: L)))) ?_ ?_ ?_ ?_⟩
  · exact .mk (.inl ⟨rfl, rfl, hL⟩)
  · intro i σ H _ h
    rcases h.out with ⟨_, _, hL⟩ | ⟨_, _, hL⟩
    · exact .of (hL.at ⟨0, rfl⟩)
    · exact .of (hL.at ⟨0, rfl⟩)
  · clear hL
    intro i y0 σ H D' hy h hD'
    rcases h.out with ⟨rfl, rfl, hL⟩ | ⟨rfl, _⟩
    · obtain rfl : V.ref d = y0 := Option.some.inj hy
      clear h hy
      refine (show gName 1 (.ref d) _ _ _ from ?_)
      refine (show tD0 C _ _ _ from ?_)
      have hB : Led H ((d, dD x1 y1 z1) :: (pr, .lst [.ref d]) :: L) := hL.le (fun a_ => by simp only [cnt_cons]; omega)
      clear hL
      refine ⟨d, x1, y1, z1, _, rfl, rfl, hB, fun g dg u du al gc a1 b1 c1 H gok hL => ?_⟩
      clear hB
      refine (show tD1 C _ _ _ from ?_)
      refine ⟨d, a1, b1, c1, _, rfl, rfl, hL, fun hl hs a1 b1 c1 H n1 n3 cok hst hL2 => ?_⟩
      clear hL
      refine (show tD2 P w _ _ _ from ?_)
      refine ⟨_, rfl, hL2, fun ud la he H hL => ?_⟩
      clear hL2
      refine (show tD3 _ _ _ from ?_)
      refine ⟨_, rfl, hL, fun ls H hL2 => ?_⟩
      clear hL
      have hL : Led H ((d, dD a1 b1 c1) :: (grO C.G g dg gc.a ⟨none, none, 0⟩ :: (ckL C.C gc ++ (guO C.U u du al 0 :: (al, .lst []) :: (hl, .lst (hosV hs)) :: (ud, .lst []) :: (la, .lst []) :: (he, mxO P w he []) :: lsO ls ⟨none, none, 0⟩ :: (hosL C hs ++ ((pr, .lst [.ref d]) :: L)))))) := hL2.le (fun a_ => by
        simp only [cnt_cons, cnt_app]
        omega)
      clear hL2
      fail "go"
      dsimp only [tNil, tCons, tC, List.cons_append, List.nil_append]
      refine ⟨d, a1, b1, c1, 61, _, rfl, hL, by decide, by decide, fun rr a1 b1 c1 H hr0 hr1 hL2 => ?_⟩
      clear hL
      fail "go"
      refine for_rangeN (lo := 0) (n := rr.toNat) (D := D') (fun i σ H => Hold (∃ (G : LwS) (Z : Lg) (a b c : Int), ShL G σ ∧ Inv G Z i ∧ Led H (LwL P w C G a b c (Z ++ ((pr, .lst [.ref d]) :: L)))))
        (.mk ⟨⟨d, g, dg, gc, ⟨none, none, 0⟩, u, du, al, [], hl, hs, ud, [], 0, la, [], [], he, [], ls, 0⟩, [], a1, b1, c1, ?_, ?_, hL2.le (fun a_ => ?_)⟩) (fun i σ H D1 hi h hD1 => ?_) (fun σ H h => ?_)
      · exact ⟨rfl, rfl, rfl, rfl, rfl, rfl, rfl, rfl, rfl, rfl, rfl⟩
      · have hxs : ∀ (k : Nat) (x : Ho), hs[k]? = some x → x.s.nm = hname k ∧ x.s.nu = none ∧ x.s.ak = none := fun k x h => by
          rw [hst k x h]
          exact ⟨rfl, rfl, rfl⟩
        refine ⟨⟨fun h => (nomatch h), gok, fun x hx => ⟨?_, cok x hx⟩, n3, fun k x h => (hxs k x h).1, fun k x h hn => ?_, fun k x tu n h hf => (nomatch hf), fun k x tu n h hf => (nomatch hf)⟩, fun h => (nomatch h), n1, fun x h => (nomatch h), Nat.le_refl _, Nat.le_refl _, fun x h => (nomatch h), fun k x h => ?_, fun k x h hk => ?_, .nil, .nil, Nat.le_refl _, List.Pairwise.nil, fun x h => (nomatch h)⟩
        · obtain ⟨k, h⟩ := List.getElem?_of_mem hx
          intro hn
          rw [(hxs k x h).2.1] at hn
          cases hn
        · rw [(hxs k x h).2.1] at hn
          cases hn
        · rw [(hxs k x h).2.1]
          rfl
        · rw [(hxs k x h).2.2] at hk
          cases hk
      · simp only [LwL, flV, flsL, List.map_nil, cnt_cons, cnt_app, cnt_nil, List.nil_append]
        omega
      · clear hL2
        obtain ⟨G, Z, a, b, c, sh, inv, hL⟩ := h.out
        clear h
        have shh := sh
        obtain ⟨s1, s2, s3, s4, s5, s7, s8, s9, s10, s11, sl⟩ := shh
        refine (show gName 12 _ _ _ _ from ?_)
        refine (show tStep P w C _ _ _ from ?_)
        have e : ∀ {j : Nat} {v : Option V}, j ≠ 12 → (σ.set 12 v)[j]? = σ[j]? := fun {j} h => by
          rw [List.getElem?_set]
          intro h
          rw [if_neg (fun z => h z.symm)]
        refine ⟨G, Z, _, a, b, c, i, ⟨(e (by decide)).trans s1, (e (by decide)).trans s2, (e (by decide)).trans s3, (e (by decide)).trans s4, (e (by decide)).trans s5, (e (by decide)).trans s7, (e (by decide)).trans s8, (e (by decide)).trans s9, (e (by decide)).trans s10, (e (by decide)).trans s11, (List.length_set ..).trans sl⟩, ?_, by omega, inv, hL, fun G' Z' a' b' c' σ' H' hs inv' hL' => ?_⟩
        · rw [Int.zero_add, List.getElem?_set, if_pos rfl, if_pos (by omega)]
        exact hD1.nx _ _ (.mk ⟨G', Z', a', b', c', hs, inv', hL'⟩)
      · clear hL2
        obtain ⟨G, Z, a, b, c, sh, I, hL⟩ := h.out
        clear h
        obtain ⟨s1, s2, s3, s4, s5, s7, s8, s9, s10, s11, sl⟩ := sh
        match σ, s1, s3, s9, sl with
        | v0 :: v1 :: v2 :: v3 :: v4 :: v5 :: v6 :: v7 :: v8 :: v9 :: v10 :: v11 :: v12 :: v13 :: v14 :: v15 :: v16 :: v17 :: v18 :: v19 :: v20 :: v21 :: v22 :: v23 :: v24 :: v25 :: v26 :: v27 :: v28 :: v29 :: v30 :: v31 :: v32 :: v33 :: [], s1, s3, s9, _ =>
        refine (show tD5 C _ _ _ from ?_)
        have hac := I.acn
        refine ⟨G.u, G.du, G.al, G.la, G.gr, G.ga, G.ar, G.ac, Z, _, s3, s9, rfl, by unfold LwL; simp, by unfold LwL; simp, by unfold LwL; simp, fun y hy => by unfold LwL; simp [hy], I.gad, I.ard, by omega, I.asc, hL, fun H hL2 => ?_⟩
        clear hL
        obtain ⟨R, hR⟩ : ∃ R : Lg, LwL P w C G a b c (Z ++ ((pr, .lst [.ref d]) :: L)) = (G.d, dD a b c) :: R ∧ (∀ q, cnt q ((pr, HO.lst [.ref d]) :: L) ≤ cnt q R) := ⟨_, rfl, fun q => by
          simp only [cnt_cons, cnt_app]
          omega⟩
        rw [hR.1] at hL2
        have hR2 := hR.2
        clear hR
        refine (show tD6 _ _ _ from ?_)
        refine ⟨G.d, a, b, c, R, s1, rfl, hL2, fun ln r1 r2 a b c rt ot H l1 l2 e1 e2 e3 e4 hL => ?_⟩
        clear hL2
        refine (show tD7 C _ _ _ from ?_)
        refine ⟨G.d, rt, ot, a, b, c, r1, r2, _, s1, rfl, rfl, rfl, e1, e2, e3, e4, .head _, .tail _ (.head _), hL, fun sc fc bg a b c H k1 k2 k3 k4 g1 g2 hL2 => ?_⟩
        clear hL
        refine (show tD8 C _ _ _ from ?_)
        refine ⟨sc, bg, ln, _, rfl, rfl, rfl, rfl, k1, l1, l2, g1, g2, .tail _ (.head _), .tail _ (.tail _ (.head _)), hL2, fun ov H o1 o2 hL => ?_⟩
        clear hL2
        refine (show tD9 C _ _ _ from ?_)
        refine ⟨fc, bg, ov, ln, _, rfl, rfl, rfl, rfl, rfl, k2, l1, wait_fast k1 k2 o1 o2, .tail _ (.tail _ (.tail _ (.head _))), .tail _ (.tail _ (.tail _ (.tail _ (.head _)))), hL, fun H hL2 => ?_⟩
        clear hL
        refine (show tD10 C _ _ _ from ?_)
        refine ⟨fc, ot, r2, _, rfl, rfl, rfl, k2, k3, k4, .tail _ (.tail _ (.tail _ (.tail _ (.tail _ (.tail _ (.head _)))))), .tail _ (.tail _ (.tail _ (.head _))), .tail _ (.tail _ (.tail _ (.tail _ (.head _)))), hL2, fun H hL => ?_⟩
        clear hL2
        refine hD'.nx _ _ (.mk (.inr ⟨rfl, rfl, hL.le (fun a_ => ?_)⟩))
        have := hR2 a_
        simp only [cnt_cons, cnt_app] at this ⊢
        omega
    · cases hy
  · clear hL
    intro σ H h
    rcases h.out with ⟨q, _⟩ | ⟨_, hsl, hL⟩
    · cases q
    · exact kk σ H hsl hL.tail
end
end Sd


set_option linter.unusedVariables false
namespace Sd
open PySem L2 LamX NdefX PyProof.Rows Mx
open C8 (Cal Met Mak pe_c pe_mk pe_mt pe_mt0 pss_cut tCut)
set_option linter.unusedSimpArgs false
set_option pp.deepTerms false
set_option pp.deepTerms.threshold 12
set_option hygiene false
local macro_rules | `(tactic| fail "nd") => `(tactic| first | assumption | decide +kernel)
local macro_rules | `(tactic| fail "ix") => `(tactic| first | exact ⟨0, rfl⟩ | exact ⟨1, rfl⟩ | exact ⟨2, rfl⟩ | exact ⟨3, rfl⟩ | exact ⟨4, rfl⟩ | exact ⟨5, rfl⟩ | exact ⟨6, rfl⟩ | exact ⟨7, rfl⟩ | exact ⟨8, rfl⟩ | exact ⟨9, rfl⟩ | exact ⟨10, rfl⟩ | exact ⟨11, rfl⟩ | exact ⟨12, rfl⟩ | exact ⟨13, rfl⟩ | exact ⟨14, rfl⟩ | exact ⟨15, rfl⟩ | exact ⟨16, rfl⟩ | exact ⟨17, rfl⟩ | exact ⟨18, rfl⟩ | assumption)
local macro_rules | `(tactic| fail "up") => `(tactic| first | exact ⟨0, rfl, rfl⟩ | exact ⟨1, rfl, rfl⟩ | exact ⟨2, rfl, rfl⟩ | exact ⟨3, rfl, rfl⟩ | exact ⟨4, rfl, rfl⟩ | exact ⟨5, rfl, rfl⟩ | exact ⟨6, rfl, rfl⟩ | exact ⟨7, rfl, rfl⟩ | exact ⟨8, rfl, rfl⟩ | exact ⟨9, rfl, rfl⟩ | exact ⟨10, rfl, rfl⟩ | exact ⟨11, rfl, rfl⟩ | exact ⟨12, rfl, rfl⟩ | exact ⟨13, rfl, rfl⟩ | exact ⟨14, rfl, rfl⟩ | exact ⟨15, rfl, rfl⟩ | exact ⟨16, rfl, rfl⟩ | assumption)
local macro_rules | `(tactic| fail "lkF") => `(tactic| first | assumption | exact fz_at 0 (by fail "nd") rfl rfl | exact fz_at 1 (by fail "nd") rfl rfl | exact fz_at 2 (by fail "nd") rfl rfl | exact fz_at 3 (by fail "nd") rfl rfl | exact fz_at 4 (by fail "nd") rfl rfl | exact fz_at 5 (by fail "nd") rfl rfl | exact fz_at 6 (by fail "nd") rfl rfl | exact fz_at 7 (by fail "nd") rfl rfl)
local macro_rules | `(tactic| fail "lkD") => `(tactic| first | assumption | exact dz_at 0 (by fail "nd") rfl rfl | exact dz_at 1 (by fail "nd") rfl rfl | exact dz_at 2 (by fail "nd") rfl rfl | exact dz_at 3 (by fail "nd") rfl rfl | exact dz_at 4 (by fail "nd") rfl rfl)
local macro_rules | `(tactic| fail "ptF") => `(tactic| first | assumption | exact fz_put 0 (by fail "nd") rfl (Nat.le_of_ble_eq_true rfl) | exact fz_put 1 (by fail "nd") rfl (Nat.le_of_ble_eq_true rfl) | exact fz_put 2 (by fail "nd") rfl (Nat.le_of_ble_eq_true rfl) | exact fz_put 3 (by fail "nd") rfl (Nat.le_of_ble_eq_true rfl) | exact fz_put 4 (by fail "nd") rfl (Nat.le_of_ble_eq_true rfl) | exact fz_put 5 (by fail "nd") rfl (Nat.le_of_ble_eq_true rfl) | exact fz_put 6 (by fail "nd") rfl (Nat.le_of_ble_eq_true rfl) | exact fz_put 7 (by fail "nd") rfl (Nat.le_of_ble_eq_true rfl) | exact fz_new (by decide +kernel) rfl)
local macro_rules | `(tactic| fail "ptD") => `(tactic| first | assumption | exact dz_put 0 (by fail "nd") rfl (Nat.le_of_ble_eq_true rfl) | exact dz_put 1 (by fail "nd") rfl (Nat.le_of_ble_eq_true rfl) | exact dz_put 2 (by fail "nd") rfl (Nat.le_of_ble_eq_true rfl) | exact dz_put 3 (by fail "nd") rfl (Nat.le_of_ble_eq_true rfl) | exact dz_put 4 (by fail "nd") rfl (Nat.le_of_ble_eq_true rfl))
local macro_rules | `(tactic| fail "sz") => `(tactic| first | assumption | exact (Nat.le_of_ble_eq_true rfl) | omega | decide)
local macro_rules | `(tactic| fail "sd") => `(tactic| first | rfl | assumption | decide | omega | (dsimp only; first | decide | omega) | exact .inr ⟨by decide, by decide⟩ | exact .inl ⟨by decide, by decide⟩ | exact ⟨by omega, by omega⟩ | exact .inl ⟨by omega, by omega⟩ | exact .inr ⟨by omega, by omega⟩ | exact ⟨by omega, by omega, by omega⟩)
local macro_rules | `(tactic| fail "cl") => `(tactic| (clear hH; dsimp only [List.set, List.cons_append, List.nil_append, List.append] at hL))
local macro_rules | `(tactic| fail "gn") => `(tactic| (intro p hp; generalize hH : upd H p _ = H; replace hL := Led.newH hL hp hH; clear hH hp))
local macro_rules | `(tactic| fail "gup") => `(tactic| (generalize hH : upd H _ _ = H; replace hL := Led.upU hL (by fail "up") hH; fail "cl"))
local macro_rules | `(tactic| fail "gmk") => `(tactic| (intro x dx hx hd ne; generalize hH : upd (upd H dx _) x _ = H; replace hL := Led.made hL hx hd ne hH; clear hH hx hd ne))
local macro_rules | `(tactic| fail "v") => `(tactic| refine ⟨_, rfl, ?_⟩)
local macro_rules | `(tactic| fail "i2") => `(tactic| refine ⟨_, _, rfl, rfl, ?_⟩)
local macro_rules | `(tactic| fail "go1") => `(tactic| first
  | refine ⟨_, rfl, ?_⟩
  | refine ⟨_, _, rfl, rfl, ?_⟩
  | refine ⟨_, _, rfl, ?_⟩
  | refine iteT ?_
  | refine iteF ?_
  | refine k_fld hL (by fail "ix") (by assumption) (by assumption) (by fail "lkF") ?_
  | refine k_dgetS hL (by fail "ix") (by fail "lkD") ?_
  | refine k_dgetI hL (by fail "ix") (by assumption) ?_
  | refine k_ixL hL (by fail "ix") (by first | rfl | assumption) ?_
  | refine k_ixT hL (by fail "ix") (by first | rfl | assumption) ?_
  | refine k_tyL hL (by fail "ix") ?_
  | refine k_isd hL (by fail "ix") ?_
  | (refine And.intro (by fail "sz") ?_; fail "gn")
  | refine And.intro (by fail "sd") ?_
  | fail "gn"
  | refine k_meth hL (by fail "ix") (by first | assumption | exact fz_no (by decide +kernel)) ?_
  | refine k_gtup hL (by fail "ix") rfl ?_
  | (refine k_popI hL (by fail "ix") (by assumption) ?_; fail "gup")
  | (refine k_listD hL (by fail "ix") ?_; fail "gn")
  | (refine ⟨_, _, _, _, rfl, rfl, hL.at (by fail "ix"), rfl, ?_⟩; fail "gup")
  | (refine ⟨_, _, _, rfl, rfl, hL.at (by fail "ix"), (by fail "sz"), ?_⟩; fail "gup")
  | (refine ⟨_, _, _, _, rfl, hL.at (by fail "ix"), by assumption, by assumption, Nat.lt_of_le_of_lt fz_len (by decide), ?_⟩; generalize hH : upd H _ _ = H; replace hL := Led.upF hL (by fail "up") (by fail "ptF") hH; fail "cl")
  | (refine ⟨_, _, hL.at (by fail "ix"), Nat.lt_of_le_of_lt fz_len (by decide), ?_⟩; generalize hH : upd H _ _ = H; replace hL := Led.upF hL (by fail "up") (by fail "ptF") hH; fail "cl")
  | (refine k_dputS hL (by fail "ix") (Nat.lt_of_le_of_lt dz_len (by decide)) (by fail "ptD") (by fail "up") ?_; clear hL; intro H hL; dsimp only [List.set, List.cons_append, List.nil_append, List.append] at hL)
  | refine k_lenL2 hL (by fail "ix") ?_
  | refine k_lenT2 hL (by fail "ix") ?_
  | refine .inl ⟨_, rfl, ?_⟩
  | refine .inr ⟨_, rfl, ?_⟩)
local macro_rules | `(tactic| fail "go") => `(tactic| repeat fail "go1")
local macro_rules | `(tactic| fail "pm") => `(tactic| (refine Led.le hL (fun a_ => ?_); simp only [cnt_nil, cnt_cons, cnt_app, List.map_append, List.map_cons, List.map_nil, List.flatMap_append, List.flatMap_cons, List.flatMap_nil, List.append_assoc, List.cons_append, List.nil_append]; omega))

/-! ### what is refused -/
def noE : Expr := .Name "" ⟨0, 0, 0, 0⟩
def lamBody (e : Expr) : Expr := match e with
  | .Lambda _ b _ _ => b
  | _ => e
def lamArgs (e : Expr) : Arguments := match e with
  | .Lambda a _ _ _ => a
  | _ => { posonlyargs := [], args := [], vararg := none, kwonlyargs := [], kw_defaults := [], kwarg := none, defaults := [] }
def lamScope (e : Expr) : Scope := match e with
  | .Lambda _ _ s _ => s
  | _ => { kind := .function, names := [], isGenerator := false, isCoroutine := false }
def valE (st : Stmt) : Expr := match st with
  | .Assign _ e _ => e
  | .If e _ _ _ => e
  | .Return (some e) _ => e
  | _ => noE
def argE (e : Expr) (i : Nat) : Expr := match e with
  | .Call _ l _ _ => l.getD i noE
  | .BoolOp _ l _ => l.getD i noE
  | .Compare l _ _ _ => l
  | .List l _ => l.getD i noE
  | .ListComp _ (⟨_, _, t :: _, _⟩ :: _) _ _ => t
  | _ => noE
def lcScope (e : Expr) : Scope := match e with
  | .ListComp _ _ s _ => s
  | _ => { kind := .function, names := [], isGenerator := false, isCoroutine := false }
abbrev ifW : Expr := valE (nth (defBody sLaw) 2)
abbrev lcW : Expr := argE (argE ifW 0) 0
abbrev lam1 : Expr := argE (argE (argE lcW 0) 0) 0
abbrev lam2 : Expr := argE (argE (argE ifW 1) 0) 0
abbrev lam3 : Expr := argE (argE (argE ifW 2) 0) 0
theorem nsc1 : NScope ["rate"] [] ["rate"] (lamScope lam1) := nscope_by (by decide +kernel)
theorem nsc2 : NScope [] [] [] (lamScope lam2) := nscope_by (by decide +kernel)
theorem nsc3 : NScope [] [] [] (lamScope lam3) := nscope_by (by decide +kernel)
theorem hf1 : ∀ y ∈ (lamScope lam1).names, y.2 = .free → (lcScope lcW).names.lookup y.1 = some .cell := by decide +kernel
theorem hf2 : ∀ y ∈ (lamScope lam2).names, y.2 = .free → (defScope sLaw).names.lookup y.1 = some .cell := by decide +kernel
theorem hf3 : ∀ y ∈ (lamScope lam3).names, y.2 = .free → (defScope sLaw).names.lookup y.1 = some .cell := by decide +kernel
theorem hg1 : ∀ y ∈ (["rate"] : List Str), (y, NameKind.free) ∈ (lamScope lam1).names := by decide +kernel
abbrev ToF : Type := List Str × NF × List (Option V)
theorem cells0 {outer : List Env} {h : Heap} {H : Hp} : CellsO [] [] [] outer h H := by
  refine ⟨⟨rfl, fun y c e => ?_, fun x y c e => ?_, fun i y e => ?_⟩, fun y c e => ?_⟩
  · cases e
  · cases e
  · rw [List.getElem?_nil] at e; cases e
  · cases e
theorem hG0 {i : ToF} {o : List Env} {h : Heap} {H : Hp} (hR : i.1 = [] ∧ i.2.1.cl = [] ∧ i.2.2 = []) : gTold i.2.1 i.1 i.2.2 o h H := by
  obtain ⟨e1, e2, e3⟩ := hR
  show CellsO i.2.1.cl i.1 i.2.2 _ _ _
  rw [e1, e2, e3]
  exact cells0
theorem pe_cSB {X : Cx} {s : Shared} {H : Hp} {scope : Scope} {cenv : Env} {fp : List Addr} {k j : Nat} {x : Str} {p pos : Pos} {e : Expr} {es : List Expr} {t : L2.TA} {ι : Type} {G : ι → GT} {sp : ι → Sp} {R : ι → L2.St → Prop} (c : ∀ i, CalS X.prog X.w X.K X.mg X.base k x (G i) (sp i)) (hr : Room j X.A) (hk : k ≤ j)
    (hG : ∀ i pins σ H' s', L2.Inv (X.blk s H scope cenv fp) pins σ H' s' → R i σ → G i (X.blk s H scope cenv fp).stack s'.heap H') (hg : Gl (X.blk s H scope cenv fp) x) {f : Addr} (hm : X.mg x = some (.ref f)) (kp : PySem.W.keepIn X.K (.ref f) = true) (ha : PA (X.blk s H scope cenv fp) (e :: es) t)
    (hdb : (x == ("__debug__" : Str)) = false := by decide) (he : starEach (e :: es) cenv = (false, eval e cenv) :: starEach es cenv := by rfl) (hpl : (backTo pos (starEach es cenv)).any (·.1) = false := by rfl) :
    PE (X.blk s H scope cenv fp) (.Call (.Name x p) (e :: es) [] pos) (tCallS sp R (fun _ _ _ => False) t) := pe_cS (X := X.blk s H scope cenv fp) c hr hk hG hg hm kp L2.takes0 ha hdb he hpl
theorem ok_told1 {P : Program} {w : World} {K : PySem.W.Frag} {mg : Str → Option Value} {base : Heap} {x a e1 r1 : Str} {st : Stmt} {f : Addr} {fd : FuncData} {N : List Str} {C1 : Addr} {k : Nat} {p1 p2 p3 p4 p5 p6 p7 p8 : Pos} {j1 : Nat} {F : NF} {fr : List Str} {ws : List (Option V)} (Fn : Fun K x x st f fd) (S : FnScope N [a] (defScope st))
    (hbd : defBody st = [.Try [.Return (some (.Call (.Name a p1) [] [] p2)) p3] [.ExceptHandler (some (.Name e1 p4)) none [.Return (some (.Constant (.str r1) j1 p5)) p6] p7] [] [] p8])
    (hg1 : (defScope st).names.lookup e1 = some .globalImplicit) (hm1 : mg e1 = some (.ref C1)) (hN : N[0]? = some a) (hv : Vis (defScope st) a) (h0 : ∀ f : Addr, (L2.start N [V.ref f])[0]? = some (some (V.ref f)))
    (hd1 : (e1 == ("__debug__" : Str)) = false := by decide) (hd : (a == ("__debug__" : Str)) = false := by decide) (hcd : (a == ("__classdict__" : Str)) = false := by decide) :
    FnOkS P w K mg base (k + 1) f fd [a] (gTold F fr ws) (spToldS P w K mg base k [(C1, r1)] F fr ws) := by
  refine fun_okS Fn S (fun vs H Q E h => ?_) fun cdv A outer s H vs Q E hr g h => ?_
  · obtain ⟨f, b, tl, rfl, _⟩ := h
    rfl
  · obtain ⟨f, b, tl, rfl, hf, hc, L, ht⟩ := h
    have g : CellsO F.cl fr ws outer s.heap H := g
    rw [hbd]
    have hgl1 : Gl (cxOf (L2.CX P w) P w K mg base N x (defScope st) (by assumption) cdv A outer s H E) e1 := hg1
    refine ⟨_, pss_one (ps_try_many (l := [(.ref C1, _)]) (tb := fun W D σ H => σ[0]? = some (some (.ref f)) ∧ H f = some (LamO f F b) ∧ CdAt P w H F.c F.qual ∧ ∃ E : XK, (∀ cls d σ' H', E cls d H' → W cls d σ' H') ∧ tl [] ws H D.rt E) rfl rfl L2.takes0
      (fun W pn xe tk _ => pss_one (ps_ret (pe_lamS0 tk hr hN hv g rfl L hd hcd))) (.cons ⟨hgl1, hd1, .inl hm1⟩ (fun a oe cls d pn _ _ => pss_one (ps_ret pe_str)) .nil)), ?_⟩
    refine ⟨h0 f, hf, hc, _, fun cls d σ' H' q => ?_, ht⟩
    obtain ⟨b, q1, q2, q3⟩ := q
    exact ⟨b, q1, fun hb a _ => q2 hb, fun hb => q3 hb⟩
def lbF (q : Str) (cs : List (Str × Addr)) (e : Expr) (d : Addr) : NF := ⟨"<lambda>", q, lamArgs e, [], lamScope e, cloFrom cs (lamScope e).names [], d⟩
def lbO (q : Str) (cs : List (Str × Addr)) (e : Expr) (f d : Addr) : Addr × HO := (f, LamO f (lbF q cs e d) (lamBody e))
/-- a lambda that raises MachineError: of a rate; of none -/
def tl1 (CM : Addr) : List V → List (Option V) → Hp → VK → XK → Prop := fun vs ws H Q E => vs = [] ∧ ∃ (r : Addr) (t l : Int) (L : Lg), ws = [some (.ref r)] ∧ Led H L ∧ (r, HO.tup [.int t, .int l]) ∈ L ∧ (l < 1 ∨ t * 10 < l * 9 ∨ l * 11 < t * 10) ∧ ∀ H', Led H' L → E (.ref CM) none H'
def tl2 (CM : Addr) : List V → List (Option V) → Hp → VK → XK → Prop := fun vs ws H Q E => vs = [] ∧ ws = [] ∧ ∃ L : Lg, Led H L ∧ ∀ H', Led H' L → E (.ref CM) none H'
theorem one_ok {a d r : Addr} : Ck.Ok ⟨a, d, r, 1, 1, 0⟩ := by
  unfold Ck.Ok
  dsimp only
  omega
section
variable {P : Program} {w : World} {K : PySem.W.Frag} {mg : Str → Option Value} {base : Heap} {C : Cl4} {CM : Addr}
theorem lok1 {f c' : Addr} {q : Str} {cl : List (Str × Addr)} (c_X : MakX P w K mg base 1 "DriftClock" C.C (spCInitX CM) [.int 0]) : LOkS P w K mg base 7 f ⟨"<lambda>", q, lamArgs lam1, [], lamScope lam1, cl, c'⟩ (lamBody lam1) ["rate"] (tl1 CM) := by
  refine lokS_of nsc1 (fun vs ws H Q E h => ?_) (fun _ _ _ us hl => match us, hl with | [], _ => rfl) fun A outer s H vs ws Q E hr Ce h => ⟨_, pe_mkX c_X hr (by decide) (by rfl) (takes_of rfl rfl rfl (E := E) rfl) (pa_cons (pv 0) pa_nil), ?_⟩
  · obtain ⟨rfl, _⟩ := h
    rfl
  · obtain ⟨rfl, r, t, l, L, rfl, hL, m, hb, k⟩ := h
    refine ⟨_, rfl, ?_⟩
    intro x dx h1 h2 h3
    generalize hH : upd (upd H dx _) x _ = H'
    replace hL := Led.made hL h1 h2 h3 hH
    clear hH h1 h2 h3
    exact ⟨x, r, t, l, 0, _, rfl, hL, .tail _ m, hb, fun H hL => k H hL.tail⟩
theorem lokA {lam : Expr} {f c' : Addr} {q : Str} {cl : List (Str × Addr)} (ns : NScope [] [] [] (lamScope lam))
    (hbd : ∀ (A : Around) (outer : List Env) (s : Shared) (H : Hp) (E : XK), Room 6 (A.deeper (envF ⟨"<lambda>", q, lamArgs lam, [], lamScope lam, cl, c'⟩ f s.heap.objs.size)) → ∃ t : TE, PE (ncx (L2.CX P w) P w K mg base [] ⟨"<lambda>", q, lamArgs lam, [], lamScope lam, cl, c'⟩ f A outer s H E) (lamBody lam) t ∧
      ∀ {Q : VK} {L : Lg}, Led H L → (∀ H', Led H' L → E (.ref CM) none H') → t (startF [] [] []) H Q)
    (hbi : ∀ (pm cv ctv : Value) (us : List Value), us.length = ([] : List Str).length → bindArgs (PySem.W.kla_fn "<lambda>" q (lamArgs lam) (lamBody lam) (lamScope lam) cl pm cv ctv) ⟨us, []⟩ = pure (([] : List Str).zip us)) :
    LOkS P w K mg base 7 f ⟨"<lambda>", q, lamArgs lam, [], lamScope lam, cl, c'⟩ (lamBody lam) [] (tl2 CM) := by
  refine lokS_of ns (fun vs ws H Q E h => ?_) hbi fun A outer s H vs ws Q E hr Ce h => ?_
  · obtain ⟨rfl, _⟩ := h
    rfl
  · obtain ⟨rfl, rfl, L, hL, k⟩ := h
    obtain ⟨t, h1, h2⟩ := hbd A outer s H E hr
    exact ⟨t, h1, h2 hL k⟩
theorem lok2 {f c' : Addr} {q : Str} {cl : List (Str × Addr)} (c_DriftClock_d : Mak P w K mg base 1 "DriftClock" C.C (spCInit C.C) [.int 0]) (c_Granter : Mak P w K mg base 1 "Granter" C.G (spGInit C.G) []) (c_X : MetX P w K mg base 2 C.G "ask" (spGAskX CM) []) : LOkS P w K mg base 7 f ⟨"<lambda>", q, lamArgs lam2, [], lamScope lam2, cl, c'⟩ (lamBody lam2) [] (tl2 CM) := by
  refine lokA nsc2 (fun A outer s H E hr => ⟨_, pe_mtX c_X hr (by decide) (takes_of rfl rfl rfl (E := E) rfl) (pe_mk c_Granter hr (by decide) (by rfl) (pa_cons (pe_mk c_DriftClock_d hr (by decide) (by rfl) (pa_cons (pe_tup (pa_cons pe_int (pa_cons pe_int pa_nil))) pa_nil)) pa_nil)) (pa_cons pe_str (pa_cons pe_int (pa_cons pe_int pa_nil))), ?_⟩) (fun _ _ _ us hl => match us, hl with | [], _ => rfl)
  intro Q L hL k
  fail "go"
  dsimp only [tNil]
  intro x dx hx hd ne
  generalize hH : upd (upd H dx _) x _ = H
  replace hL := Led.made hL hx hd ne hH
  clear hH hx hd ne
  refine ⟨x, dx, p, 1, 1, 0, _, rfl, hL, .head _, one_ok, fun rt H hL2 => ?_⟩
  clear hL
  refine ⟨rfl, ?_⟩
  intro g dg hx hd ne
  generalize hH : upd (upd H dg _) g _ = H
  have hL := Led.made hL2 hx hd ne hH
  clear hH hx hd ne hL2
  refine ⟨g, dg, x, _, rfl, hL, fun H hL2 => ?_⟩
  clear hL
  refine ⟨rfl, ?_⟩
  refine k_meth hL2 ⟨0, rfl⟩ (fz_no (by decide +kernel)) ?_
  fail "go"
  refine ⟨g, _, _, _, rfl, by decide, k H (hL2.le (fun a_ => ?_))⟩
  simp only [cnt_cons, cnt_app]
  omega
theorem lok3 {f c' : Addr} {q : Str} {cl : List (Str × Addr)} (c_DriftClock_d : Mak P w K mg base 1 "DriftClock" C.C (spCInit C.C) [.int 0]) (c_Granter : Mak P w K mg base 1 "Granter" C.G (spGInit C.G) []) (c_X : MetX P w K mg base 2 C.G "ask" (spGAskX CM) []) : LOkS P w K mg base 7 f ⟨"<lambda>", q, lamArgs lam3, [], lamScope lam3, cl, c'⟩ (lamBody lam3) [] (tl2 CM) := by
  refine lokA nsc3 (fun A outer s H E hr => ⟨_, pe_mtX c_X hr (by decide) (takes_of rfl rfl rfl (E := E) rfl) (pe_mk c_Granter hr (by decide) (by rfl) (pa_cons (pe_mk c_DriftClock_d hr (by decide) (by rfl) (pa_cons (pe_tup (pa_cons pe_int (pa_cons pe_int pa_nil))) pa_nil)) pa_nil)) (pa_cons pe_str (pa_cons pe_int (pa_cons pe_int pa_nil))), ?_⟩) (fun _ _ _ us hl => match us, hl with | [], _ => rfl)
  intro Q L hL k
  fail "go"
  dsimp only [tNil]
  intro x dx hx hd ne
  generalize hH : upd (upd H dx _) x _ = H
  replace hL := Led.made hL hx hd ne hH
  clear hH hx hd ne
  refine ⟨x, dx, p, 1, 1, 0, _, rfl, hL, .head _, one_ok, fun rt H hL2 => ?_⟩
  clear hL
  refine ⟨rfl, ?_⟩
  intro g dg hx hd ne
  generalize hH : upd (upd H dg _) g _ = H
  have hL := Led.made hL2 hx hd ne hH
  clear hH hx hd ne hL2
  refine ⟨g, dg, x, _, rfl, hL, fun H hL2 => ?_⟩
  clear hL
  refine ⟨rfl, ?_⟩
  refine k_meth hL2 ⟨0, rfl⟩ (fz_no (by decide +kernel)) ?_
  fail "go"
  refine ⟨g, _, _, _, rfl, by decide, k H (hL2.le (fun a_ => ?_))⟩
  simp only [cnt_cons, cnt_app]
  omega
end
end Sd


set_option linter.unusedVariables false
namespace Sd
open PySem L2 LamX NdefX PyProof.Rows Mx
open C8 (Cal Met Mak pe_c pe_mk pe_mt pe_mt0 pss_cut tCut)
set_option linter.unusedSimpArgs false
set_option pp.deepTerms false
set_option pp.deepTerms.threshold 12
set_option hygiene false
local macro_rules | `(tactic| fail "nd") => `(tactic| first | assumption | decide +kernel)
local macro_rules | `(tactic| fail "ix") => `(tactic| first | exact ⟨0, rfl⟩ | exact ⟨1, rfl⟩ | exact ⟨2, rfl⟩ | exact ⟨3, rfl⟩ | exact ⟨4, rfl⟩ | exact ⟨5, rfl⟩ | exact ⟨6, rfl⟩ | exact ⟨7, rfl⟩ | exact ⟨8, rfl⟩ | exact ⟨9, rfl⟩ | exact ⟨10, rfl⟩ | exact ⟨11, rfl⟩ | exact ⟨12, rfl⟩ | exact ⟨13, rfl⟩ | exact ⟨14, rfl⟩ | exact ⟨15, rfl⟩ | exact ⟨16, rfl⟩ | exact ⟨17, rfl⟩ | exact ⟨18, rfl⟩ | assumption)
local macro_rules | `(tactic| fail "up") => `(tactic| first | exact ⟨0, rfl, rfl⟩ | exact ⟨1, rfl, rfl⟩ | exact ⟨2, rfl, rfl⟩ | exact ⟨3, rfl, rfl⟩ | exact ⟨4, rfl, rfl⟩ | exact ⟨5, rfl, rfl⟩ | exact ⟨6, rfl, rfl⟩ | exact ⟨7, rfl, rfl⟩ | exact ⟨8, rfl, rfl⟩ | exact ⟨9, rfl, rfl⟩ | exact ⟨10, rfl, rfl⟩ | exact ⟨11, rfl, rfl⟩ | exact ⟨12, rfl, rfl⟩ | exact ⟨13, rfl, rfl⟩ | exact ⟨14, rfl, rfl⟩ | exact ⟨15, rfl, rfl⟩ | exact ⟨16, rfl, rfl⟩ | assumption)
local macro_rules | `(tactic| fail "lkF") => `(tactic| first | assumption | exact fz_at 0 (by fail "nd") rfl rfl | exact fz_at 1 (by fail "nd") rfl rfl | exact fz_at 2 (by fail "nd") rfl rfl | exact fz_at 3 (by fail "nd") rfl rfl | exact fz_at 4 (by fail "nd") rfl rfl | exact fz_at 5 (by fail "nd") rfl rfl | exact fz_at 6 (by fail "nd") rfl rfl | exact fz_at 7 (by fail "nd") rfl rfl)
local macro_rules | `(tactic| fail "lkD") => `(tactic| first | assumption | exact dz_at 0 (by fail "nd") rfl rfl | exact dz_at 1 (by fail "nd") rfl rfl | exact dz_at 2 (by fail "nd") rfl rfl | exact dz_at 3 (by fail "nd") rfl rfl | exact dz_at 4 (by fail "nd") rfl rfl)
local macro_rules | `(tactic| fail "ptF") => `(tactic| first | assumption | exact fz_put 0 (by fail "nd") rfl (Nat.le_of_ble_eq_true rfl) | exact fz_put 1 (by fail "nd") rfl (Nat.le_of_ble_eq_true rfl) | exact fz_put 2 (by fail "nd") rfl (Nat.le_of_ble_eq_true rfl) | exact fz_put 3 (by fail "nd") rfl (Nat.le_of_ble_eq_true rfl) | exact fz_put 4 (by fail "nd") rfl (Nat.le_of_ble_eq_true rfl) | exact fz_put 5 (by fail "nd") rfl (Nat.le_of_ble_eq_true rfl) | exact fz_put 6 (by fail "nd") rfl (Nat.le_of_ble_eq_true rfl) | exact fz_put 7 (by fail "nd") rfl (Nat.le_of_ble_eq_true rfl) | exact fz_new (by decide +kernel) rfl)
local macro_rules | `(tactic| fail "ptD") => `(tactic| first | assumption | exact dz_put 0 (by fail "nd") rfl (Nat.le_of_ble_eq_true rfl) | exact dz_put 1 (by fail "nd") rfl (Nat.le_of_ble_eq_true rfl) | exact dz_put 2 (by fail "nd") rfl (Nat.le_of_ble_eq_true rfl) | exact dz_put 3 (by fail "nd") rfl (Nat.le_of_ble_eq_true rfl) | exact dz_put 4 (by fail "nd") rfl (Nat.le_of_ble_eq_true rfl))
local macro_rules | `(tactic| fail "sz") => `(tactic| first | assumption | exact (Nat.le_of_ble_eq_true rfl) | omega | decide)
local macro_rules | `(tactic| fail "sd") => `(tactic| first | rfl | assumption | decide | omega | (dsimp only; first | decide | omega) | exact .inr ⟨by decide, by decide⟩ | exact .inl ⟨by decide, by decide⟩ | exact ⟨by omega, by omega⟩ | exact .inl ⟨by omega, by omega⟩ | exact .inr ⟨by omega, by omega⟩ | exact ⟨by omega, by omega, by omega⟩)
local macro_rules | `(tactic| fail "cl") => `(tactic| (clear hH; dsimp only [List.set, List.cons_append, List.nil_append, List.append] at hL))
local macro_rules | `(tactic| fail "gn") => `(tactic| (intro p hp; generalize hH : upd H p _ = H; replace hL := Led.newH hL hp hH; clear hH hp))
local macro_rules | `(tactic| fail "gup") => `(tactic| (generalize hH : upd H _ _ = H; replace hL := Led.upU hL (by fail "up") hH; fail "cl"))
local macro_rules | `(tactic| fail "gmk") => `(tactic| (intro x dx hx hd ne; generalize hH : upd (upd H dx _) x _ = H; replace hL := Led.made hL hx hd ne hH; clear hH hx hd ne))
local macro_rules | `(tactic| fail "v") => `(tactic| refine ⟨_, rfl, ?_⟩)
local macro_rules | `(tactic| fail "i2") => `(tactic| refine ⟨_, _, rfl, rfl, ?_⟩)
local macro_rules | `(tactic| fail "go1") => `(tactic| first
  | refine ⟨_, rfl, ?_⟩
  | refine ⟨_, _, rfl, rfl, ?_⟩
  | refine ⟨_, _, rfl, ?_⟩
  | refine iteT ?_
  | refine iteF ?_
  | refine k_fld hL (by fail "ix") (by assumption) (by assumption) (by fail "lkF") ?_
  | refine k_dgetS hL (by fail "ix") (by fail "lkD") ?_
  | refine k_dgetI hL (by fail "ix") (by assumption) ?_
  | refine k_ixL hL (by fail "ix") (by first | rfl | assumption) ?_
  | refine k_ixT hL (by fail "ix") (by first | rfl | assumption) ?_
  | refine k_tyL hL (by fail "ix") ?_
  | refine k_isd hL (by fail "ix") ?_
  | (refine And.intro (by fail "sz") ?_; fail "gn")
  | refine And.intro (by fail "sd") ?_
  | fail "gn"
  | refine k_meth hL (by fail "ix") (by first | assumption | exact fz_no (by decide +kernel)) ?_
  | refine k_gtup hL (by fail "ix") rfl ?_
  | (refine k_popI hL (by fail "ix") (by assumption) ?_; fail "gup")
  | (refine k_listD hL (by fail "ix") ?_; fail "gn")
  | (refine ⟨_, _, _, _, rfl, rfl, hL.at (by fail "ix"), rfl, ?_⟩; fail "gup")
  | (refine ⟨_, _, _, rfl, rfl, hL.at (by fail "ix"), (by fail "sz"), ?_⟩; fail "gup")
  | (refine ⟨_, _, _, _, rfl, hL.at (by fail "ix"), by assumption, by assumption, Nat.lt_of_le_of_lt fz_len (by decide), ?_⟩; generalize hH : upd H _ _ = H; replace hL := Led.upF hL (by fail "up") (by fail "ptF") hH; fail "cl")
  | (refine ⟨_, _, hL.at (by fail "ix"), Nat.lt_of_le_of_lt fz_len (by decide), ?_⟩; generalize hH : upd H _ _ = H; replace hL := Led.upF hL (by fail "up") (by fail "ptF") hH; fail "cl")
  | (refine k_dputS hL (by fail "ix") (Nat.lt_of_le_of_lt dz_len (by decide)) (by fail "ptD") (by fail "up") ?_; clear hL; intro H hL; dsimp only [List.set, List.cons_append, List.nil_append, List.append] at hL)
  | refine k_lenL2 hL (by fail "ix") ?_
  | refine k_lenT2 hL (by fail "ix") ?_
  | refine .inl ⟨_, rfl, ?_⟩
  | refine .inr ⟨_, rfl, ?_⟩)
local macro_rules | `(tactic| fail "go") => `(tactic| repeat fail "go1")
local macro_rules | `(tactic| fail "pm") => `(tactic| (refine Led.le hL (fun a_ => ?_); simp only [cnt_nil, cnt_cons, cnt_app, List.map_append, List.map_cons, List.map_nil, List.flatMap_append, List.flatMap_cons, List.flatMap_nil, List.append_assoc, List.cons_append, List.nil_append]; omega))

/-! ### the law's last lines -/
theorem clo1 {cl : List (Str × Addr)} : cloFrom cl (lamScope lam1).names [] = [(("rate" : Str), (cl.lookup ("rate" : Str)).getD 0)] := by rfl
theorem lc_rate : ((lcScope lcW).names.lookup ("rate" : Str) == some NameKind.cell) = true := by decide +kernel
theorem clo1_fn {cl : List (Str × Addr)} {y : Str} {c : Addr} (h : (cloFrom cl (lamScope lam1).names []).lookup y = some c) : ((lcScope lcW).names.lookup y == some NameKind.cell) = true := by
  rw [clo1, List.lookup_cons] at h
  cases e : y == ("rate" : Str) with
  | true =>
    rw [eq_of_beq e]
    exact lc_rate
  | false =>
    rw [e] at h
    cases h
theorem lk_map {g : Str × NameKind → Str × NameKind} (h1 : ∀ p, (g p).1 = p.1) (h2 : ∀ p, p.2 = .cell → (g p).2 = .cell) : ∀ {l : List (Str × NameKind)} {x : Str}, l.lookup x = some .cell → (l.map g).lookup x = some .cell
  | [], x, h => by cases h
  | p :: l, x, h => by
    obtain ⟨n, k⟩ := p
    have e : g (n, k) = (n, (g (n, k)).2) := Prod.ext (h1 _) rfl
    rw [List.map_cons, e, List.lookup_cons]
    rw [List.lookup_cons] at h
    cases hx : x == n with
    | true =>
      rw [hx] at h
      have hk : k = .cell := Option.some.inj h
      exact congrArg some (h2 (n, k) hk)
    | false =>
      rw [hx] at h
      exact lk_map h1 h2 h
theorem hf1r {env : Env} : ∀ y ∈ (lamScope lam1).names, y.2 = .free → (relabel (lcScope lcW) env).names.lookup y.1 = some .cell := fun y hy e => by
  refine lk_map (fun p => ?_) (fun p hp => ?_) (hf1 y hy e)
  · obtain ⟨n, k⟩ := p
    dsimp only
    split <;> rfl
  · obtain ⟨n, k⟩ := p
    obtain rfl : k = .cell := hp
    rfl
def wrL (w a b c d : Addr) : Lg := [(w, .lst [.ref a, .ref b, .ref c, .ref d]), (a, .tup [.int 89, .int 100]), (b, .tup [.int 111, .int 100]), (c, .tup [.int 1, .int 0]), (d, .tup [.int 2, .int 1])]
def tWrong : TS := fun D σ H => ∃ L : Lg, σ.length = 34 ∧ Led H L ∧ ∀ (w a b c d : Addr) H', Led H' (wrL w a b c d ++ L) → D.nx (σ.set 33 (some (.ref w))) H'
def tIfW (PL : Addr) : TS := fun D σ H => ∃ (w a b c d : Addr) (L : Lg), σ[33]? = some (some (.ref w)) ∧ σ.length = 34 ∧ Led H ((PL, .tbl #[]) :: (wrL w a b c d ++ L)) ∧ ∀ H', D.nx σ H'
def tHold (C : Cl4) : TS := fun D σ H => σ.length = 34 ∧ ∀ (h dh : Addr) (c : Ck) H', c.Ok → Led H' (hoO C.H h dh c.a ⟨"a", none, none, none, 0, 0⟩ :: ckL C.C c) → D.nx (σ.set 14 (some (.ref h))) H'
def tRetL (C : Cl4) : TS := fun D σ H => ∃ (h dh : Addr) (c : Ck), σ[14]? = some (some (.ref h)) ∧ σ.length = 34 ∧ c.Ok ∧ Led H (hoO C.H h dh c.a ⟨"a", none, none, none, 0, 0⟩ :: ckL C.C c) ∧ ∀ H', D.rt (.bl true) H'
section
variable {P : Program} {w : World} {K : PySem.W.Frag} {mg : Str → Option Value} {base : Heap} {C : Cl4} {CM PL : Addr} {f cL : Addr} {A : Around} {outer : List Env} {s0 : Shared} {H0 : Hp} {E : XK}
theorem st_wrong : PS (LX P w K mg base f (.ref cL) A outer s0 H0 E) (nth (defBody sLaw) 1) tWrong := by
  refine ps_imp (t := _) (ps_set (i := 33) scLaw.nd rfl (Or.inl rfl) (pe_lst (pa_cons (pe_tup (pa_cons pe_int (pa_cons pe_int pa_nil))) (pa_cons (pe_tup (pa_cons pe_int (pa_cons pe_int pa_nil))) (pa_cons (pe_tup (pa_cons pe_int (pa_cons pe_int pa_nil))) (pa_cons (pe_tup (pa_cons pe_int (pa_cons pe_int pa_nil))) pa_nil)))))) ?_
  rintro D σ H ⟨L, hsl, hL, kk⟩
  match σ, hsl with
  | v0 :: v1 :: v2 :: v3 :: v4 :: v5 :: v6 :: v7 :: v8 :: v9 :: v10 :: v11 :: v12 :: v13 :: v14 :: v15 :: v16 :: v17 :: v18 :: v19 :: v20 :: v21 :: v22 :: v23 :: v24 :: v25 :: v26 :: v27 :: v28 :: v29 :: v30 :: v31 :: v32 :: v33 :: [], _ =>
  fail "go"
  rename_i a _ b _ c _ d _
  exact kk p a b c d _ (hL.le (fun a_ => by
    simp only [wrL, cnt_cons, cnt_app, cnt_nil]
    omega))
theorem st_hold (hr : Room 20 (LX P w K mg base f (.ref cL) A outer s0 H0 E).A) (c_DriftClock_d : Mak P w K mg base 1 "DriftClock" C.C (spCInit C.C) [.int 0]) (c_Holder : Mak P w K mg base 1 "Holder" C.H (spHInit C.H) []) :
    PS (LX P w K mg base f (.ref cL) A outer s0 H0 E) (nth (defBody sLaw) 3) (tHold C) := by
  refine ps_imp (t := _) (ps_set (i := 14) scLaw.nd rfl (Or.inl rfl) (pe_mk c_Holder hr (by decide) (by rfl) (pa_cons pe_str (pa_cons (pe_mk c_DriftClock_d hr (by decide) (by rfl) (pa_cons (pe_tup (pa_cons pe_int (pa_cons pe_int pa_nil))) pa_nil)) pa_nil)))) ?_
  rintro D σ H ⟨hsl, kk⟩
  match σ, hsl with
  | v0 :: v1 :: v2 :: v3 :: v4 :: v5 :: v6 :: v7 :: v8 :: v9 :: v10 :: v11 :: v12 :: v13 :: v14 :: v15 :: v16 :: v17 :: v18 :: v19 :: v20 :: v21 :: v22 :: v23 :: v24 :: v25 :: v26 :: v27 :: v28 :: v29 :: v30 :: v31 :: v32 :: v33 :: [], _ =>
  have hL : Led H [] := Led.nil
  fail "go"
  dsimp only [tNil]
  intro x dx hx hd ne
  generalize hH : upd (upd H dx _) x _ = H
  replace hL := Led.made hL hx hd ne hH
  clear hH hx hd ne
  refine ⟨x, dx, p, 1, 1, 0, _, rfl, hL, .head _, one_ok, fun rt H hL2 => ?_⟩
  clear hL
  refine ⟨rfl, ?_⟩
  intro h dh hx hd ne
  generalize hH : upd (upd H dh _) h _ = H
  have hL := Led.made hL2 hx hd ne hH
  clear hH hx hd ne hL2
  refine ⟨h, dh, x, "a", _, rfl, hL, fun H hL2 => ?_⟩
  clear hL
  refine ⟨rfl, ?_⟩
  refine kk h dh ⟨x, dx, rt, 1, 1, 0⟩ H one_ok (hL2.le (fun a_ => ?_))
  simp only [cnt_cons, cnt_app, cnt_nil]
  omega
theorem st_retL (hr : Room 20 (LX P w K mg base f (.ref cL) A outer s0 H0 E).A) (c_Holder_granted : Met P w K mg base 1 C.H "granted" (spHGrant C.H) []) (c_Holder_drop : Met P w K mg base 1 C.H "drop" (spHDrop C.H) []) (c_Holder_holds : Met P w K mg base 2 C.H "holds" (spHHolds C.H C.C) [])
    (c_Guarded : Mak P w K mg base 1 "Guarded" C.U (spUInit C.U) []) (c_Guarded_act : Met P w K mg base 1 C.U "act" (spUAct C.U) []) :
    PS (LX P w K mg base f (.ref cL) A outer s0 H0 E) (nth (defBody sLaw) 4) (tRetL C) := by
  refine ps_imp (t := _) (ps_ret (pe_and (pe_not (pe_mt c_Holder_granted hr (by decide) (pv 14) (pa_cons pe_int (pa_cons pe_int pa_nil)))) (pe_and (pe_cmpR op_isN (pe_mt0 c_Holder_drop hr (by decide) (pv 14)) pe_non (nomark _)) (pe_and (pe_not (pe_mt c_Holder_holds hr (by decide) (pv 14) (pa_cons pe_int pa_nil))) (pe_one (pe_mt c_Guarded_act hr (by decide) (pe_mkN c_Guarded hr (by decide) (by rfl)) (pa_cons pe_int (pa_cons pe_str pa_nil)))))))) ?_
  rintro D σ H ⟨h, dh, c, hs14, hsl, cok, hL, kk⟩
  match σ, hs14, hsl with
  | v0 :: v1 :: v2 :: v3 :: v4 :: v5 :: v6 :: v7 :: v8 :: v9 :: v10 :: v11 :: v12 :: v13 :: v14 :: v15 :: v16 :: v17 :: v18 :: v19 :: v20 :: v21 :: v22 :: v23 :: v24 :: v25 :: v26 :: v27 :: v28 :: v29 :: v30 :: v31 :: v32 :: v33 :: [], hs14, _ =>
  cases hs14
  fail "go"
  dsimp only [tNil, tCons, tC, List.cons_append, List.nil_append]
  refine ⟨h, dh, c.a, ⟨"a", none, none, none, 0, 0⟩, 0, some 1, ckL C.C c, rfl, hL, fun H hL2 => ?_⟩
  clear hL
  have hL : Led H (hoO C.H h dh c.a ⟨"a", none, none, none, 0, 0⟩ :: ckL C.C c) := hL2
  clear hL2
  refine ⟨false, rfl, ?_⟩
  refine ⟨true, rfl, ?_⟩
  refine iteT ?_
  fail "go"
  dsimp only [tNil, tCons, tC, List.cons_append, List.nil_append]
  refine ⟨h, dh, c.a, ⟨"a", none, none, none, 0, 0⟩, ckL C.C c, rfl, hL, fun H hL2 => ?_⟩
  clear hL
  have hL : Led H (hoO C.H h dh c.a ⟨"a", none, none, none, 0, 0⟩ :: ckL C.C c) := hL2
  clear hL2
  fail "go"
  dsimp only [tNil, tCons, tC, List.cons_append, List.nil_append]
  refine ⟨h, dh, c, HoS.drop ⟨"a", none, none, none, 0, 0⟩, 0, _, rfl, hL, .head _, .tail _ (.head _), .tail _ (.tail _ (.head _)), cok, fun z => (nomatch z), fun H hL2 => ?_⟩
  clear hL
  refine ⟨false, rfl, ?_⟩
  refine ⟨true, rfl, ?_⟩
  refine iteT ?_
  intro u du hx hd ne
  generalize hH : upd (upd H du _) u _ = H
  have hL := Led.made hL2 hx hd ne hH
  clear hH hx hd ne hL2
  refine ⟨u, du, _, rfl, hL, fun al H hL2 => ?_⟩
  clear hL
  refine ⟨rfl, ?_⟩
  refine k_meth hL2 ⟨0, rfl⟩ (fz_no (by decide +kernel)) ?_
  fail "go"
  dsimp only [tNil, tCons, tC, List.cons_append, List.nil_append]
  exact ⟨u, du, al, 0, 1, .str "x", [], _, rfl, hL2, by decide, fun z => absurd z (by decide), fun _ p H hL => kk H⟩
theorem st_ifW (hr : Room 20 (LX P w K mg base f (.ref cL) A outer s0 H0 E).A) (TB : LamX.TabB base mg cL PL) {gT : Addr} (c_told : ∀ i : ToF, CalS P w K mg base 8 "_law_told" (gTold i.2.1 i.1 i.2.2) (spToldS P w K mg base 7 [(CM, "MachineError")] i.2.1 i.1 i.2.2)) (hmT : mg "_law_told" = some (.ref gT)) (kpT : PySem.W.keepIn K (.ref gT) = true)
    (TM : ExcT K mg "MachineError" CM) (c_DriftClock_d : Mak P w K mg base 1 "DriftClock" C.C (spCInit C.C) [.int 0]) (c_Granter : Mak P w K mg base 1 "Granter" C.G (spGInit C.G) []) (c_DX : MakX P w K mg base 1 "DriftClock" C.C (spCInitX CM) [.int 0]) (c_GX : MetX P w K mg base 2 C.G "ask" (spGAskX CM) []) :
    PS (LX P w K mg base f (.ref cL) A outer s0 H0 E) (nth (defBody sLaw) 2) (tIfW PL) := by
  refine ps_imp (t := _) (ps_if (PW.pt (pw_or (pt_cmpR (op_neP hr.units) (pe_lc (own := [("rate", 26)]) (g := gName 26) (by rfl) scLaw.nd (pi_list (pv 33)) (blkOk_by (own := [("rate", 26)]) (N := NLw) (sc := defScope sLaw) (by decide +kernel)) (fun _ _ _ _ _ => (pg_name (i := 26) scLaw.nd rfl (Or.inr rfl)))
      (fun s H C0 cl fp => (pts_one (pt_cmpR op_ne (pe_inst (t := fun cl : List (Str × Addr) => tCallS (ι := ToF) (fun i => spToldS P w K mg base 7 [(CM, "MachineError")] i.2.1 i.1 i.2.2) (fun i σ => i.1 = (["rate"] : List Str) ∧ i.2.1.cl = cloFrom cl (lamScope lam1).names [] ∧ i.2.2 = [26].map (slotAt σ)) (fun _ _ _ => False)
        (tCons (tLamVL PL ((LX P w K mg base f (.ref cL) A outer s0 H0 E).env.qual ++ "<lambda>") (lamArgs lam1) (lamBody lam1) (lamScope lam1) (cloFrom cl (lamScope lam1).names [])) tNil)) cl (pe_cSB c_told hr (by decide) (fun i pins σ H' s' I hR => ?_) (by rfl) hmT kpT (pa_cons (pe_lamvL TB rfl rfl rfl hf1r) pa_nil))) pe_str (nomark _)))) (fun _ _ _ _ _ => (pv 26))) (pe_lst pa_nil) (nomark _))
    (pw_or (pt_cmpR op_ne (pe_cS (R := fun (i : ToF) σ => i.1 = [] ∧ i.2.1.cl = [] ∧ i.2.2 = []) c_told hr (by decide) (fun i pins σ H s I hR => hG0 hR) (by rfl) hmT kpT L2.takes0 (pa_cons (pe_lamvL TB rfl rfl rfl hf2) pa_nil)) pe_str (nomark _))
      (pw_or1 (pt_cmpR op_ne (pe_cS (R := fun (i : ToF) σ => i.1 = [] ∧ i.2.1.cl = [] ∧ i.2.2 = []) c_told hr (by decide) (fun i pins σ H s I hR => hG0 hR) (by rfl) hmT kpT L2.takes0 (pa_cons (pe_lamvL TB rfl rfl rfl hf3) pa_nil)) pe_str (nomark _))))))
    (pss_one (ps_ret pe_bl)) pss_nil) ?_
  · obtain ⟨e1, e2, e3⟩ := hR
    show CellsO i.2.1.cl i.1 i.2.2 _ _ _
    rw [e1, e2, e3]
    exact CellsO.madeB (fun y c h => clo1_fn h) I (Caps.made I.ok (fun y hy e => .inl (hf1r y hy e)) hg1 rfl)
  generalize (LX P w K mg base f (.ref cL) A outer s0 H0 E).env.qual ++ "<lambda>" = q
  rintro D σ H ⟨wl, a, b, c, d, L, hs33, hsl, hL, kk⟩
  match σ, hs33, hsl with
  | v0 :: v1 :: v2 :: v3 :: v4 :: v5 :: v6 :: v7 :: v8 :: v9 :: v10 :: v11 :: v12 :: v13 :: v14 :: v15 :: v16 :: v17 :: v18 :: v19 :: v20 :: v21 :: v22 :: v23 :: v24 :: v25 :: v26 :: v27 :: v28 :: v29 :: v30 :: v31 :: v32 :: v33 :: [], hs33, _ =>
  cases hs33
  obtain ⟨L1, hL1⟩ : ∃ L1 : Lg, L1 = wrL wl a b c d ++ L := ⟨_, rfl⟩
  have mw : (wl, HO.lst [.ref a, .ref b, .ref c, .ref d]) ∈ L1 := by rw [hL1]; exact .head _
  have ma : (a, HO.tup [.int 89, .int 100]) ∈ L1 := by rw [hL1]; exact .tail _ (.head _)
  have mb : (b, HO.tup [.int 111, .int 100]) ∈ L1 := by rw [hL1]; exact .tail _ (.tail _ (.head _))
  have mc : (c, HO.tup [.int 1, .int 0]) ∈ L1 := by rw [hL1]; exact .tail _ (.tail _ (.tail _ (.head _)))
  have md : (d, HO.tup [.int 2, .int 1]) ∈ L1 := by rw [hL1]; exact .tail _ (.tail _ (.tail _ (.tail _ (.head _))))
  rw [← hL1] at hL
  refine ⟨_, rfl, ?_⟩
  refine ⟨_, rfl, ⟨_, .of (hL.mem (.tail _ mw))⟩, fun Dl hD => lc_list (K := K) (g := gName 26) (vs := [26]) (a := wl) (xs := [.ref a, .ref b, .ref c, .ref d]) (fun i H => Hold (∃ (pl : Array Value) (Z : Lg), TabL q pl Z ∧ Led H ((Dl, .lst []) :: (PL, .tbl pl) :: (Z ++ L1)))) (.mk ⟨#[], [], .nil, hL.new hD⟩) (fun i H _ h => ?_) (fun i v H hi h => ?_) (fun H h => ?_)⟩
  · obtain ⟨pl, Z, _, hL⟩ := h.out
    exact .of (hL.mem (.tail _ (.tail _ (List.mem_append_right _ mw))))
  · clear hL hD
    obtain ⟨pl, Z, hT, hL⟩ := h.out
    clear h
    have hv : ∃ (r : Addr) (t l : Int), v = .ref r ∧ (r, HO.tup [.int t, .int l]) ∈ L1 ∧ (l < 1 ∨ t * 10 < l * 9 ∨ l * 11 < t * 10) := by
      match i, hi with
      | 0, hi => cases hi; exact ⟨a, _, _, rfl, ma, by decide⟩
      | 1, hi => cases hi; exact ⟨b, _, _, rfl, mb, by decide⟩
      | 2, hi => cases hi; exact ⟨c, _, _, rfl, mc, by decide⟩
      | 3, hi => cases hi; exact ⟨d, _, _, rfl, md, by decide⟩
    obtain ⟨r, t, l, rfl, mr, hb⟩ := hv
    clear hi
    refine ⟨rfl, ?_⟩
    refine (show ∀ cl : List (Str × Addr), _ from fun cl => ?_)
    have hB : Led H ((PL, .tbl pl) :: (Z ++ ((Dl, .lst []) :: L1))) := hL.le (fun a_ => by
      simp only [cnt_cons, cnt_app]
      omega)
    clear hL
    refine ⟨pl, Z, _, hB, hT, fun f1 d1 pl1 Z1 H hL hT1 hc1 => ?_⟩
    clear hB
    have hL : Led H (lbO q cl lam1 f1 d1 :: (PL, .tbl pl1) :: (Z1 ++ (Z ++ ((Dl, .lst []) :: L1)))) := hL
    have mc1 : (d1, CodeO d1 q) ∈ lbO q cl lam1 f1 d1 :: (PL, .tbl pl1) :: (Z1 ++ (Z ++ ((Dl, .lst []) :: L1))) := .tail _ (.tail _ (by
      rw [← List.append_assoc]
      exact List.mem_append_left _ hc1))
    refine ⟨((["rate"] : List Str), lbF q cl lam1 d1, [some (.ref r)]), ⟨rfl, rfl, rfl⟩, f1, lamBody lam1, tl1 CM, rfl, hL.mem (.head _), .of (hL.mem mc1), lok1 c_DX, rfl, r, t, l, _, rfl, hL, .tail _ (.tail _ (List.mem_append_right _ (List.mem_append_right _ (.tail _ mr)))), hb, fun H hL2 => ?_⟩
    clear hL mc1
    refine ⟨true, TM.em, fun _ => ?_, fun h => (nomatch h)⟩
    refine ⟨rfl, ?_⟩
    rw [show (!decide (V.str ("MachineError" : Str) = V.str ("MachineError" : Str))) = false by simp]
    refine ⟨_, rfl, iteF ?_⟩
    refine .mk ⟨pl1, Z1 ++ Z, hT1, hL2.le (fun a_ => ?_)⟩
    simp only [cnt_cons, cnt_app]
    omega
  · clear hL hD
    obtain ⟨pl, Z, hT, hL⟩ := h.out
    clear h
    fail "go"
    refine k_neSame (d := .list []) (dp_lst (hL.mem (.tail _ (.head _))) .nil) (dp_lst (hL.mem (.head _)) .nil) ⟨by simp [PyData.plain, PyData.plainAll], by simp [PyData.depth, PyData.depthAll]⟩ ?_
    refine ⟨_, rfl, ?_⟩
    refine iteF ?_
    have hB : Led H ((PL, .tbl pl) :: (Z ++ L1)) := hL.le (fun a_ => by
      simp only [cnt_cons, cnt_app]
      omega)
    clear hL
    refine ⟨pl, Z, _, hB, hT, fun f2 d2 pl2 Z2 H hL hT2 hc2 => ?_⟩
    have hL : Led H (lbO q [] lam2 f2 d2 :: (PL, .tbl pl2) :: (Z2 ++ (Z ++ L1))) := hL
    clear hB
    have mc2 : (d2, CodeO d2 q) ∈ lbO q [] lam2 f2 d2 :: (PL, .tbl pl2) :: (Z2 ++ (Z ++ L1)) := .tail _ (.tail _ (by
      rw [← List.append_assoc]
      exact List.mem_append_left _ hc2))
    refine ⟨([], lbF q [] lam2 d2, []), ⟨rfl, rfl, rfl⟩, f2, lamBody lam2, tl2 CM, rfl, hL.mem (.head _), .of (hL.mem mc2), lok2 c_DriftClock_d c_Granter c_GX, rfl, rfl, _, hL, fun H hL2 => ?_⟩
    clear hL mc2
    refine ⟨true, TM.em, fun _ => ?_, fun h => (nomatch h)⟩
    refine ⟨rfl, ?_⟩
    rw [show (!decide (V.str ("MachineError" : Str) = V.str ("MachineError" : Str))) = false by simp]
    refine ⟨_, rfl, iteF ?_⟩
    have hB : Led H ((PL, .tbl pl2) :: ((Z2 ++ Z) ++ L1)) := hL2.le (fun a_ => by
      simp only [cnt_cons, cnt_app]
      omega)
    clear hL2
    refine ⟨pl2, Z2 ++ Z, _, hB, hT2, fun f3 d3 pl3 Z3 H hL hT3 hc3 => ?_⟩
    have hL : Led H (lbO q [] lam3 f3 d3 :: (PL, .tbl pl3) :: (Z3 ++ ((Z2 ++ Z) ++ L1))) := hL
    clear hB
    have mc3 : (d3, CodeO d3 q) ∈ lbO q [] lam3 f3 d3 :: (PL, .tbl pl3) :: (Z3 ++ ((Z2 ++ Z) ++ L1)) := .tail _ (.tail _ (by
      rw [← List.append_assoc]
      exact List.mem_append_left _ hc3))
    refine ⟨([], lbF q [] lam3 d3, []), ⟨rfl, rfl, rfl⟩, f3, lamBody lam3, tl2 CM, rfl, hL.mem (.head _), .of (hL.mem mc3), lok3 c_DriftClock_d c_Granter c_GX, rfl, rfl, _, hL, fun H hL2 => ?_⟩
    clear hL mc3
    refine ⟨true, TM.em, fun _ => ?_, fun h => (nomatch h)⟩
    refine ⟨rfl, ?_⟩
    rw [show (!decide (V.str ("MachineError" : Str) = V.str ("MachineError" : Str))) = false by simp]
    refine ⟨_, rfl, iteF ?_⟩
    exact kk H
end
end Sd


set_option linter.unusedVariables false
namespace Sd
open PySem L2 LamX NdefX PyProof.Rows Mx
open C8 (Cal Met Mak pe_c pe_mk pe_mt pe_mt0 pss_cut tCut)
/-! ### the law -/
def intAt (v : Value) (i : Int) : Bool := match v with
  | .int j _ => decide (j = i)
  | _ => false
theorem intAt_ok {v : Value} {i : Int} (h : intAt v i = true) : RelV (.int i) v := by
  unfold intAt at h
  split at h
  · rename_i j t
    obtain rfl := of_decide_eq_true h
    exact ⟨t, rfl⟩
  · cases h
def pairB (K : PySem.W.Frag) (a : Addr) (i j : Int) : Bool := match K.lookup a with
  | some o => decide (o.cls = .type "tuple") && (match o.data with
    | .seq its _ => (match its.toList with
      | [x, y] => intAt x i && intAt y j
      | _ => false)
    | _ => false)
  | none => false
theorem pair_ok {K : PySem.W.Frag} {a : Addr} {i j : Int} (h : pairB K a i j = true) (H : Hp) : SqT K H a [.int i, .int j] := by
  unfold pairB at h
  split at h
  · rename_i o ho
    rw [Bool.and_eq_true, decide_eq_true_eq] at h
    obtain ⟨hc, h⟩ := h
    split at h
    · rename_i its n hd
      split at h
      · rename_i x y hl
        rw [Bool.and_eq_true] at h
        obtain ⟨h1, h2⟩ := h
        refine .inr ⟨o, its, n, ho, hc, hd, ?_, ?_⟩
        · have : its.size = 2 := by rw [← Array.length_toList, hl]; rfl
          rw [this]
          decide
        · rw [hl]
          exact .cons (intAt_ok h1) (.cons (intAt_ok h2) .nil)
      · cases h
    · cases h
  · cases h
abbrev sTold1 : Stmt := top 15
def spLaw (K : PySem.W.Frag) (PL : Addr) : Sp := fun vs H Q _ => ∃ (a : Addr) (ns : List Int), vs = [.ref a] ∧ SqL K H a (ns.map V.int) ∧ ns.length ≤ 63 ∧ Led H [(PL, .tbl #[])] ∧ ∀ H', Q (.bl true) H'
section
variable {P : Program} {w : World} {K : PySem.W.Frag} {mg : Str → Option Value} {base : Heap} {C : Cl4} {CM PL : Addr} {f cL : Addr} {A : Around} {outer : List Env} {s0 : Shared} {H0 : Hp} {E : XK}
theorem law_all (hr : Room 20 (LX P w K mg base f (.ref cL) A outer s0 H0 E).A) (T : TxtLw mg) (XC : TxtCl K C.C nmC) (XG : TxtCl K C.G nmG) (XH : TxtCl K C.H nmH) (XU : TxtCl K C.U nmU) (TM : ExcT K mg "MachineError" CM) (TB : LamX.TabB base mg cL PL) {gT : Addr}
    (c_told : ∀ i : ToF, CalS P w K mg base 8 "_law_told" (gTold i.2.1 i.1 i.2.2) (spToldS P w K mg base 7 [(CM, "MachineError")] i.2.1 i.1 i.2.2)) (hmT : mg "_law_told" = some (.ref gT)) (kpT : PySem.W.keepIn K (.ref gT) = true)
    (Lround : Cal P w K mg base 2 "_law_rounds" (spRounds K) []) (Lroll : Cal P w K mg base 1 "_law_roll" spRoll []) (Llease : Cal P w K mg base 2 "_law_lease" spLease [])
    (Cmk : Mak P w K mg base 1 "DriftClock" C.C (spCInit C.C) []) (Cmk0 : Mak P w K mg base 1 "DriftClock" C.C (spCInit C.C) [.int 0]) (Cat : Met P w K mg base 1 C.C "at" (spCAt C.C) []) (Wait : Cal P w K mg base 1 "waiting_time" spWait [])
    (Gmk : Mak P w K mg base 1 "Granter" C.G (spGInit C.G) []) (Gask : Met P w K mg base 2 C.G "ask" (spGAsk C.G C.C) []) (Gback : Met P w K mg base 1 C.G "give_back" (spGBack C.G) [])
    (Hmk : Mak P w K mg base 1 "Holder" C.H (spHInit C.H) []) (Hbeg : Met P w K mg base 2 C.H "begin" (spHBegin C.H C.C) []) (Hgr : Met P w K mg base 1 C.H "granted" (spHGrant C.H) []) (Hho : Met P w K mg base 2 C.H "holds" (spHHolds C.H C.C) []) (Hdr : Met P w K mg base 1 C.H "drop" (spHDrop C.H) [])
    (Umk : Mak P w K mg base 1 "Guarded" C.U (spUInit C.U) []) (Uact : Met P w K mg base 1 C.U "act" (spUAct C.U) []) (DX : MakX P w K mg base 1 "DriftClock" C.C (spCInitX CM) [.int 0]) (GX : MetX P w K mg base 2 C.G "ask" (spGAskX CM) [])
    {vs : List V} {H : Hp} {Q : VK} (h : spLaw K PL vs H Q E) : ∃ t, PSs (LX P w K mg base f (.ref cL) A outer s0 H0 E) (defBody sLaw) t ∧ t { nx := fun _ H' => Q .non H', rt := Q } (L2.start NLw vs) H := by
  obtain ⟨a, ns0, rfl, hS, hlen, hL, k⟩ := h
  have e0 : defBody sLaw = [nth (defBody sLaw) 0, nth (defBody sLaw) 1, nth (defBody sLaw) 2, nth (defBody sLaw) 3, nth (defBody sLaw) 4] := rfl
  have bS := st_step (st_s0 hr T Lroll) (st_s1 hr Lroll) (st_br hr T XH Hho (st_A hr XH XG Lroll Hbeg Gask Llease Cat) (st_B hr T XH Lroll Hgr) (st_C hr XH Hdr Hho Gback) (st_D hr T XH Uact)) (st_held hr T XH Hho Cat) (st_safe hr T Hho)
  have dc := st_dice hr T Lround Lroll (st_d0 hr Lroll Cmk Gmk Umk) (st_d1 hr T Lroll Cmk Hmk) (st_d2 hr) (st_d3 hr) bS (st_d5 hr T XU) (st_d6 hr Lroll) (st_d7 hr Lroll Cmk Cmk0) (st_d8 hr T Cat) (st_d9 hr Cat Wait) (st_d10 hr XC Cat)
  rw [e0]
  refine ⟨_, pss_cons dc (pss_cons st_wrong (pss_cons (st_ifW hr TB c_told hmT kpT TM Cmk0 Gmk DX GX) (pss_cons (st_hold hr Cmk0 Hmk) (pss_one (st_retL hr Hgr Hdr Hho Umk Uact))))), ?_⟩
  refine (show tDice K _ _ _ from ?_)
  refine ⟨a, ns0, _, rfl, hS, hL, fun σ H hsl hL => ?_⟩
  match σ, hsl with
  | v0 :: v1 :: v2 :: v3 :: v4 :: v5 :: v6 :: v7 :: v8 :: v9 :: v10 :: v11 :: v12 :: v13 :: v14 :: v15 :: v16 :: v17 :: v18 :: v19 :: v20 :: v21 :: v22 :: v23 :: v24 :: v25 :: v26 :: v27 :: v28 :: v29 :: v30 :: v31 :: v32 :: v33 :: [], _ =>
  refine (show tWrong _ _ _ from ?_)
  refine ⟨_, rfl, hL, fun w a b c d H hL => ?_⟩
  refine (show tIfW PL _ _ _ from ?_)
  refine ⟨w, a, b, c, d, [], rfl, rfl, hL.le (fun a_ => by
    simp only [cnt_app, cnt_cons, cnt_nil]
    omega), fun H => ?_⟩
  refine (show tHold C _ _ H from ?_)
  refine ⟨rfl, fun h dh c H cok hL => ?_⟩
  refine (show tRetL C _ _ _ from ?_)
  exact ⟨h, dh, c, rfl, rfl, cok, hL, k⟩
end
theorem led1 {H : Hp} {a : Addr} {o : HO} (h : H a = some o) : Led H [(a, o)] := ⟨fun x hx => by rw [List.mem_singleton.mp hx]; exact h, by simp⟩
end Sd


set_option linter.unusedVariables false
namespace Sd
open PySem PySem.Spec PyProof.Rows L2
open C8 (Cal Met Mak)
/-! ### the head -/
def dfs1 : He.DefD := ⟨("DriftClock", some "__init__"), "__init__", "DriftClock.__init__", defArgs sCInit, defBody sCInit, defScope sCInit, [.int 0], []⟩
def dfs2 : He.DefD := ⟨("DriftClock", some "at"), "at", "DriftClock.at", defArgs sCAt, defBody sCAt, defScope sCAt, [], []⟩
def dfs3 : He.DefD := ⟨("Granter", some "__init__"), "__init__", "Granter.__init__", defArgs sGInit, defBody sGInit, defScope sGInit, [], []⟩
def dfs4 : He.DefD := ⟨("Granter", some "ask"), "ask", "Granter.ask", defArgs sGAsk, defBody sGAsk, defScope sGAsk, [], []⟩
def dfs5 : He.DefD := ⟨("Granter", some "give_back"), "give_back", "Granter.give_back", defArgs sGBack, defBody sGBack, defScope sGBack, [], []⟩
def dfs6 : He.DefD := ⟨("Holder", some "__init__"), "__init__", "Holder.__init__", defArgs sHInit, defBody sHInit, defScope sHInit, [], []⟩
def dfs7 : He.DefD := ⟨("Holder", some "begin"), "begin", "Holder.begin", defArgs sHBegin, defBody sHBegin, defScope sHBegin, [], []⟩
def dfs8 : He.DefD := ⟨("Holder", some "granted"), "granted", "Holder.granted", defArgs sHGrant, defBody sHGrant, defScope sHGrant, [], []⟩
def dfs9 : He.DefD := ⟨("Holder", some "holds"), "holds", "Holder.holds", defArgs sHHolds, defBody sHHolds, defScope sHHolds, [], []⟩
def dfs10 : He.DefD := ⟨("Holder", some "drop"), "drop", "Holder.drop", defArgs sHDrop, defBody sHDrop, defScope sHDrop, [], []⟩
def dfs11 : He.DefD := ⟨("Guarded", some "__init__"), "__init__", "Guarded.__init__", defArgs sUInit, defBody sUInit, defScope sUInit, [], []⟩
def dfs12 : He.DefD := ⟨("Guarded", some "act"), "act", "Guarded.act", defArgs sUAct, defBody sUAct, defScope sUAct, [], []⟩
def dfs13 : He.DefD := ⟨("waiting_time", none), "waiting_time", "waiting_time", defArgs sWait, defBody sWait, defScope sWait, [], []⟩
def dfs14 : He.DefD := ⟨("_law_dice", none), "_law_dice", "_law_dice", defArgs sDice, defBody sDice, defScope sDice, [], []⟩
def dfs15 : He.DefD := ⟨("_law_roll", none), "_law_roll", "_law_roll", defArgs sRoll, defBody sRoll, defScope sRoll, [], []⟩
def dfs16 : He.DefD := ⟨("_law_rounds", none), "_law_rounds", "_law_rounds", defArgs sRounds, defBody sRounds, defScope sRounds, [], []⟩
def dfs17 : He.DefD := ⟨("_law_told", none), "_law_told", "_law_told", defArgs sTold, defBody sTold, defScope sTold, [], []⟩
def dfs18 : He.DefD := ⟨("_law_lease", none), "_law_lease", "_law_lease", defArgs sLease, defBody sLease, defScope sLease, [], []⟩
def dfs19 : He.DefD := ⟨("law", none), "law", "law", defArgs sLaw, defBody sLaw, defScope sLaw, [], []⟩
def hfn : List He.DefD := [dfs1, dfs2, dfs3, dfs4, dfs5, dfs6, dfs7, dfs8, dfs9, dfs10, dfs11, dfs12, dfs13, dfs14, dfs15, dfs16, dfs17, dfs18, dfs19]
def hfa : List He.Fa := [
  .glo "DriftClock",
  .cls "DriftClock",
  .noat "DriftClock" "rate",
  .noat "DriftClock" "begun",
  .mkr "DriftClock",
  .meth "DriftClock" "at",
  .glo "Granter",
  .cls "Granter",
  .noat "Granter" "clock",
  .noat "Granter" "holder",
  .noat "Granter" "until",
  .noat "Granter" "number",
  .mkr "Granter",
  .meth "Granter" "ask",
  .meth "Granter" "give_back",
  .glo "Holder",
  .cls "Holder",
  .noat "Holder" "name",
  .noat "Holder" "clock",
  .noat "Holder" "number",
  .noat "Holder" "until",
  .noat "Holder" "asked",
  .noat "Holder" "length",
  .noat "Holder" "turn",
  .mkr "Holder",
  .meth "Holder" "begin",
  .meth "Holder" "granted",
  .meth "Holder" "holds",
  .meth "Holder" "drop",
  .glo "Guarded",
  .cls "Guarded",
  .noat "Guarded" "greatest",
  .noat "Guarded" "acts",
  .mkr "Guarded",
  .meth "Guarded" "act",
  .glo "waiting_time",
  .glo "_law_dice",
  .glo "_law_roll",
  .glo "_law_rounds",
  .glo "_law_told",
  .glo "_law_lease",
  .glo "law",
  .glo "MachineError",
  .exc "MachineError",
  .free "abs",
  .free "int",
  .free "max",
  .free "range",
  .free "str",
  .free "len"]
def htf : List He.Defn := [("law", none)]
def hex (K : PySem.W.Frag) : Bool := (PySem.W.isClsIn K (He.ga K "MachineError") && (decide (PySem.W.subIn K (.ref (He.ga K "MachineError")) (.ref (He.ga K "MachineError")) = some true) && (pairB K (He.ga K "SLOWEST") 9 10 && (decide (PySem.W.nsIn K mainGlobals "SLOWEST" = some (some (.ref (He.ga K "SLOWEST")))) && (pairB K (He.ga K "FASTEST") 11 10 && (decide (PySem.W.nsIn K mainGlobals "FASTEST" = some (some (.ref (He.ga K "FASTEST")))) && true))))))
abbrev HR : PySem.W.OpenRow := PySem.W.OpenLaw.row PySem.Challenge.rw_shardstack_k13_leases_by_clocks_that_dri
abbrev hk : PySem.W.Hook := He.hookX 7 hfa hfn [] htf hex
def hob (s : PySem.W.SharedT) : He.AlX := He.obsX 7 hfa hfn [] htf hex (HandSHeadRun.getT s)
theorem hob_eq (s : PySem.W.SharedT) : hob s = hk.obs s.abs := He.obsX_eq (HandSHeadRun.getT_eq s)
def hloose : List Str := (["ShardError", "MachineError", "SLOWEST", "FASTEST", "DriftClock", "waiting_time", "Granter", "Holder", "Guarded", "_law_dice", "_law_roll", "_law_rounds", "_law_told", "_law_lease"] : List Str)
theorem hrun (w : World) : HandSHeadRun.RunEq HR (PySem.W.view HR.prog [17]) hk hob 8000 hloose w := by
  intro os
  kernel_rfl
theorem exB {K : PySem.W.Frag} (h : hex K = true) : (PySem.W.isClsIn K (He.ga K "MachineError") = true) ∧ ((PySem.W.subIn K (.ref (He.ga K "MachineError")) (.ref (He.ga K "MachineError")) = some true)) ∧ (pairB K (He.ga K "SLOWEST") 9 10 = true) ∧ ((PySem.W.nsIn K mainGlobals "SLOWEST" = some (some (.ref (He.ga K "SLOWEST"))))) ∧ (pairB K (He.ga K "FASTEST") 11 10 = true) ∧ ((PySem.W.nsIn K mainGlobals "FASTEST" = some (some (.ref (He.ga K "FASTEST"))))) ∧ True := by
  unfold hex at h
  simp only [Bool.and_eq_true, decide_eq_true_eq] at h
  simpa [and_assoc] using h
theorem all_mk {l : PySem.W.OpenLaw} {w : World} {K : PySem.W.Frag} {h : Heap} {mg : Str → Option Value} {fa : Addr} (X : K.In h) (G : h.Ns mainGlobals mg) (hfa0 : mg "law" = some (.ref fa)) (c : He.SaysX hfa hfn [] htf hex w h K) : LamX.LawAtS l w K CX0 21 63 "script" mg fa h := by
  have exs := exB c.more
  have gl19 : mg "law" = some (.ref (He.fAd K ("law", none))) := He.glo_ok X G (c.t.d.fact 41 (f := .glo "law") rfl)
  have gl_DriftClock : mg "DriftClock" = some (.ref (He.ga K "DriftClock")) := He.glo_ok X G (c.t.d.fact 0 (f := .glo "DriftClock") rfl)
  have cl_DriftClock : Cls K (He.ga K "DriftClock") := He.cls_ok (c.t.d.fact 1 (f := .cls "DriftClock") rfl)
  have no_DriftClock_rate : NoAttr K (He.ga K "DriftClock") "rate" := He.noat_ok (c.t.d.fact 2 (f := .noat "DriftClock" "rate") rfl)
  have no_DriftClock_begun : NoAttr K (He.ga K "DriftClock") "begun" := He.noat_ok (c.t.d.fact 3 (f := .noat "DriftClock" "begun") rfl)
  have mk_DriftClock : Mk K (He.ga K "DriftClock") (He.fAd K ("DriftClock", some "__init__")) := He.mkr_ok (c.t.d.fact 4 (f := .mkr "DriftClock") rfl)
  have me2 : Meth K (He.ga K "DriftClock") "at" (He.fAd K ("DriftClock", some "at")) := He.meth_ok (c.t.d.fact 5 (f := .meth "DriftClock" "at") rfl)
  have gl_Granter : mg "Granter" = some (.ref (He.ga K "Granter")) := He.glo_ok X G (c.t.d.fact 6 (f := .glo "Granter") rfl)
  have cl_Granter : Cls K (He.ga K "Granter") := He.cls_ok (c.t.d.fact 7 (f := .cls "Granter") rfl)
  have no_Granter_clock : NoAttr K (He.ga K "Granter") "clock" := He.noat_ok (c.t.d.fact 8 (f := .noat "Granter" "clock") rfl)
  have no_Granter_holder : NoAttr K (He.ga K "Granter") "holder" := He.noat_ok (c.t.d.fact 9 (f := .noat "Granter" "holder") rfl)
  have no_Granter_until : NoAttr K (He.ga K "Granter") "until" := He.noat_ok (c.t.d.fact 10 (f := .noat "Granter" "until") rfl)
  have no_Granter_number : NoAttr K (He.ga K "Granter") "number" := He.noat_ok (c.t.d.fact 11 (f := .noat "Granter" "number") rfl)
  have mk_Granter : Mk K (He.ga K "Granter") (He.fAd K ("Granter", some "__init__")) := He.mkr_ok (c.t.d.fact 12 (f := .mkr "Granter") rfl)
  have me4 : Meth K (He.ga K "Granter") "ask" (He.fAd K ("Granter", some "ask")) := He.meth_ok (c.t.d.fact 13 (f := .meth "Granter" "ask") rfl)
  have me5 : Meth K (He.ga K "Granter") "give_back" (He.fAd K ("Granter", some "give_back")) := He.meth_ok (c.t.d.fact 14 (f := .meth "Granter" "give_back") rfl)
  have gl_Holder : mg "Holder" = some (.ref (He.ga K "Holder")) := He.glo_ok X G (c.t.d.fact 15 (f := .glo "Holder") rfl)
  have cl_Holder : Cls K (He.ga K "Holder") := He.cls_ok (c.t.d.fact 16 (f := .cls "Holder") rfl)
  have no_Holder_name : NoAttr K (He.ga K "Holder") "name" := He.noat_ok (c.t.d.fact 17 (f := .noat "Holder" "name") rfl)
  have no_Holder_clock : NoAttr K (He.ga K "Holder") "clock" := He.noat_ok (c.t.d.fact 18 (f := .noat "Holder" "clock") rfl)
  have no_Holder_number : NoAttr K (He.ga K "Holder") "number" := He.noat_ok (c.t.d.fact 19 (f := .noat "Holder" "number") rfl)
  have no_Holder_until : NoAttr K (He.ga K "Holder") "until" := He.noat_ok (c.t.d.fact 20 (f := .noat "Holder" "until") rfl)
  have no_Holder_asked : NoAttr K (He.ga K "Holder") "asked" := He.noat_ok (c.t.d.fact 21 (f := .noat "Holder" "asked") rfl)
  have no_Holder_length : NoAttr K (He.ga K "Holder") "length" := He.noat_ok (c.t.d.fact 22 (f := .noat "Holder" "length") rfl)
  have no_Holder_turn : NoAttr K (He.ga K "Holder") "turn" := He.noat_ok (c.t.d.fact 23 (f := .noat "Holder" "turn") rfl)
  have mk_Holder : Mk K (He.ga K "Holder") (He.fAd K ("Holder", some "__init__")) := He.mkr_ok (c.t.d.fact 24 (f := .mkr "Holder") rfl)
  have me7 : Meth K (He.ga K "Holder") "begin" (He.fAd K ("Holder", some "begin")) := He.meth_ok (c.t.d.fact 25 (f := .meth "Holder" "begin") rfl)
  have me8 : Meth K (He.ga K "Holder") "granted" (He.fAd K ("Holder", some "granted")) := He.meth_ok (c.t.d.fact 26 (f := .meth "Holder" "granted") rfl)
  have me9 : Meth K (He.ga K "Holder") "holds" (He.fAd K ("Holder", some "holds")) := He.meth_ok (c.t.d.fact 27 (f := .meth "Holder" "holds") rfl)
  have me10 : Meth K (He.ga K "Holder") "drop" (He.fAd K ("Holder", some "drop")) := He.meth_ok (c.t.d.fact 28 (f := .meth "Holder" "drop") rfl)
  have gl_Guarded : mg "Guarded" = some (.ref (He.ga K "Guarded")) := He.glo_ok X G (c.t.d.fact 29 (f := .glo "Guarded") rfl)
  have cl_Guarded : Cls K (He.ga K "Guarded") := He.cls_ok (c.t.d.fact 30 (f := .cls "Guarded") rfl)
  have no_Guarded_greatest : NoAttr K (He.ga K "Guarded") "greatest" := He.noat_ok (c.t.d.fact 31 (f := .noat "Guarded" "greatest") rfl)
  have no_Guarded_acts : NoAttr K (He.ga K "Guarded") "acts" := He.noat_ok (c.t.d.fact 32 (f := .noat "Guarded" "acts") rfl)
  have mk_Guarded : Mk K (He.ga K "Guarded") (He.fAd K ("Guarded", some "__init__")) := He.mkr_ok (c.t.d.fact 33 (f := .mkr "Guarded") rfl)
  have me12 : Meth K (He.ga K "Guarded") "act" (He.fAd K ("Guarded", some "act")) := He.meth_ok (c.t.d.fact 34 (f := .meth "Guarded" "act") rfl)
  have gl13 : mg "waiting_time" = some (.ref (He.fAd K ("waiting_time", none))) := He.glo_ok X G (c.t.d.fact 35 (f := .glo "waiting_time") rfl)
  have gl14 : mg "_law_dice" = some (.ref (He.fAd K ("_law_dice", none))) := He.glo_ok X G (c.t.d.fact 36 (f := .glo "_law_dice") rfl)
  have gl15 : mg "_law_roll" = some (.ref (He.fAd K ("_law_roll", none))) := He.glo_ok X G (c.t.d.fact 37 (f := .glo "_law_roll") rfl)
  have gl16 : mg "_law_rounds" = some (.ref (He.fAd K ("_law_rounds", none))) := He.glo_ok X G (c.t.d.fact 38 (f := .glo "_law_rounds") rfl)
  have gl17 : mg "_law_told" = some (.ref (He.fAd K ("_law_told", none))) := He.glo_ok X G (c.t.d.fact 39 (f := .glo "_law_told") rfl)
  have gl18 : mg "_law_lease" = some (.ref (He.fAd K ("_law_lease", none))) := He.glo_ok X G (c.t.d.fact 40 (f := .glo "_law_lease") rfl)
  have gl_MachineError : mg "MachineError" = some (.ref (He.ga K "MachineError")) := He.glo_ok X G (c.t.d.fact 42 (f := .glo "MachineError") rfl)
  have TE_MachineError : ExcT K mg "MachineError" (He.ga K "MachineError") := exc_T X G (c.t.d.fact 42 (f := .glo "MachineError") rfl) (c.t.d.fact 43 (f := .exc "MachineError") rfl) (exB c.more).1 (exB c.more).2.1
  have fr_abs : mg "abs" = none := He.free_ok X G (c.t.d.fact 44 (f := .free "abs") rfl)
  have fr_int : mg "int" = none := He.free_ok X G (c.t.d.fact 45 (f := .free "int") rfl)
  have fr_max : mg "max" = none := He.free_ok X G (c.t.d.fact 46 (f := .free "max") rfl)
  have fr_range : mg "range" = none := He.free_ok X G (c.t.d.fact 47 (f := .free "range") rfl)
  have fr_str : mg "str" = none := He.free_ok X G (c.t.d.fact 48 (f := .free "str") rfl)
  have fr_len : mg "len" = none := He.free_ok X G (c.t.d.fact 49 (f := .free "len") rfl)
  obtain ⟨fd1, D1⟩ := c.t.d.def_ 0 (d := dfs1) rfl
  have F1 : FunD K "__init__" "DriftClock.__init__" (defArgs sCInit) (defBody sCInit) (defScope sCInit) [.int 0] [] (He.fAd K ("DriftClock", some "__init__")) fd1 := D1
  obtain ⟨ds1_0, vds1_0, b1_0⟩ := F1.binds1 (ps := ["self", "rate", "start"]) 2 0 (by simp) rfl fun _ _ _ _ _ _ _ us its h1 h2 => match us, its, h1, h2 with | [_, _], [_], _, _ => ⟨_, rfl, rfl⟩
  obtain ⟨ds1_1, vds1_1, b1_1⟩ := F1.binds1 (ps := ["self", "rate", "start"]) 3 1 (by simp) rfl fun _ _ _ _ _ _ _ us its h1 h2 => match us, its, h1, h2 with | [_, _, _], [_], _, _ => ⟨_, rfl, rfl⟩
  obtain ⟨fd2, D2⟩ := c.t.d.def_ 1 (d := dfs2) rfl
  have F2 : Fun K "at" "DriftClock.at" sCAt (He.fAd K ("DriftClock", some "at")) fd2 := fun_ofD D2
  have b2 := F2.binds (ps := ["self", "time"]) fun _ _ _ _ _ _ us hl => match us, hl with | [_, _], _ => rfl
  obtain ⟨fd3, D3⟩ := c.t.d.def_ 2 (d := dfs3) rfl
  have F3 : Fun K "__init__" "Granter.__init__" sGInit (He.fAd K ("Granter", some "__init__")) fd3 := fun_ofD D3
  have b3 := F3.binds (ps := ["self", "clock"]) fun _ _ _ _ _ _ us hl => match us, hl with | [_, _], _ => rfl
  obtain ⟨fd4, D4⟩ := c.t.d.def_ 3 (d := dfs4) rfl
  have F4 : Fun K "ask" "Granter.ask" sGAsk (He.fAd K ("Granter", some "ask")) fd4 := fun_ofD D4
  have b4 := F4.binds (ps := ["self", "name", "length", "time"]) fun _ _ _ _ _ _ us hl => match us, hl with | [_, _, _, _], _ => rfl
  obtain ⟨fd5, D5⟩ := c.t.d.def_ 4 (d := dfs5) rfl
  have F5 : Fun K "give_back" "Granter.give_back" sGBack (He.fAd K ("Granter", some "give_back")) fd5 := fun_ofD D5
  have b5 := F5.binds (ps := ["self", "name", "number"]) fun _ _ _ _ _ _ us hl => match us, hl with | [_, _, _], _ => rfl
  obtain ⟨fd6, D6⟩ := c.t.d.def_ 5 (d := dfs6) rfl
  have F6 : Fun K "__init__" "Holder.__init__" sHInit (He.fAd K ("Holder", some "__init__")) fd6 := fun_ofD D6
  have b6 := F6.binds (ps := ["self", "name", "clock"]) fun _ _ _ _ _ _ us hl => match us, hl with | [_, _, _], _ => rfl
  obtain ⟨fd7, D7⟩ := c.t.d.def_ 6 (d := dfs7) rfl
  have F7 : Fun K "begin" "Holder.begin" sHBegin (He.fAd K ("Holder", some "begin")) fd7 := fun_ofD D7
  have b7 := F7.binds (ps := ["self", "length", "time"]) fun _ _ _ _ _ _ us hl => match us, hl with | [_, _, _], _ => rfl
  obtain ⟨fd8, D8⟩ := c.t.d.def_ 7 (d := dfs8) rfl
  have F8 : Fun K "granted" "Holder.granted" sHGrant (He.fAd K ("Holder", some "granted")) fd8 := fun_ofD D8
  have b8 := F8.binds (ps := ["self", "turn", "number"]) fun _ _ _ _ _ _ us hl => match us, hl with | [_, _, _], _ => rfl
  obtain ⟨fd9, D9⟩ := c.t.d.def_ 8 (d := dfs9) rfl
  have F9 : Fun K "holds" "Holder.holds" sHHolds (He.fAd K ("Holder", some "holds")) fd9 := fun_ofD D9
  have b9 := F9.binds (ps := ["self", "time"]) fun _ _ _ _ _ _ us hl => match us, hl with | [_, _], _ => rfl
  obtain ⟨fd10, D10⟩ := c.t.d.def_ 9 (d := dfs10) rfl
  have F10 : Fun K "drop" "Holder.drop" sHDrop (He.fAd K ("Holder", some "drop")) fd10 := fun_ofD D10
  have b10 := F10.binds (ps := ["self"]) fun _ _ _ _ _ _ us hl => match us, hl with | [_], _ => rfl
  obtain ⟨fd11, D11⟩ := c.t.d.def_ 10 (d := dfs11) rfl
  have F11 : Fun K "__init__" "Guarded.__init__" sUInit (He.fAd K ("Guarded", some "__init__")) fd11 := fun_ofD D11
  have b11 := F11.binds (ps := ["self"]) fun _ _ _ _ _ _ us hl => match us, hl with | [_], _ => rfl
  obtain ⟨fd12, D12⟩ := c.t.d.def_ 11 (d := dfs12) rfl
  have F12 : Fun K "act" "Guarded.act" sUAct (He.fAd K ("Guarded", some "act")) fd12 := fun_ofD D12
  have b12 := F12.binds (ps := ["self", "number", "what"]) fun _ _ _ _ _ _ us hl => match us, hl with | [_, _, _], _ => rfl
  obtain ⟨fd13, D13⟩ := c.t.d.def_ 12 (d := dfs13) rfl
  have F13 : Fun K "waiting_time" "waiting_time" sWait (He.fAd K ("waiting_time", none)) fd13 := fun_ofD D13
  have b13 := F13.binds (ps := ["length"]) fun _ _ _ _ _ _ us hl => match us, hl with | [_], _ => rfl
  obtain ⟨fd14, D14⟩ := c.t.d.def_ 13 (d := dfs14) rfl
  have F14 : Fun K "_law_dice" "_law_dice" sDice (He.fAd K ("_law_dice", none)) fd14 := fun_ofD D14
  have b14 := F14.binds (ps := ["cell"]) fun _ _ _ _ _ _ us hl => match us, hl with | [_], _ => rfl
  obtain ⟨fd15, D15⟩ := c.t.d.def_ 14 (d := dfs15) rfl
  have F15 : Fun K "_law_roll" "_law_roll" sRoll (He.fAd K ("_law_roll", none)) fd15 := fun_ofD D15
  have b15 := F15.binds (ps := ["dice", "many"]) fun _ _ _ _ _ _ us hl => match us, hl with | [_, _], _ => rfl
  obtain ⟨fd16, D16⟩ := c.t.d.def_ 15 (d := dfs16) rfl
  have F16 : Fun K "_law_rounds" "_law_rounds" sRounds (He.fAd K ("_law_rounds", none)) fd16 := fun_ofD D16
  have b16 := F16.binds (ps := ["script", "most"]) fun _ _ _ _ _ _ us hl => match us, hl with | [_, _], _ => rfl
  obtain ⟨fd17, D17⟩ := c.t.d.def_ 16 (d := dfs17) rfl
  have F17 : Fun K "_law_told" "_law_told" sTold (He.fAd K ("_law_told", none)) fd17 := fun_ofD D17
  have b17 := F17.binds (ps := ["what"]) fun _ _ _ _ _ _ us hl => match us, hl with | [_], _ => rfl
  obtain ⟨fd18, D18⟩ := c.t.d.def_ 17 (d := dfs18) rfl
  have F18 : Fun K "_law_lease" "_law_lease" sLease (He.fAd K ("_law_lease", none)) fd18 := fun_ofD D18
  have b18 := F18.binds (ps := ["lease", "name", "now", "length"]) fun _ _ _ _ _ _ us hl => match us, hl with | [_, _, _, _], _ => rfl
  obtain ⟨fd19, D19⟩ := c.t.d.def_ 18 (d := dfs19) rfl
  have F19 : Fun K "law" "law" sLaw (He.fAd K ("law", none)) fd19 := fun_ofD D19
  have e := hfa0.symm.trans gl19
  cases e
  have TM := TE_MachineError
  have TL : TxtL mg := ⟨fr_abs, fr_int⟩
  have TK : TxtK K mg (He.ga K "SLOWEST") (He.ga K "FASTEST") := ⟨fr_max, ⟨_, PySem.W.mg_of X G (exB c.more).2.2.2.1, rfl⟩, ⟨_, PySem.W.mg_of X G (exB c.more).2.2.2.2.2.1, rfl⟩, fun H => pair_ok (exB c.more).2.2.1 H, fun H => pair_ok (exB c.more).2.2.2.2.1 H⟩
  have TG : TxtLw mg := ⟨fr_range, fr_str, fr_len, fr_max⟩
  have XC : TxtCl K (He.ga K "DriftClock") nmC := ⟨cl_DriftClock, (fun f hf => by
    simp only [nmC, List.mem_cons, List.not_mem_nil, or_false] at hf
    rcases hf with rfl | rfl
    · exact no_DriftClock_rate
    · exact no_DriftClock_begun)⟩
  have XG : TxtCl K (He.ga K "Granter") nmG := ⟨cl_Granter, (fun f hf => by
    simp only [nmG, List.mem_cons, List.not_mem_nil, or_false] at hf
    rcases hf with rfl | rfl | rfl | rfl
    · exact no_Granter_clock
    · exact no_Granter_holder
    · exact no_Granter_until
    · exact no_Granter_number)⟩
  have XH : TxtCl K (He.ga K "Holder") nmH := ⟨cl_Holder, (fun f hf => by
    simp only [nmH, List.mem_cons, List.not_mem_nil, or_false] at hf
    rcases hf with rfl | rfl | rfl | rfl | rfl | rfl | rfl
    · exact no_Holder_name
    · exact no_Holder_clock
    · exact no_Holder_number
    · exact no_Holder_until
    · exact no_Holder_asked
    · exact no_Holder_length
    · exact no_Holder_turn)⟩
  have XU : TxtCl K (He.ga K "Guarded") nmU := ⟨cl_Guarded, (fun f hf => by
    simp only [nmU, List.mem_cons, List.not_mem_nil, or_false] at hf
    rcases hf with rfl | rfl
    · exact no_Guarded_greatest
    · exact no_Guarded_acts)⟩
  obtain ⟨ocL, odL, kVL, dcL, pmL, anL, ctL, oslL, rfl, lkL, cdL⟩ := fun_code (p := ("law", none)) F19
  refine ⟨PySem.W.fnOf "law" "law" (defArgs sLaw) (defBody sLaw) (defScope sLaw) .none kVL dcL pmL anL (.ref (He.cT K ("law", none)).1) ctL, htf.map (He.cT K), spLaw K (He.cT K ("law", none)).2, fun p hp => ?_, fun p hp => ?_, fun p hp => ?_, fun s v => .of_eq rfl, fun H a ns hlen _ hH hS => ⟨a, ns, rfl, hS, hlen, led1 (hH _ (List.mem_map.mpr ⟨_, .head _, rfl⟩)), fun _ => rfl⟩, fun base _ _ htb => ?_⟩
  · obtain ⟨x, hx, rfl⟩ := List.mem_map.mp hp
    exact c.empty x hx
  · obtain ⟨x, hx, rfl⟩ := List.mem_map.mp hp
    exact c.out x hx
  · obtain ⟨x, hx, rfl⟩ := List.mem_map.mp hp
    exact PySem.W.codeHd_of_K X (c.hd x hx)
  have hTBL := htb (He.cT K ("law", none)) (List.mem_map.mpr ⟨("law", none), (.head _), rfl⟩)
  have Ldice : Cal l.prog w K mg base (1) "_law_dice" spDice [] := ⟨_, _, _, [], ok_dice F14 TL, gl14, F14.kp, b14, .nil⟩
  have Lroll : Cal l.prog w K mg base (1) "_law_roll" spRoll [] := ⟨_, _, _, [], ok_roll F15 TL, gl15, F15.kp, b15, .nil⟩
  have Lround : Cal l.prog w K mg base (2) "_law_rounds" (spRounds K) [] := ⟨_, _, _, [], ok_rounds F16 Ldice, gl16, F16.kp, b16, .nil⟩
  have Wait : Cal l.prog w K mg base (1) "waiting_time" spWait [] := ⟨_, _, _, [], ok_wait F13, gl13, F13.kp, b13, .nil⟩
  have Llease : Cal l.prog w K mg base (2) "_law_lease" spLease [] := ⟨_, _, _, [], ok_lease F18 TK Wait, gl18, F18.kp, b18, .nil⟩
  cases vds1_1
  have Cmk : Mak l.prog w K mg base (1) "DriftClock" (He.ga K "DriftClock") (spCInit (He.ga K "DriftClock")) [] := ⟨_, _, _, [], mk_DriftClock, ok_CInit F1 XC TK, gl_DriftClock, b1_1, .nil⟩
  have Cmk0 : Mak l.prog w K mg base (1) "DriftClock" (He.ga K "DriftClock") (spCInit (He.ga K "DriftClock")) [.int 0] := ⟨_, _, _, _, mk_DriftClock, ok_CInit F1 XC TK, gl_DriftClock, b1_0, vds1_0⟩
  have DX : MakX l.prog w K mg base (1) "DriftClock" (He.ga K "DriftClock") (spCInitX (He.ga K "MachineError")) [.int 0] := ⟨_, _, _, _, mk_DriftClock, ok_CInitX F1 TK TM, gl_DriftClock, b1_0, vds1_0⟩
  have Cat : Met l.prog w K mg base (1) (He.ga K "DriftClock") "at" (spCAt (He.ga K "DriftClock")) [] := ⟨_, _, _, [], cl_DriftClock, me2, ok_CAt F2 XC, b2, .nil⟩
  have Gmk : Mak l.prog w K mg base (1) "Granter" (He.ga K "Granter") (spGInit (He.ga K "Granter")) [] := ⟨_, _, _, [], mk_Granter, ok_GInit F3 XG, gl_Granter, b3, .nil⟩
  have Gask : Met l.prog w K mg base (2) (He.ga K "Granter") "ask" (spGAsk (He.ga K "Granter") (He.ga K "DriftClock")) [] := ⟨_, _, _, [], cl_Granter, me4, ok_GAsk F4 XG TK Cat Wait, b4, .nil⟩
  have GX : MetX l.prog w K mg base (2) (He.ga K "Granter") "ask" (spGAskX (He.ga K "MachineError")) [] := ⟨_, _, _, [], cl_Granter, me4, ok_GAskX F4 TK TM Cat Wait, b4, .nil⟩
  have Gback : Met l.prog w K mg base (1) (He.ga K "Granter") "give_back" (spGBack (He.ga K "Granter")) [] := ⟨_, _, _, [], cl_Granter, me5, ok_GBack F5 XG, b5, .nil⟩
  have Hmk : Mak l.prog w K mg base (1) "Holder" (He.ga K "Holder") (spHInit (He.ga K "Holder")) [] := ⟨_, _, _, [], mk_Holder, ok_HInit F6 XH, gl_Holder, b6, .nil⟩
  have Hbeg : Met l.prog w K mg base (2) (He.ga K "Holder") "begin" (spHBegin (He.ga K "Holder") (He.ga K "DriftClock")) [] := ⟨_, _, _, [], cl_Holder, me7, ok_HBegin F7 XH Cat, b7, .nil⟩
  have Hgr : Met l.prog w K mg base (1) (He.ga K "Holder") "granted" (spHGrant (He.ga K "Holder")) [] := ⟨_, _, _, [], cl_Holder, me8, ok_HGrant F8 XH, b8, .nil⟩
  have Hho : Met l.prog w K mg base (2) (He.ga K "Holder") "holds" (spHHolds (He.ga K "Holder") (He.ga K "DriftClock")) [] := ⟨_, _, _, [], cl_Holder, me9, ok_HHolds F9 XH Cat, b9, .nil⟩
  have Hdr : Met l.prog w K mg base (1) (He.ga K "Holder") "drop" (spHDrop (He.ga K "Holder")) [] := ⟨_, _, _, [], cl_Holder, me10, ok_HDrop F10 XH, b10, .nil⟩
  have Umk : Mak l.prog w K mg base (1) "Guarded" (He.ga K "Guarded") (spUInit (He.ga K "Guarded")) [] := ⟨_, _, _, [], mk_Guarded, ok_UInit F11 XU, gl_Guarded, b11, .nil⟩
  have Uact : Met l.prog w K mg base (1) (He.ga K "Guarded") "act" (spUAct (He.ga K "Guarded")) [] := ⟨_, _, _, [], cl_Guarded, me12, ok_UAct F12 XU, b12, .nil⟩
  have told : ∀ i : ToF, CalS l.prog w K mg base 8 "_law_told" (gTold i.2.1 i.1 i.2.2) (spToldS l.prog w K mg base 7 [((He.ga K "MachineError"), "MachineError")] i.2.1 i.1 i.2.2) := fun i => ⟨_, _, _, ok_told1 F17 scTold (by rfl) rfl TM.g rfl (Or.inl rfl) (fun _ => rfl), gl17, F17.kp, b17⟩
  refine fn_of lkL cdL scLaw (fun vs H Q E h => ?_) fun A outer s H vs Q E hr hsp => ?_
  · obtain ⟨a, ns, rfl, _⟩ := h
    rfl
  obtain ⟨t, ht, hq⟩ := law_all (C := ⟨(He.ga K "DriftClock"), (He.ga K "Granter"), (He.ga K "Holder"), (He.ga K "Guarded")⟩) (PL := (He.cT K ("law", none)).2) (f := He.fAd K ("law", none)) (cL := (He.cT K ("law", none)).1) (A := A) (outer := outer) (s0 := s) (H0 := H) (E := E) hr TG XC XG XH XU TM hTBL told gl17 F17.kp Lround Lroll Llease Cmk Cmk0 Cat Wait Gmk Gask Gback Hmk Hbeg Hgr Hho Hdr Umk Uact DX GX hsp
  exact ⟨t, ht.nox, hq⟩
end Sd
open PySem PySem.W PySem.Calls PyProof.Rows
set_option maxRecDepth 100000 in
set_option maxHeartbeats 0 in
theorem PySem.Challenge.cw_shardstack_k13_leases_by_clocks_that_dri_holds : PySem.Challenge.rw_shardstack_k13_leases_by_clocks_that_dri.Holds := by
  w_on; o_law
  refine HandSHeadRun.head_any (r := OpenLaw.row PySem.Challenge.rw_shardstack_k13_leases_by_clocks_that_dri) (q := view (OpenLaw.row PySem.Challenge.rw_shardstack_k13_leases_by_clocks_that_dri).prog [17]) (H := Sd.hk) (ob := Sd.hob) (M := 8000) (loose := Sd.hloose) (d := HandSHeadRun.topDef (OpenLaw.row PySem.Challenge.rw_shardstack_k13_leases_by_clocks_that_dri).prog 17) (kwd := []) Sd.hob_eq
    (by kernel_rfl) (fun s => by kernel_rfl) Sd.hrun (by kernel_rfl) (by kernel_rfl) (by kernel_rfl) (by rfl) (by first | assumption | decide +kernel) (by decide +kernel) ⟨rfl, rfl, rfl, rfl, rfl, by decide +kernel⟩ ?hw ?hc
  case hw => w_witness2
  case hc =>
    refine LamX.walk_ofTsE (l := PySem.Challenge.rw_shardstack_k13_leases_by_clocks_that_dri) (n := 63) (k := 21) (x := "script") (CX := fun _ => L2.CX0) rfl (by decide) (by kernel_rfl) ⟨rfl, by decide, by decide⟩ ?F (fun _ _ _ _ _ z => z)
    intro w mg fa h Y G hmg0
    obtain ⟨K, KX, c⟩ := Y
    have hmg : mg ("law" : PySem.Str) = some (.ref fa) := by
      have e : (HandSHeadRun.topDef (OpenLaw.row PySem.Challenge.rw_shardstack_k13_leases_by_clocks_that_dri).prog 17).name = ("law" : PySem.Str) := by kernel_rfl
      rw [← e]
      exact hmg0
    exact ⟨K, KX, Sd.all_mk KX G hmg c⟩
#print axioms PySem.Challenge.cw_shardstack_k13_leases_by_clocks_that_dri_holds

