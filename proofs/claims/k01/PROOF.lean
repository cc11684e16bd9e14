import PyProof.Rows.All
import Wide.All
import OpenK.AllK
import Wide.FinOn
import HandS.ForMost
import HandS.Flow
import HandS.Style
import HandS.Codes
import HandS.SortInts
import HandS.Conv
import HandS.Nested
import HandS.TryOnly
import HandS.ExcOwn
import HandS.WordsExc
import HandS.Small
import HandS.EndOwn
import HandS.Defaults
import KE.DataEq
import HandS.GenList
import HandS.AnyAll
import HandS.JoinGen
import PyProof.TupleOfGen
import HandS.Walk
import HandS.Lambda
import HandS.HeadHook4
import HandS.HeadWalk
import HandS.Head2
import HandS.HeadEnd
import HandS.DeepEq
import HandS.DictComp
import KE.KEqNest
import HandS.More
import PyProof.TupleOfSeq
import HandS.IsInst
import HandS.Text
import HandS.TupAny
import HandS.TryMany
import KE.KDictPairs
import HandS.Keys
import HandS.List
import PyProof.DictFindH
import PyProof.EqAt
import PyProof.EqKinds
import PyProof.P3Eq
import PySem.Challenge.RW_shardstack_k01_values_as_bytes
import HandS.Wide
import HandS.Zip
import HandS.RaiseMore
import HandS.TupMul
import KE.KExcLine
set_option Elab.async false
set_option maxRecDepth 100000
set_option maxHeartbeats 4000000
set_option linter.all false
namespace Sd
open PySem L2

/-! ### the ledger: objects of the heap, all at different places -/
abbrev Lg := List (Addr × HO)
def Led (H : Hp) (L : Lg) : Prop := (∀ x ∈ L, H x.1 = some x.2) ∧ (L.map (·.1)).Nodup
/-- the object at a is known -/
def At (L : Lg) (a : Addr) (o : HO) : Prop := ∃ i : Nat, L[i]? = some (a, o)
section
variable {H H' : Hp} {L A B C R : Lg} {a p : Addr} {o o' : HO}
theorem Led.mem (h : Led H L) (m : (a, o) ∈ L) : H a = some o := h.1 _ m
theorem Led.at (h : Led H L) (e : At L a o) : H a = some o := let ⟨_, q⟩ := e; h.1 _ (List.mem_of_getElem? q)
theorem Led.ne (h : Led H L) (e : At L a o) (hp : H p = none) : a ≠ p := ne_of_none (h.at e) hp
theorem Led.nin (h : Led H L) (hp : H p = none) : p ∉ L.map (·.1) := fun m => by
  obtain ⟨x, hx, e⟩ := List.mem_map.mp m
  have := h.1 x hx
  rw [e, hp] at this
  cases this
theorem Led.new (h : Led H L) (hp : H p = none) : Led (upd H p o) ((p, o) :: L) := by
  refine ⟨fun x hx => ?_, ?_⟩
  · rcases List.mem_cons.mp hx with e | hx
    · rw [e]; exact upd_same
    · have := h.1 x hx
      rw [upd_ne (ne_of_none this hp)]; exact this
  · rw [List.map_cons]
    exact List.nodup_cons.mpr ⟨h.nin hp, h.2⟩
theorem Led.skip (h : Led H L) (hp : H p = none) : Led (upd H p o) L :=
  let q := h.new (o := o) hp
  ⟨fun x hx => q.1 x (List.mem_cons_of_mem _ hx), h.2⟩
theorem Led.perm (h : Led H L) (q : L.Perm B) : Led H B := ⟨fun x hx => h.1 x (q.mem_iff.mpr hx), (q.map _).nodup_iff.mp h.2⟩
theorem Led.head (h : Led H ((a, o) :: B)) : Led (upd H a o') ((a, o') :: B) := by
  have n : a ∉ B.map (·.1) := (List.nodup_cons.mp h.2).1
  refine ⟨fun x hx => ?_, h.2⟩
  rcases List.mem_cons.mp hx with e | hx
  · rw [e]; exact upd_same
  · rw [upd_ne (fun e => n (List.mem_map.mpr ⟨x, hx, e⟩))]
    exact h.1 x (List.mem_cons_of_mem _ hx)
theorem Led.mid (h : Led H (A ++ (a, o) :: B)) : Led (upd H a o') (A ++ (a, o') :: B) :=
  (((h.perm List.perm_middle).head (o' := o')).perm List.perm_middle.symm)
theorem Led.set (i : Nat) (h : Led H L) (e : L[i]? = some (a, o)) : Led (upd H a o') (L.set i (a, o')) := by
  obtain ⟨hi, e⟩ := List.getElem?_eq_some_iff.mp e
  have s1 : L = L.take i ++ (a, o) :: L.drop (i + 1) := by
    rw [← e, List.getElem_cons_drop, List.take_append_drop]
  rw [s1] at h
  have q := h.mid (o' := o')
  rw [List.set_eq_take_append_cons_drop, if_pos hi]
  exact q
theorem Led.swap (h : Led H (A ++ (B ++ C))) : Led H (B ++ (A ++ C)) := by
  refine h.perm ?_
  rw [← List.append_assoc, ← List.append_assoc]
  exact List.perm_append_comm.append_right _
theorem Led.sub (h : Led H L) (q : B.Sublist L) : Led H B := ⟨fun x hx => h.1 x (q.subset hx), h.2.sublist (q.map _)⟩
theorem Led.drop (h : Led H (A ++ B)) : Led H B := h.sub (List.sublist_append_right _ _)
theorem Led.left (h : Led H (A ++ B)) : Led H A := h.sub (List.sublist_append_left _ _)
theorem Led.tail (h : Led H ((a, o) :: B)) : Led H B := h.sub (List.sublist_cons_self _ _)
theorem Led.nil : Led H [] := ⟨fun _ hx => (nomatch hx), List.nodup_nil⟩
theorem Led.mono (h : Led H L) (e : ∀ x ∈ L, H' x.1 = some x.2) : Led H' L := ⟨e, h.2⟩
end

/-! ### an instance's attributes, a dict with written keys: names and values -/
def fz (names : List Str) (vals : List V) : List (Str × V) := names.zip vals
def dz (names : List Str) (vals : List V) : List (Key × V) := (names.map Sum.inr).zip vals
theorem fz_at {f : Str} {v : V} : ∀ (i : Nat) {names : List Str} {vals : List V}, names.Nodup → names[i]? = some f → vals[i]? = some v → (fz names vals).lookup f = some v
  | 0, n :: ns, w :: ws, _, h1, h2 => by
    simp only [List.getElem?_cons_zero, Option.some.injEq] at h1 h2
    subst h1 h2
    simp [fz]
  | i + 1, n :: ns, w :: ws, nd, h1, h2 => by
    rw [List.getElem?_cons_succ] at h1 h2
    obtain ⟨n1, n2⟩ := List.nodup_cons.mp nd
    have ne : ¬ f = n := fun e => n1 (e ▸ List.mem_of_getElem? h1)
    have ih := fz_at i n2 h1 h2
    unfold fz at ih ⊢
    rw [List.zip_cons_cons, List.lookup_cons, beq_eq_false_iff_ne.mpr ne]
    exact ih
  | _, [], _, _, h1, _ => by simp at h1
  | _, _ :: _, [], _, _, h2 => by simp at h2
theorem fz_no {f : Str} : ∀ {names : List Str} {vals : List V}, f ∉ names → (fz names vals).lookup f = none
  | [], _, _ => by simp [fz]
  | _ :: _, [], _ => by simp [fz]
  | n :: ns, w :: ws, h => by
    have ne : ¬ f = n := fun e => h (by rw [e]; exact List.mem_cons_self)
    have ih := fz_no (f := f) (names := ns) (vals := ws) fun m => h (List.mem_cons_of_mem _ m)
    unfold fz at ih ⊢
    rw [List.zip_cons_cons, List.lookup_cons, beq_eq_false_iff_ne.mpr ne]
    exact ih
theorem fz_put {f : Str} {v : V} : ∀ (i : Nat) {names : List Str} {vals : List V}, names.Nodup → names[i]? = some f → i < vals.length → putF f v (fz names vals) = fz names (vals.set i v)
  | 0, n :: ns, w :: ws, _, h1, _ => by
    simp only [List.getElem?_cons_zero, Option.some.injEq] at h1
    subst h1
    unfold fz
    rw [List.zip_cons_cons, putF, if_pos rfl]
    rfl
  | i + 1, n :: ns, w :: ws, nd, h1, h2 => by
    rw [List.getElem?_cons_succ] at h1
    obtain ⟨n1, n2⟩ := List.nodup_cons.mp nd
    have ne : ¬ n = f := fun e => n1 (e.symm ▸ List.mem_of_getElem? h1)
    have ih := fz_put (v := v) i (vals := ws) n2 h1 (by simpa using h2)
    unfold fz at ih ⊢
    rw [List.zip_cons_cons, putF, if_neg ne, ih]
    rfl
  | _, [], _, _, h1, _ => by simp at h1
  | _, _ :: _, [], _, _, h2 => by simp at h2
theorem fz_new {f : Str} {v : V} : ∀ {names : List Str} {vals : List V}, f ∉ names → names.length = vals.length → putF f v (fz names vals) = fz (names ++ [f]) (vals ++ [v])
  | [], [], _, _ => rfl
  | [], _ :: _, _, h => by simp at h
  | _ :: _, [], _, h => by simp at h
  | n :: ns, w :: ws, h, hl => by
    have ne : ¬ n = f := fun e => h (by rw [e]; exact List.mem_cons_self)
    have ih := fz_new (f := f) (v := v) (names := ns) (vals := ws) (fun m => h (List.mem_cons_of_mem _ m)) (by simpa using hl)
    unfold fz at ih ⊢
    rw [List.zip_cons_cons, putF, if_neg ne, ih]
    rfl
theorem fz_len {names : List Str} {vals : List V} : (fz names vals).length ≤ names.length := by
  unfold fz
  rw [List.length_zip]
  exact Nat.min_le_left _ _
theorem fz_nil : ([] : List (Str × V)) = fz [] [] := rfl
theorem dz_at {f : Str} {v : V} : ∀ (i : Nat) {names : List Str} {vals : List V}, names.Nodup → names[i]? = some f → vals[i]? = some v → valV (dz names vals) (Sum.inr f) = some v
  | 0, n :: ns, w :: ws, _, h1, h2 => by
    simp only [List.getElem?_cons_zero, Option.some.injEq] at h1 h2
    subst h1 h2
    exact valV_pos (p := (Sum.inr n, w)) rfl
  | i + 1, n :: ns, w :: ws, nd, h1, h2 => by
    rw [List.getElem?_cons_succ] at h1 h2
    obtain ⟨n1, n2⟩ := List.nodup_cons.mp nd
    have ne : ¬ (Sum.inr n : Key) = Sum.inr f := fun e => n1 ((Sum.inr.inj e).symm ▸ List.mem_of_getElem? h1)
    have ih := dz_at i n2 h1 h2
    show valV ((Sum.inr n, w) :: dz ns ws) (Sum.inr f) = some v
    rw [valV_neg ne]
    exact ih
  | _, [], _, _, h1, _ => by simp at h1
  | _, _ :: _, [], _, _, h2 => by simp at h2
theorem dz_put {f : Str} {v : V} (i : Nat) {names : List Str} {vals : List V} (nd : names.Nodup) (h1 : names[i]? = some f) (h2 : i < vals.length) : putK (dz names vals) (Sum.inr f) v = dz names (vals.set i v) := by
  have e1 : vals[i]? = some vals[i] := List.getElem?_eq_getElem h2
  have hs : valV (dz names vals) (Sum.inr f) = some vals[i] := dz_at i nd h1 e1
  unfold putK
  rw [valV_any, hs]
  rw [if_pos (by rfl)]
  clear hs e1
  induction names generalizing vals i with
  | nil => simp at h1
  | cons n ns ih =>
    cases vals with
    | nil => simp at h2
    | cons w ws =>
      obtain ⟨n1, n2⟩ := List.nodup_cons.mp nd
      cases i with
      | zero =>
        simp only [List.getElem?_cons_zero, Option.some.injEq] at h1
        subst h1
        show (if (Sum.inr n : Key) = Sum.inr n then ((Sum.inr n : Key), v) else (Sum.inr n, w)) :: (dz ns ws).map _ = (Sum.inr n, v) :: dz ns ws
        rw [if_pos rfl]
        congr 1
        have : ∀ kv ∈ dz ns ws, (fun kv : Key × V => if kv.1 = Sum.inr n then (kv.1, v) else kv) kv = id kv := fun kv hk => by
          have m : kv.1 ∈ ns.map (Sum.inr : Str → Key) := (List.of_mem_zip hk).1
          obtain ⟨z, hz, e⟩ := List.mem_map.mp m
          have ne : ¬ kv.1 = Sum.inr n := fun q => n1 (by rw [← e] at q; exact (Sum.inr.inj q) ▸ hz)
          simp [ne]
        rw [List.map_congr_left this, List.map_id]
      | succ i =>
        rw [List.getElem?_cons_succ] at h1
        have ne : ¬ (Sum.inr n : Key) = Sum.inr f := fun e => n1 ((Sum.inr.inj e).symm ▸ List.mem_of_getElem? h1)
        show (if (Sum.inr n : Key) = Sum.inr f then ((Sum.inr n : Key), v) else (Sum.inr n, w)) :: (dz ns ws).map _ = (Sum.inr n, w) :: dz ns (ws.set i v)
        rw [if_neg ne, ih i n2 h1 (by simpa using h2)]
theorem mergeK_nd : ∀ (more kvs : List (Key × V)), ((kvs ++ more).map (·.1)).Nodup → mergeK kvs more = kvs ++ more
  | [], kvs, _ => by rw [List.append_nil]; rfl
  | p :: r, kvs, h => by
    have hp : valV kvs p.1 = none := by
      cases e : valV kvs p.1 with
      | none => rfl
      | some v =>
        have m := valV_in e
        rw [List.map_append, List.map_cons] at h
        have := (List.nodup_append.mp h).2.2 _ m _ List.mem_cons_self
        exact absurd rfl this
    have e : mergeK kvs (p :: r) = mergeK (putK kvs p.1 p.2) r := rfl
    rw [e, putK_new _ hp, mergeK_nd r (kvs ++ [(p.1, p.2)]) (by rw [List.append_assoc]; exact h), List.append_assoc]
    rfl
end Sd


namespace Sd
open PySem L2
/-- a word that the walk does not open -/
inductive Hold (p : Prop) : Prop where
  | mk (h : p)
  | mk' (h : p)
theorem Hold.out {p : Prop} (h : Hold p) : p := by cases h <;> assumption

section
variable {K : PySem.W.Frag} {H H1 : Hp} {L : Lg} {a b l p q : Addr} {o : HO} {P : V → Prop} {f : Str} {C dx : Addr} {fs : List (Str × V)} {v y : V} {xs ys : List V} {kvs : List (Key × V)} {names : List Str} {vals : List V}
theorem k_fld {P : Addr → Addr → V → Prop} (hL : Led H L) (e : At L a (.ins C dx fs)) (c : Cls K C) (n : NoAttr K C f) (lk : fs.lookup f = some v) (q : P a C v) :
    ∃ a' C' dx' fs' v', V.ref a = .ref a' ∧ H a' = some (.ins C' dx' fs') ∧ Cls K C' ∧ NoAttr K C' f ∧ fs'.lookup f = some v' ∧ P a' C' v' := ⟨_, _, _, _, _, rfl, hL.at e, c, n, lk, q⟩
/-- the ledger behind a change at a -/
def Upd (L : Lg) (a : Addr) (o o' : HO) (L' : Lg) : Prop := ∃ i : Nat, L[i]? = some (a, o) ∧ L' = L.set i (a, o')
theorem Upd.at {o' : HO} {L' : Lg} (u : Upd L a o o' L') : At L a o := let ⟨i, e, _⟩ := u; ⟨i, e⟩
theorem Led.upU {o' : HO} {L' : Lg} (hL : Led H L) (u : Upd L a o o' L') (hH : L2.upd H a o' = H1) : Led H1 L' := by
  obtain ⟨i, e, rfl⟩ := u
  rw [← hH]; exact hL.set i e
theorem Led.upF {fs' : List (Str × V)} {L' : Lg} (hL : Led H L) (u : Upd L a (.ins C dx fs) (.ins C dx fs') L') (e : putF f v fs = fs') (hH : L2.upd H a (.ins C dx (putF f v fs)) = H1) : Led H1 L' := by
  rw [e] at hH; exact hL.upU u hH
theorem Led.newH (hL : Led H L) (hp : H p = none) (hH : L2.upd H p o = H1) : Led H1 ((p, o) :: L) := by
  rw [← hH]; exact hL.new hp
theorem Led.made {x : Addr} (hL : Led H L) (hx : H x = none) (hd : H dx = none) (ne : dx ≠ x) (hH : L2.upd (L2.upd H dx (.own x)) x (.ins C dx []) = H1) : Led H1 ((x, .ins C dx (fz [] [])) :: L) := by
  rw [← hH]; exact (hL.skip hd).new (by rw [upd_ne ne.symm]; exact hx)
theorem Led.last {A R : Lg} {x : Addr × HO} (h : Led H (x :: (A ++ R))) : Led H ((A ++ [x]) ++ R) := by
  refine h.perm ?_
  rw [List.append_assoc]
  exact List.perm_middle.symm
/-- o.m(..): the object -/
theorem k_meth {P : Prop} (hL : Led H L) (e : At L a (.ins C dx fs)) (lk : fs.lookup f = none) (q : P) :
    ∃ a' dx' fs', V.ref a = .ref a' ∧ H a' = some (.ins C dx' fs') ∧ fs'.lookup f = none ∧ P := ⟨_, _, _, rfl, hL.at e, lk, q⟩
theorem k_dgetS {P : Addr → V → Prop} {x : Str} (hL : Led H L) (e : At L a (.dK kvs)) (lk : valV kvs (.inr x) = some v) (q : P a v) : ∃ a' v', V.ref a = .ref a' ∧ DGet H a' (.str x) (some v') ∧ P a' v' :=
  ⟨_, _, rfl, lk ▸ (DGet.k (k := .inr x) (hL.at e)), q⟩
theorem k_dgetI {P : Addr → V → Prop} {n : Int} (hL : Led H L) (e : At L a (.dK kvs)) (lk : valV kvs (.inl n) = some v) (q : P a v) : ∃ a' v', V.ref a = .ref a' ∧ DGet H a' (.int n) (some v') ∧ P a' v' :=
  ⟨_, _, rfl, lk ▸ (DGet.k (k := .inl n) (hL.at e)), q⟩
theorem k_dinS {P : Option V → Prop} {x : Str} (hL : Led H L) (e : At L a (.dK kvs)) (q : P (valV kvs (.inr x))) : ∃ a' o', V.ref a = .ref a' ∧ DGet H a' (.str x) o' ∧ P o' :=
  ⟨_, _, rfl, DGet.k (k := .inr x) (hL.at e), q⟩
theorem k_dinI {P : Option V → Prop} {n : Int} (hL : Led H L) (e : At L a (.dK kvs)) (q : P (valV kvs (.inl n))) : ∃ a' o', V.ref a = .ref a' ∧ DGet H a' (.int n) o' ∧ P o' :=
  ⟨_, _, rfl, DGet.k (k := .inl n) (hL.at e), q⟩
/-- d.get(k): the dict, then the answer -/
theorem k_isd {P : Prop} (hL : Led H L) (e : At L a (.dK kvs)) (q : P) : IsD H a ∧ P := ⟨.inl ⟨_, .inl (hL.at e)⟩, q⟩
theorem k_lenL' {P : Prop} (hL : Led H L) (e : At L l (.lst xs)) (q : P) : (SqL K H l xs ∨ SqT K H l xs) ∧ P := ⟨.inl (.of (hL.at e)), q⟩
theorem k_getI {P : Option V → Prop} {n : Int} (hL : Led H L) (e : At L a (.dK kvs)) (q : P (valV kvs (.inl n))) : ∃ o', DGet H a (.int n) o' ∧ P o' := ⟨_, DGet.k (k := .inl n) (hL.at e), q⟩
theorem k_getS {P : Option V → Prop} {x : Str} (hL : Led H L) (e : At L a (.dK kvs)) (q : P (valV kvs (.inr x))) : ∃ o', DGet H a (.str x) o' ∧ P o' := ⟨_, DGet.k (k := .inr x) (hL.at e), q⟩
theorem k_popI {P : List (Key × V) → Key → V → Prop} {n : Int} (hL : Led H L) (e : At L a (.dK kvs)) (lk : valV kvs (.inl n) = some v) (q : P kvs (.inl n) v) :
    ∃ kvs' k' v', H a = some (.dK kvs') ∧ V.int n = kV k' ∧ valV kvs' k' = some v' ∧ P kvs' k' v' := ⟨_, .inl n, _, hL.at e, rfl, lk, q⟩
theorem k_listD {P : List (Key × V) → Prop} (hL : Led H L) (e : At L a (.dK kvs)) (q : P kvs) : ∃ p kvs', [V.ref a] = [.ref p] ∧ H p = some (.dK kvs') ∧ P kvs' := ⟨_, _, rfl, hL.at e, q⟩
theorem Led.front {A B : Lg} {x : Addr × HO} (h : Led H (A ++ x :: B)) : Led H (x :: (A ++ B)) := h.perm List.perm_middle
theorem Led.back {A B : Lg} {x : Addr × HO} (h : Led H (x :: (A ++ B))) : Led H (A ++ x :: B) := h.perm List.perm_middle.symm
theorem k_dputS {P : Hp → Prop} {x : Str} {kvs' : List (Key × V)} {L' : Lg} (hL : Led H L) (e : At L a (.dK kvs)) (hz : kvs.length < sizeLine) (ep : putK kvs (.inr x) v = kvs') (u : Upd L a (.dK kvs) (.dK kvs') L')
    (q : ∀ H1, Led H1 L' → P H1) : ∃ a' H4, V.ref a = .ref a' ∧ DPut H a' (.str x) v H4 ∧ P H4 :=
  ⟨_, _, rfl, DPut.k (k := .inr x) (hL.at e) hz, q _ (hL.upU (ep ▸ u) rfl)⟩
theorem k_dputI {P : Hp → Prop} {n : Int} {kvs' : List (Key × V)} {L' : Lg} (hL : Led H L) (e : At L a (.dK kvs)) (hz : kvs.length < sizeLine) (ep : putK kvs (.inl n) v = kvs') (u : Upd L a (.dK kvs) (.dK kvs') L')
    (q : ∀ H1, Led H1 L' → P H1) : ∃ a' H4, V.ref a = .ref a' ∧ DPut H a' (.int n) v H4 ∧ P H4 :=
  ⟨_, _, rfl, DPut.k (k := .inl n) (hL.at e) hz, q _ (hL.upU (ep ▸ u) rfl)⟩
theorem dz_len : (dz names vals).length ≤ names.length := by unfold dz; rw [List.length_zip, List.length_map]; exact Nat.min_le_left _ _
theorem k_ixL {n : Int} (hL : Led H L) (e : At L l (.lst xs)) (lk : atI xs n = some v) (q : P v) : ∃ p xs' i v', V.ref l = .ref p ∧ V.int n = .int i ∧ SqL K H p xs' ∧ atI xs' i = some v' ∧ P v' :=
  ⟨_, _, _, _, rfl, rfl, .of (hL.at e), lk, q⟩
theorem k_ixT {n : Int} (hL : Led H L) (e : At L l (.tup xs)) (lk : atI xs n = some v) (q : P v) : ∃ p xs' i v', V.ref l = .ref p ∧ V.int n = .int i ∧ SqT K H p xs' ∧ atI xs' i = some v' ∧ P v' :=
  ⟨_, _, _, _, rfl, rfl, .of (hL.at e), lk, q⟩
theorem k_tyL {P : Prop} (hL : Led H L) (e : At L l (.lst xs)) (q : P) : tyV K "list" (.ref l) H ∧ P := ⟨.inl ⟨rfl, _, .of (hL.at e)⟩, q⟩
theorem k_lenL {P : Nat → Prop} (hL : Led H L) (e : At L l (.lst xs)) (q : P xs.length) : ∃ p ys, [V.ref l] = [.ref p] ∧ (SqL K H p ys ∨ SqT K H p ys) ∧ P ys.length := ⟨_, _, rfl, .inl (.of (hL.at e)), q⟩
theorem k_lenT {P : Nat → Prop} (hL : Led H L) (e : At L l (.tup xs)) (q : P xs.length) : ∃ p ys, [V.ref l] = [.ref p] ∧ (SqL K H p ys ∨ SqT K H p ys) ∧ P ys.length := ⟨_, _, rfl, .inr (.of (hL.at e)), q⟩
theorem k_gtup {P : List V → Prop} {n : Nat} (hL : Led H L) (e : At L a (.tup xs)) (hn : xs.length = n) (q : P xs) : ∃ a' xs', V.ref a = .ref a' ∧ SqT K H a' xs' ∧ xs'.length = n ∧ P xs' := ⟨_, _, rfl, .of (hL.at e), hn, q⟩
theorem k_cat {Q : VK} (hL : Led H L) (e1 : At L l (.lst xs)) (e2 : At L b (.lst ys)) (hz : xs.length + ys.length ≤ sizeLine) (q : ∀ p, H p = none → Q (.ref p) (L2.upd H p (.lst (xs ++ ys)))) : rCat (.ref l) (.ref b) H Q :=
  ⟨_, _, _, _, rfl, rfl, hL.at e1, hL.at e2, hz, q⟩
theorem k_yes {σ : L2.St} {A B : Hp → Prop} (h : A H) : tYes σ H fun b H3 => if b = true then A H3 else B H3 := by
  show (if true = true then A H else B H)
  rw [if_pos rfl]
  exact h
theorem ite_d {c A B : Prop} [Decidable c] (a : c → A) (b : ¬ c → B) : if decide c = true then A else B := by
  by_cases h : c
  · rw [if_pos (decide_eq_true h)]; exact a h
  · rw [if_neg (by rw [decide_eq_false h]; decide)]; exact b h
theorem ite_n {c A B : Prop} [Decidable c] (a : ¬ c → A) (b : c → B) : if (!decide c) = true then A else B := by
  by_cases h : c
  · rw [decide_eq_true h]; exact b h
  · rw [decide_eq_false h]; exact a h
theorem ite_b {b : Bool} {A B : Prop} (h1 : b = true → A) (h2 : b = false → B) : if b = true then A else B := by
  cases b with
  | true => exact h1 rfl
  | false => exact h2 rfl
theorem ite_t {b : Bool} {A B : Prop} (e : b = true) (h : A) : if b = true then A else B := by rw [if_pos e]; exact h
theorem ite_f {b : Bool} {A B : Prop} (e : b = false) (h : B) : if b = true then A else B := by rw [e]; exact h
end
end Sd


/-! A lambda without parameters as a value: made, kept, called by another def; what told makes of it. -/
namespace Sd
open PySem PySem.Spec PyProof.Rows L2 LamX NdefX
/-- the object at f is the lambda whose words F tells, its body b -/
def LamO (f : Addr) (F : NF) (b : Expr) : HO := .ext fun h => ∃ pm ctv : Value, h.get? f = some (PySem.W.kla_obj F.name F.qual F.params b F.scope F.cl pm F.c ctv)
theorem lamO_at {P : Program} {w : World} {H : Hp} {h : Heap} {f : Addr} {F : NF} {b : Expr} (hok : HOk P w H h) (e : H f = some (LamO f F b)) : ∃ pm ctv : Value, h.get? f = some (PySem.W.kla_obj F.name F.qual F.params b F.scope F.cl pm F.c ctv) :=
  (hok f _ e).1
section
variable {X : Cx} {pins : List (Addr × Obj)} {σ : L2.St} {H : Hp} {s : Shared}
theorem inv_lam {F : NF} {b : Expr} {t' : Nat} {pm ctv : Value} (I : Inv X pins σ H s) :
    Inv X pins σ (upd H s.heap.objs.size (LamO s.heap.objs.size F b)) { s with heap := s.heap.push (PySem.W.kla_obj F.name F.qual F.params b F.scope F.cl pm F.c ctv), toks := t' } := by
  have e : (s.heap.push (PySem.W.kla_obj F.name F.qual F.params b F.scope F.cl pm F.c ctv)).get? s.heap.objs.size = some (PySem.W.kla_obj F.name F.qual F.params b F.scope F.cl pm F.c ctv) := Heap.get?_push_size _ rfl
  exact I.laid (fun b u e => Heap.get?_push_of_some _ e) (Nat.le_refl _) ⟨⟨pm, ctv, e⟩, ⟨_, e⟩, fun h1 h2 ⟨p, t, z⟩ st => ⟨p, t, st _ z⟩⟩
theorem lam_value {q : Str} {c P : Addr} {params : Arguments} {body : Expr} {scope : Scope} {pos : Pos} {E : Value → Shared → Prop} {Q : Value → Shared → Prop} (I : Inv X pins σ H s) (TB : TabB X.base X.mg c P) (hcode : X.env.code = .ref c) (hq : X.env.qual ++ "<lambda>" = q)
    (hT : TabS H P q) (hdef : defaultsOf params X.env = ([], [])) (hfree : ∀ y ∈ scope.names, y.2 = .free → ∃ c, X.env.cells.lookup y.1 = some c)
    (h : ∀ (f c' : Addr) (H1 : Hp) (s' : Shared), Inv X pins σ H1 s' → ExtN H H1 → TabS H1 P q → H f = none → H1 f = some (LamO f ⟨"<lambda>", q, params, [], scope, cloFrom X.env.cells scope.names [], c'⟩ body) → H1 c' = some (CodeO c' q) → Q (.ref f) s') :
    wpAny (model X.prog X.w) X.A (eval (.Lambda params body scope pos) X.env) Q E s := by
  subst hq
  obtain ⟨ps, hP, ht, ha⟩ := hT
  have bP : s.heap.BuiltinsAt X.mg P := TB.bm.keeps I.bk
  have hP' : s.heap.get? P = some { cls := .none, data := .fields ps } := I.hok P _ hP
  refine PySem.W.kla_eval hdef ?_
  rcases hc : codeAmong pos ps.toList with _ | cv
  · refine PySem.W.kla_makeFunction (mg := X.mg) (c := c) (P := P) (ps := ps) (closure_ok hfree) I.ok.glob (I.mod.glob.keeps I.bk) hcode (TB.code.keeps I.bk) hP' ht hc TB.gP bP fun c' ctv h' tk hx hge hlt hrec htb => ?_
    obtain ⟨_, oc, vs, t, e2, hoc, hd, hv⟩ := hrec
    cases e2
    have nC : H c' = none := I.hok.fresh hge
    have I1 := inv_table (t' := tk) (more := #[rawInt pos.line, rawInt pos.col, .ref c']) (h' := h') I hP (fun b o hb e => hx b o hb e) htb hge ⟨oc, vs, t, hoc, hd, hv⟩
    have eN : ExtN H (upd (upd H P (.tbl (ps ++ #[rawInt pos.line, rawInt pos.col, .ref c']))) c' (CodeO c' (X.env.qual ++ "<lambda>"))) := fun b o e n => by
      rw [upd_ne (ne_of_none e nC), upd_ne (fun z => n ps (Option.some.inj (e.symm.trans (by rw [z]; exact hP))))]
      exact e
    have nF := I1.hok.fresh (Nat.le_refl _)
    have I2 := inv_lam (F := ⟨"<lambda>", X.env.qual ++ "<lambda>", params, [], scope, cloFrom X.env.cells scope.names [], c'⟩) (b := body) (t' := tk) (pm := (X.mg "__name__").getD .none) (ctv := ctv) I1
    have T1 : TabS (upd (upd H P (.tbl (ps ++ #[rawInt pos.line, rawInt pos.col, .ref c']))) c' (CodeO c' (X.env.qual ++ "<lambda>"))) P (X.env.qual ++ "<lambda>") := by
      have eL : (ps ++ #[rawInt pos.line, rawInt pos.col, .ref c']).toList = ps.toList ++ [rawInt pos.line, rawInt pos.col, .ref c'] := by simp
      refine ⟨_, by rw [upd_ne (ne_of_none hP nC), upd_same], by rw [eL]; exact PySem.TriplesOk_snoc _ _ _ _ ht, fun p' cv hcv => ?_⟩
      rw [eL] at hcv
      rcases among_app _ ht hcv with z | z
      · obtain ⟨c0, e1, e2⟩ := ha p' cv z
        exact ⟨c0, e1, eN _ _ e2 codeO_ne⟩
      · exact ⟨c', z, upd_same⟩
    refine h h'.objs.size c' _ _ I2 (fun b o e n => ?_) (T1.ext fun b o e => ?_) (I.hok.fresh (Nat.le_trans hge (Nat.le_of_lt hlt))) upd_same ?_
    · have e1 := eN b o e n
      exact (upd_ne (ne_of_none e1 nF)).trans e1
    · exact (upd_ne (ne_of_none e nF)).trans e
    · exact (upd_ne (Nat.ne_of_lt hlt)).trans upd_same
  · obtain ⟨c', e, hco⟩ := ha pos cv hc
    subst e
    refine PySem.W.kla_makeFunctionHit (mg := X.mg) (c := c) (P := P) (ps := ps) (closure_ok hfree) I.ok.glob (I.mod.glob.keeps I.bk) hcode (TB.code.keeps I.bk) hP' ht hc bP fun ctv h' tk hx hsz => ?_
    have I1 : Inv X pins σ H { s with heap := h', toks := tk } := I.kept hx
    have nF : H h'.objs.size = none := I1.hok.fresh (Nat.le_refl _)
    have I2 := inv_lam (F := ⟨"<lambda>", X.env.qual ++ "<lambda>", params, [], scope, cloFrom X.env.cells scope.names [], c'⟩) (b := body) (t' := tk) (pm := (X.mg "__name__").getD .none) (ctv := ctv) I1
    refine h h'.objs.size c' _ _ I2 (fun b o e n => ?_) (TabS.ext ⟨ps, hP, ht, ha⟩ fun b o e => ?_) nF upd_same ?_
    · exact (upd_ne (ne_of_none e nF)).trans e
    · exact (upd_ne (ne_of_none e nF)).trans e
    · exact (upd_ne (ne_of_none hco nF)).trans hco
end
/-- lambda: body; the names that it captures: none -/
def tLamV (P : Addr) (q : Str) (params : Arguments) (body : Expr) (scope : Scope) : TE := fun _ H Q => TabS H P q ∧ ∀ (f c' : Addr) (H1 : Hp), ExtN H H1 → TabS H1 P q → H f = none → H1 f = some (LamO f ⟨"<lambda>", q, params, [], scope, [], c'⟩ body) → H1 c' = some (CodeO c' q) → Q (.ref f) H1
theorem clo_nil {cells : List (Str × Addr)} : ∀ {names : List (Str × NameKind)}, (∀ y ∈ names, y.2 ≠ .free) → cloFrom cells names [] = []
  | [], _ => rfl
  | (x, k) :: r, h => by
    have ih := clo_nil (cells := cells) (names := r) fun y hy => h y (List.mem_cons_of_mem _ hy)
    have hk := h (x, k) List.mem_cons_self
    cases k <;> first | exact absurd rfl hk | (simp only [cloFrom]; first | exact ih | (rw [ih]) | simpa using ih)
theorem pe_lamv {X : Cx} {q : Str} {c P : Addr} {params : Arguments} {body : Expr} {scope : Scope} {pos : Pos} (TB : TabB X.base X.mg c P) (hcode : X.env.code = .ref c) (hq : X.env.qual ++ "<lambda>" = q) (hdef : defaultsOf params X.env = ([], []))
    (hfree : ∀ y ∈ scope.names, y.2 ≠ .free) : PE X (.Lambda params body scope pos) (tLamV P q params body scope) := by
  refine ⟨fun pins s σ H Q I h => ?_⟩
  obtain ⟨hT, h⟩ := h
  refine lam_value I TB hcode hq hT hdef (fun y hy e => absurd e (hfree y hy)) fun f c' H1 s' I1 eN T1 f0 f1 c1 => ?_
  rw [clo_nil hfree] at f1
  exact ⟨.ref f, H1, I1, rfl, h f c' H1 eN T1 f0 f1 c1⟩
/-! ### what it promises -/
structure LOk (P : Program) (w : World) (K : PySem.W.Frag) (mg : Str → Option Value) (base : Heap) (k : Nat) (f : Addr) (F : NF) (b : Expr) (tl : Hp → VK → XK → Prop) : Prop where
  run : ∀ (A : Around) (outer : List Env) (s : Shared) (H : Hp) (Q : VK) (E : XK), Room k A → Env0 P w K mg base A outer s H → H f = some (LamO f F b) → H F.c = some (CodeO F.c F.qual) → tl H Q E →
    codeAny (model P w) A (.call (.ref f) ⟨[], []⟩) (CR (L2.CX P w) outer P w H s Q E) s
section
variable {P : Program} {w : World} {K : PySem.W.Frag} {mg : Str → Option Value} {base : Heap} {F : NF} {f : Addr} {b : Expr} {k j : Nat} {tl : Hp → VK → XK → Prop}
theorem lok_of (S : NScope [] [] [] F.scope) (hcl : F.cl = []) (hb : ∀ pm cv ctv : Value, bindArgs (PySem.W.kla_fn F.name F.qual F.params b F.scope F.cl pm cv ctv) ⟨[], []⟩ = pure [])
    (hbody : ∀ (A : Around) (outer : List Env) (s : Shared) (H : Hp) (Q : VK) (E : XK), Room k (A.deeper (envF F f s.heap.objs.size)) → tl H Q E → ∃ t : TE, PE (ncx (L2.CX P w) P w K mg base [] F f A outer s H E) b t ∧ t [] H Q) :
    LOk P w K mg base (k + 1) f F b tl := by
  refine ⟨fun A outer s H Q E hr e0 hf hc h => ?_⟩
  have lim : s.heap.NoLimit := e0.mod.nolimit.keeps fun b o e => (e0.bs b o e).1
  obtain ⟨pm, ctv, ho⟩ := lamO_at e0.hok hf
  refine PySem.W.kla_callFunE hr.depth ho rfl S.co S.gen rfl (codeO_at e0.hok hc) ?_
  rw [hb]
  refine wpAny_pure (wpAny_newFunctionEnv S.nocell (fun y hy => absurd hy (by simp)) (fun h₁ hns hsb => ⟨lim.fresh _ hsb, ?_⟩) S.kind)
  show codeAny _ _ (.expr b (envF F f s.heap.objs.size)) _ _
  have kp : ∀ b o, s.heap.get? b = some o → h₁.get? b = some o := fun b o e => hsb.extBut b o (Nat.ne_of_lt (Heap.lt_size e)) (Heap.get?_push_of_some _ e)
  obtain ⟨t, ht, hq⟩ := hbody A outer s H Q E (hr.deeper _) h
  have C : CellsAt F.cl [] [] s.heap H := by
    rw [hcl]
    exact ⟨rfl, (fun y c e => by cases e), (fun x y c e => by cases e), (fun i y e => by simp at e)⟩
  have I : Inv (ncx (L2.CX P w) P w K mg base [] F f A outer s H E) [] (startF [] [] []) H { s with heap := h₁, toks := s.toks + ([] : List (Str × Value)).length } :=
    inv_startN (N := []) (ps := []) (fr := []) (vs := []) (us := []) (ws := []) S hr.hd e0 rfl .nil C hns kp
  refine PySem.W.kla_codeExpr (wpAny_mono (ht.run [] _ [] H Q I hq) (fun v s' hq => ?_) fun e s' hq => hq)
  obtain ⟨w', H', J', rv, q⟩ := hq
  exact ⟨w', H', J'.os, J'.bare, J'.base, J'.hok, rv, q⟩
end
/-- x(), x a name that holds a lambda -/
def tLamC (P : Program) (w : World) (K : PySem.W.Frag) (mg : Str → Option Value) (base : Heap) (k i : Nat) (W : WX) : TE := fun σ H Q => ∃ (f : Addr) (F : NF) (b : Expr) (tl : Hp → VK → XK → Prop) (E : XK), (∀ cls d σ' H', E cls d H' → W cls d σ' H') ∧
  σ[i]? = some (some (.ref f)) ∧ H f = some (LamO f F b) ∧ H F.c = some (CodeO F.c F.qual) ∧ LOk P w K mg base k f F b tl ∧ tl H Q E
theorem pe_lamc {X : Cx} {W : WX} {i k : Nat} {x : Str} {p pos : Pos} (tk : Takes X W) (hr : Room k X.A) (hN : X.N[i]? = some x) (hv : Vis X.env.scope x) (hd : (x == ("__debug__" : Str)) = false := by decide) (hcd : (x == ("__classdict__" : Str)) = false := by decide) :
    PE X (.Call (.Name x p) [] [] pos) (tLamC X.prog X.w X.K X.mg X.base k i W) := by
  refine ⟨fun pins s σ H Q I h => ?_⟩
  obtain ⟨f, F, b, tl, E, hW, hs, hf, hc, L, ht⟩ := h
  refine wpAny_Call_Name_kw (thn ((pe_var (pos := p) hN hv hd hcd).run pins s σ H (fun v H1 => v = .ref f ∧ H1 = H) I ⟨.ref f, hs, rfl, rfl⟩) fun u s1 ⟨v, H1, I1, r1, q1⟩ => ?_)
  obtain ⟨ev, eH⟩ := q1
  subst ev
  rw [eH] at I1
  obtain rfl : u = Value.ref f := r1
  obtain ⟨pm, ctv, ho⟩ := lamO_at I1.hok hf
  refine PySem.W.callWith_F0 (first := []) ⟨_, _, _, _, ho⟩ ?_
  show wpAny _ _ (call (.ref f) []) _ _ _
  refine wpAny_call (codeAny_mono (L.run X.A X.stack s1 H Q E hr I1.env0 hf hc ht) fun r s' hq => ?_)
  cases r with
  | error e => exact passes_call tk hW pins σ H s1 e s' I1 hq
  | ok fl =>
    cases fl with
    | ret u => exact I1.after hq
    | next => exact False.elim hq
    | brk => exact False.elim hq
    | cont => exact False.elim hq
/-- def told(what): try: return what() / except X: return ret -/
def spTold (P : Program) (w : World) (K : PySem.W.Frag) (mg : Str → Option Value) (base : Heap) (k : Nat) (CS : Addr) (ret : Str) : Sp := fun vs H Q _ => ∃ (f : Addr) (F : NF) (b : Expr) (tl : Hp → VK → XK → Prop), vs = [.ref f] ∧
  H f = some (LamO f F b) ∧ H F.c = some (CodeO F.c F.qual) ∧ LOk P w K mg base k f F b tl ∧ tl H Q (fun cls _ H' => ∃ b, PySem.W.exmOne K cls (.ref CS) = some b ∧ (b = true → Q (.str ret) H') ∧ (b = false → False))
theorem ps_told {P : Program} {w : World} {K : PySem.W.Frag} {mg : Str → Option Value} {base : Heap} {N : List Str} {q : Str} {sc : Scope} {g : Addr} {cdv : Value} {A : Around} {outer : List Env} {s : Shared} {H : Hp} {E : XK} {ret e a : Str} {CS : Addr} {k j : Nat} {p1 p2 p3 p4 p5 p6 p7 p8 : Pos} {Q : VK} {vs : List V}
    (hge : sc.names.lookup e = some .globalImplicit) (hme : mg e = some (.ref CS)) (hN : N[0]? = some a) (hv : Vis sc a) (h0 : ∀ f : Addr, (L2.start N [V.ref f])[0]? = some (some (V.ref f))) (hr : Room k (A.deeper (envOfC q sc s.heap.objs.size g cdv)))
    (h : spTold P w K mg base k CS ret vs H Q E) (hde : (e == ("__debug__" : Str)) = false := by decide) (hd : (a == ("__debug__" : Str)) = false := by decide) (hcd : (a == ("__classdict__" : Str)) = false := by decide) :
    ∃ t, PSs (cxOf C8.CX0 P w K mg base N q sc g cdv A outer s H E).nox [.Try [.Return (some (.Call (.Name a p1) [] [] p2)) p3] [.ExceptHandler (some (.Name e p4)) none [.Return (some (.Constant (.str ret) j p5)) p6] p7] [] [] p8] t ∧
      t { nx := fun _ H' => Q .non H', rt := Q } (L2.start N vs) H := by
  obtain ⟨f, F, b, tl, rfl, hf, hc, L, ht⟩ := h
  have hgl : Gl (cxOf C8.CX0 P w K mg base N q sc g cdv A outer s H E).nox e := hge
  refine ⟨_, pss_one (ps_try_only (c := .ref CS) (tb := fun W D σ H => tLamC P w K mg base k 0 W σ H D.rt) rfl rfl ⟨hgl, hde, .inl hme⟩ L2.takes0 (fun W pn xe tk _ => pss_one (ps_ret (pe_lamc tk hr hN hv hd hcd))) (fun a oe cls d pn _ _ => pss_one (ps_ret pe_str))), ?_⟩
  refine ⟨f, F, b, tl, _, fun cls d σ' H' q => ?_, h0 f, hf, hc, L, ht⟩
  obtain ⟨b, e1, e2, e3⟩ := q
  exact ⟨b, e1, fun hb a _ => e2 hb, fun hb => e3 hb⟩
/-! ### defs that may raise -/
structure MakX (P : Program) (w : World) (K : PySem.W.Frag) (mg : Str → Option Value) (base : Heap) (k : Nat) (x : Str) (C : Addr) (sp : Sp) (dvs : List V) : Prop where
  ex : ∃ (f : Addr) (fd : FuncData) (ps : List Str) (ds : List Value), Mk K C f ∧ FnOk P w K mg base (L2.CX P w) k f fd ps sp ∧ mg x = some (.ref C) ∧ Binds K fd ps ds ∧ Vals dvs ds
structure MetX (P : Program) (w : World) (K : PySem.W.Frag) (mg : Str → Option Value) (base : Heap) (k : Nat) (C : Addr) (m : Str) (sp : Sp) (dvs : List V) : Prop where
  ex : ∃ (f : Addr) (fd : FuncData) (ps : List Str) (ds : List Value), Cls K C ∧ Meth K C m f ∧ FnOk P w K mg base (L2.CX P w) k f fd ps sp ∧ Binds K fd ps ds ∧ Vals dvs ds
structure CalX (P : Program) (w : World) (K : PySem.W.Frag) (mg : Str → Option Value) (base : Heap) (k : Nat) (x : Str) (sp : Sp) (dvs : List V) : Prop where
  ex : ∃ (f : Addr) (fd : FuncData) (ps : List Str) (ds : List Value), FnOk P w K mg base (L2.CX P w) k f fd ps sp ∧ mg x = some (.ref f) ∧ PySem.W.keepIn K (.ref f) = true ∧ Binds K fd ps ds ∧ Vals dvs ds
section
variable {X : Cx} {k j : Nat} {C : Addr} {x m : Str} {sp : Sp} {dvs : List V} {p pos apos : Pos} {e o : Expr} {es : List Expr} {ta : TE} {t : TA} {E : XK}
theorem pe_cX (c : CalX X.prog X.w X.K X.mg X.base k x sp dvs) (hr : Room j X.A) (hk : k ≤ j) (hg : Gl X x) (tk : Takes X (fun cls d _ H => E cls d H)) (ha : PA X (e :: es) t)
    (hdb : (x == ("__debug__" : Str)) = false := by decide) (he : starEach (e :: es) X.env = (false, eval e X.env) :: starEach es X.env := by rfl) (hpl : (backTo pos (starEach es X.env)).any (·.1) = false := by rfl) :
    PE X (.Call (.Name x p) (e :: es) [] pos) (tCall sp dvs E t) := by
  obtain ⟨f, fd, ps, ds, F, hm, kp, b, d⟩ := c.ex
  exact pe_call F (hr.mono hk) hg hm kp b d (passes_call tk fun _ _ _ _ h => h) ha hdb he hpl
theorem pe_mkX (c : MakX X.prog X.w X.K X.mg X.base k x C sp dvs) (hr : Room j X.A) (hk : k + 1 ≤ j) (hg : Gl X x) (tk : Takes X (fun cls d _ H => E cls d H)) (ha : PA X (e :: es) t)
    (hdb : (x == ("__debug__" : Str)) = false := by decide) (he : starEach (e :: es) X.env = (false, eval e X.env) :: starEach es X.env := by rfl) (hpl : (backTo pos (starEach es X.env)).any (·.1) = false := by rfl) :
    PE X (.Call (.Name x p) (e :: es) [] pos) (tMake C sp dvs E t) := by
  obtain ⟨f, fd, ps, ds, M, F, hm, b, d⟩ := c.ex
  exact pe_make M F (hr.mono hk) hg hm b d (passes_call tk fun _ _ _ _ h => h) ha hdb he hpl
theorem pe_mtX {pl : Sem Bool} (c : MetX X.prog X.w X.K X.mg X.base k C m sp dvs) (hr : Room j X.A) (hk : k ≤ j) (tk : Takes X (fun cls d _ H => E cls d H)) (he : PE X o ta) (ha : PA X (e :: es) t)
    (hst : starEach (e :: es) X.env = (false, eval e X.env) :: starEach es X.env := by rfl) (hpl : (backTo pos (starEach es X.env)).any (·.1) = false := by rfl)
    (ht : eval (.Call (.Attribute o m apos) (e :: es) [] pos) X.env = (do
      let ov ← eval o X.env
      standAt apos.atName
      let (f, first) ← holding [ov] (getMethod ov m pl)
      callWith pos f first (backTo pos (starEach (e :: es) X.env)) (backToKw pos (keywordEach [] X.env))) := by rfl) :
    PE X (.Call (.Attribute o m apos) (e :: es) [] pos) (tMeth C m sp dvs E ta t) := by
  obtain ⟨f, fd, ps, ds, hc, hm, F, b, d⟩ := c.ex
  exact pe_meth (pl := pl) he hc hm F (hr.mono hk) b d (passes_call tk fun _ _ _ _ h => h) ha hst hpl ht
end
/-- an own error class below ValueError, without __init__ -/
structure ExcT (K : PySem.W.Frag) (mg : Str → Option Value) (x : Str) (C : Addr) : Prop where
  g : mg x = some (.ref C)
  ex : PySem.W.excIn K C [.type "ValueError", .type "Exception", .type "BaseException", .type "object"] "ValueError.__new__" = true
  kp : PySem.W.keepIn K (.ref C) = true
  sb : PySem.W.subIn K (.ref C) (.type "BaseException") = some true
  ty : PySem.W.typeIn K (.ref C) = some (.type "type")
  ic : PySem.W.isClsIn K C = true
  ss : PySem.W.subIn K (.ref C) (.ref C) = some true
theorem ExcT.em {K : PySem.W.Frag} {mg : Str → Option Value} {x : Str} {C : Addr} (T : ExcT K mg x C) : PySem.W.exmOne K (.ref C) (.ref C) = some true := by
  have ic : (PySem.W.clsIn K C).isSome = true := T.ic
  simp [PySem.W.exmOne, PySem.W.kitCls, T.sb, ic, T.ty, T.ss]
theorem ps_raiseT {X : Cx} {W : WX} {x m : Str} {C : Addr} {j : Nat} {p p2 pos pos2 : Pos} (T : ExcT X.K X.mg x C) (hc : X.calm = true) (tk : Takes X W) (hg : Gl X x) (hdb : (x == ("__debug__" : Str)) = false := by decide) :
    PS X (.Raise (some (.Call (.Name x p) [.Constant (.str m) j p2] [] pos)) none pos2) (fun _ σ H => W (.ref C) none σ H) :=
  ps_raise hc tk (pmk_own PySem.F.excBase_ValueError T.ex T.g T.kp (raises_own T.sb T.ty) hg hdb)
/-- Fun.ok for a def with defaults -/
theorem funD_ok0 {P : Program} {w : World} {K : PySem.W.Frag} {mg : Str → Option Value} {base : Heap} {x qual : Str} {params : Arguments} {body : List Stmt} {scope : Scope} {dvs : List V} {kws : List (Str × V)} {f : Addr} {fd : FuncData}
    {N ps : List Str} {k : Nat} {sp : Sp} (F : FunD K x qual params body scope dvs kws f fd) (S : FnScope N ps scope) (len : ∀ vs H Q E, sp vs H Q E → vs.length = ps.length)
    (hbody : ∀ (cdv : Value) (A : Around) (outer : List Env) (s : Shared) (H : Hp) (vs : List V) (Q : VK) (E : XK), Room k (A.deeper (envOfC qual scope s.heap.objs.size f cdv)) → sp vs H Q E →
      ∃ t, PSs (cxOf L2.CX0 P w K mg base N qual scope f cdv A outer s H E).nox body t ∧ t { nx := fun _ H' => Q .non H', rt := Q } (start N vs) H) : FnOk P w K mg base L2.CX0 (k + 1) f fd ps sp :=
  F.ok S len fun cdv A outer s H vs Q E hr hsp => let ⟨t, h, q⟩ := hbody cdv A outer s H vs Q E hr hsp; ⟨t, h.nox, q⟩
end Sd


/-! == and != of data without dicts: what the law compares. -/
namespace Sd
open PySem PySem.Spec PyProof.Rows L2
mutual
theorem eqv_self : ∀ d : PyData, d.plain = true → PyData.eqv d d = true
  | .none, _ => rfl
  | .bool b, _ => by simp [PyData.eqv]
  | .int i, _ => by simp [PyData.eqv]
  | .str x, _ => by simp [PyData.eqv]
  | .list xs, h => by
    simp only [PyData.eqv]
    exact eqv_selfAll xs (by simpa [PyData.plain] using h)
  | .tuple xs, h => by
    simp only [PyData.eqv]
    exact eqv_selfAll xs (by simpa [PyData.plain] using h)
  | .dict _, h => by simp [PyData.plain] at h
theorem eqv_selfAll : ∀ xs : List PyData, PyData.plainAll xs = true → PyData.eqvAll xs xs = true
  | [], _ => by simp [PyData.eqvAll]
  | x :: xs, h => by
    simp only [PyData.plainAll, Bool.and_eq_true] at h
    simp only [PyData.eqvAll, Bool.and_eq_true]
    exact ⟨eqv_self x h.1, eqv_selfAll xs h.2⟩
end
/-- data that may be compared: no dict, not deep -/
structure Shal (d : PyData) : Prop where
  p : d.plain = true
  d : d.depth ≤ 60
def rEqP (K : PySem.W.Frag) : R2 := fun x y H Q => ∃ d e, Dp K H x d ∧ Dp K H y e ∧ Shal d ∧ Shal e ∧ Q (.bl (PyData.eqv d e)) H
def rNeP (K : PySem.W.Frag) : R2 := fun x y H Q => ∃ d e, Dp K H x d ∧ Dp K H y e ∧ Shal d ∧ Shal e ∧ Q (.bl (!PyData.eqv d e)) H
section
variable {X : Cx}
theorem op_eqP (hu : X.A.units + 64 < cLine) : OpR X (compareOp .Eq) (rEqP X.K) := by
  intro pins s σ H x y v u Q I rx ry h
  obtain ⟨d, e, hd, he, sd, se, q⟩ := h
  obtain ⟨as, r1⟩ := Dp.reads I d x v hd rx
  obtain ⟨bs, r2⟩ := Dp.reads I e y u he ry
  have := sd.d
  exact PySem.SeqAt.eq_plain r1 r2 sd.p se.p (by omega) ⟨.bl _, H, I, rfl, q⟩
theorem op_neP (hu : X.A.units + 64 < cLine) : OpR X (compareOp .NotEq) (rNeP X.K) := by
  intro pins s σ H x y v u Q I rx ry h
  obtain ⟨d, e, hd, he, sd, se, q⟩ := h
  obtain ⟨as, r1⟩ := Dp.reads I d x v hd rx
  obtain ⟨bs, r2⟩ := Dp.reads I e y u he ry
  have := sd.d
  exact PySem.SeqAt.ne_plain r1 r2 sd.p se.p (by omega) ⟨.bl _, H, I, rfl, q⟩
end
section
variable {K : PySem.W.Frag} {H : Hp} {x y : V} {d e : PyData} {Q : VK}
theorem k_eqSame (h1 : Dp K H x d) (h2 : Dp K H y d) (s : Shal d) (q : Q (.bl true) H) : rEqP K x y H Q := ⟨d, d, h1, h2, s, s, by rw [eqv_self d s.p]; exact q⟩
theorem k_neSame (h1 : Dp K H x d) (h2 : Dp K H y d) (s : Shal d) (q : Q (.bl false) H) : rNeP K x y H Q := ⟨d, d, h1, h2, s, s, by rw [eqv_self d s.p]; exact q⟩
theorem dp_all {α : Type} {f : α → V} {g : α → PyData} : ∀ {l : List α}, (∀ a ∈ l, Dp K H (f a) (g a)) → DpAll K H (l.map f) (l.map g)
  | [], _ => .nil
  | a :: l, h => .cons (h a List.mem_cons_self) (dp_all fun b hb => h b (List.mem_cons_of_mem _ hb))
theorem plain_all {α : Type} {g : α → PyData} : ∀ {l : List α}, (∀ a ∈ l, (g a).plain = true) → PyData.plainAll (l.map g) = true
  | [], _ => by simp [PyData.plainAll]
  | a :: l, h => by
    simp only [List.map_cons, PyData.plainAll, Bool.and_eq_true]
    exact ⟨h a List.mem_cons_self, plain_all fun b hb => h b (List.mem_cons_of_mem _ hb)⟩
theorem depth_all {α : Type} {g : α → PyData} {n : Nat} : ∀ {l : List α}, (∀ a ∈ l, (g a).depth ≤ n) → PyData.depthAll (l.map g) ≤ n
  | [], _ => by simp [PyData.depthAll]
  | a :: l, h => by
    simp only [List.map_cons, PyData.depthAll]
    exact Nat.max_le.mpr ⟨h a List.mem_cons_self, depth_all fun b hb => h b (List.mem_cons_of_mem _ hb)⟩
theorem shal_list {α : Type} {g : α → PyData} {l : List α} {n : Nat} (hn : n < 60) (h : ∀ a ∈ l, (g a).plain = true ∧ (g a).depth ≤ n) : Shal (.list (l.map g)) := by
  refine ⟨by simp only [PyData.plain]; exact plain_all fun a ha => (h a ha).1, ?_⟩
  have := depth_all (l := l) (g := g) (n := n) fun a ha => (h a ha).2
  simp only [PyData.depth]
  omega
theorem dp_ints {ns : List Int} : DpAll K H (ns.map V.int) (ns.map PyData.int) := dp_all fun _ _ => .int _
theorem shal_ints {ns : List Int} : Shal (.list (ns.map PyData.int)) := shal_list (n := 0) (by decide) fun _ _ => ⟨by simp [PyData.plain], by simp [PyData.depth]⟩
theorem dp_strs {ns : List Str} : DpAll K H (ns.map V.str) (ns.map PyData.str) := dp_all fun _ _ => .str _
theorem shal_strs {ns : List Str} : Shal (.list (ns.map PyData.str)) := shal_list (n := 0) (by decide) fun _ _ => ⟨by simp [PyData.plain], by simp [PyData.depth]⟩
theorem dp_lst {a : Addr} {xs : List V} {ds : List PyData} (h : H a = some (.lst xs)) (hd : DpAll K H xs ds) : Dp K H (.ref a) (.list ds) := .lst (.of h) hd
theorem dp_tup {a : Addr} {xs : List V} {ds : List PyData} (h : H a = some (.tup xs)) (hd : DpAll K H xs ds) : Dp K H (.ref a) (.tuple ds) := .tup (.of h) hd
end
end Sd


/-! A generator expression of any element, consumed by tuple(..) or list(..). -/
namespace Gx
open PySem PySem.Spec PyProof.Rows L2 GenW

/-- the genexp's own frame over the def's -/
abbrev gx (X : Cx) (A : Around) (s : Shared) (H : Hp) (cenv : Env) (fp : List Addr) (pn : List (Addr × Obj)) : Cx :=
  { X with A := A, s_0 := s, H_0 := H, env := cenv, outer := X.stack, stack := cenv :: X.stack, ex := fp, fn := fun _ => false, calm := true, pn := pn, xe := fun _ _ => False }

/-- the genexp's names: «.0» (none of N), its own (with their places in N), captured ones -/
structure GxOk (N : List Str) (sc scope : Scope) (own : List (Str × Nat)) : Prop where
  kind : scope.kind = .function
  co : scope.isCoroutine = false
  cell : ∀ y ∈ scope.names, y.2 ≠ .cell
  dot : scope.names.lookup (".0" : Str) = some NameKind.local
  uniq : ∀ y ∈ scope.names, scope.names.lookup y.1 = some y.2
  ix : ∀ p ∈ own, N[p.2]? = some p.1
  free : ∀ y ∈ scope.names, y.2 = .free → sc.names.lookup y.1 = some .cell ∨ sc.names.lookup y.1 = some .free
  own : ∀ y ∈ scope.names, y.2 = .local → y.1 ∈ own.map (·.1) ∨ y.1 ∉ N

def gxC (N : List Str) (sc scope : Scope) (own : List (Str × Nat)) : Bool :=
  (match scope.kind with | .function => true | _ => false) && !scope.isCoroutine && decide (scope.names.lookup (".0" : Str) = some NameKind.local) && (scope.names.all fun y => decide (scope.names.lookup y.1 = some y.2)) && (own.all fun p => decide (N[p.2]? = some p.1)) &&
    (scope.names.all fun y => match y.2 with
      | .free => (match sc.names.lookup y.1 with | some .cell => true | some .free => true | _ => false)
      | .local => decide (y.1 ∈ own.map (·.1)) || decide (y.1 ∉ N)
      | .cell => false
      | _ => true)
theorem gxOk_by {N : List Str} {sc scope : Scope} {own : List (Str × Nat)} (h : gxC N sc scope own = true) : GxOk N sc scope own := by
  unfold gxC at h
  simp only [Bool.and_eq_true, List.all_eq_true, decide_eq_true_eq, Bool.not_eq_true'] at h
  obtain ⟨⟨⟨⟨⟨h1, h0⟩, hd⟩, h2⟩, h3⟩, h4⟩ := h
  refine ⟨?_, h0, fun y hy e => ?_, hd, h2, h3, fun y hy e => ?_, fun y hy e => ?_⟩
  · split at h1
    · assumption
    · cases h1
  · have q := h4 y hy
    simp only [e] at q
    cases q
  · have q := h4 y hy
    simp only [e] at q
    split at q <;> first | exact .inl (by assumption) | exact .inr (by assumption) | cases q
  · have q := h4 y hy
    simp only [e, Bool.or_eq_true, decide_eq_true_eq] at q
    exact q

theorem gx_over {A : Around} {elt : Expr} {gens : List Comprehension} {scope : Scope} {pos : Pos} {it acc : Value} {env : Env} :
    A.over (.compLoop (.GeneratorExp elt gens scope pos) 0 it acc env) [] = A.deeper env := by
  first
    | rfl
    | (obtain ⟨hd, d, fr, gs, u⟩ := A; simp [Around.over, Around.deeper, marksOver, frameCount, unitsOf, envsOf, guardsOf, pushEnvs, pushGuards, Code.envs, Code.env?, Code.isFrame, Code.guards, Code.isGuard, Code.weight, Code.frames, Code.isCreation, Code.isCaller, Code.cUnits])

section
variable {X : Cx} {pins : List (Addr × Obj)} {σ : L2.St} {H : Hp} {s : Shared}
theorem gx_start {A : Around} {scope : Scope} {own : List (Str × Nat)} {fp : List Addr} {code : Value} {m : Str → Option Value} {s' : Shared} {pn : List (Addr × Obj)} (I : Inv X pins σ H s) (ok : GxOk X.N X.env.scope scope own) (hN : X.N.Nodup)
    (hfp : ∀ b ∈ fp, FpOk X pins H b ∧ b < s.heap.objs.size) (hA : A.handled = none)
    (hfr : A.frames = some (genEnv scope (cloFrom X.env.cells scope.names []) s.heap.objs.size code builtinsNs X.env :: X.stack))
    (kp : ∀ b o, s.heap.get? b = some o → s'.heap.get? b = some o) (hos : s'.os = s.os) (hb : AllBare s'.gens) (hns : s'.heap.Ns s.heap.objs.size m)
    (hpn : ∀ p ∈ pn, s'.heap.get? p.1 = some p.2 ∧ s.heap.objs.size < p.1 ∧ ∀ v, p.2.data ≠ .cell v) :
    Inv (gx X A s H (genEnv scope (cloFrom X.env.cells scope.names []) s.heap.objs.size code builtinsNs X.env) fp pn) [] (wipe σ (own.map (·.2))) H s' := by
  have hfree : ∀ y ∈ scope.names, y.2 = .free → ∃ c, X.env.cells.lookup y.1 = some c := fun y hy e => by
    rcases ok.free y hy e with k | k
    · exact I.ok.has _ (.inl k)
    · exact I.ok.has _ (.inr k)
  generalize hcenv : genEnv scope (cloFrom X.env.cells scope.names []) s.heap.objs.size code builtinsNs X.env = cenv at hfr ⊢
  have hL : cenv.locals = s.heap.objs.size := by rw [← hcenv]; rfl
  have hcl : cenv.cells = cloFrom X.env.cells scope.names [] := by rw [← hcenv]; rfl
  have hsc : cenv.scope = scope := by rw [← hcenv]; rfl
  have cm : ∀ {y c}, cenv.cells.lookup y = some c → X.env.cells.lookup y = some c ∧ c < s.heap.objs.size := fun {y c} hm => by
    rw [hcl] at hm
    rcases cloFrom_mem (PySem.mem_of_lookup hm) with hm | ⟨h1, rfl⟩
    · cases hm
    · obtain ⟨c, hc⟩ := hfree _ h1 rfl
      rw [hc]
      obtain ⟨w, z⟩ := I.cell _ _ hc
      exact ⟨rfl, z.lt⟩
  have look : ∀ {y}, scope.names.lookup y = some .free → ∃ c, cenv.cells.lookup y = some c ∧ X.env.cells.lookup y = some c := fun {y} hl => by
    have hy : (y, NameKind.free) ∈ scope.names := PySem.mem_of_lookup hl
    obtain ⟨c', e'⟩ := mem_lookup (cloFrom_has (cells := X.env.cells) (acc := []) hy)
    rw [← hcl] at e'
    exact ⟨c', e', (cm e').1⟩
  have okB : (gx X A s H cenv fp pn).Ok := by
    refine ⟨I.ok.mod, by show cenv.scope.kind = _; rw [hsc]; exact ok.kind, by show cenv.globals = _; rw [← hcenv]; exact I.ok.glob, by show cenv.builtins = _; rw [← hcenv]; rfl, by show s.heap.objs.size ≤ cenv.locals; rw [hL]; exact Nat.le_refl _,
      fun y z c e1 e2 => ?_, fun y hy => ?_, fun y c z e => ?_, fun _ => hA, hfr, .inr ⟨rfl, by show cenv.frame = some cenv.locals; rw [← hcenv]; rfl⟩, fun b hb => ⟨?_, fun y c e z => ?_⟩, I.bs, Nat.le_trans I.ok.bsz I.sz, fun b o e hb => ?_, fun b hb z => ?_, I.stack, I.stkFree⟩
    · exact I.ok.inj y z c (cm e1).1 (cm e2).1
    · show ∃ c, cenv.cells.lookup y = some c
      have hy' : cenv.scope.names.lookup y = some .cell ∨ cenv.scope.names.lookup y = some .free := hy
      rw [hsc] at hy'
      rcases hy' with hy' | hy'
      · exact absurd rfl (ok.cell _ (PySem.mem_of_lookup hy'))
      · obtain ⟨c, h1, _⟩ := look hy'
        exact ⟨c, h1⟩
    · exact absurd z (by simp)
    · show b ≠ cenv.locals
      rw [hL]; exact Nat.ne_of_lt (hfp b hb).2
    · exact (hfp b hb).1.2.2.2.2.1 y c (cm e).1 z
    · rcases (hfp b hb).1.2.2.2.1 with z | z
      · exact I.ok.noex b o e z
      · exact absurd (Nat.lt_of_lt_of_le (Heap.lt_size e) (Nat.le_trans I.ok.bsz z)) (Nat.lt_irrefl _)
    · rcases List.mem_cons.mp (I.stkSub b z) with z | z
      · exact (hfp b hb).1.2.1 z
      · exact (hfp b hb).1.2.2.1 z
  refine ⟨okB, hos, hb, Un.kept kp, ⟨m, ?_, fun i y av e1 e2 e3 => ?_⟩, fun y c e => ?_, ?_, fun y c e => ?_, fun p hp => ?_, I.hok.kept kp, by rw [wipe_length]; exact I.len⟩
  · show Heap.Ns _ cenv.locals _
    rw [hL]; exact hns
  · obtain ⟨e2, hne⟩ := wipe_some e2
    have e3 : Vis cenv.scope y := e3
    rw [hsc] at e3
    have hfr : scope.names.lookup y = some .free := by
      rcases e3 with e3 | e3 | e3
      · rcases ok.own _ (PySem.mem_of_lookup e3) rfl with e' | e'
        · obtain ⟨p, hp, hpy⟩ := List.mem_map.mp e'
          have e3 := ok.ix p hp
          have : p.1 = y := hpy
          rw [this] at e3
          exact absurd (List.mem_map.mpr ⟨p, hp, nodup_ix hN e3 e1⟩) hne
        · exact absurd (List.mem_of_getElem? e1) e'
      · exact absurd rfl (ok.cell _ (PySem.mem_of_lookup e3))
      · exact e3
    obtain ⟨m, hn, hl⟩ := I.loc
    have hvis : Vis X.env.scope y := (ok.free _ (PySem.mem_of_lookup hfr) rfl).elim (fun k => .inr (.inl k)) (fun k => .inr (.inr k))
    obtain ⟨w, r, q⟩ := hl i y av e1 e2 hvis
    refine ⟨w, r, .inr ⟨.inr ?_, ?_⟩⟩
    · show cenv.scope.names.lookup y = _
      rw [hsc]; exact hfr
    obtain ⟨c, h1, h2⟩ := look hfr
    rcases q with ⟨k, _⟩ | ⟨_, c', e', z⟩
    · have k : X.env.scope.names.lookup y = some .local := k
      rcases ok.free _ (PySem.mem_of_lookup hfr) rfl with k' | k' <;> rw [show X.env.scope.names.lookup y = _ from k'] at k <;> cases k
    · rw [h2] at e'; cases e'
      exact ⟨c, h1, z.keeps kp⟩
  · obtain ⟨w, z⟩ := I.cell y c (cm e).1
    exact ⟨w, z.keeps kp⟩
  · show H cenv.locals = none
    rw [hL]; exact I.hok.fresh (Nat.le_refl _)
  · exact I.freeC y c (cm e).1
  · have hp : p ∈ pn := by simpa using hp
    obtain ⟨q1, q2, q3⟩ := hpn p hp
    refine ⟨q1, I.hok.fresh (Nat.le_of_lt q2), ?_, fun z => ?_, q3⟩
    · show p.1 ≠ cenv.locals
      rw [hL]; exact Nat.ne_of_gt q2
    · rcases List.mem_cons.mp (I.stkSub p.1 z) with z | z
      · exact absurd (z ▸ I.lt) (Nat.not_lt_of_ge (Nat.le_of_lt q2))
      · exact I.nofs (Nat.le_of_lt q2) z

/-! ### the run -/
/-- the end: all handed out stands in S -/
def GEnd (X' : Cx) (S : Addr) (σ : L2.St) (Q : List V → Hp → Prop) : GenEnd := fun n _ r s => r = .ok .next ∧ ∃ ys H, n + ys.length = sizeLine ∧ GI X' S [] ys σ H s ∧ Q ys H

theorem seg_gx {A : Around} {S : Addr} {elt tg iter : Expr} {ifs : List Expr} {scope : Scope} {gpos : Pos} {g : TG} {tt : TT} {te : TE} {vs : List Nat} {J : It} {fp : List Addr} {it : Addr} {tn : Nat → Heap → Prop} {H0 : Hp} {s0 : Shared} {cenv : Env} {pn : List (Addr × Obj)}
    {W : Nat → Nat → List V → Hp → Prop} {Q : List V → Hp → Prop}
    (T : Turn X.prog X.w X.K tg J fp it tn) (hco : cenv.scope.isCoroutine = false)
    (pg : PG (gx X (A.deeper cenv) s0 H0 cenv fp pn) tg g) (pt : PTs (gx X (A.deeper cenv) s0 H0 cenv fp pn) ifs tt) (pe : PE (gx X (A.deeper cenv) s0 H0 cenv fp pn) elt te)
    (hpn : ∀ p ∈ pn, p.1 ≠ S ∧ p.1 ∉ fp) (hA : Apart (gx X (A.deeper cenv) s0 H0 cenv fp pn) S) (hS : S ∉ fp)
    (turn : ∀ i m ys H, W i m ys H → (J.stop i H ∧ Q ys H) ∨ (J.go i H ∧ ∃ Nx : List V → Hp → Prop, (∀ ys' H', Nx ys' H' → ∃ m', m' < m ∧ W (i + 1) m' ys' H') ∧ ∀ x H', J.yld i H x H' → g x (wipe σ vs) H' fun σ2 H2 => wipe σ2 vs = wipe σ vs ∧ tt σ2 H2 fun b H3 =>
      if b = true then te σ2 H3 fun y H4 => ys.length < sizeLine ∧ Nx (ys ++ [y]) H4 else Nx ys H3)) :
    ∀ (m n i : Nat) (ys : List V) (H : Hp) (s₀ s : Shared), n + ys.length = sizeLine → W i m ys H → GI (gx X (A.deeper cenv) s0 H0 cenv fp pn) S [] ys (wipe σ vs) H s → tn i s.heap → (∀ b ∈ fp, H b = none) →
      Seg (model X.prog X.w) A (GEnd (gx X (A.deeper cenv) s0 H0 cenv fp pn) S (wipe σ vs) Q) (GY (gx X (A.deeper cenv) s0 H0 cenv fp pn) S) n s₀ (.compLoop (.GeneratorExp elt [⟨tg, iter, ifs, 0⟩] scope gpos) 0 (.ref it) .none cenv)
        ((model X.prog X.w).den (.compLoop (.GeneratorExp elt [⟨tg, iter, ifs, 0⟩] scope gpos) 0 (.ref it) .none cenv)) [] s := by
  have stat : ∀ {σ' : L2.St} {H' : Hp} {s' : Shared} {acc : Array Value} {c : Nat}, Inv (gx X (A.deeper cenv) s0 H0 cenv fp pn) [(S, lstObj acc c)] σ' H' s' → (∀ b ∈ fp, H' b = none) → ∀ b ∈ fp, FpOk (gx X (A.deeper cenv) s0 H0 cenv fp pn) [(S, lstObj acc c)] H' b := fun {σ' H' s' acc c} I' hn b hb =>
    ⟨hn b hb, (I'.ok.exf b hb).1, I'.ok.exfs b hb, .inl hb, fun x c e => (I'.ok.exf b hb).2 x c e, fun p hp z => by
      rcases List.mem_append.mp hp with hp | hp
      · exact (hpn p hp).2 (z ▸ hb)
      · rw [List.mem_singleton.mp hp] at z
        have z : S = b := z
        exact hS (by rw [z]; exact hb)⟩
  intro m
  induction m using Nat.strongRecOn with
  | ind m ih =>
    intro n i ys H s₀ s hn w hI hst hfn
    show Seg _ A _ _ _ s₀ _ ((compTurn (.GeneratorExp elt [⟨tg, iter, ifs, 0⟩] scope gpos) 0 (.ref it) .none cenv).onRaise (leaving cenv)) [] s
    rw [compTurn_gen, Sem.onRaise_eq_wrap]
    refine seg_bind_wrap (wpAny_standAt ?_)
    obtain ⟨acc, cc, r, I⟩ := hI
    rcases turn i m ys H w with ⟨stop, q⟩ | ⟨go, Nx, hNx, step⟩
    · refine seg_bind_wrap ?_
      rw [gx_over]
      refine thnF (T.done (gx X (A.deeper cenv) s0 H0 cenv fp pn) rfl rfl rfl rfl i _ s _ H (fun _ _ => False) I (stat I hfn) hst stop) fun rr s1 ⟨hr, I1⟩ => ?_
      subst hr
      exact seg_end (.ok .next) ⟨rfl, ys, H, hn, ⟨acc, cc, r, I1⟩, q⟩
    · refine seg_bind_wrap ?_
      rw [gx_over]
      refine thnF (T.item (gx X (A.deeper cenv) s0 H0 cenv fp pn) rfl rfl rfl rfl i _ s _ H (fun _ _ => False) I (stat I hfn) hst go) fun rr s1 ⟨u, hr, h1⟩ => ?_
      subst hr
      refine seg_bind_wrap ?_
      rw [gx_over]
      refine thnF h1 fun _ s2 ⟨x, H2, I2, r2, y2, st2, n2⟩ => ?_
      have I2' := I2.pinned (stat I2 n2) (T.obj _ _ st2)
      refine seg_bind_wrap ?_
      rw [gx_over]
      refine thnF (pg.run _ s2 _ H2 x u _ I2' r2 (step x H2 y2)) fun _ s3 ⟨σ3, H3, I3, hw3, q3⟩ => ?_
      refine seg_bind_wrap ?_
      rw [gx_over]
      refine thnF (pt.run _ s3 σ3 H3 _ I3 q3) fun b s4 ⟨H4, I4, q4⟩ => ?_
      -- the turn's end
      have hl : ∀ {s' : Shared} {H' : Hp}, Inv (gx X (A.deeper cenv) s0 H0 cenv fp pn) ([(S, lstObj acc cc)] ++ pinsAt fp s2.heap) σ3 H' s' →
          Inv (gx X (A.deeper cenv) s0 H0 cenv fp pn) [(S, lstObj acc cc)] (wipe σ vs) H' s' ∧ tn (i + 1) s'.heap ∧ ∀ b ∈ fp, H' b = none := fun {s' H'} I' => by
        have pin' : ∀ b ∈ fp, ∀ o, s2.heap.get? b = some o → s'.heap.get? b = some o ∧ H' b = none := fun b hb o e =>
          let z := I'.pin (b, o) (List.mem_append_right _ (List.mem_append_right _ (mem_pinsAt hb e)))
          ⟨z.1, z.2.1⟩
        have hl : (wipe σ vs).length = σ3.length := by rw [← hw3, wipe_length]
        refine ⟨I'.unpinned.weak hl (fun j v e => ?_), T.keep _ _ _ st2 fun b hb o e => (pin' b hb o e).1, fun b hb => ?_⟩
        · rw [← hw3] at e
          exact (wipe_some e).1
        · obtain ⟨o, e, _⟩ := T.obj _ _ st2 b hb
          exact (pin' b hb o e).2
      cases b with
      | false =>
        simp only [Bool.false_eq_true, if_false] at q4 ⊢
        obtain ⟨m', hm, w'⟩ := hNx ys H4 q4
        obtain ⟨I5, st5, n5⟩ := hl I4
        exact seg_again rfl (ih m' hm n (i + 1) ys H4 s₀ s4 hn w' ⟨acc, cc, r, I5⟩ st5 n5)
      | true =>
        simp only [if_true] at q4 ⊢
        have hy : ∀ v, yieldOut cenv v = yieldValue v := fun v => by simp only [yieldOut, hco, Bool.false_eq_true, if_false]
        simp only [hy]
        rw [Sem.bind_eq_wrap', Sem.bind_eq_wrap', Sem.wrap_wrap, Sem.wrap_wrap]
        refine seg_wrap ?_
        rw [gx_over]
        refine thnF (pe.run _ s4 σ3 H4 _ I4 q4) fun v s5 ⟨yv, H5, I5', r5, hlt, nx⟩ => ?_
        obtain ⟨I5, st5, n5⟩ := hl I5'
        obtain ⟨n, rfl⟩ : ∃ k, n = k + 1 := ⟨n - 1, by omega⟩
        obtain ⟨m', hm, w'⟩ := hNx _ H5 nx
        refine seg_at (seg_yield rfl rfl rfl ⟨ys, yv, [], wipe σ vs, H5, hn, r5, ⟨acc, cc, r, I5⟩, fun s'' z => ?_⟩)
        refine seg_again rfl (ih m' hm n (i + 1) _ H5 s'' s'' (by rw [List.length_append, List.length_singleton]; omega) w' ?_ ?_ n5)
        · exact GI.woken (fun p hp => (hpn p hp).1) (fun p hp => absurd hp (by simp)) hA ⟨acc, cc, r, I5⟩ r5 z
        · exact T.keep _ _ _ st5 fun b hb o e => z.keep b o (fun y => hS (y ▸ hb)) e

theorem seg_gx0 {A : Around} {elt tg iter : Expr} {ifs : List Expr} {scope : Scope} {gpos : Pos} {J : It} {fp : List Addr} {it : Addr} {tn : Nat → Heap → Prop} {cenv : Env} {R : GenEnd} {Y : Protocol} {n : Nat} {s₀ s : Shared} {i : Nat}
    (T : Turn X.prog X.w X.K tg J fp it tn) (hst : tn i s.heap)
    (loop : Seg (model X.prog X.w) A R Y n s₀ (.compLoop (.GeneratorExp elt [⟨tg, iter, ifs, 0⟩] scope gpos) 0 (.ref it) .none cenv) ((model X.prog X.w).den (.compLoop (.GeneratorExp elt [⟨tg, iter, ifs, 0⟩] scope gpos) 0 (.ref it) .none cenv)) [] s) :
    Seg (model X.prog X.w) A R Y n s₀ (.compStart (.GeneratorExp elt [⟨tg, iter, ifs, 0⟩] scope gpos) 0 (.ref it) .none cenv) ((model X.prog X.w).den (.compStart (.GeneratorExp elt [⟨tg, iter, ifs, 0⟩] scope gpos) 0 (.ref it) .none cenv)) [] s := by
  show Seg _ A _ _ _ s₀ _ ((compStart (.GeneratorExp elt [⟨tg, iter, ifs, 0⟩] scope gpos) 0 (.ref it) .none cenv).onRaise (leaving cenv)) [] s
  unfold compStart
  rw [Sem.onRaise_eq_wrap]
  show Seg _ A _ _ _ s₀ _ ((ask >>= _).wrap _ _ _ _) [] s
  refine seg_bind_wrap (wpAny_askSetting ?_)
  split
  · exact seg_again rfl loop
  · first
      | exact seg_bind_wrap (wpAny_rule (seg_bind_wrap (wpAny_standAt (seg_bind_wrap (T.self _ i s _ _ hst (seg_again rfl loop))))))
      | (refine seg_bind_wrap (wpAny_rule ?_); show Seg _ A _ _ _ s₀ _ ((standAt iter.pos >>= _).wrap _ _ _ _) [] s; exact seg_bind_wrap (wpAny_standAt (seg_bind_wrap (T.self _ i s _ _ hst (seg_again rfl loop)))))

/-! ### the expression -/
def tGx (wi : TI) (g : TG) (tt : TT) (te : TE) (vs : List Nat) (P : Addr) : TGen := fun σ H cont => wi σ H fun J H1 => GxR.TabG H1 P ∧ ∀ H2, GxR.Tabbed P H1 H2 → ∃ W : Nat → Nat → List V → Hp → Prop, (∃ m, W 0 m [] H2) ∧ ∀ i m ys H, W i m ys H →
  (J.stop i H ∧ cont ys H) ∨ (J.go i H ∧ ∃ Nx : List V → Hp → Prop, (∀ ys' H', Nx ys' H' → ∃ m', m' < m ∧ W (i + 1) m' ys' H') ∧ ∀ x H', J.yld i H x H' → g x (wipe σ vs) H' fun σ2 H2 => wipe σ2 vs = wipe σ vs ∧ tt σ2 H2 fun b H3 =>
    if b = true then te σ2 H3 fun y H4 => ys.length < sizeLine ∧ Nx (ys ++ [y]) H4 else Nx ys H3)

theorem pgen_gx {c P : Addr} {k : Nat} {elt tg iter : Expr} {ifs : List Expr} {scope : Scope} {own : List (Str × Nat)} {gpos : Pos} {wi : TI} {g : TG} {tt : TT} {te : TE}
    (hr : Room (k + 1) X.A) (TB : GxR.TabB X.base X.mg c P) (hcode : X.env.code = .ref c) (hN : X.N.Nodup) (hi : PI X tg iter wi) (ok : GxOk X.N X.env.scope scope own)
    (hg : ∀ (A : Around) (s : Shared) (H : Hp) (C : Addr) (cl : List (Str × Addr)) (code : Value) (fp : List Addr) (pn : List (Addr × Obj)), Room k A → PG (gx X A s H (genEnv scope cl C code builtinsNs X.env) fp pn) tg g)
    (ht : ∀ (A : Around) (s : Shared) (H : Hp) (C : Addr) (cl : List (Str × Addr)) (code : Value) (fp : List Addr) (pn : List (Addr × Obj)), Room k A → PTs (gx X A s H (genEnv scope cl C code builtinsNs X.env) fp pn) ifs tt)
    (he : ∀ (A : Around) (s : Shared) (H : Hp) (C : Addr) (cl : List (Str × Addr)) (code : Value) (fp : List Addr) (pn : List (Addr × Obj)), Room k A → PE (gx X A s H (genEnv scope cl C code builtinsNs X.env) fp pn) elt te)
    (hs : ∀ v, genFold iter X.env v = pure v) : PGen X (k + 1) (.GeneratorExp elt [⟨tg, iter, ifs, 0⟩] scope gpos) (tGx wi g tt te (own.map (·.2)) P) (fun _ _ _ => False) := by
  refine ⟨fun pins s σ H cont I h => ?_⟩
  have hfree : ∀ y ∈ scope.names, y.2 = .free → ∃ c, X.env.cells.lookup y.1 = some c := fun y hy e => by
    rcases ok.free y hy e with k | k
    · exact I.ok.has _ (.inl k)
    · exact I.ok.has _ (.inr k)
  refine wpAny_GeneratorExp_make ok.co (closure_ok hfree) ok.cell ok.dot ok.kind (by have := hr.dp; omega) (thn (hi.run pins s σ H _ I h) fun xv s1 hx => thn hx fun itv s2 h2 => ?_) hs
  obtain ⟨it, fp, tn, J, H2, e, I2, T, st2, f2, hTab, q⟩ := h2
  subst e
  refine ⟨I2.nolimit, ?_⟩
  obtain ⟨ps, hP, htr⟩ := hTab
  have hPs : s2.heap.get? P = some { cls := .none, data := .fields ps } := I2.hok P _ hP
  have cd : PySem.W.CodeHd s2.heap c P := TB.code.keeps fun b u e => I2.bk b u e
  have nfpP : ∀ b ∈ fp, b ≠ P := fun b hb z => by
    have := (f2 b hb).1
    rw [z, hP] at this; cases this
  have cont' : ∀ (code : Value) (h3 : Heap) (tk : Nat) (ps' : Array Value), Heap.ExtBut P s2.heap h3 → s2.heap.objs.size ≤ h3.objs.size → h3.get? P = some { cls := .none, data := .fields ps' } → (∃ more, ps' = ps ++ more) → TriplesOk ps'.toList →
      wpAny (model X.prog X.w) X.A (builtinsFor X.env.globals X.env.builtins) (fun bi s₄ => ∀ h', h'.Ns s₄.heap.objs.size (fun y => if y = ".0" then some (.ref it) else none) → Heap.SameBut s₄.heap.objs.size (s₄.heap.push { cls := .type "frame", data := .dict #[] }) h' →
          (∃ H1 sc ex, Inv X pins σ H1 sc ∧ ExOk X pins ex ∧ GMade X.prog X.w (k + 1) X.stack H1 sc ex cont (fun _ _ _ => False) (.ref h'.objs.size) { s₄ with
            gens := s₄.gens.push (.fresh (.compStart (.GeneratorExp elt [⟨tg, iter, ifs, 0⟩] scope gpos) 0 (.ref it) .none (genEnv scope (cloFrom X.env.cells scope.names []) s₄.heap.objs.size code bi X.env))),
            toks := s₄.toks + 1 + 1 + 1,
            heap := h'.push { cls := .type "generator", data := .fields #[.int s₄.gens.size 0, .str "<genexpr>" (s₄.toks + 1), .str (X.env.qual ++ "<genexpr>") (s₄.toks + 1 + 1)] } })) X.xe { s2 with heap := h3, toks := tk } := by
    intro code h3 tk ps' hx hsz hP3 hmore ht3
    obtain ⟨bm, ob, e1, e2, e3, e4, e5, e6, e7, e8⟩ := TB.bm
    have keep3 : ∀ b u, b ≠ P → s2.heap.get? b = some u → h3.get? b = some u := fun b u hb e => hx b u hb e
    refine wpAny_builtinsFor (m := X.mg) (by rw [I2.ok.glob]; exact (I2.mod.glob.keeps I2.bk).extBut hx TB.gP) e1 e2 (keep3 _ _ e4 (I2.bk _ _ e5)) e6 e7 e8 ?_
    obtain ⟨more, em⟩ := hmore
    have I3 : Inv X pins σ (upd H2 P (.tbl (ps ++ more))) { s2 with heap := h3, gens := s2.gens, drawn := s2.drawn, toks := tk } := GxR.inv_tab I2 hP (fun b u hb e => hx b u hb e) (by rw [← em]; exact hP3) I2.bare
    generalize hs3 : ({ s2 with heap := h3, gens := s2.gens, drawn := s2.drawn, toks := tk } : Shared) = s3 at I3
    have e3h : s3.heap = h3 := by rw [← hs3]
    intro h' hn' hs'
    generalize hH3 : upd H2 P (.tbl (ps ++ more)) = H3 at I3
    have hTb : GxR.Tabbed P H2 H3 := by
      rw [← hH3]
      exact ⟨⟨ps ++ more, upd_same, by rw [← em]; exact ht3⟩, fun b hb => upd_ne hb⟩
    have f3 : ∀ b ∈ fp, FpOk X pins H3 b ∧ b < s3.heap.objs.size := fun b hb => by
      obtain ⟨o, e, _⟩ := T.obj _ _ st2 b hb
      refine ⟨⟨?_, (f2 b hb).2⟩, by rw [e3h]; exact Heap.lt_size (keep3 b o (nfpP b hb) e)⟩
      rw [hTb.2 b (nfpP b hb)]
      exact (f2 b hb).1
    have st3 : tn 0 s3.heap := T.keep _ _ _ st2 fun b hb o e => by rw [e3h]; exact keep3 b o (nfpP b hb) e
    obtain ⟨W, ⟨m0, w0⟩, turn⟩ := q H3 hTb
    have keep' : ∀ b o, s3.heap.get? b = some o → h'.get? b = some o := fun b o e => hs'.extBut b o (Nat.ne_of_lt (Heap.lt_size e)) (Heap.get?_push_of_some _ e)
    have hsz' : h'.objs.size = s3.heap.objs.size + 1 := by rw [hs'.1, Heap.size_push]
    refine ⟨H3, s3, fp, I3, fun b hb => ?_, ?_⟩
    · obtain ⟨z1, z2, z3, z4, z5, z6⟩ := (f3 b hb).1
      exact ⟨z4, z2, z5, z6⟩
    generalize hce : genEnv scope (cloFrom X.env.cells scope.names []) s3.heap.objs.size code builtinsNs X.env = cenv
    have cL : cenv.locals = s3.heap.objs.size := by rw [← hce]; rfl
    generalize hgo : ({ cls := .type "generator", data := .fields #[.int s3.gens.size 0, .str "<genexpr>" (s3.toks + 1), .str (X.env.qual ++ "<genexpr>") (s3.toks + 1 + 1)] } : Obj) = go
    have hgc : go.cls = .type "generator" ∧ go.data = .fields #[.int s3.gens.size 0, .str "<genexpr>" (s3.toks + 1), .str (X.env.qual ++ "<genexpr>") (s3.toks + 1 + 1)] ∧ go.slots = #[] := by
      rw [← hgo]; exact ⟨rfl, rfl, rfl⟩
    have hgen : ∀ h : Heap, h.get? h'.objs.size = some go → h.IsGen h'.objs.size s3.gens.size := fun h e => ⟨go, _, _, e, hgc.1, hgc.2.1, hgc.2.2⟩
    have hpushed : (h'.push go).get? h'.objs.size = some go := by
      rw [← hgo]; exact Heap.get?_push_size _ rfl
    refine ⟨h'.objs.size, s3.gens.size, _, rfl, by omega, ?_, hgen _ hpushed, Array.getElem?_push_size .., rfl, AllBare.push I3.bare rfl, I3.nolimit.keeps fun b o e => Heap.get?_push_of_some _ (keep' b o e), fun b o e => Heap.get?_push_of_some _ (keep' b o e), ?_⟩
    · show _ < (h'.push _).objs.size
      rw [Heap.size_push]; exact Nat.lt_succ_self _
    intro Aw S s4 hrw hfr hSx hk2 hSo hos hba
    have hSz : h'.objs.size < S := by
      have hSx' : (h'.push go).objs.size ≤ S := hSx
      rw [Heap.size_push] at hSx'
      exact hSx'
    have hS3 : s3.heap.objs.size < S := by omega
    obtain ⟨cS, heS⟩ := hSo
    have hea : s4.heap.get? h'.objs.size = some go := hk2 _ go hpushed
    have hgd : ∀ v, go.data ≠ .cell v := fun v z => by rw [hgc.2.1] at z; cases z
    have kp4 : ∀ b o, s3.heap.get? b = some o → s4.heap.get? b = some o := fun b o e => hk2 b o (Heap.get?_push_of_some _ (keep' b o e))
    have I5 := gx_start (A := Aw.deeper cenv) (code := code) (s' := s4) (m := fun y => if y = ".0" then some (.ref it) else none) (pn := [(h'.objs.size, go)]) I3 ok hN f3 hrw.hd (by rw [hce]; exact Around.frames_deeper hfr) kp4 hos hba
      (hn'.keeps fun b o e => hk2 b o (Heap.get?_push_of_some _ e)) (fun p hp => by
        rw [List.mem_singleton.mp hp]
        exact ⟨hea, by show s3.heap.objs.size < h'.objs.size; omega, hgd⟩)
    rw [hce] at I5
    have hSL : S ≠ cenv.locals := by rw [cL]; exact Nat.ne_of_gt hS3
    have hG : GI (gx X (Aw.deeper cenv) s3 H3 cenv fp [(h'.objs.size, go)]) S [] [] (wipe σ (own.map (·.2))) H3 s4 := by
      refine ⟨#[], cS, .nil, I5.pins_of fun p hp => ?_⟩
      rw [List.mem_singleton.mp hp]
      refine ⟨heS, I3.hok.fresh (Nat.le_of_lt hS3), hSL, fun z => ?_, fun v q => by cases q⟩
      rcases List.mem_cons.mp (I3.stkSub S z) with z | z
      · exact absurd (z ▸ I3.lt) (Nat.not_lt_of_ge (Nat.le_of_lt hS3))
      · exact I3.nofs (Nat.le_of_lt hS3) z
    have hSfp : S ∉ fp := fun hb => absurd (f3 S hb).2 (Nat.not_lt_of_ge (Nat.le_of_lt hS3))
    have hAp : Apart (gx X (Aw.deeper cenv) s3 H3 cenv fp [(h'.objs.size, go)]) S := by
      refine ⟨Nat.le_of_lt hS3, hSL, fun x c e z => ?_⟩
      obtain ⟨v, o, ho, _⟩ := I5.cell x c e
      have e : cenv.cells.lookup x = some c := e
      rw [← hce] at e
      rcases cloFrom_mem (PySem.mem_of_lookup e) with hm | ⟨h1, h2⟩
      · cases hm
      · obtain ⟨c2, hc2⟩ := hfree _ h1 rfl
        rw [hc2] at h2
        have h2 : c = c2 := h2
        obtain ⟨v2, o2, ho2, _⟩ := I3.cell x c2 hc2
        have := Heap.lt_size ho2
        rw [← h2, z] at this
        exact absurd this (Nat.not_lt_of_ge (Nat.le_of_lt hS3))
    have pinned : ∀ {ip : List (Addr × Obj)} {ys : List V} {s' : Shared} {σ' : L2.St} {H' : Hp}, GI (gx X (Aw.deeper cenv) s3 H3 cenv fp [(h'.objs.size, go)]) S ip ys σ' H' s' → s'.heap.IsGen h'.objs.size s3.gens.size := fun {ip ys s' σ' H'} hI => by
      obtain ⟨acc, cc, _, J⟩ := hI
      exact hgen _ (J.pin (h'.objs.size, go) (List.mem_append_left _ (List.mem_singleton.mpr rfl))).1
    have st4 : tn 0 s4.heap := T.keep _ _ _ st3 fun b _ o e => kp4 b o e
    have loop := seg_gx (A := Aw) (S := S) (elt := elt) (iter := iter) (scope := scope) (gpos := gpos) (vs := own.map (·.2)) (H0 := H3) (s0 := s3) (cenv := cenv) (pn := [(h'.objs.size, go)]) (W := W) (Q := cont) (σ := σ) T (by rw [← hce]; exact ok.co)
      (by rw [← hce]; exact hg _ _ _ _ _ _ _ _ (hrw.deeper _)) (by rw [← hce]; exact ht _ _ _ _ _ _ _ _ (hrw.deeper _)) (by rw [← hce]; exact he _ _ _ _ _ _ _ _ (hrw.deeper _))
      (fun p hp => by
        rw [List.mem_singleton.mp hp]
        exact ⟨Nat.ne_of_lt hSz, fun hb => absurd (f3 _ hb).2 (by show ¬ (h'.objs.size < s3.heap.objs.size); omega)⟩) hAp hSfp turn m0 sizeLine 0 [] H3 s4 s4 (Nat.add_zero _) w0 hG st4 (fun b hb => (f3 b hb).1.1)
    refine seg_imp (R := GEnd (gx X (Aw.deeper cenv) s3 H3 cenv fp [(h'.objs.size, go)]) S (wipe σ (own.map (·.2))) cont) (Y := GY (gx X (Aw.deeper cenv) s3 H3 cenv fp [(h'.objs.size, go)]) S) (fun n s₀ r s1' hR => ?_) (fun n s₀ v s1' kap kap' hkk hY => ?_) sizeLine (seg_gx0 T st4 loop)
    · obtain ⟨rfl, ys, H', hn, hI, hQ⟩ := hR
      obtain ⟨a1, _, _, acc, cc, ra, ea⟩ := hI.at
      obtain ⟨_, _, _, J⟩ := hI
      exact .inl ⟨.inr rfl, H', ys, acc, cc, J.os, J.bare, J.base, J.hok, a1, ea, ra, by omega, hQ⟩
    · obtain ⟨ys, xx, ip, σ', H', hn, h2, hI, h3⟩ := hY
      obtain ⟨_, _, _, acc, cc, ra, ea⟩ := hI.at
      have hg := pinned hI
      obtain ⟨_, _, _, J⟩ := hI
      have hsz : acc.size = ys.length := by
        have e1 := ra.length
        have e2 : acc.toList.length = acc.size := by simp
        omega
      exact ⟨J.os, J.bare, J.nolimit, hg, ⟨acc, cc, ea, by rw [hsz]; exact hn⟩, fun s' z => hkk _ _ (h3 s' z)⟩
  cases hf : codeAmong gpos ps.toList with
  | none =>
    refine wpAny_genexprCodeX hcode (cd.code hPs htr) (cd.tab hPs) hf fun c' h' tk hx hge hlt hco' _ htab' _ => ?_
    obtain ⟨o1, vs, f1, tf, fl, tg, inF, tx, tt, op, _, _, _, _, _, _, _, _, _, htr', _⟩ := hco'
    exact cont' _ h' tk _ hx (Nat.le_trans hge (Nat.le_of_lt hlt)) htab'.2 ⟨_, rfl⟩ htr'
  | some cv =>
    refine wpAny_genexprCode_hit hcode (cd.code hPs htr) hf ?_
    exact cont' cv s2.heap s2.toks ps (Heap.ExtBut.refl _ _) (Nat.le_refl _) hPs ⟨#[], by simp⟩ htr
end

/-! ### tuple(g) -/
section
variable {P : Program} {w : World} {outer : List Env} {H : Hp} {sc s : Shared} {ex : List Addr} {Q : List V → Hp → Prop} {A : Around} {k : Nat} {u : Value} {E : Value → Shared → Prop}
/-- what a run of the generator to its end leaves -/
def Drained (P : Program) (w : World) (outer : List Env) (H : Hp) (sc : Shared) (ex : List Addr) (Q : List V → Hp → Prop) (acc : Array Value) (s' : Shared) : Prop :=
  ∃ H' ys, Vals ys acc.toList ∧ ys.length ≤ sizeLine ∧ s'.os = sc.os ∧ AllBare s'.gens ∧ Un (frs outer) ex H H' sc.heap s'.heap ∧ HOk P w H' s'.heap ∧ Q ys H'
theorem collect_gx {Q' : List Value → Shared → Prop} (hr : Room (k + 2) A) (hfr : A.frames = some outer) (h : GMade P w k outer H sc ex Q (fun _ _ _ => False) u s)
    (hQ : ∀ acc s', Drained P w outer H sc ex Q acc s' → Q' acc.toList s') : wpAny (model P w) A (collect u) Q' E s := by
  obtain ⟨a, g, c, rfl, ha1, ha2, hg, hgs, hos, hb, hl, hkp, wake⟩ := h
  have hSa : s.heap.objs.size ≠ a := Nat.ne_of_gt ha2
  have hcl : cStatics < s.heap.objs.size := let ⟨_, hn, _⟩ := hl; hn.lt
  have hSc : s.heap.objs.size ≠ cStatics := Nat.ne_of_gt hcl
  unfold collect
  refine wpAny_bind (wpAny_runValue (codeAny_builtin F.entry_proto_collect ?_))
  rw [Around.under_plainId F.plain_proto_collect _]
  show wpAny _ A.in1 (newList [] >>= fun l => again (.builtin "list.__iadd__" ⟨[l, .ref a], []⟩)) _ _ s
  refine wpAny_bind (wpAny_newObj_type ?_)
  refine wpAny_pure ⟨plainId_quiet F.plain_list_iadd _, codeAny_builtin F.entry_list_iadd ?_⟩
  rw [Around.under_plainId F.plain_list_iadd _]
  show wpAny _ A.in1 (Builtin.List.listExtendWith (.ref s.heap.objs.size) (.ref a) (.ref s.heap.objs.size)) _ _ _
  unfold Builtin.List.listExtendWith
  have k1 : ∀ b o, s.heap.get? b = some o → (s.heap.push { cls := .type "list", data := .seq ([] : List Value).toArray }).get? b = some o := fun b o e => Heap.get?_push_of_some _ e
  have gty : ∀ {h : Heap}, (∀ b o, s.heap.get? b = some o → h.get? b = some o) → h.IsGen a g := fun {h} q => hg.keeps q
  refine wpAny_bind (wpAny_typeOf (Heap.IsGen.typeIs (s := { s with heap := _ }) (gty k1)) ?_)
  have h1 : Builtin.List.listSameRef (.ref s.heap.objs.size) (.ref a) = false := by simp [Builtin.List.listSameRef, hSa]
  have h2 : (Value.type "generator" == Value.type "list") = false := by decide
  have h3 : (Value.type "generator" == Value.type "tuple") = false := by decide
  simp only [h1, h2, h3, Bool.or_false, Bool.false_eq_true, if_false]
  refine wpAny_bind (wpAny_pyIter_gen (s := { s with heap := _ }) (gty k1) ?_)
  refine wpAny_bind (wpAny_holding ?_)
  unfold Builtin.List.listLengthHint
  refine wpAny_bind (wpAny_specialOf (Heap.IsGen.typeIs (s := { s with heap := _ }) (gty k1)) F.gen_no_len ?_)
  show wpAny _ A.in1 (specialOf (Value.ref a) (Str.ofString "__length_hint__") >>= _) _ _ _
  refine wpAny_bind (wpAny_specialOf (Heap.IsGen.typeIs (s := { s with heap := _ }) (gty k1)) F.gen_no_hint ?_)
  refine wpAny_pure ?_
  show wpAny _ A.in1 (rule "list.extend.makes-room" >>= fun _ => Builtin.List.listTouch (.ref s.heap.objs.size) >>= fun _ =>
    again (.builtin "list.extend.loop" ⟨[.ref s.heap.objs.size, .ref a, .ref s.heap.objs.size], []⟩)) _ _ _
  refine wpAny_bind (wpAny_rule ?_)
  have hS₁ : (s.heap.push { cls := .type "list", data := .seq ([] : List Value).toArray }).get? s.heap.objs.size = some { cls := .type "list", data := .seq ([] : List Value).toArray } := Heap.get?_push_size _ rfl
  refine wpAny_bind ?_
  show wpAny _ A.in1 (updateSeq s.heap.objs.size (·.push .none) >>= fun _ => updateSeq s.heap.objs.size (·.pop)) _ _ _
  refine wpAny_bind (wpAny_updateSeq hS₁ rfl ?_)
  have hS₂ := Heap.get?_update_self (Obj.mapSeq (·.push Value.none)) hS₁ rfl
  refine wpAny_updateSeq hS₂ rfl ?_
  have hS₃ := Heap.get?_update_self (Obj.mapSeq (·.pop)) hS₂ rfl
  have up : ∀ (h : Heap) (f : Obj → Obj), (∀ b o, s.heap.get? b = some o → h.get? b = some o) → ∀ b o, s.heap.get? b = some o → (h.update s.heap.objs.size f).get? b = some o := fun h f q b o e =>
    (Heap.get?_update_other _ _ (Ne.symm (Nat.ne_of_lt (Heap.lt_size e)))).trans (q b o e)
  have k4 := up _ (Obj.mapSeq (·.pop)) (up _ (Obj.mapSeq (·.push Value.none)) k1)
  refine wpAny_pure ⟨plainId_quiet F.plain_extend_loop _, ?_⟩
  refine drain (P := P) (w := w) (outer := outer) (H := H) (sc := sc) (ex := ex) (Q := Q) (EX := fun _ _ _ => False) (A := A) (g := g) hr.hd (by have := hr.dp; omega) hSa hSc
    (fun s' acc c H' ys q1 q2 q3 q4 q5 q6 q7 q8 q9 => ?_) (fun e s' hc => ?_) sizeLine _ (gty k4) (hl.keeps k4) ⟨_, hgs, rfl, ?_⟩
  · show wpAny _ A (load s.heap.objs.size >>= _) _ _ s'
    refine wpAny_bind (wpAny_load q1 ?_)
    exact wpAny_pure (hQ acc s' ⟨H', ys, q2, q3, q4, q5, q6, q7, q9⟩)
  · obtain ⟨_, _, _, _, _, _, _, _, _, _, _, _, hf⟩ := hc
    exact hf.elim
  · refine wake _ _ _ ⟨hr.hd, ?_, ?_⟩ hfr (Nat.le_refl _) k4 ⟨_, hS₃⟩ hos (allBare_setGen (s := { s with heap := _ }) hb rfl)
    · have := hr.dp
      show A.depth + 3 * k + 5 < _
      omega
    · have := hr.un
      show A.units + 1 + 1 + 16 * k + 200 < _
      omega

theorem call_tuple_gx {Q' : Value → Shared → Prop} (hr : Room (k + 3) A) (hfr : A.frames = some outer) (h : GMade P w k outer H sc ex Q (fun _ _ _ => False) u s)
    (hQ : ∀ acc s', Drained P w outer H sc ex Q acc s' → Q' (.ref s'.heap.objs.size) { s' with heap := s'.heap.push { cls := .type "tuple", data := .seq acc } }) :
    wpAny (model P w) A (call (.type "tuple") [u]) Q' E s := by
  obtain ⟨a, g, c, hu, ha1, ha2, hg, r⟩ := id h
  have hTI : s.TypeIs u "generator" := by rw [hu]; exact hg.typeIs
  have hsub := sub_tuple_self
  have hinit := init_tuple_lookup
  have hmh := madeHere_tuple
  have r2 : Room (k + 2) A.in1.in1 := ⟨hr.hd, by have := hr.dp; show A.depth + 3 * (k + 2) + 5 < _; omega, by have := hr.un; show A.units + 1 + 1 + 16 * (k + 2) + 200 < _; omega⟩
  refine callType_codes (Q₁ := fun obj s₁ => s₁.TypeIs obj "tuple" ∧ Q' obj s₁) F.called_tuple (F.typeCall_tuple_1 _) F.entry_object_init ?_ fun obj s₁ h₁ =>
    ⟨h₁.1, F.args_object_init_2 obj _, object_init_meets F.called_tuple.init.lookup F.called_tuple.made (by decide) P w A.in1 _ s₁ ⟨h₁.1, rfl, h₁.2⟩⟩
  refine codeAny_of_tree ?_
  show wpAny _ A.in1.in1 (do checkBuiltinCall "tuple.__new__" ⟨[.type "tuple", u], []⟩; again (.builtin "tuple.__new__" ⟨[.type "tuple", u], []⟩)) _ _ s
  refine wpAny_bind (wpAny_of_eq (F.newCall_tuple_1 _) (wpAny_pure ⟨plainId_quiet F.plain_tuple_new _, codeAny_builtin F.entry_tuple_new ?_⟩))
  rw [Around.under_plainId F.plain_tuple_new _]
  have col := fun (Q'' : List Value → Shared → Prop) (E' : Value → Shared → Prop) (hq : ∀ acc s', Drained P w outer H sc ex Q acc s' → Q'' acc.toList s') => collect_gx (A := A.in1.in1) (Q' := Q'') (E := E') r2 hfr h hq
  clear r h
  subst hu
  wp_walk using wpAny_typeOf hTI, col
  intro acc s' hd
  show wpAny _ _ (Builtin.Tuple.tupleExact acc.toList.toArray >>= fun v => ret v) _ _ _
  unfold Builtin.Tuple.tupleExact
  have hz : acc.size ≤ sizeLine := by
    obtain ⟨H', ys, q1, q2, _⟩ := hd
    have e1 := q1.length
    have e2 : acc.toList.length = acc.size := by simp
    omega
  refine wpAny_bind (wpAny_newObj_type ?_ (by show acc.toList.toArray.size ≤ sizeLine; simp only [Array.toArray_toList]; exact hz))
  refine wpAny_pure ?_
  have e : acc.toList.toArray = acc := by simp
  rw [e]
  exact ⟨⟨_, Heap.get?_push_size _ rfl, rfl⟩, hQ acc s' hd⟩
end

section
variable {X : Cx}
def tTupleG (tg : TGen) : TE := fun σ H Q => tg σ H fun out H2 => ∀ p, H2 p = none → Q (.ref p) (upd H2 p (.tup out))
/-- tuple(g) -/
theorem pe_tupleG {k : Nat} {e : Expr} {tg : TGen} {p pos : Pos} (h : PGen X k e tg (fun _ _ _ => False)) (hr : Room (k + 3) X.A) (hg : Gl X "tuple") (hmg : X.mg "tuple" = none)
    (he : starEach [e] X.env = (false, eval e X.env) :: starEach [] X.env := by rfl) : PE X (.Call (.Name "tuple" p) [e] [] pos) (tTupleG tg) := by
  refine ⟨fun pins s σ H Q I hq => ?_⟩
  refine wpAny_Call_Name_kw (ld_blt I hg hmg (u := .type "tuple") (by rfl) ?_ (by decide) (by decide))
  refine PyProof.Rows.callWith_type1 ?_ he rfl
  rw [he]
  show wpAny _ _ (spliced ((false, eval e X.env) :: backTo pos (starEach [] X.env))) _ _ s
  refine Calls.spliced_cons (thn (h.run pins s σ H _ I hq) fun u s1 ⟨H1, sc, ex, I1, hex, hG⟩ => ?_)
  refine Calls.spliced_nil ?_
  refine call_tuple_gx hr I1.ok.frames hG fun acc s' hd => ?_
  obtain ⟨H', ys, q1, q2, q3, q4, q5, q6, q7⟩ := hd
  have I2 : Inv X pins σ H' s' := I1.call' (ch := ex) q3 q5 q6 q4 hex
  refine ⟨.ref s'.heap.objs.size, _, I2.laid (t' := s'.toks) (fun b o e => Heap.get?_push_of_some _ e) (Nat.le_refl _) (o := .tup ys) ⟨q2, acc.toList, q1, ?_⟩, rfl, q7 _ (I2.hok.fresh (Nat.le_refl _))⟩
  exact ⟨_, Heap.get?_push_size _ rfl, rfl, 0, by simp⟩
end
/-- a genexp's turns over a walk -/
theorem gx_it {J : It} {n : Nat} {G : Hp → Prop} {Y : Nat → Hp → V → Hp → Prop} (w : Walk J n G Y) {g : TG} {tt : TT} {te : TE} {vs : List Nat} {σ : L2.St} {H1 : Hp} {cont : List V → Hp → Prop} (Pv : Nat → List V → Hp → Prop) (h0 : Pv 0 [] H1) (hG : ∀ i ys H, i ≤ n → Pv i ys H → G H)
    (hs : ∀ i x ys H H', i < n → Pv i ys H → Y i H x H' → g x (wipe σ vs) H' fun σ2 H2 => wipe σ2 vs = wipe σ vs ∧ tt σ2 H2 fun b H3 =>
      if b = true then te σ2 H3 fun y H4 => ys.length < sizeLine ∧ Pv (i + 1) (ys ++ [y]) H4 else Pv (i + 1) ys H3) (hd : ∀ ys H, Pv n ys H → cont ys H) :
    ∃ W : Nat → Nat → List V → Hp → Prop, (∃ m, W 0 m [] H1) ∧ ∀ i m ys H, W i m ys H →
      (J.stop i H ∧ cont ys H) ∨ (J.go i H ∧ ∃ Nx : List V → Hp → Prop, (∀ ys' H', Nx ys' H' → ∃ m', m' < m ∧ W (i + 1) m' ys' H') ∧ ∀ x H', J.yld i H x H' → g x (wipe σ vs) H' fun σ2 H2 => wipe σ2 vs = wipe σ vs ∧ tt σ2 H2 fun b H3 =>
        if b = true then te σ2 H3 fun y H4 => ys.length < sizeLine ∧ Nx (ys ++ [y]) H4 else Nx ys H3) := by
  refine ⟨fun i m ys H => m = n - i ∧ i ≤ n ∧ Pv i ys H, ⟨n, by simp, Nat.zero_le _, h0⟩, ?_⟩
  rintro i m ys H ⟨rfl, hi, p⟩
  have q := hG i ys H hi p
  by_cases hlt : i < n
  · refine .inr ⟨w.goes i H hlt q, Pv (i + 1), fun ys' H' p' => ⟨n - (i + 1), by omega, rfl, hlt, p'⟩, fun x H' y => hs i x ys H H' hlt p (w.yields i H x H' hlt q y)⟩
  · have e : i = n := by omega
    subst e
    exact .inl ⟨w.stops H q, hd ys H p⟩
end Gx


/-! ledgers by counting: what stands in one stands in another, in any order -/
namespace Sd
open PySem L2
open Classical in
noncomputable def one1 (a x : Addr × HO) : Nat := if x = a then 1 else 0
noncomputable def cnt (a : Addr × HO) : Lg → Nat
  | [] => 0
  | x :: r => one1 a x + cnt a r
theorem cnt_nil {a : Addr × HO} : cnt a [] = 0 := rfl
theorem cnt_cons {a x : Addr × HO} {r : Lg} : cnt a (x :: r) = one1 a x + cnt a r := rfl
theorem cnt_app {a : Addr × HO} : ∀ {A B : Lg}, cnt a (A ++ B) = cnt a A + cnt a B
  | [], B => by rw [List.nil_append, cnt_nil, Nat.zero_add]
  | x :: r, B => by rw [List.cons_append, cnt_cons, cnt_cons, cnt_app]; omega
theorem cnt_pos {a : Addr × HO} : ∀ {A : Lg}, 0 < cnt a A → a ∈ A
  | [], h => by rw [cnt_nil] at h; omega
  | x :: r, h => by
    by_cases e : x = a
    · rw [e]; exact List.mem_cons_self
    · rw [cnt_cons, one1, if_neg e, Nat.zero_add] at h
      exact List.mem_cons_of_mem _ (cnt_pos h)
theorem Led.le_aux {H : Hp} : ∀ (B C L : Lg), Led H (C ++ L) → (∀ a, cnt a B ≤ cnt a L) → Led H (C ++ B)
  | [], C, L, h, _ => by rw [List.append_nil]; exact h.left
  | x :: r, C, L, h, e => by
    have h1 := e x
    have o1 : one1 x x = 1 := by unfold one1; rw [if_pos rfl]
    rw [cnt_cons, o1] at h1
    obtain ⟨A, B, rfl⟩ := List.append_of_mem (cnt_pos (show 0 < cnt x L by omega))
    have h2 : Led H ((C ++ [x]) ++ (A ++ B)) := by
      refine h.perm ?_
      rw [List.append_assoc]
      exact List.perm_middle.append_left C
    have := Led.le_aux r (C ++ [x]) (A ++ B) h2 fun a => by
      have := e a
      rw [cnt_cons, cnt_app, cnt_cons] at this
      rw [cnt_app]; omega
    rw [List.append_assoc] at this
    exact this
theorem Led.le {H : Hp} {B L : Lg} (h : Led H L) (e : ∀ a, cnt a B ≤ cnt a L) : Led H B := Led.le_aux B [] L h e
section
variable {K : PySem.W.Frag} {H : Hp} {L : Lg} {l : Addr} {xs : List V}
theorem k_lenL2 {P : List V → Prop} (hL : Led H L) (e : At L l (.lst xs)) (q : P xs) : ∃ p ys, [V.ref l] = [.ref p] ∧ (SqL K H p ys ∨ SqT K H p ys) ∧ P ys := ⟨_, _, rfl, .inl (.of (hL.at e)), q⟩
theorem k_lenT2 {P : List V → Prop} (hL : Led H L) (e : At L l (.tup xs)) (q : P xs) : ∃ p ys, [V.ref l] = [.ref p] ∧ (SqL K H p ys ∨ SqT K H p ys) ∧ P ys := ⟨_, _, rfl, .inr (.of (hL.at e)), q⟩
end
/-! loops with the ends told by what they take -/
/-- the ends of a turn: what stands behind it, a return, a break -/
structure EndsA (N : L2.St → Hp → Prop) (D D' : Ends) : Prop where
  nx : ∀ σ H, N σ H → D'.nx σ H
  ct : ∀ σ H, N σ H → D'.ct σ H
  bk : ∀ σ H, D.nx σ H → D'.bk σ H
  rt : ∀ v H, D.rt v H → D'.rt v H
section
variable {K : PySem.W.Frag} {a : Addr} {xs : List V} {g : TG} {tb : TS} {D : Ends} {σ : L2.St} {H : Hp}
theorem for_listA (Pv : Nat → L2.St → Hp → Prop) (h0 : Pv 0 σ H) (hl : ∀ i σ H, i ≤ xs.length → Pv i σ H → SqL K H a xs)
    (hs : ∀ i x σ H (D' : Ends), xs[i]? = some x → Pv i σ H → EndsA (Pv (i + 1)) D D' → g x σ H fun σ2 H2 => tb D' σ2 H2) (hd : ∀ σ H, Pv xs.length σ H → D.nx σ H) :
    ∃ W : Nat → Nat → L2.St → Hp → Prop, (∃ m, W 0 m σ H) ∧ ∀ i m σ H, W i m σ H →
      ((Itl K a).stop i H ∧ D.nx σ H) ∨ ((Itl K a).go i H ∧ ∃ N : L2.St → Hp → Prop, (∀ σ' H', N σ' H' → ∃ m', m' < m ∧ W (i + 1) m' σ' H') ∧ ∀ x H', (Itl K a).yld i H x H' → g x σ H' fun σ2 H2 => tb { D with nx := N, ct := N, bk := D.nx } σ2 H2) :=
  for_list Pv h0 hl (fun i x σ H hi h => hs i x σ H _ hi h ⟨fun _ _ q => q, fun _ _ q => q, fun _ _ q => q, fun _ _ q => q⟩) hd
theorem for_tupA (Pv : Nat → L2.St → Hp → Prop) (h0 : Pv 0 σ H) (hl : ∀ i σ H, i ≤ xs.length → Pv i σ H → SqT K H a xs)
    (hs : ∀ i x σ H (D' : Ends), xs[i]? = some x → Pv i σ H → EndsA (Pv (i + 1)) D D' → g x σ H fun σ2 H2 => tb D' σ2 H2) (hd : ∀ σ H, Pv xs.length σ H → D.nx σ H) :
    ∃ W : Nat → Nat → L2.St → Hp → Prop, (∃ m, W 0 m σ H) ∧ ∀ i m σ H, W i m σ H →
      ((Itt K a).stop i H ∧ D.nx σ H) ∨ ((Itt K a).go i H ∧ ∃ N : L2.St → Hp → Prop, (∀ σ' H', N σ' H' → ∃ m', m' < m ∧ W (i + 1) m' σ' H') ∧ ∀ x H', (Itt K a).yld i H x H' → g x σ H' fun σ2 H2 => tb { D with nx := N, ct := N, bk := D.nx } σ2 H2) :=
  for_tup Pv h0 hl (fun i x σ H hi h => hs i x σ H _ hi h ⟨fun _ _ q => q, fun _ _ q => q, fun _ _ q => q, fun _ _ q => q⟩) hd
theorem for_rangeA {lo : Int} {n : Nat} (Pv : Nat → L2.St → Hp → Prop) (h0 : Pv 0 σ H)
    (hs : ∀ i σ H (D' : Ends), i < n → Pv i σ H → EndsA (Pv (i + 1)) D D' → g (.int (lo + i)) σ H fun σ2 H2 => tb D' σ2 H2) (hd : ∀ σ H, Pv n σ H → D.nx σ H) :
    ∃ W : Nat → Nat → L2.St → Hp → Prop, (∃ m, W 0 m σ H) ∧ ∀ i m σ H, W i m σ H →
      ((Itr lo n).stop i H ∧ D.nx σ H) ∨ ((Itr lo n).go i H ∧ ∃ N : L2.St → Hp → Prop, (∀ σ' H', N σ' H' → ∃ m', m' < m ∧ W (i + 1) m' σ' H') ∧ ∀ x H', (Itr lo n).yld i H x H' → g x σ H' fun σ2 H2 => tb { D with nx := N, ct := N, bk := D.nx } σ2 H2) :=
  for_range Pv h0 (fun i σ H hi h => hs i σ H _ hi h ⟨fun _ _ q => q, fun _ _ q => q, fun _ _ q => q, fun _ _ q => q⟩) hd
theorem for_itA {J : It} {n : Nat} {G : Hp → Prop} {Y : Nat → Hp → V → Hp → Prop} (w : Walk J n G Y) (Pv : Nat → L2.St → Hp → Prop) (h0 : Pv 0 σ H) (hG : ∀ i σ H, i ≤ n → Pv i σ H → G H)
    (hs : ∀ i x σ H H' (D' : Ends), i < n → Pv i σ H → Y i H x H' → EndsA (Pv (i + 1)) D D' → g x σ H' fun σ2 H2 => tb D' σ2 H2) (hd : ∀ σ H, Pv n σ H → D.nx σ H) :
    ∃ W : Nat → Nat → L2.St → Hp → Prop, (∃ m, W 0 m σ H) ∧ ∀ i m σ H, W i m σ H →
      (J.stop i H ∧ D.nx σ H) ∨ (J.go i H ∧ ∃ N : L2.St → Hp → Prop, (∀ σ' H', N σ' H' → ∃ m', m' < m ∧ W (i + 1) m' σ' H') ∧ ∀ x H', J.yld i H x H' → g x σ H' fun σ2 H2 => tb { D with nx := N, ct := N, bk := D.nx } σ2 H2) :=
  for_it w Pv h0 hG (fun i x σ H H' hi h hy => hs i x σ H H' _ hi h hy ⟨fun _ _ q => q, fun _ _ q => q, fun _ _ q => q, fun _ _ q => q⟩) hd
/-- the ends of what is done while d is locked -/
structure EndsL (d : Addr) (od : Obj) (u : HO) (D D' : Ends) : Prop where
  nx : ∀ σ H, H d = some (.frz od u) → D.nx σ (L2.upd H d u) → D'.nx σ H
  rt : ∀ v H, H d = some (.frz od u) → D.rt v (L2.upd H d u) → D'.rt v H
  bk : ∀ σ H, H d = some (.frz od u) → D.bk σ (L2.upd H d u) → D'.bk σ H
  ct : ∀ σ H, H d = some (.frz od u) → D.ct σ (L2.upd H d u) → D'.ct σ H
theorem lockA {t : TS} {d : Addr} {u : HO} (hd : H d = some u) (mu : Mut (some u)) (h : ∀ od (D' : Ends), EndsL d od u D D' → t D' σ (L2.upd H d (.frz od u))) : tLock t D σ H :=
  ⟨d, u, hd, mu, fun od => h od _ ⟨fun _ _ a b => ⟨a, b⟩, fun _ _ a b => ⟨a, b⟩, fun _ _ a b => ⟨a, b⟩, fun _ _ a b => ⟨a, b⟩⟩⟩
end
end Sd


/-! rules within a comprehension (.blk) or a generator expression (.gx), told with the outer K; words for texts -/
namespace Sd
open PySem PySem.Spec PyProof.Rows L2
section
variable {X : Cx} {s : Shared} {H : Hp} {scope : Scope} {env : Env} {fp : List Addr} {e : Expr} {f : Str} {pos : Pos} {ta : TE}
theorem pe_fldB (he : PE (X.blk s H scope env fp) e ta) (hb : attributeBase e f env (eval e env) = eval e env) : PE (X.blk s H scope env fp) (.Attribute e f pos) (tFld X.K ta f) := pe_fld he hb
theorem ix_tupB : IxR (X.blk s H scope env fp) (rIxT X.K) := ix_tup
theorem ix_listB : IxR (X.blk s H scope env fp) (rIxL X.K) := ix_list
theorem pi_listB {tg e : Expr} {te : TE} (he : PE (X.blk s H scope env fp) e te) : PI (X.blk s H scope env fp) tg e (iList X.K te) := pi_list he
theorem call_dictPB (hcalm : X.calm = true) : CallR (X.blk s H scope env fp) (.type "dict") (fun xs H Q => ∃ (a : Addr) (ps : List Addr) (kvs : List (Key × V)), xs = [.ref a] ∧ SqL X.K H a (ps.map V.ref) ∧ Paired (fun p kv => SqT X.K H p [kV kv.1, kv.2]) ps kvs ∧ ∀ p, H p = none → Q (.ref p) (upd H p (.dK (mergeK [] kvs)))) := call_dictP hcalm
theorem op_in_seqB : OpR (X.blk s H scope env fp) (compareOp .In) (rIn X.K false) := op_in_seq
theorem op_notIn_seqB : OpR (X.blk s H scope env fp) (compareOp .NotIn) (rIn X.K true) := op_notIn_seq
theorem op_eqPB (hu : (X.blk s H scope env fp).A.units + 64 < cLine) : OpR (X.blk s H scope env fp) (compareOp .Eq) (rEqP X.K) := op_eqP hu
theorem op_nePB (hu : (X.blk s H scope env fp).A.units + 64 < cLine) : OpR (X.blk s H scope env fp) (compareOp .NotEq) (rNeP X.K) := op_neP hu
end
section
variable {X : Cx} {A : Around} {s : Shared} {H : Hp} {env : Env} {fp : List Addr} {pn : List (Addr × Obj)} {e : Expr} {f : Str} {pos : Pos} {ta : TE}
theorem pe_fldG (he : PE (Gx.gx X A s H env fp pn) e ta) (hb : attributeBase e f env (eval e env) = eval e env) : PE (Gx.gx X A s H env fp pn) (.Attribute e f pos) (tFld X.K ta f) := pe_fld he hb
theorem ix_tupG : IxR (Gx.gx X A s H env fp pn) (rIxT X.K) := ix_tup
theorem ix_listG : IxR (Gx.gx X A s H env fp pn) (rIxL X.K) := ix_list
theorem op_in_seqG : OpR (Gx.gx X A s H env fp pn) (compareOp .In) (rIn X.K false) := op_in_seq
theorem op_notIn_seqG : OpR (Gx.gx X A s H env fp pn) (compareOp .NotIn) (rIn X.K true) := op_notIn_seq
end
/-! texts in lists -/
theorem in_strs {x : Str} {ns : List Str} : inV (.str x) (ns.map .str) = decide (x ∈ ns) := by
  unfold inV
  induction ns with
  | nil => simp
  | cons y r ih =>
    rw [List.map_cons, List.any_cons, ih]
    show (y == x || _) = _
    by_cases e : y = x
    · subst e; simp
    · simp [e, Ne.symm e]
theorem flat_strs {ns : List Str} : (ns.map V.str).all flatV = true := by
  rw [List.all_map, List.all_eq_true]; exact fun _ _ => rfl
theorem eqvAll_strs : ∀ (a b : List Str), PyData.eqvAll (a.map PyData.str) (b.map PyData.str) = decide (a = b)
  | [], [] => by simp [PyData.eqvAll]
  | [], _ :: _ => by simp [PyData.eqvAll]
  | _ :: _, [] => by simp [PyData.eqvAll]
  | x :: r, y :: s => by
    rw [List.map_cons, List.map_cons, PyData.eqvAll, eqvAll_strs r s]
    by_cases e : x = y <;> simp [PyData.eqv, e]
theorem eqv_strs {a b : List Str} : PyData.eqv (.list (a.map PyData.str)) (.list (b.map PyData.str)) = decide (a = b) := by
  rw [PyData.eqv]; exact eqvAll_strs a b
section
variable {K : PySem.W.Frag} {H : Hp} {L : Lg} {p q : Addr} {a b : List Str} {Q : VK} {xs ys : List V}
theorem k_neStrs (hL : Led H L) (h1 : At L p (.lst xs)) (h2 : At L q (.lst ys)) (e1 : xs = a.map V.str) (e2 : ys = b.map V.str) (k : Q (.bl (!decide (a = b))) H) : rNeP K (.ref p) (.ref q) H Q :=
  ⟨_, _, dp_lst (e1 ▸ hL.at h1) dp_strs, dp_lst (e2 ▸ hL.at h2) dp_strs, shal_strs, shal_strs, by rw [eqv_strs]; exact k⟩
theorem k_eqStrs (hL : Led H L) (h1 : At L p (.lst xs)) (h2 : At L q (.lst ys)) (e1 : xs = a.map V.str) (e2 : ys = b.map V.str) (k : Q (.bl (decide (a = b))) H) : rEqP K (.ref p) (.ref q) H Q :=
  ⟨_, _, dp_lst (e1 ▸ hL.at h1) dp_strs, dp_lst (e2 ▸ hL.at h2) dp_strs, shal_strs, shal_strs, by rw [eqv_strs]; exact k⟩
theorem k_inS {x : Str} {ns : List Str} (hL : Led H L) (h1 : At L p (.lst (ns.map V.str))) (k : Q (.bl (decide (x ∈ ns))) H) : rIn K false (.str x) (.ref p) H Q :=
  ⟨_, _, rfl, .inl (.of (hL.at h1)), rfl, flat_strs, by rw [in_strs]; exact k⟩
theorem k_ninS {x : Str} {ns : List Str} (hL : Led H L) (h1 : At L p (.lst (ns.map V.str))) (k : Q (.bl (!decide (x ∈ ns))) H) : rIn K true (.str x) (.ref p) H Q :=
  ⟨_, _, rfl, .inl (.of (hL.at h1)), rfl, flat_strs, by rw [in_strs]; exact k⟩
end
theorem mergeK_dz {names : List Str} {vals : List V} (h : names.Nodup) (hl : names.length = vals.length) : mergeK [] (dz names vals) = dz names vals := by
  rw [mergeK_nd]
  · rfl
  · have : (dz names vals).map (·.1) = names.map (Sum.inr : Str → Key) := by
      unfold dz
      rw [← List.unzip_fst, List.unzip_zip (by simpa using hl)]
    rw [List.nil_append, this]
    exact List.pairwise_map.mpr (h.imp fun ne q => ne (Sum.inr.inj q))
theorem paired_map {α β γ : Type} {F : β → γ → Prop} {f : α → β} {g : α → γ} : ∀ {l : List α}, (∀ x ∈ l, F (f x) (g x)) → Paired F (l.map f) (l.map g)
  | [], _ => .nil
  | x :: r, h => .cons (h x List.mem_cons_self) (paired_map fun y hy => h y (.tail _ hy))
end Sd


/-! dicts with text keys, told by lists of (name, what) -/
namespace Sd
open PySem L2
def aget {α : Type} : List (Str × α) → Str → Option α
  | [], _ => none
  | x :: r, k => if x.1 = k then some x.2 else aget r k
def aput {α : Type} : List (Str × α) → Str → α → List (Str × α)
  | [], k, v => [(k, v)]
  | x :: r, k, v => if x.1 = k then (k, v) :: r else x :: aput r k v
def adel {α : Type} : List (Str × α) → Str → List (Str × α)
  | [], _ => []
  | x :: r, k => if x.1 = k then r else x :: adel r k
theorem aget_none {α : Type} {k : Str} : ∀ {l : List (Str × α)}, k ∉ l.map (·.1) → aget l k = none
  | [], _ => rfl
  | x :: r, h => by
    have h1 : ¬ x.1 = k := fun e => h (by rw [← e]; exact List.mem_cons_self)
    rw [aget, if_neg h1]
    exact aget_none fun m => h (List.mem_cons_of_mem _ m)
theorem aget_some {α : Type} {k : Str} {v : α} : ∀ {l : List (Str × α)}, aget l k = some v → k ∈ l.map (·.1)
  | x :: r, h => by
    by_cases e : x.1 = k
    · rw [← e]; exact List.mem_cons_self
    · rw [aget, if_neg e] at h
      exact List.mem_cons_of_mem _ (aget_some h)
theorem aget_in {α : Type} {k : Str} : ∀ {l : List (Str × α)}, k ∈ l.map (·.1) → ∃ v, aget l k = some v
  | x :: r, h => by
    by_cases e : x.1 = k
    · exact ⟨x.2, by rw [aget, if_pos e]⟩
    · rw [aget, if_neg e]
      refine aget_in ?_
      rcases List.mem_cons.mp h with z | z
      · exact absurd z.symm e
      · exact z
theorem aput_names_in {α : Type} {k : Str} {v : α} : ∀ {l : List (Str × α)}, k ∈ l.map (·.1) → (aput l k v).map (·.1) = l.map (·.1)
  | x :: r, h => by
    by_cases e : x.1 = k
    · rw [aput, if_pos e]; simp [e]
    · rw [aput, if_neg e]
      rw [List.map_cons, List.map_cons, aput_names_in]
      rcases List.mem_cons.mp h with z | z
      · exact absurd z.symm e
      · exact z
theorem aput_names_out {α : Type} {k : Str} {v : α} : ∀ {l : List (Str × α)}, k ∉ l.map (·.1) → aput l k v = l ++ [(k, v)]
  | [], _ => rfl
  | x :: r, h => by
    have h1 : ¬ x.1 = k := fun e => h (by rw [← e]; exact List.mem_cons_self)
    rw [aput, if_neg h1, aput_names_out fun m => h (List.mem_cons_of_mem _ m)]
    rfl
theorem aget_put {α : Type} {k j : Str} {v : α} : ∀ {l : List (Str × α)}, aget (aput l k v) j = if k = j then some v else aget l j
  | [] => by
    show aget [(k, v)] j = _
    unfold aget
    rfl
  | x :: r => by
    by_cases e : x.1 = k
    · rw [aput, if_pos e]
      by_cases e2 : k = j
      · rw [aget, if_pos e2, if_pos e2]
      · rw [aget, if_neg e2, if_neg e2]
        rw [aget, if_neg (by rw [e]; exact e2)]
    · rw [aput, if_neg e]
      by_cases e2 : x.1 = j
      · rw [aget, if_pos e2, aget, if_pos e2, if_neg (fun z => e (e2.trans z.symm))]
      · rw [aget, if_neg e2, aget_put, aget, if_neg e2]
theorem aget_del {α : Type} {k j : Str} : ∀ {l : List (Str × α)}, (l.map (·.1)).Nodup → aget (adel l k) j = if k = j then none else aget l j
  | [], _ => by simp [adel, aget]
  | x :: r, nd => by
    obtain ⟨n1, n2⟩ := List.nodup_cons.mp nd
    by_cases e : x.1 = k
    · rw [adel, if_pos e]
      by_cases e2 : k = j
      · rw [if_pos e2]
        exact aget_none (by rw [← e2, ← e]; exact n1)
      · rw [if_neg e2, aget, if_neg (by rw [e]; exact e2)]
    · rw [adel, if_neg e]
      by_cases e2 : x.1 = j
      · rw [aget, if_pos e2, aget, if_pos e2, if_neg (fun z => e (e2.trans z.symm))]
      · rw [aget, if_neg e2, aget_del n2, aget, if_neg e2]
theorem adel_names {α : Type} {k : Str} : ∀ {l : List (Str × α)}, ((adel l k).map (·.1)).Sublist (l.map (·.1))
  | [] => .refl _
  | x :: r => by
    by_cases e : x.1 = k
    · rw [adel, if_pos e]; exact List.sublist_cons_self _ _
    · rw [adel, if_neg e]; exact adel_names.cons_cons _
section
variable {α : Type} {vo : Str × α → V} {l : List (Str × α)} {k : Str}
def kk (vo : Str × α → V) (x : Str × α) : Key × V := (Sum.inr x.1, vo x)
theorem kk_val : valV (l.map (kk vo)) (.inr k) = (aget l k).map fun v => vo (k, v) := by
  induction l with
  | nil => rfl
  | cons x r ih =>
    by_cases e : x.1 = k
    · rw [List.map_cons, valV_pos (p := kk vo x) (by show Sum.inr x.1 = _; rw [e]), aget, if_pos e]
      show some (vo x) = some (vo (k, x.2))
      rw [← e]
    · rw [List.map_cons, valV_neg (p := kk vo x) (fun z => e (Sum.inr.inj z)), ih, aget, if_neg e]
theorem kk_any : ((l.map (kk vo)).any fun kv => decide (kv.1 = (Sum.inr k : Key))) = decide (k ∈ l.map (·.1)) := by
  induction l with
  | nil => rfl
  | cons x r ih =>
    rw [List.map_cons, List.any_cons, ih]
    have e1 : decide ((kk vo x).1 = (Sum.inr k : Key)) = decide (x.1 = k) := decide_eq_decide.mpr ⟨fun z => Sum.inr.inj z, fun z => by show Sum.inr x.1 = _; rw [z]⟩
    rw [e1]
    by_cases e : x.1 = k
    · simp [e]
    · have e' : ¬ k = x.1 := fun z => e z.symm
      simp [e, e']
theorem kk_put {v : α} (nd : (l.map (·.1)).Nodup) : putK (l.map (kk vo)) (.inr k) (vo (k, v)) = (aput l k v).map (kk vo) := by
  unfold putK
  rw [kk_any]
  by_cases h : k ∈ l.map (·.1)
  · rw [if_pos (decide_eq_true h)]
    induction l with
    | nil => simp at h
    | cons x r ih =>
      obtain ⟨n1, n2⟩ := List.nodup_cons.mp nd
      by_cases e : x.1 = k
      · rw [aput, if_pos e, List.map_cons, List.map_cons, List.map_cons, if_pos (by show Sum.inr x.1 = _; rw [e])]
        congr 1
        · show (Sum.inr x.1, _) = (Sum.inr k, _)
          rw [e]
        · refine (List.map_congr_left fun y hy => ?_).trans (List.map_id _)
          refine if_neg fun z => n1 ?_
          obtain ⟨q, hq, rfl⟩ := List.mem_map.mp hy
          have z : q.1 = k := Sum.inr.inj z
          exact List.mem_map.mpr ⟨q, hq, z.trans e.symm⟩
      · rw [aput, if_neg e, List.map_cons, List.map_cons, List.map_cons, if_neg (show ¬ (kk vo x).1 = (Sum.inr k : Key) from fun z => e (Sum.inr.inj z))]
        congr 1
        refine ih n2 ?_
        rcases List.mem_cons.mp h with z | z
        · exact absurd z.symm e
        · exact z
  · rw [if_neg (by rw [decide_eq_false h]; decide), aput_names_out h, List.map_append]
    rfl
theorem kk_drop (nd : (l.map (·.1)).Nodup) : dropK (l.map (kk vo)) (.inr k) = (adel l k).map (kk vo) := by
  unfold dropK
  induction l with
  | nil => rfl
  | cons x r ih =>
    obtain ⟨n1, n2⟩ := List.nodup_cons.mp nd
    by_cases e : x.1 = k
    · rw [adel, if_pos e, List.map_cons, List.filter_cons, if_neg (by simp [kk, e])]
      refine List.filter_eq_self.mpr fun y hy => ?_
      obtain ⟨q, hq, rfl⟩ := List.mem_map.mp hy
      have : ¬ q.1 = k := fun z => n1 (List.mem_map.mpr ⟨q, hq, z.trans e.symm⟩)
      simp [kk, this]
    · rw [adel, if_neg e, List.map_cons, List.filter_cons, if_pos (by simp [kk, e]), List.map_cons, ih n2]
theorem aput_map {α β : Type} {f : α → β} {k : Str} {v : α} : ∀ {l : List (Str × α)}, (aput l k v).map (fun x => (x.1, f x.2)) = aput (l.map fun x => (x.1, f x.2)) k (f v)
  | [] => rfl
  | x :: r => by
    by_cases e : x.1 = k
    · rw [aput, if_pos e, List.map_cons, List.map_cons, aput, if_pos e]
    · rw [aput, if_neg e, List.map_cons, List.map_cons, aput, if_neg e, aput_map]
theorem adel_map {α β : Type} {f : α → β} {k : Str} : ∀ {l : List (Str × α)}, (adel l k).map (fun x => (x.1, f x.2)) = adel (l.map fun x => (x.1, f x.2)) k
  | [] => rfl
  | x :: r => by
    by_cases e : x.1 = k
    · rw [adel, if_pos e, List.map_cons, adel, if_pos e]
    · rw [adel, if_neg e, List.map_cons, List.map_cons, adel, if_neg e, adel_map]
theorem aget_map {α β : Type} {f : α → β} {k : Str} : ∀ {l : List (Str × α)}, aget (l.map fun x => (x.1, f x.2)) k = (aget l k).map f
  | [] => rfl
  | x :: r => by
    by_cases e : x.1 = k
    · rw [List.map_cons, aget, if_pos e, aget, if_pos e]; rfl
    · rw [List.map_cons, aget, if_neg e, aget, if_neg e, aget_map]
end
theorem at_mem {L : Lg} {a : Addr} {o : HO} (h : (a, o) ∈ L) : At L a o := let ⟨i, hi, e⟩ := List.getElem_of_mem h; ⟨i, by rw [List.getElem?_eq_getElem hi, e]⟩
theorem nodup_len {α : Type} [DecidableEq α] : ∀ {l U : List α}, l.Nodup → (∀ k ∈ l, k ∈ U) → l.length ≤ U.length
  | [], _, _, _ => Nat.zero_le _
  | x :: r, U, nd, h => by
    obtain ⟨n1, n2⟩ := List.nodup_cons.mp nd
    have hx := h x List.mem_cons_self
    have := nodup_len (U := U.erase x) n2 fun k hk => (List.mem_erase_of_ne (fun e => n1 (by rw [← e]; exact hk))).mpr (h k (.tail _ hk))
    rw [List.length_erase_of_mem hx] at this
    have h0 : 0 < U.length := List.length_pos_of_mem hx
    rw [List.length_cons]
    omega
theorem kk_names {α : Type} {vo : Str × α → V} {l : List (Str × α)} : (l.map (kk vo)).map (·.1) = (l.map (·.1)).map Sum.inr := by
  rw [List.map_map, List.map_map]; rfl
theorem aput_nd {α : Type} {k : Str} {v : α} {l : List (Str × α)} (h : (l.map (·.1)).Nodup) : ((aput l k v).map (·.1)).Nodup := by
  by_cases hk : k ∈ l.map (·.1)
  · rw [aput_names_in hk]; exact h
  · rw [aput_names_out hk, List.map_append]
    exact List.nodup_append.mpr ⟨h, by simp, fun a ha b hb => by
      rw [List.map_cons, List.map_nil, List.mem_singleton] at hb
      rw [hb]
      exact fun e => hk ((show a = k from e) ▸ ha)⟩
theorem aput_mem {α : Type} {k j : Str} {v : α} {l : List (Str × α)} (h : j ∈ (aput l k v).map (·.1)) : j = k ∨ j ∈ l.map (·.1) := by
  by_cases hk : k ∈ l.map (·.1)
  · rw [aput_names_in hk] at h; exact .inr h
  · rw [aput_names_out hk, List.map_append] at h
    rcases List.mem_append.mp h with h | h
    · exact .inr h
    · exact .inl (by simpa using h)
theorem adel_mem {α : Type} {k j : Str} : ∀ {l : List (Str × α)}, j ∈ l.map (·.1) → j ≠ k → j ∈ (adel l k).map (·.1)
  | x :: r, h, ne => by
    by_cases e : x.1 = k
    · rw [adel, if_pos e]
      rcases List.mem_cons.mp h with z | z
      · exact absurd (z.trans e) ne
      · exact z
    · rw [adel, if_neg e]
      rcases List.mem_cons.mp h with z | z
      · rw [z]; exact List.mem_cons_self
      · exact List.mem_cons_of_mem _ (adel_mem z ne)
theorem aget_split {α : Type} {k : Str} {v : α} : ∀ {l : List (Str × α)}, aget l k = some v → ∃ B C, l = B ++ (k, v) :: C ∧ ∀ v', aput l k v' = B ++ (k, v') :: C
  | x :: r, h => by
    by_cases e : x.1 = k
    · rw [aget, if_pos e] at h
      obtain rfl := Option.some.inj h
      exact ⟨[], r, by rw [← e]; rfl, fun v' => by rw [aput, if_pos e]; rfl⟩
    · rw [aget, if_neg e] at h
      obtain ⟨B, C, e1, e2⟩ := aget_split h
      exact ⟨x :: B, C, by rw [e1]; rfl, fun v' => by rw [aput, if_neg e, e2 v']; rfl⟩
theorem aput_self {α : Type} {k : Str} {v : α} {l : List (Str × α)} (h : aget l k = some v) : aput l k v = l := by
  obtain ⟨B, C, e1, e2⟩ := aget_split h
  rw [e2, ← e1]
theorem k_dgetR {H : Hp} {a : Addr} {kvs : List (Key × V)} {v : V} {P : Addr → V → Prop} {x : Str} (r : Rd H a (.dK kvs)) (lk : valV kvs (.inr x) = some v) (q : P a v) : ∃ a' v', V.ref a = .ref a' ∧ DGet H a' (.str x) (some v') ∧ P a' v' :=
  ⟨_, _, rfl, .inl ⟨kvs, .inr x, r, rfl, lk.symm⟩, q⟩
theorem adel_none {α : Type} {k : Str} : ∀ {l : List (Str × α)}, aget l k = none → adel l k = l
  | [], _ => rfl
  | x :: r, h => by
    by_cases e : x.1 = k
    · rw [aget, if_pos e] at h; cases h
    · rw [aget, if_neg e] at h
      rw [adel, if_neg e, adel_none h]
theorem aput_nm {α : Type} {l : List (Str × α)} {k : Str} {v : α} {ns : List Str} (h : l.map (·.1) = ns) (hk : k ∈ ns) : (aput l k v).map (·.1) = ns := by
  rw [aput_names_in (by rw [h]; exact hk)]; exact h
theorem aget_const {α : Type} {v : α} {k : Str} : ∀ {ns : List Str}, k ∈ ns → aget (ns.map fun n => (n, v)) k = some v
  | x :: r, h => by
    by_cases z : x = k
    · rw [List.map_cons, aget, if_pos z]
    · rw [List.map_cons, aget, if_neg z]
      exact aget_const ((List.mem_cons.mp h).resolve_left fun y => z y.symm)
theorem aget_mem {α : Type} {k : Str} {v : α} {l : List (Str × α)} (h : aget l k = some v) : (k, v) ∈ l := by
  obtain ⟨B, C, e, _⟩ := aget_split h
  rw [e]; exact List.mem_append_right _ List.mem_cons_self
theorem mem_aget {α : Type} {k : Str} {v : α} {l : List (Str × α)} (nd : (l.map (·.1)).Nodup) (h : (k, v) ∈ l) : aget l k = some v := by
  induction l with
  | nil => cases h
  | cons x r ih =>
    obtain ⟨n1, n2⟩ := List.nodup_cons.mp nd
    rcases List.mem_cons.mp h with e | h
    · rw [← e, aget, if_pos rfl]
    · rw [aget, if_neg]
      · exact ih n2 h
      · intro e
        exact n1 (List.mem_map.mpr ⟨_, h, e.symm⟩)
theorem foldl_take {α β : Type} {f : β → α → β} {l : List α} {i : Nat} {x : α} {b : β} (h : l[i]? = some x) : (l.take (i + 1)).foldl f b = f ((l.take i).foldl f b) x := by
  rw [List.take_add_one, h, List.foldl_append]; rfl
theorem small60 {n : Nat} (h : n < 60) : n < sizeLine := Nat.lt_of_lt_of_le h (by decide)
theorem map_take {α β : Type} {f : α → β} {l : List α} {i : Nat} {x : α} (h : l[i]? = some x) : (l.take (i + 1)).map f = (l.take i).map f ++ [f x] := by
  rw [List.take_add_one, h, List.map_append]; rfl
theorem pss_imp {X : Cx} {sts : List Stmt} {t u : TS} (h : PSs X sts t) (k : ∀ D σ H, u D σ H → t D σ H) : PSs X sts u := ⟨fun pins s σ H D I q => h.run pins s σ H D I (k D σ H q)⟩
theorem ps_imp {X : Cx} {st : Stmt} {t u : TS} (h : PS X st t) (k : ∀ D σ H, u D σ H → t D σ H) : PS X st u := ⟨fun pins s σ H D I q => h.run pins s σ H D I (k D σ H q)⟩
end Sd


/-! lambdas that capture names, kept as values, called by told -/
namespace Sd
open PySem PySem.Spec PyProof.Rows L2 LamX NdefX
structure LOkC (P : Program) (w : World) (K : PySem.W.Frag) (mg : Str → Option Value) (base : Heap) (k : Nat) (f : Addr) (F : NF) (b : Expr) (fr : List Str) (tl : List (Option V) → Hp → VK → XK → Prop) : Prop where
  run : ∀ (A : Around) (outer : List Env) (s : Shared) (H : Hp) (ws : List (Option V)) (Q : VK) (E : XK), Room k A → Env0 P w K mg base A outer s H → H f = some (LamO f F b) → H F.c = some (CodeO F.c F.qual) → CellsAt F.cl fr ws s.heap H → tl ws H Q E →
    codeAny (model P w) A (.call (.ref f) ⟨[], []⟩) (CR (L2.CX P w) outer P w H s Q E) s
section
variable {P : Program} {w : World} {K : PySem.W.Frag} {mg : Str → Option Value} {base : Heap} {F : NF} {f : Addr} {b : Expr} {k : Nat} {N fr : List Str} {tl : List (Option V) → Hp → VK → XK → Prop}
theorem lokC_of (S : NScope N [] fr F.scope) (hb : ∀ pm cv ctv : Value, bindArgs (PySem.W.kla_fn F.name F.qual F.params b F.scope F.cl pm cv ctv) ⟨[], []⟩ = pure [])
    (hbody : ∀ (A : Around) (outer : List Env) (s : Shared) (H : Hp) (ws : List (Option V)) (Q : VK) (E : XK), Room k (A.deeper (envF F f s.heap.objs.size)) → tl ws H Q E → ∃ t : TE, PE (ncx (L2.CX P w) P w K mg base N F f A outer s H E) b t ∧ t (startF N [] ws) H Q) :
    LOkC P w K mg base (k + 1) f F b fr tl := by
  refine ⟨fun A outer s H ws Q E hr e0 hf hc C h => ?_⟩
  have lim : s.heap.NoLimit := e0.mod.nolimit.keeps fun b o e => (e0.bs b o e).1
  obtain ⟨pm, ctv, ho⟩ := lamO_at e0.hok hf
  refine PySem.W.kla_callFunE hr.depth ho rfl S.co S.gen rfl (codeO_at e0.hok hc) ?_
  rw [hb]
  refine wpAny_pure (wpAny_newFunctionEnv S.nocell (fun y hy => absurd hy (by simp)) (fun h₁ hns hsb => ⟨lim.fresh _ hsb, ?_⟩) S.kind)
  show codeAny _ _ (.expr b (envF F f s.heap.objs.size)) _ _
  have kp : ∀ b o, s.heap.get? b = some o → h₁.get? b = some o := fun b o e => hsb.extBut b o (Nat.ne_of_lt (Heap.lt_size e)) (Heap.get?_push_of_some _ e)
  obtain ⟨t, ht, hq⟩ := hbody A outer s H ws Q E (hr.deeper _) h
  have I : Inv (ncx (L2.CX P w) P w K mg base N F f A outer s H E) [] (startF N [] ws) H { s with heap := h₁, toks := s.toks + ([] : List (Str × Value)).length } :=
    inv_startN (N := N) (ps := []) (fr := fr) (vs := []) (us := []) (ws := ws) S hr.hd e0 rfl .nil C hns kp
  refine PySem.W.kla_codeExpr (wpAny_mono (ht.run [] _ _ H Q I hq) (fun v s' hq => ?_) fun e s' hq => hq)
  obtain ⟨w', H', J', rv, q⟩ := hq
  exact ⟨w', H', J'.os, J'.bare, J'.base, J'.hok, rv, q⟩
end
theorem pe_lamcC {X : Cx} {W : WX} {i k : Nat} {x : Str} {p pos : Pos} {f : Addr} {F : NF} {b : Expr} {fr : List Str} {ws : List (Option V)} {tl : List (Option V) → Hp → VK → XK → Prop} (tk : Takes X W) (hr : Room k X.A) (hN : X.N[i]? = some x) (hv : Vis X.env.scope x)
    (C : CellsAt F.cl fr ws X.s_0.heap X.H_0) (nf : ∀ y c, F.cl.lookup y = some c → c ∉ X.fs) (hx : ∀ y c, F.cl.lookup y = some c → c ∉ X.ex) (L : LOkC X.prog X.w X.K X.mg X.base k f F b fr tl)
    (hd : (x == ("__debug__" : Str)) = false := by decide) (hcd : (x == ("__classdict__" : Str)) = false := by decide) :
    PE X (.Call (.Name x p) [] [] pos) (fun σ H Q => σ[i]? = some (some (.ref f)) ∧ H f = some (LamO f F b) ∧ H F.c = some (CodeO F.c F.qual) ∧ ∃ E : XK, (∀ cls d σ' H', E cls d H' → W cls d σ' H') ∧ tl ws H Q E) := by
  refine ⟨fun pins s σ H Q I h => ?_⟩
  obtain ⟨hs, hf, hc, E, hW, ht⟩ := h
  refine wpAny_Call_Name_kw (thn ((pe_var (pos := p) hN hv hd hcd).run pins s σ H (fun v H1 => v = .ref f ∧ H1 = H) I ⟨.ref f, hs, rfl, rfl⟩) fun u s1 ⟨v, H1, I1, r1, q1⟩ => ?_)
  obtain ⟨ev, eH⟩ := q1
  subst ev
  rw [eH] at I1
  obtain rfl : u = Value.ref f := r1
  obtain ⟨pm, ctv, ho⟩ := lamO_at I1.hok hf
  refine PySem.W.callWith_F0 (first := []) ⟨_, _, _, _, ho⟩ ?_
  show wpAny _ _ (call (.ref f) []) _ _ _
  refine wpAny_call (codeAny_mono (L.run X.A X.stack s1 H ws Q E hr I1.env0 hf hc (C.later nf hx I1) ht) fun r s' hq => ?_)
  cases r with
  | error e => exact passes_call tk hW pins σ H s1 e s' I1 hq
  | ok fl =>
    cases fl with
    | ret u => exact I1.after hq
    | next => exact False.elim hq
    | brk => exact False.elim hq
    | cont => exact False.elim hq
/-- told(y), y a name that holds a lambda -/
def tToldC (K : PySem.W.Frag) (P : Program) (w : World) (mg : Str → Option Value) (base : Heap) (k i : Nat) (cl : List (Str × Addr)) (fr : List Str) (ws : List (Option V)) (CS : Addr) (ret : Str) : TE := fun σ H Q => ∃ (f : Addr) (F : NF) (b : Expr) (tl : List (Option V) → Hp → VK → XK → Prop),
  σ[i]? = some (some (.ref f)) ∧ H f = some (LamO f F b) ∧ H F.c = some (CodeO F.c F.qual) ∧ F.cl = cl ∧ LOkC P w K mg base k f F b fr tl ∧ tl ws H Q (fun cls _ H' => ∃ b, PySem.W.exmOne K cls (.ref CS) = some b ∧ (b = true → Q (.str ret) H') ∧ (b = false → False))
theorem pe_toldC {X : Cx} {i k j : Nat} {x y a e ret : Str} {g CS : Addr} {st : Stmt} {fd : FuncData} {N : List Str} {p py pos p1 p2 p3 p4 p5 p6 p7 p8 : Pos} {cl : List (Str × Addr)} {fr : List Str} {ws : List (Option V)} (Fn : Fun X.K x x st g fd) (S : FnScope N [a] (defScope st))
    (hbd : defBody st = [.Try [.Return (some (.Call (.Name a p1) [] [] p2)) p3] [.ExceptHandler (some (.Name e p4)) none [.Return (some (.Constant (.str ret) j p5)) p6] p7] [] [] p8]) (hbi : Binds X.K fd [a] []) (hm : X.mg x = some (.ref g)) (hge : (defScope st).names.lookup e = some .globalImplicit) (hme : X.mg e = some (.ref CS))
    (hN : N[0]? = some a) (hv : Vis (defScope st) a) (h0 : ∀ f : Addr, (L2.start N [V.ref f])[0]? = some (some (V.ref f)))
    (hr : Room (k + 1) X.A) (hg : Gl X x) (hy : X.N[i]? = some y) (hvy : Vis X.env.scope y)
    (C : CellsAt cl fr ws X.s_0.heap X.H_0) (nf : ∀ y c, cl.lookup y = some c → c ∉ X.fs) (hx : ∀ y c, cl.lookup y = some c → c ∉ X.ex) (nf2 : ∀ y c, cl.lookup y = some c → c ∉ frs X.stack)
    (hdb : (x == ("__debug__" : Str)) = false := by decide) (hdy : (y == ("__debug__" : Str)) = false := by decide) (hcy : (y == ("__classdict__" : Str)) = false := by decide) (hde : (e == ("__debug__" : Str)) = false := by decide) (hd : (a == ("__debug__" : Str)) = false := by decide) (hcd : (a == ("__classdict__" : Str)) = false := by decide) :
    PE X (.Call (.Name x p) [.Name y py] [] pos) (tToldC X.K X.prog X.w X.mg X.base k i cl fr ws CS ret) := by
  refine ⟨fun pins s σ H Q I h => ?_⟩
  obtain ⟨f, F, b, tl, hs, hf, hc, rfl, L, ht⟩ := h
  refine wpAny_Call_Name_kw (ld_glob I hg hm ?_ hdb)
  refine PySem.W.callWith_K (h₀ := X.base) I.ok.mod.kin Fn.kp (thn ((pa_cons (pe_var (pos := py) hy hvy hdy hcy) pa_nil).run pos pins s σ H (fun vs H1 => vs = [.ref f] ∧ H1 = H) I ⟨.ref f, hs, rfl, rfl⟩) fun us s1 ⟨vs, H1, I1, r, q⟩ => ⟨I1.kIn, ?_⟩) (by rfl) (by rfl)
  obtain ⟨ev, eH⟩ := q
  subst ev
  rw [eH] at I1
  obtain ⟨u, rfl, ru⟩ := r.one
  obtain rfl : u = Value.ref f := ru
  obtain ⟨oc, od, kV, doc, pm, an, cdv, ct, osl, rfl, lk, hcd2⟩ := Fn.ex
  have C1 : CellsAt F.cl fr ws s1.heap H := C.later nf hx I1
  have rc : codeAny (model X.prog X.w) X.A (.call (.ref g) ⟨[.ref f], []⟩) (CR C8.CX0 X.stack X.prog X.w H s1 Q C8.E0) s1 := by
    refine run_ofS (N := N) (ps := [a]) (us := [.ref f]) (vs := [.ref f]) lk hcd2 S hr I1.env0 (hbi s1 [.ref f] I1.kIn rfl) (.cons rfl .nil) rfl fun hr' => ?_
    have hgl : Gl (cxOf C8.CX0 X.prog X.w X.K X.mg X.base N x (defScope st) g cdv X.A X.stack s1 H C8.E0).nox e := hge
    rw [hbd]
    have hps : PSs (cxOf C8.CX0 X.prog X.w X.K X.mg X.base N x (defScope st) g cdv X.A X.stack s1 H C8.E0).nox [.Try [.Return (some (.Call (.Name a p1) [] [] p2)) p3] [.ExceptHandler (some (.Name e p4)) none [.Return (some (.Constant (.str ret) j p5)) p6] p7] [] [] p8] _ :=
      pss_one (ps_try_only (c := .ref CS) (tb := fun W D σ H => σ[0]? = some (some (.ref f)) ∧ H f = some (LamO f F b) ∧ H F.c = some (CodeO F.c F.qual) ∧ ∃ E : XK, (∀ cls d σ' H', E cls d H' → W cls d σ' H') ∧ tl ws H D.rt E) rfl rfl ⟨hgl, hde, .inl hme⟩ L2.takes0
        (fun W pn xe tk _ => pss_one (ps_ret (pe_lamcC tk hr' hN hv C1 nf2 (fun _ _ _ z => nomatch z) L hd hcd))) (fun a oe cls d pn _ _ => pss_one (ps_ret pe_str)))
    refine ⟨_, hps.nox, h0 f, hf, hc, _, fun cls d σ' H' q => ?_, ht⟩
    obtain ⟨b, e1, e2, e3⟩ := q
    exact ⟨b, e1, fun hb a _ => e2 hb, fun hb => e3 hb⟩
  refine wpAny_call (codeAny_mono rc fun r s2 hq => ?_)
  cases r with
  | error e => exact (show False from hq).elim
  | ok fl =>
    cases fl with
    | ret u => exact I1.after hq
    | next => exact False.elim hq
    | brk => exact False.elim hq
    | cont => exact False.elim hq
end Sd


/-! [e for f in xs if t], t false each time and fit to call what captures names of the running frame -/
namespace Sd
open PySem PySem.Spec PyProof.Rows L2 LamX NdefX
theorem cell_nofrs {X : Cx} {pins : List (Addr × Obj)} {σ : L2.St} {H : Hp} {s : Shared} (I : Inv X pins σ H s) (hfn : ∀ x, X.fn x = true) : ∀ x c, X.env.cells.lookup x = some c → c ∉ frs X.stack := fun x c e hb => by
  rcases List.mem_cons.mp (I.stkSub c hb) with z | z
  · exact I.cne x c e z
  · obtain ⟨_, o, ho, _⟩ := I.ok.funs.mem z
    exact absurd (Nat.lt_of_lt_of_le (Heap.lt_size ho) (I.ok.cab x c (hfn x) e)) (Nat.lt_irrefl _)
/-- what the block's start tells of the captured cells -/
def GdC (X : Cx) (cl : List (Str × Addr)) (fr : List Str) (ws : List (Option V)) (s : Shared) (H : Hp) (fp : List Addr) : Prop := CellsAt cl fr ws s.heap H ∧ ∀ y c, cl.lookup y = some c → c ∉ frs X.stack ∧ c ∉ fp
theorem pe_lcF {X : Cx} {elt tg iter : Expr} {ifs : List Expr} {scope : Scope} {own : List (Str × Nat)} {pos : Pos} {wi : TI} {g : TG} {tt : TT} {fr : List Str} {js : List Nat} {ws : List (Option V)} {lsc : Scope} (hfn : ∀ x, X.fn x = true) (hc : X.calm = true) (hN : X.N.Nodup) (hi : PI X tg iter wi) (ok : BlkOk X.N X.env.scope scope own)
    (caps : ∀ pins σ H s, Inv X pins σ H s → Caps X (cloFrom X.env.cells lsc.names []) fr js)
    (hg : ∀ (s : Shared) (H : Hp) (C : Addr) (cl : List (Str × Addr)) (fp : List Addr), PG (X.blk s H scope (compEnvC scope cl C X.env) fp) tg g)
    (ht : ∀ (s : Shared) (H : Hp) (C : Addr) (cl : List (Str × Addr)) (fp : List Addr), GdC X (cloFrom X.env.cells lsc.names []) fr ws s H fp → PTs (X.blk s H scope (compEnvC scope cl C X.env) fp) ifs tt)
    (hs : ∀ x, foldedSetIterable iter X.env x = pure x := by intro _; rfl) :
    PE X (.ListComp elt [⟨tg, iter, ifs, 0⟩] scope pos) (fun σ H Q => js.map (slotAt σ) = ws ∧ tLc wi g tt (fun _ _ _ => False) (own.map (·.2)) σ H Q) := by
  refine ⟨fun pins s σ H Q I h => ?_⟩
  obtain ⟨hws, h⟩ := h
  rw [eval_ListComp]
  refine wpAny_comprehension_free (use := none) rfl hs (closure_ok fun y hy e => ?_) ok.kind (fun y hy e => by rw [ok.uniq y hy, e]) (thn (hi.run pins s σ H _ I h) fun xv s1 hx => thn hx fun itv s2 h2 => ?_)
  · rcases ok.free y hy e with k | k
    · exact I.ok.has _ (.inl k)
    · exact I.ok.has _ (.inr k)
  obtain ⟨it, fp, tn, J, H2, e, I2, T, st2, f2, q⟩ := h2
  subst e
  refine wpAny_newObj_type (newEnv_comp ?_) (by show 0 ≤ sizeLine; decide)
  have hD2 : H2 s2.heap.objs.size = none := I2.hok.fresh (Nat.le_refl _)
  obtain ⟨W, ⟨m0, w0⟩, turn⟩ := q _ hD2
  generalize hs3 : ({ s2 with heap := s2.heap.push { cls := .type "list", data := .seq ([] : List Value).toArray } } : Shared) = s3
  have h3 : s3.heap = s2.heap.push { cls := .type "list", data := .seq ([] : List Value).toArray } := by rw [← hs3]
  have I3 : Inv X pins σ (upd H2 s2.heap.objs.size (.lst [])) s3 := by
    rw [← hs3]
    exact I2.laid (t' := s2.toks) (fun b o e => Heap.get?_push_of_some _ e) (Nat.le_refl _) ⟨Nat.zero_le _, [], 0, .nil, Heap.get?_push_size _ rfl⟩
  generalize hDD : s2.heap.objs.size = D at I3 w0 turn hD2 ⊢
  have fOk : ∀ b ∈ fp, FpOk X pins (upd H2 D (.lst [])) b ∧ b < s3.heap.objs.size := fun b hb => by
    obtain ⟨o, e, _⟩ := T.obj _ _ st2 b hb
    have hlt := Heap.lt_size e
    refine ⟨⟨?_, (f2 b hb).2⟩, by rw [h3, Heap.size_push]; exact Nat.lt_succ_of_lt hlt⟩
    rw [upd_ne (by rw [← hDD]; exact Nat.ne_of_lt hlt)]
    exact (f2 b hb).1
  have gd : GdC X (cloFrom X.env.cells lsc.names []) fr ws s3 (upd H2 D (.lst [])) fp := by
    refine ⟨hws ▸ cells_of I3 (caps _ _ _ _ I3), fun y c e => ⟨cell_nofrs I3 hfn y c ((caps _ _ _ _ I3).sub y c e), fun hb => ?_⟩⟩
    exact (fOk c hb).1.2.2.2.2.1 y c ((caps _ _ _ _ I3).sub y c e) rfl
  have I4 := block_start I3 ok hN fOk
  have pg := hg s3 (upd H2 D (.lst [])) s3.heap.objs.size (cellsFrom (s3.heap.objs.size + 1) scope.names (cloFrom X.env.cells scope.names [])) fp
  have pt := ht s3 (upd H2 D (.lst [])) s3.heap.objs.size (cellsFrom (s3.heap.objs.size + 1) scope.names (cloFrom X.env.cells scope.names [])) fp gd
  have t3 : tn 0 s3.heap := T.keep _ _ _ st2 fun b _ o e => by rw [h3]; exact Heap.get?_push_of_some _ e
  have n3 : ∀ b ∈ fp, (upd H2 D (.lst [])) b = none := fun b hb => (fOk b hb).1.1
  generalize hBX : X.blk s3 (upd H2 D (.lst [])) scope (compEnvC scope (cellsFrom (s3.heap.objs.size + 1) scope.names (cloFrom X.env.cells scope.names [])) s3.heap.objs.size X.env) fp = BX at I4 pg pt
  have bP : BX.prog = X.prog ∧ BX.w = X.w ∧ BX.K = X.K ∧ BX.calm = X.calm ∧ BX.A = X.A ∧ BX.ex = fp ∧ BX.pn = [] ∧ BX.env.locals = s3.heap.objs.size := by rw [← hBX]; exact ⟨rfl, rfl, rfl, rfl, rfl, rfl, rfl, rfl⟩
  have fpB : ∀ {σ' : L2.St} {H' : Hp} {s' : Shared}, Inv BX [] σ' H' s' → (∀ b ∈ fp, H' b = none) → ∀ b ∈ fp, FpOk BX [] H' b := fun {σ' H' s'} I' hn b hb => by
    have hbx : b ∈ BX.ex := by rw [bP.2.2.2.2.2.1]; exact hb
    exact ⟨hn b hb, (I'.ok.exf b hbx).1, I'.ok.exfs b hbx, .inl hbx, fun x c e => (I'.ok.exf b hbx).2 x c e, fun p hp => by rw [bP.2.2.2.2.2.2.1] at hp; cases hp⟩
  generalize hs4 : ({ s3 with heap := pushCells (s3.heap.push { cls := .type "dict", data := .dict #[] }) scope.names } : Shared) = s4 at I4
  have t4 : tn 0 s4.heap := T.keep _ _ _ t3 fun b _ o e => by rw [← hs4]; exact pushCells_keeps _ _ _ _ (Heap.get?_push_of_some _ e)
  show codeAny _ _ (.compStart (.ListComp elt [⟨tg, iter, ifs, 0⟩] scope pos) 0 (.ref it) (.ref D) (compEnvC scope (cellsFrom (s3.heap.objs.size + 1) scope.names (cloFrom X.env.cells scope.names [])) s3.heap.objs.size X.env)) (compPost (model X.prog X.w) X.A X.xe none (EP X pins σ Q) (.ref D) s3.heap.objs.size) s4
  have loop : codeAny (model X.prog X.w) X.A (.compLoop (.ListComp elt [⟨tg, iter, ifs, 0⟩] scope pos) 0 (.ref it) (.ref D) (compEnvC scope (cellsFrom (s3.heap.objs.size + 1) scope.names (cloFrom X.env.cells scope.names [])) s3.heap.objs.size X.env)) (compPost (model X.prog X.w) X.A X.xe none (EP X pins σ Q) (.ref D) s3.heap.objs.size) s4 := by
    refine compLoop_any (fun n s' => ∃ i H', Inv BX [] (wipe σ (own.map (·.2))) H' s' ∧ tn i s'.heap ∧ (∀ b ∈ fp, H' b = none) ∧ W i n H') ?_ m0 ⟨0, _, I4, t4, n3, w0⟩
    rintro n s5 ⟨i, H5, I5, t5, n5, w5⟩
    rcases turn i n H5 w5 with ⟨stop, qq⟩ | ⟨go, Nx, hNx, step⟩
    · have td := T.done BX bP.1 bP.2.1 bP.2.2.1 (bP.2.2.2.1.trans hc) i [] s5 _ H5 (fun _ _ => False) I5 (fpB I5 n5) t5 stop
      rw [bP.2.2.2.2.1] at td
      refine thnF td fun r s6 ⟨hr, I6⟩ => ?_
      subst hr
      subst hBX
      have I7 : Inv X pins σ H5 s6 := I3.call' (ch := fp) I6.os I6.base I6.hok I6.bare fun b hb => ⟨(fOk b hb).1.2.2.2.1, (fOk b hb).1.2.1, (fOk b hb).1.2.2.2.2.1, (fOk b hb).1.2.2.2.2.2⟩
      obtain ⟨m, hn, _⟩ := I6.loc
      have nC : H5 s3.heap.objs.size = none := I6.free
      obtain ⟨f0, f1, f2', f3, f4, f5⟩ := I3.fpOk (H' := H5) (Nat.le_refl _) nC
      exact ⟨m, hn, fun h'' sb => ⟨.ref D, H5, I7.turned (t' := s6.toks) (fun b o hb e => (sb.2 b hb).trans e) f0 f1 f3 f4 f5, rfl, qq⟩⟩
    · have ti := T.item BX bP.1 bP.2.1 bP.2.2.1 (bP.2.2.2.1.trans hc) i [] s5 _ H5 (fun _ _ => False) I5 (fpB I5 n5) t5 go
      rw [bP.2.2.2.2.1] at ti
      refine thnF ti fun r s6 ⟨u, hr, h6⟩ => ?_
      subst hr
      refine thnF h6 fun _ s7 ⟨x, H7, I7, r7, y7, t7, n7⟩ => ?_
      have I7' := I7.pinned (fpB I7 n7) (T.obj _ _ t7)
      subst hBX
      refine thnF (pg.run _ s7 _ H7 x u _ I7' r7 (step x H7 y7)) fun _ s8 ⟨σ8, H8, I8, hw8, q8⟩ => ?_
      refine thnF (pt.run _ s8 σ8 H8 _ I8 q8) fun b s9 ⟨H9, I9, q9⟩ => ?_
      cases b with
      | true => exact False.elim q9
      | false =>
        obtain ⟨m', hm, w'⟩ := hNx H9 q9
        have pin' : ∀ b ∈ fp, ∀ o, s7.heap.get? b = some o → s9.heap.get? b = some o ∧ H9 b = none := fun b hb o e =>
          let z := I9.pin (b, o) (List.mem_append_right _ (List.mem_append_right _ (mem_pinsAt hb e)))
          ⟨z.1, z.2.1⟩
        refine ⟨m', hm, i + 1, H9, (I9.unpinned (pins := [])).weak (by rw [← hw8, wipe_length]) (fun j v e => ?_), T.keep _ _ _ t7 fun b hb o e => (pin' b hb o e).1, fun b hb => ?_, w'⟩
        · rw [← hw8] at e
          exact (wipe_some e).1
        · obtain ⟨o, e, _⟩ := T.obj _ _ t7 b hb
          exact (pin' b hb o e).2
  exact codeAny_compStart_list loop (T.self X.A 0 _ _ _ t4 loop)
theorem pe_lcE {X : Cx} {elt tg iter : Expr} {ifs : List Expr} {scope : Scope} {own : List (Str × Nat)} {pos : Pos} {wi : TI} {g : TG} {tt : List (Option V) → TT} {fr : List Str} {js : List Nat} {lsc : Scope} (hfn : ∀ x, X.fn x = true) (hc : X.calm = true) (hN : X.N.Nodup) (hi : PI X tg iter wi) (ok : BlkOk X.N X.env.scope scope own)
    (caps : ∀ pins σ H s, Inv X pins σ H s → Caps X (cloFrom X.env.cells lsc.names []) fr js)
    (hg : ∀ (s : Shared) (H : Hp) (C : Addr) (cl : List (Str × Addr)) (fp : List Addr), PG (X.blk s H scope (compEnvC scope cl C X.env) fp) tg g)
    (ht : ∀ (ws : List (Option V)) (s : Shared) (H : Hp) (C : Addr) (cl : List (Str × Addr)) (fp : List Addr), GdC X (cloFrom X.env.cells lsc.names []) fr ws s H fp → PTs (X.blk s H scope (compEnvC scope cl C X.env) fp) ifs (tt ws))
    (hs : ∀ x, foldedSetIterable iter X.env x = pure x := by intro _; rfl) :
    PE X (.ListComp elt [⟨tg, iter, ifs, 0⟩] scope pos) (fun σ H Q => tLc wi g (tt (js.map (slotAt σ))) (fun _ _ _ => False) (own.map (·.2)) σ H Q) :=
  ⟨fun pins s σ H Q I h => (pe_lcF hfn hc hN hi ok caps hg (ht (js.map (slotAt σ))) hs).run pins s σ H Q I ⟨rfl, h⟩⟩
theorem pe_toldB {X : Cx} {s : Shared} {H : Hp} {scope : Scope} {cenv : Env} {fp : List Addr} {i k j : Nat} {x y a e ret : Str} {g CS : Addr} {st : Stmt} {fd : FuncData} {N : List Str} {p py pos p1 p2 p3 p4 p5 p6 p7 p8 : Pos} {cl : List (Str × Addr)} {fr : List Str} {ws : List (Option V)} (Fn : Fun X.K x x st g fd) (S : FnScope N [a] (defScope st))
    (hbd : defBody st = [.Try [.Return (some (.Call (.Name a p1) [] [] p2)) p3] [.ExceptHandler (some (.Name e p4)) none [.Return (some (.Constant (.str ret) j p5)) p6] p7] [] [] p8]) (hbi : Binds X.K fd [a] []) (hm : X.mg x = some (.ref g)) (hge : (defScope st).names.lookup e = some .globalImplicit) (hme : X.mg e = some (.ref CS))
    (hN : N[0]? = some a) (hv : Vis (defScope st) a) (h0 : ∀ f : Addr, (L2.start N [V.ref f])[0]? = some (some (V.ref f)))
    (hr : Room (k + 1) X.A) (gd : GdC X cl fr ws s H fp) (hg : cenv.scope.names.lookup x = some .globalImplicit) (hy : X.N[i]? = some y) (hvy : Vis cenv.scope y)
    (hdb : (x == ("__debug__" : Str)) = false := by decide) (hdy : (y == ("__debug__" : Str)) = false := by decide) (hcy : (y == ("__classdict__" : Str)) = false := by decide) (hde : (e == ("__debug__" : Str)) = false := by decide) (hd : (a == ("__debug__" : Str)) = false := by decide) (hcd : (a == ("__classdict__" : Str)) = false := by decide) :
    PE (X.blk s H scope cenv fp) (.Call (.Name x p) [.Name y py] [] pos) (tToldC X.K X.prog X.w X.mg X.base k i cl fr ws CS ret) :=
  pe_toldC (X := X.blk s H scope cenv fp) Fn S hbd hbi hm hge hme hN hv h0 hr hg hy hvy gd.1 (fun y c e => (gd.2 y c e).1) (fun y c e => (gd.2 y c e).2) (fun y c e => (gd.2 y c e).1) hdb hdy hcy hde hd hcd
/-- lambda: body; names captured: those of the running frame's cells -/
def tLamVC (P : Addr) (q : Str) (params : Arguments) (body : Expr) (scope : Scope) (cl : List (Str × Addr)) : TE := fun _ H Q => TabS H P q ∧ ∀ (f c' : Addr) (H1 : Hp), ExtN H H1 → TabS H1 P q → H f = none → H1 f = some (LamO f ⟨"<lambda>", q, params, [], scope, cl, c'⟩ body) → H1 c' = some (CodeO c' q) → Q (.ref f) H1
theorem pe_lamvC {X : Cx} {q : Str} {c P : Addr} {params : Arguments} {body : Expr} {scope : Scope} {pos : Pos} (TB : TabB X.base X.mg c P) (hcode : X.env.code = .ref c) (hq : X.env.qual ++ "<lambda>" = q) (hdef : defaultsOf params X.env = ([], []))
    (hfree : ∀ y ∈ scope.names, y.2 = .free → X.env.scope.names.lookup y.1 = some .cell) : PE X (.Lambda params body scope pos) (tLamVC P q params body scope (cloFrom X.env.cells scope.names [])) := by
  refine ⟨fun pins s σ H Q I h => ?_⟩
  obtain ⟨hT, h⟩ := h
  refine lam_value I TB hcode hq hT hdef (fun y hy e => I.ok.has _ (.inl (hfree y hy e))) fun f c' H1 s' I1 eN T1 f0 f1 c1 => ?_
  exact ⟨.ref f, H1, I1, rfl, h f c' H1 eN T1 f0 f1 c1⟩
theorem led_ext {H H1 : Hp} {L : Lg} (hL : Led H L) (hn : ∀ x ∈ L, ∀ ps, x.2 ≠ .tbl ps) (e : ExtN H H1) : Led H1 L := ⟨fun x hx => e _ _ (hL.1 x hx) fun ps z => hn x hx ps z, hL.2⟩
theorem led_moreX {H : Hp} : ∀ (as : List Addr) (R : Lg), Led H R → ∃ Z : Lg, Led H (Z ++ R) ∧ ∀ a ∈ as, ∀ o, H a = some o → ∀ H', Led H' (Z ++ R) → H' a = some o
  | [], R, h => ⟨[], h, fun _ h => nomatch h⟩
  | a :: as, R, h => by
    obtain ⟨Z, h1, k1⟩ := led_moreX as R h
    by_cases e : ∃ o, (a, o) ∈ Z ++ R
    · obtain ⟨o, ho⟩ := e
      refine ⟨Z, h1, fun b hb o' hb' H' h' => ?_⟩
      rcases List.mem_cons.mp hb with rfl | hb
      · have := h1.mem ho
        rw [hb'] at this
        cases this
        exact h'.mem ho
      · exact k1 b hb o' hb' H' h'
    · rcases ha : H a with _ | o
      · refine ⟨Z, h1, fun b hb o' hb' H' h' => ?_⟩
        rcases List.mem_cons.mp hb with rfl | hb
        · rw [ha] at hb'; cases hb'
        · exact k1 b hb o' hb' H' h'
      · refine ⟨(a, o) :: Z, ⟨fun x hx => ?_, ?_⟩, fun b hb o' hb' H' h' => ?_⟩
        · rcases List.mem_cons.mp hx with rfl | hx
          · exact ha
          · exact h1.1 x hx
        · rw [List.cons_append, List.map_cons]
          refine List.nodup_cons.mpr ⟨fun hm => ?_, h1.2⟩
          obtain ⟨x, hx, ex⟩ := List.mem_map.mp hm
          exact e ⟨x.2, by
            have ex : x.1 = a := ex
            rw [← ex]; exact hx⟩
        · rcases List.mem_cons.mp hb with rfl | hb
          · rw [ha] at hb'; cases hb'
            exact h'.mem (.head _)
          · exact k1 b hb o' hb' H' h'.tail
end Sd


/-! the head's facts for the end of a law -/
namespace Sd
open PySem PySem.Spec PyProof.Rows L2
theorem fun_ofD {K : PySem.W.Frag} {x qual : Str} {st : Stmt} {f : Addr} {fd : FuncData} (F : FunD K x qual (defArgs st) (defBody st) (defScope st) [] [] f fd) : Fun K x qual st f fd := by
  obtain ⟨oc, od, dV, kV, doc, pm, an, cdv, ct, osl, e, lk, hcd, hD, hK⟩ := F.ex
  rcases hD with ⟨_, rfl⟩ | ⟨ne, _⟩
  · exact ⟨⟨oc, od, kV, doc, pm, an, cdv, ct, osl, e, lk, hcd⟩, F.kp⟩
  · exact absurd rfl ne
/-- a def whose own code is told -/
theorem fun_code {K : PySem.W.Frag} {x qual : Str} {st : Stmt} {p : He.Defn} {fd : FuncData} (F : Fun K x qual st (He.fAd K p) fd) :
    ∃ (oc : Value) (od : Option Addr) (kV doc pm : Value) (an : Option Addr) (ct : Value) (osl : Array (Option Value)),
      fd = PySem.W.fnOf x qual (defArgs st) (defBody st) (defScope st) .none kV doc pm an (.ref (He.cT K p).1) ct ∧ K.lookup (He.fAd K p) = some ⟨oc, od, .func fd, osl⟩ ∧ PySem.W.codeIn K (.ref (He.cT K p).1) qual = true := by
  obtain ⟨oc, od, kV, doc, pm, an, cdv, ct, osl, rfl, lk, hcd⟩ := F.ex
  obtain ⟨c, rfl⟩ := He.codeIn_ref hcd
  have e : (He.cT K p).1 = c := He.codeOf_eq lk rfl
  rw [e]
  exact ⟨oc, od, kV, doc, pm, an, ct, osl, rfl, lk, hcd⟩
theorem fun_codeD {K : PySem.W.Frag} {x qual : Str} {params : Arguments} {body : List Stmt} {scope : Scope} {dvs : List V} {p : He.Defn} {fd : FuncData} (F : FunD K x qual params body scope dvs [] (He.fAd K p) fd) :
    ∃ (oc : Value) (od : Option Addr) (dV kV doc pm : Value) (an : Option Addr) (ct : Value) (osl : Array (Option Value)),
      fd = PySem.W.fnOf x qual params body scope dV kV doc pm an (.ref (He.cT K p).1) ct ∧ K.lookup (He.fAd K p) = some ⟨oc, od, .func fd, osl⟩ ∧ PySem.W.codeIn K (.ref (He.cT K p).1) qual = true := by
  obtain ⟨oc, od, dV, kV, doc, pm, an, cdv, ct, osl, rfl, lk, hcd, hD, hK⟩ := F.ex
  obtain ⟨c, rfl⟩ := He.codeIn_ref hcd
  have e : (He.cT K p).1 = c := He.codeOf_eq lk rfl
  rw [e]
  exact ⟨oc, od, dV, kV, doc, pm, an, ct, osl, rfl, lk, hcd⟩
theorem led3 {H : Hp} {a b c : Addr} {o u v : HO} (h1 : H a = some o) (h2 : H b = some u) (h3 : H c = some v) (n1 : a ≠ b) (n2 : a ≠ c) (n3 : b ≠ c) : Led H [(a, o), (b, u), (c, v)] :=
  ⟨fun x hx => by
    simp only [List.mem_cons, List.not_mem_nil, or_false] at hx
    rcases hx with rfl | rfl | rfl
    · exact h1
    · exact h2
    · exact h3, by simp [n1, n2, n3]⟩
theorem exc_T {K : PySem.W.Frag} {h : Heap} {mg : Str → Option Value} {x : Str} (X : K.In h) (G : h.Ns mainGlobals mg) (c1 : (He.Fa.glo x).ok K = true) (c2 : (He.Fa.exc x).ok K = true) (c3 : PySem.W.isClsIn K (He.ga K x) = true) (c4 : PySem.W.subIn K (.ref (He.ga K x)) (.ref (He.ga K x)) = some true) : ExcT K mg x (He.ga K x) := by
  obtain ⟨e1, e2, e3, e4⟩ := He.exc_ok c2
  exact ⟨He.glo_ok X G c1, e1, e2, e3, e4, c3, c4⟩
end Sd


/-! == and != of data that are equal: lists, tuples and dicts, nested -/
namespace PySem.SeqAt
open AutoSeq1 (wpAny_loadPart')
open MeetsSeq MeetsSeq2 MeetsSeq3 SeqRoads2
theorem sd_tuple_neIn {prog : Program} {w : World} (l b : Addr) (items items2 : Array Value) (n n2 : Nat) (dd dd2 : Option Addr) (sl sl2 : Array (Option Value)) (e : Nat → Bool) :
    MeetsIn prog w (Builtin.«tuple.__ne__» ⟨[.ref l, .ref b], []⟩)
      (fun A R s => s.heap.get? l = some { cls := .type "tuple", dict := dd, data := .seq items n, slots := sl } ∧ s.heap.get? b = some { cls := .type "tuple", dict := dd2, data := .seq items2 n2, slots := sl2 } ∧
        (∀ j (h1 : j < items.size) (h2 : j < items2.size), EqIn prog w A.in1 s items[j] items2[j] (e j)) ∧
        R (.ok (.ret (.bool (!((List.range (min items.size items2.size)).all e && items.size == items2.size))))) s) :=
  .of_wp fun A R s h => by
    obtain ⟨hp, g, d, tk, os⟩ := s; obtain ⟨hl, hb, he, h⟩ := h
    have f2 := AutoSeq1.sub_tuple_tuple
    have hZ : (items.toList.zip items2.toList).length = min items.size items2.size := by simp
    wp_walk using wpAny_loadPart' hl, wpAny_loadPart' hb, wpAny_forIn_list _ (fun rest b s' => b.1 = none ∧ s' = ⟨hp, g, d, tk, os⟩ ∧ ∃ i, rest = (items.toList.zip items2.toList).drop i ∧
      R (.ok (.ret (.bool (!(((List.range (min items.size items2.size)).drop i).all e && items.size == items2.size))))) ⟨hp, g, d, tk, os⟩) _
    case turn =>
      rintro ⟨y, x⟩ rest b s' ⟨hb', rfl, i, hz, hR⟩
      have hlt : i < (items.toList.zip items2.toList).length := by
        rcases Nat.lt_or_ge i (items.toList.zip items2.toList).length with h' | h'
        · exact h'
        · rw [List.drop_of_length_le h'] at hz; cases hz
      have hm : i < min items.size items2.size := hZ ▸ hlt
      have h1 : i < items.size := Nat.lt_of_lt_of_le hm (Nat.min_le_left _ _)
      have h2 : i < items2.size := Nat.lt_of_lt_of_le hm (Nat.min_le_right _ _)
      rw [List.drop_eq_getElem_cons hlt] at hz
      injection hz with hyx hrest
      have hy : y = items[i] := by have := congrArg Prod.fst hyx; simpa using this
      have hx : x = items2[i] := by have := congrArg Prod.snd hyx; simpa using this
      subst hy hx
      have hd : (List.range (min items.size items2.size)).drop i = i :: (List.range (min items.size items2.size)).drop (i + 1) := by simp [List.drop_eq_getElem_cons, hm]
      rw [hd, List.all_cons] at hR
      refine wpAny_bind (he i h1 h2 _ _ ?_)
      cases hy : e i with
      | true =>
        rw [hy] at hR
        wp_walk
        exact ⟨rfl, rfl, i + 1, hrest, by simpa using hR⟩
      | false =>
        rw [hy] at hR
        wp_walk
        exact ⟨_, rfl, by simpa using hR⟩
    case fin =>
      rintro ⟨b1, b2⟩ s' ⟨hb', rfl, i, hz, hR⟩
      simp only at hb'
      subst hb'
      have hge : min items.size items2.size ≤ i := by
        rcases Nat.lt_or_ge i (items.toList.zip items2.toList).length with h' | h'
        · rw [List.drop_eq_getElem_cons h'] at hz; cases hz
        · exact hZ ▸ h'
      rw [List.drop_of_length_le (by simpa using hge)] at hR
      wp_walk
      exact ⟨_, rfl, by simpa [Builtin.Tuple.tupleCompareSizes, bne] using hR⟩
    case h =>
      exact ⟨rfl, rfl, 0, rfl, by simpa using h⟩
theorem sd_rcNeIn_tuples {prog : Program} {w : World} {A : Around} {s : Shared} {E : Value → Shared → Prop} {l b : Addr} {items items2 : Array Value} {e : Nat → Bool} {Q : Value → Shared → Prop} (hl : s.heap.IsTuple l items) (hb : s.heap.IsTuple b items2) (hu : A.units < cLine)
    (he : ∀ j (h1 : j < items.size) (h2 : j < items2.size), EqIn prog w A.in1 s items[j] items2[j] (e j)) (h : Q (.bool (!((List.range (min items.size items2.size)).all e && items.size == items2.size))) s) :
    wpAny (model prog w) A (richCompare .NotEq (.ref l) (.ref b)) Q E s := by
  obtain ⟨⟨cls, dd, data, sl⟩, ho, hc, n, hd⟩ := id hl
  obtain ⟨⟨cls2, dd2, data2, sl2⟩, ho2, hc2, n2, hd2⟩ := id hb
  simp only at hc hd hc2 hd2
  subst hc hd hc2 hd2
  exact wpAny_richCompare_same_room (T := "tuple") (op := .NotEq) ⟨_, ho, rfl⟩ ⟨_, ho2, rfl⟩ F.slot_tuple_ne (call_meetsIn F.slot_tuple_ne ⟨_, ho, rfl⟩ F.entry_tuple_ne (F.args_tuple_ne_2 _ _) (sd_tuple_neIn l b items items2 n n2 dd dd2 sl sl2 e)
    ⟨ho, ho2, he, show Value.bool (!((List.range (min items.size items2.size)).all e && items.size == items2.size)) ≠ Value.notImplemented ∧ Q (.bool (!((List.range (min items.size items2.size)).all e && items.size == items2.size))) s from ⟨(fun x => nomatch x), h⟩⟩) hu
end PySem.SeqAt
namespace Sd
open PySem PySem.Spec PyProof.Rows L2
def EwT (K : PySem.W.Frag) (H : Hp) (E : V → V → Prop) (x y : V) : Prop := ∃ a b xs ys, x = .ref a ∧ y = .ref b ∧ SqT K H a xs ∧ SqT K H b ys ∧ Paired E xs ys
/-- equal, of nesting below n -/
def Ew (K : PySem.W.Frag) (H : Hp) : Nat → V → V → Prop
  | 0 => fun _ _ => False
  | n + 1 => fun x y => (x = y ∧ flatB x = true) ∨ EqR K H (Ew K H n) x y ∨ EwT K H (Ew K H n) x y
section
variable {X : Cx} {pins : List (Addr × Obj)} {σ : L2.St} {H : Hp} {s : Shared}
theorem all_true (n : Nat) : ((List.range n).all fun _ => true) = true := List.all_eq_true.mpr fun _ _ => rfl
theorem ewT_run (I : Inv X pins σ H s) {A : Around} {F : V → V → Prop} (hu : A.units < cLine) (ih : ∀ x y v u, F x y → RelV x v → RelV y u → SeqAt.EqP X.prog X.w A.in1 s v u true) {x y : V} {v u : Value} (h : EwT X.K H F x y) (rx : RelV x v) (ry : RelV y u)
    (E Q : Value → Shared → Prop) (q : Q (.bool true) s) : wpAny (model X.prog X.w) A (richCompare .Eq v u) Q E s := by
  obtain ⟨a, b, xs, ys, rfl, rfl, ha, hb, hp⟩ := h
  cases (show v = Value.ref a from rx)
  cases (show u = Value.ref b from ry)
  obtain ⟨us, r1, p1, _⟩ := I.tuple ha
  obtain ⟨ws, r2, p2, _⟩ := I.tuple hb
  have hsz : us.toArray.size = ws.toArray.size := by
    rw [List.size_toArray, List.size_toArray, ← r1.length, ← r2.length]
    exact Paired.length hp
  refine SeqAt.rcIn_tuples (e := fun _ => true) p1 p2 hu (fun j h1 h2 => ?_) ?_
  · have k := items_run ih hp r1 r2 j (by simpa using h1) (by simpa using h2)
    have k2 : SeqAt.EqIn X.prog X.w A.in1 s _ _ true := k
    simpa using k2
  · rw [all_true, hsz]
    simpa using q
theorem ewT_ne (I : Inv X pins σ H s) {A : Around} {F : V → V → Prop} (hu : A.units < cLine) (ih : ∀ x y v u, F x y → RelV x v → RelV y u → SeqAt.EqP X.prog X.w A.in1 s v u true) {x y : V} {v u : Value} (h : EwT X.K H F x y) (rx : RelV x v) (ry : RelV y u)
    (E Q : Value → Shared → Prop) (q : Q (.bool false) s) : wpAny (model X.prog X.w) A (richCompare .NotEq v u) Q E s := by
  obtain ⟨a, b, xs, ys, rfl, rfl, ha, hb, hp⟩ := h
  cases (show v = Value.ref a from rx)
  cases (show u = Value.ref b from ry)
  obtain ⟨us, r1, p1, _⟩ := I.tuple ha
  obtain ⟨ws, r2, p2, _⟩ := I.tuple hb
  have hsz : us.toArray.size = ws.toArray.size := by
    rw [List.size_toArray, List.size_toArray, ← r1.length, ← r2.length]
    exact Paired.length hp
  refine SeqAt.sd_rcNeIn_tuples (e := fun _ => true) p1 p2 hu (fun j h1 h2 => ?_) ?_
  · have k := items_run ih hp r1 r2 j (by simpa using h1) (by simpa using h2)
    have k2 : SeqAt.EqIn X.prog X.w A.in1 s _ _ true := k
    simpa using k2
  · rw [all_true, hsz]
    simpa using q
theorem ew_run (I : Inv X pins σ H s) : ∀ (n : Nat) (A : Around), A.units + n < cLine → ∀ (x y : V) (v u : Value), Ew X.K H n x y → RelV x v → RelV y u → SeqAt.EqP X.prog X.w A s v u true
  | 0, _, _, _, _, _, _, h, _, _ => (show False from h).elim
  | n + 1, A, hu, x, y, v, u, h, rx, ry => by
    rcases h with ⟨rfl, f⟩ | h | h
    · exact (eqAt_same rx ry f).eqP
    · have step := eqR_run I (A := A) (by omega) (ew_run I n A.in1 (by show A.units + 1 + n < cLine; omega)) h rx ry
      obtain ⟨a, b, rfl, rfl⟩ : ∃ a b, x = .ref a ∧ y = .ref b := by
        rcases h with ⟨a, b, _, _, e1, e2, _⟩ | ⟨a, b, _, _, e1, e2, _⟩
        · exact ⟨a, b, e1, e2⟩
        · exact ⟨a, b, e1, e2⟩
      cases (show v = Value.ref a from rx)
      cases (show u = Value.ref b from ry)
      by_cases e : a = b
      · subst e
        exact (SeqAt.EqAt.same _).eqP
      · exact SeqAt.eqP_refs e step
    · have step := ewT_run I (A := A) (by omega) (ew_run I n A.in1 (by show A.units + 1 + n < cLine; omega)) h rx ry
      obtain ⟨a, b, _, _, rfl, rfl, _⟩ := h
      cases (show v = Value.ref a from rx)
      cases (show u = Value.ref b from ry)
      by_cases e : a = b
      · subst e
        exact (SeqAt.EqAt.same _).eqP
      · exact SeqAt.eqP_refs e step
end
section
variable {X : Cx}
/-- a == b, a != b: two tuples that are equal -/
def rEqW (K : PySem.W.Frag) : R2 := fun x y H Q => ∃ n, n ≤ 60 ∧ EwT K H (Ew K H n) x y ∧ Q (.bl true) H
def rNeW (K : PySem.W.Frag) : R2 := fun x y H Q => ∃ n, n ≤ 60 ∧ EwT K H (Ew K H n) x y ∧ Q (.bl false) H
theorem op_eqW (hu : X.A.units + 64 < cLine) : OpR X (compareOp .Eq) (rEqW X.K) := by
  intro pins s σ H x y v u Q I rx ry h
  obtain ⟨n, hn, h, q⟩ := h
  exact ewT_run I (A := X.A) (by omega) (ew_run I n X.A.in1 (by show X.A.units + 1 + n < cLine; omega)) h rx ry _ _ ⟨.bl true, H, I, rfl, q⟩
theorem op_neW (hu : X.A.units + 64 < cLine) : OpR X (compareOp .NotEq) (rNeW X.K) := by
  intro pins s σ H x y v u Q I rx ry h
  obtain ⟨n, hn, h, q⟩ := h
  exact ewT_ne I (A := X.A) (by omega) (ew_run I n X.A.in1 (by show X.A.units + 1 + n < cLine; omega)) h rx ry _ _ ⟨.bl false, H, I, rfl, q⟩
end
section
variable {K : PySem.W.Frag} {H : Hp} {a b : Addr} {n : Nat}
theorem ew_flat {x : V} (h : flatB x = true) : Ew K H (n + 1) x x := .inl ⟨rfl, h⟩
theorem ew_tup {xs ys : List V} (h1 : H a = some (.tup xs)) (h2 : H b = some (.tup ys)) (h : Paired (Ew K H n) xs ys) : Ew K H (n + 1) (.ref a) (.ref b) := .inr (.inr ⟨_, _, _, _, rfl, rfl, .of h1, .of h2, h⟩)
theorem ew_lst {xs ys : List V} (h1 : H a = some (.lst xs)) (h2 : H b = some (.lst ys)) (h : Paired (Ew K H n) xs ys) : Ew K H (n + 1) (.ref a) (.ref b) := .inr (.inl (.inl ⟨_, _, _, _, rfl, rfl, .of h1, .of h2, h⟩))
theorem ew_dct {ks ls : List (Key × V)} (h1 : H a = some (.dK ks)) (h2 : H b = some (.dK ls)) (hl : ks.length = ls.length) (h : ∀ p ∈ ks, ∃ u, valV ls p.1 = some u ∧ Ew K H n p.2 u) : Ew K H (n + 1) (.ref a) (.ref b) := .inr (.inl (.inr ⟨_, _, _, _, rfl, rfl, h1, h2, hl, h⟩))
theorem ew_flats {xs : List V} (h : ∀ x ∈ xs, flatB x = true) : Paired (Ew K H (n + 1)) xs xs := by
  induction xs with
  | nil => exact .nil
  | cons x xs ih => exact .cons (ew_flat (h x List.mem_cons_self)) (ih fun y hy => h y (List.mem_cons_of_mem _ hy))
end
section
variable {X : Cx}
/-- sorted(t): a tuple of texts, fewer than 64 -/
def rSortedST (K : PySem.W.Frag) : List V → Hp → VK → Prop := fun vs H Q => ∃ (a : Addr) (xs : List Str), vs = [V.ref a] ∧ SqT K H a (xs.map V.str) ∧ xs.length < 64 ∧ ∀ (ys : List Str) (p : Addr), ys.Perm xs → sortedS ys = true → H p = none → Q (.ref p) (upd H p (.lst (ys.map V.str)))
theorem cr_sortedST : CallR X (.builtin "sorted") (rSortedST X.K) := by
  intro pins s σ H vs us Q I r h
  obtain ⟨a, xs, rfl, hs, h64, q⟩ := h
  obtain ⟨its, rv, hl, _⟩ := I.tuple hs
  rw [Vals.ref1 r]
  have hlen0 := rv.length
  rw [List.length_map] at hlen0
  obtain ⟨o, ho, hc, n, hd⟩ := hl
  refine Calls.call_function_entry PyProof.Rows.kind_sorted PyProof.Rows.plain_sorted PyProof.Rows.entry_sorted (PyProof.Rows.args_sorted1 _) ?_
  unfold Builtin.«sorted»
  refine wpAny_bind (m := checkCount "sorted" 1 1 _) (wpAny_pure ?_)
  have h16 : its.length ≤ sizeLine := by rw [← hlen0, sizeLine_eq]; omega
  refine wpAny_bind (wpAny_collect_seq (A := X.A.in1) a (.inr rfl) ho hc hd (fun h' hk => ?_) (by simpa using h16))
  have hS : StrsAre its xs := rv.strs
  have I1 : Inv X pins σ H { s with heap := h' } := I.kept (t' := s.toks) hk
  refine wpAny_bind (wpAny_newList ?_ (by simpa using h16))
  have hoL : (h'.push (seqObj "list" its.toArray 0)).get? h'.objs.size = some (seqObj "list" its.toArray 0) := Heap.get?_push_size _ rfl
  show wpAny _ _ _ _ _ { s with heap := h'.push (seqObj "list" its.toArray 0) }
  refine wpAny_bind (wpAny_holding (wpAny_call_entry PyProof.Rows.slot_list_sort ⟨_, hoL, rfl⟩ PyProof.Rows.entry_list_sort
    (list_sort_treeK strKind_oneLt (s := { s with heap := h'.push (seqObj "list" its.toArray 0) }) hoL hS.keysOf (fun v₁ v₂ rest e => keyKind_strs (by rw [← e]; exact hS)) (by rw [← hlen0]; exact h64) fun st' hp hs => ⟨_, rfl, ?_⟩)
    (PyProof.Rows.args_list_sort _)))
  obtain ⟨ys, g1, g2, g3⟩ := sorted_out_str hS hp hs
  obtain ⟨e', he'⟩ := PyProof.Rows.sortedHeap_at (vs := its) (out := (arrOf st').map (·.2)) hoL
  have hlen : (ys.map V.str).length ≤ sizeLine := by
    rw [List.length_map, g2.length_eq]
    exact Nat.le_trans (Nat.le_of_lt h64) (by decide)
  refine wpAny_pure ⟨_, rfl, .ref h'.objs.size, upd H h'.objs.size (.lst (ys.map V.str)), I1.laid (t' := s.toks) (fun b u e => ?_) (Nat.le_refl _)
    (show ObjOk X.prog X.w _ _ _ (.lst (ys.map V.str)) from ⟨hlen, ((arrOf st').map (·.2)).toList, e', vals_of_strs g1, by rw [Array.toArray_toList]; exact he'⟩), rfl, q ys _ g2 g3 (I1.hok.fresh (Nat.le_refl _))⟩
  have hb : b < h'.objs.size := Heap.lt_size e
  rw [PyProof.Rows.sortedHeap_old (Nat.ne_of_lt hb) (by rw [size_push']; exact Nat.lt_succ_of_lt hb)]
  exact Heap.get?_push_of_some _ e
end
section
variable {X : Cx} {s : Shared} {H : Hp} {scope : Scope} {env : Env} {fp : List Addr}
theorem call_list_ofB : CallR (X.blk s H scope env fp) (.type "list") (fun xs H Q => ∃ p ys, xs = [.ref p] ∧ (SqL X.K H p ys ∨ SqT X.K H p ys) ∧ ∀ l, H l = none → Q (.ref l) (upd H l (.lst ys))) := call_list_of
theorem call_tuple_ofB : CallR (X.blk s H scope env fp) (.type "tuple") (fun xs H Q => ∃ p ys, xs = [.ref p] ∧ ((SqL X.K H p ys ∧ ∀ l, H l = none → Q (.ref l) (upd H l (.tup ys))) ∨ (SqT X.K H p ys ∧ Q (.ref p) H))) := call_tuple_of
theorem cr_sortedSB : CallR (X.blk s H scope env fp) (.builtin "sorted") (rSortedS X.K) := cr_sortedS
theorem cr_sortedSTB : CallR (X.blk s H scope env fp) (.builtin "sorted") (rSortedST X.K) := cr_sortedST
end
section
variable {X : Cx}
theorem op_ne_dictB (hu : X.A.units + 64 < cLine) : OpR X (compareOp .NotEq) rNeDA := op_ne_dictA (by omega)
end
section
variable {K : PySem.W.Frag} {H : Hp} {Q : VK}
theorem k_neW {a b : Addr} {xs ys : List V} (n : Nat) (hn : n ≤ 60) (h1 : H a = some (.tup xs)) (h2 : H b = some (.tup ys)) (h : Paired (Ew K H n) xs ys) (q : Q (.bl false) H) : rNeW K (.ref a) (.ref b) H Q := ⟨n, hn, ⟨_, _, _, _, rfl, rfl, .of h1, .of h2, h⟩, q⟩
theorem k_eqW {a b : Addr} {xs ys : List V} (n : Nat) (hn : n ≤ 60) (h1 : H a = some (.tup xs)) (h2 : H b = some (.tup ys)) (h : Paired (Ew K H n) xs ys) (q : Q (.bl true) H) : rEqW K (.ref a) (.ref b) H Q := ⟨n, hn, ⟨_, _, _, _, rfl, rfl, .of h1, .of h2, h⟩, q⟩
end
end Sd


/-! is True, is False; plain data in a ledger -/
namespace Sd
open PySem PySem.Spec PyProof.Rows L2
section
variable {X : Cx}
/-- x is True, x is False: x a None, a truth, a number, a text, or an object of the heap -/
def isBV (x : V) : Bool := match x with
  | .non | .bl _ | .int _ | .str _ | .ref _ => true
  | _ => false
def rIsB : R2 := fun x y H Q => ∃ b, y = .bl b ∧ isBV x = true ∧ Q (.bl (decide (x = .bl b))) H
theorem op_isB : OpR X (compareOp .Is) rIsB := by
  intro pins s σ H x y v u Q I rx ry h
  obtain ⟨b, rfl, hx, q⟩ := h
  cases (show u = Value.bool b from ry)
  cases x with
  | non => cases (show v = Value.none from rx); exact wpAny_is_other rfl (fun z => nomatch z) ⟨.bl false, H, I, rfl, by simpa using q⟩
  | bl c =>
    cases (show v = Value.bool c from rx)
    by_cases e : c = b
    · subst e; exact wpAny_is_self rfl ⟨.bl true, H, I, rfl, by simpa using q⟩
    · exact wpAny_is_other rfl (fun z => e (Value.bool.inj z)) ⟨.bl false, H, I, rfl, by simpa [e] using q⟩
  | int i => obtain ⟨t, rfl⟩ := (show ∃ t, v = Value.int i t from rx); exact wpAny_is_other rfl (fun z => nomatch z) ⟨.bl false, H, I, rfl, by simpa using q⟩
  | str i => obtain ⟨t, rfl⟩ := (show ∃ t, v = Value.str i t from rx); exact wpAny_is_other rfl (fun z => nomatch z) ⟨.bl false, H, I, rfl, by simpa using q⟩
  | ref a => cases (show v = Value.ref a from rx); exact wpAny_is_other rfl (fun z => nomatch z) ⟨.bl false, H, I, rfl, by simpa using q⟩
  | _ => cases hx
end
/-- plain data: None, truths, numbers, texts, rows -/
inductive Dv where
  | non
  | bl (b : Bool)
  | int (i : Int)
  | str (s : Str)
  | row (ds : List Dv)
/-- a tuple's place -/
def TupO (xs : List V) (o : HO) : Prop := o = .tup xs ∨ ∃ ob : Obj, o = .frz ob (.tup xs) ∧ ob.dict = none
/-- a tuple without attributes of its own -/
def FrzO (xs : List V) (o : HO) : Prop := ∃ ob : Obj, o = .frz ob (.tup xs) ∧ ob.dict = none
theorem TupO.rd {H : Hp} {a : Addr} {xs : List V} {o : HO} (h : TupO xs o) (e : H a = some o) : Rd H a (.tup xs) := by
  rcases h with rfl | ⟨ob, rfl, _⟩
  · exact .inl e
  · exact .inr ⟨ob, e⟩
theorem TupO.sq {K : PySem.W.Frag} {H : Hp} {a : Addr} {xs : List V} {o : HO} (h : TupO xs o) (e : H a = some o) : SqT K H a xs := .inl (h.rd e)
theorem TupO.ty {K : PySem.W.Frag} {H : Hp} {a : Addr} {xs : List V} {o : HO} (h : TupO xs o) (e : H a = some o) : TyX K H (.ref a) (.type "tuple") := by
  rcases h with rfl | ⟨ob, rfl, _⟩
  · exact .base (.tup e)
  · exact .fTuple e
mutual
/-- the value v of a ledger reads as d; T tells how a tuple stands -/
inductive DLp (T : List V → HO → Prop) (L : Lg) : V → Dv → Prop
  | non : DLp T L .non .non
  | bl (b : Bool) : DLp T L (.bl b) (.bl b)
  | int (i : Int) : DLp T L (.int i) (.int i)
  | str (s : Str) : DLp T L (.str s) (.str s)
  | row {p : Addr} {o : HO} {xs : List V} {ds : List Dv} (h : (p, o) ∈ L) (ho : T xs o) (h1 : DLps T L xs ds) : DLp T L (.ref p) (.row ds)
inductive DLps (T : List V → HO → Prop) (L : Lg) : List V → List Dv → Prop
  | nil : DLps T L [] []
  | cons {x : V} {xs : List V} {d : Dv} {ds : List Dv} (h : DLp T L x d) (h1 : DLps T L xs ds) : DLps T L (x :: xs) (d :: ds)
end
abbrev DL : Lg → V → Dv → Prop := DLp TupO
abbrev DLs : Lg → List V → List Dv → Prop := DLps TupO
abbrev DF : Lg → V → Dv → Prop := DLp FrzO
abbrev DFs : Lg → List V → List Dv → Prop := DLps FrzO
section
variable {T U : List V → HO → Prop}
mutual
theorem DLp.mono {L L' : Lg} (s : ∀ a ∈ L, a ∈ L') : ∀ {v : V} {d : Dv}, DLp T L v d → DLp T L' v d
  | _, _, .non => .non
  | _, _, .bl b => .bl b
  | _, _, .int i => .int i
  | _, _, .str x => .str x
  | _, _, .row h ho h1 => .row (s _ h) ho (DLps.mono s h1)
theorem DLps.mono {L L' : Lg} (s : ∀ a ∈ L, a ∈ L') : ∀ {v : List V} {d : List Dv}, DLps T L v d → DLps T L' v d
  | _, _, .nil => .nil
  | _, _, .cons h h1 => .cons (h.mono s) (DLps.mono s h1)
end
mutual
theorem DLp.imp {L : Lg} (s : ∀ xs o, T xs o → U xs o) : ∀ {v : V} {d : Dv}, DLp T L v d → DLp U L v d
  | _, _, .non => .non
  | _, _, .bl b => .bl b
  | _, _, .int i => .int i
  | _, _, .str x => .str x
  | _, _, .row h ho h1 => .row h (s _ _ ho) (DLps.imp s h1)
theorem DLps.imp {L : Lg} (s : ∀ xs o, T xs o → U xs o) : ∀ {v : List V} {d : List Dv}, DLps T L v d → DLps U L v d
  | _, _, .nil => .nil
  | _, _, .cons h h1 => .cons (h.imp s) (DLps.imp s h1)
end
theorem DLp.dl {L : Lg} {v : V} {d : Dv} (h : DLp FrzO L v d) : DL L v d := h.imp fun _ _ z => .inr z
theorem DLps.dl {L : Lg} {v : List V} {d : List Dv} (h : DLps FrzO L v d) : DLs L v d := h.imp fun _ _ z => .inr z
theorem DLps.len {L : Lg} : ∀ {xs : List V} {ds : List Dv}, DLps T L xs ds → xs.length = ds.length
  | _, _, .nil => rfl
  | _, _, .cons _ h => by rw [List.length_cons, List.length_cons, h.len]
theorem DLps.get {L : Lg} : ∀ {xs : List V} {ds : List Dv} {i : Nat} {x : V}, DLps T L xs ds → xs[i]? = some x → ∃ d, ds[i]? = some d ∧ DLp T L x d
  | _, _, 0, _, .cons h _, e => by
    rw [List.getElem?_cons_zero] at e
    cases e
    exact ⟨_, rfl, h⟩
  | _, _, i + 1, _, .cons _ h, e => by
    rw [List.getElem?_cons_succ] at e
    obtain ⟨d, h1, h2⟩ := h.get e
    exact ⟨d, by rw [List.getElem?_cons_succ]; exact h1, h2⟩
theorem DLps.at {L : Lg} : ∀ {xs : List V} {ds : List Dv} {i : Nat} {d : Dv}, DLps T L xs ds → ds[i]? = some d → ∃ x, xs[i]? = some x ∧ DLp T L x d
  | _, _, 0, _, .cons h _, e => by
    rw [List.getElem?_cons_zero] at e
    cases e
    exact ⟨_, rfl, h⟩
  | _, _, i + 1, _, .cons _ h, e => by
    rw [List.getElem?_cons_succ] at e
    obtain ⟨d, h1, h2⟩ := h.at e
    exact ⟨d, by rw [List.getElem?_cons_succ]; exact h1, h2⟩
theorem DLp.isB {L : Lg} {v : V} {d : Dv} (h : DLp T L v d) : isBV v = true := by cases h <;> rfl
end
theorem DLp.ty {K : PySem.W.Frag} {H : Hp} {L : Lg} {v : V} {d : Dv} (h : DLp TupO L v d) (hL : Led H L) : TyX K H v (match d with | .non => .type "NoneType" | .bl _ => .type "bool" | .int _ => .type "int" | .str _ => .type "str" | .row _ => .type "tuple") := by
  cases h with
  | non => exact .base .non
  | bl b => exact .base (.bl b)
  | int i => exact .base (.int i)
  | str s => exact .base (.str s)
  | row h ho h1 => exact ho.ty (hL.mem h)
theorem DL.ty {K : PySem.W.Frag} {H : Hp} {L : Lg} {v : V} {d : Dv} (hL : Led H L) (h : DL L v d) : TyX K H v (match d with | .non => .type "NoneType" | .bl _ => .type "bool" | .int _ => .type "int" | .str _ => .type "str" | .row _ => .type "tuple") := DLp.ty h hL
/-! ### t += u -/
theorem noI_tuple_add : typeLookup (.type "tuple") (dunderI "add") = pure none := by rw [typeLookup_type, builtinLookup_eq_fast]; kernel_rfl
section
variable {prog : Program} {w : World} {A : Around} {E : Value → Shared → Prop} {s : Shared}
theorem icat_tup {t b : Addr} {vs ws : List Value} {Q : Value → Shared → Prop} (ht : IsTup s.heap t vs.toArray) (hb : IsTup s.heap b ws.toArray)
    (h0 : vs = [] → Q (.ref b) s) (h1 : vs ≠ [] → ws = [] → Q (.ref t) s) (h2 : vs ≠ [] → ws ≠ [] → Q (.ref s.heap.objs.size) { s with heap := s.heap.push { cls := .type "tuple", data := .seq (vs ++ ws).toArray } })
    (hsz : vs.length + ws.length ≤ sizeLine) : wpAny (model prog w) A (inplaceOp .Add (.ref t) (.ref b)) Q E s := by
  obtain ⟨⟨cls, dd, data, sl⟩, ho, hc, n, hd⟩ := id ht
  obtain ⟨⟨cls2, dd2, data2, sl2⟩, ho2, hc2, n2, hd2⟩ := id hb
  simp only at hc hd hc2 hd2
  subst hc hd hc2 hd2
  have e : vs.toArray ++ ws.toArray = (vs ++ ws).toArray := by simp
  refine PySem.wpAny_inplaceOp_concat ⟨_, ho, rfl⟩ ⟨_, ho2, rfl⟩ noI_tuple_add noFill_tuple_add seq_tuple_add ?_
  by_cases hv : vs = []
  · exact call_meets PySem.F.slot_tuple_add ⟨_, ho, rfl⟩ PySem.F.entry_tuple_add (PySem.F.args_tuple_add_2 _ _)
      (tuple_addW0 t b vs.toArray ws.toArray n n2 dd dd2 sl sl2 (by simp [hv])) ⟨ho, ho2, h0 hv⟩
  · by_cases hw : ws = []
    · exact call_meets PySem.F.slot_tuple_add ⟨_, ho, rfl⟩ PySem.F.entry_tuple_add (PySem.F.args_tuple_add_2 _ _)
        (tuple_addW1 t b vs.toArray ws.toArray n n2 dd dd2 sl sl2 (by simpa using hv) (by simp [hw])) ⟨ho, ho2, h1 hv hw⟩
    · refine call_meets PySem.F.slot_tuple_add ⟨_, ho, rfl⟩ PySem.F.entry_tuple_add (PySem.F.args_tuple_add_2 _ _)
        (tuple_addW2 t b vs.toArray ws.toArray n n2 dd dd2 sl sl2 (by simpa using hv) (by simpa using hw) (by rw [List.size_toArray, List.size_toArray]; exact hsz)) ⟨ho, ho2, ?_⟩
      rw [e]
      exact h2 hv hw
end
section
variable {X : Cx}
theorem iop_catA : OpR X (inplaceOp .Add) (rCatA X.K) := by
  intro pins s σ H x y v u Q I rx ry h
  obtain ⟨a, b, xs, ys, rfl, rfl, ha, hb, hz, q0, q1, q2⟩ := h
  cases rx
  cases ry
  obtain ⟨its, r1, p1, _⟩ := I.tuple ha
  obtain ⟨its2, r2, p2, _⟩ := I.tuple hb
  refine icat_tup p1 p2 (fun z => ⟨.ref b, H, I, rfl, q0 (r1.nil_iff.mp z)⟩) (fun z1 z => ⟨.ref a, H, I, rfl, q1 (fun w => z1 (r1.nil_iff.mpr w)) (r2.nil_iff.mp z)⟩) (fun z1 z => ?_) (by rw [← r1.length, ← r2.length]; exact hz)
  refine ⟨.ref s.heap.objs.size, _, I.laid (t' := s.toks) (o := .tup (xs ++ ys)) (fun b ob q => Heap.get?_push_of_some _ q) (Nat.le_refl _) ?_, rfl, q2 (fun w => z1 (r1.nil_iff.mpr w)) (fun w => z (r2.nil_iff.mpr w)) _ (I.hok.fresh (Nat.le_refl _))⟩
  exact ⟨by rw [List.length_append]; exact hz, _, r1.append r2, IsTup.new _ _⟩
end
section
variable {K : PySem.W.Frag} {H : Hp} {L : Lg} {a b : Addr} {xs ys : List V} {Q : VK}
/-- t + u, t += u: both are given up for the sum -/
theorem k_catA (hL : Led H ((b, .tup ys) :: (a, .tup xs) :: L)) (hz : xs.length + ys.length ≤ sizeLine) (k : ∀ r H', Led H' ((r, .tup (xs ++ ys)) :: L) → Q (.ref r) H') : rCatA K (.ref a) (.ref b) H Q := by
  refine ⟨a, b, xs, ys, rfl, rfl, .of (hL.at ⟨1, rfl⟩), .of (hL.at ⟨0, rfl⟩), hz, fun e => ?_, fun _ e => ?_, fun _ _ _ hp => ?_⟩
  · subst e; exact k _ _ (hL.sub (.cons_cons _ (.cons _ (.refl _))))
  · subst e; rw [List.append_nil] at k; exact k _ _ hL.tail
  · exact k _ _ ((hL.new hp).sub (.cons_cons _ (.cons _ (.cons _ (.refl _)))))
/-- t + u, both not empty: a new one -/
theorem k_catN (hL : Led H L) (e1 : At L a (.tup xs)) (e2 : At L b (.tup ys)) (hx : xs ≠ []) (hy : ys ≠ []) (hz : xs.length + ys.length ≤ sizeLine) (k : ∀ r H', Led H' ((r, .tup (xs ++ ys)) :: L) → Q (.ref r) H') : rCatA K (.ref a) (.ref b) H Q :=
  ⟨a, b, xs, ys, rfl, rfl, .of (hL.at e1), .of (hL.at e2), hz, fun e => absurd e hx, fun _ e => absurd e hy, fun _ _ _ hp => k _ _ (hL.new hp)⟩
end
end Sd


/-! promises that lean on the cells of an outer frame, at any depth; lambdas with parameters -/
namespace Sd
open PySem PySem.Spec PyProof.Rows L2 LamX NdefX
/-- cells of an outer frame, as a callee finds them -/
structure CellsO (cl : List (Str × Addr)) (fr : List Str) (ws : List (Option V)) (outer : List Env) (h : Heap) (H : Hp) : Prop where
  at_ : CellsAt cl fr ws h H
  nf : ∀ y c, cl.lookup y = some c → c ∉ frs outer
section
variable {X : Cx} {cl : List (Str × Addr)} {fr : List Str} {ws : List (Option V)} {js : List Nat} {pins : List (Addr × Obj)} {σ : L2.St} {H : Hp} {s : Shared}
theorem CellsO.st (C : CellsO cl fr ws X.outer X.s_0.heap X.H_0) (hx : X.ex = []) (I : Inv X pins σ H s) : CellsO cl fr ws X.stack s.heap H := by
  refine ⟨C.at_.later C.nf (fun y c e z => by rw [hx] at z; cases z) I, fun y c e hb => ?_⟩
  rcases List.mem_cons.mp (I.stkSub c hb) with z | z
  · obtain ⟨_, v, o, ho, _⟩ := C.at_.all y c e
    exact absurd (z ▸ Heap.lt_size ho) (Nat.not_lt_of_ge I.ok.above)
  · exact C.nf y c e z
/-- from the frame that makes them -/
theorem CellsO.made (hfn : ∀ x, X.fn x = true) (I : Inv X pins σ H s) (c : Caps X cl fr js) : CellsO cl fr (js.map (slotAt σ)) X.stack s.heap H :=
  ⟨cells_of I c, fun y a e => cell_nofrs I hfn y a (c.sub y a e)⟩
/-- from a frame that hands them through -/
theorem CellsO.thru {fr0 : List Str} {ws0 : List (Option V)} (C : CellsO X.env.cells fr0 ws0 X.outer X.s_0.heap X.H_0) (hx : X.ex = []) (I : Inv X pins σ H s) (c : Caps X cl fr js) : CellsO cl fr (js.map (slotAt σ)) X.stack s.heap H :=
  ⟨cells_of I c, fun y a e => (C.st hx I).nf y a (c.sub y a e)⟩
end
/-- what a promise asks of the outer frames, beside the heap that is told -/
abbrev GT := List Env → Heap → Hp → Prop
structure FnOkS (P : Program) (w : World) (K : PySem.W.Frag) (mg : Str → Option Value) (base : Heap) (k : Nat) (f : Addr) (fd : FuncData) (ps : List Str) (G : GT) (sp : Sp) : Prop where
  len : ∀ vs H Q E, sp vs H Q E → vs.length = ps.length
  run : ∀ (A : Around) (outer : List Env) (s : Shared) (H : Hp) (args : Args) (us : List Value) (vs : List V) (Q : VK) (E : XK), Room k A → Env0 P w K mg base A outer s H → BindsTo s fd args (ps.zip us) → Vals vs us → G outer s.heap H → sp vs H Q E →
    codeAny (model P w) A (.call (.ref f) args) (CR (L2.CX P w) outer P w H s Q E) s
section
variable {P : Program} {w : World} {K : PySem.W.Frag} {mg : Str → Option Value} {base : Heap}
theorem fun_okS {x qual : Str} {st : Stmt} {f : Addr} {fd : FuncData} {N ps : List Str} {k : Nat} {G : GT} {sp : Sp} (F : Fun K x qual st f fd) (S : FnScope N ps (defScope st)) (len : ∀ vs H Q E, sp vs H Q E → vs.length = ps.length)
    (hbody : ∀ (cdv : Value) (A : Around) (outer : List Env) (s : Shared) (H : Hp) (vs : List V) (Q : VK) (E : XK), Room k (A.deeper (envOfC qual (defScope st) s.heap.objs.size f cdv)) → G outer s.heap H → sp vs H Q E →
      ∃ t, PSs (cxOf (L2.CX P w) P w K mg base N qual (defScope st) f cdv A outer s H E) (defBody st) t ∧ t { nx := fun _ H' => Q .non H', rt := Q } (L2.start N vs) H) : FnOkS P w K mg base (k + 1) f fd ps G sp := by
  obtain ⟨oc, od, kV, doc, pm, an, cdv, ct, osl, rfl, lk, hcd⟩ := F.ex
  exact ⟨len, fun A outer s H args us vs Q E hr e0 hb r g h => run_ofS lk hcd S hr e0 hb r (len _ _ _ _ h) fun hr' => hbody _ A outer s H vs Q E hr' g h⟩
structure MetS (P : Program) (w : World) (K : PySem.W.Frag) (mg : Str → Option Value) (base : Heap) (k : Nat) (C : Addr) (m : Str) (G : GT) (sp : Sp) : Prop where
  ex : ∃ (f : Addr) (fd : FuncData) (ps : List Str), Cls K C ∧ Meth K C m f ∧ FnOkS P w K mg base k f fd ps G sp ∧ Binds K fd ps []
structure CalS (P : Program) (w : World) (K : PySem.W.Frag) (mg : Str → Option Value) (base : Heap) (k : Nat) (x : Str) (G : GT) (sp : Sp) : Prop where
  ex : ∃ (f : Addr) (fd : FuncData) (ps : List Str), FnOkS P w K mg base k f fd ps G sp ∧ mg x = some (.ref f) ∧ PySem.W.keepIn K (.ref f) = true ∧ Binds K fd ps []
end
section
variable {X : Cx} {k j : Nat} {C f : Addr} {fd : FuncData} {ps : List Str} {E : XK} {x m : Str} {p pos apos : Pos} {e o : Expr} {es : List Expr} {ta : TE} {t : TA} {ι : Type} {G : ι → GT} {sp : ι → Sp} {R : ι → L2.St → Prop}
theorem run_fnS {pins : List (Addr × Obj)} {σ : L2.St} {H : Hp} {s : Shared} {Q : VK} {us : List Value} {vs : List V} {g : GT} {sp : Sp} (F : FnOkS X.prog X.w X.K X.mg X.base k f fd ps g sp) (hr : Room k X.A) (hb : Binds X.K fd ps []) (tk : Takes X (fun cls d _ H => E cls d H))
    (I : Inv X pins σ H s) (hg : g X.stack s.heap H) (r : Vals vs us) (h : sp vs H Q E) : wpAny (model X.prog X.w) X.A (call (.ref f) us) (EP X pins σ Q) X.xe s := by
  have hl : (us ++ []).length = ps.length := by rw [List.append_nil, ← r.length]; exact F.len _ _ _ _ h
  have hb2 := hb s us I.kIn hl
  rw [List.append_nil] at hb2
  refine wpAny_call (codeAny_mono (F.run X.A X.stack s H ⟨us, []⟩ us vs Q E hr I.env0 hb2 r hg h) fun r s' hq => ?_)
  cases r with
  | error e => exact passes_call tk (fun _ _ _ _ h => h) pins σ H s e s' I hq
  | ok fl =>
    cases fl with
    | ret u => exact I.after hq
    | next => exact False.elim hq
    | brk => exact False.elim hq
    | cont => exact False.elim hq
/-- o.m(e, ..), the promise told by i -/
def tMethS (C : Addr) (m : Str) (sp : ι → Sp) (R : ι → L2.St → Prop) (E : XK) (ta : TE) (t : TA) : TE := fun σ H Q => ta σ H fun x H1 => ∃ a dx fs, x = .ref a ∧ H1 a = some (.ins C dx fs) ∧ fs.lookup m = none ∧
  t σ H1 fun vs H2 => ∃ i, R i σ ∧ sp i (x :: vs) H2 Q E
theorem pe_mtS {pl : Sem Bool} (c : ∀ i, MetS X.prog X.w X.K X.mg X.base k C m (G i) (sp i)) (hr : Room j X.A) (hk : k ≤ j) (hG : ∀ i pins σ H s, Inv X pins σ H s → R i σ → G i X.stack s.heap H) (tk : Takes X (fun cls d _ H => E cls d H)) (hc : Cls X.K C) {f : Addr} (hm : Meth X.K C m f) (he : PE X o ta) (ha : PA X (e :: es) t)
    (huq : ∀ g, Meth X.K C m g → g = f)
    (hst : starEach (e :: es) X.env = (false, eval e X.env) :: starEach es X.env := by rfl) (hpl : (backTo pos (starEach es X.env)).any (·.1) = false := by rfl)
    (ht : eval (.Call (.Attribute o m apos) (e :: es) [] pos) X.env = (do
      let ov ← eval o X.env
      standAt apos.atName
      let (f, first) ← holding [ov] (getMethod ov m pl)
      callWith pos f first (backTo pos (starEach (e :: es) X.env)) (backToKw pos (keywordEach [] X.env))) := by rfl) :
    PE X (.Call (.Attribute o m apos) (e :: es) [] pos) (tMethS C m sp R E ta t) := by
  refine ⟨fun pins s σ H Q I h => ?_⟩
  refine PySem.W.methodCall_KW (pl := pl) (thn (he.run pins s σ H _ I h) fun u s1 ⟨x, H1, I1, rx, a, dx, fs, ex, ea, l, q⟩ => ?_) ht
  subst ex
  obtain rfl : u = Value.ref a := rx
  refine getmeth_ok I1 ea hc hm l ?_
  refine PySem.W.callWith_K (first := [.ref a]) (h₀ := X.base) I.ok.mod.kin hm.kp (thn (ha.run pos pins s1 σ H1 _ I1 q) fun us s2 ⟨vs, H2, I2, r, i, hR, q2⟩ => ⟨I2.kIn, ?_⟩) hst hpl
  obtain ⟨g, fd, ps, _, hm2, F, b⟩ := (c i).ex
  obtain rfl := huq g hm2
  exact run_fnS (us := .ref a :: us) (vs := .ref a :: vs) F (hr.mono hk) b tk I2 (hG i _ _ _ _ I2 hR) (.cons rfl r) q2
/-- f(e, ..), the promise told by i -/
def tCallS (sp : ι → Sp) (R : ι → L2.St → Prop) (E : XK) (t : TA) : TE := fun σ H Q => t σ H fun vs H2 => ∃ i, R i σ ∧ sp i vs H2 Q E
theorem pe_cS (c : ∀ i, CalS X.prog X.w X.K X.mg X.base k x (G i) (sp i)) (hr : Room j X.A) (hk : k ≤ j) (hG : ∀ i pins σ H s, Inv X pins σ H s → R i σ → G i X.stack s.heap H) (hg : Gl X x) {f : Addr} (hm : X.mg x = some (.ref f)) (kp : PySem.W.keepIn X.K (.ref f) = true) (tk : Takes X (fun cls d _ H => E cls d H)) (ha : PA X (e :: es) t)
    (hdb : (x == ("__debug__" : Str)) = false := by decide) (he : starEach (e :: es) X.env = (false, eval e X.env) :: starEach es X.env := by rfl) (hpl : (backTo pos (starEach es X.env)).any (·.1) = false := by rfl) :
    PE X (.Call (.Name x p) (e :: es) [] pos) (tCallS sp R E t) := by
  refine ⟨fun pins s σ H Q I h => ?_⟩
  refine wpAny_Call_Name_kw (ld_glob I hg hm ?_ hdb)
  refine PySem.W.callWith_K (h₀ := X.base) I.ok.mod.kin kp (thn (ha.run pos pins s σ H _ I h) fun us s1 ⟨vs, H1, I1, r, i, hR, q⟩ => ⟨I1.kIn, ?_⟩) he hpl
  obtain ⟨g, fd, ps, F, hm2, _, b⟩ := (c i).ex
  obtain rfl : g = f := by rw [hm] at hm2; cases hm2; rfl
  exact run_fnS F (hr.mono hk) b tk I1 (hG i _ _ _ _ I1 hR) r q
end
/-- the code object's record at c bears the name q -/
def CdAt (P : Program) (w : World) (H : Hp) (c : Addr) (q : Str) : Prop := ∀ h, HOk P w H h → h.CodeRec (.ref c) q
theorem CdAt.of {P : Program} {w : World} {H : Hp} {c : Addr} {q : Str} (h : H c = some (CodeO c q)) : CdAt P w H c q := fun _ ok => codeO_at ok h
/-- a lambda with parameters, what it promises upon its cells -/
structure LOkS (P : Program) (w : World) (K : PySem.W.Frag) (mg : Str → Option Value) (base : Heap) (k : Nat) (f : Addr) (F : NF) (b : Expr) (fr : List Str) (tl : List V → List (Option V) → Hp → VK → XK → Prop) : Prop where
  run : ∀ (A : Around) (outer : List Env) (s : Shared) (H : Hp) (us : List Value) (vs : List V) (ws : List (Option V)) (Q : VK) (E : XK), Room k A → Env0 P w K mg base A outer s H → H f = some (LamO f F b) → CdAt P w H F.c F.qual → CellsO F.cl fr ws outer s.heap H → Vals vs us → tl vs ws H Q E →
    codeAny (model P w) A (.call (.ref f) ⟨us, []⟩) (CR (L2.CX P w) outer P w H s Q E) s
section
variable {P : Program} {w : World} {K : PySem.W.Frag} {mg : Str → Option Value} {base : Heap} {F : NF} {f : Addr} {b : Expr} {k : Nat} {N ps fr : List Str} {tl : List V → List (Option V) → Hp → VK → XK → Prop}
theorem lokS_of (S : NScope N ps fr F.scope) (hl : ∀ vs ws H Q E, tl vs ws H Q E → vs.length = ps.length) (hb : ∀ (pm cv ctv : Value) (us : List Value), us.length = ps.length → bindArgs (PySem.W.kla_fn F.name F.qual F.params b F.scope F.cl pm cv ctv) ⟨us, []⟩ = pure (ps.zip us))
    (hbody : ∀ (A : Around) (outer : List Env) (s : Shared) (H : Hp) (vs : List V) (ws : List (Option V)) (Q : VK) (E : XK), Room k (A.deeper (envF F f s.heap.objs.size)) → CellsO F.cl fr ws outer s.heap H → tl vs ws H Q E → ∃ t : TE, PE (ncx (L2.CX P w) P w K mg base N F f A outer s H E) b t ∧ t (startF N vs ws) H Q) :
    LOkS P w K mg base (k + 1) f F b fr tl := by
  refine ⟨fun A outer s H us vs ws Q E hr e0 hf hc C r h => ?_⟩
  have lim : s.heap.NoLimit := e0.mod.nolimit.keeps fun b o e => (e0.bs b o e).1
  obtain ⟨pm, ctv, ho⟩ := lamO_at e0.hok hf
  have hle := hl _ _ _ _ _ h
  refine PySem.W.kla_callFunE hr.depth ho rfl S.co S.gen rfl (hc _ e0.hok) ?_
  rw [hb _ _ _ us (by rw [← r.length]; exact hle)]
  refine wpAny_pure (wpAny_newFunctionEnv S.nocell (fun ⟨n, _⟩ hy => S.par n (List.of_mem_zip hy).1) (fun h₁ hns hsb => ⟨lim.fresh _ hsb, ?_⟩) S.kind)
  show codeAny _ _ (.expr b (envF F f s.heap.objs.size)) _ _
  have kp : ∀ b o, s.heap.get? b = some o → h₁.get? b = some o := fun b o e => hsb.extBut b o (Nat.ne_of_lt (Heap.lt_size e)) (Heap.get?_push_of_some _ e)
  obtain ⟨t, ht, hq⟩ := hbody A outer s H vs ws Q E (hr.deeper _) C h
  have I : Inv (ncx (L2.CX P w) P w K mg base N F f A outer s H E) [] (startF N vs ws) H { s with heap := h₁, toks := s.toks + (ps.zip us).length } :=
    inv_startN (N := N) (ps := ps) (fr := fr) (vs := vs) (us := us) (ws := ws) S hr.hd e0 hle r C.at_ hns kp
  refine PySem.W.kla_codeExpr (wpAny_mono (ht.run [] _ _ H Q I hq) (fun v s' hq => ?_) fun e s' hq => hq)
  obtain ⟨w', H', J', rv, q⟩ := hq
  exact ⟨w', H', J'.os, J'.bare, J'.base, J'.hok, rv, q⟩
end
/-- x(e, ..), x a name that holds a lambda; the cells stand in outer frames -/
def tLamS (i : Nat) (f : Addr) (F : NF) (b : Expr) (P : Program) (w : World) (ws : List (Option V)) (tl : List V → List (Option V) → Hp → VK → XK → Prop) (E : XK) (t : TA) : TE := fun σ H Q => σ[i]? = some (some (.ref f)) ∧ H f = some (LamO f F b) ∧ t σ H fun vs H1 => H1 f = some (LamO f F b) ∧ CdAt P w H1 F.c F.qual ∧ tl vs ws H1 Q E
theorem pe_lamS {X : Cx} {i k : Nat} {x : Str} {p pos : Pos} {f : Addr} {F : NF} {b : Expr} {fr : List Str} {ws : List (Option V)} {tl : List V → List (Option V) → Hp → VK → XK → Prop} {e : Expr} {es : List Expr} {t : TA} {E : XK} (tk : Takes X (fun cls d _ H => E cls d H)) (hr : Room k X.A) (hN : X.N[i]? = some x) (hv : Vis X.env.scope x)
    (C : CellsO F.cl fr ws X.outer X.s_0.heap X.H_0) (hx : X.ex = []) (L : LOkS X.prog X.w X.K X.mg X.base k f F b fr tl) (ha : PA X (e :: es) t)
    (hst : starEach (e :: es) X.env = (false, eval e X.env) :: starEach es X.env := by rfl) (hpl : (backTo pos (starEach es X.env)).any (·.1) = false := by rfl)
    (hd : (x == ("__debug__" : Str)) = false := by decide) (hcd : (x == ("__classdict__" : Str)) = false := by decide) :
    PE X (.Call (.Name x p) (e :: es) [] pos) (tLamS i f F b X.prog X.w ws tl E t) := by
  refine ⟨fun pins s σ H Q I h => ?_⟩
  obtain ⟨hs, hf0, h⟩ := h
  refine wpAny_Call_Name_kw (thn ((pe_var (pos := p) hN hv hd hcd).run pins s σ H (fun v H1 => v = .ref f ∧ H1 = H) I ⟨.ref f, hs, rfl, rfl⟩) fun u s1 ⟨v, H1, I1, r1, q1⟩ => ?_)
  obtain ⟨ev, eH⟩ := q1
  subst ev
  rw [eH] at I1
  obtain rfl : u = Value.ref f := r1
  obtain ⟨pm0, ctv0, ho0⟩ := lamO_at I1.hok hf0
  refine PySem.W.callWith_F (first := []) ⟨_, _, _, _, ho0⟩ (thn (ha.run pos pins s1 σ H _ I1 h) fun us s2 ⟨vs, H2, I2, r, hf, hc, ht⟩ => ?_) hst hpl
  obtain ⟨pm, ctv, ho⟩ := lamO_at I2.hok hf
  refine ⟨⟨_, _, _, _, ho⟩, ?_⟩
  refine wpAny_call (codeAny_mono (L.run X.A X.stack s2 H2 us vs ws Q E hr I2.env0 hf hc (C.st hx I2) r ht) fun r s' hq => ?_)
  cases r with
  | error e => exact passes_call tk (fun _ _ _ _ h => h) pins σ H2 s2 e s' I2 hq
  | ok fl =>
    cases fl with
    | ret u => exact I2.after hq
    | next => exact False.elim hq
    | brk => exact False.elim hq
    | cont => exact False.elim hq
/-- x(), the same -/
theorem pe_lamS0 {X : Cx} {W : WX} {i k : Nat} {x : Str} {p pos : Pos} {f : Addr} {F : NF} {b : Expr} {fr : List Str} {ws : List (Option V)} {tl : List V → List (Option V) → Hp → VK → XK → Prop} (tk : Takes X W) (hr : Room k X.A) (hN : X.N[i]? = some x) (hv : Vis X.env.scope x)
    (C : CellsO F.cl fr ws X.outer X.s_0.heap X.H_0) (hx : X.ex = []) (L : LOkS X.prog X.w X.K X.mg X.base k f F b fr tl)
    (hd : (x == ("__debug__" : Str)) = false := by decide) (hcd : (x == ("__classdict__" : Str)) = false := by decide) :
    PE X (.Call (.Name x p) [] [] pos) (fun σ H Q => σ[i]? = some (some (.ref f)) ∧ H f = some (LamO f F b) ∧ CdAt X.prog X.w H F.c F.qual ∧ ∃ E : XK, (∀ cls d σ' H', E cls d H' → W cls d σ' H') ∧ tl [] ws H Q E) := by
  refine ⟨fun pins s σ H Q I h => ?_⟩
  obtain ⟨hs, hf, hc, E, hW, ht⟩ := h
  refine wpAny_Call_Name_kw (thn ((pe_var (pos := p) hN hv hd hcd).run pins s σ H (fun v H1 => v = .ref f ∧ H1 = H) I ⟨.ref f, hs, rfl, rfl⟩) fun u s1 ⟨v, H1, I1, r1, q1⟩ => ?_)
  obtain ⟨ev, eH⟩ := q1
  subst ev
  rw [eH] at I1
  obtain rfl : u = Value.ref f := r1
  obtain ⟨pm, ctv, ho⟩ := lamO_at I1.hok hf
  refine PySem.W.callWith_F0 (first := []) ⟨_, _, _, _, ho⟩ ?_
  show wpAny _ _ (call (.ref f) []) _ _ _
  refine wpAny_call (codeAny_mono (L.run X.A X.stack s1 H [] [] ws Q E hr I1.env0 hf hc (C.st hx I1) .nil ht) fun r s' hq => ?_)
  cases r with
  | error e => exact passes_call tk hW pins σ H s1 e s' I1 hq
  | ok fl =>
    cases fl with
    | ret u => exact I1.after hq
    | next => exact False.elim hq
    | brk => exact False.elim hq
    | cont => exact False.elim hq
/-! ### told(what): return what(), and words for classes of exceptions -/
/-- what an exception of a lambda becomes: the words of the classes, in order -/
def wTold (K : PySem.W.Frag) (Q : VK) : List (Addr × Str) → Value → Hp → Prop
  | [], _, _ => False
  | (C, ret) :: r, cls, H => ∃ b, PySem.W.exmOne K cls (.ref C) = some b ∧ (b = true → Q (.str ret) H) ∧ (b = false → wTold K Q r cls H)
def spToldS (P : Program) (w : World) (K : PySem.W.Frag) (mg : Str → Option Value) (base : Heap) (k : Nat) (l : List (Addr × Str)) (F : NF) (fr : List Str) (ws : List (Option V)) : Sp := fun vs H Q _ => ∃ (f : Addr) (b : Expr) (tl : List V → List (Option V) → Hp → VK → XK → Prop),
  vs = [.ref f] ∧ H f = some (LamO f F b) ∧ CdAt P w H F.c F.qual ∧ LOkS P w K mg base k f F b fr tl ∧ tl [] ws H Q fun cls _ H' => wTold K Q l cls H'
def gTold (F : NF) (fr : List Str) (ws : List (Option V)) : GT := fun o h H => CellsO F.cl fr ws o h H
section
variable {P : Program} {w : World} {K : PySem.W.Frag} {mg : Str → Option Value} {base : Heap}
theorem ok_told2 {x a e1 e2 r1 r2 : Str} {st : Stmt} {f : Addr} {fd : FuncData} {N : List Str} {C1 C2 : Addr} {k : Nat} {p1 p2 p3 p4 p5 p6 p7 p8 p9 p10 p11 p12 : Pos} {j1 j2 : Nat} {F : NF} {fr : List Str} {ws : List (Option V)} (Fn : Fun K x x st f fd) (S : FnScope N [a] (defScope st))
    (hbd : defBody st = [.Try [.Return (some (.Call (.Name a p1) [] [] p2)) p3] [.ExceptHandler (some (.Name e1 p4)) none [.Return (some (.Constant (.str r1) j1 p5)) p6] p7, .ExceptHandler (some (.Name e2 p8)) none [.Return (some (.Constant (.str r2) j2 p9)) p10] p11] [] [] p12])
    (hg1 : (defScope st).names.lookup e1 = some .globalImplicit) (hm1 : mg e1 = some (.ref C1)) (hg2 : (defScope st).names.lookup e2 = some .globalImplicit) (hm2 : mg e2 = some (.ref C2)) (hN : N[0]? = some a) (hv : Vis (defScope st) a) (h0 : ∀ f : Addr, (L2.start N [V.ref f])[0]? = some (some (V.ref f)))
    (hd1 : (e1 == ("__debug__" : Str)) = false := by decide) (hd2 : (e2 == ("__debug__" : Str)) = false := by decide) (hd : (a == ("__debug__" : Str)) = false := by decide) (hcd : (a == ("__classdict__" : Str)) = false := by decide) :
    FnOkS P w K mg base (k + 1) f fd [a] (gTold F fr ws) (spToldS P w K mg base k [(C1, r1), (C2, r2)] F fr ws) := by
  refine fun_okS Fn S (fun vs H Q E h => ?_) fun cdv A outer s H vs Q E hr g h => ?_
  · obtain ⟨f, b, tl, rfl, _⟩ := h
    rfl
  · obtain ⟨f, b, tl, rfl, hf, hc, L, ht⟩ := h
    have g : CellsO F.cl fr ws outer s.heap H := g
    rw [hbd]
    have hgl1 : Gl (cxOf (L2.CX P w) P w K mg base N x (defScope st) (by assumption) cdv A outer s H E) e1 := hg1
    have hgl2 : Gl (cxOf (L2.CX P w) P w K mg base N x (defScope st) (by assumption) cdv A outer s H E) e2 := hg2
    refine ⟨_, pss_one (ps_try_many (l := [(.ref C1, _), (.ref C2, _)]) (tb := fun W D σ H => σ[0]? = some (some (.ref f)) ∧ H f = some (LamO f F b) ∧ CdAt P w H F.c F.qual ∧ ∃ E : XK, (∀ cls d σ' H', E cls d H' → W cls d σ' H') ∧ tl [] ws H D.rt E) rfl rfl L2.takes0
      (fun W pn xe tk _ => pss_one (ps_ret (pe_lamS0 tk hr hN hv g rfl L hd hcd))) (.cons ⟨hgl1, hd1, .inl hm1⟩ (fun a oe cls d pn _ _ => pss_one (ps_ret pe_str)) (.cons ⟨hgl2, hd2, .inl hm2⟩ (fun a oe cls d pn _ _ => pss_one (ps_ret pe_str)) .nil))), ?_⟩
    refine ⟨h0 f, hf, hc, _, fun cls d σ' H' q => ?_, ht⟩
    obtain ⟨b, q1, q2, q3⟩ := q
    refine ⟨b, q1, fun hb a _ => q2 hb, fun hb => ?_⟩
    obtain ⟨b, q1, q2, q3⟩ := q3 hb
    exact ⟨b, q1, fun hb a _ => q2 hb, fun hb => q3 hb⟩
end
end Sd


/-! the value of a lambda, told by ledgers: other tables beside the own one are kept -/
namespace Sd
open PySem PySem.Spec PyProof.Rows L2 LamX NdefX
/-- the own table's codes, in the ledger -/
def TabL (q : Str) (ps : Array Value) (L : Lg) : Prop := TriplesOk ps.toList ∧ ∀ (pos : Pos) (cv : Value), codeAmong pos ps.toList = some cv → ∃ c, cv = .ref c ∧ (c, CodeO c q) ∈ L
theorem TabL.nil {q : Str} {L : Lg} : TabL q #[] L := ⟨by simp [TriplesOk], fun pos cv h => by simp [codeAmong] at h⟩
theorem TabL.mono {q : Str} {ps : Array Value} {L L' : Lg} (h : TabL q ps L) (s : ∀ x ∈ L, x ∈ L') : TabL q ps L' := ⟨h.1, fun pos cv e => let ⟨c, e1, e2⟩ := h.2 pos cv e; ⟨c, e1, s _ e2⟩⟩
section
variable {X : Cx} {pins : List (Addr × Obj)} {σ : L2.St} {H : Hp} {s : Shared}
theorem lam_valueL {q : Str} {c P : Addr} {params : Arguments} {body : Expr} {scope : Scope} {pos : Pos} {E : Value → Shared → Prop} {Q : Value → Shared → Prop} {ps : Array Value} {L R : Lg} (I : Inv X pins σ H s) (TB : TabB X.base X.mg c P) (hcode : X.env.code = .ref c) (hq : X.env.qual ++ "<lambda>" = q)
    (hL : Led H ((P, .tbl ps) :: (L ++ R))) (hT : TabL q ps L) (hdef : defaultsOf params X.env = ([], [])) (hfree : ∀ y ∈ scope.names, y.2 = .free → ∃ c, X.env.cells.lookup y.1 = some c)
    (h : ∀ (f c' : Addr) (ps' : Array Value) (Z : Lg) (H1 : Hp) (s' : Shared), Inv X pins σ H1 s' → Led H1 ((f, LamO f ⟨"<lambda>", q, params, [], scope, cloFrom X.env.cells scope.names [], c'⟩ body) :: (P, .tbl ps') :: (Z ++ (L ++ R))) → TabL q ps' (Z ++ L) → (c', CodeO c' q) ∈ Z ++ L → Q (.ref f) s') :
    wpAny (model X.prog X.w) X.A (eval (.Lambda params body scope pos) X.env) Q E s := by
  subst hq
  obtain ⟨ht, ha⟩ := hT
  have hP : H P = some (.tbl ps) := hL.at ⟨0, rfl⟩
  have bP : s.heap.BuiltinsAt X.mg P := TB.bm.keeps I.bk
  have hP' : s.heap.get? P = some { cls := .none, data := .fields ps } := I.hok P _ hP
  refine PySem.W.kla_eval hdef ?_
  rcases hc : codeAmong pos ps.toList with _ | cv
  · refine PySem.W.kla_makeFunction (mg := X.mg) (c := c) (P := P) (ps := ps) (closure_ok hfree) I.ok.glob (I.mod.glob.keeps I.bk) hcode (TB.code.keeps I.bk) hP' ht hc TB.gP bP fun c' ctv h' tk hx hge hlt hrec htb => ?_
    obtain ⟨_, oc, vs, t, e2, hoc, hd, hv⟩ := hrec
    cases e2
    have nC : H c' = none := I.hok.fresh hge
    have I1 := inv_table (t' := tk) (more := #[rawInt pos.line, rawInt pos.col, .ref c']) (h' := h') I hP (fun b o hb e => hx b o hb e) htb hge ⟨oc, vs, t, hoc, hd, hv⟩
    have L1 : Led (upd (upd H P (.tbl (ps ++ #[rawInt pos.line, rawInt pos.col, .ref c']))) c' (CodeO c' (X.env.qual ++ "<lambda>"))) ((c', CodeO c' (X.env.qual ++ "<lambda>")) :: (P, .tbl (ps ++ #[rawInt pos.line, rawInt pos.col, .ref c'])) :: (L ++ R)) :=
      (hL.head).new (by rw [upd_ne (ne_of_none hP nC).symm]; exact nC)
    have nF := I1.hok.fresh (Nat.le_refl _)
    have I2 := inv_lam (F := ⟨"<lambda>", X.env.qual ++ "<lambda>", params, [], scope, cloFrom X.env.cells scope.names [], c'⟩) (b := body) (t' := tk) (pm := (X.mg "__name__").getD .none) (ctv := ctv) I1
    have eL : (ps ++ #[rawInt pos.line, rawInt pos.col, .ref c']).toList = ps.toList ++ [rawInt pos.line, rawInt pos.col, .ref c'] := by simp
    refine h h'.objs.size c' _ [(c', CodeO c' (X.env.qual ++ "<lambda>"))] _ _ I2 ((L1.new nF).perm (.cons _ (.swap _ _ _))) ⟨by rw [eL]; exact PySem.TriplesOk_snoc _ _ _ _ ht, fun p' cv hcv => ?_⟩ (.head _)
    rw [eL] at hcv
    rcases among_app _ ht hcv with z | z
    · obtain ⟨c0, e1, e2⟩ := ha p' cv z
      exact ⟨c0, e1, .tail _ e2⟩
    · exact ⟨c', z, .head _⟩
  · obtain ⟨c', e, hco⟩ := ha pos cv hc
    subst e
    refine PySem.W.kla_makeFunctionHit (mg := X.mg) (c := c) (P := P) (ps := ps) (closure_ok hfree) I.ok.glob (I.mod.glob.keeps I.bk) hcode (TB.code.keeps I.bk) hP' ht hc bP fun ctv h' tk hx hsz => ?_
    have I1 : Inv X pins σ H { s with heap := h', toks := tk } := I.kept hx
    have nF : H h'.objs.size = none := I1.hok.fresh (Nat.le_refl _)
    have I2 := inv_lam (F := ⟨"<lambda>", X.env.qual ++ "<lambda>", params, [], scope, cloFrom X.env.cells scope.names [], c'⟩) (b := body) (t' := tk) (pm := (X.mg "__name__").getD .none) (ctv := ctv) I1
    exact h h'.objs.size c' ps [] _ _ I2 (hL.new nF) ⟨ht, ha⟩ hco
end
/-- lambda: body, captured names; the own table and its codes in the ledger -/
def tLamVL (P : Addr) (q : Str) (params : Arguments) (body : Expr) (scope : Scope) (cl : List (Str × Addr)) : TE := fun _ H Q => ∃ (ps : Array Value) (L R : Lg), Led H ((P, .tbl ps) :: (L ++ R)) ∧ TabL q ps L ∧
  ∀ (f c' : Addr) (ps' : Array Value) (Z : Lg) (H1 : Hp), Led H1 ((f, LamO f ⟨"<lambda>", q, params, [], scope, cl, c'⟩ body) :: (P, .tbl ps') :: (Z ++ (L ++ R))) → TabL q ps' (Z ++ L) → (c', CodeO c' q) ∈ Z ++ L → Q (.ref f) H1
theorem pe_lamvL {X : Cx} {q : Str} {c P : Addr} {params : Arguments} {body : Expr} {scope : Scope} {pos : Pos} (TB : TabB X.base X.mg c P) (hcode : X.env.code = .ref c) (hq : X.env.qual ++ "<lambda>" = q) (hdef : defaultsOf params X.env = ([], []))
    (hfree : ∀ y ∈ scope.names, y.2 = .free → X.env.scope.names.lookup y.1 = some .cell) : PE X (.Lambda params body scope pos) (tLamVL P q params body scope (cloFrom X.env.cells scope.names [])) := by
  refine ⟨fun pins s σ H Q I h => ?_⟩
  obtain ⟨ps, L, R, hL, hT, h⟩ := h
  refine lam_valueL I TB hcode hq hL hT hdef (fun y hy e => I.ok.has _ (.inl (hfree y hy e))) fun f c' ps' Z H1 s' I1 h1 h2 h3 => ?_
  exact ⟨.ref f, H1, I1, rfl, h f c' ps' Z H1 h1 h2 h3⟩
section
variable {X : Cx} {s : Shared} {H : Hp} {scope : Scope} {env : Env} {fp : List Addr}
theorem sl_listB : SlR (X.blk s H scope env fp) (rSlL X.K) := sl_list
theorem call_len_seqB : CallR (X.blk s H scope env fp) (.builtin "len") (fun xs H Q => ∃ p ys, xs = [.ref p] ∧ (SqL X.K H p ys ∨ SqT X.K H p ys) ∧ Q (.int ys.length) H) := call_len_seq
end
end Sd


/-! tuples that are told with their object: tuple(g), tuple(l); dict(t) of such a one -/
namespace Gx
open PySem PySem.Spec PyProof.Rows L2 GenW
section
variable {X : Cx}
def tTupleF (tg : TGen) : TE := fun σ H Q => tg σ H fun out H2 => ∀ (p : Addr) (o : Obj), H2 p = none → o.dict = none → Q (.ref p) (upd H2 p (.frz o (.tup out)))
/-- tuple(g) -/
theorem pe_tupleF {k : Nat} {e : Expr} {tg : TGen} {p pos : Pos} (h : PGen X k e tg (fun _ _ _ => False)) (hr : Room (k + 3) X.A) (hg : Gl X "tuple") (hmg : X.mg "tuple" = none)
    (he : starEach [e] X.env = (false, eval e X.env) :: starEach [] X.env := by rfl) : PE X (.Call (.Name "tuple" p) [e] [] pos) (tTupleF tg) := by
  refine ⟨fun pins s σ H Q I hq => ?_⟩
  refine wpAny_Call_Name_kw (ld_blt I hg hmg (u := .type "tuple") (by rfl) ?_ (by decide) (by decide))
  refine PyProof.Rows.callWith_type1 ?_ he rfl
  rw [he]
  show wpAny _ _ (spliced ((false, eval e X.env) :: backTo pos (starEach [] X.env))) _ _ s
  refine Calls.spliced_cons (thn (h.run pins s σ H _ I hq) fun u s1 ⟨H1, sc, ex, I1, hex, hG⟩ => ?_)
  refine Calls.spliced_nil ?_
  refine call_tuple_gx hr I1.ok.frames hG fun acc s' hd => ?_
  obtain ⟨H', ys, q1, q2, q3, q4, q5, q6, q7⟩ := hd
  have I2 : Inv X pins σ H' s' := I1.call' (ch := ex) q3 q5 q6 q4 hex
  refine ⟨.ref s'.heap.objs.size, _, I2.laid (t' := s'.toks) (fun b o e => Heap.get?_push_of_some _ e) (Nat.le_refl _) (o := .frz { cls := .type "tuple", data := .seq acc } (.tup ys)) ⟨Heap.get?_push_size _ rfl, q2, acc.toList, q1, ?_⟩, rfl, q7 _ _ (I2.hok.fresh (Nat.le_refl _)) rfl⟩
  exact ⟨_, Heap.get?_push_size _ rfl, rfl, 0, by simp⟩
end
end Gx
namespace Sd
open PySem PySem.Spec PyProof.Rows L2
section
variable {X : Cx}
def rTupF (K : PySem.W.Frag) : List V → Hp → VK → Prop := fun xs H Q => ∃ p ys, xs = [.ref p] ∧ ((SqL K H p ys ∧ ∀ (l : Addr) (o : Obj), H l = none → o.dict = none → Q (.ref l) (upd H l (.frz o (.tup ys)))) ∨ (SqT K H p ys ∧ Q (.ref p) H))
/-- tuple(x) of a list or a tuple -/
theorem call_tupleF : CallR X (.type "tuple") (rTupF X.K) := by
  intro pins s σ H xs us Q I r h
  obtain ⟨p, ys, rfl, h⟩ := h
  obtain ⟨u, rfl, rx⟩ := vals1 r
  cases rx
  rcases h with ⟨hq, q⟩ | ⟨hq, q⟩
  · obtain ⟨its, r', pl, hz⟩ := I.list hq
    have hlen := r'.length
    refine call_tuple_list pl.isList (fun h' kp => ?_) (by simp only [List.size_toArray] <;> omega)
    have I1 : Inv X pins σ H { s with heap := h' } := I.kept (t' := s.toks) kp
    have I2 : Inv X pins σ (upd H h'.objs.size (.frz { cls := .type "tuple", data := .seq its.toArray } (.tup ys))) { s with heap := h'.push { cls := .type "tuple", data := .seq its.toArray } } :=
      I1.laid (t' := s.toks) (fun b o e => Heap.get?_push_of_some _ e) (Nat.le_refl _) (show ObjOk X.prog X.w _ _ _ (.frz _ (.tup ys)) from ⟨Heap.get?_push_size _ rfl, hz, its, r', IsTup.new _ _⟩)
    exact ⟨.ref h'.objs.size, _, I2, rfl, q _ _ (I1.hok.fresh (Nat.le_refl _)) rfl⟩
  · obtain ⟨its, r', pl, hz⟩ := I.tuple hq
    exact call_tuple_same pl ⟨.ref p, H, I, rfl, q⟩
theorem pairs_of2 {pins : List (Addr × Obj)} {σ : L2.St} {H : Hp} {s : Shared} (I : Inv X pins σ H s) : ∀ {ps : List Addr} {kvs : List (Key × V)}, Paired (fun p kv => SqT X.K H p [kV kv.1, kv.2]) ps kvs →
    ∃ (prs : List (Key × Value)) (ps0 : List (Value × Value)), KV kvs prs ∧ prs.length = ps.length ∧ ps0.length = ps.length ∧ ∀ (j : Nat) (k v : Value), ps0[j]? = some (k, v) → ∃ (b : Addr) (q : Key), ps[j]? = some b ∧ IsTup s.heap b #[k, v] ∧ prs[j]? = some (q, v) ∧ (mixKind X.prog X.w).is q k = true
  | _, _, .nil => ⟨[], [], .nil, rfl, rfl, fun j k v e => by simp at e⟩
  | _, _, .cons (a := p) (b := kv) h t => by
    obtain ⟨prs, ps0, r, hl, hl0, hp⟩ := pairs_of2 I t
    obtain ⟨its, rv, ht, _⟩ := I.tuple h
    obtain ⟨u, y, ei, ru, ry⟩ := vals2 rv
    subst ei
    refine ⟨(kv.1, y) :: prs, (u, y) :: ps0, .cons ⟨rfl, ry⟩ r, by rw [List.length_cons, List.length_cons, hl], by rw [List.length_cons, List.length_cons, hl0], fun j k v e => ?_⟩
    cases j with
    | zero =>
      have e' : (u, y) = (k, v) := Option.some.inj e
      injection e' with e1 e2
      subst e1 e2
      exact ⟨p, kv.1, rfl, ht, rfl, kV_is (P := X.prog) (w := X.w) ru⟩
    | succ j =>
      obtain ⟨b, q, e1, e2, e3, e4⟩ := hp j k v (by simpa using e)
      exact ⟨b, q, by simpa using e1, e2, by simpa using e3, e4⟩
def rDictF (K : PySem.W.Frag) : List V → Hp → VK → Prop := fun xs H Q => ∃ (a : Addr) (o : Obj) (ps : List Addr) (kvs : List (Key × V)), xs = [.ref a] ∧ H a = some (.frz o (.tup (ps.map V.ref))) ∧ o.dict = none ∧ Paired (fun p kv => SqT K H p [kV kv.1, kv.2]) ps kvs ∧
    ∀ p, H p = none → Q (.ref p) (upd H p (.dK (mergeK [] kvs)))
/-- dict(t) of a tuple of pairs (key, value) -/
theorem call_dictF (hcalm : X.calm = true) : CallR X (.type "dict") (rDictF X.K) := by
  intro pins s σ H xs us Q I r q
  obtain ⟨a, o, ps, kvs, ex, hq, hod, hp, q⟩ := q
  subst ex
  obtain ⟨u, eu, rx⟩ := vals1 r
  subst eu
  cases rx
  obtain ⟨hx, hz, its, rv, o2, ho2, hc, n, hdat⟩ := (show ObjOk X.prog X.w H s.heap a (.frz o (.tup (ps.map V.ref))) from I.hok a _ hq)
  rw [hx] at ho2
  obtain rfl := Option.some.inj ho2
  have ei := refs_at rv
  subst ei
  rw [List.length_map] at hz
  obtain ⟨prs, ps0, rel, hl, hl0, hpr⟩ := pairs_of2 I hp
  refine PySem.call_dict_pairs (knd := mixKind X.prog X.w) (kvs := prs) (PairArg.tuple a (ps.map Value.ref).toArray (fun j => ps.getD j 0) ps0) (I.ok.hd hcalm) ⟨⟨o, n, hx, hc, hod, hdat⟩, ⟨by simp [hl0], fun j k v e => ?_⟩⟩ ⟨by rw [hl, hl0], fun i k v e => ?_⟩ (by rw [hl0]; exact hz) fun h' tk hd' k => ?_
  · obtain ⟨b, q, e1, e2, e3, e4⟩ := hpr j k v e
    have eb : ps.getD j 0 = b := by rw [List.getD_eq_getElem?_getD, e1]; rfl
    show _ = some (Value.ref (ps.getD j 0)) ∧ PairAt s.heap (ps.getD j 0) k v
    rw [eb]
    exact ⟨by simp [e1], .inl e2⟩
  · obtain ⟨b, q, e1, e2, e3, e4⟩ := hpr i k v e
    exact ⟨q, e3, e4⟩
  · have hm : (s.heap.objs.size == sysModules) = false := beq_eq_false_iff_ne.mpr (Nat.ne_of_gt I.big)
    have hlen : (mergeK [] kvs).length ≤ sizeLine := by
      refine Nat.le_trans (length_mergeK kvs []) ?_
      rw [List.length_nil, Nat.zero_add, rel.length, hl]
      exact hz
    exact ⟨.ref s.heap.objs.size, upd H s.heap.objs.size (.dK (mergeK [] kvs)), I.laid (t' := tk) (fun b o e => k b o (by simp) e) (Nat.le_refl _) (show ObjOk X.prog X.w _ _ _ (.dK (mergeK [] kvs)) from ⟨hlen, hm, merged [] prs, KV.merge rel .nil, hd'⟩), rfl, q _ (I.hok.fresh (Nat.le_refl _))⟩
end
end Sd


/-! a lambda made within a lambda's frame: code objects with tables of their own -/
namespace Sd
open PySem PySem.Spec PyProof.Rows L2 LamX NdefX
/-- a code object, its name, its table's place -/
def CodeT (c : Addr) (q : Str) (P : Addr) : HO := .ext fun h => PySem.W.CodeHd h c P ∧ ∃ (oc : Obj) (vs : Array Value) (t : Tok), h.get? c = some oc ∧ oc.data = .fields vs ∧ vs[1]? = some (.str q t)
theorem codeT_hd {P : Program} {w : World} {H : Hp} {h : Heap} {c Pc : Addr} {q : Str} (ok : HOk P w H h) (e : H c = some (CodeT c q Pc)) : PySem.W.CodeHd h c Pc := (ok c _ e).1.1
theorem CdAt.ofT {P : Program} {w : World} {H : Hp} {c Pc : Addr} {q : Str} (e : H c = some (CodeT c q Pc)) : CdAt P w H c q := fun _ ok => by
  obtain ⟨oc, vs, t, h1, h2, h3⟩ := (ok c _ e).1.2
  exact ⟨c, oc, vs, t, rfl, h1, h2, h3⟩
/-- the law's own table: each code with its own table, whose codes bear the name q2 -/
def TabT (q q2 : Str) (ps : Array Value) (L : Lg) : Prop := TriplesOk ps.toList ∧ ∀ (pos : Pos) (cv : Value), codeAmong pos ps.toList = some cv → ∃ (c P1 : Addr) (ps1 : Array Value), cv = .ref c ∧ (c, CodeT c q P1) ∈ L ∧ (P1, .tbl ps1) ∈ L ∧ TabL q2 ps1 L
theorem TabT.nil {q q2 : Str} {L : Lg} : TabT q q2 #[] L := ⟨by simp [TriplesOk], fun pos cv h => by simp [codeAmong] at h⟩
theorem TabT.mono {q q2 : Str} {ps : Array Value} {L L' : Lg} (h : TabT q q2 ps L) (s : ∀ x ∈ L, x ∈ L') : TabT q q2 ps L' :=
  ⟨h.1, fun pos cv e => let ⟨c, P1, ps1, e1, e2, e3, e4⟩ := h.2 pos cv e; ⟨c, P1, ps1, e1, s _ e2, s _ e3, e4.mono s⟩⟩
section
variable {M : Model} {A : Around} {E : Value → Shared → Prop} {s : Shared} {name qual : Str} {params : Arguments} {body : Expr} {scope : Scope} {env : Env} {c P : Addr} {ps : Array Value} {pos : Pos} {firstLine : Nat} {mg : Str → Option Value}
  {clos : List (Str × Addr)} {Q : Value → Shared → Prop}
/-- a new lambda whose code is new: the code's own header and table are told, too -/
theorem ln_make (hcl : closureFor scope env = pure clos) (hge0 : env.globals = mainGlobals) (hg : s.heap.Ns mainGlobals mg) (hcode : env.code = .ref c) (C : PySem.W.CodeHd s.heap c P) (hP : s.heap.get? P = some (PySem.W.tabObj ps)) (ht : TriplesOk ps.toList)
    (hnf : codeAmong pos ps.toList = none) (hgP : mainGlobals ≠ P) (hb : s.heap.BuiltinsAt mg P)
    (h : ∀ c' P' ctv h' tk, Heap.ExtBut P s.heap h' → s.heap.objs.size ≤ c' → c' < h'.objs.size → s.heap.objs.size ≤ P' → h'.CodeRec (.ref c') qual → h'.get? P = some (PySem.W.tabObj (ps ++ #[rawInt pos.line, rawInt pos.col, .ref c'])) → PySem.W.CodeHd h' c' P' → h'.get? P' = some (PySem.W.tabObj #[]) →
      Q (.ref h'.objs.size) { s with heap := h'.push (PySem.W.kla_obj name qual params body scope clos ((mg "__name__").getD .none) c' ctv), toks := tk }) :
    wpAny M A (makeFunction name qual params (.expr body) scope env [] [] [] pos firstLine) Q E s := by
  rw [makeFunction_eq]
  simp only [List.zip_nil_right, List.filterMap_nil, List.isEmpty_nil, if_true, pure_bind]
  show wpAny M A (makeTail name qual params (.expr body) scope env .none .none none pos firstLine) Q E s
  obtain ⟨bm, ob, hbm, hne0, _, hneP, hbo, hcls, hdict, hdata⟩ := hb
  have key : ∀ (hT : Heap) (ctv : Value), (∀ b o, s.heap.get? b = some o → hT.get? b = some o) → s.heap.objs.size ≤ hT.objs.size →
      wpAny M A (functionCode env pos firstLine name qual params scope (.expr body)) (fun cd s1 => wpAny M A (builtinsFor mainGlobals env.builtins) (fun bi s2 => wpAny M A (nsGet mainGlobals "__name__") (fun o s3 => bi = builtinsNs ∧
        ∃ c' h' tk, cd = .ref c' ∧ o = mg "__name__" ∧ s3 = { s with heap := h', toks := tk } ∧ Q (.ref h'.objs.size) { s with heap := h'.push (PySem.W.kla_obj name qual params body scope clos ((mg "__name__").getD .none) c' ctv), toks := tk }) E s2) E s1) E { s with heap := hT } := by
    intro hT ctv k1 k2
    refine wpAny_functionCodeX hcode ((C.keeps k1).code (k1 _ _ hP) ht) ((C.keeps k1).tab (k1 _ _ hP)) hnf fun c' h' tk hx hge hlt _ hrec htb ⟨P', hP', hic, hta⟩ => ?_
    have hx' : Heap.ExtBut P s.heap h' := fun b o hb' e => hx b o hb' (k1 b o e)
    have hg' := hg.extBut hx' hgP
    refine wpAny_builtinsFor hg' hbm hne0 (hx' _ _ hneP hbo) hcls hdict hdata (wpAny_nsGet hg' ⟨rfl, c', h', tk, rfl, rfl, rfl, ?_⟩)
    exact h c' P' ctv h' tk hx' (Nat.le_trans k2 hge) hlt (Nat.le_trans k2 hP') hrec htb.2 (PySem.W.CodeHd.of hic hta) hta.2
  unfold makeTail
  rw [hcl, hge0]
  refine wpAny_bind (wpAny_pure ?_)
  cases clos with
  | nil =>
    simp only [List.isEmpty_nil, if_true]
    refine wpAny_bind (wpAny_pure ?_)
    refine wpAny_bind (wpAny_mono (key s.heap .none (fun _ _ e => e) (Nat.le_refl _)) (fun cd s1 h1 => ?_) fun _ _ e => e)
    refine wpAny_bind (wpAny_mono h1 (fun bi s2 h2 => ?_) fun _ _ e => e)
    refine wpAny_bind (wpAny_mono h2 (fun o s3 h3 => ?_) fun _ _ e => e)
    obtain ⟨rfl, c', h', tk, rfl, rfl, rfl, hq⟩ := h3
    exact wpAny_bind (wpAny_pure (wpAny_newObj_type hq (by size_fits)))
  | cons q r =>
    simp only [List.isEmpty_cons, Bool.false_eq_true, if_false]
    refine wpAny_bind (wpAny_newTextTuple ?_)
    refine wpAny_bind (wpAny_mono (key _ (.ref s.heap.objs.size) (fun b o e => Heap.get?_push_of_some _ e) (by rw [Heap.size_push]; omega)) (fun cd s1 h1 => ?_) fun _ _ e => e)
    refine wpAny_bind (wpAny_mono h1 (fun bi s2 h2 => ?_) fun _ _ e => e)
    refine wpAny_bind (wpAny_mono h2 (fun o s3 h3 => ?_) fun _ _ e => e)
    obtain ⟨rfl, c', h', tk, rfl, rfl, rfl, hq⟩ := h3
    exact wpAny_bind (wpAny_pure (wpAny_newObj_type hq (by size_fits)))
end
section
variable {X : Cx} {pins : List (Addr × Obj)} {σ : L2.St} {H : Hp} {s : Shared}
/-- the table grows; the new code and its table are told -/
theorem inv_codeT {P c P' : Addr} {q : Str} {ps more : Array Value} {h' : Heap} {t' : Nat} (I : Inv X pins σ H s) (hP : H P = some (.tbl ps)) (k : ∀ b o, b ≠ P → s.heap.get? b = some o → h'.get? b = some o)
    (hm : h'.get? P = some { cls := .none, data := .fields (ps ++ more) }) (hc : s.heap.objs.size ≤ c) (hp : s.heap.objs.size ≤ P') (hne : c ≠ P') (hd : PySem.W.CodeHd h' c P') (hr : h'.CodeRec (.ref c) q) (ht : h'.get? P' = some (PySem.W.tabObj #[])) :
    Inv X pins σ (upd (upd (upd H P (.tbl (ps ++ more))) c (CodeT c q P')) P' (.tbl #[])) { s with heap := h', toks := t' } := by
  have I1 : Inv X pins σ (upd H P (.tbl (ps ++ more))) { s with heap := h', gens := s.gens, drawn := s.drawn, toks := t' } := GxR.inv_tab I hP k hm I.bare
  have nC : H c = none := I.hok.fresh hc
  have nP' : H P' = none := I.hok.fresh hp
  have nPc : c ≠ P := (ne_of_none hP nC).symm
  have nPP : P' ≠ P := (ne_of_none hP nP').symm
  have I2 := I1.take (h' := h') (t' := t') (it := c) (o := CodeT c q P') (fun b ob _ e => e) (I.fpOk hc (by rw [upd_ne nPc]; exact nC)) (by
    obtain ⟨c₂, oc, vs, t, e, h1, h2, h3⟩ := hr
    cases e
    refine ⟨⟨hd, oc, vs, t, h1, h2, h3⟩, ⟨oc, h1⟩, fun h1 h2 ⟨z1, oc, vs, t, a, b, d⟩ st => ⟨?_, oc, vs, t, st _ a, b, d⟩⟩
    obtain ⟨o, vs, file, tf, flags, tg, inF, text, tt, e, r⟩ := z1
    exact ⟨o, vs, file, tf, flags, tg, inF, text, tt, st _ e, r⟩)
  exact I2.take (h' := h') (t' := t') (it := P') (o := .tbl #[]) (fun b ob _ e => e) (I.fpOk hp (by rw [upd_ne hne.symm, upd_ne nPP]; exact nP')) ht
theorem codeHd_ne {h : Heap} {c P : Addr} (x : PySem.W.CodeHd h c P) : c ≠ P := let ⟨_, _, _, _, _, _, _, _, _, _, _, _, _, _, _, _, _, _, e⟩ := x; e
theorem lam_valueT {q q2 : Str} {c P : Addr} {params : Arguments} {body : Expr} {scope : Scope} {pos : Pos} {E : Value → Shared → Prop} {Q : Value → Shared → Prop} {ps : Array Value} {L R : Lg} (I : Inv X pins σ H s) (TB : TabB X.base X.mg c P) (hcode : X.env.code = .ref c) (hq : X.env.qual ++ "<lambda>" = q)
    (hL : Led H ((P, .tbl ps) :: (L ++ R))) (hT : TabT q q2 ps L) (hdef : defaultsOf params X.env = ([], [])) (hfree : ∀ y ∈ scope.names, y.2 = .free → ∃ c, X.env.cells.lookup y.1 = some c)
    (h : ∀ (f c' P1 : Addr) (ps1 ps' : Array Value) (Z : Lg) (H1 : Hp) (s' : Shared), Inv X pins σ H1 s' → Led H1 ((f, LamO f ⟨"<lambda>", q, params, [], scope, cloFrom X.env.cells scope.names [], c'⟩ body) :: (P, .tbl ps') :: (Z ++ (L ++ R))) → TabT q q2 ps' (Z ++ L) → (c', CodeT c' q P1) ∈ Z ++ L → (P1, .tbl ps1) ∈ Z ++ L → TabL q2 ps1 (Z ++ L) → Q (.ref f) s') :
    wpAny (model X.prog X.w) X.A (eval (.Lambda params body scope pos) X.env) Q E s := by
  subst hq
  obtain ⟨ht, ha⟩ := hT
  have hP : H P = some (.tbl ps) := hL.at ⟨0, rfl⟩
  have bP : s.heap.BuiltinsAt X.mg P := TB.bm.keeps I.bk
  have hP' : s.heap.get? P = some { cls := .none, data := .fields ps } := I.hok P _ hP
  refine PySem.W.kla_eval hdef ?_
  rcases hc : codeAmong pos ps.toList with _ | cv
  · refine ln_make (mg := X.mg) (c := c) (P := P) (ps := ps) (closure_ok hfree) I.ok.glob (I.mod.glob.keeps I.bk) hcode (TB.code.keeps I.bk) hP' ht hc TB.gP bP fun c' P1 ctv h' tk hx hge hlt hge1 hrec htb hhd ht1 => ?_
    have I1 := inv_codeT (t' := tk) (more := #[rawInt pos.line, rawInt pos.col, .ref c']) (h' := h') I hP (fun b o hb e => hx b o hb e) htb hge hge1 (codeHd_ne hhd) hhd hrec ht1
    have nC : H c' = none := I.hok.fresh hge
    have nP1 : H P1 = none := I.hok.fresh hge1
    have L1 : Led (upd (upd (upd H P (.tbl (ps ++ #[rawInt pos.line, rawInt pos.col, .ref c']))) c' (CodeT c' (X.env.qual ++ "<lambda>") P1)) P1 (.tbl #[])) ((P1, .tbl #[]) :: (c', CodeT c' (X.env.qual ++ "<lambda>") P1) :: (P, .tbl (ps ++ #[rawInt pos.line, rawInt pos.col, .ref c'])) :: (L ++ R)) :=
      ((hL.head).new (by rw [upd_ne (ne_of_none hP nC).symm]; exact nC)).new (by rw [upd_ne (codeHd_ne hhd).symm, upd_ne (ne_of_none hP nP1).symm]; exact nP1)
    have nF := I1.hok.fresh (Nat.le_refl _)
    have I2 := inv_lam (F := ⟨"<lambda>", X.env.qual ++ "<lambda>", params, [], scope, cloFrom X.env.cells scope.names [], c'⟩) (b := body) (t' := tk) (pm := (X.mg "__name__").getD .none) (ctv := ctv) I1
    have eL : (ps ++ #[rawInt pos.line, rawInt pos.col, .ref c']).toList = ps.toList ++ [rawInt pos.line, rawInt pos.col, .ref c'] := by simp
    refine h h'.objs.size c' P1 #[] _ [(P1, .tbl #[]), (c', CodeT c' (X.env.qual ++ "<lambda>") P1)] _ _ I2 ((L1.new nF).perm (.cons _ ((List.Perm.cons _ (.swap _ _ _)).trans (.swap _ _ _)))) ⟨by rw [eL]; exact PySem.TriplesOk_snoc _ _ _ _ ht, fun p' cv hcv => ?_⟩ (.tail _ (.head _)) (.head _) .nil
    rw [eL] at hcv
    rcases among_app _ ht hcv with z | z
    · obtain ⟨c0, P0, ps0, e1, e2, e3, e4⟩ := ha p' cv z
      exact ⟨c0, P0, ps0, e1, .tail _ (.tail _ e2), .tail _ (.tail _ e3), e4.mono fun x hx => .tail _ (.tail _ hx)⟩
    · exact ⟨c', P1, #[], z, .tail _ (.head _), .head _, .nil⟩
  · obtain ⟨c', P1, ps1, e, hco, hp1, ht1⟩ := ha pos cv hc
    subst e
    refine PySem.W.kla_makeFunctionHit (mg := X.mg) (c := c) (P := P) (ps := ps) (closure_ok hfree) I.ok.glob (I.mod.glob.keeps I.bk) hcode (TB.code.keeps I.bk) hP' ht hc bP fun ctv h' tk hx hsz => ?_
    have I1 : Inv X pins σ H { s with heap := h', toks := tk } := I.kept hx
    have nF : H h'.objs.size = none := I1.hok.fresh (Nat.le_refl _)
    have I2 := inv_lam (F := ⟨"<lambda>", X.env.qual ++ "<lambda>", params, [], scope, cloFrom X.env.cells scope.names [], c'⟩) (b := body) (t' := tk) (pm := (X.mg "__name__").getD .none) (ctv := ctv) I1
    exact h h'.objs.size c' P1 ps1 ps [] _ _ I2 (hL.new nF) ⟨ht, ha⟩ hco hp1 ht1
end
/-- lambda: body, at the law's level -/
def tLamVT (P : Addr) (q q2 : Str) (params : Arguments) (body : Expr) (scope : Scope) (cl : List (Str × Addr)) : TE := fun _ H Q => ∃ (ps : Array Value) (L R : Lg), Led H ((P, .tbl ps) :: (L ++ R)) ∧ TabT q q2 ps L ∧
  ∀ (f c' P1 : Addr) (ps1 ps' : Array Value) (Z : Lg) (H1 : Hp), Led H1 ((f, LamO f ⟨"<lambda>", q, params, [], scope, cl, c'⟩ body) :: (P, .tbl ps') :: (Z ++ (L ++ R))) → TabT q q2 ps' (Z ++ L) → (c', CodeT c' q P1) ∈ Z ++ L → (P1, .tbl ps1) ∈ Z ++ L → TabL q2 ps1 (Z ++ L) → Q (.ref f) H1
theorem pe_lamvT {X : Cx} {q q2 : Str} {c P : Addr} {params : Arguments} {body : Expr} {scope : Scope} {pos : Pos} (TB : TabB X.base X.mg c P) (hcode : X.env.code = .ref c) (hq : X.env.qual ++ "<lambda>" = q) (hdef : defaultsOf params X.env = ([], []))
    (hfree : ∀ y ∈ scope.names, y.2 = .free → X.env.scope.names.lookup y.1 = some .cell) : PE X (.Lambda params body scope pos) (tLamVT P q q2 params body scope (cloFrom X.env.cells scope.names [])) := by
  refine ⟨fun pins s σ H Q I h => ?_⟩
  obtain ⟨ps, L, R, hL, hT, h⟩ := h
  refine lam_valueT I TB hcode hq hL hT hdef (fun y hy e => I.ok.has _ (.inl (hfree y hy e))) fun f c' P1 ps1 ps' Z H1 s' I1 h1 h2 h3 h4 h5 => ?_
  exact ⟨.ref f, H1, I1, rfl, h f c' P1 ps1 ps' Z H1 h1 h2 h3 h4 h5⟩
/-- lambda: body, within a lambda's frame whose code object is c -/
def tLamVI (c : Addr) (q2 : Str) (params : Arguments) (body : Expr) (scope : Scope) (cl : List (Str × Addr)) : TE := fun _ H Q => ∃ (q : Str) (P1 : Addr) (ps : Array Value) (L R : Lg), Led H ((P1, .tbl ps) :: (L ++ R)) ∧ H c = some (CodeT c q P1) ∧ TabL q2 ps L ∧
  ∀ (f c' : Addr) (ps' : Array Value) (Z : Lg) (H1 : Hp), Led H1 ((f, LamO f ⟨"<lambda>", q2, params, [], scope, cl, c'⟩ body) :: (P1, .tbl ps') :: (Z ++ (L ++ R))) → TabL q2 ps' (Z ++ L) → (c', CodeO c' q2) ∈ Z ++ L → Q (.ref f) H1
theorem pe_lamvI {X : Cx} {q2 : Str} {c c0 P0 : Addr} {params : Arguments} {body : Expr} {scope : Scope} {pos : Pos} (TB : TabB X.base X.mg c0 P0) (hcode : X.env.code = .ref c) (hq : X.env.qual ++ "<lambda>" = q2) (hdef : defaultsOf params X.env = ([], []))
    (hfree : ∀ y ∈ scope.names, y.2 = .free → X.env.scope.names.lookup y.1 = some .free) : PE X (.Lambda params body scope pos) (tLamVI c q2 params body scope (cloFrom X.env.cells scope.names [])) := by
  refine ⟨fun pins s σ H Q I h => ?_⟩
  subst hq
  obtain ⟨q, P, ps, L, R, hL, hcT, ⟨ht, ha⟩, h⟩ := h
  have hP : H P = some (.tbl ps) := hL.at ⟨0, rfl⟩
  have hfr : ∀ y ∈ scope.names, y.2 = .free → ∃ c, X.env.cells.lookup y.1 = some c := fun y hy e => I.ok.has _ (.inr (hfree y hy e))
  have bP : s.heap.BuiltinsAt X.mg P := by
    obtain ⟨bm, o, e1, e2, e3, e4, e5, e6⟩ := TB.bm
    exact ⟨bm, o, e1, e2, e3, (fun z => by rw [z] at e5; rw [(I.bs _ _ e5).2] at hP; cases hP), I.bk _ _ e5, e6⟩
  have gP : mainGlobals ≠ P := fun z => by
    obtain ⟨o, es, ep, ho, _⟩ := I.mod.glob
    rw [z] at ho
    rw [(I.bs _ _ ho).2] at hP; cases hP
  have hP' : s.heap.get? P = some { cls := .none, data := .fields ps } := I.hok P _ hP
  have hhd : PySem.W.CodeHd s.heap c P := codeT_hd I.hok hcT
  refine PySem.W.kla_eval hdef ?_
  rcases hc : codeAmong pos ps.toList with _ | cv
  · refine PySem.W.kla_makeFunction (mg := X.mg) (c := c) (P := P) (ps := ps) (closure_ok hfr) I.ok.glob (I.mod.glob.keeps I.bk) hcode hhd hP' ht hc gP bP fun c' ctv h' tk hx hge hlt hrec htb => ?_
    obtain ⟨_, oc, vs, t, e2, hoc, hd, hv⟩ := hrec
    cases e2
    have nC : H c' = none := I.hok.fresh hge
    have I1 := inv_table (t' := tk) (more := #[rawInt pos.line, rawInt pos.col, .ref c']) (h' := h') I hP (fun b o hb e => hx b o hb e) htb hge ⟨oc, vs, t, hoc, hd, hv⟩
    have L1 : Led (upd (upd H P (.tbl (ps ++ #[rawInt pos.line, rawInt pos.col, .ref c']))) c' (CodeO c' (X.env.qual ++ "<lambda>"))) ((c', CodeO c' (X.env.qual ++ "<lambda>")) :: (P, .tbl (ps ++ #[rawInt pos.line, rawInt pos.col, .ref c'])) :: (L ++ R)) :=
      (hL.head).new (by rw [upd_ne (ne_of_none hP nC).symm]; exact nC)
    have nF := I1.hok.fresh (Nat.le_refl _)
    have I2 := inv_lam (F := ⟨"<lambda>", X.env.qual ++ "<lambda>", params, [], scope, cloFrom X.env.cells scope.names [], c'⟩) (b := body) (t' := tk) (pm := (X.mg "__name__").getD .none) (ctv := ctv) I1
    have eL : (ps ++ #[rawInt pos.line, rawInt pos.col, .ref c']).toList = ps.toList ++ [rawInt pos.line, rawInt pos.col, .ref c'] := by simp
    refine ⟨.ref h'.objs.size, _, I2, rfl, h h'.objs.size c' _ [(c', CodeO c' (X.env.qual ++ "<lambda>"))] _ ((L1.new nF).perm (.cons _ (.swap _ _ _))) ⟨by rw [eL]; exact PySem.TriplesOk_snoc _ _ _ _ ht, fun p' cv hcv => ?_⟩ (.head _)⟩
    rw [eL] at hcv
    rcases among_app _ ht hcv with z | z
    · obtain ⟨c0, e1, e2⟩ := ha p' cv z
      exact ⟨c0, e1, .tail _ e2⟩
    · exact ⟨c', z, .head _⟩
  · obtain ⟨c', e, hco⟩ := ha pos cv hc
    subst e
    refine PySem.W.kla_makeFunctionHit (mg := X.mg) (c := c) (P := P) (ps := ps) (closure_ok hfr) I.ok.glob (I.mod.glob.keeps I.bk) hcode hhd hP' ht hc bP fun ctv h' tk hx hsz => ?_
    have I1 : Inv X pins σ H { s with heap := h', toks := tk } := I.kept hx
    have nF : H h'.objs.size = none := I1.hok.fresh (Nat.le_refl _)
    have I2 := inv_lam (F := ⟨"<lambda>", X.env.qual ++ "<lambda>", params, [], scope, cloFrom X.env.cells scope.names [], c'⟩) (b := body) (t' := tk) (pm := (X.mg "__name__").getD .none) (ctv := ctv) I1
    exact ⟨.ref h'.objs.size, _, I2, rfl, h h'.objs.size c' ps [] _ (hL.new nF) ⟨ht, ha⟩ hco⟩
end Sd


/-! l != [] of a list of any things -/
namespace Sd
open PySem PySem.Spec PyProof.Rows L2
def rNeNil : R2 := fun x y H Q => ∃ (a b : Addr) (xs : List V), x = .ref a ∧ y = .ref b ∧ H a = some (.lst xs) ∧ H b = some (.lst []) ∧ Q (.bl (!xs.isEmpty)) H
theorem op_neNil {X : Cx} (hu : X.A.units + 64 < cLine) : OpR X (compareOp .NotEq) rNeNil := by
  intro pins s σ H x y v u Q I rx ry h
  obtain ⟨a, b, xs, rfl, rfl, ha, hb, q⟩ := h
  cases (show v = Value.ref a from rx)
  cases (show u = Value.ref b from ry)
  obtain ⟨_, its, n, _, e1, hl⟩ := I.lstM ha
  obtain ⟨_, its2, n2, _, e2, hl2⟩ := I.lstM hb
  have l1 : s.heap.IsList a its.toArray := ⟨_, hl, rfl, _, rfl⟩
  have l2 : s.heap.IsList b its2.toArray := ⟨_, hl2, rfl, _, rfl⟩
  have e2 : its2.length = 0 := e2.symm
  by_cases hx : xs = []
  · subst hx
    have e1 : its.length = 0 := e1.symm
    have h0 : its = [] := List.length_eq_zero_iff.mp e1
    have h02 : its2 = [] := List.length_eq_zero_iff.mp e2
    subst h0 h02
    have := PySem.SeqAt.RcNeAt.lists (A := X.A) (e := fun _ => true) l1 l2 rfl (by omega) (fun j h1 _ => absurd h1 (by simp)) X.prog X.w X.xe
    exact this _ ⟨.bl false, H, I, rfl, q⟩
  · have hb : (!xs.isEmpty) = true := by cases xs <;> simp at hx ⊢
    rw [hb] at q
    have hsz : (its.toArray.size != its2.toArray.size) = true := by
      have : xs.length ≠ 0 := fun e => hx (List.length_eq_zero_iff.mp e)
      simp only [List.size_toArray, bne_iff_ne]
      omega
    exact PySem.SeqAt.RcNeAt.lists_lengths (A := X.A) l1 l2 hsz (by omega) X.prog X.w X.xe _ ⟨.bl true, H, I, rfl, q⟩
end Sd


set_option linter.unusedVariables false
/-! A dict whose keys are ints and tuples (of ints and texts) side by side. -/
namespace Mx
open PySem PySem.Spec PyProof.Rows L2 PySem.SeqAt
abbrev MK := Int ⊕ List Key
section
variable (P : Program) (w : World)
def mIs (h : Heap) : MK → Value → Prop
  | .inl i, v => ∃ t, v = .int i t
  | .inr ks, v => ∃ a, v = .ref a ∧ (tupleKind (mixKind P w)).is h ks a
def mHash : MK → Int
  | .inl i => (mixKind P w).hash (.inl i)
  | .inr ks => (tupleKind (mixKind P w)).hash ks
def mDraw : MK → Nat
  | .inl _ => 1
  | .inr ks => (tupleKind (mixKind P w)).draws ks
end
section
variable {P : Program} {w : World} {A : Around} {E : Value → Shared → Prop} {s : Shared}
theorem mIs.inj {h : Heap} {x y : MK} {v : Value} (hx : mIs P w h x v) (hy : mIs P w h y v) : x = y := by
  cases x with
  | inl i =>
    obtain ⟨t, rfl⟩ := hx
    cases y with
    | inl j =>
      obtain ⟨u, e⟩ := hy
      injection e with e1 e2
      rw [e1]
    | inr ks =>
      obtain ⟨a, e, _⟩ := hy
      cases e
  | inr ks =>
    obtain ⟨a, rfl, k1⟩ := hx
    cases y with
    | inl j =>
      obtain ⟨u, e⟩ := hy
      cases e
    | inr js =>
      obtain ⟨b, e, k2⟩ := hy
      cases e
      rw [(tupleKind (mixKind P w)).inj k1 k2]
theorem m_hash {k : MK} {v : Value} {Q : Int → Shared → Prop} (hu : A.units < cLine) (hk : mIs P w s.heap k v) (h : Q (mHash P w k) { s with toks := s.toks + mDraw P w k }) : wpAny (model P w) A (pyHash v) Q E s := by
  cases k with
  | inl i =>
    obtain ⟨t, rfl⟩ := hk
    exact (mixKind P w).pyHash (mixKind_int P w i t) h
  | inr ks =>
    obtain ⟨a, rfl, k1⟩ := hk
    exact (tupleKind (mixKind P w)).pyHash hu k1 h
theorem is_tup {h : Heap} {ks : List Key} {a : Addr} (k : (tupleKind (mixKind P w)).is h ks a) : ∃ items, h.IsTuple a items := by
  obtain ⟨o, items, n, h1, h2, h3, _⟩ := k
  exact ⟨items, o, h1, h2, n, h3⟩
theorem m_eq {x y : MK} {u v : Value} {Q : Bool → Shared → Prop} (hu : A.units < cLine) (hx : mIs P w s.heap x u) (hy : mIs P w s.heap y v) (h : Q (decide (x = y)) s) : wpAny (model P w) A (eqBool u v) Q E s := by
  cases x with
  | inl i =>
    obtain ⟨t, rfl⟩ := hx
    cases y with
    | inl j =>
      obtain ⟨u, rfl⟩ := hy
      refine wpAny_eqBool_int ?_
      have e : decide ((Sum.inl i : MK) = Sum.inl j) = (i == j) := by
        by_cases q : i = j
        · subst q; simp
        · have q2 : ¬ (Sum.inl i : MK) = Sum.inl j := fun z => q (by injection z)
          rw [decide_eq_false q2]
          simp [q]
      rw [← e]
      exact h
    | inr ks =>
      obtain ⟨a, rfl, k1⟩ := hy
      obtain ⟨items, ht⟩ := is_tup k1
      refine EqAt.int_tuple i t ht hu P w E Q ?_
      rw [decide_eq_false (fun z => by cases z)] at h
      exact h
  | inr ks =>
    obtain ⟨a, rfl, k1⟩ := hx
    cases y with
    | inl j =>
      obtain ⟨u, rfl⟩ := hy
      obtain ⟨items, ht⟩ := is_tup k1
      refine EqAt.tuple_int j u ht hu P w E Q ?_
      rw [decide_eq_false (fun z => by cases z)] at h
      exact h
    | inr js =>
      obtain ⟨b, rfl, k2⟩ := hy
      refine (tupleKind (mixKind P w)).eqBool hu k1 k2 ?_
      have e : decide ((Sum.inr ks : MK) = Sum.inr js) = decide (ks = js) := by
        by_cases q : ks = js
        · subst q; simp
        · have q2 : ¬ (Sum.inr ks : MK) = Sum.inr js := fun z => q (by injection z)
          rw [decide_eq_false q2, decide_eq_false q]
      rw [← e]
      exact h
theorem m_quiet {k : MK} {v : Value} {Q : Bool → Shared → Prop} (hk : mIs P w s.heap k v) (h : Q true s) : wpAny (model P w) A (eqIsQuiet 8 v) Q E s := by
  cases k with
  | inl i =>
    obtain ⟨t, rfl⟩ := hk
    rw [eqIsQuiet_byValue 8 (show carriedByValue (.int i t) = true from rfl)]
    exact wpAny_pure h
  | inr ks =>
    obtain ⟨a, rfl, k1⟩ := hk
    exact (tupleKind (mixKind P w)).quiet k1 h
theorem mIs.keeps {h h' : Heap} {k : MK} {v : Value} {d : Addr} {o : Obj} {es ep} (x : mIs P w h k v) (ho : h.get? d = some o) (hd : o.data = .dict es ep) (hs : Heap.SameBut d h h') : mIs P w h' k v := by
  cases k with
  | inl i => exact x
  | inr ks =>
    obtain ⟨a, rfl, k1⟩ := x
    exact ⟨a, rfl, (tupleKind (mixKind P w)).keeps k1 ho hd hs⟩
end
/-! ### the entries -/
abbrev ME := MK × Value × Value
section
variable (P : Program) (w : World)
def mEnt (x : ME) : DictEntry := ⟨mHash P w x.1, x.2.1, x.2.2⟩
/-- the dict at d has these entries; the keys stand in the heap -/
structure MD (h : Heap) (d : Addr) (xs : List ME) : Prop where
  ex : ∃ o es ep, h.get? d = some o ∧ o.ExactDict ∧ o.data = .dict es ep ∧ es.toList = xs.map (mEnt P w)
  nd : (xs.map (·.1)).Nodup
end
def mAt (xs : List ME) (k : MK) : Option Value := (xs.find? fun x => decide (x.1 = k)).map (·.2.2)
theorem mAt_get {k : MK} : ∀ {xs : List ME} {j : Nat} {p : Value × Value}, (xs.map (·.1)).Nodup → xs[j]? = some (k, p) → mAt xs k = some p.2
  | [], _, _, _, h => by simp at h
  | x :: r, 0, p, _, h => by
    rw [List.getElem?_cons_zero] at h
    cases h
    simp [mAt]
  | x :: r, j + 1, p, hn, h => by
    rw [List.getElem?_cons_succ] at h
    rw [List.map_cons, List.nodup_cons] at hn
    have hne : ¬ x.1 = k := fun e => hn.1 (e ▸ List.mem_map.mpr ⟨(k, p), List.mem_of_getElem? h, rfl⟩)
    have := mAt_get hn.2 h
    unfold mAt at this ⊢
    rw [List.find?_cons, decide_eq_false hne]
    exact this
theorem mAt_none {k : MK} {xs : List ME} (h : ∀ (j : Nat) (p : Value × Value), xs[j]? ≠ some (k, p)) : mAt xs k = none ∧ k ∉ xs.map (·.1) := by
  have hn : k ∉ xs.map (·.1) := fun hm => by
    obtain ⟨x, hx, rfl⟩ := List.mem_map.mp hm
    obtain ⟨j, hj⟩ := List.mem_iff_getElem?.mp hx
    exact h j x.2 hj
  refine ⟨?_, hn⟩
  unfold mAt
  rw [List.find?_eq_none.mpr fun x hx e => hn (List.mem_map.mpr ⟨x, hx, of_decide_eq_true e⟩)]
  rfl
theorem one_place {xs : List ME} (hn : (xs.map (·.1)).Nodup) {i j : Nat} {k : MK} {p q : Value × Value} (h1 : xs[i]? = some (k, p)) (h2 : xs[j]? = some (k, q)) : i = j := by
  have e1 : (xs.map (·.1))[i]? = some k := by rw [List.getElem?_map, h1]; rfl
  have e2 : (xs.map (·.1))[j]? = some k := by rw [List.getElem?_map, h2]; rfl
  exact (List.getElem?_inj (List.getElem?_eq_some_iff.mp e1).1 hn).mp (e1.trans e2.symm)
section
variable {P : Program} {w : World} {A : Around} {E : Value → Shared → Prop} {s : Shared}
theorem tell_quiet {k : MK} {v : Value} {stored : List Value} {Q : Bool → Shared → Prop} (hk : mIs P w s.heap k v) (hst : ∀ u ∈ stored, ∃ j, mIs P w s.heap j u) (h : Q false s) : wpAny (model P w) A (tableMayTell v stored) Q E s := by
  unfold tableMayTell
  by_cases he : stored.isEmpty = true
  · rw [if_pos he]
    exact wpAny_pure h
  · rw [if_neg he]
    refine wpAny_bind (m_quiet hk ?_)
    rw [if_neg (by simp)]
    refine wpAny_bind (wpAny_forIn_list _ (fun rest r s' => s' = s ∧ r = (none, ()) ∧ ∀ u ∈ rest, ∃ j, mIs P w s.heap j u) _ (fun x rest r s' hI => ?_) (fun r s' hI => ?_) _ _ ⟨rfl, rfl, hst⟩)
    · obtain ⟨rfl, rfl, hr⟩ := hI
      obtain ⟨j, hj⟩ := hr x List.mem_cons_self
      refine wpAny_bind (m_quiet hj ?_)
      rw [if_neg (by simp)]
      exact wpAny_pure ⟨rfl, rfl, fun u hu => hr u (List.mem_cons_of_mem _ hu)⟩
    · obtain ⟨rfl, rfl, _⟩ := hI
      exact wpAny_pure h
set_option hygiene false in
local macro_rules | `(tactic| fail "mloop") => `(tactic| (
  rw [if_neg (by simp)]
  refine wpAny_bind (wpAny_forIn_list _ (fun rest b s' => s' = s ∧ ∃ hit done, b = (none, hit) ∧ L = done ++ rest ∧ ((hit = none ∧ ∀ j ∈ done, ∀ p, xs[j]? ≠ some (k, p)) ∨ ∃ j p, hit = some j ∧ j ∈ done ∧ xs[j]? = some (k, p))) _ (fun x rest b s' hI => ?_) (fun b s' hI => ?_) _ _ ⟨rfl, none, [], rfl, rfl, .inl ⟨rfl, fun j hj => by cases hj⟩⟩)
  · obtain ⟨rfl, hit, done, rfl, hLd, hH⟩ := hI
    obtain ⟨y, hy, hey, hh, hiy⟩ := stepE hLd
    simp only [hey]
    rw [if_pos (show ((mEnt P w y).hash == mHash P w k) = true from hh)]
    refine wpAny_bind (wpAny_dictEpoch ho hd (wpAny_bind (m_eq hu hiy hk (wpAny_bind (wpAny_dictEpoch ho hd ?_)))))
    rw [if_neg (by simp)]
    by_cases hkk : y.1 = k
    · rw [decide_eq_true hkk]
      subst hkk
      rcases hH with ⟨rfl, hno⟩ | ⟨j, p, _, hjd, hj⟩
      · rw [if_pos rfl, if_neg (by simp)]
        refine wpAny_bind (wpAny_rule ?_)
        split
        · exact wpAny_pure (wpAny_pure (hsome x y.2 hy))
        · exact wpAny_pure ⟨rfl, some x, done ++ [x], rfl, by rw [hLd]; simp, .inr ⟨x, y.2, rfl, by simp, hy⟩⟩
      · have e := one_place hn hj (show xs[x]? = some (y.1, y.2) from hy)
        rw [hLd] at hnd
        exact absurd e ((List.nodup_append.mp hnd).2.2 j hjd x List.mem_cons_self)
    · rw [decide_eq_false hkk, if_neg (by simp)]
      refine wpAny_bind (wpAny_rule ?_)
      rw [if_neg (by simp)]
      refine wpAny_pure ⟨rfl, hit, done ++ [x], rfl, by rw [hLd]; simp, ?_⟩
      rcases hH with ⟨h0, hno⟩ | ⟨j, p, h1, hjd, hj⟩
      · exact .inl ⟨h0, noHit hno hy hkk⟩
      · exact .inr ⟨j, p, h1, List.mem_append_left _ hjd, hj⟩
  · obtain ⟨rfl, hit, done, rfl, hLd, hH⟩ := hI
    rw [List.append_nil] at hLd
    rcases hH with ⟨rfl, hno⟩ | ⟨j, p, rfl, _, hj⟩
    · exact wpAny_pure (fin (by rw [hLd]; exact hno))
    · exact wpAny_pure (hsome j p hj)))
theorem m_find {d : Addr} {k : MK} {v : Value} {xs : List ME} {Q : Option Nat → Shared → Prop} (hu : A.units < cLine) (hk : mIs P w s.heap k v) (hm : MD P w s.heap d xs) (his : ∀ x ∈ xs, mIs P w s.heap x.1 x.2.1)
    (hnone : (∀ (j : Nat) (p : Value × Value), xs[j]? ≠ some (k, p)) → Q none s) (hsome : ∀ (j : Nat) (p : Value × Value), xs[j]? = some (k, p) → Q (some j) s) :
    wpAny (model P w) A (dictFind d v (mHash P w k)) Q E s := by
  obtain ⟨⟨o, es, ep, ho, hc, hd, he⟩, hn⟩ := hm
  have hat : ∀ j, es[j]? = (xs[j]?).map (mEnt P w) := fun j => by rw [← Array.getElem?_toList, he, List.getElem?_map]
  have hsz : es.size = xs.length := by rw [← Array.length_toList, he, List.length_map]
  obtain ⟨L, hL⟩ : ∃ L, L = placesWithHash es.size (fun i => es[i]?.map (·.hash)) (mHash P w k) := ⟨_, rfl⟩
  have hmL : ∀ j, j ∈ L → ∃ x, xs[j]? = some x ∧ mHash P w x.1 = mHash P w k := fun j hj => by
    rw [hL] at hj
    unfold placesWithHash at hj
    obtain ⟨h1, h2⟩ := List.mem_filter.mp hj
    have h2 : (es[j]?).map (·.hash) = some (mHash P w k) := eq_of_beq h2
    rw [hat] at h2
    cases hx : xs[j]? with
    | none => rw [hx] at h2; cases h2
    | some x =>
      rw [hx] at h2
      exact ⟨x, rfl, Option.some.inj h2⟩
  have hin : ∀ (j : Nat) (p : Value × Value), xs[j]? = some (k, p) → j ∈ L := fun j p hj => by
    rw [hL]
    unfold placesWithHash
    refine List.mem_filter.mpr ⟨List.mem_range.mpr (by rw [hsz]; exact (List.getElem?_eq_some_iff.mp hj).1), ?_⟩
    show ((es[j]?).map (·.hash) == some (mHash P w k)) = true
    rw [hat, hj]
    exact beq_self_eq_true _
  have hnd : L.Nodup := by
    rw [hL]
    unfold placesWithHash
    exact List.nodup_range.filter _
  have hst : ∀ u ∈ L.filterMap (fun i => es[i]?.map (·.key)), ∃ j, mIs P w s.heap j u := fun u hu => by
    obtain ⟨i, hi, e⟩ := List.mem_filterMap.mp hu
    obtain ⟨x, hx, _⟩ := hmL i hi
    rw [hat, hx] at e
    obtain rfl := Option.some.inj e
    exact ⟨x.1, his x (List.mem_of_getElem? hx)⟩
  have fin : (∀ j ∈ L, ∀ p, xs[j]? ≠ some (k, p)) → Q none s := fun h => hnone fun j p hj => h j (hin j p hj) p hj
  -- a place's step
  have stepE : ∀ {done rest : List Nat} {x : Nat}, L = done ++ x :: rest → ∃ y, xs[x]? = some y ∧ es[x]? = some (mEnt P w y) ∧ (mHash P w y.1 == mHash P w k) = true ∧ mIs P w s.heap y.1 y.2.1 := fun {done rest x} e => by
    obtain ⟨y, hy, hh⟩ := hmL x (by rw [e]; exact List.mem_append_right _ List.mem_cons_self)
    exact ⟨y, hy, by rw [hat, hy]; rfl, by rw [hh]; exact beq_self_eq_true _, his y (List.mem_of_getElem? hy)⟩
  have noHit : ∀ {done : List Nat} {x : Nat} {y : ME}, (∀ j ∈ done, ∀ p, xs[j]? ≠ some (k, p)) → xs[x]? = some y → ¬ y.1 = k → ∀ j ∈ done ++ [x], ∀ p, xs[j]? ≠ some (k, p) := fun {done x y} hd hy hne j hj p e => by
    rcases List.mem_append.mp hj with hj | hj
    · exact hd j hj p e
    · rw [List.mem_singleton.mp hj, hy] at e
      cases e
      exact hne rfl
  have plain : wpAny (model P w) A (dictWalkPlain d v (mHash P w k) es L) Q E s := by
    unfold dictWalkPlain
    refine wpAny_bind (wpAny_forIn_list _ (fun rest b s' => s' = s ∧ b = (none, ()) ∧ ∃ done, L = done ++ rest ∧ ∀ j ∈ done, ∀ p, xs[j]? ≠ some (k, p)) _ (fun x rest b s' hI => ?_) (fun b s' hI => ?_) _ _ ⟨rfl, rfl, [], rfl, fun j hj => by cases hj⟩)
    · obtain ⟨rfl, rfl, done, hLd, hdn⟩ := hI
      obtain ⟨y, hy, hey, hh, hiy⟩ := stepE hLd
      simp only [hey]
      rw [if_pos (show ((mEnt P w y).hash == mHash P w k) = true from hh)]
      refine wpAny_bind (wpAny_dictEpoch ho hd (wpAny_bind (m_eq hu hiy hk (wpAny_bind (wpAny_dictEpoch ho hd ?_)))))
      rw [if_neg (by simp)]
      by_cases hkk : y.1 = k
      · rw [decide_eq_true hkk]
        subst hkk
        exact wpAny_bind (wpAny_rule (wpAny_pure (wpAny_pure (hsome x y.2 hy))))
      · rw [decide_eq_false hkk]
        refine wpAny_bind (wpAny_rule (wpAny_pure ⟨rfl, rfl, done ++ [x], by rw [hLd]; simp, noHit hdn hy hkk⟩))
    · obtain ⟨rfl, rfl, done, hLd, hdn⟩ := hI
      rw [List.append_nil] at hLd
      exact wpAny_pure (fin (by rw [hLd]; exact hdn))
  have hany : ∀ a, v = .ref a → ¬ (es.any fun e => e.key == Value.ref a && e.hash != mHash P w k) = true := fun a hv => by
    rw [← Array.any_toList, he, List.any_eq_true]
    rintro ⟨e, hin, hc⟩
    obtain ⟨x, hx, rfl⟩ := List.mem_map.mp hin
    simp only [mEnt, Bool.and_eq_true, beq_iff_eq, bne_iff_ne, ne_eq] at hc
    obtain ⟨h1, h2⟩ := hc
    have h3 := his x hx
    rw [h1, ← hv] at h3
    exact h2 (by rw [h3.inj hk])
  have hvk : (∃ i t, v = .int i t) ∨ ∃ a, v = .ref a := by
    cases k with
    | inl i => obtain ⟨t, e⟩ := hk; exact .inl ⟨i, t, e⟩
    | inr ks => obtain ⟨a, e, _⟩ := hk; exact .inr ⟨a, e⟩
  unfold dictFind
  try with_reducible refine wpAny_holding ?_
  refine wpAny_bind (wpAny_dictEntries ho hd ?_)
  dsimp only
  rw [← hL]
  rcases hvk with ⟨i0, t0, rfl⟩ | ⟨a0, rfl⟩
  · dsimp only
    by_cases hall : (Value.int i0 t0 :: L.filterMap (fun i => es[i]?.map (·.key))).all carriedByValue = true
    · rw [if_pos hall]
      exact plain
    · rw [if_neg hall]
      by_cases hone : (L.filterMap (fun i => es[i]?.map (·.key)) == [Value.int i0 t0]) = true
      · rw [if_pos hone]
        refine wpAny_bind (wpAny_pure ?_)
        fail "mloop"
      · rw [if_neg hone]
        refine wpAny_bind (tell_quiet hk hst ?_)
        fail "mloop"
  · dsimp only
    rw [if_neg (show ¬ (Value.ref a0 :: L.filterMap (fun i => es[i]?.map (·.key))).all carriedByValue = true by simp [carriedByValue]), if_neg (hany a0 rfl)]
    by_cases hone : (L.filterMap (fun i => es[i]?.map (·.key)) == [Value.ref a0]) = true
    · rw [if_pos hone]
      refine wpAny_bind (wpAny_pure ?_)
      fail "mloop"
    · rw [if_neg hone]
      refine wpAny_bind (tell_quiet hk hst ?_)
      fail "mloop"
def mPut (xs : List ME) (k : MK) (key u : Value) : List ME := if (mAt xs k).isSome then xs.map (fun x => if x.1 = k then (x.1, x.2.1, u) else x) else xs ++ [(k, key, u)]
def mDrop (xs : List ME) (k : MK) : List ME := xs.filter fun x => decide (x.1 ≠ k)
theorem put_keys {xs : List ME} {k : MK} {u : Value} : (xs.map fun x : ME => if x.1 = k then (x.1, x.2.1, u) else x).map (·.1) = xs.map (·.1) := by
  rw [List.map_map]
  refine List.map_congr_left fun x _ => ?_
  show (if x.1 = k then (x.1, x.2.1, u) else x).1 = x.1
  split <;> rfl
theorem mPut_is {h : Heap} {xs : List ME} {k : MK} {key u : Value} (hk : mIs P w h k key) (his : ∀ x ∈ xs, mIs P w h x.1 x.2.1) : ∀ x ∈ mPut xs k key u, mIs P w h x.1 x.2.1 := fun x hx => by
  unfold mPut at hx
  split at hx
  · obtain ⟨y, hy, rfl⟩ := List.mem_map.mp hx
    split
    · exact his y hy
    · exact his y hy
  · rcases List.mem_append.mp hx with hx | hx
    · exact his x hx
    · rw [List.mem_singleton.mp hx]
      exact hk
theorem erase_is {k : MK} : ∀ {xs : List ME} {j : Nat} {p : Value × Value}, (xs.map (·.1)).Nodup → xs[j]? = some (k, p) → xs.eraseIdx j = mDrop xs k
  | [], _, _, _, h => by simp at h
  | x :: r, 0, p, hn, h => by
    rw [List.getElem?_cons_zero] at h
    cases h
    rw [List.map_cons, List.nodup_cons] at hn
    unfold mDrop
    rw [List.eraseIdx_cons_zero, List.filter_cons, if_neg (by simp), List.filter_eq_self.mpr]
    intro y hy
    exact decide_eq_true fun e => hn.1 (e ▸ List.mem_map.mpr ⟨y, hy, rfl⟩)
  | x :: r, j + 1, p, hn, h => by
    rw [List.getElem?_cons_succ] at h
    rw [List.map_cons, List.nodup_cons] at hn
    have hne : ¬ x.1 = k := fun e => hn.1 (e ▸ List.mem_map.mpr ⟨(k, p), List.mem_of_getElem? h, rfl⟩)
    have := erase_is hn.2 h
    unfold mDrop at this ⊢
    rw [List.eraseIdx_cons_succ, List.filter_cons, if_pos (decide_eq_true hne), this]
theorem erase_map {α β : Type} (f : α → β) : ∀ (l : List α) (j : Nat), (l.map f).eraseIdx j = (l.eraseIdx j).map f
  | [], _ => rfl
  | _ :: _, 0 => rfl
  | x :: l, j + 1 => by
    rw [List.map_cons, List.eraseIdx_cons_succ, List.eraseIdx_cons_succ, List.map_cons, erase_map f l j]
theorem MD.typeIs {s : Shared} {d : Addr} {xs : List ME} (hm : MD P w s.heap d xs) : s.TypeIs (.ref d) "dict" :=
  let ⟨o, _, _, ho, hc, _⟩ := hm.ex; ⟨o, ho, hc.1⟩
theorem m_get {d : Addr} {k : MK} {v : Value} {xs : List ME} {Q : Option Value → Shared → Prop} (hu : A.units < cLine) (hk : mIs P w s.heap k v) (hm : MD P w s.heap d xs) (his : ∀ x ∈ xs, mIs P w s.heap x.1 x.2.1)
    (h : Q (mAt xs k) { s with toks := s.toks + mDraw P w k }) : wpAny (model P w) A (dictGet d v) Q E s := by
  obtain ⟨o, es, ep, ho, hc, hd, he⟩ := hm.ex
  unfold dictGet
  try with_reducible refine wpAny_holding ?_
  refine wpAny_bind (m_hash hu hk (wpAny_bind (m_find (s := { s with toks := s.toks + mDraw P w k }) hu hk hm his (fun hno => ?_) (fun j p hj => ?_))))
  · rw [(mAt_none hno).1] at h
    exact wpAny_pure h
  · rw [mAt_get hm.nd hj] at h
    refine wpAny_bind (wpAny_dictEntries (s := { s with toks := s.toks + mDraw P w k }) ho hd ?_)
    rw [← Array.getElem?_toList, he, List.getElem?_map, hj]
    exact wpAny_pure h
theorem m_set {d : Addr} {k : MK} {v u : Value} {xs : List ME} {Q : Unit → Shared → Prop} (hu : A.units < cLine) (hk : mIs P w s.heap k v) (hm : MD P w s.heap d xs) (his : ∀ x ∈ xs, mIs P w s.heap x.1 x.2.1) (hsz : xs.length ≤ sizeLine)
    (hQ : ∀ h' tk, MD P w h' d (mPut xs k v u) → Heap.SameBut d s.heap h' → Q () { s with heap := h', toks := tk }) : wpAny (model P w) A (dictSet d v u) Q E s := by
  obtain ⟨o, es, ep, ho, hc, hd, he⟩ := hm.ex
  have hes : es.size = xs.length := by rw [← Array.length_toList, he, List.length_map]
  unfold dictSet
  try with_reducible refine wpAny_holding ?_
  refine wpAny_bind (m_hash hu hk ?_)
  unfold dictSetHashed
  try with_reducible refine wpAny_holding ?_
  refine wpAny_bind (m_find (s := { s with toks := s.toks + mDraw P w k }) hu hk hm his (fun hno => ?_) (fun j p hj => ?_))
  · obtain ⟨h1, h2⟩ := mAt_none hno
    refine wpAny_bind (wpAny_rule (wpAny_updateDictKeys (hz := by omega) (s := { s with toks := s.toks + mDraw P w k }) ho hd (hQ _ _ ⟨⟨_, _, ep + 1, Heap.get?_update_self _ ho (Obj.isFreed_of_dict (Obj.data_mapDictKeys hd _)), hc.mapDictKeys _, Obj.data_mapDictKeys hd _, ?_⟩, ?_⟩ (Heap.SameBut.update ..))))
    · unfold mPut
      rw [h1]
      simp [he, mEnt]
    · unfold mPut
      rw [h1]
      simp only [Option.isSome_none, Bool.false_eq_true, if_false]
      rw [List.map_append, List.nodup_append]
      refine ⟨hm.nd, by simp, fun a ha b hb e => ?_⟩
      simp only [List.map_cons, List.map_nil, List.mem_singleton] at hb
      exact h2 (by rw [← hb, ← e]; exact ha)
  · have h1 := mAt_get hm.nd hj
    refine wpAny_bind (wpAny_rule (wpAny_bind (wpAny_updateDict (s := { s with toks := s.toks + mDraw P w k }) ho hd (wpAny_point (hQ _ _ ⟨⟨_, _, ep, Heap.get?_update_self _ ho (Obj.isFreed_of_dict (Obj.data_mapDict hd _)), hc.mapDict _, Obj.data_mapDict hd _, ?_⟩, ?_⟩ (Heap.SameBut.update ..))))))
    · unfold mPut
      rw [h1]
      simp only [Option.isSome_some, if_true]
      rw [Array.toList_modify, he]
      refine List.ext_getElem? fun i => ?_
      rw [List.getElem?_modify, List.getElem?_map, List.getElem?_map, List.getElem?_map]
      cases hx : xs[i]? with
      | none => simp
      | some x =>
        by_cases e : j = i
        · subst e
          rw [hj] at hx
          cases hx
          simp [mEnt]
        · have hne : ¬ x.1 = k := fun z => e (one_place hm.nd hj (show xs[i]? = some (k, x.2) from by rw [hx, ← z]))
          simp [e, hne]
    · unfold mPut
      rw [h1]
      simp only [Option.isSome_some, if_true]
      rw [put_keys]
      exact hm.nd
theorem m_take {d : Addr} {k : MK} {v u : Value} {xs : List ME} {Q : Option DictEntry → Shared → Prop} (hu : A.units < cLine) (hk : mIs P w s.heap k v) (hm : MD P w s.heap d xs) (his : ∀ x ∈ xs, mIs P w s.heap x.1 x.2.1) (hsz : xs.length ≤ sizeLine) (hv : mAt xs k = some u)
    (hQ : ∀ (e : DictEntry) h' tk, e.val = u → MD P w h' d (mDrop xs k) → Heap.SameBut d s.heap h' → Q (some e) { s with heap := h', toks := tk }) : wpAny (model P w) A (Builtin.Dict.takeOut d v) Q E s := by
  obtain ⟨o, es, ep, ho, hc, hd, he⟩ := hm.ex
  have hes : es.size = xs.length := by rw [← Array.length_toList, he, List.length_map]
  unfold Builtin.Dict.takeOut
  try with_reducible refine wpAny_holding ?_
  refine wpAny_bind (m_hash hu hk ?_)
  refine wpAny_bind (m_find (s := { s with toks := s.toks + mDraw P w k }) hu hk hm his (fun hno => ?_) (fun j p hj => ?_))
  · rw [(mAt_none hno).1] at hv
    cases hv
  · rw [mAt_get hm.nd hj] at hv
    obtain rfl := Option.some.inj hv
    refine wpAny_bind (wpAny_dictEntries (s := { s with toks := s.toks + mDraw P w k }) ho hd ?_)
    rw [show es[j]? = some (mEnt P w (k, p)) from by rw [← Array.getElem?_toList, he, List.getElem?_map, hj]; rfl]
    refine wpAny_bind (wpAny_updateDictKeys (hz := by omega) (s := { s with toks := s.toks + mDraw P w k }) ho hd (wpAny_pure (hQ _ _ _ rfl ⟨⟨_, _, ep + 1, Heap.get?_update_self _ ho (Obj.isFreed_of_dict (Obj.data_mapDictKeys hd _)), hc.mapDictKeys _, Obj.data_mapDictKeys hd _, ?_⟩, ?_⟩ (Heap.SameBut.update ..))))
    · rw [← erase_is hm.nd hj]
      obtain ⟨l⟩ := es
      simp only at he
      subst he
      simp [erase_map]
    · unfold mDrop
      exact hm.nd.sublist (List.filter_sublist.map _)
/-! ### at the level of calls -/
theorem m_getItem {d : Addr} {k : MK} {v u : Value} {xs : List ME} {Q : Value → Shared → Prop} (hu : A.units + 1 < cLine) (hk : mIs P w s.heap k v) (hm : MD P w s.heap d xs) (his : ∀ x ∈ xs, mIs P w s.heap x.1 x.2.1) (hv : mAt xs k = some u)
    (h : ∀ tk, Q u { s with toks := tk }) : wpAny (model P w) A (getItem (.ref d) v) Q E s := by
  unfold getItem
  try with_reducible refine wpAny_holding ?_
  refine wpAny_bind (wpAny_sequenceKey hm.typeIs (by decide) ?_)
  refine wpAny_bind (wpAny_callSpecial?_slot (name := Str.ofString "__getitem__") hm.typeIs slot_dict_getitem (wpAny_call_entry slot_dict_getitem hm.typeIs entry_dict_getitem ?_ (args_dict_getitem _ _)))
  show wpAny _ _ (dictGet d v >>= _) _ _ s
  refine wpAny_bind (m_get hu hk hm his ?_)
  rw [hv]
  exact wpAny_pure ⟨u, rfl, wpAny_pure (h _)⟩
theorem m_in {d : Addr} {k : MK} {v : Value} {xs : List ME} {Q : Value → Shared → Prop} (hu : A.units + 1 < cLine) (hk : mIs P w s.heap k v) (hd : (d == sysModules) = false) (hm : MD P w s.heap d xs) (his : ∀ x ∈ xs, mIs P w s.heap x.1 x.2.1)
    (h : ∀ tk, Q (.bool (mAt xs k).isSome) { s with toks := tk }) : wpAny (model P w) A (compareOp .In v (.ref d)) Q E s := by
  show wpAny _ _ (do return .bool (← contains (.ref d) v)) Q E s
  refine wpAny_bind ?_
  unfold contains
  try with_reducible refine wpAny_holding ?_
  refine wpAny_bind (wpAny_specialOf hm.typeIs slot_dict_contains.lookup ?_)
  show wpAny _ _ (if (some (Value.builtin "dict.__contains__") == some Value.none) = true then _ else _) _ E s
  rw [if_neg (by rw [beq_builtin_none]; exact Bool.false_ne_true)]
  refine wpAny_bind (wpAny_callSpecialUnlessNone?_slot (name := Str.ofString "__contains__") hm.typeIs slot_dict_contains (wpAny_call_entry slot_dict_contains hm.typeIs entry_dict_contains ?_ (args_dict_contains _ _)))
  show wpAny _ _ (dictGet d v >>= _) _ _ s
  refine wpAny_bind (m_get hu hk hm his ?_)
  cases hf : mAt xs k with
  | some p =>
    rw [hf] at h
    show wpAny _ _ (ret (.bool true)) _ _ _
    exact wpAny_pure ⟨_, rfl, wpAny_truthy_bool (wpAny_pure (h _))⟩
  | none =>
    rw [hf] at h
    show wpAny _ _ (Builtin.Dict.pendingKey? d v >>= _) _ _ _
    exact wpAny_bind (wpAny_pendingKey_other hd (wpAny_pure ⟨_, rfl, wpAny_truthy_bool (wpAny_pure (h _))⟩))
theorem m_setItem {d : Addr} {k : MK} {v u : Value} {xs : List ME} {Q : Unit → Shared → Prop} (hu : A.units + 1 < cLine) (hk : mIs P w s.heap k v) (hm : MD P w s.heap d xs) (his : ∀ x ∈ xs, mIs P w s.heap x.1 x.2.1) (hsz : xs.length ≤ sizeLine)
    (hQ : ∀ h' tk, MD P w h' d (mPut xs k v u) → Heap.SameBut d s.heap h' → Q () { s with heap := h', toks := tk }) : wpAny (model P w) A (setItem (.ref d) v u) Q E s := by
  unfold setItem
  try with_reducible refine wpAny_holding ?_
  refine wpAny_bind (wpAny_sequenceKey hm.typeIs (by decide) ?_)
  refine wpAny_bind (wpAny_callSpecial?_slot (name := Str.ofString "__setitem__") hm.typeIs slot_dict_setitem (wpAny_call_entry slot_dict_setitem hm.typeIs entry_dict_setitem ?_ (args_dict_setitem _ _ _)))
  show wpAny _ _ (Builtin.Dict.notOrdered "__setitem__" ⟨[.ref d, v, u], []⟩ >>= _) _ _ s
  refine wpAny_bind (wpAny_notOrdered_dict hm.typeIs ?_)
  show wpAny _ _ (dictSet d v u >>= _) _ _ s
  exact wpAny_bind (m_set hu hk hm his hsz fun h' tk hm' hs' => wpAny_pure ⟨.none, rfl, wpAny_pure (hQ h' tk hm' hs')⟩)
/-- d.pop(i) of an int that is there -/
theorem m_pop {d : Addr} {i : Int} {t : Tok} {u : Value} {xs : List ME} {Q : Value → Shared → Prop} (hu : A.units + 1 < cLine) (hm : MD P w s.heap d xs) (his : ∀ x ∈ xs, mIs P w s.heap x.1 x.2.1) (hsz : xs.length ≤ sizeLine) (hv : mAt xs (.inl i) = some u)
    (hQ : ∀ h' tk, MD P w h' d (mDrop xs (.inl i)) → Heap.SameBut d s.heap h' → Q u { s with heap := h', toks := tk }) : wpAny (model P w) A (call (.builtin "dict.pop") [.ref d, .int i t]) Q E s := by
  have M : MeetsIn P w (Builtin.«dict.pop» ⟨[.ref d, .int i t], []⟩) (fun A R s => A.in1.units < cLine ∧ ∃ xs, MD P w s.heap d xs ∧ (∀ x ∈ xs, mIs P w s.heap x.1 x.2.1) ∧ xs.length ≤ sizeLine ∧ mAt xs (.inl i) = some u ∧
      ∀ h' tk, MD P w h' d (mDrop xs (.inl i)) → Heap.SameBut d s.heap h' → R (.ok (.ret u)) { s with heap := h', toks := tk }) :=
    .of_wp fun A R s ⟨hu, xs, hm, his, hsz, hv, h⟩ => by
      unfold Builtin.«dict.pop»
      refine wpAny_bind ?_
      unfold Builtin.Dict.keyAndDefault
      refine wpAny_bind (wpAny_notOrdered_dict hm.typeIs ?_)
      show wpAny _ _ (pure (d, Value.int i t, none)) _ _ s
      refine wpAny_pure ?_
      simp only [show (keyPart (Value.int i t)).isSome = true from rfl, if_true]
      refine wpAny_bind (wpAny_pure ?_)
      simp only [Bool.false_eq_true, if_false]
      refine wpAny_bind (m_take hu (show mIs P w s.heap (.inl i) (.int i t) from ⟨t, rfl⟩) hm his hsz hv fun e h' tk he hm' hs' => ?_)
      simp only [Option.isNone_some, Bool.false_eq_true, if_false]
      exact wpAny_bind (wpAny_letGo (wpAny_pure ⟨e.val, rfl, by rw [he]; exact h h' tk hm' hs'⟩))
  exact call_meetsIn PySem.F.slot_dict_pop hm.typeIs PySem.F.entry_dict_pop (PySem.F.args_dict_pop_2 _ _) M ⟨hu, xs, hm, his, hsz, hv, hQ⟩
end
/-! ### tracked -/
abbrev MV := MK × V × V
abbrev MP : List MV → List ME → Prop := Paired fun p q => p.1 = q.1 ∧ RelV p.2.1 q.2.1 ∧ RelV p.2.2 q.2.2
def mxOk (P : Program) (w : World) (a : Addr) (kvs : List MV) : Heap → Prop := fun h => kvs.length ≤ sizeLine ∧ (a == sysModules) = false ∧ ∃ xs, MP kvs xs ∧ MD P w h a xs
def mxO (P : Program) (w : World) (a : Addr) (kvs : List MV) : HO := .ext (mxOk P w a kvs)
def mVal (kvs : List MV) (k : MK) : Option V := (kvs.find? fun x => decide (x.1 = k)).map (·.2.2)
def vPut (kvs : List MV) (k : MK) (key v : V) : List MV := if (mVal kvs k).isSome then kvs.map (fun x => if x.1 = k then (x.1, x.2.1, v) else x) else kvs ++ [(k, key, v)]
def vDrop (kvs : List MV) (k : MK) : List MV := kvs.filter fun x => decide (x.1 ≠ k)
/-- what a key looks like -/
def keyV (H : Hp) : MK → V → Prop
  | .inl i, v => v = .int i
  | .inr ks, v => ∃ b, v = .ref b ∧ H b = some (.tup (ks.map kV))
def KeysAt (H : Hp) (kvs : List MV) : Prop := ∀ x ∈ kvs, keyV H x.1 x.2.1
theorem MP.val {k : MK} : ∀ {kvs : List MV} {xs : List ME}, MP kvs xs → RelO (mVal kvs k) (mAt xs k)
  | _, _, .nil => True.intro
  | p :: ps, q :: qs, .cons ⟨h1, _, h3⟩ t => by
    have ih := MP.val (k := k) t
    unfold mVal mAt at ih ⊢
    rw [List.find?_cons, List.find?_cons, ← h1]
    by_cases e : p.1 = k
    · rw [decide_eq_true e]; exact h3
    · rw [decide_eq_false e]; exact ih
theorem MP.len : ∀ {kvs : List MV} {xs : List ME}, MP kvs xs → kvs.length = xs.length
  | _, _, .nil => rfl
  | _, _, .cons _ t => by rw [List.length_cons, List.length_cons, MP.len t]
theorem MP.app : ∀ {kvs ks : List MV} {xs ys : List ME}, MP kvs xs → MP ks ys → MP (kvs ++ ks) (xs ++ ys)
  | _, _, _, _, .nil, h => h
  | _, _, _, _, .cons a t, h => .cons a (MP.app t h)
theorem MP.repl {k : MK} {v : V} {u : Value} (rv : RelV v u) : ∀ {kvs : List MV} {xs : List ME}, MP kvs xs → MP (kvs.map fun x => if x.1 = k then (x.1, x.2.1, v) else x) (xs.map fun x => if x.1 = k then (x.1, x.2.1, u) else x)
  | _, _, .nil => .nil
  | p :: ps, q :: qs, .cons ⟨h1, h2, h3⟩ t => by
    rw [List.map_cons, List.map_cons]
    refine .cons ?_ (MP.repl rv t)
    rw [← h1]
    by_cases e : p.1 = k
    · rw [if_pos e, if_pos e]; exact ⟨rfl, h2, rv⟩
    · rw [if_neg e, if_neg e]; exact ⟨h1, h2, h3⟩
theorem MP.put {k : MK} {key v : V} {ku u : Value} (rk : RelV key ku) (rv : RelV v u) {kvs : List MV} {xs : List ME} (h : MP kvs xs) : MP (vPut kvs k key v) (mPut xs k ku u) := by
  unfold vPut mPut
  have e := (h.val (k := k)).isSome_eq
  rw [e]
  split
  · exact h.repl rv
  · exact h.app (.cons ⟨rfl, rk, rv⟩ .nil)
theorem MP.drop {k : MK} : ∀ {kvs : List MV} {xs : List ME}, MP kvs xs → MP (vDrop kvs k) (mDrop xs k)
  | _, _, .nil => .nil
  | p :: ps, q :: qs, .cons ⟨h1, h2, h3⟩ t => by
    have ih := MP.drop (k := k) t
    unfold vDrop mDrop at ih ⊢
    rw [List.filter_cons, List.filter_cons, ← h1]
    by_cases e : p.1 = k
    · rw [if_neg (by simp [e]), if_neg (by simp [e])]; exact ih
    · rw [if_pos (decide_eq_true e), if_pos (decide_eq_true e)]; exact .cons ⟨h1, h2, h3⟩ ih
theorem vPut_len {kvs : List MV} {k : MK} {key v : V} : (vPut kvs k key v).length ≤ kvs.length + 1 := by
  unfold vPut
  split
  · rw [List.length_map]; omega
  · rw [List.length_append, List.length_singleton]; exact Nat.le_refl _
section
variable {X : Cx} {pins : List (Addr × Obj)} {σ : L2.St} {H : Hp} {s : Shared} {a : Addr} {kvs : List MV}
theorem mx_at (I : Inv X pins σ H s) (e : H a = some (mxO X.prog X.w a kvs)) : mxOk X.prog X.w a kvs s.heap := (show ObjOk X.prog X.w H s.heap a (mxO X.prog X.w a kvs) from I.hok a _ e).1
theorem mx_st {P : Program} {w : World} {h1 h2 : Heap} (x : mxOk P w a kvs h1) (k : ∀ o, h1.get? a = some o → h2.get? a = some o) : mxOk P w a kvs h2 := by
  obtain ⟨z, y, xs, hp, ⟨o, es, ep, ho, r⟩, nd⟩ := x
  exact ⟨z, y, xs, hp, ⟨o, es, ep, k o ho, r⟩, nd⟩
theorem mx_obj {P : Program} {w : World} {h : Heap} (x : mxOk P w a kvs h) : ObjOk P w H h a (mxO P w a kvs) := by
  obtain ⟨z, y, xs, hp, ⟨o, es, ep, ho, r⟩, nd⟩ := id x
  exact ⟨x, ⟨o, ho⟩, fun h1 h2 x1 k => mx_st x1 k⟩
theorem key_is {P : Program} {w : World} {h : Heap} (ok : HOk P w H h) {k : MK} {y : V} {u : Value} (hk : keyV H k y) (r : RelV y u) : mIs P w h k u := by
  cases k with
  | inl i =>
    have hk : y = .int i := hk
    subst hk
    exact r
  | inr ks =>
    obtain ⟨b, rfl, hb⟩ := hk
    cases (show u = Value.ref b from r)
    exact ⟨b, rfl, key_of ok hb⟩
theorem keys_are {P : Program} {w : World} {h : Heap} (ok : HOk P w H h) : ∀ {kvs : List MV} {xs : List ME}, MP kvs xs → KeysAt H kvs → ∀ x ∈ xs, mIs P w h x.1 x.2.1
  | _, _, .nil, _, _, hx => by cases hx
  | p :: ps, q :: qs, .cons ⟨h1, h2, _⟩ t, hk, x, hx => by
    rcases List.mem_cons.mp hx with rfl | hx
    · rw [← h1]
      exact key_is ok (hk p List.mem_cons_self) h2
    · exact keys_are ok t (fun y hy => hk y (List.mem_cons_of_mem _ hy)) x hx
theorem mx_write {h' : Heap} {t' : Nat} {kvs' : List MV} (I : Inv X pins σ H s) (e : H a = some (mxO X.prog X.w a kvs)) (hs : Heap.SameBut a s.heap h') (x : mxOk X.prog X.w a kvs' h') : Inv X pins σ (upd H a (mxO X.prog X.w a kvs')) { s with heap := h', toks := t' } := by
  have he : ∃ q, h'.get? a = some q := by
    obtain ⟨_, _, _, _, ⟨o, _, _, ho, _⟩, _⟩ := id x
    exact ⟨o, ho⟩
  exact d_write I (by rw [e]; exact True.intro) hs he (mx_obj x)
end
/-- d[k], d a dict of this kind -/
def rMGet (P : Program) (w : World) : R2 := fun x y H Q => ∃ a kvs k v, x = .ref a ∧ H a = some (mxO P w a kvs) ∧ KeysAt H kvs ∧ keyV H k y ∧ mVal kvs k = some v ∧ Q v H
def tMIn (P : Program) (w : World) (ty td : TE) : TE := fun σ H Q => ty σ H fun y H1 => td σ H1 fun x H2 => ∃ a kvs k, x = .ref a ∧ H2 a = some (mxO P w a kvs) ∧ KeysAt H2 kvs ∧ keyV H2 k y ∧ Q (.bl (mVal kvs k).isSome) H2
def sMPut (P : Program) (w : World) (td ty tv : TE) : TS := fun D σ H => tv σ H fun v H1 => td σ H1 fun x H2 => ty σ H2 fun y H3 => ∃ a kvs k, x = .ref a ∧ H3 a = some (mxO P w a kvs) ∧ KeysAt H3 kvs ∧ keyV H3 k y ∧ kvs.length < sizeLine ∧ D.nx σ (upd H3 a (mxO P w a (vPut kvs k y v)))
def tMPop (P : Program) (w : World) (td ty : TE) : TE := fun σ H Q => td σ H fun x H1 => ∃ a kvs0, x = .ref a ∧ H1 a = some (mxO P w a kvs0) ∧ ty σ H1 fun y H2 => ∃ kvs i v, H2 a = some (mxO P w a kvs) ∧ KeysAt H2 kvs ∧ y = .int i ∧ mVal kvs (.inl i) = some v ∧ Q v (upd H2 a (mxO P w a (vDrop kvs (.inl i))))
def tMNew (P : Program) (w : World) : TE := fun _ H Q => ∀ p, H p = none → Q (.ref p) (upd H p (mxO P w p []))
section
variable {X : Cx} {o i value : Expr} {pos pos' apos cpos : Pos} {td ty tv : TE}
theorem pe_mnew : PE X (.Dict [] [] pos) (tMNew X.prog X.w) := ⟨fun pins s σ H Q I h =>
  wpAny_Dict_empty ⟨.ref s.heap.objs.size, _, I.laid (a := s.heap.objs.size) (o := mxO X.prog X.w s.heap.objs.size []) (t' := s.toks) (fun _ _ q => Heap.get?_push_of_some _ q) (Nat.le_refl _)
    (mx_obj ⟨Nat.zero_le _, beq_eq_false_iff_ne.mpr (Ne.symm (Nat.ne_of_lt I.big)), [], .nil, ⟨_, #[], 0, Heap.get?_push_size _ rfl, ⟨rfl, rfl, rfl⟩, rfl, rfl⟩, List.nodup_nil⟩), rfl, h _ (I.hok.fresh (Nat.le_refl _))⟩⟩
theorem pe_mget (hu : X.A.units + 1 < cLine) (ho : PE X o td) (hi : PE X i ty) (hs : NoSl i) : PE X (.Subscript o i pos) (tOp (rMGet X.prog X.w) td ty) := by
  refine ⟨fun pins s σ H Q I h => ?_⟩
  refine subD_of PySem.F.slot_dict_getitem.lookup hs (thn (ho.run pins s σ H _ I h) fun u s1 ⟨x, H1, I1, rx, q1⟩ => thn (hi.run pins s1 σ H1 _ I1 q1) fun iv s2 ⟨y, H2, I2, ry, a, kvs, k, v, ex, e, hka, hk, hv, q2⟩ => ?_)
  subst ex
  obtain rfl : u = Value.ref a := rx
  obtain ⟨_, _, xs, hp, hm⟩ := mx_at I2 e
  obtain ⟨w', hw, rw'⟩ := RelO.some_of (v := v) (o := mAt xs k) (by rw [← hv]; exact hp.val)
  exact ⟨hm.typeIs, m_getItem hu (key_is I2.hok hk ry) hm (keys_are I2.hok hp hka) hw fun tk => ⟨v, H2, I2.tok _, rw', q2⟩⟩
theorem pc_min (hu : X.A.units + 1 < cLine) (hi : PE X i ty) (ho : PE X o td) : PC X .In i o (tMIn X.prog X.w ty td) := by
  refine ⟨fun pins s σ H Q I h => ?_⟩
  refine thn (hi.run pins s σ H _ I h) fun iv s1 ⟨y, H1, I1, ry, q1⟩ => thn (ho.run pins s1 σ H1 _ I1 q1) fun u s2 ⟨x, H2, I2, rx, a, kvs, k, ex, e, hka, hk, q2⟩ => ?_
  subst ex
  obtain rfl : u = Value.ref a := rx
  obtain ⟨_, hd, xs, hp, hm⟩ := mx_at I2 e
  refine m_in hu (key_is I2.hok hk ry) hd hm (keys_are I2.hok hp hka) fun tk => ⟨.bl (mVal kvs k).isSome, H2, I2.tok _, ?_, q2⟩
  show Value.bool _ = Value.bool _
  rw [(hp.val (k := k)).isSome_eq]
theorem ps_mput (hu : X.A.units + 1 < cLine) (ho : PE X o td) (hi : PE X i ty) (hv : PE X value tv) (hs : swapsWith value (some (.Subscript o i pos')) pos.line X.env = pure false) :
    PS X (.Assign [.Subscript o i pos'] value pos) (sMPut X.prog X.w td ty tv) := by
  refine ⟨fun pins s σ H D I h => ?_⟩
  refine wpAny_Assign_Subscript (thn (hv.run pins s σ H _ I h) fun r s1 ⟨v, H1, I1, rv, q1⟩ => thn (ho.run pins s1 σ H1 _ I1 q1) fun u s2 ⟨x, H2, I2, rx, q2⟩ => thn (hi.run pins s2 σ H2 _ I2 q2) fun iv s3 ⟨y, H3, I3, ry, a, kvs, k, ex, e, hka, hk, hl, q3⟩ => ?_) hs
  subst ex
  obtain rfl : u = Value.ref a := rx
  obtain ⟨z, hd, xs, hp, hm⟩ := mx_at I3 e
  refine m_setItem hu (key_is I3.hok hk ry) hm (keys_are I3.hok hp hka) (by rw [← hp.len]; exact z) fun h' tk hm' hs' => ⟨σ, _, mx_write I3 e hs' ⟨?_, hd, _, hp.put ry rv, hm'⟩, q3⟩
  have := vPut_len (kvs := kvs) (k := k) (key := y) (v := v)
  omega
theorem pe_mpop (hu : X.A.units + 1 < cLine) (ho : PE X o td) (hi : PE X i ty) (m : M1 X o "pop" apos i cpos) : PE X (.Call (.Attribute o "pop" apos) [i] [] cpos) (tMPop X.prog X.w td ty) := by
  refine ⟨fun pins s σ H Q I h => ?_⟩
  refine wpAny_Call_method m.base m.few m.line PySem.F.plainAttrs_dict PySem.F.slot_dict_pop PySem.F.type_dict_pop (thn (ho.run pins s σ H _ I h) fun u s1 ⟨x, H1, I1, rx, a, kvs0, ex, e0, q1⟩ => ?_)
  subst ex
  obtain rfl : u = Value.ref a := rx
  obtain ⟨_, _, _, _, hm0⟩ := mx_at I1 e0
  refine ⟨hm0.typeIs, fun b q => ?_, ?_⟩
  · cases q
    obtain ⟨ob, _, _, h1, h2, _⟩ := hm0.ex
    exact ⟨ob, h1, h2.2.1⟩
  rw [m.trees]
  refine Calls.callWith_builtin rfl (Calls.evalArgs_plain (Calls.spliced_cons (thn (hi.run pins s1 σ H1 _ I1 q1) fun iv s2 ⟨y, H2, I2, ry, kvs, i, v, e, hka, ey, hv, q2⟩ => Calls.spliced_nil ?_)))
  subst ey
  obtain ⟨t, rfl⟩ := ry
  obtain ⟨z, hd, xs, hp, hm⟩ := mx_at I2 e
  obtain ⟨w', hw, rw'⟩ := RelO.some_of (v := v) (o := mAt xs (.inl i)) (by rw [← hv]; exact hp.val)
  refine m_pop hu hm (keys_are I2.hok hp hka) (by rw [← hp.len]; exact z) hw fun h' tk hm' hs' => ⟨v, _, mx_write I2 e hs' ⟨Nat.le_trans (List.length_filter_le _ _) z, hd, _, hp.drop, hm'⟩, rw', q2⟩
end
end Mx


set_option linter.unusedVariables false
/-! targets that are attributes; lambdas within a comprehension that capture its names -/
namespace Sd
open PySem PySem.Spec PyProof.Rows L2 LamX NdefX
/-- o.f = .., as a target -/
def gFld (K : PySem.W.Frag) (to : TE) (f : Str) : TG := fun v σ H Q => to σ H fun x H1 => ∃ a C dx fs, x = .ref a ∧ H1 a = some (.ins C dx fs) ∧ Cls K C ∧ NoAttr K C f ∧ fs.length < 1000 ∧ Q σ (upd H1 a (.ins C dx (putF f v fs)))
theorem pg_fld {X : Cx} {o : Expr} {f : Str} {pos : Pos} {to : TE} (ho : PE X o to) : PG X (.Attribute o f pos) (gFld X.K to f) := by
  refine ⟨fun pins s σ H v u Q I r h => ?_⟩
  rw [assign_Attribute]
  refine wpAny_bind (wpAny_holding (thn (ho.run pins s σ H _ I h) fun ov s1 ⟨x, H1, I1, r1, a, C, dx, fs, ex, ea, c, n, l, q1⟩ => ?_))
  subst ex
  obtain rfl : ov = Value.ref a := r1
  exact wpAny_bind (wpAny_standAt (wpAny_bind (wpAny_holding (setattr_ok I1 ea c n l r fun s3 I3 => wpAny_release ⟨σ, _, I3, q1⟩))))
section
variable {X : Cx} {cl : List (Str × Addr)} {fr : List Str} {js : List Nat} {pins : List (Addr × Obj)} {σ : L2.St} {H : Hp} {s : Shared}
/-- as CellsO.made, for a frame some of whose names alone are its own -/
theorem CellsO.madeB (hfn : ∀ y c, cl.lookup y = some c → X.fn y = true) (I : Inv X pins σ H s) (c : Caps X cl fr js) : CellsO cl fr (js.map (slotAt σ)) X.stack s.heap H := by
  refine ⟨cells_of I c, fun y a e hb => ?_⟩
  have e1 := c.sub y a e
  rcases List.mem_cons.mp (I.stkSub a hb) with z | z
  · exact I.cne y a e1 z
  · obtain ⟨_, o, ho, _⟩ := I.ok.funs.mem z
    exact absurd (Nat.lt_of_lt_of_le (Heap.lt_size ho) (I.ok.cab y a (hfn y a e) e1)) (Nat.lt_irrefl _)
end
/-- a reading that is told for all there may be -/
theorem pe_inst {X : Cx} {e : Expr} {α : Type} {t : α → TE} (a : α) (h : PE X e (t a)) : PE X e (fun σ H Q => ∀ x, t x σ H Q) := ⟨fun pins s σ H Q I h' => h.run pins s σ H Q I (h' a)⟩
end Sd


/-! A generator expression whose elements may raise, consumed by tuple(..). -/
namespace Gx
open PySem PySem.Spec PyProof.Rows L2 GenW
/-- as gx; an exception leaves the frame (E: the wish) -/
abbrev gxE (X : Cx) (A : Around) (s sR : Shared) (H : Hp) (cenv : Env) (fp : List Addr) (pn : List (Addr × Obj)) (E : XK) : Cx :=
  { gx X A s H cenv fp pn with xe := fun e s' => wpAny (model X.prog X.w) A (leaving cenv e) (fun _ s'' => CX X.prog X.w X.stack H sR E e s'' ∧ ∀ p ∈ pn, s''.heap.get? p.1 = some p.2) (fun _ _ => False) s' }
/-- it leaves the frame; told upon a heap without what the frame may turn -/
theorem XE.leaveR {X : Cx} {W : WX} {E : XK} {s' sR : Shared} (hs : X.stack = X.env :: X.outer) (hf : X.env.frame = some X.env.locals) (hR : ∀ b o, sR.heap.get? b = some o → X.s_0.heap.get? b = some o ∧ b ∉ X.ex) (osR : X.s_0.os = sR.os) {E₁ : Value → Shared → Prop} (hW : ∀ cls d σ H, W cls d σ H → E cls d H) {u : Value} (x : XE X W u s') :
    wpAny (model X.prog X.w) X.A (leaving X.env u) (fun _ s'' => CX X.prog X.w X.outer X.H_0 sR E u s'' ∧ ∀ p ∈ X.pn, s''.heap.get? p.1 = some p.2) E₁ s' := by
  obtain ⟨a, B, sI, pins, σ, H, cls, d, rfl, I, nb, up, sky, na, os, ag, w⟩ := x
  have hfr : X.A.frames = some (X.env :: X.outer) := by rw [I.ok.frames, hs]
  have nst : ∀ b o, X.s_0.heap.get? b = some o → b ∉ X.fs → b ∉ frs X.stack := fun b o e hb hm => by
    rcases List.mem_cons.mp (I.stkSub b hm) with z | z
    · have h1 := Heap.lt_size e
      have h2 := I.ok.above
      rw [z] at h1
      exact absurd (Nat.lt_of_lt_of_le h1 h2) (Nat.lt_irrefl _)
    · exact hb z
  have hokB := I.inGround nb
  have pinB : ∀ p ∈ X.pn, B.get? p.1 = some p.2 := fun p hp => by
    obtain ⟨h1, _, h3, h4, _⟩ := I.pin p (List.mem_append_left _ hp)
    refine nb p.1 p.2 h1 fun hm => ?_
    rcases List.mem_cons.mp (I.stkSub p.1 hm) with z | z
    · exact h3 z
    · exact h4 z
  have fin : ∀ h', HandSPX.FlyingZ B X.outer a (Zc cls d) h' → s'.heap.UpToSlots h' → (CX X.prog X.w X.outer X.H_0 sR E (.ref a) { s' with heap := h' } ∧ ∀ p ∈ X.pn, ({ s' with heap := h' } : Shared).heap.get? p.1 = some p.2) := fun h' fl up' => by
    refine ⟨⟨a, B, H, cls, d, rfl, fl, hokB, ⟨fun b o e n hb => ?_, fun b o e hb => ?_, fun b o e n => ?_, fun b o e hb => ?_, I.base.tups, I.base.frzs, I.base.tbls⟩,
      na, (os.trans I.os).trans osR, ag, hW _ _ _ _ w⟩, fun p hp => fl.1 p.1 p.2 (pinB p hp)⟩
    · obtain ⟨e0, hx⟩ := hR b o e
      exact nb b o (I.base.keep b o e0 n hb hx) (nst b o e0 hb)
    · obtain ⟨e0, hx⟩ := hR b o e
      obtain ⟨_, o₀, e₀, hnf⟩ := I.ok.funs.mem hb
      rw [e0] at e₀; cases e₀
      obtain ⟨sl, e1⟩ := I.base.slot b o e0 (I.ok.frf b hb) hb hx
      obtain ⟨sl2, e2⟩ := up b _ e1 hnf
      obtain ⟨sl3, e3⟩ := up' b _ e2 hnf
      exact ⟨sl3, e3⟩
    · obtain ⟨e0, hx⟩ := hR b o e
      exact I.base.free b o e0 n hx
    · obtain ⟨e0, hx⟩ := hR b o e
      obtain ⟨o', e1⟩ := I.base.there b o e0 hx
      exact ⟨o', nb b o' e1 (nst b o e0 hb)⟩
  rw [hs] at sky
  rcases sky with ⟨hB, hn, hl, oe, vs, he, hz, hd, h1⟩ | fl | hd
  · exact HandSPX.leaving_firstZ Zc.steady hfr hl hf he hB hn hd h1 hz fin
  · exact HandSPX.leaves_onZ Zc.steady hfr hf fl fin
  · exact HandSPX.leaves_heldZ hf hd fin
section
variable {X : Cx}
theorem takes_gxE {A : Around} {s sR : Shared} {H : Hp} {cenv : Env} {fp : List Addr} {pn : List (Addr × Obj)} {E : XK} (hf : cenv.frame = some cenv.locals) (hR : ∀ b o, sR.heap.get? b = some o → s.heap.get? b = some o ∧ b ∉ fp) (osR : s.os = sR.os) :
    Takes (gxE X A s sR H cenv fp pn E) (fun cls d _ H' => E cls d H') := fun u s' x => by
  have q := XE.leaveR (X := gxE X A s sR H cenv fp pn E) (W := fun cls d _ H' => E cls d H') (E := E) (sR := sR) rfl hf hR osR (fun _ _ _ _ h => h) (E₁ := fun _ _ => False) x
  exact q
/-- the ends of a run: all handed out stands in S; or an exception has left -/
def GEndE (X' : Cx) (S : Addr) (σ : L2.St) (Q : List V → Hp → Prop) (C : Value → Shared → Prop) : GenEnd := fun n s₀ r s => GEnd X' S σ Q n s₀ r s ∨ ∃ e, r = .error e ∧ C e s
theorem seg_gxE {A : Around} {S : Addr} {elt tg iter : Expr} {ifs : List Expr} {scope : Scope} {gpos : Pos} {g : TG} {tt : TT} {te : TE} {vs : List Nat} {J : It} {fp : List Addr} {it : Addr} {tn : Nat → Heap → Prop} {H0 : Hp} {s0 sR : Shared} {cenv : Env} {pn : List (Addr × Obj)} {EX : XK}
    {W : Nat → Nat → List V → Hp → Prop} {Q : List V → Hp → Prop} {σ : L2.St}
    (T : Turn X.prog X.w X.K tg J fp it tn) (hco : cenv.scope.isCoroutine = false)
    (pg : PG (gxE X (A.deeper cenv) s0 sR H0 cenv fp pn EX) tg g) (pt : PTs (gxE X (A.deeper cenv) s0 sR H0 cenv fp pn EX) ifs tt) (pe : PE (gxE X (A.deeper cenv) s0 sR H0 cenv fp pn EX) elt te)
    (hpn : ∀ p ∈ pn, p.1 ≠ S ∧ p.1 ∉ fp) (hA : Apart (gxE X (A.deeper cenv) s0 sR H0 cenv fp pn EX) S) (hS : S ∉ fp)
    (turn : ∀ i m ys H, W i m ys H → (J.stop i H ∧ Q ys H) ∨ (J.go i H ∧ ∃ Nx : List V → Hp → Prop, (∀ ys' H', Nx ys' H' → ∃ m', m' < m ∧ W (i + 1) m' ys' H') ∧ ∀ x H', J.yld i H x H' → g x (wipe σ vs) H' fun σ2 H2 => wipe σ2 vs = wipe σ vs ∧ tt σ2 H2 fun b H3 =>
      if b = true then te σ2 H3 fun y H4 => ys.length < sizeLine ∧ Nx (ys ++ [y]) H4 else Nx ys H3)) :
    ∀ (m n i : Nat) (ys : List V) (H : Hp) (s₀ s : Shared), n + ys.length = sizeLine → W i m ys H → GI (gxE X (A.deeper cenv) s0 sR H0 cenv fp pn EX) S [] ys (wipe σ vs) H s → tn i s.heap → (∀ b ∈ fp, H b = none) →
      Seg (model X.prog X.w) A (GEndE (gxE X (A.deeper cenv) s0 sR H0 cenv fp pn EX) S (wipe σ vs) Q (fun e s'' => CX X.prog X.w X.stack H0 sR EX e s'' ∧ ∀ p ∈ pn, s''.heap.get? p.1 = some p.2)) (GY (gxE X (A.deeper cenv) s0 sR H0 cenv fp pn EX) S) n s₀ (.compLoop (.GeneratorExp elt [⟨tg, iter, ifs, 0⟩] scope gpos) 0 (.ref it) .none cenv)
        ((model X.prog X.w).den (.compLoop (.GeneratorExp elt [⟨tg, iter, ifs, 0⟩] scope gpos) 0 (.ref it) .none cenv)) [] s := by
  have stat : ∀ {σ' : L2.St} {H' : Hp} {s' : Shared} {acc : Array Value} {c : Nat}, Inv (gxE X (A.deeper cenv) s0 sR H0 cenv fp pn EX) [(S, lstObj acc c)] σ' H' s' → (∀ b ∈ fp, H' b = none) → ∀ b ∈ fp, FpOk (gxE X (A.deeper cenv) s0 sR H0 cenv fp pn EX) [(S, lstObj acc c)] H' b := fun {σ' H' s' acc c} I' hn b hb =>
    ⟨hn b hb, (I'.ok.exf b hb).1, I'.ok.exfs b hb, .inl hb, fun x c e => (I'.ok.exf b hb).2 x c e, fun p hp z => by
      rcases List.mem_append.mp hp with hp | hp
      · exact (hpn p hp).2 (z ▸ hb)
      · rw [List.mem_singleton.mp hp] at z
        have z : S = b := z
        exact hS (by rw [z]; exact hb)⟩
  intro m
  induction m using Nat.strongRecOn with
  | ind m ih =>
    intro n i ys H s₀ s hn w hI hst hfn
    show Seg _ A _ _ _ s₀ _ ((compTurn (.GeneratorExp elt [⟨tg, iter, ifs, 0⟩] scope gpos) 0 (.ref it) .none cenv).onRaise (leaving cenv)) [] s
    rw [compTurn_gen, Sem.onRaise_eq_wrap]
    have xout : ∀ (e : Value) (s' : Shared), (gxE X (A.deeper cenv) s0 sR H0 cenv fp pn EX).xe e s' →
        Seg (model X.prog X.w) A (GEndE (gxE X (A.deeper cenv) s0 sR H0 cenv fp pn EX) S (wipe σ vs) Q (fun e s'' => CX X.prog X.w X.stack H0 sR EX e s'' ∧ ∀ p ∈ pn, s''.heap.get? p.1 = some p.2)) (GY (gxE X (A.deeper cenv) s0 sR H0 cenv fp pn EX) S) n s₀
          (.compLoop (.GeneratorExp elt [⟨tg, iter, ifs, 0⟩] scope gpos) 0 (.ref it) .none cenv) ((leaving cenv e).bind fun _ => .raise e) [] s' := fun e s' h => by
      refine seg_bind ?_
      rw [gx_over]
      refine wpAny_mono (show wpAny (model X.prog X.w) (A.deeper cenv) (leaving cenv e) _ _ s' from h) (fun _ s'' hq => ?_) fun _ _ z => z.elim
      exact seg_end (.error e) (.inr ⟨e, rfl, hq⟩)
    refine seg_bind_wrap (wpAny_standAt ?_)
    obtain ⟨acc, cc, r, I⟩ := hI
    rcases turn i m ys H w with ⟨stop, q⟩ | ⟨go, Nx, hNx, step⟩
    · refine seg_bind_wrap ?_
      rw [gx_over]
      refine thnF (T.done (gxE X (A.deeper cenv) s0 sR H0 cenv fp pn EX) rfl rfl rfl rfl i _ s _ H (fun _ _ => False) I (stat I hfn) hst stop) fun rr s1 ⟨hr, I1⟩ => ?_
      subst hr
      exact seg_end (.ok .next) (.inl ⟨rfl, ys, H, hn, ⟨acc, cc, r, I1⟩, q⟩)
    · refine seg_bind_wrap ?_
      rw [gx_over]
      refine thnF (T.item (gxE X (A.deeper cenv) s0 sR H0 cenv fp pn EX) rfl rfl rfl rfl i _ s _ H (fun _ _ => False) I (stat I hfn) hst go) fun rr s1 ⟨u, hr, h1⟩ => ?_
      subst hr
      refine seg_bind_wrap ?_
      rw [gx_over]
      refine thnF h1 fun _ s2 ⟨x, H2, I2, r2, y2, st2, n2⟩ => ?_
      have I2' := I2.pinned (stat I2 n2) (T.obj _ _ st2)
      refine seg_bind_wrap ?_
      rw [gx_over]
      refine wpAny_mono (pg.run _ s2 _ H2 x u _ I2' r2 (step x H2 y2)) (fun _ s3 ⟨σ3, H3, I3, hw3, q3⟩ => ?_) (fun e s' h => xout e s' h)
      refine seg_bind_wrap ?_
      rw [gx_over]
      refine wpAny_mono (pt.run _ s3 σ3 H3 _ I3 q3) (fun b s4 ⟨H4, I4, q4⟩ => ?_) (fun e s' h => xout e s' h)
      have hl : ∀ {s' : Shared} {H' : Hp}, Inv (gxE X (A.deeper cenv) s0 sR H0 cenv fp pn EX) ([(S, lstObj acc cc)] ++ pinsAt fp s2.heap) σ3 H' s' →
          Inv (gxE X (A.deeper cenv) s0 sR H0 cenv fp pn EX) [(S, lstObj acc cc)] (wipe σ vs) H' s' ∧ tn (i + 1) s'.heap ∧ ∀ b ∈ fp, H' b = none := fun {s' H'} I' => by
        have pin' : ∀ b ∈ fp, ∀ o, s2.heap.get? b = some o → s'.heap.get? b = some o ∧ H' b = none := fun b hb o e =>
          let z := I'.pin (b, o) (List.mem_append_right _ (List.mem_append_right _ (mem_pinsAt hb e)))
          ⟨z.1, z.2.1⟩
        have hl : (wipe σ vs).length = σ3.length := by rw [← hw3, wipe_length]
        refine ⟨I'.unpinned.weak hl (fun j v e => ?_), T.keep _ _ _ st2 fun b hb o e => (pin' b hb o e).1, fun b hb => ?_⟩
        · rw [← hw3] at e
          exact (wipe_some e).1
        · obtain ⟨o, e, _⟩ := T.obj _ _ st2 b hb
          exact (pin' b hb o e).2
      cases b with
      | false =>
        simp only [Bool.false_eq_true, if_false] at q4 ⊢
        obtain ⟨m', hm, w'⟩ := hNx ys H4 q4
        obtain ⟨I5, st5, n5⟩ := hl I4
        exact seg_again rfl (ih m' hm n (i + 1) ys H4 s₀ s4 hn w' ⟨acc, cc, r, I5⟩ st5 n5)
      | true =>
        simp only [if_true] at q4 ⊢
        have hy : ∀ v, yieldOut cenv v = yieldValue v := fun v => by simp only [yieldOut, hco, Bool.false_eq_true, if_false]
        simp only [hy]
        rw [Sem.bind_eq_wrap', Sem.bind_eq_wrap', Sem.wrap_wrap, Sem.wrap_wrap]
        refine seg_wrap ?_
        rw [gx_over]
        refine wpAny_mono (pe.run _ s4 σ3 H4 _ I4 q4) (fun v s5 ⟨yv, H5, I5', r5, hlt, nx⟩ => ?_) (fun e s' h => ?_)
        · obtain ⟨I5, st5, n5⟩ := hl I5'
          obtain ⟨n, rfl⟩ : ∃ k, n = k + 1 := ⟨n - 1, by omega⟩
          obtain ⟨m', hm, w'⟩ := hNx _ H5 nx
          refine seg_at (seg_yield rfl rfl rfl ⟨ys, yv, [], wipe σ vs, H5, hn, r5, ⟨acc, cc, r, I5⟩, fun s'' z => ?_⟩)
          refine seg_again rfl (ih m' hm n (i + 1) _ H5 s'' s'' (by rw [List.length_append, List.length_singleton]; omega) w' ?_ ?_ n5)
          · exact GI.woken (fun p hp => (hpn p hp).1) (fun p hp => absurd hp (by simp)) hA ⟨acc, cc, r, I5⟩ r5 z
          · exact T.keep _ _ _ st5 fun b hb o e => z.keep b o (fun y => hS (y ▸ hb)) e
        · exact xout e s' h
theorem pgen_gxE {EX : XK} {c P : Addr} {k : Nat} {elt tg iter : Expr} {ifs : List Expr} {scope : Scope} {own : List (Str × Nat)} {gpos : Pos} {wi : TI} {g : TG} {tt : TT} {te : TE}
    (hr : Room (k + 1) X.A) (TB : GxR.TabB X.base X.mg c P) (hcode : X.env.code = .ref c) (hN : X.N.Nodup) (hi : PI X tg iter wi) (ok : GxOk X.N X.env.scope scope own)
    (hg : ∀ (A : Around) (s sR : Shared) (H : Hp) (C : Addr) (cl : List (Str × Addr)) (code : Value) (fp : List Addr) (pn : List (Addr × Obj)), Room k A → PG (gxE X A s sR H (genEnv scope cl C code builtinsNs X.env) fp pn EX) tg g)
    (ht : ∀ (A : Around) (s sR : Shared) (H : Hp) (C : Addr) (cl : List (Str × Addr)) (code : Value) (fp : List Addr) (pn : List (Addr × Obj)), Room k A → PTs (gxE X A s sR H (genEnv scope cl C code builtinsNs X.env) fp pn EX) ifs tt)
    (he : ∀ (A : Around) (s sR : Shared) (H : Hp) (C : Addr) (cl : List (Str × Addr)) (code : Value) (fp : List Addr) (pn : List (Addr × Obj)), Room k A → Takes (gxE X A s sR H (genEnv scope cl C code builtinsNs X.env) fp pn EX) (fun cls d _ H' => EX cls d H') → PE (gxE X A s sR H (genEnv scope cl C code builtinsNs X.env) fp pn EX) elt te)
    (hs : ∀ v, genFold iter X.env v = pure v) : PGen X (k + 1) (.GeneratorExp elt [⟨tg, iter, ifs, 0⟩] scope gpos) (tGx wi g tt te (own.map (·.2)) P) EX := by
  refine ⟨fun pins s σ H cont I h => ?_⟩
  have hfree : ∀ y ∈ scope.names, y.2 = .free → ∃ c, X.env.cells.lookup y.1 = some c := fun y hy e => by
    rcases ok.free y hy e with k | k
    · exact I.ok.has _ (.inl k)
    · exact I.ok.has _ (.inr k)
  refine wpAny_GeneratorExp_make ok.co (closure_ok hfree) ok.cell ok.dot ok.kind (by have := hr.dp; omega) (thn (hi.run pins s σ H _ I h) fun xv s1 hx => thn hx fun itv s2 h2 => ?_) hs
  obtain ⟨it, fp, tn, J, H2, e, I2, T, st2, f2, hTab, q⟩ := h2
  subst e
  refine ⟨I2.nolimit, ?_⟩
  obtain ⟨ps, hP, htr⟩ := hTab
  have hPs : s2.heap.get? P = some { cls := .none, data := .fields ps } := I2.hok P _ hP
  have cd : PySem.W.CodeHd s2.heap c P := TB.code.keeps fun b u e => I2.bk b u e
  have nfpP : ∀ b ∈ fp, b ≠ P := fun b hb z => by
    have := (f2 b hb).1
    rw [z, hP] at this; cases this
  have cont' : ∀ (code : Value) (h3 : Heap) (tk : Nat) (ps' : Array Value), Heap.ExtBut P s2.heap h3 → s2.heap.objs.size ≤ h3.objs.size → h3.get? P = some { cls := .none, data := .fields ps' } → (∃ more, ps' = ps ++ more) → TriplesOk ps'.toList →
      wpAny (model X.prog X.w) X.A (builtinsFor X.env.globals X.env.builtins) (fun bi s₄ => ∀ h', h'.Ns s₄.heap.objs.size (fun y => if y = ".0" then some (.ref it) else none) → Heap.SameBut s₄.heap.objs.size (s₄.heap.push { cls := .type "frame", data := .dict #[] }) h' →
          (∃ H1 sc ex, Inv X pins σ H1 sc ∧ ExOk X pins ex ∧ GMade X.prog X.w (k + 1) X.stack H1 sc ex cont EX (.ref h'.objs.size) { s₄ with
            gens := s₄.gens.push (.fresh (.compStart (.GeneratorExp elt [⟨tg, iter, ifs, 0⟩] scope gpos) 0 (.ref it) .none (genEnv scope (cloFrom X.env.cells scope.names []) s₄.heap.objs.size code bi X.env))),
            toks := s₄.toks + 1 + 1 + 1,
            heap := h'.push { cls := .type "generator", data := .fields #[.int s₄.gens.size 0, .str "<genexpr>" (s₄.toks + 1), .str (X.env.qual ++ "<genexpr>") (s₄.toks + 1 + 1)] } })) X.xe { s2 with heap := h3, toks := tk } := by
    intro code h3 tk ps' hx hsz hP3 hmore ht3
    obtain ⟨bm, ob, e1, e2, e3, e4, e5, e6, e7, e8⟩ := TB.bm
    have keep3 : ∀ b u, b ≠ P → s2.heap.get? b = some u → h3.get? b = some u := fun b u hb e => hx b u hb e
    refine wpAny_builtinsFor (m := X.mg) (by rw [I2.ok.glob]; exact (I2.mod.glob.keeps I2.bk).extBut hx TB.gP) e1 e2 (keep3 _ _ e4 (I2.bk _ _ e5)) e6 e7 e8 ?_
    obtain ⟨more, em⟩ := hmore
    have I3 : Inv X pins σ (upd H2 P (.tbl (ps ++ more))) { s2 with heap := h3, gens := s2.gens, drawn := s2.drawn, toks := tk } := GxR.inv_tab I2 hP (fun b u hb e => hx b u hb e) (by rw [← em]; exact hP3) I2.bare
    generalize hs3 : ({ s2 with heap := h3, gens := s2.gens, drawn := s2.drawn, toks := tk } : Shared) = s3 at I3
    have e3h : s3.heap = h3 := by rw [← hs3]
    intro h' hn' hs'
    generalize hH3 : upd H2 P (.tbl (ps ++ more)) = H3 at I3
    have hTb : GxR.Tabbed P H2 H3 := by
      rw [← hH3]
      exact ⟨⟨ps ++ more, upd_same, by rw [← em]; exact ht3⟩, fun b hb => upd_ne hb⟩
    have f3 : ∀ b ∈ fp, FpOk X pins H3 b ∧ b < s3.heap.objs.size := fun b hb => by
      obtain ⟨o, e, _⟩ := T.obj _ _ st2 b hb
      refine ⟨⟨?_, (f2 b hb).2⟩, by rw [e3h]; exact Heap.lt_size (keep3 b o (nfpP b hb) e)⟩
      rw [hTb.2 b (nfpP b hb)]
      exact (f2 b hb).1
    have st3 : tn 0 s3.heap := T.keep _ _ _ st2 fun b hb o e => by rw [e3h]; exact keep3 b o (nfpP b hb) e
    obtain ⟨W, ⟨m0, w0⟩, turn⟩ := q H3 hTb
    have keep' : ∀ b o, s3.heap.get? b = some o → h'.get? b = some o := fun b o e => hs'.extBut b o (Nat.ne_of_lt (Heap.lt_size e)) (Heap.get?_push_of_some _ e)
    have hsz' : h'.objs.size = s3.heap.objs.size + 1 := by rw [hs'.1, Heap.size_push]
    obtain ⟨sR, hsR⟩ : ∃ sR : Shared, sR = { s3 with heap := PySem.W.hideAll s3.heap fp } := ⟨_, rfl⟩
    have osR : sR.os = s3.os := by rw [hsR]
    have szR : sR.heap.objs.size = s3.heap.objs.size := by rw [hsR]; exact PySem.W.hideAll_size _ _
    have hR : ∀ b o, sR.heap.get? b = some o → s3.heap.get? b = some o ∧ b ∉ fp := fun b o e => by
      rw [hsR] at e
      refine ⟨PySem.W.of_hideAll _ e, fun hb => ?_⟩
      rw [PySem.W.hideAll_none _ hb] at e
      cases e
    have hR2 : ∀ b o, s3.heap.get? b = some o → b ∉ fp → sR.heap.get? b = some o := fun b o e hb => by
      rw [hsR]
      exact PySem.W.hideAll_get _ e hb
    have fpn : ∀ b ∈ fp, H3 b = none := fun b hb => (f3 b hb).1.1
    have IR : Inv X pins σ H3 sR := by
      refine I3.call' (ch := fp) osR ⟨fun b o e _ _ hb => hR2 b o e hb, fun b o e _ _ hb => ⟨o.slots, by rw [hR2 b o e hb]⟩, fun _ _ _ n _ => n, fun b o e hb => ⟨o, hR2 b o e hb⟩, fun _ _ e => e, fun _ _ _ e => e, fun b qs e => ⟨#[], by rw [e]; simp⟩⟩ (fun b o q => ?_) (by rw [hsR]; exact I3.bare) (fun b hb => ?_)
      · exact (I3.hok b o q).stay (fun c u hc r => hR2 c u r fun hm => by
          have z := fpn c hm
          rcases hc with hc | hc
          · rw [hc, q] at z; cases z
          · rw [hc] at z; cases z) (fun _ r => r) fun _ _ r => r
      · obtain ⟨z1, z2, z3, z4, z5, z6⟩ := (f3 b hb).1
        exact ⟨z4, z2, z5, z6⟩
    refine ⟨H3, sR, [], IR, ExOk.nil, ?_⟩
    generalize hce : genEnv scope (cloFrom X.env.cells scope.names []) s3.heap.objs.size code builtinsNs X.env = cenv
    have cL : cenv.locals = s3.heap.objs.size := by rw [← hce]; rfl
    generalize hgo : ({ cls := .type "generator", data := .fields #[.int s3.gens.size 0, .str "<genexpr>" (s3.toks + 1), .str (X.env.qual ++ "<genexpr>") (s3.toks + 1 + 1)] } : Obj) = go
    have hgc : go.cls = .type "generator" ∧ go.data = .fields #[.int s3.gens.size 0, .str "<genexpr>" (s3.toks + 1), .str (X.env.qual ++ "<genexpr>") (s3.toks + 1 + 1)] ∧ go.slots = #[] := by
      rw [← hgo]; exact ⟨rfl, rfl, rfl⟩
    have hgen : ∀ h : Heap, h.get? h'.objs.size = some go → h.IsGen h'.objs.size s3.gens.size := fun h e => ⟨go, _, _, e, hgc.1, hgc.2.1, hgc.2.2⟩
    have hpushed : (h'.push go).get? h'.objs.size = some go := by
      rw [← hgo]; exact Heap.get?_push_size _ rfl
    refine ⟨h'.objs.size, s3.gens.size, _, rfl, by omega, ?_, hgen _ hpushed, Array.getElem?_push_size .., osR.symm, AllBare.push I3.bare rfl, I3.nolimit.keeps fun b o e => Heap.get?_push_of_some _ (keep' b o e), fun b o e => Heap.get?_push_of_some _ (keep' b o (hR b o e).1), ?_⟩
    · show _ < (h'.push _).objs.size
      rw [Heap.size_push]; exact Nat.lt_succ_self _
    intro Aw S s4 hrw hfr hSx hk2 hSo hos hba
    rw [osR] at hos
    have hSz : h'.objs.size < S := by
      have hSx' : (h'.push go).objs.size ≤ S := hSx
      rw [Heap.size_push] at hSx'
      exact hSx'
    have hS3 : s3.heap.objs.size < S := by omega
    obtain ⟨cS, heS⟩ := hSo
    have hea : s4.heap.get? h'.objs.size = some go := hk2 _ go hpushed
    have hgd : ∀ v, go.data ≠ .cell v := fun v z => by rw [hgc.2.1] at z; cases z
    have kp4 : ∀ b o, s3.heap.get? b = some o → s4.heap.get? b = some o := fun b o e => hk2 b o (Heap.get?_push_of_some _ (keep' b o e))
    have I5 := gx_start (A := Aw.deeper cenv) (code := code) (s' := s4) (m := fun y => if y = ".0" then some (.ref it) else none) (pn := [(h'.objs.size, go)]) I3 ok hN f3 hrw.hd (by rw [hce]; exact Around.frames_deeper hfr) kp4 hos hba
      (hn'.keeps fun b o e => hk2 b o (Heap.get?_push_of_some _ e)) (fun p hp => by
        rw [List.mem_singleton.mp hp]
        exact ⟨hea, by show s3.heap.objs.size < h'.objs.size; omega, hgd⟩)
    rw [hce] at I5
    have I5 : Inv (gxE X (Aw.deeper cenv) s3 sR H3 cenv fp [(h'.objs.size, go)] EX) [] (wipe σ (own.map (·.2))) H3 s4 := ⟨⟨I5.ok.mod, I5.ok.kind, I5.ok.glob, I5.ok.blt, I5.ok.above, I5.ok.inj, I5.ok.has, I5.ok.cab, I5.ok.hd, I5.ok.frames, I5.ok.stk, I5.ok.exf, I5.ok.bs, I5.ok.bsz, I5.ok.noex, I5.ok.exfs, I5.ok.funs, I5.ok.frf⟩, I5.os, I5.bare, I5.base, I5.loc, I5.cell, I5.free, I5.freeC, I5.pin, I5.hok, I5.len⟩
    have hSL : S ≠ cenv.locals := by rw [cL]; exact Nat.ne_of_gt hS3
    have hG : GI (gxE X (Aw.deeper cenv) s3 sR H3 cenv fp [(h'.objs.size, go)] EX) S [] [] (wipe σ (own.map (·.2))) H3 s4 := by
      refine ⟨#[], cS, .nil, I5.pins_of fun p hp => ?_⟩
      rw [List.mem_singleton.mp hp]
      refine ⟨heS, I3.hok.fresh (Nat.le_of_lt hS3), hSL, fun z => ?_, fun v q => by cases q⟩
      rcases List.mem_cons.mp (I3.stkSub S z) with z | z
      · exact absurd (z ▸ I3.lt) (Nat.not_lt_of_ge (Nat.le_of_lt hS3))
      · exact I3.nofs (Nat.le_of_lt hS3) z
    have hSfp : S ∉ fp := fun hb => absurd (f3 S hb).2 (Nat.not_lt_of_ge (Nat.le_of_lt hS3))
    have hAp : Apart (gxE X (Aw.deeper cenv) s3 sR H3 cenv fp [(h'.objs.size, go)] EX) S := by
      refine ⟨Nat.le_of_lt hS3, hSL, fun x c e z => ?_⟩
      obtain ⟨v, o, ho, _⟩ := I5.cell x c e
      have e : cenv.cells.lookup x = some c := e
      rw [← hce] at e
      rcases cloFrom_mem (PySem.mem_of_lookup e) with hm | ⟨h1, h2⟩
      · cases hm
      · obtain ⟨c2, hc2⟩ := hfree _ h1 rfl
        rw [hc2] at h2
        have h2 : c = c2 := h2
        obtain ⟨v2, o2, ho2, _⟩ := I3.cell x c2 hc2
        have := Heap.lt_size ho2
        rw [← h2, z] at this
        exact absurd this (Nat.not_lt_of_ge (Nat.le_of_lt hS3))
    have pinned : ∀ {ip : List (Addr × Obj)} {ys : List V} {s' : Shared} {σ' : L2.St} {H' : Hp}, GI (gxE X (Aw.deeper cenv) s3 sR H3 cenv fp [(h'.objs.size, go)] EX) S ip ys σ' H' s' → s'.heap.IsGen h'.objs.size s3.gens.size := fun {ip ys s' σ' H'} hI => by
      obtain ⟨acc, cc, _, J⟩ := hI
      exact hgen _ (J.pin (h'.objs.size, go) (List.mem_append_left _ (List.mem_singleton.mpr rfl))).1
    have st4 : tn 0 s4.heap := T.keep _ _ _ st3 fun b _ o e => kp4 b o e
    have loop := seg_gxE (EX := EX) (sR := sR) (A := Aw) (S := S) (elt := elt) (iter := iter) (scope := scope) (gpos := gpos) (vs := own.map (·.2)) (H0 := H3) (s0 := s3) (cenv := cenv) (pn := [(h'.objs.size, go)]) (W := W) (Q := cont) (σ := σ) T (by rw [← hce]; exact ok.co)
      (by rw [← hce]; exact hg _ _ _ _ _ _ _ _ _ (hrw.deeper _)) (by rw [← hce]; exact ht _ _ _ _ _ _ _ _ _ (hrw.deeper _)) (by rw [← hce]; exact he _ _ _ _ _ _ _ _ _ (hrw.deeper _) (takes_gxE rfl hR osR.symm))
      (fun p hp => by
        rw [List.mem_singleton.mp hp]
        exact ⟨Nat.ne_of_lt hSz, fun hb => absurd (f3 _ hb).2 (by show ¬ (h'.objs.size < s3.heap.objs.size); omega)⟩) hAp hSfp turn m0 sizeLine 0 [] H3 s4 s4 (Nat.add_zero _) w0 hG st4 (fun b hb => (f3 b hb).1.1)
    refine seg_imp (R := GEndE (gxE X (Aw.deeper cenv) s3 sR H3 cenv fp [(h'.objs.size, go)] EX) S (wipe σ (own.map (·.2))) cont (fun e s'' => CX X.prog X.w X.stack H3 sR EX e s'' ∧ ∀ p ∈ [(h'.objs.size, go)], s''.heap.get? p.1 = some p.2)) (Y := GY (gxE X (Aw.deeper cenv) s3 sR H3 cenv fp [(h'.objs.size, go)] EX) S) (fun n s₀ r s1' hRr => ?_) (fun n s₀ v s1' kap kap' hkk hY => ?_) sizeLine (seg_gx0 T st4 loop)
    · rcases hRr with ⟨rfl, ys, H', hn, hI, hQ⟩ | ⟨e, rfl, hc, hp⟩
      · obtain ⟨a1, _, _, acc, cc, ra, ea⟩ := hI.at
        obtain ⟨_, _, _, J⟩ := hI
        exact .inl ⟨.inr rfl, H', ys, acc, cc, J.os.trans osR.symm, J.bare, ⟨fun b o e n hb _ => J.base.keep b o (hR b o e).1 n hb (hR b o e).2, fun b o e n hb _ => J.base.slot b o (hR b o e).1 n hb (hR b o e).2, fun b o e n _ => J.base.free b o (hR b o e).1 n (hR b o e).2, fun b o e _ => J.base.there b o (hR b o e).1 (hR b o e).2, J.base.tups, J.base.frzs, J.base.tbls⟩, J.hok, a1, ea, ra, by omega, hQ⟩
      · exact .inr ⟨e, rfl, hc, hgen _ (hp _ (.head _))⟩
    · obtain ⟨ys, xx, ip, σ', H', hn, h2, hI, h3⟩ := hY
      obtain ⟨_, _, _, acc, cc, ra, ea⟩ := hI.at
      have hg := pinned hI
      obtain ⟨_, _, _, J⟩ := hI
      have hsz : acc.size = ys.length := by
        have e1 := ra.length
        have e2 : acc.toList.length = acc.size := by simp
        omega
      exact ⟨J.os.trans osR.symm, J.bare, J.nolimit, hg, ⟨acc, cc, ea, by rw [hsz]; exact hn⟩, fun s' z => hkk _ _ (h3 s' z)⟩
  cases hf : codeAmong gpos ps.toList with
  | none =>
    refine wpAny_genexprCodeX hcode (cd.code hPs htr) (cd.tab hPs) hf fun c' h' tk hx hge hlt hco' _ htab' _ => ?_
    obtain ⟨o1, vs, f1, tf, fl, tg, inF, tx, tt, op, _, _, _, _, _, _, _, _, _, htr', _⟩ := hco'
    exact cont' _ h' tk _ hx (Nat.le_trans hge (Nat.le_of_lt hlt)) htab'.2 ⟨_, rfl⟩ htr'
  | some cv =>
    refine wpAny_genexprCode_hit hcode (cd.code hPs htr) hf ?_
    exact cont' cv s2.heap s2.toks ps (Heap.ExtBut.refl _ _) (Nat.le_refl _) hPs ⟨#[], by simp⟩ htr
end
/-! ### tuple(g) -/
section
variable {P : Program} {w : World} {outer : List Env} {H : Hp} {sc s : Shared} {ex : List Addr} {Q : List V → Hp → Prop} {A : Around} {k : Nat} {u : Value} {E : Value → Shared → Prop}
theorem collect_gxE {EX : XK} {Q' : List Value → Shared → Prop} (hr : Room (k + 2) A) (hfr : A.frames = some outer) (h : GMade P w k outer H sc ex Q EX u s) (hexc : ∀ e s' g, CX P w outer H sc EX e s' → NotStop (model P w) e s'.heap ∧ E e (s'.setGen g .finished))
    (hQ : ∀ acc s', Drained P w outer H sc ex Q acc s' → Q' acc.toList s') : wpAny (model P w) A (collect u) Q' E s := by
  obtain ⟨a, g, c, rfl, ha1, ha2, hg, hgs, hos, hb, hl, hkp, wake⟩ := h
  have hSa : s.heap.objs.size ≠ a := Nat.ne_of_gt ha2
  have hcl : cStatics < s.heap.objs.size := let ⟨_, hn, _⟩ := hl; hn.lt
  have hSc : s.heap.objs.size ≠ cStatics := Nat.ne_of_gt hcl
  unfold collect
  refine wpAny_bind (wpAny_runValue (codeAny_builtin F.entry_proto_collect ?_))
  rw [Around.under_plainId F.plain_proto_collect _]
  show wpAny _ A.in1 (newList [] >>= fun l => again (.builtin "list.__iadd__" ⟨[l, .ref a], []⟩)) _ _ s
  refine wpAny_bind (wpAny_newObj_type ?_)
  refine wpAny_pure ⟨plainId_quiet F.plain_list_iadd _, codeAny_builtin F.entry_list_iadd ?_⟩
  rw [Around.under_plainId F.plain_list_iadd _]
  show wpAny _ A.in1 (Builtin.List.listExtendWith (.ref s.heap.objs.size) (.ref a) (.ref s.heap.objs.size)) _ _ _
  unfold Builtin.List.listExtendWith
  have k1 : ∀ b o, s.heap.get? b = some o → (s.heap.push { cls := .type "list", data := .seq ([] : List Value).toArray }).get? b = some o := fun b o e => Heap.get?_push_of_some _ e
  have gty : ∀ {h : Heap}, (∀ b o, s.heap.get? b = some o → h.get? b = some o) → h.IsGen a g := fun {h} q => hg.keeps q
  refine wpAny_bind (wpAny_typeOf (Heap.IsGen.typeIs (s := { s with heap := _ }) (gty k1)) ?_)
  have h1 : Builtin.List.listSameRef (.ref s.heap.objs.size) (.ref a) = false := by simp [Builtin.List.listSameRef, hSa]
  have h2 : (Value.type "generator" == Value.type "list") = false := by decide
  have h3 : (Value.type "generator" == Value.type "tuple") = false := by decide
  simp only [h1, h2, h3, Bool.or_false, Bool.false_eq_true, if_false]
  refine wpAny_bind (wpAny_pyIter_gen (s := { s with heap := _ }) (gty k1) ?_)
  refine wpAny_bind (wpAny_holding ?_)
  unfold Builtin.List.listLengthHint
  refine wpAny_bind (wpAny_specialOf (Heap.IsGen.typeIs (s := { s with heap := _ }) (gty k1)) F.gen_no_len ?_)
  show wpAny _ A.in1 (specialOf (Value.ref a) (Str.ofString "__length_hint__") >>= _) _ _ _
  refine wpAny_bind (wpAny_specialOf (Heap.IsGen.typeIs (s := { s with heap := _ }) (gty k1)) F.gen_no_hint ?_)
  refine wpAny_pure ?_
  show wpAny _ A.in1 (rule "list.extend.makes-room" >>= fun _ => Builtin.List.listTouch (.ref s.heap.objs.size) >>= fun _ =>
    again (.builtin "list.extend.loop" ⟨[.ref s.heap.objs.size, .ref a, .ref s.heap.objs.size], []⟩)) _ _ _
  refine wpAny_bind (wpAny_rule ?_)
  have hS₁ : (s.heap.push { cls := .type "list", data := .seq ([] : List Value).toArray }).get? s.heap.objs.size = some { cls := .type "list", data := .seq ([] : List Value).toArray } := Heap.get?_push_size _ rfl
  refine wpAny_bind ?_
  show wpAny _ A.in1 (updateSeq s.heap.objs.size (·.push .none) >>= fun _ => updateSeq s.heap.objs.size (·.pop)) _ _ _
  refine wpAny_bind (wpAny_updateSeq hS₁ rfl ?_)
  have hS₂ := Heap.get?_update_self (Obj.mapSeq (·.push Value.none)) hS₁ rfl
  refine wpAny_updateSeq hS₂ rfl ?_
  have hS₃ := Heap.get?_update_self (Obj.mapSeq (·.pop)) hS₂ rfl
  have up : ∀ (h : Heap) (f : Obj → Obj), (∀ b o, s.heap.get? b = some o → h.get? b = some o) → ∀ b o, s.heap.get? b = some o → (h.update s.heap.objs.size f).get? b = some o := fun h f q b o e =>
    (Heap.get?_update_other _ _ (Ne.symm (Nat.ne_of_lt (Heap.lt_size e)))).trans (q b o e)
  have k4 := up _ (Obj.mapSeq (·.pop)) (up _ (Obj.mapSeq (·.push Value.none)) k1)
  refine wpAny_pure ⟨plainId_quiet F.plain_extend_loop _, ?_⟩
  refine drain (P := P) (w := w) (outer := outer) (H := H) (sc := sc) (ex := ex) (Q := Q) (EX := EX) (A := A) (g := g) hr.hd (by have := hr.dp; omega) hSa hSc
    (fun s' acc c H' ys q1 q2 q3 q4 q5 q6 q7 q8 q9 => ?_) (fun e s' hc => ?_) sizeLine _ (gty k4) (hl.keeps k4) ⟨_, hgs, rfl, ?_⟩
  · show wpAny _ A (load s.heap.objs.size >>= _) _ _ s'
    refine wpAny_bind (wpAny_load q1 ?_)
    exact wpAny_pure (hQ acc s' ⟨H', ys, q2, q3, q4, q5, q6, q7, q9⟩)
  · exact hexc e s' g hc
  · refine wake _ _ _ ⟨hr.hd, ?_, ?_⟩ hfr (Nat.le_refl _) k4 ⟨_, hS₃⟩ hos (allBare_setGen (s := { s with heap := _ }) hb rfl)
    · have := hr.dp
      show A.depth + 3 * k + 5 < _
      omega
    · have := hr.un
      show A.units + 1 + 1 + 16 * k + 200 < _
      omega

theorem call_tuple_gxE {EX : XK} {Q' : Value → Shared → Prop} (hr : Room (k + 3) A) (hfr : A.frames = some outer) (h : GMade P w k outer H sc ex Q EX u s) (hexc : ∀ e s' g, CX P w outer H sc EX e s' → NotStop (model P w) e s'.heap ∧ E e (s'.setGen g .finished))
    (hQ : ∀ acc s', Drained P w outer H sc ex Q acc s' → Q' (.ref s'.heap.objs.size) { s' with heap := s'.heap.push { cls := .type "tuple", data := .seq acc } }) :
    wpAny (model P w) A (call (.type "tuple") [u]) Q' E s := by
  obtain ⟨a, g, c, hu, ha1, ha2, hg, r⟩ := id h
  have hTI : s.TypeIs u "generator" := by rw [hu]; exact hg.typeIs
  have hsub := sub_tuple_self
  have hinit := init_tuple_lookup
  have hmh := madeHere_tuple
  have r2 : Room (k + 2) A.in1.in1 := ⟨hr.hd, by have := hr.dp; show A.depth + 3 * (k + 2) + 5 < _; omega, by have := hr.un; show A.units + 1 + 1 + 16 * (k + 2) + 200 < _; omega⟩
  refine callType_codes (Q₁ := fun obj s₁ => s₁.TypeIs obj "tuple" ∧ Q' obj s₁) F.called_tuple (F.typeCall_tuple_1 _) F.entry_object_init ?_ fun obj s₁ h₁ =>
    ⟨h₁.1, F.args_object_init_2 obj _, object_init_meets F.called_tuple.init.lookup F.called_tuple.made (by decide) P w A.in1 _ s₁ ⟨h₁.1, rfl, h₁.2⟩⟩
  refine codeAny_of_tree ?_
  show wpAny _ A.in1.in1 (do checkBuiltinCall "tuple.__new__" ⟨[.type "tuple", u], []⟩; again (.builtin "tuple.__new__" ⟨[.type "tuple", u], []⟩)) _ _ s
  refine wpAny_bind (wpAny_of_eq (F.newCall_tuple_1 _) (wpAny_pure ⟨plainId_quiet F.plain_tuple_new _, codeAny_builtin F.entry_tuple_new ?_⟩))
  rw [Around.under_plainId F.plain_tuple_new _]
  have col := fun (Q'' : List Value → Shared → Prop) (E' : Value → Shared → Prop) (hx : ∀ e s' g, CX P w outer H sc EX e s' → NotStop (model P w) e s'.heap ∧ E' e (s'.setGen g .finished)) (hq : ∀ acc s', Drained P w outer H sc ex Q acc s' → Q'' acc.toList s') => collect_gxE (A := A.in1.in1) (Q' := Q'') (E := E') r2 hfr h hx hq
  clear r h
  subst hu
  wp_walk using wpAny_typeOf hTI, col
  · exact fun e s' g hc => hexc e s' g hc
  intro acc s' hd
  show wpAny _ _ (Builtin.Tuple.tupleExact acc.toList.toArray >>= fun v => ret v) _ _ _
  unfold Builtin.Tuple.tupleExact
  have hz : acc.size ≤ sizeLine := by
    obtain ⟨H', ys, q1, q2, _⟩ := hd
    have e1 := q1.length
    have e2 : acc.toList.length = acc.size := by simp
    omega
  refine wpAny_bind (wpAny_newObj_type ?_ (by show acc.toList.toArray.size ≤ sizeLine; simp only [Array.toArray_toList]; exact hz))
  refine wpAny_pure ?_
  have e : acc.toList.toArray = acc := by simp
  rw [e]
  exact ⟨⟨_, Heap.get?_push_size _ rfl, rfl⟩, hQ acc s' hd⟩
end
section
variable {X : Cx}
/-- tuple(g), the elements may raise -/
theorem pe_tupleE {k : Nat} {e : Expr} {tg : TGen} {E : XK} {p pos : Pos} (h : PGen X k e tg E) (hx : Passes (CX X.prog X.w) X E) (hns : NoStop X.K E) (hr : Room (k + 3) X.A) (hg : Gl X "tuple") (hmg : X.mg "tuple" = none)
    (he : starEach [e] X.env = (false, eval e X.env) :: starEach [] X.env := by rfl) : PE X (.Call (.Name "tuple" p) [e] [] pos) (tTupleG tg) := by
  refine ⟨fun pins s σ H Q I hq => ?_⟩
  refine wpAny_Call_Name_kw (ld_blt I hg hmg (u := .type "tuple") (by rfl) ?_ (by decide) (by decide))
  refine PyProof.Rows.callWith_type1 ?_ he rfl
  rw [he]
  show wpAny _ _ (spliced ((false, eval e X.env) :: backTo pos (starEach [] X.env))) _ _ s
  refine Calls.spliced_cons (thn (h.run pins s σ H _ I hq) fun u s1 ⟨H1, sc, ex, I1, hex, hG⟩ => ?_)
  refine Calls.spliced_nil ?_
  refine call_tuple_gxE hr I1.ok.frames hG (fun e s' g hc => ?_) fun acc s' hd => ?_
  · have kin : X.K.In s'.heap := by
      obtain ⟨a, B, H', cls, d, _, fl, _, ub, _⟩ := id hc
      refine I1.ok.mod.kin.keeps fun b o eb => fl.1 b o (ub.keep b o (I1.bs b o eb).1 (I1.bs b o eb).2 fun hm => ?_)
      rcases List.mem_cons.mp (I1.stkSub b hm) with z | z
      · have h1 := Heap.lt_size eb
        have h2 := Nat.le_trans I1.ok.bsz I1.ok.above
        rw [z] at h1
        exact absurd (Nat.lt_of_lt_of_le h1 h2) (Nat.lt_irrefl _)
      · exact I1.ok.nofr eb z
    refine ⟨notStop_of hns kin hc, hx pins σ H1 sc e _ I1 ?_⟩
    obtain ⟨a, B, H', cls, d, z1, fl, z2, ub, z3, z4, z5, z6⟩ := hc
    exact ⟨a, B, H', cls, d, z1, fl, z2, ub, z3, z4, allBare_setGen z5 rfl, z6⟩
  · obtain ⟨H', ys, q1, q2, q3, q4, q5, q6, q7⟩ := hd
    have I2 : Inv X pins σ H' s' := I1.call' (ch := ex) q3 q5 q6 q4 hex
    refine ⟨.ref s'.heap.objs.size, _, I2.laid (t' := s'.toks) (fun b o e => Heap.get?_push_of_some _ e) (Nat.le_refl _) (o := .tup ys) ⟨q2, acc.toList, q1, ?_⟩, rfl, q7 _ (I2.hok.fresh (Nat.le_refl _))⟩
    exact ⟨_, Heap.get?_push_size _ rfl, rfl, 0, by simp⟩
/-- .. told with its object -/
theorem pe_tupleEF {k : Nat} {e : Expr} {tg : TGen} {E : XK} {p pos : Pos} (h : PGen X k e tg E) (hx : Passes (CX X.prog X.w) X E) (hns : NoStop X.K E) (hr : Room (k + 3) X.A) (hg : Gl X "tuple") (hmg : X.mg "tuple" = none)
    (he : starEach [e] X.env = (false, eval e X.env) :: starEach [] X.env := by rfl) : PE X (.Call (.Name "tuple" p) [e] [] pos) (tTupleF tg) := by
  refine ⟨fun pins s σ H Q I hq => ?_⟩
  refine wpAny_Call_Name_kw (ld_blt I hg hmg (u := .type "tuple") (by rfl) ?_ (by decide) (by decide))
  refine PyProof.Rows.callWith_type1 ?_ he rfl
  rw [he]
  show wpAny _ _ (spliced ((false, eval e X.env) :: backTo pos (starEach [] X.env))) _ _ s
  refine Calls.spliced_cons (thn (h.run pins s σ H _ I hq) fun u s1 ⟨H1, sc, ex, I1, hex, hG⟩ => ?_)
  refine Calls.spliced_nil ?_
  refine call_tuple_gxE hr I1.ok.frames hG (fun e s' g hc => ?_) fun acc s' hd => ?_
  · have kin : X.K.In s'.heap := by
      obtain ⟨a, B, H', cls, d, _, fl, _, ub, _⟩ := id hc
      refine I1.ok.mod.kin.keeps fun b o eb => fl.1 b o (ub.keep b o (I1.bs b o eb).1 (I1.bs b o eb).2 fun hm => ?_)
      rcases List.mem_cons.mp (I1.stkSub b hm) with z | z
      · have h1 := Heap.lt_size eb
        have h2 := Nat.le_trans I1.ok.bsz I1.ok.above
        rw [z] at h1
        exact absurd (Nat.lt_of_lt_of_le h1 h2) (Nat.lt_irrefl _)
      · exact I1.ok.nofr eb z
    refine ⟨notStop_of hns kin hc, hx pins σ H1 sc e _ I1 ?_⟩
    obtain ⟨a, B, H', cls, d, z1, fl, z2, ub, z3, z4, z5, z6⟩ := hc
    exact ⟨a, B, H', cls, d, z1, fl, z2, ub, z3, z4, allBare_setGen z5 rfl, z6⟩
  · obtain ⟨H', ys, q1, q2, q3, q4, q5, q6, q7⟩ := hd
    have I2 : Inv X pins σ H' s' := I1.call' (ch := ex) q3 q5 q6 q4 hex
    refine ⟨.ref s'.heap.objs.size, _, I2.laid (t' := s'.toks) (fun b o e => Heap.get?_push_of_some _ e) (Nat.le_refl _) (o := .frz { cls := .type "tuple", data := .seq acc } (.tup ys)) ⟨Heap.get?_push_size _ rfl, q2, acc.toList, q1, ?_⟩, rfl, q7 _ _ (I2.hok.fresh (Nat.le_refl _)) rfl⟩
    exact ⟨_, Heap.get?_push_size _ rfl, rfl, 0, by simp⟩
end
end Gx


/-! o.m() of a method that may raise -/
namespace Sd
open PySem L2
open C8 (Cal Met Mak pe_c pe_mk pe_mt pe_mt0 pss_cut tCut)
section
variable {X : Cx} {k j : Nat} {C : Addr} {m : Str} {sp : Sp} {dvs : List V} {pos apos : Pos} {o : Expr} {ta : TE} {E : XK}
theorem pe_mtX0 {pl : Sem Bool} (c : MetX X.prog X.w X.K X.mg X.base k C m sp dvs) (hr : Room j X.A) (hk : k ≤ j) (tk : Takes X (fun cls d _ H => E cls d H)) (he : PE X o ta)
    (ht : eval (.Call (.Attribute o m apos) [] [] pos) X.env = (do
      let ov ← eval o X.env
      standAt apos.atName
      let (f, first) ← holding [ov] (getMethod ov m pl)
      callWith pos f first (backTo pos (starEach [] X.env)) (backToKw pos (keywordEach [] X.env))) := by rfl) :
    PE X (.Call (.Attribute o m apos) [] [] pos) (tMeth C m sp dvs E ta tNil) := by
  obtain ⟨f, fd, ps, ds, hc, hm, F, b, d⟩ := c.ex
  exact pe_meth0 (pl := pl) he hc hm F (hr.mono hk) b d (passes_call tk fun _ _ _ _ h => h) ht
end
end Sd


namespace Sd
open PySem L2
open C8 (Cal Met Mak pe_c pe_mk pe_mt pe_mt0 tCut)
def top (i : Nat) : Stmt := PySem.Challenge.pw_shardstack_k01_values_as_bytes.main.body.getD i (.Pass ⟨0, 0, 0, 0⟩)
abbrev sDice : Stmt := top 23
abbrev sRoll : Stmt := top 24
abbrev sTold : Stmt := top 26
abbrev sRounds : Stmt := top 25

structure TxtL (mg : Str → Option Value) : Prop where
  abs : mg "abs" = none
  int : mg "int" = none
set_option linter.unusedSimpArgs false
set_option pp.deepTerms false
set_option pp.deepTerms.threshold 12
set_option hygiene false
local macro_rules | `(tactic| fail "nd") => `(tactic| first | assumption | decide +kernel)
local macro_rules | `(tactic| fail "ix") => `(tactic| first | exact ⟨0, rfl⟩ | exact ⟨1, rfl⟩ | exact ⟨2, rfl⟩ | exact ⟨3, rfl⟩ | exact ⟨4, rfl⟩ | exact ⟨5, rfl⟩ | exact ⟨6, rfl⟩ | exact ⟨7, rfl⟩ | exact ⟨8, rfl⟩ | exact ⟨9, rfl⟩ | exact ⟨10, rfl⟩ | exact ⟨11, rfl⟩ | exact ⟨12, rfl⟩ | exact ⟨13, rfl⟩ | exact ⟨14, rfl⟩ | exact ⟨15, rfl⟩ | exact ⟨16, rfl⟩ | exact ⟨17, rfl⟩ | exact ⟨18, rfl⟩ | assumption)
local macro_rules | `(tactic| fail "up") => `(tactic| first | exact ⟨0, rfl, rfl⟩ | exact ⟨1, rfl, rfl⟩ | exact ⟨2, rfl, rfl⟩ | exact ⟨3, rfl, rfl⟩ | exact ⟨4, rfl, rfl⟩ | exact ⟨5, rfl, rfl⟩ | exact ⟨6, rfl, rfl⟩ | exact ⟨7, rfl, rfl⟩ | exact ⟨8, rfl, rfl⟩ | exact ⟨9, rfl, rfl⟩ | exact ⟨10, rfl, rfl⟩ | exact ⟨11, rfl, rfl⟩ | exact ⟨12, rfl, rfl⟩ | exact ⟨13, rfl, rfl⟩ | exact ⟨14, rfl, rfl⟩ | exact ⟨15, rfl, rfl⟩ | exact ⟨16, rfl, rfl⟩ | assumption)
local macro_rules | `(tactic| fail "lkF") => `(tactic| first | assumption | exact fz_at 0 (by fail "nd") rfl rfl | exact fz_at 1 (by fail "nd") rfl rfl | exact fz_at 2 (by fail "nd") rfl rfl | exact fz_at 3 (by fail "nd") rfl rfl | exact fz_at 4 (by fail "nd") rfl rfl | exact fz_at 5 (by fail "nd") rfl rfl | exact fz_at 6 (by fail "nd") rfl rfl | exact fz_at 7 (by fail "nd") rfl rfl)
local macro_rules | `(tactic| fail "lkD") => `(tactic| first | assumption | exact dz_at 0 (by fail "nd") rfl rfl | exact dz_at 1 (by fail "nd") rfl rfl | exact dz_at 2 (by fail "nd") rfl rfl | exact dz_at 3 (by fail "nd") rfl rfl | exact dz_at 4 (by fail "nd") rfl rfl)
local macro_rules | `(tactic| fail "ptF") => `(tactic| first | assumption | exact fz_put 0 (by fail "nd") rfl (Nat.le_of_ble_eq_true rfl) | exact fz_put 1 (by fail "nd") rfl (Nat.le_of_ble_eq_true rfl) | exact fz_put 2 (by fail "nd") rfl (Nat.le_of_ble_eq_true rfl) | exact fz_put 3 (by fail "nd") rfl (Nat.le_of_ble_eq_true rfl) | exact fz_put 4 (by fail "nd") rfl (Nat.le_of_ble_eq_true rfl) | exact fz_put 5 (by fail "nd") rfl (Nat.le_of_ble_eq_true rfl) | exact fz_put 6 (by fail "nd") rfl (Nat.le_of_ble_eq_true rfl) | exact fz_put 7 (by fail "nd") rfl (Nat.le_of_ble_eq_true rfl) | exact fz_new (by decide +kernel) rfl)
local macro_rules | `(tactic| fail "ptD") => `(tactic| first | assumption | exact dz_put 0 (by fail "nd") rfl (Nat.le_of_ble_eq_true rfl) | exact dz_put 1 (by fail "nd") rfl (Nat.le_of_ble_eq_true rfl) | exact dz_put 2 (by fail "nd") rfl (Nat.le_of_ble_eq_true rfl) | exact dz_put 3 (by fail "nd") rfl (Nat.le_of_ble_eq_true rfl) | exact dz_put 4 (by fail "nd") rfl (Nat.le_of_ble_eq_true rfl))
local macro_rules | `(tactic| fail "sz") => `(tactic| first | assumption | exact (Nat.le_of_ble_eq_true rfl) | omega | decide)
local macro_rules | `(tactic| fail "sd") => `(tactic| first | rfl | assumption | decide | omega | (dsimp only; first | decide | omega) | exact .inr ⟨by decide, by decide⟩ | exact .inl ⟨by decide, by decide⟩ | exact ⟨by omega, by omega⟩ | exact .inl ⟨by omega, by omega⟩ | exact .inr ⟨by omega, by omega⟩ | exact ⟨by omega, by omega, by omega⟩)
local macro_rules | `(tactic| fail "cl") => `(tactic| (clear hH; dsimp only [List.set, List.cons_append, List.nil_append, List.append] at hL))
local macro_rules | `(tactic| fail "gn") => `(tactic| (intro p hp; generalize hH : upd H p _ = H; replace hL := Led.newH hL hp hH; clear hH hp))
local macro_rules | `(tactic| fail "gup") => `(tactic| (generalize hH : upd H _ _ = H; replace hL := Led.upU hL (by fail "up") hH; fail "cl"))
local macro_rules | `(tactic| fail "gmk") => `(tactic| (intro x dx hx hd ne; generalize hH : upd (upd H dx _) x _ = H; replace hL := Led.made hL hx hd ne hH; clear hH hx hd ne))
local macro_rules | `(tactic| fail "v") => `(tactic| refine ⟨_, rfl, ?_⟩)
local macro_rules | `(tactic| fail "i2") => `(tactic| refine ⟨_, _, rfl, rfl, ?_⟩)
local macro_rules | `(tactic| fail "go1") => `(tactic| first
  | refine ⟨_, rfl, ?_⟩
  | refine ⟨_, _, rfl, rfl, ?_⟩
  | refine ⟨_, _, rfl, ?_⟩
  | refine iteT ?_
  | refine iteF ?_
  | refine k_fld hL (by fail "ix") (by assumption) (by assumption) (by fail "lkF") ?_
  | refine k_dgetS hL (by fail "ix") (by fail "lkD") ?_
  | refine k_dgetI hL (by fail "ix") (by assumption) ?_
  | refine k_ixL hL (by fail "ix") (by first | rfl | assumption) ?_
  | refine k_ixT hL (by fail "ix") (by first | rfl | assumption) ?_
  | refine k_tyL hL (by fail "ix") ?_
  | refine k_isd hL (by fail "ix") ?_
  | (refine And.intro (by fail "sz") ?_; fail "gn")
  | refine And.intro (by fail "sd") ?_
  | fail "gn"
  | refine k_meth hL (by fail "ix") (by first | assumption | exact fz_no (by decide +kernel)) ?_
  | refine k_gtup hL (by fail "ix") rfl ?_
  | (refine k_popI hL (by fail "ix") (by assumption) ?_; fail "gup")
  | (refine k_listD hL (by fail "ix") ?_; fail "gn")
  | (refine ⟨_, _, _, _, rfl, rfl, hL.at (by fail "ix"), rfl, ?_⟩; fail "gup")
  | (refine ⟨_, _, _, rfl, rfl, hL.at (by fail "ix"), (by fail "sz"), ?_⟩; fail "gup")
  | (refine ⟨_, _, _, _, rfl, hL.at (by fail "ix"), by assumption, by assumption, Nat.lt_of_le_of_lt fz_len (by decide), ?_⟩; generalize hH : upd H _ _ = H; replace hL := Led.upF hL (by fail "up") (by fail "ptF") hH; fail "cl")
  | (refine ⟨_, _, hL.at (by fail "ix"), Nat.lt_of_le_of_lt fz_len (by decide), ?_⟩; generalize hH : upd H _ _ = H; replace hL := Led.upF hL (by fail "up") (by fail "ptF") hH; fail "cl")
  | (refine k_dputS hL (by fail "ix") (Nat.lt_of_le_of_lt dz_len (by decide)) (by fail "ptD") (by fail "up") ?_; clear hL; intro H hL; dsimp only [List.set, List.cons_append, List.nil_append, List.append] at hL)
  | refine k_lenL2 hL (by fail "ix") ?_
  | refine k_lenT2 hL (by fail "ix") ?_
  | refine .inl ⟨_, rfl, ?_⟩
  | refine .inr ⟨_, rfl, ?_⟩)
local macro_rules | `(tactic| fail "go") => `(tactic| repeat fail "go1")
local macro_rules | `(tactic| fail "pm") => `(tactic| (refine Led.le hL (fun a_ => ?_); simp only [cnt_nil, cnt_cons, cnt_app, List.map_append, List.map_cons, List.map_nil, List.flatMap_append, List.flatMap_cons, List.flatMap_nil, List.append_assoc, List.cons_append, List.nil_append]; omega))

def dD (a b c : Int) : HO := .lst [.int a, .int b, .int c]
def spDice : Sp := fun vs H Q _ => ∃ (c : Int) (L : Lg), vs = [.int c] ∧ Led H L ∧ ∀ (a b d : Int) (p : Addr) (H' : Hp), Led H' ((p, dD a b d) :: L) → Q (.ref p) H'
def spRoll : Sp := fun vs H Q _ => ∃ (l : Addr) (a b c m : Int) (R : Lg), vs = [.ref l, .int m] ∧ Led H ((l, dD a b c) :: R) ∧ 1 ≤ m ∧ m ≤ 100000000 ∧
  ∀ (r a' b' c' : Int) (H' : Hp), 0 ≤ r → r < m → Led H' ((l, dD a' b' c') :: R) → Q (.int r) H'
section
variable {P : Program} {w : World} {K : PySem.W.Frag} {mg : Str → Option Value} {base : Heap}
theorem scDice : FnScope ["cell"] ["cell"] (defScope sDice) := ⟨rfl, rfl, rfl, by decide +kernel, rfl, by decide +kernel, by decide +kernel⟩
theorem ok_dice {f : Addr} {fd : FuncData} (F : Fun K "_law_dice" "_law_dice" sDice f fd) (T : TxtL mg) : FnOk P w K mg base CX0 1 f fd ["cell"] spDice := by
  refine F.ok scDice (fun vs H Q E h => ?_) (fun cdv A outer s H vs Q E hr h => ?_)
  · obtain ⟨c, L, rfl, _⟩ := h
    rfl
  · obtain ⟨c, L, rfl, hL, k⟩ := h
    refine ⟨_, pss_cons (ps_if (pt_chain op_lt op_lt (pe_op op_sub pe_int pe_int) (pv 0) pe_int) (pss_one (ps_ret (pe_lst (pa_cons (pe_callB call_abs (by rfl) T.abs (by decide +kernel) (pa_cons (pv 0) pa_nil)) (pa_cons pe_int (pa_cons pe_int pa_nil)))))) pss_nil)
      (pss_one (ps_ret (pe_lst (pa_cons (pv 0) (pa_cons (pe_op op_add pe_int (pe_op op_mod (pe_callTy call_int1 (by rfl) T.int (by decide +kernel) (pa_cons (pv 0) pa_nil)) pe_int)) (pa_cons (pe_callTy call_int1 (by rfl) T.int (by decide +kernel) (pa_cons (pe_cmpR op_ge (pv 0) (pe_op op_pow pe_int pe_int) (nomark _)) pa_nil)) pa_nil)))))), ?_⟩
    fail "go"
    refine ite_d (fun h1 => ?_) (fun h1 => ?_)
    · fail "go"
      refine ite_d (fun h2 => ?_) (fun h2 => ?_)
      · fail "go"
        exact k _ _ _ _ _ hL
      · fail "go"
        exact k _ _ _ _ _ hL
    · fail "go"
      exact k _ _ _ _ _ hL
theorem scRoll : FnScope ["dice", "many", "found"] ["dice", "many"] (defScope sRoll) := ⟨rfl, rfl, rfl, by decide +kernel, rfl, by decide +kernel, by decide +kernel⟩
theorem ok_roll {f : Addr} {fd : FuncData} (F : Fun K "_law_roll" "_law_roll" sRoll f fd) (T : TxtL mg) : FnOk P w K mg base CX0 1 f fd ["dice", "many"] spRoll := by
  refine F.ok scRoll (fun vs H Q E h => ?_) (fun cdv A outer s H vs Q E hr h => ?_)
  · obtain ⟨l, a, b, c, m, R, rfl, _⟩ := h
    rfl
  · obtain ⟨l, a, b, c, m, R, rfl, hL, h1, h2, k⟩ := h
    refine ⟨_, pss_cons (ps_if (PW.pt (pw_or (pt_cmpR op_eq (pe_ix ix_list (pv 0) pe_int (fun _ _ => rfl)) pe_int (nomark _)) (pw_or1 (PW.pt (pw_and (pt_cmpR op_eq (pe_ix ix_list (pv 0) pe_int (fun _ _ => rfl)) pe_int (nomark _)) (pw_and1 (pt_cmpR op_gt (pe_ix ix_list (pv 0) pe_int (fun _ _ => rfl)) pe_int (nomark _))))))))
        (pss_cons (ps_set (i := 2) scRoll.nd rfl (Or.inl rfl) (pe_op op_mod (pe_callTy call_int1 (by rfl) T.int (by decide +kernel) (pa_cons (pe_ix ix_list (pv 0) pe_int (fun _ _ => rfl)) pa_nil)) (pv 1)))
          (pss_cons (ps_asg (pe_op op_fdiv (pe_ix ix_list (pv 0) pe_int (fun _ _ => rfl)) (pv 1)) (pg_sub (pv 0) pe_int set_list)) (pss_one (ps_ret (pv 2)))))
        pss_nil)
      (pss_cons (ps_asg pe_int (pg_sub (pv 0) pe_int set_list))
      (pss_cons (ps_if (pt_cmpR op_gt (pv 1) pe_int (nomark _)) pss_never pss_nil)
      (pss_cons (ps_asg (pe_op op_mod (pe_callTy call_int1 (by rfl) T.int (by decide +kernel) (pa_cons (pe_op op_add (pe_op op_add (pe_op op_mul (pe_ix ix_list (pv 0) pe_int (fun _ _ => rfl)) pe_int) (pe_op op_mul (pe_ix ix_list (pv 0) pe_int (fun _ _ => rfl)) pe_int)) pe_int) pa_nil)) pe_int) (pg_sub (pv 0) pe_int set_list))
      (pss_cons (ps_asg (pe_op op_add (pe_ix ix_list (pv 0) pe_int (fun _ _ => rfl)) pe_int) (pg_sub (pv 0) pe_int set_list))
      (pss_one (ps_ret (pe_op op_mod (pe_callTy call_int1 (by rfl) T.int (by decide +kernel) (pa_cons (pe_op op_fdiv (pe_ix ix_list (pv 0) pe_int (fun _ _ => rfl)) pe_int) pa_nil)) (pv 1)))))))), ?_⟩
    unfold dD at hL
    have hm : ∀ (x b c : Int) (H : Hp), Led H ((l, .lst [.int (x / m), .int b, .int c]) :: R) → Q (.int (x % m)) H := fun x b c H h => k _ _ _ _ _ (Int.emod_nonneg _ (by omega)) (Int.emod_lt_of_pos _ (by omega)) h
    have hd : ∀ (x a b c : Int) (H : Hp), Led H ((l, .lst [.int a, .int b, .int c]) :: R) → Q (.int (x % m)) H := fun x a b c H h => k _ _ _ _ _ (Int.emod_nonneg _ (by omega)) (Int.emod_lt_of_pos _ (by omega)) h
    fail "go"
    refine ite_d (fun q1 => ?_) (fun q1 => ?_)
    · fail "go"
      exact hm _ _ _ _ hL
    · fail "go"
      refine ite_d (fun q2 => ?_) (fun q2 => ?_)
      · fail "go"
        refine ite_d (fun q3 => ?_) (fun q3 => ?_)
        · fail "go"
          exact hm _ _ _ _ hL
        · fail "go"
          refine ite_d (fun q4 => absurd q4 (by omega)) (fun q4 => ?_)
          fail "go"
          exact hd _ _ _ _ _ hL
      · fail "go"
        refine ite_d (fun q4 => absurd q4 (by omega)) (fun q4 => ?_)
        fail "go"
        exact hd _ _ _ _ _ hL
end
/-- script[:1], or [0]: one dice -/
def spRounds (K : PySem.W.Frag) : Sp := fun vs H Q _ => ∃ (a : Addr) (ns : List Int) (L : Lg), vs = [.ref a, .int 1] ∧ SqL K H a (ns.map V.int) ∧ Led H L ∧ ∀ (p d : Addr) (x y z : Int) (H' : Hp), Led H' ((p, .lst [.ref d]) :: (d, dD x y z) :: L) → Q (.ref p) H'
section
variable {P : Program} {w : World} {K : PySem.W.Frag} {mg : Str → Option Value} {base : Heap}
theorem scRounds : FnScope ["script", "most", "cells", "cell"] ["script", "most"] (defScope sRounds) := ⟨rfl, rfl, rfl, by decide +kernel, rfl, by decide +kernel, by decide +kernel⟩
theorem cut_1 (ns : List Int) : cutV (ns.map V.int) none (some 1) = (ns.take 1).map V.int := by
  unfold cutV
  rw [show (some (1 : Int)) = some ((1 : Nat) : Int) from rfl, HT.sIx_nat, HT.sIx_none]
  cases ns <;> simp
theorem ok_rounds {f : Addr} {fd : FuncData} (F : Fun K "_law_rounds" "_law_rounds" sRounds f fd) (c__law_dice : Cal P w K mg base 1 "_law_dice" spDice []) :
    FnOk P w K mg base CX0 2 f fd ["script", "most"] (spRounds K) := by
  refine F.ok scRounds (fun vs H Q E h => ?_) (fun cdv A outer s H vs Q E hr h => ?_)
  · obtain ⟨a, ns, L, rfl, _⟩ := h
    rfl
  · obtain ⟨a, ns, L, rfl, hS, hL, k⟩ := h
    refine ⟨_, (pss_cons (ps_set (i := 2) scRounds.nd rfl (Or.inl rfl) (pe_slice sl_list (pv 0) po_none (po_some (pv 1))))
  (C8.pss_cut (ps_if (pt_cmpR (op_eqP hr.units) (pv 2) (pe_lst pa_nil) (nomark _))
  (pss_one (ps_set (i := 2) scRounds.nd rfl (Or.inl rfl) (pe_lst (pa_cons pe_int pa_nil))))
  pss_nil)
  (pss_one (ps_ret (pe_lc (own := [("cell", 3)]) (g := gName 3) (by rfl) scRounds.nd (pi_list (pv 2)) (blkOk_by (own := [("cell", 3)]) (N := ["script", "most", "cells", "cell"]) (sc := (defScope sRounds)) (by decide +kernel)) (fun _ _ _ _ _ => (pg_name (i := 3) scRounds.nd rfl (Or.inl rfl))) (fun _ _ _ _ _ => pts_nil) (fun _ _ _ _ _ => (pe_c c__law_dice hr (by decide) (by rfl) (pa_cons (pv 3) pa_nil)))))))), ?_⟩
    refine ⟨_, rfl, _, rfl, 1, rfl, a, _, rfl, hS, ?_⟩
    rw [cut_1]
    fail "gn"
    refine ⟨fun σ H => Hold (∃ (a p : Addr) (c : Int) (v3 : Option V), σ = [some (.ref a), some (.int 1), some (.ref p), v3] ∧ Led H ((p, .lst [.int c]) :: L)), ?_, ?_⟩
    · fail "go"
      refine ⟨_, _, dp_lst (hL.at ⟨1, rfl⟩) dp_ints, dp_lst (hL.at ⟨0, rfl⟩) .nil, shal_ints, shal_ints (ns := []), _, rfl, ?_⟩
      refine ite_b (fun h1 => ?_) (fun h1 => ?_)
      · fail "go"
        refine .mk ⟨a, _, 0, _, rfl, ?_⟩
        exact hL.sub (.cons_cons _ ((List.sublist_cons_self _ _).trans (List.sublist_cons_self _ _)))
      · cases ns with
        | nil => simp [PyData.eqv, PyData.eqvAll] at h1
        | cons n ns =>
          fail "go"
          exact .mk ⟨a, _, n, _, rfl, hL.tail⟩
    · intro σ H h
      obtain ⟨a, p, c, v3, rfl, hL⟩ := h.out
      clear h
      refine ⟨_, rfl, p, rfl, ⟨_, .of (hL.at ⟨0, rfl⟩)⟩, fun D hD => lc_list (K := K) (a := p) (xs := [.int c]) (fun i H => Hold ((i = 0 ∧ Led H ((D, .lst []) :: (p, .lst [.int c]) :: L)) ∨ (i = 1 ∧ ∃ (d : Addr) (x y z : Int), Led H ((D, .lst [.ref d]) :: (d, dD x y z) :: (p, .lst [.int c]) :: L)))) ?_ ?_ ?_ ?_⟩
      · exact .mk (.inl ⟨rfl, hL.new hD⟩)
      · intro i H _ h
        rcases h.out with ⟨_, hL⟩ | ⟨_, d, x, y, z, hL⟩
        · exact .of (hL.at ⟨1, rfl⟩)
        · exact .of (hL.at ⟨2, rfl⟩)
      · intro i y H hi h
        rcases h.out with ⟨rfl, hL⟩ | ⟨rfl, d, x, y, z, hL⟩
        · obtain rfl : V.int c = y := Option.some.inj hi
          clear h
          refine ⟨rfl, ?_⟩
          refine k_yes ?_
          refine ⟨_, rfl, c, _, rfl, hL, fun x y z d H hL => ⟨_, hL.at ⟨1, rfl⟩, by decide, ?_⟩⟩
          generalize hH : upd H _ _ = H
          refine .mk (.inr ⟨rfl, d, x, y, z, ?_⟩)
          exact (hL.upU (o' := .lst [.ref d]) ⟨1, rfl, rfl⟩ hH).perm (List.Perm.swap _ _ _)
        · cases hi
      · intro H h
        rcases h.out with ⟨q, _⟩ | ⟨_, d, x, y, z, hL⟩
        · cases q
        · refine k D d x y z _ (hL.sub ?_)
          exact .cons_cons _ (.cons_cons _ (List.sublist_cons_self _ _))
theorem scTold : FnScope ["what"] ["what"] (defScope sTold) := ⟨rfl, rfl, rfl, by decide +kernel, rfl, by decide +kernel, by decide +kernel⟩
theorem ok_told {CE : Addr} {f : Addr} {fd : FuncData} (F : Fun K "_law_told" "_law_told" sTold f fd) (T : ExcT K mg "WireError" CE) : FnOk P w K mg base CX0 7 f fd ["what"] (spTold P w K mg base 6 CE "WireError") := by
  refine F.ok scTold (fun vs H Q E h => ?_) (fun cdv A outer s H vs Q E hr h => ?_)
  · obtain ⟨f, F, b, tl, rfl, _⟩ := h
    rfl
  · exact ps_told (by rfl) T.g rfl (Or.inl rfl) (fun _ => rfl) hr h
end
end Sd


set_option linter.unusedVariables false
namespace Sd
open PySem L2
open C8 (Cal Met Mak pe_c pe_mk pe_mt pe_mt0 pss_cut tCut)
-- TYPES FRZ=
set_option linter.unusedSimpArgs false
set_option pp.deepTerms false
set_option pp.deepTerms.threshold 12
set_option hygiene false
local macro_rules | `(tactic| fail "nd") => `(tactic| first | assumption | decide +kernel)
local macro_rules | `(tactic| fail "ix") => `(tactic| first | exact ⟨0, rfl⟩ | exact ⟨1, rfl⟩ | exact ⟨2, rfl⟩ | exact ⟨3, rfl⟩ | exact ⟨4, rfl⟩ | exact ⟨5, rfl⟩ | exact ⟨6, rfl⟩ | exact ⟨7, rfl⟩ | exact ⟨8, rfl⟩ | exact ⟨9, rfl⟩ | exact ⟨10, rfl⟩ | exact ⟨11, rfl⟩ | exact ⟨12, rfl⟩ | exact ⟨13, rfl⟩ | exact ⟨14, rfl⟩ | exact ⟨15, rfl⟩ | exact ⟨16, rfl⟩ | exact ⟨17, rfl⟩ | exact ⟨18, rfl⟩ | assumption)
local macro_rules | `(tactic| fail "up") => `(tactic| first | exact ⟨0, rfl, rfl⟩ | exact ⟨1, rfl, rfl⟩ | exact ⟨2, rfl, rfl⟩ | exact ⟨3, rfl, rfl⟩ | exact ⟨4, rfl, rfl⟩ | exact ⟨5, rfl, rfl⟩ | exact ⟨6, rfl, rfl⟩ | exact ⟨7, rfl, rfl⟩ | exact ⟨8, rfl, rfl⟩ | exact ⟨9, rfl, rfl⟩ | exact ⟨10, rfl, rfl⟩ | exact ⟨11, rfl, rfl⟩ | exact ⟨12, rfl, rfl⟩ | exact ⟨13, rfl, rfl⟩ | exact ⟨14, rfl, rfl⟩ | exact ⟨15, rfl, rfl⟩ | exact ⟨16, rfl, rfl⟩ | assumption)
local macro_rules | `(tactic| fail "lkF") => `(tactic| first | assumption | exact fz_at 0 (by fail "nd") rfl rfl | exact fz_at 1 (by fail "nd") rfl rfl | exact fz_at 2 (by fail "nd") rfl rfl | exact fz_at 3 (by fail "nd") rfl rfl | exact fz_at 4 (by fail "nd") rfl rfl | exact fz_at 5 (by fail "nd") rfl rfl | exact fz_at 6 (by fail "nd") rfl rfl | exact fz_at 7 (by fail "nd") rfl rfl)
local macro_rules | `(tactic| fail "lkD") => `(tactic| first | assumption | exact dz_at 0 (by fail "nd") rfl rfl | exact dz_at 1 (by fail "nd") rfl rfl | exact dz_at 2 (by fail "nd") rfl rfl | exact dz_at 3 (by fail "nd") rfl rfl | exact dz_at 4 (by fail "nd") rfl rfl)
local macro_rules | `(tactic| fail "ptF") => `(tactic| first | assumption | exact fz_put 0 (by fail "nd") rfl (Nat.le_of_ble_eq_true rfl) | exact fz_put 1 (by fail "nd") rfl (Nat.le_of_ble_eq_true rfl) | exact fz_put 2 (by fail "nd") rfl (Nat.le_of_ble_eq_true rfl) | exact fz_put 3 (by fail "nd") rfl (Nat.le_of_ble_eq_true rfl) | exact fz_put 4 (by fail "nd") rfl (Nat.le_of_ble_eq_true rfl) | exact fz_put 5 (by fail "nd") rfl (Nat.le_of_ble_eq_true rfl) | exact fz_put 6 (by fail "nd") rfl (Nat.le_of_ble_eq_true rfl) | exact fz_put 7 (by fail "nd") rfl (Nat.le_of_ble_eq_true rfl) | exact fz_new (by decide +kernel) rfl)
local macro_rules | `(tactic| fail "ptD") => `(tactic| first | assumption | exact dz_put 0 (by fail "nd") rfl (Nat.le_of_ble_eq_true rfl) | exact dz_put 1 (by fail "nd") rfl (Nat.le_of_ble_eq_true rfl) | exact dz_put 2 (by fail "nd") rfl (Nat.le_of_ble_eq_true rfl) | exact dz_put 3 (by fail "nd") rfl (Nat.le_of_ble_eq_true rfl) | exact dz_put 4 (by fail "nd") rfl (Nat.le_of_ble_eq_true rfl))
local macro_rules | `(tactic| fail "sz") => `(tactic| first | assumption | exact (Nat.le_of_ble_eq_true rfl) | omega | decide)
local macro_rules | `(tactic| fail "sd") => `(tactic| first | rfl | assumption | decide | omega | (dsimp only; first | decide | omega) | exact .inr ⟨by decide, by decide⟩ | exact .inl ⟨by decide, by decide⟩ | exact ⟨by omega, by omega⟩ | exact .inl ⟨by omega, by omega⟩ | exact .inr ⟨by omega, by omega⟩ | exact ⟨by omega, by omega, by omega⟩)
local macro_rules | `(tactic| fail "cl") => `(tactic| (clear hH; dsimp only [List.set, List.cons_append, List.nil_append, List.append] at hL))
local macro_rules | `(tactic| fail "gn") => `(tactic| (intro p hp; generalize hH : upd H p _ = H; replace hL := Led.newH hL hp hH; clear hH hp))
local macro_rules | `(tactic| fail "gup") => `(tactic| (generalize hH : upd H _ _ = H; replace hL := Led.upU hL (by fail "up") hH; fail "cl"))
local macro_rules | `(tactic| fail "gmk") => `(tactic| (intro x dx hx hd ne; generalize hH : upd (upd H dx _) x _ = H; replace hL := Led.made hL hx hd ne hH; clear hH hx hd ne))
local macro_rules | `(tactic| fail "v") => `(tactic| refine ⟨_, rfl, ?_⟩)
local macro_rules | `(tactic| fail "i2") => `(tactic| refine ⟨_, _, rfl, rfl, ?_⟩)
local macro_rules | `(tactic| fail "go1") => `(tactic| first
  | refine ⟨_, rfl, ?_⟩
  | refine ⟨_, _, rfl, rfl, ?_⟩
  | refine ⟨_, _, rfl, ?_⟩
  | refine iteT ?_
  | refine iteF ?_
  | refine k_fld hL (by fail "ix") (by assumption) (by assumption) (by fail "lkF") ?_
  | refine k_dgetS hL (by fail "ix") (by fail "lkD") ?_
  | refine k_dgetI hL (by fail "ix") (by assumption) ?_
  | refine k_ixL hL (by fail "ix") (by first | rfl | assumption) ?_
  | refine k_ixT hL (by fail "ix") (by first | rfl | assumption) ?_
  | refine k_tyL hL (by fail "ix") ?_
  | refine k_isd hL (by fail "ix") ?_
  | (refine And.intro (by fail "sz") ?_; fail "gn")
  | refine And.intro (by fail "sd") ?_
  | fail "gn"
  | refine k_meth hL (by fail "ix") (by first | assumption | exact fz_no (by decide +kernel)) ?_
  | refine k_gtup hL (by fail "ix") rfl ?_
  | (refine k_popI hL (by fail "ix") (by assumption) ?_; fail "gup")
  | (refine k_listD hL (by fail "ix") ?_; fail "gn")
  | (refine ⟨_, _, _, _, rfl, rfl, hL.at (by fail "ix"), rfl, ?_⟩; fail "gup")
  | (refine ⟨_, _, _, rfl, rfl, hL.at (by fail "ix"), (by fail "sz"), ?_⟩; fail "gup")
  | (refine ⟨_, _, _, _, rfl, hL.at (by fail "ix"), by assumption, by assumption, Nat.lt_of_le_of_lt fz_len (by decide), ?_⟩; generalize hH : upd H _ _ = H; replace hL := Led.upF hL (by fail "up") (by fail "ptF") hH; fail "cl")
  | (refine ⟨_, _, hL.at (by fail "ix"), Nat.lt_of_le_of_lt fz_len (by decide), ?_⟩; generalize hH : upd H _ _ = H; replace hL := Led.upF hL (by fail "up") (by fail "ptF") hH; fail "cl")
  | (refine k_dputS hL (by fail "ix") (Nat.lt_of_le_of_lt dz_len (by decide)) (by fail "ptD") (by fail "up") ?_; clear hL; intro H hL; dsimp only [List.set, List.cons_append, List.nil_append, List.append] at hL)
  | refine k_lenL2 hL (by fail "ix") ?_
  | refine k_lenT2 hL (by fail "ix") ?_
  | refine .inl ⟨_, rfl, ?_⟩
  | refine .inr ⟨_, rfl, ?_⟩)
local macro_rules | `(tactic| fail "go") => `(tactic| repeat fail "go1")
local macro_rules | `(tactic| fail "pm") => `(tactic| (refine Led.le hL (fun a_ => ?_); simp only [cnt_nil, cnt_cons, cnt_app, List.map_append, List.map_cons, List.map_nil, List.flatMap_append, List.flatMap_cons, List.flatMap_nil, List.append_assoc, List.cons_append, List.nil_append]; omega))

abbrev sNatural : Stmt := top 13
abbrev sPack : Stmt := top 14
abbrev sSignN : Stmt := top 15
abbrev sUnpack : Stmt := top 17
abbrev sSumB : Stmt := top 18
abbrev sFour : Stmt := top 19
abbrev sFrame : Stmt := top 20
abbrev sReadF : Stmt := top 21
/-- line end, and the printable ASCII signs without the percent sign -/
def SIGNS : Str := ⟨(10 :: ((List.range 95).map (· + 32)).filter (· != 37)).toArray⟩
structure TxtW (mg : Str → Option Value) : Prop where
  tuple : mg "tuple" = none
  len : mg "len" = none
  range : mg "range" = none
  isinstance : mg "isinstance" = none
  int : mg "int" = none
  str : mg "str" = none
  g_NONE : ∃ u, mg "NONE" = some u ∧ RelV (.int 1) u
  g_TRUE : ∃ u, mg "TRUE" = some u ∧ RelV (.int 2) u
  g_FALSE : ∃ u, mg "FALSE" = some u ∧ RelV (.int 3) u
  g_NUMBER : ∃ u, mg "NUMBER" = some u ∧ RelV (.int 4) u
  g_BELOW : ∃ u, mg "BELOW" = some u ∧ RelV (.int 5) u
  g_TEXT : ∃ u, mg "TEXT" = some u ∧ RelV (.int 6) u
  g_ROW : ∃ u, mg "ROW" = some u ∧ RelV (.int 7) u
  g_MOST_DEEP : ∃ u, mg "MOST_DEEP" = some u ∧ RelV (.int 30) u
  g_SIGNS : ∃ u, mg "SIGNS" = some u ∧ RelV (.str SIGNS) u
/-- a number's bytes -/
def natB (n : Nat) : List Int := if h : n < 128 then [(n : Int)] else ((128 + n % 128 : Nat) : Int) :: natB (n / 128)
termination_by n
decreasing_by omega
theorem natB_lo {n : Nat} (h : n < 128) : natB n = [(n : Int)] := by rw [natB, dif_pos h]
theorem natB_hi {n : Nat} (h : ¬ n < 128) : natB n = ((128 + n % 128 : Nat) : Int) :: natB (n / 128) := by rw [natB, dif_neg h]
theorem natB_ne {n : Nat} : natB n ≠ [] := by
  by_cases h : n < 128
  · rw [natB_lo h]; exact List.cons_ne_nil _ _
  · rw [natB_hi h]; exact List.cons_ne_nil _ _
/-- a tuple of numbers -/
abbrev tI (bs : List Int) : HO := .tup (bs.map V.int)
def spNatural : Sp := fun vs H Q _ => ∃ (n : Nat) (L : Lg), vs = [.int n] ∧ Led H L ∧ (natB n).length ≤ sizeLine ∧ ∀ r H', Led H' ((r, tI (natB n)) :: L) → Q (.ref r) H'
def spSignN : Sp := fun vs H Q _ => ∃ (c : Str), vs = [.str c] ∧ 0 ≤ Txt.find SIGNS c ∧ Q (.int (Txt.find SIGNS c)) H
def sumStep (ab : Int × Int) (b : Int) : Int × Int := ((ab.1 + b) % 65521, (ab.2 + (ab.1 + b) % 65521) % 65521)
def sumB (bs : List Int) : List Int := let ab := bs.foldl sumStep (1, 0); [ab.2 / 256, ab.2 % 256, ab.1 / 256, ab.1 % 256]
def spSumB : Sp := fun vs H Q _ => ∃ (a : Addr) (bs : List Int) (L : Lg), vs = [.ref a] ∧ Led H L ∧ At L a (tI bs) ∧ ∀ r H', Led H' ((r, tI (sumB bs)) :: L) → Q (.ref r) H'
def fourB (n : Int) : List Int := [n / 16777216 % 256, n / 65536 % 256, n / 256 % 256, n % 256]
def spFour : Sp := fun vs H Q _ => ∃ (n : Int) (L : Lg), vs = [.int n] ∧ Led H L ∧ ∀ r H', Led H' ((r, tI (fourB n)) :: L) → Q (.ref r) H'
section
variable {P : Program} {w : World} {K : PySem.W.Frag} {mg : Str → Option Value} {base : Heap}
theorem scFour : FnScope ["number"] ["number"] (defScope sFour) := ⟨rfl, rfl, rfl, by decide +kernel, rfl, by decide +kernel, by decide +kernel⟩
theorem ok_four {f : Addr} {fd : FuncData} (F : Fun K "four" "four" sFour f fd) : FnOk P w K mg base CX0 1 f fd ["number"] spFour := by
  refine F.ok scFour (fun vs H Q E h => ?_) (fun cdv A outer s H vs Q E hr h => ?_)
  · obtain ⟨n, L, rfl, _⟩ := h
    rfl
  · obtain ⟨n, L, rfl, hL, k⟩ := h
    refine ⟨_, (pss_one (ps_ret (pe_tup (pa_cons (pe_op op_mod (pe_op op_fdiv (pv 0) pe_int) pe_int) (pa_cons (pe_op op_mod (pe_op op_fdiv (pv 0) pe_int) pe_int) (pa_cons (pe_op op_mod (pe_op op_fdiv (pv 0) pe_int) pe_int) (pa_cons (pe_op op_mod (pv 0) pe_int) pa_nil))))))), ?_⟩
    fail "go"
    exact k _ _ hL
theorem scSignN : FnScope ["sign", "place"] ["sign"] (defScope sSignN) := ⟨rfl, rfl, rfl, by decide +kernel, rfl, by decide +kernel, by decide +kernel⟩
theorem ok_signN {f : Addr} {fd : FuncData} (F : Fun K "sign_number" "sign_number" sSignN f fd) (T : TxtW mg) : FnOk P w K mg base CX0 1 f fd ["sign"] spSignN := by
  refine F.ok scSignN (fun vs H Q E h => ?_) (fun cdv A outer s H vs Q E hr h => ?_)
  · obtain ⟨c, rfl, _⟩ := h
    rfl
  · obtain ⟨c, rfl, h0, k⟩ := h
    refine ⟨_, (pss_cons (ps_set (i := 1) scSignN.nd rfl (Or.inl rfl) (pe_bm PySem.F.plainAttrs_str PySem.F.slot_str_find PySem.F.type_str_find mt_find (C8.pe_gc (by rfl) T.g_SIGNS) (pa_cons (pv 0) pa_nil)))
  (pss_cons (ps_if (pt_cmpR op_lt (pv 1) pe_int (nomark _))
  pss_never
  pss_nil)
  (pss_one (ps_ret (pv 1))))), ?_⟩
    fail "go"
    refine ite_d (fun q => absurd q (by omega)) fun q => ?_
    fail "go"
    exact k
theorem scSumB : FnScope ["data", "first", "second", "one"] ["data"] (defScope sSumB) := ⟨rfl, rfl, rfl, by decide +kernel, rfl, by decide +kernel, by decide +kernel⟩
theorem ok_sumB {f : Addr} {fd : FuncData} (F : Fun K "sum_of_bytes" "sum_of_bytes" sSumB f fd) : FnOk P w K mg base CX0 1 f fd ["data"] spSumB := by
  refine F.ok scSumB (fun vs H Q E h => ?_) (fun cdv A outer s H vs Q E hr h => ?_)
  · obtain ⟨a, bs, L, rfl, _⟩ := h
    rfl
  · obtain ⟨a, bs, L, rfl, hL, ha, k⟩ := h
    refine ⟨_, (pss_cons (ps_asg (pe_tup (pa_cons pe_int (pa_cons pe_int pa_nil))) (pg_tup (by rfl) (pgs_cons (pg_name (i := 1) scSumB.nd rfl (Or.inl rfl)) (pgs_cons (pg_name (i := 2) scSumB.nd rfl (Or.inl rfl)) pgs_nil))))
  (pss_cons (ps_for PassesOwn.never rfl (pi_tup (pv 0)) (pg_name (i := 3) scSumB.nd rfl (Or.inl rfl))
  (pss_cons (ps_set (i := 1) scSumB.nd rfl (Or.inl rfl) (pe_op op_mod (pe_op op_add (pv 1) (pv 3)) pe_int))
  (pss_one (ps_set (i := 2) scSumB.nd rfl (Or.inl rfl) (pe_op op_mod (pe_op op_add (pv 2) (pv 1)) pe_int)))))
  (pss_one (ps_ret (pe_tup (pa_cons (pe_op op_fdiv (pv 2) pe_int) (pa_cons (pe_op op_mod (pv 2) pe_int) (pa_cons (pe_op op_fdiv (pv 1) pe_int) (pa_cons (pe_op op_mod (pv 1) pe_int) pa_nil))))))))), ?_⟩
    fail "go"
    refine ⟨⟨_, .of (hL.tail.at ha)⟩, ?_⟩
    refine for_tupA (xs := bs.map V.int) (fun i σ H => Hold (∃ v3, σ = [some (.ref a), some (.int ((bs.take i).foldl sumStep (1, 0)).1), some (.int ((bs.take i).foldl sumStep (1, 0)).2), v3] ∧ Led H L)) (.mk ⟨_, rfl, hL.tail⟩) (fun i σ H _ h => ?_) (fun i x σ H D' hi h hN => ?_) (fun σ H h => ?_)
    · obtain ⟨v3, rfl, hL⟩ := h.out
      exact .of (hL.at ha)
    · obtain ⟨v3, rfl, hL⟩ := h.out
      rw [List.getElem?_map] at hi
      obtain ⟨b, hb, rfl⟩ := Option.map_eq_some_iff.mp hi
      fail "go"
      refine hN.nx _ _ (.mk ⟨some (.int b), ?_, hL⟩)
      rw [List.take_add_one, hb, Option.toList_some, List.foldl_append]
      rfl
    · obtain ⟨v3, rfl, hL⟩ := h.out
      rw [List.length_map, List.take_length] at *
      fail "go"
      exact k _ _ hL
theorem scNatural : FnScope ["number", "found"] ["number"] (defScope sNatural) := ⟨rfl, rfl, rfl, by decide +kernel, rfl, by decide +kernel, by decide +kernel⟩
theorem ok_natural {f : Addr} {fd : FuncData} (F : Fun K "natural" "natural" sNatural f fd) (T : TxtW mg) : FnOk P w K mg base CX0 1 f fd ["number"] spNatural := by
  refine F.ok scNatural (fun vs H Q E h => ?_) (fun cdv A outer s H vs Q E hr h => ?_)
  · obtain ⟨n, L, rfl, _⟩ := h
    rfl
  · obtain ⟨n, L, rfl, hL, hz, k⟩ := h
    refine ⟨_, (pss_cons (ps_set (i := 1) scNatural.nd rfl (Or.inl rfl) (pe_lst pa_nil))
  (pss_cons (ps_while PassesOwn.never (pt_cmpR op_ge (pv 0) pe_int (nomark _))
  (pss_cons (ps_expr (pe_bm PySem.F.plainAttrs_list PySem.F.slot_list_append PySem.F.type_list_append mt_append (pv 1) (pa_cons (pe_op op_add pe_int (pe_op op_mod (pv 0) pe_int)) pa_nil)))
  (pss_one (ps_aug (i := 0) scNatural.nd rfl (Or.inl rfl) pe_int iop_fdiv))))
  (pss_one (ps_ret (pe_op (op_catA) (pe_callTy call_tuple_of (by rfl) T.tuple (by decide +kernel) (pa_cons (pv 1) pa_nil)) (pe_tup (pa_cons (pv 0) pa_nil))))))), ?_⟩
    fail "go"
    refine ⟨fun m σ H => Hold (∃ (acc : List Int), σ = [some (.int (m : Nat)), some (.ref p)] ∧ acc ++ natB m = natB n ∧ Led H ((p, .lst (acc.map .int)) :: L)), ⟨n, .mk ⟨[], rfl, rfl, hL⟩⟩, fun m σ H h => ?_⟩
    clear hL
    obtain ⟨acc, rfl, he, hL⟩ := h.out
    clear h
    fail "go"
    refine ite_d (fun q => ?_) fun q => ?_
    · have hn : ¬ m < 128 := by omega
      rw [natB_hi hn] at he
      refine ⟨fun σ' H' => Hold (∃ (acc : List Int), σ' = [some (.int (m / 128 : Nat)), some (.ref p)] ∧ acc ++ natB (m / 128) = natB n ∧ Led H' ((p, .lst (acc.map .int)) :: L)), fun σ' H' h => ⟨m / 128, by omega, h⟩, ?_⟩
      have hz2 : acc.length < sizeLine := by
        have := congrArg List.length he
        rw [List.length_append, List.length_cons] at this
        omega
      fail "go"
      refine ⟨_, _, _, rfl, rfl, hL.at ⟨0, rfl⟩, by rw [List.length_map]; exact hz2, ?_⟩
      fail "gup"
      fail "go"
      refine .mk ⟨acc ++ [((128 + m % 128 : Nat) : Int)], ?_, ?_, ?_⟩
      · rfl
      · rw [List.append_assoc]; exact he
      · rw [List.map_append]
        exact hL
    · have hn : m < 128 := by omega
      rw [natB_lo hn] at he
      fail "go"
      refine ⟨_, _, rfl, .inl ⟨.of (hL.at ⟨0, rfl⟩), ?_⟩⟩
      fail "gn"
      fail "go"
      have hz2 := congrArg List.length he
      rw [List.length_append, List.length_singleton] at hz2
      refine k_catA (L := L) (hL.sub (.cons_cons _ (.cons_cons _ (.cons _ (.refl _))))) (by rw [List.length_map, List.length_singleton]; omega) fun r H' hL => k _ _ ?_
      rw [← he]
      show Led H' ((r, .tup ((acc ++ [(m : Int)]).map V.int)) :: L)
      rw [List.map_append]
      exact hL
end
end Sd


set_option linter.unusedVariables false
namespace Sd
open PySem L2
open C8 (Cal Met Mak pe_c pe_mk pe_mt pe_mt0 pss_cut tCut)
-- TYPES FRZ=
set_option linter.unusedSimpArgs false
set_option pp.deepTerms false
set_option pp.deepTerms.threshold 12
set_option hygiene false
local macro_rules | `(tactic| fail "nd") => `(tactic| first | assumption | decide +kernel)
local macro_rules | `(tactic| fail "ix") => `(tactic| first | exact ⟨0, rfl⟩ | exact ⟨1, rfl⟩ | exact ⟨2, rfl⟩ | exact ⟨3, rfl⟩ | exact ⟨4, rfl⟩ | exact ⟨5, rfl⟩ | exact ⟨6, rfl⟩ | exact ⟨7, rfl⟩ | exact ⟨8, rfl⟩ | exact ⟨9, rfl⟩ | exact ⟨10, rfl⟩ | exact ⟨11, rfl⟩ | exact ⟨12, rfl⟩ | exact ⟨13, rfl⟩ | exact ⟨14, rfl⟩ | exact ⟨15, rfl⟩ | exact ⟨16, rfl⟩ | exact ⟨17, rfl⟩ | exact ⟨18, rfl⟩ | assumption)
local macro_rules | `(tactic| fail "up") => `(tactic| first | exact ⟨0, rfl, rfl⟩ | exact ⟨1, rfl, rfl⟩ | exact ⟨2, rfl, rfl⟩ | exact ⟨3, rfl, rfl⟩ | exact ⟨4, rfl, rfl⟩ | exact ⟨5, rfl, rfl⟩ | exact ⟨6, rfl, rfl⟩ | exact ⟨7, rfl, rfl⟩ | exact ⟨8, rfl, rfl⟩ | exact ⟨9, rfl, rfl⟩ | exact ⟨10, rfl, rfl⟩ | exact ⟨11, rfl, rfl⟩ | exact ⟨12, rfl, rfl⟩ | exact ⟨13, rfl, rfl⟩ | exact ⟨14, rfl, rfl⟩ | exact ⟨15, rfl, rfl⟩ | exact ⟨16, rfl, rfl⟩ | assumption)
local macro_rules | `(tactic| fail "lkF") => `(tactic| first | assumption | exact fz_at 0 (by fail "nd") rfl rfl | exact fz_at 1 (by fail "nd") rfl rfl | exact fz_at 2 (by fail "nd") rfl rfl | exact fz_at 3 (by fail "nd") rfl rfl | exact fz_at 4 (by fail "nd") rfl rfl | exact fz_at 5 (by fail "nd") rfl rfl | exact fz_at 6 (by fail "nd") rfl rfl | exact fz_at 7 (by fail "nd") rfl rfl)
local macro_rules | `(tactic| fail "lkD") => `(tactic| first | assumption | exact dz_at 0 (by fail "nd") rfl rfl | exact dz_at 1 (by fail "nd") rfl rfl | exact dz_at 2 (by fail "nd") rfl rfl | exact dz_at 3 (by fail "nd") rfl rfl | exact dz_at 4 (by fail "nd") rfl rfl)
local macro_rules | `(tactic| fail "ptF") => `(tactic| first | assumption | exact fz_put 0 (by fail "nd") rfl (Nat.le_of_ble_eq_true rfl) | exact fz_put 1 (by fail "nd") rfl (Nat.le_of_ble_eq_true rfl) | exact fz_put 2 (by fail "nd") rfl (Nat.le_of_ble_eq_true rfl) | exact fz_put 3 (by fail "nd") rfl (Nat.le_of_ble_eq_true rfl) | exact fz_put 4 (by fail "nd") rfl (Nat.le_of_ble_eq_true rfl) | exact fz_put 5 (by fail "nd") rfl (Nat.le_of_ble_eq_true rfl) | exact fz_put 6 (by fail "nd") rfl (Nat.le_of_ble_eq_true rfl) | exact fz_put 7 (by fail "nd") rfl (Nat.le_of_ble_eq_true rfl) | exact fz_new (by decide +kernel) rfl)
local macro_rules | `(tactic| fail "ptD") => `(tactic| first | assumption | exact dz_put 0 (by fail "nd") rfl (Nat.le_of_ble_eq_true rfl) | exact dz_put 1 (by fail "nd") rfl (Nat.le_of_ble_eq_true rfl) | exact dz_put 2 (by fail "nd") rfl (Nat.le_of_ble_eq_true rfl) | exact dz_put 3 (by fail "nd") rfl (Nat.le_of_ble_eq_true rfl) | exact dz_put 4 (by fail "nd") rfl (Nat.le_of_ble_eq_true rfl))
local macro_rules | `(tactic| fail "sz") => `(tactic| first | assumption | exact (Nat.le_of_ble_eq_true rfl) | omega | decide)
local macro_rules | `(tactic| fail "sd") => `(tactic| first | rfl | assumption | decide | omega | (dsimp only; first | decide | omega) | exact .inr ⟨by decide, by decide⟩ | exact .inl ⟨by decide, by decide⟩ | exact ⟨by omega, by omega⟩ | exact .inl ⟨by omega, by omega⟩ | exact .inr ⟨by omega, by omega⟩ | exact ⟨by omega, by omega, by omega⟩)
local macro_rules | `(tactic| fail "cl") => `(tactic| (clear hH; dsimp only [List.set, List.cons_append, List.nil_append, List.append] at hL))
local macro_rules | `(tactic| fail "gn") => `(tactic| (intro p hp; generalize hH : upd H p _ = H; replace hL := Led.newH hL hp hH; clear hH hp))
local macro_rules | `(tactic| fail "gup") => `(tactic| (generalize hH : upd H _ _ = H; replace hL := Led.upU hL (by fail "up") hH; fail "cl"))
local macro_rules | `(tactic| fail "gmk") => `(tactic| (intro x dx hx hd ne; generalize hH : upd (upd H dx _) x _ = H; replace hL := Led.made hL hx hd ne hH; clear hH hx hd ne))
local macro_rules | `(tactic| fail "v") => `(tactic| refine ⟨_, rfl, ?_⟩)
local macro_rules | `(tactic| fail "i2") => `(tactic| refine ⟨_, _, rfl, rfl, ?_⟩)
local macro_rules | `(tactic| fail "go1") => `(tactic| first
  | refine ⟨_, rfl, ?_⟩
  | refine ⟨_, _, rfl, rfl, ?_⟩
  | refine ⟨_, _, rfl, ?_⟩
  | refine iteT ?_
  | refine iteF ?_
  | refine k_fld hL (by fail "ix") (by assumption) (by assumption) (by fail "lkF") ?_
  | refine k_dgetS hL (by fail "ix") (by fail "lkD") ?_
  | refine k_dgetI hL (by fail "ix") (by assumption) ?_
  | refine k_ixL hL (by fail "ix") (by first | rfl | assumption) ?_
  | refine k_ixT hL (by fail "ix") (by first | rfl | assumption) ?_
  | refine k_tyL hL (by fail "ix") ?_
  | refine k_isd hL (by fail "ix") ?_
  | (refine And.intro (by fail "sz") ?_; fail "gn")
  | refine And.intro (by fail "sd") ?_
  | fail "gn"
  | refine k_meth hL (by fail "ix") (by first | assumption | exact fz_no (by decide +kernel)) ?_
  | refine k_gtup hL (by fail "ix") rfl ?_
  | (refine k_popI hL (by fail "ix") (by assumption) ?_; fail "gup")
  | (refine k_listD hL (by fail "ix") ?_; fail "gn")
  | (refine ⟨_, _, _, _, rfl, rfl, hL.at (by fail "ix"), rfl, ?_⟩; fail "gup")
  | (refine ⟨_, _, _, rfl, rfl, hL.at (by fail "ix"), (by fail "sz"), ?_⟩; fail "gup")
  | (refine ⟨_, _, _, _, rfl, hL.at (by fail "ix"), by assumption, by assumption, Nat.lt_of_le_of_lt fz_len (by decide), ?_⟩; generalize hH : upd H _ _ = H; replace hL := Led.upF hL (by fail "up") (by fail "ptF") hH; fail "cl")
  | (refine ⟨_, _, hL.at (by fail "ix"), Nat.lt_of_le_of_lt fz_len (by decide), ?_⟩; generalize hH : upd H _ _ = H; replace hL := Led.upF hL (by fail "up") (by fail "ptF") hH; fail "cl")
  | (refine k_dputS hL (by fail "ix") (Nat.lt_of_le_of_lt dz_len (by decide)) (by fail "ptD") (by fail "up") ?_; clear hL; intro H hL; dsimp only [List.set, List.cons_append, List.nil_append, List.append] at hL)
  | refine k_lenL2 hL (by fail "ix") ?_
  | refine k_lenT2 hL (by fail "ix") ?_
  | refine .inl ⟨_, rfl, ?_⟩
  | refine .inr ⟨_, rfl, ?_⟩)
local macro_rules | `(tactic| fail "go") => `(tactic| repeat fail "go1")
local macro_rules | `(tactic| fail "pm") => `(tactic| (refine Led.le hL (fun a_ => ?_); simp only [cnt_nil, cnt_cons, cnt_app, List.map_append, List.map_cons, List.map_nil, List.flatMap_append, List.flatMap_cons, List.flatMap_nil, List.append_assoc, List.cons_append, List.nil_append]; omega))

def signs (s : Str) : List Int := s.cps.toList.map fun c => Txt.find SIGNS ⟨#[c]⟩
mutual
/-- a value's bytes -/
def packB : Dv → List Int
  | .non => [1]
  | .bl b => [if b = true then 2 else 3]
  | .int i => if 0 ≤ i then 4 :: natB i.toNat else 5 :: natB (0 - i - 1).toNat
  | .str s => 6 :: (natB s.length ++ signs s)
  | .row ds => 7 :: (natB ds.length ++ packsB ds)
def packsB : List Dv → List Int
  | [] => []
  | d :: ds => packB d ++ packsB ds
end
mutual
def deep : Dv → Nat
  | .row ds => deeps ds + 1
  | _ => 0
def deeps : List Dv → Nat
  | [] => 0
  | d :: ds => max (deep d) (deeps ds)
end
/-- a sign of the wire -/
def goodS (c : Nat) : Prop := 0 ≤ Txt.find SIGNS ⟨#[c]⟩ ∧ SIGNS.cps[(Txt.find SIGNS ⟨#[c]⟩).toNat]? = some c
mutual
/-- what can be sent -/
def sendable : Dv → Prop
  | .str s => ∀ c ∈ s.cps.toList, goodS c
  | .row ds => sendables ds
  | _ => True
def sendables : List Dv → Prop
  | [] => True
  | d :: ds => sendable d ∧ sendables ds
end
theorem packB_ne {d : Dv} : packB d ≠ [] := by
  cases d with
  | int i => unfold packB; split <;> exact List.cons_ne_nil _ _
  | _ => unfold packB; exact List.cons_ne_nil _ _
theorem packsB_take {ds : List Dv} {i : Nat} {d : Dv} (h : ds[i]? = some d) : packsB (ds.take (i + 1)) = packsB (ds.take i) ++ packB d := by
  induction ds generalizing i with
  | nil => simp at h
  | cons e r ih =>
    cases i with
    | zero =>
      rw [List.getElem?_cons_zero] at h
      cases h
      simp [packsB]
    | succ i =>
      rw [List.getElem?_cons_succ] at h
      rw [List.take_succ_cons, List.take_succ_cons, packsB, packsB, ih h, List.append_assoc]
theorem packsB_le {ds : List Dv} {i : Nat} : (packsB (ds.take i)).length ≤ (packsB ds).length := by
  induction ds generalizing i with
  | nil => simp
  | cons e r ih =>
    cases i with
    | zero => simp [packsB]
    | succ i =>
      have := ih (i := i)
      rw [List.take_succ_cons, packsB, packsB, List.length_append, List.length_append]
      omega
theorem deeps_get {ds : List Dv} {i : Nat} {d : Dv} (h : ds[i]? = some d) : deep d ≤ deeps ds := by
  induction ds generalizing i with
  | nil => simp at h
  | cons e r ih =>
    rw [deeps]
    cases i with
    | zero =>
      rw [List.getElem?_cons_zero] at h
      cases h
      omega
    | succ i =>
      rw [List.getElem?_cons_succ] at h
      have := ih h
      omega
theorem send_get {ds : List Dv} {i : Nat} {d : Dv} (s : sendables ds) (h : ds[i]? = some d) : sendable d := by
  induction ds generalizing i with
  | nil => simp at h
  | cons e r ih =>
    rw [sendables] at s
    cases i with
    | zero =>
      rw [List.getElem?_cons_zero] at h
      cases h
      exact s.1
    | succ i =>
      rw [List.getElem?_cons_succ] at h
      exact ih s.2 h
def spPack (PN : Addr) (n : Nat) : Sp := fun vs H Q _ => ∃ (v : V) (c : Int) (d : Dv) (ps : Array Value) (L : Lg), vs = [v, .int c] ∧ Led H ((PN, .tbl ps) :: L) ∧ TriplesOk ps.toList ∧ DL L v d ∧ deep d < n ∧ 0 ≤ c ∧ c + deep d ≤ 30 ∧ sendable d ∧ (packB d).length ≤ sizeLine ∧
  ∀ (ps' : Array Value) r H', TriplesOk ps'.toList → Led H' ((r, tI (packB d)) :: (PN, .tbl ps') :: L) → Q (.ref r) H'
theorem Led.tabbed {H H2 : Hp} {P : Addr} {ps : Array Value} {A B : Lg} (h : Led H (A ++ (P, .tbl ps) :: B)) (t : GxR.Tabbed P H H2) : ∃ ps' : Array Value, TriplesOk ps'.toList ∧ Led H2 (A ++ (P, .tbl ps') :: B) := by
  obtain ⟨⟨ps', e, q⟩, k⟩ := t
  refine ⟨ps', q, ?_⟩
  have h1 := h.front.2
  have h2 : P ∉ (A ++ B).map (·.1) := (List.nodup_cons.mp h1).1
  refine Led.back ⟨fun x hx => ?_, h1⟩
  rcases List.mem_cons.mp hx with z | z
  · rw [z]; exact e
  · rw [k x.1 (fun y => h2 (by rw [← y]; exact List.mem_map.mpr ⟨x, z, rfl⟩))]
    exact h.front.1 x (.tail _ z)
section
variable {P : Program} {w : World} {K : PySem.W.Frag} {mg : Str → Option Value} {base : Heap}
theorem scPack : FnScope ["value", "depth", "sign", "found", "part"] ["value", "depth"] (defScope sPack) := ⟨rfl, rfl, rfl, by decide +kernel, rfl, by decide +kernel, by decide +kernel⟩
theorem no_ok {f : Addr} {fd : FuncData} {ps : List Str} {k : Nat} {sp : Sp} (h : ∀ vs H Q E, ¬ sp vs H Q E) : FnOk P w K mg base CX0 k f fd ps sp :=
  ⟨fun vs H Q E z => (h vs H Q E z).elim, fun _ _ _ H _ _ vs Q E _ _ _ _ z => (h vs H Q E z).elim⟩
theorem ok_pack {f c PN : Addr} {oc dV : Value} {od : Option Addr} {osl : Array (Option Value)} {kV doc pm ct : Value} {an : Option Addr} {ds : List Value}
    (lk : K.lookup f = some ⟨oc, od, .func (PySem.W.fnOf "pack" "pack" (defArgs sPack) (defBody sPack) (defScope sPack) dV kV doc pm an (.ref c) ct), osl⟩) (hcd : PySem.W.codeIn K (.ref c) "pack" = true) (TB : GxR.TabB base mg c PN) (T : TxtW mg)
    (hm : mg "pack" = some (.ref f)) (kp : PySem.W.keepIn K (.ref f) = true) (b : Binds K (PySem.W.fnOf "pack" "pack" (defArgs sPack) (defBody sPack) (defScope sPack) dV kV doc pm an (.ref c) ct) ["value", "depth"] [])
    (c_natural : Cal P w K mg base 1 "natural" spNatural []) (c_sign_number : Cal P w K mg base 1 "sign_number" spSignN []) (n : Nat) :
    FnOk P w K mg base CX0 (5 + n) f (PySem.W.fnOf "pack" "pack" (defArgs sPack) (defBody sPack) (defScope sPack) dV kV doc pm an (.ref c) ct) ["value", "depth"] (spPack PN n) := by
  induction n with
  | zero => exact no_ok fun vs H Q E ⟨_, _, _, _, _, _, _, _, _, h, _⟩ => absurd h (Nat.not_lt_zero _)
  | succ n ih =>
    have c_pack_all : Cal P w K mg base (5 + n) "pack" (spPack PN n) [] := ⟨_, _, _, [], ih, hm, kp, b, .nil⟩
    refine fn_of lk hcd scPack (fun vs H Q E h => ?_) fun A outer s H vs Q E hr h => ?_
    · obtain ⟨v, i, d, ps, L, rfl, _⟩ := h
      rfl
    · obtain ⟨v, i, d, ps, L, rfl, hL, ht, hd, hn, h0, h30, hs, hz, k⟩ := h
      replace hr : Room (5 + n) _ := hr
      have hr1 : Room 2 _ := hr.mono (by omega)
      have hr5 : Room 5 _ := hr.mono (by omega)
      refine ⟨_, ((pss_cons (ps_if (pt_cmpR op_gt (pv 1) (C8.pe_gc (by rfl) T.g_MOST_DEEP) (nomark _))
  pss_never
  pss_nil)
  (pss_cons (ps_if (pt_cmpR op_isN (pv 0) pe_non (nomark _))
  (pss_one (ps_ret (pe_tup (pa_cons (C8.pe_gc (by rfl) T.g_NONE) pa_nil))))
  pss_nil)
  (pss_cons (ps_if (PW.pt (pw_or (pt_cmpR op_isB (pv 0) pe_bl (nomark _)) (pw_or1 (pt_cmpR op_isB (pv 0) pe_bl (nomark _)))))
  (pss_one (ps_ret (pe_tup (pa_cons (pe_ifExp (pt_truth (pv 0) (by intro _; rfl)) (C8.pe_gc (by rfl) T.g_TRUE) (C8.pe_gc (by rfl) T.g_FALSE)) pa_nil))))
  pss_nil)
  (pss_cons (ps_if (pt_val (pe_callB call_isi (by rfl) T.isinstance (by decide +kernel) (pa_cons (pv 0) (pa_cons (pe_bltn (v := .ty "int") (by rfl) T.int (show bootBuiltins _ = some (.type "int") by decide +kernel) rfl) pa_nil))))
  (pss_one (ps_ret (pe_ifExp (pt_cmpR op_ge (pv 0) pe_int (nomark _)) (pe_op (op_catA) (pe_tup (pa_cons (C8.pe_gc (by rfl) T.g_NUMBER) pa_nil)) (pe_c c_natural hr (by omega) (by rfl) (pa_cons (pv 0) pa_nil))) (pe_op (op_catA) (pe_tup (pa_cons (C8.pe_gc (by rfl) T.g_BELOW) pa_nil)) (pe_c c_natural hr (by omega) (by rfl) (pa_cons (pe_op op_sub (pe_op op_sub pe_int (pv 0)) pe_int) pa_nil))))))
  pss_nil)
  (pss_cons (ps_if (pt_val (pe_callB call_isi (by rfl) T.isinstance (by decide +kernel) (pa_cons (pv 0) (pa_cons (pe_bltn (v := .ty "str") (by rfl) T.str (show bootBuiltins _ = some (.type "str") by decide +kernel) rfl) pa_nil))))
  (pss_one (ps_ret (pe_op (op_catA) (pe_op (op_catA) (pe_tup (pa_cons (C8.pe_gc (by rfl) T.g_TEXT) pa_nil)) (pe_c c_natural hr (by omega) (by rfl) (pa_cons (pe_callB call_len_str (by rfl) T.len (by decide +kernel) (pa_cons (pv 0) pa_nil)) pa_nil))) (Gx.pe_tupleG (Gx.pgen_gx (own := [("sign", 2)]) (g := gName 2) hr1 TB rfl scPack.nd (pi_str (pv 0)) (Gx.gxOk_by (own := [("sign", 2)]) (N := ["value", "depth", "sign", "found", "part"]) (sc := (defScope sPack)) (by decide +kernel)) (fun _ _ _ _ _ _ _ _ _ => (pg_name (i := 2) scPack.nd rfl (Or.inl rfl))) (fun _ _ _ _ _ _ _ _ hr => pts_nil) (fun _ _ _ _ _ _ _ _ hr => (pe_c c_sign_number hr (by omega) (by rfl) (pa_cons (pv 2) pa_nil))) (fun _ => rfl)) hr5 (by rfl) T.tuple))))
  pss_nil)
  (pss_cons (ps_if (pt_val (pe_callB call_isi (by rfl) T.isinstance (by decide +kernel) (pa_cons (pv 0) (pa_cons (pe_bltn (v := .ty "tuple") (by rfl) T.tuple (show bootBuiltins _ = some (.type "tuple") by decide +kernel) rfl) pa_nil))))
  (pss_cons (ps_set (i := 3) scPack.nd rfl (Or.inl rfl) (pe_op (op_catA) (pe_tup (pa_cons (C8.pe_gc (by rfl) T.g_ROW) pa_nil)) (pe_c c_natural hr (by omega) (by rfl) (pa_cons (pe_callB call_len_seq (by rfl) T.len (by decide +kernel) (pa_cons (pv 0) pa_nil)) pa_nil))))
  (pss_cons (ps_for PassesOwn.never rfl (pi_tup (pv 0)) (pg_name (i := 4) scPack.nd rfl (Or.inl rfl))
  (pss_one (ps_aug (i := 3) scPack.nd rfl (Or.inl rfl) (pe_c c_pack_all hr (by omega) (by rfl) (pa_cons (pv 4) (pa_cons (pe_op op_add (pv 1) pe_int) pa_nil))) iop_catA)))
  (pss_one (ps_ret (pv 3)))))
  pss_nil)
  pss_never))))))).nox, ?_⟩


      fail "go"
      refine ite_d (fun q => absurd q (by omega)) fun _ => ?_
      fail "go"
      cases hd with
      | non =>
        fail "go"
        exact k ps _ _ ht hL
      | bl bb =>
        cases bb with
        | true =>
          fail "go"
          exact k ps _ _ ht hL
        | false =>
          fail "go"
          exact k ps _ _ ht hL
      | int j =>
        fail "go"
        refine ⟨_, _, _, _, true, rfl, .ty _, .base (.int j), kit_ty (by decide +kernel), ?_⟩
        fail "go"
        unfold packB at hz
        refine ite_d (fun hj => ?_) fun hj => ?_
        · rw [if_pos hj] at hz
          fail "go"
          obtain ⟨m, rfl⟩ : ∃ m : Nat, j = m := ⟨j.toNat, by omega⟩
          refine ⟨m, _, rfl, hL, by simp only [List.length_cons, Int.toNat_natCast] at hz; omega, fun r H hL => ?_⟩
          refine k_catA (hL.sub (.refl _)) (by simp only [List.length_cons, List.length_map, Int.toNat_natCast, List.length_nil] at hz ⊢; omega) fun r H hL => k ps _ _ ht ?_
          unfold packB
          rw [if_pos hj]
          exact hL
        · rw [if_neg hj] at hz
          fail "go"
          obtain ⟨m, hm1⟩ : ∃ m : Nat, 0 - j - 1 = m := ⟨(0 - j - 1).toNat, by omega⟩
          rw [hm1] at hz
          refine ⟨m, _, congrArg (fun x => [V.int x]) hm1, hL, by simp only [List.length_cons, Int.toNat_natCast] at hz; omega, fun r H hL => ?_⟩
          refine k_catA (hL.sub (.refl _)) (by simp only [List.length_cons, List.length_map, Int.toNat_natCast, List.length_nil] at hz ⊢; omega) fun r H hL => k ps _ _ ht ?_
          unfold packB
          rw [if_neg hj, hm1]
          exact hL
      | str z =>
        fail "go"
        refine ⟨_, _, _, _, false, rfl, .ty _, .base (.str z), kit_ty (by decide +kernel), ?_⟩
        fail "go"
        refine ⟨_, _, _, _, true, rfl, .ty _, .base (.str z), kit_ty (by decide +kernel), ?_⟩
        fail "go"
        unfold packB at hz
        simp only [List.length_cons, List.length_append] at hz
        have hsz : (signs z).length = z.length := by unfold signs; rw [List.length_map, Array.length_toList]; rfl
        refine ⟨by omega, z.length, _, rfl, hL, by omega, fun r H hL => ?_⟩
        refine k_catA (hL.sub (.refl _)) (by simp only [List.length_cons, List.length_map, List.length_nil]; omega) fun r H hL => ?_
        refine ⟨.str z, rfl, z, rfl, ⟨ps, hL.at ⟨1, rfl⟩, ht⟩, fun H2 hT => ?_⟩
        obtain ⟨ps', ht', hL⟩ := Led.tabbed (A := [_]) hL hT
        dsimp only [List.cons_append, List.nil_append, List.append] at hL
        clear hT
        refine Gx.gx_it (walk_str (z := z)) (fun i out H => Hold (out = ((signs z).take i).map V.int ∧ Led H ((r, .tup ([V.int 6] ++ (natB z.length).map V.int)) :: (PN, .tbl ps') :: L))) (.mk ⟨rfl, hL⟩) (fun i out H _ h => True.intro) (fun i x out H H' hi h hy => ?_) (fun out H h => ?_)
        · obtain ⟨rfl, hL⟩ := h.out
          clear h
          obtain ⟨rfl, ch, hc, rfl⟩ := hy
          have hg : (signs z)[i]? = some (Txt.find SIGNS ⟨#[ch]⟩) := by
            unfold signs
            rw [List.getElem?_map, Array.getElem?_toList, hc]
            rfl
          refine ⟨rfl, k_yes ?_⟩
          refine ⟨_, rfl, ⟨#[ch]⟩, rfl, ?_, ?_⟩
          · unfold sendable at hs
            exact (hs ch (List.mem_of_getElem? (by rw [Array.getElem?_toList]; exact hc))).1
          · refine ⟨?_, .mk ⟨?_, hL⟩⟩
            · rw [List.length_map, List.length_take]
              have : z.cps.size = z.length := rfl
              omega
            · rw [List.take_add_one, hg, Option.toList_some, List.map_append]
              rfl
        · obtain ⟨rfl, hL⟩ := h.out
          clear h
          intro q hq
          generalize hH : upd H q _ = H
          replace hL := Led.newH hL hq hH
          have hall : (signs z).take z.cps.size = signs z := by
            rw [List.take_of_length_le]
            rw [hsz]
            exact Nat.le_refl _
          rw [hall] at hL
          refine k_catA (hL.sub (.refl _)) (by simp only [List.length_cons, List.length_map, List.length_nil, List.length_append]; omega) fun r H hL => k ps' _ _ ht' ?_
          unfold packB
          show Led H ((r, .tup (List.map V.int ((6 :: natB z.length) ++ signs z))) :: _)
          rw [List.map_append]
          exact hL
      | @row pr oo xs dl hp ho hxs =>
        fail "go"
        refine ⟨_, _, _, _, false, rfl, .ty _, ho.ty (hL.mem (.tail _ hp)), kit_ty (by decide +kernel), ?_⟩
        fail "go"
        refine ⟨_, _, _, _, false, rfl, .ty _, ho.ty (hL.mem (.tail _ hp)), kit_ty (by decide +kernel), ?_⟩
        fail "go"
        refine ⟨_, _, _, _, true, rfl, .ty _, ho.ty (hL.mem (.tail _ hp)), kit_ty (by decide +kernel), ?_⟩
        fail "go"
        refine ⟨_, _, rfl, .inr (ho.sq (hL.mem (.tail _ (.tail _ hp)))), ?_⟩
        have hln := hxs.len
        unfold packB at hz
        simp only [List.length_cons, List.length_append] at hz
        refine ⟨_, _, congrArg (fun x : Nat => [V.int x]) hln, hL, by omega, fun r H hL => ?_⟩
        refine k_catA (hL.sub (.refl _)) (by simp only [List.length_cons, List.length_map, List.length_nil]; omega) fun r H hL => ?_
        fail "go"
        refine ⟨⟨_, ho.sq (hL.mem (.tail _ (.tail _ hp)))⟩, ?_⟩
        rw [deep] at hn h30
        rw [sendable] at hs
        refine for_tupA (xs := xs) (fun i' σ H => Hold (∃ (v2 v4 : Option V) (r : Addr) (ps : Array Value), σ = [some (.ref pr), some (.int i), v2, some (.ref r), v4] ∧ TriplesOk ps.toList ∧ Led H ((r, tI (7 :: (natB dl.length ++ packsB (dl.take i')))) :: (PN, .tbl ps) :: L))) (.mk ⟨_, _, r, ps, rfl, ht, ?_⟩)
          (fun i' σ H _ h => ?_) (fun i' x σ H D' hi h hN => ?_) (fun σ H h => ?_)
        · rw [List.take_zero, packsB, List.append_nil]
          exact hL
        · obtain ⟨v2, v4, r, ps, rfl, ht, hL⟩ := h.out
          exact ho.sq (hL.mem (.tail _ (.tail _ hp)))
        · clear hL ht
          obtain ⟨v2, v4, r, ps, rfl, ht, hL⟩ := h.out
          clear h
          obtain ⟨d, hdi, hdx⟩ := hxs.get hi
          have q1 := deeps_get hdi
          have q2 := packsB_take hdi
          have q3 := packsB_le (ds := dl) (i := i' + 1)
          rw [q2, List.length_append] at q3
          refine ⟨_, rfl, ?_⟩
          fail "go"
          refine ⟨x, i + 1, d, ps, (r, tI (7 :: (natB dl.length ++ packsB (dl.take i')))) :: L, rfl, hL.perm (List.Perm.swap _ _ _), ht, hdx.mono (fun a h => .tail _ h), by omega, by omega, by omega, send_get hs hdi, by omega, fun ps r2 H ht hL => ?_⟩
          refine k_catA (L := (PN, .tbl ps) :: L) (hL.perm (.cons _ (.swap _ _ _))) (by simp only [List.length_cons, List.length_map, List.length_append]; omega) fun r H hL => ?_
          refine hN.nx _ _ (.mk ⟨v2, some x, r, ps, rfl, ht, ?_⟩)
          rw [q2]
          rw [← List.map_append] at hL
          simpa only [List.append_assoc, List.cons_append] using hL
        · obtain ⟨v2, v4, r, ps, rfl, ht, hL⟩ := h.out
          fail "go"
          refine k ps _ _ ht ?_
          rw [hln, List.take_length] at hL
          unfold packB
          exact hL
end
end Sd


set_option linter.unusedVariables false
namespace Sd
open PySem L2
open C8 (Cal Met Mak pe_c pe_mk pe_mt pe_mt0 pss_cut tCut)
-- TYPES FRZ=
set_option linter.unusedSimpArgs false
set_option pp.deepTerms false
set_option pp.deepTerms.threshold 12
set_option hygiene false
local macro_rules | `(tactic| fail "nd") => `(tactic| first | assumption | decide +kernel)
local macro_rules | `(tactic| fail "ix") => `(tactic| first | exact ⟨0, rfl⟩ | exact ⟨1, rfl⟩ | exact ⟨2, rfl⟩ | exact ⟨3, rfl⟩ | exact ⟨4, rfl⟩ | exact ⟨5, rfl⟩ | exact ⟨6, rfl⟩ | exact ⟨7, rfl⟩ | exact ⟨8, rfl⟩ | exact ⟨9, rfl⟩ | exact ⟨10, rfl⟩ | exact ⟨11, rfl⟩ | exact ⟨12, rfl⟩ | exact ⟨13, rfl⟩ | exact ⟨14, rfl⟩ | exact ⟨15, rfl⟩ | exact ⟨16, rfl⟩ | exact ⟨17, rfl⟩ | exact ⟨18, rfl⟩ | assumption)
local macro_rules | `(tactic| fail "up") => `(tactic| first | exact ⟨0, rfl, rfl⟩ | exact ⟨1, rfl, rfl⟩ | exact ⟨2, rfl, rfl⟩ | exact ⟨3, rfl, rfl⟩ | exact ⟨4, rfl, rfl⟩ | exact ⟨5, rfl, rfl⟩ | exact ⟨6, rfl, rfl⟩ | exact ⟨7, rfl, rfl⟩ | exact ⟨8, rfl, rfl⟩ | exact ⟨9, rfl, rfl⟩ | exact ⟨10, rfl, rfl⟩ | exact ⟨11, rfl, rfl⟩ | exact ⟨12, rfl, rfl⟩ | exact ⟨13, rfl, rfl⟩ | exact ⟨14, rfl, rfl⟩ | exact ⟨15, rfl, rfl⟩ | exact ⟨16, rfl, rfl⟩ | assumption)
local macro_rules | `(tactic| fail "lkF") => `(tactic| first | assumption | exact fz_at 0 (by fail "nd") rfl rfl | exact fz_at 1 (by fail "nd") rfl rfl | exact fz_at 2 (by fail "nd") rfl rfl | exact fz_at 3 (by fail "nd") rfl rfl | exact fz_at 4 (by fail "nd") rfl rfl | exact fz_at 5 (by fail "nd") rfl rfl | exact fz_at 6 (by fail "nd") rfl rfl | exact fz_at 7 (by fail "nd") rfl rfl)
local macro_rules | `(tactic| fail "lkD") => `(tactic| first | assumption | exact dz_at 0 (by fail "nd") rfl rfl | exact dz_at 1 (by fail "nd") rfl rfl | exact dz_at 2 (by fail "nd") rfl rfl | exact dz_at 3 (by fail "nd") rfl rfl | exact dz_at 4 (by fail "nd") rfl rfl)
local macro_rules | `(tactic| fail "ptF") => `(tactic| first | assumption | exact fz_put 0 (by fail "nd") rfl (Nat.le_of_ble_eq_true rfl) | exact fz_put 1 (by fail "nd") rfl (Nat.le_of_ble_eq_true rfl) | exact fz_put 2 (by fail "nd") rfl (Nat.le_of_ble_eq_true rfl) | exact fz_put 3 (by fail "nd") rfl (Nat.le_of_ble_eq_true rfl) | exact fz_put 4 (by fail "nd") rfl (Nat.le_of_ble_eq_true rfl) | exact fz_put 5 (by fail "nd") rfl (Nat.le_of_ble_eq_true rfl) | exact fz_put 6 (by fail "nd") rfl (Nat.le_of_ble_eq_true rfl) | exact fz_put 7 (by fail "nd") rfl (Nat.le_of_ble_eq_true rfl) | exact fz_new (by decide +kernel) rfl)
local macro_rules | `(tactic| fail "ptD") => `(tactic| first | assumption | exact dz_put 0 (by fail "nd") rfl (Nat.le_of_ble_eq_true rfl) | exact dz_put 1 (by fail "nd") rfl (Nat.le_of_ble_eq_true rfl) | exact dz_put 2 (by fail "nd") rfl (Nat.le_of_ble_eq_true rfl) | exact dz_put 3 (by fail "nd") rfl (Nat.le_of_ble_eq_true rfl) | exact dz_put 4 (by fail "nd") rfl (Nat.le_of_ble_eq_true rfl))
local macro_rules | `(tactic| fail "sz") => `(tactic| first | assumption | exact (Nat.le_of_ble_eq_true rfl) | omega | decide)
local macro_rules | `(tactic| fail "sd") => `(tactic| first | rfl | assumption | decide | omega | (dsimp only; first | decide | omega) | exact .inr ⟨by decide, by decide⟩ | exact .inl ⟨by decide, by decide⟩ | exact ⟨by omega, by omega⟩ | exact .inl ⟨by omega, by omega⟩ | exact .inr ⟨by omega, by omega⟩ | exact ⟨by omega, by omega, by omega⟩)
local macro_rules | `(tactic| fail "cl") => `(tactic| (clear hH; dsimp only [List.set, List.cons_append, List.nil_append, List.append] at hL))
local macro_rules | `(tactic| fail "gn") => `(tactic| (intro p hp; generalize hH : upd H p _ = H; replace hL := Led.newH hL hp hH; clear hH hp))
local macro_rules | `(tactic| fail "gup") => `(tactic| (generalize hH : upd H _ _ = H; replace hL := Led.upU hL (by fail "up") hH; fail "cl"))
local macro_rules | `(tactic| fail "gmk") => `(tactic| (intro x dx hx hd ne; generalize hH : upd (upd H dx _) x _ = H; replace hL := Led.made hL hx hd ne hH; clear hH hx hd ne))
local macro_rules | `(tactic| fail "v") => `(tactic| refine ⟨_, rfl, ?_⟩)
local macro_rules | `(tactic| fail "i2") => `(tactic| refine ⟨_, _, rfl, rfl, ?_⟩)
local macro_rules | `(tactic| fail "go1") => `(tactic| first
  | refine ⟨_, rfl, ?_⟩
  | refine ⟨_, _, rfl, rfl, ?_⟩
  | refine ⟨_, _, rfl, ?_⟩
  | refine iteT ?_
  | refine iteF ?_
  | refine k_fld hL (by fail "ix") (by assumption) (by assumption) (by fail "lkF") ?_
  | refine k_dgetS hL (by fail "ix") (by fail "lkD") ?_
  | refine k_dgetI hL (by fail "ix") (by assumption) ?_
  | refine k_ixL hL (by fail "ix") (by first | rfl | assumption) ?_
  | refine k_ixT hL (by fail "ix") (by first | rfl | assumption) ?_
  | refine k_tyL hL (by fail "ix") ?_
  | refine k_isd hL (by fail "ix") ?_
  | (refine And.intro (by fail "sz") ?_; fail "gn")
  | refine And.intro (by fail "sd") ?_
  | fail "gn"
  | refine k_meth hL (by fail "ix") (by first | assumption | exact fz_no (by decide +kernel)) ?_
  | refine k_gtup hL (by fail "ix") rfl ?_
  | (refine k_popI hL (by fail "ix") (by assumption) ?_; fail "gup")
  | (refine k_listD hL (by fail "ix") ?_; fail "gn")
  | (refine ⟨_, _, _, _, rfl, rfl, hL.at (by fail "ix"), rfl, ?_⟩; fail "gup")
  | (refine ⟨_, _, _, rfl, rfl, hL.at (by fail "ix"), (by fail "sz"), ?_⟩; fail "gup")
  | (refine ⟨_, _, _, _, rfl, hL.at (by fail "ix"), by assumption, by assumption, Nat.lt_of_le_of_lt fz_len (by decide), ?_⟩; generalize hH : upd H _ _ = H; replace hL := Led.upF hL (by fail "up") (by fail "ptF") hH; fail "cl")
  | (refine ⟨_, _, hL.at (by fail "ix"), Nat.lt_of_le_of_lt fz_len (by decide), ?_⟩; generalize hH : upd H _ _ = H; replace hL := Led.upF hL (by fail "up") (by fail "ptF") hH; fail "cl")
  | (refine k_dputS hL (by fail "ix") (Nat.lt_of_le_of_lt dz_len (by decide)) (by fail "ptD") (by fail "up") ?_; clear hL; intro H hL; dsimp only [List.set, List.cons_append, List.nil_append, List.append] at hL)
  | refine k_lenL2 hL (by fail "ix") ?_
  | refine k_lenT2 hL (by fail "ix") ?_
  | refine .inl ⟨_, rfl, ?_⟩
  | refine .inr ⟨_, rfl, ?_⟩)
local macro_rules | `(tactic| fail "go") => `(tactic| repeat fail "go1")
local macro_rules | `(tactic| fail "pm") => `(tactic| (refine Led.le hL (fun a_ => ?_); simp only [cnt_nil, cnt_cons, cnt_app, List.map_append, List.map_cons, List.map_nil, List.flatMap_append, List.flatMap_cons, List.flatMap_nil, List.append_assoc, List.cons_append, List.nil_append]; omega))

def inCls (st : Stmt) (i : Nat) : Stmt := (C8.clsBody st).getD i (.Pass ⟨0, 0, 0, 0⟩)
abbrev sUInit : Stmt := inCls (top 16) 0
abbrev sUByte : Stmt := inCls (top 16) 1
abbrev sUNat : Stmt := inCls (top 16) 2
abbrev sUVal : Stmt := inCls (top 16) 3
abbrev sUText : Stmt := inCls (top 16) 4
def frameB (bs : List Int) : List Int := fourB bs.length ++ bs ++ sumB bs
def spFrame (PN : Addr) (n : Nat) : Sp := fun vs H Q _ => ∃ (v : V) (d : Dv) (ps : Array Value) (L : Lg), vs = [v] ∧ Led H ((PN, .tbl ps) :: L) ∧ TriplesOk ps.toList ∧ DL L v d ∧ deep d < n ∧ deep d ≤ 30 ∧ sendable d ∧ (packB d).length + 8 ≤ sizeLine ∧
  ∀ (ps' : Array Value) r H', TriplesOk ps'.toList → Led H' ((r, tI (frameB (packB d))) :: (PN, .tbl ps') :: L) → Q (.ref r) H'
def nmU : List Str := ["data", "place", "nesting"]
/-- the unpacker over the bytes at D -/
def uO (CU u dx D : Addr) (i : Nat) (k : Int) : Addr × HO := (u, .ins CU dx (fz nmU [.ref D, .int i, .int k]))
structure TxtU (K : PySem.W.Frag) (mg : Str → Option Value) (CU : Addr) : Prop where
  cl : Cls K CU
  n : ∀ f ∈ nmU, NoAttr K CU f
def spUInit (CU : Addr) : Sp := fun vs H Q _ => ∃ (u dx D : Addr) (bs : List Int) (L : Lg), vs = [.ref u, .ref D] ∧ Led H ((u, .ins CU dx (fz [] [])) :: L) ∧ At L D (tI bs) ∧ ∀ H', Led H' (uO CU u dx D 0 0 :: L) → Q .non H'
def spUByte (CU : Addr) : Sp := fun vs H Q _ => ∃ (u dx D : Addr) (i : Nat) (k b : Int) (bs : List Int) (L : Lg), vs = [.ref u] ∧ Led H (uO CU u dx D i k :: L) ∧ (D, tI bs) ∈ L ∧ bs[i]? = some b ∧ ∀ H', Led H' (uO CU u dx D (i + 1) k :: L) → Q (.int b) H'
def spUNat (CU : Addr) : Sp := fun vs H Q _ => ∃ (u dx D : Addr) (i : Nat) (k : Int) (n : Nat) (bs rest : List Int) (L : Lg), vs = [.ref u] ∧ Led H (uO CU u dx D i k :: L) ∧ (D, tI bs) ∈ L ∧ bs.drop i = natB n ++ rest ∧
  ∀ H', Led H' (uO CU u dx D (i + (natB n).length) k :: L) → Q (.int n) H'
theorem drop_get {α : Type} {bs rest : List α} {i : Nat} {b : α} (h : bs.drop i = b :: rest) : bs[i]? = some b ∧ bs.drop (i + 1) = rest := by
  constructor
  · have := congrArg (fun l => l[0]?) h
    simpa using this
  · have := congrArg List.tail h
    rw [List.tail_drop] at this
    exact this
section
variable {P : Program} {w : World} {K : PySem.W.Frag} {mg : Str → Option Value} {base : Heap} {CU : Addr}
theorem scFrame : FnScope ["value", "data"] ["value"] (defScope sFrame) := ⟨rfl, rfl, rfl, by decide +kernel, rfl, by decide +kernel, by decide +kernel⟩
theorem ok_frame {f : Addr} {fd : FuncData} {PN : Addr} {n : Nat} (F : Fun K "frame" "frame" sFrame f fd) (T : TxtW mg) (c_pack : Cal P w K mg base (5 + n) "pack" (spPack PN n) [.int 0]) (c_four : Cal P w K mg base 1 "four" spFour []) (c_sum_of_bytes : Cal P w K mg base 1 "sum_of_bytes" spSumB []) :
    FnOk P w K mg base CX0 (6 + n) f fd ["value"] (spFrame PN n) := by
  have e6 : 6 + n = (5 + n) + 1 := by omega
  rw [e6]
  refine F.ok scFrame (fun vs H Q E h => ?_) (fun cdv A outer s H vs Q E hr h => ?_)
  · obtain ⟨v, d, ps, L, rfl, _⟩ := h
    rfl
  · obtain ⟨v, d, ps, L, rfl, hL, ht, hd, hn, h30, hs, hz, k⟩ := h
    refine ⟨_, (pss_cons (ps_set (i := 1) scFrame.nd rfl (Or.inl rfl) (pe_c c_pack hr (by omega) (by rfl) (pa_cons (pv 0) pa_nil)))
  (pss_one (ps_ret (pe_op (op_catA) (pe_op (op_catA) (pe_c c_four hr (by omega) (by rfl) (pa_cons (pe_callB call_len_seq (by rfl) T.len (by decide +kernel) (pa_cons (pv 1) pa_nil)) pa_nil)) (pv 1)) (pe_c c_sum_of_bytes hr (by omega) (by rfl) (pa_cons (pv 1) pa_nil)))))), ?_⟩
    fail "go"
    refine ⟨v, 0, d, ps, L, rfl, hL, ht, hd, hn, Int.le_refl _, by omega, hs, by omega, fun ps r H ht hL => ?_⟩
    fail "go"
    refine ⟨_, _, rfl, hL, fun r4 H hL => ?_⟩
    refine ⟨.ref r, rfl, ?_⟩
    refine k_catN hL ⟨0, rfl⟩ ⟨1, rfl⟩ (by exact List.cons_ne_nil _ _) (by simpa using packB_ne) (by simp only [List.length_map]; unfold fourB; simp only [List.length_cons, List.length_nil]; omega) fun rc H hL => ?_
    fail "go"
    refine ⟨r, packB d, _, rfl, hL, ⟨2, rfl⟩, fun rs H hL => ?_⟩
    refine k_catN hL ⟨1, rfl⟩ ⟨0, rfl⟩ (by simp [fourB]) (by exact List.cons_ne_nil _ _) (by simp only [List.length_map, List.length_append]; unfold fourB sumB; simp only [List.length_cons, List.length_nil]; omega) fun rf H hL => k ps _ _ ht ?_
    unfold frameB tI
    rw [List.map_append, List.map_append]
    rw [List.length_map] at hL
    exact hL.sub (.cons_cons _ (.cons _ (.cons _ (.cons _ (.cons _ (.refl _))))))
theorem scUInit : FnScope ["self", "data"] ["self", "data"] (defScope sUInit) := ⟨rfl, rfl, rfl, by decide +kernel, rfl, by decide +kernel, by decide +kernel⟩
theorem ok_UInit {f : Addr} {fd : FuncData} (F : Fun K "__init__" "Unpacker.__init__" sUInit f fd) (X : TxtU K mg CU) (T : TxtW mg) : FnOk P w K mg base CX0 1 f fd ["self", "data"] (spUInit CU) := by
  refine F.ok scUInit (fun vs H Q E h => ?_) (fun cdv A outer s H vs Q E hr h => ?_)
  · obtain ⟨u, dx, D, bs, L, rfl, _⟩ := h
    rfl
  · obtain ⟨u, dx, D, bs, L, rfl, hL, hD, k⟩ := h
    have c1 := X.cl
    have f1 := X.n "data" (by decide +kernel)
    have f2 := X.n "place" (by decide +kernel)
    have f3 := X.n "nesting" (by decide +kernel)
    refine ⟨_, (pss_cons (ps_fld (pv 0) (pe_callTy call_tuple_of (by rfl) T.tuple (by decide +kernel) (pa_cons (pv 1) pa_nil)) rfl)
  (pss_cons (ps_fld (pv 0) pe_int rfl)
  (pss_one (ps_fld (pv 0) pe_int rfl)))), ?_⟩
    fail "go"
    refine ⟨D, _, rfl, .inr ⟨.of (hL.tail.at hD), ?_⟩⟩
    fail "go"
    exact k _ hL
theorem scUByte : FnScope ["self"] ["self"] (defScope sUByte) := ⟨rfl, rfl, rfl, by decide +kernel, rfl, by decide +kernel, by decide +kernel⟩
theorem ok_UByte {f : Addr} {fd : FuncData} (F : Fun K "byte" "Unpacker.byte" sUByte f fd) (X : TxtU K mg CU) (T : TxtW mg) : FnOk P w K mg base CX0 1 f fd ["self"] (spUByte CU) := by
  refine F.ok scUByte (fun vs H Q E h => ?_) (fun cdv A outer s H vs Q E hr h => ?_)
  · obtain ⟨u, dx, D, i, k, b, bs, L, rfl, _⟩ := h
    rfl
  · obtain ⟨u, dx, D, i, kk, b, bs, L, rfl, hL, hD, hb, k⟩ := h
    have c1 := X.cl
    have f1 := X.n "data" (by decide +kernel)
    have f2 := X.n "place" (by decide +kernel)
    refine ⟨_, (pss_cons (ps_if (pt_cmpR op_ge (pe_fld (pv 0) rfl) (pe_callB call_len_seq (by rfl) T.len (by decide +kernel) (pa_cons (pe_fld (pv 0) rfl) pa_nil)) (nomark _))
  pss_never
  pss_nil)
  (pss_cons (ps_fldaug (pv 0) pe_int in_add)
  (pss_one (ps_ret (pe_ix ix_tup (pe_fld (pv 0) rfl) (pe_op op_sub (pe_fld (pv 0) rfl) pe_int) (fun _ _ => rfl)))))), ?_⟩
    dsimp only [uO] at hL
    fail "go"
    refine ⟨D, _, rfl, .inr (.of (hL.tail.mem hD)), ?_⟩
    fail "go"
    obtain ⟨hb1, hb2⟩ := List.getElem?_eq_some_iff.mp hb
    refine ite_d (fun q => absurd q (by rw [List.length_map]; omega)) fun _ => ?_
    fail "go"
    have e1 : ((i : Int) + 1) - 1 = i := by omega
    refine k_ixT hL (at_mem (.tail _ hD)) (v := .int b) (by rw [e1]; exact atI_nat (by rw [List.getElem?_map, hb]; rfl)) ?_
    fail "go"
    exact k _ hL
end
end Sd


set_option linter.unusedVariables false
namespace Sd
open PySem L2
open C8 (Cal Met Mak pe_c pe_mk pe_mt pe_mt0 pss_cut tCut)
set_option linter.unusedSimpArgs false
set_option pp.deepTerms false
set_option pp.deepTerms.threshold 12
set_option hygiene false
local macro_rules | `(tactic| fail "nd") => `(tactic| first | assumption | decide +kernel)
local macro_rules | `(tactic| fail "ix") => `(tactic| first | exact ⟨0, rfl⟩ | exact ⟨1, rfl⟩ | exact ⟨2, rfl⟩ | exact ⟨3, rfl⟩ | exact ⟨4, rfl⟩ | exact ⟨5, rfl⟩ | exact ⟨6, rfl⟩ | exact ⟨7, rfl⟩ | exact ⟨8, rfl⟩ | exact ⟨9, rfl⟩ | exact ⟨10, rfl⟩ | exact ⟨11, rfl⟩ | exact ⟨12, rfl⟩ | exact ⟨13, rfl⟩ | exact ⟨14, rfl⟩ | exact ⟨15, rfl⟩ | exact ⟨16, rfl⟩ | exact ⟨17, rfl⟩ | exact ⟨18, rfl⟩ | assumption)
local macro_rules | `(tactic| fail "up") => `(tactic| first | exact ⟨0, rfl, rfl⟩ | exact ⟨1, rfl, rfl⟩ | exact ⟨2, rfl, rfl⟩ | exact ⟨3, rfl, rfl⟩ | exact ⟨4, rfl, rfl⟩ | exact ⟨5, rfl, rfl⟩ | exact ⟨6, rfl, rfl⟩ | exact ⟨7, rfl, rfl⟩ | exact ⟨8, rfl, rfl⟩ | exact ⟨9, rfl, rfl⟩ | exact ⟨10, rfl, rfl⟩ | exact ⟨11, rfl, rfl⟩ | exact ⟨12, rfl, rfl⟩ | exact ⟨13, rfl, rfl⟩ | exact ⟨14, rfl, rfl⟩ | exact ⟨15, rfl, rfl⟩ | exact ⟨16, rfl, rfl⟩ | assumption)
local macro_rules | `(tactic| fail "lkF") => `(tactic| first | assumption | exact fz_at 0 (by fail "nd") rfl rfl | exact fz_at 1 (by fail "nd") rfl rfl | exact fz_at 2 (by fail "nd") rfl rfl | exact fz_at 3 (by fail "nd") rfl rfl | exact fz_at 4 (by fail "nd") rfl rfl | exact fz_at 5 (by fail "nd") rfl rfl | exact fz_at 6 (by fail "nd") rfl rfl | exact fz_at 7 (by fail "nd") rfl rfl)
local macro_rules | `(tactic| fail "lkD") => `(tactic| first | assumption | exact dz_at 0 (by fail "nd") rfl rfl | exact dz_at 1 (by fail "nd") rfl rfl | exact dz_at 2 (by fail "nd") rfl rfl | exact dz_at 3 (by fail "nd") rfl rfl | exact dz_at 4 (by fail "nd") rfl rfl)
local macro_rules | `(tactic| fail "ptF") => `(tactic| first | assumption | exact fz_put 0 (by fail "nd") rfl (Nat.le_of_ble_eq_true rfl) | exact fz_put 1 (by fail "nd") rfl (Nat.le_of_ble_eq_true rfl) | exact fz_put 2 (by fail "nd") rfl (Nat.le_of_ble_eq_true rfl) | exact fz_put 3 (by fail "nd") rfl (Nat.le_of_ble_eq_true rfl) | exact fz_put 4 (by fail "nd") rfl (Nat.le_of_ble_eq_true rfl) | exact fz_put 5 (by fail "nd") rfl (Nat.le_of_ble_eq_true rfl) | exact fz_put 6 (by fail "nd") rfl (Nat.le_of_ble_eq_true rfl) | exact fz_put 7 (by fail "nd") rfl (Nat.le_of_ble_eq_true rfl) | exact fz_new (by decide +kernel) rfl)
local macro_rules | `(tactic| fail "ptD") => `(tactic| first | assumption | exact dz_put 0 (by fail "nd") rfl (Nat.le_of_ble_eq_true rfl) | exact dz_put 1 (by fail "nd") rfl (Nat.le_of_ble_eq_true rfl) | exact dz_put 2 (by fail "nd") rfl (Nat.le_of_ble_eq_true rfl) | exact dz_put 3 (by fail "nd") rfl (Nat.le_of_ble_eq_true rfl) | exact dz_put 4 (by fail "nd") rfl (Nat.le_of_ble_eq_true rfl))
local macro_rules | `(tactic| fail "sz") => `(tactic| first | assumption | exact (Nat.le_of_ble_eq_true rfl) | omega | decide)
local macro_rules | `(tactic| fail "sd") => `(tactic| first | rfl | assumption | decide | omega | (dsimp only; first | decide | omega) | exact .inr ⟨by decide, by decide⟩ | exact .inl ⟨by decide, by decide⟩ | exact ⟨by omega, by omega⟩ | exact .inl ⟨by omega, by omega⟩ | exact .inr ⟨by omega, by omega⟩ | exact ⟨by omega, by omega, by omega⟩)
local macro_rules | `(tactic| fail "cl") => `(tactic| (clear hH; dsimp only [List.set, List.cons_append, List.nil_append, List.append] at hL))
local macro_rules | `(tactic| fail "gn") => `(tactic| (intro p hp; generalize hH : upd H p _ = H; replace hL := Led.newH hL hp hH; clear hH hp))
local macro_rules | `(tactic| fail "gup") => `(tactic| (generalize hH : upd H _ _ = H; replace hL := Led.upU hL (by fail "up") hH; fail "cl"))
local macro_rules | `(tactic| fail "gmk") => `(tactic| (intro x dx hx hd ne; generalize hH : upd (upd H dx _) x _ = H; replace hL := Led.made hL hx hd ne hH; clear hH hx hd ne))
local macro_rules | `(tactic| fail "v") => `(tactic| refine ⟨_, rfl, ?_⟩)
local macro_rules | `(tactic| fail "i2") => `(tactic| refine ⟨_, _, rfl, rfl, ?_⟩)
local macro_rules | `(tactic| fail "go1") => `(tactic| first
  | refine ⟨_, rfl, ?_⟩
  | refine ⟨_, _, rfl, rfl, ?_⟩
  | refine ⟨_, _, rfl, ?_⟩
  | refine iteT ?_
  | refine iteF ?_
  | refine k_fld hL (by fail "ix") (by assumption) (by assumption) (by fail "lkF") ?_
  | refine k_dgetS hL (by fail "ix") (by fail "lkD") ?_
  | refine k_dgetI hL (by fail "ix") (by assumption) ?_
  | refine k_ixL hL (by fail "ix") (by first | rfl | assumption) ?_
  | refine k_ixT hL (by fail "ix") (by first | rfl | assumption) ?_
  | refine k_tyL hL (by fail "ix") ?_
  | refine k_isd hL (by fail "ix") ?_
  | (refine And.intro (by fail "sz") ?_; fail "gn")
  | refine And.intro (by fail "sd") ?_
  | fail "gn"
  | refine k_meth hL (by fail "ix") (by first | assumption | exact fz_no (by decide +kernel)) ?_
  | refine k_gtup hL (by fail "ix") rfl ?_
  | (refine k_popI hL (by fail "ix") (by assumption) ?_; fail "gup")
  | (refine k_listD hL (by fail "ix") ?_; fail "gn")
  | (refine ⟨_, _, _, _, rfl, rfl, hL.at (by fail "ix"), rfl, ?_⟩; fail "gup")
  | (refine ⟨_, _, _, rfl, rfl, hL.at (by fail "ix"), (by fail "sz"), ?_⟩; fail "gup")
  | (refine ⟨_, _, _, _, rfl, hL.at (by fail "ix"), by assumption, by assumption, Nat.lt_of_le_of_lt fz_len (by decide), ?_⟩; generalize hH : upd H _ _ = H; replace hL := Led.upF hL (by fail "up") (by fail "ptF") hH; fail "cl")
  | (refine ⟨_, _, hL.at (by fail "ix"), Nat.lt_of_le_of_lt fz_len (by decide), ?_⟩; generalize hH : upd H _ _ = H; replace hL := Led.upF hL (by fail "up") (by fail "ptF") hH; fail "cl")
  | (refine k_dputS hL (by fail "ix") (Nat.lt_of_le_of_lt dz_len (by decide)) (by fail "ptD") (by fail "up") ?_; clear hL; intro H hL; dsimp only [List.set, List.cons_append, List.nil_append, List.append] at hL)
  | refine k_lenL2 hL (by fail "ix") ?_
  | refine k_lenT2 hL (by fail "ix") ?_
  | refine .inl ⟨_, rfl, ?_⟩
  | refine .inr ⟨_, rfl, ?_⟩)
local macro_rules | `(tactic| fail "go") => `(tactic| repeat fail "go1")
local macro_rules | `(tactic| fail "pm") => `(tactic| (refine Led.le hL (fun a_ => ?_); simp only [cnt_nil, cnt_cons, cnt_app, List.map_append, List.map_cons, List.map_nil, List.flatMap_append, List.flatMap_cons, List.flatMap_nil, List.append_assoc, List.cons_append, List.nil_append]; omega))

def spUText (CU : Addr) : Sp := fun vs H Q _ => ∃ (u dx D : Addr) (i : Nat) (k : Int) (z : Str) (bs rest : List Int) (L : Lg), vs = [.ref u] ∧ Led H (uO CU u dx D i k :: L) ∧ (D, tI bs) ∈ L ∧ bs.drop i = natB z.length ++ (signs z ++ rest) ∧ (∀ c ∈ z.cps.toList, goodS c) ∧ z.length ≤ sizeLine ∧
  ∀ H', Led H' (uO CU u dx D (i + ((natB z.length).length + (signs z).length)) k :: L) → Q (.str z) H'
section
variable {P : Program} {w : World} {K : PySem.W.Frag} {mg : Str → Option Value} {base : Heap} {CU : Addr}
theorem scUNat : FnScope ["self", "found", "weight", "one"] ["self"] (defScope sUNat) := ⟨rfl, rfl, rfl, by decide +kernel, rfl, by decide +kernel, by decide +kernel⟩
theorem ok_UNat {f : Addr} {fd : FuncData} (F : Fun K "read_natural" "Unpacker.read_natural" sUNat f fd) (X : TxtU K mg CU) (c_Unpacker_byte : Met P w K mg base 1 CU "byte" (spUByte CU) []) : FnOk P w K mg base CX0 2 f fd ["self"] (spUNat CU) := by
  refine F.ok scUNat (fun vs H Q E h => ?_) (fun cdv A outer s H vs Q E hr h => ?_)
  · obtain ⟨u, dx, D, i, k, n, bs, rest, L, rfl, _⟩ := h
    rfl
  · obtain ⟨u, dx, D, i, kk, n, bs, rest, L, rfl, hL, hD, hb, k⟩ := h
    have c1 := X.cl
    refine ⟨_, (pss_cons (ps_asg (pe_tup (pa_cons pe_int (pa_cons pe_int pa_nil))) (pg_tup (by rfl) (pgs_cons (pg_name (i := 1) scUNat.nd rfl (Or.inl rfl)) (pgs_cons (pg_name (i := 2) scUNat.nd rfl (Or.inl rfl)) pgs_nil))))
  (pss_one (ps_while PassesOwn.never (pt_val pe_bl)
  (pss_cons (ps_set (i := 3) scUNat.nd rfl (Or.inl rfl) (pe_mt0 c_Unpacker_byte hr (by decide) (pv 0)))
  (pss_cons (ps_aug (i := 1) scUNat.nd rfl (Or.inl rfl) (pe_op op_mul (pe_op op_mod (pv 3) pe_int) (pv 2)) ip_add)
  (pss_cons (ps_aug (i := 2) scUNat.nd rfl (Or.inl rfl) pe_int iop_mul)
  (pss_one (ps_if (pt_cmpR op_lt (pv 3) pe_int (nomark _))
  (pss_cons (ps_if (PW.pt (pw_and (pt_cmpR op_eq (pv 3) pe_int (nomark _)) (pw_and1 (pt_cmpR op_gt (pv 2) pe_int (nomark _)))))
  pss_never
  pss_nil)
  (pss_one (ps_ret (pv 1))))
  pss_nil)))))))), ?_⟩
    fail "go"
    replace hL := hL.tail
    refine ⟨fun m σ H => Hold (∃ (v3 : Option V) (a wt : Nat) (i' : Nat) , σ = [some (.ref u), some (.int a), some (.int wt), v3] ∧ a + wt * m = n ∧ (wt = 1 ∨ (128 ≤ wt ∧ 1 ≤ m)) ∧ bs.drop i' = natB m ++ rest ∧ i' + (natB m).length = i + (natB n).length ∧ Led H (uO CU u dx D i' kk :: L)), ⟨n, .mk ⟨none, 0, 1, i, rfl, by omega, .inl rfl, hb, rfl, hL⟩⟩, fun m σ H h => ?_⟩
    clear hL
    obtain ⟨v3, a, wt, i', rfl, ha, hw, hb, hi, hL⟩ := h.out
    clear h
    fail "go"
    refine ⟨fun σ' H' => Hold (128 ≤ m ∧ ∃ (v3 : Option V) (a wt : Nat) (i' : Nat) , σ' = [some (.ref u), some (.int a), some (.int wt), v3] ∧ a + wt * (m / 128) = n ∧ (wt = 1 ∨ (128 ≤ wt ∧ 1 ≤ m / 128)) ∧ bs.drop i' = natB (m / 128) ++ rest ∧ i' + (natB (m / 128)).length = i + (natB n).length ∧ Led H' (uO CU u dx D i' kk :: L)), fun σ' H' h => ⟨m / 128, by have := h.out.1; omega, .mk h.out.2⟩, ?_⟩
    refine ⟨_, rfl, u, dx, _, rfl, hL.at ⟨0, rfl⟩, fz_no (by decide +kernel), ?_⟩
    by_cases hm : m < 128
    · rw [natB_lo hm] at hb hi
      obtain ⟨hb1, hb2⟩ := drop_get hb
      refine ⟨u, dx, D, i', kk, m, bs, L, rfl, hL, hD, hb1, fun H hL => ?_⟩
      fail "go"
      refine ite_d (fun _ => ?_) (fun q => absurd q (by omega))
      fail "go"
      have e1 : (a : Int) + (m : Int) % 128 * (wt : Int) = n := by
        rw [Int.emod_eq_of_lt (by omega) (by omega), Int.mul_comm, ← ha]
        push_cast
        rfl
      have hfin : Led H (uO CU u dx D (i + (natB n).length) kk :: L) := by rw [← hi]; exact hL
      refine ite_d (fun q => ?_) (fun q => ?_)
      · have q := V.int.inj q
        have : wt = 1 := by omega
        subst this
        fail "go"
        rw [← e1] at k
        exact k _ hfin
      · fail "go"
        rw [← e1] at k
        exact k _ hfin
    · rw [natB_hi hm] at hb hi
      obtain ⟨hb1, hb2⟩ := drop_get hb
      refine ⟨u, dx, D, i', kk, _, bs, L, rfl, hL, hD, hb1, fun H hL => ?_⟩
      fail "go"
      refine ite_d (fun q => absurd q (by omega)) (fun q => ?_)
      fail "go"
      refine .mk ⟨by omega, some (.int ((128 + m % 128 : Nat) : Int)), a + m % 128 * wt, wt * 128, i' + 1, ?_, ?_, ?_, hb2, ?_, hL⟩
      · have e1 : (((128 + m % 128 : Nat) : Int)) % 128 = (m % 128 : Nat) := by omega
        dsimp only [List.set]
        rw [e1]
        rfl
      · have := Nat.div_add_mod m 128
        rw [← ha]
        calc a + m % 128 * wt + wt * 128 * (m / 128) = a + wt * (128 * (m / 128) + m % 128) := by rw [Nat.mul_add, ← Nat.mul_assoc, Nat.mul_comm (m % 128) wt]; omega
          _ = a + wt * m := by rw [this]
      · right
        omega
      · rw [List.length_cons] at hi; omega
theorem scUText : FnScope ["self", "many", "found", "step", "number"] ["self"] (defScope sUText) := ⟨rfl, rfl, rfl, by decide +kernel, rfl, by decide +kernel, by decide +kernel⟩
theorem ok_UText {f : Addr} {fd : FuncData} (F : Fun K "text" "Unpacker.text" sUText f fd) (X : TxtU K mg CU) (T : TxtW mg) (c_Unpacker_byte : Met P w K mg base 1 CU "byte" (spUByte CU) []) (c_Unpacker_read_natural : Met P w K mg base 2 CU "read_natural" (spUNat CU) []) : FnOk P w K mg base CX0 3 f fd ["self"] (spUText CU) := by
  refine F.ok scUText (fun vs H Q E h => ?_) (fun cdv A outer s H vs Q E hr h => ?_)
  · obtain ⟨u, dx, D, i, k, z, bs, rest, L, rfl, _⟩ := h
    rfl
  · obtain ⟨u, dx, D, i, kk, z, bs, rest, L, rfl, hL, hD, hb, hg, hz, k⟩ := h
    have c1 := X.cl
    have f1 := X.n "data" (by decide +kernel)
    refine ⟨_, (pss_cons (ps_set (i := 1) scUText.nd rfl (Or.inl rfl) (pe_mt0 c_Unpacker_read_natural hr (by decide) (pv 0)))
  (pss_cons (ps_if (pt_cmpR op_gt (pv 1) (pe_callB call_len_seq (by rfl) T.len (by decide +kernel) (pa_cons (pe_fld (pv 0) rfl) pa_nil)) (nomark _))
  pss_never
  pss_nil)
  (pss_cons (ps_set (i := 2) scUText.nd rfl (Or.inl rfl) pe_str)
  (pss_cons (ps_for PassesOwn.never rfl (pi_range1 (by rfl) T.range (pa_cons (pv 1) pa_nil)) (pg_name (i := 3) scUText.nd rfl (Or.inl rfl))
  (pss_cons (ps_set (i := 4) scUText.nd rfl (Or.inl rfl) (pe_mt0 c_Unpacker_byte hr (by decide) (pv 0)))
  (pss_cons (ps_if (pt_cmpR op_ge (pv 4) (pe_callB call_len_str (by rfl) T.len (by decide +kernel) (pa_cons (C8.pe_gc (by rfl) T.g_SIGNS) pa_nil)) (nomark _))
  pss_never
  pss_nil)
  (pss_one (ps_aug (i := 2) scUText.nd rfl (Or.inl rfl) (pe_ix ix_str (C8.pe_gc (by rfl) T.g_SIGNS) (pv 4) (fun _ _ => rfl)) iop_add_str)))))
  (pss_one (ps_ret (pv 2))))))), ?_⟩
    fail "go"
    have hsz : (signs z).length = z.length := by unfold signs; rw [List.length_map, Array.length_toList]; rfl
    refine ⟨u, dx, D, i, kk, z.length, bs, _, L, rfl, hL, hD, hb, fun H hL => ?_⟩
    fail "go"
    dsimp only [uO] at hL
    fail "go"
    refine ⟨D, _, rfl, .inr (.of (hL.tail.mem hD)), ?_⟩
    fail "go"
    have hlen := congrArg List.length hb
    rw [List.length_drop, List.length_append, List.length_append, hsz] at hlen
    refine ite_d (fun q => absurd q (by rw [List.length_map]; omega)) fun _ => ?_
    fail "go"
    refine ⟨Int.lt_of_le_of_lt (Int.ofNat_le.mpr hz) (by decide), ?_⟩
    refine for_rangeA (lo := 0) (n := (z.length : Int).toNat) (fun j σ H => Hold (∃ (v3 v4 : Option V), σ = [some (.ref u), some (.int z.length), some (.str ⟨(z.cps.toList.take j).toArray⟩), v3, v4] ∧ Led H (uO CU u dx D (i + (natB z.length).length + j) kk :: L))) (.mk ⟨_, _, rfl, hL⟩) (fun j σ H D1 hj h hD1 => ?_) (fun σ H h => ?_)
    · clear hL
      obtain ⟨v3, v4, rfl, hL⟩ := h.out
      clear h
      rw [Int.toNat_natCast] at hj
      have hzc : z.cps.size = z.length := rfl
      have hc : z.cps.toList[j]? = some z.cps[j] := by rw [Array.getElem?_toList]; exact Array.getElem?_eq_getElem (by omega)
      obtain ⟨g1, g2⟩ := hg _ (List.mem_of_getElem? hc)
      have hb2 : bs[i + (natB z.length).length + j]? = some (Txt.find SIGNS ⟨#[z.cps[j]]⟩) := by
        have : bs[i + (natB z.length).length + j]? = (bs.drop i)[(natB z.length).length + j]? := by rw [List.getElem?_drop, Nat.add_assoc]
        rw [this, hb, List.getElem?_append_right (by omega), Nat.add_sub_cancel_left, List.getElem?_append_left (by omega)]
        unfold signs
        rw [List.getElem?_map, hc]
        rfl
      refine ⟨_, rfl, u, dx, _, rfl, hL.at ⟨0, rfl⟩, fz_no (by decide +kernel), ?_⟩
      refine ⟨u, dx, D, _, kk, _, bs, L, rfl, hL, hD, hb2, fun H hL => ?_⟩
      fail "go"
      obtain ⟨g3, _⟩ := Array.getElem?_eq_some_iff.mp g2
      have g4 : SIGNS.cps.size = SIGNS.length := rfl
      refine ite_d (fun q => absurd q (by omega)) fun _ => ?_
      fail "go"
      refine ⟨SIGNS, _, z.cps[j], rfl, rfl, by decide, ?_, ?_⟩
      · obtain ⟨fn, hfn⟩ : ∃ fn : Nat, Txt.find SIGNS ⟨#[z.cps[j]]⟩ = fn := ⟨_, (Int.toNat_of_nonneg g1).symm⟩
        rw [hfn] at g2 ⊢
        exact atI_nat (by rw [Array.getElem?_toList]; exact g2)
      · refine ⟨_, _, rfl, rfl, ?_, hD1.nx _ _ (.mk ⟨some (.int (0 + j)), some (.int (Txt.find SIGNS ⟨#[z.cps[j]]⟩)), ?_, hL⟩)⟩
        · have h1 : (⟨(z.cps.toList.take j).toArray⟩ : Str).length = j := by
            show (z.cps.toList.take j).toArray.size = j
            rw [List.size_toArray, List.length_take, Array.length_toList]
            omega
          have h2 : (⟨#[z.cps[j]]⟩ : Str).length = 1 := rfl
          rw [h1, h2]
          omega
        · have h1 : (⟨(z.cps.toList.take j).toArray⟩ : Str) ++ (⟨#[z.cps[j]]⟩ : Str) = ⟨(z.cps.toList.take (j + 1)).toArray⟩ := by
            rw [List.take_add_one, hc]
            show (⟨(z.cps.toList.take j).toArray ++ #[z.cps[j]]⟩ : Str) = _
            simp
          rw [h1]
          rfl
    · obtain ⟨v3, v4, rfl, hL⟩ := h.out
      clear h
      rw [Int.toNat_natCast] at hL
      fail "go"
      have e1 : (⟨(z.cps.toList.take (z.length : Int).toNat).toArray⟩ : Str) = z := by
        rw [Int.toNat_natCast, List.take_of_length_le (by rw [Array.length_toList]; exact Nat.le_refl _), Array.toArray_toList]
      rw [e1]
      refine k _ ?_
      rw [hsz, ← Nat.add_assoc]
      exact hL
end
end Sd


set_option linter.unusedVariables false
namespace Sd
open PySem L2
open C8 (Cal Met Mak pe_c pe_mk pe_mt pe_mt0 pss_cut tCut)
set_option linter.unusedSimpArgs false
set_option pp.deepTerms false
set_option pp.deepTerms.threshold 12
set_option hygiene false
local macro_rules | `(tactic| fail "nd") => `(tactic| first | assumption | decide +kernel)
local macro_rules | `(tactic| fail "ix") => `(tactic| first | exact ⟨0, rfl⟩ | exact ⟨1, rfl⟩ | exact ⟨2, rfl⟩ | exact ⟨3, rfl⟩ | exact ⟨4, rfl⟩ | exact ⟨5, rfl⟩ | exact ⟨6, rfl⟩ | exact ⟨7, rfl⟩ | exact ⟨8, rfl⟩ | exact ⟨9, rfl⟩ | exact ⟨10, rfl⟩ | exact ⟨11, rfl⟩ | exact ⟨12, rfl⟩ | exact ⟨13, rfl⟩ | exact ⟨14, rfl⟩ | exact ⟨15, rfl⟩ | exact ⟨16, rfl⟩ | exact ⟨17, rfl⟩ | exact ⟨18, rfl⟩ | assumption)
local macro_rules | `(tactic| fail "up") => `(tactic| first | exact ⟨0, rfl, rfl⟩ | exact ⟨1, rfl, rfl⟩ | exact ⟨2, rfl, rfl⟩ | exact ⟨3, rfl, rfl⟩ | exact ⟨4, rfl, rfl⟩ | exact ⟨5, rfl, rfl⟩ | exact ⟨6, rfl, rfl⟩ | exact ⟨7, rfl, rfl⟩ | exact ⟨8, rfl, rfl⟩ | exact ⟨9, rfl, rfl⟩ | exact ⟨10, rfl, rfl⟩ | exact ⟨11, rfl, rfl⟩ | exact ⟨12, rfl, rfl⟩ | exact ⟨13, rfl, rfl⟩ | exact ⟨14, rfl, rfl⟩ | exact ⟨15, rfl, rfl⟩ | exact ⟨16, rfl, rfl⟩ | assumption)
local macro_rules | `(tactic| fail "lkF") => `(tactic| first | assumption | exact fz_at 0 (by fail "nd") rfl rfl | exact fz_at 1 (by fail "nd") rfl rfl | exact fz_at 2 (by fail "nd") rfl rfl | exact fz_at 3 (by fail "nd") rfl rfl | exact fz_at 4 (by fail "nd") rfl rfl | exact fz_at 5 (by fail "nd") rfl rfl | exact fz_at 6 (by fail "nd") rfl rfl | exact fz_at 7 (by fail "nd") rfl rfl)
local macro_rules | `(tactic| fail "lkD") => `(tactic| first | assumption | exact dz_at 0 (by fail "nd") rfl rfl | exact dz_at 1 (by fail "nd") rfl rfl | exact dz_at 2 (by fail "nd") rfl rfl | exact dz_at 3 (by fail "nd") rfl rfl | exact dz_at 4 (by fail "nd") rfl rfl)
local macro_rules | `(tactic| fail "ptF") => `(tactic| first | assumption | exact fz_put 0 (by fail "nd") rfl (Nat.le_of_ble_eq_true rfl) | exact fz_put 1 (by fail "nd") rfl (Nat.le_of_ble_eq_true rfl) | exact fz_put 2 (by fail "nd") rfl (Nat.le_of_ble_eq_true rfl) | exact fz_put 3 (by fail "nd") rfl (Nat.le_of_ble_eq_true rfl) | exact fz_put 4 (by fail "nd") rfl (Nat.le_of_ble_eq_true rfl) | exact fz_put 5 (by fail "nd") rfl (Nat.le_of_ble_eq_true rfl) | exact fz_put 6 (by fail "nd") rfl (Nat.le_of_ble_eq_true rfl) | exact fz_put 7 (by fail "nd") rfl (Nat.le_of_ble_eq_true rfl) | exact fz_new (by decide +kernel) rfl)
local macro_rules | `(tactic| fail "ptD") => `(tactic| first | assumption | exact dz_put 0 (by fail "nd") rfl (Nat.le_of_ble_eq_true rfl) | exact dz_put 1 (by fail "nd") rfl (Nat.le_of_ble_eq_true rfl) | exact dz_put 2 (by fail "nd") rfl (Nat.le_of_ble_eq_true rfl) | exact dz_put 3 (by fail "nd") rfl (Nat.le_of_ble_eq_true rfl) | exact dz_put 4 (by fail "nd") rfl (Nat.le_of_ble_eq_true rfl))
local macro_rules | `(tactic| fail "sz") => `(tactic| first | assumption | exact (Nat.le_of_ble_eq_true rfl) | omega | decide)
local macro_rules | `(tactic| fail "sd") => `(tactic| first | rfl | assumption | decide | omega | (dsimp only; first | decide | omega) | exact .inr ⟨by decide, by decide⟩ | exact .inl ⟨by decide, by decide⟩ | exact ⟨by omega, by omega⟩ | exact .inl ⟨by omega, by omega⟩ | exact .inr ⟨by omega, by omega⟩ | exact ⟨by omega, by omega, by omega⟩)
local macro_rules | `(tactic| fail "cl") => `(tactic| (clear hH; dsimp only [List.set, List.cons_append, List.nil_append, List.append] at hL))
local macro_rules | `(tactic| fail "gn") => `(tactic| (intro p hp; generalize hH : upd H p _ = H; replace hL := Led.newH hL hp hH; clear hH hp))
local macro_rules | `(tactic| fail "gup") => `(tactic| (generalize hH : upd H _ _ = H; replace hL := Led.upU hL (by fail "up") hH; fail "cl"))
local macro_rules | `(tactic| fail "gmk") => `(tactic| (intro x dx hx hd ne; generalize hH : upd (upd H dx _) x _ = H; replace hL := Led.made hL hx hd ne hH; clear hH hx hd ne))
local macro_rules | `(tactic| fail "v") => `(tactic| refine ⟨_, rfl, ?_⟩)
local macro_rules | `(tactic| fail "i2") => `(tactic| refine ⟨_, _, rfl, rfl, ?_⟩)
local macro_rules | `(tactic| fail "go1") => `(tactic| first
  | refine ⟨_, rfl, ?_⟩
  | refine ⟨_, _, rfl, rfl, ?_⟩
  | refine ⟨_, _, rfl, ?_⟩
  | refine iteT ?_
  | refine iteF ?_
  | refine k_fld hL (by fail "ix") (by assumption) (by assumption) (by fail "lkF") ?_
  | refine k_dgetS hL (by fail "ix") (by fail "lkD") ?_
  | refine k_dgetI hL (by fail "ix") (by assumption) ?_
  | refine k_ixL hL (by fail "ix") (by first | rfl | assumption) ?_
  | refine k_ixT hL (by fail "ix") (by first | rfl | assumption) ?_
  | refine k_tyL hL (by fail "ix") ?_
  | refine k_isd hL (by fail "ix") ?_
  | (refine And.intro (by fail "sz") ?_; fail "gn")
  | refine And.intro (by fail "sd") ?_
  | fail "gn"
  | refine k_meth hL (by fail "ix") (by first | assumption | exact fz_no (by decide +kernel)) ?_
  | refine k_gtup hL (by fail "ix") rfl ?_
  | (refine k_popI hL (by fail "ix") (by assumption) ?_; fail "gup")
  | (refine k_listD hL (by fail "ix") ?_; fail "gn")
  | (refine ⟨_, _, _, _, rfl, rfl, hL.at (by fail "ix"), rfl, ?_⟩; fail "gup")
  | (refine ⟨_, _, _, rfl, rfl, hL.at (by fail "ix"), (by fail "sz"), ?_⟩; fail "gup")
  | (refine ⟨_, _, _, _, rfl, hL.at (by fail "ix"), by assumption, by assumption, Nat.lt_of_le_of_lt fz_len (by decide), ?_⟩; generalize hH : upd H _ _ = H; replace hL := Led.upF hL (by fail "up") (by fail "ptF") hH; fail "cl")
  | (refine ⟨_, _, hL.at (by fail "ix"), Nat.lt_of_le_of_lt fz_len (by decide), ?_⟩; generalize hH : upd H _ _ = H; replace hL := Led.upF hL (by fail "up") (by fail "ptF") hH; fail "cl")
  | (refine k_dputS hL (by fail "ix") (Nat.lt_of_le_of_lt dz_len (by decide)) (by fail "ptD") (by fail "up") ?_; clear hL; intro H hL; dsimp only [List.set, List.cons_append, List.nil_append, List.append] at hL)
  | refine k_lenL2 hL (by fail "ix") ?_
  | refine k_lenT2 hL (by fail "ix") ?_
  | refine .inl ⟨_, rfl, ?_⟩
  | refine .inr ⟨_, rfl, ?_⟩)
local macro_rules | `(tactic| fail "go") => `(tactic| repeat fail "go1")
local macro_rules | `(tactic| fail "pm") => `(tactic| (refine Led.le hL (fun a_ => ?_); simp only [cnt_nil, cnt_cons, cnt_app, List.map_append, List.map_cons, List.map_nil, List.flatMap_append, List.flatMap_cons, List.flatMap_nil, List.append_assoc, List.cons_append, List.nil_append]; omega))

def spUVal (CU PU : Addr) (n : Nat) : Sp := fun vs H Q _ => ∃ (u dx D : Addr) (i : Nat) (k : Int) (d : Dv) (bs rest : List Int) (ps : Array Value) (L : Lg), vs = [.ref u] ∧ Led H (uO CU u dx D i k :: (PU, .tbl ps) :: L) ∧ TriplesOk ps.toList ∧ (D, tI bs) ∈ L ∧ bs.drop i = packB d ++ rest ∧
  deep d < n ∧ 0 ≤ k ∧ k + deep d ≤ 30 ∧ sendable d ∧ (packB d).length ≤ sizeLine ∧ ∀ (v : V) (Z : Lg) (ps' : Array Value) H', TriplesOk ps'.toList → DF Z v d → Led H' (uO CU u dx D (i + (packB d).length) k :: (PU, .tbl ps') :: (Z ++ L)) → Q v H'
theorem packsB_len {ds : List Dv} : ds.length ≤ (packsB ds).length := by
  induction ds with
  | nil => exact Nat.le_refl _
  | cons d r ih =>
    rw [packsB, List.length_cons, List.length_append]
    have := List.length_pos_iff.mpr (packB_ne (d := d))
    omega
theorem packsB_at {ds : List Dv} {i : Nat} {d : Dv} (h : ds[i]? = some d) : packsB ds = packsB (ds.take i) ++ (packB d ++ packsB (ds.drop (i + 1))) := by
  induction ds generalizing i with
  | nil => simp at h
  | cons e r ih =>
    cases i with
    | zero =>
      rw [List.getElem?_cons_zero] at h
      cases h
      simp [packsB]
    | succ i =>
      rw [List.getElem?_cons_succ] at h
      rw [List.take_succ_cons, List.drop_succ_cons, packsB, packsB, ih h, List.append_assoc]
theorem DLs.snoc {T : List V → HO → Prop} {L : Lg} {v : V} {d : Dv} (h : DLp T L v d) : ∀ {xs : List V} {ds : List Dv}, DLps T L xs ds → DLps T L (xs ++ [v]) (ds ++ [d])
  | _, _, .nil => .cons h .nil
  | _, _, .cons a b => .cons a (DLs.snoc h b)
section
variable {P : Program} {w : World} {K : PySem.W.Frag} {mg : Str → Option Value} {base : Heap} {CU : Addr}
theorem scUVal : FnScope ["self", "mark", "many", "found", "step"] ["self"] (defScope sUVal) := ⟨rfl, rfl, rfl, by decide +kernel, rfl, by decide +kernel, by decide +kernel⟩
theorem ok_UVal {f c PU : Addr} {oc dV : Value} {od : Option Addr} {osl : Array (Option Value)} {kV doc pm ct : Value} {an : Option Addr}
    (lk : K.lookup f = some ⟨oc, od, .func (PySem.W.fnOf "read_value" "Unpacker.read_value" (defArgs sUVal) (defBody sUVal) (defScope sUVal) dV kV doc pm an (.ref c) ct), osl⟩) (hcd : PySem.W.codeIn K (.ref c) "Unpacker.read_value" = true) (TB : GxR.TabB base mg c PU) (X : TxtU K mg CU) (T : TxtW mg)
    (me : Meth K CU "read_value" f) (b : Binds K (PySem.W.fnOf "read_value" "Unpacker.read_value" (defArgs sUVal) (defBody sUVal) (defScope sUVal) dV kV doc pm an (.ref c) ct) ["self"] [])
    (c_Unpacker_byte : Met P w K mg base 1 CU "byte" (spUByte CU) []) (c_Unpacker_read_natural : Met P w K mg base 2 CU "read_natural" (spUNat CU) []) (c_Unpacker_text : Met P w K mg base 3 CU "text" (spUText CU) []) (n : Nat) :
    FnOk P w K mg base CX0 (4 + 5 * n) f (PySem.W.fnOf "read_value" "Unpacker.read_value" (defArgs sUVal) (defBody sUVal) (defScope sUVal) dV kV doc pm an (.ref c) ct) ["self"] (spUVal CU PU n) := by
  induction n with
  | zero => exact no_ok fun vs H Q E ⟨_, _, _, _, _, _, _, _, _, _, _, _, _, _, _, h, _⟩ => absurd h (Nat.not_lt_zero _)
  | succ n ih =>
    have c_Unpacker_read_value : Met P w K mg base (4 + 5 * n) CU "read_value" (spUVal CU PU n) [] := ⟨_, _, _, [], X.cl, me, ih, b, .nil⟩
    have e9 : 4 + 5 * (n + 1) = (8 + 5 * n) + 1 := by omega
    rw [e9]
    refine fn_of lk hcd scUVal (fun vs H Q E h => ?_) fun A outer s H vs Q E hr h => ?_
    · obtain ⟨u, dx, D, i, k, d, bs, rest, ps, L, rfl, _⟩ := h
      rfl
    · obtain ⟨u, dx, D, i, kk, d, bs, rest, ps, L, rfl, hL, ht, hD, hb, hn, h0, h30, hs, hz, k⟩ := h
      have c1 := X.cl
      have f1 := X.n "data" (by decide +kernel)
      have f3 := X.n "nesting" (by decide +kernel)
      replace hr : Room (8 + 5 * n) _ := hr
      have hr1 : Room ((4 + 5 * n) + 1) _ := hr.mono (by omega)
      have hr5 : Room ((4 + 5 * n) + 1 + 3) _ := hr.mono (by omega)
      refine ⟨_, ((pss_cons (ps_set (i := 1) scUVal.nd rfl (Or.inl rfl) (pe_mt0 c_Unpacker_byte hr (by omega) (pv 0)))
  (pss_cons (ps_if (pt_cmpR op_gt (pe_fld (pv 0) rfl) (C8.pe_gc (by rfl) T.g_MOST_DEEP) (nomark _))
  pss_never
  pss_nil)
  (pss_cons (ps_if (pt_cmpR op_in_seq (pv 1) (pe_tup (pa_cons (C8.pe_gc (by rfl) T.g_NONE) (pa_cons (C8.pe_gc (by rfl) T.g_TRUE) (pa_cons (C8.pe_gc (by rfl) T.g_FALSE) pa_nil)))) (by rfl))
  (pss_one (ps_ret (pe_dget (hu_of hr) (pe_disp (pps_cons (C8.pe_gc (by rfl) T.g_NONE) pe_non (pps_cons (C8.pe_gc (by rfl) T.g_TRUE) pe_bl (pps_cons (C8.pe_gc (by rfl) T.g_FALSE) pe_bl pps_nil))) (by rfl) (by rfl) (fun z => by cases z) (by decide)) (pv 1) (fun _ _ => rfl))))
  pss_nil)
  (pss_cons (ps_if (pt_cmpR op_eq (pv 1) (C8.pe_gc (by rfl) T.g_NUMBER) (nomark _))
  (pss_one (ps_ret (pe_mt0 c_Unpacker_read_natural hr (by omega) (pv 0))))
  pss_nil)
  (pss_cons (ps_if (pt_cmpR op_eq (pv 1) (C8.pe_gc (by rfl) T.g_BELOW) (nomark _))
  (pss_one (ps_ret (pe_op op_sub (pe_op op_sub pe_int (pe_mt0 c_Unpacker_read_natural hr (by omega) (pv 0))) pe_int)))
  pss_nil)
  (pss_cons (ps_if (pt_cmpR op_eq (pv 1) (C8.pe_gc (by rfl) T.g_TEXT) (nomark _))
  (pss_one (ps_ret (pe_mt0 c_Unpacker_text hr (by omega) (pv 0))))
  pss_nil)
  (pss_cons (ps_if (pt_cmpR op_ne (pv 1) (C8.pe_gc (by rfl) T.g_ROW) (nomark _))
  pss_never
  pss_nil)
  (pss_cons (ps_fldaug (pv 0) pe_int in_add)
  (pss_cons (ps_set (i := 2) scUVal.nd rfl (Or.inl rfl) (pe_mt0 c_Unpacker_read_natural hr (by omega) (pv 0)))
  (pss_cons (ps_if (pt_cmpR op_gt (pv 2) (pe_callB call_len_seq (by rfl) T.len (by decide +kernel) (pa_cons (pe_fld (pv 0) rfl) pa_nil)) (nomark _))
  pss_never
  pss_nil)
  (pss_cons (ps_set (i := 3) scUVal.nd rfl (Or.inl rfl) (Gx.pe_tupleF (Gx.pgen_gx (own := [("step", 4)]) (g := gName 4) hr1 TB rfl scUVal.nd (pi_range1 (by rfl) T.range (pa_cons (pv 2) pa_nil)) (Gx.gxOk_by (own := [("step", 4)]) (N := ["self", "mark", "many", "found", "step"]) (sc := (defScope sUVal)) (by decide +kernel)) (fun _ _ _ _ _ _ _ _ _ => (pg_name (i := 4) scUVal.nd rfl (Or.inl rfl))) (fun _ _ _ _ _ _ _ _ hr => pts_nil) (fun _ _ _ _ _ _ _ _ hr => (pe_mt0 c_Unpacker_read_value hr (by omega) (pv 0))) (fun _ => rfl)) hr5 (by rfl) T.tuple))
  (pss_cons (ps_fldaug (pv 0) pe_int in_sub)
  (pss_one (ps_ret (pv 3)))))))))))))))).nox, ?_⟩
      fail "go"
      cases d with
      | non =>
        unfold packB at hb k
        obtain ⟨hb1, hb2⟩ := drop_get hb
        refine ⟨u, dx, D, i, kk, _, bs, _, rfl, hL, .tail _ hD, hb1, fun H hL => ?_⟩
        fail "go"
        dsimp only [uO] at hL
        fail "go"
        refine ite_d (fun q => absurd q (by omega)) fun _ => ?_
        fail "go"
        refine ⟨p, _, rfl, .inr (.of (hL.at ⟨0, rfl⟩)), rfl, rfl, ?_⟩
        refine ⟨true, by decide, ?_⟩
        fail "go"
        refine (show H p = some (.dK []) ∧ _ from ⟨hL.at ⟨0, rfl⟩, [(.inl 1, .non), (.inl 2, .bl true), (.inl 3, .bl false)], rfl, by decide, ?_⟩)
        generalize hH : upd H p _ = H
        replace hL := hL.upU (o' := .dK [(.inl 1, .non), (.inl 2, .bl true), (.inl 3, .bl false)]) ⟨0, rfl, rfl⟩ hH
        clear hH
        dsimp only [List.set] at hL
        refine ⟨_, rfl, ?_⟩
        refine k_dgetI (n := 1) hL ⟨0, rfl⟩ (v := .non) rfl ?_
        exact k _ [] ps _ ht .non (hL.sub (.cons _ (.cons _ (.refl _))))
      | bl bb =>
        cases bb with
        | true =>
          unfold packB at hb k
          obtain ⟨hb1, hb2⟩ := drop_get hb
          refine ⟨u, dx, D, i, kk, _, bs, _, rfl, hL, .tail _ hD, hb1, fun H hL => ?_⟩
          fail "go"
          dsimp only [uO] at hL
          fail "go"
          refine ite_d (fun q => absurd q (by omega)) fun _ => ?_
          fail "go"
          refine ⟨p, _, rfl, .inr (.of (hL.at ⟨0, rfl⟩)), rfl, rfl, ?_⟩
          refine ⟨true, by decide, ?_⟩
          fail "go"
          refine (show H p = some (.dK []) ∧ _ from ⟨hL.at ⟨0, rfl⟩, [(.inl 1, .non), (.inl 2, .bl true), (.inl 3, .bl false)], rfl, by decide, ?_⟩)
          generalize hH : upd H p _ = H
          replace hL := hL.upU (o' := .dK [(.inl 1, .non), (.inl 2, .bl true), (.inl 3, .bl false)]) ⟨0, rfl, rfl⟩ hH
          clear hH
          dsimp only [List.set] at hL
          refine ⟨_, rfl, ?_⟩
          refine k_dgetI (n := 2) hL ⟨0, rfl⟩ (v := .bl true) rfl ?_
          exact k _ [] ps _ ht (.bl true) (hL.sub (.cons _ (.cons _ (.refl _))))
        | false =>
          unfold packB at hb k
          obtain ⟨hb1, hb2⟩ := drop_get hb
          refine ⟨u, dx, D, i, kk, _, bs, _, rfl, hL, .tail _ hD, hb1, fun H hL => ?_⟩
          fail "go"
          dsimp only [uO] at hL
          fail "go"
          refine ite_d (fun q => absurd q (by omega)) fun _ => ?_
          fail "go"
          refine ⟨p, _, rfl, .inr (.of (hL.at ⟨0, rfl⟩)), rfl, rfl, ?_⟩
          refine ⟨true, by decide, ?_⟩
          fail "go"
          refine (show H p = some (.dK []) ∧ _ from ⟨hL.at ⟨0, rfl⟩, [(.inl 1, .non), (.inl 2, .bl true), (.inl 3, .bl false)], rfl, by decide, ?_⟩)
          generalize hH : upd H p _ = H
          replace hL := hL.upU (o' := .dK [(.inl 1, .non), (.inl 2, .bl true), (.inl 3, .bl false)]) ⟨0, rfl, rfl⟩ hH
          clear hH
          dsimp only [List.set] at hL
          refine ⟨_, rfl, ?_⟩
          refine k_dgetI (n := 3) hL ⟨0, rfl⟩ (v := .bl false) rfl ?_
          exact k _ [] ps _ ht (.bl false) (hL.sub (.cons _ (.cons _ (.refl _))))
      | int j =>
        unfold packB at hb k
        by_cases hj : 0 ≤ j
        · rw [if_pos hj] at hb
          rw [if_pos hj] at k
          obtain ⟨hb1, hb2⟩ := drop_get hb
          refine ⟨u, dx, D, i, kk, _, bs, _, rfl, hL, .tail _ hD, hb1, fun H hL => ?_⟩
          fail "go"
          dsimp only [uO] at hL
          fail "go"
          refine ite_d (fun q => absurd q (by omega)) fun _ => ?_
          fail "go"
          refine ⟨p, _, rfl, .inr (.of (hL.at ⟨0, rfl⟩)), rfl, rfl, ?_⟩
          refine ⟨false, by decide, ?_⟩
          fail "go"
          refine ⟨u, dx, D, i + 1, kk, j.toNat, bs, rest, _, rfl, hL.tail, .tail _ hD, hb2, fun H hL => ?_⟩
          have e1 : ((j.toNat : Nat) : Int) = j := Int.toNat_of_nonneg hj
          rw [e1]
          refine k _ [] ps _ ht (.int j) ?_
          rw [List.length_cons, Nat.add_comm _ 1, ← Nat.add_assoc]
          exact hL
        · rw [if_neg hj] at hb
          rw [if_neg hj] at k
          obtain ⟨hb1, hb2⟩ := drop_get hb
          refine ⟨u, dx, D, i, kk, _, bs, _, rfl, hL, .tail _ hD, hb1, fun H hL => ?_⟩
          fail "go"
          dsimp only [uO] at hL
          fail "go"
          refine ite_d (fun q => absurd q (by omega)) fun _ => ?_
          fail "go"
          refine ⟨p, _, rfl, .inr (.of (hL.at ⟨0, rfl⟩)), rfl, rfl, ?_⟩
          refine ⟨false, by decide, ?_⟩
          fail "go"
          refine ⟨u, dx, D, i + 1, kk, (0 - j - 1).toNat, bs, rest, _, rfl, hL.tail, .tail _ hD, hb2, fun H hL => ?_⟩
          fail "go"
          have e1 : 0 - (((0 - j - 1).toNat : Nat) : Int) - 1 = j := by omega
          have q : Q (.int (0 - (((0 - j - 1).toNat : Nat) : Int) - 1)) H := by
            rw [e1]
            refine k _ [] ps _ ht (.int j) ?_
            rw [List.length_cons, Nat.add_comm _ 1, ← Nat.add_assoc]
            exact hL
          exact q
      | str z =>
        have hsz : (signs z).length = z.length := by unfold signs; rw [List.length_map, Array.length_toList]; rfl
        unfold packB at hb k hz
        unfold sendable at hs
        obtain ⟨hb1, hb2⟩ := drop_get hb
        refine ⟨u, dx, D, i, kk, _, bs, _, rfl, hL, .tail _ hD, hb1, fun H hL => ?_⟩
        fail "go"
        dsimp only [uO] at hL
        fail "go"
        refine ite_d (fun q => absurd q (by omega)) fun _ => ?_
        fail "go"
        refine ⟨p, _, rfl, .inr (.of (hL.at ⟨0, rfl⟩)), rfl, rfl, ?_⟩
        refine ⟨false, by decide, ?_⟩
        fail "go"
        refine ⟨u, dx, D, i + 1, kk, z, bs, rest, _, rfl, hL.tail, .tail _ hD, (by rw [hb2, List.append_eq, List.append_assoc]), hs, (by rw [List.length_cons, List.length_append, hsz] at hz; omega), fun H hL => ?_⟩
        refine k _ [] ps _ ht (.str z) ?_
        rw [List.length_cons, Nat.add_comm _ 1, ← Nat.add_assoc, List.length_append]
        exact hL
      | row dl =>
        unfold packB at hb k hz
        rw [deep] at hn h30
        rw [sendable] at hs
        obtain ⟨hb1, hb2⟩ := drop_get hb
        refine ⟨u, dx, D, i, kk, _, bs, _, rfl, hL, .tail _ hD, hb1, fun H hL => ?_⟩
        fail "go"
        dsimp only [uO] at hL
        fail "go"
        refine ite_d (fun q => absurd q (by omega)) fun _ => ?_
        fail "go"
        refine ⟨p, _, rfl, .inr (.of (hL.at ⟨0, rfl⟩)), rfl, rfl, ?_⟩
        refine ⟨false, by decide, ?_⟩
        fail "go"
        refine ⟨u, dx, D, i + 1, kk + 1, dl.length, bs, packsB dl ++ rest, _, rfl, hL.tail, .tail _ hD, by rw [hb2, List.append_eq, List.append_assoc], fun H hL => ?_⟩
        fail "go"
        dsimp only [uO] at hL
        fail "go"
        refine ⟨D, _, rfl, .inr (.of (hL.mem (.tail _ (.tail _ hD)))), ?_⟩
        fail "go"
        have hlen := congrArg List.length hb2
        rw [List.length_drop, List.append_eq, List.length_append, List.length_append] at hlen
        have hpl := packsB_len (ds := dl)
        rw [List.length_cons, List.length_append] at hz
        refine ite_d (fun q => absurd q (by rw [List.length_map]; omega)) fun _ => ?_
        refine ⟨_, rfl, _, rfl, Int.le_trans (show (-(2 ^ 62) : Int) ≤ 0 by decide) (Int.natCast_nonneg _), Int.lt_of_le_of_lt (Int.ofNat_le.mpr (show dl.length ≤ sizeLine by omega)) (show (sizeLine : Int) < 2 ^ 62 by decide), ?_⟩
        refine ⟨⟨ps, hL.at ⟨1, rfl⟩, ht⟩, fun H2 hT => ?_⟩
        obtain ⟨ps1, ht1, hL⟩ := Led.tabbed (A := [_]) hL hT
        dsimp only [List.cons_append, List.nil_append, List.append] at hL
        clear hT ht
        rw [List.append_eq, List.append_assoc] at hb2
        have hb3 : bs.drop (i + 1 + (natB dl.length).length) = packsB dl ++ rest := by
          rw [← List.drop_drop, hb2, List.drop_left]
        refine Gx.gx_it (walk_range (lo := 0) (n := (dl.length : Int).toNat)) (fun j out H => Hold (∃ (Z : Lg) (ps : Array Value), TriplesOk ps.toList ∧ DFs Z out (dl.take j) ∧ out.length = j ∧ Led H (uO CU u dx D (i + 1 + (natB dl.length).length + (packsB (dl.take j)).length) (kk + 1) :: (PU, .tbl ps) :: (Z ++ L)))) (.mk ⟨[], ps1, ht1, .nil, rfl, hL⟩)
          (fun j out H _ h => True.intro) (fun j x out H H' hj h hy => ?_) (fun out H h => ?_)
        · clear hL
          obtain ⟨Z, ps, ht, hdl, hol, hL⟩ := h.out
          clear h
          rw [Int.toNat_natCast] at hj
          obtain ⟨rfl, rfl⟩ := hy
          have hd1 : dl[j]? = some dl[j] := List.getElem?_eq_getElem hj
          have q1 := deeps_get hd1
          have q2 := packsB_take hd1
          have q3 := packsB_le (ds := dl) (i := j + 1)
          rw [q2, List.length_append] at q3
          have hb4 : bs.drop (i + 1 + (natB dl.length).length + (packsB (dl.take j)).length) = packB dl[j] ++ (packsB (dl.drop (j + 1)) ++ rest) := by
            rw [← List.drop_drop, hb3, packsB_at hd1, List.append_assoc, List.append_assoc, List.drop_left]
          refine ⟨rfl, k_yes ?_⟩
          refine ⟨_, rfl, u, dx, _, rfl, hL.at ⟨0, rfl⟩, fz_no (by decide +kernel), ?_⟩
          refine ⟨u, dx, D, _, kk + 1, dl[j], bs, _, ps, Z ++ L, rfl, hL, ht, List.mem_append_right _ hD, hb4, by omega, by omega, by omega, send_get hs hd1, by omega, fun v Z2 ps2 H2 ht2 hv hL => ⟨by omega, .mk ⟨Z2 ++ Z, ps2, ht2, ?_, ?_, ?_⟩⟩⟩
          · rw [List.take_add_one, hd1]
            exact DLs.snoc (hv.mono (fun a h => List.mem_append_left _ h)) (hdl.mono (fun a h => List.mem_append_right _ h))
          · rw [List.length_append, hol]; rfl
          · rw [q2, List.length_append, ← Nat.add_assoc, List.append_assoc]
            exact hL
        · clear hL
          obtain ⟨Z, ps, ht, hdl, hol, hL⟩ := h.out
          clear h
          rw [Int.toNat_natCast, List.take_length] at hdl hL
          intro q qo hq hqo
          generalize hH : upd H q _ = H
          replace hL := Led.newH hL hq hH
          clear hH hq
          dsimp only [uO] at hL
          fail "go"
          refine k (.ref q) ((q, .frz qo (.tup out)) :: Z) ps _ ht (.row (.head _) ⟨qo, rfl, hqo⟩ (hdl.mono fun a h => .tail _ h)) ?_
          have e1 : kk + 1 - 1 = kk := by omega
          have e2 : i + (7 :: (natB dl.length ++ packsB dl)).length = i + 1 + (natB dl.length).length + (packsB dl).length := by
            rw [List.length_cons, List.length_append]; omega
          rw [e1] at hL
          rw [e2]
          exact hL.perm ((List.Perm.swap _ _ _).trans (.cons _ (.swap _ _ _)))
end
end Sd


set_option linter.unusedVariables false
namespace Sd
open PySem L2
open C8 (Cal Met Mak pe_c pe_mk pe_mt pe_mt0 pss_cut tCut)
-- TYPES FRZ=
set_option linter.unusedSimpArgs false
set_option pp.deepTerms false
set_option pp.deepTerms.threshold 12
set_option hygiene false
local macro_rules | `(tactic| fail "nd") => `(tactic| first | assumption | decide +kernel)
local macro_rules | `(tactic| fail "ix") => `(tactic| first | exact ⟨0, rfl⟩ | exact ⟨1, rfl⟩ | exact ⟨2, rfl⟩ | exact ⟨3, rfl⟩ | exact ⟨4, rfl⟩ | exact ⟨5, rfl⟩ | exact ⟨6, rfl⟩ | exact ⟨7, rfl⟩ | exact ⟨8, rfl⟩ | exact ⟨9, rfl⟩ | exact ⟨10, rfl⟩ | exact ⟨11, rfl⟩ | exact ⟨12, rfl⟩ | exact ⟨13, rfl⟩ | exact ⟨14, rfl⟩ | exact ⟨15, rfl⟩ | exact ⟨16, rfl⟩ | exact ⟨17, rfl⟩ | exact ⟨18, rfl⟩ | assumption)
local macro_rules | `(tactic| fail "up") => `(tactic| first | exact ⟨0, rfl, rfl⟩ | exact ⟨1, rfl, rfl⟩ | exact ⟨2, rfl, rfl⟩ | exact ⟨3, rfl, rfl⟩ | exact ⟨4, rfl, rfl⟩ | exact ⟨5, rfl, rfl⟩ | exact ⟨6, rfl, rfl⟩ | exact ⟨7, rfl, rfl⟩ | exact ⟨8, rfl, rfl⟩ | exact ⟨9, rfl, rfl⟩ | exact ⟨10, rfl, rfl⟩ | exact ⟨11, rfl, rfl⟩ | exact ⟨12, rfl, rfl⟩ | exact ⟨13, rfl, rfl⟩ | exact ⟨14, rfl, rfl⟩ | exact ⟨15, rfl, rfl⟩ | exact ⟨16, rfl, rfl⟩ | assumption)
local macro_rules | `(tactic| fail "lkF") => `(tactic| first | assumption | exact fz_at 0 (by fail "nd") rfl rfl | exact fz_at 1 (by fail "nd") rfl rfl | exact fz_at 2 (by fail "nd") rfl rfl | exact fz_at 3 (by fail "nd") rfl rfl | exact fz_at 4 (by fail "nd") rfl rfl | exact fz_at 5 (by fail "nd") rfl rfl | exact fz_at 6 (by fail "nd") rfl rfl | exact fz_at 7 (by fail "nd") rfl rfl)
local macro_rules | `(tactic| fail "lkD") => `(tactic| first | assumption | exact dz_at 0 (by fail "nd") rfl rfl | exact dz_at 1 (by fail "nd") rfl rfl | exact dz_at 2 (by fail "nd") rfl rfl | exact dz_at 3 (by fail "nd") rfl rfl | exact dz_at 4 (by fail "nd") rfl rfl)
local macro_rules | `(tactic| fail "ptF") => `(tactic| first | assumption | exact fz_put 0 (by fail "nd") rfl (Nat.le_of_ble_eq_true rfl) | exact fz_put 1 (by fail "nd") rfl (Nat.le_of_ble_eq_true rfl) | exact fz_put 2 (by fail "nd") rfl (Nat.le_of_ble_eq_true rfl) | exact fz_put 3 (by fail "nd") rfl (Nat.le_of_ble_eq_true rfl) | exact fz_put 4 (by fail "nd") rfl (Nat.le_of_ble_eq_true rfl) | exact fz_put 5 (by fail "nd") rfl (Nat.le_of_ble_eq_true rfl) | exact fz_put 6 (by fail "nd") rfl (Nat.le_of_ble_eq_true rfl) | exact fz_put 7 (by fail "nd") rfl (Nat.le_of_ble_eq_true rfl) | exact fz_new (by decide +kernel) rfl)
local macro_rules | `(tactic| fail "ptD") => `(tactic| first | assumption | exact dz_put 0 (by fail "nd") rfl (Nat.le_of_ble_eq_true rfl) | exact dz_put 1 (by fail "nd") rfl (Nat.le_of_ble_eq_true rfl) | exact dz_put 2 (by fail "nd") rfl (Nat.le_of_ble_eq_true rfl) | exact dz_put 3 (by fail "nd") rfl (Nat.le_of_ble_eq_true rfl) | exact dz_put 4 (by fail "nd") rfl (Nat.le_of_ble_eq_true rfl))
local macro_rules | `(tactic| fail "sz") => `(tactic| first | assumption | exact (Nat.le_of_ble_eq_true rfl) | omega | decide)
local macro_rules | `(tactic| fail "sd") => `(tactic| first | rfl | assumption | decide | omega | (dsimp only; first | decide | omega) | exact .inr ⟨by decide, by decide⟩ | exact .inl ⟨by decide, by decide⟩ | exact ⟨by omega, by omega⟩ | exact .inl ⟨by omega, by omega⟩ | exact .inr ⟨by omega, by omega⟩ | exact ⟨by omega, by omega, by omega⟩)
local macro_rules | `(tactic| fail "cl") => `(tactic| (clear hH; dsimp only [List.set, List.cons_append, List.nil_append, List.append] at hL))
local macro_rules | `(tactic| fail "gn") => `(tactic| (intro p hp; generalize hH : upd H p _ = H; replace hL := Led.newH hL hp hH; clear hH hp))
local macro_rules | `(tactic| fail "gup") => `(tactic| (generalize hH : upd H _ _ = H; replace hL := Led.upU hL (by fail "up") hH; fail "cl"))
local macro_rules | `(tactic| fail "gmk") => `(tactic| (intro x dx hx hd ne; generalize hH : upd (upd H dx _) x _ = H; replace hL := Led.made hL hx hd ne hH; clear hH hx hd ne))
local macro_rules | `(tactic| fail "v") => `(tactic| refine ⟨_, rfl, ?_⟩)
local macro_rules | `(tactic| fail "i2") => `(tactic| refine ⟨_, _, rfl, rfl, ?_⟩)
local macro_rules | `(tactic| fail "go1") => `(tactic| first
  | refine ⟨_, rfl, ?_⟩
  | refine ⟨_, _, rfl, rfl, ?_⟩
  | refine ⟨_, _, rfl, ?_⟩
  | refine iteT ?_
  | refine iteF ?_
  | refine k_fld hL (by fail "ix") (by assumption) (by assumption) (by fail "lkF") ?_
  | refine k_dgetS hL (by fail "ix") (by fail "lkD") ?_
  | refine k_dgetI hL (by fail "ix") (by assumption) ?_
  | refine k_ixL hL (by fail "ix") (by first | rfl | assumption) ?_
  | refine k_ixT hL (by fail "ix") (by first | rfl | assumption) ?_
  | refine k_tyL hL (by fail "ix") ?_
  | refine k_isd hL (by fail "ix") ?_
  | (refine And.intro (by fail "sz") ?_; fail "gn")
  | refine And.intro (by fail "sd") ?_
  | fail "gn"
  | refine k_meth hL (by fail "ix") (by first | assumption | exact fz_no (by decide +kernel)) ?_
  | refine k_gtup hL (by fail "ix") rfl ?_
  | (refine k_popI hL (by fail "ix") (by assumption) ?_; fail "gup")
  | (refine k_listD hL (by fail "ix") ?_; fail "gn")
  | (refine ⟨_, _, _, _, rfl, rfl, hL.at (by fail "ix"), rfl, ?_⟩; fail "gup")
  | (refine ⟨_, _, _, rfl, rfl, hL.at (by fail "ix"), (by fail "sz"), ?_⟩; fail "gup")
  | (refine ⟨_, _, _, _, rfl, hL.at (by fail "ix"), by assumption, by assumption, Nat.lt_of_le_of_lt fz_len (by decide), ?_⟩; generalize hH : upd H _ _ = H; replace hL := Led.upF hL (by fail "up") (by fail "ptF") hH; fail "cl")
  | (refine ⟨_, _, hL.at (by fail "ix"), Nat.lt_of_le_of_lt fz_len (by decide), ?_⟩; generalize hH : upd H _ _ = H; replace hL := Led.upF hL (by fail "up") (by fail "ptF") hH; fail "cl")
  | (refine k_dputS hL (by fail "ix") (Nat.lt_of_le_of_lt dz_len (by decide)) (by fail "ptD") (by fail "up") ?_; clear hL; intro H hL; dsimp only [List.set, List.cons_append, List.nil_append, List.append] at hL)
  | refine k_lenL2 hL (by fail "ix") ?_
  | refine k_lenT2 hL (by fail "ix") ?_
  | refine .inl ⟨_, rfl, ?_⟩
  | refine .inr ⟨_, rfl, ?_⟩)
local macro_rules | `(tactic| fail "go") => `(tactic| repeat fail "go1")
local macro_rules | `(tactic| fail "pm") => `(tactic| (refine Led.le hL (fun a_ => ?_); simp only [cnt_nil, cnt_cons, cnt_app, List.map_append, List.map_cons, List.map_nil, List.flatMap_append, List.flatMap_cons, List.flatMap_nil, List.append_assoc, List.cons_append, List.nil_append]; omega))

def spUnpack (CU PU : Addr) (n : Nat) : Sp := fun vs H Q _ => ∃ (D : Addr) (d : Dv) (ps : Array Value) (L : Lg), vs = [.ref D] ∧ Led H ((PU, .tbl ps) :: L) ∧ TriplesOk ps.toList ∧ (D, tI (packB d)) ∈ L ∧
  deep d < n ∧ deep d ≤ 30 ∧ sendable d ∧ (packB d).length ≤ sizeLine ∧ ∀ (v : V) (Z : Lg) (ps' : Array Value) H', TriplesOk ps'.toList → DF Z v d → Led H' ((PU, .tbl ps') :: (Z ++ L)) → Q v H'
def framesB (ds : List Dv) : List Int := ds.flatMap fun d => frameB (packB d)
def manyB (bs : List Int) : Int := bs.foldl (fun m b => m * 256 + b) 0
/-- what is left behind whole frames -/
def Cut (t : List Int) : Prop := t.length < 8 ∨ (t.length : Int) < 8 + manyB (t.take 4)
def spReadF (CU PU : Addr) (n : Nat) : Sp := fun vs H Q _ => ∃ (D : Addr) (ds : List Dv) (tail : List Int) (ps : Array Value) (L : Lg), vs = [.ref D] ∧ Led H ((PU, .tbl ps) :: L) ∧ TriplesOk ps.toList ∧ (D, tI (framesB ds ++ tail)) ∈ L ∧
  (∀ d ∈ ds, deep d < n ∧ deep d ≤ 30 ∧ sendable d ∧ (packB d).length + 8 ≤ sizeLine) ∧ ds.length < sizeLine ∧ Cut tail ∧
  ∀ (t l : Addr) (vs : List V) (Z : Lg) (ps' : Array Value) H', TriplesOk ps'.toList → DFs Z vs ds → Led H' ((t, .tup [.ref l, .int (framesB ds).length]) :: (l, .lst vs) :: (PU, .tbl ps') :: (Z ++ L)) → Q (.ref t) H'
theorem many_four {n : Int} (h0 : 0 ≤ n) (h1 : n < 4294967296) : manyB (fourB n) = n := by
  unfold manyB fourB
  simp only [List.foldl_cons, List.foldl_nil]
  omega
theorem frames_take {ds : List Dv} {i : Nat} {d : Dv} (h : ds[i]? = some d) : framesB (ds.take (i + 1)) = framesB (ds.take i) ++ frameB (packB d) := by
  unfold framesB
  rw [List.take_add_one, h, List.flatMap_append]
  simp
theorem frames_at {ds : List Dv} {i : Nat} {d : Dv} (h : ds[i]? = some d) : framesB ds = framesB (ds.take i) ++ (frameB (packB d) ++ framesB (ds.drop (i + 1))) := by
  obtain ⟨h1, h2⟩ := List.getElem?_eq_some_iff.mp h
  conv => lhs; rw [← List.take_append_drop i ds, List.drop_eq_getElem_cons h1, h2]
  unfold framesB
  rw [List.flatMap_append, List.flatMap_cons]
theorem frame_len {b : List Int} : (frameB b).length = b.length + 8 := by
  unfold frameB fourB sumB
  simp only [List.length_append, List.length_cons, List.length_nil]
  omega
theorem cut_map {bs : List Int} {a b : Nat} : cutV (bs.map V.int) (some (a : Int)) (some (b : Int)) = ((bs.drop (min a bs.length)).take (min b bs.length - min a bs.length)).map V.int := by
  unfold cutV
  rw [HT.sIx_nat, HT.sIx_nat, List.length_map, List.map_take, List.map_drop]
section
variable {K : PySem.W.Frag} {H : Hp} {L : Lg} {D : Addr} {Q : VK}
/-- t[a:b], not the whole -/
theorem k_cut {bs : List Int} {a b : Nat} (hL : Led H L) (hD : (D, tI bs) ∈ L) (hab : a ≤ b) (hb : b ≤ bs.length) (hn : ¬ (a = 0 ∧ b = bs.length)) (k : ∀ p H', Led H' ((p, tI ((bs.drop a).take (b - a))) :: L) → Q (.ref p) H') :
    rSlT K (.ref D) (some (a : Int)) (some (b : Int)) H Q := by
  refine ⟨D, _, rfl, .of (hL.mem hD), ?_, fun p hp => ?_⟩
  · rw [HT.sIx_nat, HT.sIx_nat, List.length_map]
    omega
  · rw [cut_map, Nat.min_eq_left hb, Nat.min_eq_left (Nat.le_trans hab hb)]
    exact k p _ (hL.new hp)
theorem k_cutE {bs : List Int} {a b : Nat} {x y : Int} (hL : Led H L) (hD : (D, tI bs) ∈ L) (hx : x = a) (hy : y = b) (hab : a ≤ b) (hb : b ≤ bs.length) (hn : ¬ (a = 0 ∧ b = bs.length)) (k : ∀ p H', Led H' ((p, tI ((bs.drop a).take (b - a))) :: L) → Q (.ref p) H') :
    rSlT K (.ref D) (some x) (some y) H Q := by
  subst hx hy
  exact k_cut hL hD hab hb hn k
end
theorem drop_mid {α : Type} {bs x y r : List α} {q : Nat} (h : bs.drop q = x ++ (y ++ r)) : (bs.drop (q + x.length)).take y.length = y := by
  rw [← List.drop_drop, h, List.drop_left, List.take_left]
section
variable {P : Program} {w : World} {K : PySem.W.Frag} {mg : Str → Option Value} {base : Heap} {CU PU : Addr}
theorem scUnpack : FnScope ["data", "unpacker", "found"] ["data"] (defScope sUnpack) := ⟨rfl, rfl, rfl, by decide +kernel, rfl, by decide +kernel, by decide +kernel⟩
theorem ok_unpack {f : Addr} {fd : FuncData} {n : Nat} (F : Fun K "unpack" "unpack" sUnpack f fd) (X : TxtU K mg CU) (T : TxtW mg) (c_Unpacker : Mak P w K mg base 1 "Unpacker" CU (spUInit CU) [])
    (c_Unpacker_read_value : Met P w K mg base (4 + 5 * n) CU "read_value" (spUVal CU PU n) []) : FnOk P w K mg base CX0 (5 + 5 * n) f fd ["data"] (spUnpack CU PU n) := by
  have e6 : 5 + 5 * n = (4 + 5 * n) + 1 := by omega
  rw [e6]
  refine F.ok scUnpack (fun vs H Q E h => ?_) (fun cdv A outer s H vs Q E hr h => ?_)
  · obtain ⟨D, d, ps, L, rfl, _⟩ := h
    rfl
  · obtain ⟨D, d, ps, L, rfl, hL, ht, hD, hn, h30, hs, hz, k⟩ := h
    have c1 := X.cl
    have f1 := X.n "data" (by decide +kernel)
    have f2 := X.n "place" (by decide +kernel)
    refine ⟨_, (pss_cons (ps_set (i := 1) scUnpack.nd rfl (Or.inl rfl) (pe_mk c_Unpacker hr (by omega) (by rfl) (pa_cons (pv 0) pa_nil)))
  (pss_cons (ps_set (i := 2) scUnpack.nd rfl (Or.inl rfl) (pe_mt0 c_Unpacker_read_value hr (by omega) (pv 1)))
  (pss_cons (ps_if (pt_cmpR op_ne (pe_fld (pv 1) rfl) (pe_callB call_len_seq (by rfl) T.len (by decide +kernel) (pa_cons (pe_fld (pv 1) rfl) pa_nil)) (nomark _))
  pss_never
  pss_nil)
  (pss_one (ps_ret (pv 2)))))), ?_⟩
    fail "go"
    fail "gmk"
    refine ⟨x, dx, D, _, _, rfl, hL, at_mem (.tail _ hD), fun H hL => ⟨rfl, ?_⟩⟩
    dsimp only [uO] at hL
    fail "go"
    refine ⟨x, dx, D, 0, 0, d, packB d, [], ps, L, rfl, hL, ht, hD, by simp, hn, Int.le_refl _, by omega, hs, hz, fun v Z ps H ht hv hL => ?_⟩
    dsimp only [uO] at hL
    fail "go"
    refine ⟨D, _, rfl, .inr (.of (hL.mem (.tail _ (.tail _ (List.mem_append_right _ hD))))), ?_⟩
    fail "go"
    refine ite_n (fun z => absurd (by rw [List.length_map, Nat.zero_add]) z) fun _ => ?_
    fail "go"
    exact k _ Z ps _ ht hv hL.tail
theorem scReadF : FnScope ["data", "found", "place", "many", "one", "end"] ["data"] (defScope sReadF) := ⟨rfl, rfl, rfl, by decide +kernel, rfl, by decide +kernel, by decide +kernel⟩
theorem ok_readF {f : Addr} {fd : FuncData} {n : Nat} (F : Fun K "read_frames" "read_frames" sReadF f fd) (T : TxtW mg) (c_unpack : Cal P w K mg base (5 + 5 * n) "unpack" (spUnpack CU PU n) []) (c_sum_of_bytes : Cal P w K mg base 1 "sum_of_bytes" spSumB []) :
    FnOk P w K mg base CX0 (6 + 5 * n) f fd ["data"] (spReadF CU PU n) := by
  have e6 : 6 + 5 * n = (5 + 5 * n) + 1 := by omega
  rw [e6]
  refine F.ok scReadF (fun vs H Q E h => ?_) (fun cdv A outer s H vs Q E hr h => ?_)
  · obtain ⟨D, ds, tail, ps, L, rfl, _⟩ := h
    rfl
  · obtain ⟨D, ds, tail, ps, L, rfl, hL, ht, hD, hds, hzl, hcut, k⟩ := h
    refine ⟨_, (pss_cons (ps_par (i := 1) (j := 2) (by rfl) scReadF.nd rfl rfl (by decide) rfl rfl (pa_cons (pe_lst pa_nil) (pa_cons pe_int pa_nil)) (by rfl))
  (pss_cons (ps_while PassesOwn.never (pt_cmpR op_le (pe_op op_add (pv 2) pe_int) (pe_callB call_len_seq (by rfl) T.len (by decide +kernel) (pa_cons (pv 0) pa_nil)) (nomark _))
  (pss_cons (ps_set (i := 3) scReadF.nd rfl (Or.inl rfl) pe_int)
  (pss_cons (ps_for PassesOwn.never rfl (pi_tup (pe_slice sl_tup (pv 0) (po_some (pv 2)) (po_some (pe_op op_add (pv 2) pe_int)))) (pg_name (i := 4) scReadF.nd rfl (Or.inl rfl))
  (pss_one (ps_set (i := 3) scReadF.nd rfl (Or.inl rfl) (pe_op op_add (pe_op op_mul (pv 3) pe_int) (pv 4)))))
  (pss_cons (ps_set (i := 5) scReadF.nd rfl (Or.inl rfl) (pe_op op_add (pe_op op_add (pe_op op_add (pv 2) pe_int) (pv 3)) pe_int))
  (pss_cons (ps_if (PW.pt (pw_or (pt_cmpR op_gt (pv 5) (pe_callB call_len_seq (by rfl) T.len (by decide +kernel) (pa_cons (pv 0) pa_nil)) (nomark _)) (pw_or1 (pt_cmpR (op_neW hr.units) (pe_c c_sum_of_bytes hr (by omega) (by rfl) (pa_cons (pe_slice sl_tup (pv 0) (po_some (pe_op op_add (pv 2) pe_int)) (po_some (pe_op op_sub (pv 5) pe_int))) pa_nil)) (pe_callTy call_tuple_of (by rfl) T.tuple (by decide +kernel) (pa_cons (pe_slice sl_tup (pv 0) (po_some (pe_op op_sub (pv 5) pe_int)) (po_some (pv 5))) pa_nil)) (nomark _)))))
  (pss_one ps_break)
  pss_nil)
  (pss_cons (ps_try_never (fun _ _ h => h) (pss_one (ps_expr (pe_bm PySem.F.plainAttrs_list PySem.F.slot_list_append PySem.F.type_list_append mt_append (pv 1) (pa_cons (pe_c c_unpack hr (by omega) (by rfl) (pa_cons (pe_slice sl_tup (pv 0) (po_some (pe_op op_add (pv 2) pe_int)) (po_some (pe_op op_sub (pv 5) pe_int))) pa_nil)) pa_nil)))) pss_nil)
  (pss_one (ps_set (i := 2) scReadF.nd rfl (Or.inl rfl) (pv 5)))))))))
  (pss_one (ps_ret (pe_tup (pa_cons (pv 1) (pa_cons (pv 2) pa_nil))))))), ?_⟩
    fail "go"
    refine ⟨fun m σ H => Hold (∃ (j : Nat) (l : Addr) (v3 v4 v5 : Option V) (vs : List V) (Z : Lg) (ps : Array Value), m = ds.length - j ∧ j ≤ ds.length ∧ σ = [some (.ref D), some (.ref l), some (.int (framesB (ds.take j)).length), v3, v4, v5] ∧ TriplesOk ps.toList ∧ DFs Z vs (ds.take j) ∧
      Led H ((l, .lst vs) :: (PU, .tbl ps) :: (Z ++ L))), ⟨_, .mk ⟨0, _, _, _, _, [], [], ps, rfl, Nat.zero_le _, rfl, ht, .nil, hL⟩⟩, fun m σ H h => ?_⟩
    clear hL ht
    obtain ⟨j, l, v3, v4, v5, vs, Z, ps, hm, hj, rfl, ht, hdl, hL⟩ := h.out
    clear h
    have hDm : (D, tI (framesB ds ++ tail)) ∈ (l, HO.lst vs) :: (PU, HO.tbl ps) :: (Z ++ L) := .tail _ (.tail _ (List.mem_append_right _ hD))
    fail "go"
    refine ⟨D, _, rfl, .inr (.of (hL.mem hDm)), ?_⟩
    fail "go"
    have hfin : (framesB (ds.take j)).length = (framesB ds).length → j = ds.length → Q (.ref p) H → Q (.ref p) H := fun _ _ h => h
    clear hfin
    have hlt : (framesB (ds.take j)).length ≤ (framesB ds ++ tail).length := by
      rw [List.length_append]
      have : (framesB (ds.take j)).length ≤ (framesB ds).length := by
        conv => rhs; rw [← List.take_append_drop j ds]
        unfold framesB
        rw [List.flatMap_append, List.length_append]
        exact Nat.le_add_right _ _
      omega
    have hdr : j = ds.length → (framesB ds ++ tail).drop (framesB (ds.take j)).length = tail := fun e => by rw [e, List.take_length, List.drop_left]
    refine ite_d (fun h8 => ?_) (fun h8 => ?_)
    · rw [List.length_map] at h8
      refine ⟨fun σ' H' => Hold (j < ds.length ∧ ∃ (v3 v4 v5 : Option V) (vs : List V) (Z : Lg) (ps : Array Value), σ' = [some (.ref D), some (.ref l), some (.int (framesB (ds.take (j + 1))).length), v3, v4, v5] ∧ TriplesOk ps.toList ∧ DFs Z vs (ds.take (j + 1)) ∧
        Led H' ((l, .lst vs) :: (PU, .tbl ps) :: (Z ++ L))), fun σ' H' h => ?_, ?_⟩
      · obtain ⟨q0, v3, v4, v5, vs, Z, ps, q1, q2, q3, q4⟩ := h.out
        exact ⟨ds.length - (j + 1), by omega, .mk ⟨j + 1, l, v3, v4, v5, vs, Z, ps, rfl, q0, q1, q2, q3, q4⟩⟩
      fail "go"
      refine k_cut (b := (framesB (ds.take j)).length + 4) hL hDm (Nat.le_add_right _ _) (by omega) (by omega) fun p4 H hL => ?_
      rw [Nat.add_sub_cancel_left] at hL
      refine ⟨p4, rfl, ⟨_, .of (hL.at ⟨0, rfl⟩)⟩, ?_⟩
      generalize hq : (framesB (ds.take j)).length = q at *
      generalize h4e : ((framesB ds ++ tail).drop q).take 4 = h4 at hL
      refine for_tupA (xs := h4.map V.int) (fun i σ H => Hold (∃ v4, σ = [some (.ref D), some (.ref l), some (.int q), some (.int (manyB (h4.take i))), v4, v5] ∧ Led H ((p4, tI h4) :: (l, .lst vs) :: (PU, .tbl ps) :: (Z ++ L)))) (.mk ⟨v4, rfl, hL⟩) (fun i σ H _ h => ?_) (fun i x σ H D1 hi h hN => ?_) (fun σ H h => ?_)
      · obtain ⟨v4, rfl, hL⟩ := h.out
        exact .of (hL.at ⟨0, rfl⟩)
      · clear hL
        obtain ⟨v4, rfl, hL⟩ := h.out
        rw [List.getElem?_map] at hi
        obtain ⟨b, hb, rfl⟩ := Option.map_eq_some_iff.mp hi
        fail "go"
        refine hN.nx _ _ (.mk ⟨some (.int b), ?_, hL⟩)
        have : manyB (h4.take (i + 1)) = manyB (h4.take i) * 256 + b := by
          rw [List.take_add_one, hb, Option.toList_some]
          unfold manyB
          rw [List.foldl_append]
          rfl
        rw [this]
        rfl
      · clear hL
        obtain ⟨v4, rfl, hL⟩ := h.out
        clear h
        rw [List.length_map, List.take_length]
        fail "go"
        replace hL := hL.tail
        rcases Nat.lt_or_ge j ds.length with hjl | hjl
        · have hd1 : ds[j]? = some ds[j] := List.getElem?_eq_getElem hjl
          generalize ds[j] = d at hd1
          obtain ⟨d1, d2, d3, d4⟩ := hds d (List.mem_of_getElem? hd1)
          have hat := frames_at hd1
          have hdq : (framesB ds ++ tail).drop q = fourB (packB d).length ++ (packB d ++ (sumB (packB d) ++ (framesB (ds.drop (j + 1)) ++ tail))) := by
            rw [hat, ← hq, List.append_assoc, List.append_assoc, List.drop_left]
            unfold frameB
            simp only [List.append_assoc]
          have h4f : h4 = fourB (packB d).length := by
            rw [← h4e, hdq]
            exact List.take_left' rfl
          have hmany : manyB h4 = (packB d).length := by
            rw [h4f]
            refine many_four (Int.natCast_nonneg _) ?_
            have : sizeLine < 4294967296 := by decide
            omega
          have hblen : (framesB ds ++ tail).length = q + ((packB d).length + 8 + ((framesB (ds.drop (j + 1))).length + tail.length)) := by
            have := congrArg List.length hdq
            rw [List.length_drop] at this
            simp only [List.length_append] at this
            simp only [fourB, sumB, List.length_cons, List.length_nil] at this
            simp only [List.length_append] at hlt ⊢
            omega
          rw [hmany]
          refine ⟨D, _, rfl, .inr (.of (hL.mem hDm)), ?_⟩
          fail "go"
          refine ite_d (fun z => absurd z (by rw [List.length_map]; omega)) fun _ => ?_
          have hs1 : ((framesB ds ++ tail).drop (q + 4)).take (packB d).length = packB d := drop_mid (x := fourB (packB d).length) hdq
          have hs2 : ((framesB ds ++ tail).drop (q + 4 + (packB d).length)).take 4 = sumB (packB d) := by
            refine drop_mid (x := packB d) (y := sumB (packB d)) (r := framesB (ds.drop (j + 1)) ++ tail) ?_
            rw [← List.drop_drop, hdq]
            exact List.drop_left' rfl
          fail "go"
          refine k_cutE (a := q + 4) (b := q + 4 + (packB d).length) hL hDm (by omega) (by push_cast; omega) (by omega) (by omega) (by omega) fun p5 H hL => ?_
          rw [Nat.add_sub_cancel_left, hs1] at hL
          fail "go"
          refine ⟨p5, packB d, _, rfl, hL, ⟨0, rfl⟩, fun r6 H hL => ?_⟩
          fail "go"
          refine k_cutE (a := q + 4 + (packB d).length) (b := q + 4 + (packB d).length + 4) hL (.tail _ (.tail _ hDm)) (by push_cast; omega) (by push_cast; omega) (by omega) (by omega) (by omega) fun p7 H hL => ?_
          rw [Nat.add_sub_cancel_left, hs2] at hL
          fail "go"
          refine ⟨p7, _, rfl, .inr ⟨.of (hL.at ⟨0, rfl⟩), ?_⟩⟩
          refine k_neW 1 (by decide) (hL.at ⟨1, rfl⟩) (hL.at ⟨0, rfl⟩) (ew_flats (n := 0) fun x hx => ?_) ?_
          · obtain ⟨i, _, rfl⟩ := List.mem_map.mp hx
            rfl
          fail "go"
          replace hL := hL.tail.tail.tail
          refine k_cutE (a := q + 4) (b := q + 4 + (packB d).length) hL hDm (by omega) (by push_cast; omega) (by omega) (by omega) (by omega) fun p8 H hL => ?_
          rw [Nat.add_sub_cancel_left, hs1] at hL
          fail "go"
          refine ⟨p8, d, ps, (p8, tI (packB d)) :: (l, .lst vs) :: (Z ++ L), rfl, hL.perm ((List.Perm.cons _ (.swap _ _ _)).trans (.swap _ _ _)), ht, .head _, d1, d2, d3, by omega, fun v Z2 ps2 H ht2 hv hL => ?_⟩
          have hL' : Led H ((l, .lst vs) :: (PU, .tbl ps2) :: ((Z2 ++ Z) ++ L)) := by fail "pm"
          clear hL
          have hL := hL'
          clear hL'
          fail "go"
          refine ⟨l, _, _, rfl, rfl, hL.at ⟨0, rfl⟩, ?_, ?_⟩
          · rw [hdl.len, List.length_take]; omega
          fail "gup"
          fail "go"
          have e9 : (((framesB (ds.take (j + 1))).length : Nat) : Int) = (q : Int) + 4 + (packB d).length + 4 := by
            rw [frames_take hd1, List.length_append, hq, frame_len]
            push_cast
            omega
          refine .mk ⟨hjl, some (.int (packB d).length), v4, some (.int ((q : Int) + 4 + (packB d).length + 4)), vs ++ [v], Z2 ++ Z, ps2, ?_, ht2, ?_, hL⟩
          · rw [e9]
            rfl
          · rw [List.take_add_one, hd1]
            exact DLs.snoc (hv.mono (fun a h => List.mem_append_left _ h)) (hdl.mono (fun a h => List.mem_append_right _ h))
        · have hjd : j = ds.length := by omega
          have hdt := hdr hjd
          rw [hdt] at h4e
          refine ⟨D, _, rfl, .inr (.of (hL.mem hDm)), ?_⟩
          fail "go"
          have hbl : (framesB ds ++ tail).length = q + tail.length := by
            have := congrArg List.length hdt
            rw [List.length_drop] at this
            omega
          refine ite_d (fun _ => ?_) (fun z => ?_)
          · fail "go"
            rw [hjd, List.take_length] at hdl hq
            rw [← hq] at hL
            exact k _ _ vs Z ps _ ht hdl hL
          · exfalso
            rw [List.length_map, hbl] at z
            rw [hbl] at h8
            rcases hcut with h | h
            · omega
            · rw [h4e] at h
              omega
    · rw [List.length_map] at h8
      have hjd : j = ds.length := by
        rcases Nat.lt_or_ge j ds.length with h | h
        · have := frames_at (List.getElem?_eq_getElem h)
          have := congrArg List.length this
          rw [List.length_append, List.length_append, frame_len] at this
          rw [List.length_append] at h8
          omega
        · omega
      rw [hjd, List.take_length] at hdl
      fail "go"
      rw [hjd, List.take_length] at hL
      exact k _ _ vs Z ps _ ht hdl hL
end
end Sd


/-! plain data of a ledger as the comparisons' data -/
namespace Sd
open PySem PySem.Spec PyProof.Rows L2
mutual
def pyD : Dv → PyData
  | .non => .none
  | .bl b => .bool b
  | .int i => .int i
  | .str s => .str s
  | .row ds => .tuple (pyDs ds)
def pyDs : List Dv → List PyData
  | [] => []
  | d :: r => pyD d :: pyDs r
end
theorem pyDs_map : ∀ {ds : List Dv}, pyDs ds = ds.map pyD
  | [] => by rw [pyDs, List.map_nil]
  | d :: r => by rw [pyDs, List.map_cons, pyDs_map]
mutual
theorem pyD_plain : ∀ d : Dv, (pyD d).plain = true
  | .non => by rw [pyD]; rfl
  | .bl b => by rw [pyD]; rfl
  | .int i => by rw [pyD]; rfl
  | .str s => by rw [pyD]; rfl
  | .row ds => by rw [pyD, PyData.plain]; exact pyDs_plain ds
theorem pyDs_plain : ∀ ds : List Dv, PyData.plainAll (pyDs ds) = true
  | [] => by rw [pyDs]; simp [PyData.plainAll]
  | d :: r => by rw [pyDs, PyData.plainAll, pyD_plain d, pyDs_plain r]; rfl
end
mutual
theorem pyD_depth : ∀ d : Dv, (pyD d).depth = deep d
  | .non => by simp [pyD, deep, PyData.depth]
  | .bl b => by simp [pyD, deep, PyData.depth]
  | .int i => by simp [pyD, deep, PyData.depth]
  | .str s => by simp [pyD, deep, PyData.depth]
  | .row ds => by rw [pyD, PyData.depth, deep, pyDs_depth ds]
theorem pyDs_depth : ∀ ds : List Dv, PyData.depthAll (pyDs ds) = deeps ds
  | [] => by rw [pyDs, deeps]; simp [PyData.depthAll]
  | d :: r => by rw [pyDs, deeps, PyData.depthAll, pyD_depth d, pyDs_depth r]
end
section
variable {K : PySem.W.Frag} {H : Hp} {L Z : Lg}
mutual
theorem DL.dp (hL : Led H L) (s : ∀ x ∈ Z, x ∈ L) : ∀ {v : V} {d : Dv}, DL Z v d → Dp K H v (pyD d)
  | _, _, .non => by rw [pyD]; exact .non
  | _, _, .bl b => by rw [pyD]; exact .bl b
  | _, _, .int i => by rw [pyD]; exact .int i
  | _, _, .str x => by rw [pyD]; exact .str x
  | _, _, .row h ho h1 => by rw [pyD]; exact .tup (ho.sq (hL.mem (s _ h))) (DLs.dp hL s h1)
theorem DLs.dp (hL : Led H L) (s : ∀ x ∈ Z, x ∈ L) : ∀ {v : List V} {d : List Dv}, DLs Z v d → DpAll K H v (pyDs d)
  | _, _, .nil => by rw [pyDs]; exact .nil
  | _, _, .cons h h1 => by rw [pyDs]; exact .cons (DL.dp hL s h) (DLs.dp hL s h1)
end
end
theorem deeps_le {n : Nat} : ∀ {ds : List Dv}, (∀ d ∈ ds, deep d ≤ n) → deeps ds ≤ n
  | [], _ => by rw [deeps]; exact Nat.zero_le _
  | d :: r, h => by rw [deeps]; exact Nat.max_le.mpr ⟨h d (.head _), deeps_le fun d hd => h d (.tail _ hd)⟩
theorem shal_D {d : Dv} (h : deep d ≤ 60) : Shal (pyD d) := ⟨pyD_plain d, by rw [pyD_depth]; exact h⟩
theorem shal_Ds {ds : List Dv} (h : ∀ d ∈ ds, deep d ≤ 59) : Shal (.list (pyDs ds)) :=
  ⟨by rw [PyData.plain]; exact pyDs_plain ds, by rw [PyData.depth, pyDs_depth]; have := deeps_le h; omega⟩
theorem shal_Dt {ds : List Dv} (h : ∀ d ∈ ds, deep d ≤ 59) : Shal (.tuple (pyDs ds)) :=
  ⟨by rw [PyData.plain]; exact pyDs_plain ds, by rw [PyData.depth, pyDs_depth]; have := deeps_le h; omega⟩
theorem shal_tupI {ns : List Int} : Shal (.tuple (ns.map PyData.int)) := by
  have := shal_ints (ns := ns)
  exact ⟨by have := this.p; simpa [PyData.plain] using this, by have := this.d; simpa [PyData.depth] using this⟩
/-- a value, or None -/
def pyO : Option Dv → PyData
  | none => .none
  | some d => pyD d
theorem pe_mkN {X : Cx} {k j : Nat} {x : Str} {C : Addr} {sp : Sp} {dvs : List V} {p pos : Pos} (c : C8.Mak X.prog X.w X.K X.mg X.base k x C sp dvs) (hr : Room j X.A) (hk : k + 1 ≤ j) (hg : Gl X x) (hdb : (x == ("__debug__" : Str)) = false := by decide) : PE X (.Call (.Name x p) [] [] pos) (tMake C sp dvs C8.E0 tNil) := by
  obtain ⟨f, fd, ps, ds, M, F, hm, b, d⟩ := c.ex
  exact pe_make0 M F (hr.mono hk) hg hm b d C8.pass0 hdb
end Sd


set_option linter.unusedVariables false
namespace Sd
open PySem L2
open C8 (Cal Met Mak pe_c pe_mk pe_mt pe_mt0 pss_cut tCut)
-- TYPES X_Unpacker_byte=yes,RAISE=TE
set_option linter.unusedSimpArgs false
set_option pp.deepTerms false
set_option pp.deepTerms.threshold 12
set_option hygiene false
local macro_rules | `(tactic| fail "nd") => `(tactic| first | assumption | decide +kernel)
local macro_rules | `(tactic| fail "ix") => `(tactic| first | exact ⟨0, rfl⟩ | exact ⟨1, rfl⟩ | exact ⟨2, rfl⟩ | exact ⟨3, rfl⟩ | exact ⟨4, rfl⟩ | exact ⟨5, rfl⟩ | exact ⟨6, rfl⟩ | exact ⟨7, rfl⟩ | exact ⟨8, rfl⟩ | exact ⟨9, rfl⟩ | exact ⟨10, rfl⟩ | exact ⟨11, rfl⟩ | exact ⟨12, rfl⟩ | exact ⟨13, rfl⟩ | exact ⟨14, rfl⟩ | exact ⟨15, rfl⟩ | exact ⟨16, rfl⟩ | exact ⟨17, rfl⟩ | exact ⟨18, rfl⟩ | assumption)
local macro_rules | `(tactic| fail "up") => `(tactic| first | exact ⟨0, rfl, rfl⟩ | exact ⟨1, rfl, rfl⟩ | exact ⟨2, rfl, rfl⟩ | exact ⟨3, rfl, rfl⟩ | exact ⟨4, rfl, rfl⟩ | exact ⟨5, rfl, rfl⟩ | exact ⟨6, rfl, rfl⟩ | exact ⟨7, rfl, rfl⟩ | exact ⟨8, rfl, rfl⟩ | exact ⟨9, rfl, rfl⟩ | exact ⟨10, rfl, rfl⟩ | exact ⟨11, rfl, rfl⟩ | exact ⟨12, rfl, rfl⟩ | exact ⟨13, rfl, rfl⟩ | exact ⟨14, rfl, rfl⟩ | exact ⟨15, rfl, rfl⟩ | exact ⟨16, rfl, rfl⟩ | assumption)
local macro_rules | `(tactic| fail "lkF") => `(tactic| first | assumption | exact fz_at 0 (by fail "nd") rfl rfl | exact fz_at 1 (by fail "nd") rfl rfl | exact fz_at 2 (by fail "nd") rfl rfl | exact fz_at 3 (by fail "nd") rfl rfl | exact fz_at 4 (by fail "nd") rfl rfl | exact fz_at 5 (by fail "nd") rfl rfl | exact fz_at 6 (by fail "nd") rfl rfl | exact fz_at 7 (by fail "nd") rfl rfl)
local macro_rules | `(tactic| fail "lkD") => `(tactic| first | assumption | exact dz_at 0 (by fail "nd") rfl rfl | exact dz_at 1 (by fail "nd") rfl rfl | exact dz_at 2 (by fail "nd") rfl rfl | exact dz_at 3 (by fail "nd") rfl rfl | exact dz_at 4 (by fail "nd") rfl rfl)
local macro_rules | `(tactic| fail "ptF") => `(tactic| first | assumption | exact fz_put 0 (by fail "nd") rfl (Nat.le_of_ble_eq_true rfl) | exact fz_put 1 (by fail "nd") rfl (Nat.le_of_ble_eq_true rfl) | exact fz_put 2 (by fail "nd") rfl (Nat.le_of_ble_eq_true rfl) | exact fz_put 3 (by fail "nd") rfl (Nat.le_of_ble_eq_true rfl) | exact fz_put 4 (by fail "nd") rfl (Nat.le_of_ble_eq_true rfl) | exact fz_put 5 (by fail "nd") rfl (Nat.le_of_ble_eq_true rfl) | exact fz_put 6 (by fail "nd") rfl (Nat.le_of_ble_eq_true rfl) | exact fz_put 7 (by fail "nd") rfl (Nat.le_of_ble_eq_true rfl) | exact fz_new (by decide +kernel) rfl)
local macro_rules | `(tactic| fail "ptD") => `(tactic| first | assumption | exact dz_put 0 (by fail "nd") rfl (Nat.le_of_ble_eq_true rfl) | exact dz_put 1 (by fail "nd") rfl (Nat.le_of_ble_eq_true rfl) | exact dz_put 2 (by fail "nd") rfl (Nat.le_of_ble_eq_true rfl) | exact dz_put 3 (by fail "nd") rfl (Nat.le_of_ble_eq_true rfl) | exact dz_put 4 (by fail "nd") rfl (Nat.le_of_ble_eq_true rfl))
local macro_rules | `(tactic| fail "sz") => `(tactic| first | assumption | exact (Nat.le_of_ble_eq_true rfl) | omega | decide)
local macro_rules | `(tactic| fail "sd") => `(tactic| first | rfl | assumption | decide | omega | (dsimp only; first | decide | omega) | exact .inr ⟨by decide, by decide⟩ | exact .inl ⟨by decide, by decide⟩ | exact ⟨by omega, by omega⟩ | exact .inl ⟨by omega, by omega⟩ | exact .inr ⟨by omega, by omega⟩ | exact ⟨by omega, by omega, by omega⟩)
local macro_rules | `(tactic| fail "cl") => `(tactic| (clear hH; dsimp only [List.set, List.cons_append, List.nil_append, List.append] at hL))
local macro_rules | `(tactic| fail "gn") => `(tactic| (intro p hp; generalize hH : upd H p _ = H; replace hL := Led.newH hL hp hH; clear hH hp))
local macro_rules | `(tactic| fail "gup") => `(tactic| (generalize hH : upd H _ _ = H; replace hL := Led.upU hL (by fail "up") hH; fail "cl"))
local macro_rules | `(tactic| fail "gmk") => `(tactic| (intro x dx hx hd ne; generalize hH : upd (upd H dx _) x _ = H; replace hL := Led.made hL hx hd ne hH; clear hH hx hd ne))
local macro_rules | `(tactic| fail "v") => `(tactic| refine ⟨_, rfl, ?_⟩)
local macro_rules | `(tactic| fail "i2") => `(tactic| refine ⟨_, _, rfl, rfl, ?_⟩)
local macro_rules | `(tactic| fail "go1") => `(tactic| first
  | refine ⟨_, rfl, ?_⟩
  | refine ⟨_, _, rfl, rfl, ?_⟩
  | refine ⟨_, _, rfl, ?_⟩
  | refine iteT ?_
  | refine iteF ?_
  | refine k_fld hL (by fail "ix") (by assumption) (by assumption) (by fail "lkF") ?_
  | refine k_dgetS hL (by fail "ix") (by fail "lkD") ?_
  | refine k_dgetI hL (by fail "ix") (by assumption) ?_
  | refine k_ixL hL (by fail "ix") (by first | rfl | assumption) ?_
  | refine k_ixT hL (by fail "ix") (by first | rfl | assumption) ?_
  | refine k_tyL hL (by fail "ix") ?_
  | refine k_isd hL (by fail "ix") ?_
  | (refine And.intro (by fail "sz") ?_; fail "gn")
  | refine And.intro (by fail "sd") ?_
  | fail "gn"
  | refine k_meth hL (by fail "ix") (by first | assumption | exact fz_no (by decide +kernel)) ?_
  | refine k_gtup hL (by fail "ix") rfl ?_
  | (refine k_popI hL (by fail "ix") (by assumption) ?_; fail "gup")
  | (refine k_listD hL (by fail "ix") ?_; fail "gn")
  | (refine ⟨_, _, _, _, rfl, rfl, hL.at (by fail "ix"), rfl, ?_⟩; fail "gup")
  | (refine ⟨_, _, _, rfl, rfl, hL.at (by fail "ix"), (by fail "sz"), ?_⟩; fail "gup")
  | (refine ⟨_, _, _, _, rfl, hL.at (by fail "ix"), by assumption, by assumption, Nat.lt_of_le_of_lt fz_len (by decide), ?_⟩; generalize hH : upd H _ _ = H; replace hL := Led.upF hL (by fail "up") (by fail "ptF") hH; fail "cl")
  | (refine ⟨_, _, hL.at (by fail "ix"), Nat.lt_of_le_of_lt fz_len (by decide), ?_⟩; generalize hH : upd H _ _ = H; replace hL := Led.upF hL (by fail "up") (by fail "ptF") hH; fail "cl")
  | (refine k_dputS hL (by fail "ix") (Nat.lt_of_le_of_lt dz_len (by decide)) (by fail "ptD") (by fail "up") ?_; clear hL; intro H hL; dsimp only [List.set, List.cons_append, List.nil_append, List.append] at hL)
  | refine k_lenL2 hL (by fail "ix") ?_
  | refine k_lenT2 hL (by fail "ix") ?_
  | refine .inl ⟨_, rfl, ?_⟩
  | refine .inr ⟨_, rfl, ?_⟩)
local macro_rules | `(tactic| fail "go") => `(tactic| repeat fail "go1")
local macro_rules | `(tactic| fail "pm") => `(tactic| (refine Led.le hL (fun a_ => ?_); simp only [cnt_nil, cnt_cons, cnt_app, List.map_append, List.map_cons, List.map_nil, List.flatMap_append, List.flatMap_cons, List.flatMap_nil, List.append_assoc, List.cons_append, List.nil_append]; omega))

/-! ### the unpacker over any bytes: what it reads, or WireError -/
def spUByteX (CU CW : Addr) : Sp := fun vs H Q E => ∃ (u dx D : Addr) (i : Nat) (k : Int) (bs : List Int) (L : Lg), vs = [.ref u] ∧ Led H (uO CU u dx D i k :: L) ∧ (D, tI bs) ∈ L ∧
  (∀ b, bs[i]? = some b → ∀ H', Led H' (uO CU u dx D (i + 1) k :: L) → Q (.int b) H') ∧ (bs.length ≤ i → ∀ H', Led H' (uO CU u dx D i k :: L) → E (.ref CW) none H')
def isByte (b : Int) : Prop := 0 ≤ b ∧ b < 256
def spUNatX (CU CW : Addr) : Sp := fun vs H Q E => ∃ (u dx D : Addr) (i : Nat) (k : Int) (bs : List Int) (L : Lg), vs = [.ref u] ∧ Led H (uO CU u dx D i k :: L) ∧ (D, tI bs) ∈ L ∧ (∀ b ∈ bs, isByte b) ∧
  (∀ (n : Nat) rest H', bs.drop i = natB n ++ rest → Led H' (uO CU u dx D (i + (natB n).length) k :: L) → Q (.int n) H') ∧ (∀ (i' : Nat) H', Led H' (uO CU u dx D i' k :: L) → E (.ref CW) none H')
theorem drop_cons {α : Type} {bs : List α} {i : Nat} {b : α} (h : bs[i]? = some b) : bs.drop i = b :: bs.drop (i + 1) := by
  obtain ⟨h1, h2⟩ := List.getElem?_eq_some_iff.mp h
  rw [← h2]
  exact List.drop_eq_getElem_cons h1
section
variable {P : Program} {w : World} {K : PySem.W.Frag} {mg : Str → Option Value} {base : Heap} {CU CW : Addr}
theorem ok_UByteX {f : Addr} {fd : FuncData} (F : Fun K "byte" "Unpacker.byte" sUByte f fd) (X : TxtU K mg CU) (T : TxtW mg) (TE : ExcT K mg "WireError" CW) : FnOk P w K mg base (L2.CX P w) 1 f fd ["self"] (spUByteX CU CW) := by
  refine F.okX scUByte (fun vs H Q E h => ?_) (fun cdv A outer s H vs Q E hr h => ?_)
  · obtain ⟨u, dx, D, i, k, bs, L, rfl, _⟩ := h
    rfl
  · obtain ⟨u, dx, D, i, kk, bs, L, rfl, hL, hD, k1, k2⟩ := h
    have c1 := X.cl
    have f1 := X.n "data" (by decide +kernel)
    have f2 := X.n "place" (by decide +kernel)
    refine ⟨_, (pss_cons (ps_if (pt_cmpR op_ge (pe_fld (pv 0) rfl) (pe_callB call_len_seq (by rfl) T.len (by decide +kernel) (pa_cons (pe_fld (pv 0) rfl) pa_nil)) (nomark _))
  (pss_one (ps_raiseT TE rfl (takes_of rfl rfl rfl (E := E) rfl) rfl))
  pss_nil)
  (pss_cons (ps_fldaug (pv 0) pe_int in_add)
  (pss_one (ps_ret (pe_ix ix_tup (pe_fld (pv 0) rfl) (pe_op op_sub (pe_fld (pv 0) rfl) pe_int) (fun _ _ => rfl)))))), ?_⟩
    dsimp only [uO] at hL
    fail "go"
    refine ⟨D, _, rfl, .inr (.of (hL.tail.mem hD)), ?_⟩
    fail "go"
    refine ite_d (fun q => ?_) fun q => ?_
    · rw [List.length_map] at q
      fail "go"
      exact k2 (by omega) _ hL
    · rw [List.length_map] at q
      obtain ⟨b, hb⟩ : ∃ b, bs[i]? = some b := ⟨bs[i]'(by omega), List.getElem?_eq_getElem _⟩
      fail "go"
      have e1 : ((i : Int) + 1) - 1 = i := by omega
      refine k_ixT hL (at_mem (.tail _ hD)) (v := .int b) (by rw [e1]; exact atI_nat (by rw [List.getElem?_map, hb]; rfl)) ?_
      fail "go"
      exact k1 b hb _ hL
theorem ok_UNatX {f : Addr} {fd : FuncData} (F : Fun K "read_natural" "Unpacker.read_natural" sUNat f fd) (X : TxtU K mg CU) (TE : ExcT K mg "WireError" CW) (c_Unpacker_byte : MetX P w K mg base 1 CU "byte" (spUByteX CU CW) []) : FnOk P w K mg base (L2.CX P w) 2 f fd ["self"] (spUNatX CU CW) := by
  refine F.okX scUNat (fun vs H Q E h => ?_) (fun cdv A outer s H vs Q E hr h => ?_)
  · obtain ⟨u, dx, D, i, k, bs, L, rfl, _⟩ := h
    rfl
  · obtain ⟨u, dx, D, i, kk, bs, L, rfl, hL, hD, hby, k1, k2⟩ := h
    have c1 := X.cl
    refine ⟨_, (pss_cons (ps_asg (pe_tup (pa_cons pe_int (pa_cons pe_int pa_nil))) (pg_tup (by rfl) (pgs_cons (pg_name (i := 1) scUNat.nd rfl (Or.inl rfl)) (pgs_cons (pg_name (i := 2) scUNat.nd rfl (Or.inl rfl)) pgs_nil))))
  (pss_one (ps_while (passes_of rfl) (pt_val pe_bl)
  (pss_cons (ps_set (i := 3) scUNat.nd rfl (Or.inl rfl) (pe_mtX0 c_Unpacker_byte hr (by decide) (takes_of rfl rfl rfl (E := E) rfl) (pv 0)))
  (pss_cons (ps_aug (i := 1) scUNat.nd rfl (Or.inl rfl) (pe_op op_mul (pe_op op_mod (pv 3) pe_int) (pv 2)) ip_add)
  (pss_cons (ps_aug (i := 2) scUNat.nd rfl (Or.inl rfl) pe_int iop_mul)
  (pss_one (ps_if (pt_cmpR op_lt (pv 3) pe_int (nomark _))
  (pss_cons (ps_if (PW.pt (pw_and (pt_cmpR op_eq (pv 3) pe_int (nomark _)) (pw_and1 (pt_cmpR op_gt (pv 2) pe_int (nomark _)))))
  (pss_one (ps_raiseT TE rfl (takes_of rfl rfl rfl (E := E) rfl) rfl))
  pss_nil)
  (pss_one (ps_ret (pv 1))))
  pss_nil)))))))), ?_⟩
    fail "go"
    replace hL := hL.tail
    refine ⟨fun m σ H => Hold (∃ (v3 : Option V) (a wt j : Nat), m = bs.length - (i + j) ∧ σ = [some (.ref u), some (.int a), some (.int wt), v3] ∧ 1 ≤ wt ∧ (wt = 1 ∧ j = 0 ∨ 128 ≤ wt) ∧ (∀ n : Nat, (j = 0 ∨ 1 ≤ n) → natB (a + wt * n) = (bs.drop i).take j ++ natB n) ∧ Led H (uO CU u dx D (i + j) kk :: L)), ⟨_, .mk ⟨none, 0, 1, 0, rfl, rfl, by omega, .inl ⟨rfl, rfl⟩, fun n _ => by simp, hL⟩⟩, fun m σ H h => ?_⟩
    clear hL
    obtain ⟨v3, a, wt, j, rfl, rfl, hw1, hw, hn, hL⟩ := h.out
    clear h
    fail "go"
    refine ⟨fun σ' H' => Hold (i + j < bs.length ∧ ∃ (v3 : Option V) (a wt : Nat), σ' = [some (.ref u), some (.int a), some (.int wt), v3] ∧ 128 ≤ wt ∧ (∀ n : Nat, 1 ≤ n → natB (a + wt * n) = (bs.drop i).take (j + 1) ++ natB n) ∧ Led H' (uO CU u dx D (i + (j + 1)) kk :: L)), fun σ' H' h => ?_, ?_⟩
    · obtain ⟨q0, v3, a, wt, q1, q2, q3, q4⟩ := h.out
      exact ⟨bs.length - (i + (j + 1)), by omega, .mk ⟨v3, a, wt, j + 1, rfl, q1, by omega, .inr q2, fun n hn => q3 n (by omega), q4⟩⟩
    refine ⟨_, rfl, u, dx, _, rfl, hL.at ⟨0, rfl⟩, fz_no (by decide +kernel), ?_⟩
    refine ⟨u, dx, D, i + j, kk, bs, L, rfl, hL, hD, fun b hb H hL => ?_, fun _ H hL => k2 _ _ hL⟩
    obtain ⟨b0, b1⟩ := hby b (List.mem_of_getElem? hb)
    obtain ⟨m, rfl⟩ : ∃ m : Nat, b = m := ⟨b.toNat, by omega⟩
    have hlt := (List.getElem?_eq_some_iff.mp hb).1
    have htk : (bs.drop i).take (j + 1) = (bs.drop i).take j ++ [((m : Nat) : Int)] := by
      rw [List.take_add_one, List.getElem?_drop, hb]
      rfl
    have hdr : bs.drop i = (bs.drop i).take (j + 1) ++ bs.drop (i + (j + 1)) := by
      conv => lhs; rw [← List.take_append_drop (j + 1) (bs.drop i)]
      rw [List.drop_drop]
    have hln : ((bs.drop i).take (j + 1)).length = j + 1 := by rw [List.length_take, List.length_drop]; omega
    fail "go"
    refine ite_d (fun q => ?_) (fun q => ?_)
    · have e1 : (a : Int) + (m : Int) % 128 * (wt : Int) = ((a + wt * m : Nat) : Int) := by
        rw [Int.emod_eq_of_lt (by omega) (by omega), Int.mul_comm]
        push_cast
        rfl
      have fin : (j = 0 ∨ 1 ≤ m) → Q (.int ((a : Int) + (m : Int) % 128 * (wt : Int))) H := fun hm => by
        rw [e1]
        have h1 : natB (a + wt * m) = (bs.drop i).take (j + 1) := by rw [hn m hm, natB_lo (by omega), htk]
        refine k1 (a + wt * m) (bs.drop (i + (j + 1))) H ?_ ?_
        · rw [h1]; exact hdr
        · rw [h1, hln]; exact hL
      fail "go"
      refine ite_d (fun q1 => ?_) (fun q1 => ?_)
      · have q1 := V.int.inj q1
        fail "go"
        refine ite_d (fun q2 => ?_) (fun q2 => ?_)
        · fail "go"
          exact k2 _ _ hL
        · fail "go"
          exact fin (.inl (by omega))
      · have q1 : ¬ (m : Int) = 0 := fun z => q1 (by rw [z])
        fail "go"
        exact fin (.inr (by omega))
    · fail "go"
      refine .mk ⟨hlt, some (.int (m : Nat)), a + m % 128 * wt, wt * 128, ?_, by omega, fun n h1 => ?_, hL⟩
      · have e1 : ((m : Nat) : Int) % 128 = (m % 128 : Nat) := by omega
        dsimp only [List.set]
        rw [e1]
        rfl
      · have h2 : natB (m % 128 + 128 * n) = (m : Int) :: natB n := by
          rw [natB_hi (by omega)]
          have e1 : (m % 128 + 128 * n) % 128 = m % 128 := by omega
          have e2 : (m % 128 + 128 * n) / 128 = n := by omega
          rw [e1, e2]
          congr 1
          omega
        have e3 : a + m % 128 * wt + wt * 128 * n = a + wt * (m % 128 + 128 * n) := by
          rw [Nat.mul_add, Nat.mul_assoc, Nat.mul_comm (m % 128) wt]
          omega
        rw [e3, hn _ (.inr (by omega)), h2, htk, List.append_assoc]
        rfl
end
end Sd


set_option linter.unusedVariables false
namespace Sd
open PySem L2
open C8 (Cal Met Mak pe_c pe_mk pe_mt pe_mt0 pss_cut tCut)
-- TYPES X_Unpacker_byte=yes,X_Unpacker_read_natural=yes,RAISE=TE
set_option linter.unusedSimpArgs false
set_option pp.deepTerms false
set_option pp.deepTerms.threshold 12
set_option hygiene false
local macro_rules | `(tactic| fail "nd") => `(tactic| first | assumption | decide +kernel)
local macro_rules | `(tactic| fail "ix") => `(tactic| first | exact ⟨0, rfl⟩ | exact ⟨1, rfl⟩ | exact ⟨2, rfl⟩ | exact ⟨3, rfl⟩ | exact ⟨4, rfl⟩ | exact ⟨5, rfl⟩ | exact ⟨6, rfl⟩ | exact ⟨7, rfl⟩ | exact ⟨8, rfl⟩ | exact ⟨9, rfl⟩ | exact ⟨10, rfl⟩ | exact ⟨11, rfl⟩ | exact ⟨12, rfl⟩ | exact ⟨13, rfl⟩ | exact ⟨14, rfl⟩ | exact ⟨15, rfl⟩ | exact ⟨16, rfl⟩ | exact ⟨17, rfl⟩ | exact ⟨18, rfl⟩ | assumption)
local macro_rules | `(tactic| fail "up") => `(tactic| first | exact ⟨0, rfl, rfl⟩ | exact ⟨1, rfl, rfl⟩ | exact ⟨2, rfl, rfl⟩ | exact ⟨3, rfl, rfl⟩ | exact ⟨4, rfl, rfl⟩ | exact ⟨5, rfl, rfl⟩ | exact ⟨6, rfl, rfl⟩ | exact ⟨7, rfl, rfl⟩ | exact ⟨8, rfl, rfl⟩ | exact ⟨9, rfl, rfl⟩ | exact ⟨10, rfl, rfl⟩ | exact ⟨11, rfl, rfl⟩ | exact ⟨12, rfl, rfl⟩ | exact ⟨13, rfl, rfl⟩ | exact ⟨14, rfl, rfl⟩ | exact ⟨15, rfl, rfl⟩ | exact ⟨16, rfl, rfl⟩ | assumption)
local macro_rules | `(tactic| fail "lkF") => `(tactic| first | assumption | exact fz_at 0 (by fail "nd") rfl rfl | exact fz_at 1 (by fail "nd") rfl rfl | exact fz_at 2 (by fail "nd") rfl rfl | exact fz_at 3 (by fail "nd") rfl rfl | exact fz_at 4 (by fail "nd") rfl rfl | exact fz_at 5 (by fail "nd") rfl rfl | exact fz_at 6 (by fail "nd") rfl rfl | exact fz_at 7 (by fail "nd") rfl rfl)
local macro_rules | `(tactic| fail "lkD") => `(tactic| first | assumption | exact dz_at 0 (by fail "nd") rfl rfl | exact dz_at 1 (by fail "nd") rfl rfl | exact dz_at 2 (by fail "nd") rfl rfl | exact dz_at 3 (by fail "nd") rfl rfl | exact dz_at 4 (by fail "nd") rfl rfl)
local macro_rules | `(tactic| fail "ptF") => `(tactic| first | assumption | exact fz_put 0 (by fail "nd") rfl (Nat.le_of_ble_eq_true rfl) | exact fz_put 1 (by fail "nd") rfl (Nat.le_of_ble_eq_true rfl) | exact fz_put 2 (by fail "nd") rfl (Nat.le_of_ble_eq_true rfl) | exact fz_put 3 (by fail "nd") rfl (Nat.le_of_ble_eq_true rfl) | exact fz_put 4 (by fail "nd") rfl (Nat.le_of_ble_eq_true rfl) | exact fz_put 5 (by fail "nd") rfl (Nat.le_of_ble_eq_true rfl) | exact fz_put 6 (by fail "nd") rfl (Nat.le_of_ble_eq_true rfl) | exact fz_put 7 (by fail "nd") rfl (Nat.le_of_ble_eq_true rfl) | exact fz_new (by decide +kernel) rfl)
local macro_rules | `(tactic| fail "ptD") => `(tactic| first | assumption | exact dz_put 0 (by fail "nd") rfl (Nat.le_of_ble_eq_true rfl) | exact dz_put 1 (by fail "nd") rfl (Nat.le_of_ble_eq_true rfl) | exact dz_put 2 (by fail "nd") rfl (Nat.le_of_ble_eq_true rfl) | exact dz_put 3 (by fail "nd") rfl (Nat.le_of_ble_eq_true rfl) | exact dz_put 4 (by fail "nd") rfl (Nat.le_of_ble_eq_true rfl))
local macro_rules | `(tactic| fail "sz") => `(tactic| first | assumption | exact (Nat.le_of_ble_eq_true rfl) | omega | decide)
local macro_rules | `(tactic| fail "sd") => `(tactic| first | rfl | assumption | decide | omega | (dsimp only; first | decide | omega) | exact .inr ⟨by decide, by decide⟩ | exact .inl ⟨by decide, by decide⟩ | exact ⟨by omega, by omega⟩ | exact .inl ⟨by omega, by omega⟩ | exact .inr ⟨by omega, by omega⟩ | exact ⟨by omega, by omega, by omega⟩)
local macro_rules | `(tactic| fail "cl") => `(tactic| (clear hH; dsimp only [List.set, List.cons_append, List.nil_append, List.append] at hL))
local macro_rules | `(tactic| fail "gn") => `(tactic| (intro p hp; generalize hH : upd H p _ = H; replace hL := Led.newH hL hp hH; clear hH hp))
local macro_rules | `(tactic| fail "gup") => `(tactic| (generalize hH : upd H _ _ = H; replace hL := Led.upU hL (by fail "up") hH; fail "cl"))
local macro_rules | `(tactic| fail "gmk") => `(tactic| (intro x dx hx hd ne; generalize hH : upd (upd H dx _) x _ = H; replace hL := Led.made hL hx hd ne hH; clear hH hx hd ne))
local macro_rules | `(tactic| fail "v") => `(tactic| refine ⟨_, rfl, ?_⟩)
local macro_rules | `(tactic| fail "i2") => `(tactic| refine ⟨_, _, rfl, rfl, ?_⟩)
local macro_rules | `(tactic| fail "go1") => `(tactic| first
  | refine ⟨_, rfl, ?_⟩
  | refine ⟨_, _, rfl, rfl, ?_⟩
  | refine ⟨_, _, rfl, ?_⟩
  | refine iteT ?_
  | refine iteF ?_
  | refine k_fld hL (by fail "ix") (by assumption) (by assumption) (by fail "lkF") ?_
  | refine k_dgetS hL (by fail "ix") (by fail "lkD") ?_
  | refine k_dgetI hL (by fail "ix") (by assumption) ?_
  | refine k_ixL hL (by fail "ix") (by first | rfl | assumption) ?_
  | refine k_ixT hL (by fail "ix") (by first | rfl | assumption) ?_
  | refine k_tyL hL (by fail "ix") ?_
  | refine k_isd hL (by fail "ix") ?_
  | (refine And.intro (by fail "sz") ?_; fail "gn")
  | refine And.intro (by fail "sd") ?_
  | fail "gn"
  | refine k_meth hL (by fail "ix") (by first | assumption | exact fz_no (by decide +kernel)) ?_
  | refine k_gtup hL (by fail "ix") rfl ?_
  | (refine k_popI hL (by fail "ix") (by assumption) ?_; fail "gup")
  | (refine k_listD hL (by fail "ix") ?_; fail "gn")
  | (refine ⟨_, _, _, _, rfl, rfl, hL.at (by fail "ix"), rfl, ?_⟩; fail "gup")
  | (refine ⟨_, _, _, rfl, rfl, hL.at (by fail "ix"), (by fail "sz"), ?_⟩; fail "gup")
  | (refine ⟨_, _, _, _, rfl, hL.at (by fail "ix"), by assumption, by assumption, Nat.lt_of_le_of_lt fz_len (by decide), ?_⟩; generalize hH : upd H _ _ = H; replace hL := Led.upF hL (by fail "up") (by fail "ptF") hH; fail "cl")
  | (refine ⟨_, _, hL.at (by fail "ix"), Nat.lt_of_le_of_lt fz_len (by decide), ?_⟩; generalize hH : upd H _ _ = H; replace hL := Led.upF hL (by fail "up") (by fail "ptF") hH; fail "cl")
  | (refine k_dputS hL (by fail "ix") (Nat.lt_of_le_of_lt dz_len (by decide)) (by fail "ptD") (by fail "up") ?_; clear hL; intro H hL; dsimp only [List.set, List.cons_append, List.nil_append, List.append] at hL)
  | refine k_lenL2 hL (by fail "ix") ?_
  | refine k_lenT2 hL (by fail "ix") ?_
  | refine .inl ⟨_, rfl, ?_⟩
  | refine .inr ⟨_, rfl, ?_⟩)
local macro_rules | `(tactic| fail "go") => `(tactic| repeat fail "go1")
local macro_rules | `(tactic| fail "pm") => `(tactic| (refine Led.le hL (fun a_ => ?_); simp only [cnt_nil, cnt_cons, cnt_app, List.map_append, List.map_cons, List.map_nil, List.flatMap_append, List.flatMap_cons, List.flatMap_nil, List.append_assoc, List.cons_append, List.nil_append]; omega))

def spUTextX (CU CW : Addr) : Sp := fun vs H Q E => ∃ (u dx D : Addr) (i : Nat) (k : Int) (bs : List Int) (L : Lg), vs = [.ref u] ∧ Led H (uO CU u dx D i k :: L) ∧ (D, tI bs) ∈ L ∧ (∀ b ∈ bs, isByte b) ∧ bs.length ≤ sizeLine ∧
  (∀ (z : Str) rest H', bs.drop i = natB z.length ++ (signs z ++ rest) → (∀ c ∈ z.cps.toList, goodS c) → Led H' (uO CU u dx D (i + ((natB z.length).length + (signs z).length)) k :: L) → Q (.str z) H') ∧ (∀ (i' : Nat) H', Led H' (uO CU u dx D i' k :: L) → E (.ref CW) none H')
theorem signs_ix : ∀ k : Fin 95, ∃ c, SIGNS.cps[k.val]? = some c ∧ Txt.find SIGNS ⟨#[c]⟩ = (k.val : Int) := by
  have : ∀ k : Fin 95, (SIGNS.cps[k.val]?.any fun c => decide (Txt.find SIGNS ⟨#[c]⟩ = (k.val : Int))) = true := by decide +kernel
  intro k
  have h := this k
  cases e : SIGNS.cps[k.val]? with
  | none => rw [e] at h; cases h
  | some c =>
    rw [e] at h
    exact ⟨c, rfl, of_decide_eq_true h⟩
theorem signs_len : SIGNS.length = 95 := by decide +kernel
theorem sign_at {b : Nat} (h : b < 95) : ∃ c, SIGNS.cps[b]? = some c ∧ Txt.find SIGNS ⟨#[c]⟩ = (b : Int) ∧ goodS c := by
  obtain ⟨c, h1, h2⟩ := signs_ix ⟨b, h⟩
  refine ⟨c, h1, h2, ?_, ?_⟩
  · rw [h2]; exact Int.natCast_nonneg _
  · rw [h2, Int.toNat_natCast]; exact h1
section
variable {P : Program} {w : World} {K : PySem.W.Frag} {mg : Str → Option Value} {base : Heap} {CU CW : Addr}
theorem ok_UTextX {f : Addr} {fd : FuncData} (F : Fun K "text" "Unpacker.text" sUText f fd) (X : TxtU K mg CU) (T : TxtW mg) (TE : ExcT K mg "WireError" CW) (c_Unpacker_byte : MetX P w K mg base 1 CU "byte" (spUByteX CU CW) []) (c_Unpacker_read_natural : MetX P w K mg base 2 CU "read_natural" (spUNatX CU CW) []) : FnOk P w K mg base (L2.CX P w) 3 f fd ["self"] (spUTextX CU CW) := by
  refine F.okX scUText (fun vs H Q E h => ?_) (fun cdv A outer s H vs Q E hr h => ?_)
  · obtain ⟨u, dx, D, i, k, bs, L, rfl, _⟩ := h
    rfl
  · obtain ⟨u, dx, D, i, kk, bs, L, rfl, hL, hD, hby, hz, k1, k2⟩ := h
    have c1 := X.cl
    have f1 := X.n "data" (by decide +kernel)
    refine ⟨_, (pss_cons (ps_set (i := 1) scUText.nd rfl (Or.inl rfl) (pe_mtX0 c_Unpacker_read_natural hr (by decide) (takes_of rfl rfl rfl (E := E) rfl) (pv 0)))
  (pss_cons (ps_if (pt_cmpR op_gt (pv 1) (pe_callB call_len_seq (by rfl) T.len (by decide +kernel) (pa_cons (pe_fld (pv 0) rfl) pa_nil)) (nomark _))
  (pss_one (ps_raiseT TE rfl (takes_of rfl rfl rfl (E := E) rfl) rfl))
  pss_nil)
  (pss_cons (ps_set (i := 2) scUText.nd rfl (Or.inl rfl) pe_str)
  (pss_cons (ps_for (passes_of rfl) rfl (pi_range1 (by rfl) T.range (pa_cons (pv 1) pa_nil)) (pg_name (i := 3) scUText.nd rfl (Or.inl rfl))
  (pss_cons (ps_set (i := 4) scUText.nd rfl (Or.inl rfl) (pe_mtX0 c_Unpacker_byte hr (by decide) (takes_of rfl rfl rfl (E := E) rfl) (pv 0)))
  (pss_cons (ps_if (pt_cmpR op_ge (pv 4) (pe_callB call_len_str (by rfl) T.len (by decide +kernel) (pa_cons (C8.pe_gc (by rfl) T.g_SIGNS) pa_nil)) (nomark _))
  (pss_one (ps_raiseT TE rfl (takes_of rfl rfl rfl (E := E) rfl) rfl))
  pss_nil)
  (pss_one (ps_aug (i := 2) scUText.nd rfl (Or.inl rfl) (pe_ix ix_str (C8.pe_gc (by rfl) T.g_SIGNS) (pv 4) (fun _ _ => rfl)) iop_add_str)))))
  (pss_one (ps_ret (pv 2))))))), ?_⟩
    fail "go"
    refine ⟨u, dx, D, i, kk, bs, L, rfl, hL, hD, hby, fun n rest H hb hL => ?_, fun i' H hL => k2 _ _ hL⟩
    fail "go"
    dsimp only [uO] at hL
    fail "go"
    refine ⟨D, _, rfl, .inr (.of (hL.tail.mem hD)), ?_⟩
    fail "go"
    refine ite_d (fun q => ?_) fun q => ?_
    · fail "go"
      exact k2 _ _ hL
    rw [List.length_map] at q
    have hn : n ≤ bs.length := by omega
    fail "go"
    refine ⟨Int.lt_of_le_of_lt (Int.ofNat_le.mpr (Nat.le_trans hn hz)) (by decide), ?_⟩
    have hdr : bs.drop (i + (natB n).length) = rest := by rw [← List.drop_drop, hb]; exact List.drop_left
    refine for_rangeA (lo := 0) (n := (n : Int).toNat) (fun j σ H => Hold (∃ (v3 v4 : Option V) (zs : List Nat), σ = [some (.ref u), some (.int n), some (.str ⟨zs.toArray⟩), v3, v4] ∧ zs.length = j ∧ (∀ c ∈ zs, goodS c) ∧ rest.take j = zs.map (fun c => Txt.find SIGNS ⟨#[c]⟩) ∧ Led H (uO CU u dx D (i + (natB n).length + j) kk :: L)))
      (.mk ⟨_, _, [], rfl, rfl, fun c h => (nomatch h), rfl, hL⟩) (fun j σ H D1 hj h hD1 => ?_) (fun σ H h => ?_)
    · clear hL
      obtain ⟨v3, v4, zs, rfl, hzs, hg, ht, hL⟩ := h.out
      clear h
      rw [Int.toNat_natCast] at hj
      refine ⟨_, rfl, u, dx, _, rfl, hL.at ⟨0, rfl⟩, fz_no (by decide +kernel), ?_⟩
      refine ⟨u, dx, D, _, kk, bs, L, rfl, hL, hD, fun b hb2 H hL => ?_, fun _ H hL => k2 _ _ hL⟩
      obtain ⟨b0, b1⟩ := hby b (List.mem_of_getElem? hb2)
      obtain ⟨m, rfl⟩ : ∃ m : Nat, b = m := ⟨b.toNat, by omega⟩
      fail "go"
      refine ite_d (fun q => ?_) fun q => ?_
      · fail "go"
        exact k2 _ _ hL
      have sl := signs_len
      obtain ⟨c, c2, c3, c4⟩ := sign_at (b := m) (by omega)
      fail "go"
      refine ⟨SIGNS, _, c, rfl, rfl, by decide, ?_, ?_⟩
      · exact atI_nat (by rw [Array.getElem?_toList]; exact c2)
      · refine ⟨_, _, rfl, rfl, ?_, hD1.nx _ _ (.mk ⟨some (.int (0 + j)), some (.int (m : Nat)), zs ++ [c], ?_, ?_, ?_, ?_, hL⟩)⟩
        · have h1 : (⟨zs.toArray⟩ : Str).length = j := by
            show zs.toArray.size = j
            rw [List.size_toArray, hzs]
          have h2 : (⟨#[c]⟩ : Str).length = 1 := rfl
          rw [h1, h2]
          omega
        · have h1 : (⟨zs.toArray⟩ : Str) ++ (⟨#[c]⟩ : Str) = ⟨(zs ++ [c]).toArray⟩ := by
            show (⟨zs.toArray ++ #[c]⟩ : Str) = _
            simp
          rw [h1]
          rfl
        · rw [List.length_append, hzs]; rfl
        · intro x hx
          rcases List.mem_append.mp hx with hx | hx
          · exact hg x hx
          · rw [List.mem_singleton.mp hx]; exact c4
        · rw [List.take_add_one, ht, List.map_append]
          congr 1
          have : rest[j]? = some ((m : Nat) : Int) := by rw [← hdr, List.getElem?_drop]; exact hb2
          rw [this]
          show [((m : Nat) : Int)] = [Txt.find SIGNS ⟨#[c]⟩]
          rw [c3]
    · obtain ⟨v3, v4, zs, rfl, hzs, hg, ht, hL⟩ := h.out
      clear h
      rw [Int.toNat_natCast] at hzs ht hL
      fail "go"
      have hzl : (⟨zs.toArray⟩ : Str).length = n := by
        show zs.toArray.size = n
        rw [List.size_toArray, hzs]
      have hsg : signs ⟨zs.toArray⟩ = rest.take n := by
        unfold signs
        rw [ht]
      have hsl : (signs ⟨zs.toArray⟩).length = n := by
        unfold signs
        rw [List.length_map]
        exact hzs
      refine k1 ⟨zs.toArray⟩ (rest.drop n) H ?_ (fun c hc => hg c hc) ?_
      · rw [hzl, hsg, List.take_append_drop, hb]
      · rw [hzl, hsl, ← Nat.add_assoc]
        exact hL
end
end Sd


set_option linter.unusedVariables false
namespace Sd
open PySem L2
open C8 (Cal Met Mak pe_c pe_mk pe_mt pe_mt0 pss_cut tCut)
-- TYPES FRZ=
set_option linter.unusedSimpArgs false
set_option pp.deepTerms false
set_option pp.deepTerms.threshold 12
set_option hygiene false
local macro_rules | `(tactic| fail "nd") => `(tactic| first | assumption | decide +kernel)
local macro_rules | `(tactic| fail "ix") => `(tactic| first | exact ⟨0, rfl⟩ | exact ⟨1, rfl⟩ | exact ⟨2, rfl⟩ | exact ⟨3, rfl⟩ | exact ⟨4, rfl⟩ | exact ⟨5, rfl⟩ | exact ⟨6, rfl⟩ | exact ⟨7, rfl⟩ | exact ⟨8, rfl⟩ | exact ⟨9, rfl⟩ | exact ⟨10, rfl⟩ | exact ⟨11, rfl⟩ | exact ⟨12, rfl⟩ | exact ⟨13, rfl⟩ | exact ⟨14, rfl⟩ | exact ⟨15, rfl⟩ | exact ⟨16, rfl⟩ | exact ⟨17, rfl⟩ | exact ⟨18, rfl⟩ | assumption)
local macro_rules | `(tactic| fail "up") => `(tactic| first | exact ⟨0, rfl, rfl⟩ | exact ⟨1, rfl, rfl⟩ | exact ⟨2, rfl, rfl⟩ | exact ⟨3, rfl, rfl⟩ | exact ⟨4, rfl, rfl⟩ | exact ⟨5, rfl, rfl⟩ | exact ⟨6, rfl, rfl⟩ | exact ⟨7, rfl, rfl⟩ | exact ⟨8, rfl, rfl⟩ | exact ⟨9, rfl, rfl⟩ | exact ⟨10, rfl, rfl⟩ | exact ⟨11, rfl, rfl⟩ | exact ⟨12, rfl, rfl⟩ | exact ⟨13, rfl, rfl⟩ | exact ⟨14, rfl, rfl⟩ | exact ⟨15, rfl, rfl⟩ | exact ⟨16, rfl, rfl⟩ | assumption)
local macro_rules | `(tactic| fail "lkF") => `(tactic| first | assumption | exact fz_at 0 (by fail "nd") rfl rfl | exact fz_at 1 (by fail "nd") rfl rfl | exact fz_at 2 (by fail "nd") rfl rfl | exact fz_at 3 (by fail "nd") rfl rfl | exact fz_at 4 (by fail "nd") rfl rfl | exact fz_at 5 (by fail "nd") rfl rfl | exact fz_at 6 (by fail "nd") rfl rfl | exact fz_at 7 (by fail "nd") rfl rfl)
local macro_rules | `(tactic| fail "lkD") => `(tactic| first | assumption | exact dz_at 0 (by fail "nd") rfl rfl | exact dz_at 1 (by fail "nd") rfl rfl | exact dz_at 2 (by fail "nd") rfl rfl | exact dz_at 3 (by fail "nd") rfl rfl | exact dz_at 4 (by fail "nd") rfl rfl)
local macro_rules | `(tactic| fail "ptF") => `(tactic| first | assumption | exact fz_put 0 (by fail "nd") rfl (Nat.le_of_ble_eq_true rfl) | exact fz_put 1 (by fail "nd") rfl (Nat.le_of_ble_eq_true rfl) | exact fz_put 2 (by fail "nd") rfl (Nat.le_of_ble_eq_true rfl) | exact fz_put 3 (by fail "nd") rfl (Nat.le_of_ble_eq_true rfl) | exact fz_put 4 (by fail "nd") rfl (Nat.le_of_ble_eq_true rfl) | exact fz_put 5 (by fail "nd") rfl (Nat.le_of_ble_eq_true rfl) | exact fz_put 6 (by fail "nd") rfl (Nat.le_of_ble_eq_true rfl) | exact fz_put 7 (by fail "nd") rfl (Nat.le_of_ble_eq_true rfl) | exact fz_new (by decide +kernel) rfl)
local macro_rules | `(tactic| fail "ptD") => `(tactic| first | assumption | exact dz_put 0 (by fail "nd") rfl (Nat.le_of_ble_eq_true rfl) | exact dz_put 1 (by fail "nd") rfl (Nat.le_of_ble_eq_true rfl) | exact dz_put 2 (by fail "nd") rfl (Nat.le_of_ble_eq_true rfl) | exact dz_put 3 (by fail "nd") rfl (Nat.le_of_ble_eq_true rfl) | exact dz_put 4 (by fail "nd") rfl (Nat.le_of_ble_eq_true rfl))
local macro_rules | `(tactic| fail "sz") => `(tactic| first | assumption | exact (Nat.le_of_ble_eq_true rfl) | omega | decide)
local macro_rules | `(tactic| fail "sd") => `(tactic| first | rfl | assumption | decide | omega | (dsimp only; first | decide | omega) | exact .inr ⟨by decide, by decide⟩ | exact .inl ⟨by decide, by decide⟩ | exact ⟨by omega, by omega⟩ | exact .inl ⟨by omega, by omega⟩ | exact .inr ⟨by omega, by omega⟩ | exact ⟨by omega, by omega, by omega⟩)
local macro_rules | `(tactic| fail "cl") => `(tactic| (clear hH; dsimp only [List.set, List.cons_append, List.nil_append, List.append] at hL))
local macro_rules | `(tactic| fail "gn") => `(tactic| (intro p hp; generalize hH : upd H p _ = H; replace hL := Led.newH hL hp hH; clear hH hp))
local macro_rules | `(tactic| fail "gup") => `(tactic| (generalize hH : upd H _ _ = H; replace hL := Led.upU hL (by fail "up") hH; fail "cl"))
local macro_rules | `(tactic| fail "gmk") => `(tactic| (intro x dx hx hd ne; generalize hH : upd (upd H dx _) x _ = H; replace hL := Led.made hL hx hd ne hH; clear hH hx hd ne))
local macro_rules | `(tactic| fail "v") => `(tactic| refine ⟨_, rfl, ?_⟩)
local macro_rules | `(tactic| fail "i2") => `(tactic| refine ⟨_, _, rfl, rfl, ?_⟩)
local macro_rules | `(tactic| fail "go1") => `(tactic| first
  | refine ⟨_, rfl, ?_⟩
  | refine ⟨_, _, rfl, rfl, ?_⟩
  | refine ⟨_, _, rfl, ?_⟩
  | refine iteT ?_
  | refine iteF ?_
  | refine k_fld hL (by fail "ix") (by assumption) (by assumption) (by fail "lkF") ?_
  | refine k_dgetS hL (by fail "ix") (by fail "lkD") ?_
  | refine k_dgetI hL (by fail "ix") (by assumption) ?_
  | refine k_ixL hL (by fail "ix") (by first | rfl | assumption) ?_
  | refine k_ixT hL (by fail "ix") (by first | rfl | assumption) ?_
  | refine k_tyL hL (by fail "ix") ?_
  | refine k_isd hL (by fail "ix") ?_
  | (refine And.intro (by fail "sz") ?_; fail "gn")
  | refine And.intro (by fail "sd") ?_
  | fail "gn"
  | refine k_meth hL (by fail "ix") (by first | assumption | exact fz_no (by decide +kernel)) ?_
  | refine k_gtup hL (by fail "ix") rfl ?_
  | (refine k_popI hL (by fail "ix") (by assumption) ?_; fail "gup")
  | (refine k_listD hL (by fail "ix") ?_; fail "gn")
  | (refine ⟨_, _, _, _, rfl, rfl, hL.at (by fail "ix"), rfl, ?_⟩; fail "gup")
  | (refine ⟨_, _, _, rfl, rfl, hL.at (by fail "ix"), (by fail "sz"), ?_⟩; fail "gup")
  | (refine ⟨_, _, _, _, rfl, hL.at (by fail "ix"), by assumption, by assumption, Nat.lt_of_le_of_lt fz_len (by decide), ?_⟩; generalize hH : upd H _ _ = H; replace hL := Led.upF hL (by fail "up") (by fail "ptF") hH; fail "cl")
  | (refine ⟨_, _, hL.at (by fail "ix"), Nat.lt_of_le_of_lt fz_len (by decide), ?_⟩; generalize hH : upd H _ _ = H; replace hL := Led.upF hL (by fail "up") (by fail "ptF") hH; fail "cl")
  | (refine k_dputS hL (by fail "ix") (Nat.lt_of_le_of_lt dz_len (by decide)) (by fail "ptD") (by fail "up") ?_; clear hL; intro H hL; dsimp only [List.set, List.cons_append, List.nil_append, List.append] at hL)
  | refine k_lenL2 hL (by fail "ix") ?_
  | refine k_lenT2 hL (by fail "ix") ?_
  | refine .inl ⟨_, rfl, ?_⟩
  | refine .inr ⟨_, rfl, ?_⟩)
local macro_rules | `(tactic| fail "go") => `(tactic| repeat fail "go1")
local macro_rules | `(tactic| fail "pm") => `(tactic| (refine Led.le hL (fun a_ => ?_); simp only [cnt_nil, cnt_cons, cnt_app, List.map_append, List.map_cons, List.map_nil, List.flatMap_append, List.flatMap_cons, List.flatMap_nil, List.append_assoc, List.cons_append, List.nil_append]; omega))

/-! pack, its depth counted by its calls -/
mutual
def dpc : Dv → Nat
  | .row ds => dpcs ds
  | _ => 0
def dpcs : List Dv → Nat
  | [] => 0
  | d :: ds => max (dpc d + 1) (dpcs ds)
end
theorem dpcs_get {ds : List Dv} {i : Nat} {d : Dv} (h : ds[i]? = some d) : dpc d + 1 ≤ dpcs ds := by
  induction ds generalizing i with
  | nil => simp at h
  | cons e r ih =>
    rw [dpcs]
    cases i with
    | zero =>
      rw [List.getElem?_cons_zero] at h
      cases h
      omega
    | succ i =>
      rw [List.getElem?_cons_succ] at h
      have := ih h
      omega
theorem dpcs_snoc {ds : List Dv} {d : Dv} : dpcs (ds ++ [d]) = max (dpcs ds) (dpc d + 1) := by
  induction ds with
  | nil => simp [dpcs]
  | cons e r ih => rw [List.cons_append, dpcs, dpcs, ih]; omega
theorem send_snoc {ds : List Dv} {d : Dv} (h : sendables ds) (h1 : sendable d) : sendables (ds ++ [d]) := by
  induction ds with
  | nil => rw [List.nil_append, sendables]; exact ⟨h1, trivial⟩
  | cons e r ih =>
    rw [sendables] at h
    rw [List.cons_append, sendables]
    exact ⟨h.1, ih h.2⟩
theorem packs_snoc {ds : List Dv} {d : Dv} : packsB (ds ++ [d]) = packsB ds ++ packB d := by
  induction ds with
  | nil => simp [packsB]
  | cons e r ih => rw [List.cons_append, packsB, packsB, ih, List.append_assoc]
def spPackC (PN : Addr) (n : Nat) : Sp := fun vs H Q _ => ∃ (v : V) (c : Int) (d : Dv) (ps : Array Value) (L : Lg), vs = [v, .int c] ∧ Led H ((PN, .tbl ps) :: L) ∧ TriplesOk ps.toList ∧ DL L v d ∧ dpc d < n ∧ 0 ≤ c ∧ c + dpc d ≤ 30 ∧ sendable d ∧ (packB d).length ≤ sizeLine ∧
  ∀ (ps' : Array Value) r H', TriplesOk ps'.toList → Led H' ((r, tI (packB d)) :: (PN, .tbl ps') :: L) → Q (.ref r) H'
section
variable {P : Program} {w : World} {K : PySem.W.Frag} {mg : Str → Option Value} {base : Heap}
theorem ok_packC {f c PN : Addr} {oc dV : Value} {od : Option Addr} {osl : Array (Option Value)} {kV doc pm ct : Value} {an : Option Addr} {ds : List Value}
    (lk : K.lookup f = some ⟨oc, od, .func (PySem.W.fnOf "pack" "pack" (defArgs sPack) (defBody sPack) (defScope sPack) dV kV doc pm an (.ref c) ct), osl⟩) (hcd : PySem.W.codeIn K (.ref c) "pack" = true) (TB : GxR.TabB base mg c PN) (T : TxtW mg)
    (hm : mg "pack" = some (.ref f)) (kp : PySem.W.keepIn K (.ref f) = true) (b : Binds K (PySem.W.fnOf "pack" "pack" (defArgs sPack) (defBody sPack) (defScope sPack) dV kV doc pm an (.ref c) ct) ["value", "depth"] [])
    (c_natural : Cal P w K mg base 1 "natural" spNatural []) (c_sign_number : Cal P w K mg base 1 "sign_number" spSignN []) (n : Nat) :
    FnOk P w K mg base CX0 (5 + n) f (PySem.W.fnOf "pack" "pack" (defArgs sPack) (defBody sPack) (defScope sPack) dV kV doc pm an (.ref c) ct) ["value", "depth"] (spPackC PN n) := by
  induction n with
  | zero => exact no_ok fun vs H Q E ⟨_, _, _, _, _, _, _, _, _, h, _⟩ => absurd h (Nat.not_lt_zero _)
  | succ n ih =>
    have c_pack_all : Cal P w K mg base (5 + n) "pack" (spPackC PN n) [] := ⟨_, _, _, [], ih, hm, kp, b, .nil⟩
    refine fn_of lk hcd scPack (fun vs H Q E h => ?_) fun A outer s H vs Q E hr h => ?_
    · obtain ⟨v, i, d, ps, L, rfl, _⟩ := h
      rfl
    · obtain ⟨v, i, d, ps, L, rfl, hL, ht, hd, hn, h0, h30, hs, hz, k⟩ := h
      replace hr : Room (5 + n) _ := hr
      have hr1 : Room 2 _ := hr.mono (by omega)
      have hr5 : Room 5 _ := hr.mono (by omega)
      refine ⟨_, ((pss_cons (ps_if (pt_cmpR op_gt (pv 1) (C8.pe_gc (by rfl) T.g_MOST_DEEP) (nomark _))
  pss_never
  pss_nil)
  (pss_cons (ps_if (pt_cmpR op_isN (pv 0) pe_non (nomark _))
  (pss_one (ps_ret (pe_tup (pa_cons (C8.pe_gc (by rfl) T.g_NONE) pa_nil))))
  pss_nil)
  (pss_cons (ps_if (PW.pt (pw_or (pt_cmpR op_isB (pv 0) pe_bl (nomark _)) (pw_or1 (pt_cmpR op_isB (pv 0) pe_bl (nomark _)))))
  (pss_one (ps_ret (pe_tup (pa_cons (pe_ifExp (pt_truth (pv 0) (by intro _; rfl)) (C8.pe_gc (by rfl) T.g_TRUE) (C8.pe_gc (by rfl) T.g_FALSE)) pa_nil))))
  pss_nil)
  (pss_cons (ps_if (pt_val (pe_callB call_isi (by rfl) T.isinstance (by decide +kernel) (pa_cons (pv 0) (pa_cons (pe_bltn (v := .ty "int") (by rfl) T.int (show bootBuiltins _ = some (.type "int") by decide +kernel) rfl) pa_nil))))
  (pss_one (ps_ret (pe_ifExp (pt_cmpR op_ge (pv 0) pe_int (nomark _)) (pe_op (op_catA) (pe_tup (pa_cons (C8.pe_gc (by rfl) T.g_NUMBER) pa_nil)) (pe_c c_natural hr (by omega) (by rfl) (pa_cons (pv 0) pa_nil))) (pe_op (op_catA) (pe_tup (pa_cons (C8.pe_gc (by rfl) T.g_BELOW) pa_nil)) (pe_c c_natural hr (by omega) (by rfl) (pa_cons (pe_op op_sub (pe_op op_sub pe_int (pv 0)) pe_int) pa_nil))))))
  pss_nil)
  (pss_cons (ps_if (pt_val (pe_callB call_isi (by rfl) T.isinstance (by decide +kernel) (pa_cons (pv 0) (pa_cons (pe_bltn (v := .ty "str") (by rfl) T.str (show bootBuiltins _ = some (.type "str") by decide +kernel) rfl) pa_nil))))
  (pss_one (ps_ret (pe_op (op_catA) (pe_op (op_catA) (pe_tup (pa_cons (C8.pe_gc (by rfl) T.g_TEXT) pa_nil)) (pe_c c_natural hr (by omega) (by rfl) (pa_cons (pe_callB call_len_str (by rfl) T.len (by decide +kernel) (pa_cons (pv 0) pa_nil)) pa_nil))) (Gx.pe_tupleG (Gx.pgen_gx (own := [("sign", 2)]) (g := gName 2) hr1 TB rfl scPack.nd (pi_str (pv 0)) (Gx.gxOk_by (own := [("sign", 2)]) (N := ["value", "depth", "sign", "found", "part"]) (sc := (defScope sPack)) (by decide +kernel)) (fun _ _ _ _ _ _ _ _ _ => (pg_name (i := 2) scPack.nd rfl (Or.inl rfl))) (fun _ _ _ _ _ _ _ _ hr => pts_nil) (fun _ _ _ _ _ _ _ _ hr => (pe_c c_sign_number hr (by omega) (by rfl) (pa_cons (pv 2) pa_nil))) (fun _ => rfl)) hr5 (by rfl) T.tuple))))
  pss_nil)
  (pss_cons (ps_if (pt_val (pe_callB call_isi (by rfl) T.isinstance (by decide +kernel) (pa_cons (pv 0) (pa_cons (pe_bltn (v := .ty "tuple") (by rfl) T.tuple (show bootBuiltins _ = some (.type "tuple") by decide +kernel) rfl) pa_nil))))
  (pss_cons (ps_set (i := 3) scPack.nd rfl (Or.inl rfl) (pe_op (op_catA) (pe_tup (pa_cons (C8.pe_gc (by rfl) T.g_ROW) pa_nil)) (pe_c c_natural hr (by omega) (by rfl) (pa_cons (pe_callB call_len_seq (by rfl) T.len (by decide +kernel) (pa_cons (pv 0) pa_nil)) pa_nil))))
  (pss_cons (ps_for PassesOwn.never rfl (pi_tup (pv 0)) (pg_name (i := 4) scPack.nd rfl (Or.inl rfl))
  (pss_one (ps_aug (i := 3) scPack.nd rfl (Or.inl rfl) (pe_c c_pack_all hr (by omega) (by rfl) (pa_cons (pv 4) (pa_cons (pe_op op_add (pv 1) pe_int) pa_nil))) iop_catA)))
  (pss_one (ps_ret (pv 3)))))
  pss_nil)
  pss_never))))))).nox, ?_⟩


      fail "go"
      refine ite_d (fun q => absurd q (by omega)) fun _ => ?_
      fail "go"
      cases hd with
      | non =>
        fail "go"
        exact k ps _ _ ht hL
      | bl bb =>
        cases bb with
        | true =>
          fail "go"
          exact k ps _ _ ht hL
        | false =>
          fail "go"
          exact k ps _ _ ht hL
      | int j =>
        fail "go"
        refine ⟨_, _, _, _, true, rfl, .ty _, .base (.int j), kit_ty (by decide +kernel), ?_⟩
        fail "go"
        unfold packB at hz
        refine ite_d (fun hj => ?_) fun hj => ?_
        · rw [if_pos hj] at hz
          fail "go"
          obtain ⟨m, rfl⟩ : ∃ m : Nat, j = m := ⟨j.toNat, by omega⟩
          refine ⟨m, _, rfl, hL, by simp only [List.length_cons, Int.toNat_natCast] at hz; omega, fun r H hL => ?_⟩
          refine k_catA (hL.sub (.refl _)) (by simp only [List.length_cons, List.length_map, Int.toNat_natCast, List.length_nil] at hz ⊢; omega) fun r H hL => k ps _ _ ht ?_
          unfold packB
          rw [if_pos hj]
          exact hL
        · rw [if_neg hj] at hz
          fail "go"
          obtain ⟨m, hm1⟩ : ∃ m : Nat, 0 - j - 1 = m := ⟨(0 - j - 1).toNat, by omega⟩
          rw [hm1] at hz
          refine ⟨m, _, congrArg (fun x => [V.int x]) hm1, hL, by simp only [List.length_cons, Int.toNat_natCast] at hz; omega, fun r H hL => ?_⟩
          refine k_catA (hL.sub (.refl _)) (by simp only [List.length_cons, List.length_map, Int.toNat_natCast, List.length_nil] at hz ⊢; omega) fun r H hL => k ps _ _ ht ?_
          unfold packB
          rw [if_neg hj, hm1]
          exact hL
      | str z =>
        fail "go"
        refine ⟨_, _, _, _, false, rfl, .ty _, .base (.str z), kit_ty (by decide +kernel), ?_⟩
        fail "go"
        refine ⟨_, _, _, _, true, rfl, .ty _, .base (.str z), kit_ty (by decide +kernel), ?_⟩
        fail "go"
        unfold packB at hz
        simp only [List.length_cons, List.length_append] at hz
        have hsz : (signs z).length = z.length := by unfold signs; rw [List.length_map, Array.length_toList]; rfl
        refine ⟨by omega, z.length, _, rfl, hL, by omega, fun r H hL => ?_⟩
        refine k_catA (hL.sub (.refl _)) (by simp only [List.length_cons, List.length_map, List.length_nil]; omega) fun r H hL => ?_
        refine ⟨.str z, rfl, z, rfl, ⟨ps, hL.at ⟨1, rfl⟩, ht⟩, fun H2 hT => ?_⟩
        obtain ⟨ps', ht', hL⟩ := Led.tabbed (A := [_]) hL hT
        dsimp only [List.cons_append, List.nil_append, List.append] at hL
        clear hT
        refine Gx.gx_it (walk_str (z := z)) (fun i out H => Hold (out = ((signs z).take i).map V.int ∧ Led H ((r, .tup ([V.int 6] ++ (natB z.length).map V.int)) :: (PN, .tbl ps') :: L))) (.mk ⟨rfl, hL⟩) (fun i out H _ h => True.intro) (fun i x out H H' hi h hy => ?_) (fun out H h => ?_)
        · obtain ⟨rfl, hL⟩ := h.out
          clear h
          obtain ⟨rfl, ch, hc, rfl⟩ := hy
          have hg : (signs z)[i]? = some (Txt.find SIGNS ⟨#[ch]⟩) := by
            unfold signs
            rw [List.getElem?_map, Array.getElem?_toList, hc]
            rfl
          refine ⟨rfl, k_yes ?_⟩
          refine ⟨_, rfl, ⟨#[ch]⟩, rfl, ?_, ?_⟩
          · unfold sendable at hs
            exact (hs ch (List.mem_of_getElem? (by rw [Array.getElem?_toList]; exact hc))).1
          · refine ⟨?_, .mk ⟨?_, hL⟩⟩
            · rw [List.length_map, List.length_take]
              have : z.cps.size = z.length := rfl
              omega
            · rw [List.take_add_one, hg, Option.toList_some, List.map_append]
              rfl
        · obtain ⟨rfl, hL⟩ := h.out
          clear h
          intro q hq
          generalize hH : upd H q _ = H
          replace hL := Led.newH hL hq hH
          have hall : (signs z).take z.cps.size = signs z := by
            rw [List.take_of_length_le]
            rw [hsz]
            exact Nat.le_refl _
          rw [hall] at hL
          refine k_catA (hL.sub (.refl _)) (by simp only [List.length_cons, List.length_map, List.length_nil, List.length_append]; omega) fun r H hL => k ps' _ _ ht' ?_
          unfold packB
          show Led H ((r, .tup (List.map V.int ((6 :: natB z.length) ++ signs z))) :: _)
          rw [List.map_append]
          exact hL
      | @row pr oo xs dl hp ho hxs =>
        fail "go"
        refine ⟨_, _, _, _, false, rfl, .ty _, ho.ty (hL.mem (.tail _ hp)), kit_ty (by decide +kernel), ?_⟩
        fail "go"
        refine ⟨_, _, _, _, false, rfl, .ty _, ho.ty (hL.mem (.tail _ hp)), kit_ty (by decide +kernel), ?_⟩
        fail "go"
        refine ⟨_, _, _, _, true, rfl, .ty _, ho.ty (hL.mem (.tail _ hp)), kit_ty (by decide +kernel), ?_⟩
        fail "go"
        refine ⟨_, _, rfl, .inr (ho.sq (hL.mem (.tail _ (.tail _ hp)))), ?_⟩
        have hln := hxs.len
        unfold packB at hz
        simp only [List.length_cons, List.length_append] at hz
        refine ⟨_, _, congrArg (fun x : Nat => [V.int x]) hln, hL, by omega, fun r H hL => ?_⟩
        refine k_catA (hL.sub (.refl _)) (by simp only [List.length_cons, List.length_map, List.length_nil]; omega) fun r H hL => ?_
        fail "go"
        refine ⟨⟨_, ho.sq (hL.mem (.tail _ (.tail _ hp)))⟩, ?_⟩
        rw [dpc] at hn h30
        rw [sendable] at hs
        refine for_tupA (xs := xs) (fun i' σ H => Hold (∃ (v2 v4 : Option V) (r : Addr) (ps : Array Value), σ = [some (.ref pr), some (.int i), v2, some (.ref r), v4] ∧ TriplesOk ps.toList ∧ Led H ((r, tI (7 :: (natB dl.length ++ packsB (dl.take i')))) :: (PN, .tbl ps) :: L))) (.mk ⟨_, _, r, ps, rfl, ht, ?_⟩)
          (fun i' σ H _ h => ?_) (fun i' x σ H D' hi h hN => ?_) (fun σ H h => ?_)
        · rw [List.take_zero, packsB, List.append_nil]
          exact hL
        · obtain ⟨v2, v4, r, ps, rfl, ht, hL⟩ := h.out
          exact ho.sq (hL.mem (.tail _ (.tail _ hp)))
        · clear hL ht
          obtain ⟨v2, v4, r, ps, rfl, ht, hL⟩ := h.out
          clear h
          obtain ⟨d, hdi, hdx⟩ := hxs.get hi
          have q1 := dpcs_get hdi
          have q2 := packsB_take hdi
          have q3 := packsB_le (ds := dl) (i := i' + 1)
          rw [q2, List.length_append] at q3
          refine ⟨_, rfl, ?_⟩
          fail "go"
          refine ⟨x, i + 1, d, ps, (r, tI (7 :: (natB dl.length ++ packsB (dl.take i')))) :: L, rfl, hL.perm (List.Perm.swap _ _ _), ht, hdx.mono (fun a h => .tail _ h), by omega, by omega, by omega, send_get hs hdi, by omega, fun ps r2 H ht hL => ?_⟩
          refine k_catA (L := (PN, .tbl ps) :: L) (hL.perm (.cons _ (.swap _ _ _))) (by simp only [List.length_cons, List.length_map, List.length_append]; omega) fun r H hL => ?_
          refine hN.nx _ _ (.mk ⟨v2, some x, r, ps, rfl, ht, ?_⟩)
          rw [q2]
          rw [← List.map_append] at hL
          simpa only [List.append_assoc, List.cons_append] using hL
        · obtain ⟨v2, v4, r, ps, rfl, ht, hL⟩ := h.out
          fail "go"
          refine k ps _ _ ht ?_
          rw [hln, List.take_length] at hL
          unfold packB
          exact hL
end
end Sd


set_option linter.unusedVariables false
namespace Sd
open PySem L2
open C8 (Cal Met Mak pe_c pe_mk pe_mt pe_mt0 pss_cut tCut)
-- TYPES X_Unpacker_byte=yes,X_Unpacker_read_natural=yes,X_Unpacker_text=yes,X_Unpacker_read_value=yes,RAISE=TE,TUPE=yes
set_option linter.unusedSimpArgs false
set_option pp.deepTerms false
set_option pp.deepTerms.threshold 12
set_option hygiene false
local macro_rules | `(tactic| fail "nd") => `(tactic| first | assumption | decide +kernel)
local macro_rules | `(tactic| fail "ix") => `(tactic| first | exact ⟨0, rfl⟩ | exact ⟨1, rfl⟩ | exact ⟨2, rfl⟩ | exact ⟨3, rfl⟩ | exact ⟨4, rfl⟩ | exact ⟨5, rfl⟩ | exact ⟨6, rfl⟩ | exact ⟨7, rfl⟩ | exact ⟨8, rfl⟩ | exact ⟨9, rfl⟩ | exact ⟨10, rfl⟩ | exact ⟨11, rfl⟩ | exact ⟨12, rfl⟩ | exact ⟨13, rfl⟩ | exact ⟨14, rfl⟩ | exact ⟨15, rfl⟩ | exact ⟨16, rfl⟩ | exact ⟨17, rfl⟩ | exact ⟨18, rfl⟩ | assumption)
local macro_rules | `(tactic| fail "up") => `(tactic| first | exact ⟨0, rfl, rfl⟩ | exact ⟨1, rfl, rfl⟩ | exact ⟨2, rfl, rfl⟩ | exact ⟨3, rfl, rfl⟩ | exact ⟨4, rfl, rfl⟩ | exact ⟨5, rfl, rfl⟩ | exact ⟨6, rfl, rfl⟩ | exact ⟨7, rfl, rfl⟩ | exact ⟨8, rfl, rfl⟩ | exact ⟨9, rfl, rfl⟩ | exact ⟨10, rfl, rfl⟩ | exact ⟨11, rfl, rfl⟩ | exact ⟨12, rfl, rfl⟩ | exact ⟨13, rfl, rfl⟩ | exact ⟨14, rfl, rfl⟩ | exact ⟨15, rfl, rfl⟩ | exact ⟨16, rfl, rfl⟩ | assumption)
local macro_rules | `(tactic| fail "lkF") => `(tactic| first | assumption | exact fz_at 0 (by fail "nd") rfl rfl | exact fz_at 1 (by fail "nd") rfl rfl | exact fz_at 2 (by fail "nd") rfl rfl | exact fz_at 3 (by fail "nd") rfl rfl | exact fz_at 4 (by fail "nd") rfl rfl | exact fz_at 5 (by fail "nd") rfl rfl | exact fz_at 6 (by fail "nd") rfl rfl | exact fz_at 7 (by fail "nd") rfl rfl)
local macro_rules | `(tactic| fail "lkD") => `(tactic| first | assumption | exact dz_at 0 (by fail "nd") rfl rfl | exact dz_at 1 (by fail "nd") rfl rfl | exact dz_at 2 (by fail "nd") rfl rfl | exact dz_at 3 (by fail "nd") rfl rfl | exact dz_at 4 (by fail "nd") rfl rfl)
local macro_rules | `(tactic| fail "ptF") => `(tactic| first | assumption | exact fz_put 0 (by fail "nd") rfl (Nat.le_of_ble_eq_true rfl) | exact fz_put 1 (by fail "nd") rfl (Nat.le_of_ble_eq_true rfl) | exact fz_put 2 (by fail "nd") rfl (Nat.le_of_ble_eq_true rfl) | exact fz_put 3 (by fail "nd") rfl (Nat.le_of_ble_eq_true rfl) | exact fz_put 4 (by fail "nd") rfl (Nat.le_of_ble_eq_true rfl) | exact fz_put 5 (by fail "nd") rfl (Nat.le_of_ble_eq_true rfl) | exact fz_put 6 (by fail "nd") rfl (Nat.le_of_ble_eq_true rfl) | exact fz_put 7 (by fail "nd") rfl (Nat.le_of_ble_eq_true rfl) | exact fz_new (by decide +kernel) rfl)
local macro_rules | `(tactic| fail "ptD") => `(tactic| first | assumption | exact dz_put 0 (by fail "nd") rfl (Nat.le_of_ble_eq_true rfl) | exact dz_put 1 (by fail "nd") rfl (Nat.le_of_ble_eq_true rfl) | exact dz_put 2 (by fail "nd") rfl (Nat.le_of_ble_eq_true rfl) | exact dz_put 3 (by fail "nd") rfl (Nat.le_of_ble_eq_true rfl) | exact dz_put 4 (by fail "nd") rfl (Nat.le_of_ble_eq_true rfl))
local macro_rules | `(tactic| fail "sz") => `(tactic| first | assumption | exact (Nat.le_of_ble_eq_true rfl) | omega | decide)
local macro_rules | `(tactic| fail "sd") => `(tactic| first | rfl | assumption | decide | omega | (dsimp only; first | decide | omega) | exact .inr ⟨by decide, by decide⟩ | exact .inl ⟨by decide, by decide⟩ | exact ⟨by omega, by omega⟩ | exact .inl ⟨by omega, by omega⟩ | exact .inr ⟨by omega, by omega⟩ | exact ⟨by omega, by omega, by omega⟩)
local macro_rules | `(tactic| fail "cl") => `(tactic| (clear hH; dsimp only [List.set, List.cons_append, List.nil_append, List.append] at hL))
local macro_rules | `(tactic| fail "gn") => `(tactic| (intro p hp; generalize hH : upd H p _ = H; replace hL := Led.newH hL hp hH; clear hH hp))
local macro_rules | `(tactic| fail "gup") => `(tactic| (generalize hH : upd H _ _ = H; replace hL := Led.upU hL (by fail "up") hH; fail "cl"))
local macro_rules | `(tactic| fail "gmk") => `(tactic| (intro x dx hx hd ne; generalize hH : upd (upd H dx _) x _ = H; replace hL := Led.made hL hx hd ne hH; clear hH hx hd ne))
local macro_rules | `(tactic| fail "v") => `(tactic| refine ⟨_, rfl, ?_⟩)
local macro_rules | `(tactic| fail "i2") => `(tactic| refine ⟨_, _, rfl, rfl, ?_⟩)
local macro_rules | `(tactic| fail "go1") => `(tactic| first
  | refine ⟨_, rfl, ?_⟩
  | refine ⟨_, _, rfl, rfl, ?_⟩
  | refine ⟨_, _, rfl, ?_⟩
  | refine iteT ?_
  | refine iteF ?_
  | refine k_fld hL (by fail "ix") (by assumption) (by assumption) (by fail "lkF") ?_
  | refine k_dgetS hL (by fail "ix") (by fail "lkD") ?_
  | refine k_dgetI hL (by fail "ix") (by assumption) ?_
  | refine k_ixL hL (by fail "ix") (by first | rfl | assumption) ?_
  | refine k_ixT hL (by fail "ix") (by first | rfl | assumption) ?_
  | refine k_tyL hL (by fail "ix") ?_
  | refine k_isd hL (by fail "ix") ?_
  | (refine And.intro (by fail "sz") ?_; fail "gn")
  | refine And.intro (by fail "sd") ?_
  | fail "gn"
  | refine k_meth hL (by fail "ix") (by first | assumption | exact fz_no (by decide +kernel)) ?_
  | refine k_gtup hL (by fail "ix") rfl ?_
  | (refine k_popI hL (by fail "ix") (by assumption) ?_; fail "gup")
  | (refine k_listD hL (by fail "ix") ?_; fail "gn")
  | (refine ⟨_, _, _, _, rfl, rfl, hL.at (by fail "ix"), rfl, ?_⟩; fail "gup")
  | (refine ⟨_, _, _, rfl, rfl, hL.at (by fail "ix"), (by fail "sz"), ?_⟩; fail "gup")
  | (refine ⟨_, _, _, _, rfl, hL.at (by fail "ix"), by assumption, by assumption, Nat.lt_of_le_of_lt fz_len (by decide), ?_⟩; generalize hH : upd H _ _ = H; replace hL := Led.upF hL (by fail "up") (by fail "ptF") hH; fail "cl")
  | (refine ⟨_, _, hL.at (by fail "ix"), Nat.lt_of_le_of_lt fz_len (by decide), ?_⟩; generalize hH : upd H _ _ = H; replace hL := Led.upF hL (by fail "up") (by fail "ptF") hH; fail "cl")
  | (refine k_dputS hL (by fail "ix") (Nat.lt_of_le_of_lt dz_len (by decide)) (by fail "ptD") (by fail "up") ?_; clear hL; intro H hL; dsimp only [List.set, List.cons_append, List.nil_append, List.append] at hL)
  | refine k_lenL2 hL (by fail "ix") ?_
  | refine k_lenT2 hL (by fail "ix") ?_
  | refine .inl ⟨_, rfl, ?_⟩
  | refine .inr ⟨_, rfl, ?_⟩)
local macro_rules | `(tactic| fail "go") => `(tactic| repeat fail "go1")
local macro_rules | `(tactic| fail "pm") => `(tactic| (refine Led.le hL (fun a_ => ?_); simp only [cnt_nil, cnt_cons, cnt_app, List.map_append, List.map_cons, List.map_nil, List.flatMap_append, List.flatMap_cons, List.flatMap_nil, List.append_assoc, List.cons_append, List.nil_append]; omega))

def spUValX (CU CW PU : Addr) (n : Nat) : Sp := fun vs H Q E => ∃ (u dx D : Addr) (i : Nat) (k : Int) (bs : List Int) (ps : Array Value) (L : Lg), vs = [.ref u] ∧ Led H (uO CU u dx D i k :: (PU, .tbl ps) :: L) ∧ TriplesOk ps.toList ∧ (D, tI bs) ∈ L ∧ (∀ b ∈ bs, isByte b) ∧ bs.length ≤ sizeLine ∧
  0 ≤ k ∧ k ≤ 31 ∧ k + n = 32 ∧
  (∀ (d : Dv) rest (v : V) (Z : Lg) (ps' : Array Value) H', bs.drop i = packB d ++ rest → sendable d → k + dpc d ≤ 30 → TriplesOk ps'.toList → DF Z v d → Led H' (uO CU u dx D (i + (packB d).length) k :: (PU, .tbl ps') :: (Z ++ L)) → Q v H') ∧
  (∀ (i' : Nat) (k' : Int) (ps' : Array Value) H', TriplesOk ps'.toList → Led H' (uO CU u dx D i' k' :: (PU, .tbl ps') :: L) → E (.ref CW) none H')
section
variable {P : Program} {w : World} {K : PySem.W.Frag} {mg : Str → Option Value} {base : Heap} {CU CW : Addr}
theorem ok_UValX {f c PU : Addr} {oc dV : Value} {od : Option Addr} {osl : Array (Option Value)} {kV doc pm ct : Value} {an : Option Addr}
    (lk : K.lookup f = some ⟨oc, od, .func (PySem.W.fnOf "read_value" "Unpacker.read_value" (defArgs sUVal) (defBody sUVal) (defScope sUVal) dV kV doc pm an (.ref c) ct), osl⟩) (hcd : PySem.W.codeIn K (.ref c) "Unpacker.read_value" = true) (TB : GxR.TabB base mg c PU) (X : TxtU K mg CU) (T : TxtW mg)
    (TE : ExcT K mg "WireError" CW) (hS : PySem.W.subIn K (.ref CW) (.type "StopIteration") = some false)
    (me : Meth K CU "read_value" f) (b : Binds K (PySem.W.fnOf "read_value" "Unpacker.read_value" (defArgs sUVal) (defBody sUVal) (defScope sUVal) dV kV doc pm an (.ref c) ct) ["self"] [])
    (c_Unpacker_byte : MetX P w K mg base 1 CU "byte" (spUByteX CU CW) []) (c_Unpacker_read_natural : MetX P w K mg base 2 CU "read_natural" (spUNatX CU CW) []) (c_Unpacker_text : MetX P w K mg base 3 CU "text" (spUTextX CU CW) []) (n : Nat) :
    FnOk P w K mg base (L2.CX P w) (4 + 5 * n) f (PySem.W.fnOf "read_value" "Unpacker.read_value" (defArgs sUVal) (defBody sUVal) (defScope sUVal) dV kV doc pm an (.ref c) ct) ["self"] (spUValX CU CW PU n) := by
  induction n with
  | zero => exact ⟨fun vs H Q E ⟨_, _, _, _, _, _, _, _, _, _, _, _, _, _, _, h1, h2, _⟩ => absurd h2 (by omega), fun _ _ _ H _ _ vs Q E _ _ _ _ ⟨_, _, _, _, _, _, _, _, _, _, _, _, _, _, _, h1, h2, _⟩ => absurd h2 (by omega)⟩
  | succ n ih =>
    have c_Unpacker_read_value : MetX P w K mg base (4 + 5 * n) CU "read_value" (spUValX CU CW PU n) [] := ⟨_, _, _, [], X.cl, me, ih, b, .nil⟩
    have e9 : 4 + 5 * (n + 1) = (8 + 5 * n) + 1 := by omega
    rw [e9]
    refine fn_of lk hcd scUVal (fun vs H Q E h => ?_) fun A outer s H vs Q E hr h => ?_
    · obtain ⟨u, dx, D, i, k, bs, ps, L, rfl, _⟩ := h
      rfl
    · obtain ⟨u, dx, D, i, kk, bs, ps, L, rfl, hL, ht, hD, hby, hz, h0, h31, hn, k1, k2⟩ := h
      have c1 := X.cl
      have f1 := X.n "data" (by decide +kernel)
      have f3 := X.n "nesting" (by decide +kernel)
      replace hr : Room (8 + 5 * n) _ := hr
      have hr1 : Room ((4 + 5 * n) + 1) _ := hr.mono (by omega)
      have hr5 : Room ((4 + 5 * n) + 1 + 3) _ := hr.mono (by omega)
      let EX : XK := fun cls d H => cls = .ref CW ∧ E cls d H
      have hxE : ∀ X : Cx, Takes X (fun cls d _ H => E cls d H) → Passes (L2.CX X.prog X.w) X EX := fun X tk => passes_call tk (fun cls d σ H h => h.2)
      have hnsE : NoStop K EX := fun cls d H h => by rw [h.1]; exact hS
      refine ⟨_, (pss_cons (ps_set (i := 1) scUVal.nd rfl (Or.inl rfl) (pe_mtX0 c_Unpacker_byte hr (by omega) (takes_of rfl rfl rfl (E := E) rfl) (pv 0)))
  (pss_cons (ps_if (pt_cmpR op_gt (pe_fld (pv 0) rfl) (C8.pe_gc (by rfl) T.g_MOST_DEEP) (nomark _))
  (pss_one (ps_raiseT TE rfl (takes_of rfl rfl rfl (E := E) rfl) rfl))
  pss_nil)
  (pss_cons (ps_if (pt_cmpR op_in_seq (pv 1) (pe_tup (pa_cons (C8.pe_gc (by rfl) T.g_NONE) (pa_cons (C8.pe_gc (by rfl) T.g_TRUE) (pa_cons (C8.pe_gc (by rfl) T.g_FALSE) pa_nil)))) (by rfl))
  (pss_one (ps_ret (pe_dget (hu_of hr) (pe_disp (pps_cons (C8.pe_gc (by rfl) T.g_NONE) pe_non (pps_cons (C8.pe_gc (by rfl) T.g_TRUE) pe_bl (pps_cons (C8.pe_gc (by rfl) T.g_FALSE) pe_bl pps_nil))) (by rfl) (by rfl) (fun z => by cases z) (by decide)) (pv 1) (fun _ _ => rfl))))
  pss_nil)
  (pss_cons (ps_if (pt_cmpR op_eq (pv 1) (C8.pe_gc (by rfl) T.g_NUMBER) (nomark _))
  (pss_one (ps_ret (pe_mtX0 c_Unpacker_read_natural hr (by omega) (takes_of rfl rfl rfl (E := E) rfl) (pv 0))))
  pss_nil)
  (pss_cons (ps_if (pt_cmpR op_eq (pv 1) (C8.pe_gc (by rfl) T.g_BELOW) (nomark _))
  (pss_one (ps_ret (pe_op op_sub (pe_op op_sub pe_int (pe_mtX0 c_Unpacker_read_natural hr (by omega) (takes_of rfl rfl rfl (E := E) rfl) (pv 0))) pe_int)))
  pss_nil)
  (pss_cons (ps_if (pt_cmpR op_eq (pv 1) (C8.pe_gc (by rfl) T.g_TEXT) (nomark _))
  (pss_one (ps_ret (pe_mtX0 c_Unpacker_text hr (by omega) (takes_of rfl rfl rfl (E := E) rfl) (pv 0))))
  pss_nil)
  (pss_cons (ps_if (pt_cmpR op_ne (pv 1) (C8.pe_gc (by rfl) T.g_ROW) (nomark _))
  (pss_one (ps_raiseT TE rfl (takes_of rfl rfl rfl (E := E) rfl) rfl))
  pss_nil)
  (pss_cons (ps_fldaug (pv 0) pe_int in_add)
  (pss_cons (ps_set (i := 2) scUVal.nd rfl (Or.inl rfl) (pe_mtX0 c_Unpacker_read_natural hr (by omega) (takes_of rfl rfl rfl (E := E) rfl) (pv 0)))
  (pss_cons (ps_if (pt_cmpR op_gt (pv 2) (pe_callB call_len_seq (by rfl) T.len (by decide +kernel) (pa_cons (pe_fld (pv 0) rfl) pa_nil)) (nomark _))
  (pss_one (ps_raiseT TE rfl (takes_of rfl rfl rfl (E := E) rfl) rfl))
  pss_nil)
  (pss_cons (ps_set (i := 3) scUVal.nd rfl (Or.inl rfl) (Gx.pe_tupleEF (Gx.pgen_gxE (EX := EX) (own := [("step", 4)]) (g := gName 4) hr1 TB rfl scUVal.nd (pi_range1 (by rfl) T.range (pa_cons (pv 2) pa_nil)) (Gx.gxOk_by (own := [("step", 4)]) (N := ["self", "mark", "many", "found", "step"]) (sc := (defScope sUVal)) (by decide +kernel)) (fun _ _ _ _ _ _ _ _ _ _ => (pg_name (i := 4) scUVal.nd rfl (Or.inl rfl))) (fun _ _ _ _ _ _ _ _ _ hr => pts_nil) (fun _ _ _ _ _ _ _ _ _ hr tk => (pe_mtX0 c_Unpacker_read_value hr (by omega) tk (pv 0))) (fun _ => rfl)) (hxE _ (takes_of rfl rfl rfl (E := E) rfl)) hnsE hr5 (by rfl) T.tuple))
  (pss_cons (ps_fldaug (pv 0) pe_int in_sub)
  (pss_one (ps_ret (pv 3))))))))))))))), ?_⟩
      fail "go"
      refine ⟨u, dx, D, i, kk, bs, _, rfl, hL, .tail _ hD, fun b hb H hL => ?_, fun _ H hL => k2 _ _ _ _ ht hL⟩
      have hdr := drop_cons hb
      fail "go"
      dsimp only [uO] at hL
      fail "go"
      refine ite_d (fun q => ?_) fun q => ?_
      · fail "go"
        exact k2 _ _ _ _ ht hL
      fail "go"
      refine ⟨p, _, rfl, .inr (.of (hL.at ⟨0, rfl⟩)), rfl, rfl, ?_⟩
      by_cases hb1 : b = 1
      · subst hb1
        refine ⟨true, by decide, ?_⟩
        fail "go"
        refine (show H p = some (.dK []) ∧ _ from ⟨hL.at ⟨0, rfl⟩, [(.inl 1, .non), (.inl 2, .bl true), (.inl 3, .bl false)], rfl, by decide, ?_⟩)
        generalize hH : upd H p _ = H
        replace hL := hL.upU (o' := .dK [(.inl 1, .non), (.inl 2, .bl true), (.inl 3, .bl false)]) ⟨0, rfl, rfl⟩ hH
        clear hH
        dsimp only [List.set] at hL
        refine ⟨_, rfl, ?_⟩
        refine k_dgetI (n := 1) hL ⟨0, rfl⟩ (v := .non) rfl ?_
        exact k1 .non (bs.drop (i + 1)) _ [] ps _ hdr trivial (by simp only [dpc]; omega) ht .non (hL.sub (.cons _ (.cons _ (.refl _))))
      by_cases hb2 : b = 2
      · subst hb2
        refine ⟨true, by decide, ?_⟩
        fail "go"
        refine (show H p = some (.dK []) ∧ _ from ⟨hL.at ⟨0, rfl⟩, [(.inl 1, .non), (.inl 2, .bl true), (.inl 3, .bl false)], rfl, by decide, ?_⟩)
        generalize hH : upd H p _ = H
        replace hL := hL.upU (o' := .dK [(.inl 1, .non), (.inl 2, .bl true), (.inl 3, .bl false)]) ⟨0, rfl, rfl⟩ hH
        clear hH
        dsimp only [List.set] at hL
        refine ⟨_, rfl, ?_⟩
        refine k_dgetI (n := 2) hL ⟨0, rfl⟩ (v := .bl true) rfl ?_
        exact k1 (.bl true) (bs.drop (i + 1)) _ [] ps _ hdr trivial (by simp only [dpc]; omega) ht (.bl true) (hL.sub (.cons _ (.cons _ (.refl _))))
      by_cases hb3 : b = 3
      · subst hb3
        refine ⟨true, by decide, ?_⟩
        fail "go"
        refine (show H p = some (.dK []) ∧ _ from ⟨hL.at ⟨0, rfl⟩, [(.inl 1, .non), (.inl 2, .bl true), (.inl 3, .bl false)], rfl, by decide, ?_⟩)
        generalize hH : upd H p _ = H
        replace hL := hL.upU (o' := .dK [(.inl 1, .non), (.inl 2, .bl true), (.inl 3, .bl false)]) ⟨0, rfl, rfl⟩ hH
        clear hH
        dsimp only [List.set] at hL
        refine ⟨_, rfl, ?_⟩
        refine k_dgetI (n := 3) hL ⟨0, rfl⟩ (v := .bl false) rfl ?_
        exact k1 (.bl false) (bs.drop (i + 1)) _ [] ps _ hdr trivial (by simp only [dpc]; omega) ht (.bl false) (hL.sub (.cons _ (.cons _ (.refl _))))
      have hin : inV (V.int b) [V.int 1, V.int 2, V.int 3] = false := by
        unfold inV
        have e : ∀ i : Int, ¬ b = i → eqV (V.int i) (V.int b) = false := fun i h => by
          show decide _ = false
          exact decide_eq_false fun z => h (by simpa using z.symm)
        simp [e 1 hb1, e 2 hb2, e 3 hb3]
      refine ⟨false, ?_, ?_⟩
      · rw [if_neg (by decide), hin]
      replace hL := hL.tail
      fail "go"
      refine ite_d (fun q4 => ?_) fun q4 => ?_
      · obtain rfl := V.int.inj q4
        fail "go"
        refine ⟨u, dx, D, i + 1, kk, bs, _, rfl, hL, .tail _ hD, hby, fun n rest H hb2 hL => ?_, fun i' H hL => k2 _ _ _ _ ht hL⟩
        have e1 : packB (.int (n : Int)) = 4 :: natB n := by
          unfold packB
          rw [if_pos (Int.natCast_nonneg _), Int.toNat_natCast]
        refine k1 (.int n) rest _ [] ps _ (by rw [hdr, hb2, e1]; rfl) trivial (by simp only [dpc]; omega) ht (.int _) ?_
        rw [e1, List.length_cons, Nat.add_comm _ 1, ← Nat.add_assoc]
        exact hL
      have q4 : ¬ b = 4 := fun z => q4 (by rw [z])
      fail "go"
      refine ite_d (fun q5 => ?_) fun q5 => ?_
      · obtain rfl := V.int.inj q5
        fail "go"
        refine ⟨u, dx, D, i + 1, kk, bs, _, rfl, hL, .tail _ hD, hby, fun n rest H hb2 hL => ?_, fun i' H hL => k2 _ _ _ _ ht hL⟩
        fail "go"
        have e1 : packB (.int (0 - (n : Int) - 1)) = 5 :: natB n := by
          unfold packB
          rw [if_neg (by omega)]
          congr 2
          omega
        refine k1 (.int (0 - (n : Int) - 1)) rest _ [] ps _ (by rw [hdr, hb2, e1]; rfl) trivial (by simp only [dpc]; omega) ht (.int _) ?_
        rw [e1, List.length_cons, Nat.add_comm _ 1, ← Nat.add_assoc]
        exact hL
      have q5 : ¬ b = 5 := fun z => q5 (by rw [z])
      fail "go"
      refine ite_d (fun q6 => ?_) fun q6 => ?_
      · obtain rfl := V.int.inj q6
        fail "go"
        refine ⟨u, dx, D, i + 1, kk, bs, _, rfl, hL, .tail _ hD, hby, hz, fun z rest H hb2 hg hL => ?_, fun i' H hL => k2 _ _ _ _ ht hL⟩
        refine k1 (.str z) rest _ [] ps _ (by rw [hdr, hb2]; unfold packB; simp) (by unfold sendable; exact hg) (by simp only [dpc]; omega) ht (.str z) ?_
        unfold packB
        rw [List.length_cons, Nat.add_comm _ 1, ← Nat.add_assoc, List.length_append]
        exact hL
      have q6 : ¬ b = 6 := fun z => q6 (by rw [z])
      fail "go"
      refine ite_n (fun q7 => ?_) fun q7 => ?_
      · fail "go"
        exact k2 _ _ _ _ ht hL
      obtain rfl := V.int.inj q7
      fail "go"
      refine ⟨u, dx, D, i + 1, kk + 1, bs, _, rfl, hL, .tail _ hD, hby, fun m rest H hb2 hL => ?_, fun i' H hL => k2 _ _ _ _ ht hL⟩
      fail "go"
      dsimp only [uO] at hL
      fail "go"
      refine ⟨D, _, rfl, .inr (.of (hL.mem (.tail _ (.tail _ hD)))), ?_⟩
      fail "go"
      refine ite_d (fun q => ?_) fun q => ?_
      · fail "go"
        exact k2 _ _ _ _ ht hL
      rw [List.length_map] at q
      have hbl : m ≤ bs.length := by omega
      refine ⟨_, rfl, _, rfl, Int.le_trans (show (-(2 ^ 62) : Int) ≤ 0 by decide) (Int.natCast_nonneg _), Int.lt_of_le_of_lt (Int.ofNat_le.mpr (show m ≤ sizeLine by omega)) (show (sizeLine : Int) < 2 ^ 62 by decide), ?_⟩
      refine ⟨⟨ps, hL.at ⟨1, rfl⟩, ht⟩, fun H2 hT => ?_⟩
      obtain ⟨ps1, ht1, hL⟩ := Led.tabbed (A := [_]) hL hT
      dsimp only [List.cons_append, List.nil_append, List.append] at hL
      clear hT ht
      refine Gx.gx_it (walk_range (lo := 0) (n := (m : Int).toNat)) (fun j out H => Hold (∃ (Z : Lg) (ps : Array Value) (dl : List Dv) (r2 : List Int), TriplesOk ps.toList ∧ DFs Z out dl ∧ dl.length = j ∧ sendables dl ∧ kk + dpcs dl ≤ 30 ∧ rest = packsB dl ++ r2 ∧ bs.drop (i + 1 + (natB m).length + (packsB dl).length) = r2 ∧ Led H (uO CU u dx D (i + 1 + (natB m).length + (packsB dl).length) (kk + 1) :: (PU, .tbl ps) :: (Z ++ L)))) (.mk ⟨[], ps1, [], rest, ht1, .nil, rfl, trivial, by simp only [dpcs]; omega, by simp [packsB], by
          rw [packsB, List.length_nil, Nat.add_zero, ← List.drop_drop, hb2, List.drop_left], hL⟩)
        (fun j out H _ h => True.intro) (fun j x out H H' hj h hy => ?_) (fun out H h => ?_)
      · clear hL ht1
        obtain ⟨Z, ps, dl, r2, ht, hdl, hol, hsd, hdp, hre, hr2, hL⟩ := h.out
        clear h
        rw [Int.toNat_natCast] at hj
        obtain ⟨rfl, rfl⟩ := hy
        refine ⟨rfl, k_yes ?_⟩
        refine ⟨_, rfl, u, dx, _, rfl, hL.at ⟨0, rfl⟩, fz_no (by decide +kernel), ?_⟩
        refine ⟨u, dx, D, _, kk + 1, bs, ps, Z ++ L, rfl, hL, ht, List.mem_append_right _ hD, hby, hz, by omega, by omega, by omega, fun d r3 v Z2 ps2 H2 hb3 hs3 hd3 ht2 hv hL => ⟨?_, .mk ⟨Z2 ++ Z, ps2, dl ++ [d], r3, ht2, ?_, ?_, send_snoc hsd hs3, ?_, ?_, ?_, ?_⟩⟩, fun i' k' ps' H ht hL => ⟨rfl, k2 i' k' _ _ ht (hL.le (fun a_ => by
          simp only [cnt_cons, cnt_app]
          omega))⟩⟩
        · have := hdl.len
          omega
        · exact DLs.snoc (hv.mono (fun a h => List.mem_append_left _ h)) (hdl.mono (fun a h => List.mem_append_right _ h))
        · rw [List.length_append, hol]; rfl
        · rw [dpcs_snoc]; omega
        · rw [packs_snoc, hre, ← hr2, hb3, List.append_assoc]
        · rw [packs_snoc, List.length_append, ← Nat.add_assoc, ← List.drop_drop, hb3, List.drop_left]
        · rw [packs_snoc, List.length_append, ← Nat.add_assoc, List.append_assoc]
          exact hL
      · clear hL ht1
        obtain ⟨Z, ps, dl, r2, ht, hdl, hol, hsd, hdp, hre, hr2, hL⟩ := h.out
        clear h
        rw [Int.toNat_natCast] at hol
        intro q qo hq hqo
        generalize hH : upd H q _ = H
        replace hL := Led.newH hL hq hH
        clear hH hq
        obtain ⟨R, hR⟩ : ∃ R : Lg, R = Z ++ L := ⟨_, rfl⟩
        rw [← hR] at hL
        generalize hpl : i + 1 + (natB m).length + (packsB dl).length = pl at hL hr2
        dsimp only [uO] at hL
        fail "go"
        rw [hR] at hL
        rw [← hpl] at hL
        have e0 : packB (.row dl) = 7 :: (natB m ++ packsB dl) := by rw [packB, hol]
        refine k1 (.row dl) r2 (.ref q) ((q, .frz qo (.tup out)) :: Z) ps _ ?_ hsd ?_ ht (.row (.head _) ⟨qo, rfl, hqo⟩ (hdl.mono fun a h => .tail _ h)) ?_
        · rw [hdr, hb2, hre, e0]
          simp
        · rw [dpc]; exact hdp
        have e1 : kk + 1 - 1 = kk := by omega
        have e2 : i + (packB (.row dl)).length = i + 1 + (natB m).length + (packsB dl).length := by
          rw [e0, List.length_cons, List.length_append]; omega
        rw [e1] at hL
        rw [e2]
        exact hL.perm ((List.Perm.swap _ _ _).trans (.cons _ (.swap _ _ _)))
end
end Sd


set_option linter.unusedVariables false
namespace Sd
open PySem L2
open C8 (Cal Met Mak pe_c pe_mk pe_mt pe_mt0 pss_cut tCut)
-- TYPES X_Unpacker_read_value=yes,RAISE=TE
set_option linter.unusedSimpArgs false
set_option pp.deepTerms false
set_option pp.deepTerms.threshold 12
set_option hygiene false
local macro_rules | `(tactic| fail "nd") => `(tactic| first | assumption | decide +kernel)
local macro_rules | `(tactic| fail "ix") => `(tactic| first | exact ⟨0, rfl⟩ | exact ⟨1, rfl⟩ | exact ⟨2, rfl⟩ | exact ⟨3, rfl⟩ | exact ⟨4, rfl⟩ | exact ⟨5, rfl⟩ | exact ⟨6, rfl⟩ | exact ⟨7, rfl⟩ | exact ⟨8, rfl⟩ | exact ⟨9, rfl⟩ | exact ⟨10, rfl⟩ | exact ⟨11, rfl⟩ | exact ⟨12, rfl⟩ | exact ⟨13, rfl⟩ | exact ⟨14, rfl⟩ | exact ⟨15, rfl⟩ | exact ⟨16, rfl⟩ | exact ⟨17, rfl⟩ | exact ⟨18, rfl⟩ | assumption)
local macro_rules | `(tactic| fail "up") => `(tactic| first | exact ⟨0, rfl, rfl⟩ | exact ⟨1, rfl, rfl⟩ | exact ⟨2, rfl, rfl⟩ | exact ⟨3, rfl, rfl⟩ | exact ⟨4, rfl, rfl⟩ | exact ⟨5, rfl, rfl⟩ | exact ⟨6, rfl, rfl⟩ | exact ⟨7, rfl, rfl⟩ | exact ⟨8, rfl, rfl⟩ | exact ⟨9, rfl, rfl⟩ | exact ⟨10, rfl, rfl⟩ | exact ⟨11, rfl, rfl⟩ | exact ⟨12, rfl, rfl⟩ | exact ⟨13, rfl, rfl⟩ | exact ⟨14, rfl, rfl⟩ | exact ⟨15, rfl, rfl⟩ | exact ⟨16, rfl, rfl⟩ | assumption)
local macro_rules | `(tactic| fail "lkF") => `(tactic| first | assumption | exact fz_at 0 (by fail "nd") rfl rfl | exact fz_at 1 (by fail "nd") rfl rfl | exact fz_at 2 (by fail "nd") rfl rfl | exact fz_at 3 (by fail "nd") rfl rfl | exact fz_at 4 (by fail "nd") rfl rfl | exact fz_at 5 (by fail "nd") rfl rfl | exact fz_at 6 (by fail "nd") rfl rfl | exact fz_at 7 (by fail "nd") rfl rfl)
local macro_rules | `(tactic| fail "lkD") => `(tactic| first | assumption | exact dz_at 0 (by fail "nd") rfl rfl | exact dz_at 1 (by fail "nd") rfl rfl | exact dz_at 2 (by fail "nd") rfl rfl | exact dz_at 3 (by fail "nd") rfl rfl | exact dz_at 4 (by fail "nd") rfl rfl)
local macro_rules | `(tactic| fail "ptF") => `(tactic| first | assumption | exact fz_put 0 (by fail "nd") rfl (Nat.le_of_ble_eq_true rfl) | exact fz_put 1 (by fail "nd") rfl (Nat.le_of_ble_eq_true rfl) | exact fz_put 2 (by fail "nd") rfl (Nat.le_of_ble_eq_true rfl) | exact fz_put 3 (by fail "nd") rfl (Nat.le_of_ble_eq_true rfl) | exact fz_put 4 (by fail "nd") rfl (Nat.le_of_ble_eq_true rfl) | exact fz_put 5 (by fail "nd") rfl (Nat.le_of_ble_eq_true rfl) | exact fz_put 6 (by fail "nd") rfl (Nat.le_of_ble_eq_true rfl) | exact fz_put 7 (by fail "nd") rfl (Nat.le_of_ble_eq_true rfl) | exact fz_new (by decide +kernel) rfl)
local macro_rules | `(tactic| fail "ptD") => `(tactic| first | assumption | exact dz_put 0 (by fail "nd") rfl (Nat.le_of_ble_eq_true rfl) | exact dz_put 1 (by fail "nd") rfl (Nat.le_of_ble_eq_true rfl) | exact dz_put 2 (by fail "nd") rfl (Nat.le_of_ble_eq_true rfl) | exact dz_put 3 (by fail "nd") rfl (Nat.le_of_ble_eq_true rfl) | exact dz_put 4 (by fail "nd") rfl (Nat.le_of_ble_eq_true rfl))
local macro_rules | `(tactic| fail "sz") => `(tactic| first | assumption | exact (Nat.le_of_ble_eq_true rfl) | omega | decide)
local macro_rules | `(tactic| fail "sd") => `(tactic| first | rfl | assumption | decide | omega | (dsimp only; first | decide | omega) | exact .inr ⟨by decide, by decide⟩ | exact .inl ⟨by decide, by decide⟩ | exact ⟨by omega, by omega⟩ | exact .inl ⟨by omega, by omega⟩ | exact .inr ⟨by omega, by omega⟩ | exact ⟨by omega, by omega, by omega⟩)
local macro_rules | `(tactic| fail "cl") => `(tactic| (clear hH; dsimp only [List.set, List.cons_append, List.nil_append, List.append] at hL))
local macro_rules | `(tactic| fail "gn") => `(tactic| (intro p hp; generalize hH : upd H p _ = H; replace hL := Led.newH hL hp hH; clear hH hp))
local macro_rules | `(tactic| fail "gup") => `(tactic| (generalize hH : upd H _ _ = H; replace hL := Led.upU hL (by fail "up") hH; fail "cl"))
local macro_rules | `(tactic| fail "gmk") => `(tactic| (intro x dx hx hd ne; generalize hH : upd (upd H dx _) x _ = H; replace hL := Led.made hL hx hd ne hH; clear hH hx hd ne))
local macro_rules | `(tactic| fail "v") => `(tactic| refine ⟨_, rfl, ?_⟩)
local macro_rules | `(tactic| fail "i2") => `(tactic| refine ⟨_, _, rfl, rfl, ?_⟩)
local macro_rules | `(tactic| fail "go1") => `(tactic| first
  | refine ⟨_, rfl, ?_⟩
  | refine ⟨_, _, rfl, rfl, ?_⟩
  | refine ⟨_, _, rfl, ?_⟩
  | refine iteT ?_
  | refine iteF ?_
  | refine k_fld hL (by fail "ix") (by assumption) (by assumption) (by fail "lkF") ?_
  | refine k_dgetS hL (by fail "ix") (by fail "lkD") ?_
  | refine k_dgetI hL (by fail "ix") (by assumption) ?_
  | refine k_ixL hL (by fail "ix") (by first | rfl | assumption) ?_
  | refine k_ixT hL (by fail "ix") (by first | rfl | assumption) ?_
  | refine k_tyL hL (by fail "ix") ?_
  | refine k_isd hL (by fail "ix") ?_
  | (refine And.intro (by fail "sz") ?_; fail "gn")
  | refine And.intro (by fail "sd") ?_
  | fail "gn"
  | refine k_meth hL (by fail "ix") (by first | assumption | exact fz_no (by decide +kernel)) ?_
  | refine k_gtup hL (by fail "ix") rfl ?_
  | (refine k_popI hL (by fail "ix") (by assumption) ?_; fail "gup")
  | (refine k_listD hL (by fail "ix") ?_; fail "gn")
  | (refine ⟨_, _, _, _, rfl, rfl, hL.at (by fail "ix"), rfl, ?_⟩; fail "gup")
  | (refine ⟨_, _, _, rfl, rfl, hL.at (by fail "ix"), (by fail "sz"), ?_⟩; fail "gup")
  | (refine ⟨_, _, _, _, rfl, hL.at (by fail "ix"), by assumption, by assumption, Nat.lt_of_le_of_lt fz_len (by decide), ?_⟩; generalize hH : upd H _ _ = H; replace hL := Led.upF hL (by fail "up") (by fail "ptF") hH; fail "cl")
  | (refine ⟨_, _, hL.at (by fail "ix"), Nat.lt_of_le_of_lt fz_len (by decide), ?_⟩; generalize hH : upd H _ _ = H; replace hL := Led.upF hL (by fail "up") (by fail "ptF") hH; fail "cl")
  | (refine k_dputS hL (by fail "ix") (Nat.lt_of_le_of_lt dz_len (by decide)) (by fail "ptD") (by fail "up") ?_; clear hL; intro H hL; dsimp only [List.set, List.cons_append, List.nil_append, List.append] at hL)
  | refine k_lenL2 hL (by fail "ix") ?_
  | refine k_lenT2 hL (by fail "ix") ?_
  | refine .inl ⟨_, rfl, ?_⟩
  | refine .inr ⟨_, rfl, ?_⟩)
local macro_rules | `(tactic| fail "go") => `(tactic| repeat fail "go1")
local macro_rules | `(tactic| fail "pm") => `(tactic| (refine Led.le hL (fun a_ => ?_); simp only [cnt_nil, cnt_cons, cnt_app, List.map_append, List.map_cons, List.map_nil, List.flatMap_append, List.flatMap_cons, List.flatMap_nil, List.append_assoc, List.cons_append, List.nil_append]; omega))

def spUnpackX (CU CW PU : Addr) : Sp := fun vs H Q E => ∃ (D : Addr) (bs : List Int) (ps : Array Value) (L : Lg), vs = [.ref D] ∧ Led H ((PU, .tbl ps) :: L) ∧ TriplesOk ps.toList ∧ (D, tI bs) ∈ L ∧ (∀ b ∈ bs, isByte b) ∧ bs.length ≤ sizeLine ∧
  (∀ (d : Dv) (v : V) (Z : Lg) (ps' : Array Value) H', bs = packB d → sendable d → dpc d ≤ 30 → TriplesOk ps'.toList → DF Z v d → Led H' ((PU, .tbl ps') :: (Z ++ L)) → Q v H') ∧
  (∀ (ps' : Array Value) H', TriplesOk ps'.toList → Led H' ((PU, .tbl ps') :: L) → E (.ref CW) none H')
def chainD : Nat → Dv
  | 0 => .non
  | n + 1 => .row [chainD n]
def spPackX (CW PN : Addr) (n : Nat) : Sp := fun vs H Q E => ∃ (v : V) (c : Int) (m : Nat) (ps : Array Value) (L : Lg), vs = [v, .int c] ∧ Led H ((PN, .tbl ps) :: L) ∧ DL L v (chainD m) ∧ 0 ≤ c ∧ c ≤ 31 ∧ c + n = 32 ∧ 30 < c + m ∧
  ∀ H', Led H' ((PN, .tbl ps) :: L) → E (.ref CW) none H'
def spPackLX (CW : Addr) : Sp := fun vs H Q E => ∃ (a : Addr) (xs : List V) (L : Lg), vs = [.ref a, .int 0] ∧ Led H L ∧ (a, HO.lst xs) ∈ L ∧ ∀ H', Led H' L → E (.ref CW) none H'
def spSignX (CW : Addr) : Sp := fun vs H Q E => ∃ (c : Str), vs = [.str c] ∧ Txt.find SIGNS c < 0 ∧ E (.ref CW) none H
section
variable {P : Program} {w : World} {K : PySem.W.Frag} {mg : Str → Option Value} {base : Heap} {CU CW PU : Addr}
theorem ok_unpackX {f : Addr} {fd : FuncData} (F : Fun K "unpack" "unpack" sUnpack f fd) (X : TxtU K mg CU) (T : TxtW mg) (TE : ExcT K mg "WireError" CW) (c_Unpacker : Mak P w K mg base 1 "Unpacker" CU (spUInit CU) [])
    (c_Unpacker_read_value : MetX P w K mg base (4 + 5 * 32) CU "read_value" (spUValX CU CW PU 32) []) : FnOk P w K mg base (L2.CX P w) 165 f fd ["data"] (spUnpackX CU CW PU) := by
  refine F.okX scUnpack (fun vs H Q E h => ?_) (fun cdv A outer s H vs Q E hr h => ?_)
  · obtain ⟨D, bs, ps, L, rfl, _⟩ := h
    rfl
  · obtain ⟨D, bs, ps, L, rfl, hL, ht, hD, hby, hz, k1, k2⟩ := h
    have c1 := X.cl
    have f1 := X.n "data" (by decide +kernel)
    have f2 := X.n "place" (by decide +kernel)
    refine ⟨_, (pss_cons (ps_set (i := 1) scUnpack.nd rfl (Or.inl rfl) (pe_mk c_Unpacker hr (by omega) (by rfl) (pa_cons (pv 0) pa_nil)))
  (pss_cons (ps_set (i := 2) scUnpack.nd rfl (Or.inl rfl) (pe_mtX0 c_Unpacker_read_value hr (by omega) (takes_of rfl rfl rfl (E := E) rfl) (pv 1)))
  (pss_cons (ps_if (pt_cmpR op_ne (pe_fld (pv 1) rfl) (pe_callB call_len_seq (by rfl) T.len (by decide +kernel) (pa_cons (pe_fld (pv 1) rfl) pa_nil)) (nomark _))
  (pss_one (ps_raiseT TE rfl (takes_of rfl rfl rfl (E := E) rfl) rfl))
  pss_nil)
  (pss_one (ps_ret (pv 2)))))), ?_⟩
    fail "go"
    fail "gmk"
    refine ⟨x, dx, D, _, _, rfl, hL, at_mem (.tail _ hD), fun H hL => ⟨rfl, ?_⟩⟩
    have hB : Led H (uO CU x dx D 0 0 :: (PU, .tbl ps) :: L) := hL
    dsimp only [uO] at hL
    fail "go"
    clear hL
    refine ⟨x, dx, D, 0, 0, bs, ps, L, rfl, hB, ht, hD, hby, hz, Int.le_refl _, by decide, by decide, fun d rest v Z ps H hb hs hd ht hv hL => ?_, fun i' k' ps' H ht hL => k2 ps' H ht hL.tail⟩
    clear hB
    rw [List.drop_zero] at hb
    dsimp only [uO] at hL
    fail "go"
    refine ⟨D, _, rfl, .inr (.of (hL.mem (.tail _ (.tail _ (List.mem_append_right _ hD))))), ?_⟩
    fail "go"
    have hbl := congrArg List.length hb
    rw [List.length_append] at hbl
    refine ite_n (fun z => ?_) fun z => ?_
    · fail "go"
      exact k2 ps _ ht (hL.tail.le (fun a_ => by
        simp only [cnt_cons, cnt_app]
        omega))
    · have z := V.int.inj z
      rw [List.length_map, Nat.zero_add] at z
      have hr0 : rest = [] := List.length_eq_zero_iff.mp (by omega)
      rw [hr0, List.append_nil] at hb
      fail "go"
      exact k1 d v Z ps _ hb hs (by omega) ht hv hL.tail
theorem ok_packX {f c PN : Addr} {oc dV : Value} {od : Option Addr} {osl : Array (Option Value)} {kV doc pm ct : Value} {an : Option Addr}
    (lk : K.lookup f = some ⟨oc, od, .func (PySem.W.fnOf "pack" "pack" (defArgs sPack) (defBody sPack) (defScope sPack) dV kV doc pm an (.ref c) ct), osl⟩) (hcd : PySem.W.codeIn K (.ref c) "pack" = true) (TB : GxR.TabB base mg c PN) (T : TxtW mg) (TE : ExcT K mg "WireError" CW)
    (hm : mg "pack" = some (.ref f)) (kp : PySem.W.keepIn K (.ref f) = true) (b : Binds K (PySem.W.fnOf "pack" "pack" (defArgs sPack) (defBody sPack) (defScope sPack) dV kV doc pm an (.ref c) ct) ["value", "depth"] [])
    (c_natural : Cal P w K mg base 1 "natural" spNatural []) (c_sign_number : Cal P w K mg base 1 "sign_number" spSignN []) (n : Nat) :
    FnOk P w K mg base (L2.CX P w) (5 + n) f (PySem.W.fnOf "pack" "pack" (defArgs sPack) (defBody sPack) (defScope sPack) dV kV doc pm an (.ref c) ct) ["value", "depth"] (spPackX CW PN n) := by
  induction n with
  | zero => exact ⟨fun vs H Q E ⟨_, _, _, _, _, _, _, _, _, h1, h2, _⟩ => absurd h2 (by omega), fun _ _ _ H _ _ vs Q E _ _ _ _ ⟨_, _, _, _, _, _, _, _, _, h1, h2, _⟩ => absurd h2 (by omega)⟩
  | succ n ih =>
    have c_pack_all : CalX P w K mg base (5 + n) "pack" (spPackX CW PN n) [] := ⟨_, _, _, [], ih, hm, kp, b, .nil⟩
    have e9 : 5 + (n + 1) = (5 + n) + 1 := by omega
    rw [e9]
    refine fn_of lk hcd scPack (fun vs H Q E h => ?_) fun A outer s H vs Q E hr h => ?_
    · obtain ⟨v, i, m, ps, L, rfl, _⟩ := h
      rfl
    · obtain ⟨v, i, m, ps, L, rfl, hL, hd, h0, h31, hn, hm2, k⟩ := h
      replace hr : Room (5 + n) _ := hr
      have hr1 : Room 2 _ := hr.mono (by omega)
      have hr5 : Room 5 _ := hr.mono (by omega)
      refine ⟨_, (pss_cons (ps_if (pt_cmpR op_gt (pv 1) (C8.pe_gc (by rfl) T.g_MOST_DEEP) (nomark _))
  (pss_one (ps_raiseT TE rfl (takes_of rfl rfl rfl (E := E) rfl) rfl))
  pss_nil)
  (pss_cons (ps_if (pt_cmpR op_isN (pv 0) pe_non (nomark _))
  (pss_one (ps_ret (pe_tup (pa_cons (C8.pe_gc (by rfl) T.g_NONE) pa_nil))))
  pss_nil)
  (pss_cons (ps_if (PW.pt (pw_or (pt_cmpR op_isB (pv 0) pe_bl (nomark _)) (pw_or1 (pt_cmpR op_isB (pv 0) pe_bl (nomark _)))))
  (pss_one (ps_ret (pe_tup (pa_cons (pe_ifExp (pt_truth (pv 0) (by intro _; rfl)) (C8.pe_gc (by rfl) T.g_TRUE) (C8.pe_gc (by rfl) T.g_FALSE)) pa_nil))))
  pss_nil)
  (pss_cons (ps_if (pt_val (pe_callB call_isi (by rfl) T.isinstance (by decide +kernel) (pa_cons (pv 0) (pa_cons (pe_bltn (v := .ty "int") (by rfl) T.int (show bootBuiltins _ = some (.type "int") by decide +kernel) rfl) pa_nil))))
  (pss_one (ps_ret (pe_ifExp (pt_cmpR op_ge (pv 0) pe_int (nomark _)) (pe_op (op_catA) (pe_tup (pa_cons (C8.pe_gc (by rfl) T.g_NUMBER) pa_nil)) (pe_c c_natural hr (by omega) (by rfl) (pa_cons (pv 0) pa_nil))) (pe_op (op_catA) (pe_tup (pa_cons (C8.pe_gc (by rfl) T.g_BELOW) pa_nil)) (pe_c c_natural hr (by omega) (by rfl) (pa_cons (pe_op op_sub (pe_op op_sub pe_int (pv 0)) pe_int) pa_nil))))))
  pss_nil)
  (pss_cons (ps_if (pt_val (pe_callB call_isi (by rfl) T.isinstance (by decide +kernel) (pa_cons (pv 0) (pa_cons (pe_bltn (v := .ty "str") (by rfl) T.str (show bootBuiltins _ = some (.type "str") by decide +kernel) rfl) pa_nil))))
  (pss_one (ps_ret (pe_op (op_catA) (pe_op (op_catA) (pe_tup (pa_cons (C8.pe_gc (by rfl) T.g_TEXT) pa_nil)) (pe_c c_natural hr (by omega) (by rfl) (pa_cons (pe_callB call_len_str (by rfl) T.len (by decide +kernel) (pa_cons (pv 0) pa_nil)) pa_nil))) (Gx.pe_tupleG (Gx.pgen_gx (own := [("sign", 2)]) (g := gName 2) hr1 TB rfl scPack.nd (pi_str (pv 0)) (Gx.gxOk_by (own := [("sign", 2)]) (N := ["value", "depth", "sign", "found", "part"]) (sc := (defScope sPack)) (by decide +kernel)) (fun _ _ _ _ _ _ _ _ _ => (pg_name (i := 2) scPack.nd rfl (Or.inl rfl))) (fun _ _ _ _ _ _ _ _ hr => pts_nil) (fun _ _ _ _ _ _ _ _ hr => (pe_c c_sign_number hr (by omega) (by rfl) (pa_cons (pv 2) pa_nil))) (fun _ => rfl)) hr5 (by rfl) T.tuple))))
  pss_nil)
  (pss_cons (ps_if (pt_val (pe_callB call_isi (by rfl) T.isinstance (by decide +kernel) (pa_cons (pv 0) (pa_cons (pe_bltn (v := .ty "tuple") (by rfl) T.tuple (show bootBuiltins _ = some (.type "tuple") by decide +kernel) rfl) pa_nil))))
  (pss_cons (ps_set (i := 3) scPack.nd rfl (Or.inl rfl) (pe_op (op_catA) (pe_tup (pa_cons (C8.pe_gc (by rfl) T.g_ROW) pa_nil)) (pe_c c_natural hr (by omega) (by rfl) (pa_cons (pe_callB call_len_seq (by rfl) T.len (by decide +kernel) (pa_cons (pv 0) pa_nil)) pa_nil))))
  (pss_cons (ps_for (passes_of rfl) rfl (pi_tup (pv 0)) (pg_name (i := 4) scPack.nd rfl (Or.inl rfl))
  (pss_one (ps_aug (i := 3) scPack.nd rfl (Or.inl rfl) (pe_cX c_pack_all hr (by omega) (by rfl) (takes_of rfl rfl rfl (E := E) rfl) (pa_cons (pv 4) (pa_cons (pe_op op_add (pv 1) pe_int) pa_nil))) iop_catA)))
  (pss_one (ps_ret (pv 3)))))
  pss_nil)
  (pss_one (ps_raiseT TE rfl (takes_of rfl rfl rfl (E := E) rfl) rfl)))))))), ?_⟩


      fail "go"
      refine ite_d (fun q => ?_) fun q => ?_
      · fail "go"
        exact k _ hL
      fail "go"
      cases m with
      | zero => exact absurd hm2 (by omega)
      | succ m =>
      rw [chainD] at hd
      cases hd with
      | @row pr oo xs dl hp ho hxs =>
      cases hxs with
      | @cons x _ _ _ hx hxs =>
      cases hxs
      fail "go"
      refine ⟨_, _, _, _, false, rfl, .ty _, ho.ty (hL.mem (.tail _ hp)), kit_ty (by decide +kernel), ?_⟩
      fail "go"
      refine ⟨_, _, _, _, false, rfl, .ty _, ho.ty (hL.mem (.tail _ hp)), kit_ty (by decide +kernel), ?_⟩
      fail "go"
      refine ⟨_, _, _, _, true, rfl, .ty _, ho.ty (hL.mem (.tail _ hp)), kit_ty (by decide +kernel), ?_⟩
      fail "go"
      refine ⟨_, _, rfl, .inr (ho.sq (hL.mem (.tail _ (.tail _ hp)))), ?_⟩
      refine ⟨1, _, rfl, hL, by rw [natB_lo (by decide)]; decide, fun r H hL => ?_⟩
      refine k_catA (hL.sub (.refl _)) (by simp only [List.length_cons, List.length_map, List.length_nil, natB_lo (show 1 < 128 by decide)]; decide) fun r H hL => ?_
      fail "go"
      refine ⟨⟨_, ho.sq (hL.mem (.tail _ (.tail _ hp)))⟩, ?_⟩
      refine for_tupA (xs := [x]) (fun i' σ H => Hold (i' = 0 ∧ ∃ (v2 v4 : Option V), σ = [some (.ref pr), some (.int i), v2, some (.ref r), v4] ∧ Led H ((r, .tup ([V.int 7] ++ (natB 1).map V.int)) :: (PN, .tbl ps) :: L))) (.mk ⟨rfl, none, none, rfl, hL⟩)
        (fun i' σ H _ h => ?_) (fun i' y σ H D' hi h hN => ?_) (fun σ H h => ?_)
      · obtain ⟨_, v2, v4, rfl, hL⟩ := h.out
        exact ho.sq (hL.mem (.tail _ (.tail _ hp)))
      · clear hL
        obtain ⟨rfl, v2, v4, rfl, hL⟩ := h.out
        clear h
        cases hi
        refine ⟨_, rfl, ?_⟩
        fail "go"
        refine ⟨x, i + 1, m, ps, (r, .tup ([V.int 7] ++ (natB 1).map V.int)) :: L, rfl, hL.perm (List.Perm.swap _ _ _), hx.mono (fun a h => .tail _ h), by omega, by omega, by omega, by omega, fun H hL => k _ (hL.le (fun a_ => ?_))⟩
        simp only [cnt_cons]
        omega
      · obtain ⟨h, _⟩ := h.out
        exact absurd h (by simp)
theorem ok_packLX {f c PN : Addr} {oc dV : Value} {od : Option Addr} {osl : Array (Option Value)} {kV doc pm ct : Value} {an : Option Addr} {ds : List Value}
    (lk : K.lookup f = some ⟨oc, od, .func (PySem.W.fnOf "pack" "pack" (defArgs sPack) (defBody sPack) (defScope sPack) dV kV doc pm an (.ref c) ct), osl⟩) (hcd : PySem.W.codeIn K (.ref c) "pack" = true) (TB : GxR.TabB base mg c PN) (T : TxtW mg) (TE : ExcT K mg "WireError" CW)
    (c_natural : Cal P w K mg base 1 "natural" spNatural []) (c_sign_number : Cal P w K mg base 1 "sign_number" spSignN []) (c_pack_all : CalX P w K mg base (5 + 32) "pack" (spPackX CW PN 32) []) :
    FnOk P w K mg base (L2.CX P w) 38 f (PySem.W.fnOf "pack" "pack" (defArgs sPack) (defBody sPack) (defScope sPack) dV kV doc pm an (.ref c) ct) ["value", "depth"] (spPackLX CW) := by
    refine fn_of lk hcd scPack (fun vs H Q E h => ?_) fun A outer s H vs Q E hr h => ?_
    · obtain ⟨a, xs, L, rfl, _⟩ := h
      rfl
    · obtain ⟨a, xs, L, rfl, hL, ha, k⟩ := h
      have hr1 : Room 2 _ := hr.mono (by omega)
      have hr5 : Room 5 _ := hr.mono (by omega)
      refine ⟨_, (pss_cons (ps_if (pt_cmpR op_gt (pv 1) (C8.pe_gc (by rfl) T.g_MOST_DEEP) (nomark _))
  (pss_one (ps_raiseT TE rfl (takes_of rfl rfl rfl (E := E) rfl) rfl))
  pss_nil)
  (pss_cons (ps_if (pt_cmpR op_isN (pv 0) pe_non (nomark _))
  (pss_one (ps_ret (pe_tup (pa_cons (C8.pe_gc (by rfl) T.g_NONE) pa_nil))))
  pss_nil)
  (pss_cons (ps_if (PW.pt (pw_or (pt_cmpR op_isB (pv 0) pe_bl (nomark _)) (pw_or1 (pt_cmpR op_isB (pv 0) pe_bl (nomark _)))))
  (pss_one (ps_ret (pe_tup (pa_cons (pe_ifExp (pt_truth (pv 0) (by intro _; rfl)) (C8.pe_gc (by rfl) T.g_TRUE) (C8.pe_gc (by rfl) T.g_FALSE)) pa_nil))))
  pss_nil)
  (pss_cons (ps_if (pt_val (pe_callB call_isi (by rfl) T.isinstance (by decide +kernel) (pa_cons (pv 0) (pa_cons (pe_bltn (v := .ty "int") (by rfl) T.int (show bootBuiltins _ = some (.type "int") by decide +kernel) rfl) pa_nil))))
  (pss_one (ps_ret (pe_ifExp (pt_cmpR op_ge (pv 0) pe_int (nomark _)) (pe_op (op_catA) (pe_tup (pa_cons (C8.pe_gc (by rfl) T.g_NUMBER) pa_nil)) (pe_c c_natural hr (by omega) (by rfl) (pa_cons (pv 0) pa_nil))) (pe_op (op_catA) (pe_tup (pa_cons (C8.pe_gc (by rfl) T.g_BELOW) pa_nil)) (pe_c c_natural hr (by omega) (by rfl) (pa_cons (pe_op op_sub (pe_op op_sub pe_int (pv 0)) pe_int) pa_nil))))))
  pss_nil)
  (pss_cons (ps_if (pt_val (pe_callB call_isi (by rfl) T.isinstance (by decide +kernel) (pa_cons (pv 0) (pa_cons (pe_bltn (v := .ty "str") (by rfl) T.str (show bootBuiltins _ = some (.type "str") by decide +kernel) rfl) pa_nil))))
  (pss_one (ps_ret (pe_op (op_catA) (pe_op (op_catA) (pe_tup (pa_cons (C8.pe_gc (by rfl) T.g_TEXT) pa_nil)) (pe_c c_natural hr (by omega) (by rfl) (pa_cons (pe_callB call_len_str (by rfl) T.len (by decide +kernel) (pa_cons (pv 0) pa_nil)) pa_nil))) (Gx.pe_tupleG (Gx.pgen_gx (own := [("sign", 2)]) (g := gName 2) hr1 TB rfl scPack.nd (pi_str (pv 0)) (Gx.gxOk_by (own := [("sign", 2)]) (N := ["value", "depth", "sign", "found", "part"]) (sc := (defScope sPack)) (by decide +kernel)) (fun _ _ _ _ _ _ _ _ _ => (pg_name (i := 2) scPack.nd rfl (Or.inl rfl))) (fun _ _ _ _ _ _ _ _ hr => pts_nil) (fun _ _ _ _ _ _ _ _ hr => (pe_c c_sign_number hr (by omega) (by rfl) (pa_cons (pv 2) pa_nil))) (fun _ => rfl)) hr5 (by rfl) T.tuple))))
  pss_nil)
  (pss_cons (ps_if (pt_val (pe_callB call_isi (by rfl) T.isinstance (by decide +kernel) (pa_cons (pv 0) (pa_cons (pe_bltn (v := .ty "tuple") (by rfl) T.tuple (show bootBuiltins _ = some (.type "tuple") by decide +kernel) rfl) pa_nil))))
  (pss_cons (ps_set (i := 3) scPack.nd rfl (Or.inl rfl) (pe_op (op_catA) (pe_tup (pa_cons (C8.pe_gc (by rfl) T.g_ROW) pa_nil)) (pe_c c_natural hr (by omega) (by rfl) (pa_cons (pe_callB call_len_seq (by rfl) T.len (by decide +kernel) (pa_cons (pv 0) pa_nil)) pa_nil))))
  (pss_cons (ps_for (passes_of rfl) rfl (pi_tup (pv 0)) (pg_name (i := 4) scPack.nd rfl (Or.inl rfl))
  (pss_one (ps_aug (i := 3) scPack.nd rfl (Or.inl rfl) (pe_cX c_pack_all hr (by omega) (by rfl) (takes_of rfl rfl rfl (E := E) rfl) (pa_cons (pv 4) (pa_cons (pe_op op_add (pv 1) pe_int) pa_nil))) iop_catA)))
  (pss_one (ps_ret (pv 3)))))
  pss_nil)
  (pss_one (ps_raiseT TE rfl (takes_of rfl rfl rfl (E := E) rfl) rfl)))))))), ?_⟩


      fail "go"
      have hty : TyX K H (.ref a) (.type "list") := .base (.lst (hL.mem ha))
      refine ⟨_, _, _, _, false, rfl, .ty _, hty, kit_ty (by decide +kernel), ?_⟩
      fail "go"
      refine ⟨_, _, _, _, false, rfl, .ty _, hty, kit_ty (by decide +kernel), ?_⟩
      fail "go"
      refine ⟨_, _, _, _, false, rfl, .ty _, hty, kit_ty (by decide +kernel), ?_⟩
      fail "go"
      exact k _ hL
theorem ok_signX {f : Addr} {fd : FuncData} (F : Fun K "sign_number" "sign_number" sSignN f fd) (T : TxtW mg) (TE : ExcT K mg "WireError" CW) : FnOk P w K mg base (L2.CX P w) 1 f fd ["sign"] (spSignX CW) := by
  refine F.okX scSignN (fun vs H Q E h => ?_) (fun cdv A outer s H vs Q E hr h => ?_)
  · obtain ⟨c, rfl, _⟩ := h
    rfl
  · obtain ⟨c, rfl, h0, k⟩ := h
    refine ⟨_, (pss_cons (ps_set (i := 1) scSignN.nd rfl (Or.inl rfl) (pe_bm PySem.F.plainAttrs_str PySem.F.slot_str_find PySem.F.type_str_find mt_find (C8.pe_gc (by rfl) T.g_SIGNS) (pa_cons (pv 0) pa_nil)))
  (pss_cons (ps_if (pt_cmpR op_lt (pv 1) pe_int (nomark _))
  (pss_one (ps_raiseT TE rfl (takes_of rfl rfl rfl (E := E) rfl) rfl))
  pss_nil)
  (pss_one (ps_ret (pv 1))))), ?_⟩
    fail "go"
    refine ite_d (fun q => ?_) fun q => absurd h0 q
    fail "go"
    exact k
end
end Sd


set_option linter.unusedVariables false
namespace Sd
open PySem L2
open C8 (Cal Met Mak pe_c pe_mk pe_mt pe_mt0 pss_cut tCut)
-- TYPES FRZ=
set_option linter.unusedSimpArgs false
set_option pp.deepTerms false
set_option pp.deepTerms.threshold 12
set_option hygiene false
local macro_rules | `(tactic| fail "nd") => `(tactic| first | assumption | decide +kernel)
local macro_rules | `(tactic| fail "ix") => `(tactic| first | exact ⟨0, rfl⟩ | exact ⟨1, rfl⟩ | exact ⟨2, rfl⟩ | exact ⟨3, rfl⟩ | exact ⟨4, rfl⟩ | exact ⟨5, rfl⟩ | exact ⟨6, rfl⟩ | exact ⟨7, rfl⟩ | exact ⟨8, rfl⟩ | exact ⟨9, rfl⟩ | exact ⟨10, rfl⟩ | exact ⟨11, rfl⟩ | exact ⟨12, rfl⟩ | exact ⟨13, rfl⟩ | exact ⟨14, rfl⟩ | exact ⟨15, rfl⟩ | exact ⟨16, rfl⟩ | exact ⟨17, rfl⟩ | exact ⟨18, rfl⟩ | assumption)
local macro_rules | `(tactic| fail "up") => `(tactic| first | exact ⟨0, rfl, rfl⟩ | exact ⟨1, rfl, rfl⟩ | exact ⟨2, rfl, rfl⟩ | exact ⟨3, rfl, rfl⟩ | exact ⟨4, rfl, rfl⟩ | exact ⟨5, rfl, rfl⟩ | exact ⟨6, rfl, rfl⟩ | exact ⟨7, rfl, rfl⟩ | exact ⟨8, rfl, rfl⟩ | exact ⟨9, rfl, rfl⟩ | exact ⟨10, rfl, rfl⟩ | exact ⟨11, rfl, rfl⟩ | exact ⟨12, rfl, rfl⟩ | exact ⟨13, rfl, rfl⟩ | exact ⟨14, rfl, rfl⟩ | exact ⟨15, rfl, rfl⟩ | exact ⟨16, rfl, rfl⟩ | assumption)
local macro_rules | `(tactic| fail "lkF") => `(tactic| first | assumption | exact fz_at 0 (by fail "nd") rfl rfl | exact fz_at 1 (by fail "nd") rfl rfl | exact fz_at 2 (by fail "nd") rfl rfl | exact fz_at 3 (by fail "nd") rfl rfl | exact fz_at 4 (by fail "nd") rfl rfl | exact fz_at 5 (by fail "nd") rfl rfl | exact fz_at 6 (by fail "nd") rfl rfl | exact fz_at 7 (by fail "nd") rfl rfl)
local macro_rules | `(tactic| fail "lkD") => `(tactic| first | assumption | exact dz_at 0 (by fail "nd") rfl rfl | exact dz_at 1 (by fail "nd") rfl rfl | exact dz_at 2 (by fail "nd") rfl rfl | exact dz_at 3 (by fail "nd") rfl rfl | exact dz_at 4 (by fail "nd") rfl rfl)
local macro_rules | `(tactic| fail "ptF") => `(tactic| first | assumption | exact fz_put 0 (by fail "nd") rfl (Nat.le_of_ble_eq_true rfl) | exact fz_put 1 (by fail "nd") rfl (Nat.le_of_ble_eq_true rfl) | exact fz_put 2 (by fail "nd") rfl (Nat.le_of_ble_eq_true rfl) | exact fz_put 3 (by fail "nd") rfl (Nat.le_of_ble_eq_true rfl) | exact fz_put 4 (by fail "nd") rfl (Nat.le_of_ble_eq_true rfl) | exact fz_put 5 (by fail "nd") rfl (Nat.le_of_ble_eq_true rfl) | exact fz_put 6 (by fail "nd") rfl (Nat.le_of_ble_eq_true rfl) | exact fz_put 7 (by fail "nd") rfl (Nat.le_of_ble_eq_true rfl) | exact fz_new (by decide +kernel) rfl)
local macro_rules | `(tactic| fail "ptD") => `(tactic| first | assumption | exact dz_put 0 (by fail "nd") rfl (Nat.le_of_ble_eq_true rfl) | exact dz_put 1 (by fail "nd") rfl (Nat.le_of_ble_eq_true rfl) | exact dz_put 2 (by fail "nd") rfl (Nat.le_of_ble_eq_true rfl) | exact dz_put 3 (by fail "nd") rfl (Nat.le_of_ble_eq_true rfl) | exact dz_put 4 (by fail "nd") rfl (Nat.le_of_ble_eq_true rfl))
local macro_rules | `(tactic| fail "sz") => `(tactic| first | assumption | exact (Nat.le_of_ble_eq_true rfl) | omega | decide)
local macro_rules | `(tactic| fail "sd") => `(tactic| first | rfl | assumption | decide | omega | (dsimp only; first | decide | omega) | exact .inr ⟨by decide, by decide⟩ | exact .inl ⟨by decide, by decide⟩ | exact ⟨by omega, by omega⟩ | exact .inl ⟨by omega, by omega⟩ | exact .inr ⟨by omega, by omega⟩ | exact ⟨by omega, by omega, by omega⟩)
local macro_rules | `(tactic| fail "cl") => `(tactic| (clear hH; dsimp only [List.set, List.cons_append, List.nil_append, List.append] at hL))
local macro_rules | `(tactic| fail "gn") => `(tactic| (intro p hp; generalize hH : upd H p _ = H; replace hL := Led.newH hL hp hH; clear hH hp))
local macro_rules | `(tactic| fail "gup") => `(tactic| (generalize hH : upd H _ _ = H; replace hL := Led.upU hL (by fail "up") hH; fail "cl"))
local macro_rules | `(tactic| fail "gmk") => `(tactic| (intro x dx hx hd ne; generalize hH : upd (upd H dx _) x _ = H; replace hL := Led.made hL hx hd ne hH; clear hH hx hd ne))
local macro_rules | `(tactic| fail "v") => `(tactic| refine ⟨_, rfl, ?_⟩)
local macro_rules | `(tactic| fail "i2") => `(tactic| refine ⟨_, _, rfl, rfl, ?_⟩)
local macro_rules | `(tactic| fail "go1") => `(tactic| first
  | refine ⟨_, rfl, ?_⟩
  | refine ⟨_, _, rfl, rfl, ?_⟩
  | refine ⟨_, _, rfl, ?_⟩
  | refine iteT ?_
  | refine iteF ?_
  | refine k_fld hL (by fail "ix") (by assumption) (by assumption) (by fail "lkF") ?_
  | refine k_dgetS hL (by fail "ix") (by fail "lkD") ?_
  | refine k_dgetI hL (by fail "ix") (by assumption) ?_
  | refine k_ixL hL (by fail "ix") (by first | rfl | assumption) ?_
  | refine k_ixT hL (by fail "ix") (by first | rfl | assumption) ?_
  | refine k_tyL hL (by fail "ix") ?_
  | refine k_isd hL (by fail "ix") ?_
  | (refine And.intro (by fail "sz") ?_; fail "gn")
  | refine And.intro (by fail "sd") ?_
  | fail "gn"
  | refine k_meth hL (by fail "ix") (by first | assumption | exact fz_no (by decide +kernel)) ?_
  | refine k_gtup hL (by fail "ix") rfl ?_
  | (refine k_popI hL (by fail "ix") (by assumption) ?_; fail "gup")
  | (refine k_listD hL (by fail "ix") ?_; fail "gn")
  | (refine ⟨_, _, _, _, rfl, rfl, hL.at (by fail "ix"), rfl, ?_⟩; fail "gup")
  | (refine ⟨_, _, _, rfl, rfl, hL.at (by fail "ix"), (by fail "sz"), ?_⟩; fail "gup")
  | (refine ⟨_, _, _, _, rfl, hL.at (by fail "ix"), by assumption, by assumption, Nat.lt_of_le_of_lt fz_len (by decide), ?_⟩; generalize hH : upd H _ _ = H; replace hL := Led.upF hL (by fail "up") (by fail "ptF") hH; fail "cl")
  | (refine ⟨_, _, hL.at (by fail "ix"), Nat.lt_of_le_of_lt fz_len (by decide), ?_⟩; generalize hH : upd H _ _ = H; replace hL := Led.upF hL (by fail "up") (by fail "ptF") hH; fail "cl")
  | (refine k_dputS hL (by fail "ix") (Nat.lt_of_le_of_lt dz_len (by decide)) (by fail "ptD") (by fail "up") ?_; clear hL; intro H hL; dsimp only [List.set, List.cons_append, List.nil_append, List.append] at hL)
  | refine k_lenL2 hL (by fail "ix") ?_
  | refine k_lenT2 hL (by fail "ix") ?_
  | refine .inl ⟨_, rfl, ?_⟩
  | refine .inr ⟨_, rfl, ?_⟩)
local macro_rules | `(tactic| fail "go") => `(tactic| repeat fail "go1")
local macro_rules | `(tactic| fail "pm") => `(tactic| (refine Led.le hL (fun a_ => ?_); simp only [cnt_nil, cnt_cons, cnt_app, List.map_append, List.map_cons, List.map_nil, List.flatMap_append, List.flatMap_cons, List.flatMap_nil, List.append_assoc, List.cons_append, List.nil_append]; omega))

/-- what stops the reading: a cut, or a frame whose sum is wrong -/
def Bad (t : List Int) : Prop := 8 ≤ t.length ∧ 0 ≤ manyB (t.take 4) ∧ (manyB (t.take 4)).toNat + 8 ≤ t.length ∧ sumB ((t.drop 4).take (manyB (t.take 4)).toNat) ≠ (t.drop (4 + (manyB (t.take 4)).toNat)).take 4
def spReadFB (CU PU : Addr) (n : Nat) : Sp := fun vs H Q _ => ∃ (D : Addr) (ds : List Dv) (tail : List Int) (ps : Array Value) (L : Lg), vs = [.ref D] ∧ Led H ((PU, .tbl ps) :: L) ∧ TriplesOk ps.toList ∧ (D, tI (framesB ds ++ tail)) ∈ L ∧
  (∀ d ∈ ds, deep d < n ∧ deep d ≤ 30 ∧ sendable d ∧ (packB d).length + 8 ≤ sizeLine) ∧ ds.length < sizeLine ∧ (Cut tail ∨ Bad tail) ∧
  ∀ (t l : Addr) (vs : List V) (Z : Lg) (ps' : Array Value) H', TriplesOk ps'.toList → DFs Z vs ds → Led H' ((t, .tup [.ref l, .int (framesB ds).length]) :: (l, .lst vs) :: (PU, .tbl ps') :: (Z ++ L)) → Q (.ref t) H'
theorem eqvAll_ints : ∀ (a b : List Int), PyData.eqvAll (a.map PyData.int) (b.map PyData.int) = decide (a = b)
  | [], [] => by simp [PyData.eqvAll]
  | [], y :: ys => by simp [PyData.eqvAll]
  | x :: xs, [] => by simp [PyData.eqvAll]
  | x :: xs, y :: ys => by
    rw [List.map_cons, List.map_cons, PyData.eqvAll, eqvAll_ints xs ys]
    by_cases e : x = y <;> by_cases f : xs = ys <;> simp [PyData.eqv, e, f]
theorem eqv_tupI {a b : List Int} : PyData.eqv (.tuple (a.map PyData.int)) (.tuple (b.map PyData.int)) = decide (a = b) := by
  rw [PyData.eqv]
  exact eqvAll_ints a b
section
variable {P : Program} {w : World} {K : PySem.W.Frag} {mg : Str → Option Value} {base : Heap} {CU PU : Addr}
theorem ok_readFB {f : Addr} {fd : FuncData} {n : Nat} (F : Fun K "read_frames" "read_frames" sReadF f fd) (T : TxtW mg) (c_unpack : Cal P w K mg base (5 + 5 * n) "unpack" (spUnpack CU PU n) []) (c_sum_of_bytes : Cal P w K mg base 1 "sum_of_bytes" spSumB []) :
    FnOk P w K mg base CX0 (6 + 5 * n) f fd ["data"] (spReadFB CU PU n) := by
  have e6 : 6 + 5 * n = (5 + 5 * n) + 1 := by omega
  rw [e6]
  refine F.ok scReadF (fun vs H Q E h => ?_) (fun cdv A outer s H vs Q E hr h => ?_)
  · obtain ⟨D, ds, tail, ps, L, rfl, _⟩ := h
    rfl
  · obtain ⟨D, ds, tail, ps, L, rfl, hL, ht, hD, hds, hzl, hcut, k⟩ := h
    refine ⟨_, (pss_cons (ps_par (i := 1) (j := 2) (by rfl) scReadF.nd rfl rfl (by decide) rfl rfl (pa_cons (pe_lst pa_nil) (pa_cons pe_int pa_nil)) (by rfl))
  (pss_cons (ps_while PassesOwn.never (pt_cmpR op_le (pe_op op_add (pv 2) pe_int) (pe_callB call_len_seq (by rfl) T.len (by decide +kernel) (pa_cons (pv 0) pa_nil)) (nomark _))
  (pss_cons (ps_set (i := 3) scReadF.nd rfl (Or.inl rfl) pe_int)
  (pss_cons (ps_for PassesOwn.never rfl (pi_tup (pe_slice sl_tup (pv 0) (po_some (pv 2)) (po_some (pe_op op_add (pv 2) pe_int)))) (pg_name (i := 4) scReadF.nd rfl (Or.inl rfl))
  (pss_one (ps_set (i := 3) scReadF.nd rfl (Or.inl rfl) (pe_op op_add (pe_op op_mul (pv 3) pe_int) (pv 4)))))
  (pss_cons (ps_set (i := 5) scReadF.nd rfl (Or.inl rfl) (pe_op op_add (pe_op op_add (pe_op op_add (pv 2) pe_int) (pv 3)) pe_int))
  (pss_cons (ps_if (PW.pt (pw_or (pt_cmpR op_gt (pv 5) (pe_callB call_len_seq (by rfl) T.len (by decide +kernel) (pa_cons (pv 0) pa_nil)) (nomark _)) (pw_or1 (pt_cmpR (op_neP hr.units) (pe_c c_sum_of_bytes hr (by omega) (by rfl) (pa_cons (pe_slice sl_tup (pv 0) (po_some (pe_op op_add (pv 2) pe_int)) (po_some (pe_op op_sub (pv 5) pe_int))) pa_nil)) (pe_callTy call_tuple_of (by rfl) T.tuple (by decide +kernel) (pa_cons (pe_slice sl_tup (pv 0) (po_some (pe_op op_sub (pv 5) pe_int)) (po_some (pv 5))) pa_nil)) (nomark _)))))
  (pss_one ps_break)
  pss_nil)
  (pss_cons (ps_try_never (fun _ _ h => h) (pss_one (ps_expr (pe_bm PySem.F.plainAttrs_list PySem.F.slot_list_append PySem.F.type_list_append mt_append (pv 1) (pa_cons (pe_c c_unpack hr (by omega) (by rfl) (pa_cons (pe_slice sl_tup (pv 0) (po_some (pe_op op_add (pv 2) pe_int)) (po_some (pe_op op_sub (pv 5) pe_int))) pa_nil)) pa_nil)))) pss_nil)
  (pss_one (ps_set (i := 2) scReadF.nd rfl (Or.inl rfl) (pv 5)))))))))
  (pss_one (ps_ret (pe_tup (pa_cons (pv 1) (pa_cons (pv 2) pa_nil))))))), ?_⟩
    fail "go"
    refine ⟨fun m σ H => Hold (∃ (j : Nat) (l : Addr) (v3 v4 v5 : Option V) (vs : List V) (Z : Lg) (ps : Array Value), m = ds.length - j ∧ j ≤ ds.length ∧ σ = [some (.ref D), some (.ref l), some (.int (framesB (ds.take j)).length), v3, v4, v5] ∧ TriplesOk ps.toList ∧ DFs Z vs (ds.take j) ∧
      Led H ((l, .lst vs) :: (PU, .tbl ps) :: (Z ++ L))), ⟨_, .mk ⟨0, _, _, _, _, [], [], ps, rfl, Nat.zero_le _, rfl, ht, .nil, hL⟩⟩, fun m σ H h => ?_⟩
    clear hL ht
    obtain ⟨j, l, v3, v4, v5, vs, Z, ps, hm, hj, rfl, ht, hdl, hL⟩ := h.out
    clear h
    have hDm : (D, tI (framesB ds ++ tail)) ∈ (l, HO.lst vs) :: (PU, HO.tbl ps) :: (Z ++ L) := .tail _ (.tail _ (List.mem_append_right _ hD))
    fail "go"
    refine ⟨D, _, rfl, .inr (.of (hL.mem hDm)), ?_⟩
    fail "go"
    have hfin : (framesB (ds.take j)).length = (framesB ds).length → j = ds.length → Q (.ref p) H → Q (.ref p) H := fun _ _ h => h
    clear hfin
    have hlt : (framesB (ds.take j)).length ≤ (framesB ds ++ tail).length := by
      rw [List.length_append]
      have : (framesB (ds.take j)).length ≤ (framesB ds).length := by
        conv => rhs; rw [← List.take_append_drop j ds]
        unfold framesB
        rw [List.flatMap_append, List.length_append]
        exact Nat.le_add_right _ _
      omega
    have hdr : j = ds.length → (framesB ds ++ tail).drop (framesB (ds.take j)).length = tail := fun e => by rw [e, List.take_length, List.drop_left]
    refine ite_d (fun h8 => ?_) (fun h8 => ?_)
    · rw [List.length_map] at h8
      refine ⟨fun σ' H' => Hold (j < ds.length ∧ ∃ (v3 v4 v5 : Option V) (vs : List V) (Z : Lg) (ps : Array Value), σ' = [some (.ref D), some (.ref l), some (.int (framesB (ds.take (j + 1))).length), v3, v4, v5] ∧ TriplesOk ps.toList ∧ DFs Z vs (ds.take (j + 1)) ∧
        Led H' ((l, .lst vs) :: (PU, .tbl ps) :: (Z ++ L))), fun σ' H' h => ?_, ?_⟩
      · obtain ⟨q0, v3, v4, v5, vs, Z, ps, q1, q2, q3, q4⟩ := h.out
        exact ⟨ds.length - (j + 1), by omega, .mk ⟨j + 1, l, v3, v4, v5, vs, Z, ps, rfl, q0, q1, q2, q3, q4⟩⟩
      fail "go"
      refine k_cut (b := (framesB (ds.take j)).length + 4) hL hDm (Nat.le_add_right _ _) (by omega) (by omega) fun p4 H hL => ?_
      rw [Nat.add_sub_cancel_left] at hL
      refine ⟨p4, rfl, ⟨_, .of (hL.at ⟨0, rfl⟩)⟩, ?_⟩
      generalize hq : (framesB (ds.take j)).length = q at *
      generalize h4e : ((framesB ds ++ tail).drop q).take 4 = h4 at hL
      refine for_tupA (xs := h4.map V.int) (fun i σ H => Hold (∃ v4, σ = [some (.ref D), some (.ref l), some (.int q), some (.int (manyB (h4.take i))), v4, v5] ∧ Led H ((p4, tI h4) :: (l, .lst vs) :: (PU, .tbl ps) :: (Z ++ L)))) (.mk ⟨v4, rfl, hL⟩) (fun i σ H _ h => ?_) (fun i x σ H D1 hi h hN => ?_) (fun σ H h => ?_)
      · obtain ⟨v4, rfl, hL⟩ := h.out
        exact .of (hL.at ⟨0, rfl⟩)
      · clear hL
        obtain ⟨v4, rfl, hL⟩ := h.out
        rw [List.getElem?_map] at hi
        obtain ⟨b, hb, rfl⟩ := Option.map_eq_some_iff.mp hi
        fail "go"
        refine hN.nx _ _ (.mk ⟨some (.int b), ?_, hL⟩)
        have : manyB (h4.take (i + 1)) = manyB (h4.take i) * 256 + b := by
          rw [List.take_add_one, hb, Option.toList_some]
          unfold manyB
          rw [List.foldl_append]
          rfl
        rw [this]
        rfl
      · clear hL
        obtain ⟨v4, rfl, hL⟩ := h.out
        clear h
        rw [List.length_map, List.take_length]
        fail "go"
        replace hL := hL.tail
        rcases Nat.lt_or_ge j ds.length with hjl | hjl
        · have hd1 : ds[j]? = some ds[j] := List.getElem?_eq_getElem hjl
          generalize ds[j] = d at hd1
          obtain ⟨d1, d2, d3, d4⟩ := hds d (List.mem_of_getElem? hd1)
          have hat := frames_at hd1
          have hdq : (framesB ds ++ tail).drop q = fourB (packB d).length ++ (packB d ++ (sumB (packB d) ++ (framesB (ds.drop (j + 1)) ++ tail))) := by
            rw [hat, ← hq, List.append_assoc, List.append_assoc, List.drop_left]
            unfold frameB
            simp only [List.append_assoc]
          have h4f : h4 = fourB (packB d).length := by
            rw [← h4e, hdq]
            exact List.take_left' rfl
          have hmany : manyB h4 = (packB d).length := by
            rw [h4f]
            refine many_four (Int.natCast_nonneg _) ?_
            have : sizeLine < 4294967296 := by decide
            omega
          have hblen : (framesB ds ++ tail).length = q + ((packB d).length + 8 + ((framesB (ds.drop (j + 1))).length + tail.length)) := by
            have := congrArg List.length hdq
            rw [List.length_drop] at this
            simp only [List.length_append] at this
            simp only [fourB, sumB, List.length_cons, List.length_nil] at this
            simp only [List.length_append] at hlt ⊢
            omega
          rw [hmany]
          refine ⟨D, _, rfl, .inr (.of (hL.mem hDm)), ?_⟩
          fail "go"
          refine ite_d (fun z => absurd z (by rw [List.length_map]; omega)) fun _ => ?_
          have hs1 : ((framesB ds ++ tail).drop (q + 4)).take (packB d).length = packB d := drop_mid (x := fourB (packB d).length) hdq
          have hs2 : ((framesB ds ++ tail).drop (q + 4 + (packB d).length)).take 4 = sumB (packB d) := by
            refine drop_mid (x := packB d) (y := sumB (packB d)) (r := framesB (ds.drop (j + 1)) ++ tail) ?_
            rw [← List.drop_drop, hdq]
            exact List.drop_left' rfl
          fail "go"
          refine k_cutE (a := q + 4) (b := q + 4 + (packB d).length) hL hDm (by omega) (by push_cast; omega) (by omega) (by omega) (by omega) fun p5 H hL => ?_
          rw [Nat.add_sub_cancel_left, hs1] at hL
          fail "go"
          refine ⟨p5, packB d, _, rfl, hL, ⟨0, rfl⟩, fun r6 H hL => ?_⟩
          fail "go"
          refine k_cutE (a := q + 4 + (packB d).length) (b := q + 4 + (packB d).length + 4) hL (.tail _ (.tail _ hDm)) (by push_cast; omega) (by push_cast; omega) (by omega) (by omega) (by omega) fun p7 H hL => ?_
          rw [Nat.add_sub_cancel_left, hs2] at hL
          fail "go"
          refine ⟨p7, _, rfl, .inr ⟨.of (hL.at ⟨0, rfl⟩), ?_⟩⟩
          refine k_neSame (d := .tuple ((sumB (packB d)).map PyData.int)) (dp_tup (hL.at ⟨1, rfl⟩) dp_ints) (dp_tup (hL.at ⟨0, rfl⟩) dp_ints) shal_tupI ?_
          fail "go"
          replace hL := hL.tail.tail.tail
          refine k_cutE (a := q + 4) (b := q + 4 + (packB d).length) hL hDm (by omega) (by push_cast; omega) (by omega) (by omega) (by omega) fun p8 H hL => ?_
          rw [Nat.add_sub_cancel_left, hs1] at hL
          fail "go"
          refine ⟨p8, d, ps, (p8, tI (packB d)) :: (l, .lst vs) :: (Z ++ L), rfl, hL.perm ((List.Perm.cons _ (.swap _ _ _)).trans (.swap _ _ _)), ht, .head _, d1, d2, d3, by omega, fun v Z2 ps2 H ht2 hv hL => ?_⟩
          have hL' : Led H ((l, .lst vs) :: (PU, .tbl ps2) :: ((Z2 ++ Z) ++ L)) := by fail "pm"
          clear hL
          have hL := hL'
          clear hL'
          fail "go"
          refine ⟨l, _, _, rfl, rfl, hL.at ⟨0, rfl⟩, ?_, ?_⟩
          · rw [hdl.len, List.length_take]; omega
          fail "gup"
          fail "go"
          have e9 : (((framesB (ds.take (j + 1))).length : Nat) : Int) = (q : Int) + 4 + (packB d).length + 4 := by
            rw [frames_take hd1, List.length_append, hq, frame_len]
            push_cast
            omega
          refine .mk ⟨hjl, some (.int (packB d).length), v4, some (.int ((q : Int) + 4 + (packB d).length + 4)), vs ++ [v], Z2 ++ Z, ps2, ?_, ht2, ?_, hL⟩
          · rw [e9]
            rfl
          · rw [List.take_add_one, hd1]
            exact DLs.snoc (hv.mono (fun a h => List.mem_append_left _ h)) (hdl.mono (fun a h => List.mem_append_right _ h))
        · have hjd : j = ds.length := by omega
          have hdt := hdr hjd
          rw [hdt] at h4e
          refine ⟨D, _, rfl, .inr (.of (hL.mem hDm)), ?_⟩
          fail "go"
          have hbl : (framesB ds ++ tail).length = q + tail.length := by
            have := congrArg List.length hdt
            rw [List.length_drop] at this
            omega
          refine ite_d (fun _ => ?_) (fun z => ?_)
          · fail "go"
            rw [hjd, List.take_length] at hdl hq
            rw [← hq] at hL
            exact k _ _ vs Z ps _ ht hdl hL
          · rw [List.length_map, hbl] at z
            rw [hbl] at h8
            rcases hcut with (h | h) | ⟨b1, b2, b3, b4⟩
            · exact absurd h (by omega)
            · rw [h4e] at h
              exact absurd h (by omega)
            rw [h4e] at b2 b3 b4
            obtain ⟨mm, hmm⟩ : ∃ mm : Nat, manyB h4 = mm := ⟨(manyB h4).toNat, by omega⟩
            rw [hmm] at b2 b3 b4 ⊢
            rw [Int.toNat_natCast] at b3 b4
            fail "go"
            refine k_cutE (a := q + 4) (b := q + 4 + mm) hL hDm (by omega) (by push_cast; omega) (by omega) (by omega) (by omega) fun p5 H hL => ?_
            rw [Nat.add_sub_cancel_left, ← List.drop_drop, hdt] at hL
            fail "go"
            refine ⟨p5, (tail.drop 4).take mm, _, rfl, hL, ⟨0, rfl⟩, fun r6 H hL => ?_⟩
            fail "go"
            refine k_cutE (a := q + 4 + mm) (b := q + 4 + mm + 4) hL (.tail _ (.tail _ hDm)) (by push_cast; omega) (by push_cast; omega) (by omega) (by omega) (by omega) fun p7 H hL => ?_
            rw [Nat.add_sub_cancel_left, Nat.add_assoc, ← List.drop_drop, hdt] at hL
            fail "go"
            refine ⟨p7, _, rfl, .inr ⟨.of (hL.at ⟨0, rfl⟩), ?_⟩⟩
            refine ⟨.tuple ((sumB ((tail.drop 4).take mm)).map PyData.int), .tuple (((tail.drop (4 + mm)).take 4).map PyData.int), dp_tup (hL.at ⟨1, rfl⟩) dp_ints, dp_tup (hL.at ⟨0, rfl⟩) dp_ints, shal_tupI, shal_tupI, ?_⟩
            rw [eqv_tupI, decide_eq_false b4]
            fail "go"
            rw [hjd, List.take_length] at hdl hq
            rw [← hq] at hL
            exact k p l vs Z ps _ ht hdl (hL.le (fun a_ => by
              simp only [cnt_cons, cnt_app]
              omega))
    · rw [List.length_map] at h8
      have hjd : j = ds.length := by
        rcases Nat.lt_or_ge j ds.length with h | h
        · have := frames_at (List.getElem?_eq_getElem h)
          have := congrArg List.length this
          rw [List.length_append, List.length_append, frame_len] at this
          rw [List.length_append] at h8
          omega
        · omega
      rw [hjd, List.take_length] at hdl
      fail "go"
      rw [hjd, List.take_length] at hL
      exact k _ _ vs Z ps _ ht hdl hL
end
end Sd


set_option linter.unusedVariables false
namespace Sd
open PySem L2
open C8 (Cal Met Mak pe_c pe_mk pe_mt pe_mt0 pss_cut tCut)
-- TYPES many=int,FDIVW=yes,dice=list,found=int
set_option linter.unusedSimpArgs false
set_option pp.deepTerms false
set_option pp.deepTerms.threshold 12
set_option hygiene false
local macro_rules | `(tactic| fail "nd") => `(tactic| first | assumption | decide +kernel)
local macro_rules | `(tactic| fail "ix") => `(tactic| first | exact ⟨0, rfl⟩ | exact ⟨1, rfl⟩ | exact ⟨2, rfl⟩ | exact ⟨3, rfl⟩ | exact ⟨4, rfl⟩ | exact ⟨5, rfl⟩ | exact ⟨6, rfl⟩ | exact ⟨7, rfl⟩ | exact ⟨8, rfl⟩ | exact ⟨9, rfl⟩ | exact ⟨10, rfl⟩ | exact ⟨11, rfl⟩ | exact ⟨12, rfl⟩ | exact ⟨13, rfl⟩ | exact ⟨14, rfl⟩ | exact ⟨15, rfl⟩ | exact ⟨16, rfl⟩ | exact ⟨17, rfl⟩ | exact ⟨18, rfl⟩ | assumption)
local macro_rules | `(tactic| fail "up") => `(tactic| first | exact ⟨0, rfl, rfl⟩ | exact ⟨1, rfl, rfl⟩ | exact ⟨2, rfl, rfl⟩ | exact ⟨3, rfl, rfl⟩ | exact ⟨4, rfl, rfl⟩ | exact ⟨5, rfl, rfl⟩ | exact ⟨6, rfl, rfl⟩ | exact ⟨7, rfl, rfl⟩ | exact ⟨8, rfl, rfl⟩ | exact ⟨9, rfl, rfl⟩ | exact ⟨10, rfl, rfl⟩ | exact ⟨11, rfl, rfl⟩ | exact ⟨12, rfl, rfl⟩ | exact ⟨13, rfl, rfl⟩ | exact ⟨14, rfl, rfl⟩ | exact ⟨15, rfl, rfl⟩ | exact ⟨16, rfl, rfl⟩ | assumption)
local macro_rules | `(tactic| fail "lkF") => `(tactic| first | assumption | exact fz_at 0 (by fail "nd") rfl rfl | exact fz_at 1 (by fail "nd") rfl rfl | exact fz_at 2 (by fail "nd") rfl rfl | exact fz_at 3 (by fail "nd") rfl rfl | exact fz_at 4 (by fail "nd") rfl rfl | exact fz_at 5 (by fail "nd") rfl rfl | exact fz_at 6 (by fail "nd") rfl rfl | exact fz_at 7 (by fail "nd") rfl rfl)
local macro_rules | `(tactic| fail "lkD") => `(tactic| first | assumption | exact dz_at 0 (by fail "nd") rfl rfl | exact dz_at 1 (by fail "nd") rfl rfl | exact dz_at 2 (by fail "nd") rfl rfl | exact dz_at 3 (by fail "nd") rfl rfl | exact dz_at 4 (by fail "nd") rfl rfl)
local macro_rules | `(tactic| fail "ptF") => `(tactic| first | assumption | exact fz_put 0 (by fail "nd") rfl (Nat.le_of_ble_eq_true rfl) | exact fz_put 1 (by fail "nd") rfl (Nat.le_of_ble_eq_true rfl) | exact fz_put 2 (by fail "nd") rfl (Nat.le_of_ble_eq_true rfl) | exact fz_put 3 (by fail "nd") rfl (Nat.le_of_ble_eq_true rfl) | exact fz_put 4 (by fail "nd") rfl (Nat.le_of_ble_eq_true rfl) | exact fz_put 5 (by fail "nd") rfl (Nat.le_of_ble_eq_true rfl) | exact fz_put 6 (by fail "nd") rfl (Nat.le_of_ble_eq_true rfl) | exact fz_put 7 (by fail "nd") rfl (Nat.le_of_ble_eq_true rfl) | exact fz_new (by decide +kernel) rfl)
local macro_rules | `(tactic| fail "ptD") => `(tactic| first | assumption | exact dz_put 0 (by fail "nd") rfl (Nat.le_of_ble_eq_true rfl) | exact dz_put 1 (by fail "nd") rfl (Nat.le_of_ble_eq_true rfl) | exact dz_put 2 (by fail "nd") rfl (Nat.le_of_ble_eq_true rfl) | exact dz_put 3 (by fail "nd") rfl (Nat.le_of_ble_eq_true rfl) | exact dz_put 4 (by fail "nd") rfl (Nat.le_of_ble_eq_true rfl))
local macro_rules | `(tactic| fail "sz") => `(tactic| first | assumption | exact (Nat.le_of_ble_eq_true rfl) | omega | decide)
local macro_rules | `(tactic| fail "sd") => `(tactic| first | rfl | assumption | decide | omega | (dsimp only; first | decide | omega) | exact .inr ⟨by decide, by decide⟩ | exact .inl ⟨by decide, by decide⟩ | exact ⟨by omega, by omega⟩ | exact .inl ⟨by omega, by omega⟩ | exact .inr ⟨by omega, by omega⟩ | exact ⟨by omega, by omega, by omega⟩)
local macro_rules | `(tactic| fail "cl") => `(tactic| (clear hH; dsimp only [List.set, List.cons_append, List.nil_append, List.append] at hL))
local macro_rules | `(tactic| fail "gn") => `(tactic| (intro p hp; generalize hH : upd H p _ = H; replace hL := Led.newH hL hp hH; clear hH hp))
local macro_rules | `(tactic| fail "gup") => `(tactic| (generalize hH : upd H _ _ = H; replace hL := Led.upU hL (by fail "up") hH; fail "cl"))
local macro_rules | `(tactic| fail "gmk") => `(tactic| (intro x dx hx hd ne; generalize hH : upd (upd H dx _) x _ = H; replace hL := Led.made hL hx hd ne hH; clear hH hx hd ne))
local macro_rules | `(tactic| fail "v") => `(tactic| refine ⟨_, rfl, ?_⟩)
local macro_rules | `(tactic| fail "i2") => `(tactic| refine ⟨_, _, rfl, rfl, ?_⟩)
local macro_rules | `(tactic| fail "go1") => `(tactic| first
  | refine ⟨_, rfl, ?_⟩
  | refine ⟨_, _, rfl, rfl, ?_⟩
  | refine ⟨_, _, rfl, ?_⟩
  | refine iteT ?_
  | refine iteF ?_
  | refine k_fld hL (by fail "ix") (by assumption) (by assumption) (by fail "lkF") ?_
  | refine k_dgetS hL (by fail "ix") (by fail "lkD") ?_
  | refine k_dgetI hL (by fail "ix") (by assumption) ?_
  | refine k_ixL hL (by fail "ix") (by first | rfl | assumption) ?_
  | refine k_ixT hL (by fail "ix") (by first | rfl | assumption) ?_
  | refine k_tyL hL (by fail "ix") ?_
  | refine k_isd hL (by fail "ix") ?_
  | (refine And.intro (by fail "sz") ?_; fail "gn")
  | refine And.intro (by fail "sd") ?_
  | fail "gn"
  | refine k_meth hL (by fail "ix") (by first | assumption | exact fz_no (by decide +kernel)) ?_
  | refine k_gtup hL (by fail "ix") rfl ?_
  | (refine k_popI hL (by fail "ix") (by assumption) ?_; fail "gup")
  | (refine k_listD hL (by fail "ix") ?_; fail "gn")
  | (refine ⟨_, _, _, _, rfl, rfl, hL.at (by fail "ix"), rfl, ?_⟩; fail "gup")
  | (refine ⟨_, _, _, rfl, rfl, hL.at (by fail "ix"), (by fail "sz"), ?_⟩; fail "gup")
  | (refine ⟨_, _, _, _, rfl, hL.at (by fail "ix"), by assumption, by assumption, Nat.lt_of_le_of_lt fz_len (by decide), ?_⟩; generalize hH : upd H _ _ = H; replace hL := Led.upF hL (by fail "up") (by fail "ptF") hH; fail "cl")
  | (refine ⟨_, _, hL.at (by fail "ix"), Nat.lt_of_le_of_lt fz_len (by decide), ?_⟩; generalize hH : upd H _ _ = H; replace hL := Led.upF hL (by fail "up") (by fail "ptF") hH; fail "cl")
  | (refine k_dputS hL (by fail "ix") (Nat.lt_of_le_of_lt dz_len (by decide)) (by fail "ptD") (by fail "up") ?_; clear hL; intro H hL; dsimp only [List.set, List.cons_append, List.nil_append, List.append] at hL)
  | refine k_lenL2 hL (by fail "ix") ?_
  | refine k_lenT2 hL (by fail "ix") ?_
  | refine .inl ⟨_, rfl, ?_⟩
  | refine .inr ⟨_, rfl, ?_⟩)
local macro_rules | `(tactic| fail "go") => `(tactic| repeat fail "go1")
local macro_rules | `(tactic| fail "pm") => `(tactic| (refine Led.le hL (fun a_ => ?_); simp only [cnt_nil, cnt_cons, cnt_app, List.map_append, List.map_cons, List.map_nil, List.flatMap_append, List.flatMap_cons, List.flatMap_nil, List.append_assoc, List.cons_append, List.nil_append]; omega))

/-! ### rolls of many sides -/
def spRollN (B : Int) : Sp := fun vs H Q _ => ∃ (l : Addr) (a b c m : Int) (R : Lg), vs = [.ref l, .int m] ∧ Led H ((l, dD a b c) :: R) ∧ 1 ≤ m ∧ m ≤ B ∧
  ∀ (r a b c : Int) H', 0 ≤ r → r < m → Led H' ((l, dD a b c) :: R) → Q (.int r) H'
theorem cw7 {a : Int} : CDivW a 7 := ⟨by decide, by decide +kernel⟩
theorem cw8 {a : Int} : CDivW a 100000000 := ⟨by decide, by decide +kernel⟩
section
variable {P : Program} {w : World} {K : PySem.W.Frag} {mg : Str → Option Value} {base : Heap}
theorem ok_rollN {f : Addr} {fd : FuncData} {k : Nat} {B B' : Int} (F : Fun K "_law_roll" "_law_roll" sRoll f fd) (T : TxtL mg) (c__law_roll : Cal P w K mg base k "_law_roll" (spRollN B') []) (hB : B / 100000000 + 1 ≤ B') (h8 : 100000000 ≤ B') (hW : B ≤ 10 ^ 24) : FnOk P w K mg base CX0 (k + 1) f fd ["dice", "many"] (spRollN B) := by
  refine F.ok scRoll (fun vs H Q E h => ?_) (fun cdv A outer s H vs Q E hr h => ?_)
  · obtain ⟨l, a, b, c, m, R, rfl, _⟩ := h
    rfl
  · obtain ⟨l, a, b, c, m, R, rfl, hL, h1, h2, kk⟩ := h
    refine ⟨_, (pss_cons (ps_if (PW.pt (pw_or (pt_cmpR op_eq (pe_ix ix_list (pv 0) pe_int (fun _ _ => rfl)) pe_int (nomark _)) (pw_or1 (PW.pt (pw_and (pt_cmpR op_eq (pe_ix ix_list (pv 0) pe_int (fun _ _ => rfl)) pe_int (nomark _)) (pw_and1 (pt_cmpR op_gt (pe_ix ix_list (pv 0) pe_int (fun _ _ => rfl)) pe_int (nomark _))))))))
  (pss_cons (ps_set (i := 2) scRoll.nd rfl (Or.inl rfl) (pe_op op_mod (pe_callTy call_int1 (by rfl) T.int (by decide +kernel) (pa_cons (pe_ix ix_list (pv 0) pe_int (fun _ _ => rfl)) pa_nil)) (pv 1)))
  (pss_cons (ps_asg (pe_op op_fdivW (pe_ix ix_list (pv 0) pe_int (fun _ _ => rfl)) (pv 1)) (pg_sub (pv 0) pe_int set_list))
  (pss_one (ps_ret (pv 2)))))
  pss_nil)
  (pss_cons (ps_asg pe_int (pg_sub (pv 0) pe_int set_list))
  (pss_cons (ps_if (pt_cmpR op_gt (pv 1) pe_int (nomark _))
  (pss_one (ps_ret (pe_op op_mod (pe_callTy call_int1 (by rfl) T.int (by decide +kernel) (pa_cons (pe_op op_add (pe_op op_mul (pe_c c__law_roll hr (by omega) (by rfl) (pa_cons (pv 0) (pa_cons (pe_op op_add (pe_op op_fdivW (pv 1) pe_int) pe_int) pa_nil))) pe_int) (pe_c c__law_roll hr (by omega) (by rfl) (pa_cons (pv 0) (pa_cons pe_int pa_nil)))) pa_nil)) (pv 1))))
  pss_nil)
  (pss_cons (ps_asg (pe_op op_mod (pe_callTy call_int1 (by rfl) T.int (by decide +kernel) (pa_cons (pe_op op_add (pe_op op_add (pe_op op_mul (pe_ix ix_list (pv 0) pe_int (fun _ _ => rfl)) pe_int) (pe_op op_mul (pe_ix ix_list (pv 0) pe_int (fun _ _ => rfl)) pe_int)) pe_int) pa_nil)) pe_int) (pg_sub (pv 0) pe_int set_list))
  (pss_cons (ps_asg (pe_op op_add (pe_ix ix_list (pv 0) pe_int (fun _ _ => rfl)) pe_int) (pg_sub (pv 0) pe_int set_list))
  (pss_one (ps_ret (pe_op op_mod (pe_callTy call_int1 (by rfl) T.int (by decide +kernel) (pa_cons (pe_op op_fdivW (pe_ix ix_list (pv 0) pe_int (fun _ _ => rfl)) pe_int) pa_nil)) (pv 1))))))))), ?_⟩
    have hcd : CDivW a m := wide_div (b := 80) (by omega) (by omega) (by decide) (by decide)
    have hm : ∀ (x b c : Int) (H : Hp), Led H ((l, .lst [.int (x / m), .int b, .int c]) :: R) → Q (.int (x % m)) H := fun x b c H h => kk _ _ _ _ _ (Int.emod_nonneg _ (by omega)) (Int.emod_lt_of_pos _ (by omega)) h
    have hd : ∀ (x a b c : Int) (H : Hp), Led H ((l, .lst [.int a, .int b, .int c]) :: R) → Q (.int (x % m)) H := fun x a b c H h => kk _ _ _ _ _ (Int.emod_nonneg _ (by omega)) (Int.emod_lt_of_pos _ (by omega)) h
    unfold dD at hL
    fail "go"
    refine ite_d (fun q1 => ?_) (fun q1 => ?_)
    · fail "go"
      exact hm _ _ _ _ hL
    fail "go"
    refine ite_d (fun q2 => ?_) (fun q2 => ?_)
    · fail "go"
      refine ite_d (fun q3 => ?_) (fun q3 => ?_)
      · fail "go"
        exact hm _ _ _ _ hL
      · fail "go"
        refine ite_d (fun q4 => ?_) (fun q4 => ?_)
        · fail "go"
          refine ⟨cw8, ?_⟩
          fail "go"
          refine ⟨l, a, b, 0, m / 100000000 + 1, R, rfl, hL, by omega, by omega, fun r a b c H _ _ hL => ?_⟩
          fail "go"
          refine ⟨l, a, b, c, 100000000, R, rfl, hL, by omega, by omega, fun r2 a b c H _ _ hL => ?_⟩
          fail "go"
          exact hd _ _ _ _ _ hL
        · fail "go"
          refine ⟨cw7, ?_⟩
          fail "go"
          exact hd _ _ _ _ _ hL
    · fail "go"
      refine ite_d (fun q4 => ?_) (fun q4 => ?_)
      · fail "go"
        refine ⟨cw8, ?_⟩
        fail "go"
        refine ⟨l, a, b, 0, m / 100000000 + 1, R, rfl, hL, by omega, by omega, fun r a b c H _ _ hL => ?_⟩
        fail "go"
        refine ⟨l, a, b, c, 100000000, R, rfl, hL, by omega, by omega, fun r2 a b c H _ _ hL => ?_⟩
        fail "go"
        exact hd _ _ _ _ _ hL
      · fail "go"
        refine ⟨cw7, ?_⟩
        fail "go"
        exact hd _ _ _ _ _ hL
end
end Sd


/-! str(x) of None, truths, numbers, texts; walks over zip(t, u) of tuples -/
namespace Sd
open PySem PySem.Spec PyProof.Rows L2
def strV : V → Option Str
  | .non => some ("None" : Str)
  | .bl b => some (if b then ("True" : Str) else ("False" : Str))
  | .int i => if i.natAbs.log2 < 1920 then some (toString i : Str) else none
  | .str z => some z
  | _ => none
theorem call_strS {X : Cx} : CallR X (.type "str") (fun xs H Q => ∃ x y, xs = [x] ∧ strV x = some y ∧ Q (.str y) H) := by
  intro pins s σ H xs us Q I r h
  obtain ⟨x, y, rfl, hy, q⟩ := h
  obtain ⟨u, rfl, rx⟩ := vals1 r
  cases x with
  | non =>
    cases rx
    cases hy
    exact PySem.P.str_of_none ⟨.str _, H, I.tok _, ⟨_, rfl⟩, q⟩
  | bl b =>
    cases rx
    cases hy
    exact PySem.P.str_of_bool ⟨.str _, H, I.tok _, ⟨s.toks, by cases b <;> rfl⟩, q⟩
  | int i =>
    obtain ⟨t, rfl⟩ := rx
    have hy : (if i.natAbs.log2 < 1920 then some (toString i : Str) else none) = some y := hy
    by_cases hz : i.natAbs.log2 < 1920
    · rw [if_pos hz] at hy
      cases hy
      exact PySem.P.str_of_int hz ⟨.str _, H, I.tok _, ⟨_, rfl⟩, q⟩
    · rw [if_neg hz] at hy
      cases hy
  | str z =>
    obtain ⟨t, rfl⟩ := rx
    cases hy
    exact PySem.P.str_of_str ⟨.str _, H, I, ⟨t, rfl⟩, q⟩
  | _ => cases hy
theorem walk_zipT {K : PySem.W.Frag} {a b : Addr} {xs ys : List V} {n : Nat} (hn : n = min xs.length ys.length) : Walk (RZ.ItzT K a b) n (fun H => SqT K H a xs ∧ SqT K H b ys) (YPair (fun i => xs[i]?) (fun i => ys[i]?)) := by
  subst hn
  refine ⟨fun i _ hi q => ?_, fun _ q => ⟨xs, ys, q.1, q.2, by omega⟩, fun i H v H' _ q y => ?_⟩
  · have h1 : i < xs.length := by omega
    have h2 : i < ys.length := by omega
    exact ⟨xs, ys, xs[i], ys[i], q.1, q.2, by simp [h1], by simp [h2]⟩
  · obtain ⟨T, x, z, h1, h2, h3, h4, h5⟩ := y
    exact ⟨T, x, z, h1, h2, h3, h4 xs q.1, h5 ys q.2⟩
end Sd


set_option linter.unusedVariables false
namespace Sd
open PySem L2
open C8 (Cal Met Mak pe_c pe_mk pe_mt pe_mt0 pss_cut tCut)
set_option linter.unusedSimpArgs false
set_option pp.deepTerms false
set_option pp.deepTerms.threshold 12
set_option hygiene false
local macro_rules | `(tactic| fail "nd") => `(tactic| first | assumption | decide +kernel)
local macro_rules | `(tactic| fail "ix") => `(tactic| first | exact ⟨0, rfl⟩ | exact ⟨1, rfl⟩ | exact ⟨2, rfl⟩ | exact ⟨3, rfl⟩ | exact ⟨4, rfl⟩ | exact ⟨5, rfl⟩ | exact ⟨6, rfl⟩ | exact ⟨7, rfl⟩ | exact ⟨8, rfl⟩ | exact ⟨9, rfl⟩ | exact ⟨10, rfl⟩ | exact ⟨11, rfl⟩ | exact ⟨12, rfl⟩ | exact ⟨13, rfl⟩ | exact ⟨14, rfl⟩ | exact ⟨15, rfl⟩ | exact ⟨16, rfl⟩ | exact ⟨17, rfl⟩ | exact ⟨18, rfl⟩ | assumption)
local macro_rules | `(tactic| fail "up") => `(tactic| first | exact ⟨0, rfl, rfl⟩ | exact ⟨1, rfl, rfl⟩ | exact ⟨2, rfl, rfl⟩ | exact ⟨3, rfl, rfl⟩ | exact ⟨4, rfl, rfl⟩ | exact ⟨5, rfl, rfl⟩ | exact ⟨6, rfl, rfl⟩ | exact ⟨7, rfl, rfl⟩ | exact ⟨8, rfl, rfl⟩ | exact ⟨9, rfl, rfl⟩ | exact ⟨10, rfl, rfl⟩ | exact ⟨11, rfl, rfl⟩ | exact ⟨12, rfl, rfl⟩ | exact ⟨13, rfl, rfl⟩ | exact ⟨14, rfl, rfl⟩ | exact ⟨15, rfl, rfl⟩ | exact ⟨16, rfl, rfl⟩ | assumption)
local macro_rules | `(tactic| fail "lkF") => `(tactic| first | assumption | exact fz_at 0 (by fail "nd") rfl rfl | exact fz_at 1 (by fail "nd") rfl rfl | exact fz_at 2 (by fail "nd") rfl rfl | exact fz_at 3 (by fail "nd") rfl rfl | exact fz_at 4 (by fail "nd") rfl rfl | exact fz_at 5 (by fail "nd") rfl rfl | exact fz_at 6 (by fail "nd") rfl rfl | exact fz_at 7 (by fail "nd") rfl rfl)
local macro_rules | `(tactic| fail "lkD") => `(tactic| first | assumption | exact dz_at 0 (by fail "nd") rfl rfl | exact dz_at 1 (by fail "nd") rfl rfl | exact dz_at 2 (by fail "nd") rfl rfl | exact dz_at 3 (by fail "nd") rfl rfl | exact dz_at 4 (by fail "nd") rfl rfl)
local macro_rules | `(tactic| fail "ptF") => `(tactic| first | assumption | exact fz_put 0 (by fail "nd") rfl (Nat.le_of_ble_eq_true rfl) | exact fz_put 1 (by fail "nd") rfl (Nat.le_of_ble_eq_true rfl) | exact fz_put 2 (by fail "nd") rfl (Nat.le_of_ble_eq_true rfl) | exact fz_put 3 (by fail "nd") rfl (Nat.le_of_ble_eq_true rfl) | exact fz_put 4 (by fail "nd") rfl (Nat.le_of_ble_eq_true rfl) | exact fz_put 5 (by fail "nd") rfl (Nat.le_of_ble_eq_true rfl) | exact fz_put 6 (by fail "nd") rfl (Nat.le_of_ble_eq_true rfl) | exact fz_put 7 (by fail "nd") rfl (Nat.le_of_ble_eq_true rfl) | exact fz_new (by decide +kernel) rfl)
local macro_rules | `(tactic| fail "ptD") => `(tactic| first | assumption | exact dz_put 0 (by fail "nd") rfl (Nat.le_of_ble_eq_true rfl) | exact dz_put 1 (by fail "nd") rfl (Nat.le_of_ble_eq_true rfl) | exact dz_put 2 (by fail "nd") rfl (Nat.le_of_ble_eq_true rfl) | exact dz_put 3 (by fail "nd") rfl (Nat.le_of_ble_eq_true rfl) | exact dz_put 4 (by fail "nd") rfl (Nat.le_of_ble_eq_true rfl))
local macro_rules | `(tactic| fail "sz") => `(tactic| first | assumption | exact (Nat.le_of_ble_eq_true rfl) | omega | decide)
local macro_rules | `(tactic| fail "sd") => `(tactic| first | rfl | assumption | decide | omega | (dsimp only; first | decide | omega) | exact .inr ⟨by decide, by decide⟩ | exact .inl ⟨by decide, by decide⟩ | exact ⟨by omega, by omega⟩ | exact .inl ⟨by omega, by omega⟩ | exact .inr ⟨by omega, by omega⟩ | exact ⟨by omega, by omega, by omega⟩)
local macro_rules | `(tactic| fail "cl") => `(tactic| (clear hH; dsimp only [List.set, List.cons_append, List.nil_append, List.append] at hL))
local macro_rules | `(tactic| fail "gn") => `(tactic| (intro p hp; generalize hH : upd H p _ = H; replace hL := Led.newH hL hp hH; clear hH hp))
local macro_rules | `(tactic| fail "gup") => `(tactic| (generalize hH : upd H _ _ = H; replace hL := Led.upU hL (by fail "up") hH; fail "cl"))
local macro_rules | `(tactic| fail "gmk") => `(tactic| (intro x dx hx hd ne; generalize hH : upd (upd H dx _) x _ = H; replace hL := Led.made hL hx hd ne hH; clear hH hx hd ne))
local macro_rules | `(tactic| fail "v") => `(tactic| refine ⟨_, rfl, ?_⟩)
local macro_rules | `(tactic| fail "i2") => `(tactic| refine ⟨_, _, rfl, rfl, ?_⟩)
local macro_rules | `(tactic| fail "go1") => `(tactic| first
  | refine ⟨_, rfl, ?_⟩
  | refine ⟨_, _, rfl, rfl, ?_⟩
  | refine ⟨_, _, rfl, ?_⟩
  | refine iteT ?_
  | refine iteF ?_
  | refine k_fld hL (by fail "ix") (by assumption) (by assumption) (by fail "lkF") ?_
  | refine k_dgetS hL (by fail "ix") (by fail "lkD") ?_
  | refine k_dgetI hL (by fail "ix") (by assumption) ?_
  | refine k_ixL hL (by fail "ix") (by first | rfl | assumption) ?_
  | refine k_ixT hL (by fail "ix") (by first | rfl | assumption) ?_
  | refine k_tyL hL (by fail "ix") ?_
  | refine k_isd hL (by fail "ix") ?_
  | (refine And.intro (by fail "sz") ?_; fail "gn")
  | refine And.intro (by fail "sd") ?_
  | fail "gn"
  | refine k_meth hL (by fail "ix") (by first | assumption | exact fz_no (by decide +kernel)) ?_
  | refine k_gtup hL (by fail "ix") rfl ?_
  | (refine k_popI hL (by fail "ix") (by assumption) ?_; fail "gup")
  | (refine k_listD hL (by fail "ix") ?_; fail "gn")
  | (refine ⟨_, _, _, _, rfl, rfl, hL.at (by fail "ix"), rfl, ?_⟩; fail "gup")
  | (refine ⟨_, _, _, rfl, rfl, hL.at (by fail "ix"), (by fail "sz"), ?_⟩; fail "gup")
  | (refine ⟨_, _, _, _, rfl, hL.at (by fail "ix"), by assumption, by assumption, Nat.lt_of_le_of_lt fz_len (by decide), ?_⟩; generalize hH : upd H _ _ = H; replace hL := Led.upF hL (by fail "up") (by fail "ptF") hH; fail "cl")
  | (refine ⟨_, _, hL.at (by fail "ix"), Nat.lt_of_le_of_lt fz_len (by decide), ?_⟩; generalize hH : upd H _ _ = H; replace hL := Led.upF hL (by fail "up") (by fail "ptF") hH; fail "cl")
  | (refine k_dputS hL (by fail "ix") (Nat.lt_of_le_of_lt dz_len (by decide)) (by fail "ptD") (by fail "up") ?_; clear hL; intro H hL; dsimp only [List.set, List.cons_append, List.nil_append, List.append] at hL)
  | refine k_lenL2 hL (by fail "ix") ?_
  | refine k_lenT2 hL (by fail "ix") ?_
  | refine .inl ⟨_, rfl, ?_⟩
  | refine .inr ⟨_, rfl, ?_⟩)
local macro_rules | `(tactic| fail "go") => `(tactic| repeat fail "go1")
local macro_rules | `(tactic| fail "pm") => `(tactic| (refine Led.le hL (fun a_ => ?_); simp only [cnt_nil, cnt_cons, cnt_app, List.map_append, List.map_cons, List.map_nil, List.flatMap_append, List.flatMap_cons, List.flatMap_nil, List.append_assoc, List.cons_append, List.nil_append]; omega))

/-! ### the law's values -/
abbrev sLVal : Stmt := top 27
abbrev sLSame : Stmt := top 28
abbrev sLSum : Stmt := top 29
mutual
/-- a value as the law draws it, e deep -/
inductive LV : Nat → Dv → Prop
  | non (e : Nat) : LV e .non
  | bl (e : Nat) (b : Bool) : LV e (.bl b)
  | int (e : Nat) (i : Int) (h : i.natAbs ≤ 10 ^ 20) : LV e (.int i)
  | str (e : Nat) (s : Str) (h : s.length ≤ 8) (g : ∀ c ∈ s.cps.toList, goodS c) : LV e (.str s)
  | row (e : Nat) (ds : List Dv) (h : ds.length ≤ 4) (g : LVs e ds) : LV (e + 1) (.row ds)
inductive LVs : Nat → List Dv → Prop
  | nil (e : Nat) : LVs e []
  | cons {e : Nat} {d : Dv} {ds : List Dv} (h : LV e d) (g : LVs e ds) : LVs e (d :: ds)
end
theorem LVs.snoc {e : Nat} {d : Dv} (h : LV e d) : ∀ {ds : List Dv}, LVs e ds → LVs e (ds ++ [d])
  | _, .nil _ => .cons h (.nil _)
  | _, .cons a b => .cons a (b.snoc h)
theorem LVs.get {e : Nat} : ∀ {ds : List Dv} {i : Nat} {d : Dv}, LVs e ds → ds[i]? = some d → LV e d
  | _, 0, _, .cons h _, q => by
    rw [List.getElem?_cons_zero] at q
    cases q
    exact h
  | _, i + 1, _, .cons _ g, q => by
    rw [List.getElem?_cons_succ] at q
    exact g.get q
theorem natB_len {k : Nat} : ∀ {n : Nat}, n < 128 ^ (k + 1) → (natB n).length ≤ k + 1 := by
  induction k with
  | zero => intro n h; rw [natB_lo (by simpa using h)]; exact Nat.le_refl _
  | succ k ih =>
    intro n h
    by_cases hn : n < 128
    · rw [natB_lo hn, List.length_singleton]; omega
    · rw [natB_hi hn, List.length_cons]
      have : n / 128 < 128 ^ (k + 1) := Nat.div_lt_of_lt_mul (by rw [Nat.pow_succ] at h ⊢; rw [Nat.mul_comm]; exact h)
      exact Nat.succ_le_succ (ih this)
/-- the most bytes of a value -/
def bndV : Nat → Nat
  | 0 => 16
  | e + 1 => 16 + 4 * bndV e
theorem bnd_ge {e : Nat} : 16 ≤ bndV e := by cases e <;> simp [bndV]
mutual
theorem LV.facts : ∀ {e : Nat} {d : Dv}, LV e d → sendable d ∧ deep d ≤ e ∧ (packB d).length ≤ bndV e
  | _, _, .non e => ⟨trivial, Nat.zero_le _, by have := bnd_ge (e := e); simp only [packB, List.length_singleton]; omega⟩
  | _, _, .bl e b => ⟨trivial, Nat.zero_le _, by have := bnd_ge (e := e); simp only [packB, List.length_singleton]; omega⟩
  | _, _, .int e i h => by
    refine ⟨trivial, Nat.zero_le _, ?_⟩
    have h1 := bnd_ge (e := e)
    unfold packB
    split
    · have := natB_len (k := 9) (n := i.toNat) (by omega)
      rw [List.length_cons]; omega
    · have := natB_len (k := 9) (n := (0 - i - 1).toNat) (by omega)
      rw [List.length_cons]; omega
  | _, _, .str e s h g => by
    refine ⟨by rw [sendable]; exact g, Nat.zero_le _, ?_⟩
    have h1 := bnd_ge (e := e)
    have h2 : (signs s).length = s.length := by unfold signs; rw [List.length_map, Array.length_toList]; rfl
    rw [packB, List.length_cons, List.length_append, h2, natB_lo (by omega), List.length_singleton]
    omega
  | _, _, .row e ds h g => by
    obtain ⟨a1, a2, a3⟩ := g.facts
    refine ⟨by rw [sendable]; exact a1, by rw [deep]; omega, ?_⟩
    rw [packB, List.length_cons, List.length_append, natB_lo (by omega), List.length_singleton, bndV]
    have := Nat.mul_le_mul_right (bndV e) h
    omega
theorem LVs.facts : ∀ {e : Nat} {ds : List Dv}, LVs e ds → sendables ds ∧ deeps ds ≤ e ∧ (packsB ds).length ≤ ds.length * bndV e
  | _, _, .nil e => ⟨trivial, Nat.zero_le _, by simp [packsB]⟩
  | _, _, .cons (e := e) (ds := r) hd g => by
    obtain ⟨a1, a2, a3⟩ := hd.facts
    obtain ⟨b1, b2, b3⟩ := g.facts
    refine ⟨by rw [sendables]; exact ⟨a1, b1⟩, by rw [deeps]; omega, ?_⟩
    rw [packsB, List.length_append, List.length_cons, Nat.succ_mul]
    omega
end
mutual
theorem LV.up : ∀ {e k : Nat} {d : Dv}, LV e d → e ≤ k → LV k d
  | _, _, _, .non e, _ => .non _
  | _, _, _, .bl e b, _ => .bl _ b
  | _, _, _, .int e i h, _ => .int _ i h
  | _, _, _, .str e s h g, _ => .str _ s h g
  | _, k, _, .row e ds h g, hk => by
    obtain ⟨k', rfl⟩ : ∃ k', k = k' + 1 := ⟨k - 1, by omega⟩
    exact .row k' ds h (g.up (by omega))
theorem LVs.up : ∀ {e k : Nat} {d : List Dv}, LVs e d → e ≤ k → LVs k d
  | _, _, _, .nil e, _ => .nil _
  | _, _, _, .cons h g, hk => .cons (h.up hk) (g.up hk)
end
end Sd


set_option linter.unusedVariables false
namespace Sd
open PySem L2
open C8 (Cal Met Mak pe_c pe_mk pe_mt pe_mt0 pss_cut tCut)
set_option linter.unusedSimpArgs false
set_option pp.deepTerms false
set_option pp.deepTerms.threshold 12
set_option hygiene false
local macro_rules | `(tactic| fail "nd") => `(tactic| first | assumption | decide +kernel)
local macro_rules | `(tactic| fail "ix") => `(tactic| first | exact ⟨0, rfl⟩ | exact ⟨1, rfl⟩ | exact ⟨2, rfl⟩ | exact ⟨3, rfl⟩ | exact ⟨4, rfl⟩ | exact ⟨5, rfl⟩ | exact ⟨6, rfl⟩ | exact ⟨7, rfl⟩ | exact ⟨8, rfl⟩ | exact ⟨9, rfl⟩ | exact ⟨10, rfl⟩ | exact ⟨11, rfl⟩ | exact ⟨12, rfl⟩ | exact ⟨13, rfl⟩ | exact ⟨14, rfl⟩ | exact ⟨15, rfl⟩ | exact ⟨16, rfl⟩ | exact ⟨17, rfl⟩ | exact ⟨18, rfl⟩ | assumption)
local macro_rules | `(tactic| fail "up") => `(tactic| first | exact ⟨0, rfl, rfl⟩ | exact ⟨1, rfl, rfl⟩ | exact ⟨2, rfl, rfl⟩ | exact ⟨3, rfl, rfl⟩ | exact ⟨4, rfl, rfl⟩ | exact ⟨5, rfl, rfl⟩ | exact ⟨6, rfl, rfl⟩ | exact ⟨7, rfl, rfl⟩ | exact ⟨8, rfl, rfl⟩ | exact ⟨9, rfl, rfl⟩ | exact ⟨10, rfl, rfl⟩ | exact ⟨11, rfl, rfl⟩ | exact ⟨12, rfl, rfl⟩ | exact ⟨13, rfl, rfl⟩ | exact ⟨14, rfl, rfl⟩ | exact ⟨15, rfl, rfl⟩ | exact ⟨16, rfl, rfl⟩ | assumption)
local macro_rules | `(tactic| fail "lkF") => `(tactic| first | assumption | exact fz_at 0 (by fail "nd") rfl rfl | exact fz_at 1 (by fail "nd") rfl rfl | exact fz_at 2 (by fail "nd") rfl rfl | exact fz_at 3 (by fail "nd") rfl rfl | exact fz_at 4 (by fail "nd") rfl rfl | exact fz_at 5 (by fail "nd") rfl rfl | exact fz_at 6 (by fail "nd") rfl rfl | exact fz_at 7 (by fail "nd") rfl rfl)
local macro_rules | `(tactic| fail "lkD") => `(tactic| first | assumption | exact dz_at 0 (by fail "nd") rfl rfl | exact dz_at 1 (by fail "nd") rfl rfl | exact dz_at 2 (by fail "nd") rfl rfl | exact dz_at 3 (by fail "nd") rfl rfl | exact dz_at 4 (by fail "nd") rfl rfl)
local macro_rules | `(tactic| fail "ptF") => `(tactic| first | assumption | exact fz_put 0 (by fail "nd") rfl (Nat.le_of_ble_eq_true rfl) | exact fz_put 1 (by fail "nd") rfl (Nat.le_of_ble_eq_true rfl) | exact fz_put 2 (by fail "nd") rfl (Nat.le_of_ble_eq_true rfl) | exact fz_put 3 (by fail "nd") rfl (Nat.le_of_ble_eq_true rfl) | exact fz_put 4 (by fail "nd") rfl (Nat.le_of_ble_eq_true rfl) | exact fz_put 5 (by fail "nd") rfl (Nat.le_of_ble_eq_true rfl) | exact fz_put 6 (by fail "nd") rfl (Nat.le_of_ble_eq_true rfl) | exact fz_put 7 (by fail "nd") rfl (Nat.le_of_ble_eq_true rfl) | exact fz_new (by decide +kernel) rfl)
local macro_rules | `(tactic| fail "ptD") => `(tactic| first | assumption | exact dz_put 0 (by fail "nd") rfl (Nat.le_of_ble_eq_true rfl) | exact dz_put 1 (by fail "nd") rfl (Nat.le_of_ble_eq_true rfl) | exact dz_put 2 (by fail "nd") rfl (Nat.le_of_ble_eq_true rfl) | exact dz_put 3 (by fail "nd") rfl (Nat.le_of_ble_eq_true rfl) | exact dz_put 4 (by fail "nd") rfl (Nat.le_of_ble_eq_true rfl))
local macro_rules | `(tactic| fail "sz") => `(tactic| first | assumption | exact (Nat.le_of_ble_eq_true rfl) | omega | decide)
local macro_rules | `(tactic| fail "sd") => `(tactic| first | rfl | assumption | decide | omega | (dsimp only; first | decide | omega) | exact .inr ⟨by decide, by decide⟩ | exact .inl ⟨by decide, by decide⟩ | exact ⟨by omega, by omega⟩ | exact .inl ⟨by omega, by omega⟩ | exact .inr ⟨by omega, by omega⟩ | exact ⟨by omega, by omega, by omega⟩)
local macro_rules | `(tactic| fail "cl") => `(tactic| (clear hH; dsimp only [List.set, List.cons_append, List.nil_append, List.append] at hL))
local macro_rules | `(tactic| fail "gn") => `(tactic| (intro p hp; generalize hH : upd H p _ = H; replace hL := Led.newH hL hp hH; clear hH hp))
local macro_rules | `(tactic| fail "gup") => `(tactic| (generalize hH : upd H _ _ = H; replace hL := Led.upU hL (by fail "up") hH; fail "cl"))
local macro_rules | `(tactic| fail "gmk") => `(tactic| (intro x dx hx hd ne; generalize hH : upd (upd H dx _) x _ = H; replace hL := Led.made hL hx hd ne hH; clear hH hx hd ne))
local macro_rules | `(tactic| fail "v") => `(tactic| refine ⟨_, rfl, ?_⟩)
local macro_rules | `(tactic| fail "i2") => `(tactic| refine ⟨_, _, rfl, rfl, ?_⟩)
local macro_rules | `(tactic| fail "go1") => `(tactic| first
  | refine ⟨_, rfl, ?_⟩
  | refine ⟨_, _, rfl, rfl, ?_⟩
  | refine ⟨_, _, rfl, ?_⟩
  | refine iteT ?_
  | refine iteF ?_
  | refine k_fld hL (by fail "ix") (by assumption) (by assumption) (by fail "lkF") ?_
  | refine k_dgetS hL (by fail "ix") (by fail "lkD") ?_
  | refine k_dgetI hL (by fail "ix") (by assumption) ?_
  | refine k_ixL hL (by fail "ix") (by first | rfl | assumption) ?_
  | refine k_ixT hL (by fail "ix") (by first | rfl | assumption) ?_
  | refine k_tyL hL (by fail "ix") ?_
  | refine k_isd hL (by fail "ix") ?_
  | (refine And.intro (by fail "sz") ?_; fail "gn")
  | refine And.intro (by fail "sd") ?_
  | fail "gn"
  | refine k_meth hL (by fail "ix") (by first | assumption | exact fz_no (by decide +kernel)) ?_
  | refine k_gtup hL (by fail "ix") rfl ?_
  | (refine k_popI hL (by fail "ix") (by assumption) ?_; fail "gup")
  | (refine k_listD hL (by fail "ix") ?_; fail "gn")
  | (refine ⟨_, _, _, _, rfl, rfl, hL.at (by fail "ix"), rfl, ?_⟩; fail "gup")
  | (refine ⟨_, _, _, rfl, rfl, hL.at (by fail "ix"), (by fail "sz"), ?_⟩; fail "gup")
  | (refine ⟨_, _, _, _, rfl, hL.at (by fail "ix"), by assumption, by assumption, Nat.lt_of_le_of_lt fz_len (by decide), ?_⟩; generalize hH : upd H _ _ = H; replace hL := Led.upF hL (by fail "up") (by fail "ptF") hH; fail "cl")
  | (refine ⟨_, _, hL.at (by fail "ix"), Nat.lt_of_le_of_lt fz_len (by decide), ?_⟩; generalize hH : upd H _ _ = H; replace hL := Led.upF hL (by fail "up") (by fail "ptF") hH; fail "cl")
  | (refine k_dputS hL (by fail "ix") (Nat.lt_of_le_of_lt dz_len (by decide)) (by fail "ptD") (by fail "up") ?_; clear hL; intro H hL; dsimp only [List.set, List.cons_append, List.nil_append, List.append] at hL)
  | refine k_lenL2 hL (by fail "ix") ?_
  | refine k_lenT2 hL (by fail "ix") ?_
  | refine .inl ⟨_, rfl, ?_⟩
  | refine .inr ⟨_, rfl, ?_⟩)
local macro_rules | `(tactic| fail "go") => `(tactic| repeat fail "go1")
local macro_rules | `(tactic| fail "pm") => `(tactic| (refine Led.le hL (fun a_ => ?_); simp only [cnt_nil, cnt_cons, cnt_app, List.map_append, List.map_cons, List.map_nil, List.flatMap_append, List.flatMap_cons, List.flatMap_nil, List.append_assoc, List.cons_append, List.nil_append]; omega))

structure TxtV (mg : Str → Option Value) : Prop where
  tuple : mg "tuple" = none
  range : mg "range" = none
  isinstance : mg "isinstance" = none
  len : mg "len" = none
  zip : mg "zip" = none
  str : mg "str" = none
  int : mg "int" = none
abbrev B20 : Int := 10 ^ 20
def spLVal (n : Nat) : Sp := fun vs H Q _ => ∃ (l : Addr) (a b c : Int) (e : Nat) (R : Lg), vs = [.ref l, .int e] ∧ Led H ((l, dD a b c) :: R) ∧ e < n ∧
  ∀ (v : V) (d : Dv) (Z : Lg) (a b c : Int) H', LV e d → DL Z v d → Led H' ((l, dD a b c) :: (Z ++ R)) → Q v H'
theorem six_good : ∀ k : Fin 6, ∃ c, ("a~ \n_Z" : Str).cps[k.val]? = some c ∧ goodS c := by
  have h : ∀ k : Fin 6, (("a~ \n_Z" : Str).cps[k.val]?.any fun c => decide (0 ≤ Txt.find SIGNS ⟨#[c]⟩) && decide (SIGNS.cps[(Txt.find SIGNS ⟨#[c]⟩).toNat]? = some c)) = true := by decide +kernel
  intro k
  have q := h k
  cases e : ("a~ \n_Z" : Str).cps[k.val]? with
  | none => rw [e] at q; cases q
  | some c =>
    rw [e, Option.any_some, Bool.and_eq_true] at q
    exact ⟨c, rfl, of_decide_eq_true q.1, of_decide_eq_true q.2⟩
theorem joinL_one : ∀ zs : List Nat, TL.joinL [] (zs.map fun x => [x]) = zs
  | [] => rfl
  | [x] => rfl
  | x :: y :: r => by
    have ih := joinL_one (y :: r)
    rw [List.map_cons] at ih ⊢
    rw [List.map_cons]
    show [x] ++ ([] ++ TL.joinL [] _) = _
    rw [ih]
    rfl
theorem ds_snoc2 {T : List V → HO → Prop} {L : Lg} {v : V} {d : Dv} (h : DLp T L v d) : ∀ {xs : List V} {ds : List Dv}, DLps T L xs ds → DLps T L (xs ++ [v]) (ds ++ [d])
  | _, _, .nil => .cons h .nil
  | _, _, .cons a b => .cons a (ds_snoc2 h b)
section
variable {P : Program} {w : World} {K : PySem.W.Frag} {mg : Str → Option Value} {base : Heap}
theorem scLVal : FnScope ["dice", "deep", "sort", "k"] ["dice", "deep"] (defScope sLVal) := ⟨rfl, rfl, rfl, by decide +kernel, rfl, by decide +kernel, by decide +kernel⟩
theorem ok_lval {f : Addr} {fd : FuncData} (F : Fun K "_law_value" "_law_value" sLVal f fd) (T : TxtV mg) (hm : mg "_law_value" = some (.ref f)) (b : Binds K fd ["dice", "deep"] []) (c__law_roll : Cal P w K mg base 3 "_law_roll" (spRollN B20) []) (n : Nat) : FnOk P w K mg base CX0 (4 + n) f fd ["dice", "deep"] (spLVal n) := by
  induction n with
  | zero => exact ⟨fun vs H Q E ⟨_, _, _, _, _, _, _, _, h, _⟩ => absurd h (Nat.not_lt_zero _), fun _ _ _ H _ _ vs Q E _ _ _ _ ⟨_, _, _, _, _, _, _, _, h, _⟩ => absurd h (Nat.not_lt_zero _)⟩
  | succ n ih =>
    have c__law_value : Cal P w K mg base (4 + n) "_law_value" (spLVal n) [] := ⟨_, _, _, [], ih, hm, F.kp, b, .nil⟩
    refine F.ok (k := 4 + n) scLVal (fun vs H Q E h => ?_) (fun cdv A outer s H vs Q E hr h => ?_)
    · obtain ⟨l, a, b, c, e, R, rfl, _⟩ := h
      rfl
    · obtain ⟨l, a, b, c, e, R, rfl, hL, he, k⟩ := h
      refine ⟨_, (pss_cons (ps_set (i := 2) scLVal.nd rfl (Or.inl rfl) (pe_c c__law_roll hr (by omega) (by rfl) (pa_cons (pv 0) (pa_cons (pe_ifExp (pt_cmpR op_gt (pv 1) pe_int (nomark _)) pe_int pe_int) pa_nil))))
  (pss_cons (ps_if (pt_cmpR op_lt (pv 2) pe_int (nomark _))
  (pss_one (ps_ret (pe_ix ix_list (pe_lst (pa_cons pe_non (pa_cons pe_bl (pa_cons pe_bl pa_nil)))) (pv 2) (fun _ _ => rfl))))
  pss_nil)
  (pss_cons (ps_if (pt_cmpR op_eq (pv 2) pe_int (nomark _))
  (pss_one (ps_ret (pe_ix ix_list (pe_lst (pa_cons (pe_op op_sub (pe_c c__law_roll hr (by omega) (by rfl) (pa_cons (pv 0) (pa_cons pe_int pa_nil))) pe_int) (pa_cons (pe_c c__law_roll hr (by omega) (by rfl) (pa_cons (pv 0) (pa_cons (pe_op op_pow pe_int pe_int) pa_nil))) (pa_cons (pe_op op_sub pe_int (pe_c c__law_roll hr (by omega) (by rfl) (pa_cons (pv 0) (pa_cons (pe_op op_pow pe_int pe_int) pa_nil)))) pa_nil)))) (pe_c c__law_roll hr (by omega) (by rfl) (pa_cons (pv 0) (pa_cons pe_int pa_nil))) (fun _ _ => rfl))))
  pss_nil)
  (pss_cons (ps_if (pt_cmpR op_lt (pv 2) pe_int (nomark _))
  (pss_one (ps_ret (pe_bm PySem.F.plainAttrs_str PySem.F.slot_str_join PySem.F.type_str_join mt_join pe_str (pa_cons (pe_lc (own := [("k", 3)]) (g := gName 3) (by rfl) scLVal.nd (pi_range1 (by rfl) T.range (pa_cons (pe_c c__law_roll hr (by omega) (by rfl) (pa_cons (pv 0) (pa_cons pe_int pa_nil))) pa_nil)) (blkOk_by (own := [("k", 3)]) (N := ["dice", "deep", "sort", "k"]) (sc := (defScope sLVal)) (by decide +kernel)) (fun _ _ _ _ _ => (pg_name (i := 3) scLVal.nd rfl (Or.inl rfl))) (fun _ _ _ _ _ => pts_nil) (fun _ _ _ _ _ => (pe_ix ix_str pe_str (pe_c c__law_roll hr (by omega) (by rfl) (pa_cons (pv 0) (pa_cons pe_int pa_nil))) (fun _ _ => rfl)))) pa_nil))))
  pss_nil)
  (pss_one (ps_ret (pe_callTy call_tuple_of (by rfl) T.tuple (by decide +kernel) (pa_cons (pe_lc (own := [("k", 3)]) (g := gName 3) (by rfl) scLVal.nd (pi_range1 (by rfl) T.range (pa_cons (pe_c c__law_roll hr (by omega) (by rfl) (pa_cons (pv 0) (pa_cons pe_int pa_nil))) pa_nil)) (blkOk_by (own := [("k", 3)]) (N := ["dice", "deep", "sort", "k"]) (sc := (defScope sLVal)) (by decide +kernel)) (fun _ _ _ _ _ => (pg_name (i := 3) scLVal.nd rfl (Or.inl rfl))) (fun _ _ _ _ _ => pts_nil) (fun _ _ _ _ _ => (pe_c c__law_value hr (by omega) (by rfl) (pa_cons (pv 0) (pa_cons (pe_op op_sub (pv 1) pe_int) pa_nil))))) pa_nil)))))))), ?_⟩
      fail "go"
      have hb8 : (8 : Int) ≤ B20 := by decide
      have hp20 : (10 : Int) ^ (20 : Int).toNat ≤ B20 := by decide +kernel
      have hp12 : (10 : Int) ^ (12 : Int).toNat ≤ B20 := by decide +kernel
      have hq20 : (1 : Int) ≤ (10 : Int) ^ (20 : Int).toNat := by decide +kernel
      have hq12 : (1 : Int) ≤ (10 : Int) ^ (12 : Int).toNat := by decide +kernel
      have hcp : CPow 10 20 := by unfold CPow; decide +kernel
      have hcp2 : CPow 10 12 := by unfold CPow; decide +kernel
      refine ite_d (fun q => ?a) fun q => ?b
      case' a =>
        fail "go"
        refine ⟨l, a, b, c, 8, R, rfl, hL, by decide, by decide, fun r a b c H h0 h8 hL2 => ?_⟩
        have h6 : 6 ≤ r → 0 < e := fun _ => by omega
      case' b =>
        fail "go"
        refine ⟨l, a, b, c, 6, R, rfl, hL, by decide, by decide, fun r a b c H h0 h8 hL2 => ?_⟩
        have h6 : 6 ≤ r → 0 < e := fun _ => by omega
        replace h8 : r < 8 := by omega
      all_goals
        clear hL q
        have hL := hL2
        clear hL2
        fail "go"
        refine ite_d (fun q3 => ?_) fun q3 => ?_
        · fail "go"
          have hr : r = 0 ∨ r = 1 ∨ r = 2 := by omega
          rcases hr with rfl | rfl | rfl
          · refine k_ixL hL ⟨0, rfl⟩ (v := .non) rfl ?_
            exact k _ _ [] _ _ _ _ (.non e) .non hL.tail
          · refine k_ixL hL ⟨0, rfl⟩ (v := .bl true) rfl ?_
            exact k _ _ [] _ _ _ _ (.bl e _) (.bl _) hL.tail
          · refine k_ixL hL ⟨0, rfl⟩ (v := .bl false) rfl ?_
            exact k _ _ [] _ _ _ _ (.bl e _) (.bl _) hL.tail
        fail "go"
        refine ite_d (fun q4 => ?_) fun q4 => ?_
        · fail "go"
          refine ⟨l, a, b, c, 300, R, rfl, hL, by decide, by decide, fun r1 a b c H h1 h2 hL2 => ?_⟩
          fail "go"
          refine ⟨l, a, b, c, _, R, rfl, hL2, hq20, hp20, fun r2 a b c H h3 h4 hL3 => ?_⟩
          fail "go"
          refine ⟨l, a, b, c, _, R, rfl, hL3, hq12, hp12, fun r3 a b c H h5 h7 hL4 => ?_⟩
          clear hL hL2 hL3
          have hL := hL4
          clear hL4
          fail "go"
          refine ⟨l, a, b, c, 3, (p, .lst [.int (r1 - 150), .int r2, .int (0 - r3)]) :: R, rfl, hL.perm (List.Perm.swap _ _ _), by decide, by decide, fun r4 a b c H h9 h10 hL2 => ?_⟩
          have hp20' : (10 : Int) ^ (20 : Int).toNat = 100000000000000000000 := by decide +kernel
          have hp12' : (10 : Int) ^ (12 : Int).toNat = 1000000000000 := by decide +kernel
          rw [hp20'] at h4
          rw [hp12'] at h7
          clear hL
          have hr : r4 = 0 ∨ r4 = 1 ∨ r4 = 2 := by omega
          rcases hr with rfl | rfl | rfl
          · refine k_ixL hL2 ⟨1, rfl⟩ (v := .int (r1 - 150)) rfl ?_
            exact k _ _ [] _ _ _ _ (.int e _ (by omega)) (.int _) (hL2.sub (.cons_cons _ (.cons _ (.refl _))))
          · refine k_ixL hL2 ⟨1, rfl⟩ (v := .int r2) rfl ?_
            exact k _ _ [] _ _ _ _ (.int e _ (by omega)) (.int _) (hL2.sub (.cons_cons _ (.cons _ (.refl _))))
          · refine k_ixL hL2 ⟨1, rfl⟩ (v := .int (0 - r3)) rfl ?_
            exact k _ _ [] _ _ _ _ (.int e _ (by omega)) (.int _) (hL2.sub (.cons_cons _ (.cons _ (.refl _))))
        have q4 : ¬ r = 3 := fun z => q4 (by rw [z])
        fail "go"
        refine ite_d (fun q5 => ?_) fun q5 => ?_
        · fail "go"
          refine ⟨l, a, b, c, 9, R, rfl, hL, by decide, by decide, fun r1 a b c H h1 h2 hL2 => ?_⟩
          clear hL
          fail "go"
          refine (show ∀ D1 : Addr, _ from ?_)
          intro D1 hD
          refine lc_range (lo := 0) (n := r1.toNat) (fun i H => Hold (∃ (zs : List Nat) (a b c : Int), zs.length = i ∧ (∀ x ∈ zs, goodS x) ∧ Led H ((D1, .lst (zs.map fun x => V.str ⟨#[x]⟩)) :: (l, dD a b c) :: R))) (.mk ⟨[], a, b, c, rfl, fun x h => (nomatch h), hL2.new hD⟩) (fun i H hi q => ?_) (fun H q => ?_)
          · clear hL2 hD
            obtain ⟨zs, a, b, c, hz, hg, hL⟩ := q.out
            clear q
            refine ⟨rfl, k_yes ?_⟩
            fail "go"
            refine ⟨l, a, b, c, 6, (D1, .lst (zs.map fun x => V.str ⟨#[x]⟩)) :: R, rfl, hL.perm (List.Perm.swap _ _ _), by decide, by decide, fun r2 a b c H h3 h4 hL2 => ?_⟩
            clear hL
            obtain ⟨j, rfl⟩ : ∃ j : Nat, r2 = j := ⟨r2.toNat, by omega⟩
            obtain ⟨x, hx1, hx2⟩ := six_good ⟨j, by omega⟩
            refine ⟨("a~ \n_Z" : Str), _, x, rfl, rfl, by decide +kernel, atI_nat (by rw [Array.getElem?_toList]; exact hx1), ?_⟩
            refine ⟨_, hL2.at ⟨1, rfl⟩, by rw [List.length_map, hz]; exact Nat.lt_of_lt_of_le (show i < 9 by omega) (by decide), ?_⟩
            refine .mk ⟨zs ++ [x], a, b, c, by rw [List.length_append, hz]; rfl, fun y hy => ?_, ?_⟩
            · rcases List.mem_append.mp hy with hy | hy
              · exact hg y hy
              · rw [List.mem_singleton.mp hy]; exact hx2
            · rw [List.map_append]
              exact (hL2.set 1 rfl).perm (List.Perm.swap _ _ _)
          · clear hL2 hD
            obtain ⟨zs, a, b, c, hz, hg, hL⟩ := q.out
            clear q
            fail "go"
            have e1 : Txt.join ("" : Str) (zs.map fun x => (⟨#[x]⟩ : Str)) = ⟨zs.toArray⟩ := by
              have := SX.join_S [] (zs.map fun x => [x])
              rw [List.map_map] at this
              have e0 : (("" : String) : Str) = SX.S [] := by decide
              rw [e0]
              refine Eq.trans this ?_
              rw [joinL_one]
            refine ⟨_, _, zs.map fun x => (⟨#[x]⟩ : Str), rfl, rfl, .inl (.of (by rw [List.map_map]; exact hL.at ⟨0, rfl⟩)), ?_, ?_⟩
            · have : ((zs.map fun x => (⟨#[x]⟩ : Str)).map (·.length)).sum = zs.length := by
                clear hz hg hL e1
                induction zs with
                | nil => rfl
                | cons y r ih => rw [List.map_cons, List.map_cons, List.sum_cons, ih, List.length_cons]; show 1 + _ = _; omega
              rw [this, List.length_map]
              show zs.length + zs.length * 0 ≤ _
              omega
            · rw [e1]
              refine k _ _ [] _ _ _ _ (.str e _ ?_ hg) (.str _) hL.tail
              show zs.toArray.size ≤ 8
              rw [List.size_toArray]
              omega
        · fail "go"
          refine ⟨l, a, b, c, 5, R, rfl, hL, by decide, by decide, fun r1 a b c H h1 h2 hL2 => ?_⟩
          clear hL
          fail "go"
          have he0 : 0 < e := h6 (by omega)
          obtain ⟨e, rfl⟩ : ∃ e', e = e' + 1 := ⟨e - 1, by omega⟩
          refine (show ∀ D1 : Addr, _ from ?_)
          intro D1 hD
          refine lc_range (lo := 0) (n := r1.toNat) (fun i H => Hold (∃ (vs : List V) (ds : List Dv) (Z : Lg) (a b c : Int), ds.length = i ∧ LVs e ds ∧ DLs Z vs ds ∧ Led H ((D1, .lst vs) :: (l, dD a b c) :: (Z ++ R)))) (.mk ⟨[], [], [], a, b, c, rfl, .nil e, .nil, hL2.new hD⟩) (fun i H hi q => ?_) (fun H q => ?_)
          · clear hL2 hD
            obtain ⟨vs, ds, Z, a, b, c, hz, hv, hd, hL⟩ := q.out
            clear q
            refine ⟨rfl, k_yes ?_⟩
            fail "go"
            have e1 : ((e + 1 : Nat) : Int) - 1 = (e : Nat) := by omega
            refine ⟨l, a, b, c, e, (D1, .lst vs) :: (Z ++ R), congrArg (fun x : Int => [V.ref l, V.int x]) e1, hL.perm (List.Perm.swap _ _ _), by omega, fun v d Z2 a b c H hv2 hd2 hL2 => ?_⟩
            clear hL
            have hB : Led H ((D1, .lst vs) :: (l, dD a b c) :: ((Z2 ++ Z) ++ R)) := hL2.le (fun a_ => by
              simp only [cnt_cons, cnt_app]
              omega)
            refine ⟨_, hB.at ⟨0, rfl⟩, by rw [hd.len, hz]; exact Nat.lt_of_lt_of_le (show i < 5 by omega) (by decide), ?_⟩
            exact .mk ⟨vs ++ [v], ds ++ [d], Z2 ++ Z, a, b, c, by rw [List.length_append, hz]; rfl, hv.snoc hv2, ds_snoc2 (hd2.mono fun x h => List.mem_append_left _ h) (hd.mono fun x h => List.mem_append_right _ h), hB.set 0 rfl⟩
          · clear hL2 hD
            obtain ⟨vs, ds, Z, a, b, c, hz, hv, hd, hL⟩ := q.out
            clear q
            fail "go"
            refine ⟨_, _, rfl, .inl ⟨.of (hL.at ⟨0, rfl⟩), fun t ht => ?_⟩⟩
            generalize hH : upd H t _ = H
            replace hL := Led.newH hL ht hH
            clear hH ht
            refine k (.ref t) (.row ds) ((t, .tup vs) :: Z) a b c H (.row e ds (by omega) hv) (.row (.head _) (.inl rfl) (hd.mono fun x h => .tail _ h)) (hL.le (fun a_ => ?_))
            simp only [cnt_cons, cnt_app]
            omega
end
end Sd


set_option linter.unusedVariables false
namespace Sd
open PySem L2
open C8 (Cal Met Mak pe_c pe_mk pe_mt pe_mt0 pss_cut tCut)
-- TYPES STRS=yes,ZIPA=yes,one=any,other=any,_law_same()=bool,a=any,b=any
set_option linter.unusedSimpArgs false
set_option pp.deepTerms false
set_option pp.deepTerms.threshold 12
set_option hygiene false
local macro_rules | `(tactic| fail "nd") => `(tactic| first | assumption | decide +kernel)
local macro_rules | `(tactic| fail "ix") => `(tactic| first | exact ⟨0, rfl⟩ | exact ⟨1, rfl⟩ | exact ⟨2, rfl⟩ | exact ⟨3, rfl⟩ | exact ⟨4, rfl⟩ | exact ⟨5, rfl⟩ | exact ⟨6, rfl⟩ | exact ⟨7, rfl⟩ | exact ⟨8, rfl⟩ | exact ⟨9, rfl⟩ | exact ⟨10, rfl⟩ | exact ⟨11, rfl⟩ | exact ⟨12, rfl⟩ | exact ⟨13, rfl⟩ | exact ⟨14, rfl⟩ | exact ⟨15, rfl⟩ | exact ⟨16, rfl⟩ | exact ⟨17, rfl⟩ | exact ⟨18, rfl⟩ | assumption)
local macro_rules | `(tactic| fail "up") => `(tactic| first | exact ⟨0, rfl, rfl⟩ | exact ⟨1, rfl, rfl⟩ | exact ⟨2, rfl, rfl⟩ | exact ⟨3, rfl, rfl⟩ | exact ⟨4, rfl, rfl⟩ | exact ⟨5, rfl, rfl⟩ | exact ⟨6, rfl, rfl⟩ | exact ⟨7, rfl, rfl⟩ | exact ⟨8, rfl, rfl⟩ | exact ⟨9, rfl, rfl⟩ | exact ⟨10, rfl, rfl⟩ | exact ⟨11, rfl, rfl⟩ | exact ⟨12, rfl, rfl⟩ | exact ⟨13, rfl, rfl⟩ | exact ⟨14, rfl, rfl⟩ | exact ⟨15, rfl, rfl⟩ | exact ⟨16, rfl, rfl⟩ | assumption)
local macro_rules | `(tactic| fail "lkF") => `(tactic| first | assumption | exact fz_at 0 (by fail "nd") rfl rfl | exact fz_at 1 (by fail "nd") rfl rfl | exact fz_at 2 (by fail "nd") rfl rfl | exact fz_at 3 (by fail "nd") rfl rfl | exact fz_at 4 (by fail "nd") rfl rfl | exact fz_at 5 (by fail "nd") rfl rfl | exact fz_at 6 (by fail "nd") rfl rfl | exact fz_at 7 (by fail "nd") rfl rfl)
local macro_rules | `(tactic| fail "lkD") => `(tactic| first | assumption | exact dz_at 0 (by fail "nd") rfl rfl | exact dz_at 1 (by fail "nd") rfl rfl | exact dz_at 2 (by fail "nd") rfl rfl | exact dz_at 3 (by fail "nd") rfl rfl | exact dz_at 4 (by fail "nd") rfl rfl)
local macro_rules | `(tactic| fail "ptF") => `(tactic| first | assumption | exact fz_put 0 (by fail "nd") rfl (Nat.le_of_ble_eq_true rfl) | exact fz_put 1 (by fail "nd") rfl (Nat.le_of_ble_eq_true rfl) | exact fz_put 2 (by fail "nd") rfl (Nat.le_of_ble_eq_true rfl) | exact fz_put 3 (by fail "nd") rfl (Nat.le_of_ble_eq_true rfl) | exact fz_put 4 (by fail "nd") rfl (Nat.le_of_ble_eq_true rfl) | exact fz_put 5 (by fail "nd") rfl (Nat.le_of_ble_eq_true rfl) | exact fz_put 6 (by fail "nd") rfl (Nat.le_of_ble_eq_true rfl) | exact fz_put 7 (by fail "nd") rfl (Nat.le_of_ble_eq_true rfl) | exact fz_new (by decide +kernel) rfl)
local macro_rules | `(tactic| fail "ptD") => `(tactic| first | assumption | exact dz_put 0 (by fail "nd") rfl (Nat.le_of_ble_eq_true rfl) | exact dz_put 1 (by fail "nd") rfl (Nat.le_of_ble_eq_true rfl) | exact dz_put 2 (by fail "nd") rfl (Nat.le_of_ble_eq_true rfl) | exact dz_put 3 (by fail "nd") rfl (Nat.le_of_ble_eq_true rfl) | exact dz_put 4 (by fail "nd") rfl (Nat.le_of_ble_eq_true rfl))
local macro_rules | `(tactic| fail "sz") => `(tactic| first | assumption | exact (Nat.le_of_ble_eq_true rfl) | omega | decide)
local macro_rules | `(tactic| fail "sd") => `(tactic| first | rfl | assumption | decide | omega | (dsimp only; first | decide | omega) | exact .inr ⟨by decide, by decide⟩ | exact .inl ⟨by decide, by decide⟩ | exact ⟨by omega, by omega⟩ | exact .inl ⟨by omega, by omega⟩ | exact .inr ⟨by omega, by omega⟩ | exact ⟨by omega, by omega, by omega⟩)
local macro_rules | `(tactic| fail "cl") => `(tactic| (clear hH; dsimp only [List.set, List.cons_append, List.nil_append, List.append] at hL))
local macro_rules | `(tactic| fail "gn") => `(tactic| (intro p hp; generalize hH : upd H p _ = H; replace hL := Led.newH hL hp hH; clear hH hp))
local macro_rules | `(tactic| fail "gup") => `(tactic| (generalize hH : upd H _ _ = H; replace hL := Led.upU hL (by fail "up") hH; fail "cl"))
local macro_rules | `(tactic| fail "gmk") => `(tactic| (intro x dx hx hd ne; generalize hH : upd (upd H dx _) x _ = H; replace hL := Led.made hL hx hd ne hH; clear hH hx hd ne))
local macro_rules | `(tactic| fail "v") => `(tactic| refine ⟨_, rfl, ?_⟩)
local macro_rules | `(tactic| fail "i2") => `(tactic| refine ⟨_, _, rfl, rfl, ?_⟩)
local macro_rules | `(tactic| fail "go1") => `(tactic| first
  | refine ⟨_, rfl, ?_⟩
  | refine ⟨_, _, rfl, rfl, ?_⟩
  | refine ⟨_, _, rfl, ?_⟩
  | refine iteT ?_
  | refine iteF ?_
  | refine k_fld hL (by fail "ix") (by assumption) (by assumption) (by fail "lkF") ?_
  | refine k_dgetS hL (by fail "ix") (by fail "lkD") ?_
  | refine k_dgetI hL (by fail "ix") (by assumption) ?_
  | refine k_ixL hL (by fail "ix") (by first | rfl | assumption) ?_
  | refine k_ixT hL (by fail "ix") (by first | rfl | assumption) ?_
  | refine k_tyL hL (by fail "ix") ?_
  | refine k_isd hL (by fail "ix") ?_
  | (refine And.intro (by fail "sz") ?_; fail "gn")
  | refine And.intro (by fail "sd") ?_
  | fail "gn"
  | refine k_meth hL (by fail "ix") (by first | assumption | exact fz_no (by decide +kernel)) ?_
  | refine k_gtup hL (by fail "ix") rfl ?_
  | (refine k_popI hL (by fail "ix") (by assumption) ?_; fail "gup")
  | (refine k_listD hL (by fail "ix") ?_; fail "gn")
  | (refine ⟨_, _, _, _, rfl, rfl, hL.at (by fail "ix"), rfl, ?_⟩; fail "gup")
  | (refine ⟨_, _, _, rfl, rfl, hL.at (by fail "ix"), (by fail "sz"), ?_⟩; fail "gup")
  | (refine ⟨_, _, _, _, rfl, hL.at (by fail "ix"), by assumption, by assumption, Nat.lt_of_le_of_lt fz_len (by decide), ?_⟩; generalize hH : upd H _ _ = H; replace hL := Led.upF hL (by fail "up") (by fail "ptF") hH; fail "cl")
  | (refine ⟨_, _, hL.at (by fail "ix"), Nat.lt_of_le_of_lt fz_len (by decide), ?_⟩; generalize hH : upd H _ _ = H; replace hL := Led.upF hL (by fail "up") (by fail "ptF") hH; fail "cl")
  | (refine k_dputS hL (by fail "ix") (Nat.lt_of_le_of_lt dz_len (by decide)) (by fail "ptD") (by fail "up") ?_; clear hL; intro H hL; dsimp only [List.set, List.cons_append, List.nil_append, List.append] at hL)
  | refine k_lenL2 hL (by fail "ix") ?_
  | refine k_lenT2 hL (by fail "ix") ?_
  | refine .inl ⟨_, rfl, ?_⟩
  | refine .inr ⟨_, rfl, ?_⟩)
local macro_rules | `(tactic| fail "go") => `(tactic| repeat fail "go1")
local macro_rules | `(tactic| fail "pm") => `(tactic| (refine Led.le hL (fun a_ => ?_); simp only [cnt_nil, cnt_cons, cnt_app, List.map_append, List.map_cons, List.map_nil, List.flatMap_append, List.flatMap_cons, List.flatMap_nil, List.append_assoc, List.cons_append, List.nil_append]; omega))

def spLSame (n : Nat) : Sp := fun vs H Q _ => ∃ (x y : V) (e : Nat) (d : Dv) (L : Lg), vs = [x, y] ∧ Led H L ∧ DL L x d ∧ DL L y d ∧ LV e d ∧ e < n ∧ ∀ H', Led H' L → Q (.bl true) H'
theorem LV.strq {e : Nat} {d : Dv} {L : Lg} {x y : V} (h : LV e d) (hx : DL L x d) (hy : DL L y d) (hn : ∀ ds, d ≠ .row ds) : x = y ∧ ∃ z, strV x = some z := by
  cases h with
  | non => cases hx; cases hy; exact ⟨rfl, _, rfl⟩
  | bl => cases hx; cases hy; exact ⟨rfl, _, rfl⟩
  | int e i h =>
    cases hx; cases hy
    refine ⟨rfl, toString i, ?_⟩
    have : i.natAbs.log2 < 1920 := by
      by_cases h0 : i.natAbs = 0
      · rw [h0]; decide
      · exact (Nat.log2_lt h0).mpr (Nat.lt_of_le_of_lt h (by decide +kernel))
    show (if i.natAbs.log2 < 1920 then some (toString i : Str) else none) = _
    rw [if_pos this]
  | str => cases hx; cases hy; exact ⟨rfl, _, rfl⟩
  | row e ds => exact absurd rfl (hn ds)
section
variable {P : Program} {w : World} {K : PySem.W.Frag} {mg : Str → Option Value} {base : Heap}
theorem scLSame : FnScope ["one", "other", "a", "b"] ["one", "other"] (defScope sLSame) := ⟨rfl, rfl, rfl, by decide +kernel, rfl, by decide +kernel, by decide +kernel⟩
theorem ok_lsame {f : Addr} {fd : FuncData} (F : Fun K "_law_same" "_law_same" sLSame f fd) (T : TxtV mg) (hm : mg "_law_same" = some (.ref f)) (b : Binds K fd ["one", "other"] []) (n : Nat) : FnOk P w K mg base CX0 (1 + n) f fd ["one", "other"] (spLSame n) := by
  induction n with
  | zero => exact ⟨fun vs H Q E ⟨_, _, _, _, _, _, _, _, _, _, h, _⟩ => absurd h (Nat.not_lt_zero _), fun _ _ _ H _ _ vs Q E _ _ _ _ ⟨_, _, _, _, _, _, _, _, _, _, h, _⟩ => absurd h (Nat.not_lt_zero _)⟩
  | succ n ih =>
    have c__law_same : Cal P w K mg base (1 + n) "_law_same" (spLSame n) [] := ⟨_, _, _, [], ih, hm, F.kp, b, .nil⟩
    refine F.ok (k := 1 + n) scLSame (fun vs H Q E h => ?_) (fun cdv A outer s H vs Q E hr h => ?_)
    · obtain ⟨x, y, e, d, L, rfl, _⟩ := h
      rfl
    · obtain ⟨x, y, e, d, L, rfl, hL, hx, hy, hv, he, k⟩ := h
      refine ⟨_, (pss_cons (ps_if (pt_val (pe_callB call_isi (by rfl) T.isinstance (by decide +kernel) (pa_cons (pv 0) (pa_cons (pe_bltn (v := .ty "tuple") (by rfl) T.tuple (show bootBuiltins _ = some (.type "tuple") by decide +kernel) rfl) pa_nil))))
  (pss_one (ps_ret (pe_and (pe_callB call_isi (by rfl) T.isinstance (by decide +kernel) (pa_cons (pv 1) (pa_cons (pe_bltn (v := .ty "tuple") (by rfl) T.tuple (show bootBuiltins _ = some (.type "tuple") by decide +kernel) rfl) pa_nil))) (pe_and (pe_cmpR op_eq (pe_callB call_len_seq (by rfl) T.len (by decide +kernel) (pa_cons (pv 0) pa_nil)) (pe_callB call_len_seq (by rfl) T.len (by decide +kernel) (pa_cons (pv 1) pa_nil)) (nomark _)) (pe_one (pe_cmpR (op_eqP hr.units) (pe_lc (own := [("a", 2), ("b", 3)]) (g := gTup K 2 (gCons (gName 2) (gCons (gName 3) gNil))) (by rfl) scLSame.nd (RZ.pi_zipA (by rfl) T.zip (pa_cons (pv 0) (pa_cons (pv 1) pa_nil))) (blkOk_by (own := [("a", 2), ("b", 3)]) (N := ["one", "other", "a", "b"]) (sc := (defScope sLSame)) (by decide +kernel)) (fun _ _ _ _ _ => (pg_tup (by rfl) (pgs_cons (pg_name (i := 2) scLSame.nd rfl (Or.inl rfl)) (pgs_cons (pg_name (i := 3) scLSame.nd rfl (Or.inl rfl)) pgs_nil)))) (fun _ _ _ _ _ => (pts_one (pt_not (pt_val (pe_c c__law_same hr (by omega) (by rfl) (pa_cons (pv 2) (pa_cons (pv 3) pa_nil))))))) (fun _ _ _ _ _ => pe_int)) (pe_lst pa_nil) (nomark _)))))))
  pss_nil)
  (pss_one (ps_ret (pe_and (pe_cmpR op_eq (pe_callTy call_strS (by rfl) T.str (by decide +kernel) (pa_cons (pv 0) pa_nil)) (pe_callTy call_strS (by rfl) T.str (by decide +kernel) (pa_cons (pv 1) pa_nil)) (nomark _)) (pe_one (pe_cmpR op_eq (pe_callB call_isi (by rfl) T.isinstance (by decide +kernel) (pa_cons (pv 0) (pa_cons (pe_bltn (v := .ty "str") (by rfl) T.str (show bootBuiltins _ = some (.type "str") by decide +kernel) rfl) pa_nil))) (pe_callB call_isi (by rfl) T.isinstance (by decide +kernel) (pa_cons (pv 1) (pa_cons (pe_bltn (v := .ty "str") (by rfl) T.str (show bootBuiltins _ = some (.type "str") by decide +kernel) rfl) pa_nil))) (nomark _))))))), ?_⟩
      fail "go"
      by_cases hrow : ∃ ds, d = .row ds
      · obtain ⟨ds, rfl⟩ := hrow
        cases hv with
        | row e _ h4 hg =>
        have hx0 := hx
        have hy0 := hy
        cases hx with
        | @row p1 o1 xs1 _ hp1 ho1 hxs1 =>
        cases hy with
        | @row p2 o2 xs2 _ hp2 ho2 hxs2 =>
        refine ⟨_, _, _, _, true, rfl, .ty _, ho1.ty (hL.mem hp1), kit_ty (by decide +kernel), ?_⟩
        fail "go"
        refine ⟨_, _, _, _, true, rfl, .ty _, ho2.ty (hL.mem hp2), kit_ty (by decide +kernel), ?_⟩
        fail "go"
        refine ⟨_, _, rfl, .inr (ho1.sq (hL.mem hp1)), ?_⟩
        fail "go"
        refine ⟨_, _, rfl, .inr (ho2.sq (hL.mem hp2)), ?_⟩
        fail "go"
        rw [show decide (V.int (xs1.length : Nat) = V.int (xs2.length : Nat)) = true from decide_eq_true (by rw [hxs1.len, hxs2.len])]
        fail "go"
        refine ⟨p1, p2, xs1, xs2, rfl, .inr ⟨ho1.sq (hL.mem hp1), ho2.sq (hL.mem hp2), fun D1 hD => ?_⟩⟩
        have hl1 := hxs1.len
        have hl2 := hxs2.len
        refine lc_it (walk_zipT (n := ds.length) (xs := xs1) (ys := xs2) (by omega)) (fun i H => Hold (Led H ((D1, .lst []) :: L))) (.mk (hL.new hD)) (fun i H _ q => ⟨ho1.sq (q.out.mem (.tail _ hp1)), ho2.sq (q.out.mem (.tail _ hp2))⟩) (fun i v H H' hi q hy => ?_) (fun H q => ?_)
        · clear hL hD
          have hL := q.out
          clear q
          obtain ⟨t, x1, y1, rfl, ht, rfl, h1, h2⟩ := hy
          have hL2 := hL.new (o := .tup [x1, y1]) ht
          clear hL
          generalize upd H t _ = H at hL2
          obtain ⟨dd, hdd, hx1⟩ := hxs1.get h1
          obtain ⟨dd2, hdd2, hy1⟩ := hxs2.get h2
          rw [hdd] at hdd2
          cases hdd2
          refine k_gtup hL2 ⟨0, rfl⟩ rfl ?_
          refine ⟨x1, [y1], rfl, y1, [], rfl, rfl, rfl, ?_⟩
          fail "go"
          refine ⟨x1, y1, e, dd, _, rfl, hL2, hx1.mono (fun z h => .tail _ (.tail _ h)), hy1.mono (fun z h => .tail _ (.tail _ h)), hg.get hdd, by omega, fun H hL => ?_⟩
          clear hL2
          refine ⟨true, rfl, ?_⟩
          refine iteF ?_
          exact .mk hL.tail
        · clear hL hD
          have hL := q.out
          clear q
          fail "go"
          refine k_eqSame (d := .list []) (dp_lst (hL.mem (.tail _ (.head _))) .nil) (dp_lst (hL.mem (.head _)) .nil) ⟨by simp [PyData.plain, PyData.plainAll], by simp [PyData.depth, PyData.depthAll]⟩ ?_
          exact k _ hL.tail.tail
      · have hns : ∀ ds, d ≠ .row ds := fun ds h => hrow ⟨ds, h⟩
        obtain ⟨rfl, z, hz⟩ := hv.strq hx hy hns
        have hty := DL.ty (K := K) hL hx
        have hnt : ∃ t b, TyX K H x (.type t) ∧ kitB t "tuple" = some false ∧ kitB t "str" = some b := by
          cases d with
          | non => exact ⟨_, false, hty, by decide +kernel, by decide +kernel⟩
          | bl => exact ⟨_, false, hty, by decide +kernel, by decide +kernel⟩
          | int => exact ⟨_, false, hty, by decide +kernel, by decide +kernel⟩
          | str => exact ⟨_, true, hty, by decide +kernel, by decide +kernel⟩
          | row ds => exact absurd rfl (hns ds)
        obtain ⟨t, bb, ht, k1, k2⟩ := hnt
        refine ⟨_, _, _, _, false, rfl, .ty _, ht, kit_ty k1, ?_⟩
        fail "go"
        refine ⟨x, z, rfl, hz, ?_⟩
        fail "go"
        refine ⟨x, z, rfl, hz, ?_⟩
        fail "go"
        rw [show decide (V.str z = V.str z) = true by simp]
        refine iteT ?_
        fail "go"
        refine ⟨_, _, _, _, bb, rfl, .ty _, ht, kit_ty k2, ?_⟩
        fail "go"
        refine ⟨_, _, _, _, bb, rfl, .ty _, ht, kit_ty k2, ?_⟩
        fail "go"
        have e1 : decide (V.bl bb = V.bl bb) = true := by simp
        rw [e1]
        exact k _ hL
end
end Sd


/-! t * 0, t * 1; sums and slices of tuples, told alike whether they are new or one of the operands -/
namespace Sd
open PySem PySem.Spec PyProof.Rows L2
theorem tuple_mul1 (l : Addr) (items : Array Value) (n : Nat) (dd : Option Addr) (sl : Array (Option Value)) (x : Int) (u : Tok) (c0 : (decide (x < -(2 ^ 63)) || decide (x ≥ 2 ^ 63)) = false) (c1 : (items.isEmpty || x == 1) = true) :
    Meets (Builtin.«tuple.__mul__» ⟨[.ref l, .int x u], []⟩) (fun _ R s => s.heap.get? l = some { cls := .type "tuple", dict := dd, data := .seq items n, slots := sl } ∧ R (.ok (.ret (Value.ref l))) s) :=
  .of_wp fun prog w A R s h => by
    obtain ⟨hp, g, d, tk, os⟩ := s
    obtain ⟨hl, h⟩ := h
    have f1 := AutoSeq1.idx_int
    wp_walk using wpAny_loadPart' hl
    repeat (first
      | (refine wpAny_ite_false (decide_eq_false (by rw [c0]; exact Bool.false_ne_true)) ?_; wp_walk using wpAny_loadPart' hl)
      | (refine wpAny_ite_true (decide_eq_true c1) ?_; wp_walk using wpAny_loadPart' hl))
    exact ⟨_, rfl, h⟩
theorem tuple_mul0 (l : Addr) (items : Array Value) (n : Nat) (dd : Option Addr) (sl : Array (Option Value)) (x : Int) (u : Tok) (c0 : (decide (x < -(2 ^ 63)) || decide (x ≥ 2 ^ 63)) = false) (c1 : (items.isEmpty || x == 1) = false) (c2 : (decide (x ≤ 0) || items.isEmpty) = true) :
    Meets (Builtin.«tuple.__mul__» ⟨[.ref l, .int x u], []⟩) (fun _ R s => s.heap.get? l = some { cls := .type "tuple", dict := dd, data := .seq items n, slots := sl } ∧
      R (.ok (.ret (Value.ref s.heap.objs.size))) { s with heap := s.heap.push { cls := Value.type "tuple", data := Data.seq #[] }, toks := s.toks }) :=
  .of_wp fun prog w A R s h => by
    obtain ⟨hp, g, d, tk, os⟩ := s
    obtain ⟨hl, h⟩ := h
    have f1 := AutoSeq1.idx_int
    wp_walk using wpAny_loadPart' hl
    repeat (first
      | (refine wpAny_ite_false (decide_eq_false (by rw [c0]; exact Bool.false_ne_true)) ?_; wp_walk using wpAny_loadPart' hl)
      | (refine wpAny_ite_false (decide_eq_false (by rw [c1]; exact Bool.false_ne_true)) ?_; wp_walk using wpAny_loadPart' hl)
      | (refine wpAny_ite_true (decide_eq_true c2) ?_; wp_walk using wpAny_loadPart' hl))
    exact ⟨_, rfl, h⟩
def rRepS (K : PySem.W.Frag) : R2 := fun x y H Q => ∃ l k xs, x = .ref l ∧ y = .int k ∧ SqT K H l xs ∧ xs ≠ [] ∧ (k = 0 ∨ k = 1) ∧ (k = 1 → Q (.ref l) H) ∧ (k = 0 → ∀ p, H p = none → Q (.ref p) (upd H p (.tup [])))
section
variable {X : Cx}
theorem op_repS : OpR X (binaryOp .Mult) (rRepS X.K) := by
  intro pins s σ H x y v u Q I rx ry h
  obtain ⟨l, k, xs, rfl, rfl, hT, hne, hk, q1, q0⟩ := h
  cases rx
  obtain ⟨t, rfl⟩ := ry
  obtain ⟨its, r, ⟨⟨cls, dd, data, sl⟩, ho, hc, n, hd⟩, hs⟩ := I.tuple hT
  simp only at hc hd
  subst hc hd
  have hle : its.length = xs.length := r.length.symm
  have hi : its.toArray.isEmpty = false := by
    cases its with
    | nil => exact absurd (List.eq_nil_of_length_eq_zero hle.symm) hne
    | cons a b => rfl
  have c0 : (decide (k < -(2 ^ 63)) || decide (k ≥ 2 ^ 63)) = false := by
    rw [decide_eq_false (by omega), decide_eq_false (by omega)] <;> rfl
  refine wpAny_binaryOp_repeat_ref (T := "tuple") (U := "int") (by decide) ⟨_, ho, rfl⟩ (fun s' => typeIs_int s' k t) noFill_tuple_mul F.fills_int_mul F.slot_int_rmul repeat_tuple F.slot_int_index.lookup
    (call_meets F.slot_int_rmul (typeIs_int s k t) F.entry_int_rmul (F.args_int_rmul_2 _ _) (int_rmul_tuple k t l its.toArray n dd sl) ⟨ho, rfl, ⟨_, ho, rfl⟩, ?_⟩)
  rcases hk with rfl | rfl
  · refine call_meets F.slot_tuple_mul ⟨_, ho, rfl⟩ F.entry_tuple_mul (F.args_tuple_mul_2 _ _) (tuple_mul0 l its.toArray n dd sl 0 t c0 (by rw [hi]; rfl) rfl) ⟨ho, ?_⟩
    exact ⟨.ref s.heap.objs.size, _, I.laid (t' := s.toks) (o := .tup []) (fun b ob q => Heap.get?_push_of_some _ q) (Nat.le_refl _) ⟨Nat.zero_le _, [], .nil, IsTup.new _ _⟩, rfl, q0 rfl _ (I.hok.fresh (Nat.le_refl _))⟩
  · refine call_meets F.slot_tuple_mul ⟨_, ho, rfl⟩ F.entry_tuple_mul (F.args_tuple_mul_2 _ _) (tuple_mul1 l its.toArray n dd sl 1 t c0 (by rw [hi]; rfl)) ⟨ho, ?_⟩
    exact ⟨.ref l, H, I, rfl, q1 rfl⟩
end
section
variable {K : PySem.W.Frag} {H : Hp} {L : Lg} {a b : Addr} {xs ys : List V} {Q : VK}
/-- t + u: M holds the sum where it is new -/
theorem k_catG (hL : Led H L) (ha : (a, .tup xs) ∈ L) (hb : (b, .tup ys) ∈ L) (hz : xs.length + ys.length ≤ sizeLine) (k : ∀ r M H', Led H' (M ++ L) → (r, .tup (xs ++ ys)) ∈ M ++ L → Q (.ref r) H') : rCatA K (.ref a) (.ref b) H Q := by
  refine ⟨a, b, xs, ys, rfl, rfl, .of (hL.mem ha), .of (hL.mem hb), hz, fun e => ?_, fun _ e => ?_, fun _ _ p hp => ?_⟩
  · subst e; exact k b [] _ hL hb
  · subst e; rw [List.append_nil] at k; exact k a [] _ hL ha
  · exact k p [_] _ (hL.new hp) (.head _)
theorem k_sliG {lo hi : Option Int} (hL : Led H L) (ha : (a, .tup xs) ∈ L) (k : ∀ r M H', Led H' (M ++ L) → (r, .tup (cutV xs lo hi)) ∈ M ++ L → Q (.ref r) H') : rSlA K (.ref a) lo hi H Q := by
  refine ⟨a, xs, rfl, .of (hL.mem ha), fun e => ?_, fun _ p hp => ?_⟩
  · have e1 : cutV xs lo hi = xs := by
      unfold cutV
      rw [e.1, e.2, List.drop_zero, Nat.sub_zero, List.take_length]
    rw [e1] at k
    exact k a [] _ hL ha
  · exact k p [_] _ (hL.new hp) (.head _)
theorem k_repG {i : Int} (hL : Led H L) (ha : (a, .tup xs) ∈ L) (hx : xs ≠ []) (hi : i = 0 ∨ i = 1) (k : ∀ r M H', Led H' (M ++ L) → (r, .tup (if i = 1 then xs else [])) ∈ M ++ L → Q (.ref r) H') : rRepS K (.ref a) (.int i) H Q := by
  refine ⟨a, i, xs, rfl, rfl, .of (hL.mem ha), hx, hi, fun e => ?_, fun e p hp => ?_⟩
  · rw [if_pos e] at k; exact k a [] _ hL ha
  · rw [if_neg (by omega)] at k; exact k p [_] _ (hL.new hp) (.head _)
end
end Sd


set_option linter.unusedVariables false
namespace Sd
open PySem L2 LamX
open C8 (Cal Met Mak pe_c pe_mk pe_mt pe_mt0 pss_cut tCut)
set_option linter.unusedSimpArgs false
set_option pp.deepTerms false
set_option pp.deepTerms.threshold 12
set_option hygiene false
local macro_rules | `(tactic| fail "nd") => `(tactic| first | assumption | decide +kernel)
local macro_rules | `(tactic| fail "ix") => `(tactic| first | exact ⟨0, rfl⟩ | exact ⟨1, rfl⟩ | exact ⟨2, rfl⟩ | exact ⟨3, rfl⟩ | exact ⟨4, rfl⟩ | exact ⟨5, rfl⟩ | exact ⟨6, rfl⟩ | exact ⟨7, rfl⟩ | exact ⟨8, rfl⟩ | exact ⟨9, rfl⟩ | exact ⟨10, rfl⟩ | exact ⟨11, rfl⟩ | exact ⟨12, rfl⟩ | exact ⟨13, rfl⟩ | exact ⟨14, rfl⟩ | exact ⟨15, rfl⟩ | exact ⟨16, rfl⟩ | exact ⟨17, rfl⟩ | exact ⟨18, rfl⟩ | assumption)
local macro_rules | `(tactic| fail "up") => `(tactic| first | exact ⟨0, rfl, rfl⟩ | exact ⟨1, rfl, rfl⟩ | exact ⟨2, rfl, rfl⟩ | exact ⟨3, rfl, rfl⟩ | exact ⟨4, rfl, rfl⟩ | exact ⟨5, rfl, rfl⟩ | exact ⟨6, rfl, rfl⟩ | exact ⟨7, rfl, rfl⟩ | exact ⟨8, rfl, rfl⟩ | exact ⟨9, rfl, rfl⟩ | exact ⟨10, rfl, rfl⟩ | exact ⟨11, rfl, rfl⟩ | exact ⟨12, rfl, rfl⟩ | exact ⟨13, rfl, rfl⟩ | exact ⟨14, rfl, rfl⟩ | exact ⟨15, rfl, rfl⟩ | exact ⟨16, rfl, rfl⟩ | assumption)
local macro_rules | `(tactic| fail "lkF") => `(tactic| first | assumption | exact fz_at 0 (by fail "nd") rfl rfl | exact fz_at 1 (by fail "nd") rfl rfl | exact fz_at 2 (by fail "nd") rfl rfl | exact fz_at 3 (by fail "nd") rfl rfl | exact fz_at 4 (by fail "nd") rfl rfl | exact fz_at 5 (by fail "nd") rfl rfl | exact fz_at 6 (by fail "nd") rfl rfl | exact fz_at 7 (by fail "nd") rfl rfl)
local macro_rules | `(tactic| fail "lkD") => `(tactic| first | assumption | exact dz_at 0 (by fail "nd") rfl rfl | exact dz_at 1 (by fail "nd") rfl rfl | exact dz_at 2 (by fail "nd") rfl rfl | exact dz_at 3 (by fail "nd") rfl rfl | exact dz_at 4 (by fail "nd") rfl rfl)
local macro_rules | `(tactic| fail "ptF") => `(tactic| first | assumption | exact fz_put 0 (by fail "nd") rfl (Nat.le_of_ble_eq_true rfl) | exact fz_put 1 (by fail "nd") rfl (Nat.le_of_ble_eq_true rfl) | exact fz_put 2 (by fail "nd") rfl (Nat.le_of_ble_eq_true rfl) | exact fz_put 3 (by fail "nd") rfl (Nat.le_of_ble_eq_true rfl) | exact fz_put 4 (by fail "nd") rfl (Nat.le_of_ble_eq_true rfl) | exact fz_put 5 (by fail "nd") rfl (Nat.le_of_ble_eq_true rfl) | exact fz_put 6 (by fail "nd") rfl (Nat.le_of_ble_eq_true rfl) | exact fz_put 7 (by fail "nd") rfl (Nat.le_of_ble_eq_true rfl) | exact fz_new (by decide +kernel) rfl)
local macro_rules | `(tactic| fail "ptD") => `(tactic| first | assumption | exact dz_put 0 (by fail "nd") rfl (Nat.le_of_ble_eq_true rfl) | exact dz_put 1 (by fail "nd") rfl (Nat.le_of_ble_eq_true rfl) | exact dz_put 2 (by fail "nd") rfl (Nat.le_of_ble_eq_true rfl) | exact dz_put 3 (by fail "nd") rfl (Nat.le_of_ble_eq_true rfl) | exact dz_put 4 (by fail "nd") rfl (Nat.le_of_ble_eq_true rfl))
local macro_rules | `(tactic| fail "sz") => `(tactic| first | assumption | exact (Nat.le_of_ble_eq_true rfl) | omega | decide)
local macro_rules | `(tactic| fail "sd") => `(tactic| first | rfl | assumption | decide | omega | (dsimp only; first | decide | omega) | exact .inr ⟨by decide, by decide⟩ | exact .inl ⟨by decide, by decide⟩ | exact ⟨by omega, by omega⟩ | exact .inl ⟨by omega, by omega⟩ | exact .inr ⟨by omega, by omega⟩ | exact ⟨by omega, by omega, by omega⟩)
local macro_rules | `(tactic| fail "cl") => `(tactic| (clear hH; dsimp only [List.set, List.cons_append, List.nil_append, List.append] at hL))
local macro_rules | `(tactic| fail "gn") => `(tactic| (intro p hp; generalize hH : upd H p _ = H; replace hL := Led.newH hL hp hH; clear hH hp))
local macro_rules | `(tactic| fail "gup") => `(tactic| (generalize hH : upd H _ _ = H; replace hL := Led.upU hL (by fail "up") hH; fail "cl"))
local macro_rules | `(tactic| fail "gmk") => `(tactic| (intro x dx hx hd ne; generalize hH : upd (upd H dx _) x _ = H; replace hL := Led.made hL hx hd ne hH; clear hH hx hd ne))
local macro_rules | `(tactic| fail "v") => `(tactic| refine ⟨_, rfl, ?_⟩)
local macro_rules | `(tactic| fail "i2") => `(tactic| refine ⟨_, _, rfl, rfl, ?_⟩)
local macro_rules | `(tactic| fail "go1") => `(tactic| first
  | refine ⟨_, rfl, ?_⟩
  | refine ⟨_, _, rfl, rfl, ?_⟩
  | refine ⟨_, _, rfl, ?_⟩
  | refine iteT ?_
  | refine iteF ?_
  | refine k_fld hL (by fail "ix") (by assumption) (by assumption) (by fail "lkF") ?_
  | refine k_dgetS hL (by fail "ix") (by fail "lkD") ?_
  | refine k_dgetI hL (by fail "ix") (by assumption) ?_
  | refine k_ixL hL (by fail "ix") (by first | rfl | assumption) ?_
  | refine k_ixT hL (by fail "ix") (by first | rfl | assumption) ?_
  | refine k_tyL hL (by fail "ix") ?_
  | refine k_isd hL (by fail "ix") ?_
  | (refine And.intro (by fail "sz") ?_; fail "gn")
  | refine And.intro (by fail "sd") ?_
  | fail "gn"
  | refine k_meth hL (by fail "ix") (by first | assumption | exact fz_no (by decide +kernel)) ?_
  | refine k_gtup hL (by fail "ix") rfl ?_
  | (refine k_popI hL (by fail "ix") (by assumption) ?_; fail "gup")
  | (refine k_listD hL (by fail "ix") ?_; fail "gn")
  | (refine ⟨_, _, _, _, rfl, rfl, hL.at (by fail "ix"), rfl, ?_⟩; fail "gup")
  | (refine ⟨_, _, _, rfl, rfl, hL.at (by fail "ix"), (by fail "sz"), ?_⟩; fail "gup")
  | (refine ⟨_, _, _, _, rfl, hL.at (by fail "ix"), by assumption, by assumption, Nat.lt_of_le_of_lt fz_len (by decide), ?_⟩; generalize hH : upd H _ _ = H; replace hL := Led.upF hL (by fail "up") (by fail "ptF") hH; fail "cl")
  | (refine ⟨_, _, hL.at (by fail "ix"), Nat.lt_of_le_of_lt fz_len (by decide), ?_⟩; generalize hH : upd H _ _ = H; replace hL := Led.upF hL (by fail "up") (by fail "ptF") hH; fail "cl")
  | (refine k_dputS hL (by fail "ix") (Nat.lt_of_le_of_lt dz_len (by decide)) (by fail "ptD") (by fail "up") ?_; clear hL; intro H hL; dsimp only [List.set, List.cons_append, List.nil_append, List.append] at hL)
  | refine k_lenL2 hL (by fail "ix") ?_
  | refine k_lenT2 hL (by fail "ix") ?_
  | refine .inl ⟨_, rfl, ?_⟩
  | refine .inr ⟨_, rfl, ?_⟩)
local macro_rules | `(tactic| fail "go") => `(tactic| repeat fail "go1")
local macro_rules | `(tactic| fail "pm") => `(tactic| (refine Led.le hL (fun a_ => ?_); simp only [cnt_nil, cnt_cons, cnt_app, List.map_append, List.map_cons, List.map_nil, List.flatMap_append, List.flatMap_cons, List.flatMap_nil, List.append_assoc, List.cons_append, List.nil_append]; omega))

/-! ### k01: the law's names -/
abbrev sLaw : Stmt := top 30
def bodyF (st : Stmt) : List Stmt := match st with | .For _ _ b _ _ => b | _ => []
def thenS (st : Stmt) : List Stmt := match st with | .If _ b _ _ => b | _ => []
def nth (b : List Stmt) (i : Nat) : Stmt := b.getD i (.Pass ⟨0, 0, 0, 0⟩)
abbrev diceB : List Stmt := bodyF (nth (defBody sLaw) 0)
abbrev NLw : List Str := ["script", "dice", "value", "data", "place", "bent", "told_now", "values", "k", "whole", "ends", "one", "cut", "found", "many", "kept", "spot", "number", "drawn", "deep", "levels", "turn", "bad"]
theorem scLaw : FnScope NLw ["script"] (defScope sLaw) := ⟨rfl, rfl, rfl, by decide +kernel, rfl, by decide +kernel, by decide +kernel⟩
abbrev LX (P : Program) (w : World) (K : PySem.W.Frag) (mg : Str → Option Value) (base : Heap) (f : Addr) (cdv : Value) (A : Around) (outer : List Env) (s : Shared) (H : Hp) (E : XK) : Cx := (cxOf CX0 P w K mg base NLw "law" (defScope sLaw) f cdv A outer s H E).nox
structure TxtLw (mg : Str → Option Value) : Prop where
  range : mg "range" = none
  len : mg "len" = none
  tuple : mg "tuple" = none
theorem LV.fD {e : Nat} {d : Dv} (h : LV e d) : deep d ≤ e := h.facts.2.1
theorem LV.fS {e : Nat} {d : Dv} (h : LV e d) : sendable d := h.facts.1
theorem LV.fL {e : Nat} {d : Dv} (h : LV e d) : (packB d).length ≤ bndV e := h.facts.2.2
theorem bnd5 : bndV 5 = 21840 := by decide
theorem bnd2 : bndV 2 = 336 := by decide
/-- bytes are bytes -/
theorem natB_byte {n : Nat} : ∀ b ∈ natB n, isByte b := by
  induction n using Nat.strongRecOn with
  | ind n ih =>
    by_cases h : n < 128
    · rw [natB_lo h]
      intro b hb
      rw [List.mem_singleton.mp hb]
      unfold isByte
      omega
    · rw [natB_hi h]
      intro b hb
      rcases List.mem_cons.mp hb with rfl | hb
      · unfold isByte
        omega
      · exact ih _ (by omega) b hb
theorem sign_byte {c : Nat} (h : goodS c) : isByte (Txt.find SIGNS ⟨#[c]⟩) := by
  obtain ⟨h1, h2⟩ := h
  obtain ⟨h3, _⟩ := Array.getElem?_eq_some_iff.mp h2
  have : SIGNS.cps.size = 95 := signs_len
  unfold isByte
  omega
mutual
theorem packB_byte : ∀ {d : Dv}, sendable d → ∀ b ∈ packB d, isByte b
  | .non, _ => by rw [packB]; intro b hb; rw [List.mem_singleton.mp hb]; unfold isByte; omega
  | .bl c, _ => by rw [packB]; intro b hb; rw [List.mem_singleton.mp hb]; unfold isByte; cases c <;> simp
  | .int i, _ => by
    rw [packB]
    intro b hb
    split at hb
    · rcases List.mem_cons.mp hb with rfl | hb
      · unfold isByte; omega
      · exact natB_byte b hb
    · rcases List.mem_cons.mp hb with rfl | hb
      · unfold isByte; omega
      · exact natB_byte b hb
  | .str z, h => by
    rw [packB]
    rw [sendable] at h
    intro b hb
    rcases List.mem_cons.mp hb with rfl | hb
    · unfold isByte; omega
    rcases List.mem_append.mp hb with hb | hb
    · exact natB_byte b hb
    · unfold signs at hb
      obtain ⟨c, hc, rfl⟩ := List.mem_map.mp hb
      exact sign_byte (h c hc)
  | .row ds, h => by
    rw [packB]
    rw [sendable] at h
    intro b hb
    rcases List.mem_cons.mp hb with rfl | hb
    · unfold isByte; omega
    rcases List.mem_append.mp hb with hb | hb
    · exact natB_byte b hb
    · exact packsB_byte h b hb
theorem packsB_byte : ∀ {ds : List Dv}, sendables ds → ∀ b ∈ packsB ds, isByte b
  | [], _ => by rw [packsB]; intro b hb; cases hb
  | d :: ds, h => by
    rw [packsB]
    rw [sendables] at h
    intro b hb
    rcases List.mem_append.mp hb with hb | hb
    · exact packB_byte h.1 b hb
    · exact packsB_byte h.2 b hb
end
end Sd


set_option linter.unusedVariables false
namespace Sd
open PySem L2 LamX
open C8 (Cal Met Mak pe_c pe_mk pe_mt pe_mt0 pss_cut tCut)
-- NPAT 23
-- TYPES NOCELL=one,SLA=yes,_law_same()=bool
set_option linter.unusedSimpArgs false
set_option pp.deepTerms false
set_option pp.deepTerms.threshold 12
set_option hygiene false
local macro_rules | `(tactic| fail "nd") => `(tactic| first | assumption | decide +kernel)
local macro_rules | `(tactic| fail "ix") => `(tactic| first | exact ⟨0, rfl⟩ | exact ⟨1, rfl⟩ | exact ⟨2, rfl⟩ | exact ⟨3, rfl⟩ | exact ⟨4, rfl⟩ | exact ⟨5, rfl⟩ | exact ⟨6, rfl⟩ | exact ⟨7, rfl⟩ | exact ⟨8, rfl⟩ | exact ⟨9, rfl⟩ | exact ⟨10, rfl⟩ | exact ⟨11, rfl⟩ | exact ⟨12, rfl⟩ | exact ⟨13, rfl⟩ | exact ⟨14, rfl⟩ | exact ⟨15, rfl⟩ | exact ⟨16, rfl⟩ | exact ⟨17, rfl⟩ | exact ⟨18, rfl⟩ | assumption)
local macro_rules | `(tactic| fail "up") => `(tactic| first | exact ⟨0, rfl, rfl⟩ | exact ⟨1, rfl, rfl⟩ | exact ⟨2, rfl, rfl⟩ | exact ⟨3, rfl, rfl⟩ | exact ⟨4, rfl, rfl⟩ | exact ⟨5, rfl, rfl⟩ | exact ⟨6, rfl, rfl⟩ | exact ⟨7, rfl, rfl⟩ | exact ⟨8, rfl, rfl⟩ | exact ⟨9, rfl, rfl⟩ | exact ⟨10, rfl, rfl⟩ | exact ⟨11, rfl, rfl⟩ | exact ⟨12, rfl, rfl⟩ | exact ⟨13, rfl, rfl⟩ | exact ⟨14, rfl, rfl⟩ | exact ⟨15, rfl, rfl⟩ | exact ⟨16, rfl, rfl⟩ | assumption)
local macro_rules | `(tactic| fail "lkF") => `(tactic| first | assumption | exact fz_at 0 (by fail "nd") rfl rfl | exact fz_at 1 (by fail "nd") rfl rfl | exact fz_at 2 (by fail "nd") rfl rfl | exact fz_at 3 (by fail "nd") rfl rfl | exact fz_at 4 (by fail "nd") rfl rfl | exact fz_at 5 (by fail "nd") rfl rfl | exact fz_at 6 (by fail "nd") rfl rfl | exact fz_at 7 (by fail "nd") rfl rfl)
local macro_rules | `(tactic| fail "lkD") => `(tactic| first | assumption | exact dz_at 0 (by fail "nd") rfl rfl | exact dz_at 1 (by fail "nd") rfl rfl | exact dz_at 2 (by fail "nd") rfl rfl | exact dz_at 3 (by fail "nd") rfl rfl | exact dz_at 4 (by fail "nd") rfl rfl)
local macro_rules | `(tactic| fail "ptF") => `(tactic| first | assumption | exact fz_put 0 (by fail "nd") rfl (Nat.le_of_ble_eq_true rfl) | exact fz_put 1 (by fail "nd") rfl (Nat.le_of_ble_eq_true rfl) | exact fz_put 2 (by fail "nd") rfl (Nat.le_of_ble_eq_true rfl) | exact fz_put 3 (by fail "nd") rfl (Nat.le_of_ble_eq_true rfl) | exact fz_put 4 (by fail "nd") rfl (Nat.le_of_ble_eq_true rfl) | exact fz_put 5 (by fail "nd") rfl (Nat.le_of_ble_eq_true rfl) | exact fz_put 6 (by fail "nd") rfl (Nat.le_of_ble_eq_true rfl) | exact fz_put 7 (by fail "nd") rfl (Nat.le_of_ble_eq_true rfl) | exact fz_new (by decide +kernel) rfl)
local macro_rules | `(tactic| fail "ptD") => `(tactic| first | assumption | exact dz_put 0 (by fail "nd") rfl (Nat.le_of_ble_eq_true rfl) | exact dz_put 1 (by fail "nd") rfl (Nat.le_of_ble_eq_true rfl) | exact dz_put 2 (by fail "nd") rfl (Nat.le_of_ble_eq_true rfl) | exact dz_put 3 (by fail "nd") rfl (Nat.le_of_ble_eq_true rfl) | exact dz_put 4 (by fail "nd") rfl (Nat.le_of_ble_eq_true rfl))
local macro_rules | `(tactic| fail "sz") => `(tactic| first | assumption | exact (Nat.le_of_ble_eq_true rfl) | omega | decide)
local macro_rules | `(tactic| fail "sd") => `(tactic| first | rfl | assumption | decide | omega | (dsimp only; first | decide | omega) | exact .inr ⟨by decide, by decide⟩ | exact .inl ⟨by decide, by decide⟩ | exact ⟨by omega, by omega⟩ | exact .inl ⟨by omega, by omega⟩ | exact .inr ⟨by omega, by omega⟩ | exact ⟨by omega, by omega, by omega⟩)
local macro_rules | `(tactic| fail "cl") => `(tactic| (clear hH; dsimp only [List.set, List.cons_append, List.nil_append, List.append] at hL))
local macro_rules | `(tactic| fail "gn") => `(tactic| (intro p hp; generalize hH : upd H p _ = H; replace hL := Led.newH hL hp hH; clear hH hp))
local macro_rules | `(tactic| fail "gup") => `(tactic| (generalize hH : upd H _ _ = H; replace hL := Led.upU hL (by fail "up") hH; fail "cl"))
local macro_rules | `(tactic| fail "gmk") => `(tactic| (intro x dx hx hd ne; generalize hH : upd (upd H dx _) x _ = H; replace hL := Led.made hL hx hd ne hH; clear hH hx hd ne))
local macro_rules | `(tactic| fail "v") => `(tactic| refine ⟨_, rfl, ?_⟩)
local macro_rules | `(tactic| fail "i2") => `(tactic| refine ⟨_, _, rfl, rfl, ?_⟩)
local macro_rules | `(tactic| fail "go1") => `(tactic| first
  | refine ⟨_, rfl, ?_⟩
  | refine ⟨_, _, rfl, rfl, ?_⟩
  | refine ⟨_, _, rfl, ?_⟩
  | refine iteT ?_
  | refine iteF ?_
  | refine k_fld hL (by fail "ix") (by assumption) (by assumption) (by fail "lkF") ?_
  | refine k_dgetS hL (by fail "ix") (by fail "lkD") ?_
  | refine k_dgetI hL (by fail "ix") (by assumption) ?_
  | refine k_ixL hL (by fail "ix") (by first | rfl | assumption) ?_
  | refine k_ixT hL (by fail "ix") (by first | rfl | assumption) ?_
  | refine k_tyL hL (by fail "ix") ?_
  | refine k_isd hL (by fail "ix") ?_
  | (refine And.intro (by fail "sz") ?_; fail "gn")
  | refine And.intro (by fail "sd") ?_
  | fail "gn"
  | refine k_meth hL (by fail "ix") (by first | assumption | exact fz_no (by decide +kernel)) ?_
  | refine k_gtup hL (by fail "ix") rfl ?_
  | (refine k_popI hL (by fail "ix") (by assumption) ?_; fail "gup")
  | (refine k_listD hL (by fail "ix") ?_; fail "gn")
  | (refine ⟨_, _, _, _, rfl, rfl, hL.at (by fail "ix"), rfl, ?_⟩; fail "gup")
  | (refine ⟨_, _, _, rfl, rfl, hL.at (by fail "ix"), (by fail "sz"), ?_⟩; fail "gup")
  | (refine ⟨_, _, _, _, rfl, hL.at (by fail "ix"), by assumption, by assumption, Nat.lt_of_le_of_lt fz_len (by decide), ?_⟩; generalize hH : upd H _ _ = H; replace hL := Led.upF hL (by fail "up") (by fail "ptF") hH; fail "cl")
  | (refine ⟨_, _, hL.at (by fail "ix"), Nat.lt_of_le_of_lt fz_len (by decide), ?_⟩; generalize hH : upd H _ _ = H; replace hL := Led.upF hL (by fail "up") (by fail "ptF") hH; fail "cl")
  | (refine k_dputS hL (by fail "ix") (Nat.lt_of_le_of_lt dz_len (by decide)) (by fail "ptD") (by fail "up") ?_; clear hL; intro H hL; dsimp only [List.set, List.cons_append, List.nil_append, List.append] at hL)
  | refine k_lenL2 hL (by fail "ix") ?_
  | refine k_lenT2 hL (by fail "ix") ?_
  | refine .inl ⟨_, rfl, ?_⟩
  | refine .inr ⟨_, rfl, ?_⟩)
local macro_rules | `(tactic| fail "go") => `(tactic| repeat fail "go1")
local macro_rules | `(tactic| fail "pm") => `(tactic| (refine Led.le hL (fun a_ => ?_); simp only [cnt_nil, cnt_cons, cnt_app, List.map_append, List.map_cons, List.map_nil, List.flatMap_append, List.flatMap_cons, List.flatMap_nil, List.append_assoc, List.cons_append, List.nil_append]; omega))

theorem mem_nd {r d : Addr} {xs : List V} {a b c : Int} {M L : Lg} (h : (r, HO.tup xs) ∈ M ++ (d, dD a b c) :: L) : (r, HO.tup xs) ∈ M ++ L := by
  rcases List.mem_append.mp h with h | h
  · exact List.mem_append_left _ h
  · rcases List.mem_cons.mp h with h | h
    · have := congrArg Prod.snd h
      simp [dD] at this
    · exact List.mem_append_right _ h
theorem cut_lo {bs : List Int} {p : Nat} : cutV (bs.map V.int) none (some (p : Int)) = (bs.take p).map V.int := by
  unfold cutV
  rw [HT.sIx_none, HT.sIx_nat, List.drop_zero, List.length_map, Nat.sub_zero, ← List.map_take]
  congr 1
  rcases Nat.le_total p bs.length with h | h
  · rw [Nat.min_eq_left h]
  · rw [Nat.min_eq_right h, List.take_length, List.take_of_length_le h]
theorem cut_hi {bs : List Int} {p : Nat} : cutV (bs.map V.int) (some (p : Int)) none = (bs.drop p).map V.int := by
  unfold cutV
  rw [HT.sIx_none, HT.sIx_nat, List.length_map, ← List.map_drop, ← List.map_take]
  congr 1
  rcases Nat.le_total p bs.length with h | h
  · rw [Nat.min_eq_left h, List.take_of_length_le (by rw [List.length_drop]; omega)]
  · rw [Nat.min_eq_right h, Nat.sub_self, List.take_zero, List.drop_of_length_le h]
def tK0 : TS := fun D σ H => ∃ (d : Addr) (a b c : Int) (L : Lg), σ[1]? = some (some (.ref d)) ∧ σ.length = 23 ∧ Led H ((d, dD a b c) :: L) ∧
  ∀ (v : V) (dv : Dv) (Z : Lg) (a b c : Int) H', LV 5 dv → DL Z v dv → Led H' ((d, dD a b c) :: (Z ++ L)) → D.nx (σ.set 2 (some v)) H'
def tK1 (PN : Addr) : TS := fun D σ H => ∃ (v : V) (dv : Dv) (pn : Array Value) (L : Lg), σ[2]? = some (some v) ∧ σ.length = 23 ∧ LV 5 dv ∧ DL L v dv ∧ TriplesOk pn.toList ∧ Led H ((PN, .tbl pn) :: L) ∧
  ∀ (r : Addr) (pn : Array Value) H', TriplesOk pn.toList → Led H' ((r, tI (packB dv)) :: (PN, .tbl pn) :: L) → D.nx (σ.set 3 (some (.ref r))) H'
def tK2 (PU : Addr) : TS := fun D σ H => ∃ (v : V) (dv : Dv) (r : Addr) (pu : Array Value) (L : Lg), σ[2]? = some (some v) ∧ σ[3]? = some (some (.ref r)) ∧ σ.length = 23 ∧ LV 5 dv ∧ DL L v dv ∧ (r, tI (packB dv)) ∈ L ∧ TriplesOk pu.toList ∧ Led H ((PU, .tbl pu) :: L) ∧
  ∀ (pu : Array Value) H', TriplesOk pu.toList → Led H' ((PU, .tbl pu) :: L) → D.nx σ H'
def tK3 : TS := fun D σ H => ∃ (d r : Addr) (bs : List Int) (a b c : Int) (L : Lg), σ[1]? = some (some (.ref d)) ∧ σ[3]? = some (some (.ref r)) ∧ σ.length = 23 ∧ (r, tI bs) ∈ L ∧ bs.length < 1000000 ∧ Led H ((d, dD a b c) :: L) ∧
  ∀ (p : Nat) (a b c : Int) H', p ≤ bs.length → Led H' ((d, dD a b c) :: L) → D.nx (σ.set 4 (some (.int p))) H'
def tK4 : TS := fun D σ H => ∃ (d r : Addr) (bs : List Int) (p : Nat) (a b c : Int) (L : Lg), σ[1]? = some (some (.ref d)) ∧ σ[3]? = some (some (.ref r)) ∧ σ[4]? = some (some (.int p)) ∧ σ.length = 23 ∧ (r, tI bs) ∈ L ∧ bs.length < 1000000 ∧ (∀ b ∈ bs, isByte b) ∧ p ≤ bs.length ∧ Led H ((d, dD a b c) :: L) ∧
  ∀ (q : Addr) (cs : List Int) (M : Lg) (a b c : Int) H', (∀ b ∈ cs, isByte b) → cs.length < 2000000 → (q, tI cs) ∈ M ++ L → Led H' ((d, dD a b c) :: (M ++ L)) → D.nx (σ.set 5 (some (.ref q))) H'
section
variable {P : Program} {w : World} {K : PySem.W.Frag} {mg : Str → Option Value} {base : Heap} {CU PN PU : Addr} {f cL : Addr} {A : Around} {outer : List Env} {s0 : Shared} {H0 : Hp} {E : XK}
theorem st_k0 (hr : Room 175 (LX P w K mg base f (.ref cL) A outer s0 H0 E).A) (c__law_roll : Cal P w K mg base 3 "_law_roll" (spRollN B20) []) (c__law_value : Cal P w K mg base 10 "_law_value" (spLVal 6) []) : PS (LX P w K mg base f (.ref cL) A outer s0 H0 E) (nth diceB 0) tK0 := by
  refine ps_imp (t := _) (ps_set (i := 2) scLaw.nd rfl (Or.inl rfl) (pe_c c__law_value hr (by decide) (by rfl) (pa_cons (pv 1) (pa_cons (pe_c c__law_roll hr (by decide) (by rfl) (pa_cons (pv 1) (pa_cons pe_int pa_nil))) pa_nil)))) ?_
  rintro D σ H ⟨d, a, b, c, L, hs1, hsl, hL, kk⟩
  match σ, hs1, hsl with
  | [v0, v1, v2, v3, v4, v5, v6, v7, v8, v9, v10, v11, v12, v13, v14, v15, v16, v17, v18, v19, v20, v21, v22], hs1, _ =>
  cases hs1
  fail "go"
  refine ⟨d, a, b, c, 6, _, rfl, hL, by decide, by decide, fun r a b c H hr0 hr1 hL2 => ?_⟩
  clear hL
  obtain ⟨e, rfl⟩ : ∃ e : Nat, r = e := ⟨r.toNat, by omega⟩
  refine ⟨d, a, b, c, e, L, rfl, hL2, by omega, fun v dv Z a b c H hv hd hL => ?_⟩
  clear hL2
  fail "go"
  have hv5 : LV 5 dv := hv.up (by omega)
  exact kk v dv Z a b c _ hv5 hd hL
theorem st_k1 (hr : Room 175 (LX P w K mg base f (.ref cL) A outer s0 H0 E).A) (c_pack : Cal P w K mg base 12 "pack" (spPack PN 7) [.int 0]) : PS (LX P w K mg base f (.ref cL) A outer s0 H0 E) (nth diceB 1) (tK1 PN) := by
  refine ps_imp (t := _) (ps_set (i := 3) scLaw.nd rfl (Or.inl rfl) (pe_c c_pack hr (by decide) (by rfl) (pa_cons (pv 2) pa_nil))) ?_
  rintro D σ H ⟨v, dv, pn, L, hs2, hsl, hv, hd, ht, hL, kk⟩
  match σ, hs2, hsl with
  | [v0, v1, v2, v3, v4, v5, v6, v7, v8, v9, v10, v11, v12, v13, v14, v15, v16, v17, v18, v19, v20, v21, v22], hs2, _ =>
  cases hs2
  fail "go"
  have h1 := hv.fD
  have h2 := hv.fL
  rw [bnd5] at h2
  refine ⟨v, 0, dv, pn, L, rfl, hL, ht, hd, by omega, by omega, by omega, hv.fS, Nat.le_trans h2 (by decide), fun pn r H ht hL => ?_⟩
  fail "go"
  exact kk r pn _ ht hL
theorem st_k2 (hr : Room 175 (LX P w K mg base f (.ref cL) A outer s0 H0 E).A) (c_unpack : Cal P w K mg base (5 + 5 * 7) "unpack" (spUnpack CU PU 7) []) (c__law_same : Cal P w K mg base 7 "_law_same" (spLSame 6) []) : PS (LX P w K mg base f (.ref cL) A outer s0 H0 E) (nth diceB 2) (tK2 PU) := by
  refine ps_imp (t := _) (ps_if (pt_not (pt_val (pe_c c__law_same hr (by decide) (by rfl) (pa_cons (pe_c c_unpack hr (by decide) (by rfl) (pa_cons (pv 3) pa_nil)) (pa_cons (pv 2) pa_nil)))))
  (pss_one (ps_ret pe_bl))
  pss_nil) ?_
  rintro D σ H ⟨v, dv, r, pu, L, hs2, hs3, hsl, hv, hd, hm, ht, hL, kk⟩
  match σ, hs2, hs3, hsl with
  | [v0, v1, v2, v3, v4, v5, v6, v7, v8, v9, v10, v11, v12, v13, v14, v15, v16, v17, v18, v19, v20, v21, v22], hs2, hs3, _ =>
  cases hs2
  cases hs3
  fail "go"
  have h1 := hv.fD
  have h2 := hv.fL
  rw [bnd5] at h2
  refine ⟨r, dv, pu, L, rfl, hL, ht, hm, by omega, by omega, hv.fS, Nat.le_trans h2 (by decide), fun u Z pu H ht hu hL => ?_⟩
  fail "go"
  refine ⟨u, v, 5, dv, _, rfl, hL, hu.dl.mono (fun x h => .tail _ (List.mem_append_left _ h)), hd.mono (fun x h => .tail _ (List.mem_append_right _ h)), hv, by decide, fun H hL => ?_⟩
  refine ⟨true, rfl, ?_⟩
  refine iteF ?_
  exact kk pu H ht (hL.le (fun a_ => by
    simp only [cnt_cons, cnt_app]
    omega))
theorem st_k3 (hr : Room 175 (LX P w K mg base f (.ref cL) A outer s0 H0 E).A) (T : TxtLw mg) (c__law_roll : Cal P w K mg base 3 "_law_roll" (spRollN B20) []) : PS (LX P w K mg base f (.ref cL) A outer s0 H0 E) (nth diceB 3) tK3 := by
  refine ps_imp (t := _) (ps_set (i := 4) scLaw.nd rfl (Or.inl rfl) (pe_c c__law_roll hr (by decide) (by rfl) (pa_cons (pv 1) (pa_cons (pe_op op_add (pe_callB call_len_seq (by rfl) T.len (by decide +kernel) (pa_cons (pv 3) pa_nil)) pe_int) pa_nil)))) ?_
  rintro D σ H ⟨d, r, bs, a, b, c, L, hs1, hs3, hsl, hm, hz, hL, kk⟩
  match σ, hs1, hs3, hsl with
  | [v0, v1, v2, v3, v4, v5, v6, v7, v8, v9, v10, v11, v12, v13, v14, v15, v16, v17, v18, v19, v20, v21, v22], hs1, hs3, _ =>
  cases hs1
  cases hs3
  fail "go"
  refine ⟨r, _, rfl, .inr (.of (hL.mem (.tail _ hm))), ?_⟩
  fail "go"
  have hb : B20 = 100000000000000000000 := by decide +kernel
  refine ⟨d, a, b, c, _, L, rfl, hL, by omega, by rw [List.length_map, hb]; omega, fun p a b c H h0 h1 hL => ?_⟩
  rw [List.length_map] at h1
  obtain ⟨n, rfl⟩ : ∃ n : Nat, p = n := ⟨p.toNat, by omega⟩
  fail "go"
  exact kk n a b c _ (by omega) hL
theorem st_k4 (hr : Room 175 (LX P w K mg base f (.ref cL) A outer s0 H0 E).A) (c__law_roll : Cal P w K mg base 3 "_law_roll" (spRollN B20) []) : PS (LX P w K mg base f (.ref cL) A outer s0 H0 E) (nth diceB 4) tK4 := by
  refine ps_imp (t := _) (ps_set (i := 5) scLaw.nd rfl (Or.inr rfl) (pe_op (op_catA) (pe_op (op_catA) (pe_slice sl_tupA (pv 3) po_none (po_some (pv 4))) (pe_op op_repS (pe_tup (pa_cons (pe_c c__law_roll hr (by decide) (by rfl) (pa_cons (pv 1) (pa_cons pe_int pa_nil))) pa_nil)) (pe_c c__law_roll hr (by decide) (by rfl) (pa_cons (pv 1) (pa_cons pe_int pa_nil))))) (pe_slice sl_tupA (pv 3) (po_some (pe_op op_add (pv 4) (pe_c c__law_roll hr (by decide) (by rfl) (pa_cons (pv 1) (pa_cons pe_int pa_nil))))) po_none))) ?_
  rintro D σ H ⟨d, r, bs, pl, a, b, c, L, hs1, hs3, hs4, hsl, hm, hz, hby, hp, hL, kk⟩
  match σ, hs1, hs3, hs4, hsl with
  | [v0, v1, v2, v3, v4, v5, v6, v7, v8, v9, v10, v11, v12, v13, v14, v15, v16, v17, v18, v19, v20, v21, v22], hs1, hs3, hs4, _ =>
  cases hs1
  cases hs3
  cases hs4
  fail "go"
  have hb : B20 = 100000000000000000000 := by decide +kernel
  refine k_sliG hL (.tail _ hm) fun r1 M1 H hL hr1 => ?_
  replace hL := hL.perm (List.perm_middle)
  fail "go"
  refine ⟨d, a, b, c, 256, _, rfl, hL, by decide, by decide, fun x a b c H hx0 hx1 hL => ?_⟩
  fail "go"
  refine ⟨d, a, b, c, 2, _, rfl, hL.perm (.swap _ _ _), by decide, by decide, fun y a b c H hy0 hy1 hL => ?_⟩
  fail "go"
  refine k_repG hL (.tail _ (.head _)) (by simp) (by omega) fun r2 M2 H hL hr2 => ?_
  have hr1' := mem_nd hr1
  have hr2' := mem_nd hr2
  have hc1 := cutV_length (bs.map V.int) none (some (pl : Int))
  rw [List.length_map] at hc1
  refine k_catG hL (List.mem_append_right _ (.tail _ (.tail _ hr1'))) hr2 (Nat.le_trans (Nat.add_le_add hc1 (show _ ≤ 1 by split <;> simp)) (show bs.length + 1 ≤ sizeLine by unfold sizeLine; omega)) fun r3 M3 H hL hr3 => ?_
  rw [← List.append_assoc] at hr3 hL
  have hr3' := mem_nd hr3
  replace hL := hL.perm (List.perm_middle)
  fail "go"
  refine ⟨d, a, b, c, 2, _, rfl, hL, by decide, by decide, fun z a b c H hz0 hz1 hL => ?_⟩
  fail "go"
  show tNoPart _ _ _
  unfold tNoPart
  refine k_sliG hL (.tail _ (List.mem_append_right _ (.tail _ (List.mem_append_right _ hm)))) fun r4 M4 H hL hr4 => ?_
  have hr4' := mem_nd hr4
  obtain ⟨zn, rfl⟩ : ∃ zn : Nat, z = zn := ⟨z.toNat, by omega⟩
  have e4 : ((pl : Int) + (zn : Int)) = ((pl + zn : Nat) : Int) := by push_cast; rfl
  rw [e4, cut_hi] at hr4'
  rw [cut_lo] at hr3'
  have e3 : ∃ cs : List Int, (bs.take pl).map V.int ++ (if y = 1 then [V.int x] else []) = cs.map V.int ∧ (∀ b ∈ cs, isByte b) ∧ cs.length ≤ bs.length + 1 := by
    split
    · refine ⟨bs.take pl ++ [x], by rw [List.map_append]; rfl, fun b h => ?_, ?_⟩
      · rcases List.mem_append.mp h with h | h
        · exact hby b (List.mem_of_mem_take h)
        · rw [List.mem_singleton.mp h]; exact ⟨hx0, by omega⟩
      · rw [List.length_append, List.length_take, List.length_singleton]; omega
    · refine ⟨bs.take pl, by rw [List.append_nil], fun b h => hby b (List.mem_of_mem_take h), ?_⟩
      rw [List.length_take]; omega
  obtain ⟨cs, e3, hcs, hcl⟩ := e3
  rw [e3] at hr3'
  refine k_catG hL (List.mem_append_right _ (.tail _ hr3')) hr4 ?_ fun r5 M5 H hL hr5 => ?_
  · rw [e4, cut_hi, List.length_map, List.length_map, List.length_drop]
    unfold sizeLine
    omega
  rw [e4, cut_hi, ← List.map_append, ← List.append_assoc] at hr5
  rw [← List.append_assoc] at hL
  have hr5' := mem_nd hr5
  replace hL := hL.perm (List.perm_middle)
  fail "go"
  refine kk r5 (cs ++ bs.drop (pl + zn)) (M5 ++ M4 ++ ((M3 ++ M2) ++ ((p, .tup [V.int x]) :: M1))) a b c _ ?_ ?_ ?_ ?_
  · intro b hb
    rcases List.mem_append.mp hb with hb | hb
    · exact hcs b hb
    · exact hby b (List.mem_of_mem_drop hb)
  · rw [List.length_append, List.length_drop]; omega
  · simpa only [List.append_assoc, List.cons_append] using hr5'
  · simpa only [List.append_assoc, List.cons_append] using hL
end
end Sd


set_option linter.unusedVariables false
namespace Sd
open PySem L2 LamX NdefX PyProof.Rows Mx
open C8 (Cal Met Mak pe_c pe_mk pe_mt pe_mt0 pss_cut tCut)
set_option linter.unusedSimpArgs false
set_option pp.deepTerms false
set_option pp.deepTerms.threshold 12
set_option hygiene false
local macro_rules | `(tactic| fail "nd") => `(tactic| first | assumption | decide +kernel)
local macro_rules | `(tactic| fail "ix") => `(tactic| first | exact ⟨0, rfl⟩ | exact ⟨1, rfl⟩ | exact ⟨2, rfl⟩ | exact ⟨3, rfl⟩ | exact ⟨4, rfl⟩ | exact ⟨5, rfl⟩ | exact ⟨6, rfl⟩ | exact ⟨7, rfl⟩ | exact ⟨8, rfl⟩ | exact ⟨9, rfl⟩ | exact ⟨10, rfl⟩ | exact ⟨11, rfl⟩ | exact ⟨12, rfl⟩ | exact ⟨13, rfl⟩ | exact ⟨14, rfl⟩ | exact ⟨15, rfl⟩ | exact ⟨16, rfl⟩ | exact ⟨17, rfl⟩ | exact ⟨18, rfl⟩ | assumption)
local macro_rules | `(tactic| fail "up") => `(tactic| first | exact ⟨0, rfl, rfl⟩ | exact ⟨1, rfl, rfl⟩ | exact ⟨2, rfl, rfl⟩ | exact ⟨3, rfl, rfl⟩ | exact ⟨4, rfl, rfl⟩ | exact ⟨5, rfl, rfl⟩ | exact ⟨6, rfl, rfl⟩ | exact ⟨7, rfl, rfl⟩ | exact ⟨8, rfl, rfl⟩ | exact ⟨9, rfl, rfl⟩ | exact ⟨10, rfl, rfl⟩ | exact ⟨11, rfl, rfl⟩ | exact ⟨12, rfl, rfl⟩ | exact ⟨13, rfl, rfl⟩ | exact ⟨14, rfl, rfl⟩ | exact ⟨15, rfl, rfl⟩ | exact ⟨16, rfl, rfl⟩ | assumption)
local macro_rules | `(tactic| fail "lkF") => `(tactic| first | assumption | exact fz_at 0 (by fail "nd") rfl rfl | exact fz_at 1 (by fail "nd") rfl rfl | exact fz_at 2 (by fail "nd") rfl rfl | exact fz_at 3 (by fail "nd") rfl rfl | exact fz_at 4 (by fail "nd") rfl rfl | exact fz_at 5 (by fail "nd") rfl rfl | exact fz_at 6 (by fail "nd") rfl rfl | exact fz_at 7 (by fail "nd") rfl rfl)
local macro_rules | `(tactic| fail "lkD") => `(tactic| first | assumption | exact dz_at 0 (by fail "nd") rfl rfl | exact dz_at 1 (by fail "nd") rfl rfl | exact dz_at 2 (by fail "nd") rfl rfl | exact dz_at 3 (by fail "nd") rfl rfl | exact dz_at 4 (by fail "nd") rfl rfl)
local macro_rules | `(tactic| fail "ptF") => `(tactic| first | assumption | exact fz_put 0 (by fail "nd") rfl (Nat.le_of_ble_eq_true rfl) | exact fz_put 1 (by fail "nd") rfl (Nat.le_of_ble_eq_true rfl) | exact fz_put 2 (by fail "nd") rfl (Nat.le_of_ble_eq_true rfl) | exact fz_put 3 (by fail "nd") rfl (Nat.le_of_ble_eq_true rfl) | exact fz_put 4 (by fail "nd") rfl (Nat.le_of_ble_eq_true rfl) | exact fz_put 5 (by fail "nd") rfl (Nat.le_of_ble_eq_true rfl) | exact fz_put 6 (by fail "nd") rfl (Nat.le_of_ble_eq_true rfl) | exact fz_put 7 (by fail "nd") rfl (Nat.le_of_ble_eq_true rfl) | exact fz_new (by decide +kernel) rfl)
local macro_rules | `(tactic| fail "ptD") => `(tactic| first | assumption | exact dz_put 0 (by fail "nd") rfl (Nat.le_of_ble_eq_true rfl) | exact dz_put 1 (by fail "nd") rfl (Nat.le_of_ble_eq_true rfl) | exact dz_put 2 (by fail "nd") rfl (Nat.le_of_ble_eq_true rfl) | exact dz_put 3 (by fail "nd") rfl (Nat.le_of_ble_eq_true rfl) | exact dz_put 4 (by fail "nd") rfl (Nat.le_of_ble_eq_true rfl))
local macro_rules | `(tactic| fail "sz") => `(tactic| first | assumption | exact (Nat.le_of_ble_eq_true rfl) | omega | decide)
local macro_rules | `(tactic| fail "sd") => `(tactic| first | rfl | assumption | decide | omega | (dsimp only; first | decide | omega) | exact .inr ⟨by decide, by decide⟩ | exact .inl ⟨by decide, by decide⟩ | exact ⟨by omega, by omega⟩ | exact .inl ⟨by omega, by omega⟩ | exact .inr ⟨by omega, by omega⟩ | exact ⟨by omega, by omega, by omega⟩)
local macro_rules | `(tactic| fail "cl") => `(tactic| (clear hH; dsimp only [List.set, List.cons_append, List.nil_append, List.append] at hL))
local macro_rules | `(tactic| fail "gn") => `(tactic| (intro p hp; generalize hH : upd H p _ = H; replace hL := Led.newH hL hp hH; clear hH hp))
local macro_rules | `(tactic| fail "gup") => `(tactic| (generalize hH : upd H _ _ = H; replace hL := Led.upU hL (by fail "up") hH; fail "cl"))
local macro_rules | `(tactic| fail "gmk") => `(tactic| (intro x dx hx hd ne; generalize hH : upd (upd H dx _) x _ = H; replace hL := Led.made hL hx hd ne hH; clear hH hx hd ne))
local macro_rules | `(tactic| fail "v") => `(tactic| refine ⟨_, rfl, ?_⟩)
local macro_rules | `(tactic| fail "i2") => `(tactic| refine ⟨_, _, rfl, rfl, ?_⟩)
local macro_rules | `(tactic| fail "go1") => `(tactic| first
  | refine ⟨_, rfl, ?_⟩
  | refine ⟨_, _, rfl, rfl, ?_⟩
  | refine ⟨_, _, rfl, ?_⟩
  | refine iteT ?_
  | refine iteF ?_
  | refine k_fld hL (by fail "ix") (by assumption) (by assumption) (by fail "lkF") ?_
  | refine k_dgetS hL (by fail "ix") (by fail "lkD") ?_
  | refine k_dgetI hL (by fail "ix") (by assumption) ?_
  | refine k_ixL hL (by fail "ix") (by first | rfl | assumption) ?_
  | refine k_ixT hL (by fail "ix") (by first | rfl | assumption) ?_
  | refine k_tyL hL (by fail "ix") ?_
  | refine k_isd hL (by fail "ix") ?_
  | (refine And.intro (by fail "sz") ?_; fail "gn")
  | refine And.intro (by fail "sd") ?_
  | fail "gn"
  | refine k_meth hL (by fail "ix") (by first | assumption | exact fz_no (by decide +kernel)) ?_
  | refine k_gtup hL (by fail "ix") rfl ?_
  | (refine k_popI hL (by fail "ix") (by assumption) ?_; fail "gup")
  | (refine k_listD hL (by fail "ix") ?_; fail "gn")
  | (refine ⟨_, _, _, _, rfl, rfl, hL.at (by fail "ix"), rfl, ?_⟩; fail "gup")
  | (refine ⟨_, _, _, rfl, rfl, hL.at (by fail "ix"), (by fail "sz"), ?_⟩; fail "gup")
  | (refine ⟨_, _, _, _, rfl, hL.at (by fail "ix"), by assumption, by assumption, Nat.lt_of_le_of_lt fz_len (by decide), ?_⟩; generalize hH : upd H _ _ = H; replace hL := Led.upF hL (by fail "up") (by fail "ptF") hH; fail "cl")
  | (refine ⟨_, _, hL.at (by fail "ix"), Nat.lt_of_le_of_lt fz_len (by decide), ?_⟩; generalize hH : upd H _ _ = H; replace hL := Led.upF hL (by fail "up") (by fail "ptF") hH; fail "cl")
  | (refine k_dputS hL (by fail "ix") (Nat.lt_of_le_of_lt dz_len (by decide)) (by fail "ptD") (by fail "up") ?_; clear hL; intro H hL; dsimp only [List.set, List.cons_append, List.nil_append, List.append] at hL)
  | refine k_lenL2 hL (by fail "ix") ?_
  | refine k_lenT2 hL (by fail "ix") ?_
  | refine .inl ⟨_, rfl, ?_⟩
  | refine .inr ⟨_, rfl, ?_⟩)
local macro_rules | `(tactic| fail "go") => `(tactic| repeat fail "go1")
local macro_rules | `(tactic| fail "pm") => `(tactic| (refine Led.le hL (fun a_ => ?_); simp only [cnt_nil, cnt_cons, cnt_app, List.map_append, List.map_cons, List.map_nil, List.flatMap_append, List.flatMap_cons, List.flatMap_nil, List.append_assoc, List.cons_append, List.nil_append]; omega))

/-! ### k01: what is told -/
def noE : Expr := .Name "" ⟨0, 0, 0, 0⟩
def lamBody (e : Expr) : Expr := match e with
  | .Lambda _ b _ _ => b
  | _ => e
def lamArgs (e : Expr) : Arguments := match e with
  | .Lambda a _ _ _ => a
  | _ => { posonlyargs := [], args := [], vararg := none, kwonlyargs := [], kw_defaults := [], kwarg := none, defaults := [] }
def lamScope (e : Expr) : Scope := match e with
  | .Lambda _ _ s _ => s
  | _ => { kind := .function, names := [], isGenerator := false, isCoroutine := false }
def valE (st : Stmt) : Expr := match st with
  | .Assign _ e _ => e
  | .If e _ _ _ => e
  | .Return (some e) _ => e
  | _ => noE
def argE (e : Expr) (i : Nat) : Expr := match e with
  | .Call _ l _ _ => l.getD i noE
  | .BoolOp _ l _ => l.getD i noE
  | .Compare l _ _ _ => l
  | .List l _ => l.getD i noE
  | .ListComp _ (⟨_, _, t :: _, _⟩ :: _) _ _ => t
  | _ => noE
def lcScope (e : Expr) : Scope := match e with
  | .ListComp _ _ s _ => s
  | _ => { kind := .function, names := [], isGenerator := false, isCoroutine := false }
abbrev lamU : Expr := argE (valE (nth diceB 5)) 0
abbrev lamP : Expr := argE (argE (argE (valE (nth diceB 21)) 0) 0) 0
abbrev ifW : Expr := valE (nth (defBody sLaw) 2)
abbrev lcW : Expr := argE (argE ifW 0) 0
abbrev lam1 : Expr := argE (argE (argE lcW 0) 0) 0
abbrev lamL : Expr := argE (argE (argE ifW 1) 0) 0
abbrev lamS : Expr := argE (argE (argE (valE (nth (defBody sLaw) 3)) 0) 0) 0
theorem nscU : NScope ["bent"] [] ["bent"] (lamScope lamU) := nscope_by (by decide +kernel)
theorem nscP : NScope ["deep"] [] ["deep"] (lamScope lamP) := nscope_by (by decide +kernel)
theorem nsc1 : NScope ["one"] [] ["one"] (lamScope lam1) := nscope_by (by decide +kernel)
theorem nscL : NScope [] [] [] (lamScope lamL) := nscope_by (by decide +kernel)
theorem nscS : NScope [] [] [] (lamScope lamS) := nscope_by (by decide +kernel)
theorem hfU : ∀ y ∈ (lamScope lamU).names, y.2 = .free → (defScope sLaw).names.lookup y.1 = some .cell := by decide +kernel
theorem hfP : ∀ y ∈ (lamScope lamP).names, y.2 = .free → (defScope sLaw).names.lookup y.1 = some .cell := by decide +kernel
theorem hf1 : ∀ y ∈ (lamScope lam1).names, y.2 = .free → (lcScope lcW).names.lookup y.1 = some .cell := by decide +kernel
theorem hfL : ∀ y ∈ (lamScope lamL).names, y.2 = .free → (defScope sLaw).names.lookup y.1 = some .cell := by decide +kernel
theorem hfS : ∀ y ∈ (lamScope lamS).names, y.2 = .free → (defScope sLaw).names.lookup y.1 = some .cell := by decide +kernel
theorem hgU : ∀ y ∈ (["bent"] : List Str), (y, NameKind.free) ∈ (lamScope lamU).names := by decide +kernel
theorem hgP : ∀ y ∈ (["deep"] : List Str), (y, NameKind.free) ∈ (lamScope lamP).names := by decide +kernel
theorem hg1 : ∀ y ∈ (["one"] : List Str), (y, NameKind.free) ∈ (lamScope lam1).names := by decide +kernel
abbrev ToF : Type := List Str × NF × List (Option V)
theorem cells0 {outer : List Env} {h : Heap} {H : Hp} : CellsO [] [] [] outer h H := by
  refine ⟨⟨rfl, fun y c e => ?_, fun x y c e => ?_, fun i y e => ?_⟩, fun y c e => ?_⟩
  · cases e
  · cases e
  · rw [List.getElem?_nil] at e; cases e
  · cases e
theorem hG0 {i : ToF} {o : List Env} {h : Heap} {H : Hp} (hR : i.1 = [] ∧ i.2.1.cl = [] ∧ i.2.2 = []) : gTold i.2.1 i.1 i.2.2 o h H := by
  obtain ⟨e1, e2, e3⟩ := hR
  show CellsO i.2.1.cl i.1 i.2.2 _ _ _
  rw [e1, e2, e3]
  exact cells0
theorem pe_cSB {X : Cx} {s : Shared} {H : Hp} {scope : Scope} {cenv : Env} {fp : List Addr} {k j : Nat} {x : Str} {p pos : Pos} {e : Expr} {es : List Expr} {t : L2.TA} {ι : Type} {G : ι → GT} {sp : ι → Sp} {R : ι → L2.St → Prop} (c : ∀ i, CalS X.prog X.w X.K X.mg X.base k x (G i) (sp i)) (hr : Room j X.A) (hk : k ≤ j)
    (hG : ∀ i pins σ H' s', L2.Inv (X.blk s H scope cenv fp) pins σ H' s' → R i σ → G i (X.blk s H scope cenv fp).stack s'.heap H') (hg : Gl (X.blk s H scope cenv fp) x) {f : Addr} (hm : X.mg x = some (.ref f)) (kp : PySem.W.keepIn X.K (.ref f) = true) (ha : PA (X.blk s H scope cenv fp) (e :: es) t)
    (hdb : (x == ("__debug__" : Str)) = false := by decide) (he : starEach (e :: es) cenv = (false, eval e cenv) :: starEach es cenv := by rfl) (hpl : (backTo pos (starEach es cenv)).any (·.1) = false := by rfl) :
    PE (X.blk s H scope cenv fp) (.Call (.Name x p) (e :: es) [] pos) (tCallS sp R (fun _ _ _ => False) t) := pe_cS (X := X.blk s H scope cenv fp) c hr hk hG hg hm kp L2.takes0 ha hdb he hpl
theorem ok_told1 {P : Program} {w : World} {K : PySem.W.Frag} {mg : Str → Option Value} {base : Heap} {x a e1 r1 : Str} {st : Stmt} {f : Addr} {fd : FuncData} {N : List Str} {C1 : Addr} {k : Nat} {p1 p2 p3 p4 p5 p6 p7 p8 : Pos} {j1 : Nat} {F : NF} {fr : List Str} {ws : List (Option V)} (Fn : Fun K x x st f fd) (S : FnScope N [a] (defScope st))
    (hbd : defBody st = [.Try [.Return (some (.Call (.Name a p1) [] [] p2)) p3] [.ExceptHandler (some (.Name e1 p4)) none [.Return (some (.Constant (.str r1) j1 p5)) p6] p7] [] [] p8])
    (hg1 : (defScope st).names.lookup e1 = some .globalImplicit) (hm1 : mg e1 = some (.ref C1)) (hN : N[0]? = some a) (hv : Vis (defScope st) a) (h0 : ∀ f : Addr, (L2.start N [V.ref f])[0]? = some (some (V.ref f)))
    (hd1 : (e1 == ("__debug__" : Str)) = false := by decide) (hd : (a == ("__debug__" : Str)) = false := by decide) (hcd : (a == ("__classdict__" : Str)) = false := by decide) :
    FnOkS P w K mg base (k + 1) f fd [a] (gTold F fr ws) (spToldS P w K mg base k [(C1, r1)] F fr ws) := by
  refine fun_okS Fn S (fun vs H Q E h => ?_) fun cdv A outer s H vs Q E hr g h => ?_
  · obtain ⟨f, b, tl, rfl, _⟩ := h
    rfl
  · obtain ⟨f, b, tl, rfl, hf, hc, L, ht⟩ := h
    have g : CellsO F.cl fr ws outer s.heap H := g
    rw [hbd]
    have hgl1 : Gl (cxOf (L2.CX P w) P w K mg base N x (defScope st) (by assumption) cdv A outer s H E) e1 := hg1
    refine ⟨_, pss_one (ps_try_many (l := [(.ref C1, _)]) (tb := fun W D σ H => σ[0]? = some (some (.ref f)) ∧ H f = some (LamO f F b) ∧ CdAt P w H F.c F.qual ∧ ∃ E : XK, (∀ cls d σ' H', E cls d H' → W cls d σ' H') ∧ tl [] ws H D.rt E) rfl rfl L2.takes0
      (fun W pn xe tk _ => pss_one (ps_ret (pe_lamS0 tk hr hN hv g rfl L hd hcd))) (.cons ⟨hgl1, hd1, .inl hm1⟩ (fun a oe cls d pn _ _ => pss_one (ps_ret pe_str)) .nil)), ?_⟩
    refine ⟨h0 f, hf, hc, _, fun cls d σ' H' q => ?_, ht⟩
    obtain ⟨b, q1, q2, q3⟩ := q
    exact ⟨b, q1, fun hb a _ => q2 hb, fun hb => q3 hb⟩
def lbF (q : Str) (cs : List (Str × Addr)) (e : Expr) (d : Addr) : NF := ⟨"<lambda>", q, lamArgs e, [], lamScope e, cloFrom cs (lamScope e).names [], d⟩
def lbO (q : Str) (cs : List (Str × Addr)) (e : Expr) (f d : Addr) : Addr × HO := (f, LamO f (lbF q cs e d) (lamBody e))
/-- unpack over any bytes -/
def tlU (CW PU : Addr) : List V → List (Option V) → Hp → VK → XK → Prop := fun vs ws H Q E => vs = [] ∧ ∃ (r : Addr) (bs : List Int) (pu : Array Value) (L : Lg), ws = [some (.ref r)] ∧ Led H ((PU, .tbl pu) :: L) ∧ TriplesOk pu.toList ∧ (r, tI bs) ∈ L ∧ (∀ b ∈ bs, isByte b) ∧ bs.length ≤ sizeLine ∧
  (∀ (d : Dv) (v : V) (Z : Lg) (pu' : Array Value) H', bs = packB d → sendable d → dpc d ≤ 30 → TriplesOk pu'.toList → DF Z v d → Led H' ((PU, .tbl pu') :: (Z ++ L)) → Q v H') ∧
  (∀ (pu' : Array Value) H', TriplesOk pu'.toList → Led H' ((PU, .tbl pu') :: L) → E (.ref CW) none H')
/-- pack of a chain, not too deep; too deep -/
def tlP (PN : Addr) : List V → List (Option V) → Hp → VK → XK → Prop := fun vs ws H Q E => vs = [] ∧ ∃ (v : V) (m : Nat) (pn : Array Value) (L : Lg), ws = [some v] ∧ Led H ((PN, .tbl pn) :: L) ∧ TriplesOk pn.toList ∧ DL L v (chainD m) ∧ m ≤ 30 ∧
  ∀ (r : Addr) (bs : List Int) (pn' : Array Value) H', TriplesOk pn'.toList → Led H' ((r, tI bs) :: (PN, .tbl pn') :: L) → Q (.ref r) H'
def tlPX (CW PN : Addr) : List V → List (Option V) → Hp → VK → XK → Prop := fun vs ws H Q E => vs = [] ∧ ∃ (v : V) (m : Nat) (pn : Array Value) (L : Lg), ws = [some v] ∧ Led H ((PN, .tbl pn) :: L) ∧ DL L v (chainD m) ∧ 30 < m ∧
  ∀ H', Led H' ((PN, .tbl pn) :: L) → E (.ref CW) none H'
def tlE (CW : Addr) : List V → List (Option V) → Hp → VK → XK → Prop := fun vs ws H Q E => vs = [] ∧ ws = [] ∧ ∃ L : Lg, Led H L ∧ ∀ H', Led H' L → E (.ref CW) none H'
theorem chain_deep : ∀ m : Nat, deep (chainD m) = m
  | 0 => by simp [chainD, deep]
  | m + 1 => by rw [chainD, deep, deeps, deeps, chain_deep m]; omega
theorem chain_dpc : ∀ m : Nat, dpc (chainD m) = m
  | 0 => by simp [chainD, dpc]
  | m + 1 => by rw [chainD, dpc, dpcs, dpcs, chain_dpc m]; omega
theorem chain_send : ∀ m : Nat, sendable (chainD m)
  | 0 => by rw [chainD]; trivial
  | m + 1 => by rw [chainD, sendable, sendables]; exact ⟨chain_send m, by rw [sendables]; trivial⟩
theorem chain_len : ∀ m : Nat, (packB (chainD m)).length = 2 * m + 1
  | 0 => by rw [chainD, packB]; rfl
  | m + 1 => by
    rw [chainD, packB, List.length_cons, List.length_append, packsB, packsB, List.append_nil, chain_len m, List.length_singleton, natB_lo (by decide), List.length_singleton]
    omega
section
variable {P : Program} {w : World} {K : PySem.W.Frag} {mg : Str → Option Value} {base : Heap} {CU CW PU PN : Addr}
theorem lokU {f c' : Addr} {q : Str} {cl : List (Str × Addr)} (c_unpackX : CalX P w K mg base 165 "unpack" (spUnpackX CU CW PU) []) : LOkS P w K mg base 166 f ⟨"<lambda>", q, lamArgs lamU, [], lamScope lamU, cl, c'⟩ (lamBody lamU) ["bent"] (tlU CW PU) := by
  refine lokS_of nscU (fun vs ws H Q E h => ?_) (fun _ _ _ us hl => match us, hl with | [], _ => rfl) fun A outer s H vs ws Q E hr Ce h => ⟨_, pe_cX c_unpackX hr (by decide) (by rfl) (takes_of rfl rfl rfl (E := E) rfl) (pa_cons (pv 0) pa_nil), ?_⟩
  · obtain ⟨rfl, _⟩ := h
    rfl
  · obtain ⟨rfl, r, bs, pu, L, rfl, hL, ht, hm, hb, hz, k1, k2⟩ := h
    refine ⟨_, rfl, ?_⟩
    exact ⟨r, bs, pu, L, rfl, hL, ht, hm, hb, hz, k1, k2⟩
theorem lok1 {f c' : Addr} {q : Str} {cl : List (Str × Addr)} (c_unpackX : CalX P w K mg base 165 "unpack" (spUnpackX CU CW PU) []) : LOkS P w K mg base 166 f ⟨"<lambda>", q, lamArgs lam1, [], lamScope lam1, cl, c'⟩ (lamBody lam1) ["one"] (tlU CW PU) := by
  refine lokS_of nsc1 (fun vs ws H Q E h => ?_) (fun _ _ _ us hl => match us, hl with | [], _ => rfl) fun A outer s H vs ws Q E hr Ce h => ⟨_, pe_cX c_unpackX hr (by decide) (by rfl) (takes_of rfl rfl rfl (E := E) rfl) (pa_cons (pv 0) pa_nil), ?_⟩
  · obtain ⟨rfl, _⟩ := h
    rfl
  · obtain ⟨rfl, r, bs, pu, L, rfl, hL, ht, hm, hb, hz, k1, k2⟩ := h
    refine ⟨_, rfl, ?_⟩
    exact ⟨r, bs, pu, L, rfl, hL, ht, hm, hb, hz, k1, k2⟩
theorem lokP {f c' : Addr} {q : Str} {cl : List (Str × Addr)} (c_pack : Cal P w K mg base (5 + 31) "pack" (spPackC PN 31) [.int 0]) : LOkS P w K mg base 166 f ⟨"<lambda>", q, lamArgs lamP, [], lamScope lamP, cl, c'⟩ (lamBody lamP) ["deep"] (tlP PN) := by
  refine lokS_of nscP (fun vs ws H Q E h => ?_) (fun _ _ _ us hl => match us, hl with | [], _ => rfl) fun A outer s H vs ws Q E hr Ce h => ⟨_, pe_c c_pack hr (by decide) (by rfl) (pa_cons (pv 0) pa_nil), ?_⟩
  · obtain ⟨rfl, _⟩ := h
    rfl
  · obtain ⟨rfl, v, m, pn, L, rfl, hL, ht, hd, hm, k⟩ := h
    have h1 := chain_dpc m
    have h2 := chain_len m
    have h3 : 1000 ≤ sizeLine := by decide
    refine ⟨_, rfl, ?_⟩
    exact ⟨v, 0, chainD m, pn, L, rfl, hL, ht, hd, by omega, by omega, by omega, chain_send m, by omega, fun pn' r H' ht' hL' => k r _ pn' H' ht' hL'⟩
theorem lokPX {f c' : Addr} {q : Str} {cl : List (Str × Addr)} (c_pack : CalX P w K mg base (5 + 32) "pack" (spPackX CW PN 32) [.int 0]) : LOkS P w K mg base 166 f ⟨"<lambda>", q, lamArgs lamP, [], lamScope lamP, cl, c'⟩ (lamBody lamP) ["deep"] (tlPX CW PN) := by
  refine lokS_of nscP (fun vs ws H Q E h => ?_) (fun _ _ _ us hl => match us, hl with | [], _ => rfl) fun A outer s H vs ws Q E hr Ce h => ⟨_, pe_cX c_pack hr (by decide) (by rfl) (takes_of rfl rfl rfl (E := E) rfl) (pa_cons (pv 0) pa_nil), ?_⟩
  · obtain ⟨rfl, _⟩ := h
    rfl
  · obtain ⟨rfl, v, m, pn, L, rfl, hL, hd, hm, k⟩ := h
    refine ⟨_, rfl, ?_⟩
    exact ⟨v, 0, m, pn, L, rfl, hL, hd, by omega, by omega, by omega, by omega, k⟩
theorem lokL {f c' : Addr} {q : Str} {cl : List (Str × Addr)} (c_pack : CalX P w K mg base 38 "pack" (spPackLX CW) [.int 0]) : LOkS P w K mg base 166 f ⟨"<lambda>", q, lamArgs lamL, [], lamScope lamL, cl, c'⟩ (lamBody lamL) [] (tlE CW) := by
  refine lokS_of nscL (fun vs ws H Q E h => ?_) (fun _ _ _ us hl => match us, hl with | [], _ => rfl) fun A outer s H vs ws Q E hr Ce h => ⟨_, pe_cX c_pack hr (by decide) (by rfl) (takes_of rfl rfl rfl (E := E) rfl) (pa_cons (pe_lst (pa_cons pe_int pa_nil)) pa_nil), ?_⟩
  · obtain ⟨rfl, _⟩ := h
    rfl
  · obtain ⟨rfl, rfl, L, hL, k⟩ := h
    fail "go"
    exact ⟨p, _, _, rfl, hL, .head _, fun H' hL' => k H' hL'.tail⟩
theorem lokS {f c' : Addr} {q : Str} {cl : List (Str × Addr)} (c_sign : CalX P w K mg base 1 "sign_number" (spSignX CW) []) (ht : Txt.find SIGNS "\t" < 0) : LOkS P w K mg base 166 f ⟨"<lambda>", q, lamArgs lamS, [], lamScope lamS, cl, c'⟩ (lamBody lamS) [] (tlE CW) := by
  refine lokS_of nscS (fun vs ws H Q E h => ?_) (fun _ _ _ us hl => match us, hl with | [], _ => rfl) fun A outer s H vs ws Q E hr Ce h => ⟨_, pe_cX c_sign hr (by decide) (by rfl) (takes_of rfl rfl rfl (E := E) rfl) (pa_cons pe_str pa_nil), ?_⟩
  · obtain ⟨rfl, _⟩ := h
    rfl
  · obtain ⟨rfl, rfl, L, hL, k⟩ := h
    exact ⟨_, rfl, ht, k H hL⟩
end
end Sd


set_option linter.unusedVariables false
namespace Sd
open PySem L2 LamX NdefX PyProof.Rows Mx
open C8 (Cal Met Mak pe_c pe_mk pe_mt pe_mt0 pss_cut tCut)
-- NPAT 23
-- TYPES NOCELL=one,SLA=yes,_law_same()=bool,told_now=deep
set_option linter.unusedSimpArgs false
set_option pp.deepTerms false
set_option pp.deepTerms.threshold 12
set_option hygiene false
local macro_rules | `(tactic| fail "nd") => `(tactic| first | assumption | decide +kernel)
local macro_rules | `(tactic| fail "ix") => `(tactic| first | exact ⟨0, rfl⟩ | exact ⟨1, rfl⟩ | exact ⟨2, rfl⟩ | exact ⟨3, rfl⟩ | exact ⟨4, rfl⟩ | exact ⟨5, rfl⟩ | exact ⟨6, rfl⟩ | exact ⟨7, rfl⟩ | exact ⟨8, rfl⟩ | exact ⟨9, rfl⟩ | exact ⟨10, rfl⟩ | exact ⟨11, rfl⟩ | exact ⟨12, rfl⟩ | exact ⟨13, rfl⟩ | exact ⟨14, rfl⟩ | exact ⟨15, rfl⟩ | exact ⟨16, rfl⟩ | exact ⟨17, rfl⟩ | exact ⟨18, rfl⟩ | assumption)
local macro_rules | `(tactic| fail "up") => `(tactic| first | exact ⟨0, rfl, rfl⟩ | exact ⟨1, rfl, rfl⟩ | exact ⟨2, rfl, rfl⟩ | exact ⟨3, rfl, rfl⟩ | exact ⟨4, rfl, rfl⟩ | exact ⟨5, rfl, rfl⟩ | exact ⟨6, rfl, rfl⟩ | exact ⟨7, rfl, rfl⟩ | exact ⟨8, rfl, rfl⟩ | exact ⟨9, rfl, rfl⟩ | exact ⟨10, rfl, rfl⟩ | exact ⟨11, rfl, rfl⟩ | exact ⟨12, rfl, rfl⟩ | exact ⟨13, rfl, rfl⟩ | exact ⟨14, rfl, rfl⟩ | exact ⟨15, rfl, rfl⟩ | exact ⟨16, rfl, rfl⟩ | assumption)
local macro_rules | `(tactic| fail "lkF") => `(tactic| first | assumption | exact fz_at 0 (by fail "nd") rfl rfl | exact fz_at 1 (by fail "nd") rfl rfl | exact fz_at 2 (by fail "nd") rfl rfl | exact fz_at 3 (by fail "nd") rfl rfl | exact fz_at 4 (by fail "nd") rfl rfl | exact fz_at 5 (by fail "nd") rfl rfl | exact fz_at 6 (by fail "nd") rfl rfl | exact fz_at 7 (by fail "nd") rfl rfl)
local macro_rules | `(tactic| fail "lkD") => `(tactic| first | assumption | exact dz_at 0 (by fail "nd") rfl rfl | exact dz_at 1 (by fail "nd") rfl rfl | exact dz_at 2 (by fail "nd") rfl rfl | exact dz_at 3 (by fail "nd") rfl rfl | exact dz_at 4 (by fail "nd") rfl rfl)
local macro_rules | `(tactic| fail "ptF") => `(tactic| first | assumption | exact fz_put 0 (by fail "nd") rfl (Nat.le_of_ble_eq_true rfl) | exact fz_put 1 (by fail "nd") rfl (Nat.le_of_ble_eq_true rfl) | exact fz_put 2 (by fail "nd") rfl (Nat.le_of_ble_eq_true rfl) | exact fz_put 3 (by fail "nd") rfl (Nat.le_of_ble_eq_true rfl) | exact fz_put 4 (by fail "nd") rfl (Nat.le_of_ble_eq_true rfl) | exact fz_put 5 (by fail "nd") rfl (Nat.le_of_ble_eq_true rfl) | exact fz_put 6 (by fail "nd") rfl (Nat.le_of_ble_eq_true rfl) | exact fz_put 7 (by fail "nd") rfl (Nat.le_of_ble_eq_true rfl) | exact fz_new (by decide +kernel) rfl)
local macro_rules | `(tactic| fail "ptD") => `(tactic| first | assumption | exact dz_put 0 (by fail "nd") rfl (Nat.le_of_ble_eq_true rfl) | exact dz_put 1 (by fail "nd") rfl (Nat.le_of_ble_eq_true rfl) | exact dz_put 2 (by fail "nd") rfl (Nat.le_of_ble_eq_true rfl) | exact dz_put 3 (by fail "nd") rfl (Nat.le_of_ble_eq_true rfl) | exact dz_put 4 (by fail "nd") rfl (Nat.le_of_ble_eq_true rfl))
local macro_rules | `(tactic| fail "sz") => `(tactic| first | assumption | exact (Nat.le_of_ble_eq_true rfl) | omega | decide)
local macro_rules | `(tactic| fail "sd") => `(tactic| first | rfl | assumption | decide | omega | (dsimp only; first | decide | omega) | exact .inr ⟨by decide, by decide⟩ | exact .inl ⟨by decide, by decide⟩ | exact ⟨by omega, by omega⟩ | exact .inl ⟨by omega, by omega⟩ | exact .inr ⟨by omega, by omega⟩ | exact ⟨by omega, by omega, by omega⟩)
local macro_rules | `(tactic| fail "cl") => `(tactic| (clear hH; dsimp only [List.set, List.cons_append, List.nil_append, List.append] at hL))
local macro_rules | `(tactic| fail "gn") => `(tactic| (intro p hp; generalize hH : upd H p _ = H; replace hL := Led.newH hL hp hH; clear hH hp))
local macro_rules | `(tactic| fail "gup") => `(tactic| (generalize hH : upd H _ _ = H; replace hL := Led.upU hL (by fail "up") hH; fail "cl"))
local macro_rules | `(tactic| fail "gmk") => `(tactic| (intro x dx hx hd ne; generalize hH : upd (upd H dx _) x _ = H; replace hL := Led.made hL hx hd ne hH; clear hH hx hd ne))
local macro_rules | `(tactic| fail "v") => `(tactic| refine ⟨_, rfl, ?_⟩)
local macro_rules | `(tactic| fail "i2") => `(tactic| refine ⟨_, _, rfl, rfl, ?_⟩)
local macro_rules | `(tactic| fail "go1") => `(tactic| first
  | refine ⟨_, rfl, ?_⟩
  | refine ⟨_, _, rfl, rfl, ?_⟩
  | refine ⟨_, _, rfl, ?_⟩
  | refine iteT ?_
  | refine iteF ?_
  | refine k_fld hL (by fail "ix") (by assumption) (by assumption) (by fail "lkF") ?_
  | refine k_dgetS hL (by fail "ix") (by fail "lkD") ?_
  | refine k_dgetI hL (by fail "ix") (by assumption) ?_
  | refine k_ixL hL (by fail "ix") (by first | rfl | assumption) ?_
  | refine k_ixT hL (by fail "ix") (by first | rfl | assumption) ?_
  | refine k_tyL hL (by fail "ix") ?_
  | refine k_isd hL (by fail "ix") ?_
  | (refine And.intro (by fail "sz") ?_; fail "gn")
  | refine And.intro (by fail "sd") ?_
  | fail "gn"
  | refine k_meth hL (by fail "ix") (by first | assumption | exact fz_no (by decide +kernel)) ?_
  | refine k_gtup hL (by fail "ix") rfl ?_
  | (refine k_popI hL (by fail "ix") (by assumption) ?_; fail "gup")
  | (refine k_listD hL (by fail "ix") ?_; fail "gn")
  | (refine ⟨_, _, _, _, rfl, rfl, hL.at (by fail "ix"), rfl, ?_⟩; fail "gup")
  | (refine ⟨_, _, _, rfl, rfl, hL.at (by fail "ix"), (by fail "sz"), ?_⟩; fail "gup")
  | (refine ⟨_, _, _, _, rfl, hL.at (by fail "ix"), by assumption, by assumption, Nat.lt_of_le_of_lt fz_len (by decide), ?_⟩; generalize hH : upd H _ _ = H; replace hL := Led.upF hL (by fail "up") (by fail "ptF") hH; fail "cl")
  | (refine ⟨_, _, hL.at (by fail "ix"), Nat.lt_of_le_of_lt fz_len (by decide), ?_⟩; generalize hH : upd H _ _ = H; replace hL := Led.upF hL (by fail "up") (by fail "ptF") hH; fail "cl")
  | (refine k_dputS hL (by fail "ix") (Nat.lt_of_le_of_lt dz_len (by decide)) (by fail "ptD") (by fail "up") ?_; clear hL; intro H hL; dsimp only [List.set, List.cons_append, List.nil_append, List.append] at hL)
  | refine k_lenL2 hL (by fail "ix") ?_
  | refine k_lenT2 hL (by fail "ix") ?_
  | refine .inl ⟨_, rfl, ?_⟩
  | refine .inr ⟨_, rfl, ?_⟩)
local macro_rules | `(tactic| fail "go") => `(tactic| repeat fail "go1")
local macro_rules | `(tactic| fail "pm") => `(tactic| (refine Led.le hL (fun a_ => ?_); simp only [cnt_nil, cnt_cons, cnt_app, List.map_append, List.map_cons, List.map_nil, List.flatMap_append, List.flatMap_cons, List.flatMap_nil, List.append_assoc, List.cons_append, List.nil_append]; omega))

theorem deep_dpc : ∀ d : Dv, deep d ≤ dpc d + 1
  | .non => by simp [deep]
  | .bl _ => by simp [deep]
  | .int _ => by simp [deep]
  | .str _ => by simp [deep]
  | .row ds => by
    rw [deep, dpc]
    have : ∀ ds : List Dv, (∀ d ∈ ds, deep d ≤ dpc d + 1) → deeps ds ≤ dpcs ds := by
      intro ds
      induction ds with
      | nil => intro _; simp [deeps]
      | cons d r ih =>
        intro h
        rw [deeps, dpcs]
        have h1 := h d (.head _)
        have h2 := ih fun e he => h e (.tail _ he)
        omega
    have := this ds (fun d _ => deep_dpc d)
    omega
def tK5 (PL PU : Addr) (q : Str) : TS := fun D σ H => ∃ (r : Addr) (bs : List Int) (pl pu : Array Value) (Z L : Lg), σ[5]? = some (some (.ref r)) ∧ σ.length = 23 ∧ (r, tI bs) ∈ L ∧ (∀ b ∈ bs, isByte b) ∧ bs.length ≤ sizeLine ∧ TriplesOk pu.toList ∧ TabL q pl Z ∧ Led H ((PL, .tbl pl) :: (Z ++ ((PU, .tbl pu) :: L))) ∧
  (∀ (pl : Array Value) (Z : Lg) (pu : Array Value) H', TabL q pl Z → TriplesOk pu.toList → Led H' ((PL, .tbl pl) :: (Z ++ ((PU, .tbl pu) :: L))) → D.nx (σ.set 6 (some (.str "WireError"))) H') ∧
  (∀ (d : Dv) (v : V) (Z2 : Lg) (pl : Array Value) (Z : Lg) (pu : Array Value) H', bs = packB d → sendable d → dpc d ≤ 30 → DF Z2 v d → TabL q pl Z → TriplesOk pu.toList → Led H' ((PL, .tbl pl) :: (Z ++ ((PU, .tbl pu) :: (Z2 ++ L)))) → D.nx (σ.set 6 (some v)) H')
def tK6 (PN : Addr) : TS := fun D σ H => ∃ (r : Addr) (bs : List Int) (pn : Array Value) (v : V) (d : Dv) (L : Lg), σ[5]? = some (some (.ref r)) ∧ σ[6]? = some (some v) ∧ σ.length = 23 ∧ (r, tI bs) ∈ L ∧ bs.length ≤ sizeLine ∧ DL L v d ∧ (v = .str "WireError" ∨ (bs = packB d ∧ sendable d ∧ dpc d ≤ 30)) ∧ TriplesOk pn.toList ∧ Led H ((PN, .tbl pn) :: L) ∧
  (∀ (pn : Array Value) H', TriplesOk pn.toList → Led H' ((PN, .tbl pn) :: L) → D.nx σ H')
section
variable {P : Program} {w : World} {K : PySem.W.Frag} {mg : Str → Option Value} {base : Heap} {CU CW PN PU PL : Addr} {f cL : Addr} {A : Around} {outer : List Env} {s0 : Shared} {H0 : Hp} {E : XK}
theorem st_k5 (hr : Room 175 (LX P w K mg base f (.ref cL) A outer s0 H0 E).A) (TB : LamX.TabB base mg cL PL) {gT : Addr} (c_told : ∀ i : ToF, CalS P w K mg base 167 "_law_told" (gTold i.2.1 i.1 i.2.2) (spToldS P w K mg base 166 [(CW, "WireError")] i.2.1 i.1 i.2.2)) (hmT : mg "_law_told" = some (.ref gT)) (kpT : PySem.W.keepIn K (.ref gT) = true)
    (TE : ExcT K mg "WireError" CW) (c_unpackX : CalX P w K mg base 165 "unpack" (spUnpackX CU CW PU) []) :
    PS (LX P w K mg base f (.ref cL) A outer s0 H0 E) (nth diceB 5) (tK5 PL PU ((LX P w K mg base f (.ref cL) A outer s0 H0 E).env.qual ++ "<lambda>")) := by
  refine ps_imp (t := _) (ps_set (i := 6) scLaw.nd rfl (Or.inl rfl) (pe_cS (R := fun (i : ToF) σ => i.1 = (["bent"] : List Str) ∧ i.2.1.cl = cloFrom (LX P w K mg base f (.ref cL) A outer s0 H0 E).env.cells (lamScope lamU).names [] ∧ i.2.2 = [5].map (slotAt σ)) c_told hr (by decide) (fun i pins σ H s I hR => ?_) rfl hmT kpT L2.takes0 (pa_cons (pe_lamvL TB rfl rfl rfl hfU) pa_nil))) ?_
  · obtain ⟨e1, e2, e3⟩ := hR
    show CellsO i.2.1.cl i.1 i.2.2 _ _ _
    rw [e1, e2, e3]
    exact CellsO.made (fun _ => rfl) I (Caps.made I.ok (fun y hy e => .inl (hfU y hy e)) hgU rfl)
  generalize (LX P w K mg base f (.ref cL) A outer s0 H0 E).env.qual ++ "<lambda>" = q
  generalize (LX P w K mg base f (.ref cL) A outer s0 H0 E).env.cells = cs
  rintro D σ H ⟨r, bs, pl, pu, Z, L, hs5, hsl, hm, hb, hz, ht, hT, hL, k1, k2⟩
  match σ, hs5, hsl with
  | [v0, v1, v2, v3, v4, v5, v6, v7, v8, v9, v10, v11, v12, v13, v14, v15, v16, v17, v18, v19, v20, v21, v22], hs5, _ =>
  cases hs5
  refine ⟨pl, Z, _, hL, hT, fun f1 d1 pl1 Z1 H hL2 hT1 hc1 => ?_⟩
  clear hL
  have hL : Led H (lbO q cs lamU f1 d1 :: (PL, .tbl pl1) :: (Z1 ++ (Z ++ ((PU, .tbl pu) :: L)))) := hL2
  clear hL2
  have mc : (d1, CodeO d1 q) ∈ lbO q cs lamU f1 d1 :: (PL, .tbl pl1) :: (Z1 ++ (Z ++ ((PU, .tbl pu) :: L))) := .tail _ (.tail _ (by
    rw [← List.append_assoc]
    exact List.mem_append_left _ hc1))
  have hB : Led H ((PU, .tbl pu) :: ((PL, .tbl pl1) :: ((Z1 ++ Z) ++ L))) := hL.le (fun a_ => by
    simp only [cnt_cons, cnt_app]
    omega)
  refine ⟨((["bent"] : List Str), lbF q cs lamU d1, [some (.ref r)]), ⟨rfl, rfl, rfl⟩, f1, lamBody lamU, tlU CW PU, rfl, hL.mem (.head _), .of (hL.mem mc), lokU c_unpackX, rfl, r, bs, pu, _, rfl, hB, ht, .tail _ (List.mem_append_right _ hm), hb, hz, fun d v Z2 pu' H hbd hs hd30 ht hv hL2 => ?_, fun pu' H ht hL2 => ?_⟩
  · clear hB hL
    refine k2 d v Z2 pl1 (Z1 ++ Z) pu' H hbd hs hd30 hv hT1 ht (hL2.le (fun a_ => ?_))
    simp only [cnt_cons, cnt_app]
    omega
  · clear hB hL
    refine ⟨true, TE.em, fun _ => ?_, fun h => (nomatch h)⟩
    refine k1 pl1 (Z1 ++ Z) pu' H hT1 ht (hL2.le (fun a_ => ?_))
    simp only [cnt_cons, cnt_app]
    omega
theorem st_k6 (hr : Room 175 (LX P w K mg base f (.ref cL) A outer s0 H0 E).A) (c_pack : Cal P w K mg base (5 + 31) "pack" (spPackC PN 31) [.int 0]) : PS (LX P w K mg base f (.ref cL) A outer s0 H0 E) (nth diceB 6) (tK6 PN) := by
  refine ps_imp (t := _) (ps_if (PW.pt (pw_and (pt_cmpR (op_neP hr.units) (pv 6) pe_str (nomark _)) (pw_and1 (pt_cmpR (op_neP hr.units) (pe_c c_pack hr (by decide) (by rfl) (pa_cons (pv 6) pa_nil)) (pv 5) (nomark _)))))
  (pss_one (ps_ret pe_bl))
  pss_nil) ?_
  rintro D σ H ⟨r, bs, pn, v, d, L, hs5, hs6, hsl, hm, hz, hd, hv, ht, hL, kk⟩
  match σ, hs5, hs6, hsl with
  | [v0, v1, v2, v3, v4, v5, v6, v7, v8, v9, v10, v11, v12, v13, v14, v15, v16, v17, v18, v19, v20, v21, v22], hs5, hs6, _ =>
  cases hs5
  cases hs6
  fail "go"
  dsimp only [tC]
  have hdl : DL ((PN, .tbl pn) :: L) v d := hd.mono (fun x h => .tail _ h)
  rcases hv with rfl | ⟨hbd, hs, hd30⟩
  · cases hd
    refine k_neSame (d := .str "WireError") (.str _) (.str _) ⟨by simp [PyData.plain], by simp [PyData.depth]⟩ ?_
    fail "go"
    exact kk pn _ ht hL
  · have h1 := deep_dpc d
    refine ⟨pyD d, .str "WireError", hdl.dp hL (fun x h => h), .str _, shal_D (by omega), ⟨by simp [PyData.plain], by simp [PyData.depth]⟩, ?_⟩
    generalize PyData.eqv (pyD d) (PyData.str "WireError") = b
    cases b with
    | true =>
      fail "go"
      exact kk pn _ ht hL
    | false =>
      fail "go"
      refine ⟨v, 0, d, pn, L, rfl, hL, ht, hd, by omega, by omega, by omega, hs, by rw [← hbd]; exact hz, fun pn r2 H ht hL => ?_⟩
      fail "go"
      refine k_neSame (dp_tup (hL.mem (.head _)) dp_ints) (dp_tup (hL.mem (.tail _ (.tail _ hm))) (by rw [hbd]; exact dp_ints)) shal_tupI ?_
      fail "go"
      exact kk pn _ ht hL.tail
end
end Sd


set_option linter.unusedVariables false
namespace Sd
/-! k01: frames that are cut, and frames one byte of which is changed -/
abbrev fl (vs : List Dv) (j : Nat) : Nat := (framesB (vs.take j)).length
theorem fl_succ {vs : List Dv} {j : Nat} {d : Dv} (h : vs[j]? = some d) : fl vs (j + 1) = fl vs j + (packB d).length + 8 := by
  unfold fl
  rw [frames_take h, List.length_append, frame_len]
  omega
theorem fl_lt {vs : List Dv} {j : Nat} (h : j < vs.length) : fl vs j + 8 ≤ fl vs (j + 1) := by
  rw [fl_succ (List.getElem?_eq_getElem h)]
  omega
theorem fl_mono {vs : List Dv} {i : Nat} : ∀ {j : Nat}, i ≤ j → j ≤ vs.length → fl vs i ≤ fl vs j
  | 0, h, _ => by rw [Nat.le_zero.mp h]; exact Nat.le_refl _
  | j + 1, h, hj => by
    rcases Nat.lt_or_ge j i with h1 | h1
    · rw [show i = j + 1 by omega]; exact Nat.le_refl _
    · have := fl_mono (vs := vs) h1 (by omega)
      have := fl_lt (vs := vs) (j := j) (by omega)
      omega
theorem fl_all {vs : List Dv} : fl vs vs.length = (framesB vs).length := by
  unfold fl
  rw [List.take_length]
theorem framesB_app {a b : List Dv} : framesB (a ++ b) = framesB a ++ framesB b := by
  unfold framesB
  rw [List.flatMap_append]
/-- a cut within frames -/
theorem cut_frames {vs : List Dv} {c : Nat} (hc : c ≤ (framesB vs).length) (hz : ∀ d ∈ vs, (packB d).length < 4294967296) :
    ∃ j tail, j ≤ vs.length ∧ (framesB vs).take c = framesB (vs.take j) ++ tail ∧ Cut tail ∧ fl vs j ≤ c ∧ (j < vs.length → c < fl vs (j + 1)) := by
  have hex : ∃ j, j ≤ vs.length ∧ fl vs j ≤ c ∧ (j < vs.length → c < fl vs (j + 1)) := by
    have : ∀ k, k ≤ vs.length → ∃ j, j ≤ k ∧ fl vs j ≤ c ∧ (j < k → c < fl vs (j + 1)) := by
      intro k
      induction k with
      | zero => intro _; exact ⟨0, Nat.le_refl _, by simp [fl, framesB], fun h => absurd h (by omega)⟩
      | succ k ih =>
        intro hk
        obtain ⟨j, h1, h2, h3⟩ := ih (by omega)
        by_cases hj : j < k
        · exact ⟨j, by omega, h2, fun _ => h3 hj⟩
        · have hjk : j = k := by omega
          subst hjk
          by_cases hb : c < fl vs (j + 1)
          · exact ⟨j, by omega, h2, fun _ => hb⟩
          · exact ⟨j + 1, by omega, by omega, fun h => absurd h (by omega)⟩
    exact this vs.length (Nat.le_refl _)
  obtain ⟨j, h1, h2, h3⟩ := hex
  have hsplit : framesB vs = framesB (vs.take j) ++ framesB (vs.drop j) := by rw [← framesB_app, List.take_append_drop]
  refine ⟨j, (framesB (vs.drop j)).take (c - fl vs j), h1, ?_, ?_, h2, h3⟩
  · rw [hsplit, List.take_append, List.take_of_length_le (show (framesB (List.take j vs)).length ≤ c from h2)]
  · rcases Nat.lt_or_ge j vs.length with hj | hj
    · have hc2 := h3 hj
      have hg := List.getElem?_eq_getElem hj
      rw [fl_succ hg] at hc2
      have hdj : vs.drop j = vs[j] :: vs.drop (j + 1) := List.drop_eq_getElem_cons hj
      have hlen : (framesB (vs.drop j)).length = (packB vs[j]).length + 8 + (framesB (vs.drop (j + 1))).length := by
        rw [hdj]
        unfold framesB
        rw [List.flatMap_cons, List.length_append, frame_len]
      have htl : ((framesB (vs.drop j)).take (c - fl vs j)).length = c - fl vs j := by
        rw [List.length_take]
        omega
      by_cases h8 : c - fl vs j < 8
      · exact .inl (by rw [htl]; exact h8)
      · refine .inr ?_
        have h4 : ((framesB (vs.drop j)).take (c - fl vs j)).take 4 = fourB (packB vs[j]).length := by
          rw [List.take_take, Nat.min_eq_left (by omega), hdj]
          unfold framesB
          rw [List.flatMap_cons]
          unfold frameB
          rw [List.append_assoc, List.append_assoc]
          exact List.take_left' rfl
        rw [h4, htl, many_four (Int.natCast_nonneg _) (by have := hz _ (List.getElem_mem hj); omega)]
        omega
    · left
      rw [List.drop_of_length_le hj]
      simp [framesB]
/-! the checksum and one byte -/
theorem sum_fst (bs : List Int) : ∀ a b : Int, 0 ≤ a → a < 65521 → (bs.foldl sumStep (a, b)).1 = (a + bs.sum) % 65521 := by
  induction bs with
  | nil => intro a b h0 h1; simp only [List.foldl_nil, List.sum_nil]; omega
  | cons x r ih =>
    intro a b h0 h1
    rw [List.foldl_cons, List.sum_cons]
    have h2 := ih ((a + x) % 65521) ((b + (a + x) % 65521) % 65521) (by omega) (by omega)
    show (r.foldl sumStep (sumStep (a, b) x)).1 = _
    rw [show sumStep (a, b) x = ((a + x) % 65521, (b + (a + x) % 65521) % 65521) from rfl, h2]
    omega
theorem sum_ne {x y : List Int} (h : sumB x = sumB y) : (x.sum - y.sum) % 65521 = 0 := by
  unfold sumB at h
  have e1 := sum_fst x 1 0 (by decide) (by decide)
  have e2 := sum_fst y 1 0 (by decide) (by decide)
  dsimp only at h
  rw [e1, e2] at h
  simp only [List.cons.injEq, and_true] at h
  omega
theorem sum_set {bs : List Int} {i : Nat} {b : Int} (c : Int) (h : bs[i]? = some b) : (bs.set i c).sum = bs.sum + (c - b) := by
  induction bs generalizing i with
  | nil => simp at h
  | cons x r ih =>
    cases i with
    | zero =>
      rw [List.getElem?_cons_zero] at h
      cases h
      rw [List.set_cons_zero, List.sum_cons, List.sum_cons]
      omega
    | succ i =>
      rw [List.getElem?_cons_succ] at h
      rw [List.set_cons_succ, List.sum_cons, List.sum_cons, ih h]
      omega
theorem sum_bent {bs : List Int} {i : Nat} {b c : Int} (h : bs[i]? = some b) (hb : isByte b) (hc : isByte c) (hne : c ≠ b) : sumB (bs.set i c) ≠ sumB bs := by
  intro e
  have := sum_ne e
  rw [sum_set c h] at this
  unfold isByte at hb hc
  omega
theorem sumB_len (bs : List Int) : (sumB bs).length = 4 := rfl
theorem sumB_byte (bs : List Int) : ∀ b ∈ sumB bs, isByte b := by
  have e1 := sum_fst bs 1 0 (by decide) (by decide)
  have e2 : ∀ (l : List Int) (a b : Int), 0 ≤ b → b < 65521 → 0 ≤ (l.foldl sumStep (a, b)).2 ∧ (l.foldl sumStep (a, b)).2 < 65521 := by
    intro l
    induction l with
    | nil => intro a b h0 h1; exact ⟨h0, h1⟩
    | cons x r ih =>
      intro a b h0 h1
      rw [List.foldl_cons]
      exact ih _ _ (by omega) (by omega)
  have e3 := e2 bs 1 0 (by decide) (by decide)
  intro b hb
  unfold sumB at hb
  dsimp only at hb
  rw [e1] at hb
  generalize (bs.foldl sumStep (1, 0)).2 = s2 at *
  generalize bs.sum = s at *
  unfold isByte
  simp only [List.mem_cons, List.not_mem_nil, or_false] at hb
  rcases hb with rfl | rfl | rfl | rfl <;> omega
theorem fourB_byte (n : Int) : ∀ b ∈ fourB n, isByte b := by
  intro b hb
  unfold fourB at hb
  unfold isByte
  simp only [List.mem_cons, List.not_mem_nil, or_false] at hb
  rcases hb with rfl | rfl | rfl | rfl <;> omega
theorem frame_byte {d : Dv} (h : sendable d) : ∀ b ∈ frameB (packB d), isByte b := by
  intro b hb
  unfold frameB at hb
  rcases List.mem_append.mp hb with hb | hb
  · rcases List.mem_append.mp hb with hb | hb
    · exact fourB_byte _ b hb
    · exact packB_byte h b hb
  · exact sumB_byte _ b hb
theorem frames_byte {vs : List Dv} (h : ∀ d ∈ vs, sendable d) : ∀ b ∈ framesB vs, isByte b := by
  intro b hb
  unfold framesB at hb
  obtain ⟨d, hd, hb⟩ := List.mem_flatMap.mp hb
  exact frame_byte (h d hd) b hb
/-- one byte behind a frame's first four is another -/
theorem bad_frames {vs : List Dv} {j r : Nat} {d : Dv} {b c : Int} (hj : vs[j]? = some d) (hr : r < (packB d).length + 4) (hz : (packB d).length < 4294967296) (hb : (framesB vs)[fl vs j + 4 + r]? = some b) (hbb : isByte b) (hc : isByte c) (hne : c ≠ b) :
    ∃ tail, (framesB vs).set (fl vs j + 4 + r) c = framesB (vs.take j) ++ tail ∧ Bad tail := by
  have hat := frames_at hj
  have e1 : framesB vs = framesB (vs.take j) ++ (fourB (packB d).length ++ ((packB d ++ sumB (packB d)) ++ framesB (vs.drop (j + 1)))) := by
    rw [hat]
    unfold frameB
    simp only [List.append_assoc]
  have hl : (packB d ++ sumB (packB d)).length = (packB d).length + 4 := by rw [List.length_append, sumB_len]
  have hset : (framesB vs).set (fl vs j + 4 + r) c = framesB (vs.take j) ++ (fourB (packB d).length ++ (((packB d ++ sumB (packB d)).set r c) ++ framesB (vs.drop (j + 1)))) := by
    rw [e1, List.set_append_right _ _ (by show fl vs j ≤ _; omega), List.set_append_right _ _ (by show 4 ≤ _; show 4 ≤ fl vs j + 4 + r - fl vs j; omega), List.set_append_left _ _ (by rw [hl]; show fl vs j + 4 + r - fl vs j - 4 < _; omega)]
    rw [show fl vs j + 4 + r - (framesB (List.take j vs)).length - (fourB ((packB d).length : Nat)).length = r by show fl vs j + 4 + r - fl vs j - 4 = r; omega]
  have hget : (packB d ++ sumB (packB d))[r]? = some b := by
    rw [e1, List.getElem?_append_right (by show fl vs j ≤ _; omega), List.getElem?_append_right (by show 4 ≤ fl vs j + 4 + r - fl vs j; omega), List.getElem?_append_left (by rw [hl]; show fl vs j + 4 + r - fl vs j - 4 < _; omega)] at hb
    rw [show fl vs j + 4 + r - (framesB (List.take j vs)).length - (fourB ((packB d).length : Nat)).length = r by show fl vs j + 4 + r - fl vs j - 4 = r; omega] at hb
    exact hb
  refine ⟨_, hset, ?_⟩
  have h4 : (fourB ((packB d).length : Nat) ++ (((packB d ++ sumB (packB d)).set r c) ++ framesB (vs.drop (j + 1)))).take 4 = fourB ((packB d).length : Nat) := List.take_left' rfl
  have hm : manyB (fourB ((packB d).length : Nat)) = (packB d).length := many_four (Int.natCast_nonneg _) (by omega)
  have h5 : (fourB ((packB d).length : Nat) ++ (((packB d ++ sumB (packB d)).set r c) ++ framesB (vs.drop (j + 1)))).drop 4 = ((packB d ++ sumB (packB d)).set r c) ++ framesB (vs.drop (j + 1)) := List.drop_left' rfl
  have hlen : (fourB ((packB d).length : Nat) ++ (((packB d ++ sumB (packB d)).set r c) ++ framesB (vs.drop (j + 1)))).length = 4 + ((packB d).length + 4 + (framesB (vs.drop (j + 1))).length) := by
    rw [List.length_append, List.length_append, List.length_set, hl]
    rfl
  unfold Bad
  clear e1 hset hat hb
  generalize framesB (vs.drop (j + 1)) = rest at *
  rw [h4, hm, Int.toNat_natCast, ← List.drop_drop, h5, hlen]
  refine ⟨by omega, Int.natCast_nonneg _, by omega, ?_⟩
  rcases Nat.lt_or_ge r (packB d).length with h | h
  · rw [List.set_append_left _ _ h, List.append_assoc, List.take_left' (List.length_set ..), List.drop_left' (List.length_set ..), List.take_left' (sumB_len _)]
    rw [List.getElem?_append_left h] at hget
    exact sum_bent hget hbb hc hne
  · rw [List.set_append_right _ _ h, List.append_assoc, List.take_left, List.drop_left, List.take_left' (by rw [List.length_set]; rfl)]
    rw [List.getElem?_append_right h] at hget
    intro e
    have := congrArg (fun l => l[r - (packB d).length]?) e
    rw [hget, List.getElem?_set_self (List.getElem?_eq_some_iff.mp hget).1] at this
    exact hne (Option.some.inj this).symm
/-! what is no value's bytes -/
theorem natB_last {n : Nat} : ∃ k, (natB n).getLast? = some k ∧ 0 ≤ k ∧ k ≤ 127 := by
  induction n using Nat.strongRecOn with
  | ind n ih =>
    by_cases h : n < 128
    · rw [natB_lo h]
      exact ⟨(n : Int), rfl, by omega, by omega⟩
    · obtain ⟨k, h1, h2⟩ := ih (n / 128) (by omega)
      rw [natB_hi h]
      refine ⟨k, ?_, h2⟩
      rw [List.getLast?_cons, h1]
      rfl
theorem natB_eq1 {n : Nat} {x : Int} {r : List Int} (h : natB n ++ r = [x]) : (n : Int) = x ∧ n < 128 ∧ r = [] := by
  by_cases hn : n < 128
  · rw [natB_lo hn] at h
    simp only [List.cons_append, List.nil_append, List.cons.injEq] at h
    exact ⟨h.1, hn, h.2⟩
  · rw [natB_hi hn, List.cons_append] at h
    have := (List.cons.inj h).2
    have := List.append_eq_nil_iff.mp this
    exact absurd this.1 natB_ne
theorem natB_eq2 {n : Nat} {x y : Int} {r : List Int} (h : natB n ++ r = [x, y]) : ((n : Int) = x ∧ n < 128 ∧ r = [y]) ∨ (128 ≤ n ∧ x = 128 + (n : Int) % 128 ∧ (n : Int) / 128 = y ∧ r = []) := by
  by_cases hn : n < 128
  · rw [natB_lo hn] at h
    simp only [List.cons_append, List.nil_append, List.cons.injEq] at h
    exact .inl ⟨h.1, hn, h.2⟩
  · rw [natB_hi hn, List.cons_append] at h
    obtain ⟨h1, h2⟩ := List.cons.inj h
    obtain ⟨h3, _, h4⟩ := natB_eq1 h2
    refine .inr ⟨by omega, ?_, ?_, h4⟩
    · rw [← h1]; push_cast; omega
    · rw [← h3]; push_cast; omega
theorem packB_cons (d : Dv) : ∃ h t, packB d = h :: t := by
  cases d with
  | non => exact ⟨_, _, rfl⟩
  | bl b => exact ⟨_, _, rfl⟩
  | int i => rw [packB]; split <;> exact ⟨_, _, rfl⟩
  | str s => exact ⟨_, _, rfl⟩
  | row ds => exact ⟨_, _, rfl⟩
theorem packsB_nil {ds : List Dv} (h : packsB ds = []) : ds = [] := by
  cases ds with
  | nil => rfl
  | cons d r =>
    rw [packsB] at h
    obtain ⟨x, t, e⟩ := packB_cons d
    rw [e] at h
    cases h
def badL : List (List Int) := [[], [0], [4], [4, 128, 0], [6, 1], [6, 1, 95], [7, 1], [7, 200, 1], [1, 1], [8]]
theorem bad_none {bs : List Int} (h : bs ∈ badL) (d : Dv) (hs : sendable d) : bs ≠ packB d := by
  intro e
  cases d with
  | non =>
    rw [packB] at e
    subst e
    revert h
    decide
  | bl b =>
    rw [packB] at e
    subst e
    cases b <;> revert h <;> decide
  | int i =>
    rw [packB] at e
    have hc : ∃ n x, bs = x :: natB n ∧ (x = 4 ∨ x = 5) := by
      split at e
      · exact ⟨_, _, e, .inl rfl⟩
      · exact ⟨_, _, e, .inr rfl⟩
    obtain ⟨n, x, rfl, hx⟩ := hc
    clear e
    simp only [badL, List.mem_cons, List.not_mem_nil, or_false, List.cons.injEq, reduceCtorEq, false_or] at h
    have e0 : natB n ≠ [] := natB_ne
    rcases h with h | h | h | h | h | h | h | h | h
    · omega
    · exact e0 h.2
    · have h2 := natB_eq2 (r := []) (by rw [List.append_nil]; exact h.2)
      rcases h2 with ⟨_, _, h2⟩ | ⟨h2, h3, h4, _⟩
      · cases h2
      · omega
    · omega
    · omega
    · omega
    · omega
    · omega
    · omega
  | str s =>
    rw [packB] at e
    rw [sendable] at hs
    subst e
    simp only [badL, List.mem_cons, List.not_mem_nil, or_false, List.cons.injEq, reduceCtorEq, false_or] at h
    have hl : (signs s).length = s.length := by unfold signs; rw [List.length_map, Array.length_toList]; rfl
    rcases h with h | h | h | h | h | h | h | h | h
    · omega
    · omega
    · omega
    · obtain ⟨h1, _, h2⟩ := natB_eq1 h.2
      rw [h2] at hl
      simp only [List.length_nil] at hl
      omega
    · rcases natB_eq2 h.2 with ⟨_, _, h2⟩ | ⟨h2, h3, _⟩
      · have : (95 : Int) ∈ signs s := by rw [h2]; exact .head _
        unfold signs at this
        obtain ⟨c, hc, he⟩ := List.mem_map.mp this
        obtain ⟨_, g2⟩ := hs c hc
        obtain ⟨g3, _⟩ := Array.getElem?_eq_some_iff.mp g2
        have : SIGNS.cps.size = 95 := signs_len
        rw [he] at g3
        omega
      · omega
    · omega
    · omega
    · omega
    · omega
  | row ds =>
    rw [packB] at e
    subst e
    simp only [badL, List.mem_cons, List.not_mem_nil, or_false, List.cons.injEq, reduceCtorEq, false_or] at h
    rcases h with h | h | h | h | h | h | h | h | h
    · omega
    · omega
    · omega
    · omega
    · omega
    · obtain ⟨h1, _, h2⟩ := natB_eq1 h.2
      rw [packsB_nil h2] at h1
      simp at h1
    · rcases natB_eq2 h.2 with ⟨h1, h2, _⟩ | ⟨h1, _, h3, h4⟩
      · omega
      · rw [packsB_nil h4] at h1
        simp at h1
    · omega
    · omega
theorem bad_byte {bs : List Int} (h : bs ∈ badL) : (∀ b ∈ bs, isByte b) ∧ bs.length ≤ 3 := by
  simp only [badL, List.mem_cons, List.not_mem_nil, or_false] at h
  rcases h with rfl | rfl | rfl | rfl | rfl | rfl | rfl | rfl | rfl | rfl <;> simp [isByte]
end Sd


set_option linter.unusedVariables false
namespace Sd
open PySem L2 LamX NdefX PyProof.Rows Mx
open C8 (Cal Met Mak pe_c pe_mk pe_mt pe_mt0 pss_cut tCut)
-- NPAT 23
-- TYPES NOCELL=one,SLA=yes,_law_same()=bool,_law_value()=any
set_option linter.unusedSimpArgs false
set_option pp.deepTerms false
set_option pp.deepTerms.threshold 12
set_option hygiene false
local macro_rules | `(tactic| fail "nd") => `(tactic| first | assumption | decide +kernel)
local macro_rules | `(tactic| fail "ix") => `(tactic| first | exact ⟨0, rfl⟩ | exact ⟨1, rfl⟩ | exact ⟨2, rfl⟩ | exact ⟨3, rfl⟩ | exact ⟨4, rfl⟩ | exact ⟨5, rfl⟩ | exact ⟨6, rfl⟩ | exact ⟨7, rfl⟩ | exact ⟨8, rfl⟩ | exact ⟨9, rfl⟩ | exact ⟨10, rfl⟩ | exact ⟨11, rfl⟩ | exact ⟨12, rfl⟩ | exact ⟨13, rfl⟩ | exact ⟨14, rfl⟩ | exact ⟨15, rfl⟩ | exact ⟨16, rfl⟩ | exact ⟨17, rfl⟩ | exact ⟨18, rfl⟩ | assumption)
local macro_rules | `(tactic| fail "up") => `(tactic| first | exact ⟨0, rfl, rfl⟩ | exact ⟨1, rfl, rfl⟩ | exact ⟨2, rfl, rfl⟩ | exact ⟨3, rfl, rfl⟩ | exact ⟨4, rfl, rfl⟩ | exact ⟨5, rfl, rfl⟩ | exact ⟨6, rfl, rfl⟩ | exact ⟨7, rfl, rfl⟩ | exact ⟨8, rfl, rfl⟩ | exact ⟨9, rfl, rfl⟩ | exact ⟨10, rfl, rfl⟩ | exact ⟨11, rfl, rfl⟩ | exact ⟨12, rfl, rfl⟩ | exact ⟨13, rfl, rfl⟩ | exact ⟨14, rfl, rfl⟩ | exact ⟨15, rfl, rfl⟩ | exact ⟨16, rfl, rfl⟩ | assumption)
local macro_rules | `(tactic| fail "lkF") => `(tactic| first | assumption | exact fz_at 0 (by fail "nd") rfl rfl | exact fz_at 1 (by fail "nd") rfl rfl | exact fz_at 2 (by fail "nd") rfl rfl | exact fz_at 3 (by fail "nd") rfl rfl | exact fz_at 4 (by fail "nd") rfl rfl | exact fz_at 5 (by fail "nd") rfl rfl | exact fz_at 6 (by fail "nd") rfl rfl | exact fz_at 7 (by fail "nd") rfl rfl)
local macro_rules | `(tactic| fail "lkD") => `(tactic| first | assumption | exact dz_at 0 (by fail "nd") rfl rfl | exact dz_at 1 (by fail "nd") rfl rfl | exact dz_at 2 (by fail "nd") rfl rfl | exact dz_at 3 (by fail "nd") rfl rfl | exact dz_at 4 (by fail "nd") rfl rfl)
local macro_rules | `(tactic| fail "ptF") => `(tactic| first | assumption | exact fz_put 0 (by fail "nd") rfl (Nat.le_of_ble_eq_true rfl) | exact fz_put 1 (by fail "nd") rfl (Nat.le_of_ble_eq_true rfl) | exact fz_put 2 (by fail "nd") rfl (Nat.le_of_ble_eq_true rfl) | exact fz_put 3 (by fail "nd") rfl (Nat.le_of_ble_eq_true rfl) | exact fz_put 4 (by fail "nd") rfl (Nat.le_of_ble_eq_true rfl) | exact fz_put 5 (by fail "nd") rfl (Nat.le_of_ble_eq_true rfl) | exact fz_put 6 (by fail "nd") rfl (Nat.le_of_ble_eq_true rfl) | exact fz_put 7 (by fail "nd") rfl (Nat.le_of_ble_eq_true rfl) | exact fz_new (by decide +kernel) rfl)
local macro_rules | `(tactic| fail "ptD") => `(tactic| first | assumption | exact dz_put 0 (by fail "nd") rfl (Nat.le_of_ble_eq_true rfl) | exact dz_put 1 (by fail "nd") rfl (Nat.le_of_ble_eq_true rfl) | exact dz_put 2 (by fail "nd") rfl (Nat.le_of_ble_eq_true rfl) | exact dz_put 3 (by fail "nd") rfl (Nat.le_of_ble_eq_true rfl) | exact dz_put 4 (by fail "nd") rfl (Nat.le_of_ble_eq_true rfl))
local macro_rules | `(tactic| fail "sz") => `(tactic| first | assumption | exact (Nat.le_of_ble_eq_true rfl) | omega | decide)
local macro_rules | `(tactic| fail "sd") => `(tactic| first | rfl | assumption | decide | omega | (dsimp only; first | decide | omega) | exact .inr ⟨by decide, by decide⟩ | exact .inl ⟨by decide, by decide⟩ | exact ⟨by omega, by omega⟩ | exact .inl ⟨by omega, by omega⟩ | exact .inr ⟨by omega, by omega⟩ | exact ⟨by omega, by omega, by omega⟩)
local macro_rules | `(tactic| fail "cl") => `(tactic| (clear hH; dsimp only [List.set, List.cons_append, List.nil_append, List.append] at hL))
local macro_rules | `(tactic| fail "gn") => `(tactic| (intro p hp; generalize hH : upd H p _ = H; replace hL := Led.newH hL hp hH; clear hH hp))
local macro_rules | `(tactic| fail "gup") => `(tactic| (generalize hH : upd H _ _ = H; replace hL := Led.upU hL (by fail "up") hH; fail "cl"))
local macro_rules | `(tactic| fail "gmk") => `(tactic| (intro x dx hx hd ne; generalize hH : upd (upd H dx _) x _ = H; replace hL := Led.made hL hx hd ne hH; clear hH hx hd ne))
local macro_rules | `(tactic| fail "v") => `(tactic| refine ⟨_, rfl, ?_⟩)
local macro_rules | `(tactic| fail "i2") => `(tactic| refine ⟨_, _, rfl, rfl, ?_⟩)
local macro_rules | `(tactic| fail "go1") => `(tactic| first
  | refine ⟨_, rfl, ?_⟩
  | refine ⟨_, _, rfl, rfl, ?_⟩
  | refine ⟨_, _, rfl, ?_⟩
  | refine iteT ?_
  | refine iteF ?_
  | refine k_fld hL (by fail "ix") (by assumption) (by assumption) (by fail "lkF") ?_
  | refine k_dgetS hL (by fail "ix") (by fail "lkD") ?_
  | refine k_dgetI hL (by fail "ix") (by assumption) ?_
  | refine k_ixL hL (by fail "ix") (by first | rfl | assumption) ?_
  | refine k_ixT hL (by fail "ix") (by first | rfl | assumption) ?_
  | refine k_tyL hL (by fail "ix") ?_
  | refine k_isd hL (by fail "ix") ?_
  | (refine And.intro (by fail "sz") ?_; fail "gn")
  | refine And.intro (by fail "sd") ?_
  | fail "gn"
  | refine k_meth hL (by fail "ix") (by first | assumption | exact fz_no (by decide +kernel)) ?_
  | refine k_gtup hL (by fail "ix") rfl ?_
  | (refine k_popI hL (by fail "ix") (by assumption) ?_; fail "gup")
  | (refine k_listD hL (by fail "ix") ?_; fail "gn")
  | (refine ⟨_, _, _, _, rfl, rfl, hL.at (by fail "ix"), rfl, ?_⟩; fail "gup")
  | (refine ⟨_, _, _, rfl, rfl, hL.at (by fail "ix"), (by fail "sz"), ?_⟩; fail "gup")
  | (refine ⟨_, _, _, _, rfl, hL.at (by fail "ix"), by assumption, by assumption, Nat.lt_of_le_of_lt fz_len (by decide), ?_⟩; generalize hH : upd H _ _ = H; replace hL := Led.upF hL (by fail "up") (by fail "ptF") hH; fail "cl")
  | (refine ⟨_, _, hL.at (by fail "ix"), Nat.lt_of_le_of_lt fz_len (by decide), ?_⟩; generalize hH : upd H _ _ = H; replace hL := Led.upF hL (by fail "up") (by fail "ptF") hH; fail "cl")
  | (refine k_dputS hL (by fail "ix") (Nat.lt_of_le_of_lt dz_len (by decide)) (by fail "ptD") (by fail "up") ?_; clear hL; intro H hL; dsimp only [List.set, List.cons_append, List.nil_append, List.append] at hL)
  | refine k_lenL2 hL (by fail "ix") ?_
  | refine k_lenT2 hL (by fail "ix") ?_
  | refine .inl ⟨_, rfl, ?_⟩
  | refine .inr ⟨_, rfl, ?_⟩)
local macro_rules | `(tactic| fail "go") => `(tactic| repeat fail "go1")
local macro_rules | `(tactic| fail "pm") => `(tactic| (refine Led.le hL (fun a_ => ?_); simp only [cnt_nil, cnt_cons, cnt_app, List.map_append, List.map_cons, List.map_nil, List.flatMap_append, List.flatMap_cons, List.flatMap_nil, List.append_assoc, List.cons_append, List.nil_append]; omega))

section
variable {P : Program} {w : World} {K : PySem.W.Frag} {mg : Str → Option Value} {base : Heap} {CU CW PN PU PL : Addr} {f cL : Addr} {A : Around} {outer : List Env} {s0 : Shared} {H0 : Hp} {E : XK}
def tK7 : TS := fun D σ H => ∃ (d : Addr) (a b c : Int) (L : Lg), σ[1]? = some (some (.ref d)) ∧ σ.length = 23 ∧ Led H ((d, dD a b c) :: L) ∧
  ∀ (q : Addr) (xs : List V) (ds : List Dv) (Z : Lg) (a b c : Int) H', ds.length ≤ 4 → LVs 2 ds → DLs Z xs ds → Led H' ((q, .lst xs) :: (d, dD a b c) :: (Z ++ L)) → D.nx (σ.set 7 (some (.ref q))) H'
theorem st_k7 (hr : Room 175 (LX P w K mg base f (.ref cL) A outer s0 H0 E).A) (T : TxtLw mg) (c__law_roll : Cal P w K mg base 3 "_law_roll" (spRollN B20) []) (c__law_value : Cal P w K mg base 10 "_law_value" (spLVal 6) []) : PS (LX P w K mg base f (.ref cL) A outer s0 H0 E) (nth diceB 7) tK7 := by
  refine ps_imp (t := _) (ps_set (i := 7) scLaw.nd rfl (Or.inr rfl) (pe_lc (own := [("k", 8)]) (g := gName 8) (by rfl) scLaw.nd (pi_range1 (by rfl) T.range (pa_cons (pe_c c__law_roll hr (by decide) (by rfl) (pa_cons (pv 1) (pa_cons pe_int pa_nil))) pa_nil)) (blkOk_by (own := [("k", 8)]) (N := ["script", "dice", "value", "data", "place", "bent", "told_now", "values", "k", "whole", "ends", "one", "cut", "found", "many", "kept", "spot", "number", "drawn", "deep", "levels", "turn", "bad"]) (sc := (defScope sLaw)) (by decide +kernel)) (fun _ _ _ _ _ => (pg_name (i := 8) scLaw.nd rfl (Or.inl rfl))) (fun _ _ _ _ _ => pts_nil) (fun _ _ _ _ _ => (pe_c c__law_value hr (by decide) (by rfl) (pa_cons (pv 1) (pa_cons pe_int pa_nil)))))) ?_
  rintro D σ H ⟨d, a, b, c, L, hs1, hsl, hL, kk⟩
  match σ, hs1, hsl with
  | [v0, v1, v2, v3, v4, v5, v6, v7, v8, v9, v10, v11, v12, v13, v14, v15, v16, v17, v18, v19, v20, v21, v22], hs1, _ =>
  cases hs1
  fail "go"
  refine ⟨d, a, b, c, 5, L, rfl, hL, by decide, by decide, fun r1 a b c H h1 h2 hL2 => ?_⟩
  clear hL
  fail "go"
  refine (show ∀ D1 : Addr, _ from ?_)
  intro D1 hD
  refine lc_range (lo := 0) (n := r1.toNat) (fun i H => Hold (∃ (vs : List V) (ds : List Dv) (Z : Lg) (a b c : Int), ds.length = i ∧ LVs 2 ds ∧ DLs Z vs ds ∧ Led H ((D1, .lst vs) :: (d, dD a b c) :: (Z ++ L)))) (.mk ⟨[], [], [], a, b, c, rfl, .nil 2, .nil, hL2.new hD⟩) (fun i H hi q => ?_) (fun H q => ?_)
  · clear hL2 hD
    obtain ⟨vs, ds, Z, a, b, c, hz, hv, hd, hL⟩ := q.out
    clear q
    refine ⟨rfl, k_yes ?_⟩
    fail "go"
    refine ⟨d, a, b, c, 2, (D1, .lst vs) :: (Z ++ L), rfl, hL.perm (List.Perm.swap _ _ _), by omega, fun v dv Z2 a b c H hv2 hd2 hL2 => ?_⟩
    clear hL
    have hB : Led H ((D1, .lst vs) :: (d, dD a b c) :: ((Z2 ++ Z) ++ L)) := hL2.le (fun a_ => by
      simp only [cnt_cons, cnt_app]
      omega)
    refine ⟨_, hB.at ⟨0, rfl⟩, by rw [hd.len, hz]; exact Nat.lt_of_lt_of_le (show i < 5 by omega) (by decide), ?_⟩
    exact .mk ⟨vs ++ [v], ds ++ [dv], Z2 ++ Z, a, b, c, by rw [List.length_append, hz]; rfl, hv.snoc hv2, ds_snoc2 (hd2.mono fun x h => List.mem_append_left _ h) (hd.mono fun x h => List.mem_append_right _ h), hB.set 0 rfl⟩
  · clear hL2 hD
    obtain ⟨vs, ds, Z, a, b, c, hz, hv, hd, hL⟩ := q.out
    clear q
    fail "go"
    exact kk D1 vs ds Z a b c _ (by omega) hv hd hL
def tK8 : TS := fun D σ H => ∃ (L : Lg), σ.length = 23 ∧ Led H L ∧ ∀ (wt el : Addr) H', Led H' ((el, .lst [.int 0]) :: (wt, tI []) :: L) → D.nx ((σ.set 9 (some (.ref wt))).set 10 (some (.ref el))) H'
theorem st_k8 : PS (LX P w K mg base f (.ref cL) A outer s0 H0 E) (nth diceB 8) tK8 := by
  refine ps_imp (t := _) (ps_asg (pe_tup (pa_cons (pe_tup pa_nil) (pa_cons (pe_lst (pa_cons pe_int pa_nil)) pa_nil))) (pg_tup (by rfl) (pgs_cons (pg_name (i := 9) scLaw.nd rfl (Or.inl rfl)) (pgs_cons (pg_name (i := 10) scLaw.nd rfl (Or.inr rfl)) pgs_nil)))) ?_
  rintro D σ H ⟨L, hsl, hL, kk⟩
  match σ, hsl with
  | [v0, v1, v2, v3, v4, v5, v6, v7, v8, v9, v10, v11, v12, v13, v14, v15, v16, v17, v18, v19, v20, v21, v22], _ =>
  fail "go"
  exact kk _ _ _ hL.tail
def endsV (ds : List Dv) (j : Nat) : List V := (List.range (j + 1)).map fun i => V.int (fl ds i)
def tK9 (PN : Addr) : TS := fun D σ H => ∃ (q wt el : Addr) (xs : List V) (ds : List Dv) (pn : Array Value) (L : Lg), σ[7]? = some (some (.ref q)) ∧ σ[9]? = some (some (.ref wt)) ∧ σ[10]? = some (some (.ref el)) ∧ σ.length = 23 ∧ (q, .lst xs) ∈ L ∧ (wt, tI []) ∈ L ∧ DLs L xs ds ∧ LVs 2 ds ∧ ds.length ≤ 4 ∧ TriplesOk pn.toList ∧ Led H ((el, .lst [.int 0]) :: (PN, .tbl pn) :: L) ∧
  ∀ (wt : Addr) (v11 : Option V) (pn : Array Value) (M : Lg) H', TriplesOk pn.toList → (wt, tI (framesB ds)) ∈ M ++ L → Led H' ((el, .lst (endsV ds ds.length)) :: (PN, .tbl pn) :: (M ++ L)) → D.nx ((σ.set 9 (some (.ref wt))).set 11 v11) H'
theorem st_k9 (hr : Room 175 (LX P w K mg base f (.ref cL) A outer s0 H0 E).A) (T : TxtLw mg) (c_frame : Cal P w K mg base 13 "frame" (spFrame PN 7) []) : PS (LX P w K mg base f (.ref cL) A outer s0 H0 E) (nth diceB 9) (tK9 PN) := by
  refine ps_imp (t := _) (ps_for PassesOwn.never rfl (pi_list (pv 7)) (pg_name (i := 11) scLaw.nd rfl (Or.inl rfl))
  (pss_cons (ps_set (i := 9) scLaw.nd rfl (Or.inl rfl) (pe_op (op_catA) (pv 9) (pe_c c_frame hr (by decide) (by rfl) (pa_cons (pv 11) pa_nil))))
  (pss_one (ps_expr (pe_bm PySem.F.plainAttrs_list PySem.F.slot_list_append PySem.F.type_list_append mt_append (pv 10) (pa_cons (pe_callB call_len_seq (by rfl) T.len (by decide +kernel) (pa_cons (pv 9) pa_nil)) pa_nil)))))) ?_
  rintro D σ H ⟨q, wt, el, xs, ds, pn, L, hs7, hs9, hs10, hsl, hq, hw, hd, hv, h4, ht, hL, kk⟩
  match σ, hs7, hs9, hs10, hsl with
  | [v0, v1, v2, v3, v4, v5, v6, v7, v8, v9, v10, v11, v12, v13, v14, v15, v16, v17, v18, v19, v20, v21, v22], hs7, hs9, hs10, _ =>
  cases hs7
  cases hs9
  cases hs10
  fail "go"
  refine ⟨⟨_, .of (hL.mem (.tail _ (.tail _ hq)))⟩, ?_⟩
  have hlen := hd.len
  refine for_listA (K := K) (a := q) (xs := xs) (fun i σ H => Hold (∃ (wt : Addr) (v11 : Option V) (pn : Array Value) (M : Lg), σ = [v0, v1, v2, v3, v4, v5, v6, some (.ref q), v8, some (.ref wt), some (.ref el), v11, v12, v13, v14, v15, v16, v17, v18, v19, v20, v21, v22] ∧ TriplesOk pn.toList ∧ (wt, tI (framesB (ds.take i))) ∈ M ++ L ∧ Led H ((el, .lst (endsV ds i)) :: (PN, .tbl pn) :: (M ++ L)))) (.mk ⟨wt, v11, pn, [], rfl, ht, hw, hL⟩) (fun i σ H _ h => ?_) (fun i x σ H D' hi h hD' => ?_) (fun σ H h => ?_)
  · obtain ⟨_, _, _, _, _, _, _, hL⟩ := h.out
    exact .of (hL.mem (.tail _ (.tail _ (List.mem_append_right _ hq))))
  · clear hL ht
    obtain ⟨wt, v11, pn, M, rfl, ht, hwm, hL⟩ := h.out
    clear h
    obtain ⟨dd, hdd, hx⟩ := hd.get hi
    have hi4 : i < ds.length := (List.getElem?_eq_some_iff.mp hdd).1
    have hvd := hv.get hdd
    have b1 := hvd.fD
    have b2 := hvd.fL
    rw [bnd2] at b2
    have hfr : framesB (ds.take (i + 1)) = framesB (ds.take i) ++ frameB (packB dd) := frames_take hdd
    have hfl := fl_succ hdd
    have hbig : (framesB (ds.take (i + 1))).length ≤ 344 * (i + 1) := by
      have : ∀ k, k ≤ ds.length → fl ds k ≤ 344 * k := by
        intro k
        induction k with
        | zero => intro _; simp [fl, framesB]
        | succ k ih =>
          intro hk
          have hg := List.getElem?_eq_getElem (show k < ds.length by omega)
          have h3 := (hv.get hg).fL
          rw [bnd2] at h3
          have := ih (by omega)
          rw [fl_succ hg]
          omega
      exact this (i + 1) hi4
    fail "go"
    refine ⟨x, dd, pn, (el, .lst (endsV ds i)) :: (M ++ L), rfl, hL.perm (.swap _ _ _), ht, hx.mono (fun a h => .tail _ (List.mem_append_right _ h)), by omega, by omega, hvd.fS, Nat.le_trans (Nat.add_le_add_right b2 8) (by decide), fun pn r H ht hL2 => ?_⟩
    clear hL
    refine k_catG hL2 (.tail _ (.tail _ (.tail _ hwm))) (.head _) ?_ fun r2 M2 H hL hr2 => ?_
    · rw [List.length_map, List.length_map, ← List.length_append, ← hfr]
      refine Nat.le_trans hbig (Nat.le_trans (Nat.mul_le_mul_left 344 (show i + 1 ≤ 4 by omega)) (by decide))
    clear hL2
    rw [← List.map_append, ← hfr] at hr2
    fail "go"
    have hB : Led H ((el, .lst (endsV ds i)) :: (PN, .tbl pn) :: ((M2 ++ (r, tI (frameB (packB dd))) :: M) ++ L)) := hL.le (fun a_ => by
      simp only [cnt_cons, cnt_app]
      omega)
    have hm2 : (r2, tI (framesB (ds.take (i + 1)))) ∈ (M2 ++ (r, tI (frameB (packB dd))) :: M) ++ L := by
      simp only [List.mem_append, List.mem_cons, Prod.mk.injEq, reduceCtorEq, and_false, false_or, or_assoc, List.append_assoc, List.cons_append] at hr2 ⊢
      exact hr2
    clear hL
    refine ⟨.inl ⟨rfl, _, .of (hB.at ⟨0, rfl⟩)⟩, ?_⟩
    fail "go"
    refine ⟨r2, _, rfl, .inr (.of (hB.mem (.tail _ (.tail _ hm2)))), ?_⟩
    fail "go"
    refine ⟨_, _, _, rfl, rfl, hB.at ⟨0, rfl⟩, ?_, ?_⟩
    · unfold endsV
      rw [List.length_map, List.length_range]
      exact Nat.lt_of_le_of_lt (show i + 1 ≤ 4 by omega) (by decide)
    refine hD'.nx _ _ (.mk ⟨r2, some x, pn, M2 ++ (r, tI (frameB (packB dd))) :: M, rfl, ht, hm2, ?_⟩)
    have e9 : endsV ds (i + 1) = endsV ds i ++ [V.int (((framesB (ds.take (i + 1))).map V.int).length : Nat)] := by
      unfold endsV
      rw [List.range_succ, List.map_append, List.length_map]
      rfl
    rw [e9]
    exact hB.set 0 rfl
  · clear hL ht
    obtain ⟨wt, v11, pn, M, rfl, ht, hwm, hL⟩ := h.out
    clear h
    rw [hlen, List.take_length] at hwm
    rw [hlen] at hL
    exact kk wt v11 pn M H ht hwm hL
end
end Sd


set_option linter.unusedVariables false
namespace Sd
open PySem L2 LamX NdefX PyProof.Rows Mx
open C8 (Cal Met Mak pe_c pe_mk pe_mt pe_mt0 pss_cut tCut)
-- NPAT 23
-- TYPES NOCELL=one,SLA=yes,_law_same()=bool,_law_value()=any,found=list,kept=list
set_option linter.unusedSimpArgs false
set_option pp.deepTerms false
set_option pp.deepTerms.threshold 12
set_option hygiene false
local macro_rules | `(tactic| fail "nd") => `(tactic| first | assumption | decide +kernel)
local macro_rules | `(tactic| fail "ix") => `(tactic| first | exact ⟨0, rfl⟩ | exact ⟨1, rfl⟩ | exact ⟨2, rfl⟩ | exact ⟨3, rfl⟩ | exact ⟨4, rfl⟩ | exact ⟨5, rfl⟩ | exact ⟨6, rfl⟩ | exact ⟨7, rfl⟩ | exact ⟨8, rfl⟩ | exact ⟨9, rfl⟩ | exact ⟨10, rfl⟩ | exact ⟨11, rfl⟩ | exact ⟨12, rfl⟩ | exact ⟨13, rfl⟩ | exact ⟨14, rfl⟩ | exact ⟨15, rfl⟩ | exact ⟨16, rfl⟩ | exact ⟨17, rfl⟩ | exact ⟨18, rfl⟩ | assumption)
local macro_rules | `(tactic| fail "up") => `(tactic| first | exact ⟨0, rfl, rfl⟩ | exact ⟨1, rfl, rfl⟩ | exact ⟨2, rfl, rfl⟩ | exact ⟨3, rfl, rfl⟩ | exact ⟨4, rfl, rfl⟩ | exact ⟨5, rfl, rfl⟩ | exact ⟨6, rfl, rfl⟩ | exact ⟨7, rfl, rfl⟩ | exact ⟨8, rfl, rfl⟩ | exact ⟨9, rfl, rfl⟩ | exact ⟨10, rfl, rfl⟩ | exact ⟨11, rfl, rfl⟩ | exact ⟨12, rfl, rfl⟩ | exact ⟨13, rfl, rfl⟩ | exact ⟨14, rfl, rfl⟩ | exact ⟨15, rfl, rfl⟩ | exact ⟨16, rfl, rfl⟩ | assumption)
local macro_rules | `(tactic| fail "lkF") => `(tactic| first | assumption | exact fz_at 0 (by fail "nd") rfl rfl | exact fz_at 1 (by fail "nd") rfl rfl | exact fz_at 2 (by fail "nd") rfl rfl | exact fz_at 3 (by fail "nd") rfl rfl | exact fz_at 4 (by fail "nd") rfl rfl | exact fz_at 5 (by fail "nd") rfl rfl | exact fz_at 6 (by fail "nd") rfl rfl | exact fz_at 7 (by fail "nd") rfl rfl)
local macro_rules | `(tactic| fail "lkD") => `(tactic| first | assumption | exact dz_at 0 (by fail "nd") rfl rfl | exact dz_at 1 (by fail "nd") rfl rfl | exact dz_at 2 (by fail "nd") rfl rfl | exact dz_at 3 (by fail "nd") rfl rfl | exact dz_at 4 (by fail "nd") rfl rfl)
local macro_rules | `(tactic| fail "ptF") => `(tactic| first | assumption | exact fz_put 0 (by fail "nd") rfl (Nat.le_of_ble_eq_true rfl) | exact fz_put 1 (by fail "nd") rfl (Nat.le_of_ble_eq_true rfl) | exact fz_put 2 (by fail "nd") rfl (Nat.le_of_ble_eq_true rfl) | exact fz_put 3 (by fail "nd") rfl (Nat.le_of_ble_eq_true rfl) | exact fz_put 4 (by fail "nd") rfl (Nat.le_of_ble_eq_true rfl) | exact fz_put 5 (by fail "nd") rfl (Nat.le_of_ble_eq_true rfl) | exact fz_put 6 (by fail "nd") rfl (Nat.le_of_ble_eq_true rfl) | exact fz_put 7 (by fail "nd") rfl (Nat.le_of_ble_eq_true rfl) | exact fz_new (by decide +kernel) rfl)
local macro_rules | `(tactic| fail "ptD") => `(tactic| first | assumption | exact dz_put 0 (by fail "nd") rfl (Nat.le_of_ble_eq_true rfl) | exact dz_put 1 (by fail "nd") rfl (Nat.le_of_ble_eq_true rfl) | exact dz_put 2 (by fail "nd") rfl (Nat.le_of_ble_eq_true rfl) | exact dz_put 3 (by fail "nd") rfl (Nat.le_of_ble_eq_true rfl) | exact dz_put 4 (by fail "nd") rfl (Nat.le_of_ble_eq_true rfl))
local macro_rules | `(tactic| fail "sz") => `(tactic| first | assumption | exact (Nat.le_of_ble_eq_true rfl) | omega | decide)
local macro_rules | `(tactic| fail "sd") => `(tactic| first | rfl | assumption | decide | omega | (dsimp only; first | decide | omega) | exact .inr ⟨by decide, by decide⟩ | exact .inl ⟨by decide, by decide⟩ | exact ⟨by omega, by omega⟩ | exact .inl ⟨by omega, by omega⟩ | exact .inr ⟨by omega, by omega⟩ | exact ⟨by omega, by omega, by omega⟩)
local macro_rules | `(tactic| fail "cl") => `(tactic| (clear hH; dsimp only [List.set, List.cons_append, List.nil_append, List.append] at hL))
local macro_rules | `(tactic| fail "gn") => `(tactic| (intro p hp; generalize hH : upd H p _ = H; replace hL := Led.newH hL hp hH; clear hH hp))
local macro_rules | `(tactic| fail "gup") => `(tactic| (generalize hH : upd H _ _ = H; replace hL := Led.upU hL (by fail "up") hH; fail "cl"))
local macro_rules | `(tactic| fail "gmk") => `(tactic| (intro x dx hx hd ne; generalize hH : upd (upd H dx _) x _ = H; replace hL := Led.made hL hx hd ne hH; clear hH hx hd ne))
local macro_rules | `(tactic| fail "v") => `(tactic| refine ⟨_, rfl, ?_⟩)
local macro_rules | `(tactic| fail "i2") => `(tactic| refine ⟨_, _, rfl, rfl, ?_⟩)
local macro_rules | `(tactic| fail "go1") => `(tactic| first
  | refine ⟨_, rfl, ?_⟩
  | refine ⟨_, _, rfl, rfl, ?_⟩
  | refine ⟨_, _, rfl, ?_⟩
  | refine iteT ?_
  | refine iteF ?_
  | refine k_fld hL (by fail "ix") (by assumption) (by assumption) (by fail "lkF") ?_
  | refine k_dgetS hL (by fail "ix") (by fail "lkD") ?_
  | refine k_dgetI hL (by fail "ix") (by assumption) ?_
  | refine k_ixL hL (by fail "ix") (by first | rfl | assumption) ?_
  | refine k_ixT hL (by fail "ix") (by first | rfl | assumption) ?_
  | refine k_tyL hL (by fail "ix") ?_
  | refine k_isd hL (by fail "ix") ?_
  | (refine And.intro (by fail "sz") ?_; fail "gn")
  | refine And.intro (by fail "sd") ?_
  | fail "gn"
  | refine k_meth hL (by fail "ix") (by first | assumption | exact fz_no (by decide +kernel)) ?_
  | refine k_gtup hL (by fail "ix") rfl ?_
  | (refine k_popI hL (by fail "ix") (by assumption) ?_; fail "gup")
  | (refine k_listD hL (by fail "ix") ?_; fail "gn")
  | (refine ⟨_, _, _, _, rfl, rfl, hL.at (by fail "ix"), rfl, ?_⟩; fail "gup")
  | (refine ⟨_, _, _, rfl, rfl, hL.at (by fail "ix"), (by fail "sz"), ?_⟩; fail "gup")
  | (refine ⟨_, _, _, _, rfl, hL.at (by fail "ix"), by assumption, by assumption, Nat.lt_of_le_of_lt fz_len (by decide), ?_⟩; generalize hH : upd H _ _ = H; replace hL := Led.upF hL (by fail "up") (by fail "ptF") hH; fail "cl")
  | (refine ⟨_, _, hL.at (by fail "ix"), Nat.lt_of_le_of_lt fz_len (by decide), ?_⟩; generalize hH : upd H _ _ = H; replace hL := Led.upF hL (by fail "up") (by fail "ptF") hH; fail "cl")
  | (refine k_dputS hL (by fail "ix") (Nat.lt_of_le_of_lt dz_len (by decide)) (by fail "ptD") (by fail "up") ?_; clear hL; intro H hL; dsimp only [List.set, List.cons_append, List.nil_append, List.append] at hL)
  | refine k_lenL2 hL (by fail "ix") ?_
  | refine k_lenT2 hL (by fail "ix") ?_
  | refine .inl ⟨_, rfl, ?_⟩
  | refine .inr ⟨_, rfl, ?_⟩)
local macro_rules | `(tactic| fail "go") => `(tactic| repeat fail "go1")
local macro_rules | `(tactic| fail "pm") => `(tactic| (refine Led.le hL (fun a_ => ?_); simp only [cnt_nil, cnt_cons, cnt_app, List.map_append, List.map_cons, List.map_nil, List.flatMap_append, List.flatMap_cons, List.flatMap_nil, List.append_assoc, List.cons_append, List.nil_append]; omega))

def intsV (j : Nat) : List V := (List.range j).map fun i : Nat => V.int i
theorem intsV_succ {j : Nat} : intsV (j + 1) = intsV j ++ [V.int j] := by
  unfold intsV
  rw [List.range_succ, List.map_append]
  rfl
theorem intsV_len {j : Nat} : (intsV j).length = j := by
  unfold intsV
  rw [List.length_map, List.length_range]
theorem ends_get {ds : List Dv} {n k : Nat} (h : k ≤ n) : (endsV ds n)[k]? = some (V.int (fl ds k)) := by
  unfold endsV
  rw [List.getElem?_map, List.getElem?_range (by omega)]
  rfl
theorem ends_len {ds : List Dv} {n : Nat} : (endsV ds n).length = n + 1 := by
  unfold endsV
  rw [List.length_map, List.length_range]
section
variable {P : Program} {w : World} {K : PySem.W.Frag} {mg : Str → Option Value} {base : Heap} {CU CW PN PU PL : Addr} {f cL : Addr} {A : Around} {outer : List Env} {s0 : Shared} {H0 : Hp} {E : XK}
def tK10 : TS := fun D σ H => ∃ (d wt : Addr) (bs : List Int) (a b c : Int) (L : Lg), σ[1]? = some (some (.ref d)) ∧ σ[9]? = some (some (.ref wt)) ∧ σ.length = 23 ∧ (wt, tI bs) ∈ L ∧ bs.length < 1000000 ∧ Led H ((d, dD a b c) :: L) ∧
  ∀ (p : Nat) (a b c : Int) H', p ≤ bs.length → Led H' ((d, dD a b c) :: L) → D.nx (σ.set 12 (some (.int p))) H'
theorem st_k10 (hr : Room 175 (LX P w K mg base f (.ref cL) A outer s0 H0 E).A) (T : TxtLw mg) (c__law_roll : Cal P w K mg base 3 "_law_roll" (spRollN B20) []) : PS (LX P w K mg base f (.ref cL) A outer s0 H0 E) (nth diceB 10) tK10 := by
  refine ps_imp (t := _) (ps_set (i := 12) scLaw.nd rfl (Or.inr rfl) (pe_c c__law_roll hr (by decide) (by rfl) (pa_cons (pv 1) (pa_cons (pe_op op_add (pe_callB call_len_seq (by rfl) T.len (by decide +kernel) (pa_cons (pv 9) pa_nil)) pe_int) pa_nil)))) ?_
  rintro D σ H ⟨d, r, bs, a, b, c, L, hs1, hs3, hsl, hm, hz, hL, kk⟩
  match σ, hs1, hs3, hsl with
  | [v0, v1, v2, v3, v4, v5, v6, v7, v8, v9, v10, v11, v12, v13, v14, v15, v16, v17, v18, v19, v20, v21, v22], hs1, hs3, _ =>
  cases hs1
  cases hs3
  fail "go"
  refine ⟨r, _, rfl, .inr (.of (hL.mem (.tail _ hm))), ?_⟩
  fail "go"
  have hb : B20 = 100000000000000000000 := by decide +kernel
  refine ⟨d, a, b, c, _, L, rfl, hL, by omega, by rw [List.length_map, hb]; omega, fun p a b c H h0 h1 hL => ?_⟩
  rw [List.length_map] at h1
  obtain ⟨n, rfl⟩ : ∃ n : Nat, p = n := ⟨p.toNat, by omega⟩
  fail "go"
  exact kk n a b c _ (by omega) hL
def tK11 (PU : Addr) : TS := fun D σ H => ∃ (wt : Addr) (ds : List Dv) (c : Nat) (pu : Array Value) (L : Lg), σ[9]? = some (some (.ref wt)) ∧ σ[12]? = some (some (.int c)) ∧ σ.length = 23 ∧ (wt, tI (framesB ds)) ∈ L ∧ c ≤ (framesB ds).length ∧ LVs 2 ds ∧ ds.length ≤ 4 ∧ TriplesOk pu.toList ∧ Led H ((PU, .tbl pu) :: L) ∧
  ∀ (j : Nat) (fo : Addr) (xs : List V) (Z : Lg) (pu : Array Value) H', j ≤ ds.length → fl ds j ≤ c → (j < ds.length → c < fl ds (j + 1)) → DFs Z xs (ds.take j) → TriplesOk pu.toList → Led H' ((fo, .lst xs) :: (PU, .tbl pu) :: (Z ++ L)) → D.nx ((σ.set 13 (some (.ref fo))).set 14 (some (.int (fl ds j)))) H'
theorem lvs_mem {e : Nat} {ds : List Dv} (h : LVs e ds) : ∀ d ∈ ds, LV e d := fun d hd => by
  obtain ⟨i, hi⟩ := List.mem_iff_getElem?.mp hd
  exact h.get hi
theorem st_k11 (hr : Room 175 (LX P w K mg base f (.ref cL) A outer s0 H0 E).A) (c_read_frames : Cal P w K mg base (6 + 5 * 7) "read_frames" (spReadFB CU PU 7) []) : PS (LX P w K mg base f (.ref cL) A outer s0 H0 E) (nth diceB 11) (tK11 PU) := by
  refine ps_imp (t := _) (ps_asg (pe_c c_read_frames hr (by decide) (by rfl) (pa_cons (pe_slice sl_tupA (pv 9) po_none (po_some (pv 12))) pa_nil)) (pg_tup (by rfl) (pgs_cons (pg_name (i := 13) scLaw.nd rfl (Or.inr rfl)) (pgs_cons (pg_name (i := 14) scLaw.nd rfl (Or.inl rfl)) pgs_nil)))) ?_
  rintro D σ H ⟨wt, ds, c, pu, L, hs9, hs12, hsl, hm, hc, hv, h4, ht, hL, kk⟩
  match σ, hs9, hs12, hsl with
  | [v0, v1, v2, v3, v4, v5, v6, v7, v8, v9, v10, v11, v12, v13, v14, v15, v16, v17, v18, v19, v20, v21, v22], hs9, hs12, _ =>
  cases hs9
  cases hs12
  have hlv := lvs_mem hv
  have hbd : ∀ d ∈ ds, deep d < 7 ∧ deep d ≤ 30 ∧ sendable d ∧ (packB d).length + 8 ≤ sizeLine := fun d hd => by
    have h1 := (hlv d hd).fD
    have h2 := (hlv d hd).fL
    rw [bnd2] at h2
    exact ⟨by omega, by omega, (hlv d hd).fS, Nat.le_trans (Nat.add_le_add_right h2 8) (by decide)⟩
  obtain ⟨j, tail, hj, he, hcut, hf1, hf2⟩ := cut_frames hc (fun d hd => by
    have h2 := (hlv d hd).fL
    rw [bnd2] at h2
    omega)
  fail "go"
  refine k_sliG hL (.tail _ hm) fun r M H hL hr => ?_
  rw [cut_lo, he] at hr
  replace hL := hL.perm (List.perm_middle)
  have hr2 : (r, tI (framesB (ds.take j) ++ tail)) ∈ M ++ L := by
    simp only [List.mem_append, List.mem_cons, Prod.mk.injEq, reduceCtorEq, and_false, false_or] at hr ⊢
    exact hr
  fail "go"
  refine ⟨r, ds.take j, tail, pu, M ++ L, rfl, hL, ht, hr2, (fun d hd => hbd d (List.mem_of_mem_take hd)), Nat.lt_of_le_of_lt (show (ds.take j).length ≤ 4 by rw [List.length_take]; omega) (by decide), .inl hcut, fun t l vs Z pu H ht hd hL => ?_⟩
  refine k_gtup hL ⟨0, rfl⟩ rfl ?_
  refine ⟨V.ref l, [.int (fl ds j)], rfl, V.int (fl ds j), [], rfl, rfl, ?_⟩
  exact kk j l vs (Z ++ M) pu H hj hf1 hf2 (hd.mono fun a h => List.mem_append_left _ h) ht (hL.le (fun a_ => by
    simp only [cnt_cons, cnt_app]
    omega))
def tK12 : TS := fun D σ H => ∃ (q el : Addr) (xs : List V) (ds : List Dv) (c j : Nat) (L : Lg), σ[7]? = some (some (.ref q)) ∧ σ[10]? = some (some (.ref el)) ∧ σ[12]? = some (some (.int c)) ∧ σ.length = 23 ∧ (q, .lst xs) ∈ L ∧ (el, .lst (endsV ds ds.length)) ∈ L ∧ xs.length = ds.length ∧ ds.length ≤ 4 ∧ j ≤ ds.length ∧ fl ds j ≤ c ∧ (j < ds.length → c < fl ds (j + 1)) ∧ Led H L ∧
  ∀ (ke : Addr) H', Led H' ((ke, .lst (intsV j)) :: L) → D.nx (σ.set 15 (some (.ref ke))) H'
theorem st_k12 (T : TxtLw mg) : PS (LX P w K mg base f (.ref cL) A outer s0 H0 E) (nth diceB 12) tK12 := by
  refine ps_imp (t := _) (ps_setLc (i := 15) (own := [("k", 8)]) (g := gName 8) (by rfl) scLaw.nd rfl rfl (sw_true rfl rfl rfl (by decide +kernel)) (pi_range1 (by rfl) T.range (pa_cons (pe_callB call_len_seq (by rfl) T.len (by decide +kernel) (pa_cons (pv 7) pa_nil)) pa_nil)) (blkOk_by (own := [("k", 8)]) (N := ["script", "dice", "value", "data", "place", "bent", "told_now", "values", "k", "whole", "ends", "one", "cut", "found", "many", "kept", "spot", "number", "drawn", "deep", "levels", "turn", "bad"]) (sc := (defScope sLaw)) (by decide +kernel)) (fun _ _ _ _ _ => (pg_name (i := 8) scLaw.nd rfl (Or.inl rfl))) (fun _ _ _ _ _ => (pts_one (pt_cmpR op_le (pe_ix ix_listB (pv 10) (pe_op op_add (pv 8) pe_int) (fun _ _ => rfl)) (pv 12) (nomark _)))) (fun _ _ _ _ _ => (pv 8))) ?_
  rintro D σ H ⟨q, el, xs, ds, c, j, L, hs7, hs10, hs12, hsl, hq, hel, hxl, h4, hj, hf1, hf2, hL, kk⟩
  match σ, hs7, hs10, hs12, hsl with
  | [v0, v1, v2, v3, v4, v5, v6, v7, v8, v9, v10, v11, v12, v13, v14, v15, v16, v17, v18, v19, v20, v21, v22], hs7, hs10, hs12, _ =>
  cases hs7
  cases hs10
  cases hs12
  fail "go"
  refine ⟨q, _, rfl, .inl (.of (hL.mem hq)), ?_⟩
  rw [hxl]
  have hL0 := hL
  clear hL
  fail "go"
  refine (show ∀ D1 : Addr, _ from ?_)
  intro p hD
  refine lc_range (lo := 0) (n := ((ds.length : Nat) : Int).toNat) (fun i H => Hold (Led H ((p, .lst (intsV (min i j))) :: L))) (.mk (hL0.new hD)) (fun i H hi q => ?_) (fun H q => ?_)
  · clear hL0 hD
    have hL := q.out
    clear q
    have hi : i < ds.length := by omega
    refine ⟨rfl, ?_⟩
    fail "go"
    refine ⟨_, _, _, V.int (fl ds (i + 1)), rfl, rfl, .of (hL.mem (.tail _ hel)), ?_, ?_⟩
    · rw [show (0 : Int) + (i : Int) + 1 = ((i + 1 : Nat) : Int) by push_cast; omega]
      exact atI_nat (ends_get (by omega))
    fail "go"
    by_cases hij : i < j
    · have h1 := fl_mono (vs := ds) (show i + 1 ≤ j from hij) hj
      rw [decide_eq_true (show ((fl ds (i + 1) : Nat) : Int) ≤ (c : Int) by omega)]
      fail "go"
      rw [show min i j = i by omega] at hL
      refine ⟨_, hL.mem (.head _), by rw [intsV_len]; exact Nat.lt_of_lt_of_le (show i < 4 by omega) (by decide), .mk ?_⟩
      have e9 : intsV (min (i + 1) j) = intsV i ++ [V.int (0 + (i : Int))] := by
        rw [show min (i + 1) j = i + 1 by omega, intsV_succ, Int.zero_add]
      rw [e9]
      exact hL.set 0 rfl
    · have h1 := fl_mono (vs := ds) (show j + 1 ≤ i + 1 by omega) (show i + 1 ≤ ds.length by omega)
      have h2 := hf2 (by omega)
      rw [decide_eq_false (show ¬ ((fl ds (i + 1) : Nat) : Int) ≤ (c : Int) by omega)]
      fail "go"
      rw [show min i j = j by omega] at hL
      refine .mk ?_
      rw [show min (i + 1) j = j by omega]
      exact hL
  · clear hL0 hD
    have hL := q.out
    clear q
    rw [show min ((ds.length : Nat) : Int).toNat j = j by omega] at hL
    exact kk _ _ hL
def tK13 : TS := fun D σ H => ∃ (q el fo ke : Addr) (xs ys : List V) (ds : List Dv) (j : Nat) (L : Lg), σ[7]? = some (some (.ref q)) ∧ σ[10]? = some (some (.ref el)) ∧ σ[13]? = some (some (.ref fo)) ∧ σ[14]? = some (some (.int (fl ds j))) ∧ σ[15]? = some (some (.ref ke)) ∧ σ.length = 23 ∧ (q, .lst xs) ∈ L ∧ (el, .lst (endsV ds ds.length)) ∈ L ∧ (fo, .lst ys) ∈ L ∧ (ke, .lst (intsV j)) ∈ L ∧ DLs L xs ds ∧ DLs L ys (ds.take j) ∧ LVs 2 ds ∧ ds.length ≤ 4 ∧ j ≤ ds.length ∧ Led H L ∧
  ∀ H', Led H' L → D.nx σ H'
theorem st_k13 (hr : Room 175 (LX P w K mg base f (.ref cL) A outer s0 H0 E).A) (T : TxtLw mg) (c__law_same : Cal P w K mg base 7 "_law_same" (spLSame 6) []) : PS (LX P w K mg base f (.ref cL) A outer s0 H0 E) (nth diceB 13) tK13 := by
  refine ps_imp (t := _) (ps_if (PW.pt (pw_or (pt_cmpR op_ne (pe_callB call_len_seq (by rfl) T.len (by decide +kernel) (pa_cons (pv 13) pa_nil)) (pe_callB call_len_seq (by rfl) T.len (by decide +kernel) (pa_cons (pv 15) pa_nil)) (nomark _)) (pw_or (pt_cmpR (op_neP hr.units) (pe_lc (own := [("k", 8)]) (g := gName 8) (by rfl) scLaw.nd (pi_list (pv 15)) (blkOk_by (own := [("k", 8)]) (N := ["script", "dice", "value", "data", "place", "bent", "told_now", "values", "k", "whole", "ends", "one", "cut", "found", "many", "kept", "spot", "number", "drawn", "deep", "levels", "turn", "bad"]) (sc := (defScope sLaw)) (by decide +kernel)) (fun _ _ _ _ _ => (pg_name (i := 8) scLaw.nd rfl (Or.inl rfl))) (fun _ _ _ _ _ => (pts_one (pt_not (pt_val (pe_c c__law_same hr (by decide) (by rfl) (pa_cons (pe_ix ix_listB (pv 13) (pv 8) (fun _ _ => rfl)) (pa_cons (pe_ix ix_listB (pv 7) (pv 8) (fun _ _ => rfl)) pa_nil))))))) (fun _ _ _ _ _ => (pv 8))) (pe_lst pa_nil) (nomark _)) (pw_or1 (pt_cmpR op_ne (pv 14) (pe_ix ix_list (pv 10) (pe_callB call_len_seq (by rfl) T.len (by decide +kernel) (pa_cons (pv 15) pa_nil)) (fun _ _ => rfl)) (nomark _))))))
  (pss_one (ps_ret pe_bl))
  pss_nil) ?_
  rintro D σ H ⟨q, el, fo, ke, xs, ys, ds, j, L, hs7, hs10, hs13, hs14, hs15, hsl, hq, hel, hfo, hke, hd, hdy, hv, h4, hj, hL, kk⟩
  match σ, hs7, hs10, hs13, hs14, hs15, hsl with
  | [v0, v1, v2, v3, v4, v5, v6, v7, v8, v9, v10, v11, v12, v13, v14, v15, v16, v17, v18, v19, v20, v21, v22], hs7, hs10, hs13, hs14, hs15, _ =>
  cases hs7
  cases hs10
  cases hs13
  cases hs14
  cases hs15
  fail "go"
  refine ⟨fo, _, rfl, .inl (.of (hL.mem hfo)), ?_⟩
  fail "go"
  refine ⟨ke, _, rfl, .inl (.of (hL.mem hke)), ?_⟩
  have e1 : ys.length = j := by rw [hdy.len, List.length_take]; omega
  have hB : (!decide (V.int (ys.length : Nat) = V.int ((intsV j).length : Nat))) = false := by rw [intsV_len, e1]; simp
  fail "go"
  rw [hB]
  fail "go"
  refine ⟨⟨_, .of (hL.mem hke)⟩, fun D1 hD => ?_⟩
  refine lc_list (K := K) (g := gName 8) (vs := [8]) (a := ke) (xs := intsV j) (fun i H => Hold (Led H ((D1, .lst []) :: L))) (.mk (hL.new hD)) (fun i H _ h => .of (h.out.mem (.tail _ hke))) (fun i v H hi h => ?_) (fun H h => ?_)
  · clear hL hD
    have hL := h.out
    clear h
    unfold intsV at hi
    rw [List.getElem?_map] at hi
    obtain ⟨i0, hi0, rfl⟩ := Option.map_eq_some_iff.mp hi
    obtain ⟨hlt, hie⟩ := List.getElem?_eq_some_iff.mp hi0
    rw [List.getElem_range] at hie
    subst hie
    rw [List.length_range] at hlt
    have hdi := List.getElem?_eq_getElem (show i < ds.length by omega)
    obtain ⟨dd, hdd⟩ : ∃ dd, ds[i]? = some dd := ⟨_, hdi⟩
    clear hdi
    obtain ⟨x, hx1, hx2⟩ : ∃ x, xs[i]? = some x ∧ DL L x dd := hd.at hdd
    obtain ⟨y, hy1, hy2⟩ : ∃ y, ys[i]? = some y ∧ DL L y dd := hdy.at (by rw [List.getElem?_take, if_pos hlt]; exact hdd)
    refine ⟨rfl, ?_⟩
    fail "go"
    refine ⟨_, _, _, y, rfl, rfl, .of (hL.mem (.tail _ hfo)), atI_nat hy1, ?_⟩
    fail "go"
    refine ⟨_, _, _, x, rfl, rfl, .of (hL.mem (.tail _ hq)), atI_nat hx1, ?_⟩
    fail "go"
    refine ⟨y, x, 2, dd, _, rfl, hL, hy2.mono (fun a h => .tail _ h), hx2.mono (fun a h => .tail _ h), hv.get hdd, by decide, fun H hL => ?_⟩
    exact ⟨true, rfl, .mk hL⟩
  · clear hL hD
    have hL := h.out
    clear h
    fail "go"
    refine k_neSame (d := .list []) (dp_lst (hL.mem (.tail _ (.head _))) .nil) (dp_lst (hL.mem (.head _)) .nil) ⟨by simp [PyData.plain, PyData.plainAll], by simp [PyData.depth, PyData.depthAll]⟩ ?_
    fail "go"
    refine ⟨ke, _, rfl, .inl (.of (hL.mem (.tail _ (.tail _ hke)))), ?_⟩
    rw [intsV_len]
    fail "go"
    refine ⟨_, _, _, V.int (fl ds j), rfl, rfl, .of (hL.mem (.tail _ (.tail _ hel))), atI_nat (ends_get hj), ?_⟩
    fail "go"
    rw [show (!decide (V.int (fl ds j : Nat) = V.int (fl ds j : Nat))) = false by simp]
    fail "go"
    exact kk H hL.tail.tail
end
end Sd


set_option linter.unusedVariables false
namespace Sd
open PySem L2 LamX NdefX PyProof.Rows Mx
open C8 (Cal Met Mak pe_c pe_mk pe_mt pe_mt0 pss_cut tCut)
-- NPAT 23
-- TYPES NOCELL=one,SLA=yes,_law_same()=bool,_law_value()=any,found=list,kept=list,NENIL=yes,read_frames()=tup
set_option linter.unusedSimpArgs false
set_option pp.deepTerms false
set_option pp.deepTerms.threshold 12
set_option hygiene false
local macro_rules | `(tactic| fail "nd") => `(tactic| first | assumption | decide +kernel)
local macro_rules | `(tactic| fail "ix") => `(tactic| first | exact ⟨0, rfl⟩ | exact ⟨1, rfl⟩ | exact ⟨2, rfl⟩ | exact ⟨3, rfl⟩ | exact ⟨4, rfl⟩ | exact ⟨5, rfl⟩ | exact ⟨6, rfl⟩ | exact ⟨7, rfl⟩ | exact ⟨8, rfl⟩ | exact ⟨9, rfl⟩ | exact ⟨10, rfl⟩ | exact ⟨11, rfl⟩ | exact ⟨12, rfl⟩ | exact ⟨13, rfl⟩ | exact ⟨14, rfl⟩ | exact ⟨15, rfl⟩ | exact ⟨16, rfl⟩ | exact ⟨17, rfl⟩ | exact ⟨18, rfl⟩ | assumption)
local macro_rules | `(tactic| fail "up") => `(tactic| first | exact ⟨0, rfl, rfl⟩ | exact ⟨1, rfl, rfl⟩ | exact ⟨2, rfl, rfl⟩ | exact ⟨3, rfl, rfl⟩ | exact ⟨4, rfl, rfl⟩ | exact ⟨5, rfl, rfl⟩ | exact ⟨6, rfl, rfl⟩ | exact ⟨7, rfl, rfl⟩ | exact ⟨8, rfl, rfl⟩ | exact ⟨9, rfl, rfl⟩ | exact ⟨10, rfl, rfl⟩ | exact ⟨11, rfl, rfl⟩ | exact ⟨12, rfl, rfl⟩ | exact ⟨13, rfl, rfl⟩ | exact ⟨14, rfl, rfl⟩ | exact ⟨15, rfl, rfl⟩ | exact ⟨16, rfl, rfl⟩ | assumption)
local macro_rules | `(tactic| fail "lkF") => `(tactic| first | assumption | exact fz_at 0 (by fail "nd") rfl rfl | exact fz_at 1 (by fail "nd") rfl rfl | exact fz_at 2 (by fail "nd") rfl rfl | exact fz_at 3 (by fail "nd") rfl rfl | exact fz_at 4 (by fail "nd") rfl rfl | exact fz_at 5 (by fail "nd") rfl rfl | exact fz_at 6 (by fail "nd") rfl rfl | exact fz_at 7 (by fail "nd") rfl rfl)
local macro_rules | `(tactic| fail "lkD") => `(tactic| first | assumption | exact dz_at 0 (by fail "nd") rfl rfl | exact dz_at 1 (by fail "nd") rfl rfl | exact dz_at 2 (by fail "nd") rfl rfl | exact dz_at 3 (by fail "nd") rfl rfl | exact dz_at 4 (by fail "nd") rfl rfl)
local macro_rules | `(tactic| fail "ptF") => `(tactic| first | assumption | exact fz_put 0 (by fail "nd") rfl (Nat.le_of_ble_eq_true rfl) | exact fz_put 1 (by fail "nd") rfl (Nat.le_of_ble_eq_true rfl) | exact fz_put 2 (by fail "nd") rfl (Nat.le_of_ble_eq_true rfl) | exact fz_put 3 (by fail "nd") rfl (Nat.le_of_ble_eq_true rfl) | exact fz_put 4 (by fail "nd") rfl (Nat.le_of_ble_eq_true rfl) | exact fz_put 5 (by fail "nd") rfl (Nat.le_of_ble_eq_true rfl) | exact fz_put 6 (by fail "nd") rfl (Nat.le_of_ble_eq_true rfl) | exact fz_put 7 (by fail "nd") rfl (Nat.le_of_ble_eq_true rfl) | exact fz_new (by decide +kernel) rfl)
local macro_rules | `(tactic| fail "ptD") => `(tactic| first | assumption | exact dz_put 0 (by fail "nd") rfl (Nat.le_of_ble_eq_true rfl) | exact dz_put 1 (by fail "nd") rfl (Nat.le_of_ble_eq_true rfl) | exact dz_put 2 (by fail "nd") rfl (Nat.le_of_ble_eq_true rfl) | exact dz_put 3 (by fail "nd") rfl (Nat.le_of_ble_eq_true rfl) | exact dz_put 4 (by fail "nd") rfl (Nat.le_of_ble_eq_true rfl))
local macro_rules | `(tactic| fail "sz") => `(tactic| first | assumption | exact (Nat.le_of_ble_eq_true rfl) | omega | decide)
local macro_rules | `(tactic| fail "sd") => `(tactic| first | rfl | assumption | decide | omega | (dsimp only; first | decide | omega) | exact .inr ⟨by decide, by decide⟩ | exact .inl ⟨by decide, by decide⟩ | exact ⟨by omega, by omega⟩ | exact .inl ⟨by omega, by omega⟩ | exact .inr ⟨by omega, by omega⟩ | exact ⟨by omega, by omega, by omega⟩)
local macro_rules | `(tactic| fail "cl") => `(tactic| (clear hH; dsimp only [List.set, List.cons_append, List.nil_append, List.append] at hL))
local macro_rules | `(tactic| fail "gn") => `(tactic| (intro p hp; generalize hH : upd H p _ = H; replace hL := Led.newH hL hp hH; clear hH hp))
local macro_rules | `(tactic| fail "gup") => `(tactic| (generalize hH : upd H _ _ = H; replace hL := Led.upU hL (by fail "up") hH; fail "cl"))
local macro_rules | `(tactic| fail "gmk") => `(tactic| (intro x dx hx hd ne; generalize hH : upd (upd H dx _) x _ = H; replace hL := Led.made hL hx hd ne hH; clear hH hx hd ne))
local macro_rules | `(tactic| fail "v") => `(tactic| refine ⟨_, rfl, ?_⟩)
local macro_rules | `(tactic| fail "i2") => `(tactic| refine ⟨_, _, rfl, rfl, ?_⟩)
local macro_rules | `(tactic| fail "go1") => `(tactic| first
  | refine ⟨_, rfl, ?_⟩
  | refine ⟨_, _, rfl, rfl, ?_⟩
  | refine ⟨_, _, rfl, ?_⟩
  | refine iteT ?_
  | refine iteF ?_
  | refine k_fld hL (by fail "ix") (by assumption) (by assumption) (by fail "lkF") ?_
  | refine k_dgetS hL (by fail "ix") (by fail "lkD") ?_
  | refine k_dgetI hL (by fail "ix") (by assumption) ?_
  | refine k_ixL hL (by fail "ix") (by first | rfl | assumption) ?_
  | refine k_ixT hL (by fail "ix") (by first | rfl | assumption) ?_
  | refine k_tyL hL (by fail "ix") ?_
  | refine k_isd hL (by fail "ix") ?_
  | (refine And.intro (by fail "sz") ?_; fail "gn")
  | refine And.intro (by fail "sd") ?_
  | fail "gn"
  | refine k_meth hL (by fail "ix") (by first | assumption | exact fz_no (by decide +kernel)) ?_
  | refine k_gtup hL (by fail "ix") rfl ?_
  | (refine k_popI hL (by fail "ix") (by assumption) ?_; fail "gup")
  | (refine k_listD hL (by fail "ix") ?_; fail "gn")
  | (refine ⟨_, _, _, _, rfl, rfl, hL.at (by fail "ix"), rfl, ?_⟩; fail "gup")
  | (refine ⟨_, _, _, rfl, rfl, hL.at (by fail "ix"), (by fail "sz"), ?_⟩; fail "gup")
  | (refine ⟨_, _, _, _, rfl, hL.at (by fail "ix"), by assumption, by assumption, Nat.lt_of_le_of_lt fz_len (by decide), ?_⟩; generalize hH : upd H _ _ = H; replace hL := Led.upF hL (by fail "up") (by fail "ptF") hH; fail "cl")
  | (refine ⟨_, _, hL.at (by fail "ix"), Nat.lt_of_le_of_lt fz_len (by decide), ?_⟩; generalize hH : upd H _ _ = H; replace hL := Led.upF hL (by fail "up") (by fail "ptF") hH; fail "cl")
  | (refine k_dputS hL (by fail "ix") (Nat.lt_of_le_of_lt dz_len (by decide)) (by fail "ptD") (by fail "up") ?_; clear hL; intro H hL; dsimp only [List.set, List.cons_append, List.nil_append, List.append] at hL)
  | refine k_lenL2 hL (by fail "ix") ?_
  | refine k_lenT2 hL (by fail "ix") ?_
  | refine .inl ⟨_, rfl, ?_⟩
  | refine .inr ⟨_, rfl, ?_⟩)
local macro_rules | `(tactic| fail "go") => `(tactic| repeat fail "go1")
local macro_rules | `(tactic| fail "pm") => `(tactic| (refine Led.le hL (fun a_ => ?_); simp only [cnt_nil, cnt_cons, cnt_app, List.map_append, List.map_cons, List.map_nil, List.flatMap_append, List.flatMap_cons, List.flatMap_nil, List.append_assoc, List.cons_append, List.nil_append]; omega))

def tK14 (PU : Addr) : TS := fun D σ H => ∃ (d q el wt : Addr) (xs : List V) (ds : List Dv) (a b c : Int) (pu : Array Value) (L : Lg), σ[1]? = some (some (.ref d)) ∧ σ[7]? = some (some (.ref q)) ∧ σ[9]? = some (some (.ref wt)) ∧ σ[10]? = some (some (.ref el)) ∧ σ.length = 23 ∧
  (q, .lst xs) ∈ L ∧ (el, .lst (endsV ds ds.length)) ∈ L ∧ (wt, tI (framesB ds)) ∈ L ∧ xs.length = ds.length ∧ LVs 2 ds ∧ ds.length ≤ 4 ∧ TriplesOk pu.toList ∧ Led H ((d, dD a b c) :: (PU, .tbl pu) :: L) ∧
  ∀ (s16 s4 s5 : Option V) (a b c : Int) (pu : Array Value) H', TriplesOk pu.toList → Led H' ((d, dD a b c) :: (PU, .tbl pu) :: L) → D.nx (((σ.set 16 s16).set 4 s4).set 5 s5) H'
section
variable {P : Program} {w : World} {K : PySem.W.Frag} {mg : Str → Option Value} {base : Heap} {CU CW PN PU PL : Addr} {f cL : Addr} {A : Around} {outer : List Env} {s0 : Shared} {H0 : Hp} {E : XK}
theorem st_k14 (hr : Room 175 (LX P w K mg base f (.ref cL) A outer s0 H0 E).A) (T : TxtLw mg) (c__law_roll : Cal P w K mg base 3 "_law_roll" (spRollN B20) []) (c_read_frames : Cal P w K mg base (6 + 5 * 7) "read_frames" (spReadFB CU PU 7) []) : PS (LX P w K mg base f (.ref cL) A outer s0 H0 E) (nth diceB 14) (tK14 PU) := by
  refine ps_imp (t := _) (ps_if (pt_cmpR (op_neNil hr.units) (pv 7) (pe_lst pa_nil) (nomark _))
  (pss_cons (ps_set (i := 16) scLaw.nd rfl (Or.inl rfl) (pe_c c__law_roll hr (by decide) (by rfl) (pa_cons (pv 1) (pa_cons (pe_callB call_len_seq (by rfl) T.len (by decide +kernel) (pa_cons (pv 7) pa_nil)) pa_nil))))
  (pss_cons (ps_set (i := 4) scLaw.nd rfl (Or.inl rfl) (pe_op op_add (pe_op op_add (pe_ix ix_list (pv 10) (pv 16) (fun _ _ => rfl)) pe_int) (pe_c c__law_roll hr (by decide) (by rfl) (pa_cons (pv 1) (pa_cons (pe_op op_sub (pe_op op_sub (pe_ix ix_list (pv 10) (pe_op op_add (pv 16) pe_int) (fun _ _ => rfl)) (pe_ix ix_list (pv 10) (pv 16) (fun _ _ => rfl))) pe_int) pa_nil)))))
  (pss_cons (ps_set (i := 5) scLaw.nd rfl (Or.inr rfl) (pe_op (op_catA) (pe_op (op_catA) (pe_slice sl_tupA (pv 9) po_none (po_some (pv 4))) (pe_tup (pa_cons (pe_op op_mod (pe_op op_add (pe_op op_add (pe_ix ix_tup (pv 9) (pv 4) (fun _ _ => rfl)) pe_int) (pe_c c__law_roll hr (by decide) (by rfl) (pa_cons (pv 1) (pa_cons pe_int pa_nil)))) pe_int) pa_nil))) (pe_slice sl_tupA (pv 9) (po_some (pe_op op_add (pv 4) pe_int)) po_none)))
  (pss_one (ps_if (PW.pt (pw_or (pt_cmpR op_ne (pe_ix ix_tup (pe_c c_read_frames hr (by decide) (by rfl) (pa_cons (pv 5) pa_nil)) pe_int (fun _ _ => rfl)) (pe_ix ix_list (pv 10) (pv 16) (fun _ _ => rfl)) (nomark _)) (pw_or1 (pt_cmpR op_ne (pe_callB call_len_seq (by rfl) T.len (by decide +kernel) (pa_cons (pe_ix ix_tup (pe_c c_read_frames hr (by decide) (by rfl) (pa_cons (pv 5) pa_nil)) pe_int (fun _ _ => rfl)) pa_nil)) (pv 16) (nomark _)))))
  (pss_one (ps_ret pe_bl))
  pss_nil)))))
  pss_nil) ?_
  rintro D σ H ⟨d, q, el, wt, xs, ds, a, b, c, pu, L, hs1, hs7, hs9, hs10, hsl, hq, hel, hw, hxl, hv, h4, ht, hL, kk⟩
  match σ, hs1, hs7, hs9, hs10, hsl with
  | [v0, v1, v2, v3, v4, v5, v6, v7, v8, v9, v10, v11, v12, v13, v14, v15, v16, v17, v18, v19, v20, v21, v22], hs1, hs7, hs9, hs10, _ =>
  cases hs1
  cases hs7
  cases hs9
  cases hs10
  fail "go"
  refine ⟨q, p, xs, rfl, rfl, hL.mem (.tail _ (.tail _ (.tail _ hq))), hL.mem (.head _), ?_⟩
  replace hL := hL.tail
  by_cases hx : xs = []
  · rw [hx]
    rw [show (!([] : List V).isEmpty) = false from rfl]
    fail "go"
    exact kk v16 v4 v5 a b c pu _ ht hL
  · rw [show (!xs.isEmpty) = true by cases xs with | nil => exact absurd rfl hx | cons _ _ => rfl]
    have hlv := lvs_mem hv
    have hx0 : 0 < ds.length := by rw [← hxl]; exact List.length_pos_iff.mpr hx
    have hb20 : B20 = 100000000000000000000 := by decide +kernel
    fail "go"
    refine ⟨q, _, rfl, .inl (.of (hL.mem (.tail _ (.tail _ hq)))), ?_⟩
    rw [hxl]
    fail "go"
    refine ⟨d, a, b, c, _, (PU, .tbl pu) :: L, rfl, hL, by omega, by omega, fun sp a b c H h0 h1 hL => ?_⟩
    obtain ⟨j, rfl⟩ : ∃ j : Nat, sp = j := ⟨sp.toNat, by omega⟩
    have hj : j < ds.length := by omega
    obtain ⟨dd, hdd⟩ : ∃ dd, ds[j]? = some dd := ⟨_, List.getElem?_eq_getElem hj⟩
    have hfl := fl_succ hdd
    have hdl := (hv.get hdd).fL
    rw [bnd2] at hdl
    fail "go"
    refine ⟨_, _, _, V.int (fl ds j), rfl, rfl, .of (hL.mem (.tail _ (.tail _ hel))), atI_nat (ends_get (by omega)), ?_⟩
    fail "go"
    refine ⟨_, _, _, V.int (fl ds (j + 1)), rfl, rfl, .of (hL.mem (.tail _ (.tail _ hel))), by rw [show ((j : Int) + 1) = ((j + 1 : Nat) : Int) by push_cast; rfl]; exact atI_nat (ends_get (by omega)), ?_⟩
    fail "go"
    refine ⟨_, _, _, V.int (fl ds j), rfl, rfl, .of (hL.mem (.tail _ (.tail _ hel))), atI_nat (ends_get (by omega)), ?_⟩
    fail "go"
    refine ⟨d, a, b, c, _, (PU, .tbl pu) :: L, rfl, hL, by omega, by omega, fun rr a b c H h2 h3 hL => ?_⟩
    obtain ⟨r, rfl⟩ : ∃ r : Nat, rr = r := ⟨rr.toNat, by omega⟩
    have hrx : r < (packB dd).length + 4 := by omega
    obtain ⟨pl, hpl⟩ : ∃ pl : Nat, pl = fl ds j + 4 + r := ⟨_, rfl⟩
    have hple : ((fl ds j : Nat) : Int) + 4 + (r : Int) = (pl : Int) := by rw [hpl]; push_cast; rfl
    fail "go"
    have hbig : (framesB ds).length ≤ 344 * 4 := by
      have : ∀ k, k ≤ ds.length → fl ds k ≤ 344 * k := by
        intro k
        induction k with
        | zero => intro _; simp [fl, framesB]
        | succ k ih =>
          intro hk
          have hg := List.getElem?_eq_getElem (show k < ds.length by omega)
          have h3 := (hv.get hg).fL
          rw [bnd2] at h3
          have := ih (by omega)
          rw [fl_succ hg]
          omega
      have := this ds.length (Nat.le_refl _)
      rw [fl_all] at this
      omega
    have hsz : (1376 : Nat) + 1 + 1376 ≤ sizeLine := by decide
    have hplt : pl < (framesB ds).length := by
      have := fl_mono (vs := ds) (show j + 1 ≤ ds.length by omega) (Nat.le_refl _)
      rw [fl_all] at this
      omega
    obtain ⟨bb, hbb⟩ : ∃ bb, (framesB ds)[pl]? = some bb := ⟨_, List.getElem?_eq_getElem hplt⟩
    have hby := frames_byte (fun d hd => (hlv d hd).fS) bb (List.mem_of_getElem? hbb)
    refine k_sliG (lo := none) (hi := some (((fl ds j : Nat) : Int) + 4 + (r : Int))) hL (.tail _ (.tail _ hw)) fun r1 M1 H hL hr1 => ?_
    rw [hple, cut_lo] at hr1
    replace hL : Led H ((d, dD a b c) :: (PU, .tbl pu) :: (M1 ++ L)) := hL.le (fun a_ => by
      simp only [cnt_cons, cnt_app]
      omega)
    have hr1' : (r1, tI ((framesB ds).take pl)) ∈ M1 ++ L := by
      simp only [dD, List.mem_append, List.mem_cons, Prod.mk.injEq, reduceCtorEq, and_false, false_or] at hr1 ⊢
      exact hr1
    clear hr1
    fail "go"
    refine ⟨_, _, _, V.int bb, rfl, rfl, .of (hL.mem (.tail _ (.tail _ (List.mem_append_right _ hw)))), by rw [hple]; exact atI_nat (by rw [List.getElem?_map, hbb]; rfl), ?_⟩
    fail "go"
    refine ⟨d, a, b, c, 255, (PU, .tbl pu) :: (M1 ++ L), rfl, hL, by decide, by decide, fun y a b c H hy0 hy1 hL => ?_⟩
    fail "go"
    obtain ⟨cc, hcc⟩ : ∃ cc, cc = (bb + 1 + y) % 256 := ⟨_, rfl⟩
    have hL0 : Led H ((p, tI [cc]) :: (d, dD a b c) :: (PU, .tbl pu) :: (M1 ++ L)) := by rw [hcc]; exact hL
    clear hL
    have hcb : isByte cc ∧ cc ≠ bb := by
      unfold isByte at *
      omega
    refine k_catG hL0 (.tail _ (.tail _ (.tail _ hr1'))) (.head _) ?_ fun r2 M2 H hL hr2 => ?_
    · rw [List.length_map, List.length_map, List.length_take, List.length_singleton]
      omega
    clear hL0
    rw [← List.map_append] at hr2
    have hr2' : (r2, tI ((framesB ds).take pl ++ [cc])) ∈ (M2 ++ (p, tI [cc]) :: M1) ++ L := by
      simp only [dD, List.mem_append, List.mem_cons, Prod.mk.injEq, reduceCtorEq, and_false, false_or, or_assoc, List.append_assoc, List.cons_append] at hr2 ⊢
      exact hr2
    clear hr2
    replace hL : Led H ((d, dD a b c) :: (PU, .tbl pu) :: ((M2 ++ (p, tI [cc]) :: M1) ++ L)) := hL.le (fun a_ => by
      simp only [cnt_cons, cnt_app]
      omega)
    generalize M2 ++ (p, tI [cc]) :: M1 = N2 at hL hr2'
    fail "go"
    show tNoPart _ _ _
    unfold tNoPart
    refine k_sliG (lo := some (((fl ds j : Nat) : Int) + 4 + (r : Int) + 1)) (hi := none) hL (.tail _ (.tail _ (List.mem_append_right _ hw))) fun r3 M3 H hL hr3 => ?_
    rw [hple, show ((pl : Int) + 1) = ((pl + 1 : Nat) : Int) by push_cast; rfl, cut_hi] at hr3
    have hr3' : (r3, tI ((framesB ds).drop (pl + 1))) ∈ (M3 ++ N2) ++ L := by
      simp only [dD, List.mem_append, List.mem_cons, Prod.mk.injEq, reduceCtorEq, and_false, false_or, or_assoc, List.append_assoc, List.cons_append] at hr3 ⊢
      exact hr3
    clear hr3
    replace hL : Led H ((d, dD a b c) :: (PU, .tbl pu) :: ((M3 ++ N2) ++ L)) := hL.le (fun a_ => by
      simp only [cnt_cons, cnt_app]
      omega)
    have hr2 : (r2, tI ((framesB ds).take pl ++ [cc])) ∈ (M3 ++ N2) ++ L := by
      rw [List.append_assoc]
      exact List.mem_append_right _ hr2'
    generalize M3 ++ N2 = N3 at hL hr2 hr3'
    refine k_catG hL (.tail _ (.tail _ hr2)) (.tail _ (.tail _ hr3')) ?_ fun r4 M4 H hL hr4 => ?_
    · rw [List.length_map, List.length_map, List.length_append, List.length_take, List.length_drop, List.length_singleton]
      omega
    rw [← List.map_append, List.append_assoc] at hr4
    obtain ⟨tail, he, hbad⟩ := bad_frames hdd hrx (by omega) (by rw [← hpl]; exact hbb) hby hcb.1 hcb.2
    have e8 : (framesB ds).take pl ++ ([cc] ++ (framesB ds).drop (pl + 1)) = framesB (ds.take j) ++ tail := by
      rw [← he, ← hpl, List.set_eq_take_append_cons_drop, if_pos hplt]
      rfl
    rw [e8] at hr4
    have hr4' : (r4, tI (framesB (ds.take j) ++ tail)) ∈ (M4 ++ N3) ++ L := by
      simp only [dD, List.mem_append, List.mem_cons, Prod.mk.injEq, reduceCtorEq, and_false, false_or, or_assoc, List.append_assoc, List.cons_append] at hr4 ⊢
      exact hr4
    clear hr4
    replace hL : Led H ((d, dD a b c) :: (PU, .tbl pu) :: ((M4 ++ N3) ++ L)) := hL.le (fun a_ => by
      simp only [cnt_cons, cnt_app]
      omega)
    generalize M4 ++ N3 = N4 at hL hr4'
    fail "go"
    have hbd : ∀ d ∈ ds.take j, deep d < 7 ∧ deep d ≤ 30 ∧ sendable d ∧ (packB d).length + 8 ≤ sizeLine := fun d hd => by
      have h1 := (hlv d (List.mem_of_mem_take hd)).fD
      have h2 := (hlv d (List.mem_of_mem_take hd)).fL
      rw [bnd2] at h2
      exact ⟨by omega, by omega, (hlv d (List.mem_of_mem_take hd)).fS, Nat.le_trans (Nat.add_le_add_right h2 8) (by decide)⟩
    have hlt : (ds.take j).length < sizeLine := Nat.lt_of_le_of_lt (show (ds.take j).length ≤ 4 by rw [List.length_take]; omega) (by decide)
    refine ⟨r4, ds.take j, tail, pu, (d, dD a b c) :: (N4 ++ L), rfl, hL.perm (.swap _ _ _), ht, .tail _ hr4', hbd, hlt, .inr hbad, fun t1 l1 vs1 Z1 pu H ht hd1 hL => ?_⟩
    fail "go"
    refine ⟨_, _, _, V.int (fl ds j), rfl, rfl, .of (hL.mem (.tail _ (.tail _ (.tail _ (List.mem_append_right _ (.tail _ (List.mem_append_right _ hel))))))), atI_nat (ends_get (by omega)), ?_⟩
    fail "go"
    rw [show (!decide (V.int (fl ds j : Nat) = V.int (fl ds j : Nat))) = false by simp]
    fail "go"
    have hB : Led H ((PU, .tbl pu) :: ((d, dD a b c) :: (N4 ++ L))) := hL.le (fun a_ => by
      simp only [cnt_cons, cnt_app]
      omega)
    clear hL
    refine ⟨r4, ds.take j, tail, pu, (d, dD a b c) :: (N4 ++ L), rfl, hB, ht, .tail _ hr4', hbd, hlt, .inr hbad, fun t2 l2 vs2 Z2 pu H ht hd2 hL => ?_⟩
    clear hB
    fail "go"
    trace_state
    have e7 : vs2.length = j := by rw [hd2.len, List.length_take]; omega
    rw [e7]
    fail "go"
    rw [show (!decide (V.int (j : Int) = V.int (j : Int))) = false by simp]
    fail "go"
    refine kk (some (.int j)) (some (.int (((fl ds j : Nat) : Int) + 4 + (r : Int)))) (some (.ref r4)) a b c pu H ht (hL.le (fun a_ => ?_))
    simp only [cnt_cons, cnt_app]
    omega
end
end Sd


set_option linter.unusedVariables false
namespace Sd
open PySem L2 LamX NdefX PyProof.Rows Mx
open C8 (Cal Met Mak pe_c pe_mk pe_mt pe_mt0 pss_cut tCut)
-- NPAT 23
-- TYPES NOCELL=one,SLA=yes,_law_same()=bool,_law_value()=any,found=list,kept=list,numbers=tup
set_option linter.unusedSimpArgs false
set_option pp.deepTerms false
set_option pp.deepTerms.threshold 12
set_option hygiene false
local macro_rules | `(tactic| fail "nd") => `(tactic| first | assumption | decide +kernel)
local macro_rules | `(tactic| fail "ix") => `(tactic| first | exact ⟨0, rfl⟩ | exact ⟨1, rfl⟩ | exact ⟨2, rfl⟩ | exact ⟨3, rfl⟩ | exact ⟨4, rfl⟩ | exact ⟨5, rfl⟩ | exact ⟨6, rfl⟩ | exact ⟨7, rfl⟩ | exact ⟨8, rfl⟩ | exact ⟨9, rfl⟩ | exact ⟨10, rfl⟩ | exact ⟨11, rfl⟩ | exact ⟨12, rfl⟩ | exact ⟨13, rfl⟩ | exact ⟨14, rfl⟩ | exact ⟨15, rfl⟩ | exact ⟨16, rfl⟩ | exact ⟨17, rfl⟩ | exact ⟨18, rfl⟩ | assumption)
local macro_rules | `(tactic| fail "up") => `(tactic| first | exact ⟨0, rfl, rfl⟩ | exact ⟨1, rfl, rfl⟩ | exact ⟨2, rfl, rfl⟩ | exact ⟨3, rfl, rfl⟩ | exact ⟨4, rfl, rfl⟩ | exact ⟨5, rfl, rfl⟩ | exact ⟨6, rfl, rfl⟩ | exact ⟨7, rfl, rfl⟩ | exact ⟨8, rfl, rfl⟩ | exact ⟨9, rfl, rfl⟩ | exact ⟨10, rfl, rfl⟩ | exact ⟨11, rfl, rfl⟩ | exact ⟨12, rfl, rfl⟩ | exact ⟨13, rfl, rfl⟩ | exact ⟨14, rfl, rfl⟩ | exact ⟨15, rfl, rfl⟩ | exact ⟨16, rfl, rfl⟩ | assumption)
local macro_rules | `(tactic| fail "lkF") => `(tactic| first | assumption | exact fz_at 0 (by fail "nd") rfl rfl | exact fz_at 1 (by fail "nd") rfl rfl | exact fz_at 2 (by fail "nd") rfl rfl | exact fz_at 3 (by fail "nd") rfl rfl | exact fz_at 4 (by fail "nd") rfl rfl | exact fz_at 5 (by fail "nd") rfl rfl | exact fz_at 6 (by fail "nd") rfl rfl | exact fz_at 7 (by fail "nd") rfl rfl)
local macro_rules | `(tactic| fail "lkD") => `(tactic| first | assumption | exact dz_at 0 (by fail "nd") rfl rfl | exact dz_at 1 (by fail "nd") rfl rfl | exact dz_at 2 (by fail "nd") rfl rfl | exact dz_at 3 (by fail "nd") rfl rfl | exact dz_at 4 (by fail "nd") rfl rfl)
local macro_rules | `(tactic| fail "ptF") => `(tactic| first | assumption | exact fz_put 0 (by fail "nd") rfl (Nat.le_of_ble_eq_true rfl) | exact fz_put 1 (by fail "nd") rfl (Nat.le_of_ble_eq_true rfl) | exact fz_put 2 (by fail "nd") rfl (Nat.le_of_ble_eq_true rfl) | exact fz_put 3 (by fail "nd") rfl (Nat.le_of_ble_eq_true rfl) | exact fz_put 4 (by fail "nd") rfl (Nat.le_of_ble_eq_true rfl) | exact fz_put 5 (by fail "nd") rfl (Nat.le_of_ble_eq_true rfl) | exact fz_put 6 (by fail "nd") rfl (Nat.le_of_ble_eq_true rfl) | exact fz_put 7 (by fail "nd") rfl (Nat.le_of_ble_eq_true rfl) | exact fz_new (by decide +kernel) rfl)
local macro_rules | `(tactic| fail "ptD") => `(tactic| first | assumption | exact dz_put 0 (by fail "nd") rfl (Nat.le_of_ble_eq_true rfl) | exact dz_put 1 (by fail "nd") rfl (Nat.le_of_ble_eq_true rfl) | exact dz_put 2 (by fail "nd") rfl (Nat.le_of_ble_eq_true rfl) | exact dz_put 3 (by fail "nd") rfl (Nat.le_of_ble_eq_true rfl) | exact dz_put 4 (by fail "nd") rfl (Nat.le_of_ble_eq_true rfl))
local macro_rules | `(tactic| fail "sz") => `(tactic| first | assumption | exact (Nat.le_of_ble_eq_true rfl) | omega | decide)
local macro_rules | `(tactic| fail "sd") => `(tactic| first | rfl | assumption | decide | omega | (dsimp only; first | decide | omega) | exact .inr ⟨by decide, by decide⟩ | exact .inl ⟨by decide, by decide⟩ | exact ⟨by omega, by omega⟩ | exact .inl ⟨by omega, by omega⟩ | exact .inr ⟨by omega, by omega⟩ | exact ⟨by omega, by omega, by omega⟩)
local macro_rules | `(tactic| fail "cl") => `(tactic| (clear hH; dsimp only [List.set, List.cons_append, List.nil_append, List.append] at hL))
local macro_rules | `(tactic| fail "gn") => `(tactic| (intro p hp; generalize hH : upd H p _ = H; replace hL := Led.newH hL hp hH; clear hH hp))
local macro_rules | `(tactic| fail "gup") => `(tactic| (generalize hH : upd H _ _ = H; replace hL := Led.upU hL (by fail "up") hH; fail "cl"))
local macro_rules | `(tactic| fail "gmk") => `(tactic| (intro x dx hx hd ne; generalize hH : upd (upd H dx _) x _ = H; replace hL := Led.made hL hx hd ne hH; clear hH hx hd ne))
local macro_rules | `(tactic| fail "v") => `(tactic| refine ⟨_, rfl, ?_⟩)
local macro_rules | `(tactic| fail "i2") => `(tactic| refine ⟨_, _, rfl, rfl, ?_⟩)
local macro_rules | `(tactic| fail "go1") => `(tactic| first
  | refine ⟨_, rfl, ?_⟩
  | refine ⟨_, _, rfl, rfl, ?_⟩
  | refine ⟨_, _, rfl, ?_⟩
  | refine iteT ?_
  | refine iteF ?_
  | refine k_fld hL (by fail "ix") (by assumption) (by assumption) (by fail "lkF") ?_
  | refine k_dgetS hL (by fail "ix") (by fail "lkD") ?_
  | refine k_dgetI hL (by fail "ix") (by assumption) ?_
  | refine k_ixL hL (by fail "ix") (by first | rfl | assumption) ?_
  | refine k_ixT hL (by fail "ix") (by first | rfl | assumption) ?_
  | refine k_tyL hL (by fail "ix") ?_
  | refine k_isd hL (by fail "ix") ?_
  | (refine And.intro (by fail "sz") ?_; fail "gn")
  | refine And.intro (by fail "sd") ?_
  | fail "gn"
  | refine k_meth hL (by fail "ix") (by first | assumption | exact fz_no (by decide +kernel)) ?_
  | refine k_gtup hL (by fail "ix") rfl ?_
  | (refine k_popI hL (by fail "ix") (by assumption) ?_; fail "gup")
  | (refine k_listD hL (by fail "ix") ?_; fail "gn")
  | (refine ⟨_, _, _, _, rfl, rfl, hL.at (by fail "ix"), rfl, ?_⟩; fail "gup")
  | (refine ⟨_, _, _, rfl, rfl, hL.at (by fail "ix"), (by fail "sz"), ?_⟩; fail "gup")
  | (refine ⟨_, _, _, _, rfl, hL.at (by fail "ix"), by assumption, by assumption, Nat.lt_of_le_of_lt fz_len (by decide), ?_⟩; generalize hH : upd H _ _ = H; replace hL := Led.upF hL (by fail "up") (by fail "ptF") hH; fail "cl")
  | (refine ⟨_, _, hL.at (by fail "ix"), Nat.lt_of_le_of_lt fz_len (by decide), ?_⟩; generalize hH : upd H _ _ = H; replace hL := Led.upF hL (by fail "up") (by fail "ptF") hH; fail "cl")
  | (refine k_dputS hL (by fail "ix") (Nat.lt_of_le_of_lt dz_len (by decide)) (by fail "ptD") (by fail "up") ?_; clear hL; intro H hL; dsimp only [List.set, List.cons_append, List.nil_append, List.append] at hL)
  | refine k_lenL2 hL (by fail "ix") ?_
  | refine k_lenT2 hL (by fail "ix") ?_
  | refine .inl ⟨_, rfl, ?_⟩
  | refine .inr ⟨_, rfl, ?_⟩)
local macro_rules | `(tactic| fail "go") => `(tactic| repeat fail "go1")
local macro_rules | `(tactic| fail "pm") => `(tactic| (refine Led.le hL (fun a_ => ?_); simp only [cnt_nil, cnt_cons, cnt_app, List.map_append, List.map_cons, List.map_nil, List.flatMap_append, List.flatMap_cons, List.flatMap_nil, List.append_assoc, List.cons_append, List.nil_append]; omega))

section
variable {P : Program} {w : World} {K : PySem.W.Frag} {mg : Str → Option Value} {base : Heap} {CU CW PN PU PL : Addr} {f cL : Addr} {A : Around} {outer : List Env} {s0 : Shared} {H0 : Hp} {E : XK}
theorem scLSum : FnScope ["numbers", "first", "second", "number"] ["numbers"] (defScope sLSum) := ⟨rfl, rfl, rfl, by decide +kernel, rfl, by decide +kernel, by decide +kernel⟩
theorem ok_lsum {f : Addr} {fd : FuncData} (F : Fun K "_law_sum" "_law_sum" sLSum f fd) (T : TxtL mg) : FnOk P w K mg base CX0 1 f fd ["numbers"] spSumB := by
  refine F.ok scLSum (fun vs H Q E h => ?_) (fun cdv A outer s H vs Q E hr h => ?_)
  · obtain ⟨a, bs, L, rfl, _⟩ := h
    rfl
  · obtain ⟨a, bs, L, rfl, hL, ha, k⟩ := h
    refine ⟨_, (pss_cons (ps_asg (pe_tup (pa_cons pe_int (pa_cons pe_int pa_nil))) (pg_tup (by rfl) (pgs_cons (pg_name (i := 1) scLSum.nd rfl (Or.inl rfl)) (pgs_cons (pg_name (i := 2) scLSum.nd rfl (Or.inl rfl)) pgs_nil))))
  (pss_cons (ps_for PassesOwn.never rfl (pi_tup (pv 0)) (pg_name (i := 3) scLSum.nd rfl (Or.inl rfl))
  (pss_cons (ps_set (i := 1) scLSum.nd rfl (Or.inl rfl) (pe_op op_mod (pe_callTy call_int1 (by rfl) T.int (by decide +kernel) (pa_cons (pe_op op_add (pv 1) (pv 3)) pa_nil)) pe_int))
  (pss_one (ps_set (i := 2) scLSum.nd rfl (Or.inl rfl) (pe_op op_mod (pe_callTy call_int1 (by rfl) T.int (by decide +kernel) (pa_cons (pe_op op_add (pv 2) (pv 1)) pa_nil)) pe_int)))))
  (pss_one (ps_ret (pe_tup (pa_cons (pe_op op_fdiv (pv 2) pe_int) (pa_cons (pe_op op_mod (pv 2) pe_int) (pa_cons (pe_op op_fdiv (pv 1) pe_int) (pa_cons (pe_op op_mod (pv 1) pe_int) pa_nil))))))))), ?_⟩
    fail "go"
    refine ⟨⟨_, .of (hL.tail.at ha)⟩, ?_⟩
    refine for_tupA (xs := bs.map V.int) (fun i σ H => Hold (∃ v3, σ = [some (.ref a), some (.int ((bs.take i).foldl sumStep (1, 0)).1), some (.int ((bs.take i).foldl sumStep (1, 0)).2), v3] ∧ Led H L)) (.mk ⟨_, rfl, hL.tail⟩) (fun i σ H _ h => ?_) (fun i x σ H D' hi h hN => ?_) (fun σ H h => ?_)
    · obtain ⟨v3, rfl, hL⟩ := h.out
      exact .of (hL.at ha)
    · obtain ⟨v3, rfl, hL⟩ := h.out
      rw [List.getElem?_map] at hi
      obtain ⟨b, hb, rfl⟩ := Option.map_eq_some_iff.mp hi
      fail "go"
      refine hN.nx _ _ (.mk ⟨some (.int b), ?_, hL⟩)
      rw [List.take_add_one, hb, Option.toList_some, List.foldl_append]
      rfl
    · obtain ⟨v3, rfl, hL⟩ := h.out
      rw [List.length_map, List.take_length] at *
      fail "go"
      exact k _ _ hL
def tK15 : TS := fun D σ H => ∃ (d : Addr) (a b c : Int) (L : Lg), σ[1]? = some (some (.ref d)) ∧ σ.length = 23 ∧ Led H ((d, dD a b c) :: L) ∧
  ∀ (n a b c : Int) H', 0 ≤ n → n < 4294967296 → Led H' ((d, dD a b c) :: L) → D.nx (σ.set 17 (some (.int n))) H'
theorem st_k15 (hr : Room 175 (LX P w K mg base f (.ref cL) A outer s0 H0 E).A) (c__law_roll : Cal P w K mg base 3 "_law_roll" (spRollN B20) []) : PS (LX P w K mg base f (.ref cL) A outer s0 H0 E) (nth diceB 15) tK15 := by
  refine ps_imp (t := _) (ps_set (i := 17) scLaw.nd rfl (Or.inl rfl) (pe_c c__law_roll hr (by decide) (by rfl) (pa_cons (pv 1) (pa_cons (pe_op op_pow pe_int pe_int) pa_nil)))) ?_
  rintro D σ H ⟨d, a, b, c, L, hs1, hsl, hL, kk⟩
  match σ, hs1, hsl with
  | [v0, v1, v2, v3, v4, v5, v6, v7, v8, v9, v10, v11, v12, v13, v14, v15, v16, v17, v18, v19, v20, v21, v22], hs1, _ =>
  cases hs1
  fail "go"
  have e0 : (2 : Int) ^ ((32 : Int).toNat) = 4294967296 := by decide +kernel
  refine ⟨d, a, b, c, 4294967296, L, congrArg (fun x : Int => [V.ref d, V.int x]) e0, hL, by decide, by decide +kernel, fun n a b c H h0 h1 hL => ?_⟩
  fail "go"
  exact kk n a b c H h0 h1 hL
def tK16 : TS := fun D σ H => ∃ (d : Addr) (a b c : Int) (L : Lg), σ[1]? = some (some (.ref d)) ∧ σ.length = 23 ∧ Led H ((d, dD a b c) :: L) ∧
  ∀ (r : Addr) (bs : List Int) (a b c : Int) H', bs.length ≤ 20 → Led H' ((r, tI bs) :: (d, dD a b c) :: L) → D.nx (σ.set 18 (some (.ref r))) H'
theorem st_k16 (hr : Room 175 (LX P w K mg base f (.ref cL) A outer s0 H0 E).A) (T : TxtLw mg) (c__law_roll : Cal P w K mg base 3 "_law_roll" (spRollN B20) []) : PS (LX P w K mg base f (.ref cL) A outer s0 H0 E) (nth diceB 16) tK16 := by
  refine ps_imp (t := _) (ps_set (i := 18) scLaw.nd rfl (Or.inl rfl) (pe_callTy call_tuple_of (by rfl) T.tuple (by decide +kernel) (pa_cons (pe_lc (own := [("k", 8)]) (g := gName 8) (by rfl) scLaw.nd (pi_range1 (by rfl) T.range (pa_cons (pe_c c__law_roll hr (by decide) (by rfl) (pa_cons (pv 1) (pa_cons pe_int pa_nil))) pa_nil)) (blkOk_by (own := [("k", 8)]) (N := ["script", "dice", "value", "data", "place", "bent", "told_now", "values", "k", "whole", "ends", "one", "cut", "found", "many", "kept", "spot", "number", "drawn", "deep", "levels", "turn", "bad"]) (sc := (defScope sLaw)) (by decide +kernel)) (fun _ _ _ _ _ => (pg_name (i := 8) scLaw.nd rfl (Or.inl rfl))) (fun _ _ _ _ _ => pts_nil) (fun _ _ _ _ _ => (pe_c c__law_roll hr (by decide) (by rfl) (pa_cons (pv 1) (pa_cons pe_int pa_nil))))) pa_nil))) ?_
  rintro D σ H ⟨d, a, b, c, L, hs1, hsl, hL0, kk⟩
  match σ, hs1, hsl with
  | [v0, v1, v2, v3, v4, v5, v6, v7, v8, v9, v10, v11, v12, v13, v14, v15, v16, v17, v18, v19, v20, v21, v22], hs1, _ =>
  cases hs1
  fail "go"
  refine ⟨d, a, b, c, 20, L, rfl, hL0, by decide, by decide, fun r1 a b c H h1 h2 hL2 => ?_⟩
  clear hL0
  fail "go"
  refine (show ∀ D1 : Addr, _ from ?_)
  intro D1 hD
  refine lc_range (lo := 0) (n := r1.toNat) (fun i H => Hold (∃ (bs : List Int) (a b c : Int), bs.length = i ∧ Led H ((D1, .lst (bs.map V.int)) :: (d, dD a b c) :: L))) (.mk ⟨[], a, b, c, rfl, hL2.new hD⟩) (fun i H hi q => ?_) (fun H q => ?_)
  · clear hL2 hD
    obtain ⟨bs, a, b, c, hz, hL⟩ := q.out
    clear q
    refine ⟨rfl, k_yes ?_⟩
    fail "go"
    refine ⟨d, a, b, c, 256, (D1, .lst (bs.map V.int)) :: L, rfl, hL.perm (List.Perm.swap _ _ _), by decide, by decide, fun x a b c H h3 h4 hL2 => ?_⟩
    clear hL
    have hB := hL2.perm (List.Perm.swap _ _ _)
    refine ⟨_, hB.at ⟨0, rfl⟩, by rw [List.length_map, hz]; exact Nat.lt_of_lt_of_le (show i < 20 by omega) (by decide), ?_⟩
    refine .mk ⟨bs ++ [x], a, b, c, by rw [List.length_append, hz]; rfl, ?_⟩
    rw [List.map_append]
    exact hB.set 0 rfl
  · clear hL2 hD
    obtain ⟨bs, a, b, c, hz, hL⟩ := q.out
    clear q
    fail "go"
    refine ⟨_, _, rfl, .inl ⟨.of (hL.at ⟨0, rfl⟩), fun t ht => ?_⟩⟩
    generalize hH : upd H t _ = H
    replace hL := Led.newH hL ht hH
    clear hH ht
    refine kk t bs a b c H (by omega) (show Led H ((t, .tup (bs.map V.int)) :: (d, dD a b c) :: L) from hL.le (fun a_ => ?_))
    simp only [cnt_cons]
    omega
def tK17 : TS := fun D σ H => ∃ (r : Addr) (n : Nat) (bs : List Int) (L : Lg), σ[17]? = some (some (.int n)) ∧ σ[18]? = some (some (.ref r)) ∧ σ.length = 23 ∧ n < 4294967296 ∧ (r, tI bs) ∈ L ∧ Led H L ∧ ∀ H', Led H' L → D.nx σ H'
theorem st_k17 (hr : Room 175 (LX P w K mg base f (.ref cL) A outer s0 H0 E).A) (c_four : Cal P w K mg base 1 "four" spFour []) (c_sum_of_bytes : Cal P w K mg base 1 "sum_of_bytes" spSumB []) (c__law_sum : Cal P w K mg base 1 "_law_sum" spSumB []) : PS (LX P w K mg base f (.ref cL) A outer s0 H0 E) (nth diceB 17) tK17 := by
  refine ps_imp (t := _) (ps_if (PW.pt (pw_or (pt_cmpR (op_neP hr.units) (pe_c c_four hr (by decide) (by rfl) (pa_cons (pv 17) pa_nil)) (pe_tup (pa_cons (pe_op op_fdiv (pv 17) (pe_op op_pow pe_int pe_int)) (pa_cons (pe_op op_mod (pe_op op_fdiv (pv 17) (pe_op op_pow pe_int pe_int)) pe_int) (pa_cons (pe_op op_mod (pe_op op_fdiv (pv 17) pe_int) pe_int) (pa_cons (pe_op op_mod (pv 17) pe_int) pa_nil))))) (nomark _)) (pw_or1 (pt_cmpR (op_neP hr.units) (pe_c c_sum_of_bytes hr (by decide) (by rfl) (pa_cons (pv 18) pa_nil)) (pe_c c__law_sum hr (by decide) (by rfl) (pa_cons (pv 18) pa_nil)) (nomark _)))))
  (pss_one (ps_ret pe_bl))
  pss_nil) ?_
  rintro D σ H ⟨r, n, bs, L, hs17, hs18, hsl, hn, hm, hL, kk⟩
  match σ, hs17, hs18, hsl with
  | [v0, v1, v2, v3, v4, v5, v6, v7, v8, v9, v10, v11, v12, v13, v14, v15, v16, v17, v18, v19, v20, v21, v22], hs17, hs18, _ =>
  cases hs17
  cases hs18
  fail "go"
  have e24 : (2 : Int) ^ ((24 : Int).toNat) = 16777216 := by decide +kernel
  have e16 : (2 : Int) ^ ((16 : Int).toNat) = 65536 := by decide +kernel
  refine ⟨n, L, rfl, hL, fun r1 H hL => ?_⟩
  fail "go"
  have e : fourB (n : Int) = [(n : Int) / (2 : Int) ^ ((24 : Int).toNat), (n : Int) / (2 : Int) ^ ((16 : Int).toNat) % 256, (n : Int) / 256 % 256, (n : Int) % 256] := by
    rw [e24, e16]
    unfold fourB
    rw [show (n : Int) / 16777216 % 256 = (n : Int) / 16777216 by omega]
  have hL1 : Led H ((p, tI [(n : Int) / (2 : Int) ^ ((24 : Int).toNat), (n : Int) / (2 : Int) ^ ((16 : Int).toNat) % 256, (n : Int) / 256 % 256, (n : Int) % 256]) :: (r1, tI (fourB n)) :: L) := hL
  rw [← e] at hL1
  clear hL
  refine k_neSame (d := .tuple ((fourB (n : Int)).map PyData.int)) (dp_tup (hL1.mem (.tail _ (.head _))) dp_ints) (dp_tup (hL1.mem (.head _)) dp_ints) shal_tupI ?_
  fail "go"
  refine ⟨r, bs, _, rfl, hL1, at_mem (.tail _ (.tail _ hm)), fun r3 H hL => ?_⟩
  fail "go"
  refine ⟨r, bs, _, rfl, hL, at_mem (.tail _ (.tail _ (.tail _ hm))), fun r4 H hL => ?_⟩
  fail "go"
  refine k_neSame (d := .tuple ((sumB bs).map PyData.int)) (dp_tup (hL.mem (.tail _ (.head _))) dp_ints) (dp_tup (hL.mem (.head _)) dp_ints) shal_tupI ?_
  fail "go"
  exact kk H hL.tail.tail.tail.tail
def tK18 : TS := fun D σ H => ∃ (n : Nat) (L : Lg), σ[17]? = some (some (.int n)) ∧ σ.length = 23 ∧ n < 4294967296 ∧ Led H L ∧ ∀ H', Led H' L → D.nx σ H'
theorem st_k18 (hr : Room 175 (LX P w K mg base f (.ref cL) A outer s0 H0 E).A) (T : TxtLw mg) (c_natural : Cal P w K mg base 1 "natural" spNatural []) : PS (LX P w K mg base f (.ref cL) A outer s0 H0 E) (nth diceB 18) tK18 := by
  refine ps_imp (t := _) (ps_if (PW.pt (pw_or (pt_cmpR op_gt (pe_ix ix_tup (pe_c c_natural hr (by decide) (by rfl) (pa_cons (pv 17) pa_nil)) (pe_op op_sub (pe_callB call_len_seq (by rfl) T.len (by decide +kernel) (pa_cons (pe_c c_natural hr (by decide) (by rfl) (pa_cons (pv 17) pa_nil)) pa_nil)) pe_int) (fun _ _ => rfl)) pe_int (nomark _)) (pw_or1 (pt_cmpR op_gt (pe_callB call_len_seq (by rfl) T.len (by decide +kernel) (pa_cons (pe_c c_natural hr (by decide) (by rfl) (pa_cons (pv 17) pa_nil)) pa_nil)) pe_int (nomark _)))))
  (pss_one (ps_ret pe_bl))
  pss_nil) ?_
  rintro D σ H ⟨n, L, hs17, hsl, hn, hL, kk⟩
  match σ, hs17, hsl with
  | [v0, v1, v2, v3, v4, v5, v6, v7, v8, v9, v10, v11, v12, v13, v14, v15, v16, v17, v18, v19, v20, v21, v22], hs17, _ =>
  cases hs17
  have e5 : (natB n).length ≤ 5 := natB_len (k := 4) (by simpa using Nat.lt_trans hn (by decide))
  fail "go"
  have hz : (natB n).length ≤ sizeLine := Nat.le_trans e5 (by decide)
  refine ⟨n, L, rfl, hL, hz, fun r1 H hL => ?_⟩
  fail "go"
  refine ⟨n, _, rfl, hL, hz, fun r2 H hL => ?_⟩
  fail "go"
  obtain ⟨k, hk1, hk2, hk3⟩ := natB_last (n := n)
  have hne : 0 < (natB n).length := List.length_pos_iff.mpr natB_ne
  refine ⟨_, _, _, V.int k, rfl, rfl, .of (hL.mem (.tail _ (.head _))), ?_, ?_⟩
  · rw [List.length_map, show (((natB n).length : Nat) : Int) - 1 = (((natB n).length - 1 : Nat) : Int) by omega]
    refine atI_nat ?_
    rw [List.getElem?_map, ← List.getLast?_eq_getElem?, hk1]
    rfl
  fail "go"
  refine ite_d (fun z => absurd z (by omega)) fun _ => ?_
  fail "go"
  refine ⟨n, _, rfl, hL, hz, fun r3 H hL => ?_⟩
  fail "go"
  refine ite_d (fun z => absurd z (by rw [List.length_map]; omega)) fun _ => ?_
  fail "go"
  exact kk H hL.tail.tail.tail
end
end Sd


set_option linter.unusedVariables false
namespace Sd
open PySem L2 LamX NdefX PyProof.Rows Mx
open C8 (Cal Met Mak pe_c pe_mk pe_mt pe_mt0 pss_cut tCut)
-- NPAT 23
-- TYPES NOCELL=one,SLA=yes,deep=any
set_option linter.unusedSimpArgs false
set_option pp.deepTerms false
set_option pp.deepTerms.threshold 12
set_option hygiene false
local macro_rules | `(tactic| fail "nd") => `(tactic| first | assumption | decide +kernel)
local macro_rules | `(tactic| fail "ix") => `(tactic| first | exact ⟨0, rfl⟩ | exact ⟨1, rfl⟩ | exact ⟨2, rfl⟩ | exact ⟨3, rfl⟩ | exact ⟨4, rfl⟩ | exact ⟨5, rfl⟩ | exact ⟨6, rfl⟩ | exact ⟨7, rfl⟩ | exact ⟨8, rfl⟩ | exact ⟨9, rfl⟩ | exact ⟨10, rfl⟩ | exact ⟨11, rfl⟩ | exact ⟨12, rfl⟩ | exact ⟨13, rfl⟩ | exact ⟨14, rfl⟩ | exact ⟨15, rfl⟩ | exact ⟨16, rfl⟩ | exact ⟨17, rfl⟩ | exact ⟨18, rfl⟩ | assumption)
local macro_rules | `(tactic| fail "up") => `(tactic| first | exact ⟨0, rfl, rfl⟩ | exact ⟨1, rfl, rfl⟩ | exact ⟨2, rfl, rfl⟩ | exact ⟨3, rfl, rfl⟩ | exact ⟨4, rfl, rfl⟩ | exact ⟨5, rfl, rfl⟩ | exact ⟨6, rfl, rfl⟩ | exact ⟨7, rfl, rfl⟩ | exact ⟨8, rfl, rfl⟩ | exact ⟨9, rfl, rfl⟩ | exact ⟨10, rfl, rfl⟩ | exact ⟨11, rfl, rfl⟩ | exact ⟨12, rfl, rfl⟩ | exact ⟨13, rfl, rfl⟩ | exact ⟨14, rfl, rfl⟩ | exact ⟨15, rfl, rfl⟩ | exact ⟨16, rfl, rfl⟩ | assumption)
local macro_rules | `(tactic| fail "lkF") => `(tactic| first | assumption | exact fz_at 0 (by fail "nd") rfl rfl | exact fz_at 1 (by fail "nd") rfl rfl | exact fz_at 2 (by fail "nd") rfl rfl | exact fz_at 3 (by fail "nd") rfl rfl | exact fz_at 4 (by fail "nd") rfl rfl | exact fz_at 5 (by fail "nd") rfl rfl | exact fz_at 6 (by fail "nd") rfl rfl | exact fz_at 7 (by fail "nd") rfl rfl)
local macro_rules | `(tactic| fail "lkD") => `(tactic| first | assumption | exact dz_at 0 (by fail "nd") rfl rfl | exact dz_at 1 (by fail "nd") rfl rfl | exact dz_at 2 (by fail "nd") rfl rfl | exact dz_at 3 (by fail "nd") rfl rfl | exact dz_at 4 (by fail "nd") rfl rfl)
local macro_rules | `(tactic| fail "ptF") => `(tactic| first | assumption | exact fz_put 0 (by fail "nd") rfl (Nat.le_of_ble_eq_true rfl) | exact fz_put 1 (by fail "nd") rfl (Nat.le_of_ble_eq_true rfl) | exact fz_put 2 (by fail "nd") rfl (Nat.le_of_ble_eq_true rfl) | exact fz_put 3 (by fail "nd") rfl (Nat.le_of_ble_eq_true rfl) | exact fz_put 4 (by fail "nd") rfl (Nat.le_of_ble_eq_true rfl) | exact fz_put 5 (by fail "nd") rfl (Nat.le_of_ble_eq_true rfl) | exact fz_put 6 (by fail "nd") rfl (Nat.le_of_ble_eq_true rfl) | exact fz_put 7 (by fail "nd") rfl (Nat.le_of_ble_eq_true rfl) | exact fz_new (by decide +kernel) rfl)
local macro_rules | `(tactic| fail "ptD") => `(tactic| first | assumption | exact dz_put 0 (by fail "nd") rfl (Nat.le_of_ble_eq_true rfl) | exact dz_put 1 (by fail "nd") rfl (Nat.le_of_ble_eq_true rfl) | exact dz_put 2 (by fail "nd") rfl (Nat.le_of_ble_eq_true rfl) | exact dz_put 3 (by fail "nd") rfl (Nat.le_of_ble_eq_true rfl) | exact dz_put 4 (by fail "nd") rfl (Nat.le_of_ble_eq_true rfl))
local macro_rules | `(tactic| fail "sz") => `(tactic| first | assumption | exact (Nat.le_of_ble_eq_true rfl) | omega | decide)
local macro_rules | `(tactic| fail "sd") => `(tactic| first | rfl | assumption | decide | omega | (dsimp only; first | decide | omega) | exact .inr ⟨by decide, by decide⟩ | exact .inl ⟨by decide, by decide⟩ | exact ⟨by omega, by omega⟩ | exact .inl ⟨by omega, by omega⟩ | exact .inr ⟨by omega, by omega⟩ | exact ⟨by omega, by omega, by omega⟩)
local macro_rules | `(tactic| fail "cl") => `(tactic| (clear hH; dsimp only [List.set, List.cons_append, List.nil_append, List.append] at hL))
local macro_rules | `(tactic| fail "gn") => `(tactic| (intro p hp; generalize hH : upd H p _ = H; replace hL := Led.newH hL hp hH; clear hH hp))
local macro_rules | `(tactic| fail "gup") => `(tactic| (generalize hH : upd H _ _ = H; replace hL := Led.upU hL (by fail "up") hH; fail "cl"))
local macro_rules | `(tactic| fail "gmk") => `(tactic| (intro x dx hx hd ne; generalize hH : upd (upd H dx _) x _ = H; replace hL := Led.made hL hx hd ne hH; clear hH hx hd ne))
local macro_rules | `(tactic| fail "v") => `(tactic| refine ⟨_, rfl, ?_⟩)
local macro_rules | `(tactic| fail "i2") => `(tactic| refine ⟨_, _, rfl, rfl, ?_⟩)
local macro_rules | `(tactic| fail "go1") => `(tactic| first
  | refine ⟨_, rfl, ?_⟩
  | refine ⟨_, _, rfl, rfl, ?_⟩
  | refine ⟨_, _, rfl, ?_⟩
  | refine iteT ?_
  | refine iteF ?_
  | refine k_fld hL (by fail "ix") (by assumption) (by assumption) (by fail "lkF") ?_
  | refine k_dgetS hL (by fail "ix") (by fail "lkD") ?_
  | refine k_dgetI hL (by fail "ix") (by assumption) ?_
  | refine k_ixL hL (by fail "ix") (by first | rfl | assumption) ?_
  | refine k_ixT hL (by fail "ix") (by first | rfl | assumption) ?_
  | refine k_tyL hL (by fail "ix") ?_
  | refine k_isd hL (by fail "ix") ?_
  | (refine And.intro (by fail "sz") ?_; fail "gn")
  | refine And.intro (by fail "sd") ?_
  | fail "gn"
  | refine k_meth hL (by fail "ix") (by first | assumption | exact fz_no (by decide +kernel)) ?_
  | refine k_gtup hL (by fail "ix") rfl ?_
  | (refine k_popI hL (by fail "ix") (by assumption) ?_; fail "gup")
  | (refine k_listD hL (by fail "ix") ?_; fail "gn")
  | (refine ⟨_, _, _, _, rfl, rfl, hL.at (by fail "ix"), rfl, ?_⟩; fail "gup")
  | (refine ⟨_, _, _, rfl, rfl, hL.at (by fail "ix"), (by fail "sz"), ?_⟩; fail "gup")
  | (refine ⟨_, _, _, _, rfl, hL.at (by fail "ix"), by assumption, by assumption, Nat.lt_of_le_of_lt fz_len (by decide), ?_⟩; generalize hH : upd H _ _ = H; replace hL := Led.upF hL (by fail "up") (by fail "ptF") hH; fail "cl")
  | (refine ⟨_, _, hL.at (by fail "ix"), Nat.lt_of_le_of_lt fz_len (by decide), ?_⟩; generalize hH : upd H _ _ = H; replace hL := Led.upF hL (by fail "up") (by fail "ptF") hH; fail "cl")
  | (refine k_dputS hL (by fail "ix") (Nat.lt_of_le_of_lt dz_len (by decide)) (by fail "ptD") (by fail "up") ?_; clear hL; intro H hL; dsimp only [List.set, List.cons_append, List.nil_append, List.append] at hL)
  | refine k_lenL2 hL (by fail "ix") ?_
  | refine k_lenT2 hL (by fail "ix") ?_
  | refine .inl ⟨_, rfl, ?_⟩
  | refine .inr ⟨_, rfl, ?_⟩)
local macro_rules | `(tactic| fail "go") => `(tactic| repeat fail "go1")
local macro_rules | `(tactic| fail "pm") => `(tactic| (refine Led.le hL (fun a_ => ?_); simp only [cnt_nil, cnt_cons, cnt_app, List.map_append, List.map_cons, List.map_nil, List.flatMap_append, List.flatMap_cons, List.flatMap_nil, List.append_assoc, List.cons_append, List.nil_append]; omega))

section
variable {P : Program} {w : World} {K : PySem.W.Frag} {mg : Str → Option Value} {base : Heap} {CU CW PN PU PL : Addr} {f cL : Addr} {A : Around} {outer : List Env} {s0 : Shared} {H0 : Hp} {E : XK}
def tK19 : TS := fun D σ H => ∃ (d : Addr) (a b c : Int) (L : Lg), σ[1]? = some (some (.ref d)) ∧ σ.length = 23 ∧ Led H ((d, dD a b c) :: L) ∧
  ∀ (n : Nat) (a b c : Int) H', n < 40 → Led H' ((d, dD a b c) :: L) → D.nx ((σ.set 19 (some .non)).set 20 (some (.int n))) H'
theorem st_k19 (hr : Room 175 (LX P w K mg base f (.ref cL) A outer s0 H0 E).A) (c__law_roll : Cal P w K mg base 3 "_law_roll" (spRollN B20) []) : PS (LX P w K mg base f (.ref cL) A outer s0 H0 E) (nth diceB 19) tK19 := by
  refine ps_imp (t := _) (ps_asg (pe_tup (pa_cons pe_non (pa_cons (pe_c c__law_roll hr (by decide) (by rfl) (pa_cons (pv 1) (pa_cons pe_int pa_nil))) pa_nil))) (pg_tup (by rfl) (pgs_cons (pg_name (i := 19) scLaw.nd rfl (Or.inr rfl)) (pgs_cons (pg_name (i := 20) scLaw.nd rfl (Or.inl rfl)) pgs_nil)))) ?_
  rintro D σ H ⟨d, a, b, c, L, hs1, hsl, hL, kk⟩
  match σ, hs1, hsl with
  | [v0, v1, v2, v3, v4, v5, v6, v7, v8, v9, v10, v11, v12, v13, v14, v15, v16, v17, v18, v19, v20, v21, v22], hs1, _ =>
  cases hs1
  fail "go"
  refine ⟨d, a, b, c, 40, L, rfl, hL, by decide, by decide +kernel, fun n a b c H h0 h1 hL => ?_⟩
  fail "go"
  obtain ⟨m, rfl⟩ : ∃ m : Nat, n = m := ⟨n.toNat, by omega⟩
  exact kk m a b c H (by omega) hL.tail
def tK20 : TS := fun D σ H => ∃ (n : Nat) (L : Lg), σ[19]? = some (some .non) ∧ σ[20]? = some (some (.int n)) ∧ σ.length = 23 ∧ n < 40 ∧ Led H L ∧
  ∀ (v : V) (Z : Lg) (v21 : Option V) H', DL Z v (chainD n) → Led H' (Z ++ L) → D.nx ((σ.set 19 (some v)).set 21 v21) H'
theorem st_k20 (T : TxtLw mg) : PS (LX P w K mg base f (.ref cL) A outer s0 H0 E) (nth diceB 20) tK20 := by
  refine ps_imp (t := _) (ps_for PassesOwn.never rfl (pi_range1 (by rfl) T.range (pa_cons (pv 20) pa_nil)) (pg_name (i := 21) scLaw.nd rfl (Or.inl rfl))
  (pss_one (ps_set (i := 19) scLaw.nd rfl (Or.inr rfl) (pe_tup (pa_cons (pv 19) pa_nil))))) ?_
  rintro D σ H ⟨n, L, hs19, hs20, hsl, hn, hL, kk⟩
  match σ, hs19, hs20, hsl with
  | [v0, v1, v2, v3, v4, v5, v6, v7, v8, v9, v10, v11, v12, v13, v14, v15, v16, v17, v18, v19, v20, v21, v22], hs19, hs20, _ =>
  cases hs19
  cases hs20
  fail "go"
  refine for_rangeA (fun i σ H => Hold (∃ (v : V) (Z : Lg) (v21 : Option V), σ = [v0, v1, v2, v3, v4, v5, v6, v7, v8, v9, v10, v11, v12, v13, v14, v15, v16, v17, v18, some v, some (.int n), v21, v22] ∧ DL Z v (chainD i) ∧ Led H (Z ++ L))) (.mk ⟨.non, [], v21, rfl, .non, hL⟩) (fun i σ H D' hi h hD' => ?_) (fun σ H h => ?_)
  · clear hL
    obtain ⟨v, Z, v21, rfl, hd, hL⟩ := h.out
    clear h
    fail "go"
    refine hD'.nx _ _ (.mk ⟨.ref p, (p, .tup [v]) :: Z, some (.int (0 + (i : Int))), rfl, ?_, hL⟩)
    rw [chainD]
    exact .row (.head _) (.inl rfl) (.cons (hd.mono fun x h => .tail _ h) .nil)
  · clear hL
    obtain ⟨v, Z, v21, rfl, hd, hL⟩ := h.out
    rw [show ((n : Nat) : Int).toNat = n by omega] at hd
    exact kk v Z v21 H hd hL
def tK21 (PL PN : Addr) (q : Str) : TS := fun D σ H => ∃ (v : V) (n : Nat) (pl pn : Array Value) (Z L : Lg), σ[19]? = some (some v) ∧ σ[20]? = some (some (.int n)) ∧ σ.length = 23 ∧ DL L v (chainD n) ∧ n < 40 ∧ TriplesOk pn.toList ∧ TabL q pl Z ∧ Led H ((PL, .tbl pl) :: (Z ++ ((PN, .tbl pn) :: L))) ∧
  (∀ (pl : Array Value) (Z : Lg) (pn : Array Value) H', TabL q pl Z → TriplesOk pn.toList → Led H' ((PL, .tbl pl) :: (Z ++ ((PN, .tbl pn) :: L))) → D.nx σ H')
theorem st_k21 (hr : Room 175 (LX P w K mg base f (.ref cL) A outer s0 H0 E).A) (TB : LamX.TabB base mg cL PL) {gT : Addr} (c_told : ∀ i : ToF, CalS P w K mg base 167 "_law_told" (gTold i.2.1 i.1 i.2.2) (spToldS P w K mg base 166 [(CW, "WireError")] i.2.1 i.1 i.2.2)) (hmT : mg "_law_told" = some (.ref gT)) (kpT : PySem.W.keepIn K (.ref gT) = true)
    (TE : ExcT K mg "WireError" CW) (c_packC : Cal P w K mg base (5 + 31) "pack" (spPackC PN 31) [.int 0]) (c_packX : CalX P w K mg base (5 + 32) "pack" (spPackX CW PN 32) [.int 0]) :
    PS (LX P w K mg base f (.ref cL) A outer s0 H0 E) (nth diceB 21) (tK21 PL PN ((LX P w K mg base f (.ref cL) A outer s0 H0 E).env.qual ++ "<lambda>")) := by
  refine ps_imp (t := _) (ps_if (pt_cmpR op_ne (pe_cmpR (op_eqP hr.units) (pe_cS (R := fun (i : ToF) σ => i.1 = (["deep"] : List Str) ∧ i.2.1.cl = cloFrom (LX P w K mg base f (.ref cL) A outer s0 H0 E).env.cells (lamScope lamP).names [] ∧ i.2.2 = [19].map (slotAt σ)) c_told hr (by decide) (fun i pins σ H s I hR => ?_) rfl hmT kpT L2.takes0 (pa_cons (pe_lamvL TB rfl rfl rfl hfP) pa_nil)) pe_str (nomark _)) (pe_cmpR op_gt (pv 20) pe_int (nomark _)) (nomark _)) (pss_one (ps_ret pe_bl)) pss_nil) ?_
  · obtain ⟨e1, e2, e3⟩ := hR
    show CellsO i.2.1.cl i.1 i.2.2 _ _ _
    rw [e1, e2, e3]
    exact CellsO.made (fun _ => rfl) I (Caps.made I.ok (fun y hy e => .inl (hfP y hy e)) hgP rfl)
  generalize (LX P w K mg base f (.ref cL) A outer s0 H0 E).env.qual ++ "<lambda>" = q
  generalize (LX P w K mg base f (.ref cL) A outer s0 H0 E).env.cells = cs
  rintro D σ H ⟨v, n, pl, pn, Z, L, hs19, hs20, hsl, hd, hn, ht, hT, hL, kk⟩
  match σ, hs19, hs20, hsl with
  | [v0, v1, v2, v3, v4, v5, v6, v7, v8, v9, v10, v11, v12, v13, v14, v15, v16, v17, v18, v19, v20, v21, v22], hs19, hs20, _ =>
  cases hs19
  cases hs20
  refine ⟨pl, Z, _, hL, hT, fun f1 d1 pl1 Z1 H hL2 hT1 hc1 => ?_⟩
  clear hL
  have hL : Led H (lbO q cs lamP f1 d1 :: (PL, .tbl pl1) :: (Z1 ++ (Z ++ ((PN, .tbl pn) :: L)))) := hL2
  clear hL2
  have mc : (d1, CodeO d1 q) ∈ lbO q cs lamP f1 d1 :: (PL, .tbl pl1) :: (Z1 ++ (Z ++ ((PN, .tbl pn) :: L))) := .tail _ (.tail _ (by
    rw [← List.append_assoc]
    exact List.mem_append_left _ hc1))
  have hB : Led H ((PN, .tbl pn) :: ((PL, .tbl pl1) :: ((Z1 ++ Z) ++ L))) := hL.le (fun a_ => by
    simp only [cnt_cons, cnt_app]
    omega)
  have hdB : DL ((PL, .tbl pl1) :: ((Z1 ++ Z) ++ L)) v (chainD n) := hd.mono (fun x h => .tail _ (List.mem_append_right _ h))
  by_cases h30 : n ≤ 30
  · refine ⟨((["deep"] : List Str), lbF q cs lamP d1, [some v]), ⟨rfl, rfl, rfl⟩, f1, lamBody lamP, tlP PN, rfl, hL.mem (.head _), .of (hL.mem mc), lokP c_packC, rfl, v, n, pn, _, rfl, hB, ht, hdB, h30, fun r bs pn H ht hL2 => ?_⟩
    clear hB hL
    refine ⟨.tuple (bs.map PyData.int), .str "WireError", dp_tup (hL2.mem (.head _)) dp_ints, .str _, shal_tupI, ⟨by simp [PyData.plain], by simp [PyData.depth]⟩, ?_⟩
    rw [show PyData.eqv (.tuple (bs.map PyData.int)) (.str "WireError") = false by simp [PyData.eqv]]
    show tOp _ _ _ _ _ _
    fail "go"
    rw [show (!decide (V.bl false = (fun i j : Int => V.bl (decide (j < i))) (n : Int) 30)) = false by
      simp
      omega]
    fail "go"
    refine kk pl1 (Z1 ++ Z) pn H hT1 ht (hL2.le (fun a_ => ?_))
    simp only [cnt_cons, cnt_app]
    omega
  · refine ⟨((["deep"] : List Str), lbF q cs lamP d1, [some v]), ⟨rfl, rfl, rfl⟩, f1, lamBody lamP, tlPX CW PN, rfl, hL.mem (.head _), .of (hL.mem mc), lokPX c_packX, rfl, v, n, pn, _, rfl, hB, hdB, by omega, fun H hL2 => ?_⟩
    clear hB hL
    refine ⟨true, TE.em, fun _ => ?_, fun h => (nomatch h)⟩
    dsimp only [tC]
    refine k_eqSame (d := .str "WireError") (.str _) (.str _) ⟨by simp [PyData.plain], by simp [PyData.depth]⟩ ?_
    fail "go"
    rw [show (!decide (V.bl true = (fun i j : Int => V.bl (decide (j < i))) (n : Int) 30)) = false by
      simp
      omega]
    fail "go"
    refine kk pl1 (Z1 ++ Z) pn H hT1 ht (hL2.le (fun a_ => ?_))
    simp only [cnt_cons, cnt_app]
    omega
end
end Sd


set_option linter.unusedVariables false
namespace Sd
open PySem L2 LamX NdefX PyProof.Rows Mx
open C8 (Cal Met Mak pe_c pe_mk pe_mt pe_mt0 pss_cut tCut)
-- NPAT 23
-- TYPES NOCELL=one,SLA=yes,deep=any
set_option linter.unusedSimpArgs false
set_option pp.deepTerms false
set_option pp.deepTerms.threshold 12
set_option hygiene false
local macro_rules | `(tactic| fail "nd") => `(tactic| first | assumption | decide +kernel)
local macro_rules | `(tactic| fail "ix") => `(tactic| first | exact ⟨0, rfl⟩ | exact ⟨1, rfl⟩ | exact ⟨2, rfl⟩ | exact ⟨3, rfl⟩ | exact ⟨4, rfl⟩ | exact ⟨5, rfl⟩ | exact ⟨6, rfl⟩ | exact ⟨7, rfl⟩ | exact ⟨8, rfl⟩ | exact ⟨9, rfl⟩ | exact ⟨10, rfl⟩ | exact ⟨11, rfl⟩ | exact ⟨12, rfl⟩ | exact ⟨13, rfl⟩ | exact ⟨14, rfl⟩ | exact ⟨15, rfl⟩ | exact ⟨16, rfl⟩ | exact ⟨17, rfl⟩ | exact ⟨18, rfl⟩ | assumption)
local macro_rules | `(tactic| fail "up") => `(tactic| first | exact ⟨0, rfl, rfl⟩ | exact ⟨1, rfl, rfl⟩ | exact ⟨2, rfl, rfl⟩ | exact ⟨3, rfl, rfl⟩ | exact ⟨4, rfl, rfl⟩ | exact ⟨5, rfl, rfl⟩ | exact ⟨6, rfl, rfl⟩ | exact ⟨7, rfl, rfl⟩ | exact ⟨8, rfl, rfl⟩ | exact ⟨9, rfl, rfl⟩ | exact ⟨10, rfl, rfl⟩ | exact ⟨11, rfl, rfl⟩ | exact ⟨12, rfl, rfl⟩ | exact ⟨13, rfl, rfl⟩ | exact ⟨14, rfl, rfl⟩ | exact ⟨15, rfl, rfl⟩ | exact ⟨16, rfl, rfl⟩ | assumption)
local macro_rules | `(tactic| fail "lkF") => `(tactic| first | assumption | exact fz_at 0 (by fail "nd") rfl rfl | exact fz_at 1 (by fail "nd") rfl rfl | exact fz_at 2 (by fail "nd") rfl rfl | exact fz_at 3 (by fail "nd") rfl rfl | exact fz_at 4 (by fail "nd") rfl rfl | exact fz_at 5 (by fail "nd") rfl rfl | exact fz_at 6 (by fail "nd") rfl rfl | exact fz_at 7 (by fail "nd") rfl rfl)
local macro_rules | `(tactic| fail "lkD") => `(tactic| first | assumption | exact dz_at 0 (by fail "nd") rfl rfl | exact dz_at 1 (by fail "nd") rfl rfl | exact dz_at 2 (by fail "nd") rfl rfl | exact dz_at 3 (by fail "nd") rfl rfl | exact dz_at 4 (by fail "nd") rfl rfl)
local macro_rules | `(tactic| fail "ptF") => `(tactic| first | assumption | exact fz_put 0 (by fail "nd") rfl (Nat.le_of_ble_eq_true rfl) | exact fz_put 1 (by fail "nd") rfl (Nat.le_of_ble_eq_true rfl) | exact fz_put 2 (by fail "nd") rfl (Nat.le_of_ble_eq_true rfl) | exact fz_put 3 (by fail "nd") rfl (Nat.le_of_ble_eq_true rfl) | exact fz_put 4 (by fail "nd") rfl (Nat.le_of_ble_eq_true rfl) | exact fz_put 5 (by fail "nd") rfl (Nat.le_of_ble_eq_true rfl) | exact fz_put 6 (by fail "nd") rfl (Nat.le_of_ble_eq_true rfl) | exact fz_put 7 (by fail "nd") rfl (Nat.le_of_ble_eq_true rfl) | exact fz_new (by decide +kernel) rfl)
local macro_rules | `(tactic| fail "ptD") => `(tactic| first | assumption | exact dz_put 0 (by fail "nd") rfl (Nat.le_of_ble_eq_true rfl) | exact dz_put 1 (by fail "nd") rfl (Nat.le_of_ble_eq_true rfl) | exact dz_put 2 (by fail "nd") rfl (Nat.le_of_ble_eq_true rfl) | exact dz_put 3 (by fail "nd") rfl (Nat.le_of_ble_eq_true rfl) | exact dz_put 4 (by fail "nd") rfl (Nat.le_of_ble_eq_true rfl))
local macro_rules | `(tactic| fail "sz") => `(tactic| first | assumption | exact (Nat.le_of_ble_eq_true rfl) | omega | decide)
local macro_rules | `(tactic| fail "sd") => `(tactic| first | rfl | assumption | decide | omega | (dsimp only; first | decide | omega) | exact .inr ⟨by decide, by decide⟩ | exact .inl ⟨by decide, by decide⟩ | exact ⟨by omega, by omega⟩ | exact .inl ⟨by omega, by omega⟩ | exact .inr ⟨by omega, by omega⟩ | exact ⟨by omega, by omega, by omega⟩)
local macro_rules | `(tactic| fail "cl") => `(tactic| (clear hH; dsimp only [List.set, List.cons_append, List.nil_append, List.append] at hL))
local macro_rules | `(tactic| fail "gn") => `(tactic| (intro p hp; generalize hH : upd H p _ = H; replace hL := Led.newH hL hp hH; clear hH hp))
local macro_rules | `(tactic| fail "gup") => `(tactic| (generalize hH : upd H _ _ = H; replace hL := Led.upU hL (by fail "up") hH; fail "cl"))
local macro_rules | `(tactic| fail "gmk") => `(tactic| (intro x dx hx hd ne; generalize hH : upd (upd H dx _) x _ = H; replace hL := Led.made hL hx hd ne hH; clear hH hx hd ne))
local macro_rules | `(tactic| fail "v") => `(tactic| refine ⟨_, rfl, ?_⟩)
local macro_rules | `(tactic| fail "i2") => `(tactic| refine ⟨_, _, rfl, rfl, ?_⟩)
local macro_rules | `(tactic| fail "go1") => `(tactic| first
  | refine ⟨_, rfl, ?_⟩
  | refine ⟨_, _, rfl, rfl, ?_⟩
  | refine ⟨_, _, rfl, ?_⟩
  | refine iteT ?_
  | refine iteF ?_
  | refine k_fld hL (by fail "ix") (by assumption) (by assumption) (by fail "lkF") ?_
  | refine k_dgetS hL (by fail "ix") (by fail "lkD") ?_
  | refine k_dgetI hL (by fail "ix") (by assumption) ?_
  | refine k_ixL hL (by fail "ix") (by first | rfl | assumption) ?_
  | refine k_ixT hL (by fail "ix") (by first | rfl | assumption) ?_
  | refine k_tyL hL (by fail "ix") ?_
  | refine k_isd hL (by fail "ix") ?_
  | (refine And.intro (by fail "sz") ?_; fail "gn")
  | refine And.intro (by fail "sd") ?_
  | fail "gn"
  | refine k_meth hL (by fail "ix") (by first | assumption | exact fz_no (by decide +kernel)) ?_
  | refine k_gtup hL (by fail "ix") rfl ?_
  | (refine k_popI hL (by fail "ix") (by assumption) ?_; fail "gup")
  | (refine k_listD hL (by fail "ix") ?_; fail "gn")
  | (refine ⟨_, _, _, _, rfl, rfl, hL.at (by fail "ix"), rfl, ?_⟩; fail "gup")
  | (refine ⟨_, _, _, rfl, rfl, hL.at (by fail "ix"), (by fail "sz"), ?_⟩; fail "gup")
  | (refine ⟨_, _, _, _, rfl, hL.at (by fail "ix"), by assumption, by assumption, Nat.lt_of_le_of_lt fz_len (by decide), ?_⟩; generalize hH : upd H _ _ = H; replace hL := Led.upF hL (by fail "up") (by fail "ptF") hH; fail "cl")
  | (refine ⟨_, _, hL.at (by fail "ix"), Nat.lt_of_le_of_lt fz_len (by decide), ?_⟩; generalize hH : upd H _ _ = H; replace hL := Led.upF hL (by fail "up") (by fail "ptF") hH; fail "cl")
  | (refine k_dputS hL (by fail "ix") (Nat.lt_of_le_of_lt dz_len (by decide)) (by fail "ptD") (by fail "up") ?_; clear hL; intro H hL; dsimp only [List.set, List.cons_append, List.nil_append, List.append] at hL)
  | refine k_lenL2 hL (by fail "ix") ?_
  | refine k_lenT2 hL (by fail "ix") ?_
  | refine .inl ⟨_, rfl, ?_⟩
  | refine .inr ⟨_, rfl, ?_⟩)
local macro_rules | `(tactic| fail "go") => `(tactic| repeat fail "go1")
local macro_rules | `(tactic| fail "pm") => `(tactic| (refine Led.le hL (fun a_ => ?_); simp only [cnt_nil, cnt_cons, cnt_app, List.map_append, List.map_cons, List.map_nil, List.flatMap_append, List.flatMap_cons, List.flatMap_nil, List.append_assoc, List.cons_append, List.nil_append]; omega))

/-! ### the law's last lines -/
theorem clo1 {cl : List (Str × Addr)} : cloFrom cl (lamScope lam1).names [] = [(("one" : Str), (cl.lookup ("one" : Str)).getD 0)] := by rfl
theorem lc_one : ((lcScope lcW).names.lookup ("one" : Str) == some NameKind.cell) = true := by decide +kernel
theorem clo1_fn {cl : List (Str × Addr)} {y : Str} {c : Addr} (h : (cloFrom cl (lamScope lam1).names []).lookup y = some c) : ((lcScope lcW).names.lookup y == some NameKind.cell) = true := by
  rw [clo1, List.lookup_cons] at h
  cases e : y == ("one" : Str) with
  | true =>
    rw [eq_of_beq e]
    exact lc_one
  | false =>
    rw [e] at h
    cases h
theorem lk_map {g : Str × NameKind → Str × NameKind} (h1 : ∀ p, (g p).1 = p.1) (h2 : ∀ p, p.2 = .cell → (g p).2 = .cell) : ∀ {l : List (Str × NameKind)} {x : Str}, l.lookup x = some .cell → (l.map g).lookup x = some .cell
  | [], x, h => by cases h
  | p :: l, x, h => by
    obtain ⟨n, k⟩ := p
    have e : g (n, k) = (n, (g (n, k)).2) := Prod.ext (h1 _) rfl
    rw [List.map_cons, e, List.lookup_cons]
    rw [List.lookup_cons] at h
    cases hx : x == n with
    | true =>
      rw [hx] at h
      have hk : k = .cell := Option.some.inj h
      exact congrArg some (h2 (n, k) hk)
    | false =>
      rw [hx] at h
      exact lk_map h1 h2 h
theorem hf1r {env : Env} : ∀ y ∈ (lamScope lam1).names, y.2 = .free → (relabel (lcScope lcW) env).names.lookup y.1 = some .cell := fun y hy e => by
  refine lk_map (fun p => ?_) (fun p hp => ?_) (hf1 y hy e)
  · obtain ⟨n, k⟩ := p
    dsimp only
    split <;> rfl
  · obtain ⟨n, k⟩ := p
    obtain rfl : k = .cell := hp
    rfl
def BadM (M : Lg) (xs : List V) : Prop := ∀ v ∈ xs, ∃ (r : Addr) (bs : List Int), v = .ref r ∧ (r, tI bs) ∈ M ∧ bs ∈ badL
def tBad : TS := fun D σ H => ∃ L : Lg, σ.length = 23 ∧ Led H L ∧ ∀ (bl : Addr) (xs : List V) (M : Lg) H', BadM M xs → Led H' ((bl, .lst xs) :: (M ++ L)) → D.nx (σ.set 22 (some (.ref bl))) H'
def tIfW (PL PU : Addr) (q : Str) : TS := fun D σ H => ∃ (bl : Addr) (xs : List V) (pl pu : Array Value) (Z L1 : Lg), σ[22]? = some (some (.ref bl)) ∧ σ.length = 23 ∧ (bl, .lst xs) ∈ L1 ∧ BadM L1 xs ∧ TriplesOk pu.toList ∧ TabL q pl Z ∧ Led H ((PL, .tbl pl) :: (Z ++ ((PU, .tbl pu) :: L1))) ∧
  ∀ (pl : Array Value) (Z : Lg) H', TabL q pl Z → Led H' ((PL, .tbl pl) :: Z) → D.nx σ H'
def tRetL (PL : Addr) (q : Str) : TS := fun D σ H => ∃ (pl : Array Value) (Z : Lg), TabL q pl Z ∧ Led H ((PL, .tbl pl) :: Z) ∧ ∀ H', D.rt (.bl true) H'
section
variable {P : Program} {w : World} {K : PySem.W.Frag} {mg : Str → Option Value} {base : Heap} {CU CW PN PU PL : Addr} {f cL : Addr} {A : Around} {outer : List Env} {s0 : Shared} {H0 : Hp} {E : XK}
theorem st_bad : PS (LX P w K mg base f (.ref cL) A outer s0 H0 E) (nth (defBody sLaw) 1) tBad := by
  refine ps_imp (t := _) (ps_set (i := 22) scLaw.nd rfl (Or.inl rfl) (pe_lst (pa_cons (pe_tup pa_nil) (pa_cons (pe_tup (pa_cons pe_int pa_nil)) (pa_cons (pe_tup (pa_cons pe_int pa_nil)) (pa_cons (pe_tup (pa_cons pe_int (pa_cons pe_int (pa_cons pe_int pa_nil)))) (pa_cons (pe_tup (pa_cons pe_int (pa_cons pe_int pa_nil))) (pa_cons (pe_tup (pa_cons pe_int (pa_cons pe_int (pa_cons pe_int pa_nil)))) (pa_cons (pe_tup (pa_cons pe_int (pa_cons pe_int pa_nil))) (pa_cons (pe_tup (pa_cons pe_int (pa_cons pe_int (pa_cons pe_int pa_nil)))) (pa_cons (pe_tup (pa_cons pe_int (pa_cons pe_int pa_nil))) (pa_cons (pe_tup (pa_cons pe_int pa_nil)) pa_nil)))))))))))) ?_
  rintro D σ H ⟨L, hsl, hL, kk⟩
  match σ, hsl with
  | [v0, v1, v2, v3, v4, v5, v6, v7, v8, v9, v10, v11, v12, v13, v14, v15, v16, v17, v18, v19, v20, v21, v22], _ =>
  fail "go"
  refine kk _ _ [_, _, _, _, _, _, _, _, _, _] _ ?_ hL
  intro v hv
  simp only [List.mem_cons, List.not_mem_nil, or_false] at hv
  rcases hv with rfl | rfl | rfl | rfl | rfl | rfl | rfl | rfl | rfl | rfl
  · exact ⟨_, ([] : List Int), rfl, (.tail _ (.tail _ (.tail _ (.tail _ (.tail _ (.tail _ (.tail _ (.tail _ (.tail _ (.head _)))))))))), by decide⟩
  · exact ⟨_, ([0] : List Int), rfl, (.tail _ (.tail _ (.tail _ (.tail _ (.tail _ (.tail _ (.tail _ (.tail _ (.head _))))))))), by decide⟩
  · exact ⟨_, ([4] : List Int), rfl, (.tail _ (.tail _ (.tail _ (.tail _ (.tail _ (.tail _ (.tail _ (.head _)))))))), by decide⟩
  · exact ⟨_, ([4, 128, 0] : List Int), rfl, (.tail _ (.tail _ (.tail _ (.tail _ (.tail _ (.tail _ (.head _))))))), by decide⟩
  · exact ⟨_, ([6, 1] : List Int), rfl, (.tail _ (.tail _ (.tail _ (.tail _ (.tail _ (.head _)))))), by decide⟩
  · exact ⟨_, ([6, 1, 95] : List Int), rfl, (.tail _ (.tail _ (.tail _ (.tail _ (.head _))))), by decide⟩
  · exact ⟨_, ([7, 1] : List Int), rfl, (.tail _ (.tail _ (.tail _ (.head _)))), by decide⟩
  · exact ⟨_, ([7, 200, 1] : List Int), rfl, (.tail _ (.tail _ (.head _))), by decide⟩
  · exact ⟨_, ([1, 1] : List Int), rfl, (.tail _ (.head _)), by decide⟩
  · exact ⟨_, ([8] : List Int), rfl, (.head _), by decide⟩
theorem st_ifW (hr : Room 175 (LX P w K mg base f (.ref cL) A outer s0 H0 E).A) (TB : LamX.TabB base mg cL PL) {gT : Addr} (c_told : ∀ i : ToF, CalS P w K mg base 167 "_law_told" (gTold i.2.1 i.1 i.2.2) (spToldS P w K mg base 166 [(CW, "WireError")] i.2.1 i.1 i.2.2)) (hmT : mg "_law_told" = some (.ref gT)) (kpT : PySem.W.keepIn K (.ref gT) = true)
    (TE : ExcT K mg "WireError" CW) (c_unpackX : CalX P w K mg base 165 "unpack" (spUnpackX CU CW PU) []) (c_packL : CalX P w K mg base 38 "pack" (spPackLX CW) [.int 0]) :
    PS (LX P w K mg base f (.ref cL) A outer s0 H0 E) (nth (defBody sLaw) 2) (tIfW PL PU ((LX P w K mg base f (.ref cL) A outer s0 H0 E).env.qual ++ "<lambda>")) := by
  refine ps_imp (t := _) (ps_if (PW.pt (pw_or (pt_cmpR (op_neP hr.units) (pe_lc (own := [("one", 11)]) (g := gName 11) (by rfl) scLaw.nd (pi_list (pv 22)) (blkOk_by (own := [("one", 11)]) (N := NLw) (sc := defScope sLaw) (by decide +kernel)) (fun _ _ _ _ _ => (pg_name (i := 11) scLaw.nd rfl (Or.inr rfl)))
      (fun s H C0 cl fp => (pts_one (pt_cmpR op_ne (pe_inst (t := fun cl : List (Str × Addr) => tCallS (ι := ToF) (fun i => spToldS P w K mg base 166 [(CW, "WireError")] i.2.1 i.1 i.2.2) (fun i σ => i.1 = (["one"] : List Str) ∧ i.2.1.cl = cloFrom cl (lamScope lam1).names [] ∧ i.2.2 = [11].map (slotAt σ)) (fun _ _ _ => False)
        (tCons (tLamVL PL ((LX P w K mg base f (.ref cL) A outer s0 H0 E).env.qual ++ "<lambda>") (lamArgs lam1) (lamBody lam1) (lamScope lam1) (cloFrom cl (lamScope lam1).names [])) tNil)) cl (pe_cSB c_told hr (by decide) (fun i pins σ H' s' I hR => ?_) (by rfl) hmT kpT (pa_cons (pe_lamvL TB rfl rfl rfl hf1r) pa_nil))) pe_str (nomark _)))) (fun _ _ _ _ _ => (pv 11))) (pe_lst pa_nil) (nomark _))
    (pw_or1 (pt_cmpR op_ne (pe_cS (R := fun (i : ToF) σ => i.1 = [] ∧ i.2.1.cl = [] ∧ i.2.2 = []) c_told hr (by decide) (fun i pins σ H s I hR => hG0 hR) (by rfl) hmT kpT L2.takes0 (pa_cons (pe_lamvL TB rfl rfl rfl hfL) pa_nil)) pe_str (nomark _)))))
    (pss_one (ps_ret pe_bl)) pss_nil) ?_
  · obtain ⟨e1, e2, e3⟩ := hR
    show CellsO i.2.1.cl i.1 i.2.2 _ _ _
    rw [e1, e2, e3]
    exact CellsO.madeB (fun y c h => clo1_fn h) I (Caps.made I.ok (fun y hy e => .inl (hf1r y hy e)) hg1 rfl)
  generalize (LX P w K mg base f (.ref cL) A outer s0 H0 E).env.qual ++ "<lambda>" = q
  rintro D σ H ⟨bl, xs, pl, pu, Z, L1, hs22, hsl, mw, hbm, ht, hT, hL, kk⟩
  match σ, hs22, hsl with
  | [v0, v1, v2, v3, v4, v5, v6, v7, v8, v9, v10, v11, v12, v13, v14, v15, v16, v17, v18, v19, v20, v21, v22], hs22, _ =>
  cases hs22
  refine ⟨_, rfl, ?_⟩
  refine ⟨_, rfl, ⟨_, .of (hL.mem (.tail _ (List.mem_append_right _ (.tail _ mw))))⟩, fun Dl hD => lc_list (K := K) (g := gName 11) (vs := [11]) (a := bl) (xs := xs) (fun i H => Hold (∃ (pl : Array Value) (Z : Lg) (pu : Array Value), TabL q pl Z ∧ TriplesOk pu.toList ∧ Led H ((Dl, .lst []) :: (PL, .tbl pl) :: (Z ++ ((PU, .tbl pu) :: L1))))) (.mk ⟨pl, Z, pu, hT, ht, hL.new hD⟩) (fun i H _ h => ?_) (fun i v H hi h => ?_) (fun H h => ?_)⟩
  · obtain ⟨pl, Z, pu, _, _, hL⟩ := h.out
    exact .of (hL.mem (.tail _ (.tail _ (List.mem_append_right _ (.tail _ mw)))))
  · clear hL hD hT ht
    obtain ⟨pl, Z, pu, hT, ht, hL⟩ := h.out
    clear h
    obtain ⟨r, bs, rfl, mr, hb⟩ := hbm v (List.mem_of_getElem? hi)
    clear hi
    refine ⟨rfl, ?_⟩
    refine (show ∀ cl : List (Str × Addr), _ from fun cl => ?_)
    have hB : Led H ((PL, .tbl pl) :: (Z ++ ((Dl, .lst []) :: (PU, .tbl pu) :: L1))) := hL.le (fun a_ => by
      simp only [cnt_cons, cnt_app]
      omega)
    clear hL
    refine ⟨pl, Z, _, hB, hT, fun f1 d1 pl1 Z1 H hL hT1 hc1 => ?_⟩
    clear hB
    have hL : Led H (lbO q cl lam1 f1 d1 :: (PL, .tbl pl1) :: (Z1 ++ (Z ++ ((Dl, .lst []) :: (PU, .tbl pu) :: L1)))) := hL
    have mc1 : (d1, CodeO d1 q) ∈ lbO q cl lam1 f1 d1 :: (PL, .tbl pl1) :: (Z1 ++ (Z ++ ((Dl, .lst []) :: (PU, .tbl pu) :: L1))) := .tail _ (.tail _ (by
      rw [← List.append_assoc]
      exact List.mem_append_left _ hc1))
    have hB : Led H ((PU, .tbl pu) :: ((Dl, .lst []) :: (PL, .tbl pl1) :: ((Z1 ++ Z) ++ L1))) := hL.le (fun a_ => by
      simp only [cnt_cons, cnt_app]
      omega)
    have hbb := bad_byte hb
    refine ⟨((["one"] : List Str), lbF q cl lam1 d1, [some (.ref r)]), ⟨rfl, rfl, rfl⟩, f1, lamBody lam1, tlU CW PU, rfl, hL.mem (.head _), .of (hL.mem mc1), lok1 c_unpackX, rfl, r, bs, pu, _, rfl, hB, ht, .tail _ (.tail _ (List.mem_append_right _ mr)), hbb.1, Nat.le_trans hbb.2 (by decide), fun d _ _ _ _ hbd hs _ _ _ _ => absurd hbd (bad_none hb d hs), fun pu H ht hL2 => ?_⟩
    clear hL mc1 hB
    refine ⟨true, TE.em, fun _ => ?_, fun h => (nomatch h)⟩
    refine ⟨rfl, ?_⟩
    rw [show (!decide (V.str ("WireError" : Str) = V.str ("WireError" : Str))) = false by simp]
    refine ⟨_, rfl, iteF ?_⟩
    refine .mk ⟨pl1, Z1 ++ Z, pu, hT1, ht, hL2.le (fun a_ => ?_)⟩
    simp only [cnt_cons, cnt_app]
    omega
  · clear hL hD hT ht
    obtain ⟨pl, Z, pu, hT, ht, hL⟩ := h.out
    clear h
    fail "go"
    refine k_neSame (d := .list []) (dp_lst (hL.mem (.tail _ (.head _))) .nil) (dp_lst (hL.mem (.head _)) .nil) ⟨by simp [PyData.plain, PyData.plainAll], by simp [PyData.depth, PyData.depthAll]⟩ ?_
    refine ⟨_, rfl, ?_⟩
    refine iteF ?_
    have hB : Led H ((PL, .tbl pl) :: (Z ++ L1)) := hL.le (fun a_ => by
      simp only [cnt_cons, cnt_app]
      omega)
    clear hL
    refine ⟨pl, Z, _, hB, hT, fun f2 d2 pl2 Z2 H hL hT2 hc2 => ?_⟩
    have hL : Led H (lbO q [] lamL f2 d2 :: (PL, .tbl pl2) :: (Z2 ++ (Z ++ L1))) := hL
    clear hB
    have mc2 : (d2, CodeO d2 q) ∈ lbO q [] lamL f2 d2 :: (PL, .tbl pl2) :: (Z2 ++ (Z ++ L1)) := .tail _ (.tail _ (by
      rw [← List.append_assoc]
      exact List.mem_append_left _ hc2))
    refine ⟨([], lbF q [] lamL d2, []), ⟨rfl, rfl, rfl⟩, f2, lamBody lamL, tlE CW, rfl, hL.mem (.head _), .of (hL.mem mc2), lokL c_packL, rfl, rfl, _, hL, fun H hL2 => ?_⟩
    clear hL mc2
    refine ⟨true, TE.em, fun _ => ?_, fun h => (nomatch h)⟩
    refine ⟨rfl, ?_⟩
    rw [show (!decide (V.str ("WireError" : Str) = V.str ("WireError" : Str))) = false by simp]
    refine ⟨_, rfl, iteF ?_⟩
    refine kk pl2 (Z2 ++ Z) H hT2 (hL2.le (fun a_ => ?_))
    simp only [cnt_cons, cnt_app]
    omega
theorem st_retL (hr : Room 175 (LX P w K mg base f (.ref cL) A outer s0 H0 E).A) (TB : LamX.TabB base mg cL PL) {gT : Addr} (c_told : ∀ i : ToF, CalS P w K mg base 167 "_law_told" (gTold i.2.1 i.1 i.2.2) (spToldS P w K mg base 166 [(CW, "WireError")] i.2.1 i.1 i.2.2)) (hmT : mg "_law_told" = some (.ref gT)) (kpT : PySem.W.keepIn K (.ref gT) = true)
    (TE : ExcT K mg "WireError" CW) (c_signX : CalX P w K mg base 1 "sign_number" (spSignX CW) []) (c_sign : Cal P w K mg base 1 "sign_number" spSignN []) :
    PS (LX P w K mg base f (.ref cL) A outer s0 H0 E) (nth (defBody sLaw) 3) (tRetL PL ((LX P w K mg base f (.ref cL) A outer s0 H0 E).env.qual ++ "<lambda>")) := by
  refine ps_imp (t := _) (ps_ret (pe_and (pe_cmpR op_eq (pe_cS (R := fun (i : ToF) σ => i.1 = [] ∧ i.2.1.cl = [] ∧ i.2.2 = []) c_told hr (by decide) (fun i pins σ H s I hR => hG0 hR) (by rfl) hmT kpT L2.takes0 (pa_cons (pe_lamvL TB rfl rfl rfl hfS) pa_nil)) pe_str (nomark _))
      (pe_one (pe_cmpR op_eq (pe_c c_sign hr (by decide) (by rfl) (pa_cons pe_str pa_nil)) pe_int (nomark _))))) ?_
  generalize (LX P w K mg base f (.ref cL) A outer s0 H0 E).env.qual ++ "<lambda>" = q
  rintro D σ H ⟨pl, Z, hT, hL, kk⟩
  have hB : Led H ((PL, .tbl pl) :: (Z ++ [])) := by rw [List.append_nil]; exact hL
  refine ⟨pl, Z, _, hB, hT, fun f2 d2 pl2 Z2 H hL hT2 hc2 => ?_⟩
  have hL : Led H (lbO q [] lamS f2 d2 :: (PL, .tbl pl2) :: (Z2 ++ (Z ++ []))) := hL
  clear hB
  have mc2 : (d2, CodeO d2 q) ∈ lbO q [] lamS f2 d2 :: (PL, .tbl pl2) :: (Z2 ++ (Z ++ [])) := .tail _ (.tail _ (by
    rw [← List.append_assoc]
    exact List.mem_append_left _ hc2))
  have h9 : Txt.find SIGNS ("\t" : Str) < 0 := by decide +kernel
  have h10 : Txt.find SIGNS ("\n" : Str) = 0 := by decide +kernel
  refine ⟨([], lbF q [] lamS d2, []), ⟨rfl, rfl, rfl⟩, f2, lamBody lamS, tlE CW, rfl, hL.mem (.head _), .of (hL.mem mc2), lokS c_signX h9, rfl, rfl, _, hL, fun H hL2 => ?_⟩
  clear hL mc2
  refine ⟨true, TE.em, fun _ => ?_, fun h => (nomatch h)⟩
  refine ⟨rfl, ?_⟩
  rw [show decide (V.str ("WireError" : Str) = V.str ("WireError" : Str)) = true by simp]
  refine ⟨_, rfl, ?_⟩
  refine iteT ?_
  refine ⟨_, rfl, by rw [h10]; decide, ?_⟩
  rw [h10]
  exact ⟨rfl, kk H⟩
end
end Sd


set_option linter.unusedVariables false
namespace Sd
open PySem L2 LamX NdefX PyProof.Rows Mx
open C8 (Cal Met Mak pe_c pe_mk pe_mt pe_mt0 pss_cut tCut)
-- NPAT 23
-- TYPES NOCELL=one,SLA=yes,deep=any
set_option linter.unusedSimpArgs false
set_option pp.deepTerms false
set_option pp.deepTerms.threshold 12
set_option hygiene false
local macro_rules | `(tactic| fail "nd") => `(tactic| first | assumption | decide +kernel)
local macro_rules | `(tactic| fail "ix") => `(tactic| first | exact ⟨0, rfl⟩ | exact ⟨1, rfl⟩ | exact ⟨2, rfl⟩ | exact ⟨3, rfl⟩ | exact ⟨4, rfl⟩ | exact ⟨5, rfl⟩ | exact ⟨6, rfl⟩ | exact ⟨7, rfl⟩ | exact ⟨8, rfl⟩ | exact ⟨9, rfl⟩ | exact ⟨10, rfl⟩ | exact ⟨11, rfl⟩ | exact ⟨12, rfl⟩ | exact ⟨13, rfl⟩ | exact ⟨14, rfl⟩ | exact ⟨15, rfl⟩ | exact ⟨16, rfl⟩ | exact ⟨17, rfl⟩ | exact ⟨18, rfl⟩ | assumption)
local macro_rules | `(tactic| fail "up") => `(tactic| first | exact ⟨0, rfl, rfl⟩ | exact ⟨1, rfl, rfl⟩ | exact ⟨2, rfl, rfl⟩ | exact ⟨3, rfl, rfl⟩ | exact ⟨4, rfl, rfl⟩ | exact ⟨5, rfl, rfl⟩ | exact ⟨6, rfl, rfl⟩ | exact ⟨7, rfl, rfl⟩ | exact ⟨8, rfl, rfl⟩ | exact ⟨9, rfl, rfl⟩ | exact ⟨10, rfl, rfl⟩ | exact ⟨11, rfl, rfl⟩ | exact ⟨12, rfl, rfl⟩ | exact ⟨13, rfl, rfl⟩ | exact ⟨14, rfl, rfl⟩ | exact ⟨15, rfl, rfl⟩ | exact ⟨16, rfl, rfl⟩ | assumption)
local macro_rules | `(tactic| fail "lkF") => `(tactic| first | assumption | exact fz_at 0 (by fail "nd") rfl rfl | exact fz_at 1 (by fail "nd") rfl rfl | exact fz_at 2 (by fail "nd") rfl rfl | exact fz_at 3 (by fail "nd") rfl rfl | exact fz_at 4 (by fail "nd") rfl rfl | exact fz_at 5 (by fail "nd") rfl rfl | exact fz_at 6 (by fail "nd") rfl rfl | exact fz_at 7 (by fail "nd") rfl rfl)
local macro_rules | `(tactic| fail "lkD") => `(tactic| first | assumption | exact dz_at 0 (by fail "nd") rfl rfl | exact dz_at 1 (by fail "nd") rfl rfl | exact dz_at 2 (by fail "nd") rfl rfl | exact dz_at 3 (by fail "nd") rfl rfl | exact dz_at 4 (by fail "nd") rfl rfl)
local macro_rules | `(tactic| fail "ptF") => `(tactic| first | assumption | exact fz_put 0 (by fail "nd") rfl (Nat.le_of_ble_eq_true rfl) | exact fz_put 1 (by fail "nd") rfl (Nat.le_of_ble_eq_true rfl) | exact fz_put 2 (by fail "nd") rfl (Nat.le_of_ble_eq_true rfl) | exact fz_put 3 (by fail "nd") rfl (Nat.le_of_ble_eq_true rfl) | exact fz_put 4 (by fail "nd") rfl (Nat.le_of_ble_eq_true rfl) | exact fz_put 5 (by fail "nd") rfl (Nat.le_of_ble_eq_true rfl) | exact fz_put 6 (by fail "nd") rfl (Nat.le_of_ble_eq_true rfl) | exact fz_put 7 (by fail "nd") rfl (Nat.le_of_ble_eq_true rfl) | exact fz_new (by decide +kernel) rfl)
local macro_rules | `(tactic| fail "ptD") => `(tactic| first | assumption | exact dz_put 0 (by fail "nd") rfl (Nat.le_of_ble_eq_true rfl) | exact dz_put 1 (by fail "nd") rfl (Nat.le_of_ble_eq_true rfl) | exact dz_put 2 (by fail "nd") rfl (Nat.le_of_ble_eq_true rfl) | exact dz_put 3 (by fail "nd") rfl (Nat.le_of_ble_eq_true rfl) | exact dz_put 4 (by fail "nd") rfl (Nat.le_of_ble_eq_true rfl))
local macro_rules | `(tactic| fail "sz") => `(tactic| first | assumption | exact (Nat.le_of_ble_eq_true rfl) | omega | decide)
local macro_rules | `(tactic| fail "sd") => `(tactic| first | rfl | assumption | decide | omega | (dsimp only; first | decide | omega) | exact .inr ⟨by decide, by decide⟩ | exact .inl ⟨by decide, by decide⟩ | exact ⟨by omega, by omega⟩ | exact .inl ⟨by omega, by omega⟩ | exact .inr ⟨by omega, by omega⟩ | exact ⟨by omega, by omega, by omega⟩)
local macro_rules | `(tactic| fail "cl") => `(tactic| (clear hH; dsimp only [List.set, List.cons_append, List.nil_append, List.append] at hL))
local macro_rules | `(tactic| fail "gn") => `(tactic| (intro p hp; generalize hH : upd H p _ = H; replace hL := Led.newH hL hp hH; clear hH hp))
local macro_rules | `(tactic| fail "gup") => `(tactic| (generalize hH : upd H _ _ = H; replace hL := Led.upU hL (by fail "up") hH; fail "cl"))
local macro_rules | `(tactic| fail "gmk") => `(tactic| (intro x dx hx hd ne; generalize hH : upd (upd H dx _) x _ = H; replace hL := Led.made hL hx hd ne hH; clear hH hx hd ne))
local macro_rules | `(tactic| fail "v") => `(tactic| refine ⟨_, rfl, ?_⟩)
local macro_rules | `(tactic| fail "i2") => `(tactic| refine ⟨_, _, rfl, rfl, ?_⟩)
local macro_rules | `(tactic| fail "go1") => `(tactic| first
  | refine ⟨_, rfl, ?_⟩
  | refine ⟨_, _, rfl, rfl, ?_⟩
  | refine ⟨_, _, rfl, ?_⟩
  | refine iteT ?_
  | refine iteF ?_
  | refine k_fld hL (by fail "ix") (by assumption) (by assumption) (by fail "lkF") ?_
  | refine k_dgetS hL (by fail "ix") (by fail "lkD") ?_
  | refine k_dgetI hL (by fail "ix") (by assumption) ?_
  | refine k_ixL hL (by fail "ix") (by first | rfl | assumption) ?_
  | refine k_ixT hL (by fail "ix") (by first | rfl | assumption) ?_
  | refine k_tyL hL (by fail "ix") ?_
  | refine k_isd hL (by fail "ix") ?_
  | (refine And.intro (by fail "sz") ?_; fail "gn")
  | refine And.intro (by fail "sd") ?_
  | fail "gn"
  | refine k_meth hL (by fail "ix") (by first | assumption | exact fz_no (by decide +kernel)) ?_
  | refine k_gtup hL (by fail "ix") rfl ?_
  | (refine k_popI hL (by fail "ix") (by assumption) ?_; fail "gup")
  | (refine k_listD hL (by fail "ix") ?_; fail "gn")
  | (refine ⟨_, _, _, _, rfl, rfl, hL.at (by fail "ix"), rfl, ?_⟩; fail "gup")
  | (refine ⟨_, _, _, rfl, rfl, hL.at (by fail "ix"), (by fail "sz"), ?_⟩; fail "gup")
  | (refine ⟨_, _, _, _, rfl, hL.at (by fail "ix"), by assumption, by assumption, Nat.lt_of_le_of_lt fz_len (by decide), ?_⟩; generalize hH : upd H _ _ = H; replace hL := Led.upF hL (by fail "up") (by fail "ptF") hH; fail "cl")
  | (refine ⟨_, _, hL.at (by fail "ix"), Nat.lt_of_le_of_lt fz_len (by decide), ?_⟩; generalize hH : upd H _ _ = H; replace hL := Led.upF hL (by fail "up") (by fail "ptF") hH; fail "cl")
  | (refine k_dputS hL (by fail "ix") (Nat.lt_of_le_of_lt dz_len (by decide)) (by fail "ptD") (by fail "up") ?_; clear hL; intro H hL; dsimp only [List.set, List.cons_append, List.nil_append, List.append] at hL)
  | refine k_lenL2 hL (by fail "ix") ?_
  | refine k_lenT2 hL (by fail "ix") ?_
  | refine .inl ⟨_, rfl, ?_⟩
  | refine .inr ⟨_, rfl, ?_⟩)
local macro_rules | `(tactic| fail "go") => `(tactic| repeat fail "go1")
local macro_rules | `(tactic| fail "pm") => `(tactic| (refine Led.le hL (fun a_ => ?_); simp only [cnt_nil, cnt_cons, cnt_app, List.map_append, List.map_cons, List.map_nil, List.flatMap_append, List.flatMap_cons, List.flatMap_nil, List.append_assoc, List.cons_append, List.nil_append]; omega))

/-! ### the law's loop -/
abbrev tN6 (PN : Addr) : TS := tK6 PN
/-- told: one way on -/
def tK5b (PL PU : Addr) (q : Str) : TS := fun D σ H => ∃ (r : Addr) (bs : List Int) (pl pu : Array Value) (Z L : Lg), σ[5]? = some (some (.ref r)) ∧ σ.length = 23 ∧ (r, tI bs) ∈ L ∧ (∀ b ∈ bs, isByte b) ∧ bs.length ≤ sizeLine ∧ TriplesOk pu.toList ∧ TabL q pl Z ∧ Led H ((PL, .tbl pl) :: (Z ++ ((PU, .tbl pu) :: L))) ∧
  (∀ (d : Dv) (v : V) (Z2 : Lg) (pl : Array Value) (Z : Lg) (pu : Array Value) H', DL Z2 v d → (v = .str "WireError" ∨ (bs = packB d ∧ sendable d ∧ dpc d ≤ 30)) → TabL q pl Z → TriplesOk pu.toList → Led H' ((PL, .tbl pl) :: (Z ++ ((PU, .tbl pu) :: (Z2 ++ L)))) → D.nx (σ.set 6 (some v)) H')
/-- the tables, the lambdas' code and the rest -/
def KT (PL PN PU : Addr) (pl pn pu : Array Value) (Z R : Lg) : Lg := (PL, .tbl pl) :: (PN, .tbl pn) :: (PU, .tbl pu) :: (Z ++ R)
def ST (d pr PL PN PU : Addr) (a b c : Int) (pl pn pu : Array Value) (Z R : Lg) : Lg := (d, dD a b c) :: (pr, .lst [.ref d]) :: (PL, .tbl pl) :: (PN, .tbl pn) :: (PU, .tbl pu) :: (Z ++ R)
def tDice (K : PySem.W.Frag) (PL PN PU : Addr) (q : Str) : TS := fun D σ H => ∃ (a : Addr) (ns : List Int), σ = L2.start NLw [.ref a] ∧ SqL K H a (ns.map V.int) ∧ Led H (KT PL PN PU #[] #[] #[] [] []) ∧
  ∀ σ' (pl pn pu : Array Value) (Z : Lg) H', σ'.length = 23 → TabL q pl Z → TriplesOk pn.toList → TriplesOk pu.toList → Led H' (KT PL PN PU pl pn pu Z []) → D.nx σ' H'
theorem sne {σ : L2.St} {i j : Nat} {x y : Option V} (h : σ[j]? = some x) (hne : i ≠ j := by decide) : (σ.set i y)[j]? = some x := by
  rw [List.getElem?_set_ne hne]
  exact h
theorem sat {σ : L2.St} {i : Nat} {y : Option V} (h : σ.length = 23) (hi : i < 23 := by decide) : (σ.set i y)[i]? = some y := by
  rw [List.getElem?_set_self (by omega)]
theorem sln {σ : L2.St} {i : Nat} {y : Option V} (h : σ.length = 23) : (σ.set i y).length = 23 := by rw [List.length_set]; exact h
section
variable {P : Program} {w : World} {K : PySem.W.Frag} {mg : Str → Option Value} {base : Heap} {CU CW PN PU PL : Addr} {f cL : Addr} {A : Around} {outer : List Env} {s0 : Shared} {H0 : Hp} {E : XK}
theorem st_k5b {q : Str} {st : Stmt} {X : Cx} (h : PS X st (tK5 PL PU q)) : PS X st (tK5b PL PU q) := by
  refine ps_imp h ?_
  rintro D σ H ⟨r, bs, pl, pu, Z, L, h1, h2, h3, h4, h5, h6, h7, h8, k⟩
  exact ⟨r, bs, pl, pu, Z, L, h1, h2, h3, h4, h5, h6, h7, h8, fun pl Z pu H' a b c => k (.str "WireError") _ [] pl Z pu H' (.str _) (.inl rfl) a b c, fun d v Z2 pl Z pu H' a1 a2 a3 a4 a5 a6 a7 => k d v Z2 pl Z pu H' a4.dl (.inr ⟨a1, a2, a3⟩) a5 a6 a7⟩
theorem st_dice {q : Str} (hq : q = (LX P w K mg base f (.ref cL) A outer s0 H0 E).env.qual ++ "<lambda>") (hr : Room 175 (LX P w K mg base f (.ref cL) A outer s0 H0 E).A) (T : TxtLw mg) (c__law_rounds : Cal P w K mg base 2 "_law_rounds" (spRounds K) [])
    (b0 : PS (LX P w K mg base f (.ref cL) A outer s0 H0 E) (nth diceB 0) tK0) (b1 : PS (LX P w K mg base f (.ref cL) A outer s0 H0 E) (nth diceB 1) (tK1 PN)) (b2 : PS (LX P w K mg base f (.ref cL) A outer s0 H0 E) (nth diceB 2) (tK2 PU)) (b3 : PS (LX P w K mg base f (.ref cL) A outer s0 H0 E) (nth diceB 3) tK3)
    (b4 : PS (LX P w K mg base f (.ref cL) A outer s0 H0 E) (nth diceB 4) tK4) (b5 : PS (LX P w K mg base f (.ref cL) A outer s0 H0 E) (nth diceB 5) (tK5b PL PU q)) (b6 : PS (LX P w K mg base f (.ref cL) A outer s0 H0 E) (nth diceB 6) (tK6 PN)) (b7 : PS (LX P w K mg base f (.ref cL) A outer s0 H0 E) (nth diceB 7) tK7)
    (b8 : PS (LX P w K mg base f (.ref cL) A outer s0 H0 E) (nth diceB 8) tK8) (b9 : PS (LX P w K mg base f (.ref cL) A outer s0 H0 E) (nth diceB 9) (tK9 PN)) (b10 : PS (LX P w K mg base f (.ref cL) A outer s0 H0 E) (nth diceB 10) tK10) (b11 : PS (LX P w K mg base f (.ref cL) A outer s0 H0 E) (nth diceB 11) (tK11 PU))
    (b12 : PS (LX P w K mg base f (.ref cL) A outer s0 H0 E) (nth diceB 12) tK12) (b13 : PS (LX P w K mg base f (.ref cL) A outer s0 H0 E) (nth diceB 13) tK13) (b14 : PS (LX P w K mg base f (.ref cL) A outer s0 H0 E) (nth diceB 14) (tK14 PU)) (b15 : PS (LX P w K mg base f (.ref cL) A outer s0 H0 E) (nth diceB 15) tK15)
    (b16 : PS (LX P w K mg base f (.ref cL) A outer s0 H0 E) (nth diceB 16) tK16) (b17 : PS (LX P w K mg base f (.ref cL) A outer s0 H0 E) (nth diceB 17) tK17) (b18 : PS (LX P w K mg base f (.ref cL) A outer s0 H0 E) (nth diceB 18) tK18) (b19 : PS (LX P w K mg base f (.ref cL) A outer s0 H0 E) (nth diceB 19) tK19)
    (b20 : PS (LX P w K mg base f (.ref cL) A outer s0 H0 E) (nth diceB 20) tK20) (b21 : PS (LX P w K mg base f (.ref cL) A outer s0 H0 E) (nth diceB 21) (tK21 PL PN q)) :
    PS (LX P w K mg base f (.ref cL) A outer s0 H0 E) (nth (defBody sLaw) 0) (tDice K PL PN PU q) := by
  refine ps_imp (t := _) (ps_for PassesOwn.never rfl (pi_list (pe_c c__law_rounds hr (by decide) (by rfl) (pa_cons (pv 0) (pa_cons pe_int pa_nil)))) (pg_name (i := 1) scLaw.nd rfl (Or.inr rfl))
  (pss_cons b0
  (pss_cons b1
  (pss_cons b2
  (pss_cons b3
  (pss_cons b4
  (pss_cons b5
  (pss_cons b6
  (pss_cons b7
  (pss_cons b8
  (pss_cons b9
  (pss_cons b10
  (pss_cons b11
  (pss_cons b12
  (pss_cons b13
  (C8.pss_cut b14
  (pss_cons b15
  (pss_cons b16
  (pss_cons b17
  (pss_cons b18
  (pss_cons b19
  (pss_cons b20
  (pss_one b21))))))))))))))))))))))) ?_
  rintro D σ H ⟨a, ns0, rfl, hS, hL, kk⟩
  fail "go"
  refine ⟨a, ns0, _, rfl, hS, hL, fun pr d x1 y1 z1 H hL2 => ?_⟩
  clear hL
  have hL := hL2
  clear hL2
  fail "go"
  refine ⟨⟨_, .of (hL.at ⟨0, rfl⟩)⟩, for_listA (K := K) (a := pr) (xs := [.ref d]) (fun i σ H => Hold ((i = 0 ∧ σ = L2.start NLw [.ref a] ∧ Led H ((pr, .lst [.ref d]) :: (d, dD x1 y1 z1) :: KT PL PN PU #[] #[] #[] [] [])) ∨
    (i = 1 ∧ σ.length = 23 ∧ ∃ (pl pn pu : Array Value) (Z : Lg), TabL q pl Z ∧ TriplesOk pn.toList ∧ TriplesOk pu.toList ∧ Led H ((pr, .lst [.ref d]) :: KT PL PN PU pl pn pu Z [])))) ?_ ?_ ?_ ?_⟩
  · exact .mk (.inl ⟨rfl, rfl, hL⟩)
  · intro i σ H _ h
    rcases h.out with ⟨_, _, hL⟩ | ⟨_, _, _, _, _, _, _, _, _, hL⟩
    · exact .of (hL.at ⟨0, rfl⟩)
    · exact .of (hL.at ⟨0, rfl⟩)
  · clear hL
    intro i y0 σ H D' hy h hD'
    rcases h.out with ⟨rfl, rfl, hL⟩ | ⟨rfl, _⟩
    · obtain rfl : V.ref d = y0 := Option.some.inj hy
      clear h hy
      refine (show gName 1 (.ref d) _ _ _ from ?_)
      have hs1 : ((L2.start NLw [V.ref a]).set 1 (some (V.ref d)))[1]? = some (some (V.ref d)) := rfl
      have hsl : ((L2.start NLw [V.ref a]).set 1 (some (V.ref d))).length = 23 := rfl
      -- 0
      refine (show tK0 _ ((L2.start NLw [V.ref a]).set 1 (some (V.ref d))) _ from ?_)
      generalize (L2.start NLw [V.ref a]).set 1 (some (V.ref d)) = σ at hs1 hsl ⊢
      have hN : TriplesOk (#[] : Array Value).toList := by simp [TriplesOk]
      have hB : Led H ((d, dD x1 y1 z1) :: (pr, .lst [.ref d]) :: (PL, .tbl #[]) :: (PN, .tbl #[]) :: (PU, .tbl #[]) :: []) := hL.le (fun a_ => by
        simp only [ST, KT, cnt_cons, cnt_app, cnt_nil]
        omega)
      clear hL
      refine ⟨d, x1, y1, z1, _, hs1, hsl, hB, fun v dv R a b c H hv hd hL => ?_⟩
      clear hB
      replace hL : Led H (ST d pr PL PN PU a b c #[] #[] #[] ([]) (R)) := hL.le (fun a_ => by
        simp only [ST, KT, cnt_cons, cnt_app, cnt_nil]
        omega)
      -- 1
      refine (show tK1 PN _ _ _ from ?_)
      generalize hσ : List.set σ 2 (some v) = σ2
      replace hs1 := hσ ▸ sne (i := 2) (y := some v) hs1
      have hs2 := hσ ▸ sat (i := 2) (y := some v) hsl
      replace hsl := hσ ▸ sln (i := 2) (y := some v) hsl
      clear hσ
      try clear σ
      obtain ⟨σ, rfl⟩ : ∃ σ : L2.St, σ = σ2 := ⟨_, rfl⟩
      have hB : Led H ((PN, .tbl #[]) :: ((d, dD a b c) :: (pr, .lst [.ref d]) :: (PL, .tbl #[]) :: (PU, .tbl #[]) :: R)) := hL.le (fun a_ => by
        simp only [ST, KT, cnt_cons, cnt_app, cnt_nil]
        omega)
      clear hL
      refine ⟨v, dv, #[], _, hs2, hsl, hv, hd.mono (fun x h => .tail _ (.tail _ (.tail _ (.tail _ h)))), hN, hB, fun r pn H hn hL => ?_⟩
      clear hB
      replace hL : Led H (ST d pr PL PN PU a b c #[] pn #[] ([]) ((r, tI (packB dv)) :: R)) := hL.le (fun a_ => by
        simp only [ST, KT, cnt_cons, cnt_app, cnt_nil]
        omega)
      -- 2
      refine (show tK2 PU _ _ _ from ?_)
      generalize hσ : List.set σ 3 (some (V.ref r)) = σ2
      replace hs1 := hσ ▸ sne (i := 3) (y := some (V.ref r)) hs1
      replace hs2 := hσ ▸ sne (i := 3) (y := some (V.ref r)) hs2
      have hs3 := hσ ▸ sat (i := 3) (y := some (V.ref r)) hsl
      replace hsl := hσ ▸ sln (i := 3) (y := some (V.ref r)) hsl
      clear hσ
      try clear σ
      obtain ⟨σ, rfl⟩ : ∃ σ : L2.St, σ = σ2 := ⟨_, rfl⟩
      have hB : Led H ((PU, .tbl #[]) :: ((d, dD a b c) :: (pr, .lst [.ref d]) :: (PL, .tbl #[]) :: (PN, .tbl pn) :: (r, tI (packB dv)) :: R)) := hL.le (fun a_ => by
        simp only [ST, KT, cnt_cons, cnt_app, cnt_nil]
        omega)
      clear hL
      refine ⟨v, dv, r, #[], _, hs2, hs3, hsl, hv, hd.mono (fun x h => .tail _ (.tail _ (.tail _ (.tail _ (.tail _ h))))), .tail _ (.tail _ (.tail _ (.tail _ (.head _)))), hN, hB, fun pu H hu hL => ?_⟩
      clear hB
      replace hL : Led H (ST d pr PL PN PU a b c #[] pn pu ([]) ([(r, tI (packB dv))])) := hL.le (fun a_ => by
        simp only [ST, KT, cnt_cons, cnt_app, cnt_nil]
        omega)
      have hbl : (packB dv).length ≤ 21840 := by have := hv.fL; rw [bnd5] at this; exact this
      have hby := packB_byte hv.fS
      clear hd
      -- 3
      refine (show tK3 _ _ _ from ?_)
      clear hs2
      have hB : Led H ((d, dD a b c) :: ((pr, .lst [.ref d]) :: (PL, .tbl #[]) :: (PN, .tbl pn) :: (PU, .tbl pu) :: [(r, tI (packB dv))])) := hL.le (fun a_ => by
        simp only [ST, KT, cnt_cons, cnt_app, cnt_nil]
        omega)
      clear hL
      refine ⟨d, r, packB dv, a, b, c, _, hs1, hs3, hsl, .tail _ (.tail _ (.tail _ (.tail _ (.head _)))), by omega, hB, fun p a b c H hp hL => ?_⟩
      clear hB
      replace hL : Led H (ST d pr PL PN PU a b c #[] pn pu ([]) ([(r, tI (packB dv))])) := hL.le (fun a_ => by
        simp only [ST, KT, cnt_cons, cnt_app, cnt_nil]
        omega)
      -- 4
      refine (show tK4 _ _ _ from ?_)
      generalize hσ : List.set σ 4 (some (V.int (p : Int))) = σ2
      replace hs1 := hσ ▸ sne (i := 4) (y := some (V.int (p : Int))) hs1
      replace hs3 := hσ ▸ sne (i := 4) (y := some (V.int (p : Int))) hs3
      have hs4 := hσ ▸ sat (i := 4) (y := some (V.int (p : Int))) hsl
      replace hsl := hσ ▸ sln (i := 4) (y := some (V.int (p : Int))) hsl
      clear hσ
      try clear σ
      obtain ⟨σ, rfl⟩ : ∃ σ : L2.St, σ = σ2 := ⟨_, rfl⟩
      have hB : Led H ((d, dD a b c) :: ((pr, .lst [.ref d]) :: (PL, .tbl #[]) :: (PN, .tbl pn) :: (PU, .tbl pu) :: [(r, tI (packB dv))])) := hL.le (fun a_ => by
        simp only [ST, KT, cnt_cons, cnt_app, cnt_nil]
        omega)
      clear hL
      refine ⟨d, r, packB dv, p, a, b, c, _, hs1, hs3, hs4, hsl, .tail _ (.tail _ (.tail _ (.tail _ (.head _)))), by omega, hby, hp, hB, fun q5 cs M a b c H hcb hcl hq5 hL => ?_⟩
      clear hB
      replace hL : Led H (ST d pr PL PN PU a b c #[] pn pu ([]) (M ++ [(r, tI (packB dv))])) := hL.le (fun a_ => by
        simp only [ST, KT, cnt_cons, cnt_app, cnt_nil]
        omega)
      have hq5' : (q5, tI cs) ∈ M ++ [(r, tI (packB dv))] := by
        simp only [List.mem_append, List.mem_cons, Prod.mk.injEq, reduceCtorEq, and_false, false_or, List.not_mem_nil, or_false] at hq5 ⊢
        exact hq5
      generalize M ++ [(r, tI (packB dv))] = R at hL hq5'
      clear hq5 hby hbl hv
      -- 5
      refine (show tK5b PL PU q _ _ _ from ?_)
      generalize hσ : List.set σ 5 (some (V.ref q5)) = σ2
      replace hs1 := hσ ▸ sne (i := 5) (y := some (V.ref q5)) hs1
      replace hs3 := hσ ▸ sne (i := 5) (y := some (V.ref q5)) hs3
      replace hs4 := hσ ▸ sne (i := 5) (y := some (V.ref q5)) hs4
      have hs5 := hσ ▸ sat (i := 5) (y := some (V.ref q5)) hsl
      replace hsl := hσ ▸ sln (i := 5) (y := some (V.ref q5)) hsl
      clear hσ
      try clear σ
      obtain ⟨σ, rfl⟩ : ∃ σ : L2.St, σ = σ2 := ⟨_, rfl⟩
      clear hs3
      clear hs4
      have hB : Led H ((PL, .tbl #[]) :: ([] ++ ((PU, .tbl pu) :: ((d, dD a b c) :: (pr, .lst [.ref d]) :: (PN, .tbl pn) :: R)))) := hL.le (fun a_ => by
        simp only [ST, KT, cnt_cons, cnt_app, cnt_nil]
        omega)
      clear hL
      have hcz : cs.length ≤ sizeLine := Nat.le_trans (Nat.le_of_lt hcl) (by decide)
      refine ⟨q5, cs, #[], pu, [], _, hs5, hsl, .tail _ (.tail _ (.tail _ hq5')), hcb, hcz, hu, .nil, hB, fun d6 v6 Z2 pl Z pu H hd6 hv6 hT hu hL => ?_⟩
      clear hB
      replace hL : Led H (ST d pr PL PN PU a b c pl pn pu (Z) (Z2 ++ R)) := hL.le (fun a_ => by
        simp only [ST, KT, cnt_cons, cnt_app, cnt_nil]
        omega)
      -- 6
      refine (show tK6 PN _ _ _ from ?_)
      generalize hσ : List.set σ 6 (some v6) = σ2
      replace hs1 := hσ ▸ sne (i := 6) (y := some v6) hs1
      replace hs5 := hσ ▸ sne (i := 6) (y := some v6) hs5
      have hs6 := hσ ▸ sat (i := 6) (y := some v6) hsl
      replace hsl := hσ ▸ sln (i := 6) (y := some v6) hsl
      clear hσ
      try clear σ
      obtain ⟨σ, rfl⟩ : ∃ σ : L2.St, σ = σ2 := ⟨_, rfl⟩
      have hB : Led H ((PN, .tbl pn) :: ((d, dD a b c) :: (pr, .lst [.ref d]) :: (PL, .tbl pl) :: (PU, .tbl pu) :: (Z ++ (Z2 ++ R)))) := hL.le (fun a_ => by
        simp only [ST, KT, cnt_cons, cnt_app, cnt_nil]
        omega)
      clear hL
      refine ⟨q5, cs, pn, v6, d6, _, hs5, hs6, hsl, .tail _ (.tail _ (.tail _ (.tail _ (List.mem_append_right _ (List.mem_append_right _ hq5'))))), hcz, hd6.mono (fun x h => .tail _ (.tail _ (.tail _ (.tail _ (List.mem_append_right _ (List.mem_append_left _ h)))))), hv6, hn, hB, fun pn H hn hL => ?_⟩
      clear hB
      replace hL : Led H (ST d pr PL PN PU a b c pl pn pu (Z) ([])) := hL.le (fun a_ => by
        simp only [ST, KT, cnt_cons, cnt_app, cnt_nil]
        omega)
      clear hq5' hcb hcl hcz hd6 hv6
      -- 7
      refine (show tK7 _ _ _ from ?_)
      clear hs5
      clear hs6
      have hB : Led H ((d, dD a b c) :: ((pr, .lst [.ref d]) :: (PL, .tbl pl) :: (PN, .tbl pn) :: (PU, .tbl pu) :: Z)) := hL.le (fun a_ => by
        simp only [ST, KT, cnt_cons, cnt_app, cnt_nil]
        omega)
      clear hL
      refine ⟨d, a, b, c, _, hs1, hsl, hB, fun q7 xs ds Zv a b c H h4 hvs hds hL => ?_⟩
      clear hB
      replace hL : Led H (ST d pr PL PN PU a b c pl pn pu (Z) ((q7, .lst xs) :: Zv)) := hL.le (fun a_ => by
        simp only [ST, KT, cnt_cons, cnt_app, cnt_nil]
        omega)
      -- 8
      refine (show tK8 _ _ _ from ?_)
      generalize hσ : List.set σ 7 (some (V.ref q7)) = σ2
      replace hs1 := hσ ▸ sne (i := 7) (y := some (V.ref q7)) hs1
      have hs7 := hσ ▸ sat (i := 7) (y := some (V.ref q7)) hsl
      replace hsl := hσ ▸ sln (i := 7) (y := some (V.ref q7)) hsl
      clear hσ
      try clear σ
      obtain ⟨σ, rfl⟩ : ∃ σ : L2.St, σ = σ2 := ⟨_, rfl⟩
      have hB : Led H (ST d pr PL PN PU a b c pl pn pu (Z) ((q7, .lst xs) :: Zv)) := hL.le (fun a_ => by
        simp only [ST, KT, cnt_cons, cnt_app, cnt_nil]
        omega)
      clear hL
      refine ⟨_, hsl, hB, fun wt el H hL => ?_⟩
      clear hB
      -- 9
      refine (show tK9 PN _ _ _ from ?_)
      generalize hσ : List.set σ 9 (some (V.ref wt)) = σ2
      replace hs1 := hσ ▸ sne (i := 9) (y := some (V.ref wt)) hs1
      replace hs7 := hσ ▸ sne (i := 9) (y := some (V.ref wt)) hs7
      have hs9 := hσ ▸ sat (i := 9) (y := some (V.ref wt)) hsl
      replace hsl := hσ ▸ sln (i := 9) (y := some (V.ref wt)) hsl
      clear hσ
      try clear σ
      obtain ⟨σ, rfl⟩ : ∃ σ : L2.St, σ = σ2 := ⟨_, rfl⟩
      generalize hσ : List.set σ 10 (some (V.ref el)) = σ2
      replace hs1 := hσ ▸ sne (i := 10) (y := some (V.ref el)) hs1
      replace hs7 := hσ ▸ sne (i := 10) (y := some (V.ref el)) hs7
      replace hs9 := hσ ▸ sne (i := 10) (y := some (V.ref el)) hs9
      have hs10 := hσ ▸ sat (i := 10) (y := some (V.ref el)) hsl
      replace hsl := hσ ▸ sln (i := 10) (y := some (V.ref el)) hsl
      clear hσ
      try clear σ
      obtain ⟨σ, rfl⟩ : ∃ σ : L2.St, σ = σ2 := ⟨_, rfl⟩
      have hB : Led H ((el, .lst [.int 0]) :: (PN, .tbl pn) :: ((d, dD a b c) :: (pr, .lst [.ref d]) :: (PL, .tbl pl) :: (PU, .tbl pu) :: (Z ++ ((wt, tI []) :: (q7, .lst xs) :: Zv)))) := hL.le (fun a_ => by
        simp only [ST, KT, cnt_cons, cnt_app, cnt_nil]
        omega)
      clear hL
      refine ⟨q7, wt, el, xs, ds, pn, _, hs7, hs9, hs10, hsl, .tail _ (.tail _ (.tail _ (.tail _ (List.mem_append_right _ (.tail _ (.head _)))))), .tail _ (.tail _ (.tail _ (.tail _ (List.mem_append_right _ (.head _))))), hds.mono (fun x h => .tail _ (.tail _ (.tail _ (.tail _ (List.mem_append_right _ (.tail _ (.tail _ h))))))), hvs, h4, hn, hB, fun wt2 v11 pn M H hn hwm hL => ?_⟩
      have hw : (wt2, tI (framesB ds)) ∈ Z ++ ((el, .lst (endsV ds ds.length)) :: (q7, .lst xs) :: (wt, tI []) :: (M ++ Zv)) := by
        simp only [dD, List.mem_append, List.mem_cons, Prod.mk.injEq, reduceCtorEq, and_false, false_or, List.not_mem_nil, or_false] at hwm ⊢
        rcases hwm with h | h | h | h <;> simp [h]
      have hxl := hds.len
      have hq7 : (q7, HO.lst xs) ∈ Z ++ ((el, .lst (endsV ds ds.length)) :: (q7, .lst xs) :: (wt, tI []) :: (M ++ Zv)) := List.mem_append_right _ (.tail _ (.head _))
      have hel : (el, HO.lst (endsV ds ds.length)) ∈ Z ++ ((el, .lst (endsV ds ds.length)) :: (q7, .lst xs) :: (wt, tI []) :: (M ++ Zv)) := List.mem_append_right _ (.head _)
      replace hds : DLs (Z ++ ((el, .lst (endsV ds ds.length)) :: (q7, .lst xs) :: (wt, tI []) :: (M ++ Zv))) xs ds := hds.mono (fun x h => List.mem_append_right _ (.tail _ (.tail _ (.tail _ (List.mem_append_right _ h)))))
      clear hB
      replace hL : Led H (ST d pr PL PN PU a b c pl pn pu (Z) ((el, .lst (endsV ds ds.length)) :: (q7, .lst xs) :: (wt, tI []) :: (M ++ Zv))) := hL.le (fun a_ => by
        simp only [ST, KT, cnt_cons, cnt_app, cnt_nil]
        omega)
      generalize (el, HO.lst (endsV ds ds.length)) :: (q7, .lst xs) :: (wt, tI []) :: (M ++ Zv) = R at hL hw hq7 hel hds
      clear hwm
      have hlv := lvs_mem hvs
      have hbig : (framesB ds).length ≤ 344 * 4 := by
        have : ∀ k, k ≤ ds.length → fl ds k ≤ 344 * k := by
          intro k
          induction k with
          | zero => intro _; simp [fl, framesB]
          | succ k ih =>
            intro hk
            have hg := List.getElem?_eq_getElem (show k < ds.length by omega)
            have h3 := (hvs.get hg).fL
            rw [bnd2] at h3
            have := ih (by omega)
            rw [fl_succ hg]
            omega
        have := this ds.length (Nat.le_refl _)
        rw [fl_all] at this
        omega
      -- 10
      refine (show tK10 _ _ _ from ?_)
      generalize hσ : List.set σ 9 (some (V.ref wt2)) = σ2
      replace hs1 := hσ ▸ sne (i := 9) (y := some (V.ref wt2)) hs1
      replace hs7 := hσ ▸ sne (i := 9) (y := some (V.ref wt2)) hs7
      replace hs10 := hσ ▸ sne (i := 9) (y := some (V.ref wt2)) hs10
      replace hs9 := hσ ▸ sat (i := 9) (y := some (V.ref wt2)) hsl
      replace hsl := hσ ▸ sln (i := 9) (y := some (V.ref wt2)) hsl
      clear hσ
      try clear σ
      obtain ⟨σ, rfl⟩ : ∃ σ : L2.St, σ = σ2 := ⟨_, rfl⟩
      generalize hσ : List.set σ 11 (v11) = σ2
      replace hs1 := hσ ▸ sne (i := 11) (y := v11) hs1
      replace hs7 := hσ ▸ sne (i := 11) (y := v11) hs7
      replace hs9 := hσ ▸ sne (i := 11) (y := v11) hs9
      replace hs10 := hσ ▸ sne (i := 11) (y := v11) hs10
      have hs11 := hσ ▸ sat (i := 11) (y := v11) hsl
      replace hsl := hσ ▸ sln (i := 11) (y := v11) hsl
      clear hσ
      try clear σ
      obtain ⟨σ, rfl⟩ : ∃ σ : L2.St, σ = σ2 := ⟨_, rfl⟩
      clear hs11
      have hB : Led H (ST d pr PL PN PU a b c pl pn pu (Z) (R)) := hL.le (fun a_ => by
        simp only [ST, KT, cnt_cons, cnt_app, cnt_nil]
        omega)
      clear hL
      refine ⟨d, wt2, framesB ds, a, b, c, _, hs1, hs9, hsl, .tail _ (.tail _ (.tail _ (.tail _ hw))), by omega, hB, fun cu a b c H hcu hL => ?_⟩
      clear hB
      replace hL : Led H (ST d pr PL PN PU a b c pl pn pu (Z) (R)) := hL.le (fun a_ => by
        simp only [ST, KT, cnt_cons, cnt_app, cnt_nil]
        omega)
      -- 11
      refine (show tK11 PU _ _ _ from ?_)
      generalize hσ : List.set σ 12 (some (V.int (cu : Int))) = σ2
      replace hs1 := hσ ▸ sne (i := 12) (y := some (V.int (cu : Int))) hs1
      replace hs7 := hσ ▸ sne (i := 12) (y := some (V.int (cu : Int))) hs7
      replace hs9 := hσ ▸ sne (i := 12) (y := some (V.int (cu : Int))) hs9
      replace hs10 := hσ ▸ sne (i := 12) (y := some (V.int (cu : Int))) hs10
      have hs12 := hσ ▸ sat (i := 12) (y := some (V.int (cu : Int))) hsl
      replace hsl := hσ ▸ sln (i := 12) (y := some (V.int (cu : Int))) hsl
      clear hσ
      try clear σ
      obtain ⟨σ, rfl⟩ : ∃ σ : L2.St, σ = σ2 := ⟨_, rfl⟩
      have hB : Led H ((PU, .tbl pu) :: ((d, dD a b c) :: (pr, .lst [.ref d]) :: (PL, .tbl pl) :: (PN, .tbl pn) :: (Z ++ R))) := hL.le (fun a_ => by
        simp only [ST, KT, cnt_cons, cnt_app, cnt_nil]
        omega)
      clear hL
      refine ⟨wt2, ds, cu, pu, _, hs9, hs12, hsl, .tail _ (.tail _ (.tail _ (.tail _ hw))), hcu, hvs, h4, hu, hB, fun j fo ys Z3 pu H hj hf1 hf2 hys hu hL => ?_⟩
      clear hB
      replace hL : Led H (ST d pr PL PN PU a b c pl pn pu (Z) (R ++ ((fo, .lst ys) :: Z3))) := hL.le (fun a_ => by
        simp only [ST, KT, cnt_cons, cnt_app, cnt_nil]
        omega)
      clear hcu
      -- 12
      refine (show tK12 _ _ _ from ?_)
      generalize hσ : List.set σ 13 (some (V.ref fo)) = σ2
      replace hs1 := hσ ▸ sne (i := 13) (y := some (V.ref fo)) hs1
      replace hs7 := hσ ▸ sne (i := 13) (y := some (V.ref fo)) hs7
      replace hs9 := hσ ▸ sne (i := 13) (y := some (V.ref fo)) hs9
      replace hs10 := hσ ▸ sne (i := 13) (y := some (V.ref fo)) hs10
      replace hs12 := hσ ▸ sne (i := 13) (y := some (V.ref fo)) hs12
      have hs13 := hσ ▸ sat (i := 13) (y := some (V.ref fo)) hsl
      replace hsl := hσ ▸ sln (i := 13) (y := some (V.ref fo)) hsl
      clear hσ
      try clear σ
      obtain ⟨σ, rfl⟩ : ∃ σ : L2.St, σ = σ2 := ⟨_, rfl⟩
      generalize hσ : List.set σ 14 (some (V.int (fl ds j : Nat))) = σ2
      replace hs1 := hσ ▸ sne (i := 14) (y := some (V.int (fl ds j : Nat))) hs1
      replace hs7 := hσ ▸ sne (i := 14) (y := some (V.int (fl ds j : Nat))) hs7
      replace hs9 := hσ ▸ sne (i := 14) (y := some (V.int (fl ds j : Nat))) hs9
      replace hs10 := hσ ▸ sne (i := 14) (y := some (V.int (fl ds j : Nat))) hs10
      replace hs12 := hσ ▸ sne (i := 14) (y := some (V.int (fl ds j : Nat))) hs12
      replace hs13 := hσ ▸ sne (i := 14) (y := some (V.int (fl ds j : Nat))) hs13
      have hs14 := hσ ▸ sat (i := 14) (y := some (V.int (fl ds j : Nat))) hsl
      replace hsl := hσ ▸ sln (i := 14) (y := some (V.int (fl ds j : Nat))) hsl
      clear hσ
      try clear σ
      obtain ⟨σ, rfl⟩ : ∃ σ : L2.St, σ = σ2 := ⟨_, rfl⟩
      have hB : Led H ((Z ++ R) ++ ((fo, .lst ys) :: (Z3 ++ ((d, dD a b c) :: (pr, .lst [.ref d]) :: (PL, .tbl pl) :: (PN, .tbl pn) :: (PU, .tbl pu) :: [])))) := hL.le (fun a_ => by
        simp only [ST, KT, cnt_cons, cnt_app, cnt_nil]
        omega)
      clear hL
      refine ⟨q7, el, xs, ds, cu, j, _, hs7, hs10, hs12, hsl, List.mem_append_left _ hq7, List.mem_append_left _ hel, hxl, h4, hj, hf1, hf2, hB, fun ke H hL => ?_⟩
      clear hB
      -- 13
      refine (show tK13 _ _ _ from ?_)
      generalize hσ : List.set σ 15 (some (V.ref ke)) = σ2
      replace hs1 := hσ ▸ sne (i := 15) (y := some (V.ref ke)) hs1
      replace hs7 := hσ ▸ sne (i := 15) (y := some (V.ref ke)) hs7
      replace hs9 := hσ ▸ sne (i := 15) (y := some (V.ref ke)) hs9
      replace hs10 := hσ ▸ sne (i := 15) (y := some (V.ref ke)) hs10
      replace hs12 := hσ ▸ sne (i := 15) (y := some (V.ref ke)) hs12
      replace hs13 := hσ ▸ sne (i := 15) (y := some (V.ref ke)) hs13
      replace hs14 := hσ ▸ sne (i := 15) (y := some (V.ref ke)) hs14
      have hs15 := hσ ▸ sat (i := 15) (y := some (V.ref ke)) hsl
      replace hsl := hσ ▸ sln (i := 15) (y := some (V.ref ke)) hsl
      clear hσ
      try clear σ
      obtain ⟨σ, rfl⟩ : ∃ σ : L2.St, σ = σ2 := ⟨_, rfl⟩
      clear hs12
      have hB : Led H ((Z ++ R) ++ ((fo, .lst ys) :: (ke, .lst (intsV j)) :: (Z3 ++ ((d, dD a b c) :: (pr, .lst [.ref d]) :: (PL, .tbl pl) :: (PN, .tbl pn) :: (PU, .tbl pu) :: [])))) := hL.le (fun a_ => by
        simp only [ST, KT, cnt_cons, cnt_app, cnt_nil]
        omega)
      clear hL
      refine ⟨q7, el, fo, ke, xs, ys, ds, j, _, hs7, hs10, hs13, hs14, hs15, hsl, List.mem_append_left _ hq7, List.mem_append_left _ hel, List.mem_append_right _ (.head _), List.mem_append_right _ (.tail _ (.head _)), hds.mono (fun x h => List.mem_append_left _ h), hys.dl.mono (fun x h => List.mem_append_right _ (.tail _ (.tail _ (List.mem_append_left _ h)))), hvs, h4, hj, hB, fun H hL => ?_⟩
      clear hB
      replace hL : Led H (ST d pr PL PN PU a b c pl pn pu (Z) (R)) := hL.le (fun a_ => by
        simp only [ST, KT, cnt_cons, cnt_app, cnt_nil]
        omega)
      -- 14
      refine ⟨fun σ' H' => Hold (∃ (a b c : Int) (pu : Array Value), σ'[1]? = some (some (.ref d)) ∧ σ'.length = 23 ∧ TriplesOk pu.toList ∧ Led H' (ST d pr PL PN PU a b c pl pn pu Z [])), ?_, fun σ3 H3 h => ?_⟩
      · refine (show tK14 PU _ _ _ from ?_)
        have hB : Led H ((d, dD a b c) :: (PU, .tbl pu) :: ((pr, .lst [.ref d]) :: (PL, .tbl pl) :: (PN, .tbl pn) :: (Z ++ R))) := hL.le (fun a_ => by
          simp only [ST, KT, cnt_cons, cnt_app, cnt_nil]
          omega)
        clear hL
        refine ⟨d, q7, el, wt2, xs, ds, a, b, c, pu, _, hs1, hs7, hs9, hs10, hsl, .tail _ (.tail _ (.tail _ hq7)), .tail _ (.tail _ (.tail _ hel)), .tail _ (.tail _ (.tail _ hw)), hxl, hvs, h4, hu, hB, fun s16 s4 s5 a b c pu H hu hL => .mk ⟨a, b, c, pu, sne (sne (sne hs1)), sln (sln (sln hsl)), hu, hL.le (fun a_ => by
          simp only [ST, KT, cnt_cons, cnt_app, cnt_nil]
          omega)⟩⟩
      clear hs1 hsl hu hL
      obtain ⟨a, b, c, pu, hs1, hsl, hu, hL⟩ := h.out
      clear h
      generalize σ3 = σ at hs1 hsl ⊢
      generalize H3 = H at hL ⊢
      -- 15
      refine (show tK15 _ _ _ from ?_)
      have hB : Led H ((d, dD a b c) :: ((pr, .lst [.ref d]) :: (PL, .tbl pl) :: (PN, .tbl pn) :: (PU, .tbl pu) :: Z)) := hL.le (fun a_ => by
        simp only [ST, KT, cnt_cons, cnt_app, cnt_nil]
        omega)
      clear hL
      refine ⟨d, a, b, c, _, hs1, hsl, hB, fun nz a b c H hn0 hn1 hL => ?_⟩
      obtain ⟨n, rfl⟩ : ∃ n : Nat, nz = n := ⟨nz.toNat, by omega⟩
      replace hn1 : n < 4294967296 := by omega
      clear hB
      replace hL : Led H (ST d pr PL PN PU a b c pl pn pu (Z) ([])) := hL.le (fun a_ => by
        simp only [ST, KT, cnt_cons, cnt_app, cnt_nil]
        omega)
      -- 16
      refine (show tK16 _ _ _ from ?_)
      generalize hσ : List.set σ 17 (some (V.int (n : Int))) = σ2
      replace hs1 := hσ ▸ sne (i := 17) (y := some (V.int (n : Int))) hs1
      have hs17 := hσ ▸ sat (i := 17) (y := some (V.int (n : Int))) hsl
      replace hsl := hσ ▸ sln (i := 17) (y := some (V.int (n : Int))) hsl
      clear hσ
      try clear σ
      obtain ⟨σ, rfl⟩ : ∃ σ : L2.St, σ = σ2 := ⟨_, rfl⟩
      have hB : Led H ((d, dD a b c) :: ((pr, .lst [.ref d]) :: (PL, .tbl pl) :: (PN, .tbl pn) :: (PU, .tbl pu) :: Z)) := hL.le (fun a_ => by
        simp only [ST, KT, cnt_cons, cnt_app, cnt_nil]
        omega)
      clear hL
      refine ⟨d, a, b, c, _, hs1, hsl, hB, fun dr bs a b c H hbs hL => ?_⟩
      clear hB
      -- 17
      refine (show tK17 _ _ _ from ?_)
      generalize hσ : List.set σ 18 (some (V.ref dr)) = σ2
      replace hs1 := hσ ▸ sne (i := 18) (y := some (V.ref dr)) hs1
      replace hs17 := hσ ▸ sne (i := 18) (y := some (V.ref dr)) hs17
      have hs18 := hσ ▸ sat (i := 18) (y := some (V.ref dr)) hsl
      replace hsl := hσ ▸ sln (i := 18) (y := some (V.ref dr)) hsl
      clear hσ
      try clear σ
      obtain ⟨σ, rfl⟩ : ∃ σ : L2.St, σ = σ2 := ⟨_, rfl⟩
      have hB : Led H ((dr, tI bs) :: (ST d pr PL PN PU a b c pl pn pu (Z) ([]))) := hL.le (fun a_ => by
        simp only [ST, KT, cnt_cons, cnt_app, cnt_nil]
        omega)
      clear hL
      refine ⟨dr, n, bs, _, hs17, hs18, hsl, hn1, .head _, hB, fun H hL => ?_⟩
      clear hB
      replace hL : Led H (ST d pr PL PN PU a b c pl pn pu (Z) ([])) := hL.le (fun a_ => by
        simp only [ST, KT, cnt_cons, cnt_app, cnt_nil]
        omega)
      -- 18
      refine (show tK18 _ _ _ from ?_)
      clear hs18
      refine ⟨n, _, hs17, hsl, hn1, hL, fun H hL2 => ?_⟩
      clear hL
      have hL := hL2
      clear hL2
      -- 19
      refine (show tK19 _ _ _ from ?_)
      clear hs17
      have hB : Led H ((d, dD a b c) :: ((pr, .lst [.ref d]) :: (PL, .tbl pl) :: (PN, .tbl pn) :: (PU, .tbl pu) :: Z)) := hL.le (fun a_ => by
        simp only [ST, KT, cnt_cons, cnt_app, cnt_nil]
        omega)
      clear hL
      refine ⟨d, a, b, c, _, hs1, hsl, hB, fun lv a b c H hlv4 hL => ?_⟩
      clear hB
      -- 20
      refine (show tK20 _ _ _ from ?_)
      generalize hσ : List.set σ 19 (some V.non) = σ2
      replace hs1 := hσ ▸ sne (i := 19) (y := some V.non) hs1
      have hs19 := hσ ▸ sat (i := 19) (y := some V.non) hsl
      replace hsl := hσ ▸ sln (i := 19) (y := some V.non) hsl
      clear hσ
      try clear σ
      obtain ⟨σ, rfl⟩ : ∃ σ : L2.St, σ = σ2 := ⟨_, rfl⟩
      generalize hσ : List.set σ 20 (some (V.int (lv : Int))) = σ2
      replace hs1 := hσ ▸ sne (i := 20) (y := some (V.int (lv : Int))) hs1
      replace hs19 := hσ ▸ sne (i := 20) (y := some (V.int (lv : Int))) hs19
      have hs20 := hσ ▸ sat (i := 20) (y := some (V.int (lv : Int))) hsl
      replace hsl := hσ ▸ sln (i := 20) (y := some (V.int (lv : Int))) hsl
      clear hσ
      try clear σ
      obtain ⟨σ, rfl⟩ : ∃ σ : L2.St, σ = σ2 := ⟨_, rfl⟩
      clear hs1
      have hB : Led H ((d, dD a b c) :: ((pr, .lst [.ref d]) :: (PL, .tbl pl) :: (PN, .tbl pn) :: (PU, .tbl pu) :: Z)) := hL.le (fun a_ => by
        simp only [ST, KT, cnt_cons, cnt_app, cnt_nil]
        omega)
      clear hL
      refine ⟨lv, _, hs19, hs20, hsl, hlv4, hB, fun v19 Zd v21 H hdc hL => ?_⟩
      clear hB
      -- 21
      refine (show tK21 PL PN q _ _ _ from ?_)
      generalize hσ : List.set σ 19 (some v19) = σ2
      replace hs20 := hσ ▸ sne (i := 19) (y := some v19) hs20
      replace hs19 := hσ ▸ sat (i := 19) (y := some v19) hsl
      replace hsl := hσ ▸ sln (i := 19) (y := some v19) hsl
      clear hσ
      try clear σ
      obtain ⟨σ, rfl⟩ : ∃ σ : L2.St, σ = σ2 := ⟨_, rfl⟩
      generalize hσ : List.set σ 21 (v21) = σ2
      replace hs19 := hσ ▸ sne (i := 21) (y := v21) hs19
      replace hs20 := hσ ▸ sne (i := 21) (y := v21) hs20
      have hs21 := hσ ▸ sat (i := 21) (y := v21) hsl
      replace hsl := hσ ▸ sln (i := 21) (y := v21) hsl
      clear hσ
      try clear σ
      obtain ⟨σ, rfl⟩ : ∃ σ : L2.St, σ = σ2 := ⟨_, rfl⟩
      clear hs21
      have hB : Led H ((PL, .tbl pl) :: (Z ++ ((PN, .tbl pn) :: (Zd ++ ((pr, .lst [.ref d]) :: (PU, .tbl pu) :: []))))) := hL.le (fun a_ => by
        simp only [ST, KT, cnt_cons, cnt_app, cnt_nil]
        omega)
      clear hL
      refine ⟨v19, lv, pl, pn, Z, _, hs19, hs20, hsl, hdc.mono (fun x h => List.mem_append_left _ h), hlv4, hn, hT, hB, fun pl Z pn H hT hn hL => ?_⟩
      clear hB
      refine hD'.nx _ _ (.mk (.inr ⟨rfl, hsl, pl, pn, pu, Z, hT, hn, hu, hL.le (fun a_ => ?_)⟩))
      simp only [KT, cnt_cons, cnt_app, cnt_nil]
      omega
    · exact absurd hy (by simp)
  · intro σ H h
    rcases h.out with ⟨h1, _⟩ | ⟨_, hsl, pl, pn, pu, Z, hT, hn, hu, hL⟩
    · exact absurd h1 (by simp)
    · exact kk σ pl pn pu Z H hsl hT hn hu hL.tail
end
end Sd


set_option linter.unusedVariables false
namespace Sd
open PySem L2 LamX NdefX PyProof.Rows Mx
open C8 (Cal Met Mak pe_c pe_mk pe_mt pe_mt0 pss_cut tCut)
/-! ### the law -/
def spLaw (K : PySem.W.Frag) (PL PN PU : Addr) : Sp := fun vs H Q _ => ∃ (a : Addr) (ns : List Int), vs = [.ref a] ∧ SqL K H a (ns.map V.int) ∧ ns.length ≤ 63 ∧ Led H [(PL, .tbl #[]), (PN, .tbl #[]), (PU, .tbl #[])] ∧ ∀ H', Q (.bl true) H'
section
variable {P : Program} {w : World} {K : PySem.W.Frag} {mg : Str → Option Value} {base : Heap} {CU CW PN PU PL : Addr} {f cL : Addr} {A : Around} {outer : List Env} {s0 : Shared} {H0 : Hp} {E : XK}
theorem law_all (hr : Room 175 (LX P w K mg base f (.ref cL) A outer s0 H0 E).A) (T : TxtLw mg) (TE : ExcT K mg "WireError" CW) (TB : LamX.TabB base mg cL PL) {gT : Addr}
    (c_told : ∀ i : ToF, CalS P w K mg base 167 "_law_told" (gTold i.2.1 i.1 i.2.2) (spToldS P w K mg base 166 [(CW, "WireError")] i.2.1 i.1 i.2.2)) (hmT : mg "_law_told" = some (.ref gT)) (kpT : PySem.W.keepIn K (.ref gT) = true)
    (Lround : Cal P w K mg base 2 "_law_rounds" (spRounds K) []) (Lroll : Cal P w K mg base 3 "_law_roll" (spRollN B20) []) (Lval : Cal P w K mg base 10 "_law_value" (spLVal 6) []) (Lsame : Cal P w K mg base 7 "_law_same" (spLSame 6) []) (Lsum : Cal P w K mg base 1 "_law_sum" spSumB [])
    (Wnat : Cal P w K mg base 1 "natural" spNatural []) (Wsgn : Cal P w K mg base 1 "sign_number" spSignN []) (Wsum : Cal P w K mg base 1 "sum_of_bytes" spSumB []) (Wfour : Cal P w K mg base 1 "four" spFour [])
    (Wpack : Cal P w K mg base 12 "pack" (spPack PN 7) [.int 0]) (WpackC : Cal P w K mg base (5 + 31) "pack" (spPackC PN 31) [.int 0]) (WpackX : CalX P w K mg base (5 + 32) "pack" (spPackX CW PN 32) [.int 0]) (WpackL : CalX P w K mg base 38 "pack" (spPackLX CW) [.int 0])
    (Wframe : Cal P w K mg base 13 "frame" (spFrame PN 7) []) (Wunpack : Cal P w K mg base (5 + 5 * 7) "unpack" (spUnpack CU PU 7) []) (WunpackX : CalX P w K mg base 165 "unpack" (spUnpackX CU CW PU) []) (Wread : Cal P w K mg base (6 + 5 * 7) "read_frames" (spReadFB CU PU 7) []) (WsgnX : CalX P w K mg base 1 "sign_number" (spSignX CW) [])
    {vs : List V} {H : Hp} {Q : VK} (h : spLaw K PL PN PU vs H Q E) : ∃ t, PSs (LX P w K mg base f (.ref cL) A outer s0 H0 E) (defBody sLaw) t ∧ t { nx := fun _ H' => Q .non H', rt := Q } (L2.start NLw vs) H := by
  obtain ⟨a, ns0, rfl, hS, hlen, hL, k⟩ := h
  have e0 : defBody sLaw = [nth (defBody sLaw) 0, nth (defBody sLaw) 1, nth (defBody sLaw) 2, nth (defBody sLaw) 3] := rfl
  have dc := st_dice (PL := PL) (PN := PN) (PU := PU) rfl hr T Lround (st_k0 hr Lroll Lval) (st_k1 hr Wpack) (st_k2 hr Wunpack Lsame) (st_k3 hr T Lroll) (st_k4 hr Lroll) (st_k5b (st_k5 hr TB c_told hmT kpT TE WunpackX)) (st_k6 hr WpackC) (st_k7 hr T Lroll Lval) st_k8 (st_k9 hr T Wframe) (st_k10 hr T Lroll) (st_k11 hr Wread) (st_k12 T) (st_k13 hr T Lsame) (st_k14 hr T Lroll Wread) (st_k15 hr Lroll) (st_k16 hr T Lroll) (st_k17 hr Wfour Wsum Lsum) (st_k18 hr T Wnat) (st_k19 hr Lroll) (st_k20 T) (st_k21 hr TB c_told hmT kpT TE WpackC WpackX)
  rw [e0]
  refine ⟨_, pss_cons dc (pss_cons st_bad (pss_cons (st_ifW hr TB c_told hmT kpT TE WunpackX WpackL) (pss_one (st_retL hr TB c_told hmT kpT TE WsgnX Wsgn)))), ?_⟩
  generalize (LX P w K mg base f (.ref cL) A outer s0 H0 E).env.qual ++ "<lambda>" = q
  refine (show tDice K PL PN PU q _ _ _ from ?_)
  refine ⟨a, ns0, rfl, hS, hL, fun σ pl pn pu Z H hsl hT hn hu hL => ?_⟩
  refine (show tBad _ _ _ from ?_)
  refine ⟨_, hsl, hL, fun bl xs M H hbm hL => ?_⟩
  refine (show tIfW PL PU q _ _ _ from ?_)
  have hB : Led H ((PL, .tbl pl) :: (Z ++ ((PU, .tbl pu) :: ((bl, .lst xs) :: M)))) := hL.le (fun a_ => by
    simp only [KT, cnt_cons, cnt_app, cnt_nil]
    omega)
  refine ⟨bl, xs, pl, pu, Z, _, sat hsl, sln hsl, .head _, fun v hv => ?_, hu, hT, hB, fun pl Z H hT hL => ?_⟩
  · obtain ⟨r, bs, h1, h2, h3⟩ := hbm v hv
    exact ⟨r, bs, h1, .tail _ h2, h3⟩
  refine (show tRetL PL q _ (σ.set 22 (some (.ref bl))) H from ?_)
  exact ⟨pl, Z, hT, hL, k⟩
end
end Sd


set_option linter.unusedVariables false
namespace Sd
open PySem PySem.Spec PyProof.Rows L2
open C8 (Cal Met Mak)
/-! ### the head -/
def dfs1 : He.DefD := ⟨("Unpacker", some "__init__"), "__init__", "Unpacker.__init__", defArgs sUInit, defBody sUInit, defScope sUInit, [], []⟩
def dfs2 : He.DefD := ⟨("Unpacker", some "byte"), "byte", "Unpacker.byte", defArgs sUByte, defBody sUByte, defScope sUByte, [], []⟩
def dfs3 : He.DefD := ⟨("Unpacker", some "read_natural"), "read_natural", "Unpacker.read_natural", defArgs sUNat, defBody sUNat, defScope sUNat, [], []⟩
def dfs4 : He.DefD := ⟨("Unpacker", some "read_value"), "read_value", "Unpacker.read_value", defArgs sUVal, defBody sUVal, defScope sUVal, [], []⟩
def dfs5 : He.DefD := ⟨("Unpacker", some "text"), "text", "Unpacker.text", defArgs sUText, defBody sUText, defScope sUText, [], []⟩
def dfs6 : He.DefD := ⟨("natural", none), "natural", "natural", defArgs sNatural, defBody sNatural, defScope sNatural, [], []⟩
def dfs7 : He.DefD := ⟨("pack", none), "pack", "pack", defArgs sPack, defBody sPack, defScope sPack, [.int 0], []⟩
def dfs8 : He.DefD := ⟨("sign_number", none), "sign_number", "sign_number", defArgs sSignN, defBody sSignN, defScope sSignN, [], []⟩
def dfs9 : He.DefD := ⟨("sum_of_bytes", none), "sum_of_bytes", "sum_of_bytes", defArgs sSumB, defBody sSumB, defScope sSumB, [], []⟩
def dfs10 : He.DefD := ⟨("four", none), "four", "four", defArgs sFour, defBody sFour, defScope sFour, [], []⟩
def dfs11 : He.DefD := ⟨("frame", none), "frame", "frame", defArgs sFrame, defBody sFrame, defScope sFrame, [], []⟩
def dfs12 : He.DefD := ⟨("unpack", none), "unpack", "unpack", defArgs sUnpack, defBody sUnpack, defScope sUnpack, [], []⟩
def dfs13 : He.DefD := ⟨("read_frames", none), "read_frames", "read_frames", defArgs sReadF, defBody sReadF, defScope sReadF, [], []⟩
def dfs14 : He.DefD := ⟨("_law_dice", none), "_law_dice", "_law_dice", defArgs sDice, defBody sDice, defScope sDice, [], []⟩
def dfs15 : He.DefD := ⟨("_law_roll", none), "_law_roll", "_law_roll", defArgs sRoll, defBody sRoll, defScope sRoll, [], []⟩
def dfs16 : He.DefD := ⟨("_law_rounds", none), "_law_rounds", "_law_rounds", defArgs sRounds, defBody sRounds, defScope sRounds, [], []⟩
def dfs17 : He.DefD := ⟨("_law_told", none), "_law_told", "_law_told", defArgs sTold, defBody sTold, defScope sTold, [], []⟩
def dfs18 : He.DefD := ⟨("_law_value", none), "_law_value", "_law_value", defArgs sLVal, defBody sLVal, defScope sLVal, [], []⟩
def dfs19 : He.DefD := ⟨("_law_same", none), "_law_same", "_law_same", defArgs sLSame, defBody sLSame, defScope sLSame, [], []⟩
def dfs20 : He.DefD := ⟨("_law_sum", none), "_law_sum", "_law_sum", defArgs sLSum, defBody sLSum, defScope sLSum, [], []⟩
def dfs21 : He.DefD := ⟨("law", none), "law", "law", defArgs sLaw, defBody sLaw, defScope sLaw, [], []⟩
def hfn : List He.DefD := [dfs1, dfs2, dfs3, dfs4, dfs5, dfs6, dfs7, dfs8, dfs9, dfs10, dfs11, dfs12, dfs13, dfs14, dfs15, dfs16, dfs17, dfs18, dfs19, dfs20, dfs21]
def hfa : List He.Fa := [
  .glo "Unpacker",
  .cls "Unpacker",
  .noat "Unpacker" "data",
  .noat "Unpacker" "place",
  .noat "Unpacker" "nesting",
  .mkr "Unpacker",
  .meth "Unpacker" "byte",
  .meth "Unpacker" "read_natural",
  .meth "Unpacker" "read_value",
  .meth "Unpacker" "text",
  .glo "natural",
  .glo "pack",
  .glo "sign_number",
  .glo "sum_of_bytes",
  .glo "four",
  .glo "frame",
  .glo "unpack",
  .glo "read_frames",
  .glo "_law_dice",
  .glo "_law_roll",
  .glo "_law_rounds",
  .glo "_law_told",
  .glo "_law_value",
  .glo "_law_same",
  .glo "_law_sum",
  .glo "law",
  .glo "WireError",
  .exc "WireError",
  .free "tuple",
  .free "len",
  .free "range",
  .free "isinstance",
  .free "int",
  .free "str",
  .free "abs",
  .free "zip",
  .int "NONE" 1,
  .int "TRUE" 2,
  .int "FALSE" 3,
  .int "NUMBER" 4,
  .int "BELOW" 5,
  .int "TEXT" 6,
  .int "ROW" 7,
  .int "MOST_DEEP" 30,
  .str "SIGNS" SIGNS]
def htf : List He.Defn := [("law", none), ("pack", none), ("Unpacker", some "read_value")]
def hex (K : PySem.W.Frag) : Bool := (PySem.W.isClsIn K (He.ga K "WireError") && (decide (PySem.W.subIn K (.ref (He.ga K "WireError")) (.ref (He.ga K "WireError")) = some true) && (decide ((He.cT K ("law", none)).2 ≠ (He.cT K ("pack", none)).2) && (decide ((He.cT K ("law", none)).2 ≠ (He.cT K ("Unpacker", some "read_value")).2) && (decide ((He.cT K ("pack", none)).2 ≠ (He.cT K ("Unpacker", some "read_value")).2) && (decide (PySem.W.subIn K (.ref (He.ga K "WireError")) (.type "StopIteration") = some false) && true))))))
abbrev HR : PySem.W.OpenRow := PySem.W.OpenLaw.row PySem.Challenge.rw_shardstack_k01_values_as_bytes
abbrev hk : PySem.W.Hook := He.hookX 7 hfa hfn [] htf hex
def hob (s : PySem.W.SharedT) : He.AlX := He.obsX 7 hfa hfn [] htf hex (HandSHeadRun.getT s)
theorem hob_eq (s : PySem.W.SharedT) : hob s = hk.obs s.abs := He.obsX_eq (HandSHeadRun.getT_eq s)
def hloose : List Str := (["ShardError", "WireError", "NONE", "TRUE", "FALSE", "NUMBER", "BELOW", "TEXT", "ROW", "MOST_DEEP", "SIGNS", "natural", "pack", "sign_number", "Unpacker", "unpack", "sum_of_bytes", "four", "frame", "read_frames", "_law_dice", "_law_roll", "_law_rounds", "_law_told", "_law_value", "_law_same", "_law_sum"] : List Str)
theorem hrun (w : World) : HandSHeadRun.RunEq HR (PySem.W.view HR.prog [30]) hk hob 8000 hloose w := by
  intro os
  kernel_rfl
theorem exB {K : PySem.W.Frag} (h : hex K = true) : (PySem.W.isClsIn K (He.ga K "WireError") = true) ∧ ((PySem.W.subIn K (.ref (He.ga K "WireError")) (.ref (He.ga K "WireError")) = some true)) ∧ (((He.cT K ("law", none)).2 ≠ (He.cT K ("pack", none)).2)) ∧ (((He.cT K ("law", none)).2 ≠ (He.cT K ("Unpacker", some "read_value")).2)) ∧ (((He.cT K ("pack", none)).2 ≠ (He.cT K ("Unpacker", some "read_value")).2)) ∧ ((PySem.W.subIn K (.ref (He.ga K "WireError")) (.type "StopIteration") = some false)) ∧ True := by
  unfold hex at h
  simp only [Bool.and_eq_true, decide_eq_true_eq] at h
  simpa [and_assoc] using h
theorem all_mk {l : PySem.W.OpenLaw} {w : World} {K : PySem.W.Frag} {h : Heap} {mg : Str → Option Value} {fa : Addr} (X : K.In h) (G : h.Ns mainGlobals mg) (hfa0 : mg "law" = some (.ref fa)) (c : He.SaysX hfa hfn [] htf hex w h K) : LamX.LawAtS l w K CX0 176 63 "script" mg fa h := by
  have exs := exB c.more
  have gl21 : mg "law" = some (.ref (He.fAd K ("law", none))) := He.glo_ok X G (c.t.d.fact 25 (f := .glo "law") rfl)
  have gl_Unpacker : mg "Unpacker" = some (.ref (He.ga K "Unpacker")) := He.glo_ok X G (c.t.d.fact 0 (f := .glo "Unpacker") rfl)
  have cl_Unpacker : Cls K (He.ga K "Unpacker") := He.cls_ok (c.t.d.fact 1 (f := .cls "Unpacker") rfl)
  have no_Unpacker_data : NoAttr K (He.ga K "Unpacker") "data" := He.noat_ok (c.t.d.fact 2 (f := .noat "Unpacker" "data") rfl)
  have no_Unpacker_place : NoAttr K (He.ga K "Unpacker") "place" := He.noat_ok (c.t.d.fact 3 (f := .noat "Unpacker" "place") rfl)
  have no_Unpacker_nesting : NoAttr K (He.ga K "Unpacker") "nesting" := He.noat_ok (c.t.d.fact 4 (f := .noat "Unpacker" "nesting") rfl)
  have mk_Unpacker : Mk K (He.ga K "Unpacker") (He.fAd K ("Unpacker", some "__init__")) := He.mkr_ok (c.t.d.fact 5 (f := .mkr "Unpacker") rfl)
  have me2 : Meth K (He.ga K "Unpacker") "byte" (He.fAd K ("Unpacker", some "byte")) := He.meth_ok (c.t.d.fact 6 (f := .meth "Unpacker" "byte") rfl)
  have me3 : Meth K (He.ga K "Unpacker") "read_natural" (He.fAd K ("Unpacker", some "read_natural")) := He.meth_ok (c.t.d.fact 7 (f := .meth "Unpacker" "read_natural") rfl)
  have me4 : Meth K (He.ga K "Unpacker") "read_value" (He.fAd K ("Unpacker", some "read_value")) := He.meth_ok (c.t.d.fact 8 (f := .meth "Unpacker" "read_value") rfl)
  have me5 : Meth K (He.ga K "Unpacker") "text" (He.fAd K ("Unpacker", some "text")) := He.meth_ok (c.t.d.fact 9 (f := .meth "Unpacker" "text") rfl)
  have gl6 : mg "natural" = some (.ref (He.fAd K ("natural", none))) := He.glo_ok X G (c.t.d.fact 10 (f := .glo "natural") rfl)
  have gl7 : mg "pack" = some (.ref (He.fAd K ("pack", none))) := He.glo_ok X G (c.t.d.fact 11 (f := .glo "pack") rfl)
  have gl8 : mg "sign_number" = some (.ref (He.fAd K ("sign_number", none))) := He.glo_ok X G (c.t.d.fact 12 (f := .glo "sign_number") rfl)
  have gl9 : mg "sum_of_bytes" = some (.ref (He.fAd K ("sum_of_bytes", none))) := He.glo_ok X G (c.t.d.fact 13 (f := .glo "sum_of_bytes") rfl)
  have gl10 : mg "four" = some (.ref (He.fAd K ("four", none))) := He.glo_ok X G (c.t.d.fact 14 (f := .glo "four") rfl)
  have gl11 : mg "frame" = some (.ref (He.fAd K ("frame", none))) := He.glo_ok X G (c.t.d.fact 15 (f := .glo "frame") rfl)
  have gl12 : mg "unpack" = some (.ref (He.fAd K ("unpack", none))) := He.glo_ok X G (c.t.d.fact 16 (f := .glo "unpack") rfl)
  have gl13 : mg "read_frames" = some (.ref (He.fAd K ("read_frames", none))) := He.glo_ok X G (c.t.d.fact 17 (f := .glo "read_frames") rfl)
  have gl14 : mg "_law_dice" = some (.ref (He.fAd K ("_law_dice", none))) := He.glo_ok X G (c.t.d.fact 18 (f := .glo "_law_dice") rfl)
  have gl15 : mg "_law_roll" = some (.ref (He.fAd K ("_law_roll", none))) := He.glo_ok X G (c.t.d.fact 19 (f := .glo "_law_roll") rfl)
  have gl16 : mg "_law_rounds" = some (.ref (He.fAd K ("_law_rounds", none))) := He.glo_ok X G (c.t.d.fact 20 (f := .glo "_law_rounds") rfl)
  have gl17 : mg "_law_told" = some (.ref (He.fAd K ("_law_told", none))) := He.glo_ok X G (c.t.d.fact 21 (f := .glo "_law_told") rfl)
  have gl18 : mg "_law_value" = some (.ref (He.fAd K ("_law_value", none))) := He.glo_ok X G (c.t.d.fact 22 (f := .glo "_law_value") rfl)
  have gl19 : mg "_law_same" = some (.ref (He.fAd K ("_law_same", none))) := He.glo_ok X G (c.t.d.fact 23 (f := .glo "_law_same") rfl)
  have gl20 : mg "_law_sum" = some (.ref (He.fAd K ("_law_sum", none))) := He.glo_ok X G (c.t.d.fact 24 (f := .glo "_law_sum") rfl)
  have gl_WireError : mg "WireError" = some (.ref (He.ga K "WireError")) := He.glo_ok X G (c.t.d.fact 26 (f := .glo "WireError") rfl)
  have TE_WireError : ExcT K mg "WireError" (He.ga K "WireError") := exc_T X G (c.t.d.fact 26 (f := .glo "WireError") rfl) (c.t.d.fact 27 (f := .exc "WireError") rfl) (exB c.more).1 (exB c.more).2.1
  have fr_tuple : mg "tuple" = none := He.free_ok X G (c.t.d.fact 28 (f := .free "tuple") rfl)
  have fr_len : mg "len" = none := He.free_ok X G (c.t.d.fact 29 (f := .free "len") rfl)
  have fr_range : mg "range" = none := He.free_ok X G (c.t.d.fact 30 (f := .free "range") rfl)
  have fr_isinstance : mg "isinstance" = none := He.free_ok X G (c.t.d.fact 31 (f := .free "isinstance") rfl)
  have fr_int : mg "int" = none := He.free_ok X G (c.t.d.fact 32 (f := .free "int") rfl)
  have fr_str : mg "str" = none := He.free_ok X G (c.t.d.fact 33 (f := .free "str") rfl)
  have fr_abs : mg "abs" = none := He.free_ok X G (c.t.d.fact 34 (f := .free "abs") rfl)
  have fr_zip : mg "zip" = none := He.free_ok X G (c.t.d.fact 35 (f := .free "zip") rfl)
  have con_NONE : ∃ u, mg "NONE" = some u ∧ RelV (.int 1) u := let ⟨t, e⟩ := He.int_ok X G (c.t.d.fact 36 (f := .int "NONE" 1) rfl); ⟨_, e, ⟨t, rfl⟩⟩
  have con_TRUE : ∃ u, mg "TRUE" = some u ∧ RelV (.int 2) u := let ⟨t, e⟩ := He.int_ok X G (c.t.d.fact 37 (f := .int "TRUE" 2) rfl); ⟨_, e, ⟨t, rfl⟩⟩
  have con_FALSE : ∃ u, mg "FALSE" = some u ∧ RelV (.int 3) u := let ⟨t, e⟩ := He.int_ok X G (c.t.d.fact 38 (f := .int "FALSE" 3) rfl); ⟨_, e, ⟨t, rfl⟩⟩
  have con_NUMBER : ∃ u, mg "NUMBER" = some u ∧ RelV (.int 4) u := let ⟨t, e⟩ := He.int_ok X G (c.t.d.fact 39 (f := .int "NUMBER" 4) rfl); ⟨_, e, ⟨t, rfl⟩⟩
  have con_BELOW : ∃ u, mg "BELOW" = some u ∧ RelV (.int 5) u := let ⟨t, e⟩ := He.int_ok X G (c.t.d.fact 40 (f := .int "BELOW" 5) rfl); ⟨_, e, ⟨t, rfl⟩⟩
  have con_TEXT : ∃ u, mg "TEXT" = some u ∧ RelV (.int 6) u := let ⟨t, e⟩ := He.int_ok X G (c.t.d.fact 41 (f := .int "TEXT" 6) rfl); ⟨_, e, ⟨t, rfl⟩⟩
  have con_ROW : ∃ u, mg "ROW" = some u ∧ RelV (.int 7) u := let ⟨t, e⟩ := He.int_ok X G (c.t.d.fact 42 (f := .int "ROW" 7) rfl); ⟨_, e, ⟨t, rfl⟩⟩
  have con_MOST_DEEP : ∃ u, mg "MOST_DEEP" = some u ∧ RelV (.int 30) u := let ⟨t, e⟩ := He.int_ok X G (c.t.d.fact 43 (f := .int "MOST_DEEP" 30) rfl); ⟨_, e, ⟨t, rfl⟩⟩
  have con_SIGNS : ∃ u, mg "SIGNS" = some u ∧ RelV (.str SIGNS) u := let ⟨t, e⟩ := He.str_ok X G (c.t.d.fact 44 (f := .str "SIGNS" SIGNS) rfl); ⟨_, e, ⟨t, rfl⟩⟩
  obtain ⟨fd1, D1⟩ := c.t.d.def_ 0 (d := dfs1) rfl
  have F1 : Fun K "__init__" "Unpacker.__init__" sUInit (He.fAd K ("Unpacker", some "__init__")) fd1 := fun_ofD D1
  have b1 := F1.binds (ps := ["self", "data"]) fun _ _ _ _ _ _ us hl => match us, hl with | [_, _], _ => rfl
  obtain ⟨fd2, D2⟩ := c.t.d.def_ 1 (d := dfs2) rfl
  have F2 : Fun K "byte" "Unpacker.byte" sUByte (He.fAd K ("Unpacker", some "byte")) fd2 := fun_ofD D2
  have b2 := F2.binds (ps := ["self"]) fun _ _ _ _ _ _ us hl => match us, hl with | [_], _ => rfl
  obtain ⟨fd3, D3⟩ := c.t.d.def_ 2 (d := dfs3) rfl
  have F3 : Fun K "read_natural" "Unpacker.read_natural" sUNat (He.fAd K ("Unpacker", some "read_natural")) fd3 := fun_ofD D3
  have b3 := F3.binds (ps := ["self"]) fun _ _ _ _ _ _ us hl => match us, hl with | [_], _ => rfl
  obtain ⟨fd4, D4⟩ := c.t.d.def_ 3 (d := dfs4) rfl
  have F4 : Fun K "read_value" "Unpacker.read_value" sUVal (He.fAd K ("Unpacker", some "read_value")) fd4 := fun_ofD D4
  have b4 := F4.binds (ps := ["self"]) fun _ _ _ _ _ _ us hl => match us, hl with | [_], _ => rfl
  obtain ⟨fd5, D5⟩ := c.t.d.def_ 4 (d := dfs5) rfl
  have F5 : Fun K "text" "Unpacker.text" sUText (He.fAd K ("Unpacker", some "text")) fd5 := fun_ofD D5
  have b5 := F5.binds (ps := ["self"]) fun _ _ _ _ _ _ us hl => match us, hl with | [_], _ => rfl
  obtain ⟨fd6, D6⟩ := c.t.d.def_ 5 (d := dfs6) rfl
  have F6 : Fun K "natural" "natural" sNatural (He.fAd K ("natural", none)) fd6 := fun_ofD D6
  have b6 := F6.binds (ps := ["number"]) fun _ _ _ _ _ _ us hl => match us, hl with | [_], _ => rfl
  obtain ⟨fd7, D7⟩ := c.t.d.def_ 6 (d := dfs7) rfl
  have F7 : FunD K "pack" "pack" (defArgs sPack) (defBody sPack) (defScope sPack) [.int 0] [] (He.fAd K ("pack", none)) fd7 := D7
  obtain ⟨ds7_0, vds7_0, b7_0⟩ := F7.binds1 (ps := ["value", "depth"]) 1 0 (by simp) rfl fun _ _ _ _ _ _ _ us its h1 h2 => match us, its, h1, h2 with | [_], [_], _, _ => ⟨_, rfl, rfl⟩
  obtain ⟨ds7_1, vds7_1, b7_1⟩ := F7.binds1 (ps := ["value", "depth"]) 2 1 (by simp) rfl fun _ _ _ _ _ _ _ us its h1 h2 => match us, its, h1, h2 with | [_, _], [_], _, _ => ⟨_, rfl, rfl⟩
  obtain ⟨fd8, D8⟩ := c.t.d.def_ 7 (d := dfs8) rfl
  have F8 : Fun K "sign_number" "sign_number" sSignN (He.fAd K ("sign_number", none)) fd8 := fun_ofD D8
  have b8 := F8.binds (ps := ["sign"]) fun _ _ _ _ _ _ us hl => match us, hl with | [_], _ => rfl
  obtain ⟨fd9, D9⟩ := c.t.d.def_ 8 (d := dfs9) rfl
  have F9 : Fun K "sum_of_bytes" "sum_of_bytes" sSumB (He.fAd K ("sum_of_bytes", none)) fd9 := fun_ofD D9
  have b9 := F9.binds (ps := ["data"]) fun _ _ _ _ _ _ us hl => match us, hl with | [_], _ => rfl
  obtain ⟨fd10, D10⟩ := c.t.d.def_ 9 (d := dfs10) rfl
  have F10 : Fun K "four" "four" sFour (He.fAd K ("four", none)) fd10 := fun_ofD D10
  have b10 := F10.binds (ps := ["number"]) fun _ _ _ _ _ _ us hl => match us, hl with | [_], _ => rfl
  obtain ⟨fd11, D11⟩ := c.t.d.def_ 10 (d := dfs11) rfl
  have F11 : Fun K "frame" "frame" sFrame (He.fAd K ("frame", none)) fd11 := fun_ofD D11
  have b11 := F11.binds (ps := ["value"]) fun _ _ _ _ _ _ us hl => match us, hl with | [_], _ => rfl
  obtain ⟨fd12, D12⟩ := c.t.d.def_ 11 (d := dfs12) rfl
  have F12 : Fun K "unpack" "unpack" sUnpack (He.fAd K ("unpack", none)) fd12 := fun_ofD D12
  have b12 := F12.binds (ps := ["data"]) fun _ _ _ _ _ _ us hl => match us, hl with | [_], _ => rfl
  obtain ⟨fd13, D13⟩ := c.t.d.def_ 12 (d := dfs13) rfl
  have F13 : Fun K "read_frames" "read_frames" sReadF (He.fAd K ("read_frames", none)) fd13 := fun_ofD D13
  have b13 := F13.binds (ps := ["data"]) fun _ _ _ _ _ _ us hl => match us, hl with | [_], _ => rfl
  obtain ⟨fd14, D14⟩ := c.t.d.def_ 13 (d := dfs14) rfl
  have F14 : Fun K "_law_dice" "_law_dice" sDice (He.fAd K ("_law_dice", none)) fd14 := fun_ofD D14
  have b14 := F14.binds (ps := ["cell"]) fun _ _ _ _ _ _ us hl => match us, hl with | [_], _ => rfl
  obtain ⟨fd15, D15⟩ := c.t.d.def_ 14 (d := dfs15) rfl
  have F15 : Fun K "_law_roll" "_law_roll" sRoll (He.fAd K ("_law_roll", none)) fd15 := fun_ofD D15
  have b15 := F15.binds (ps := ["dice", "many"]) fun _ _ _ _ _ _ us hl => match us, hl with | [_, _], _ => rfl
  obtain ⟨fd16, D16⟩ := c.t.d.def_ 15 (d := dfs16) rfl
  have F16 : Fun K "_law_rounds" "_law_rounds" sRounds (He.fAd K ("_law_rounds", none)) fd16 := fun_ofD D16
  have b16 := F16.binds (ps := ["script", "most"]) fun _ _ _ _ _ _ us hl => match us, hl with | [_, _], _ => rfl
  obtain ⟨fd17, D17⟩ := c.t.d.def_ 16 (d := dfs17) rfl
  have F17 : Fun K "_law_told" "_law_told" sTold (He.fAd K ("_law_told", none)) fd17 := fun_ofD D17
  have b17 := F17.binds (ps := ["what"]) fun _ _ _ _ _ _ us hl => match us, hl with | [_], _ => rfl
  obtain ⟨fd18, D18⟩ := c.t.d.def_ 17 (d := dfs18) rfl
  have F18 : Fun K "_law_value" "_law_value" sLVal (He.fAd K ("_law_value", none)) fd18 := fun_ofD D18
  have b18 := F18.binds (ps := ["dice", "deep"]) fun _ _ _ _ _ _ us hl => match us, hl with | [_, _], _ => rfl
  obtain ⟨fd19, D19⟩ := c.t.d.def_ 18 (d := dfs19) rfl
  have F19 : Fun K "_law_same" "_law_same" sLSame (He.fAd K ("_law_same", none)) fd19 := fun_ofD D19
  have b19 := F19.binds (ps := ["one", "other"]) fun _ _ _ _ _ _ us hl => match us, hl with | [_, _], _ => rfl
  obtain ⟨fd20, D20⟩ := c.t.d.def_ 19 (d := dfs20) rfl
  have F20 : Fun K "_law_sum" "_law_sum" sLSum (He.fAd K ("_law_sum", none)) fd20 := fun_ofD D20
  have b20 := F20.binds (ps := ["numbers"]) fun _ _ _ _ _ _ us hl => match us, hl with | [_], _ => rfl
  obtain ⟨fd21, D21⟩ := c.t.d.def_ 20 (d := dfs21) rfl
  have F21 : Fun K "law" "law" sLaw (He.fAd K ("law", none)) fd21 := fun_ofD D21
  have e := hfa0.symm.trans gl21
  cases e
  have TE := TE_WireError
  have TL : TxtL mg := ⟨fr_abs, fr_int⟩
  have TV : TxtV mg := ⟨fr_tuple, fr_range, fr_isinstance, fr_len, fr_zip, fr_str, fr_int⟩
  have TG : TxtLw mg := ⟨fr_range, fr_len, fr_tuple⟩
  have XU : TxtU K mg (He.ga K "Unpacker") := ⟨cl_Unpacker, (fun f hf => by
    simp only [nmU, List.mem_cons, List.not_mem_nil, or_false] at hf
    rcases hf with rfl | rfl | rfl
    · exact no_Unpacker_data
    · exact no_Unpacker_place
    · exact no_Unpacker_nesting)⟩
  have TW : TxtW mg := ⟨fr_tuple, fr_len, fr_range, fr_isinstance, fr_int, fr_str, con_NONE, con_TRUE, con_FALSE, con_NUMBER, con_BELOW, con_TEXT, con_ROW, con_MOST_DEEP, con_SIGNS⟩
  obtain ⟨ocL, odL, kVL, dcL, pmL, anL, ctL, oslL, rfl, lkL, cdL⟩ := fun_code (p := ("law", none)) F21
  obtain ⟨ocG0, odG0, dVG0, kVG0, dcG0, pmG0, anG0, ctG0, oslG0, rfl, lkG0, cdG0⟩ := fun_codeD (p := ("pack", none)) F7
  obtain ⟨ocG1, odG1, kVG1, dcG1, pmG1, anG1, ctG1, oslG1, rfl, lkG1, cdG1⟩ := fun_code (p := ("Unpacker", some "read_value")) F4
  refine ⟨PySem.W.fnOf "law" "law" (defArgs sLaw) (defBody sLaw) (defScope sLaw) .none kVL dcL pmL anL (.ref (He.cT K ("law", none)).1) ctL, htf.map (He.cT K), spLaw K (He.cT K ("law", none)).2 (He.cT K ("pack", none)).2 (He.cT K ("Unpacker", some "read_value")).2, fun p hp => ?_, fun p hp => ?_, fun p hp => ?_, fun s v => .of_eq rfl, fun H a ns hlen _ hH hS => ⟨a, ns, rfl, hS, hlen, led3 (hH _ (List.mem_map.mpr ⟨_, .head _, rfl⟩)) (hH _ (List.mem_map.mpr ⟨_, .tail _ (.head _), rfl⟩)) (hH _ (List.mem_map.mpr ⟨_, .tail _ (.tail _ (.head _)), rfl⟩)) exs.2.2.1 exs.2.2.2.1 exs.2.2.2.2.1, fun _ => rfl⟩, fun base _ _ htb => ?_⟩
  · obtain ⟨x, hx, rfl⟩ := List.mem_map.mp hp
    exact c.empty x hx
  · obtain ⟨x, hx, rfl⟩ := List.mem_map.mp hp
    exact c.out x hx
  · obtain ⟨x, hx, rfl⟩ := List.mem_map.mp hp
    exact PySem.W.codeHd_of_K X (c.hd x hx)
  have hTBL := htb (He.cT K ("law", none)) (List.mem_map.mpr ⟨("law", none), (.head _), rfl⟩)
  have hTB0 := htb (He.cT K ("pack", none)) (List.mem_map.mpr ⟨("pack", none), (.tail _ (.head _)), rfl⟩)
  have hTB1 := htb (He.cT K ("Unpacker", some "read_value")) (List.mem_map.mpr ⟨("Unpacker", some "read_value"), (.tail _ (.tail _ (.head _))), rfl⟩)
  have Ldice : Cal l.prog w K mg base (1) "_law_dice" spDice [] := ⟨_, _, _, [], ok_dice F14 TL, gl14, F14.kp, b14, .nil⟩
  have Lroll1 : Cal l.prog w K mg base 1 "_law_roll" (spRollN (10 ^ 8)) [] := ⟨_, _, _, [], ok_roll F15 TL, gl15, F15.kp, b15, .nil⟩
  have Lroll2 : Cal l.prog w K mg base (2) "_law_roll" (spRollN (10 ^ 15)) [] := ⟨_, _, _, [], ok_rollN (B := 10 ^ 15) (B' := 10 ^ 8) F15 TL Lroll1 (by decide +kernel) (by decide +kernel) (by decide +kernel), gl15, F15.kp, b15, .nil⟩
  have Lroll : Cal l.prog w K mg base (3) "_law_roll" (spRollN B20) [] := ⟨_, _, _, [], ok_rollN (B := B20) (B' := 10 ^ 15) F15 TL Lroll2 (by decide +kernel) (by decide +kernel) (by decide +kernel), gl15, F15.kp, b15, .nil⟩
  have Lround : Cal l.prog w K mg base (2) "_law_rounds" (spRounds K) [] := ⟨_, _, _, [], ok_rounds F16 Ldice, gl16, F16.kp, b16, .nil⟩
  have Lval : Cal l.prog w K mg base (10) "_law_value" (spLVal 6) [] := ⟨_, _, _, [], ok_lval F18 TV gl18 b18 Lroll 6, gl18, F18.kp, b18, .nil⟩
  have Lsame : Cal l.prog w K mg base (7) "_law_same" (spLSame 6) [] := ⟨_, _, _, [], ok_lsame F19 TV gl19 b19 6, gl19, F19.kp, b19, .nil⟩
  have Lsum : Cal l.prog w K mg base (1) "_law_sum" spSumB [] := ⟨_, _, _, [], ok_lsum F20 TL, gl20, F20.kp, b20, .nil⟩
  cases vds7_1
  have Wnat : Cal l.prog w K mg base (1) "natural" spNatural [] := ⟨_, _, _, [], ok_natural F6 TW, gl6, F6.kp, b6, .nil⟩
  have Wsgn : Cal l.prog w K mg base (1) "sign_number" spSignN [] := ⟨_, _, _, [], ok_signN F8 TW, gl8, F8.kp, b8, .nil⟩
  have WsgnX : CalX l.prog w K mg base (1) "sign_number" (spSignX (He.ga K "WireError")) [] := ⟨_, _, _, [], ok_signX F8 TW TE, gl8, F8.kp, b8, .nil⟩
  have Wsum : Cal l.prog w K mg base (1) "sum_of_bytes" spSumB [] := ⟨_, _, _, [], ok_sumB F9, gl9, F9.kp, b9, .nil⟩
  have Wfour : Cal l.prog w K mg base (1) "four" spFour [] := ⟨_, _, _, [], ok_four F10, gl10, F10.kp, b10, .nil⟩
  have Wpack : Cal l.prog w K mg base (5 + 7) "pack" (spPack (He.cT K ("pack", none)).2 7) [.int 0] := ⟨_, _, _, _, ok_pack (ds := []) lkG0 cdG0 ⟨hTB0.code, hTB0.bm, hTB0.gP⟩ TW gl7 F7.kp b7_1 Wnat Wsgn 7, gl7, F7.kp, b7_0, vds7_0⟩
  have WpackC : Cal l.prog w K mg base (5 + 31) "pack" (spPackC (He.cT K ("pack", none)).2 31) [.int 0] := ⟨_, _, _, _, ok_packC (ds := []) lkG0 cdG0 ⟨hTB0.code, hTB0.bm, hTB0.gP⟩ TW gl7 F7.kp b7_1 Wnat Wsgn 31, gl7, F7.kp, b7_0, vds7_0⟩
  have WpackX : CalX l.prog w K mg base (5 + 32) "pack" (spPackX (He.ga K "WireError") (He.cT K ("pack", none)).2 32) [.int 0] := ⟨_, _, _, _, ok_packX lkG0 cdG0 ⟨hTB0.code, hTB0.bm, hTB0.gP⟩ TW TE gl7 F7.kp b7_1 Wnat Wsgn 32, gl7, F7.kp, b7_0, vds7_0⟩
  have WpackY : CalX l.prog w K mg base (5 + 32) "pack" (spPackX (He.ga K "WireError") (He.cT K ("pack", none)).2 32) [] := ⟨_, _, _, [], ok_packX lkG0 cdG0 ⟨hTB0.code, hTB0.bm, hTB0.gP⟩ TW TE gl7 F7.kp b7_1 Wnat Wsgn 32, gl7, F7.kp, b7_1, .nil⟩
  have WpackL : CalX l.prog w K mg base 38 "pack" (spPackLX (He.ga K "WireError")) [.int 0] := ⟨_, _, _, _, ok_packLX (ds := []) lkG0 cdG0 ⟨hTB0.code, hTB0.bm, hTB0.gP⟩ TW TE Wnat Wsgn WpackY, gl7, F7.kp, b7_0, vds7_0⟩
  have Wframe : Cal l.prog w K mg base (6 + 7) "frame" (spFrame (He.cT K ("pack", none)).2 7) [] := ⟨_, _, _, [], ok_frame F11 TW Wpack Wfour Wsum, gl11, F11.kp, b11, .nil⟩
  have Wunp : Mak l.prog w K mg base 1 "Unpacker" (He.ga K "Unpacker") (spUInit (He.ga K "Unpacker")) [] := ⟨_, _, _, [], mk_Unpacker, ok_UInit F1 XU TW, gl_Unpacker, b1, .nil⟩
  have Wbyte : Met l.prog w K mg base (1) (He.ga K "Unpacker") "byte" (spUByte (He.ga K "Unpacker")) [] := ⟨_, _, _, [], cl_Unpacker, me2, ok_UByte F2 XU TW, b2, .nil⟩
  have Wrnat : Met l.prog w K mg base (2) (He.ga K "Unpacker") "read_natural" (spUNat (He.ga K "Unpacker")) [] := ⟨_, _, _, [], cl_Unpacker, me3, ok_UNat F3 XU Wbyte, b3, .nil⟩
  have Wtext : Met l.prog w K mg base (3) (He.ga K "Unpacker") "text" (spUText (He.ga K "Unpacker")) [] := ⟨_, _, _, [], cl_Unpacker, me5, ok_UText F5 XU TW Wbyte Wrnat, b5, .nil⟩
  have Wval : Met l.prog w K mg base (4 + 5 * 7) (He.ga K "Unpacker") "read_value" (spUVal (He.ga K "Unpacker") (He.cT K ("Unpacker", some "read_value")).2 7) [] := ⟨_, _, _, [], cl_Unpacker, me4, ok_UVal lkG1 cdG1 ⟨hTB1.code, hTB1.bm, hTB1.gP⟩ XU TW me4 b4 Wbyte Wrnat Wtext 7, b4, .nil⟩
  have Wunpack : Cal l.prog w K mg base (5 + 5 * 7) "unpack" (spUnpack (He.ga K "Unpacker") (He.cT K ("Unpacker", some "read_value")).2 7) [] := ⟨_, _, _, [], ok_unpack F12 XU TW Wunp Wval, gl12, F12.kp, b12, .nil⟩
  have Wread : Cal l.prog w K mg base (6 + 5 * 7) "read_frames" (spReadFB (He.ga K "Unpacker") (He.cT K ("Unpacker", some "read_value")).2 7) [] := ⟨_, _, _, [], ok_readFB F13 TW Wunpack Wsum, gl13, F13.kp, b13, .nil⟩
  have WbyteX : MetX l.prog w K mg base (1) (He.ga K "Unpacker") "byte" (spUByteX (He.ga K "Unpacker") (He.ga K "WireError")) [] := ⟨_, _, _, [], cl_Unpacker, me2, ok_UByteX F2 XU TW TE, b2, .nil⟩
  have WrnatX : MetX l.prog w K mg base (2) (He.ga K "Unpacker") "read_natural" (spUNatX (He.ga K "Unpacker") (He.ga K "WireError")) [] := ⟨_, _, _, [], cl_Unpacker, me3, ok_UNatX F3 XU TE WbyteX, b3, .nil⟩
  have WtextX : MetX l.prog w K mg base (3) (He.ga K "Unpacker") "text" (spUTextX (He.ga K "Unpacker") (He.ga K "WireError")) [] := ⟨_, _, _, [], cl_Unpacker, me5, ok_UTextX F5 XU TW TE WbyteX WrnatX, b5, .nil⟩
  have WvalX : MetX l.prog w K mg base (4 + 5 * 32) (He.ga K "Unpacker") "read_value" (spUValX (He.ga K "Unpacker") (He.ga K "WireError") (He.cT K ("Unpacker", some "read_value")).2 32) [] := ⟨_, _, _, [], cl_Unpacker, me4, ok_UValX lkG1 cdG1 ⟨hTB1.code, hTB1.bm, hTB1.gP⟩ XU TW TE exs.2.2.2.2.2.1 me4 b4 WbyteX WrnatX WtextX 32, b4, .nil⟩
  have WunpackX : CalX l.prog w K mg base (165) "unpack" (spUnpackX (He.ga K "Unpacker") (He.ga K "WireError") (He.cT K ("Unpacker", some "read_value")).2) [] := ⟨_, _, _, [], ok_unpackX F12 XU TW TE Wunp WvalX, gl12, F12.kp, b12, .nil⟩
  have told : ∀ i : ToF, CalS l.prog w K mg base 167 "_law_told" (gTold i.2.1 i.1 i.2.2) (spToldS l.prog w K mg base 166 [((He.ga K "WireError"), "WireError")] i.2.1 i.1 i.2.2) := fun i => ⟨_, _, _, ok_told1 F17 scTold (by rfl) rfl TE.g rfl (Or.inl rfl) (fun _ => rfl), gl17, F17.kp, b17⟩
  refine fn_of lkL cdL scLaw (fun vs H Q E h => ?_) fun A outer s H vs Q E hr hsp => ?_
  · obtain ⟨a, ns, rfl, _⟩ := h
    rfl
  obtain ⟨t, ht, hq⟩ := law_all (PL := (He.cT K ("law", none)).2) (f := He.fAd K ("law", none)) (cL := (He.cT K ("law", none)).1) (A := A) (outer := outer) (s0 := s) (H0 := H) (E := E) hr TG TE hTBL told gl17 F17.kp Lround Lroll Lval Lsame Lsum Wnat Wsgn Wsum Wfour Wpack WpackC WpackX WpackL Wframe Wunpack WunpackX Wread WsgnX hsp
  exact ⟨t, ht.nox, hq⟩
end Sd
open PySem PySem.W PySem.Calls PyProof.Rows
set_option maxRecDepth 100000 in
set_option maxHeartbeats 0 in
theorem PySem.Challenge.cw_shardstack_k01_values_as_bytes_holds : PySem.Challenge.rw_shardstack_k01_values_as_bytes.Holds := by
  w_on; o_law
  refine HandSHeadRun.head_any (r := OpenLaw.row PySem.Challenge.rw_shardstack_k01_values_as_bytes) (q := view (OpenLaw.row PySem.Challenge.rw_shardstack_k01_values_as_bytes).prog [30]) (H := Sd.hk) (ob := Sd.hob) (M := 8000) (loose := Sd.hloose) (d := HandSHeadRun.topDef (OpenLaw.row PySem.Challenge.rw_shardstack_k01_values_as_bytes).prog 30) (kwd := []) Sd.hob_eq
    (by kernel_rfl) (fun s => by kernel_rfl) Sd.hrun (by kernel_rfl) (by kernel_rfl) (by kernel_rfl) (by rfl) (by first | assumption | decide +kernel) (by decide +kernel) ⟨rfl, rfl, rfl, rfl, rfl, by decide +kernel⟩ ?hw ?hc
  case hw => w_witness2
  case hc =>
    refine LamX.walk_ofTsE (l := PySem.Challenge.rw_shardstack_k01_values_as_bytes) (n := 63) (k := 176) (x := "script") (CX := fun _ => L2.CX0) rfl (by decide) (by kernel_rfl) ⟨rfl, by decide, by decide⟩ ?F (fun _ _ _ _ _ z => z)
    intro w mg fa h Y G hmg0
    obtain ⟨K, KX, c⟩ := Y
    have hmg : mg ("law" : PySem.Str) = some (.ref fa) := by
      have e : (HandSHeadRun.topDef (OpenLaw.row PySem.Challenge.rw_shardstack_k01_values_as_bytes).prog 30).name = ("law" : PySem.Str) := by kernel_rfl
      rw [← e]
      exact hmg0
    exact ⟨K, KX, Sd.all_mk KX G hmg c⟩
#print axioms PySem.Challenge.cw_shardstack_k01_values_as_bytes_holds

