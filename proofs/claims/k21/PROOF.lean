import PyProof.Rows.All
import Wide.All
import OpenK.AllK
import Wide.FinOn
import HandS.ForMost
import HandS.Flow
import HandS.Style
import HandS.Codes
import HandS.SortInts
import HandS.Conv
import HandS.Nested
import HandS.TryOnly
import HandS.ExcOwn
import HandS.WordsExc
import HandS.Small
import HandS.EndOwn
import HandS.Defaults
import KE.DataEq
import HandS.GenList
import HandS.AnyAll
import HandS.JoinGen
import PyProof.TupleOfGen
import HandS.Walk
import KE.DatumOrd
import HandS.Lambda
import HandS.HeadHook4
import HandS.HeadWalk
import HandS.Head2
import HandS.HeadEnd
import HandS.DeepEq
import HandS.DictComp
import KE.KEqNest
import HandS.More
import PyProof.TupleOfSeq
import PySem.Challenge.RW_shardstack_k21_parts_on_machines
import KE.KExcLine
set_option Elab.async false
set_option maxRecDepth 100000
set_option maxHeartbeats 4000000
namespace Sd
open PySem L2

/-! ### the ledger: objects of the heap, all at different places -/
abbrev Lg := List (Addr × HO)
def Led (H : Hp) (L : Lg) : Prop := (∀ x ∈ L, H x.1 = some x.2) ∧ (L.map (·.1)).Nodup
/-- the object at a is known -/
def At (L : Lg) (a : Addr) (o : HO) : Prop := ∃ i : Nat, L[i]? = some (a, o)
section
variable {H H' : Hp} {L A B C R : Lg} {a p : Addr} {o o' : HO}
theorem Led.mem (h : Led H L) (m : (a, o) ∈ L) : H a = some o := h.1 _ m
theorem Led.at (h : Led H L) (e : At L a o) : H a = some o := let ⟨_, q⟩ := e; h.1 _ (List.mem_of_getElem? q)
theorem Led.ne (h : Led H L) (e : At L a o) (hp : H p = none) : a ≠ p := ne_of_none (h.at e) hp
theorem Led.nin (h : Led H L) (hp : H p = none) : p ∉ L.map (·.1) := fun m => by
  obtain ⟨x, hx, e⟩ := List.mem_map.mp m
  have := h.1 x hx
  rw [e, hp] at this
  cases this
theorem Led.new (h : Led H L) (hp : H p = none) : Led (upd H p o) ((p, o) :: L) := by
  refine ⟨fun x hx => ?_, ?_⟩
  · rcases List.mem_cons.mp hx with e | hx
    · rw [e]; exact upd_same
    · have := h.1 x hx
      rw [upd_ne (ne_of_none this hp)]; exact this
  · rw [List.map_cons]
    exact List.nodup_cons.mpr ⟨h.nin hp, h.2⟩
theorem Led.skip (h : Led H L) (hp : H p = none) : Led (upd H p o) L :=
  let q := h.new (o := o) hp
  ⟨fun x hx => q.1 x (List.mem_cons_of_mem _ hx), h.2⟩
theorem Led.perm (h : Led H L) (q : L.Perm B) : Led H B := ⟨fun x hx => h.1 x (q.mem_iff.mpr hx), (q.map _).nodup_iff.mp h.2⟩
theorem Led.head (h : Led H ((a, o) :: B)) : Led (upd H a o') ((a, o') :: B) := by
  have n : a ∉ B.map (·.1) := (List.nodup_cons.mp h.2).1
  refine ⟨fun x hx => ?_, h.2⟩
  rcases List.mem_cons.mp hx with e | hx
  · rw [e]; exact upd_same
  · rw [upd_ne (fun e => n (List.mem_map.mpr ⟨x, hx, e⟩))]
    exact h.1 x (List.mem_cons_of_mem _ hx)
theorem Led.mid (h : Led H (A ++ (a, o) :: B)) : Led (upd H a o') (A ++ (a, o') :: B) :=
  (((h.perm List.perm_middle).head (o' := o')).perm List.perm_middle.symm)
theorem Led.set (i : Nat) (h : Led H L) (e : L[i]? = some (a, o)) : Led (upd H a o') (L.set i (a, o')) := by
  obtain ⟨hi, e⟩ := List.getElem?_eq_some_iff.mp e
  have s1 : L = L.take i ++ (a, o) :: L.drop (i + 1) := by
    rw [← e, List.getElem_cons_drop, List.take_append_drop]
  rw [s1] at h
  have q := h.mid (o' := o')
  rw [List.set_eq_take_append_cons_drop, if_pos hi]
  exact q
theorem Led.swap (h : Led H (A ++ (B ++ C))) : Led H (B ++ (A ++ C)) := by
  refine h.perm ?_
  rw [← List.append_assoc, ← List.append_assoc]
  exact List.perm_append_comm.append_right _
theorem Led.sub (h : Led H L) (q : B.Sublist L) : Led H B := ⟨fun x hx => h.1 x (q.subset hx), h.2.sublist (q.map _)⟩
theorem Led.drop (h : Led H (A ++ B)) : Led H B := h.sub (List.sublist_append_right _ _)
theorem Led.left (h : Led H (A ++ B)) : Led H A := h.sub (List.sublist_append_left _ _)
theorem Led.tail (h : Led H ((a, o) :: B)) : Led H B := h.sub (List.sublist_cons_self _ _)
theorem Led.nil : Led H [] := ⟨fun _ hx => (nomatch hx), List.nodup_nil⟩
theorem Led.mono (h : Led H L) (e : ∀ x ∈ L, H' x.1 = some x.2) : Led H' L := ⟨e, h.2⟩
end

/-! ### an instance's attributes, a dict with written keys: names and values -/
def fz (names : List Str) (vals : List V) : List (Str × V) := names.zip vals
def dz (names : List Str) (vals : List V) : List (Key × V) := (names.map Sum.inr).zip vals
theorem fz_at {f : Str} {v : V} : ∀ (i : Nat) {names : List Str} {vals : List V}, names.Nodup → names[i]? = some f → vals[i]? = some v → (fz names vals).lookup f = some v
  | 0, n :: ns, w :: ws, _, h1, h2 => by
    simp only [List.getElem?_cons_zero, Option.some.injEq] at h1 h2
    subst h1 h2
    simp [fz]
  | i + 1, n :: ns, w :: ws, nd, h1, h2 => by
    rw [List.getElem?_cons_succ] at h1 h2
    obtain ⟨n1, n2⟩ := List.nodup_cons.mp nd
    have ne : ¬ f = n := fun e => n1 (e ▸ List.mem_of_getElem? h1)
    have ih := fz_at i n2 h1 h2
    unfold fz at ih ⊢
    rw [List.zip_cons_cons, List.lookup_cons, beq_eq_false_iff_ne.mpr ne]
    exact ih
  | _, [], _, _, h1, _ => by simp at h1
  | _, _ :: _, [], _, _, h2 => by simp at h2
theorem fz_no {f : Str} : ∀ {names : List Str} {vals : List V}, f ∉ names → (fz names vals).lookup f = none
  | [], _, _ => by simp [fz]
  | _ :: _, [], _ => by simp [fz]
  | n :: ns, w :: ws, h => by
    have ne : ¬ f = n := fun e => h (by rw [e]; exact List.mem_cons_self)
    have ih := fz_no (f := f) (names := ns) (vals := ws) fun m => h (List.mem_cons_of_mem _ m)
    unfold fz at ih ⊢
    rw [List.zip_cons_cons, List.lookup_cons, beq_eq_false_iff_ne.mpr ne]
    exact ih
theorem fz_put {f : Str} {v : V} : ∀ (i : Nat) {names : List Str} {vals : List V}, names.Nodup → names[i]? = some f → i < vals.length → putF f v (fz names vals) = fz names (vals.set i v)
  | 0, n :: ns, w :: ws, _, h1, _ => by
    simp only [List.getElem?_cons_zero, Option.some.injEq] at h1
    subst h1
    unfold fz
    rw [List.zip_cons_cons, putF, if_pos rfl]
    rfl
  | i + 1, n :: ns, w :: ws, nd, h1, h2 => by
    rw [List.getElem?_cons_succ] at h1
    obtain ⟨n1, n2⟩ := List.nodup_cons.mp nd
    have ne : ¬ n = f := fun e => n1 (e.symm ▸ List.mem_of_getElem? h1)
    have ih := fz_put (v := v) i (vals := ws) n2 h1 (by simpa using h2)
    unfold fz at ih ⊢
    rw [List.zip_cons_cons, putF, if_neg ne, ih]
    rfl
  | _, [], _, _, h1, _ => by simp at h1
  | _, _ :: _, [], _, _, h2 => by simp at h2
theorem fz_new {f : Str} {v : V} : ∀ {names : List Str} {vals : List V}, f ∉ names → names.length = vals.length → putF f v (fz names vals) = fz (names ++ [f]) (vals ++ [v])
  | [], [], _, _ => rfl
  | [], _ :: _, _, h => by simp at h
  | _ :: _, [], _, h => by simp at h
  | n :: ns, w :: ws, h, hl => by
    have ne : ¬ n = f := fun e => h (by rw [e]; exact List.mem_cons_self)
    have ih := fz_new (f := f) (v := v) (names := ns) (vals := ws) (fun m => h (List.mem_cons_of_mem _ m)) (by simpa using hl)
    unfold fz at ih ⊢
    rw [List.zip_cons_cons, putF, if_neg ne, ih]
    rfl
theorem fz_len {names : List Str} {vals : List V} : (fz names vals).length ≤ names.length := by
  unfold fz
  rw [List.length_zip]
  exact Nat.min_le_left _ _
theorem fz_nil : ([] : List (Str × V)) = fz [] [] := rfl
theorem dz_at {f : Str} {v : V} : ∀ (i : Nat) {names : List Str} {vals : List V}, names.Nodup → names[i]? = some f → vals[i]? = some v → valV (dz names vals) (Sum.inr f) = some v
  | 0, n :: ns, w :: ws, _, h1, h2 => by
    simp only [List.getElem?_cons_zero, Option.some.injEq] at h1 h2
    subst h1 h2
    exact valV_pos (p := (Sum.inr n, w)) rfl
  | i + 1, n :: ns, w :: ws, nd, h1, h2 => by
    rw [List.getElem?_cons_succ] at h1 h2
    obtain ⟨n1, n2⟩ := List.nodup_cons.mp nd
    have ne : ¬ (Sum.inr n : Key) = Sum.inr f := fun e => n1 ((Sum.inr.inj e).symm ▸ List.mem_of_getElem? h1)
    have ih := dz_at i n2 h1 h2
    show valV ((Sum.inr n, w) :: dz ns ws) (Sum.inr f) = some v
    rw [valV_neg ne]
    exact ih
  | _, [], _, _, h1, _ => by simp at h1
  | _, _ :: _, [], _, _, h2 => by simp at h2
theorem dz_put {f : Str} {v : V} (i : Nat) {names : List Str} {vals : List V} (nd : names.Nodup) (h1 : names[i]? = some f) (h2 : i < vals.length) : putK (dz names vals) (Sum.inr f) v = dz names (vals.set i v) := by
  have e1 : vals[i]? = some vals[i] := List.getElem?_eq_getElem h2
  have hs : valV (dz names vals) (Sum.inr f) = some vals[i] := dz_at i nd h1 e1
  unfold putK
  rw [valV_any, hs]
  rw [if_pos (by rfl)]
  clear hs e1
  induction names generalizing vals i with
  | nil => simp at h1
  | cons n ns ih =>
    cases vals with
    | nil => simp at h2
    | cons w ws =>
      obtain ⟨n1, n2⟩ := List.nodup_cons.mp nd
      cases i with
      | zero =>
        simp only [List.getElem?_cons_zero, Option.some.injEq] at h1
        subst h1
        show (if (Sum.inr n : Key) = Sum.inr n then ((Sum.inr n : Key), v) else (Sum.inr n, w)) :: (dz ns ws).map _ = (Sum.inr n, v) :: dz ns ws
        rw [if_pos rfl]
        congr 1
        have : ∀ kv ∈ dz ns ws, (fun kv : Key × V => if kv.1 = Sum.inr n then (kv.1, v) else kv) kv = id kv := fun kv hk => by
          have m : kv.1 ∈ ns.map (Sum.inr : Str → Key) := (List.of_mem_zip hk).1
          obtain ⟨z, hz, e⟩ := List.mem_map.mp m
          have ne : ¬ kv.1 = Sum.inr n := fun q => n1 (by rw [← e] at q; exact (Sum.inr.inj q) ▸ hz)
          simp [ne]
        rw [List.map_congr_left this, List.map_id]
      | succ i =>
        rw [List.getElem?_cons_succ] at h1
        have ne : ¬ (Sum.inr n : Key) = Sum.inr f := fun e => n1 ((Sum.inr.inj e).symm ▸ List.mem_of_getElem? h1)
        show (if (Sum.inr n : Key) = Sum.inr f then ((Sum.inr n : Key), v) else (Sum.inr n, w)) :: (dz ns ws).map _ = (Sum.inr n, w) :: dz ns (ws.set i v)
        rw [if_neg ne, ih i n2 h1 (by simpa using h2)]
theorem mergeK_nd : ∀ (more kvs : List (Key × V)), ((kvs ++ more).map (·.1)).Nodup → mergeK kvs more = kvs ++ more
  | [], kvs, _ => by rw [List.append_nil]; rfl
  | p :: r, kvs, h => by
    have hp : valV kvs p.1 = none := by
      cases e : valV kvs p.1 with
      | none => rfl
      | some v =>
        have m := valV_in e
        rw [List.map_append, List.map_cons] at h
        have := (List.nodup_append.mp h).2.2 _ m _ List.mem_cons_self
        exact absurd rfl this
    have e : mergeK kvs (p :: r) = mergeK (putK kvs p.1 p.2) r := rfl
    rw [e, putK_new _ hp, mergeK_nd r (kvs ++ [(p.1, p.2)]) (by rw [List.append_assoc]; exact h), List.append_assoc]
    rfl
end Sd


namespace Sd
open PySem L2
/-- a word that the walk does not open -/
inductive Hold (p : Prop) : Prop where
  | mk (h : p)
  | mk' (h : p)
theorem Hold.out {p : Prop} (h : Hold p) : p := by cases h <;> assumption

section
variable {K : PySem.W.Frag} {H H1 : Hp} {L : Lg} {a b l p q : Addr} {o : HO} {P : V → Prop} {f : Str} {C dx : Addr} {fs : List (Str × V)} {v y : V} {xs ys : List V} {kvs : List (Key × V)} {names : List Str} {vals : List V}
theorem k_fld {P : Addr → Addr → V → Prop} (hL : Led H L) (e : At L a (.ins C dx fs)) (c : Cls K C) (n : NoAttr K C f) (lk : fs.lookup f = some v) (q : P a C v) :
    ∃ a' C' dx' fs' v', V.ref a = .ref a' ∧ H a' = some (.ins C' dx' fs') ∧ Cls K C' ∧ NoAttr K C' f ∧ fs'.lookup f = some v' ∧ P a' C' v' := ⟨_, _, _, _, _, rfl, hL.at e, c, n, lk, q⟩
/-- the ledger behind a change at a -/
def Upd (L : Lg) (a : Addr) (o o' : HO) (L' : Lg) : Prop := ∃ i : Nat, L[i]? = some (a, o) ∧ L' = L.set i (a, o')
theorem Upd.at {o' : HO} {L' : Lg} (u : Upd L a o o' L') : At L a o := let ⟨i, e, _⟩ := u; ⟨i, e⟩
theorem Led.upU {o' : HO} {L' : Lg} (hL : Led H L) (u : Upd L a o o' L') (hH : L2.upd H a o' = H1) : Led H1 L' := by
  obtain ⟨i, e, rfl⟩ := u
  rw [← hH]; exact hL.set i e
theorem Led.upF {fs' : List (Str × V)} {L' : Lg} (hL : Led H L) (u : Upd L a (.ins C dx fs) (.ins C dx fs') L') (e : putF f v fs = fs') (hH : L2.upd H a (.ins C dx (putF f v fs)) = H1) : Led H1 L' := by
  rw [e] at hH; exact hL.upU u hH
theorem Led.newH (hL : Led H L) (hp : H p = none) (hH : L2.upd H p o = H1) : Led H1 ((p, o) :: L) := by
  rw [← hH]; exact hL.new hp
theorem Led.made {x : Addr} (hL : Led H L) (hx : H x = none) (hd : H dx = none) (ne : dx ≠ x) (hH : L2.upd (L2.upd H dx (.own x)) x (.ins C dx []) = H1) : Led H1 ((x, .ins C dx (fz [] [])) :: L) := by
  rw [← hH]; exact (hL.skip hd).new (by rw [upd_ne ne.symm]; exact hx)
theorem Led.last {A R : Lg} {x : Addr × HO} (h : Led H (x :: (A ++ R))) : Led H ((A ++ [x]) ++ R) := by
  refine h.perm ?_
  rw [List.append_assoc]
  exact List.perm_middle.symm
/-- o.m(..): the object -/
theorem k_meth {P : Prop} (hL : Led H L) (e : At L a (.ins C dx fs)) (lk : fs.lookup f = none) (q : P) :
    ∃ a' dx' fs', V.ref a = .ref a' ∧ H a' = some (.ins C dx' fs') ∧ fs'.lookup f = none ∧ P := ⟨_, _, _, rfl, hL.at e, lk, q⟩
theorem k_dgetS {P : Addr → V → Prop} {x : Str} (hL : Led H L) (e : At L a (.dK kvs)) (lk : valV kvs (.inr x) = some v) (q : P a v) : ∃ a' v', V.ref a = .ref a' ∧ DGet H a' (.str x) (some v') ∧ P a' v' :=
  ⟨_, _, rfl, lk ▸ (DGet.k (k := .inr x) (hL.at e)), q⟩
theorem k_dgetI {P : Addr → V → Prop} {n : Int} (hL : Led H L) (e : At L a (.dK kvs)) (lk : valV kvs (.inl n) = some v) (q : P a v) : ∃ a' v', V.ref a = .ref a' ∧ DGet H a' (.int n) (some v') ∧ P a' v' :=
  ⟨_, _, rfl, lk ▸ (DGet.k (k := .inl n) (hL.at e)), q⟩
theorem k_dinS {P : Option V → Prop} {x : Str} (hL : Led H L) (e : At L a (.dK kvs)) (q : P (valV kvs (.inr x))) : ∃ a' o', V.ref a = .ref a' ∧ DGet H a' (.str x) o' ∧ P o' :=
  ⟨_, _, rfl, DGet.k (k := .inr x) (hL.at e), q⟩
theorem k_dinI {P : Option V → Prop} {n : Int} (hL : Led H L) (e : At L a (.dK kvs)) (q : P (valV kvs (.inl n))) : ∃ a' o', V.ref a = .ref a' ∧ DGet H a' (.int n) o' ∧ P o' :=
  ⟨_, _, rfl, DGet.k (k := .inl n) (hL.at e), q⟩
/-- d.get(k): the dict, then the answer -/
theorem k_isd {P : Prop} (hL : Led H L) (e : At L a (.dK kvs)) (q : P) : IsD H a ∧ P := ⟨.inl ⟨_, .inl (hL.at e)⟩, q⟩
theorem k_lenL' {P : Prop} (hL : Led H L) (e : At L l (.lst xs)) (q : P) : (SqL K H l xs ∨ SqT K H l xs) ∧ P := ⟨.inl (.of (hL.at e)), q⟩
theorem k_getI {P : Option V → Prop} {n : Int} (hL : Led H L) (e : At L a (.dK kvs)) (q : P (valV kvs (.inl n))) : ∃ o', DGet H a (.int n) o' ∧ P o' := ⟨_, DGet.k (k := .inl n) (hL.at e), q⟩
theorem k_getS {P : Option V → Prop} {x : Str} (hL : Led H L) (e : At L a (.dK kvs)) (q : P (valV kvs (.inr x))) : ∃ o', DGet H a (.str x) o' ∧ P o' := ⟨_, DGet.k (k := .inr x) (hL.at e), q⟩
theorem k_popI {P : List (Key × V) → Key → V → Prop} {n : Int} (hL : Led H L) (e : At L a (.dK kvs)) (lk : valV kvs (.inl n) = some v) (q : P kvs (.inl n) v) :
    ∃ kvs' k' v', H a = some (.dK kvs') ∧ V.int n = kV k' ∧ valV kvs' k' = some v' ∧ P kvs' k' v' := ⟨_, .inl n, _, hL.at e, rfl, lk, q⟩
theorem k_listD {P : List (Key × V) → Prop} (hL : Led H L) (e : At L a (.dK kvs)) (q : P kvs) : ∃ p kvs', [V.ref a] = [.ref p] ∧ H p = some (.dK kvs') ∧ P kvs' := ⟨_, _, rfl, hL.at e, q⟩
theorem Led.front {A B : Lg} {x : Addr × HO} (h : Led H (A ++ x :: B)) : Led H (x :: (A ++ B)) := h.perm List.perm_middle
theorem Led.back {A B : Lg} {x : Addr × HO} (h : Led H (x :: (A ++ B))) : Led H (A ++ x :: B) := h.perm List.perm_middle.symm
theorem k_dputS {P : Hp → Prop} {x : Str} {kvs' : List (Key × V)} {L' : Lg} (hL : Led H L) (e : At L a (.dK kvs)) (hz : kvs.length < sizeLine) (ep : putK kvs (.inr x) v = kvs') (u : Upd L a (.dK kvs) (.dK kvs') L')
    (q : ∀ H1, Led H1 L' → P H1) : ∃ a' H4, V.ref a = .ref a' ∧ DPut H a' (.str x) v H4 ∧ P H4 :=
  ⟨_, _, rfl, DPut.k (k := .inr x) (hL.at e) hz, q _ (hL.upU (ep ▸ u) rfl)⟩
theorem k_dputI {P : Hp → Prop} {n : Int} {kvs' : List (Key × V)} {L' : Lg} (hL : Led H L) (e : At L a (.dK kvs)) (hz : kvs.length < sizeLine) (ep : putK kvs (.inl n) v = kvs') (u : Upd L a (.dK kvs) (.dK kvs') L')
    (q : ∀ H1, Led H1 L' → P H1) : ∃ a' H4, V.ref a = .ref a' ∧ DPut H a' (.int n) v H4 ∧ P H4 :=
  ⟨_, _, rfl, DPut.k (k := .inl n) (hL.at e) hz, q _ (hL.upU (ep ▸ u) rfl)⟩
theorem dz_len : (dz names vals).length ≤ names.length := by unfold dz; rw [List.length_zip, List.length_map]; exact Nat.min_le_left _ _
theorem k_ixL {n : Int} (hL : Led H L) (e : At L l (.lst xs)) (lk : atI xs n = some v) (q : P v) : ∃ p xs' i v', V.ref l = .ref p ∧ V.int n = .int i ∧ SqL K H p xs' ∧ atI xs' i = some v' ∧ P v' :=
  ⟨_, _, _, _, rfl, rfl, .of (hL.at e), lk, q⟩
theorem k_ixT {n : Int} (hL : Led H L) (e : At L l (.tup xs)) (lk : atI xs n = some v) (q : P v) : ∃ p xs' i v', V.ref l = .ref p ∧ V.int n = .int i ∧ SqT K H p xs' ∧ atI xs' i = some v' ∧ P v' :=
  ⟨_, _, _, _, rfl, rfl, .of (hL.at e), lk, q⟩
theorem k_tyL {P : Prop} (hL : Led H L) (e : At L l (.lst xs)) (q : P) : tyV K "list" (.ref l) H ∧ P := ⟨.inl ⟨rfl, _, .of (hL.at e)⟩, q⟩
theorem k_lenL {P : Nat → Prop} (hL : Led H L) (e : At L l (.lst xs)) (q : P xs.length) : ∃ p ys, [V.ref l] = [.ref p] ∧ (SqL K H p ys ∨ SqT K H p ys) ∧ P ys.length := ⟨_, _, rfl, .inl (.of (hL.at e)), q⟩
theorem k_lenT {P : Nat → Prop} (hL : Led H L) (e : At L l (.tup xs)) (q : P xs.length) : ∃ p ys, [V.ref l] = [.ref p] ∧ (SqL K H p ys ∨ SqT K H p ys) ∧ P ys.length := ⟨_, _, rfl, .inr (.of (hL.at e)), q⟩
theorem k_gtup {P : List V → Prop} {n : Nat} (hL : Led H L) (e : At L a (.tup xs)) (hn : xs.length = n) (q : P xs) : ∃ a' xs', V.ref a = .ref a' ∧ SqT K H a' xs' ∧ xs'.length = n ∧ P xs' := ⟨_, _, rfl, .of (hL.at e), hn, q⟩
theorem k_cat {Q : VK} (hL : Led H L) (e1 : At L l (.lst xs)) (e2 : At L b (.lst ys)) (hz : xs.length + ys.length ≤ sizeLine) (q : ∀ p, H p = none → Q (.ref p) (L2.upd H p (.lst (xs ++ ys)))) : rCat (.ref l) (.ref b) H Q :=
  ⟨_, _, _, _, rfl, rfl, hL.at e1, hL.at e2, hz, q⟩
theorem k_yes {σ : L2.St} {A B : Hp → Prop} (h : A H) : tYes σ H fun b H3 => if b = true then A H3 else B H3 := by
  show (if true = true then A H else B H)
  rw [if_pos rfl]
  exact h
theorem ite_d {c A B : Prop} [Decidable c] (a : c → A) (b : ¬ c → B) : if decide c = true then A else B := by
  by_cases h : c
  · rw [if_pos (decide_eq_true h)]; exact a h
  · rw [if_neg (by rw [decide_eq_false h]; decide)]; exact b h
theorem ite_n {c A B : Prop} [Decidable c] (a : ¬ c → A) (b : c → B) : if (!decide c) = true then A else B := by
  by_cases h : c
  · rw [decide_eq_true h]; exact b h
  · rw [decide_eq_false h]; exact a h
theorem ite_b {b : Bool} {A B : Prop} (h1 : b = true → A) (h2 : b = false → B) : if b = true then A else B := by
  cases b with
  | true => exact h1 rfl
  | false => exact h2 rfl
theorem ite_t {b : Bool} {A B : Prop} (e : b = true) (h : A) : if b = true then A else B := by rw [if_pos e]; exact h
theorem ite_f {b : Bool} {A B : Prop} (e : b = false) (h : B) : if b = true then A else B := by rw [e]; exact h
end
end Sd


/-! A lambda without parameters as a value: made, kept, called by another def; what told makes of it. -/
namespace Sd
open PySem PySem.Spec PyProof.Rows L2 LamX NdefX
/-- the object at f is the lambda whose words F tells, its body b -/
def LamO (f : Addr) (F : NF) (b : Expr) : HO := .ext fun h => ∃ pm ctv : Value, h.get? f = some (PySem.W.kla_obj F.name F.qual F.params b F.scope F.cl pm F.c ctv)
theorem lamO_at {P : Program} {w : World} {H : Hp} {h : Heap} {f : Addr} {F : NF} {b : Expr} (hok : HOk P w H h) (e : H f = some (LamO f F b)) : ∃ pm ctv : Value, h.get? f = some (PySem.W.kla_obj F.name F.qual F.params b F.scope F.cl pm F.c ctv) :=
  (hok f _ e).1
section
variable {X : Cx} {pins : List (Addr × Obj)} {σ : L2.St} {H : Hp} {s : Shared}
theorem inv_lam {F : NF} {b : Expr} {t' : Nat} {pm ctv : Value} (I : Inv X pins σ H s) :
    Inv X pins σ (upd H s.heap.objs.size (LamO s.heap.objs.size F b)) { s with heap := s.heap.push (PySem.W.kla_obj F.name F.qual F.params b F.scope F.cl pm F.c ctv), toks := t' } := by
  have e : (s.heap.push (PySem.W.kla_obj F.name F.qual F.params b F.scope F.cl pm F.c ctv)).get? s.heap.objs.size = some (PySem.W.kla_obj F.name F.qual F.params b F.scope F.cl pm F.c ctv) := Heap.get?_push_size _ rfl
  exact I.laid (fun b u e => Heap.get?_push_of_some _ e) (Nat.le_refl _) ⟨⟨pm, ctv, e⟩, ⟨_, e⟩, fun h1 h2 ⟨p, t, z⟩ st => ⟨p, t, st _ z⟩⟩
theorem lam_value {q : Str} {c P : Addr} {params : Arguments} {body : Expr} {scope : Scope} {pos : Pos} {E : Value → Shared → Prop} {Q : Value → Shared → Prop} (I : Inv X pins σ H s) (TB : TabB X.base X.mg c P) (hcode : X.env.code = .ref c) (hq : X.env.qual ++ "<lambda>" = q)
    (hT : TabS H P q) (hdef : defaultsOf params X.env = ([], [])) (hfree : ∀ y ∈ scope.names, y.2 = .free → ∃ c, X.env.cells.lookup y.1 = some c)
    (h : ∀ (f c' : Addr) (H1 : Hp) (s' : Shared), Inv X pins σ H1 s' → ExtN H H1 → TabS H1 P q → H f = none → H1 f = some (LamO f ⟨"<lambda>", q, params, [], scope, cloFrom X.env.cells scope.names [], c'⟩ body) → H1 c' = some (CodeO c' q) → Q (.ref f) s') :
    wpAny (model X.prog X.w) X.A (eval (.Lambda params body scope pos) X.env) Q E s := by
  subst hq
  obtain ⟨ps, hP, ht, ha⟩ := hT
  have bP : s.heap.BuiltinsAt X.mg P := TB.bm.keeps I.bk
  have hP' : s.heap.get? P = some { cls := .none, data := .fields ps } := I.hok P _ hP
  refine PySem.W.kla_eval hdef ?_
  rcases hc : codeAmong pos ps.toList with _ | cv
  · refine PySem.W.kla_makeFunction (mg := X.mg) (c := c) (P := P) (ps := ps) (closure_ok hfree) I.ok.glob (I.mod.glob.keeps I.bk) hcode (TB.code.keeps I.bk) hP' ht hc TB.gP bP fun c' ctv h' tk hx hge hlt hrec htb => ?_
    obtain ⟨_, oc, vs, t, e2, hoc, hd, hv⟩ := hrec
    cases e2
    have nC : H c' = none := I.hok.fresh hge
    have I1 := inv_table (t' := tk) (more := #[rawInt pos.line, rawInt pos.col, .ref c']) (h' := h') I hP (fun b o hb e => hx b o hb e) htb hge ⟨oc, vs, t, hoc, hd, hv⟩
    have eN : ExtN H (upd (upd H P (.tbl (ps ++ #[rawInt pos.line, rawInt pos.col, .ref c']))) c' (CodeO c' (X.env.qual ++ "<lambda>"))) := fun b o e n => by
      rw [upd_ne (ne_of_none e nC), upd_ne (fun z => n ps (Option.some.inj (e.symm.trans (by rw [z]; exact hP))))]
      exact e
    have nF := I1.hok.fresh (Nat.le_refl _)
    have I2 := inv_lam (F := ⟨"<lambda>", X.env.qual ++ "<lambda>", params, [], scope, cloFrom X.env.cells scope.names [], c'⟩) (b := body) (t' := tk) (pm := (X.mg "__name__").getD .none) (ctv := ctv) I1
    have T1 : TabS (upd (upd H P (.tbl (ps ++ #[rawInt pos.line, rawInt pos.col, .ref c']))) c' (CodeO c' (X.env.qual ++ "<lambda>"))) P (X.env.qual ++ "<lambda>") := by
      have eL : (ps ++ #[rawInt pos.line, rawInt pos.col, .ref c']).toList = ps.toList ++ [rawInt pos.line, rawInt pos.col, .ref c'] := by simp
      refine ⟨_, by rw [upd_ne (ne_of_none hP nC), upd_same], by rw [eL]; exact PySem.TriplesOk_snoc _ _ _ _ ht, fun p' cv hcv => ?_⟩
      rw [eL] at hcv
      rcases among_app _ ht hcv with z | z
      · obtain ⟨c0, e1, e2⟩ := ha p' cv z
        exact ⟨c0, e1, eN _ _ e2 codeO_ne⟩
      · exact ⟨c', z, upd_same⟩
    refine h h'.objs.size c' _ _ I2 (fun b o e n => ?_) (T1.ext fun b o e => ?_) (I.hok.fresh (Nat.le_trans hge (Nat.le_of_lt hlt))) upd_same ?_
    · have e1 := eN b o e n
      exact (upd_ne (ne_of_none e1 nF)).trans e1
    · exact (upd_ne (ne_of_none e nF)).trans e
    · exact (upd_ne (Nat.ne_of_lt hlt)).trans upd_same
  · obtain ⟨c', e, hco⟩ := ha pos cv hc
    subst e
    refine PySem.W.kla_makeFunctionHit (mg := X.mg) (c := c) (P := P) (ps := ps) (closure_ok hfree) I.ok.glob (I.mod.glob.keeps I.bk) hcode (TB.code.keeps I.bk) hP' ht hc bP fun ctv h' tk hx hsz => ?_
    have I1 : Inv X pins σ H { s with heap := h', toks := tk } := I.kept hx
    have nF : H h'.objs.size = none := I1.hok.fresh (Nat.le_refl _)
    have I2 := inv_lam (F := ⟨"<lambda>", X.env.qual ++ "<lambda>", params, [], scope, cloFrom X.env.cells scope.names [], c'⟩) (b := body) (t' := tk) (pm := (X.mg "__name__").getD .none) (ctv := ctv) I1
    refine h h'.objs.size c' _ _ I2 (fun b o e n => ?_) (TabS.ext ⟨ps, hP, ht, ha⟩ fun b o e => ?_) nF upd_same ?_
    · exact (upd_ne (ne_of_none e nF)).trans e
    · exact (upd_ne (ne_of_none e nF)).trans e
    · exact (upd_ne (ne_of_none hco nF)).trans hco
end
/-- lambda: body; the names that it captures: none -/
def tLamV (P : Addr) (q : Str) (params : Arguments) (body : Expr) (scope : Scope) : TE := fun _ H Q => TabS H P q ∧ ∀ (f c' : Addr) (H1 : Hp), ExtN H H1 → TabS H1 P q → H f = none → H1 f = some (LamO f ⟨"<lambda>", q, params, [], scope, [], c'⟩ body) → H1 c' = some (CodeO c' q) → Q (.ref f) H1
theorem clo_nil {cells : List (Str × Addr)} : ∀ {names : List (Str × NameKind)}, (∀ y ∈ names, y.2 ≠ .free) → cloFrom cells names [] = []
  | [], _ => rfl
  | (x, k) :: r, h => by
    have ih := clo_nil (cells := cells) (names := r) fun y hy => h y (List.mem_cons_of_mem _ hy)
    have hk := h (x, k) List.mem_cons_self
    cases k <;> first | exact absurd rfl hk | (simp only [cloFrom]; first | exact ih | (rw [ih]) | simpa using ih)
theorem pe_lamv {X : Cx} {q : Str} {c P : Addr} {params : Arguments} {body : Expr} {scope : Scope} {pos : Pos} (TB : TabB X.base X.mg c P) (hcode : X.env.code = .ref c) (hq : X.env.qual ++ "<lambda>" = q) (hdef : defaultsOf params X.env = ([], []))
    (hfree : ∀ y ∈ scope.names, y.2 ≠ .free) : PE X (.Lambda params body scope pos) (tLamV P q params body scope) := by
  refine ⟨fun pins s σ H Q I h => ?_⟩
  obtain ⟨hT, h⟩ := h
  refine lam_value I TB hcode hq hT hdef (fun y hy e => absurd e (hfree y hy)) fun f c' H1 s' I1 eN T1 f0 f1 c1 => ?_
  rw [clo_nil hfree] at f1
  exact ⟨.ref f, H1, I1, rfl, h f c' H1 eN T1 f0 f1 c1⟩
/-! ### what it promises -/
structure LOk (P : Program) (w : World) (K : PySem.W.Frag) (mg : Str → Option Value) (base : Heap) (k : Nat) (f : Addr) (F : NF) (b : Expr) (tl : Hp → VK → XK → Prop) : Prop where
  run : ∀ (A : Around) (outer : List Env) (s : Shared) (H : Hp) (Q : VK) (E : XK), Room k A → Env0 P w K mg base A outer s H → H f = some (LamO f F b) → H F.c = some (CodeO F.c F.qual) → tl H Q E →
    codeAny (model P w) A (.call (.ref f) ⟨[], []⟩) (CR (L2.CX P w) outer P w H s Q E) s
section
variable {P : Program} {w : World} {K : PySem.W.Frag} {mg : Str → Option Value} {base : Heap} {F : NF} {f : Addr} {b : Expr} {k j : Nat} {tl : Hp → VK → XK → Prop}
theorem lok_of (S : NScope [] [] [] F.scope) (hcl : F.cl = []) (hb : ∀ pm cv ctv : Value, bindArgs (PySem.W.kla_fn F.name F.qual F.params b F.scope F.cl pm cv ctv) ⟨[], []⟩ = pure [])
    (hbody : ∀ (A : Around) (outer : List Env) (s : Shared) (H : Hp) (Q : VK) (E : XK), Room k (A.deeper (envF F f s.heap.objs.size)) → tl H Q E → ∃ t : TE, PE (ncx (L2.CX P w) P w K mg base [] F f A outer s H E) b t ∧ t [] H Q) :
    LOk P w K mg base (k + 1) f F b tl := by
  refine ⟨fun A outer s H Q E hr e0 hf hc h => ?_⟩
  have lim : s.heap.NoLimit := e0.mod.nolimit.keeps fun b o e => (e0.bs b o e).1
  obtain ⟨pm, ctv, ho⟩ := lamO_at e0.hok hf
  refine PySem.W.kla_callFunE hr.depth ho rfl S.co S.gen rfl (codeO_at e0.hok hc) ?_
  rw [hb]
  refine wpAny_pure (wpAny_newFunctionEnv S.nocell (fun y hy => absurd hy (by simp)) (fun h₁ hns hsb => ⟨lim.fresh _ hsb, ?_⟩) S.kind)
  show codeAny _ _ (.expr b (envF F f s.heap.objs.size)) _ _
  have kp : ∀ b o, s.heap.get? b = some o → h₁.get? b = some o := fun b o e => hsb.extBut b o (Nat.ne_of_lt (Heap.lt_size e)) (Heap.get?_push_of_some _ e)
  obtain ⟨t, ht, hq⟩ := hbody A outer s H Q E (hr.deeper _) h
  have C : CellsAt F.cl [] [] s.heap H := by
    rw [hcl]
    exact ⟨rfl, (fun y c e => by cases e), (fun x y c e => by cases e), (fun i y e => by simp at e)⟩
  have I : Inv (ncx (L2.CX P w) P w K mg base [] F f A outer s H E) [] (startF [] [] []) H { s with heap := h₁, toks := s.toks + ([] : List (Str × Value)).length } :=
    inv_startN (N := []) (ps := []) (fr := []) (vs := []) (us := []) (ws := []) S hr.hd e0 rfl .nil C hns kp
  refine PySem.W.kla_codeExpr (wpAny_mono (ht.run [] _ [] H Q I hq) (fun v s' hq => ?_) fun e s' hq => hq)
  obtain ⟨w', H', J', rv, q⟩ := hq
  exact ⟨w', H', J'.os, J'.bare, J'.base, J'.hok, rv, q⟩
end
/-- x(), x a name that holds a lambda -/
def tLamC (P : Program) (w : World) (K : PySem.W.Frag) (mg : Str → Option Value) (base : Heap) (k i : Nat) (W : WX) : TE := fun σ H Q => ∃ (f : Addr) (F : NF) (b : Expr) (tl : Hp → VK → XK → Prop) (E : XK), (∀ cls d σ' H', E cls d H' → W cls d σ' H') ∧
  σ[i]? = some (some (.ref f)) ∧ H f = some (LamO f F b) ∧ H F.c = some (CodeO F.c F.qual) ∧ LOk P w K mg base k f F b tl ∧ tl H Q E
theorem pe_lamc {X : Cx} {W : WX} {i k : Nat} {x : Str} {p pos : Pos} (tk : Takes X W) (hr : Room k X.A) (hN : X.N[i]? = some x) (hv : Vis X.env.scope x) (hd : (x == ("__debug__" : Str)) = false := by decide) (hcd : (x == ("__classdict__" : Str)) = false := by decide) :
    PE X (.Call (.Name x p) [] [] pos) (tLamC X.prog X.w X.K X.mg X.base k i W) := by
  refine ⟨fun pins s σ H Q I h => ?_⟩
  obtain ⟨f, F, b, tl, E, hW, hs, hf, hc, L, ht⟩ := h
  refine wpAny_Call_Name_kw (thn ((pe_var (pos := p) hN hv hd hcd).run pins s σ H (fun v H1 => v = .ref f ∧ H1 = H) I ⟨.ref f, hs, rfl, rfl⟩) fun u s1 ⟨v, H1, I1, r1, q1⟩ => ?_)
  obtain ⟨ev, eH⟩ := q1
  subst ev
  rw [eH] at I1
  obtain rfl : u = Value.ref f := r1
  obtain ⟨pm, ctv, ho⟩ := lamO_at I1.hok hf
  refine PySem.W.callWith_F0 (first := []) ⟨_, _, _, _, ho⟩ ?_
  show wpAny _ _ (call (.ref f) []) _ _ _
  refine wpAny_call (codeAny_mono (L.run X.A X.stack s1 H Q E hr I1.env0 hf hc ht) fun r s' hq => ?_)
  cases r with
  | error e => exact passes_call tk hW pins σ H s1 e s' I1 hq
  | ok fl =>
    cases fl with
    | ret u => exact I1.after hq
    | next => exact False.elim hq
    | brk => exact False.elim hq
    | cont => exact False.elim hq
/-- def told(what): try: return what() / except X: return ret -/
def spTold (P : Program) (w : World) (K : PySem.W.Frag) (mg : Str → Option Value) (base : Heap) (k : Nat) (CS : Addr) (ret : Str) : Sp := fun vs H Q _ => ∃ (f : Addr) (F : NF) (b : Expr) (tl : Hp → VK → XK → Prop), vs = [.ref f] ∧
  H f = some (LamO f F b) ∧ H F.c = some (CodeO F.c F.qual) ∧ LOk P w K mg base k f F b tl ∧ tl H Q (fun cls _ H' => ∃ b, PySem.W.exmOne K cls (.ref CS) = some b ∧ (b = true → Q (.str ret) H') ∧ (b = false → False))
theorem ps_told {P : Program} {w : World} {K : PySem.W.Frag} {mg : Str → Option Value} {base : Heap} {N : List Str} {q : Str} {sc : Scope} {g : Addr} {cdv : Value} {A : Around} {outer : List Env} {s : Shared} {H : Hp} {E : XK} {ret e a : Str} {CS : Addr} {k j : Nat} {p1 p2 p3 p4 p5 p6 p7 p8 : Pos} {Q : VK} {vs : List V}
    (hge : sc.names.lookup e = some .globalImplicit) (hme : mg e = some (.ref CS)) (hN : N[0]? = some a) (hv : Vis sc a) (h0 : ∀ f : Addr, (L2.start N [V.ref f])[0]? = some (some (V.ref f))) (hr : Room k (A.deeper (envOfC q sc s.heap.objs.size g cdv)))
    (h : spTold P w K mg base k CS ret vs H Q E) (hde : (e == ("__debug__" : Str)) = false := by decide) (hd : (a == ("__debug__" : Str)) = false := by decide) (hcd : (a == ("__classdict__" : Str)) = false := by decide) :
    ∃ t, PSs (cxOf C8.CX0 P w K mg base N q sc g cdv A outer s H E).nox [.Try [.Return (some (.Call (.Name a p1) [] [] p2)) p3] [.ExceptHandler (some (.Name e p4)) none [.Return (some (.Constant (.str ret) j p5)) p6] p7] [] [] p8] t ∧
      t { nx := fun _ H' => Q .non H', rt := Q } (L2.start N vs) H := by
  obtain ⟨f, F, b, tl, rfl, hf, hc, L, ht⟩ := h
  have hgl : Gl (cxOf C8.CX0 P w K mg base N q sc g cdv A outer s H E).nox e := hge
  refine ⟨_, pss_one (ps_try_only (c := .ref CS) (tb := fun W D σ H => tLamC P w K mg base k 0 W σ H D.rt) rfl rfl ⟨hgl, hde, .inl hme⟩ L2.takes0 (fun W pn xe tk _ => pss_one (ps_ret (pe_lamc tk hr hN hv hd hcd))) (fun a oe cls d pn _ _ => pss_one (ps_ret pe_str))), ?_⟩
  refine ⟨f, F, b, tl, _, fun cls d σ' H' q => ?_, h0 f, hf, hc, L, ht⟩
  obtain ⟨b, e1, e2, e3⟩ := q
  exact ⟨b, e1, fun hb a _ => e2 hb, fun hb => e3 hb⟩
/-! ### defs that may raise -/
structure MakX (P : Program) (w : World) (K : PySem.W.Frag) (mg : Str → Option Value) (base : Heap) (k : Nat) (x : Str) (C : Addr) (sp : Sp) (dvs : List V) : Prop where
  ex : ∃ (f : Addr) (fd : FuncData) (ps : List Str) (ds : List Value), Mk K C f ∧ FnOk P w K mg base (L2.CX P w) k f fd ps sp ∧ mg x = some (.ref C) ∧ Binds K fd ps ds ∧ Vals dvs ds
structure MetX (P : Program) (w : World) (K : PySem.W.Frag) (mg : Str → Option Value) (base : Heap) (k : Nat) (C : Addr) (m : Str) (sp : Sp) (dvs : List V) : Prop where
  ex : ∃ (f : Addr) (fd : FuncData) (ps : List Str) (ds : List Value), Cls K C ∧ Meth K C m f ∧ FnOk P w K mg base (L2.CX P w) k f fd ps sp ∧ Binds K fd ps ds ∧ Vals dvs ds
structure CalX (P : Program) (w : World) (K : PySem.W.Frag) (mg : Str → Option Value) (base : Heap) (k : Nat) (x : Str) (sp : Sp) (dvs : List V) : Prop where
  ex : ∃ (f : Addr) (fd : FuncData) (ps : List Str) (ds : List Value), FnOk P w K mg base (L2.CX P w) k f fd ps sp ∧ mg x = some (.ref f) ∧ PySem.W.keepIn K (.ref f) = true ∧ Binds K fd ps ds ∧ Vals dvs ds
section
variable {X : Cx} {k j : Nat} {C : Addr} {x m : Str} {sp : Sp} {dvs : List V} {p pos apos : Pos} {e o : Expr} {es : List Expr} {ta : TE} {t : TA} {E : XK}
theorem pe_cX (c : CalX X.prog X.w X.K X.mg X.base k x sp dvs) (hr : Room j X.A) (hk : k ≤ j) (hg : Gl X x) (tk : Takes X (fun cls d _ H => E cls d H)) (ha : PA X (e :: es) t)
    (hdb : (x == ("__debug__" : Str)) = false := by decide) (he : starEach (e :: es) X.env = (false, eval e X.env) :: starEach es X.env := by rfl) (hpl : (backTo pos (starEach es X.env)).any (·.1) = false := by rfl) :
    PE X (.Call (.Name x p) (e :: es) [] pos) (tCall sp dvs E t) := by
  obtain ⟨f, fd, ps, ds, F, hm, kp, b, d⟩ := c.ex
  exact pe_call F (hr.mono hk) hg hm kp b d (passes_call tk fun _ _ _ _ h => h) ha hdb he hpl
theorem pe_mkX (c : MakX X.prog X.w X.K X.mg X.base k x C sp dvs) (hr : Room j X.A) (hk : k + 1 ≤ j) (hg : Gl X x) (tk : Takes X (fun cls d _ H => E cls d H)) (ha : PA X (e :: es) t)
    (hdb : (x == ("__debug__" : Str)) = false := by decide) (he : starEach (e :: es) X.env = (false, eval e X.env) :: starEach es X.env := by rfl) (hpl : (backTo pos (starEach es X.env)).any (·.1) = false := by rfl) :
    PE X (.Call (.Name x p) (e :: es) [] pos) (tMake C sp dvs E t) := by
  obtain ⟨f, fd, ps, ds, M, F, hm, b, d⟩ := c.ex
  exact pe_make M F (hr.mono hk) hg hm b d (passes_call tk fun _ _ _ _ h => h) ha hdb he hpl
theorem pe_mtX {pl : Sem Bool} (c : MetX X.prog X.w X.K X.mg X.base k C m sp dvs) (hr : Room j X.A) (hk : k ≤ j) (tk : Takes X (fun cls d _ H => E cls d H)) (he : PE X o ta) (ha : PA X (e :: es) t)
    (hst : starEach (e :: es) X.env = (false, eval e X.env) :: starEach es X.env := by rfl) (hpl : (backTo pos (starEach es X.env)).any (·.1) = false := by rfl)
    (ht : eval (.Call (.Attribute o m apos) (e :: es) [] pos) X.env = (do
      let ov ← eval o X.env
      standAt apos.atName
      let (f, first) ← holding [ov] (getMethod ov m pl)
      callWith pos f first (backTo pos (starEach (e :: es) X.env)) (backToKw pos (keywordEach [] X.env))) := by rfl) :
    PE X (.Call (.Attribute o m apos) (e :: es) [] pos) (tMeth C m sp dvs E ta t) := by
  obtain ⟨f, fd, ps, ds, hc, hm, F, b, d⟩ := c.ex
  exact pe_meth (pl := pl) he hc hm F (hr.mono hk) b d (passes_call tk fun _ _ _ _ h => h) ha hst hpl ht
end
/-- an own error class below ValueError, without __init__ -/
structure ExcT (K : PySem.W.Frag) (mg : Str → Option Value) (x : Str) (C : Addr) : Prop where
  g : mg x = some (.ref C)
  ex : PySem.W.excIn K C [.type "ValueError", .type "Exception", .type "BaseException", .type "object"] "ValueError.__new__" = true
  kp : PySem.W.keepIn K (.ref C) = true
  sb : PySem.W.subIn K (.ref C) (.type "BaseException") = some true
  ty : PySem.W.typeIn K (.ref C) = some (.type "type")
  ic : PySem.W.isClsIn K C = true
  ss : PySem.W.subIn K (.ref C) (.ref C) = some true
theorem ExcT.em {K : PySem.W.Frag} {mg : Str → Option Value} {x : Str} {C : Addr} (T : ExcT K mg x C) : PySem.W.exmOne K (.ref C) (.ref C) = some true := by
  have ic : (PySem.W.clsIn K C).isSome = true := T.ic
  simp [PySem.W.exmOne, PySem.W.kitCls, T.sb, ic, T.ty, T.ss]
theorem ps_raiseT {X : Cx} {W : WX} {x m : Str} {C : Addr} {j : Nat} {p p2 pos pos2 : Pos} (T : ExcT X.K X.mg x C) (hc : X.calm = true) (tk : Takes X W) (hg : Gl X x) (hdb : (x == ("__debug__" : Str)) = false := by decide) :
    PS X (.Raise (some (.Call (.Name x p) [.Constant (.str m) j p2] [] pos)) none pos2) (fun _ σ H => W (.ref C) none σ H) :=
  ps_raise hc tk (pmk_own PySem.F.excBase_ValueError T.ex T.g T.kp (raises_own T.sb T.ty) hg hdb)
/-- Fun.ok for a def with defaults -/
theorem funD_ok0 {P : Program} {w : World} {K : PySem.W.Frag} {mg : Str → Option Value} {base : Heap} {x qual : Str} {params : Arguments} {body : List Stmt} {scope : Scope} {dvs : List V} {kws : List (Str × V)} {f : Addr} {fd : FuncData}
    {N ps : List Str} {k : Nat} {sp : Sp} (F : FunD K x qual params body scope dvs kws f fd) (S : FnScope N ps scope) (len : ∀ vs H Q E, sp vs H Q E → vs.length = ps.length)
    (hbody : ∀ (cdv : Value) (A : Around) (outer : List Env) (s : Shared) (H : Hp) (vs : List V) (Q : VK) (E : XK), Room k (A.deeper (envOfC qual scope s.heap.objs.size f cdv)) → sp vs H Q E →
      ∃ t, PSs (cxOf L2.CX0 P w K mg base N qual scope f cdv A outer s H E).nox body t ∧ t { nx := fun _ H' => Q .non H', rt := Q } (start N vs) H) : FnOk P w K mg base L2.CX0 (k + 1) f fd ps sp :=
  F.ok S len fun cdv A outer s H vs Q E hr hsp => let ⟨t, h, q⟩ := hbody cdv A outer s H vs Q E hr hsp; ⟨t, h.nox, q⟩
end Sd


/-! == and != of data without dicts: what the law compares. -/
namespace Sd
open PySem PySem.Spec PyProof.Rows L2
mutual
theorem eqv_self : ∀ d : PyData, d.plain = true → PyData.eqv d d = true
  | .none, _ => rfl
  | .bool b, _ => by simp [PyData.eqv]
  | .int i, _ => by simp [PyData.eqv]
  | .str x, _ => by simp [PyData.eqv]
  | .list xs, h => by
    simp only [PyData.eqv]
    exact eqv_selfAll xs (by simpa [PyData.plain] using h)
  | .tuple xs, h => by
    simp only [PyData.eqv]
    exact eqv_selfAll xs (by simpa [PyData.plain] using h)
  | .dict _, h => by simp [PyData.plain] at h
theorem eqv_selfAll : ∀ xs : List PyData, PyData.plainAll xs = true → PyData.eqvAll xs xs = true
  | [], _ => by simp [PyData.eqvAll]
  | x :: xs, h => by
    simp only [PyData.plainAll, Bool.and_eq_true] at h
    simp only [PyData.eqvAll, Bool.and_eq_true]
    exact ⟨eqv_self x h.1, eqv_selfAll xs h.2⟩
end
/-- data that may be compared: no dict, not deep -/
structure Shal (d : PyData) : Prop where
  p : d.plain = true
  d : d.depth ≤ 60
def rEqP (K : PySem.W.Frag) : R2 := fun x y H Q => ∃ d e, Dp K H x d ∧ Dp K H y e ∧ Shal d ∧ Shal e ∧ Q (.bl (PyData.eqv d e)) H
def rNeP (K : PySem.W.Frag) : R2 := fun x y H Q => ∃ d e, Dp K H x d ∧ Dp K H y e ∧ Shal d ∧ Shal e ∧ Q (.bl (!PyData.eqv d e)) H
section
variable {X : Cx}
theorem op_eqP (hu : X.A.units + 64 < cLine) : OpR X (compareOp .Eq) (rEqP X.K) := by
  intro pins s σ H x y v u Q I rx ry h
  obtain ⟨d, e, hd, he, sd, se, q⟩ := h
  obtain ⟨as, r1⟩ := Dp.reads I d x v hd rx
  obtain ⟨bs, r2⟩ := Dp.reads I e y u he ry
  have := sd.d
  exact PySem.SeqAt.eq_plain r1 r2 sd.p se.p (by omega) ⟨.bl _, H, I, rfl, q⟩
theorem op_neP (hu : X.A.units + 64 < cLine) : OpR X (compareOp .NotEq) (rNeP X.K) := by
  intro pins s σ H x y v u Q I rx ry h
  obtain ⟨d, e, hd, he, sd, se, q⟩ := h
  obtain ⟨as, r1⟩ := Dp.reads I d x v hd rx
  obtain ⟨bs, r2⟩ := Dp.reads I e y u he ry
  have := sd.d
  exact PySem.SeqAt.ne_plain r1 r2 sd.p se.p (by omega) ⟨.bl _, H, I, rfl, q⟩
end
section
variable {K : PySem.W.Frag} {H : Hp} {x y : V} {d e : PyData} {Q : VK}
theorem k_eqSame (h1 : Dp K H x d) (h2 : Dp K H y d) (s : Shal d) (q : Q (.bl true) H) : rEqP K x y H Q := ⟨d, d, h1, h2, s, s, by rw [eqv_self d s.p]; exact q⟩
theorem k_neSame (h1 : Dp K H x d) (h2 : Dp K H y d) (s : Shal d) (q : Q (.bl false) H) : rNeP K x y H Q := ⟨d, d, h1, h2, s, s, by rw [eqv_self d s.p]; exact q⟩
theorem dp_all {α : Type} {f : α → V} {g : α → PyData} : ∀ {l : List α}, (∀ a ∈ l, Dp K H (f a) (g a)) → DpAll K H (l.map f) (l.map g)
  | [], _ => .nil
  | a :: l, h => .cons (h a List.mem_cons_self) (dp_all fun b hb => h b (List.mem_cons_of_mem _ hb))
theorem plain_all {α : Type} {g : α → PyData} : ∀ {l : List α}, (∀ a ∈ l, (g a).plain = true) → PyData.plainAll (l.map g) = true
  | [], _ => by simp [PyData.plainAll]
  | a :: l, h => by
    simp only [List.map_cons, PyData.plainAll, Bool.and_eq_true]
    exact ⟨h a List.mem_cons_self, plain_all fun b hb => h b (List.mem_cons_of_mem _ hb)⟩
theorem depth_all {α : Type} {g : α → PyData} {n : Nat} : ∀ {l : List α}, (∀ a ∈ l, (g a).depth ≤ n) → PyData.depthAll (l.map g) ≤ n
  | [], _ => by simp [PyData.depthAll]
  | a :: l, h => by
    simp only [List.map_cons, PyData.depthAll]
    exact Nat.max_le.mpr ⟨h a List.mem_cons_self, depth_all fun b hb => h b (List.mem_cons_of_mem _ hb)⟩
theorem shal_list {α : Type} {g : α → PyData} {l : List α} {n : Nat} (hn : n < 60) (h : ∀ a ∈ l, (g a).plain = true ∧ (g a).depth ≤ n) : Shal (.list (l.map g)) := by
  refine ⟨by simp only [PyData.plain]; exact plain_all fun a ha => (h a ha).1, ?_⟩
  have := depth_all (l := l) (g := g) (n := n) fun a ha => (h a ha).2
  simp only [PyData.depth]
  omega
theorem dp_ints {ns : List Int} : DpAll K H (ns.map V.int) (ns.map PyData.int) := dp_all fun _ _ => .int _
theorem shal_ints {ns : List Int} : Shal (.list (ns.map PyData.int)) := shal_list (n := 0) (by decide) fun _ _ => ⟨by simp [PyData.plain], by simp [PyData.depth]⟩
theorem dp_strs {ns : List Str} : DpAll K H (ns.map V.str) (ns.map PyData.str) := dp_all fun _ _ => .str _
theorem shal_strs {ns : List Str} : Shal (.list (ns.map PyData.str)) := shal_list (n := 0) (by decide) fun _ _ => ⟨by simp [PyData.plain], by simp [PyData.depth]⟩
theorem dp_lst {a : Addr} {xs : List V} {ds : List PyData} (h : H a = some (.lst xs)) (hd : DpAll K H xs ds) : Dp K H (.ref a) (.list ds) := .lst (.of h) hd
theorem dp_tup {a : Addr} {xs : List V} {ds : List PyData} (h : H a = some (.tup xs)) (hd : DpAll K H xs ds) : Dp K H (.ref a) (.tuple ds) := .tup (.of h) hd
end
end Sd


/-! A generator expression of any element, consumed by tuple(..) or list(..). -/
namespace Gx
open PySem PySem.Spec PyProof.Rows L2 GenW

/-- the genexp's own frame over the def's -/
abbrev gx (X : Cx) (A : Around) (s : Shared) (H : Hp) (cenv : Env) (fp : List Addr) (pn : List (Addr × Obj)) : Cx :=
  { X with A := A, s_0 := s, H_0 := H, env := cenv, outer := X.stack, stack := cenv :: X.stack, ex := fp, fn := fun _ => false, calm := true, pn := pn, xe := fun _ _ => False }

/-- the genexp's names: «.0» (none of N), its own (with their places in N), captured ones -/
structure GxOk (N : List Str) (sc scope : Scope) (own : List (Str × Nat)) : Prop where
  kind : scope.kind = .function
  co : scope.isCoroutine = false
  cell : ∀ y ∈ scope.names, y.2 ≠ .cell
  dot : scope.names.lookup (".0" : Str) = some NameKind.local
  uniq : ∀ y ∈ scope.names, scope.names.lookup y.1 = some y.2
  ix : ∀ p ∈ own, N[p.2]? = some p.1
  free : ∀ y ∈ scope.names, y.2 = .free → sc.names.lookup y.1 = some .cell ∨ sc.names.lookup y.1 = some .free
  own : ∀ y ∈ scope.names, y.2 = .local → y.1 ∈ own.map (·.1) ∨ y.1 ∉ N

def gxC (N : List Str) (sc scope : Scope) (own : List (Str × Nat)) : Bool :=
  (match scope.kind with | .function => true | _ => false) && !scope.isCoroutine && decide (scope.names.lookup (".0" : Str) = some NameKind.local) && (scope.names.all fun y => decide (scope.names.lookup y.1 = some y.2)) && (own.all fun p => decide (N[p.2]? = some p.1)) &&
    (scope.names.all fun y => match y.2 with
      | .free => (match sc.names.lookup y.1 with | some .cell => true | some .free => true | _ => false)
      | .local => decide (y.1 ∈ own.map (·.1)) || decide (y.1 ∉ N)
      | .cell => false
      | _ => true)
theorem gxOk_by {N : List Str} {sc scope : Scope} {own : List (Str × Nat)} (h : gxC N sc scope own = true) : GxOk N sc scope own := by
  unfold gxC at h
  simp only [Bool.and_eq_true, List.all_eq_true, decide_eq_true_eq, Bool.not_eq_true'] at h
  obtain ⟨⟨⟨⟨⟨h1, h0⟩, hd⟩, h2⟩, h3⟩, h4⟩ := h
  refine ⟨?_, h0, fun y hy e => ?_, hd, h2, h3, fun y hy e => ?_, fun y hy e => ?_⟩
  · split at h1
    · assumption
    · cases h1
  · have q := h4 y hy
    simp only [e] at q
    cases q
  · have q := h4 y hy
    simp only [e] at q
    split at q <;> first | exact .inl (by assumption) | exact .inr (by assumption) | cases q
  · have q := h4 y hy
    simp only [e, Bool.or_eq_true, decide_eq_true_eq] at q
    exact q

theorem gx_over {A : Around} {elt : Expr} {gens : List Comprehension} {scope : Scope} {pos : Pos} {it acc : Value} {env : Env} :
    A.over (.compLoop (.GeneratorExp elt gens scope pos) 0 it acc env) [] = A.deeper env := by
  first
    | rfl
    | (obtain ⟨hd, d, fr, gs, u⟩ := A; simp [Around.over, Around.deeper, marksOver, frameCount, unitsOf, envsOf, guardsOf, pushEnvs, pushGuards, Code.envs, Code.env?, Code.isFrame, Code.guards, Code.isGuard, Code.weight, Code.frames, Code.isCreation, Code.isCaller, Code.cUnits])

section
variable {X : Cx} {pins : List (Addr × Obj)} {σ : L2.St} {H : Hp} {s : Shared}
theorem gx_start {A : Around} {scope : Scope} {own : List (Str × Nat)} {fp : List Addr} {code : Value} {m : Str → Option Value} {s' : Shared} {pn : List (Addr × Obj)} (I : Inv X pins σ H s) (ok : GxOk X.N X.env.scope scope own) (hN : X.N.Nodup)
    (hfp : ∀ b ∈ fp, FpOk X pins H b ∧ b < s.heap.objs.size) (hA : A.handled = none)
    (hfr : A.frames = some (genEnv scope (cloFrom X.env.cells scope.names []) s.heap.objs.size code builtinsNs X.env :: X.stack))
    (kp : ∀ b o, s.heap.get? b = some o → s'.heap.get? b = some o) (hos : s'.os = s.os) (hb : AllBare s'.gens) (hns : s'.heap.Ns s.heap.objs.size m)
    (hpn : ∀ p ∈ pn, s'.heap.get? p.1 = some p.2 ∧ s.heap.objs.size < p.1 ∧ ∀ v, p.2.data ≠ .cell v) :
    Inv (gx X A s H (genEnv scope (cloFrom X.env.cells scope.names []) s.heap.objs.size code builtinsNs X.env) fp pn) [] (wipe σ (own.map (·.2))) H s' := by
  have hfree : ∀ y ∈ scope.names, y.2 = .free → ∃ c, X.env.cells.lookup y.1 = some c := fun y hy e => by
    rcases ok.free y hy e with k | k
    · exact I.ok.has _ (.inl k)
    · exact I.ok.has _ (.inr k)
  generalize hcenv : genEnv scope (cloFrom X.env.cells scope.names []) s.heap.objs.size code builtinsNs X.env = cenv at hfr ⊢
  have hL : cenv.locals = s.heap.objs.size := by rw [← hcenv]; rfl
  have hcl : cenv.cells = cloFrom X.env.cells scope.names [] := by rw [← hcenv]; rfl
  have hsc : cenv.scope = scope := by rw [← hcenv]; rfl
  have cm : ∀ {y c}, cenv.cells.lookup y = some c → X.env.cells.lookup y = some c ∧ c < s.heap.objs.size := fun {y c} hm => by
    rw [hcl] at hm
    rcases cloFrom_mem (PySem.mem_of_lookup hm) with hm | ⟨h1, rfl⟩
    · cases hm
    · obtain ⟨c, hc⟩ := hfree _ h1 rfl
      rw [hc]
      obtain ⟨w, z⟩ := I.cell _ _ hc
      exact ⟨rfl, z.lt⟩
  have look : ∀ {y}, scope.names.lookup y = some .free → ∃ c, cenv.cells.lookup y = some c ∧ X.env.cells.lookup y = some c := fun {y} hl => by
    have hy : (y, NameKind.free) ∈ scope.names := PySem.mem_of_lookup hl
    obtain ⟨c', e'⟩ := mem_lookup (cloFrom_has (cells := X.env.cells) (acc := []) hy)
    rw [← hcl] at e'
    exact ⟨c', e', (cm e').1⟩
  have okB : (gx X A s H cenv fp pn).Ok := by
    refine ⟨I.ok.mod, by show cenv.scope.kind = _; rw [hsc]; exact ok.kind, by show cenv.globals = _; rw [← hcenv]; exact I.ok.glob, by show cenv.builtins = _; rw [← hcenv]; rfl, by show s.heap.objs.size ≤ cenv.locals; rw [hL]; exact Nat.le_refl _,
      fun y z c e1 e2 => ?_, fun y hy => ?_, fun y c z e => ?_, fun _ => hA, hfr, .inr ⟨rfl, by show cenv.frame = some cenv.locals; rw [← hcenv]; rfl⟩, fun b hb => ⟨?_, fun y c e z => ?_⟩, I.bs, Nat.le_trans I.ok.bsz I.sz, fun b o e hb => ?_, fun b hb z => ?_, I.stack, I.stkFree⟩
    · exact I.ok.inj y z c (cm e1).1 (cm e2).1
    · show ∃ c, cenv.cells.lookup y = some c
      have hy' : cenv.scope.names.lookup y = some .cell ∨ cenv.scope.names.lookup y = some .free := hy
      rw [hsc] at hy'
      rcases hy' with hy' | hy'
      · exact absurd rfl (ok.cell _ (PySem.mem_of_lookup hy'))
      · obtain ⟨c, h1, _⟩ := look hy'
        exact ⟨c, h1⟩
    · exact absurd z (by simp)
    · show b ≠ cenv.locals
      rw [hL]; exact Nat.ne_of_lt (hfp b hb).2
    · exact (hfp b hb).1.2.2.2.2.1 y c (cm e).1 z
    · rcases (hfp b hb).1.2.2.2.1 with z | z
      · exact I.ok.noex b o e z
      · exact absurd (Nat.lt_of_lt_of_le (Heap.lt_size e) (Nat.le_trans I.ok.bsz z)) (Nat.lt_irrefl _)
    · rcases List.mem_cons.mp (I.stkSub b z) with z | z
      · exact (hfp b hb).1.2.1 z
      · exact (hfp b hb).1.2.2.1 z
  refine ⟨okB, hos, hb, Un.kept kp, ⟨m, ?_, fun i y av e1 e2 e3 => ?_⟩, fun y c e => ?_, ?_, fun y c e => ?_, fun p hp => ?_, I.hok.kept kp, by rw [wipe_length]; exact I.len⟩
  · show Heap.Ns _ cenv.locals _
    rw [hL]; exact hns
  · obtain ⟨e2, hne⟩ := wipe_some e2
    have e3 : Vis cenv.scope y := e3
    rw [hsc] at e3
    have hfr : scope.names.lookup y = some .free := by
      rcases e3 with e3 | e3 | e3
      · rcases ok.own _ (PySem.mem_of_lookup e3) rfl with e' | e'
        · obtain ⟨p, hp, hpy⟩ := List.mem_map.mp e'
          have e3 := ok.ix p hp
          have : p.1 = y := hpy
          rw [this] at e3
          exact absurd (List.mem_map.mpr ⟨p, hp, nodup_ix hN e3 e1⟩) hne
        · exact absurd (List.mem_of_getElem? e1) e'
      · exact absurd rfl (ok.cell _ (PySem.mem_of_lookup e3))
      · exact e3
    obtain ⟨m, hn, hl⟩ := I.loc
    have hvis : Vis X.env.scope y := (ok.free _ (PySem.mem_of_lookup hfr) rfl).elim (fun k => .inr (.inl k)) (fun k => .inr (.inr k))
    obtain ⟨w, r, q⟩ := hl i y av e1 e2 hvis
    refine ⟨w, r, .inr ⟨.inr ?_, ?_⟩⟩
    · show cenv.scope.names.lookup y = _
      rw [hsc]; exact hfr
    obtain ⟨c, h1, h2⟩ := look hfr
    rcases q with ⟨k, _⟩ | ⟨_, c', e', z⟩
    · have k : X.env.scope.names.lookup y = some .local := k
      rcases ok.free _ (PySem.mem_of_lookup hfr) rfl with k' | k' <;> rw [show X.env.scope.names.lookup y = _ from k'] at k <;> cases k
    · rw [h2] at e'; cases e'
      exact ⟨c, h1, z.keeps kp⟩
  · obtain ⟨w, z⟩ := I.cell y c (cm e).1
    exact ⟨w, z.keeps kp⟩
  · show H cenv.locals = none
    rw [hL]; exact I.hok.fresh (Nat.le_refl _)
  · exact I.freeC y c (cm e).1
  · have hp : p ∈ pn := by simpa using hp
    obtain ⟨q1, q2, q3⟩ := hpn p hp
    refine ⟨q1, I.hok.fresh (Nat.le_of_lt q2), ?_, fun z => ?_, q3⟩
    · show p.1 ≠ cenv.locals
      rw [hL]; exact Nat.ne_of_gt q2
    · rcases List.mem_cons.mp (I.stkSub p.1 z) with z | z
      · exact absurd (z ▸ I.lt) (Nat.not_lt_of_ge (Nat.le_of_lt q2))
      · exact I.nofs (Nat.le_of_lt q2) z

/-! ### the run -/
/-- the end: all handed out stands in S -/
def GEnd (X' : Cx) (S : Addr) (σ : L2.St) (Q : List V → Hp → Prop) : GenEnd := fun n _ r s => r = .ok .next ∧ ∃ ys H, n + ys.length = sizeLine ∧ GI X' S [] ys σ H s ∧ Q ys H

theorem seg_gx {A : Around} {S : Addr} {elt tg iter : Expr} {ifs : List Expr} {scope : Scope} {gpos : Pos} {g : TG} {tt : TT} {te : TE} {vs : List Nat} {J : It} {fp : List Addr} {it : Addr} {tn : Nat → Heap → Prop} {H0 : Hp} {s0 : Shared} {cenv : Env} {pn : List (Addr × Obj)}
    {W : Nat → Nat → List V → Hp → Prop} {Q : List V → Hp → Prop}
    (T : Turn X.prog X.w X.K tg J fp it tn) (hco : cenv.scope.isCoroutine = false)
    (pg : PG (gx X (A.deeper cenv) s0 H0 cenv fp pn) tg g) (pt : PTs (gx X (A.deeper cenv) s0 H0 cenv fp pn) ifs tt) (pe : PE (gx X (A.deeper cenv) s0 H0 cenv fp pn) elt te)
    (hpn : ∀ p ∈ pn, p.1 ≠ S ∧ p.1 ∉ fp) (hA : Apart (gx X (A.deeper cenv) s0 H0 cenv fp pn) S) (hS : S ∉ fp)
    (turn : ∀ i m ys H, W i m ys H → (J.stop i H ∧ Q ys H) ∨ (J.go i H ∧ ∃ Nx : List V → Hp → Prop, (∀ ys' H', Nx ys' H' → ∃ m', m' < m ∧ W (i + 1) m' ys' H') ∧ ∀ x H', J.yld i H x H' → g x (wipe σ vs) H' fun σ2 H2 => wipe σ2 vs = wipe σ vs ∧ tt σ2 H2 fun b H3 =>
      if b = true then te σ2 H3 fun y H4 => ys.length < sizeLine ∧ Nx (ys ++ [y]) H4 else Nx ys H3)) :
    ∀ (m n i : Nat) (ys : List V) (H : Hp) (s₀ s : Shared), n + ys.length = sizeLine → W i m ys H → GI (gx X (A.deeper cenv) s0 H0 cenv fp pn) S [] ys (wipe σ vs) H s → tn i s.heap → (∀ b ∈ fp, H b = none) →
      Seg (model X.prog X.w) A (GEnd (gx X (A.deeper cenv) s0 H0 cenv fp pn) S (wipe σ vs) Q) (GY (gx X (A.deeper cenv) s0 H0 cenv fp pn) S) n s₀ (.compLoop (.GeneratorExp elt [⟨tg, iter, ifs, 0⟩] scope gpos) 0 (.ref it) .none cenv)
        ((model X.prog X.w).den (.compLoop (.GeneratorExp elt [⟨tg, iter, ifs, 0⟩] scope gpos) 0 (.ref it) .none cenv)) [] s := by
  have stat : ∀ {σ' : L2.St} {H' : Hp} {s' : Shared} {acc : Array Value} {c : Nat}, Inv (gx X (A.deeper cenv) s0 H0 cenv fp pn) [(S, lstObj acc c)] σ' H' s' → (∀ b ∈ fp, H' b = none) → ∀ b ∈ fp, FpOk (gx X (A.deeper cenv) s0 H0 cenv fp pn) [(S, lstObj acc c)] H' b := fun {σ' H' s' acc c} I' hn b hb =>
    ⟨hn b hb, (I'.ok.exf b hb).1, I'.ok.exfs b hb, .inl hb, fun x c e => (I'.ok.exf b hb).2 x c e, fun p hp z => by
      rcases List.mem_append.mp hp with hp | hp
      · exact (hpn p hp).2 (z ▸ hb)
      · rw [List.mem_singleton.mp hp] at z
        have z : S = b := z
        exact hS (by rw [z]; exact hb)⟩
  intro m
  induction m using Nat.strongRecOn with
  | ind m ih =>
    intro n i ys H s₀ s hn w hI hst hfn
    show Seg _ A _ _ _ s₀ _ ((compTurn (.GeneratorExp elt [⟨tg, iter, ifs, 0⟩] scope gpos) 0 (.ref it) .none cenv).onRaise (leaving cenv)) [] s
    rw [compTurn_gen, Sem.onRaise_eq_wrap]
    refine seg_bind_wrap (wpAny_standAt ?_)
    obtain ⟨acc, cc, r, I⟩ := hI
    rcases turn i m ys H w with ⟨stop, q⟩ | ⟨go, Nx, hNx, step⟩
    · refine seg_bind_wrap ?_
      rw [gx_over]
      refine thnF (T.done (gx X (A.deeper cenv) s0 H0 cenv fp pn) rfl rfl rfl rfl i _ s _ H (fun _ _ => False) I (stat I hfn) hst stop) fun rr s1 ⟨hr, I1⟩ => ?_
      subst hr
      exact seg_end (.ok .next) ⟨rfl, ys, H, hn, ⟨acc, cc, r, I1⟩, q⟩
    · refine seg_bind_wrap ?_
      rw [gx_over]
      refine thnF (T.item (gx X (A.deeper cenv) s0 H0 cenv fp pn) rfl rfl rfl rfl i _ s _ H (fun _ _ => False) I (stat I hfn) hst go) fun rr s1 ⟨u, hr, h1⟩ => ?_
      subst hr
      refine seg_bind_wrap ?_
      rw [gx_over]
      refine thnF h1 fun _ s2 ⟨x, H2, I2, r2, y2, st2, n2⟩ => ?_
      have I2' := I2.pinned (stat I2 n2) (T.obj _ _ st2)
      refine seg_bind_wrap ?_
      rw [gx_over]
      refine thnF (pg.run _ s2 _ H2 x u _ I2' r2 (step x H2 y2)) fun _ s3 ⟨σ3, H3, I3, hw3, q3⟩ => ?_
      refine seg_bind_wrap ?_
      rw [gx_over]
      refine thnF (pt.run _ s3 σ3 H3 _ I3 q3) fun b s4 ⟨H4, I4, q4⟩ => ?_
      -- the turn's end
      have hl : ∀ {s' : Shared} {H' : Hp}, Inv (gx X (A.deeper cenv) s0 H0 cenv fp pn) ([(S, lstObj acc cc)] ++ pinsAt fp s2.heap) σ3 H' s' →
          Inv (gx X (A.deeper cenv) s0 H0 cenv fp pn) [(S, lstObj acc cc)] (wipe σ vs) H' s' ∧ tn (i + 1) s'.heap ∧ ∀ b ∈ fp, H' b = none := fun {s' H'} I' => by
        have pin' : ∀ b ∈ fp, ∀ o, s2.heap.get? b = some o → s'.heap.get? b = some o ∧ H' b = none := fun b hb o e =>
          let z := I'.pin (b, o) (List.mem_append_right _ (List.mem_append_right _ (mem_pinsAt hb e)))
          ⟨z.1, z.2.1⟩
        have hl : (wipe σ vs).length = σ3.length := by rw [← hw3, wipe_length]
        refine ⟨I'.unpinned.weak hl (fun j v e => ?_), T.keep _ _ _ st2 fun b hb o e => (pin' b hb o e).1, fun b hb => ?_⟩
        · rw [← hw3] at e
          exact (wipe_some e).1
        · obtain ⟨o, e, _⟩ := T.obj _ _ st2 b hb
          exact (pin' b hb o e).2
      cases b with
      | false =>
        simp only [Bool.false_eq_true, if_false] at q4 ⊢
        obtain ⟨m', hm, w'⟩ := hNx ys H4 q4
        obtain ⟨I5, st5, n5⟩ := hl I4
        exact seg_again rfl (ih m' hm n (i + 1) ys H4 s₀ s4 hn w' ⟨acc, cc, r, I5⟩ st5 n5)
      | true =>
        simp only [if_true] at q4 ⊢
        have hy : ∀ v, yieldOut cenv v = yieldValue v := fun v => by simp only [yieldOut, hco, Bool.false_eq_true, if_false]
        simp only [hy]
        rw [Sem.bind_eq_wrap', Sem.bind_eq_wrap', Sem.wrap_wrap, Sem.wrap_wrap]
        refine seg_wrap ?_
        rw [gx_over]
        refine thnF (pe.run _ s4 σ3 H4 _ I4 q4) fun v s5 ⟨yv, H5, I5', r5, hlt, nx⟩ => ?_
        obtain ⟨I5, st5, n5⟩ := hl I5'
        obtain ⟨n, rfl⟩ : ∃ k, n = k + 1 := ⟨n - 1, by omega⟩
        obtain ⟨m', hm, w'⟩ := hNx _ H5 nx
        refine seg_at (seg_yield rfl rfl rfl ⟨ys, yv, [], wipe σ vs, H5, hn, r5, ⟨acc, cc, r, I5⟩, fun s'' z => ?_⟩)
        refine seg_again rfl (ih m' hm n (i + 1) _ H5 s'' s'' (by rw [List.length_append, List.length_singleton]; omega) w' ?_ ?_ n5)
        · exact GI.woken (fun p hp => (hpn p hp).1) (fun p hp => absurd hp (by simp)) hA ⟨acc, cc, r, I5⟩ r5 z
        · exact T.keep _ _ _ st5 fun b hb o e => z.keep b o (fun y => hS (y ▸ hb)) e

theorem seg_gx0 {A : Around} {elt tg iter : Expr} {ifs : List Expr} {scope : Scope} {gpos : Pos} {J : It} {fp : List Addr} {it : Addr} {tn : Nat → Heap → Prop} {cenv : Env} {R : GenEnd} {Y : Protocol} {n : Nat} {s₀ s : Shared} {i : Nat}
    (T : Turn X.prog X.w X.K tg J fp it tn) (hst : tn i s.heap)
    (loop : Seg (model X.prog X.w) A R Y n s₀ (.compLoop (.GeneratorExp elt [⟨tg, iter, ifs, 0⟩] scope gpos) 0 (.ref it) .none cenv) ((model X.prog X.w).den (.compLoop (.GeneratorExp elt [⟨tg, iter, ifs, 0⟩] scope gpos) 0 (.ref it) .none cenv)) [] s) :
    Seg (model X.prog X.w) A R Y n s₀ (.compStart (.GeneratorExp elt [⟨tg, iter, ifs, 0⟩] scope gpos) 0 (.ref it) .none cenv) ((model X.prog X.w).den (.compStart (.GeneratorExp elt [⟨tg, iter, ifs, 0⟩] scope gpos) 0 (.ref it) .none cenv)) [] s := by
  show Seg _ A _ _ _ s₀ _ ((compStart (.GeneratorExp elt [⟨tg, iter, ifs, 0⟩] scope gpos) 0 (.ref it) .none cenv).onRaise (leaving cenv)) [] s
  unfold compStart
  rw [Sem.onRaise_eq_wrap]
  show Seg _ A _ _ _ s₀ _ ((ask >>= _).wrap _ _ _ _) [] s
  refine seg_bind_wrap (wpAny_askSetting ?_)
  split
  · exact seg_again rfl loop
  · first
      | exact seg_bind_wrap (wpAny_rule (seg_bind_wrap (wpAny_standAt (seg_bind_wrap (T.self _ i s _ _ hst (seg_again rfl loop))))))
      | (refine seg_bind_wrap (wpAny_rule ?_); show Seg _ A _ _ _ s₀ _ ((standAt iter.pos >>= _).wrap _ _ _ _) [] s; exact seg_bind_wrap (wpAny_standAt (seg_bind_wrap (T.self _ i s _ _ hst (seg_again rfl loop)))))

/-! ### the expression -/
def tGx (wi : TI) (g : TG) (tt : TT) (te : TE) (vs : List Nat) (P : Addr) : TGen := fun σ H cont => wi σ H fun J H1 => GxR.TabG H1 P ∧ ∀ H2, GxR.Tabbed P H1 H2 → ∃ W : Nat → Nat → List V → Hp → Prop, (∃ m, W 0 m [] H2) ∧ ∀ i m ys H, W i m ys H →
  (J.stop i H ∧ cont ys H) ∨ (J.go i H ∧ ∃ Nx : List V → Hp → Prop, (∀ ys' H', Nx ys' H' → ∃ m', m' < m ∧ W (i + 1) m' ys' H') ∧ ∀ x H', J.yld i H x H' → g x (wipe σ vs) H' fun σ2 H2 => wipe σ2 vs = wipe σ vs ∧ tt σ2 H2 fun b H3 =>
    if b = true then te σ2 H3 fun y H4 => ys.length < sizeLine ∧ Nx (ys ++ [y]) H4 else Nx ys H3)

theorem pgen_gx {c P : Addr} {k : Nat} {elt tg iter : Expr} {ifs : List Expr} {scope : Scope} {own : List (Str × Nat)} {gpos : Pos} {wi : TI} {g : TG} {tt : TT} {te : TE}
    (hr : Room (k + 1) X.A) (TB : GxR.TabB X.base X.mg c P) (hcode : X.env.code = .ref c) (hN : X.N.Nodup) (hi : PI X tg iter wi) (ok : GxOk X.N X.env.scope scope own)
    (hg : ∀ (A : Around) (s : Shared) (H : Hp) (C : Addr) (cl : List (Str × Addr)) (code : Value) (fp : List Addr) (pn : List (Addr × Obj)), Room k A → PG (gx X A s H (genEnv scope cl C code builtinsNs X.env) fp pn) tg g)
    (ht : ∀ (A : Around) (s : Shared) (H : Hp) (C : Addr) (cl : List (Str × Addr)) (code : Value) (fp : List Addr) (pn : List (Addr × Obj)), Room k A → PTs (gx X A s H (genEnv scope cl C code builtinsNs X.env) fp pn) ifs tt)
    (he : ∀ (A : Around) (s : Shared) (H : Hp) (C : Addr) (cl : List (Str × Addr)) (code : Value) (fp : List Addr) (pn : List (Addr × Obj)), Room k A → PE (gx X A s H (genEnv scope cl C code builtinsNs X.env) fp pn) elt te)
    (hs : ∀ v, genFold iter X.env v = pure v) : PGen X (k + 1) (.GeneratorExp elt [⟨tg, iter, ifs, 0⟩] scope gpos) (tGx wi g tt te (own.map (·.2)) P) (fun _ _ _ => False) := by
  refine ⟨fun pins s σ H cont I h => ?_⟩
  have hfree : ∀ y ∈ scope.names, y.2 = .free → ∃ c, X.env.cells.lookup y.1 = some c := fun y hy e => by
    rcases ok.free y hy e with k | k
    · exact I.ok.has _ (.inl k)
    · exact I.ok.has _ (.inr k)
  refine wpAny_GeneratorExp_make ok.co (closure_ok hfree) ok.cell ok.dot ok.kind (by have := hr.dp; omega) (thn (hi.run pins s σ H _ I h) fun xv s1 hx => thn hx fun itv s2 h2 => ?_) hs
  obtain ⟨it, fp, tn, J, H2, e, I2, T, st2, f2, hTab, q⟩ := h2
  subst e
  refine ⟨I2.nolimit, ?_⟩
  obtain ⟨ps, hP, htr⟩ := hTab
  have hPs : s2.heap.get? P = some { cls := .none, data := .fields ps } := I2.hok P _ hP
  have cd : PySem.W.CodeHd s2.heap c P := TB.code.keeps fun b u e => I2.bk b u e
  have nfpP : ∀ b ∈ fp, b ≠ P := fun b hb z => by
    have := (f2 b hb).1
    rw [z, hP] at this; cases this
  have cont' : ∀ (code : Value) (h3 : Heap) (tk : Nat) (ps' : Array Value), Heap.ExtBut P s2.heap h3 → s2.heap.objs.size ≤ h3.objs.size → h3.get? P = some { cls := .none, data := .fields ps' } → (∃ more, ps' = ps ++ more) → TriplesOk ps'.toList →
      wpAny (model X.prog X.w) X.A (builtinsFor X.env.globals X.env.builtins) (fun bi s₄ => ∀ h', h'.Ns s₄.heap.objs.size (fun y => if y = ".0" then some (.ref it) else none) → Heap.SameBut s₄.heap.objs.size (s₄.heap.push { cls := .type "frame", data := .dict #[] }) h' →
          (∃ H1 sc ex, Inv X pins σ H1 sc ∧ ExOk X pins ex ∧ GMade X.prog X.w (k + 1) X.stack H1 sc ex cont (fun _ _ _ => False) (.ref h'.objs.size) { s₄ with
            gens := s₄.gens.push (.fresh (.compStart (.GeneratorExp elt [⟨tg, iter, ifs, 0⟩] scope gpos) 0 (.ref it) .none (genEnv scope (cloFrom X.env.cells scope.names []) s₄.heap.objs.size code bi X.env))),
            toks := s₄.toks + 1 + 1 + 1,
            heap := h'.push { cls := .type "generator", data := .fields #[.int s₄.gens.size 0, .str "<genexpr>" (s₄.toks + 1), .str (X.env.qual ++ "<genexpr>") (s₄.toks + 1 + 1)] } })) X.xe { s2 with heap := h3, toks := tk } := by
    intro code h3 tk ps' hx hsz hP3 hmore ht3
    obtain ⟨bm, ob, e1, e2, e3, e4, e5, e6, e7, e8⟩ := TB.bm
    have keep3 : ∀ b u, b ≠ P → s2.heap.get? b = some u → h3.get? b = some u := fun b u hb e => hx b u hb e
    refine wpAny_builtinsFor (m := X.mg) (by rw [I2.ok.glob]; exact (I2.mod.glob.keeps I2.bk).extBut hx TB.gP) e1 e2 (keep3 _ _ e4 (I2.bk _ _ e5)) e6 e7 e8 ?_
    obtain ⟨more, em⟩ := hmore
    have I3 : Inv X pins σ (upd H2 P (.tbl (ps ++ more))) { s2 with heap := h3, gens := s2.gens, drawn := s2.drawn, toks := tk } := GxR.inv_tab I2 hP (fun b u hb e => hx b u hb e) (by rw [← em]; exact hP3) I2.bare
    generalize hs3 : ({ s2 with heap := h3, gens := s2.gens, drawn := s2.drawn, toks := tk } : Shared) = s3 at I3
    have e3h : s3.heap = h3 := by rw [← hs3]
    intro h' hn' hs'
    generalize hH3 : upd H2 P (.tbl (ps ++ more)) = H3 at I3
    have hTb : GxR.Tabbed P H2 H3 := by
      rw [← hH3]
      exact ⟨⟨ps ++ more, upd_same, by rw [← em]; exact ht3⟩, fun b hb => upd_ne hb⟩
    have f3 : ∀ b ∈ fp, FpOk X pins H3 b ∧ b < s3.heap.objs.size := fun b hb => by
      obtain ⟨o, e, _⟩ := T.obj _ _ st2 b hb
      refine ⟨⟨?_, (f2 b hb).2⟩, by rw [e3h]; exact Heap.lt_size (keep3 b o (nfpP b hb) e)⟩
      rw [hTb.2 b (nfpP b hb)]
      exact (f2 b hb).1
    have st3 : tn 0 s3.heap := T.keep _ _ _ st2 fun b hb o e => by rw [e3h]; exact keep3 b o (nfpP b hb) e
    obtain ⟨W, ⟨m0, w0⟩, turn⟩ := q H3 hTb
    have keep' : ∀ b o, s3.heap.get? b = some o → h'.get? b = some o := fun b o e => hs'.extBut b o (Nat.ne_of_lt (Heap.lt_size e)) (Heap.get?_push_of_some _ e)
    have hsz' : h'.objs.size = s3.heap.objs.size + 1 := by rw [hs'.1, Heap.size_push]
    refine ⟨H3, s3, fp, I3, fun b hb => ?_, ?_⟩
    · obtain ⟨z1, z2, z3, z4, z5, z6⟩ := (f3 b hb).1
      exact ⟨z4, z2, z5, z6⟩
    generalize hce : genEnv scope (cloFrom X.env.cells scope.names []) s3.heap.objs.size code builtinsNs X.env = cenv
    have cL : cenv.locals = s3.heap.objs.size := by rw [← hce]; rfl
    generalize hgo : ({ cls := .type "generator", data := .fields #[.int s3.gens.size 0, .str "<genexpr>" (s3.toks + 1), .str (X.env.qual ++ "<genexpr>") (s3.toks + 1 + 1)] } : Obj) = go
    have hgc : go.cls = .type "generator" ∧ go.data = .fields #[.int s3.gens.size 0, .str "<genexpr>" (s3.toks + 1), .str (X.env.qual ++ "<genexpr>") (s3.toks + 1 + 1)] ∧ go.slots = #[] := by
      rw [← hgo]; exact ⟨rfl, rfl, rfl⟩
    have hgen : ∀ h : Heap, h.get? h'.objs.size = some go → h.IsGen h'.objs.size s3.gens.size := fun h e => ⟨go, _, _, e, hgc.1, hgc.2.1, hgc.2.2⟩
    have hpushed : (h'.push go).get? h'.objs.size = some go := by
      rw [← hgo]; exact Heap.get?_push_size _ rfl
    refine ⟨h'.objs.size, s3.gens.size, _, rfl, by omega, ?_, hgen _ hpushed, Array.getElem?_push_size .., rfl, AllBare.push I3.bare rfl, I3.nolimit.keeps fun b o e => Heap.get?_push_of_some _ (keep' b o e), fun b o e => Heap.get?_push_of_some _ (keep' b o e), ?_⟩
    · show _ < (h'.push _).objs.size
      rw [Heap.size_push]; exact Nat.lt_succ_self _
    intro Aw S s4 hrw hfr hSx hk2 hSo hos hba
    have hSz : h'.objs.size < S := by
      have hSx' : (h'.push go).objs.size ≤ S := hSx
      rw [Heap.size_push] at hSx'
      exact hSx'
    have hS3 : s3.heap.objs.size < S := by omega
    obtain ⟨cS, heS⟩ := hSo
    have hea : s4.heap.get? h'.objs.size = some go := hk2 _ go hpushed
    have hgd : ∀ v, go.data ≠ .cell v := fun v z => by rw [hgc.2.1] at z; cases z
    have kp4 : ∀ b o, s3.heap.get? b = some o → s4.heap.get? b = some o := fun b o e => hk2 b o (Heap.get?_push_of_some _ (keep' b o e))
    have I5 := gx_start (A := Aw.deeper cenv) (code := code) (s' := s4) (m := fun y => if y = ".0" then some (.ref it) else none) (pn := [(h'.objs.size, go)]) I3 ok hN f3 hrw.hd (by rw [hce]; exact Around.frames_deeper hfr) kp4 hos hba
      (hn'.keeps fun b o e => hk2 b o (Heap.get?_push_of_some _ e)) (fun p hp => by
        rw [List.mem_singleton.mp hp]
        exact ⟨hea, by show s3.heap.objs.size < h'.objs.size; omega, hgd⟩)
    rw [hce] at I5
    have hSL : S ≠ cenv.locals := by rw [cL]; exact Nat.ne_of_gt hS3
    have hG : GI (gx X (Aw.deeper cenv) s3 H3 cenv fp [(h'.objs.size, go)]) S [] [] (wipe σ (own.map (·.2))) H3 s4 := by
      refine ⟨#[], cS, .nil, I5.pins_of fun p hp => ?_⟩
      rw [List.mem_singleton.mp hp]
      refine ⟨heS, I3.hok.fresh (Nat.le_of_lt hS3), hSL, fun z => ?_, fun v q => by cases q⟩
      rcases List.mem_cons.mp (I3.stkSub S z) with z | z
      · exact absurd (z ▸ I3.lt) (Nat.not_lt_of_ge (Nat.le_of_lt hS3))
      · exact I3.nofs (Nat.le_of_lt hS3) z
    have hSfp : S ∉ fp := fun hb => absurd (f3 S hb).2 (Nat.not_lt_of_ge (Nat.le_of_lt hS3))
    have hAp : Apart (gx X (Aw.deeper cenv) s3 H3 cenv fp [(h'.objs.size, go)]) S := by
      refine ⟨Nat.le_of_lt hS3, hSL, fun x c e z => ?_⟩
      obtain ⟨v, o, ho, _⟩ := I5.cell x c e
      have e : cenv.cells.lookup x = some c := e
      rw [← hce] at e
      rcases cloFrom_mem (PySem.mem_of_lookup e) with hm | ⟨h1, h2⟩
      · cases hm
      · obtain ⟨c2, hc2⟩ := hfree _ h1 rfl
        rw [hc2] at h2
        have h2 : c = c2 := h2
        obtain ⟨v2, o2, ho2, _⟩ := I3.cell x c2 hc2
        have := Heap.lt_size ho2
        rw [← h2, z] at this
        exact absurd this (Nat.not_lt_of_ge (Nat.le_of_lt hS3))
    have pinned : ∀ {ip : List (Addr × Obj)} {ys : List V} {s' : Shared} {σ' : L2.St} {H' : Hp}, GI (gx X (Aw.deeper cenv) s3 H3 cenv fp [(h'.objs.size, go)]) S ip ys σ' H' s' → s'.heap.IsGen h'.objs.size s3.gens.size := fun {ip ys s' σ' H'} hI => by
      obtain ⟨acc, cc, _, J⟩ := hI
      exact hgen _ (J.pin (h'.objs.size, go) (List.mem_append_left _ (List.mem_singleton.mpr rfl))).1
    have st4 : tn 0 s4.heap := T.keep _ _ _ st3 fun b _ o e => kp4 b o e
    have loop := seg_gx (A := Aw) (S := S) (elt := elt) (iter := iter) (scope := scope) (gpos := gpos) (vs := own.map (·.2)) (H0 := H3) (s0 := s3) (cenv := cenv) (pn := [(h'.objs.size, go)]) (W := W) (Q := cont) (σ := σ) T (by rw [← hce]; exact ok.co)
      (by rw [← hce]; exact hg _ _ _ _ _ _ _ _ (hrw.deeper _)) (by rw [← hce]; exact ht _ _ _ _ _ _ _ _ (hrw.deeper _)) (by rw [← hce]; exact he _ _ _ _ _ _ _ _ (hrw.deeper _))
      (fun p hp => by
        rw [List.mem_singleton.mp hp]
        exact ⟨Nat.ne_of_lt hSz, fun hb => absurd (f3 _ hb).2 (by show ¬ (h'.objs.size < s3.heap.objs.size); omega)⟩) hAp hSfp turn m0 sizeLine 0 [] H3 s4 s4 (Nat.add_zero _) w0 hG st4 (fun b hb => (f3 b hb).1.1)
    refine seg_imp (R := GEnd (gx X (Aw.deeper cenv) s3 H3 cenv fp [(h'.objs.size, go)]) S (wipe σ (own.map (·.2))) cont) (Y := GY (gx X (Aw.deeper cenv) s3 H3 cenv fp [(h'.objs.size, go)]) S) (fun n s₀ r s1' hR => ?_) (fun n s₀ v s1' kap kap' hkk hY => ?_) sizeLine (seg_gx0 T st4 loop)
    · obtain ⟨rfl, ys, H', hn, hI, hQ⟩ := hR
      obtain ⟨a1, _, _, acc, cc, ra, ea⟩ := hI.at
      obtain ⟨_, _, _, J⟩ := hI
      exact .inl ⟨.inr rfl, H', ys, acc, cc, J.os, J.bare, J.base, J.hok, a1, ea, ra, by omega, hQ⟩
    · obtain ⟨ys, xx, ip, σ', H', hn, h2, hI, h3⟩ := hY
      obtain ⟨_, _, _, acc, cc, ra, ea⟩ := hI.at
      have hg := pinned hI
      obtain ⟨_, _, _, J⟩ := hI
      have hsz : acc.size = ys.length := by
        have e1 := ra.length
        have e2 : acc.toList.length = acc.size := by simp
        omega
      exact ⟨J.os, J.bare, J.nolimit, hg, ⟨acc, cc, ea, by rw [hsz]; exact hn⟩, fun s' z => hkk _ _ (h3 s' z)⟩
  cases hf : codeAmong gpos ps.toList with
  | none =>
    refine wpAny_genexprCodeX hcode (cd.code hPs htr) (cd.tab hPs) hf fun c' h' tk hx hge hlt hco' _ htab' _ => ?_
    obtain ⟨o1, vs, f1, tf, fl, tg, inF, tx, tt, op, _, _, _, _, _, _, _, _, _, htr', _⟩ := hco'
    exact cont' _ h' tk _ hx (Nat.le_trans hge (Nat.le_of_lt hlt)) htab'.2 ⟨_, rfl⟩ htr'
  | some cv =>
    refine wpAny_genexprCode_hit hcode (cd.code hPs htr) hf ?_
    exact cont' cv s2.heap s2.toks ps (Heap.ExtBut.refl _ _) (Nat.le_refl _) hPs ⟨#[], by simp⟩ htr
end

/-! ### tuple(g) -/
section
variable {P : Program} {w : World} {outer : List Env} {H : Hp} {sc s : Shared} {ex : List Addr} {Q : List V → Hp → Prop} {A : Around} {k : Nat} {u : Value} {E : Value → Shared → Prop}
/-- what a run of the generator to its end leaves -/
def Drained (P : Program) (w : World) (outer : List Env) (H : Hp) (sc : Shared) (ex : List Addr) (Q : List V → Hp → Prop) (acc : Array Value) (s' : Shared) : Prop :=
  ∃ H' ys, Vals ys acc.toList ∧ ys.length ≤ sizeLine ∧ s'.os = sc.os ∧ AllBare s'.gens ∧ Un (frs outer) ex H H' sc.heap s'.heap ∧ HOk P w H' s'.heap ∧ Q ys H'
theorem collect_gx {Q' : List Value → Shared → Prop} (hr : Room (k + 2) A) (hfr : A.frames = some outer) (h : GMade P w k outer H sc ex Q (fun _ _ _ => False) u s)
    (hQ : ∀ acc s', Drained P w outer H sc ex Q acc s' → Q' acc.toList s') : wpAny (model P w) A (collect u) Q' E s := by
  obtain ⟨a, g, c, rfl, ha1, ha2, hg, hgs, hos, hb, hl, hkp, wake⟩ := h
  have hSa : s.heap.objs.size ≠ a := Nat.ne_of_gt ha2
  have hcl : cStatics < s.heap.objs.size := let ⟨_, hn, _⟩ := hl; hn.lt
  have hSc : s.heap.objs.size ≠ cStatics := Nat.ne_of_gt hcl
  unfold collect
  refine wpAny_bind (wpAny_runValue (codeAny_builtin F.entry_proto_collect ?_))
  rw [Around.under_plainId F.plain_proto_collect _]
  show wpAny _ A.in1 (newList [] >>= fun l => again (.builtin "list.__iadd__" ⟨[l, .ref a], []⟩)) _ _ s
  refine wpAny_bind (wpAny_newObj_type ?_)
  refine wpAny_pure ⟨plainId_quiet F.plain_list_iadd _, codeAny_builtin F.entry_list_iadd ?_⟩
  rw [Around.under_plainId F.plain_list_iadd _]
  show wpAny _ A.in1 (Builtin.List.listExtendWith (.ref s.heap.objs.size) (.ref a) (.ref s.heap.objs.size)) _ _ _
  unfold Builtin.List.listExtendWith
  have k1 : ∀ b o, s.heap.get? b = some o → (s.heap.push { cls := .type "list", data := .seq ([] : List Value).toArray }).get? b = some o := fun b o e => Heap.get?_push_of_some _ e
  have gty : ∀ {h : Heap}, (∀ b o, s.heap.get? b = some o → h.get? b = some o) → h.IsGen a g := fun {h} q => hg.keeps q
  refine wpAny_bind (wpAny_typeOf (Heap.IsGen.typeIs (s := { s with heap := _ }) (gty k1)) ?_)
  have h1 : Builtin.List.listSameRef (.ref s.heap.objs.size) (.ref a) = false := by simp [Builtin.List.listSameRef, hSa]
  have h2 : (Value.type "generator" == Value.type "list") = false := by decide
  have h3 : (Value.type "generator" == Value.type "tuple") = false := by decide
  simp only [h1, h2, h3, Bool.or_false, Bool.false_eq_true, if_false]
  refine wpAny_bind (wpAny_pyIter_gen (s := { s with heap := _ }) (gty k1) ?_)
  refine wpAny_bind (wpAny_holding ?_)
  unfold Builtin.List.listLengthHint
  refine wpAny_bind (wpAny_specialOf (Heap.IsGen.typeIs (s := { s with heap := _ }) (gty k1)) F.gen_no_len ?_)
  show wpAny _ A.in1 (specialOf (Value.ref a) (Str.ofString "__length_hint__") >>= _) _ _ _
  refine wpAny_bind (wpAny_specialOf (Heap.IsGen.typeIs (s := { s with heap := _ }) (gty k1)) F.gen_no_hint ?_)
  refine wpAny_pure ?_
  show wpAny _ A.in1 (rule "list.extend.makes-room" >>= fun _ => Builtin.List.listTouch (.ref s.heap.objs.size) >>= fun _ =>
    again (.builtin "list.extend.loop" ⟨[.ref s.heap.objs.size, .ref a, .ref s.heap.objs.size], []⟩)) _ _ _
  refine wpAny_bind (wpAny_rule ?_)
  have hS₁ : (s.heap.push { cls := .type "list", data := .seq ([] : List Value).toArray }).get? s.heap.objs.size = some { cls := .type "list", data := .seq ([] : List Value).toArray } := Heap.get?_push_size _ rfl
  refine wpAny_bind ?_
  show wpAny _ A.in1 (updateSeq s.heap.objs.size (·.push .none) >>= fun _ => updateSeq s.heap.objs.size (·.pop)) _ _ _
  refine wpAny_bind (wpAny_updateSeq hS₁ rfl ?_)
  have hS₂ := Heap.get?_update_self (Obj.mapSeq (·.push Value.none)) hS₁ rfl
  refine wpAny_updateSeq hS₂ rfl ?_
  have hS₃ := Heap.get?_update_self (Obj.mapSeq (·.pop)) hS₂ rfl
  have up : ∀ (h : Heap) (f : Obj → Obj), (∀ b o, s.heap.get? b = some o → h.get? b = some o) → ∀ b o, s.heap.get? b = some o → (h.update s.heap.objs.size f).get? b = some o := fun h f q b o e =>
    (Heap.get?_update_other _ _ (Ne.symm (Nat.ne_of_lt (Heap.lt_size e)))).trans (q b o e)
  have k4 := up _ (Obj.mapSeq (·.pop)) (up _ (Obj.mapSeq (·.push Value.none)) k1)
  refine wpAny_pure ⟨plainId_quiet F.plain_extend_loop _, ?_⟩
  refine drain (P := P) (w := w) (outer := outer) (H := H) (sc := sc) (ex := ex) (Q := Q) (EX := fun _ _ _ => False) (A := A) (g := g) hr.hd (by have := hr.dp; omega) hSa hSc
    (fun s' acc c H' ys q1 q2 q3 q4 q5 q6 q7 q8 q9 => ?_) (fun e s' hc => ?_) sizeLine _ (gty k4) (hl.keeps k4) ⟨_, hgs, rfl, ?_⟩
  · show wpAny _ A (load s.heap.objs.size >>= _) _ _ s'
    refine wpAny_bind (wpAny_load q1 ?_)
    exact wpAny_pure (hQ acc s' ⟨H', ys, q2, q3, q4, q5, q6, q7, q9⟩)
  · obtain ⟨_, _, _, _, _, _, _, _, _, _, _, _, hf⟩ := hc
    exact hf.elim
  · refine wake _ _ _ ⟨hr.hd, ?_, ?_⟩ hfr (Nat.le_refl _) k4 ⟨_, hS₃⟩ hos (allBare_setGen (s := { s with heap := _ }) hb rfl)
    · have := hr.dp
      show A.depth + 3 * k + 5 < _
      omega
    · have := hr.un
      show A.units + 1 + 1 + 16 * k + 200 < _
      omega

theorem call_tuple_gx {Q' : Value → Shared → Prop} (hr : Room (k + 3) A) (hfr : A.frames = some outer) (h : GMade P w k outer H sc ex Q (fun _ _ _ => False) u s)
    (hQ : ∀ acc s', Drained P w outer H sc ex Q acc s' → Q' (.ref s'.heap.objs.size) { s' with heap := s'.heap.push { cls := .type "tuple", data := .seq acc } }) :
    wpAny (model P w) A (call (.type "tuple") [u]) Q' E s := by
  obtain ⟨a, g, c, hu, ha1, ha2, hg, r⟩ := id h
  have hTI : s.TypeIs u "generator" := by rw [hu]; exact hg.typeIs
  have hsub := sub_tuple_self
  have hinit := init_tuple_lookup
  have hmh := madeHere_tuple
  have r2 : Room (k + 2) A.in1.in1 := ⟨hr.hd, by have := hr.dp; show A.depth + 3 * (k + 2) + 5 < _; omega, by have := hr.un; show A.units + 1 + 1 + 16 * (k + 2) + 200 < _; omega⟩
  refine callType_codes (Q₁ := fun obj s₁ => s₁.TypeIs obj "tuple" ∧ Q' obj s₁) F.called_tuple (F.typeCall_tuple_1 _) F.entry_object_init ?_ fun obj s₁ h₁ =>
    ⟨h₁.1, F.args_object_init_2 obj _, object_init_meets F.called_tuple.init.lookup F.called_tuple.made (by decide) P w A.in1 _ s₁ ⟨h₁.1, rfl, h₁.2⟩⟩
  refine codeAny_of_tree ?_
  show wpAny _ A.in1.in1 (do checkBuiltinCall "tuple.__new__" ⟨[.type "tuple", u], []⟩; again (.builtin "tuple.__new__" ⟨[.type "tuple", u], []⟩)) _ _ s
  refine wpAny_bind (wpAny_of_eq (F.newCall_tuple_1 _) (wpAny_pure ⟨plainId_quiet F.plain_tuple_new _, codeAny_builtin F.entry_tuple_new ?_⟩))
  rw [Around.under_plainId F.plain_tuple_new _]
  have col := fun (Q'' : List Value → Shared → Prop) (E' : Value → Shared → Prop) (hq : ∀ acc s', Drained P w outer H sc ex Q acc s' → Q'' acc.toList s') => collect_gx (A := A.in1.in1) (Q' := Q'') (E := E') r2 hfr h hq
  clear r h
  subst hu
  wp_walk using wpAny_typeOf hTI, col
  intro acc s' hd
  show wpAny _ _ (Builtin.Tuple.tupleExact acc.toList.toArray >>= fun v => ret v) _ _ _
  unfold Builtin.Tuple.tupleExact
  have hz : acc.size ≤ sizeLine := by
    obtain ⟨H', ys, q1, q2, _⟩ := hd
    have e1 := q1.length
    have e2 : acc.toList.length = acc.size := by simp
    omega
  refine wpAny_bind (wpAny_newObj_type ?_ (by show acc.toList.toArray.size ≤ sizeLine; simp only [Array.toArray_toList]; exact hz))
  refine wpAny_pure ?_
  have e : acc.toList.toArray = acc := by simp
  rw [e]
  exact ⟨⟨_, Heap.get?_push_size _ rfl, rfl⟩, hQ acc s' hd⟩
end

section
variable {X : Cx}
def tTupleG (tg : TGen) : TE := fun σ H Q => tg σ H fun out H2 => ∀ p, H2 p = none → Q (.ref p) (upd H2 p (.tup out))
/-- tuple(g) -/
theorem pe_tupleG {k : Nat} {e : Expr} {tg : TGen} {p pos : Pos} (h : PGen X k e tg (fun _ _ _ => False)) (hr : Room (k + 3) X.A) (hg : Gl X "tuple") (hmg : X.mg "tuple" = none)
    (he : starEach [e] X.env = (false, eval e X.env) :: starEach [] X.env := by rfl) : PE X (.Call (.Name "tuple" p) [e] [] pos) (tTupleG tg) := by
  refine ⟨fun pins s σ H Q I hq => ?_⟩
  refine wpAny_Call_Name_kw (ld_blt I hg hmg (u := .type "tuple") (by rfl) ?_ (by decide) (by decide))
  refine PyProof.Rows.callWith_type1 ?_ he rfl
  rw [he]
  show wpAny _ _ (spliced ((false, eval e X.env) :: backTo pos (starEach [] X.env))) _ _ s
  refine Calls.spliced_cons (thn (h.run pins s σ H _ I hq) fun u s1 ⟨H1, sc, ex, I1, hex, hG⟩ => ?_)
  refine Calls.spliced_nil ?_
  refine call_tuple_gx hr I1.ok.frames hG fun acc s' hd => ?_
  obtain ⟨H', ys, q1, q2, q3, q4, q5, q6, q7⟩ := hd
  have I2 : Inv X pins σ H' s' := I1.call' (ch := ex) q3 q5 q6 q4 hex
  refine ⟨.ref s'.heap.objs.size, _, I2.laid (t' := s'.toks) (fun b o e => Heap.get?_push_of_some _ e) (Nat.le_refl _) (o := .tup ys) ⟨q2, acc.toList, q1, ?_⟩, rfl, q7 _ (I2.hok.fresh (Nat.le_refl _))⟩
  exact ⟨_, Heap.get?_push_size _ rfl, rfl, 0, by simp⟩
end
/-- a genexp's turns over a walk -/
theorem gx_it {J : It} {n : Nat} {G : Hp → Prop} {Y : Nat → Hp → V → Hp → Prop} (w : Walk J n G Y) {g : TG} {tt : TT} {te : TE} {vs : List Nat} {σ : L2.St} {H1 : Hp} {cont : List V → Hp → Prop} (Pv : Nat → List V → Hp → Prop) (h0 : Pv 0 [] H1) (hG : ∀ i ys H, i ≤ n → Pv i ys H → G H)
    (hs : ∀ i x ys H H', i < n → Pv i ys H → Y i H x H' → g x (wipe σ vs) H' fun σ2 H2 => wipe σ2 vs = wipe σ vs ∧ tt σ2 H2 fun b H3 =>
      if b = true then te σ2 H3 fun y H4 => ys.length < sizeLine ∧ Pv (i + 1) (ys ++ [y]) H4 else Pv (i + 1) ys H3) (hd : ∀ ys H, Pv n ys H → cont ys H) :
    ∃ W : Nat → Nat → List V → Hp → Prop, (∃ m, W 0 m [] H1) ∧ ∀ i m ys H, W i m ys H →
      (J.stop i H ∧ cont ys H) ∨ (J.go i H ∧ ∃ Nx : List V → Hp → Prop, (∀ ys' H', Nx ys' H' → ∃ m', m' < m ∧ W (i + 1) m' ys' H') ∧ ∀ x H', J.yld i H x H' → g x (wipe σ vs) H' fun σ2 H2 => wipe σ2 vs = wipe σ vs ∧ tt σ2 H2 fun b H3 =>
        if b = true then te σ2 H3 fun y H4 => ys.length < sizeLine ∧ Nx (ys ++ [y]) H4 else Nx ys H3) := by
  refine ⟨fun i m ys H => m = n - i ∧ i ≤ n ∧ Pv i ys H, ⟨n, by simp, Nat.zero_le _, h0⟩, ?_⟩
  rintro i m ys H ⟨rfl, hi, p⟩
  have q := hG i ys H hi p
  by_cases hlt : i < n
  · refine .inr ⟨w.goes i H hlt q, Pv (i + 1), fun ys' H' p' => ⟨n - (i + 1), by omega, rfl, hlt, p'⟩, fun x H' y => hs i x ys H H' hlt p (w.yields i H x H' hlt q y)⟩
  · have e : i = n := by omega
    subst e
    exact .inl ⟨w.stops H q, hd ys H p⟩
end Gx


/-! ledgers by counting: what stands in one stands in another, in any order -/
namespace Sd
open PySem L2
open Classical in
noncomputable def one1 (a x : Addr × HO) : Nat := if x = a then 1 else 0
noncomputable def cnt (a : Addr × HO) : Lg → Nat
  | [] => 0
  | x :: r => one1 a x + cnt a r
theorem cnt_nil {a : Addr × HO} : cnt a [] = 0 := rfl
theorem cnt_cons {a x : Addr × HO} {r : Lg} : cnt a (x :: r) = one1 a x + cnt a r := rfl
theorem cnt_app {a : Addr × HO} : ∀ {A B : Lg}, cnt a (A ++ B) = cnt a A + cnt a B
  | [], B => by rw [List.nil_append, cnt_nil, Nat.zero_add]
  | x :: r, B => by rw [List.cons_append, cnt_cons, cnt_cons, cnt_app]; omega
theorem cnt_pos {a : Addr × HO} : ∀ {A : Lg}, 0 < cnt a A → a ∈ A
  | [], h => by rw [cnt_nil] at h; omega
  | x :: r, h => by
    by_cases e : x = a
    · rw [e]; exact List.mem_cons_self
    · rw [cnt_cons, one1, if_neg e, Nat.zero_add] at h
      exact List.mem_cons_of_mem _ (cnt_pos h)
theorem Led.le_aux {H : Hp} : ∀ (B C L : Lg), Led H (C ++ L) → (∀ a, cnt a B ≤ cnt a L) → Led H (C ++ B)
  | [], C, L, h, _ => by rw [List.append_nil]; exact h.left
  | x :: r, C, L, h, e => by
    have h1 := e x
    have o1 : one1 x x = 1 := by unfold one1; rw [if_pos rfl]
    rw [cnt_cons, o1] at h1
    obtain ⟨A, B, rfl⟩ := List.append_of_mem (cnt_pos (show 0 < cnt x L by omega))
    have h2 : Led H ((C ++ [x]) ++ (A ++ B)) := by
      refine h.perm ?_
      rw [List.append_assoc]
      exact List.perm_middle.append_left C
    have := Led.le_aux r (C ++ [x]) (A ++ B) h2 fun a => by
      have := e a
      rw [cnt_cons, cnt_app, cnt_cons] at this
      rw [cnt_app]; omega
    rw [List.append_assoc] at this
    exact this
theorem Led.le {H : Hp} {B L : Lg} (h : Led H L) (e : ∀ a, cnt a B ≤ cnt a L) : Led H B := Led.le_aux B [] L h e
section
variable {K : PySem.W.Frag} {H : Hp} {L : Lg} {l : Addr} {xs : List V}
theorem k_lenL2 {P : List V → Prop} (hL : Led H L) (e : At L l (.lst xs)) (q : P xs) : ∃ p ys, [V.ref l] = [.ref p] ∧ (SqL K H p ys ∨ SqT K H p ys) ∧ P ys := ⟨_, _, rfl, .inl (.of (hL.at e)), q⟩
theorem k_lenT2 {P : List V → Prop} (hL : Led H L) (e : At L l (.tup xs)) (q : P xs) : ∃ p ys, [V.ref l] = [.ref p] ∧ (SqL K H p ys ∨ SqT K H p ys) ∧ P ys := ⟨_, _, rfl, .inr (.of (hL.at e)), q⟩
end
/-! loops with the ends told by what they take -/
/-- the ends of a turn: what stands behind it, a return, a break -/
structure EndsA (N : L2.St → Hp → Prop) (D D' : Ends) : Prop where
  nx : ∀ σ H, N σ H → D'.nx σ H
  ct : ∀ σ H, N σ H → D'.ct σ H
  bk : ∀ σ H, D.nx σ H → D'.bk σ H
  rt : ∀ v H, D.rt v H → D'.rt v H
section
variable {K : PySem.W.Frag} {a : Addr} {xs : List V} {g : TG} {tb : TS} {D : Ends} {σ : L2.St} {H : Hp}
theorem for_listA (Pv : Nat → L2.St → Hp → Prop) (h0 : Pv 0 σ H) (hl : ∀ i σ H, i ≤ xs.length → Pv i σ H → SqL K H a xs)
    (hs : ∀ i x σ H (D' : Ends), xs[i]? = some x → Pv i σ H → EndsA (Pv (i + 1)) D D' → g x σ H fun σ2 H2 => tb D' σ2 H2) (hd : ∀ σ H, Pv xs.length σ H → D.nx σ H) :
    ∃ W : Nat → Nat → L2.St → Hp → Prop, (∃ m, W 0 m σ H) ∧ ∀ i m σ H, W i m σ H →
      ((Itl K a).stop i H ∧ D.nx σ H) ∨ ((Itl K a).go i H ∧ ∃ N : L2.St → Hp → Prop, (∀ σ' H', N σ' H' → ∃ m', m' < m ∧ W (i + 1) m' σ' H') ∧ ∀ x H', (Itl K a).yld i H x H' → g x σ H' fun σ2 H2 => tb { D with nx := N, ct := N, bk := D.nx } σ2 H2) :=
  for_list Pv h0 hl (fun i x σ H hi h => hs i x σ H _ hi h ⟨fun _ _ q => q, fun _ _ q => q, fun _ _ q => q, fun _ _ q => q⟩) hd
theorem for_tupA (Pv : Nat → L2.St → Hp → Prop) (h0 : Pv 0 σ H) (hl : ∀ i σ H, i ≤ xs.length → Pv i σ H → SqT K H a xs)
    (hs : ∀ i x σ H (D' : Ends), xs[i]? = some x → Pv i σ H → EndsA (Pv (i + 1)) D D' → g x σ H fun σ2 H2 => tb D' σ2 H2) (hd : ∀ σ H, Pv xs.length σ H → D.nx σ H) :
    ∃ W : Nat → Nat → L2.St → Hp → Prop, (∃ m, W 0 m σ H) ∧ ∀ i m σ H, W i m σ H →
      ((Itt K a).stop i H ∧ D.nx σ H) ∨ ((Itt K a).go i H ∧ ∃ N : L2.St → Hp → Prop, (∀ σ' H', N σ' H' → ∃ m', m' < m ∧ W (i + 1) m' σ' H') ∧ ∀ x H', (Itt K a).yld i H x H' → g x σ H' fun σ2 H2 => tb { D with nx := N, ct := N, bk := D.nx } σ2 H2) :=
  for_tup Pv h0 hl (fun i x σ H hi h => hs i x σ H _ hi h ⟨fun _ _ q => q, fun _ _ q => q, fun _ _ q => q, fun _ _ q => q⟩) hd
theorem for_rangeA {lo : Int} {n : Nat} (Pv : Nat → L2.St → Hp → Prop) (h0 : Pv 0 σ H)
    (hs : ∀ i σ H (D' : Ends), i < n → Pv i σ H → EndsA (Pv (i + 1)) D D' → g (.int (lo + i)) σ H fun σ2 H2 => tb D' σ2 H2) (hd : ∀ σ H, Pv n σ H → D.nx σ H) :
    ∃ W : Nat → Nat → L2.St → Hp → Prop, (∃ m, W 0 m σ H) ∧ ∀ i m σ H, W i m σ H →
      ((Itr lo n).stop i H ∧ D.nx σ H) ∨ ((Itr lo n).go i H ∧ ∃ N : L2.St → Hp → Prop, (∀ σ' H', N σ' H' → ∃ m', m' < m ∧ W (i + 1) m' σ' H') ∧ ∀ x H', (Itr lo n).yld i H x H' → g x σ H' fun σ2 H2 => tb { D with nx := N, ct := N, bk := D.nx } σ2 H2) :=
  for_range Pv h0 (fun i σ H hi h => hs i σ H _ hi h ⟨fun _ _ q => q, fun _ _ q => q, fun _ _ q => q, fun _ _ q => q⟩) hd
theorem for_itA {J : It} {n : Nat} {G : Hp → Prop} {Y : Nat → Hp → V → Hp → Prop} (w : Walk J n G Y) (Pv : Nat → L2.St → Hp → Prop) (h0 : Pv 0 σ H) (hG : ∀ i σ H, i ≤ n → Pv i σ H → G H)
    (hs : ∀ i x σ H H' (D' : Ends), i < n → Pv i σ H → Y i H x H' → EndsA (Pv (i + 1)) D D' → g x σ H' fun σ2 H2 => tb D' σ2 H2) (hd : ∀ σ H, Pv n σ H → D.nx σ H) :
    ∃ W : Nat → Nat → L2.St → Hp → Prop, (∃ m, W 0 m σ H) ∧ ∀ i m σ H, W i m σ H →
      (J.stop i H ∧ D.nx σ H) ∨ (J.go i H ∧ ∃ N : L2.St → Hp → Prop, (∀ σ' H', N σ' H' → ∃ m', m' < m ∧ W (i + 1) m' σ' H') ∧ ∀ x H', J.yld i H x H' → g x σ H' fun σ2 H2 => tb { D with nx := N, ct := N, bk := D.nx } σ2 H2) :=
  for_it w Pv h0 hG (fun i x σ H H' hi h hy => hs i x σ H H' _ hi h hy ⟨fun _ _ q => q, fun _ _ q => q, fun _ _ q => q, fun _ _ q => q⟩) hd
/-- the ends of what is done while d is locked -/
structure EndsL (d : Addr) (od : Obj) (u : HO) (D D' : Ends) : Prop where
  nx : ∀ σ H, H d = some (.frz od u) → D.nx σ (L2.upd H d u) → D'.nx σ H
  rt : ∀ v H, H d = some (.frz od u) → D.rt v (L2.upd H d u) → D'.rt v H
  bk : ∀ σ H, H d = some (.frz od u) → D.bk σ (L2.upd H d u) → D'.bk σ H
  ct : ∀ σ H, H d = some (.frz od u) → D.ct σ (L2.upd H d u) → D'.ct σ H
theorem lockA {t : TS} {d : Addr} {u : HO} (hd : H d = some u) (mu : Mut (some u)) (h : ∀ od (D' : Ends), EndsL d od u D D' → t D' σ (L2.upd H d (.frz od u))) : tLock t D σ H :=
  ⟨d, u, hd, mu, fun od => h od _ ⟨fun _ _ a b => ⟨a, b⟩, fun _ _ a b => ⟨a, b⟩, fun _ _ a b => ⟨a, b⟩, fun _ _ a b => ⟨a, b⟩⟩⟩
end
end Sd


/-! sorted lists of texts: one order only -/
namespace Sd
open PySem PySem.Spec PyProof.Rows L2
theorem str_ext {x y : Str} (h : x.cps.toList = y.cps.toList) : x = y := by
  cases x; cases y
  simp only [Str.mk.injEq]
  exact Array.toList_inj.mp h
theorem rising_pw : ∀ {l : List Str} {p : Str}, risingS p l = true → ((p :: l).map (·.cps.toList)).Pairwise (· ≤ ·)
  | [], p, _ => by simp
  | x :: r, p, h => by
    have h : (!ltCps x.cps.toList p.cps.toList && risingS x r) = true := h
    rw [Bool.and_eq_true] at h
    have ih := rising_pw h.2
    have h1 : p.cps.toList ≤ x.cps.toList := by
      have := h.1
      rw [ltCps_eq] at this
      simpa using this
    rw [List.map_cons]
    refine List.pairwise_cons.mpr ⟨fun y hy => ?_, ih⟩
    rw [List.map_cons] at hy
    rcases List.mem_cons.mp hy with e | hy
    · rw [e]; exact h1
    · exact Std.le_trans h1 ((List.pairwise_cons.mp ih).1 y hy)
theorem sorted_pw {l : List Str} (h : sortedS l = true) : (l.map (·.cps.toList)).Pairwise (· ≤ ·) := by
  cases l with
  | nil => simp
  | cons x r => exact rising_pw h
theorem sortedS_uniq {xs ys : List Str} (p : ys.Perm xs) (h1 : sortedS ys = true) (h2 : sortedS xs = true) : ys = xs := by
  have e : ys.map (·.cps.toList) = xs.map (·.cps.toList) := List.Perm.eq_of_pairwise (le := (· ≤ ·)) (fun a b _ _ h3 h4 => Std.le_antisymm h3 h4) (sorted_pw h1) (sorted_pw h2) (p.map _)
  exact List.map_inj_right (fun _ _ h => str_ext h) |>.mp e
end Sd


/-! rules within a comprehension (.blk) or a generator expression (.gx), told with the outer K; words for texts -/
namespace Sd
open PySem PySem.Spec PyProof.Rows L2
section
variable {X : Cx} {s : Shared} {H : Hp} {scope : Scope} {env : Env} {fp : List Addr} {e : Expr} {f : Str} {pos : Pos} {ta : TE}
theorem pe_fldB (he : PE (X.blk s H scope env fp) e ta) (hb : attributeBase e f env (eval e env) = eval e env) : PE (X.blk s H scope env fp) (.Attribute e f pos) (tFld X.K ta f) := pe_fld he hb
theorem ix_tupB : IxR (X.blk s H scope env fp) (rIxT X.K) := ix_tup
theorem ix_listB : IxR (X.blk s H scope env fp) (rIxL X.K) := ix_list
theorem pi_listB {tg e : Expr} {te : TE} (he : PE (X.blk s H scope env fp) e te) : PI (X.blk s H scope env fp) tg e (iList X.K te) := pi_list he
theorem call_dictPB (hcalm : X.calm = true) : CallR (X.blk s H scope env fp) (.type "dict") (fun xs H Q => ∃ (a : Addr) (ps : List Addr) (kvs : List (Key × V)), xs = [.ref a] ∧ SqL X.K H a (ps.map V.ref) ∧ Paired (fun p kv => SqT X.K H p [kV kv.1, kv.2]) ps kvs ∧ ∀ p, H p = none → Q (.ref p) (upd H p (.dK (mergeK [] kvs)))) := call_dictP hcalm
theorem op_in_seqB : OpR (X.blk s H scope env fp) (compareOp .In) (rIn X.K false) := op_in_seq
theorem op_notIn_seqB : OpR (X.blk s H scope env fp) (compareOp .NotIn) (rIn X.K true) := op_notIn_seq
theorem op_eqPB (hu : (X.blk s H scope env fp).A.units + 64 < cLine) : OpR (X.blk s H scope env fp) (compareOp .Eq) (rEqP X.K) := op_eqP hu
theorem op_nePB (hu : (X.blk s H scope env fp).A.units + 64 < cLine) : OpR (X.blk s H scope env fp) (compareOp .NotEq) (rNeP X.K) := op_neP hu
end
section
variable {X : Cx} {A : Around} {s : Shared} {H : Hp} {env : Env} {fp : List Addr} {pn : List (Addr × Obj)} {e : Expr} {f : Str} {pos : Pos} {ta : TE}
theorem pe_fldG (he : PE (Gx.gx X A s H env fp pn) e ta) (hb : attributeBase e f env (eval e env) = eval e env) : PE (Gx.gx X A s H env fp pn) (.Attribute e f pos) (tFld X.K ta f) := pe_fld he hb
theorem ix_tupG : IxR (Gx.gx X A s H env fp pn) (rIxT X.K) := ix_tup
theorem ix_listG : IxR (Gx.gx X A s H env fp pn) (rIxL X.K) := ix_list
theorem op_in_seqG : OpR (Gx.gx X A s H env fp pn) (compareOp .In) (rIn X.K false) := op_in_seq
theorem op_notIn_seqG : OpR (Gx.gx X A s H env fp pn) (compareOp .NotIn) (rIn X.K true) := op_notIn_seq
end
/-! texts in lists -/
theorem in_strs {x : Str} {ns : List Str} : inV (.str x) (ns.map .str) = decide (x ∈ ns) := by
  unfold inV
  induction ns with
  | nil => simp
  | cons y r ih =>
    rw [List.map_cons, List.any_cons, ih]
    show (y == x || _) = _
    by_cases e : y = x
    · subst e; simp
    · simp [e, Ne.symm e]
theorem flat_strs {ns : List Str} : (ns.map V.str).all flatV = true := by
  rw [List.all_map, List.all_eq_true]; exact fun _ _ => rfl
theorem eqvAll_strs : ∀ (a b : List Str), PyData.eqvAll (a.map PyData.str) (b.map PyData.str) = decide (a = b)
  | [], [] => by simp [PyData.eqvAll]
  | [], _ :: _ => by simp [PyData.eqvAll]
  | _ :: _, [] => by simp [PyData.eqvAll]
  | x :: r, y :: s => by
    rw [List.map_cons, List.map_cons, PyData.eqvAll, eqvAll_strs r s]
    by_cases e : x = y <;> simp [PyData.eqv, e]
theorem eqv_strs {a b : List Str} : PyData.eqv (.list (a.map PyData.str)) (.list (b.map PyData.str)) = decide (a = b) := by
  rw [PyData.eqv]; exact eqvAll_strs a b
section
variable {K : PySem.W.Frag} {H : Hp} {L : Lg} {p q : Addr} {a b : List Str} {Q : VK} {xs ys : List V}
theorem k_neStrs (hL : Led H L) (h1 : At L p (.lst xs)) (h2 : At L q (.lst ys)) (e1 : xs = a.map V.str) (e2 : ys = b.map V.str) (k : Q (.bl (!decide (a = b))) H) : rNeP K (.ref p) (.ref q) H Q :=
  ⟨_, _, dp_lst (e1 ▸ hL.at h1) dp_strs, dp_lst (e2 ▸ hL.at h2) dp_strs, shal_strs, shal_strs, by rw [eqv_strs]; exact k⟩
theorem k_eqStrs (hL : Led H L) (h1 : At L p (.lst xs)) (h2 : At L q (.lst ys)) (e1 : xs = a.map V.str) (e2 : ys = b.map V.str) (k : Q (.bl (decide (a = b))) H) : rEqP K (.ref p) (.ref q) H Q :=
  ⟨_, _, dp_lst (e1 ▸ hL.at h1) dp_strs, dp_lst (e2 ▸ hL.at h2) dp_strs, shal_strs, shal_strs, by rw [eqv_strs]; exact k⟩
theorem k_inS {x : Str} {ns : List Str} (hL : Led H L) (h1 : At L p (.lst (ns.map V.str))) (k : Q (.bl (decide (x ∈ ns))) H) : rIn K false (.str x) (.ref p) H Q :=
  ⟨_, _, rfl, .inl (.of (hL.at h1)), rfl, flat_strs, by rw [in_strs]; exact k⟩
theorem k_ninS {x : Str} {ns : List Str} (hL : Led H L) (h1 : At L p (.lst (ns.map V.str))) (k : Q (.bl (!decide (x ∈ ns))) H) : rIn K true (.str x) (.ref p) H Q :=
  ⟨_, _, rfl, .inl (.of (hL.at h1)), rfl, flat_strs, by rw [in_strs]; exact k⟩
end
theorem mergeK_dz {names : List Str} {vals : List V} (h : names.Nodup) (hl : names.length = vals.length) : mergeK [] (dz names vals) = dz names vals := by
  rw [mergeK_nd]
  · rfl
  · have : (dz names vals).map (·.1) = names.map (Sum.inr : Str → Key) := by
      unfold dz
      rw [← List.unzip_fst, List.unzip_zip (by simpa using hl)]
    rw [List.nil_append, this]
    exact List.pairwise_map.mpr (h.imp fun ne q => ne (Sum.inr.inj q))
theorem paired_map {α β γ : Type} {F : β → γ → Prop} {f : α → β} {g : α → γ} : ∀ {l : List α}, (∀ x ∈ l, F (f x) (g x)) → Paired F (l.map f) (l.map g)
  | [], _ => .nil
  | x :: r, h => .cons (h x List.mem_cons_self) (paired_map fun y hy => h y (.tail _ hy))
end Sd


/-! dicts with text keys, told by lists of (name, what) -/
namespace Sd
open PySem L2
def aget {α : Type} : List (Str × α) → Str → Option α
  | [], _ => none
  | x :: r, k => if x.1 = k then some x.2 else aget r k
def aput {α : Type} : List (Str × α) → Str → α → List (Str × α)
  | [], k, v => [(k, v)]
  | x :: r, k, v => if x.1 = k then (k, v) :: r else x :: aput r k v
def adel {α : Type} : List (Str × α) → Str → List (Str × α)
  | [], _ => []
  | x :: r, k => if x.1 = k then r else x :: adel r k
theorem aget_none {α : Type} {k : Str} : ∀ {l : List (Str × α)}, k ∉ l.map (·.1) → aget l k = none
  | [], _ => rfl
  | x :: r, h => by
    have h1 : ¬ x.1 = k := fun e => h (by rw [← e]; exact List.mem_cons_self)
    rw [aget, if_neg h1]
    exact aget_none fun m => h (List.mem_cons_of_mem _ m)
theorem aget_some {α : Type} {k : Str} {v : α} : ∀ {l : List (Str × α)}, aget l k = some v → k ∈ l.map (·.1)
  | x :: r, h => by
    by_cases e : x.1 = k
    · rw [← e]; exact List.mem_cons_self
    · rw [aget, if_neg e] at h
      exact List.mem_cons_of_mem _ (aget_some h)
theorem aget_in {α : Type} {k : Str} : ∀ {l : List (Str × α)}, k ∈ l.map (·.1) → ∃ v, aget l k = some v
  | x :: r, h => by
    by_cases e : x.1 = k
    · exact ⟨x.2, by rw [aget, if_pos e]⟩
    · rw [aget, if_neg e]
      refine aget_in ?_
      rcases List.mem_cons.mp h with z | z
      · exact absurd z.symm e
      · exact z
theorem aput_names_in {α : Type} {k : Str} {v : α} : ∀ {l : List (Str × α)}, k ∈ l.map (·.1) → (aput l k v).map (·.1) = l.map (·.1)
  | x :: r, h => by
    by_cases e : x.1 = k
    · rw [aput, if_pos e]; simp [e]
    · rw [aput, if_neg e]
      rw [List.map_cons, List.map_cons, aput_names_in]
      rcases List.mem_cons.mp h with z | z
      · exact absurd z.symm e
      · exact z
theorem aput_names_out {α : Type} {k : Str} {v : α} : ∀ {l : List (Str × α)}, k ∉ l.map (·.1) → aput l k v = l ++ [(k, v)]
  | [], _ => rfl
  | x :: r, h => by
    have h1 : ¬ x.1 = k := fun e => h (by rw [← e]; exact List.mem_cons_self)
    rw [aput, if_neg h1, aput_names_out fun m => h (List.mem_cons_of_mem _ m)]
    rfl
theorem aget_put {α : Type} {k j : Str} {v : α} : ∀ {l : List (Str × α)}, aget (aput l k v) j = if k = j then some v else aget l j
  | [] => by
    show aget [(k, v)] j = _
    unfold aget
    rfl
  | x :: r => by
    by_cases e : x.1 = k
    · rw [aput, if_pos e]
      by_cases e2 : k = j
      · rw [aget, if_pos e2, if_pos e2]
      · rw [aget, if_neg e2, if_neg e2]
        rw [aget, if_neg (by rw [e]; exact e2)]
    · rw [aput, if_neg e]
      by_cases e2 : x.1 = j
      · rw [aget, if_pos e2, aget, if_pos e2, if_neg (fun z => e (e2.trans z.symm))]
      · rw [aget, if_neg e2, aget_put, aget, if_neg e2]
theorem aget_del {α : Type} {k j : Str} : ∀ {l : List (Str × α)}, (l.map (·.1)).Nodup → aget (adel l k) j = if k = j then none else aget l j
  | [], _ => by simp [adel, aget]
  | x :: r, nd => by
    obtain ⟨n1, n2⟩ := List.nodup_cons.mp nd
    by_cases e : x.1 = k
    · rw [adel, if_pos e]
      by_cases e2 : k = j
      · rw [if_pos e2]
        exact aget_none (by rw [← e2, ← e]; exact n1)
      · rw [if_neg e2, aget, if_neg (by rw [e]; exact e2)]
    · rw [adel, if_neg e]
      by_cases e2 : x.1 = j
      · rw [aget, if_pos e2, aget, if_pos e2, if_neg (fun z => e (e2.trans z.symm))]
      · rw [aget, if_neg e2, aget_del n2, aget, if_neg e2]
theorem adel_names {α : Type} {k : Str} : ∀ {l : List (Str × α)}, ((adel l k).map (·.1)).Sublist (l.map (·.1))
  | [] => .refl _
  | x :: r => by
    by_cases e : x.1 = k
    · rw [adel, if_pos e]; exact List.sublist_cons_self _ _
    · rw [adel, if_neg e]; exact adel_names.cons_cons _
section
variable {α : Type} {vo : Str × α → V} {l : List (Str × α)} {k : Str}
def kk (vo : Str × α → V) (x : Str × α) : Key × V := (Sum.inr x.1, vo x)
theorem kk_val : valV (l.map (kk vo)) (.inr k) = (aget l k).map fun v => vo (k, v) := by
  induction l with
  | nil => rfl
  | cons x r ih =>
    by_cases e : x.1 = k
    · rw [List.map_cons, valV_pos (p := kk vo x) (by show Sum.inr x.1 = _; rw [e]), aget, if_pos e]
      show some (vo x) = some (vo (k, x.2))
      rw [← e]
    · rw [List.map_cons, valV_neg (p := kk vo x) (fun z => e (Sum.inr.inj z)), ih, aget, if_neg e]
theorem kk_any : ((l.map (kk vo)).any fun kv => decide (kv.1 = (Sum.inr k : Key))) = decide (k ∈ l.map (·.1)) := by
  induction l with
  | nil => rfl
  | cons x r ih =>
    rw [List.map_cons, List.any_cons, ih]
    have e1 : decide ((kk vo x).1 = (Sum.inr k : Key)) = decide (x.1 = k) := decide_eq_decide.mpr ⟨fun z => Sum.inr.inj z, fun z => by show Sum.inr x.1 = _; rw [z]⟩
    rw [e1]
    by_cases e : x.1 = k
    · simp [e]
    · have e' : ¬ k = x.1 := fun z => e z.symm
      simp [e, e']
theorem kk_put {v : α} (nd : (l.map (·.1)).Nodup) : putK (l.map (kk vo)) (.inr k) (vo (k, v)) = (aput l k v).map (kk vo) := by
  unfold putK
  rw [kk_any]
  by_cases h : k ∈ l.map (·.1)
  · rw [if_pos (decide_eq_true h)]
    induction l with
    | nil => simp at h
    | cons x r ih =>
      obtain ⟨n1, n2⟩ := List.nodup_cons.mp nd
      by_cases e : x.1 = k
      · rw [aput, if_pos e, List.map_cons, List.map_cons, List.map_cons, if_pos (by show Sum.inr x.1 = _; rw [e])]
        congr 1
        · show (Sum.inr x.1, _) = (Sum.inr k, _)
          rw [e]
        · refine (List.map_congr_left fun y hy => ?_).trans (List.map_id _)
          refine if_neg fun z => n1 ?_
          obtain ⟨q, hq, rfl⟩ := List.mem_map.mp hy
          have z : q.1 = k := Sum.inr.inj z
          exact List.mem_map.mpr ⟨q, hq, z.trans e.symm⟩
      · rw [aput, if_neg e, List.map_cons, List.map_cons, List.map_cons, if_neg (show ¬ (kk vo x).1 = (Sum.inr k : Key) from fun z => e (Sum.inr.inj z))]
        congr 1
        refine ih n2 ?_
        rcases List.mem_cons.mp h with z | z
        · exact absurd z.symm e
        · exact z
  · rw [if_neg (by rw [decide_eq_false h]; decide), aput_names_out h, List.map_append]
    rfl
theorem kk_drop (nd : (l.map (·.1)).Nodup) : dropK (l.map (kk vo)) (.inr k) = (adel l k).map (kk vo) := by
  unfold dropK
  induction l with
  | nil => rfl
  | cons x r ih =>
    obtain ⟨n1, n2⟩ := List.nodup_cons.mp nd
    by_cases e : x.1 = k
    · rw [adel, if_pos e, List.map_cons, List.filter_cons, if_neg (by simp [kk, e])]
      refine List.filter_eq_self.mpr fun y hy => ?_
      obtain ⟨q, hq, rfl⟩ := List.mem_map.mp hy
      have : ¬ q.1 = k := fun z => n1 (List.mem_map.mpr ⟨q, hq, z.trans e.symm⟩)
      simp [kk, this]
    · rw [adel, if_neg e, List.map_cons, List.filter_cons, if_pos (by simp [kk, e]), List.map_cons, ih n2]
theorem aput_map {α β : Type} {f : α → β} {k : Str} {v : α} : ∀ {l : List (Str × α)}, (aput l k v).map (fun x => (x.1, f x.2)) = aput (l.map fun x => (x.1, f x.2)) k (f v)
  | [] => rfl
  | x :: r => by
    by_cases e : x.1 = k
    · rw [aput, if_pos e, List.map_cons, List.map_cons, aput, if_pos e]
    · rw [aput, if_neg e, List.map_cons, List.map_cons, aput, if_neg e, aput_map]
theorem adel_map {α β : Type} {f : α → β} {k : Str} : ∀ {l : List (Str × α)}, (adel l k).map (fun x => (x.1, f x.2)) = adel (l.map fun x => (x.1, f x.2)) k
  | [] => rfl
  | x :: r => by
    by_cases e : x.1 = k
    · rw [adel, if_pos e, List.map_cons, adel, if_pos e]
    · rw [adel, if_neg e, List.map_cons, List.map_cons, adel, if_neg e, adel_map]
theorem aget_map {α β : Type} {f : α → β} {k : Str} : ∀ {l : List (Str × α)}, aget (l.map fun x => (x.1, f x.2)) k = (aget l k).map f
  | [] => rfl
  | x :: r => by
    by_cases e : x.1 = k
    · rw [List.map_cons, aget, if_pos e, aget, if_pos e]; rfl
    · rw [List.map_cons, aget, if_neg e, aget, if_neg e, aget_map]
end
theorem at_mem {L : Lg} {a : Addr} {o : HO} (h : (a, o) ∈ L) : At L a o := let ⟨i, hi, e⟩ := List.getElem_of_mem h; ⟨i, by rw [List.getElem?_eq_getElem hi, e]⟩
theorem nodup_len {α : Type} [DecidableEq α] : ∀ {l U : List α}, l.Nodup → (∀ k ∈ l, k ∈ U) → l.length ≤ U.length
  | [], _, _, _ => Nat.zero_le _
  | x :: r, U, nd, h => by
    obtain ⟨n1, n2⟩ := List.nodup_cons.mp nd
    have hx := h x List.mem_cons_self
    have := nodup_len (U := U.erase x) n2 fun k hk => (List.mem_erase_of_ne (fun e => n1 (by rw [← e]; exact hk))).mpr (h k (.tail _ hk))
    rw [List.length_erase_of_mem hx] at this
    have h0 : 0 < U.length := List.length_pos_of_mem hx
    rw [List.length_cons]
    omega
theorem kk_names {α : Type} {vo : Str × α → V} {l : List (Str × α)} : (l.map (kk vo)).map (·.1) = (l.map (·.1)).map Sum.inr := by
  rw [List.map_map, List.map_map]; rfl
theorem aput_nd {α : Type} {k : Str} {v : α} {l : List (Str × α)} (h : (l.map (·.1)).Nodup) : ((aput l k v).map (·.1)).Nodup := by
  by_cases hk : k ∈ l.map (·.1)
  · rw [aput_names_in hk]; exact h
  · rw [aput_names_out hk, List.map_append]
    exact List.nodup_append.mpr ⟨h, by simp, fun a ha b hb => by
      rw [List.map_cons, List.map_nil, List.mem_singleton] at hb
      rw [hb]
      exact fun e => hk ((show a = k from e) ▸ ha)⟩
theorem aput_mem {α : Type} {k j : Str} {v : α} {l : List (Str × α)} (h : j ∈ (aput l k v).map (·.1)) : j = k ∨ j ∈ l.map (·.1) := by
  by_cases hk : k ∈ l.map (·.1)
  · rw [aput_names_in hk] at h; exact .inr h
  · rw [aput_names_out hk, List.map_append] at h
    rcases List.mem_append.mp h with h | h
    · exact .inr h
    · exact .inl (by simpa using h)
theorem adel_mem {α : Type} {k j : Str} : ∀ {l : List (Str × α)}, j ∈ l.map (·.1) → j ≠ k → j ∈ (adel l k).map (·.1)
  | x :: r, h, ne => by
    by_cases e : x.1 = k
    · rw [adel, if_pos e]
      rcases List.mem_cons.mp h with z | z
      · exact absurd (z.trans e) ne
      · exact z
    · rw [adel, if_neg e]
      rcases List.mem_cons.mp h with z | z
      · rw [z]; exact List.mem_cons_self
      · exact List.mem_cons_of_mem _ (adel_mem z ne)
theorem aget_split {α : Type} {k : Str} {v : α} : ∀ {l : List (Str × α)}, aget l k = some v → ∃ B C, l = B ++ (k, v) :: C ∧ ∀ v', aput l k v' = B ++ (k, v') :: C
  | x :: r, h => by
    by_cases e : x.1 = k
    · rw [aget, if_pos e] at h
      obtain rfl := Option.some.inj h
      exact ⟨[], r, by rw [← e]; rfl, fun v' => by rw [aput, if_pos e]; rfl⟩
    · rw [aget, if_neg e] at h
      obtain ⟨B, C, e1, e2⟩ := aget_split h
      exact ⟨x :: B, C, by rw [e1]; rfl, fun v' => by rw [aput, if_neg e, e2 v']; rfl⟩
theorem aput_self {α : Type} {k : Str} {v : α} {l : List (Str × α)} (h : aget l k = some v) : aput l k v = l := by
  obtain ⟨B, C, e1, e2⟩ := aget_split h
  rw [e2, ← e1]
theorem k_dgetR {H : Hp} {a : Addr} {kvs : List (Key × V)} {v : V} {P : Addr → V → Prop} {x : Str} (r : Rd H a (.dK kvs)) (lk : valV kvs (.inr x) = some v) (q : P a v) : ∃ a' v', V.ref a = .ref a' ∧ DGet H a' (.str x) (some v') ∧ P a' v' :=
  ⟨_, _, rfl, .inl ⟨kvs, .inr x, r, rfl, lk.symm⟩, q⟩
theorem adel_none {α : Type} {k : Str} : ∀ {l : List (Str × α)}, aget l k = none → adel l k = l
  | [], _ => rfl
  | x :: r, h => by
    by_cases e : x.1 = k
    · rw [aget, if_pos e] at h; cases h
    · rw [aget, if_neg e] at h
      rw [adel, if_neg e, adel_none h]
theorem aput_nm {α : Type} {l : List (Str × α)} {k : Str} {v : α} {ns : List Str} (h : l.map (·.1) = ns) (hk : k ∈ ns) : (aput l k v).map (·.1) = ns := by
  rw [aput_names_in (by rw [h]; exact hk)]; exact h
theorem aget_const {α : Type} {v : α} {k : Str} : ∀ {ns : List Str}, k ∈ ns → aget (ns.map fun n => (n, v)) k = some v
  | x :: r, h => by
    by_cases z : x = k
    · rw [List.map_cons, aget, if_pos z]
    · rw [List.map_cons, aget, if_neg z]
      exact aget_const ((List.mem_cons.mp h).resolve_left fun y => z y.symm)
theorem aget_mem {α : Type} {k : Str} {v : α} {l : List (Str × α)} (h : aget l k = some v) : (k, v) ∈ l := by
  obtain ⟨B, C, e, _⟩ := aget_split h
  rw [e]; exact List.mem_append_right _ List.mem_cons_self
theorem mem_aget {α : Type} {k : Str} {v : α} {l : List (Str × α)} (nd : (l.map (·.1)).Nodup) (h : (k, v) ∈ l) : aget l k = some v := by
  induction l with
  | nil => cases h
  | cons x r ih =>
    obtain ⟨n1, n2⟩ := List.nodup_cons.mp nd
    rcases List.mem_cons.mp h with e | h
    · rw [← e, aget, if_pos rfl]
    · rw [aget, if_neg]
      · exact ih n2 h
      · intro e
        exact n1 (List.mem_map.mpr ⟨_, h, e.symm⟩)
theorem foldl_take {α β : Type} {f : β → α → β} {l : List α} {i : Nat} {x : α} {b : β} (h : l[i]? = some x) : (l.take (i + 1)).foldl f b = f ((l.take i).foldl f b) x := by
  rw [List.take_add_one, h, List.foldl_append]; rfl
theorem small60 {n : Nat} (h : n < 60) : n < sizeLine := Nat.lt_of_lt_of_le h (by decide)
theorem map_take {α β : Type} {f : α → β} {l : List α} {i : Nat} {x : α} (h : l[i]? = some x) : (l.take (i + 1)).map f = (l.take i).map f ++ [f x] := by
  rw [List.take_add_one, h, List.map_append]; rfl
theorem pss_imp {X : Cx} {sts : List Stmt} {t u : TS} (h : PSs X sts t) (k : ∀ D σ H, u D σ H → t D σ H) : PSs X sts u := ⟨fun pins s σ H D I q => h.run pins s σ H D I (k D σ H q)⟩
theorem ps_imp {X : Cx} {st : Stmt} {t u : TS} (h : PS X st t) (k : ∀ D σ H, u D σ H → t D σ H) : PS X st u := ⟨fun pins s σ H D I q => h.run pins s σ H D I (k D σ H q)⟩
end Sd


/-! data with a Lean type: == and != of it; min of a list of (number, text) -/
namespace Sd
open PySem PySem.W PySem.Spec PyProof.Rows L2
/-- a tuple of three -/
structure T3 (α β γ : Type) where
  a : α
  b : β
  c : γ
deriving DecidableEq
instance {α β γ : Type} [DecidableEq α] [DecidableEq β] [DecidableEq γ] [Datum α] [Datum β] [Datum γ] : Datum (T3 α β γ) where
  toD x := .tuple [Datum.toD x.a, Datum.toD x.b, Datum.toD x.c]
  plain x := by simp [PyData.plain, PyData.plainAll, Datum.plain]
  eqv x y := by
    obtain ⟨a, b, c⟩ := x
    obtain ⟨a', b', c'⟩ := y
    simp only [PyData.eqv, PyData.eqvAll, Datum.eqv, T3.mk.injEq, Bool.and_true]
    by_cases h1 : a = a' <;> by_cases h2 : b = b' <;> by_cases h3 : c = c' <;> simp [h1, h2, h3]
  depth := max (Datum.depth α) (max (Datum.depth β) (Datum.depth γ)) + 1
  depth_le x := by
    have h1 := Datum.depth_le x.a
    have h2 := Datum.depth_le x.b
    have h3 := Datum.depth_le x.c
    simp only [PyData.depth, PyData.depthAll]
    omega
/-- a value of the heap is a Lean value -/
def Dt {α : Type} [DecidableEq α] [Datum α] (K : PySem.W.Frag) (H : Hp) (v : V) (x : α) : Prop := Dp K H v (Datum.toD x)
section
variable {K : PySem.W.Frag} {H : Hp} {α β γ : Type} [DecidableEq α] [DecidableEq β] [DecidableEq γ] [Datum α] [Datum β] [Datum γ] {x y : V} {a b : α} {Q : VK}
theorem dt_shal (h : Datum.depth α ≤ 60) : Shal (Datum.toD a) := ⟨Datum.plain a, Nat.le_trans (Datum.depth_le a) h⟩
theorem k_neD (h : Datum.depth α ≤ 60) (h1 : Dt K H x a) (h2 : Dt K H y b) (k : Q (.bl (!decide (a = b))) H) : rNeP K x y H Q :=
  ⟨_, _, h1, h2, dt_shal h, dt_shal h, by rw [Datum.eqv]; exact k⟩
theorem k_eqD (h : Datum.depth α ≤ 60) (h1 : Dt K H x a) (h2 : Dt K H y b) (k : Q (.bl (decide (a = b))) H) : rEqP K x y H Q :=
  ⟨_, _, h1, h2, dt_shal h, dt_shal h, by rw [Datum.eqv]; exact k⟩
theorem dt_int {i : Int} : Dt K H (.int i) i := .int _
theorem dt_str {i : Str} : Dt K H (.str i) i := .str _
theorem dt_pair {p : Addr} {v w : V} {x : α} {y : β} (h : H p = some (.tup [v, w])) (h1 : Dt K H v x) (h2 : Dt K H w y) : Dt K H (.ref p) (x, y) := dp_tup h (.cons h1 (.cons h2 .nil))
theorem dt_t3 {p : Addr} {u v w : V} {x : α} {y : β} {z : γ} (h : H p = some (.tup [u, v, w])) (h1 : Dt K H u x) (h2 : Dt K H v y) (h3 : Dt K H w z) : Dt K H (.ref p) (T3.mk x y z) := dp_tup h (.cons h1 (.cons h2 (.cons h3 .nil)))
theorem dt_list {δ : Type} {p : Addr} {l : List δ} {f : δ → V} {g : δ → α} (h : H p = some (.lst (l.map f))) (hl : ∀ x ∈ l, Dt K H (f x) (g x)) : Dt K H (.ref p) (l.map g) := by
  show Dp K H (.ref p) (.list ((l.map g).map Datum.toD))
  rw [List.map_map]
  exact dp_lst h (dp_all hl)
theorem dt_nil {p : Addr} (h : H p = some (.lst [])) : Dt K H (.ref p) ([] : List α) := dp_lst h .nil
end
/-! min -/
theorem minOf_spec {α : Type} [DecidableEq α] [DatumOrd α] (tr : ∀ a b c : α, DatumOrd.lt b a = false → DatumOrd.lt c b = false → DatumOrd.lt c a = false) (rf : ∀ a : α, DatumOrd.lt a a = false) (as : ∀ a b : α, DatumOrd.lt a b = true → DatumOrd.lt b a = false) :
    ∀ (xs : List α) (x : α), minOf x xs ∈ x :: xs ∧ ∀ y ∈ x :: xs, DatumOrd.lt y (minOf x xs) = false
  | [], x => ⟨.head _, fun y hy => by rw [List.mem_singleton.mp hy]; exact rf x⟩
  | z :: r, x => by
    have e : minOf x (z :: r) = minOf (if DatumOrd.lt z x = true then z else x) r := rfl
    obtain ⟨h1, h2⟩ := minOf_spec tr rf as r (if DatumOrd.lt z x = true then z else x)
    rw [e]
    by_cases q : DatumOrd.lt z x = true
    · rw [if_pos q] at h1 h2 ⊢
      refine ⟨.tail _ h1, fun y hy => ?_⟩
      rcases List.mem_cons.mp hy with rfl | hy
      · exact tr _ _ _ (h2 z (.head _)) (as _ _ q)
      · exact h2 y hy
    · rw [if_neg q] at h1 h2 ⊢
      refine ⟨?_, fun y hy => ?_⟩
      · rcases List.mem_cons.mp h1 with e1 | e1
        · rw [e1]; exact .head _
        · exact .tail _ (.tail _ e1)
      · rcases List.mem_cons.mp hy with rfl | hy
        · exact h2 _ (.head _)
        · rcases List.mem_cons.mp hy with rfl | hy
          · have q' : DatumOrd.lt y x = false := by simpa using q
            exact tr _ _ _ (h2 x (.head _)) q'
          · exact h2 y (.tail _ hy)
abbrev IS := Int × Str
/-- at most, by number, then by text -/
def leP (a b : IS) : Prop := a.1 < b.1 ∨ a.1 = b.1 ∧ a.2.cps.toList ≤ b.2.cps.toList
theorem lt_leP {a b : IS} : DatumOrd.lt b a = false ↔ leP a b := by
  show (if b.1 = a.1 then decide (b.2.cps.toList < a.2.cps.toList) else decide (b.1 < a.1)) = false ↔ _
  unfold leP
  by_cases h : b.1 = a.1
  · rw [if_pos h, decide_eq_false_iff_not, Std.not_lt]
    constructor
    · exact fun q => .inr ⟨h.symm, q⟩
    · rintro (q | ⟨_, q⟩)
      · omega
      · exact q
  · rw [if_neg h, decide_eq_false_iff_not]
    constructor
    · exact fun q => .inl (by omega)
    · rintro (q | ⟨q, _⟩)
      · omega
      · omega
theorem leP_refl {a : IS} : leP a a := .inr ⟨rfl, Std.le_refl _⟩
theorem leP_trans {a b c : IS} (h1 : leP a b) (h2 : leP b c) : leP a c := by
  rcases h1 with h1 | ⟨h1, h1'⟩ <;> rcases h2 with h2 | ⟨h2, h2'⟩
  · exact .inl (by omega)
  · exact .inl (by omega)
  · exact .inl (by omega)
  · exact .inr ⟨h1.trans h2, Std.le_trans h1' h2'⟩
theorem leP_anti {a b : IS} (h1 : leP a b) (h2 : leP b a) : a = b := by
  rcases h1 with h1 | ⟨h1, h1'⟩ <;> rcases h2 with h2 | ⟨h2, h2'⟩
  · omega
  · omega
  · omega
  · exact Prod.ext h1 (str_ext (Std.le_antisymm h1' h2'))
theorem leP_total {a b : IS} (h : ¬ leP a b) : leP b a := by
  by_cases q : DatumOrd.lt a b = false
  · exact lt_leP.mp q
  · exfalso
    refine h (lt_leP.mp ?_)
    have q : (if a.1 = b.1 then decide (a.2.cps.toList < b.2.cps.toList) else decide (a.1 < b.1)) = true := (Bool.not_eq_false _).mp q
    show (if b.1 = a.1 then decide (b.2.cps.toList < a.2.cps.toList) else decide (b.1 < a.1)) = false
    by_cases e : a.1 = b.1
    · rw [if_pos e] at q
      rw [if_pos e.symm]
      exact decide_eq_false (Std.not_lt.mpr (Std.le_of_lt (of_decide_eq_true q)))
    · rw [if_neg e] at q
      rw [if_neg (fun z => e z.symm)]
      exact decide_eq_false (by have := of_decide_eq_true q; omega)
theorem minOf_leP (x : IS) (xs : List IS) : minOf x xs ∈ x :: xs ∧ ∀ y ∈ x :: xs, leP (minOf x xs) y := by
  obtain ⟨h1, h2⟩ := minOf_spec (α := IS) (fun a b c h1 h2 => lt_leP.mpr (leP_trans (lt_leP.mp h1) (lt_leP.mp h2))) (fun a => lt_leP.mpr leP_refl) (fun a b h => by
    refine lt_leP.mpr ?_
    by_cases q : leP a b
    · exact q
    · have q2 := leP_total q
      exact absurd (lt_leP.mpr q2) (by rw [h]; decide)) xs x
  exact ⟨h1, fun y hy => lt_leP.mp (h2 y hy)⟩
/-- min(rows): a row that is at most all of them -/
def rMinP (K : PySem.W.Frag) : List V → Hp → VK → Prop := fun vs H Q => ∃ (a : Addr) (l : List (Addr × IS)), vs = [.ref a] ∧ l ≠ [] ∧ SqL K H a (l.map fun x => V.ref x.1) ∧ (∀ x ∈ l, H x.1 = some (.tup [.int x.2.1, .str x.2.2])) ∧
  ∀ x ∈ l, (∀ y ∈ l, leP x.2 y.2) → Q (.ref x.1) H
theorem cr_minP {X : Cx} (hc : X.calm = true) (hu : X.A.units + 64 < cLine) : CallR X (.builtin "min") (rMinP X.K) := by
  intro pins s σ H vs us Q I r h
  obtain ⟨a, l, rfl, hne, hs, hall, q⟩ := h
  obtain ⟨its, rv, hl, _⟩ := I.list hs
  rw [Vals.ref1 r]
  have hd : DpAll X.K H (l.map fun x => V.ref x.1) (l.map fun x => Datum.toD x.2) := dp_all fun x hx => dp_tup (hall x hx) (.cons (.int _) (.cons (.str _) .nil))
  obtain ⟨as, ra⟩ := Dp.readsAll I _ _ _ hd rv
  cases l with
  | nil => exact absurd rfl hne
  | cons x xs =>
    have HA : HoldAll s.heap its.toArray.toList (x.2 :: xs.map (·.2)) := ⟨as, by simpa [Function.comp_def] using ra⟩
    refine min_list_datum (α := IS) (I.ok.hd hc) hl.isList HA (Nat.lt_of_le_of_lt (Nat.add_le_add_left (by decide : 1 + Datum.depth IS ≤ 64) X.A.units |> fun h => by omega) hu) fun i v h' tk hi hv hk => ?_
    obtain ⟨m1, m2⟩ := minOf_leP x.2 (xs.map (·.2))
    have hi2 : its[i]? = some v := by simpa using hi
    have hlen := rv.length
    have hil : i < (x :: xs).length := by
      have := (List.getElem?_eq_some_iff.mp hi2).1
      simp only [List.length_map] at hlen
      omega
    have hx : (x :: xs)[i]? = some (x :: xs)[i] := List.getElem?_eq_getElem hil
    generalize hy : (x :: xs)[i] = y at hx
    have hmem : y ∈ x :: xs := by rw [← hy]; exact List.getElem_mem hil
    obtain ⟨u, hu1, hu2⟩ := Vals.get (x := V.ref y.1) rv (by rw [List.getElem?_map, hx]; rfl)
    rw [hi2] at hu1
    cases hu1
    obtain rfl : v = Value.ref y.1 := hu2
    obtain ⟨as1, r1⟩ := Dp.reads I (Datum.toD y.2) (.ref y.1) (.ref y.1) (dp_tup (hall y hmem) (.cons (.int _) (.cons (.str _) .nil))) rfl
    obtain ⟨as2, r2⟩ := hv
    have e := reads_det (fun b o e _ => hk b o e) r1 r2
    have e2 : y.2 = minOf x.2 (xs.map (·.2)) := by
      have := Datum.eqv y.2 (minOf x.2 (xs.map (·.2)))
      rw [← e.1] at this
      rw [Datum.eqv] at this
      simpa using this
    refine ⟨.ref y.1, H, I.kept hk, rfl, q y hmem fun z hz => ?_⟩
    rw [e2]
    refine m2 z.2 ?_
    rcases List.mem_cons.mp hz with rfl | hz
    · exact .head _
    · exact .tail _ (List.mem_map.mpr ⟨z, hz, rfl⟩)
end Sd


/-! told(lambda): a lambda made, called by told, and it raises: the table of the law's own code lives on -/
namespace Sd
open PySem PySem.Spec PyProof.Rows L2 LamX NdefX
theorem led_more {H : Hp} : ∀ (as : List Addr) (R : Lg), Led H R → ∃ R2 : Lg, Led H R2 ∧ (∀ x ∈ R, x ∈ R2) ∧ ∀ a ∈ as, ∀ o, H a = some o → ∀ H', Led H' R2 → H' a = some o
  | [], R, h => ⟨R, h, fun _ h => h, fun _ h => nomatch h⟩
  | a :: as, R, h => by
    obtain ⟨R1, h1, i1, k1⟩ := led_more as R h
    by_cases e : ∃ o, (a, o) ∈ R1
    · obtain ⟨o, ho⟩ := e
      refine ⟨R1, h1, i1, fun b hb o' hb' H' h' => ?_⟩
      rcases List.mem_cons.mp hb with rfl | hb
      · have := h1.mem ho
        rw [hb'] at this
        cases this
        exact h'.mem ho
      · exact k1 b hb o' hb' H' h'
    · rcases ha : H a with _ | o
      · refine ⟨R1, h1, i1, fun b hb o' hb' H' h' => ?_⟩
        rcases List.mem_cons.mp hb with rfl | hb
        · rw [ha] at hb'; cases hb'
        · exact k1 b hb o' hb' H' h'
      · refine ⟨(a, o) :: R1, ⟨fun x hx => ?_, ?_⟩, fun x hx => .tail _ (i1 x hx), fun b hb o' hb' H' h' => ?_⟩
        · rcases List.mem_cons.mp hx with rfl | hx
          · exact ha
          · exact h1.1 x hx
        · rw [List.map_cons]
          refine List.nodup_cons.mpr ⟨fun hm => ?_, h1.2⟩
          obtain ⟨x, hx, ex⟩ := List.mem_map.mp hm
          exact e ⟨x.2, by
            have ex : x.1 = a := ex
            rw [← ex]; exact hx⟩
        · rcases List.mem_cons.mp hb with rfl | hb
          · rw [ha] at hb'; cases hb'
            exact h'.mem (.head _)
          · exact k1 b hb o' hb' H' h'.tail
/-- the table within a ledger -/
theorem tab_led {H : Hp} {P : Addr} {q : Str} (t : TabS H P q) : ∃ R : Lg, Led H R ∧ ∀ H', Led H' R → TabS H' P q := by
  obtain ⟨ps, h1, h2, h3⟩ := t
  obtain ⟨R, hR, _, k⟩ := led_more (P :: ps.toList.filterMap fun v => match v with | .ref c => some c | _ => none) [] Led.nil
  refine ⟨R, hR, fun H' h' => ⟨ps, k P (.head _) _ h1 H' h', h2, fun pos cv hc => ?_⟩⟩
  obtain ⟨c, rfl, hcc⟩ := h3 pos cv hc
  refine ⟨c, rfl, k c (.tail _ (List.mem_filterMap.mpr ⟨.ref c, ?_, rfl⟩)) _ hcc H' h'⟩
  clear h1 h2 h3 k hR hcc
  generalize ps.toList = l at hc
  fun_induction codeAmong pos l with
  | case1 line t1 col t2 c' rest hq =>
    cases hc
    exact .tail _ (.tail _ (.head _))
  | case2 line t1 col t2 c' rest hq ih => exact .tail _ (.tail _ (.tail _ (ih hc)))
  | case3 => cases hc
/-- a lambda that raises -/
def tlR (CE : Addr) : Hp → VK → XK → Prop := fun H _ E => ∃ R, Led H R ∧ ∀ H', Led H' R → E (.ref CE) none H'
theorem rd_told {P : Program} {w : World} {K : PySem.W.Frag} {mg : Str → Option Value} {base : Heap} {k : Nat} {CE PL : Addr} {e ret q : Str} {params : Arguments} {body : Expr} {scope : Scope} {σ : L2.St} {H : Hp} {Q : VK} (T : ExcT K mg e CE) (hT : TabS H PL q)
    (L : ∀ f c', LOk P w K mg base k f ⟨"<lambda>", q, params, [], scope, [], c'⟩ body (tlR CE)) (kq : ∀ H', TabS H' PL q → Q (.str ret) H') :
    tCall (spTold P w K mg base k CE ret) [] C8.E0 (tCons (tLamV PL q params body scope) tNil) σ H Q := by
  refine ⟨hT, fun f c' H1 eN T1 n0 hf hc => ?_⟩
  obtain ⟨R, hR, kR⟩ := tab_led T1
  exact ⟨f, _, _, _, rfl, hf, hc, L f c', R, hR, fun H' h' => ⟨true, T.em, fun _ => kq H' (kR H' h'), fun z => nomatch z⟩⟩
end Sd


/-! lambdas that capture names, kept as values, called by told -/
namespace Sd
open PySem PySem.Spec PyProof.Rows L2 LamX NdefX
structure LOkC (P : Program) (w : World) (K : PySem.W.Frag) (mg : Str → Option Value) (base : Heap) (k : Nat) (f : Addr) (F : NF) (b : Expr) (fr : List Str) (tl : List (Option V) → Hp → VK → XK → Prop) : Prop where
  run : ∀ (A : Around) (outer : List Env) (s : Shared) (H : Hp) (ws : List (Option V)) (Q : VK) (E : XK), Room k A → Env0 P w K mg base A outer s H → H f = some (LamO f F b) → H F.c = some (CodeO F.c F.qual) → CellsAt F.cl fr ws s.heap H → tl ws H Q E →
    codeAny (model P w) A (.call (.ref f) ⟨[], []⟩) (CR (L2.CX P w) outer P w H s Q E) s
section
variable {P : Program} {w : World} {K : PySem.W.Frag} {mg : Str → Option Value} {base : Heap} {F : NF} {f : Addr} {b : Expr} {k : Nat} {N fr : List Str} {tl : List (Option V) → Hp → VK → XK → Prop}
theorem lokC_of (S : NScope N [] fr F.scope) (hb : ∀ pm cv ctv : Value, bindArgs (PySem.W.kla_fn F.name F.qual F.params b F.scope F.cl pm cv ctv) ⟨[], []⟩ = pure [])
    (hbody : ∀ (A : Around) (outer : List Env) (s : Shared) (H : Hp) (ws : List (Option V)) (Q : VK) (E : XK), Room k (A.deeper (envF F f s.heap.objs.size)) → tl ws H Q E → ∃ t : TE, PE (ncx (L2.CX P w) P w K mg base N F f A outer s H E) b t ∧ t (startF N [] ws) H Q) :
    LOkC P w K mg base (k + 1) f F b fr tl := by
  refine ⟨fun A outer s H ws Q E hr e0 hf hc C h => ?_⟩
  have lim : s.heap.NoLimit := e0.mod.nolimit.keeps fun b o e => (e0.bs b o e).1
  obtain ⟨pm, ctv, ho⟩ := lamO_at e0.hok hf
  refine PySem.W.kla_callFunE hr.depth ho rfl S.co S.gen rfl (codeO_at e0.hok hc) ?_
  rw [hb]
  refine wpAny_pure (wpAny_newFunctionEnv S.nocell (fun y hy => absurd hy (by simp)) (fun h₁ hns hsb => ⟨lim.fresh _ hsb, ?_⟩) S.kind)
  show codeAny _ _ (.expr b (envF F f s.heap.objs.size)) _ _
  have kp : ∀ b o, s.heap.get? b = some o → h₁.get? b = some o := fun b o e => hsb.extBut b o (Nat.ne_of_lt (Heap.lt_size e)) (Heap.get?_push_of_some _ e)
  obtain ⟨t, ht, hq⟩ := hbody A outer s H ws Q E (hr.deeper _) h
  have I : Inv (ncx (L2.CX P w) P w K mg base N F f A outer s H E) [] (startF N [] ws) H { s with heap := h₁, toks := s.toks + ([] : List (Str × Value)).length } :=
    inv_startN (N := N) (ps := []) (fr := fr) (vs := []) (us := []) (ws := ws) S hr.hd e0 rfl .nil C hns kp
  refine PySem.W.kla_codeExpr (wpAny_mono (ht.run [] _ _ H Q I hq) (fun v s' hq => ?_) fun e s' hq => hq)
  obtain ⟨w', H', J', rv, q⟩ := hq
  exact ⟨w', H', J'.os, J'.bare, J'.base, J'.hok, rv, q⟩
end
theorem pe_lamcC {X : Cx} {W : WX} {i k : Nat} {x : Str} {p pos : Pos} {f : Addr} {F : NF} {b : Expr} {fr : List Str} {ws : List (Option V)} {tl : List (Option V) → Hp → VK → XK → Prop} (tk : Takes X W) (hr : Room k X.A) (hN : X.N[i]? = some x) (hv : Vis X.env.scope x)
    (C : CellsAt F.cl fr ws X.s_0.heap X.H_0) (nf : ∀ y c, F.cl.lookup y = some c → c ∉ X.fs) (hx : ∀ y c, F.cl.lookup y = some c → c ∉ X.ex) (L : LOkC X.prog X.w X.K X.mg X.base k f F b fr tl)
    (hd : (x == ("__debug__" : Str)) = false := by decide) (hcd : (x == ("__classdict__" : Str)) = false := by decide) :
    PE X (.Call (.Name x p) [] [] pos) (fun σ H Q => σ[i]? = some (some (.ref f)) ∧ H f = some (LamO f F b) ∧ H F.c = some (CodeO F.c F.qual) ∧ ∃ E : XK, (∀ cls d σ' H', E cls d H' → W cls d σ' H') ∧ tl ws H Q E) := by
  refine ⟨fun pins s σ H Q I h => ?_⟩
  obtain ⟨hs, hf, hc, E, hW, ht⟩ := h
  refine wpAny_Call_Name_kw (thn ((pe_var (pos := p) hN hv hd hcd).run pins s σ H (fun v H1 => v = .ref f ∧ H1 = H) I ⟨.ref f, hs, rfl, rfl⟩) fun u s1 ⟨v, H1, I1, r1, q1⟩ => ?_)
  obtain ⟨ev, eH⟩ := q1
  subst ev
  rw [eH] at I1
  obtain rfl : u = Value.ref f := r1
  obtain ⟨pm, ctv, ho⟩ := lamO_at I1.hok hf
  refine PySem.W.callWith_F0 (first := []) ⟨_, _, _, _, ho⟩ ?_
  show wpAny _ _ (call (.ref f) []) _ _ _
  refine wpAny_call (codeAny_mono (L.run X.A X.stack s1 H ws Q E hr I1.env0 hf hc (C.later nf hx I1) ht) fun r s' hq => ?_)
  cases r with
  | error e => exact passes_call tk hW pins σ H s1 e s' I1 hq
  | ok fl =>
    cases fl with
    | ret u => exact I1.after hq
    | next => exact False.elim hq
    | brk => exact False.elim hq
    | cont => exact False.elim hq
/-- told(y), y a name that holds a lambda -/
def tToldC (K : PySem.W.Frag) (P : Program) (w : World) (mg : Str → Option Value) (base : Heap) (k i : Nat) (cl : List (Str × Addr)) (fr : List Str) (ws : List (Option V)) (CS : Addr) (ret : Str) : TE := fun σ H Q => ∃ (f : Addr) (F : NF) (b : Expr) (tl : List (Option V) → Hp → VK → XK → Prop),
  σ[i]? = some (some (.ref f)) ∧ H f = some (LamO f F b) ∧ H F.c = some (CodeO F.c F.qual) ∧ F.cl = cl ∧ LOkC P w K mg base k f F b fr tl ∧ tl ws H Q (fun cls _ H' => ∃ b, PySem.W.exmOne K cls (.ref CS) = some b ∧ (b = true → Q (.str ret) H') ∧ (b = false → False))
theorem pe_toldC {X : Cx} {i k j : Nat} {x y a e ret : Str} {g CS : Addr} {st : Stmt} {fd : FuncData} {N : List Str} {p py pos p1 p2 p3 p4 p5 p6 p7 p8 : Pos} {cl : List (Str × Addr)} {fr : List Str} {ws : List (Option V)} (Fn : Fun X.K x x st g fd) (S : FnScope N [a] (defScope st))
    (hbd : defBody st = [.Try [.Return (some (.Call (.Name a p1) [] [] p2)) p3] [.ExceptHandler (some (.Name e p4)) none [.Return (some (.Constant (.str ret) j p5)) p6] p7] [] [] p8]) (hbi : Binds X.K fd [a] []) (hm : X.mg x = some (.ref g)) (hge : (defScope st).names.lookup e = some .globalImplicit) (hme : X.mg e = some (.ref CS))
    (hN : N[0]? = some a) (hv : Vis (defScope st) a) (h0 : ∀ f : Addr, (L2.start N [V.ref f])[0]? = some (some (V.ref f)))
    (hr : Room (k + 1) X.A) (hg : Gl X x) (hy : X.N[i]? = some y) (hvy : Vis X.env.scope y)
    (C : CellsAt cl fr ws X.s_0.heap X.H_0) (nf : ∀ y c, cl.lookup y = some c → c ∉ X.fs) (hx : ∀ y c, cl.lookup y = some c → c ∉ X.ex) (nf2 : ∀ y c, cl.lookup y = some c → c ∉ frs X.stack)
    (hdb : (x == ("__debug__" : Str)) = false := by decide) (hdy : (y == ("__debug__" : Str)) = false := by decide) (hcy : (y == ("__classdict__" : Str)) = false := by decide) (hde : (e == ("__debug__" : Str)) = false := by decide) (hd : (a == ("__debug__" : Str)) = false := by decide) (hcd : (a == ("__classdict__" : Str)) = false := by decide) :
    PE X (.Call (.Name x p) [.Name y py] [] pos) (tToldC X.K X.prog X.w X.mg X.base k i cl fr ws CS ret) := by
  refine ⟨fun pins s σ H Q I h => ?_⟩
  obtain ⟨f, F, b, tl, hs, hf, hc, rfl, L, ht⟩ := h
  refine wpAny_Call_Name_kw (ld_glob I hg hm ?_ hdb)
  refine PySem.W.callWith_K (h₀ := X.base) I.ok.mod.kin Fn.kp (thn ((pa_cons (pe_var (pos := py) hy hvy hdy hcy) pa_nil).run pos pins s σ H (fun vs H1 => vs = [.ref f] ∧ H1 = H) I ⟨.ref f, hs, rfl, rfl⟩) fun us s1 ⟨vs, H1, I1, r, q⟩ => ⟨I1.kIn, ?_⟩) (by rfl) (by rfl)
  obtain ⟨ev, eH⟩ := q
  subst ev
  rw [eH] at I1
  obtain ⟨u, rfl, ru⟩ := r.one
  obtain rfl : u = Value.ref f := ru
  obtain ⟨oc, od, kV, doc, pm, an, cdv, ct, osl, rfl, lk, hcd2⟩ := Fn.ex
  have C1 : CellsAt F.cl fr ws s1.heap H := C.later nf hx I1
  have rc : codeAny (model X.prog X.w) X.A (.call (.ref g) ⟨[.ref f], []⟩) (CR C8.CX0 X.stack X.prog X.w H s1 Q C8.E0) s1 := by
    refine run_ofS (N := N) (ps := [a]) (us := [.ref f]) (vs := [.ref f]) lk hcd2 S hr I1.env0 (hbi s1 [.ref f] I1.kIn rfl) (.cons rfl .nil) rfl fun hr' => ?_
    have hgl : Gl (cxOf C8.CX0 X.prog X.w X.K X.mg X.base N x (defScope st) g cdv X.A X.stack s1 H C8.E0).nox e := hge
    rw [hbd]
    have hps : PSs (cxOf C8.CX0 X.prog X.w X.K X.mg X.base N x (defScope st) g cdv X.A X.stack s1 H C8.E0).nox [.Try [.Return (some (.Call (.Name a p1) [] [] p2)) p3] [.ExceptHandler (some (.Name e p4)) none [.Return (some (.Constant (.str ret) j p5)) p6] p7] [] [] p8] _ :=
      pss_one (ps_try_only (c := .ref CS) (tb := fun W D σ H => σ[0]? = some (some (.ref f)) ∧ H f = some (LamO f F b) ∧ H F.c = some (CodeO F.c F.qual) ∧ ∃ E : XK, (∀ cls d σ' H', E cls d H' → W cls d σ' H') ∧ tl ws H D.rt E) rfl rfl ⟨hgl, hde, .inl hme⟩ L2.takes0
        (fun W pn xe tk _ => pss_one (ps_ret (pe_lamcC tk hr' hN hv C1 nf2 (fun _ _ _ z => nomatch z) L hd hcd))) (fun a oe cls d pn _ _ => pss_one (ps_ret pe_str)))
    refine ⟨_, hps.nox, h0 f, hf, hc, _, fun cls d σ' H' q => ?_, ht⟩
    obtain ⟨b, e1, e2, e3⟩ := q
    exact ⟨b, e1, fun hb a _ => e2 hb, fun hb => e3 hb⟩
  refine wpAny_call (codeAny_mono rc fun r s2 hq => ?_)
  cases r with
  | error e => exact (show False from hq).elim
  | ok fl =>
    cases fl with
    | ret u => exact I1.after hq
    | next => exact False.elim hq
    | brk => exact False.elim hq
    | cont => exact False.elim hq
end Sd


/-! [e for f in xs if t], t false each time and fit to call what captures names of the running frame -/
namespace Sd
open PySem PySem.Spec PyProof.Rows L2 LamX NdefX
theorem cell_nofrs {X : Cx} {pins : List (Addr × Obj)} {σ : L2.St} {H : Hp} {s : Shared} (I : Inv X pins σ H s) (hfn : ∀ x, X.fn x = true) : ∀ x c, X.env.cells.lookup x = some c → c ∉ frs X.stack := fun x c e hb => by
  rcases List.mem_cons.mp (I.stkSub c hb) with z | z
  · exact I.cne x c e z
  · obtain ⟨_, o, ho, _⟩ := I.ok.funs.mem z
    exact absurd (Nat.lt_of_lt_of_le (Heap.lt_size ho) (I.ok.cab x c (hfn x) e)) (Nat.lt_irrefl _)
/-- what the block's start tells of the captured cells -/
def GdC (X : Cx) (cl : List (Str × Addr)) (fr : List Str) (ws : List (Option V)) (s : Shared) (H : Hp) (fp : List Addr) : Prop := CellsAt cl fr ws s.heap H ∧ ∀ y c, cl.lookup y = some c → c ∉ frs X.stack ∧ c ∉ fp
theorem pe_lcF {X : Cx} {elt tg iter : Expr} {ifs : List Expr} {scope : Scope} {own : List (Str × Nat)} {pos : Pos} {wi : TI} {g : TG} {tt : TT} {fr : List Str} {js : List Nat} {ws : List (Option V)} {lsc : Scope} (hfn : ∀ x, X.fn x = true) (hc : X.calm = true) (hN : X.N.Nodup) (hi : PI X tg iter wi) (ok : BlkOk X.N X.env.scope scope own)
    (caps : ∀ pins σ H s, Inv X pins σ H s → Caps X (cloFrom X.env.cells lsc.names []) fr js)
    (hg : ∀ (s : Shared) (H : Hp) (C : Addr) (cl : List (Str × Addr)) (fp : List Addr), PG (X.blk s H scope (compEnvC scope cl C X.env) fp) tg g)
    (ht : ∀ (s : Shared) (H : Hp) (C : Addr) (cl : List (Str × Addr)) (fp : List Addr), GdC X (cloFrom X.env.cells lsc.names []) fr ws s H fp → PTs (X.blk s H scope (compEnvC scope cl C X.env) fp) ifs tt)
    (hs : ∀ x, foldedSetIterable iter X.env x = pure x := by intro _; rfl) :
    PE X (.ListComp elt [⟨tg, iter, ifs, 0⟩] scope pos) (fun σ H Q => js.map (slotAt σ) = ws ∧ tLc wi g tt (fun _ _ _ => False) (own.map (·.2)) σ H Q) := by
  refine ⟨fun pins s σ H Q I h => ?_⟩
  obtain ⟨hws, h⟩ := h
  rw [eval_ListComp]
  refine wpAny_comprehension_free (use := none) rfl hs (closure_ok fun y hy e => ?_) ok.kind (fun y hy e => by rw [ok.uniq y hy, e]) (thn (hi.run pins s σ H _ I h) fun xv s1 hx => thn hx fun itv s2 h2 => ?_)
  · rcases ok.free y hy e with k | k
    · exact I.ok.has _ (.inl k)
    · exact I.ok.has _ (.inr k)
  obtain ⟨it, fp, tn, J, H2, e, I2, T, st2, f2, q⟩ := h2
  subst e
  refine wpAny_newObj_type (newEnv_comp ?_) (by show 0 ≤ sizeLine; decide)
  have hD2 : H2 s2.heap.objs.size = none := I2.hok.fresh (Nat.le_refl _)
  obtain ⟨W, ⟨m0, w0⟩, turn⟩ := q _ hD2
  generalize hs3 : ({ s2 with heap := s2.heap.push { cls := .type "list", data := .seq ([] : List Value).toArray } } : Shared) = s3
  have h3 : s3.heap = s2.heap.push { cls := .type "list", data := .seq ([] : List Value).toArray } := by rw [← hs3]
  have I3 : Inv X pins σ (upd H2 s2.heap.objs.size (.lst [])) s3 := by
    rw [← hs3]
    exact I2.laid (t' := s2.toks) (fun b o e => Heap.get?_push_of_some _ e) (Nat.le_refl _) ⟨Nat.zero_le _, [], 0, .nil, Heap.get?_push_size _ rfl⟩
  generalize hDD : s2.heap.objs.size = D at I3 w0 turn hD2 ⊢
  have fOk : ∀ b ∈ fp, FpOk X pins (upd H2 D (.lst [])) b ∧ b < s3.heap.objs.size := fun b hb => by
    obtain ⟨o, e, _⟩ := T.obj _ _ st2 b hb
    have hlt := Heap.lt_size e
    refine ⟨⟨?_, (f2 b hb).2⟩, by rw [h3, Heap.size_push]; exact Nat.lt_succ_of_lt hlt⟩
    rw [upd_ne (by rw [← hDD]; exact Nat.ne_of_lt hlt)]
    exact (f2 b hb).1
  have gd : GdC X (cloFrom X.env.cells lsc.names []) fr ws s3 (upd H2 D (.lst [])) fp := by
    refine ⟨hws ▸ cells_of I3 (caps _ _ _ _ I3), fun y c e => ⟨cell_nofrs I3 hfn y c ((caps _ _ _ _ I3).sub y c e), fun hb => ?_⟩⟩
    exact (fOk c hb).1.2.2.2.2.1 y c ((caps _ _ _ _ I3).sub y c e) rfl
  have I4 := block_start I3 ok hN fOk
  have pg := hg s3 (upd H2 D (.lst [])) s3.heap.objs.size (cellsFrom (s3.heap.objs.size + 1) scope.names (cloFrom X.env.cells scope.names [])) fp
  have pt := ht s3 (upd H2 D (.lst [])) s3.heap.objs.size (cellsFrom (s3.heap.objs.size + 1) scope.names (cloFrom X.env.cells scope.names [])) fp gd
  have t3 : tn 0 s3.heap := T.keep _ _ _ st2 fun b _ o e => by rw [h3]; exact Heap.get?_push_of_some _ e
  have n3 : ∀ b ∈ fp, (upd H2 D (.lst [])) b = none := fun b hb => (fOk b hb).1.1
  generalize hBX : X.blk s3 (upd H2 D (.lst [])) scope (compEnvC scope (cellsFrom (s3.heap.objs.size + 1) scope.names (cloFrom X.env.cells scope.names [])) s3.heap.objs.size X.env) fp = BX at I4 pg pt
  have bP : BX.prog = X.prog ∧ BX.w = X.w ∧ BX.K = X.K ∧ BX.calm = X.calm ∧ BX.A = X.A ∧ BX.ex = fp ∧ BX.pn = [] ∧ BX.env.locals = s3.heap.objs.size := by rw [← hBX]; exact ⟨rfl, rfl, rfl, rfl, rfl, rfl, rfl, rfl⟩
  have fpB : ∀ {σ' : L2.St} {H' : Hp} {s' : Shared}, Inv BX [] σ' H' s' → (∀ b ∈ fp, H' b = none) → ∀ b ∈ fp, FpOk BX [] H' b := fun {σ' H' s'} I' hn b hb => by
    have hbx : b ∈ BX.ex := by rw [bP.2.2.2.2.2.1]; exact hb
    exact ⟨hn b hb, (I'.ok.exf b hbx).1, I'.ok.exfs b hbx, .inl hbx, fun x c e => (I'.ok.exf b hbx).2 x c e, fun p hp => by rw [bP.2.2.2.2.2.2.1] at hp; cases hp⟩
  generalize hs4 : ({ s3 with heap := pushCells (s3.heap.push { cls := .type "dict", data := .dict #[] }) scope.names } : Shared) = s4 at I4
  have t4 : tn 0 s4.heap := T.keep _ _ _ t3 fun b _ o e => by rw [← hs4]; exact pushCells_keeps _ _ _ _ (Heap.get?_push_of_some _ e)
  show codeAny _ _ (.compStart (.ListComp elt [⟨tg, iter, ifs, 0⟩] scope pos) 0 (.ref it) (.ref D) (compEnvC scope (cellsFrom (s3.heap.objs.size + 1) scope.names (cloFrom X.env.cells scope.names [])) s3.heap.objs.size X.env)) (compPost (model X.prog X.w) X.A X.xe none (EP X pins σ Q) (.ref D) s3.heap.objs.size) s4
  have loop : codeAny (model X.prog X.w) X.A (.compLoop (.ListComp elt [⟨tg, iter, ifs, 0⟩] scope pos) 0 (.ref it) (.ref D) (compEnvC scope (cellsFrom (s3.heap.objs.size + 1) scope.names (cloFrom X.env.cells scope.names [])) s3.heap.objs.size X.env)) (compPost (model X.prog X.w) X.A X.xe none (EP X pins σ Q) (.ref D) s3.heap.objs.size) s4 := by
    refine compLoop_any (fun n s' => ∃ i H', Inv BX [] (wipe σ (own.map (·.2))) H' s' ∧ tn i s'.heap ∧ (∀ b ∈ fp, H' b = none) ∧ W i n H') ?_ m0 ⟨0, _, I4, t4, n3, w0⟩
    rintro n s5 ⟨i, H5, I5, t5, n5, w5⟩
    rcases turn i n H5 w5 with ⟨stop, qq⟩ | ⟨go, Nx, hNx, step⟩
    · have td := T.done BX bP.1 bP.2.1 bP.2.2.1 (bP.2.2.2.1.trans hc) i [] s5 _ H5 (fun _ _ => False) I5 (fpB I5 n5) t5 stop
      rw [bP.2.2.2.2.1] at td
      refine thnF td fun r s6 ⟨hr, I6⟩ => ?_
      subst hr
      subst hBX
      have I7 : Inv X pins σ H5 s6 := I3.call' (ch := fp) I6.os I6.base I6.hok I6.bare fun b hb => ⟨(fOk b hb).1.2.2.2.1, (fOk b hb).1.2.1, (fOk b hb).1.2.2.2.2.1, (fOk b hb).1.2.2.2.2.2⟩
      obtain ⟨m, hn, _⟩ := I6.loc
      have nC : H5 s3.heap.objs.size = none := I6.free
      obtain ⟨f0, f1, f2', f3, f4, f5⟩ := I3.fpOk (H' := H5) (Nat.le_refl _) nC
      exact ⟨m, hn, fun h'' sb => ⟨.ref D, H5, I7.turned (t' := s6.toks) (fun b o hb e => (sb.2 b hb).trans e) f0 f1 f3 f4 f5, rfl, qq⟩⟩
    · have ti := T.item BX bP.1 bP.2.1 bP.2.2.1 (bP.2.2.2.1.trans hc) i [] s5 _ H5 (fun _ _ => False) I5 (fpB I5 n5) t5 go
      rw [bP.2.2.2.2.1] at ti
      refine thnF ti fun r s6 ⟨u, hr, h6⟩ => ?_
      subst hr
      refine thnF h6 fun _ s7 ⟨x, H7, I7, r7, y7, t7, n7⟩ => ?_
      have I7' := I7.pinned (fpB I7 n7) (T.obj _ _ t7)
      subst hBX
      refine thnF (pg.run _ s7 _ H7 x u _ I7' r7 (step x H7 y7)) fun _ s8 ⟨σ8, H8, I8, hw8, q8⟩ => ?_
      refine thnF (pt.run _ s8 σ8 H8 _ I8 q8) fun b s9 ⟨H9, I9, q9⟩ => ?_
      cases b with
      | true => exact False.elim q9
      | false =>
        obtain ⟨m', hm, w'⟩ := hNx H9 q9
        have pin' : ∀ b ∈ fp, ∀ o, s7.heap.get? b = some o → s9.heap.get? b = some o ∧ H9 b = none := fun b hb o e =>
          let z := I9.pin (b, o) (List.mem_append_right _ (List.mem_append_right _ (mem_pinsAt hb e)))
          ⟨z.1, z.2.1⟩
        refine ⟨m', hm, i + 1, H9, (I9.unpinned (pins := [])).weak (by rw [← hw8, wipe_length]) (fun j v e => ?_), T.keep _ _ _ t7 fun b hb o e => (pin' b hb o e).1, fun b hb => ?_, w'⟩
        · rw [← hw8] at e
          exact (wipe_some e).1
        · obtain ⟨o, e, _⟩ := T.obj _ _ t7 b hb
          exact (pin' b hb o e).2
  exact codeAny_compStart_list loop (T.self X.A 0 _ _ _ t4 loop)
theorem pe_lcE {X : Cx} {elt tg iter : Expr} {ifs : List Expr} {scope : Scope} {own : List (Str × Nat)} {pos : Pos} {wi : TI} {g : TG} {tt : List (Option V) → TT} {fr : List Str} {js : List Nat} {lsc : Scope} (hfn : ∀ x, X.fn x = true) (hc : X.calm = true) (hN : X.N.Nodup) (hi : PI X tg iter wi) (ok : BlkOk X.N X.env.scope scope own)
    (caps : ∀ pins σ H s, Inv X pins σ H s → Caps X (cloFrom X.env.cells lsc.names []) fr js)
    (hg : ∀ (s : Shared) (H : Hp) (C : Addr) (cl : List (Str × Addr)) (fp : List Addr), PG (X.blk s H scope (compEnvC scope cl C X.env) fp) tg g)
    (ht : ∀ (ws : List (Option V)) (s : Shared) (H : Hp) (C : Addr) (cl : List (Str × Addr)) (fp : List Addr), GdC X (cloFrom X.env.cells lsc.names []) fr ws s H fp → PTs (X.blk s H scope (compEnvC scope cl C X.env) fp) ifs (tt ws))
    (hs : ∀ x, foldedSetIterable iter X.env x = pure x := by intro _; rfl) :
    PE X (.ListComp elt [⟨tg, iter, ifs, 0⟩] scope pos) (fun σ H Q => tLc wi g (tt (js.map (slotAt σ))) (fun _ _ _ => False) (own.map (·.2)) σ H Q) :=
  ⟨fun pins s σ H Q I h => (pe_lcF hfn hc hN hi ok caps hg (ht (js.map (slotAt σ))) hs).run pins s σ H Q I ⟨rfl, h⟩⟩
theorem pe_toldB {X : Cx} {s : Shared} {H : Hp} {scope : Scope} {cenv : Env} {fp : List Addr} {i k j : Nat} {x y a e ret : Str} {g CS : Addr} {st : Stmt} {fd : FuncData} {N : List Str} {p py pos p1 p2 p3 p4 p5 p6 p7 p8 : Pos} {cl : List (Str × Addr)} {fr : List Str} {ws : List (Option V)} (Fn : Fun X.K x x st g fd) (S : FnScope N [a] (defScope st))
    (hbd : defBody st = [.Try [.Return (some (.Call (.Name a p1) [] [] p2)) p3] [.ExceptHandler (some (.Name e p4)) none [.Return (some (.Constant (.str ret) j p5)) p6] p7] [] [] p8]) (hbi : Binds X.K fd [a] []) (hm : X.mg x = some (.ref g)) (hge : (defScope st).names.lookup e = some .globalImplicit) (hme : X.mg e = some (.ref CS))
    (hN : N[0]? = some a) (hv : Vis (defScope st) a) (h0 : ∀ f : Addr, (L2.start N [V.ref f])[0]? = some (some (V.ref f)))
    (hr : Room (k + 1) X.A) (gd : GdC X cl fr ws s H fp) (hg : cenv.scope.names.lookup x = some .globalImplicit) (hy : X.N[i]? = some y) (hvy : Vis cenv.scope y)
    (hdb : (x == ("__debug__" : Str)) = false := by decide) (hdy : (y == ("__debug__" : Str)) = false := by decide) (hcy : (y == ("__classdict__" : Str)) = false := by decide) (hde : (e == ("__debug__" : Str)) = false := by decide) (hd : (a == ("__debug__" : Str)) = false := by decide) (hcd : (a == ("__classdict__" : Str)) = false := by decide) :
    PE (X.blk s H scope cenv fp) (.Call (.Name x p) [.Name y py] [] pos) (tToldC X.K X.prog X.w X.mg X.base k i cl fr ws CS ret) :=
  pe_toldC (X := X.blk s H scope cenv fp) Fn S hbd hbi hm hge hme hN hv h0 hr hg hy hvy gd.1 (fun y c e => (gd.2 y c e).1) (fun y c e => (gd.2 y c e).2) (fun y c e => (gd.2 y c e).1) hdb hdy hcy hde hd hcd
/-- lambda: body; names captured: those of the running frame's cells -/
def tLamVC (P : Addr) (q : Str) (params : Arguments) (body : Expr) (scope : Scope) (cl : List (Str × Addr)) : TE := fun _ H Q => TabS H P q ∧ ∀ (f c' : Addr) (H1 : Hp), ExtN H H1 → TabS H1 P q → H f = none → H1 f = some (LamO f ⟨"<lambda>", q, params, [], scope, cl, c'⟩ body) → H1 c' = some (CodeO c' q) → Q (.ref f) H1
theorem pe_lamvC {X : Cx} {q : Str} {c P : Addr} {params : Arguments} {body : Expr} {scope : Scope} {pos : Pos} (TB : TabB X.base X.mg c P) (hcode : X.env.code = .ref c) (hq : X.env.qual ++ "<lambda>" = q) (hdef : defaultsOf params X.env = ([], []))
    (hfree : ∀ y ∈ scope.names, y.2 = .free → X.env.scope.names.lookup y.1 = some .cell) : PE X (.Lambda params body scope pos) (tLamVC P q params body scope (cloFrom X.env.cells scope.names [])) := by
  refine ⟨fun pins s σ H Q I h => ?_⟩
  obtain ⟨hT, h⟩ := h
  refine lam_value I TB hcode hq hT hdef (fun y hy e => I.ok.has _ (.inl (hfree y hy e))) fun f c' H1 s' I1 eN T1 f0 f1 c1 => ?_
  exact ⟨.ref f, H1, I1, rfl, h f c' H1 eN T1 f0 f1 c1⟩
theorem led_ext {H H1 : Hp} {L : Lg} (hL : Led H L) (hn : ∀ x ∈ L, ∀ ps, x.2 ≠ .tbl ps) (e : ExtN H H1) : Led H1 L := ⟨fun x hx => e _ _ (hL.1 x hx) fun ps z => hn x hx ps z, hL.2⟩
theorem led_moreX {H : Hp} : ∀ (as : List Addr) (R : Lg), Led H R → ∃ Z : Lg, Led H (Z ++ R) ∧ ∀ a ∈ as, ∀ o, H a = some o → ∀ H', Led H' (Z ++ R) → H' a = some o
  | [], R, h => ⟨[], h, fun _ h => nomatch h⟩
  | a :: as, R, h => by
    obtain ⟨Z, h1, k1⟩ := led_moreX as R h
    by_cases e : ∃ o, (a, o) ∈ Z ++ R
    · obtain ⟨o, ho⟩ := e
      refine ⟨Z, h1, fun b hb o' hb' H' h' => ?_⟩
      rcases List.mem_cons.mp hb with rfl | hb
      · have := h1.mem ho
        rw [hb'] at this
        cases this
        exact h'.mem ho
      · exact k1 b hb o' hb' H' h'
    · rcases ha : H a with _ | o
      · refine ⟨Z, h1, fun b hb o' hb' H' h' => ?_⟩
        rcases List.mem_cons.mp hb with rfl | hb
        · rw [ha] at hb'; cases hb'
        · exact k1 b hb o' hb' H' h'
      · refine ⟨(a, o) :: Z, ⟨fun x hx => ?_, ?_⟩, fun b hb o' hb' H' h' => ?_⟩
        · rcases List.mem_cons.mp hx with rfl | hx
          · exact ha
          · exact h1.1 x hx
        · rw [List.cons_append, List.map_cons]
          refine List.nodup_cons.mpr ⟨fun hm => ?_, h1.2⟩
          obtain ⟨x, hx, ex⟩ := List.mem_map.mp hm
          exact e ⟨x.2, by
            have ex : x.1 = a := ex
            rw [← ex]; exact hx⟩
        · rcases List.mem_cons.mp hb with rfl | hb
          · rw [ha] at hb'; cases hb'
            exact h'.mem (.head _)
          · exact k1 b hb o' hb' H' h'.tail
end Sd


/-! the head's facts for the end of a law -/
namespace Sd
open PySem PySem.Spec PyProof.Rows L2
theorem fun_ofD {K : PySem.W.Frag} {x qual : Str} {st : Stmt} {f : Addr} {fd : FuncData} (F : FunD K x qual (defArgs st) (defBody st) (defScope st) [] [] f fd) : Fun K x qual st f fd := by
  obtain ⟨oc, od, dV, kV, doc, pm, an, cdv, ct, osl, e, lk, hcd, hD, hK⟩ := F.ex
  rcases hD with ⟨_, rfl⟩ | ⟨ne, _⟩
  · exact ⟨⟨oc, od, kV, doc, pm, an, cdv, ct, osl, e, lk, hcd⟩, F.kp⟩
  · exact absurd rfl ne
/-- a def whose own code is told -/
theorem fun_code {K : PySem.W.Frag} {x qual : Str} {st : Stmt} {p : He.Defn} {fd : FuncData} (F : Fun K x qual st (He.fAd K p) fd) :
    ∃ (oc : Value) (od : Option Addr) (kV doc pm : Value) (an : Option Addr) (ct : Value) (osl : Array (Option Value)),
      fd = PySem.W.fnOf x qual (defArgs st) (defBody st) (defScope st) .none kV doc pm an (.ref (He.cT K p).1) ct ∧ K.lookup (He.fAd K p) = some ⟨oc, od, .func fd, osl⟩ ∧ PySem.W.codeIn K (.ref (He.cT K p).1) qual = true := by
  obtain ⟨oc, od, kV, doc, pm, an, cdv, ct, osl, rfl, lk, hcd⟩ := F.ex
  obtain ⟨c, rfl⟩ := He.codeIn_ref hcd
  have e : (He.cT K p).1 = c := He.codeOf_eq lk rfl
  rw [e]
  exact ⟨oc, od, kV, doc, pm, an, ct, osl, rfl, lk, hcd⟩
theorem exc_T {K : PySem.W.Frag} {h : Heap} {mg : Str → Option Value} {x : Str} (X : K.In h) (G : h.Ns mainGlobals mg) (c1 : (He.Fa.glo x).ok K = true) (c2 : (He.Fa.exc x).ok K = true) (c3 : PySem.W.isClsIn K (He.ga K x) = true) (c4 : PySem.W.subIn K (.ref (He.ga K x)) (.ref (He.ga K x)) = some true) : ExcT K mg x (He.ga K x) := by
  obtain ⟨e1, e2, e3, e4⟩ := He.exc_ok c2
  exact ⟨He.glo_ok X G c1, e1, e2, e3, e4, c3, c4⟩
end Sd


/-! == and != of data that are equal: lists, tuples and dicts, nested -/
namespace PySem.SeqAt
open AutoSeq1 (wpAny_loadPart')
open MeetsSeq MeetsSeq2 MeetsSeq3 SeqRoads2
theorem sd_tuple_neIn {prog : Program} {w : World} (l b : Addr) (items items2 : Array Value) (n n2 : Nat) (dd dd2 : Option Addr) (sl sl2 : Array (Option Value)) (e : Nat → Bool) :
    MeetsIn prog w (Builtin.«tuple.__ne__» ⟨[.ref l, .ref b], []⟩)
      (fun A R s => s.heap.get? l = some { cls := .type "tuple", dict := dd, data := .seq items n, slots := sl } ∧ s.heap.get? b = some { cls := .type "tuple", dict := dd2, data := .seq items2 n2, slots := sl2 } ∧
        (∀ j (h1 : j < items.size) (h2 : j < items2.size), EqIn prog w A.in1 s items[j] items2[j] (e j)) ∧
        R (.ok (.ret (.bool (!((List.range (min items.size items2.size)).all e && items.size == items2.size))))) s) :=
  .of_wp fun A R s h => by
    obtain ⟨hp, g, d, tk, os⟩ := s; obtain ⟨hl, hb, he, h⟩ := h
    have f2 := AutoSeq1.sub_tuple_tuple
    have hZ : (items.toList.zip items2.toList).length = min items.size items2.size := by simp
    wp_walk using wpAny_loadPart' hl, wpAny_loadPart' hb, wpAny_forIn_list _ (fun rest b s' => b.1 = none ∧ s' = ⟨hp, g, d, tk, os⟩ ∧ ∃ i, rest = (items.toList.zip items2.toList).drop i ∧
      R (.ok (.ret (.bool (!(((List.range (min items.size items2.size)).drop i).all e && items.size == items2.size))))) ⟨hp, g, d, tk, os⟩) _
    case turn =>
      rintro ⟨y, x⟩ rest b s' ⟨hb', rfl, i, hz, hR⟩
      have hlt : i < (items.toList.zip items2.toList).length := by
        rcases Nat.lt_or_ge i (items.toList.zip items2.toList).length with h' | h'
        · exact h'
        · rw [List.drop_of_length_le h'] at hz; cases hz
      have hm : i < min items.size items2.size := hZ ▸ hlt
      have h1 : i < items.size := Nat.lt_of_lt_of_le hm (Nat.min_le_left _ _)
      have h2 : i < items2.size := Nat.lt_of_lt_of_le hm (Nat.min_le_right _ _)
      rw [List.drop_eq_getElem_cons hlt] at hz
      injection hz with hyx hrest
      have hy : y = items[i] := by have := congrArg Prod.fst hyx; simpa using this
      have hx : x = items2[i] := by have := congrArg Prod.snd hyx; simpa using this
      subst hy hx
      have hd : (List.range (min items.size items2.size)).drop i = i :: (List.range (min items.size items2.size)).drop (i + 1) := by simp [List.drop_eq_getElem_cons, hm]
      rw [hd, List.all_cons] at hR
      refine wpAny_bind (he i h1 h2 _ _ ?_)
      cases hy : e i with
      | true =>
        rw [hy] at hR
        wp_walk
        exact ⟨rfl, rfl, i + 1, hrest, by simpa using hR⟩
      | false =>
        rw [hy] at hR
        wp_walk
        exact ⟨_, rfl, by simpa using hR⟩
    case fin =>
      rintro ⟨b1, b2⟩ s' ⟨hb', rfl, i, hz, hR⟩
      simp only at hb'
      subst hb'
      have hge : min items.size items2.size ≤ i := by
        rcases Nat.lt_or_ge i (items.toList.zip items2.toList).length with h' | h'
        · rw [List.drop_eq_getElem_cons h'] at hz; cases hz
        · exact hZ ▸ h'
      rw [List.drop_of_length_le (by simpa using hge)] at hR
      wp_walk
      exact ⟨_, rfl, by simpa [Builtin.Tuple.tupleCompareSizes, bne] using hR⟩
    case h =>
      exact ⟨rfl, rfl, 0, rfl, by simpa using h⟩
theorem sd_rcNeIn_tuples {prog : Program} {w : World} {A : Around} {s : Shared} {E : Value → Shared → Prop} {l b : Addr} {items items2 : Array Value} {e : Nat → Bool} {Q : Value → Shared → Prop} (hl : s.heap.IsTuple l items) (hb : s.heap.IsTuple b items2) (hu : A.units < cLine)
    (he : ∀ j (h1 : j < items.size) (h2 : j < items2.size), EqIn prog w A.in1 s items[j] items2[j] (e j)) (h : Q (.bool (!((List.range (min items.size items2.size)).all e && items.size == items2.size))) s) :
    wpAny (model prog w) A (richCompare .NotEq (.ref l) (.ref b)) Q E s := by
  obtain ⟨⟨cls, dd, data, sl⟩, ho, hc, n, hd⟩ := id hl
  obtain ⟨⟨cls2, dd2, data2, sl2⟩, ho2, hc2, n2, hd2⟩ := id hb
  simp only at hc hd hc2 hd2
  subst hc hd hc2 hd2
  exact wpAny_richCompare_same_room (T := "tuple") (op := .NotEq) ⟨_, ho, rfl⟩ ⟨_, ho2, rfl⟩ F.slot_tuple_ne (call_meetsIn F.slot_tuple_ne ⟨_, ho, rfl⟩ F.entry_tuple_ne (F.args_tuple_ne_2 _ _) (sd_tuple_neIn l b items items2 n n2 dd dd2 sl sl2 e)
    ⟨ho, ho2, he, show Value.bool (!((List.range (min items.size items2.size)).all e && items.size == items2.size)) ≠ Value.notImplemented ∧ Q (.bool (!((List.range (min items.size items2.size)).all e && items.size == items2.size))) s from ⟨(fun x => nomatch x), h⟩⟩) hu
end PySem.SeqAt
namespace Sd
open PySem PySem.Spec PyProof.Rows L2
def EwT (K : PySem.W.Frag) (H : Hp) (E : V → V → Prop) (x y : V) : Prop := ∃ a b xs ys, x = .ref a ∧ y = .ref b ∧ SqT K H a xs ∧ SqT K H b ys ∧ Paired E xs ys
/-- equal, of nesting below n -/
def Ew (K : PySem.W.Frag) (H : Hp) : Nat → V → V → Prop
  | 0 => fun _ _ => False
  | n + 1 => fun x y => (x = y ∧ flatB x = true) ∨ EqR K H (Ew K H n) x y ∨ EwT K H (Ew K H n) x y
section
variable {X : Cx} {pins : List (Addr × Obj)} {σ : L2.St} {H : Hp} {s : Shared}
theorem all_true (n : Nat) : ((List.range n).all fun _ => true) = true := List.all_eq_true.mpr fun _ _ => rfl
theorem ewT_run (I : Inv X pins σ H s) {A : Around} {F : V → V → Prop} (hu : A.units < cLine) (ih : ∀ x y v u, F x y → RelV x v → RelV y u → SeqAt.EqP X.prog X.w A.in1 s v u true) {x y : V} {v u : Value} (h : EwT X.K H F x y) (rx : RelV x v) (ry : RelV y u)
    (E Q : Value → Shared → Prop) (q : Q (.bool true) s) : wpAny (model X.prog X.w) A (richCompare .Eq v u) Q E s := by
  obtain ⟨a, b, xs, ys, rfl, rfl, ha, hb, hp⟩ := h
  cases (show v = Value.ref a from rx)
  cases (show u = Value.ref b from ry)
  obtain ⟨us, r1, p1, _⟩ := I.tuple ha
  obtain ⟨ws, r2, p2, _⟩ := I.tuple hb
  have hsz : us.toArray.size = ws.toArray.size := by
    rw [List.size_toArray, List.size_toArray, ← r1.length, ← r2.length]
    exact Paired.length hp
  refine SeqAt.rcIn_tuples (e := fun _ => true) p1 p2 hu (fun j h1 h2 => ?_) ?_
  · have k := items_run ih hp r1 r2 j (by simpa using h1) (by simpa using h2)
    have k2 : SeqAt.EqIn X.prog X.w A.in1 s _ _ true := k
    simpa using k2
  · rw [all_true, hsz]
    simpa using q
theorem ewT_ne (I : Inv X pins σ H s) {A : Around} {F : V → V → Prop} (hu : A.units < cLine) (ih : ∀ x y v u, F x y → RelV x v → RelV y u → SeqAt.EqP X.prog X.w A.in1 s v u true) {x y : V} {v u : Value} (h : EwT X.K H F x y) (rx : RelV x v) (ry : RelV y u)
    (E Q : Value → Shared → Prop) (q : Q (.bool false) s) : wpAny (model X.prog X.w) A (richCompare .NotEq v u) Q E s := by
  obtain ⟨a, b, xs, ys, rfl, rfl, ha, hb, hp⟩ := h
  cases (show v = Value.ref a from rx)
  cases (show u = Value.ref b from ry)
  obtain ⟨us, r1, p1, _⟩ := I.tuple ha
  obtain ⟨ws, r2, p2, _⟩ := I.tuple hb
  have hsz : us.toArray.size = ws.toArray.size := by
    rw [List.size_toArray, List.size_toArray, ← r1.length, ← r2.length]
    exact Paired.length hp
  refine SeqAt.sd_rcNeIn_tuples (e := fun _ => true) p1 p2 hu (fun j h1 h2 => ?_) ?_
  · have k := items_run ih hp r1 r2 j (by simpa using h1) (by simpa using h2)
    have k2 : SeqAt.EqIn X.prog X.w A.in1 s _ _ true := k
    simpa using k2
  · rw [all_true, hsz]
    simpa using q
theorem ew_run (I : Inv X pins σ H s) : ∀ (n : Nat) (A : Around), A.units + n < cLine → ∀ (x y : V) (v u : Value), Ew X.K H n x y → RelV x v → RelV y u → SeqAt.EqP X.prog X.w A s v u true
  | 0, _, _, _, _, _, _, h, _, _ => (show False from h).elim
  | n + 1, A, hu, x, y, v, u, h, rx, ry => by
    rcases h with ⟨rfl, f⟩ | h | h
    · exact (eqAt_same rx ry f).eqP
    · have step := eqR_run I (A := A) (by omega) (ew_run I n A.in1 (by show A.units + 1 + n < cLine; omega)) h rx ry
      obtain ⟨a, b, rfl, rfl⟩ : ∃ a b, x = .ref a ∧ y = .ref b := by
        rcases h with ⟨a, b, _, _, e1, e2, _⟩ | ⟨a, b, _, _, e1, e2, _⟩
        · exact ⟨a, b, e1, e2⟩
        · exact ⟨a, b, e1, e2⟩
      cases (show v = Value.ref a from rx)
      cases (show u = Value.ref b from ry)
      by_cases e : a = b
      · subst e
        exact (SeqAt.EqAt.same _).eqP
      · exact SeqAt.eqP_refs e step
    · have step := ewT_run I (A := A) (by omega) (ew_run I n A.in1 (by show A.units + 1 + n < cLine; omega)) h rx ry
      obtain ⟨a, b, _, _, rfl, rfl, _⟩ := h
      cases (show v = Value.ref a from rx)
      cases (show u = Value.ref b from ry)
      by_cases e : a = b
      · subst e
        exact (SeqAt.EqAt.same _).eqP
      · exact SeqAt.eqP_refs e step
end
section
variable {X : Cx}
/-- a == b, a != b: two tuples that are equal -/
def rEqW (K : PySem.W.Frag) : R2 := fun x y H Q => ∃ n, n ≤ 60 ∧ EwT K H (Ew K H n) x y ∧ Q (.bl true) H
def rNeW (K : PySem.W.Frag) : R2 := fun x y H Q => ∃ n, n ≤ 60 ∧ EwT K H (Ew K H n) x y ∧ Q (.bl false) H
theorem op_eqW (hu : X.A.units + 64 < cLine) : OpR X (compareOp .Eq) (rEqW X.K) := by
  intro pins s σ H x y v u Q I rx ry h
  obtain ⟨n, hn, h, q⟩ := h
  exact ewT_run I (A := X.A) (by omega) (ew_run I n X.A.in1 (by show X.A.units + 1 + n < cLine; omega)) h rx ry _ _ ⟨.bl true, H, I, rfl, q⟩
theorem op_neW (hu : X.A.units + 64 < cLine) : OpR X (compareOp .NotEq) (rNeW X.K) := by
  intro pins s σ H x y v u Q I rx ry h
  obtain ⟨n, hn, h, q⟩ := h
  exact ewT_ne I (A := X.A) (by omega) (ew_run I n X.A.in1 (by show X.A.units + 1 + n < cLine; omega)) h rx ry _ _ ⟨.bl false, H, I, rfl, q⟩
end
section
variable {K : PySem.W.Frag} {H : Hp} {a b : Addr} {n : Nat}
theorem ew_flat {x : V} (h : flatB x = true) : Ew K H (n + 1) x x := .inl ⟨rfl, h⟩
theorem ew_tup {xs ys : List V} (h1 : H a = some (.tup xs)) (h2 : H b = some (.tup ys)) (h : Paired (Ew K H n) xs ys) : Ew K H (n + 1) (.ref a) (.ref b) := .inr (.inr ⟨_, _, _, _, rfl, rfl, .of h1, .of h2, h⟩)
theorem ew_lst {xs ys : List V} (h1 : H a = some (.lst xs)) (h2 : H b = some (.lst ys)) (h : Paired (Ew K H n) xs ys) : Ew K H (n + 1) (.ref a) (.ref b) := .inr (.inl (.inl ⟨_, _, _, _, rfl, rfl, .of h1, .of h2, h⟩))
theorem ew_dct {ks ls : List (Key × V)} (h1 : H a = some (.dK ks)) (h2 : H b = some (.dK ls)) (hl : ks.length = ls.length) (h : ∀ p ∈ ks, ∃ u, valV ls p.1 = some u ∧ Ew K H n p.2 u) : Ew K H (n + 1) (.ref a) (.ref b) := .inr (.inl (.inr ⟨_, _, _, _, rfl, rfl, h1, h2, hl, h⟩))
theorem ew_flats {xs : List V} (h : ∀ x ∈ xs, flatB x = true) : Paired (Ew K H (n + 1)) xs xs := by
  induction xs with
  | nil => exact .nil
  | cons x xs ih => exact .cons (ew_flat (h x List.mem_cons_self)) (ih fun y hy => h y (List.mem_cons_of_mem _ hy))
end
section
variable {X : Cx}
/-- sorted(t): a tuple of texts, fewer than 64 -/
def rSortedST (K : PySem.W.Frag) : List V → Hp → VK → Prop := fun vs H Q => ∃ (a : Addr) (xs : List Str), vs = [V.ref a] ∧ SqT K H a (xs.map V.str) ∧ xs.length < 64 ∧ ∀ (ys : List Str) (p : Addr), ys.Perm xs → sortedS ys = true → H p = none → Q (.ref p) (upd H p (.lst (ys.map V.str)))
theorem cr_sortedST : CallR X (.builtin "sorted") (rSortedST X.K) := by
  intro pins s σ H vs us Q I r h
  obtain ⟨a, xs, rfl, hs, h64, q⟩ := h
  obtain ⟨its, rv, hl, _⟩ := I.tuple hs
  rw [Vals.ref1 r]
  have hlen0 := rv.length
  rw [List.length_map] at hlen0
  obtain ⟨o, ho, hc, n, hd⟩ := hl
  refine Calls.call_function_entry PyProof.Rows.kind_sorted PyProof.Rows.plain_sorted PyProof.Rows.entry_sorted (PyProof.Rows.args_sorted1 _) ?_
  unfold Builtin.«sorted»
  refine wpAny_bind (m := checkCount "sorted" 1 1 _) (wpAny_pure ?_)
  have h16 : its.length ≤ sizeLine := by rw [← hlen0, sizeLine_eq]; omega
  refine wpAny_bind (wpAny_collect_seq (A := X.A.in1) a (.inr rfl) ho hc hd (fun h' hk => ?_) (by simpa using h16))
  have hS : StrsAre its xs := rv.strs
  have I1 : Inv X pins σ H { s with heap := h' } := I.kept (t' := s.toks) hk
  refine wpAny_bind (wpAny_newList ?_ (by simpa using h16))
  have hoL : (h'.push (seqObj "list" its.toArray 0)).get? h'.objs.size = some (seqObj "list" its.toArray 0) := Heap.get?_push_size _ rfl
  show wpAny _ _ _ _ _ { s with heap := h'.push (seqObj "list" its.toArray 0) }
  refine wpAny_bind (wpAny_holding (wpAny_call_entry PyProof.Rows.slot_list_sort ⟨_, hoL, rfl⟩ PyProof.Rows.entry_list_sort
    (list_sort_treeK strKind_oneLt (s := { s with heap := h'.push (seqObj "list" its.toArray 0) }) hoL hS.keysOf (fun v₁ v₂ rest e => keyKind_strs (by rw [← e]; exact hS)) (by rw [← hlen0]; exact h64) fun st' hp hs => ⟨_, rfl, ?_⟩)
    (PyProof.Rows.args_list_sort _)))
  obtain ⟨ys, g1, g2, g3⟩ := sorted_out_str hS hp hs
  obtain ⟨e', he'⟩ := PyProof.Rows.sortedHeap_at (vs := its) (out := (arrOf st').map (·.2)) hoL
  have hlen : (ys.map V.str).length ≤ sizeLine := by
    rw [List.length_map, g2.length_eq]
    exact Nat.le_trans (Nat.le_of_lt h64) (by decide)
  refine wpAny_pure ⟨_, rfl, .ref h'.objs.size, upd H h'.objs.size (.lst (ys.map V.str)), I1.laid (t' := s.toks) (fun b u e => ?_) (Nat.le_refl _)
    (show ObjOk X.prog X.w _ _ _ (.lst (ys.map V.str)) from ⟨hlen, ((arrOf st').map (·.2)).toList, e', vals_of_strs g1, by rw [Array.toArray_toList]; exact he'⟩), rfl, q ys _ g2 g3 (I1.hok.fresh (Nat.le_refl _))⟩
  have hb : b < h'.objs.size := Heap.lt_size e
  rw [PyProof.Rows.sortedHeap_old (Nat.ne_of_lt hb) (by rw [size_push']; exact Nat.lt_succ_of_lt hb)]
  exact Heap.get?_push_of_some _ e
end
section
variable {X : Cx} {s : Shared} {H : Hp} {scope : Scope} {env : Env} {fp : List Addr}
theorem call_list_ofB : CallR (X.blk s H scope env fp) (.type "list") (fun xs H Q => ∃ p ys, xs = [.ref p] ∧ (SqL X.K H p ys ∨ SqT X.K H p ys) ∧ ∀ l, H l = none → Q (.ref l) (upd H l (.lst ys))) := call_list_of
theorem call_tuple_ofB : CallR (X.blk s H scope env fp) (.type "tuple") (fun xs H Q => ∃ p ys, xs = [.ref p] ∧ ((SqL X.K H p ys ∧ ∀ l, H l = none → Q (.ref l) (upd H l (.tup ys))) ∨ (SqT X.K H p ys ∧ Q (.ref p) H))) := call_tuple_of
theorem cr_sortedSB : CallR (X.blk s H scope env fp) (.builtin "sorted") (rSortedS X.K) := cr_sortedS
theorem cr_sortedSTB : CallR (X.blk s H scope env fp) (.builtin "sorted") (rSortedST X.K) := cr_sortedST
end
section
variable {X : Cx}
theorem op_ne_dictB (hu : X.A.units + 64 < cLine) : OpR X (compareOp .NotEq) rNeDA := op_ne_dictA (by omega)
end
section
variable {K : PySem.W.Frag} {H : Hp} {Q : VK}
theorem k_neW {a b : Addr} {xs ys : List V} (n : Nat) (hn : n ≤ 60) (h1 : H a = some (.tup xs)) (h2 : H b = some (.tup ys)) (h : Paired (Ew K H n) xs ys) (q : Q (.bl false) H) : rNeW K (.ref a) (.ref b) H Q := ⟨n, hn, ⟨_, _, _, _, rfl, rfl, .of h1, .of h2, h⟩, q⟩
theorem k_eqW {a b : Addr} {xs ys : List V} (n : Nat) (hn : n ≤ 60) (h1 : H a = some (.tup xs)) (h2 : H b = some (.tup ys)) (h : Paired (Ew K H n) xs ys) (q : Q (.bl true) H) : rEqW K (.ref a) (.ref b) H Q := ⟨n, hn, ⟨_, _, _, _, rfl, rfl, .of h1, .of h2, h⟩, q⟩
end
end Sd


/-! dict comprehensions: name = {..}; over any walk -/
namespace Sd
open PySem L2
section
variable {X : Cx}
theorem ps_setDc {i : Nat} {y : Str} {py : Pos} {kx vx tg iter : Expr} {ifs : List Expr} {scope : Scope} {own : List (Str × Nat)} {pos spos : Pos} {wi : TI} {g : TG} {tt : TT} {tk tv : L2.TE} (hc : X.calm = true) (hN : X.N.Nodup) (hy : X.N[i]? = some y) (hyl : X.env.scope.names.lookup y = some .local)
    (hsw : swapsWith (.DictComp kx vx [⟨tg, iter, ifs, 0⟩] scope pos) (some (.Name y py)) spos.line X.env = pure true) (hi : PI X tg iter wi) (ok : BlkOk X.N X.env.scope scope own)
    (hg : ∀ (s : Shared) (H : Hp) (C : Addr) (cl : List (Str × Addr)) (fp : List Addr), PG (X.blk s H scope (compEnvC scope cl C X.env) fp) tg g) (ht : ∀ (s : Shared) (H : Hp) (C : Addr) (cl : List (Str × Addr)) (fp : List Addr), PTs (X.blk s H scope (compEnvC scope cl C X.env) fp) ifs tt)
    (hk : ∀ (s : Shared) (H : Hp) (C : Addr) (cl : List (Str × Addr)) (fp : List Addr), PE (X.blk s H scope (compEnvC scope cl C X.env) fp) kx tk)
    (he : ∀ (s : Shared) (H : Hp) (C : Addr) (cl : List (Str × Addr)) (fp : List Addr), PE (X.blk s H scope (compEnvC scope cl C X.env) fp) vx tv) (hs : ∀ x, foldedSetIterable iter X.env x = pure x := by intro _; rfl) :
    PS X (.Assign [.Name y py] (.DictComp kx vx [⟨tg, iter, ifs, 0⟩] scope pos) spos) (tAsg (tDc wi g tt tk tv (own.map (·.2))) (gName i)) := by
  refine ⟨fun pins s σ H D I h => ?_⟩
  rw [exec_Assign_Name_used _ _ _ _ hsw]
  refine wpAny_bind (wpAny_standAt (wpAny_bind ?_))
  show wpAny _ X.A (do let _ ← comprehension (.DictComp kx vx [⟨tg, iter, ifs, 0⟩] scope pos) scope X.env (firstIterPos [⟨tg, iter, ifs, 0⟩] pos) newDict false (eval iter X.env) (some (assign (.Name y py) X.env))) _ _ s
  have h : tDc wi g tt tk tv (own.map (·.2)) σ H (fun x H1 => gName i x σ H1 D.nx) := h
  refine wpAny_bind (thn (dc_core (Qf := fun _ s' => SP X pins D .next s') hc hN I hi ok hg ht hk he hs h fun L C s' m H' I' q hn f => ?_) fun _ s' hq => wpAny_pure (wpAny_pure hq))
  show wpAny _ _ (assign (.Name y py) X.env (.ref L)) _ _ _
  refine wpAny_assign_Name (store_ok2 (v := V.ref L) I' hN hy (.inl hyl) rfl (fun s2 I2 ⟨a, sb, ha⟩ => ?_) (.inr hyl))
  obtain ⟨f0, f1, f2, f3, f4, f5⟩ := f
  have haC : C ≠ a := by
    rcases ha with z | z
    · rw [z]; exact f1
    · exact fun e => f4 y a z e.symm
  refine ⟨m, hn.sameBut sb haC, fun h3 sb3 => ?_⟩
  exact ⟨_, H', I2.turned (t' := s2.toks) (fun b o hb e => (sb3.2 b hb).trans e) f0 f1 f3 f4 f5, q⟩
end
theorem sw_trueD {kx vx : Expr} {gs : List Comprehension} {scope : Scope} {pos py : Pos} {y : Str} {l : Nat} {env : Env} (hk : env.scope.kind = .function) (hy : env.scope.names.lookup y = some .local) (hl : (py.line == pos.line) = true)
    (hn : (scope.names.any fun (n, k) => n == y && (k == .local || k == .cell)) = false) : swapsWith (.DictComp kx vx gs scope pos) (some (.Name y py)) l env = pure true := by
  have ky : env.kindOf y = some .local := hy
  have hb : env.blockKind = .function := by unfold Env.blockKind; rw [hk]; rfl
  unfold swapsWith
  simp only [hb, ky, hn, Expr.pos, hl]
  rfl
section
variable {J : It} {n : Nat} {G : Hp → Prop} {Y : Nat → Hp → V → Hp → Prop}
theorem dc_it (w : Walk J n G Y) {g : TG} {tt : TT} {tk tv : L2.TE} {vs : List Nat} {σ : L2.St} {H1 : Hp} {D : Addr} {Qd : Hp → Prop} (Pv : Nat → Hp → Prop) (h0 : Pv 0 (upd H1 D (.dK []))) (hG : ∀ i H, i ≤ n → Pv i H → G H)
    (hs : ∀ i x H H', i < n → Pv i H → Y i H x H' → g x (wipe σ vs) H' fun σ2 H2 => wipe σ2 vs = wipe σ vs ∧ tt σ2 H2 fun b H3 =>
      if b = true then tk σ2 H3 fun y H4 => tv σ2 H4 fun z H5 => ∃ kvs k, y = kV k ∧ H5 D = some (.dK kvs) ∧ kvs.length < sizeLine ∧ Pv (i + 1) (upd H5 D (.dK (putK kvs k z))) else Pv (i + 1) H3) (hd : ∀ H, Pv n H → Qd H) :
    ∃ W : Nat → Nat → Hp → Prop, (∃ m, W 0 m (upd H1 D (.dK []))) ∧ ∀ i m H, W i m H →
      (J.stop i H ∧ Qd H) ∨ (J.go i H ∧ ∃ Nx : Hp → Prop, (∀ H', Nx H' → ∃ m', m' < m ∧ W (i + 1) m' H') ∧ ∀ x H', J.yld i H x H' → g x (wipe σ vs) H' fun σ2 H2 => wipe σ2 vs = wipe σ vs ∧ tt σ2 H2 fun b H3 =>
        if b = true then tk σ2 H3 fun y H4 => tv σ2 H4 fun z H5 => ∃ kvs k, y = kV k ∧ H5 D = some (.dK kvs) ∧ kvs.length < sizeLine ∧ Nx (upd H5 D (.dK (putK kvs k z))) else Nx H3) := by
  refine ⟨fun i m H => m = n - i ∧ i ≤ n ∧ Pv i H, ⟨n, by simp, Nat.zero_le _, h0⟩, ?_⟩
  rintro i m H ⟨rfl, hi, p⟩
  have q := hG i H hi p
  by_cases hlt : i < n
  · refine .inr ⟨w.goes i H hlt q, Pv (i + 1), fun H' p' => ⟨n - (i + 1), by omega, rfl, hlt, p'⟩, fun x H' y => hs i x H H' hlt p (w.yields i H x H' hlt q y)⟩
  · have e : i = n := by omega
    subst e
    exact .inl ⟨w.stops H q, hd H p⟩
end
end Sd


namespace Sd
open PySem L2
open C8 (Cal Met Mak pe_c pe_mk pe_mt pe_mt0 tCut)
def top (i : Nat) : Stmt := PySem.Challenge.pw_shardstack_k21_parts_on_machines.main.body.getD i (.Pass ⟨0, 0, 0, 0⟩)
abbrev sDice : Stmt := top 9
abbrev sRoll : Stmt := top 10
abbrev sTold : Stmt := top 12
abbrev sRounds : Stmt := top 11

structure TxtL (mg : Str → Option Value) : Prop where
  abs : mg "abs" = none
  int : mg "int" = none
set_option linter.unusedSimpArgs false
set_option pp.deepTerms false
set_option pp.deepTerms.threshold 12
set_option hygiene false
local macro_rules | `(tactic| fail "nd") => `(tactic| first | assumption | decide +kernel)
local macro_rules | `(tactic| fail "ix") => `(tactic| first | exact ⟨0, rfl⟩ | exact ⟨1, rfl⟩ | exact ⟨2, rfl⟩ | exact ⟨3, rfl⟩ | exact ⟨4, rfl⟩ | exact ⟨5, rfl⟩ | exact ⟨6, rfl⟩ | exact ⟨7, rfl⟩ | exact ⟨8, rfl⟩ | exact ⟨9, rfl⟩ | exact ⟨10, rfl⟩ | exact ⟨11, rfl⟩ | exact ⟨12, rfl⟩ | exact ⟨13, rfl⟩ | exact ⟨14, rfl⟩ | exact ⟨15, rfl⟩ | exact ⟨16, rfl⟩ | exact ⟨17, rfl⟩ | exact ⟨18, rfl⟩ | assumption)
local macro_rules | `(tactic| fail "up") => `(tactic| first | exact ⟨0, rfl, rfl⟩ | exact ⟨1, rfl, rfl⟩ | exact ⟨2, rfl, rfl⟩ | exact ⟨3, rfl, rfl⟩ | exact ⟨4, rfl, rfl⟩ | exact ⟨5, rfl, rfl⟩ | exact ⟨6, rfl, rfl⟩ | exact ⟨7, rfl, rfl⟩ | exact ⟨8, rfl, rfl⟩ | exact ⟨9, rfl, rfl⟩ | exact ⟨10, rfl, rfl⟩ | exact ⟨11, rfl, rfl⟩ | exact ⟨12, rfl, rfl⟩ | exact ⟨13, rfl, rfl⟩ | exact ⟨14, rfl, rfl⟩ | exact ⟨15, rfl, rfl⟩ | exact ⟨16, rfl, rfl⟩ | assumption)
local macro_rules | `(tactic| fail "lkF") => `(tactic| first | assumption | exact fz_at 0 (by fail "nd") rfl rfl | exact fz_at 1 (by fail "nd") rfl rfl | exact fz_at 2 (by fail "nd") rfl rfl | exact fz_at 3 (by fail "nd") rfl rfl | exact fz_at 4 (by fail "nd") rfl rfl | exact fz_at 5 (by fail "nd") rfl rfl | exact fz_at 6 (by fail "nd") rfl rfl | exact fz_at 7 (by fail "nd") rfl rfl)
local macro_rules | `(tactic| fail "lkD") => `(tactic| first | assumption | exact dz_at 0 (by fail "nd") rfl rfl | exact dz_at 1 (by fail "nd") rfl rfl | exact dz_at 2 (by fail "nd") rfl rfl | exact dz_at 3 (by fail "nd") rfl rfl | exact dz_at 4 (by fail "nd") rfl rfl)
local macro_rules | `(tactic| fail "ptF") => `(tactic| first | assumption | exact fz_put 0 (by fail "nd") rfl (Nat.le_of_ble_eq_true rfl) | exact fz_put 1 (by fail "nd") rfl (Nat.le_of_ble_eq_true rfl) | exact fz_put 2 (by fail "nd") rfl (Nat.le_of_ble_eq_true rfl) | exact fz_put 3 (by fail "nd") rfl (Nat.le_of_ble_eq_true rfl) | exact fz_put 4 (by fail "nd") rfl (Nat.le_of_ble_eq_true rfl) | exact fz_put 5 (by fail "nd") rfl (Nat.le_of_ble_eq_true rfl) | exact fz_put 6 (by fail "nd") rfl (Nat.le_of_ble_eq_true rfl) | exact fz_put 7 (by fail "nd") rfl (Nat.le_of_ble_eq_true rfl) | exact fz_new (by decide +kernel) rfl)
local macro_rules | `(tactic| fail "ptD") => `(tactic| first | assumption | exact dz_put 0 (by fail "nd") rfl (Nat.le_of_ble_eq_true rfl) | exact dz_put 1 (by fail "nd") rfl (Nat.le_of_ble_eq_true rfl) | exact dz_put 2 (by fail "nd") rfl (Nat.le_of_ble_eq_true rfl) | exact dz_put 3 (by fail "nd") rfl (Nat.le_of_ble_eq_true rfl) | exact dz_put 4 (by fail "nd") rfl (Nat.le_of_ble_eq_true rfl))
local macro_rules | `(tactic| fail "sz") => `(tactic| first | assumption | exact (Nat.le_of_ble_eq_true rfl) | omega | decide)
local macro_rules | `(tactic| fail "sd") => `(tactic| first | rfl | assumption | decide | omega | (dsimp only; first | decide | omega) | exact .inr ⟨by decide, by decide⟩ | exact .inl ⟨by decide, by decide⟩ | exact ⟨by omega, by omega⟩ | exact .inl ⟨by omega, by omega⟩ | exact .inr ⟨by omega, by omega⟩ | exact ⟨by omega, by omega, by omega⟩)
local macro_rules | `(tactic| fail "cl") => `(tactic| (clear hH; dsimp only [List.set, List.cons_append, List.nil_append, List.append] at hL))
local macro_rules | `(tactic| fail "gn") => `(tactic| (intro p hp; generalize hH : upd H p _ = H; replace hL := Led.newH hL hp hH; clear hH hp))
local macro_rules | `(tactic| fail "gup") => `(tactic| (generalize hH : upd H _ _ = H; replace hL := Led.upU hL (by fail "up") hH; fail "cl"))
local macro_rules | `(tactic| fail "gmk") => `(tactic| (intro x dx hx hd ne; generalize hH : upd (upd H dx _) x _ = H; replace hL := Led.made hL hx hd ne hH; clear hH hx hd ne))
local macro_rules | `(tactic| fail "v") => `(tactic| refine ⟨_, rfl, ?_⟩)
local macro_rules | `(tactic| fail "i2") => `(tactic| refine ⟨_, _, rfl, rfl, ?_⟩)
local macro_rules | `(tactic| fail "go1") => `(tactic| first
  | refine ⟨_, rfl, ?_⟩
  | refine ⟨_, _, rfl, rfl, ?_⟩
  | refine ⟨_, _, rfl, ?_⟩
  | refine iteT ?_
  | refine iteF ?_
  | refine k_fld hL (by fail "ix") (by assumption) (by assumption) (by fail "lkF") ?_
  | refine k_dgetS hL (by fail "ix") (by fail "lkD") ?_
  | refine k_dgetI hL (by fail "ix") (by assumption) ?_
  | refine k_ixL hL (by fail "ix") (by first | rfl | assumption) ?_
  | refine k_ixT hL (by fail "ix") (by first | rfl | assumption) ?_
  | refine k_tyL hL (by fail "ix") ?_
  | refine k_isd hL (by fail "ix") ?_
  | (refine And.intro (by fail "sz") ?_; fail "gn")
  | refine And.intro (by fail "sd") ?_
  | fail "gn"
  | refine k_meth hL (by fail "ix") (by first | assumption | exact fz_no (by decide +kernel)) ?_
  | refine k_gtup hL (by fail "ix") rfl ?_
  | (refine k_popI hL (by fail "ix") (by assumption) ?_; fail "gup")
  | (refine k_listD hL (by fail "ix") ?_; fail "gn")
  | (refine ⟨_, _, _, _, rfl, rfl, hL.at (by fail "ix"), rfl, ?_⟩; fail "gup")
  | (refine ⟨_, _, _, rfl, rfl, hL.at (by fail "ix"), (by fail "sz"), ?_⟩; fail "gup")
  | (refine ⟨_, _, _, _, rfl, hL.at (by fail "ix"), by assumption, by assumption, Nat.lt_of_le_of_lt fz_len (by decide), ?_⟩; generalize hH : upd H _ _ = H; replace hL := Led.upF hL (by fail "up") (by fail "ptF") hH; fail "cl")
  | (refine ⟨_, _, hL.at (by fail "ix"), Nat.lt_of_le_of_lt fz_len (by decide), ?_⟩; generalize hH : upd H _ _ = H; replace hL := Led.upF hL (by fail "up") (by fail "ptF") hH; fail "cl")
  | (refine k_dputS hL (by fail "ix") (Nat.lt_of_le_of_lt dz_len (by decide)) (by fail "ptD") (by fail "up") ?_; clear hL; intro H hL; dsimp only [List.set, List.cons_append, List.nil_append, List.append] at hL)
  | refine k_lenL2 hL (by fail "ix") ?_
  | refine k_lenT2 hL (by fail "ix") ?_
  | refine .inl ⟨_, rfl, ?_⟩
  | refine .inr ⟨_, rfl, ?_⟩)
local macro_rules | `(tactic| fail "go") => `(tactic| repeat fail "go1")
local macro_rules | `(tactic| fail "pm") => `(tactic| (refine Led.le hL (fun a_ => ?_); simp only [cnt_nil, cnt_cons, cnt_app, List.map_append, List.map_cons, List.map_nil, List.flatMap_append, List.flatMap_cons, List.flatMap_nil, List.append_assoc, List.cons_append, List.nil_append]; omega))

def dD (a b c : Int) : HO := .lst [.int a, .int b, .int c]
def spDice : Sp := fun vs H Q _ => ∃ (c : Int) (L : Lg), vs = [.int c] ∧ Led H L ∧ ∀ (a b d : Int) (p : Addr) (H' : Hp), Led H' ((p, dD a b d) :: L) → Q (.ref p) H'
def spRoll : Sp := fun vs H Q _ => ∃ (l : Addr) (a b c m : Int) (R : Lg), vs = [.ref l, .int m] ∧ Led H ((l, dD a b c) :: R) ∧ 1 ≤ m ∧ m ≤ 100000000 ∧
  ∀ (r a' b' c' : Int) (H' : Hp), 0 ≤ r → r < m → Led H' ((l, dD a' b' c') :: R) → Q (.int r) H'
section
variable {P : Program} {w : World} {K : PySem.W.Frag} {mg : Str → Option Value} {base : Heap}
theorem scDice : FnScope ["cell"] ["cell"] (defScope sDice) := ⟨rfl, rfl, rfl, by decide +kernel, rfl, by decide +kernel, by decide +kernel⟩
theorem ok_dice {f : Addr} {fd : FuncData} (F : Fun K "_law_dice" "_law_dice" sDice f fd) (T : TxtL mg) : FnOk P w K mg base CX0 1 f fd ["cell"] spDice := by
  refine F.ok scDice (fun vs H Q E h => ?_) (fun cdv A outer s H vs Q E hr h => ?_)
  · obtain ⟨c, L, rfl, _⟩ := h
    rfl
  · obtain ⟨c, L, rfl, hL, k⟩ := h
    refine ⟨_, pss_cons (ps_if (pt_chain op_lt op_lt (pe_op op_sub pe_int pe_int) (pv 0) pe_int) (pss_one (ps_ret (pe_lst (pa_cons (pe_callB call_abs (by rfl) T.abs (by decide +kernel) (pa_cons (pv 0) pa_nil)) (pa_cons pe_int (pa_cons pe_int pa_nil)))))) pss_nil)
      (pss_one (ps_ret (pe_lst (pa_cons (pv 0) (pa_cons (pe_op op_add pe_int (pe_op op_mod (pe_callTy call_int1 (by rfl) T.int (by decide +kernel) (pa_cons (pv 0) pa_nil)) pe_int)) (pa_cons (pe_callTy call_int1 (by rfl) T.int (by decide +kernel) (pa_cons (pe_cmpR op_ge (pv 0) (pe_op op_pow pe_int pe_int) (nomark _)) pa_nil)) pa_nil)))))), ?_⟩
    fail "go"
    refine ite_d (fun h1 => ?_) (fun h1 => ?_)
    · fail "go"
      refine ite_d (fun h2 => ?_) (fun h2 => ?_)
      · fail "go"
        exact k _ _ _ _ _ hL
      · fail "go"
        exact k _ _ _ _ _ hL
    · fail "go"
      exact k _ _ _ _ _ hL
theorem scRoll : FnScope ["dice", "many", "found"] ["dice", "many"] (defScope sRoll) := ⟨rfl, rfl, rfl, by decide +kernel, rfl, by decide +kernel, by decide +kernel⟩
theorem ok_roll {f : Addr} {fd : FuncData} (F : Fun K "_law_roll" "_law_roll" sRoll f fd) (T : TxtL mg) : FnOk P w K mg base CX0 1 f fd ["dice", "many"] spRoll := by
  refine F.ok scRoll (fun vs H Q E h => ?_) (fun cdv A outer s H vs Q E hr h => ?_)
  · obtain ⟨l, a, b, c, m, R, rfl, _⟩ := h
    rfl
  · obtain ⟨l, a, b, c, m, R, rfl, hL, h1, h2, k⟩ := h
    refine ⟨_, pss_cons (ps_if (PW.pt (pw_or (pt_cmpR op_eq (pe_ix ix_list (pv 0) pe_int (fun _ _ => rfl)) pe_int (nomark _)) (pw_or1 (PW.pt (pw_and (pt_cmpR op_eq (pe_ix ix_list (pv 0) pe_int (fun _ _ => rfl)) pe_int (nomark _)) (pw_and1 (pt_cmpR op_gt (pe_ix ix_list (pv 0) pe_int (fun _ _ => rfl)) pe_int (nomark _))))))))
        (pss_cons (ps_set (i := 2) scRoll.nd rfl (Or.inl rfl) (pe_op op_mod (pe_callTy call_int1 (by rfl) T.int (by decide +kernel) (pa_cons (pe_ix ix_list (pv 0) pe_int (fun _ _ => rfl)) pa_nil)) (pv 1)))
          (pss_cons (ps_asg (pe_op op_fdiv (pe_ix ix_list (pv 0) pe_int (fun _ _ => rfl)) (pv 1)) (pg_sub (pv 0) pe_int set_list)) (pss_one (ps_ret (pv 2)))))
        pss_nil)
      (pss_cons (ps_asg pe_int (pg_sub (pv 0) pe_int set_list))
      (pss_cons (ps_if (pt_cmpR op_gt (pv 1) pe_int (nomark _)) pss_never pss_nil)
      (pss_cons (ps_asg (pe_op op_mod (pe_callTy call_int1 (by rfl) T.int (by decide +kernel) (pa_cons (pe_op op_add (pe_op op_add (pe_op op_mul (pe_ix ix_list (pv 0) pe_int (fun _ _ => rfl)) pe_int) (pe_op op_mul (pe_ix ix_list (pv 0) pe_int (fun _ _ => rfl)) pe_int)) pe_int) pa_nil)) pe_int) (pg_sub (pv 0) pe_int set_list))
      (pss_cons (ps_asg (pe_op op_add (pe_ix ix_list (pv 0) pe_int (fun _ _ => rfl)) pe_int) (pg_sub (pv 0) pe_int set_list))
      (pss_one (ps_ret (pe_op op_mod (pe_callTy call_int1 (by rfl) T.int (by decide +kernel) (pa_cons (pe_op op_fdiv (pe_ix ix_list (pv 0) pe_int (fun _ _ => rfl)) pe_int) pa_nil)) (pv 1)))))))), ?_⟩
    unfold dD at hL
    have hm : ∀ (x b c : Int) (H : Hp), Led H ((l, .lst [.int (x / m), .int b, .int c]) :: R) → Q (.int (x % m)) H := fun x b c H h => k _ _ _ _ _ (Int.emod_nonneg _ (by omega)) (Int.emod_lt_of_pos _ (by omega)) h
    have hd : ∀ (x a b c : Int) (H : Hp), Led H ((l, .lst [.int a, .int b, .int c]) :: R) → Q (.int (x % m)) H := fun x a b c H h => k _ _ _ _ _ (Int.emod_nonneg _ (by omega)) (Int.emod_lt_of_pos _ (by omega)) h
    fail "go"
    refine ite_d (fun q1 => ?_) (fun q1 => ?_)
    · fail "go"
      exact hm _ _ _ _ hL
    · fail "go"
      refine ite_d (fun q2 => ?_) (fun q2 => ?_)
      · fail "go"
        refine ite_d (fun q3 => ?_) (fun q3 => ?_)
        · fail "go"
          exact hm _ _ _ _ hL
        · fail "go"
          refine ite_d (fun q4 => absurd q4 (by omega)) (fun q4 => ?_)
          fail "go"
          exact hd _ _ _ _ _ hL
      · fail "go"
        refine ite_d (fun q4 => absurd q4 (by omega)) (fun q4 => ?_)
        fail "go"
        exact hd _ _ _ _ _ hL
end
/-- script[:1], or [0]: one dice -/
def spRounds (K : PySem.W.Frag) : Sp := fun vs H Q _ => ∃ (a : Addr) (ns : List Int) (L : Lg), vs = [.ref a, .int 1] ∧ SqL K H a (ns.map V.int) ∧ Led H L ∧ ∀ (p d : Addr) (x y z : Int) (H' : Hp), Led H' ((p, .lst [.ref d]) :: (d, dD x y z) :: L) → Q (.ref p) H'
section
variable {P : Program} {w : World} {K : PySem.W.Frag} {mg : Str → Option Value} {base : Heap}
theorem scRounds : FnScope ["script", "most", "cells", "cell"] ["script", "most"] (defScope sRounds) := ⟨rfl, rfl, rfl, by decide +kernel, rfl, by decide +kernel, by decide +kernel⟩
theorem cut_1 (ns : List Int) : cutV (ns.map V.int) none (some 1) = (ns.take 1).map V.int := by
  unfold cutV
  rw [show (some (1 : Int)) = some ((1 : Nat) : Int) from rfl, HT.sIx_nat, HT.sIx_none]
  cases ns <;> simp
theorem ok_rounds {f : Addr} {fd : FuncData} (F : Fun K "_law_rounds" "_law_rounds" sRounds f fd) (c__law_dice : Cal P w K mg base 1 "_law_dice" spDice []) :
    FnOk P w K mg base CX0 2 f fd ["script", "most"] (spRounds K) := by
  refine F.ok scRounds (fun vs H Q E h => ?_) (fun cdv A outer s H vs Q E hr h => ?_)
  · obtain ⟨a, ns, L, rfl, _⟩ := h
    rfl
  · obtain ⟨a, ns, L, rfl, hS, hL, k⟩ := h
    refine ⟨_, (pss_cons (ps_set (i := 2) scRounds.nd rfl (Or.inl rfl) (pe_slice sl_list (pv 0) po_none (po_some (pv 1))))
  (C8.pss_cut (ps_if (pt_cmpR (op_eqP hr.units) (pv 2) (pe_lst pa_nil) (nomark _))
  (pss_one (ps_set (i := 2) scRounds.nd rfl (Or.inl rfl) (pe_lst (pa_cons pe_int pa_nil))))
  pss_nil)
  (pss_one (ps_ret (pe_lc (own := [("cell", 3)]) (g := gName 3) (by rfl) scRounds.nd (pi_list (pv 2)) (blkOk_by (own := [("cell", 3)]) (N := ["script", "most", "cells", "cell"]) (sc := (defScope sRounds)) (by decide +kernel)) (fun _ _ _ _ _ => (pg_name (i := 3) scRounds.nd rfl (Or.inl rfl))) (fun _ _ _ _ _ => pts_nil) (fun _ _ _ _ _ => (pe_c c__law_dice hr (by decide) (by rfl) (pa_cons (pv 3) pa_nil)))))))), ?_⟩
    refine ⟨_, rfl, _, rfl, 1, rfl, a, _, rfl, hS, ?_⟩
    rw [cut_1]
    fail "gn"
    refine ⟨fun σ H => Hold (∃ (a p : Addr) (c : Int) (v3 : Option V), σ = [some (.ref a), some (.int 1), some (.ref p), v3] ∧ Led H ((p, .lst [.int c]) :: L)), ?_, ?_⟩
    · fail "go"
      refine ⟨_, _, dp_lst (hL.at ⟨1, rfl⟩) dp_ints, dp_lst (hL.at ⟨0, rfl⟩) .nil, shal_ints, shal_ints (ns := []), _, rfl, ?_⟩
      refine ite_b (fun h1 => ?_) (fun h1 => ?_)
      · fail "go"
        refine .mk ⟨a, _, 0, _, rfl, ?_⟩
        exact hL.sub (.cons_cons _ ((List.sublist_cons_self _ _).trans (List.sublist_cons_self _ _)))
      · cases ns with
        | nil => simp [PyData.eqv, PyData.eqvAll] at h1
        | cons n ns =>
          fail "go"
          exact .mk ⟨a, _, n, _, rfl, hL.tail⟩
    · intro σ H h
      obtain ⟨a, p, c, v3, rfl, hL⟩ := h.out
      clear h
      refine ⟨_, rfl, p, rfl, ⟨_, .of (hL.at ⟨0, rfl⟩)⟩, fun D hD => lc_list (K := K) (a := p) (xs := [.int c]) (fun i H => Hold ((i = 0 ∧ Led H ((D, .lst []) :: (p, .lst [.int c]) :: L)) ∨ (i = 1 ∧ ∃ (d : Addr) (x y z : Int), Led H ((D, .lst [.ref d]) :: (d, dD x y z) :: (p, .lst [.int c]) :: L)))) ?_ ?_ ?_ ?_⟩
      · exact .mk (.inl ⟨rfl, hL.new hD⟩)
      · intro i H _ h
        rcases h.out with ⟨_, hL⟩ | ⟨_, d, x, y, z, hL⟩
        · exact .of (hL.at ⟨1, rfl⟩)
        · exact .of (hL.at ⟨2, rfl⟩)
      · intro i y H hi h
        rcases h.out with ⟨rfl, hL⟩ | ⟨rfl, d, x, y, z, hL⟩
        · obtain rfl : V.int c = y := Option.some.inj hi
          clear h
          refine ⟨rfl, ?_⟩
          refine k_yes ?_
          refine ⟨_, rfl, c, _, rfl, hL, fun x y z d H hL => ⟨_, hL.at ⟨1, rfl⟩, by decide, ?_⟩⟩
          generalize hH : upd H _ _ = H
          refine .mk (.inr ⟨rfl, d, x, y, z, ?_⟩)
          exact (hL.upU (o' := .lst [.ref d]) ⟨1, rfl, rfl⟩ hH).perm (List.Perm.swap _ _ _)
        · cases hi
      · intro H h
        rcases h.out with ⟨q, _⟩ | ⟨_, d, x, y, z, hL⟩
        · cases q
        · refine k D d x y z _ (hL.sub ?_)
          exact .cons_cons _ (.cons_cons _ (List.sublist_cons_self _ _))
theorem scTold : FnScope ["what"] ["what"] (defScope sTold) := ⟨rfl, rfl, rfl, by decide +kernel, rfl, by decide +kernel, by decide +kernel⟩
theorem ok_told {CE : Addr} {f : Addr} {fd : FuncData} (F : Fun K "_law_told" "_law_told" sTold f fd) (T : ExcT K mg "PlaceError" CE) : FnOk P w K mg base CX0 7 f fd ["what"] (spTold P w K mg base 6 CE "PlaceError") := by
  refine F.ok scTold (fun vs H Q E h => ?_) (fun cdv A outer s H vs Q E hr h => ?_)
  · obtain ⟨f, F, b, tl, rfl, _⟩ := h
    rfl
  · exact ps_told (by rfl) T.g rfl (Or.inl rfl) (fun _ => rfl) hr h
end
end Sd


set_option linter.unusedVariables false
/-! k21, the plain law: plans -/
namespace Sd
open PySem PySem.Spec PyProof.Rows L2
abbrev Gf := Str → Int
def subG (g : Gf) (n : Str) (w : Int) : Gf := fun m => if m = n then g m - w else g m
theorem subG_self {g : Gf} {n : Str} {w : Int} : subG g n w n = g n - w := if_pos rfl
theorem subG_ne {g : Gf} {n m : Str} {w : Int} (h : ¬ m = n) : subG g n w m = g m := if_neg h
def mayP (ns : List Str) (z : Str → Str) (g : Gf) (w : Int) (n : Str) (rows : List Str) : Bool := decide (n ∈ ns ∧ w ≤ g n ∧ z n ∉ rows.map z)
theorem mayP_iff {ns : List Str} {z : Str → Str} {g : Gf} {w : Int} {n : Str} {rows : List Str} : mayP ns z g w n rows = true ↔ n ∈ ns ∧ w ≤ g n ∧ z n ∉ rows.map z := by
  unfold mayP; exact decide_eq_true_iff
def stay1 (ns : List Str) (z : Str → Str) (w c : Int) (s : Gf × List Str) (n : Str) : Gf × List Str :=
  if (s.2.length : Int) < c ∧ mayP ns z s.1 w n s.2 = true then (subG s.1 n w, s.2 ++ [n]) else s
def stayP (ns : List Str) (z : Str → Str) (w c : Int) (g : Gf) (l : List Str) : Gf × List Str := l.foldl (stay1 ns z w c) (g, [])
def better (g : Gf) (f : Option Str) (n : Str) : Bool := match f with
  | none => true
  | some b => decide (g n > g b)
def best1 (ns : List Str) (z : Str → Str) (g : Gf) (w : Int) (rows : List Str) (f : Option Str) (n : Str) : Option Str := if mayP ns z g w n rows = true ∧ better g f n = true then some n else f
def bestP (ns : List Str) (z : Str → Str) (g : Gf) (w : Int) (rows : List Str) : Option Str := ns.foldl (best1 ns z g w rows) none
theorem snoc_ind {α : Type} {P : List α → Prop} (h0 : P []) (hs : ∀ l a, P l → P (l ++ [a])) (l : List α) : P l := by
  rw [← List.reverse_reverse l]
  induction l.reverse with
  | nil => exact h0
  | cons a r ih => rw [List.reverse_cons]; exact hs _ _ ih
/-! the best one -/
theorem cons_pw {x y : Str} {l : List Str} (h : sortedS (l ++ [y]) = true) (hx : x ∈ l) : x.cps.toList ≤ y.cps.toList := by
  have p := sorted_pw h
  rw [List.map_append] at p
  exact (List.pairwise_append.mp p).2.2 _ (List.mem_map.mpr ⟨x, hx, rfl⟩) _ (List.mem_singleton.mpr rfl)
theorem best_pre {ns : List Str} {z : Str → Str} {g : Gf} {w : Int} {rows : List Str} : ∀ (p r : List Str), sortedS (p ++ r) = true →
    (p.foldl (best1 ns z g w rows) none = none → ∀ c ∈ p, mayP ns z g w c rows = false) ∧
    ∀ b, p.foldl (best1 ns z g w rows) none = some b → b ∈ p ∧ mayP ns z g w b rows = true ∧ ∀ c ∈ p, mayP ns z g w c rows = true → leP (-g b, b) (-g c, c) := by
  intro p
  induction p using snoc_ind with
  | h0 => intro r _; exact ⟨fun _ c hc => (nomatch hc), fun b h => (nomatch h)⟩
  | hs p n ih =>
    intro r hs
    have hs1 : sortedS (p ++ ([n] ++ r)) = true := by rw [← List.append_assoc]; exact hs
    obtain ⟨i1, i2⟩ := ih _ hs1
    have hle : ∀ c ∈ p, c.cps.toList ≤ n.cps.toList := fun c hc => by
      have q := sorted_pw hs1
      rw [List.map_append] at q
      exact (List.pairwise_append.mp q).2.2 _ (List.mem_map.mpr ⟨c, hc, rfl⟩) _ (List.mem_map.mpr ⟨n, List.mem_append_left _ (List.mem_singleton.mpr rfl), rfl⟩)
    rw [List.foldl_append]
    show (best1 ns z g w rows (p.foldl (best1 ns z g w rows) none) n = none → _) ∧ ∀ b, best1 ns z g w rows (p.foldl (best1 ns z g w rows) none) n = some b → _
    generalize p.foldl (best1 ns z g w rows) none = f at i1 i2
    unfold best1
    cases f with
    | none =>
      have i1 := i1 rfl
      by_cases hm : mayP ns z g w n rows = true
      · rw [if_pos ⟨hm, rfl⟩]
        refine ⟨fun h => (nomatch h), fun b h => ?_⟩
        cases h
        refine ⟨List.mem_append_right _ (List.mem_singleton.mpr rfl), hm, fun c hc h => ?_⟩
        rcases List.mem_append.mp hc with hc | hc
        · rw [i1 c hc] at h; cases h
        · rw [List.mem_singleton.mp hc]; exact leP_refl
      · rw [if_neg fun h => hm h.1]
        refine ⟨fun _ c hc => ?_, fun b h => (nomatch h)⟩
        rcases List.mem_append.mp hc with hc | hc
        · exact i1 c hc
        · rw [List.mem_singleton.mp hc]; exact (Bool.not_eq_true _).mp hm
    | some a =>
      obtain ⟨j1, j2, j3⟩ := i2 a rfl
      by_cases hm : mayP ns z g w n rows = true
      · by_cases hb : g n > g a
        · rw [if_pos ⟨hm, by show decide _ = true; exact decide_eq_true hb⟩]
          refine ⟨fun h => (nomatch h), fun b h => ?_⟩
          cases h
          refine ⟨List.mem_append_right _ (List.mem_singleton.mpr rfl), hm, fun c hc h => ?_⟩
          rcases List.mem_append.mp hc with hc | hc
          · have := j3 c hc h
            rcases this with q | ⟨q, _⟩
            · exact .inl (by dsimp only at q ⊢; omega)
            · exact .inl (by dsimp only at q ⊢; omega)
          · rw [List.mem_singleton.mp hc]; exact leP_refl
        · rw [if_neg fun h => hb (of_decide_eq_true h.2)]
          refine ⟨fun h => (nomatch h), fun b h => ?_⟩
          cases h
          refine ⟨List.mem_append_left _ j1, j2, fun c hc h => ?_⟩
          rcases List.mem_append.mp hc with hc | hc
          · exact j3 c hc h
          · rw [List.mem_singleton.mp hc]
            by_cases e : g n = g a
            · exact .inr ⟨by rw [e], hle a j1⟩
            · exact .inl (by dsimp only; omega)
      · rw [if_neg fun h => hm h.1]
        refine ⟨fun h => (nomatch h), fun b h => ?_⟩
        cases h
        refine ⟨List.mem_append_left _ j1, j2, fun c hc h => ?_⟩
        rcases List.mem_append.mp hc with hc | hc
        · exact j3 c hc h
        · rw [List.mem_singleton.mp hc] at h; exact absurd h hm
theorem best_none {ns : List Str} {z : Str → Str} {g : Gf} {w : Int} {rows : List Str} (hs : sortedS ns = true) : bestP ns z g w rows = none ↔ ∀ c ∈ ns, mayP ns z g w c rows = false := by
  obtain ⟨h1, h2⟩ := best_pre (ns := ns) (z := z) (g := g) (w := w) (rows := rows) ns [] (by rw [List.append_nil]; exact hs)
  refine ⟨h1, fun h => ?_⟩
  cases e : bestP ns z g w rows with
  | none => rfl
  | some b =>
    obtain ⟨q1, q2, _⟩ := h2 b e
    rw [h b q1] at q2; cases q2
theorem best_some {ns : List Str} {z : Str → Str} {g : Gf} {w : Int} {rows : List Str} (hs : sortedS ns = true) {b : Str} (h1 : mayP ns z g w b rows = true) (h : ∀ c, mayP ns z g w c rows = true → leP (-g b, b) (-g c, c)) : bestP ns z g w rows = some b := by
  obtain ⟨i1, i2⟩ := best_pre (ns := ns) (z := z) (g := g) (w := w) (rows := rows) ns [] (by rw [List.append_nil]; exact hs)
  have hb := (mayP_iff.mp h1).1
  cases e : bestP ns z g w rows with
  | none => rw [i1 e b hb] at h1; cases h1
  | some a =>
    obtain ⟨j1, j2, j3⟩ := i2 a e
    have := leP_anti (h a j2) (j3 b hb h1)
    exact congrArg some (Prod.ext_iff.mp this).2.symm
theorem best_may {ns : List Str} {z : Str → Str} {g : Gf} {w : Int} {rows : List Str} (hs : sortedS ns = true) {b : Str} (h : bestP ns z g w rows = some b) : mayP ns z g w b rows = true :=
  ((best_pre (ns := ns) (z := z) (g := g) (w := w) (rows := rows) ns [] (by rw [List.append_nil]; exact hs)).2 b h).2.1
/-! filling -/
def fillP (ns : List Str) (z : Str → Str) (w : Int) : Nat → Gf → List Str → Gf × List Str
  | 0, g, r => (g, r)
  | k + 1, g, r => match bestP ns z g w r with
    | none => (g, r)
    | some b => fillP ns z w k (subG g b w) (r ++ [b])
/-- machines: name, zone, room; parts: name, weight, copies -/
abbrev MRow := Str × Str × Int
abbrev PRow := Str × Int × Int
def zf (M : List MRow) (n : Str) : Str := ((aget M n).map (·.1)).getD ⟨#[]⟩
def rf (M : List MRow) (n : Str) : Int := ((aget M n).map (·.2)).getD 0
abbrev FT := List (Str × List Str)
abbrev LT := List (Str × Int)
def oldOf (old : FT) (n : Str) : List Str := (aget old n).getD []
def stayS (ns : List Str) (z : Str → Str) (old : FT) (s : Gf × FT) (p : PRow) : Gf × FT := let r := stayP ns z p.2.1 p.2.2 s.1 (oldOf old p.1); (r.1, s.2 ++ [(p.1, r.2)])
def stayA (ns : List Str) (z : Str → Str) (old : FT) (g : Gf) (ps : List PRow) : Gf × FT := ps.foldl (stayS ns z old) (g, [])
structure FS where
  g : Gf
  f : FT
  l : LT
def fillS (ns : List Str) (z : Str → Str) (s : FS) (p : PRow) : FS :=
  let rows := oldOf s.f p.1
  let r := fillP ns z p.2.1 (p.2.2 - rows.length).toNat s.g rows
  ⟨r.1, aput s.f p.1 r.2, if (r.2.length : Int) < p.2.2 then s.l ++ [(p.1, p.2.2 - r.2.length)] else s.l⟩
def fillA (ns : List Str) (z : Str → Str) (s : FS) (ps : List PRow) : FS := ps.foldl (fillS ns z) s
def planG (ns : List Str) (z : Str → Str) (g : Gf) (ps : List PRow) (old : FT) : FS := let s := stayA ns z old g ps; fillA ns z ⟨s.1, s.2, []⟩ ps
def planP (M : List MRow) (ps : List PRow) (old : FT) : FS := planG (M.map (·.1)) (zf M) (rf M) ps old
/-! what a plan keeps -/
structure RowOk (ns : List Str) (z : Str → Str) (w c : Int) (g0 : Gf) (s : Gf × List Str) : Prop where
  tot : ∀ n, g0 n = s.1 n + w * (s.2.count n : Int)
  pos : ∀ n ∈ ns, 0 ≤ s.1 n
  sub : ∀ n ∈ s.2, n ∈ ns
  nd : (s.2.map z).Nodup
  len : (s.2.length : Int) ≤ c
section
variable {ns : List Str} {z : Str → Str} {w c : Int} {g0 : Gf}
theorem RowOk.add {s : Gf × List Str} (h : RowOk ns z w c g0 s) {n : Str} (hm : mayP ns z s.1 w n s.2 = true) (hl : (s.2.length : Int) < c) : RowOk ns z w c g0 (subG s.1 n w, s.2 ++ [n]) := by
  obtain ⟨m1, m2, m3⟩ := mayP_iff.mp hm
  refine ⟨fun m => ?_, fun m hm => ?_, fun m hm => ?_, ?_, ?_⟩
  · have := h.tot m
    dsimp only
    rw [List.count_append]
    by_cases e : m = n
    · subst e
      rw [subG_self, List.count_singleton_self]
      push_cast
      rw [Int.mul_add, Int.mul_one]
      omega
    · rw [subG_ne e, List.count_singleton, if_neg (by simpa using fun q => e q.symm), Nat.add_zero]
      exact this
  · dsimp only
    by_cases e : m = n
    · subst e
      rw [subG_self]; omega
    · rw [subG_ne e]; exact h.pos m hm
  · rcases List.mem_append.mp hm with q | q
    · exact h.sub m q
    · rw [List.mem_singleton.mp q]; exact m1
  · rw [List.map_append]
    exact List.nodup_append.mpr ⟨h.nd, by simp, fun a ha b hb => by
      rw [List.map_cons, List.map_nil, List.mem_singleton] at hb
      rw [hb]
      exact fun e => m3 (e ▸ ha)⟩
  · dsimp only
    rw [List.length_append, List.length_singleton]
    push_cast; omega
theorem stay_ok (l : List Str) : ∀ (s : Gf × List Str), RowOk ns z w c g0 s → RowOk ns z w c g0 (l.foldl (stay1 ns z w c) s) := by
  induction l with
  | nil => exact fun s h => h
  | cons n l ih =>
    intro s h
    refine ih _ ?_
    unfold stay1
    by_cases q : (s.2.length : Int) < c ∧ mayP ns z s.1 w n s.2 = true
    · rw [if_pos q]; exact h.add q.2 q.1
    · rw [if_neg q]; exact h
theorem stayP_ok {l : List Str} (hp : ∀ n ∈ ns, 0 ≤ g0 n) (hc : 0 ≤ c) : RowOk ns z w c g0 (stayP ns z w c g0 l) :=
  stay_ok l _ ⟨fun n => by simp, hp, fun _ h => (nomatch h), by simp, by simpa using hc⟩
theorem fill_ok (hs : sortedS ns = true) : ∀ (k : Nat) (g : Gf) (r : List Str), (k : Int) + r.length ≤ c → RowOk ns z w c g0 (g, r) → RowOk ns z w c g0 (fillP ns z w k g r)
  | 0, g, r, _, h => h
  | k + 1, g, r, hk, h => by
    unfold fillP
    cases e : bestP ns z g w r with
    | none => exact h
    | some b =>
      refine fill_ok hs k _ _ ?_ (h.add (best_may hs e) (by dsimp only; push_cast at hk; omega))
      rw [List.length_append, List.length_singleton]; push_cast at hk ⊢; omega
theorem fill_full : ∀ (k : Nat) (g : Gf) (r : List Str), (fillP ns z w k g r).2.length < k + r.length → bestP ns z (fillP ns z w k g r).1 w (fillP ns z w k g r).2 = none
  | 0, g, r, h => by simp [fillP] at h
  | k + 1, g, r, h => by
    unfold fillP at h ⊢
    cases e : bestP ns z g w r with
    | none => exact e
    | some b =>
      rw [e] at h
      dsimp only at h ⊢
      exact fill_full k _ _ (by rw [List.length_append, List.length_singleton]; omega)
theorem fill_le (hs : sortedS ns = true) (hw : 0 ≤ w) : ∀ (k : Nat) (g : Gf) (r : List Str) (n : Str), (fillP ns z w k g r).1 n ≤ g n
  | 0, g, r, n => Int.le_refl _
  | k + 1, g, r, n => by
    unfold fillP
    cases e : bestP ns z g w r with
    | none => exact Int.le_refl _
    | some b =>
      refine Int.le_trans (fill_le hs hw k _ _ n) ?_
      by_cases q : n = b
      · subst q; rw [subG_self]; omega
      · rw [subG_ne q]; exact Int.le_refl _
end
def wtP (ps : List PRow) (k : Str) : Int := ((aget ps k).map (·.1)).getD 0
def ctP (ps : List PRow) (k : Str) : Int := ((aget ps k).map (·.2)).getD 0
def sumF (wt : Str → Int) : FT → Str → Int
  | [], _ => 0
  | e :: f, n => wt e.1 * (e.2.count n : Int) + sumF wt f n
theorem sumF_app {wt : Str → Int} {n : Str} : ∀ {f h : FT}, sumF wt (f ++ h) n = sumF wt f n + sumF wt h n
  | [], h => by rw [List.nil_append, sumF, Int.zero_add]
  | e :: f, h => by rw [List.cons_append, sumF, sumF, sumF_app]; omega
theorem sumF_pos {wt : Str → Int} (hw : ∀ k, 0 ≤ wt k) {n : Str} : ∀ {f : FT}, 0 ≤ sumF wt f n
  | [] => Int.le_refl _
  | e :: f => by
    rw [sumF]
    have h1 := sumF_pos hw (n := n) (f := f)
    have h2 := Int.mul_nonneg (hw e.1) (Int.natCast_nonneg (e.2.count n))
    omega
theorem sumF_put {wt : Str → Int} {f : FT} {k : Str} {r r' : List Str} {n : Str} (h : aget f k = some r) : sumF wt (aput f k r') n + wt k * (r.count n : Int) = sumF wt f n + wt k * (r'.count n : Int) := by
  obtain ⟨B, C, e1, e2⟩ := aget_split h
  rw [e2, e1, sumF_app, sumF_app, sumF, sumF]
  dsimp only
  omega
/-- a table of rows that fits -/
structure AI (ns : List Str) (z : Str → Str) (ps : List PRow) (room g : Gf) (f : FT) : Prop where
  tot : ∀ n, room n = g n + sumF (wtP ps) f n
  pos : ∀ n ∈ ns, 0 ≤ g n
  sub : ∀ e ∈ f, ∀ n ∈ e.2, n ∈ ns
  nd : ∀ e ∈ f, (e.2.map z).Nodup
  len : ∀ e ∈ f, (e.2.length : Int) ≤ ctP ps e.1
structure PsOk (ps : List PRow) : Prop where
  nd : (ps.map (·.1)).Nodup
  w : ∀ p ∈ ps, 1 ≤ p.2.1
  c : ∀ p ∈ ps, 1 ≤ p.2.2 ∧ p.2.2 ≤ 9
section
variable {ns : List Str} {z : Str → Str} {ps : List PRow} {room : Gf}
theorem PsOk.wt (h : PsOk ps) {p : PRow} (hp : p ∈ ps) : wtP ps p.1 = p.2.1 := by
  unfold wtP; rw [mem_aget h.nd (k := p.1) (v := p.2) hp]; rfl
theorem PsOk.ct (h : PsOk ps) {p : PRow} (hp : p ∈ ps) : ctP ps p.1 = p.2.2 := by
  unfold ctP; rw [mem_aget h.nd (k := p.1) (v := p.2) hp]; rfl
theorem PsOk.wt0 (h : PsOk ps) (k : Str) : 0 ≤ wtP ps k := by
  unfold wtP
  cases e : aget ps k with
  | none => exact Int.le_refl _
  | some v => exact Int.le_trans (by decide) (h.w (k, v) (aget_mem e))
theorem stay_all (h : PsOk ps) (old : FT) : ∀ (qs : List PRow) (s : Gf × FT), (∀ p ∈ qs, p ∈ ps) → AI ns z ps room s.1 s.2 → AI ns z ps room (qs.foldl (stayS ns z old) s).1 (qs.foldl (stayS ns z old) s).2 ∧
    (qs.foldl (stayS ns z old) s).2.map (·.1) = s.2.map (·.1) ++ qs.map (·.1)
  | [], s, _, a => ⟨a, by simp⟩
  | p :: qs, s, hq, a => by
    have hp := hq p (.head _)
    have r := stayP_ok (ns := ns) (z := z) (w := p.2.1) (c := p.2.2) (g0 := s.1) (l := oldOf old p.1) a.pos (by have := h.c p hp; omega)
    obtain ⟨i1, i2⟩ := stay_all h old qs (stayS ns z old s p) (fun q hq' => hq q (.tail _ hq')) (by
      unfold stayS
      refine ⟨fun n => ?_, r.pos, fun e he => ?_, fun e he => ?_, fun e he => ?_⟩
      · dsimp only
        rw [sumF_app, sumF, sumF, h.wt hp, a.tot n, r.tot n]
        dsimp only
        omega
      · rcases List.mem_append.mp he with he | he
        · exact a.sub e he
        · rw [List.mem_singleton.mp he]; exact r.sub
      · rcases List.mem_append.mp he with he | he
        · exact a.nd e he
        · rw [List.mem_singleton.mp he]; exact r.nd
      · rcases List.mem_append.mp he with he | he
        · exact a.len e he
        · rw [List.mem_singleton.mp he, h.ct hp]; exact r.len)
    refine ⟨i1, ?_⟩
    rw [List.foldl_cons, i2]
    unfold stayS
    dsimp only
    rw [List.map_append, List.append_assoc]
    rfl
theorem fm_congr {α β : Type} {f h : α → Option β} : ∀ {l : List α}, (∀ x ∈ l, f x = h x) → l.filterMap f = l.filterMap h
  | [], _ => rfl
  | x :: l, q => by rw [List.filterMap_cons, List.filterMap_cons, q x (.head _), fm_congr fun y hy => q y (.tail _ hy)]
def lacksOf (qs : List PRow) (f : FT) : LT := qs.filterMap fun (p : PRow) => if ((oldOf f p.1).length : Int) < p.2.2 then some (p.1, p.2.2 - ((oldOf f p.1).length : Int)) else none
theorem oldOf_put {f : FT} {k j : Str} {r : List Str} : oldOf (aput f k r) j = if k = j then r else oldOf f j := by
  unfold oldOf
  rw [aget_put]
  by_cases e : k = j
  · rw [if_pos e, if_pos e]; rfl
  · rw [if_neg e, if_neg e]
theorem aput_mem2 {f : FT} {k : Str} {r : List Str} {e : Str × List Str} (h : e ∈ aput f k r) : e = (k, r) ∨ e ∈ f := by
  induction f with
  | nil => exact .inl (List.mem_singleton.mp h)
  | cons x f ih =>
    by_cases q : x.1 = k
    · rw [aput, if_pos q] at h
      rcases List.mem_cons.mp h with h | h
      · exact .inl h
      · exact .inr (.tail _ h)
    · rw [aput, if_neg q] at h
      rcases List.mem_cons.mp h with h | h
      · exact .inr (h ▸ .head _)
      · rcases ih h with h | h
        · exact .inl h
        · exact .inr (.tail _ h)
/-- after filling some of the parts -/
structure FI (ns : List Str) (z : Str → Str) (ps : List PRow) (room : Gf) (done : List PRow) (s : FS) : Prop where
  ai : AI ns z ps room s.g s.f
  nm : s.f.map (·.1) = ps.map (·.1)
  l : s.l = lacksOf done s.f
  full : ∀ p ∈ done, ((oldOf s.f p.1).length : Int) < p.2.2 → ∀ c ∈ ns, mayP ns z s.g p.2.1 c (oldOf s.f p.1) = false
theorem FI.step (h : PsOk ps) (hs : sortedS ns = true) {done : List PRow} {p : PRow} {s : FS} (a : FI ns z ps room done s) (hd : ∀ q ∈ done ++ [p], q ∈ ps) (hn : p.1 ∉ done.map (·.1)) : FI ns z ps room (done ++ [p]) (fillS ns z s p) := by
  have hp : p ∈ ps := hd p (List.mem_append_right _ (.head _))
  obtain ⟨rows, hr⟩ := aget_in (l := s.f) (k := p.1) (by rw [a.nm]; exact List.mem_map.mpr ⟨p, hp, rfl⟩)
  have hro : oldOf s.f p.1 = rows := by unfold oldOf; rw [hr]; rfl
  have hrm := aget_mem hr
  have hlen : (rows.length : Int) ≤ p.2.2 := by rw [← h.ct hp]; exact a.ai.len _ hrm
  have r0 : RowOk ns z p.2.1 p.2.2 (fun n => s.g n + p.2.1 * (rows.count n : Int)) (s.g, rows) := ⟨fun _ => rfl, a.ai.pos, a.ai.sub _ hrm, a.ai.nd _ hrm, hlen⟩
  have hk : (((p.2.2 - (rows.length : Int)).toNat : Nat) : Int) = p.2.2 - rows.length := Int.toNat_of_nonneg (by omega)
  have r := fill_ok hs (p.2.2 - (rows.length : Int)).toNat s.g rows (by omega) r0
  have fu := fill_full (ns := ns) (z := z) (w := p.2.1) (p.2.2 - (rows.length : Int)).toNat s.g rows
  have le := fill_le (z := z) hs (w := p.2.1) (by have := h.w p hp; omega) (p.2.2 - (rows.length : Int)).toNat s.g rows
  unfold fillS
  dsimp only
  rw [hro]
  generalize fillP ns z p.2.1 (p.2.2 - (rows.length : Int)).toNat s.g rows = q at r fu le ⊢
  obtain ⟨g', r'⟩ := q
  dsimp only at r fu le ⊢
  have hold : ∀ q ∈ done, oldOf (aput s.f p.1 r') q.1 = oldOf s.f q.1 := fun q hq => by
    rw [oldOf_put, if_neg]
    exact fun e => hn (e ▸ List.mem_map.mpr ⟨q, hq, rfl⟩)
  have hself : oldOf (aput s.f p.1 r') p.1 = r' := by rw [oldOf_put, if_pos rfl]
  refine ⟨⟨fun n => ?_, r.pos, fun e he => ?_, fun e he => ?_, fun e he => ?_⟩, ?_, ?_, fun q hq hl => ?_⟩
  · have h1 := sumF_put (wt := wtP ps) (r' := r') (n := n) hr
    have h2 := r.tot n
    have h3 := a.ai.tot n
    rw [h.wt hp] at h1
    dsimp only at h2 ⊢
    omega
  · rcases aput_mem2 he with rfl | he
    · exact r.sub
    · exact a.ai.sub e he
  · rcases aput_mem2 he with rfl | he
    · exact r.nd
    · exact a.ai.nd e he
  · rcases aput_mem2 he with rfl | he
    · rw [h.ct hp]; exact r.len
    · exact a.ai.len e he
  · dsimp only
    rw [aput_names_in (aget_some hr)]; exact a.nm
  · have e1 : lacksOf done (aput s.f p.1 r') = lacksOf done s.f := by
      unfold lacksOf
      refine fm_congr fun q hq => ?_
      rw [hold q hq]
    dsimp only
    unfold lacksOf at e1 ⊢
    rw [List.filterMap_append, e1, List.filterMap_cons, List.filterMap_nil, hself, a.l]
    unfold lacksOf
    by_cases q : (r'.length : Int) < p.2.2
    · simp only [q, if_true]
    · simp only [q, if_false, List.append_nil]
  · dsimp only at hl ⊢
    rcases List.mem_append.mp hq with hq | hq
    · rw [hold q hq] at hl ⊢
      intro c hc
      have := a.full q hq hl c hc
      refine Bool.eq_false_iff.mpr fun t => ?_
      obtain ⟨t1, t2, t3⟩ := mayP_iff.mp t
      have t4 : mayP ns z s.g q.2.1 c (oldOf s.f q.1) = true := mayP_iff.mpr ⟨t1, Int.le_trans t2 (le c), t3⟩
      rw [this] at t4; cases t4
    · obtain rfl := List.mem_singleton.mp hq
      rw [hself] at hl ⊢
      exact (best_none hs).mp (fu (by omega))
theorem FI.all (h : PsOk ps) (hs : sortedS ns = true) : ∀ (qs done : List PRow) (s : FS), FI ns z ps room done s → (∀ q ∈ done ++ qs, q ∈ ps) → ((done ++ qs).map (·.1)).Nodup → FI ns z ps room (done ++ qs) (qs.foldl (fillS ns z) s)
  | [], done, s, a, _, _ => by rw [List.append_nil]; exact a
  | p :: qs, done, s, a, hd, nd => by
    have e : done ++ p :: qs = (done ++ [p]) ++ qs := by simp
    rw [e] at hd nd ⊢
    refine FI.all h hs qs (done ++ [p]) _ (a.step h hs (fun q hq => hd q (List.mem_append_left _ hq)) ?_) hd nd
    rw [List.map_append, List.map_append] at nd
    have := (List.nodup_append.mp (List.nodup_append.mp nd).1).2.2
    exact fun m => this _ m _ (by simp) rfl
theorem plan_ok (h : PsOk ps) (hs : sortedS ns = true) {old : FT} (hp : ∀ n ∈ ns, 0 ≤ room n) : FI ns z ps room ps (planG ns z room ps old) := by
  unfold planG
  obtain ⟨i1, i2⟩ := stay_all (ns := ns) (z := z) (room := room) h old ps (room, []) (fun _ hp => hp) ⟨fun n => by simp [sumF], hp, fun _ hx => (nomatch hx), fun _ hx => (nomatch hx), fun _ hx => (nomatch hx)⟩
  refine FI.all h hs ps [] _ ⟨i1, ?_, rfl, fun _ hx => (nomatch hx)⟩ (fun q hq => hq) h.nd
  exact i2
/-! planning again -/
theorem stay_self {w c : Int} {g S : Gf} (hg : ∀ n ∈ ns, 0 ≤ g n) (hS : ∀ n, 0 ≤ S n) (hw : 0 ≤ w) : ∀ (rest done : List Str), (∀ n ∈ rest, n ∈ ns) → ((done ++ rest).map z).Nodup → ((done ++ rest).length : Int) ≤ c →
    rest.foldl (stay1 ns z w c) (fun n => g n + (w * (rest.count n : Int) + S n), done) = (fun n => g n + S n, done ++ rest)
  | [], done, _, _, _ => by simp
  | n :: rest, done, hsub, nd, hl => by
    have e : done ++ n :: rest = (done ++ [n]) ++ rest := by simp
    rw [List.foldl_cons]
    have hn := hsub n (.head _)
    have hm : mayP ns z (fun m => g m + (w * ((n :: rest).count m : Int) + S m)) w n done = true := by
      refine mayP_iff.mpr ⟨hn, ?_, fun hz => ?_⟩
      · have h1 := hg n hn
        have h2 := hS n
        have h3 := Int.mul_nonneg hw (Int.natCast_nonneg (rest.count n))
        rw [List.count_cons_self]
        push_cast
        rw [Int.mul_add, Int.mul_one]
        omega
      · rw [List.map_append, List.map_cons] at nd
        exact (List.nodup_append.mp nd).2.2 _ hz _ (.head _) rfl
    have hlt : (done.length : Int) < c := by
      rw [List.length_append, List.length_cons] at hl
      push_cast at hl
      omega
    have h1 : stay1 ns z w c (fun m => g m + (w * ((n :: rest).count m : Int) + S m), done) n = (fun m => g m + (w * (rest.count m : Int) + S m), done ++ [n]) := by
      unfold stay1
      rw [if_pos ⟨hlt, hm⟩]
      refine Prod.ext (funext fun m => ?_) rfl
      dsimp only
      by_cases q : m = n
      · subst q
        rw [subG_self, List.count_cons_self]
        push_cast
        rw [Int.mul_add, Int.mul_one]
        omega
      · rw [subG_ne q, List.count_cons_of_ne (fun z => q z.symm)]
    rw [h1]
    have := stay_self hg hS hw rest (done ++ [n]) (fun m hm => hsub m (.tail _ hm)) (by rw [← e]; exact nd) (by rw [← e]; exact hl)
    rw [this, e]
theorem stay_again {old : FT} {g : Gf} (h : PsOk ps) (hg : ∀ n ∈ ns, 0 ≤ g n) : ∀ (qs : List PRow) (f acc : FT), (∀ p ∈ qs, p ∈ ps) → f.map (·.1) = qs.map (·.1) → (∀ e ∈ f, oldOf old e.1 = e.2) → (∀ e ∈ f, ∀ n ∈ e.2, n ∈ ns) → (∀ e ∈ f, (e.2.map z).Nodup) → (∀ e ∈ f, (e.2.length : Int) ≤ ctP ps e.1) →
    qs.foldl (stayS ns z old) (fun n => g n + sumF (wtP ps) f n, acc) = (g, acc ++ f)
  | [], [], acc, _, _, _, _, _, _ => by simp [sumF]
  | [], _ :: _, _, _, e, _, _, _, _ => by simp at e
  | _ :: _, [], _, _, e, _, _, _, _ => by simp at e
  | p :: qs, (k, rows) :: f, acc, hq, e, ho, h1, h2, h3 => by
    rw [List.map_cons, List.map_cons, List.cons.injEq] at e
    obtain ⟨e1, e2⟩ := e
    dsimp only at e1
    subst e1
    have hp := hq p (.head _)
    rw [List.foldl_cons]
    have hs1 : stayS ns z old (fun n => g n + sumF (wtP ps) ((p.1, rows) :: f) n, acc) p = (fun n => g n + sumF (wtP ps) f n, acc ++ [(p.1, rows)]) := by
      unfold stayS stayP
      rw [ho _ (.head _)]
      dsimp only
      have := stay_self (z := z) (w := p.2.1) (c := p.2.2) (S := sumF (wtP ps) f) hg (fun n => sumF_pos h.wt0) (by have := h.w p hp; omega) rows [] (h1 _ (.head _)) (h2 _ (.head _)) (by rw [← h.ct hp]; exact h3 _ (.head _))
      have e3 : (fun n => g n + sumF (wtP ps) ((p.1, rows) :: f) n) = fun n => g n + (p.2.1 * (rows.count n : Int) + sumF (wtP ps) f n) := by
        funext n; rw [sumF, h.wt hp]
      rw [e3, this]
      rfl
    rw [hs1, stay_again h hg qs f (acc ++ [(p.1, rows)]) (fun q hq' => hq q (.tail _ hq')) e2 (fun e he => ho e (.tail _ he)) (fun e he => h1 e (.tail _ he)) (fun e he => h2 e (.tail _ he)) (fun e he => h3 e (.tail _ he))]
    simp
theorem fill_again (h : PsOk ps) (hs : sortedS ns = true) {g : Gf} {f : FT} (nm : f.map (·.1) = ps.map (·.1)) (hl : ∀ e ∈ f, (e.2.length : Int) ≤ ctP ps e.1)
    (full : ∀ p ∈ ps, ((oldOf f p.1).length : Int) < p.2.2 → ∀ c ∈ ns, mayP ns z g p.2.1 c (oldOf f p.1) = false) : ∀ (qs done : List PRow), (∀ p ∈ qs, p ∈ ps) → qs.foldl (fillS ns z) ⟨g, f, lacksOf done f⟩ = ⟨g, f, lacksOf (done ++ qs) f⟩
  | [], done, _ => by rw [List.append_nil]; rfl
  | p :: qs, done, hq => by
    have hp := hq p (.head _)
    obtain ⟨rows, hr⟩ := aget_in (l := f) (k := p.1) (by rw [nm]; exact List.mem_map.mpr ⟨p, hp, rfl⟩)
    have hro : oldOf f p.1 = rows := by unfold oldOf; rw [hr]; rfl
    have hlen : (rows.length : Int) ≤ p.2.2 := by rw [← h.ct hp]; exact hl _ (aget_mem hr)
    have e1 : fillP ns z p.2.1 (p.2.2 - (rows.length : Int)).toNat g rows = (g, rows) := by
      cases k : (p.2.2 - (rows.length : Int)).toNat with
      | zero => rfl
      | succ k =>
        unfold fillP
        rw [(best_none hs).mpr]
        rw [← hro]
        exact full p hp (by rw [hro]; omega)
    rw [List.foldl_cons]
    have e2 : fillS ns z ⟨g, f, lacksOf done f⟩ p = ⟨g, f, lacksOf (done ++ [p]) f⟩ := by
      unfold fillS
      dsimp only
      rw [hro, e1]
      dsimp only
      rw [aput_self hr]
      congr 1
      unfold lacksOf
      rw [List.filterMap_append, List.filterMap_cons, List.filterMap_nil, hro]
      by_cases q : (rows.length : Int) < p.2.2
      · simp only [q, if_true]
      · simp only [q, if_false, List.append_nil]
    rw [e2, fill_again h hs nm hl full qs (done ++ [p]) fun q hq' => hq q (.tail _ hq')]
    simp
theorem plan_again (h : PsOk ps) (hs : sortedS ns = true) {g : Gf} {f : FT} {l : LT} (a : FI ns z ps room ps ⟨g, f, l⟩) : planG ns z room ps f = ⟨g, f, l⟩ := by
  have ndf : (f.map (·.1)).Nodup := by rw [a.nm]; exact h.nd
  have e1 : stayA ns z f room ps = (g, f) := by
    unfold stayA
    have e : room = fun n => g n + sumF (wtP ps) f n := funext a.ai.tot
    rw [e, stay_again h a.ai.pos ps f [] (fun _ hp => hp) a.nm (fun e he => by unfold oldOf; rw [mem_aget ndf (k := e.1) (v := e.2) he]; rfl) a.ai.sub a.ai.nd a.ai.len]
    rfl
  unfold planG
  rw [e1]
  dsimp only
  have := fill_again (z := z) h hs a.nm a.ai.len a.full ps [] fun _ hp => hp
  unfold fillA
  have e2 : lacksOf ([] : List PRow) f = [] := rfl
  rw [e2, List.nil_append] at this
  rw [this]
  have := a.l
  dsimp only at this
  rw [this]
end
end Sd


set_option linter.unusedVariables false
/-! k21, the plain law: moves between plans -/
namespace Sd
open PySem PySem.Spec PyProof.Rows L2
def goneP (old new : FT) (p : Str) : List Str := (oldOf old p).filter fun n => decide (n ∉ oldOf new p)
abbrev MV := Str × Option Str × Option Str
def rowsMV (p : Str) (gone come : List Str) : List MV := (List.range (max gone.length come.length)).map fun i => (p, gone[i]?, come[i]?)
def movesP (old new : FT) (srt : List Str) : List MV := srt.flatMap fun p => rowsMV p (goneP old new p) (goneP new old p)
def stepL (l : List Str) (m : MV) : List Str := (l.filter fun n => decide (some n ≠ m.2.1)) ++ m.2.2.toList
def hereS (h : FT) (m : MV) : FT := aput h m.1 (stepL (oldOf h m.1) m)
def hereP (h : FT) (ms : List MV) : FT := ms.foldl hereS h
theorem here_of (p : Str) : ∀ (ms : List MV) (h : FT), oldOf (hereP h ms) p = (ms.filter fun m => decide (m.1 = p)).foldl stepL (oldOf h p)
  | [], h => rfl
  | m :: ms, h => by
    show oldOf (hereP (hereS h m) ms) p = _
    rw [here_of p ms, List.filter_cons]
    unfold hereS
    rw [oldOf_put]
    by_cases e : m.1 = p
    · rw [if_pos e, if_pos (decide_eq_true e), List.foldl_cons, e]
    · rw [if_neg e, if_neg (by rw [decide_eq_false e]; decide)]
theorem rowsMV_fst {p : Str} {a b : List Str} : ∀ m ∈ rowsMV p a b, m.1 = p := fun m hm => by
  obtain ⟨i, _, rfl⟩ := List.mem_map.mp hm; rfl
theorem moves_of {old new : FT} {p : Str} : ∀ {srt : List Str}, srt.Nodup → p ∈ srt → (movesP old new srt).filter (fun m => decide (m.1 = p)) = rowsMV p (goneP old new p) (goneP new old p)
  | q :: srt, nd, hp => by
    obtain ⟨n1, n2⟩ := List.nodup_cons.mp nd
    have e0 : movesP old new (q :: srt) = rowsMV q (goneP old new q) (goneP new old q) ++ movesP old new srt := rfl
    rw [e0, List.filter_append]
    by_cases e : q = p
    · subst e
      rw [List.filter_eq_self.mpr fun m hm => decide_eq_true (rowsMV_fst m hm)]
      have : (movesP old new srt).filter (fun m => decide (m.1 = q)) = [] := List.filter_eq_nil_iff.mpr fun m hm => by
        obtain ⟨r, hr, hm⟩ := List.mem_flatMap.mp hm
        rw [rowsMV_fst m hm]
        simpa using fun (e : r = q) => n1 (e ▸ hr)
      rw [this, List.append_nil]
    · have : (rowsMV q (goneP old new q) (goneP new old q)).filter (fun m => decide (m.1 = p)) = [] := List.filter_eq_nil_iff.mpr fun m hm => by
        rw [rowsMV_fst m hm]; simpa using e
      rw [this, List.nil_append]
      exact moves_of n2 ((List.mem_cons.mp hp).resolve_left fun z => e z.symm)
theorem step_inv {old gone come : List Str} {p : Str} (nd : old.Nodup) (nc : come.Nodup) (h1 : ∀ x ∈ gone, x ∈ old) (h2 : ∀ x ∈ come, x ∉ old) : ∀ k : Nat,
    (((List.range k).map fun i => ((p, gone[i]?, come[i]?) : MV)).foldl stepL old).Nodup ∧ ∀ x, x ∈ ((List.range k).map fun i => ((p, gone[i]?, come[i]?) : MV)).foldl stepL old ↔ (x ∈ old ∧ x ∉ gone.take k) ∨ x ∈ come.take k
  | 0 => by simpa using nd
  | k + 1 => by
    obtain ⟨i1, i2⟩ := step_inv (p := p) nd nc h1 h2 k
    rw [List.range_succ, List.map_append, List.foldl_append]
    generalize ((List.range k).map fun i => ((p, gone[i]?, come[i]?) : MV)).foldl stepL old = l at i1 i2
    show (stepL l (p, gone[k]?, come[k]?)).Nodup ∧ ∀ x, x ∈ stepL l (p, gone[k]?, come[k]?) ↔ _
    have ht : come.take (k + 1) = come.take k ++ come[k]?.toList := List.take_add_one
    have hg : gone.take (k + 1) = gone.take k ++ gone[k]?.toList := List.take_add_one
    have nt : (come.take k ++ come[k]?.toList).Nodup := by rw [← ht]; exact nc.sublist (List.take_sublist _ _)
    unfold stepL
    dsimp only
    constructor
    · refine List.nodup_append.mpr ⟨i1.filter _, (List.nodup_append.mp nt).2.1, fun a ha b hb e => ?_⟩
      subst e
      have hb2 : a ∈ come := List.mem_of_getElem? (Option.mem_toList.mp hb)
      rcases (i2 a).mp (List.mem_filter.mp ha).1 with ⟨q, _⟩ | q
      · exact h2 a hb2 q
      · exact (List.nodup_append.mp nt).2.2 a q a hb rfl
    · intro x
      rw [List.mem_append, List.mem_filter, i2, ht, hg, List.mem_append, List.mem_append]
      have hx : x ∈ come.take k → gone[k]? ≠ some x := fun hc e => h2 x (List.mem_of_mem_take hc) (h1 x (List.mem_of_getElem? e))
      have e1 : decide (some x ≠ gone[k]?) = true ↔ x ∉ gone[k]?.toList := by
        rw [decide_eq_true_iff, Option.mem_toList]
        exact ⟨fun h e => h e.symm, fun h e => h e.symm⟩
      rw [e1]
      constructor
      · rintro (⟨⟨q1, q2⟩ | q1, q3⟩ | q)
        · exact .inl ⟨q1, fun h => h.elim q2 q3⟩
        · exact .inr (.inl q1)
        · exact .inr (.inr q)
      · rintro (⟨q1, q2⟩ | q1 | q1)
        · exact .inl ⟨.inl ⟨q1, fun h => q2 (.inl h)⟩, fun h => q2 (.inr h)⟩
        · exact .inl ⟨.inr q1, fun h => hx q1 (Option.mem_toList.mp h)⟩
        · exact .inr q1
theorem perm_nd {α : Type} [DecidableEq α] {a b : List α} (h1 : a.Nodup) (h2 : b.Nodup) (h : ∀ x, x ∈ a ↔ x ∈ b) : a.Perm b := by
  refine List.perm_iff_count.mpr fun x => ?_
  have c1 := List.nodup_iff_count.mp h1 x
  have c2 := List.nodup_iff_count.mp h2 x
  by_cases q : x ∈ a
  · have p1 := List.count_pos_iff.mpr q
    have p2 := List.count_pos_iff.mpr ((h x).mp q)
    omega
  · rw [List.count_eq_zero.mpr q, List.count_eq_zero.mpr fun z => q ((h x).mpr z)]
theorem gone_mem {old new : FT} {p x : Str} : x ∈ goneP old new p ↔ x ∈ oldOf old p ∧ x ∉ oldOf new p := by
  unfold goneP
  rw [List.mem_filter, decide_eq_true_iff]
theorem here_perm {old new : FT} {srt : List Str} {p : Str} (n1 : (oldOf old p).Nodup) (n2 : (oldOf new p).Nodup) (ns : srt.Nodup) (hp : p ∈ srt) : (oldOf (hereP old (movesP old new srt)) p).Perm (oldOf new p) := by
  rw [here_of, moves_of ns hp]
  obtain ⟨i1, i2⟩ := step_inv (p := p) (gone := goneP old new p) (come := goneP new old p) n1 (n2.filter _) (fun x hx => (gone_mem.mp hx).1) (fun x hx => (gone_mem.mp hx).2) (max (goneP old new p).length (goneP new old p).length)
  refine perm_nd i1 n2 fun x => (i2 x).trans ?_
  rw [List.take_of_length_le (Nat.le_max_left _ _), List.take_of_length_le (Nat.le_max_right _ _), gone_mem, gone_mem]
  constructor
  · rintro (⟨q1, q2⟩ | q)
    · exact Decidable.not_not.mp fun z => q2 ⟨q1, z⟩
    · exact q.1
  · intro q
    by_cases h : x ∈ oldOf old p
    · exact .inl ⟨h, fun z => z.2 q⟩
    · exact .inr ⟨q, h⟩
theorem moves_some {old new : FT} {srt : List Str} : ∀ m ∈ movesP old new srt, ¬ (m.2.1 = none ∧ m.2.2 = none) := fun m hm => by
  obtain ⟨r, _, hm⟩ := List.mem_flatMap.mp hm
  obtain ⟨i, hi, rfl⟩ := List.mem_map.mp hm
  have hi := List.mem_range.mp hi
  rintro ⟨h1, h2⟩
  have h1 := List.getElem?_eq_none_iff.mp h1
  have h2 := List.getElem?_eq_none_iff.mp h2
  omega
theorem moves_len {old new : FT} {b : Nat} (h1 : ∀ p, (oldOf old p).length ≤ b) (h2 : ∀ p, (oldOf new p).length ≤ b) : ∀ {srt : List Str}, (movesP old new srt).length ≤ srt.length * b
  | [] => by simp [movesP]
  | q :: srt => by
    have e0 : movesP old new (q :: srt) = rowsMV q (goneP old new q) (goneP new old q) ++ movesP old new srt := rfl
    have i := moves_len h1 h2 (srt := srt)
    have l1 : (goneP old new q).length ≤ b := Nat.le_trans (List.length_filter_le _ _) (h1 q)
    have l2 : (goneP new old q).length ≤ b := Nat.le_trans (List.length_filter_le _ _) (h2 q)
    rw [e0, List.length_append, rowsMV, List.length_map, List.length_range, List.length_cons, Nat.add_mul, Nat.one_mul]
    omega
/-! texts that rise -/
theorem pw_rising : ∀ {l : List Str} {p : Str}, ((p :: l).map (·.cps.toList)).Pairwise (· ≤ ·) → risingS p l = true
  | [], p, _ => rfl
  | x :: r, p, h => by
    show (!ltCps x.cps.toList p.cps.toList && risingS x r) = true
    rw [List.map_cons] at h
    obtain ⟨h1, h2⟩ := List.pairwise_cons.mp h
    have q := h1 x.cps.toList (by simp)
    rw [Bool.and_eq_true, ltCps_eq]
    exact ⟨by simpa using q, pw_rising h2⟩
theorem pw_sorted {l : List Str} (h : (l.map (·.cps.toList)).Pairwise (· ≤ ·)) : sortedS l = true := by
  cases l with
  | nil => rfl
  | cons x r => exact pw_rising h
theorem moves_pw {old new : FT} : ∀ {srt : List Str}, (srt.map (·.cps.toList)).Pairwise (· ≤ ·) → (((movesP old new srt).map (·.1)).map (·.cps.toList)).Pairwise (· ≤ ·)
  | [], _ => by simp [movesP]
  | q :: srt, h => by
    rw [List.map_cons] at h
    obtain ⟨h1, h2⟩ := List.pairwise_cons.mp h
    have e0 : movesP old new (q :: srt) = rowsMV q (goneP old new q) (goneP new old q) ++ movesP old new srt := rfl
    rw [e0, List.map_append, List.map_append]
    refine List.pairwise_append.mpr ⟨?_, moves_pw h2, fun a ha b hb => ?_⟩
    · unfold rowsMV
      rw [List.map_map, List.map_map]
      refine List.pairwise_map.mpr (List.Pairwise.imp (R := fun _ _ => True) (fun _ => Std.le_refl _) (List.pairwise_of_forall fun _ _ => trivial))
    · obtain ⟨x, hx, rfl⟩ := List.mem_map.mp ha
      obtain ⟨m, hm, rfl⟩ := List.mem_map.mp hx
      obtain ⟨y, hy, rfl⟩ := List.mem_map.mp hb
      obtain ⟨k, hk, rfl⟩ := List.mem_map.mp hy
      rw [rowsMV_fst m hm]
      obtain ⟨r, hr, hk⟩ := List.mem_flatMap.mp hk
      rw [rowsMV_fst k hk]
      exact h1 _ (List.mem_map.mpr ⟨r, hr, rfl⟩)
theorem moves_sorted {old new : FT} {srt : List Str} (h : sortedS srt = true) : sortedS ((movesP old new srt).map (·.1)) = true := pw_sorted (moves_pw (sorted_pw h))
/-! what is free: the law's own search -/
def freeP (ns : List Str) (z : Str → Str) (g : Gf) (w : Int) (rows : List Str) (l : List Str) : List IS := (l.filter fun n => mayP ns z g w n rows).map fun n => (-g n, n)
theorem free_nil {ns : List Str} {z : Str → Str} {g : Gf} {w : Int} {rows : List Str} (hs : sortedS ns = true) (h : freeP ns z g w rows ns = []) : bestP ns z g w rows = none := by
  refine (best_none hs).mpr fun c hc => ?_
  have h := List.map_eq_nil_iff.mp h
  exact (Bool.not_eq_true _).mp (List.filter_eq_nil_iff.mp h c hc)
theorem free_min {ns : List Str} {z : Str → Str} {g : Gf} {w : Int} {rows : List Str} (hs : sortedS ns = true) {x : IS} (hx : x ∈ freeP ns z g w rows ns) (h : ∀ y ∈ freeP ns z g w rows ns, leP x y) : bestP ns z g w rows = some x.2 := by
  obtain ⟨b, hb, rfl⟩ := List.mem_map.mp hx
  refine best_some hs (List.mem_filter.mp hb).2 fun c hc => h _ (List.mem_map.mpr ⟨c, List.mem_filter.mpr ⟨(mayP_iff.mp hc).1, hc⟩, rfl⟩)
end Sd


set_option linter.unusedVariables false
namespace Sd
open PySem L2
open C8 (Cal Met Mak pe_c pe_mk pe_mt pe_mt0 pss_cut tCut)
def inClass (st : Stmt) (i : Nat) : Stmt := (C8.clsBody st).getD i (.Pass ⟨0, 0, 0, 0⟩)
abbrev sMInit : Stmt := inClass (top 4) 0
abbrev sAInit : Stmt := inClass (top 5) 0
abbrev sPInit : Stmt := inClass (top 6) 0
abbrev sPlan : Stmt := inClass (top 6) 1
abbrev sStay : Stmt := inClass (top 6) 2
abbrev sMay : Stmt := inClass (top 6) 3
abbrev sBest : Stmt := inClass (top 6) 4
set_option linter.unusedSimpArgs false
set_option pp.deepTerms false
set_option pp.deepTerms.threshold 12
set_option hygiene false
local macro_rules | `(tactic| fail "nd") => `(tactic| first | assumption | decide +kernel)
local macro_rules | `(tactic| fail "ix") => `(tactic| first | exact ⟨0, rfl⟩ | exact ⟨1, rfl⟩ | exact ⟨2, rfl⟩ | exact ⟨3, rfl⟩ | exact ⟨4, rfl⟩ | exact ⟨5, rfl⟩ | exact ⟨6, rfl⟩ | exact ⟨7, rfl⟩ | exact ⟨8, rfl⟩ | exact ⟨9, rfl⟩ | exact ⟨10, rfl⟩ | exact ⟨11, rfl⟩ | exact ⟨12, rfl⟩ | exact ⟨13, rfl⟩ | exact ⟨14, rfl⟩ | exact ⟨15, rfl⟩ | exact ⟨16, rfl⟩ | exact ⟨17, rfl⟩ | exact ⟨18, rfl⟩ | assumption)
local macro_rules | `(tactic| fail "up") => `(tactic| first | exact ⟨0, rfl, rfl⟩ | exact ⟨1, rfl, rfl⟩ | exact ⟨2, rfl, rfl⟩ | exact ⟨3, rfl, rfl⟩ | exact ⟨4, rfl, rfl⟩ | exact ⟨5, rfl, rfl⟩ | exact ⟨6, rfl, rfl⟩ | exact ⟨7, rfl, rfl⟩ | exact ⟨8, rfl, rfl⟩ | exact ⟨9, rfl, rfl⟩ | exact ⟨10, rfl, rfl⟩ | exact ⟨11, rfl, rfl⟩ | exact ⟨12, rfl, rfl⟩ | exact ⟨13, rfl, rfl⟩ | exact ⟨14, rfl, rfl⟩ | exact ⟨15, rfl, rfl⟩ | exact ⟨16, rfl, rfl⟩ | assumption)
local macro_rules | `(tactic| fail "lkF") => `(tactic| first | assumption | exact fz_at 0 (by fail "nd") rfl rfl | exact fz_at 1 (by fail "nd") rfl rfl | exact fz_at 2 (by fail "nd") rfl rfl | exact fz_at 3 (by fail "nd") rfl rfl | exact fz_at 4 (by fail "nd") rfl rfl | exact fz_at 5 (by fail "nd") rfl rfl | exact fz_at 6 (by fail "nd") rfl rfl | exact fz_at 7 (by fail "nd") rfl rfl)
local macro_rules | `(tactic| fail "lkD") => `(tactic| first | assumption | exact dz_at 0 (by fail "nd") rfl rfl | exact dz_at 1 (by fail "nd") rfl rfl | exact dz_at 2 (by fail "nd") rfl rfl | exact dz_at 3 (by fail "nd") rfl rfl | exact dz_at 4 (by fail "nd") rfl rfl)
local macro_rules | `(tactic| fail "ptF") => `(tactic| first | assumption | exact fz_put 0 (by fail "nd") rfl (Nat.le_of_ble_eq_true rfl) | exact fz_put 1 (by fail "nd") rfl (Nat.le_of_ble_eq_true rfl) | exact fz_put 2 (by fail "nd") rfl (Nat.le_of_ble_eq_true rfl) | exact fz_put 3 (by fail "nd") rfl (Nat.le_of_ble_eq_true rfl) | exact fz_put 4 (by fail "nd") rfl (Nat.le_of_ble_eq_true rfl) | exact fz_put 5 (by fail "nd") rfl (Nat.le_of_ble_eq_true rfl) | exact fz_put 6 (by fail "nd") rfl (Nat.le_of_ble_eq_true rfl) | exact fz_put 7 (by fail "nd") rfl (Nat.le_of_ble_eq_true rfl) | exact fz_new (by decide +kernel) rfl)
local macro_rules | `(tactic| fail "ptD") => `(tactic| first | assumption | exact dz_put 0 (by fail "nd") rfl (Nat.le_of_ble_eq_true rfl) | exact dz_put 1 (by fail "nd") rfl (Nat.le_of_ble_eq_true rfl) | exact dz_put 2 (by fail "nd") rfl (Nat.le_of_ble_eq_true rfl) | exact dz_put 3 (by fail "nd") rfl (Nat.le_of_ble_eq_true rfl) | exact dz_put 4 (by fail "nd") rfl (Nat.le_of_ble_eq_true rfl))
local macro_rules | `(tactic| fail "sz") => `(tactic| first | assumption | exact (Nat.le_of_ble_eq_true rfl) | omega | decide)
local macro_rules | `(tactic| fail "sd") => `(tactic| first | rfl | assumption | decide | omega | (dsimp only; first | decide | omega) | exact .inr ⟨by decide, by decide⟩ | exact .inl ⟨by decide, by decide⟩ | exact ⟨by omega, by omega⟩ | exact .inl ⟨by omega, by omega⟩ | exact .inr ⟨by omega, by omega⟩ | exact ⟨by omega, by omega, by omega⟩)
local macro_rules | `(tactic| fail "cl") => `(tactic| (clear hH; dsimp only [List.set, List.cons_append, List.nil_append, List.append] at hL))
local macro_rules | `(tactic| fail "gn") => `(tactic| (intro p hp; generalize hH : upd H p _ = H; replace hL := Led.newH hL hp hH; clear hH hp))
local macro_rules | `(tactic| fail "gup") => `(tactic| (generalize hH : upd H _ _ = H; replace hL := Led.upU hL (by fail "up") hH; fail "cl"))
local macro_rules | `(tactic| fail "gmk") => `(tactic| (intro x dx hx hd ne; generalize hH : upd (upd H dx _) x _ = H; replace hL := Led.made hL hx hd ne hH; clear hH hx hd ne))
local macro_rules | `(tactic| fail "v") => `(tactic| refine ⟨_, rfl, ?_⟩)
local macro_rules | `(tactic| fail "i2") => `(tactic| refine ⟨_, _, rfl, rfl, ?_⟩)
local macro_rules | `(tactic| fail "go1") => `(tactic| first
  | refine ⟨_, rfl, ?_⟩
  | refine ⟨_, _, rfl, rfl, ?_⟩
  | refine ⟨_, _, rfl, ?_⟩
  | refine iteT ?_
  | refine iteF ?_
  | refine k_fld hL (by fail "ix") (by assumption) (by assumption) (by fail "lkF") ?_
  | refine k_dgetS hL (by fail "ix") (by fail "lkD") ?_
  | refine k_dgetI hL (by fail "ix") (by assumption) ?_
  | refine k_ixL hL (by fail "ix") (by first | rfl | assumption) ?_
  | refine k_ixT hL (by fail "ix") (by first | rfl | assumption) ?_
  | refine k_tyL hL (by fail "ix") ?_
  | refine k_isd hL (by fail "ix") ?_
  | (refine And.intro (by fail "sz") ?_; fail "gn")
  | refine And.intro (by fail "sd") ?_
  | fail "gn"
  | refine k_meth hL (by fail "ix") (by first | assumption | exact fz_no (by decide +kernel)) ?_
  | refine k_gtup hL (by fail "ix") rfl ?_
  | (refine k_popI hL (by fail "ix") (by assumption) ?_; fail "gup")
  | (refine k_listD hL (by fail "ix") ?_; fail "gn")
  | (refine ⟨_, _, _, _, rfl, rfl, hL.at (by fail "ix"), rfl, ?_⟩; fail "gup")
  | (refine ⟨_, _, _, rfl, rfl, hL.at (by fail "ix"), (by fail "sz"), ?_⟩; fail "gup")
  | (refine ⟨_, _, _, _, rfl, hL.at (by fail "ix"), by assumption, by assumption, Nat.lt_of_le_of_lt fz_len (by decide), ?_⟩; generalize hH : upd H _ _ = H; replace hL := Led.upF hL (by fail "up") (by fail "ptF") hH; fail "cl")
  | (refine ⟨_, _, hL.at (by fail "ix"), Nat.lt_of_le_of_lt fz_len (by decide), ?_⟩; generalize hH : upd H _ _ = H; replace hL := Led.upF hL (by fail "up") (by fail "ptF") hH; fail "cl")
  | (refine k_dputS hL (by fail "ix") (Nat.lt_of_le_of_lt dz_len (by decide)) (by fail "ptD") (by fail "up") ?_; clear hL; intro H hL; dsimp only [List.set, List.cons_append, List.nil_append, List.append] at hL)
  | refine k_lenL2 hL (by fail "ix") ?_
  | refine k_lenT2 hL (by fail "ix") ?_
  | refine .inl ⟨_, rfl, ?_⟩
  | refine .inr ⟨_, rfl, ?_⟩)
local macro_rules | `(tactic| fail "go") => `(tactic| repeat fail "go1")
local macro_rules | `(tactic| fail "pm") => `(tactic| (refine Led.le hL (fun a_ => ?_); simp only [cnt_nil, cnt_cons, cnt_app, List.map_append, List.map_cons, List.map_nil, List.flatMap_append, List.flatMap_cons, List.flatMap_nil, List.append_assoc, List.cons_append, List.nil_append]; omega))

structure MD where
  a : Addr
  dx : Addr
  z : Str
  r : Int
structure PD where
  a : Addr
  dx : Addr
  w : Int
  c : Int
abbrev MaE := Str × MD
abbrev PaE := Str × PD
def nmM : List Str := ["name", "zone", "room"]
def nmA : List Str := ["name", "weight", "copies"]
def nmP : List Str := ["machines", "parts", "left"]
def mV (e : MaE) : V := .ref e.2.a
def pV (e : PaE) : V := .ref e.2.a
def mO (CM : Addr) (e : MaE) : Addr × HO := (e.2.a, .ins CM e.2.dx (fz nmM [.str e.1, .str e.2.z, .int e.2.r]))
def pO (CA : Addr) (e : PaE) : Addr × HO := (e.2.a, .ins CA e.2.dx (fz nmA [.str e.1, .int e.2.w, .int e.2.c]))
def lfV (g : Gf) (n : Str) : Key × V := (Sum.inr n, .int (g n))
def lfK (ns : List Str) (g : Gf) : List (Key × V) := ns.map (lfV g)
def plM (ms : List MaE) : List MRow := ms.map fun e => (e.1, e.2.z, e.2.r)
def plA (ps : List PaE) : List PRow := ps.map fun e => (e.1, e.2.w, e.2.c)
structure TxtP (K : PySem.W.Frag) (mg : Str → Option Value) (CM CA CP : Addr) : Prop where
  clM : Cls K CM
  clA : Cls K CA
  clP : Cls K CP
  nM : ∀ f ∈ nmM, NoAttr K CM f
  nA : ∀ f ∈ nmA, NoAttr K CA f
  nP : ∀ f ∈ nmP, NoAttr K CP f
structure TxtF (mg : Str → Option Value) : Prop where
  len : mg "len" = none
  list : mg "list" = none
  tuple : mg "tuple" = none
  sorted : mg "sorted" = none
  max : mg "max" = none
  range : mg "range" = none
theorem lf_val {ns : List Str} {g : Gf} {n : Str} (h : n ∈ ns) : valV (lfK ns g) (Sum.inr n) = some (.int (g n)) := by
  unfold lfK
  induction ns with
  | nil => cases h
  | cons x r ih =>
    by_cases e : x = n
    · subst e; exact valV_pos (p := lfV g x) rfl
    · rw [List.map_cons, valV_neg (p := lfV g x) (fun z => e (Sum.inr.inj z))]
      exact ih ((List.mem_cons.mp h).resolve_left fun z => e z.symm)
theorem lf_put {ns : List Str} {g : Gf} {n : Str} {w : Int} (h : n ∈ ns) : putK (lfK ns g) (Sum.inr n) (.int (g n - w)) = lfK ns (subG g n w) := by
  unfold putK
  rw [valV_any, lf_val h, if_pos (by rfl)]
  unfold lfK
  rw [List.map_map]
  refine List.map_congr_left fun x _ => ?_
  show (if (Sum.inr x : Key) = Sum.inr n then ((Sum.inr x : Key), V.int (g n - w)) else (Sum.inr x, V.int (g x))) = (Sum.inr x, V.int (subG g n w x))
  by_cases e : x = n
  · subst e; rw [if_pos rfl, subG_self]
  · rw [if_neg (fun z => e (Sum.inr.inj z)), subG_ne e]
theorem ms_val {ms : List MaE} {k : Str} : valV (ms.map (kk mV)) (Sum.inr k) = (aget ms k).map fun d => V.ref d.a := by rw [kk_val]; rfl
theorem plM_ns {ms : List MaE} : (plM ms).map (·.1) = ms.map (·.1) := by unfold plM; rw [List.map_map]; rfl
theorem plA_ns {ps : List PaE} : (plA ps).map (·.1) = ps.map (·.1) := by unfold plA; rw [List.map_map]; rfl
theorem plM_get {ms : List MaE} {k : Str} : aget (plM ms) k = (aget ms k).map fun d => (d.z, d.r) := aget_map (f := fun d : MD => (d.z, d.r))
theorem zf_of {ms : List MaE} {k : Str} {d : MD} (h : aget ms k = some d) : zf (plM ms) k = d.z := by unfold zf; rw [plM_get, h]; rfl
theorem rf_of {ms : List MaE} {k : Str} {d : MD} (h : aget ms k = some d) : rf (plM ms) k = d.r := by unfold rf; rw [plM_get, h]; rfl
theorem mo_mem {CM : Addr} {ms : List MaE} {k : Str} {d : MD} (h : aget ms k = some d) : mO CM (k, d) ∈ ms.map (mO CM) := List.mem_map.mpr ⟨_, aget_mem h, rfl⟩
def spMInit (CM : Addr) : Sp := fun vs H Q _ => ∃ (x dx : Addr) (n z : Str) (r : Int) (R : Lg), vs = [.ref x, .str n, .str z, .int r] ∧ Led H ((x, .ins CM dx (fz [] [])) :: R) ∧ n ≠ "" ∧ 0 ≤ r ∧ ∀ (H' : Hp), Led H' (mO CM (n, ⟨x, dx, z, r⟩) :: R) → Q .non H'
def spMInitX (CM CE : Addr) : Sp := fun vs H _ E => ∃ (x dx : Addr) (n z : Str) (r : Int) (R : Lg), vs = [.ref x, .str n, .str z, .int r] ∧ Led H ((x, .ins CM dx (fz [] [])) :: R) ∧ (n = "" ∨ r < 0) ∧ E (.ref CE) none H
def spAInit (CA : Addr) : Sp := fun vs H Q _ => ∃ (x dx : Addr) (n : Str) (w c : Int) (R : Lg), vs = [.ref x, .str n, .int w, .int c] ∧ Led H ((x, .ins CA dx (fz [] [])) :: R) ∧ n ≠ "" ∧ 1 ≤ w ∧ 1 ≤ c ∧ c ≤ 9 ∧ ∀ (H' : Hp), Led H' (pO CA (n, ⟨x, dx, w, c⟩) :: R) → Q .non H'
def spAInitX (CA CE : Addr) : Sp := fun vs H _ E => ∃ (x dx : Addr) (n : Str) (w c : Int) (R : Lg), vs = [.ref x, .str n, .int w, .int c] ∧ Led H ((x, .ins CA dx (fz [] [])) :: R) ∧ (n = "" ∨ w < 1 ∨ ¬ (1 ≤ c ∧ c ≤ 9)) ∧ E (.ref CE) none H
section
variable {P : Program} {w : World} {K : PySem.W.Frag} {mg : Str → Option Value} {base : Heap} {CM CA CP CE : Addr}
theorem scMInit : FnScope ["self", "name", "zone", "room"] ["self", "name", "zone", "room"] (defScope sMInit) := ⟨rfl, rfl, rfl, by decide +kernel, rfl, by decide +kernel, by decide +kernel⟩
theorem ok_MInit {f : Addr} {fd : FuncData} (F : Fun K "__init__" "Place.__init__" sMInit f fd) (T : TxtP K mg CM CA CP) : FnOk P w K mg base CX0 1 f fd ["self", "name", "zone", "room"] (spMInit CM) := by
  refine F.ok scMInit (fun vs H Q E h => ?_) (fun cdv A outer s H vs Q E hr h => ?_)
  · obtain ⟨x, dx, n, z, r, R, rfl, _⟩ := h
    rfl
  · obtain ⟨x, dx, n, z, r, R, rfl, hL, hn, hr0, k⟩ := h
    have c1 := T.clM
    have f1 := T.nM "name" (by decide +kernel)
    have f2 := T.nM "zone" (by decide +kernel)
    have f3 := T.nM "room" (by decide +kernel)
    refine ⟨_, (pss_cons (ps_if (PW.pt (pw_or (pt_cmpR op_eq (pv 1) pe_str (nomark _)) (pw_or1 (pt_cmpR op_lt (pv 3) pe_int (nomark _)))))
  pss_never
  pss_nil)
  (pss_cons (ps_fld (pv 0) (pv 1) rfl)
  (pss_cons (ps_fld (pv 0) (pv 2) rfl)
  (pss_one (ps_fld (pv 0) (pv 3) rfl))))), ?_⟩
    fail "go"
    refine ite_d (fun z => absurd (V.str.inj z) hn) (fun _ => ?_)
    fail "go"
    refine ite_d (fun z => absurd z (by omega)) (fun _ => ?_)
    fail "go"
    exact k _ hL
theorem ok_MInitX {f : Addr} {fd : FuncData} (F : Fun K "__init__" "Place.__init__" sMInit f fd) (TE : ExcT K mg "PlaceError" CE) : FnOk P w K mg base (L2.CX P w) 1 f fd ["self", "name", "zone", "room"] (spMInitX CM CE) := by
  refine F.okX scMInit (fun vs H Q E h => ?_) (fun cdv A outer s H vs Q E hr h => ?_)
  · obtain ⟨x, dx, n, z, r, R, rfl, _⟩ := h
    rfl
  · obtain ⟨x, dx, n, z, r, R, rfl, hL, hn, q⟩ := h
    refine ⟨_, pss_cons (ps_if (PW.pt (pw_or (pt_cmpR op_eq (pv 1) pe_str (nomark _)) (pw_or1 (pt_cmpR op_lt (pv 3) pe_int (nomark _))))) (pss_one (ps_raiseT TE rfl (takes_of rfl rfl rfl (E := E) rfl) rfl)) pss_nil) pss_never, ?_⟩
    fail "go"
    refine ite_d (fun _ => ?_) (fun z => ?_)
    · fail "go"
      exact q
    · have h0 : r < 0 := hn.resolve_left fun e => z (by rw [e])
      fail "go"
      refine ite_d (fun _ => ?_) (fun z => absurd h0 z)
      exact q
theorem scAInit : FnScope ["self", "name", "weight", "copies"] ["self", "name", "weight", "copies"] (defScope sAInit) := ⟨rfl, rfl, rfl, by decide +kernel, rfl, by decide +kernel, by decide +kernel⟩
theorem ok_AInit {f : Addr} {fd : FuncData} (F : Fun K "__init__" "Part.__init__" sAInit f fd) (T : TxtP K mg CM CA CP) : FnOk P w K mg base CX0 1 f fd ["self", "name", "weight", "copies"] (spAInit CA) := by
  refine F.ok scAInit (fun vs H Q E h => ?_) (fun cdv A outer s H vs Q E hr h => ?_)
  · obtain ⟨x, dx, n, w, c, R, rfl, _⟩ := h
    rfl
  · obtain ⟨x, dx, n, w, c, R, rfl, hL, hn, h1, h2, h3, k⟩ := h
    have c1 := T.clA
    have f1 := T.nA "name" (by decide +kernel)
    have f2 := T.nA "weight" (by decide +kernel)
    have f3 := T.nA "copies" (by decide +kernel)
    refine ⟨_, (pss_cons (ps_if (PW.pt (pw_or (pt_cmpR op_eq (pv 1) pe_str (nomark _)) (pw_or (pt_cmpR op_lt (pv 2) pe_int (nomark _)) (pw_or1 (pt_not (pt_chain op_le op_le pe_int (pv 3) pe_int))))))
  pss_never
  pss_nil)
  (pss_cons (ps_fld (pv 0) (pv 1) rfl)
  (pss_cons (ps_fld (pv 0) (pv 2) rfl)
  (pss_one (ps_fld (pv 0) (pv 3) rfl))))), ?_⟩
    fail "go"
    refine ite_d (fun z => absurd (V.str.inj z) hn) (fun _ => ?_)
    fail "go"
    refine ite_d (fun z => absurd z (by omega)) (fun _ => ?_)
    fail "go"
    refine ite_d (fun _ => ?_) (fun z => absurd h2 z)
    fail "go"
    refine ite_n (fun z => absurd h3 z) (fun _ => ?_)
    fail "go"
    exact k _ hL
theorem ok_AInitX {f : Addr} {fd : FuncData} (F : Fun K "__init__" "Part.__init__" sAInit f fd) (TE : ExcT K mg "PlaceError" CE) : FnOk P w K mg base (L2.CX P w) 1 f fd ["self", "name", "weight", "copies"] (spAInitX CA CE) := by
  refine F.okX scAInit (fun vs H Q E h => ?_) (fun cdv A outer s H vs Q E hr h => ?_)
  · obtain ⟨x, dx, n, w, c, R, rfl, _⟩ := h
    rfl
  · obtain ⟨x, dx, n, w, c, R, rfl, hL, hn, q⟩ := h
    refine ⟨_, pss_cons (ps_if (PW.pt (pw_or (pt_cmpR op_eq (pv 1) pe_str (nomark _)) (pw_or (pt_cmpR op_lt (pv 2) pe_int (nomark _)) (pw_or1 (pt_not (pt_chain op_le op_le pe_int (pv 3) pe_int)))))) (pss_one (ps_raiseT TE rfl (takes_of rfl rfl rfl (E := E) rfl) rfl)) pss_nil) pss_never, ?_⟩
    fail "go"
    refine ite_d (fun _ => ?_) (fun z => ?_)
    · fail "go"
      exact q
    · have h0 := hn.resolve_left fun e => z (by rw [e])
      fail "go"
      refine ite_d (fun _ => ?_) (fun z => ?_)
      · fail "go"
        exact q
      · have h1 := h0.resolve_left z
        fail "go"
        refine ite_d (fun z1 => ?_) (fun z1 => ?_)
        · fail "go"
          refine ite_n (fun _ => ?_) (fun z2 => absurd ⟨z1, z2⟩ h1)
          exact q
        · fail "go"
          exact q
def PL (CM CP : Addr) (s ds md pl ld : Addr) (ms : List MaE) (g : Gf) : Lg := (s, .ins CP ds (fz nmP [.ref md, .ref pl, .ref ld])) :: (md, .dK (ms.map (kk mV))) :: (ld, .dK (lfK (ms.map (·.1)) g)) :: ms.map (mO CM)
end
end Sd


set_option linter.unusedVariables false
namespace Sd
open PySem L2
open C8 (Cal Met Mak pe_c pe_mk pe_mt pe_mt0 pss_cut tCut)
set_option linter.unusedSimpArgs false
set_option pp.deepTerms false
set_option pp.deepTerms.threshold 12
set_option hygiene false
local macro_rules | `(tactic| fail "nd") => `(tactic| first | assumption | decide +kernel)
local macro_rules | `(tactic| fail "ix") => `(tactic| first | exact ⟨0, rfl⟩ | exact ⟨1, rfl⟩ | exact ⟨2, rfl⟩ | exact ⟨3, rfl⟩ | exact ⟨4, rfl⟩ | exact ⟨5, rfl⟩ | exact ⟨6, rfl⟩ | exact ⟨7, rfl⟩ | exact ⟨8, rfl⟩ | exact ⟨9, rfl⟩ | exact ⟨10, rfl⟩ | exact ⟨11, rfl⟩ | exact ⟨12, rfl⟩ | exact ⟨13, rfl⟩ | exact ⟨14, rfl⟩ | exact ⟨15, rfl⟩ | exact ⟨16, rfl⟩ | exact ⟨17, rfl⟩ | exact ⟨18, rfl⟩ | assumption)
local macro_rules | `(tactic| fail "up") => `(tactic| first | exact ⟨0, rfl, rfl⟩ | exact ⟨1, rfl, rfl⟩ | exact ⟨2, rfl, rfl⟩ | exact ⟨3, rfl, rfl⟩ | exact ⟨4, rfl, rfl⟩ | exact ⟨5, rfl, rfl⟩ | exact ⟨6, rfl, rfl⟩ | exact ⟨7, rfl, rfl⟩ | exact ⟨8, rfl, rfl⟩ | exact ⟨9, rfl, rfl⟩ | exact ⟨10, rfl, rfl⟩ | exact ⟨11, rfl, rfl⟩ | exact ⟨12, rfl, rfl⟩ | exact ⟨13, rfl, rfl⟩ | exact ⟨14, rfl, rfl⟩ | exact ⟨15, rfl, rfl⟩ | exact ⟨16, rfl, rfl⟩ | assumption)
local macro_rules | `(tactic| fail "lkF") => `(tactic| first | assumption | exact fz_at 0 (by fail "nd") rfl rfl | exact fz_at 1 (by fail "nd") rfl rfl | exact fz_at 2 (by fail "nd") rfl rfl | exact fz_at 3 (by fail "nd") rfl rfl | exact fz_at 4 (by fail "nd") rfl rfl | exact fz_at 5 (by fail "nd") rfl rfl | exact fz_at 6 (by fail "nd") rfl rfl | exact fz_at 7 (by fail "nd") rfl rfl)
local macro_rules | `(tactic| fail "lkD") => `(tactic| first | assumption | exact dz_at 0 (by fail "nd") rfl rfl | exact dz_at 1 (by fail "nd") rfl rfl | exact dz_at 2 (by fail "nd") rfl rfl | exact dz_at 3 (by fail "nd") rfl rfl | exact dz_at 4 (by fail "nd") rfl rfl)
local macro_rules | `(tactic| fail "ptF") => `(tactic| first | assumption | exact fz_put 0 (by fail "nd") rfl (Nat.le_of_ble_eq_true rfl) | exact fz_put 1 (by fail "nd") rfl (Nat.le_of_ble_eq_true rfl) | exact fz_put 2 (by fail "nd") rfl (Nat.le_of_ble_eq_true rfl) | exact fz_put 3 (by fail "nd") rfl (Nat.le_of_ble_eq_true rfl) | exact fz_put 4 (by fail "nd") rfl (Nat.le_of_ble_eq_true rfl) | exact fz_put 5 (by fail "nd") rfl (Nat.le_of_ble_eq_true rfl) | exact fz_put 6 (by fail "nd") rfl (Nat.le_of_ble_eq_true rfl) | exact fz_put 7 (by fail "nd") rfl (Nat.le_of_ble_eq_true rfl) | exact fz_new (by decide +kernel) rfl)
local macro_rules | `(tactic| fail "ptD") => `(tactic| first | assumption | exact dz_put 0 (by fail "nd") rfl (Nat.le_of_ble_eq_true rfl) | exact dz_put 1 (by fail "nd") rfl (Nat.le_of_ble_eq_true rfl) | exact dz_put 2 (by fail "nd") rfl (Nat.le_of_ble_eq_true rfl) | exact dz_put 3 (by fail "nd") rfl (Nat.le_of_ble_eq_true rfl) | exact dz_put 4 (by fail "nd") rfl (Nat.le_of_ble_eq_true rfl))
local macro_rules | `(tactic| fail "sz") => `(tactic| first | assumption | exact (Nat.le_of_ble_eq_true rfl) | omega | decide)
local macro_rules | `(tactic| fail "sd") => `(tactic| first | rfl | assumption | decide | omega | (dsimp only; first | decide | omega) | exact .inr ⟨by decide, by decide⟩ | exact .inl ⟨by decide, by decide⟩ | exact ⟨by omega, by omega⟩ | exact .inl ⟨by omega, by omega⟩ | exact .inr ⟨by omega, by omega⟩ | exact ⟨by omega, by omega, by omega⟩)
local macro_rules | `(tactic| fail "cl") => `(tactic| (clear hH; dsimp only [List.set, List.cons_append, List.nil_append, List.append] at hL))
local macro_rules | `(tactic| fail "gn") => `(tactic| (intro p hp; generalize hH : upd H p _ = H; replace hL := Led.newH hL hp hH; clear hH hp))
local macro_rules | `(tactic| fail "gup") => `(tactic| (generalize hH : upd H _ _ = H; replace hL := Led.upU hL (by fail "up") hH; fail "cl"))
local macro_rules | `(tactic| fail "gmk") => `(tactic| (intro x dx hx hd ne; generalize hH : upd (upd H dx _) x _ = H; replace hL := Led.made hL hx hd ne hH; clear hH hx hd ne))
local macro_rules | `(tactic| fail "v") => `(tactic| refine ⟨_, rfl, ?_⟩)
local macro_rules | `(tactic| fail "i2") => `(tactic| refine ⟨_, _, rfl, rfl, ?_⟩)
local macro_rules | `(tactic| fail "go1") => `(tactic| first
  | refine ⟨_, rfl, ?_⟩
  | refine ⟨_, _, rfl, rfl, ?_⟩
  | refine ⟨_, _, rfl, ?_⟩
  | refine iteT ?_
  | refine iteF ?_
  | refine k_fld hL (by fail "ix") (by assumption) (by assumption) (by fail "lkF") ?_
  | refine k_dgetS hL (by fail "ix") (by fail "lkD") ?_
  | refine k_dgetI hL (by fail "ix") (by assumption) ?_
  | refine k_ixL hL (by fail "ix") (by first | rfl | assumption) ?_
  | refine k_ixT hL (by fail "ix") (by first | rfl | assumption) ?_
  | refine k_tyL hL (by fail "ix") ?_
  | refine k_isd hL (by fail "ix") ?_
  | (refine And.intro (by fail "sz") ?_; fail "gn")
  | refine And.intro (by fail "sd") ?_
  | fail "gn"
  | refine k_meth hL (by fail "ix") (by first | assumption | exact fz_no (by decide +kernel)) ?_
  | refine k_gtup hL (by fail "ix") rfl ?_
  | (refine k_popI hL (by fail "ix") (by assumption) ?_; fail "gup")
  | (refine k_listD hL (by fail "ix") ?_; fail "gn")
  | (refine ⟨_, _, _, _, rfl, rfl, hL.at (by fail "ix"), rfl, ?_⟩; fail "gup")
  | (refine ⟨_, _, _, rfl, rfl, hL.at (by fail "ix"), (by fail "sz"), ?_⟩; fail "gup")
  | (refine ⟨_, _, _, _, rfl, hL.at (by fail "ix"), by assumption, by assumption, Nat.lt_of_le_of_lt fz_len (by decide), ?_⟩; generalize hH : upd H _ _ = H; replace hL := Led.upF hL (by fail "up") (by fail "ptF") hH; fail "cl")
  | (refine ⟨_, _, hL.at (by fail "ix"), Nat.lt_of_le_of_lt fz_len (by decide), ?_⟩; generalize hH : upd H _ _ = H; replace hL := Led.upF hL (by fail "up") (by fail "ptF") hH; fail "cl")
  | (refine k_dputS hL (by fail "ix") (Nat.lt_of_le_of_lt dz_len (by decide)) (by fail "ptD") (by fail "up") ?_; clear hL; intro H hL; dsimp only [List.set, List.cons_append, List.nil_append, List.append] at hL)
  | refine k_lenL2 hL (by fail "ix") ?_
  | refine k_lenT2 hL (by fail "ix") ?_
  | refine .inl ⟨_, rfl, ?_⟩
  | refine .inr ⟨_, rfl, ?_⟩)
local macro_rules | `(tactic| fail "go") => `(tactic| repeat fail "go1")
local macro_rules | `(tactic| fail "pm") => `(tactic| (refine Led.le hL (fun a_ => ?_); simp only [cnt_nil, cnt_cons, cnt_app, List.map_append, List.map_cons, List.map_nil, List.flatMap_append, List.flatMap_cons, List.flatMap_nil, List.append_assoc, List.cons_append, List.nil_append]; omega))

section
variable {P : Program} {w : World} {K : PySem.W.Frag} {mg : Str → Option Value} {base : Heap} {CM CA CP CE : Addr}
def spMay (CM CA CP : Addr) : Sp := fun vs H Q _ => ∃ (s ds md pl ld rl : Addr) (ms : List MaE) (g : Gf) (p : PaE) (n : Str) (rows : List Str) (R : Lg), vs = [.ref s, .ref p.2.a, .str n, .ref rl] ∧
  Led H ((rl, .lst (rows.map .str)) :: pO CA p :: (PL CM CP s ds md pl ld ms g ++ R)) ∧ (∀ m ∈ rows, m ∈ ms.map (·.1)) ∧ rows.length < 60 ∧
  ∀ H', Led H' ((rl, .lst (rows.map .str)) :: pO CA p :: (PL CM CP s ds md pl ld ms g ++ R)) → Q (.bl (mayP (ms.map (·.1)) (zf (plM ms)) g p.2.w n rows)) H'
theorem scMay : FnScope ["self", "part", "name", "rows", "one"] ["self", "part", "name", "rows"] (defScope sMay) := ⟨rfl, rfl, rfl, by decide +kernel, rfl, by decide +kernel, by decide +kernel⟩
theorem ok_may {f : Addr} {fd : FuncData} (F : Fun K "may_hold" "Planner.may_hold" sMay f fd) (X : TxtP K mg CM CA CP) : FnOk P w K mg base CX0 1 f fd ["self", "part", "name", "rows"] (spMay CM CA CP) := by
  refine F.ok scMay (fun vs H Q E h => ?_) (fun cdv A outer s0 H vs Q E hr h => ?_)
  · obtain ⟨s, ds, md, pl, ld, rl, ms, g, p, n, rows, R, rfl, _⟩ := h
    rfl
  · obtain ⟨s, ds, md, pl, ld, rl, ms, g, ⟨pn, pd⟩, n, rows, R, rfl, hL, hrw, hz, k⟩ := h
    have c1 := X.clP
    have c2 := X.clA
    have c3 := X.clM
    have f1 := X.nP "machines" (by decide +kernel)
    have f2 := X.nP "left" (by decide +kernel)
    have f3 := X.nA "weight" (by decide +kernel)
    have f4 := X.nM "zone" (by decide +kernel)
    refine ⟨_, (pss_cons (ps_if (PW.pt (pw_or (pt_cmp (pc_dnotin (hu_of hr) (pv 2) (pe_fld (pv 0) rfl))) (pw_or1 (pt_cmpR op_lt (pe_dget (hu_of hr) (pe_fld (pv 0) rfl) (pv 2) (fun _ _ => rfl)) (pe_fld (pv 1) rfl) (nomark _)))))
  (pss_one (ps_ret pe_bl))
  pss_nil)
  (pss_one (ps_ret (pe_cmpR op_notIn_seq (pe_fld (pe_dget (hu_of hr) (pe_fld (pv 0) rfl) (pv 2) (fun _ _ => rfl)) rfl) (pe_lc (own := [("one", 4)]) (g := gName 4) (by rfl) scMay.nd (pi_list (pv 3)) (blkOk_by (own := [("one", 4)]) (N := ["self", "part", "name", "rows", "one"]) (sc := (defScope sMay)) (by decide +kernel)) (fun _ _ _ _ _ => (pg_name (i := 4) scMay.nd rfl (Or.inl rfl))) (fun _ _ _ _ _ => pts_nil) (fun _ _ _ _ _ => (pe_fldB (pe_dget (hu_of hr) (pe_fldB (pv 0) rfl) (pv 4) (fun _ _ => rfl)) rfl))) (by rfl))))), ?_⟩
    dsimp only [PL, pO, List.cons_append] at hL k
    fail "go"
    refine k_dinS hL (by fail "ix") ?_
    rw [ms_val]
    by_cases hm : n ∈ ms.map (·.1)
    · obtain ⟨d, hd⟩ := aget_in hm
      rw [hd]
      have lk := lf_val (g := g) hm
      have lk2 : valV (ms.map (kk mV)) (Sum.inr n) = some (.ref d.a) := by rw [ms_val, hd]; rfl
      fail "go"
      refine ite_d (fun hw => ?_) (fun hw => ?_)
      · fail "go"
        have e : mayP (ms.map (·.1)) (zf (plM ms)) g pd.w n rows = false := Bool.eq_false_iff.mpr fun t => by have := (mayP_iff.mp t).2.1; omega
        rw [← e]
        exact k _ hL
      · fail "go"
        refine k_fld hL (at_mem (.tail _ (.tail _ (.tail _ (.tail _ (.tail _ (List.mem_append_left _ (mo_mem hd)))))))) c3 f4 (by fail "lkF") ?_
        fail "go"
        refine ⟨⟨_, .of (hL.at ⟨0, rfl⟩)⟩, fun D hD => lc_list (K := K) (a := rl) (xs := rows.map V.str) (fun i H => Hold (Led H ((D, .lst (((rows.take i).map (zf (plM ms))).map V.str)) :: (rl, .lst (rows.map V.str)) :: (pd.a, .ins CA pd.dx (fz nmA [.str pn, .int pd.w, .int pd.c])) :: (s, .ins CP ds (fz nmP [.ref md, .ref pl, .ref ld])) :: (md, .dK (ms.map (kk mV))) :: (ld, .dK (lfK (ms.map (·.1)) g)) :: (ms.map (mO CM) ++ R)))) (.mk (hL.new hD)) (fun i H _ h => .of (h.out.at ⟨1, rfl⟩)) (fun i x H hi h => ?_) (fun H h => ?_)⟩
        · clear hL
          replace hL := h.out
          clear h
          rw [List.getElem?_map] at hi
          obtain ⟨y, hy, rfl⟩ := Option.map_eq_some_iff.mp hi
          obtain ⟨e, he⟩ := aget_in (hrw y (List.mem_of_getElem? hy))
          have lk3 : valV (ms.map (kk mV)) (Sum.inr y) = some (.ref e.a) := by rw [ms_val, he]; rfl
          have hil := (List.getElem?_eq_some_iff.mp hy).1
          refine ⟨rfl, k_yes ?_⟩
          fail "go"
          refine k_fld hL (at_mem (.tail _ (.tail _ (.tail _ (.tail _ (.tail _ (.tail _ (List.mem_append_left _ (mo_mem he))))))))) c3 f4 (by fail "lkF") ?_
          refine ⟨_, hL.at ⟨0, rfl⟩, by rw [List.length_map, List.length_map, List.length_take]; exact Nat.lt_trans (Nat.lt_of_le_of_lt (Nat.min_le_right _ _) hz) (by decide), ?_⟩
          fail "gup"
          refine .mk ?_
          rw [List.take_add_one, hy, Option.toList_some, List.map_append, List.map_append, List.map_singleton, List.map_singleton, zf_of he]
          exact hL
        · clear hL
          replace hL := h.out
          clear h
          rw [List.length_map, List.take_length] at hL
          refine k_ninS (K := K) hL ⟨0, rfl⟩ ?_
          have e : mayP (ms.map (·.1)) (zf (plM ms)) g pd.w n rows = !decide (d.z ∈ rows.map (zf (plM ms))) := by
            unfold mayP
            rw [zf_of hd, ← decide_not]
            exact decide_eq_decide.mpr ⟨fun t => t.2.2, fun t => ⟨hm, by omega, t⟩⟩
          rw [← e]
          exact k _ hL.tail
    · rw [aget_none hm]
      fail "go"
      have e : mayP (ms.map (·.1)) (zf (plM ms)) g pd.w n rows = false := Bool.eq_false_iff.mpr fun t => hm (mayP_iff.mp t).1
      rw [← e]
      exact k _ hL
end
end Sd


set_option linter.unusedVariables false
namespace Sd
open PySem L2
open PyProof.Rows (sortedS)
open C8 (Cal Met Mak pe_c pe_mk pe_mt pe_mt0 pss_cut tCut)
set_option linter.unusedSimpArgs false
set_option pp.deepTerms false
set_option pp.deepTerms.threshold 12
set_option hygiene false
local macro_rules | `(tactic| fail "nd") => `(tactic| first | assumption | decide +kernel)
local macro_rules | `(tactic| fail "ix") => `(tactic| first | exact ⟨0, rfl⟩ | exact ⟨1, rfl⟩ | exact ⟨2, rfl⟩ | exact ⟨3, rfl⟩ | exact ⟨4, rfl⟩ | exact ⟨5, rfl⟩ | exact ⟨6, rfl⟩ | exact ⟨7, rfl⟩ | exact ⟨8, rfl⟩ | exact ⟨9, rfl⟩ | exact ⟨10, rfl⟩ | exact ⟨11, rfl⟩ | exact ⟨12, rfl⟩ | exact ⟨13, rfl⟩ | exact ⟨14, rfl⟩ | exact ⟨15, rfl⟩ | exact ⟨16, rfl⟩ | exact ⟨17, rfl⟩ | exact ⟨18, rfl⟩ | assumption)
local macro_rules | `(tactic| fail "up") => `(tactic| first | exact ⟨0, rfl, rfl⟩ | exact ⟨1, rfl, rfl⟩ | exact ⟨2, rfl, rfl⟩ | exact ⟨3, rfl, rfl⟩ | exact ⟨4, rfl, rfl⟩ | exact ⟨5, rfl, rfl⟩ | exact ⟨6, rfl, rfl⟩ | exact ⟨7, rfl, rfl⟩ | exact ⟨8, rfl, rfl⟩ | exact ⟨9, rfl, rfl⟩ | exact ⟨10, rfl, rfl⟩ | exact ⟨11, rfl, rfl⟩ | exact ⟨12, rfl, rfl⟩ | exact ⟨13, rfl, rfl⟩ | exact ⟨14, rfl, rfl⟩ | exact ⟨15, rfl, rfl⟩ | exact ⟨16, rfl, rfl⟩ | assumption)
local macro_rules | `(tactic| fail "lkF") => `(tactic| first | assumption | exact fz_at 0 (by fail "nd") rfl rfl | exact fz_at 1 (by fail "nd") rfl rfl | exact fz_at 2 (by fail "nd") rfl rfl | exact fz_at 3 (by fail "nd") rfl rfl | exact fz_at 4 (by fail "nd") rfl rfl | exact fz_at 5 (by fail "nd") rfl rfl | exact fz_at 6 (by fail "nd") rfl rfl | exact fz_at 7 (by fail "nd") rfl rfl)
local macro_rules | `(tactic| fail "lkD") => `(tactic| first | assumption | exact dz_at 0 (by fail "nd") rfl rfl | exact dz_at 1 (by fail "nd") rfl rfl | exact dz_at 2 (by fail "nd") rfl rfl | exact dz_at 3 (by fail "nd") rfl rfl | exact dz_at 4 (by fail "nd") rfl rfl)
local macro_rules | `(tactic| fail "ptF") => `(tactic| first | assumption | exact fz_put 0 (by fail "nd") rfl (Nat.le_of_ble_eq_true rfl) | exact fz_put 1 (by fail "nd") rfl (Nat.le_of_ble_eq_true rfl) | exact fz_put 2 (by fail "nd") rfl (Nat.le_of_ble_eq_true rfl) | exact fz_put 3 (by fail "nd") rfl (Nat.le_of_ble_eq_true rfl) | exact fz_put 4 (by fail "nd") rfl (Nat.le_of_ble_eq_true rfl) | exact fz_put 5 (by fail "nd") rfl (Nat.le_of_ble_eq_true rfl) | exact fz_put 6 (by fail "nd") rfl (Nat.le_of_ble_eq_true rfl) | exact fz_put 7 (by fail "nd") rfl (Nat.le_of_ble_eq_true rfl) | exact fz_new (by decide +kernel) rfl)
local macro_rules | `(tactic| fail "ptD") => `(tactic| first | assumption | exact dz_put 0 (by fail "nd") rfl (Nat.le_of_ble_eq_true rfl) | exact dz_put 1 (by fail "nd") rfl (Nat.le_of_ble_eq_true rfl) | exact dz_put 2 (by fail "nd") rfl (Nat.le_of_ble_eq_true rfl) | exact dz_put 3 (by fail "nd") rfl (Nat.le_of_ble_eq_true rfl) | exact dz_put 4 (by fail "nd") rfl (Nat.le_of_ble_eq_true rfl))
local macro_rules | `(tactic| fail "sz") => `(tactic| first | assumption | exact (Nat.le_of_ble_eq_true rfl) | omega | decide)
local macro_rules | `(tactic| fail "sd") => `(tactic| first | rfl | assumption | decide | omega | (dsimp only; first | decide | omega) | exact .inr ⟨by decide, by decide⟩ | exact .inl ⟨by decide, by decide⟩ | exact ⟨by omega, by omega⟩ | exact .inl ⟨by omega, by omega⟩ | exact .inr ⟨by omega, by omega⟩ | exact ⟨by omega, by omega, by omega⟩)
local macro_rules | `(tactic| fail "cl") => `(tactic| (clear hH; dsimp only [List.set, List.cons_append, List.nil_append, List.append] at hL))
local macro_rules | `(tactic| fail "gn") => `(tactic| (intro p hp; generalize hH : upd H p _ = H; replace hL := Led.newH hL hp hH; clear hH hp))
local macro_rules | `(tactic| fail "gup") => `(tactic| (generalize hH : upd H _ _ = H; replace hL := Led.upU hL (by fail "up") hH; fail "cl"))
local macro_rules | `(tactic| fail "gmk") => `(tactic| (intro x dx hx hd ne; generalize hH : upd (upd H dx _) x _ = H; replace hL := Led.made hL hx hd ne hH; clear hH hx hd ne))
local macro_rules | `(tactic| fail "v") => `(tactic| refine ⟨_, rfl, ?_⟩)
local macro_rules | `(tactic| fail "i2") => `(tactic| refine ⟨_, _, rfl, rfl, ?_⟩)
local macro_rules | `(tactic| fail "go1") => `(tactic| first
  | refine ⟨_, rfl, ?_⟩
  | refine ⟨_, _, rfl, rfl, ?_⟩
  | refine ⟨_, _, rfl, ?_⟩
  | refine iteT ?_
  | refine iteF ?_
  | refine k_fld hL (by fail "ix") (by assumption) (by assumption) (by fail "lkF") ?_
  | refine k_dgetS hL (by fail "ix") (by fail "lkD") ?_
  | refine k_dgetI hL (by fail "ix") (by assumption) ?_
  | refine k_ixL hL (by fail "ix") (by first | rfl | assumption) ?_
  | refine k_ixT hL (by fail "ix") (by first | rfl | assumption) ?_
  | refine k_tyL hL (by fail "ix") ?_
  | refine k_isd hL (by fail "ix") ?_
  | (refine And.intro (by fail "sz") ?_; fail "gn")
  | refine And.intro (by fail "sd") ?_
  | fail "gn"
  | refine k_meth hL (by fail "ix") (by first | assumption | exact fz_no (by decide +kernel)) ?_
  | refine k_gtup hL (by fail "ix") rfl ?_
  | (refine k_popI hL (by fail "ix") (by assumption) ?_; fail "gup")
  | (refine k_listD hL (by fail "ix") ?_; fail "gn")
  | (refine ⟨_, _, _, _, rfl, rfl, hL.at (by fail "ix"), rfl, ?_⟩; fail "gup")
  | (refine ⟨_, _, _, rfl, rfl, hL.at (by fail "ix"), (by fail "sz"), ?_⟩; fail "gup")
  | (refine ⟨_, _, _, _, rfl, hL.at (by fail "ix"), by assumption, by assumption, Nat.lt_of_le_of_lt fz_len (by decide), ?_⟩; generalize hH : upd H _ _ = H; replace hL := Led.upF hL (by fail "up") (by fail "ptF") hH; fail "cl")
  | (refine ⟨_, _, hL.at (by fail "ix"), Nat.lt_of_le_of_lt fz_len (by decide), ?_⟩; generalize hH : upd H _ _ = H; replace hL := Led.upF hL (by fail "up") (by fail "ptF") hH; fail "cl")
  | (refine k_dputS hL (by fail "ix") (Nat.lt_of_le_of_lt dz_len (by decide)) (by fail "ptD") (by fail "up") ?_; clear hL; intro H hL; dsimp only [List.set, List.cons_append, List.nil_append, List.append] at hL)
  | refine k_lenL2 hL (by fail "ix") ?_
  | refine k_lenT2 hL (by fail "ix") ?_
  | refine .inl ⟨_, rfl, ?_⟩
  | refine .inr ⟨_, rfl, ?_⟩)
local macro_rules | `(tactic| fail "go") => `(tactic| repeat fail "go1")
local macro_rules | `(tactic| fail "pm") => `(tactic| (refine Led.le hL (fun a_ => ?_); simp only [cnt_nil, cnt_cons, cnt_app, List.map_append, List.map_cons, List.map_nil, List.flatMap_append, List.flatMap_cons, List.flatMap_nil, List.append_assoc, List.cons_append, List.nil_append]; omega))

def optV : Option Str → V
  | none => .non
  | some b => .str b
theorem lf_names {ns : List Str} {g : Gf} : (lfK ns g).map (·.1) = ns.map Sum.inr := by unfold lfK; rw [List.map_map]; rfl
def spBest (CM CA CP : Addr) : Sp := fun vs H Q _ => ∃ (s ds md pl ld rl : Addr) (ms : List MaE) (g : Gf) (p : PaE) (rows : List Str) (R : Lg), vs = [.ref s, .ref p.2.a, .ref rl] ∧
  Led H ((rl, .lst (rows.map .str)) :: pO CA p :: (PL CM CP s ds md pl ld ms g ++ R)) ∧ (∀ m ∈ rows, m ∈ ms.map (·.1)) ∧ rows.length < 60 ∧ ms.length < 60 ∧ sortedS (ms.map (·.1)) = true ∧
  ∀ H', Led H' ((rl, .lst (rows.map .str)) :: pO CA p :: (PL CM CP s ds md pl ld ms g ++ R)) → Q (optV (bestP (ms.map (·.1)) (zf (plM ms)) g p.2.w rows)) H'
section
variable {P : Program} {w : World} {K : PySem.W.Frag} {mg : Str → Option Value} {base : Heap} {CM CA CP CE : Addr}
theorem scBest : FnScope ["self", "part", "rows", "found", "name"] ["self", "part", "rows"] (defScope sBest) := ⟨rfl, rfl, rfl, by decide +kernel, rfl, by decide +kernel, by decide +kernel⟩
theorem ok_best {f : Addr} {fd : FuncData} (F : Fun K "best_for" "Planner.best_for" sBest f fd) (X : TxtP K mg CM CA CP) (T : TxtF mg) (c_Planner_may_hold : Met P w K mg base 1 CP "may_hold" (spMay CM CA CP) []) : FnOk P w K mg base CX0 2 f fd ["self", "part", "rows"] (spBest CM CA CP) := by
  refine F.ok scBest (fun vs H Q E h => ?_) (fun cdv A outer s0 H vs Q E hr h => ?_)
  · obtain ⟨s, ds, md, pl, ld, rl, ms, g, p, rows, R, rfl, _⟩ := h
    rfl
  · obtain ⟨s, ds, md, pl, ld, rl, ms, g, p, rows, R, rfl, hL, hrw, hz, hzm, hs, k⟩ := h
    have c1 := X.clP
    have f1 := X.nP "machines" (by decide +kernel)
    have f2 := X.nP "left" (by decide +kernel)
    refine ⟨_, (pss_cons (ps_set (i := 3) scBest.nd rfl (Or.inl rfl) pe_non)
  (pss_cons (ps_for PassesOwn.never rfl (pi_list (pe_callB (call_sortedD rfl) (by rfl) T.sorted (by decide +kernel) (pa_cons (pe_fld (pv 0) rfl) pa_nil))) (pg_name (i := 4) scBest.nd rfl (Or.inl rfl))
  (pss_one (ps_if (PW.pt (pw_and (pt_val (pe_mt c_Planner_may_hold hr (by decide) (pv 0) (pa_cons (pv 1) (pa_cons (pv 4) (pa_cons (pv 2) pa_nil))))) (pw_and1 (PW.pt (pw_or (pt_cmpR op_isN (pv 3) pe_non (nomark _)) (pw_or1 (pt_cmpR op_gt (pe_dget (hu_of hr) (pe_fld (pv 0) rfl) (pv 4) (fun _ _ => rfl)) (pe_dget (hu_of hr) (pe_fld (pv 0) rfl) (pv 3) (fun _ _ => rfl)) (nomark _))))))))
  (pss_one (ps_set (i := 3) scBest.nd rfl (Or.inl rfl) (pv 4)))
  pss_nil)))
  (pss_one (ps_ret (pv 3))))), ?_⟩
    have hL0 := hL
    dsimp only [PL, List.cons_append] at hL
    fail "go"
    refine ⟨_, _, ms.map (·.1), rfl, .inl (hL.at (by fail "ix")), kk_names, Nat.lt_trans (by rw [List.length_map]; exact hzm) (by decide), fun ys y0 hys hys2 hf => ?_⟩
    obtain rfl : ys = ms.map (·.1) := sortedS_uniq hys hys2 hs
    generalize hH : upd H y0 _ = H
    replace hL := Led.newH hL hf hH
    clear hH hf hL0
    fail "go"
    refine ⟨⟨_, .of (hL.at ⟨0, rfl⟩)⟩, for_listA (K := K) (a := y0) (xs := (ms.map (·.1)).map V.str) (fun i σ H => Hold (∃ v4, σ = [some (.ref s), some (.ref p.2.a), some (.ref rl), some (optV (((ms.map (·.1)).take i).foldl (best1 (ms.map (·.1)) (zf (plM ms)) g p.2.w rows) none)), v4] ∧ Led H ((y0, .lst ((ms.map (·.1)).map V.str)) :: (rl, .lst (rows.map .str)) :: pO CA p :: (PL CM CP s ds md pl ld ms g ++ R)))) (.mk ⟨_, rfl, hL⟩) (fun i σ H _ h => ?_) (fun i x σ H D' hi h hD' => ?_) (fun σ H h => ?_)⟩
    · obtain ⟨v4, rfl, hL⟩ := h.out
      exact .of (hL.at ⟨0, rfl⟩)
    · clear hL
      obtain ⟨v4, rfl, hL⟩ := h.out
      clear h
      rw [List.getElem?_map] at hi
      obtain ⟨n, hn, rfl⟩ := Option.map_eq_some_iff.mp hi
      have hnm := List.mem_of_getElem? hn
      have lk := lf_val (g := g) hnm
      have hL1 := hL
      dsimp only [PL, List.cons_append] at hL1
      have step : ((ms.map (·.1)).take (i + 1)).foldl (best1 (ms.map (·.1)) (zf (plM ms)) g p.2.w rows) none = best1 (ms.map (·.1)) (zf (plM ms)) g p.2.w rows (((ms.map (·.1)).take i).foldl (best1 (ms.map (·.1)) (zf (plM ms)) g p.2.w rows) none) n := by
        rw [List.take_add_one, hn, Option.toList_some, List.foldl_append]; rfl
      have bmem : ∀ b, ((ms.map (·.1)).take i).foldl (best1 (ms.map (·.1)) (zf (plM ms)) g p.2.w rows) none = some b → b ∈ ms.map (·.1) := fun b hb =>
        List.mem_of_mem_take ((best_pre (ns := ms.map (·.1)) (z := zf (plM ms)) (g := g) (w := p.2.w) (rows := rows) ((ms.map (·.1)).take i) ((ms.map (·.1)).drop i) (by rw [List.take_append_drop]; exact hs)).2 b hb).1
      generalize ((ms.map (·.1)).take i).foldl (best1 (ms.map (·.1)) (zf (plM ms)) g p.2.w rows) none = fo at step bmem ⊢
      have fin : ∀ (b : Bool) v4 H, b = decide (mayP (ms.map (·.1)) (zf (plM ms)) g p.2.w n rows = true ∧ better g fo n = true) →
          Led H ((y0, .lst ((ms.map (·.1)).map V.str)) :: (rl, .lst (rows.map .str)) :: pO CA p :: (PL CM CP s ds md pl ld ms g ++ R)) →
          D'.nx [some (.ref s), some (.ref p.2.a), some (.ref rl), some (if b = true then .str n else optV fo), v4] H := fun b v4 H hb hL => by
        refine hD'.nx _ _ (.mk ⟨v4, ?_, hL⟩)
        rw [step]
        unfold best1
        by_cases q : mayP (ms.map (·.1)) (zf (plM ms)) g p.2.w n rows = true ∧ better g fo n = true
        · rw [if_pos q, hb, decide_eq_true q]; rfl
        · rw [if_neg q, hb, decide_eq_false q]; rfl
      refine ⟨_, rfl, s, ds, _, rfl, hL1.at ⟨3, rfl⟩, fz_no (by decide +kernel), ?_⟩
      refine ⟨_, rfl, _, rfl, _, rfl, ?_⟩
      refine ⟨s, ds, md, pl, ld, rl, ms, g, p, n, rows, (y0, .lst ((ms.map (·.1)).map V.str)) :: R, rfl, by (refine Led.le hL (fun a_ => ?_); simp only [cnt_nil, cnt_cons, cnt_app, List.map_append, List.map_cons, List.map_nil, List.flatMap_append, List.flatMap_cons, List.flatMap_nil, List.append_assoc, List.cons_append, List.nil_append]; omega), hrw, hz, fun H hL => ?_⟩
      replace hL : Led H ((y0, .lst ((ms.map (·.1)).map V.str)) :: (rl, .lst (rows.map .str)) :: pO CA p :: (PL CM CP s ds md pl ld ms g ++ R)) := by (refine Led.le hL (fun a_ => ?_); simp only [cnt_nil, cnt_cons, cnt_app, List.map_append, List.map_cons, List.map_nil, List.flatMap_append, List.flatMap_cons, List.flatMap_nil, List.append_assoc, List.cons_append, List.nil_append]; omega)
      have hL1 := hL
      dsimp only [PL, List.cons_append] at hL1
      fail "v"
      by_cases q : mayP (ms.map (·.1)) (zf (plM ms)) g p.2.w n rows = true
      · rw [q] at fin ⊢
        have hL0 := hL
        replace hL := hL1
        cases fo with
        | none =>
          fail "go"
          exact fin true _ _ (by rfl) hL0
        | some b =>
          fail "go"
          have lkb := lf_val (g := g) (bmem b rfl)
          refine k_dgetS hL ⟨5, rfl⟩ lkb ?_
          fail "go"
          refine ite_d (fun hg => ?_) (fun hg => ?_)
          · fail "go"
            exact fin true _ _ (by show true = decide (true = true ∧ decide (g n > g b) = true); simp [hg]) hL0
          · fail "go"
            exact fin false _ _ (by show false = decide (true = true ∧ decide (g n > g b) = true); simp [hg]) hL0
      · rw [(Bool.not_eq_true _).mp q] at fin ⊢
        fail "go"
        exact fin false _ _ (by rfl) hL
    · clear hL
      obtain ⟨v4, rfl, hL⟩ := h.out
      clear h
      rw [List.length_map, List.take_length]
      fail "go"
      exact k _ hL.tail
end
end Sd


set_option linter.unusedVariables false
namespace Sd
open PySem L2
open PyProof.Rows (sortedS)
open C8 (Cal Met Mak pe_c pe_mk pe_mt pe_mt0 pss_cut tCut)
set_option linter.unusedSimpArgs false
set_option pp.deepTerms false
set_option pp.deepTerms.threshold 12
set_option hygiene false
local macro_rules | `(tactic| fail "nd") => `(tactic| first | assumption | decide +kernel)
local macro_rules | `(tactic| fail "ix") => `(tactic| first | exact ⟨0, rfl⟩ | exact ⟨1, rfl⟩ | exact ⟨2, rfl⟩ | exact ⟨3, rfl⟩ | exact ⟨4, rfl⟩ | exact ⟨5, rfl⟩ | exact ⟨6, rfl⟩ | exact ⟨7, rfl⟩ | exact ⟨8, rfl⟩ | exact ⟨9, rfl⟩ | exact ⟨10, rfl⟩ | exact ⟨11, rfl⟩ | exact ⟨12, rfl⟩ | exact ⟨13, rfl⟩ | exact ⟨14, rfl⟩ | exact ⟨15, rfl⟩ | exact ⟨16, rfl⟩ | exact ⟨17, rfl⟩ | exact ⟨18, rfl⟩ | assumption)
local macro_rules | `(tactic| fail "up") => `(tactic| first | exact ⟨0, rfl, rfl⟩ | exact ⟨1, rfl, rfl⟩ | exact ⟨2, rfl, rfl⟩ | exact ⟨3, rfl, rfl⟩ | exact ⟨4, rfl, rfl⟩ | exact ⟨5, rfl, rfl⟩ | exact ⟨6, rfl, rfl⟩ | exact ⟨7, rfl, rfl⟩ | exact ⟨8, rfl, rfl⟩ | exact ⟨9, rfl, rfl⟩ | exact ⟨10, rfl, rfl⟩ | exact ⟨11, rfl, rfl⟩ | exact ⟨12, rfl, rfl⟩ | exact ⟨13, rfl, rfl⟩ | exact ⟨14, rfl, rfl⟩ | exact ⟨15, rfl, rfl⟩ | exact ⟨16, rfl, rfl⟩ | assumption)
local macro_rules | `(tactic| fail "lkF") => `(tactic| first | assumption | exact fz_at 0 (by fail "nd") rfl rfl | exact fz_at 1 (by fail "nd") rfl rfl | exact fz_at 2 (by fail "nd") rfl rfl | exact fz_at 3 (by fail "nd") rfl rfl | exact fz_at 4 (by fail "nd") rfl rfl | exact fz_at 5 (by fail "nd") rfl rfl | exact fz_at 6 (by fail "nd") rfl rfl | exact fz_at 7 (by fail "nd") rfl rfl)
local macro_rules | `(tactic| fail "lkD") => `(tactic| first | assumption | exact dz_at 0 (by fail "nd") rfl rfl | exact dz_at 1 (by fail "nd") rfl rfl | exact dz_at 2 (by fail "nd") rfl rfl | exact dz_at 3 (by fail "nd") rfl rfl | exact dz_at 4 (by fail "nd") rfl rfl)
local macro_rules | `(tactic| fail "ptF") => `(tactic| first | assumption | exact fz_put 0 (by fail "nd") rfl (Nat.le_of_ble_eq_true rfl) | exact fz_put 1 (by fail "nd") rfl (Nat.le_of_ble_eq_true rfl) | exact fz_put 2 (by fail "nd") rfl (Nat.le_of_ble_eq_true rfl) | exact fz_put 3 (by fail "nd") rfl (Nat.le_of_ble_eq_true rfl) | exact fz_put 4 (by fail "nd") rfl (Nat.le_of_ble_eq_true rfl) | exact fz_put 5 (by fail "nd") rfl (Nat.le_of_ble_eq_true rfl) | exact fz_put 6 (by fail "nd") rfl (Nat.le_of_ble_eq_true rfl) | exact fz_put 7 (by fail "nd") rfl (Nat.le_of_ble_eq_true rfl) | exact fz_new (by decide +kernel) rfl)
local macro_rules | `(tactic| fail "ptD") => `(tactic| first | assumption | exact dz_put 0 (by fail "nd") rfl (Nat.le_of_ble_eq_true rfl) | exact dz_put 1 (by fail "nd") rfl (Nat.le_of_ble_eq_true rfl) | exact dz_put 2 (by fail "nd") rfl (Nat.le_of_ble_eq_true rfl) | exact dz_put 3 (by fail "nd") rfl (Nat.le_of_ble_eq_true rfl) | exact dz_put 4 (by fail "nd") rfl (Nat.le_of_ble_eq_true rfl))
local macro_rules | `(tactic| fail "sz") => `(tactic| first | assumption | exact (Nat.le_of_ble_eq_true rfl) | omega | decide)
local macro_rules | `(tactic| fail "sd") => `(tactic| first | rfl | assumption | decide | omega | (dsimp only; first | decide | omega) | exact .inr ⟨by decide, by decide⟩ | exact .inl ⟨by decide, by decide⟩ | exact ⟨by omega, by omega⟩ | exact .inl ⟨by omega, by omega⟩ | exact .inr ⟨by omega, by omega⟩ | exact ⟨by omega, by omega, by omega⟩)
local macro_rules | `(tactic| fail "cl") => `(tactic| (clear hH; dsimp only [List.set, List.cons_append, List.nil_append, List.append] at hL))
local macro_rules | `(tactic| fail "gn") => `(tactic| (intro p hp; generalize hH : upd H p _ = H; replace hL := Led.newH hL hp hH; clear hH hp))
local macro_rules | `(tactic| fail "gup") => `(tactic| (generalize hH : upd H _ _ = H; replace hL := Led.upU hL (by fail "up") hH; fail "cl"))
local macro_rules | `(tactic| fail "gmk") => `(tactic| (intro x dx hx hd ne; generalize hH : upd (upd H dx _) x _ = H; replace hL := Led.made hL hx hd ne hH; clear hH hx hd ne))
local macro_rules | `(tactic| fail "v") => `(tactic| refine ⟨_, rfl, ?_⟩)
local macro_rules | `(tactic| fail "i2") => `(tactic| refine ⟨_, _, rfl, rfl, ?_⟩)
local macro_rules | `(tactic| fail "go1") => `(tactic| first
  | refine ⟨_, rfl, ?_⟩
  | refine ⟨_, _, rfl, rfl, ?_⟩
  | refine ⟨_, _, rfl, ?_⟩
  | refine iteT ?_
  | refine iteF ?_
  | refine k_fld hL (by fail "ix") (by assumption) (by assumption) (by fail "lkF") ?_
  | refine k_dgetS hL (by fail "ix") (by fail "lkD") ?_
  | refine k_dgetI hL (by fail "ix") (by assumption) ?_
  | refine k_ixL hL (by fail "ix") (by first | rfl | assumption) ?_
  | refine k_ixT hL (by fail "ix") (by first | rfl | assumption) ?_
  | refine k_tyL hL (by fail "ix") ?_
  | refine k_isd hL (by fail "ix") ?_
  | (refine And.intro (by fail "sz") ?_; fail "gn")
  | refine And.intro (by fail "sd") ?_
  | fail "gn"
  | refine k_meth hL (by fail "ix") (by first | assumption | exact fz_no (by decide +kernel)) ?_
  | refine k_gtup hL (by fail "ix") rfl ?_
  | (refine k_popI hL (by fail "ix") (by assumption) ?_; fail "gup")
  | (refine k_listD hL (by fail "ix") ?_; fail "gn")
  | (refine ⟨_, _, _, _, rfl, rfl, hL.at (by fail "ix"), rfl, ?_⟩; fail "gup")
  | (refine ⟨_, _, _, rfl, rfl, hL.at (by fail "ix"), (by fail "sz"), ?_⟩; fail "gup")
  | (refine ⟨_, _, _, _, rfl, hL.at (by fail "ix"), by assumption, by assumption, Nat.lt_of_le_of_lt fz_len (by decide), ?_⟩; generalize hH : upd H _ _ = H; replace hL := Led.upF hL (by fail "up") (by fail "ptF") hH; fail "cl")
  | (refine ⟨_, _, hL.at (by fail "ix"), Nat.lt_of_le_of_lt fz_len (by decide), ?_⟩; generalize hH : upd H _ _ = H; replace hL := Led.upF hL (by fail "up") (by fail "ptF") hH; fail "cl")
  | (refine k_dputS hL (by fail "ix") (Nat.lt_of_le_of_lt dz_len (by decide)) (by fail "ptD") (by fail "up") ?_; clear hL; intro H hL; dsimp only [List.set, List.cons_append, List.nil_append, List.append] at hL)
  | refine k_lenL2 hL (by fail "ix") ?_
  | refine k_lenT2 hL (by fail "ix") ?_
  | refine .inl ⟨_, rfl, ?_⟩
  | refine .inr ⟨_, rfl, ?_⟩)
local macro_rules | `(tactic| fail "go") => `(tactic| repeat fail "go1")
local macro_rules | `(tactic| fail "pm") => `(tactic| (refine Led.le hL (fun a_ => ?_); simp only [cnt_nil, cnt_cons, cnt_app, List.map_append, List.map_cons, List.map_nil, List.flatMap_append, List.flatMap_cons, List.flatMap_nil, List.append_assoc, List.cons_append, List.nil_append]; omega))

def spStay (CM CA CP : Addr) : Sp := fun vs H Q _ => ∃ (s ds md pl ld nt : Addr) (ms : List MaE) (g : Gf) (p : PaE) (l : List Str) (R : Lg), vs = [.ref s, .ref p.2.a, .ref nt] ∧
  Led H ((nt, .tup (l.map .str)) :: pO CA p :: (PL CM CP s ds md pl ld ms g ++ R)) ∧ ms.length < 60 ∧ p.2.c ≤ 9 ∧
  ∀ (fl : Addr) (H' : Hp), Led H' ((fl, .lst ((stayP (ms.map (·.1)) (zf (plM ms)) p.2.w p.2.c g l).2.map .str)) :: (nt, .tup (l.map .str)) :: pO CA p :: (PL CM CP s ds md pl ld ms (stayP (ms.map (·.1)) (zf (plM ms)) p.2.w p.2.c g l).1 ++ R)) → Q (.ref fl) H'
theorem k_dput5 {H : Hp} {L L' : Lg} {a : Addr} {kvs kvs' : List (Key × V)} {v : V} {P : Hp → Prop} {x : Str} (hL : Led H L) (e : At L a (.dK kvs)) (hz : kvs.length < sizeLine) (ep : putK kvs (.inr x) v = kvs') (u : Upd L a (.dK kvs) (.dK kvs') L')
    (q : ∀ H1, Led H1 L' → P H1) : ∃ H5, DPut H a (.str x) v H5 ∧ P H5 :=
  ⟨_, DPut.k (k := .inr x) (hL.at e) hz, q _ (hL.upU (ep ▸ u) rfl)⟩
theorem lf_len {ms : List MaE} {g : Gf} (h : ms.length < 60) : (lfK (ms.map (·.1)) g).length < sizeLine := by
  unfold lfK; rw [List.length_map, List.length_map]; exact Nat.lt_trans h (by decide)
theorem stay_sub {ns : List Str} {z : Str → Str} {w c : Int} : ∀ (l : List Str) (s : Gf × List Str), (∀ n ∈ s.2, n ∈ ns) → ∀ n ∈ (l.foldl (stay1 ns z w c) s).2, n ∈ ns
  | [], s, h => h
  | x :: l, s, h => by
    refine stay_sub l _ ?_
    unfold stay1
    by_cases q : (s.2.length : Int) < c ∧ mayP ns z s.1 w x s.2 = true
    · rw [if_pos q]
      intro n hn
      rcases List.mem_append.mp hn with hn | hn
      · exact h n hn
      · rw [List.mem_singleton.mp hn]; exact (mayP_iff.mp q.2).1
    · rw [if_neg q]; exact h
section
variable {P : Program} {w : World} {K : PySem.W.Frag} {mg : Str → Option Value} {base : Heap} {CM CA CP CE : Addr}
theorem scStay : FnScope ["self", "part", "names", "found", "name"] ["self", "part", "names"] (defScope sStay) := ⟨rfl, rfl, rfl, by decide +kernel, rfl, by decide +kernel, by decide +kernel⟩
theorem ok_stay {f : Addr} {fd : FuncData} (F : Fun K "staying" "Planner.staying" sStay f fd) (X : TxtP K mg CM CA CP) (T : TxtF mg) (c_Planner_may_hold : Met P w K mg base 1 CP "may_hold" (spMay CM CA CP) []) : FnOk P w K mg base CX0 2 f fd ["self", "part", "names"] (spStay CM CA CP) := by
  refine F.ok scStay (fun vs H Q E h => ?_) (fun cdv A outer s0 H vs Q E hr h => ?_)
  · obtain ⟨s, ds, md, pl, ld, nt, ms, g, p, l, R, rfl, _⟩ := h
    rfl
  · obtain ⟨s, ds, md, pl, ld, nt, ms, g, ⟨pn, pd⟩, l, R, rfl, hL, hzm, hc9, k⟩ := h
    have c1 := X.clP
    have c2 := X.clA
    have f1 := X.nP "left" (by decide +kernel)
    have f2 := X.nA "copies" (by decide +kernel)
    have f3 := X.nA "weight" (by decide +kernel)
    refine ⟨_, (pss_cons (ps_set (i := 3) scStay.nd rfl (Or.inl rfl) (pe_lst pa_nil))
  (pss_cons (ps_for PassesOwn.never rfl (pi_tup (pv 2)) (pg_name (i := 4) scStay.nd rfl (Or.inl rfl))
  (pss_one (ps_if (PW.pt (pw_and (pt_cmpR op_lt (pe_callB call_len_seq (by rfl) T.len (by decide +kernel) (pa_cons (pv 3) pa_nil)) (pe_fld (pv 1) rfl) (nomark _)) (pw_and1 (pt_val (pe_mt c_Planner_may_hold hr (by decide) (pv 0) (pa_cons (pv 1) (pa_cons (pv 4) (pa_cons (pv 3) pa_nil))))))))
  (pss_cons (ps_daug (hu_of hr) (pe_fld (pv 0) rfl) (pv 4) (pe_fld (pv 1) rfl) in_sub (fun _ _ _ => rfl))
  (pss_one (ps_expr (pe_bm PySem.F.plainAttrs_list PySem.F.slot_list_append PySem.F.type_list_append mt_append (pv 3) (pa_cons (pv 4) pa_nil)))))
  pss_nil)))
  (pss_one (ps_ret (pv 3))))), ?_⟩
    dsimp only at hc9 k
    fail "go"
    refine ⟨⟨_, .of (hL.at ⟨1, rfl⟩)⟩, for_tupA (K := K) (a := nt) (xs := l.map V.str) (fun i σ H => Hold (∃ v4, σ = [some (.ref s), some (.ref pd.a), some (.ref nt), some (.ref p), v4] ∧ Led H ((p, .lst (((l.take i).foldl (stay1 (ms.map (·.1)) (zf (plM ms)) pd.w pd.c) (g, [])).2.map .str)) :: (nt, .tup (l.map .str)) :: pO CA (pn, pd) :: (PL CM CP s ds md pl ld ms ((l.take i).foldl (stay1 (ms.map (·.1)) (zf (plM ms)) pd.w pd.c) (g, [])).1 ++ R)))) (.mk ⟨_, rfl, hL⟩) (fun i σ H _ h => ?_) (fun i x σ H D' hi h hD' => ?_) (fun σ H h => ?_)⟩
    · obtain ⟨v4, rfl, hL⟩ := h.out
      exact .of (hL.at ⟨1, rfl⟩)
    · clear hL
      obtain ⟨v4, rfl, hL⟩ := h.out
      clear h
      rw [List.getElem?_map] at hi
      obtain ⟨n, hn, rfl⟩ := Option.map_eq_some_iff.mp hi
      have step : (l.take (i + 1)).foldl (stay1 (ms.map (·.1)) (zf (plM ms)) pd.w pd.c) (g, []) = stay1 (ms.map (·.1)) (zf (plM ms)) pd.w pd.c ((l.take i).foldl (stay1 (ms.map (·.1)) (zf (plM ms)) pd.w pd.c) (g, [])) n := by
        rw [List.take_add_one, hn, Option.toList_some, List.foldl_append]; rfl
      have sub := stay_sub (ns := ms.map (·.1)) (z := zf (plM ms)) (w := pd.w) (c := pd.c) (l.take i) (g, []) (fun _ h => (nomatch h))
      generalize (l.take i).foldl (stay1 (ms.map (·.1)) (zf (plM ms)) pd.w pd.c) (g, []) = gs at step sub hL
      obtain ⟨g1, rows⟩ := gs
      dsimp only at sub hL
      have fin : ∀ (b : Bool) v4 H, b = decide ((rows.length : Int) < pd.c ∧ mayP (ms.map (·.1)) (zf (plM ms)) g1 pd.w n rows = true) →
          Led H ((p, .lst ((if b = true then rows ++ [n] else rows).map .str)) :: (nt, .tup (l.map .str)) :: pO CA (pn, pd) :: (PL CM CP s ds md pl ld ms (if b = true then subG g1 n pd.w else g1) ++ R)) →
          D'.nx [some (.ref s), some (.ref pd.a), some (.ref nt), some (.ref p), v4] H := fun b v4 H hb hL => by
        refine hD'.nx _ _ (.mk ⟨v4, rfl, ?_⟩)
        rw [step]
        unfold stay1
        dsimp only
        by_cases q : (rows.length : Int) < pd.c ∧ mayP (ms.map (·.1)) (zf (plM ms)) g1 pd.w n rows = true
        · rw [if_pos q]
          rw [hb, decide_eq_true q] at hL
          exact hL
        · rw [if_neg q]
          rw [hb, decide_eq_false q] at hL
          exact hL
      have hL0 := hL
      dsimp only [PL, pO, List.cons_append] at hL
      fail "go"
      refine ite_d (fun hl => ?_) (fun hl => ?_)
      · rw [List.length_map] at hl
        refine ⟨_, rfl, s, ds, _, rfl, hL.at ⟨3, rfl⟩, fz_no (by decide +kernel), ?_⟩
        refine ⟨_, rfl, _, rfl, _, rfl, ?_⟩
        refine ⟨s, ds, md, pl, ld, p, ms, g1, (pn, pd), n, rows, (nt, .tup (l.map .str)) :: R, rfl, by unfold PL; (refine Led.le hL (fun a_ => ?_); simp only [cnt_nil, cnt_cons, cnt_app, List.map_append, List.map_cons, List.map_nil, List.flatMap_append, List.flatMap_cons, List.flatMap_nil, List.append_assoc, List.cons_append, List.nil_append, pO]; omega), sub, by omega, fun H hL => ?_⟩
        replace hL : Led H ((p, .lst (rows.map .str)) :: (nt, .tup (l.map .str)) :: pO CA (pn, pd) :: (PL CM CP s ds md pl ld ms g1 ++ R)) := by (refine Led.le hL (fun a_ => ?_); simp only [cnt_nil, cnt_cons, cnt_app, List.map_append, List.map_cons, List.map_nil, List.flatMap_append, List.flatMap_cons, List.flatMap_nil, List.append_assoc, List.cons_append, List.nil_append]; omega)
        fail "v"
        by_cases q : mayP (ms.map (·.1)) (zf (plM ms)) g1 pd.w n rows = true
        · have hnm := (mayP_iff.mp q).1
          have lk := lf_val (g := g1) hnm
          dsimp only [PL, pO, List.cons_append] at hL
          dsimp only
          rw [q]
          fail "go"
          refine k_dput5 hL (by fail "ix") (lf_len hzm) (lf_put hnm) (by fail "up") fun H hL => ?_
          dsimp only [List.set, List.cons_append, List.nil_append, List.append] at hL
          fail "go"
          refine ⟨_, _, _, rfl, rfl, hL.at ⟨0, rfl⟩, by rw [List.length_map]; exact Nat.lt_trans (show rows.length < 60 by omega) (by decide), ?_⟩
          fail "gup"
          refine fin true _ _ (by simp [hl, q]) ?_
          rw [if_pos rfl, if_pos rfl, List.map_append]
          exact hL
        · dsimp only
          rw [(Bool.not_eq_true _).mp q]
          fail "go"
          exact fin false _ _ (by simp [q]) hL
      · rw [List.length_map] at hl
        fail "go"
        exact fin false _ _ (by simp [hl]) hL0
    · clear hL
      obtain ⟨v4, rfl, hL⟩ := h.out
      clear h
      rw [List.length_map, List.take_length] at hL
      fail "go"
      exact k _ _ hL
end
end Sd


set_option linter.unusedVariables false
namespace Sd
open PySem L2
open PyProof.Rows (sortedS)
open C8 (Cal Met Mak pe_c pe_mk pe_mt pe_mt0 pss_cut tCut)
set_option linter.unusedSimpArgs false
set_option pp.deepTerms false
set_option pp.deepTerms.threshold 12
set_option hygiene false
local macro_rules | `(tactic| fail "nd") => `(tactic| first | assumption | decide +kernel)
local macro_rules | `(tactic| fail "ix") => `(tactic| first | exact ⟨0, rfl⟩ | exact ⟨1, rfl⟩ | exact ⟨2, rfl⟩ | exact ⟨3, rfl⟩ | exact ⟨4, rfl⟩ | exact ⟨5, rfl⟩ | exact ⟨6, rfl⟩ | exact ⟨7, rfl⟩ | exact ⟨8, rfl⟩ | exact ⟨9, rfl⟩ | exact ⟨10, rfl⟩ | exact ⟨11, rfl⟩ | exact ⟨12, rfl⟩ | exact ⟨13, rfl⟩ | exact ⟨14, rfl⟩ | exact ⟨15, rfl⟩ | exact ⟨16, rfl⟩ | exact ⟨17, rfl⟩ | exact ⟨18, rfl⟩ | assumption)
local macro_rules | `(tactic| fail "up") => `(tactic| first | exact ⟨0, rfl, rfl⟩ | exact ⟨1, rfl, rfl⟩ | exact ⟨2, rfl, rfl⟩ | exact ⟨3, rfl, rfl⟩ | exact ⟨4, rfl, rfl⟩ | exact ⟨5, rfl, rfl⟩ | exact ⟨6, rfl, rfl⟩ | exact ⟨7, rfl, rfl⟩ | exact ⟨8, rfl, rfl⟩ | exact ⟨9, rfl, rfl⟩ | exact ⟨10, rfl, rfl⟩ | exact ⟨11, rfl, rfl⟩ | exact ⟨12, rfl, rfl⟩ | exact ⟨13, rfl, rfl⟩ | exact ⟨14, rfl, rfl⟩ | exact ⟨15, rfl, rfl⟩ | exact ⟨16, rfl, rfl⟩ | assumption)
local macro_rules | `(tactic| fail "lkF") => `(tactic| first | assumption | exact fz_at 0 (by fail "nd") rfl rfl | exact fz_at 1 (by fail "nd") rfl rfl | exact fz_at 2 (by fail "nd") rfl rfl | exact fz_at 3 (by fail "nd") rfl rfl | exact fz_at 4 (by fail "nd") rfl rfl | exact fz_at 5 (by fail "nd") rfl rfl | exact fz_at 6 (by fail "nd") rfl rfl | exact fz_at 7 (by fail "nd") rfl rfl)
local macro_rules | `(tactic| fail "lkD") => `(tactic| first | assumption | exact dz_at 0 (by fail "nd") rfl rfl | exact dz_at 1 (by fail "nd") rfl rfl | exact dz_at 2 (by fail "nd") rfl rfl | exact dz_at 3 (by fail "nd") rfl rfl | exact dz_at 4 (by fail "nd") rfl rfl)
local macro_rules | `(tactic| fail "ptF") => `(tactic| first | assumption | exact fz_put 0 (by fail "nd") rfl (Nat.le_of_ble_eq_true rfl) | exact fz_put 1 (by fail "nd") rfl (Nat.le_of_ble_eq_true rfl) | exact fz_put 2 (by fail "nd") rfl (Nat.le_of_ble_eq_true rfl) | exact fz_put 3 (by fail "nd") rfl (Nat.le_of_ble_eq_true rfl) | exact fz_put 4 (by fail "nd") rfl (Nat.le_of_ble_eq_true rfl) | exact fz_put 5 (by fail "nd") rfl (Nat.le_of_ble_eq_true rfl) | exact fz_put 6 (by fail "nd") rfl (Nat.le_of_ble_eq_true rfl) | exact fz_put 7 (by fail "nd") rfl (Nat.le_of_ble_eq_true rfl) | exact fz_new (by decide +kernel) rfl)
local macro_rules | `(tactic| fail "ptD") => `(tactic| first | assumption | exact dz_put 0 (by fail "nd") rfl (Nat.le_of_ble_eq_true rfl) | exact dz_put 1 (by fail "nd") rfl (Nat.le_of_ble_eq_true rfl) | exact dz_put 2 (by fail "nd") rfl (Nat.le_of_ble_eq_true rfl) | exact dz_put 3 (by fail "nd") rfl (Nat.le_of_ble_eq_true rfl) | exact dz_put 4 (by fail "nd") rfl (Nat.le_of_ble_eq_true rfl))
local macro_rules | `(tactic| fail "sz") => `(tactic| first | assumption | exact (Nat.le_of_ble_eq_true rfl) | omega | decide)
local macro_rules | `(tactic| fail "sd") => `(tactic| first | rfl | assumption | decide | omega | (dsimp only; first | decide | omega) | exact .inr ⟨by decide, by decide⟩ | exact .inl ⟨by decide, by decide⟩ | exact ⟨by omega, by omega⟩ | exact .inl ⟨by omega, by omega⟩ | exact .inr ⟨by omega, by omega⟩ | exact ⟨by omega, by omega, by omega⟩)
local macro_rules | `(tactic| fail "cl") => `(tactic| (clear hH; dsimp only [List.set, List.cons_append, List.nil_append, List.append] at hL))
local macro_rules | `(tactic| fail "gn") => `(tactic| (intro p hp; generalize hH : upd H p _ = H; replace hL := Led.newH hL hp hH; clear hH hp))
local macro_rules | `(tactic| fail "gup") => `(tactic| (generalize hH : upd H _ _ = H; replace hL := Led.upU hL (by fail "up") hH; fail "cl"))
local macro_rules | `(tactic| fail "gmk") => `(tactic| (intro x dx hx hd ne; generalize hH : upd (upd H dx _) x _ = H; replace hL := Led.made hL hx hd ne hH; clear hH hx hd ne))
local macro_rules | `(tactic| fail "v") => `(tactic| refine ⟨_, rfl, ?_⟩)
local macro_rules | `(tactic| fail "i2") => `(tactic| refine ⟨_, _, rfl, rfl, ?_⟩)
local macro_rules | `(tactic| fail "go1") => `(tactic| first
  | refine ⟨_, rfl, ?_⟩
  | refine ⟨_, _, rfl, rfl, ?_⟩
  | refine ⟨_, _, rfl, ?_⟩
  | refine iteT ?_
  | refine iteF ?_
  | refine k_fld hL (by fail "ix") (by assumption) (by assumption) (by fail "lkF") ?_
  | refine k_dgetS hL (by fail "ix") (by fail "lkD") ?_
  | refine k_dgetI hL (by fail "ix") (by assumption) ?_
  | refine k_ixL hL (by fail "ix") (by first | rfl | assumption) ?_
  | refine k_ixT hL (by fail "ix") (by first | rfl | assumption) ?_
  | refine k_tyL hL (by fail "ix") ?_
  | refine k_isd hL (by fail "ix") ?_
  | (refine And.intro (by fail "sz") ?_; fail "gn")
  | refine And.intro (by fail "sd") ?_
  | fail "gn"
  | refine k_meth hL (by fail "ix") (by first | assumption | exact fz_no (by decide +kernel)) ?_
  | refine k_gtup hL (by fail "ix") rfl ?_
  | (refine k_popI hL (by fail "ix") (by assumption) ?_; fail "gup")
  | (refine k_listD hL (by fail "ix") ?_; fail "gn")
  | (refine ⟨_, _, _, _, rfl, rfl, hL.at (by fail "ix"), rfl, ?_⟩; fail "gup")
  | (refine ⟨_, _, _, rfl, rfl, hL.at (by fail "ix"), (by fail "sz"), ?_⟩; fail "gup")
  | (refine ⟨_, _, _, _, rfl, hL.at (by fail "ix"), by assumption, by assumption, Nat.lt_of_le_of_lt fz_len (by decide), ?_⟩; generalize hH : upd H _ _ = H; replace hL := Led.upF hL (by fail "up") (by fail "ptF") hH; fail "cl")
  | (refine ⟨_, _, hL.at (by fail "ix"), Nat.lt_of_le_of_lt fz_len (by decide), ?_⟩; generalize hH : upd H _ _ = H; replace hL := Led.upF hL (by fail "up") (by fail "ptF") hH; fail "cl")
  | (refine k_dputS hL (by fail "ix") (Nat.lt_of_le_of_lt dz_len (by decide)) (by fail "ptD") (by fail "up") ?_; clear hL; intro H hL; dsimp only [List.set, List.cons_append, List.nil_append, List.append] at hL)
  | refine k_lenL2 hL (by fail "ix") ?_
  | refine k_lenT2 hL (by fail "ix") ?_
  | refine .inl ⟨_, rfl, ?_⟩
  | refine .inr ⟨_, rfl, ?_⟩)
local macro_rules | `(tactic| fail "go") => `(tactic| repeat fail "go1")
local macro_rules | `(tactic| fail "pm") => `(tactic| (refine Led.le hL (fun a_ => ?_); simp only [cnt_nil, cnt_cons, cnt_app, List.map_append, List.map_cons, List.map_nil, List.flatMap_append, List.flatMap_cons, List.flatMap_nil, List.append_assoc, List.cons_append, List.nil_append]; omega))

def dputL {α : Type} (l : List (Str × α)) : List (Str × α) := l.foldl (fun acc e => aput acc e.1 e.2) []
theorem dput_snoc {α : Type} {l : List (Str × α)} {e : Str × α} : dputL (l ++ [e]) = aput (dputL l) e.1 e.2 := by unfold dputL; rw [List.foldl_append]; rfl
theorem dput_nd {α : Type} {l : List (Str × α)} : ((dputL l).map (·.1)).Nodup := by
  induction l using snoc_ind with
  | h0 => exact List.nodup_nil
  | hs l e ih => rw [dput_snoc]; exact aput_nd ih
theorem dput_le {α : Type} {l : List (Str × α)} : (dputL l).length ≤ l.length ∧ ((dputL l).length = l.length → (l.map (·.1)).Nodup ∧ dputL l = l) := by
  induction l using snoc_ind with
  | h0 => exact ⟨Nat.le_refl _, fun _ => ⟨List.nodup_nil, rfl⟩⟩
  | hs l e ih =>
    obtain ⟨h1, h2⟩ := ih
    rw [dput_snoc, List.length_append, List.length_singleton]
    by_cases q : e.1 ∈ (dputL l).map (·.1)
    · have := congrArg List.length (aput_names_in (v := e.2) q)
      rw [List.length_map, List.length_map] at this
      rw [this]
      exact ⟨by omega, fun h => by omega⟩
    · rw [aput_names_out q, List.length_append, List.length_singleton]
      refine ⟨by omega, fun h => ?_⟩
      obtain ⟨i1, i2⟩ := h2 (by omega)
      rw [i2] at q ⊢
      refine ⟨?_, rfl⟩
      rw [List.map_append]
      exact List.nodup_append.mpr ⟨i1, by simp, fun a ha b hb => by
        rw [List.map_cons, List.map_nil, List.mem_singleton] at hb
        rw [hb]
        exact fun z => q (z ▸ ha)⟩
theorem dput_of {α : Type} {l : List (Str × α)} : (l.map (·.1)).Nodup → dputL l = l := by
  induction l using snoc_ind with
  | h0 => intro _; rfl
  | hs l e ih =>
    intro h
    rw [List.map_append] at h
    obtain ⟨n1, _, n3⟩ := List.nodup_append.mp h
    rw [dput_snoc, ih n1, aput_names_out]
    exact fun m => n3 _ m _ (by simp) rfl
theorem dput_lt {α : Type} {l : List (Str × α)} (h : ¬ (l.map (·.1)).Nodup) : (dputL l).length < l.length := by
  obtain ⟨h1, h2⟩ := dput_le (l := l)
  rcases Nat.lt_or_ge (dputL l).length l.length with q | q
  · exact q
  · exact absurd (h2 (by omega)).1 h
section
variable {K : PySem.W.Frag}
/-- {one.name: value for one in a}: the ledger's objects told by f -/
theorem dc_nm {α : Type} {a D : Addr} {es : List (Str × α)} {rf : Str × α → V} {vo : Str × α → V} {j : Nat} {tk tv : L2.TE} {σ : L2.St} {H1 : Hp} {L : Lg} {Qd : Hp → Prop} (hL : Led H1 L) (hD : H1 D = none) (ha : At L a (.lst (es.map rf))) (hz : es.length < 60)
    (hs : ∀ e ∈ es, ∀ H L1, Led H (L1 :: L) → gName j (rf e) (wipe σ [j]) H fun σ2 H2 => wipe σ2 [j] = wipe σ [j] ∧ H2 = H ∧ (∀ Q : VK, Q (.str e.1) H → tk σ2 H Q) ∧ ∀ Q : VK, Q (vo e) H → tv σ2 H Q)
    (hd : ∀ H, Led H ((D, .dK ((dputL es).map (kk vo))) :: L) → Qd H) :
    ∃ W : Nat → Nat → Hp → Prop, (∃ m, W 0 m (L2.upd H1 D (.dK []))) ∧ ∀ i m H, W i m H →
      ((Itl K a).stop i H ∧ Qd H) ∨ ((Itl K a).go i H ∧ ∃ Nx : Hp → Prop, (∀ H', Nx H' → ∃ m', m' < m ∧ W (i + 1) m' H') ∧ ∀ x H', (Itl K a).yld i H x H' → gName j x (wipe σ [j]) H' fun σ2 H2 => wipe σ2 [j] = wipe σ [j] ∧ tYes σ2 H2 fun b H3 =>
        if b = true then tk σ2 H3 fun y H4 => tv σ2 H4 fun z H5 => ∃ kvs k, y = kV k ∧ H5 D = some (.dK kvs) ∧ kvs.length < sizeLine ∧ Nx (L2.upd H5 D (.dK (putK kvs k z))) else Nx H3) := by
  obtain ⟨ia, hia⟩ := ha
  refine dc_it (walk_list (K := K) (a := a) (xs := es.map rf)) (fun i H => Hold (Led H ((D, .dK ((dputL (es.take i)).map (kk vo))) :: L))) (.mk (hL.new hD)) (fun i H _ h => .of (h.out.at ⟨ia + 1, hia⟩)) (fun i x H H' hi h hy => ?_) (fun H h => ?_)
  · obtain ⟨rfl, hx⟩ := hy
    rw [List.getElem?_map] at hx
    obtain ⟨e, he, rfl⟩ := Option.map_eq_some_iff.mp hx
    have hL1 := h.out
    clear h
    have hm := List.mem_of_getElem? he
    have q := hs e hm _ _ hL1
    obtain ⟨q1, _, q2, q3⟩ := q
    refine ⟨q1, k_yes ?_⟩
    refine q2 _ (q3 _ ?_)
    refine ⟨_, .inr e.1, rfl, hL1.at ⟨0, rfl⟩, ?_, .mk ?_⟩
    · rw [List.length_map]
      have h1 := (dput_le (l := es.take i)).1
      rw [List.length_take] at h1
      exact Nat.lt_trans (show (dputL (es.take i)).length < 60 by omega) (by decide)
    · rw [List.take_add_one, he, Option.toList_some, dput_snoc]
      have e2 : putK ((dputL (es.take i)).map (kk vo)) (Sum.inr e.1) (vo e) = (aput (dputL (es.take i)) e.1 e.2).map (kk vo) := kk_put (v := e.2) dput_nd
      rw [e2]
      exact hL1.upU (o' := .dK ((aput (dputL (es.take i)) e.1 e.2).map (kk vo))) ⟨0, rfl, rfl⟩ rfl
  · refine hd H ?_
    have := h.out
    rw [List.length_map, List.take_length] at this
    exact this
end
def rmV (e : MaE) : V := .int e.2.r
def trV (e : PaE) : V := .bl true
theorem rm_lf {ms : List MaE} (nd : (ms.map (·.1)).Nodup) : ms.map (kk rmV) = lfK (ms.map (·.1)) (rf (plM ms)) := by
  unfold lfK
  rw [List.map_map]
  refine List.map_congr_left fun e he => ?_
  show (Sum.inr e.1, V.int e.2.r) = (Sum.inr e.1, V.int (rf (plM ms) e.1))
  rw [rf_of (mem_aget nd (k := e.1) (v := e.2) he)]
def spPInit (CM CA CP : Addr) : Sp := fun vs H Q _ => ∃ (x dx ml al : Addr) (ms : List MaE) (ps : List PaE) (R : Lg), vs = [.ref x, .ref ml, .ref al] ∧
  Led H ((x, .ins CP dx (fz [] [])) :: (ml, .lst (ms.map mV)) :: (al, .lst (ps.map pV)) :: (ms.map (mO CM) ++ (ps.map (pO CA) ++ R))) ∧ (ms.map (·.1)).Nodup ∧ (ps.map (·.1)).Nodup ∧ ms.length < 60 ∧ ps.length < 60 ∧
  ∀ (md pl ld : Addr) (H' : Hp), Led H' ((pl, .lst (ps.map pV)) :: (PL CM CP x dx md pl ld ms (rf (plM ms)) ++ (ps.map (pO CA) ++ R))) → Q .non H'
def spPInitX (CM CA CP CE : Addr) : Sp := fun vs H _ E => ∃ (x dx ml al : Addr) (ms : List MaE) (ps : List PaE) (R : Lg), vs = [.ref x, .ref ml, .ref al] ∧
  Led H ((x, .ins CP dx (fz [] [])) :: (ml, .lst (ms.map mV)) :: (al, .lst (ps.map pV)) :: (ms.map (mO CM) ++ (ps.map (pO CA) ++ R))) ∧ ms.length < 60 ∧ ps.length < 60 ∧ (¬ (ms.map (·.1)).Nodup ∨ ¬ (ps.map (·.1)).Nodup) ∧ ∀ H', Led H' R → E (.ref CE) none H'
section
variable {P : Program} {w : World} {K : PySem.W.Frag} {mg : Str → Option Value} {base : Heap} {CM CA CP CE : Addr}
theorem scPInit : FnScope ["self", "machines", "parts", "one"] ["self", "machines", "parts"] (defScope sPInit) := ⟨rfl, rfl, rfl, by decide +kernel, rfl, by decide +kernel, by decide +kernel⟩
theorem ok_PInit {f : Addr} {fd : FuncData} (F : Fun K "__init__" "Planner.__init__" sPInit f fd) (X : TxtP K mg CM CA CP) (T : TxtF mg) : FnOk P w K mg base CX0 1 f fd ["self", "machines", "parts"] (spPInit CM CA CP) := by
  refine F.ok scPInit (fun vs H Q E h => ?_) (fun cdv A outer s0 H vs Q E hr h => ?_)
  · obtain ⟨x, dx, ml, al, ms, ps, R, rfl, _⟩ := h
    rfl
  · obtain ⟨x, dx, ml, al, ms, ps, R, rfl, hL, nm, np, zm, zp, k⟩ := h
    have c1 := X.clP
    have c2 := X.clM
    have c3 := X.clA
    have f1 := X.nP "machines" (by decide +kernel)
    have f2 := X.nP "parts" (by decide +kernel)
    have f3 := X.nP "left" (by decide +kernel)
    have f4 := X.nM "name" (by decide +kernel)
    have f5 := X.nM "room" (by decide +kernel)
    have f6 := X.nA "name" (by decide +kernel)
    refine ⟨_, (pss_cons (ps_fld (pv 0) (pe_dc (own := [("one", 3)]) (g := gName 3) (by rfl) scPInit.nd (pi_list (pv 1)) (blkOk_by (own := [("one", 3)]) (N := ["self", "machines", "parts", "one"]) (sc := (defScope sPInit)) (by decide +kernel)) (fun _ _ _ _ _ => (pg_name (i := 3) scPInit.nd rfl (Or.inl rfl))) (fun _ _ _ _ _ => pts_nil) (fun _ _ _ _ _ => (pe_fldB (pv 3) rfl)) (fun _ _ _ _ _ => (pv 3))) rfl)
  (pss_cons (ps_if (PW.pt (pw_or (pt_cmpR op_ne (pe_callB call_lenD (by rfl) T.len (by decide +kernel) (pa_cons (pe_fld (pv 0) rfl) pa_nil)) (pe_callB call_len_seq (by rfl) T.len (by decide +kernel) (pa_cons (pv 1) pa_nil)) (nomark _)) (pw_or1 (pt_cmpR op_ne (pe_callB call_lenD (by rfl) T.len (by decide +kernel) (pa_cons (pe_dc (own := [("one", 3)]) (g := gName 3) (by rfl) scPInit.nd (pi_list (pv 2)) (blkOk_by (own := [("one", 3)]) (N := ["self", "machines", "parts", "one"]) (sc := (defScope sPInit)) (by decide +kernel)) (fun _ _ _ _ _ => (pg_name (i := 3) scPInit.nd rfl (Or.inl rfl))) (fun _ _ _ _ _ => pts_nil) (fun _ _ _ _ _ => (pe_fldB (pv 3) rfl)) (fun _ _ _ _ _ => pe_bl)) pa_nil)) (pe_callB call_len_seq (by rfl) T.len (by decide +kernel) (pa_cons (pv 2) pa_nil)) (nomark _)))))
  pss_never
  pss_nil)
  (pss_cons (ps_fld (pv 0) (pe_callTy call_list_of (by rfl) T.list (by decide +kernel) (pa_cons (pv 2) pa_nil)) rfl)
  (pss_one (ps_fld (pv 0) (pe_dc (own := [("one", 3)]) (g := gName 3) (by rfl) scPInit.nd (pi_list (pv 1)) (blkOk_by (own := [("one", 3)]) (N := ["self", "machines", "parts", "one"]) (sc := (defScope sPInit)) (by decide +kernel)) (fun _ _ _ _ _ => (pg_name (i := 3) scPInit.nd rfl (Or.inl rfl))) (fun _ _ _ _ _ => pts_nil) (fun _ _ _ _ _ => (pe_fldB (pv 3) rfl)) (fun _ _ _ _ _ => (pe_fldB (pv 3) rfl))) rfl))))), ?_⟩
    have mm : ∀ e ∈ ms, mO CM e ∈ ms.map (mO CM) ++ (ps.map (pO CA) ++ R) := fun e he => List.mem_append_left _ (List.mem_map.mpr ⟨e, he, rfl⟩)
    have mp : ∀ e ∈ ps, pO CA e ∈ ms.map (mO CM) ++ (ps.map (pO CA) ++ R) := fun e he => List.mem_append_right _ (List.mem_append_left _ (List.mem_map.mpr ⟨e, he, rfl⟩))
    fail "go"
    refine ⟨⟨_, .of (hL.at ⟨1, rfl⟩)⟩, fun D1 hD1 => dc_nm (rf := mV) (vo := mV) hL hD1 ⟨1, rfl⟩ zm (fun e he H L1 hL => ?_) (fun H hL => ?_)⟩
    · refine ⟨rfl, rfl, fun Q q => ?_, fun Q q => ⟨_, rfl, q⟩⟩
      refine ⟨_, rfl, k_fld hL (at_mem (.tail _ (.tail _ (.tail _ (.tail _ (mm e he)))))) c2 f4 (by fail "lkF") q⟩
    · rw [dput_of nm] at hL
      fail "go"
      refine ⟨D1, _, rfl, hL.at ⟨0, rfl⟩, ?_⟩
      fail "go"
      refine ite_n (fun z => absurd (by rw [List.length_map, List.length_map]) z) (fun _ => ?_)
      fail "go"
      refine ⟨⟨_, .of (hL.at ⟨3, rfl⟩)⟩, fun D2 hD2 => dc_nm (rf := pV) (vo := trV) hL hD2 ⟨3, rfl⟩ zp (fun e he H L1 hL => ?_) (fun H hL => ?_)⟩
      · refine ⟨rfl, rfl, fun Q q => ?_, fun Q q => q⟩
        refine ⟨_, rfl, k_fld hL (at_mem (.tail _ (.tail _ (.tail _ (.tail _ (.tail _ (mp e he))))))) c3 f6 (by fail "lkF") q⟩
      · rw [dput_of np] at hL
        fail "go"
        refine ⟨D2, _, rfl, hL.at ⟨0, rfl⟩, ?_⟩
        fail "go"
        refine ite_n (fun z => absurd (by rw [List.length_map, List.length_map]) z) (fun _ => ?_)
        fail "go"
        refine ⟨⟨_, .of (hL.at ⟨4, rfl⟩)⟩, fun D3 hD3 => dc_nm (rf := mV) (vo := rmV) hL hD3 ⟨4, rfl⟩ zm (fun e he H L1 hL => ?_) (fun H hL => ?_)⟩
        · refine ⟨rfl, rfl, fun Q q => ?_, fun Q q => ?_⟩
          · refine ⟨_, rfl, k_fld hL (at_mem (.tail _ (.tail _ (.tail _ (.tail _ (.tail _ (.tail _ (.tail _ (mm e he))))))))) c2 f4 (by fail "lkF") q⟩
          · refine ⟨_, rfl, k_fld hL (at_mem (.tail _ (.tail _ (.tail _ (.tail _ (.tail _ (.tail _ (.tail _ (mm e he))))))))) c2 f5 (by fail "lkF") q⟩
        · rw [dput_of nm, rm_lf nm] at hL
          fail "go"
          refine k D1 p D3 _ ?_
          unfold PL nmP
          (refine Led.le hL (fun a_ => ?_); simp only [cnt_nil, cnt_cons, cnt_app, List.map_append, List.map_cons, List.map_nil, List.flatMap_append, List.flatMap_cons, List.flatMap_nil, List.append_assoc, List.cons_append, List.nil_append]; omega)
theorem ok_PInitX {f : Addr} {fd : FuncData} (F : Fun K "__init__" "Planner.__init__" sPInit f fd) (X : TxtP K mg CM CA CP) (T : TxtF mg) (TE : ExcT K mg "PlaceError" CE) : FnOk P w K mg base (L2.CX P w) 1 f fd ["self", "machines", "parts"] (spPInitX CM CA CP CE) := by
  refine F.okX scPInit (fun vs H Q E h => ?_) (fun cdv A outer s0 H vs Q E hr h => ?_)
  · obtain ⟨x, dx, ml, al, ms, ps, R, rfl, _⟩ := h
    rfl
  · obtain ⟨x, dx, ml, al, ms, ps, R, rfl, hL, zm, zp, hn, k⟩ := h
    have c1 := X.clP
    have c2 := X.clM
    have c3 := X.clA
    have f1 := X.nP "machines" (by decide +kernel)
    have f4 := X.nM "name" (by decide +kernel)
    have f6 := X.nA "name" (by decide +kernel)
    refine ⟨_, pss_cons (ps_fld (pv 0) (pe_dc (own := [("one", 3)]) (g := gName 3) (by rfl) scPInit.nd (pi_list (pv 1)) (blkOk_by (own := [("one", 3)]) (N := ["self", "machines", "parts", "one"]) (sc := (defScope sPInit)) (by decide +kernel)) (fun _ _ _ _ _ => (pg_name (i := 3) scPInit.nd rfl (Or.inl rfl))) (fun _ _ _ _ _ => pts_nil) (fun _ _ _ _ _ => (pe_fldB (pv 3) rfl)) (fun _ _ _ _ _ => (pv 3))) rfl)
      (pss_cons (ps_if (PW.pt (pw_or (pt_cmpR op_ne (pe_callB call_lenD (by rfl) T.len (by decide +kernel) (pa_cons (pe_fld (pv 0) rfl) pa_nil)) (pe_callB call_len_seq (by rfl) T.len (by decide +kernel) (pa_cons (pv 1) pa_nil)) (nomark _)) (pw_or1 (pt_cmpR op_ne (pe_callB call_lenD (by rfl) T.len (by decide +kernel) (pa_cons (pe_dc (own := [("one", 3)]) (g := gName 3) (by rfl) scPInit.nd (pi_list (pv 2)) (blkOk_by (own := [("one", 3)]) (N := ["self", "machines", "parts", "one"]) (sc := (defScope sPInit)) (by decide +kernel)) (fun _ _ _ _ _ => (pg_name (i := 3) scPInit.nd rfl (Or.inl rfl))) (fun _ _ _ _ _ => pts_nil) (fun _ _ _ _ _ => (pe_fldB (pv 3) rfl)) (fun _ _ _ _ _ => pe_bl)) pa_nil)) (pe_callB call_len_seq (by rfl) T.len (by decide +kernel) (pa_cons (pv 2) pa_nil)) (nomark _)))))
        (pss_one (ps_raiseT TE rfl (takes_of rfl rfl rfl (E := E) rfl) rfl)) pss_nil) pss_never), ?_⟩
    have mm : ∀ e ∈ ms, mO CM e ∈ ms.map (mO CM) ++ (ps.map (pO CA) ++ R) := fun e he => List.mem_append_left _ (List.mem_map.mpr ⟨e, he, rfl⟩)
    have mp : ∀ e ∈ ps, pO CA e ∈ ms.map (mO CM) ++ (ps.map (pO CA) ++ R) := fun e he => List.mem_append_right _ (List.mem_append_left _ (List.mem_map.mpr ⟨e, he, rfl⟩))
    fail "go"
    refine ⟨⟨_, .of (hL.at ⟨1, rfl⟩)⟩, fun D1 hD1 => dc_nm (rf := mV) (vo := mV) hL hD1 ⟨1, rfl⟩ zm (fun e he H L1 hL => ?_) (fun H hL => ?_)⟩
    · refine ⟨rfl, rfl, fun Q q => ?_, fun Q q => ⟨_, rfl, q⟩⟩
      refine ⟨_, rfl, k_fld hL (at_mem (.tail _ (.tail _ (.tail _ (.tail _ (mm e he)))))) c2 f4 (by fail "lkF") q⟩
    · fail "go"
      refine ⟨D1, _, rfl, hL.at ⟨0, rfl⟩, ?_⟩
      fail "go"
      by_cases nm : (ms.map (·.1)).Nodup
      · rw [dput_of nm] at hL ⊢
        have np := hn.resolve_left fun z => z nm
        refine ite_n (fun z => absurd (by rw [List.length_map, List.length_map]) z) (fun _ => ?_)
        fail "go"
        refine ⟨⟨_, .of (hL.at ⟨3, rfl⟩)⟩, fun D2 hD2 => dc_nm (rf := pV) (vo := trV) hL hD2 ⟨3, rfl⟩ zp (fun e he H L1 hL => ?_) (fun H hL => ?_)⟩
        · refine ⟨rfl, rfl, fun Q q => ?_, fun Q q => q⟩
          refine ⟨_, rfl, k_fld hL (at_mem (.tail _ (.tail _ (.tail _ (.tail _ (.tail _ (mp e he))))))) c3 f6 (by fail "lkF") q⟩
        · fail "go"
          refine ⟨D2, _, rfl, hL.at ⟨0, rfl⟩, ?_⟩
          fail "go"
          refine ite_n (fun _ => k _ (by (refine Led.le hL (fun a_ => ?_); simp only [cnt_nil, cnt_cons, cnt_app, List.map_append, List.map_cons, List.map_nil, List.flatMap_append, List.flatMap_cons, List.flatMap_nil, List.append_assoc, List.cons_append, List.nil_append]; omega))) (fun z => ?_)
          have z := V.int.inj z
          have h1 := dput_lt np
          rw [List.length_map, List.length_map] at z
          omega
      · refine ite_n (fun _ => ?_) (fun z => ?_)
        · fail "go"
          exact k _ (by (refine Led.le hL (fun a_ => ?_); simp only [cnt_nil, cnt_cons, cnt_app, List.map_append, List.map_cons, List.map_nil, List.flatMap_append, List.flatMap_cons, List.flatMap_nil, List.append_assoc, List.cons_append, List.nil_append]; omega))
        · have z := V.int.inj z
          have h1 := dput_lt nm
          rw [List.length_map, List.length_map] at z
          omega
end
end Sd


set_option linter.unusedVariables false
namespace Sd
open PySem L2
open PyProof.Rows (sortedS)
open C8 (Cal Met Mak pe_c pe_mk pe_mt pe_mt0 pss_cut tCut)
set_option linter.unusedSimpArgs false
set_option pp.deepTerms false
set_option pp.deepTerms.threshold 12
set_option hygiene false
local macro_rules | `(tactic| fail "nd") => `(tactic| first | assumption | decide +kernel)
local macro_rules | `(tactic| fail "ix") => `(tactic| first | exact ⟨0, rfl⟩ | exact ⟨1, rfl⟩ | exact ⟨2, rfl⟩ | exact ⟨3, rfl⟩ | exact ⟨4, rfl⟩ | exact ⟨5, rfl⟩ | exact ⟨6, rfl⟩ | exact ⟨7, rfl⟩ | exact ⟨8, rfl⟩ | exact ⟨9, rfl⟩ | exact ⟨10, rfl⟩ | exact ⟨11, rfl⟩ | exact ⟨12, rfl⟩ | exact ⟨13, rfl⟩ | exact ⟨14, rfl⟩ | exact ⟨15, rfl⟩ | exact ⟨16, rfl⟩ | exact ⟨17, rfl⟩ | exact ⟨18, rfl⟩ | assumption)
local macro_rules | `(tactic| fail "up") => `(tactic| first | exact ⟨0, rfl, rfl⟩ | exact ⟨1, rfl, rfl⟩ | exact ⟨2, rfl, rfl⟩ | exact ⟨3, rfl, rfl⟩ | exact ⟨4, rfl, rfl⟩ | exact ⟨5, rfl, rfl⟩ | exact ⟨6, rfl, rfl⟩ | exact ⟨7, rfl, rfl⟩ | exact ⟨8, rfl, rfl⟩ | exact ⟨9, rfl, rfl⟩ | exact ⟨10, rfl, rfl⟩ | exact ⟨11, rfl, rfl⟩ | exact ⟨12, rfl, rfl⟩ | exact ⟨13, rfl, rfl⟩ | exact ⟨14, rfl, rfl⟩ | exact ⟨15, rfl, rfl⟩ | exact ⟨16, rfl, rfl⟩ | assumption)
local macro_rules | `(tactic| fail "lkF") => `(tactic| first | assumption | exact fz_at 0 (by fail "nd") rfl rfl | exact fz_at 1 (by fail "nd") rfl rfl | exact fz_at 2 (by fail "nd") rfl rfl | exact fz_at 3 (by fail "nd") rfl rfl | exact fz_at 4 (by fail "nd") rfl rfl | exact fz_at 5 (by fail "nd") rfl rfl | exact fz_at 6 (by fail "nd") rfl rfl | exact fz_at 7 (by fail "nd") rfl rfl)
local macro_rules | `(tactic| fail "lkD") => `(tactic| first | assumption | exact dz_at 0 (by fail "nd") rfl rfl | exact dz_at 1 (by fail "nd") rfl rfl | exact dz_at 2 (by fail "nd") rfl rfl | exact dz_at 3 (by fail "nd") rfl rfl | exact dz_at 4 (by fail "nd") rfl rfl)
local macro_rules | `(tactic| fail "ptF") => `(tactic| first | assumption | exact fz_put 0 (by fail "nd") rfl (Nat.le_of_ble_eq_true rfl) | exact fz_put 1 (by fail "nd") rfl (Nat.le_of_ble_eq_true rfl) | exact fz_put 2 (by fail "nd") rfl (Nat.le_of_ble_eq_true rfl) | exact fz_put 3 (by fail "nd") rfl (Nat.le_of_ble_eq_true rfl) | exact fz_put 4 (by fail "nd") rfl (Nat.le_of_ble_eq_true rfl) | exact fz_put 5 (by fail "nd") rfl (Nat.le_of_ble_eq_true rfl) | exact fz_put 6 (by fail "nd") rfl (Nat.le_of_ble_eq_true rfl) | exact fz_put 7 (by fail "nd") rfl (Nat.le_of_ble_eq_true rfl) | exact fz_new (by decide +kernel) rfl)
local macro_rules | `(tactic| fail "ptD") => `(tactic| first | assumption | exact dz_put 0 (by fail "nd") rfl (Nat.le_of_ble_eq_true rfl) | exact dz_put 1 (by fail "nd") rfl (Nat.le_of_ble_eq_true rfl) | exact dz_put 2 (by fail "nd") rfl (Nat.le_of_ble_eq_true rfl) | exact dz_put 3 (by fail "nd") rfl (Nat.le_of_ble_eq_true rfl) | exact dz_put 4 (by fail "nd") rfl (Nat.le_of_ble_eq_true rfl))
local macro_rules | `(tactic| fail "sz") => `(tactic| first | assumption | exact (Nat.le_of_ble_eq_true rfl) | omega | decide)
local macro_rules | `(tactic| fail "sd") => `(tactic| first | rfl | assumption | decide | omega | (dsimp only; first | decide | omega) | exact .inr ⟨by decide, by decide⟩ | exact .inl ⟨by decide, by decide⟩ | exact ⟨by omega, by omega⟩ | exact .inl ⟨by omega, by omega⟩ | exact .inr ⟨by omega, by omega⟩ | exact ⟨by omega, by omega, by omega⟩)
local macro_rules | `(tactic| fail "cl") => `(tactic| (clear hH; dsimp only [List.set, List.cons_append, List.nil_append, List.append] at hL))
local macro_rules | `(tactic| fail "gn") => `(tactic| (intro p hp; generalize hH : upd H p _ = H; replace hL := Led.newH hL hp hH; clear hH hp))
local macro_rules | `(tactic| fail "gup") => `(tactic| (generalize hH : upd H _ _ = H; replace hL := Led.upU hL (by fail "up") hH; fail "cl"))
local macro_rules | `(tactic| fail "gmk") => `(tactic| (intro x dx hx hd ne; generalize hH : upd (upd H dx _) x _ = H; replace hL := Led.made hL hx hd ne hH; clear hH hx hd ne))
local macro_rules | `(tactic| fail "v") => `(tactic| refine ⟨_, rfl, ?_⟩)
local macro_rules | `(tactic| fail "i2") => `(tactic| refine ⟨_, _, rfl, rfl, ?_⟩)
local macro_rules | `(tactic| fail "go1") => `(tactic| first
  | refine ⟨_, rfl, ?_⟩
  | refine ⟨_, _, rfl, rfl, ?_⟩
  | refine ⟨_, _, rfl, ?_⟩
  | refine iteT ?_
  | refine iteF ?_
  | refine k_fld hL (by fail "ix") (by assumption) (by assumption) (by fail "lkF") ?_
  | refine k_dgetS hL (by fail "ix") (by fail "lkD") ?_
  | refine k_dgetI hL (by fail "ix") (by assumption) ?_
  | refine k_ixL hL (by fail "ix") (by first | rfl | assumption) ?_
  | refine k_ixT hL (by fail "ix") (by first | rfl | assumption) ?_
  | refine k_tyL hL (by fail "ix") ?_
  | refine k_isd hL (by fail "ix") ?_
  | (refine And.intro (by fail "sz") ?_; fail "gn")
  | refine And.intro (by fail "sd") ?_
  | fail "gn"
  | refine k_meth hL (by fail "ix") (by first | assumption | exact fz_no (by decide +kernel)) ?_
  | refine k_gtup hL (by fail "ix") rfl ?_
  | (refine k_popI hL (by fail "ix") (by assumption) ?_; fail "gup")
  | (refine k_listD hL (by fail "ix") ?_; fail "gn")
  | (refine ⟨_, _, _, _, rfl, rfl, hL.at (by fail "ix"), rfl, ?_⟩; fail "gup")
  | (refine ⟨_, _, _, rfl, rfl, hL.at (by fail "ix"), (by fail "sz"), ?_⟩; fail "gup")
  | (refine ⟨_, _, _, _, rfl, hL.at (by fail "ix"), by assumption, by assumption, Nat.lt_of_le_of_lt fz_len (by decide), ?_⟩; generalize hH : upd H _ _ = H; replace hL := Led.upF hL (by fail "up") (by fail "ptF") hH; fail "cl")
  | (refine ⟨_, _, hL.at (by fail "ix"), Nat.lt_of_le_of_lt fz_len (by decide), ?_⟩; generalize hH : upd H _ _ = H; replace hL := Led.upF hL (by fail "up") (by fail "ptF") hH; fail "cl")
  | (refine k_dputS hL (by fail "ix") (Nat.lt_of_le_of_lt dz_len (by decide)) (by fail "ptD") (by fail "up") ?_; clear hL; intro H hL; dsimp only [List.set, List.cons_append, List.nil_append, List.append] at hL)
  | refine k_lenL2 hL (by fail "ix") ?_
  | refine k_lenT2 hL (by fail "ix") ?_
  | refine .inl ⟨_, rfl, ?_⟩
  | refine .inr ⟨_, rfl, ?_⟩)
local macro_rules | `(tactic| fail "go") => `(tactic| repeat fail "go1")
local macro_rules | `(tactic| fail "pm") => `(tactic| (refine Led.le hL (fun a_ => ?_); simp only [cnt_nil, cnt_cons, cnt_app, List.map_append, List.map_cons, List.map_nil, List.flatMap_append, List.flatMap_cons, List.flatMap_nil, List.append_assoc, List.cons_append, List.nil_append]; omega))

def bodyF (st : Stmt) : List Stmt := match st with | .For _ _ b _ _ => b | _ => []
def thenS (st : Stmt) : List Stmt := match st with | .If _ b _ _ => b | _ => []
def elseS (st : Stmt) : List Stmt := match st with | .If _ _ b _ => b | _ => []
def nth (b : List Stmt) (i : Nat) : Stmt := b.getD i (.Pass ⟨0, 0, 0, 0⟩)
abbrev NP : List Str := ["self", "old", "name", "found", "part", "lacks", "rows"]
theorem scPlan : FnScope ["self", "old", "name", "found", "part", "lacks", "rows"] ["self", "old"] (defScope sPlan) := ⟨rfl, rfl, rfl, by decide +kernel, rfl, by decide +kernel, by decide +kernel⟩
abbrev PX (P : Program) (w : World) (K : PySem.W.Frag) (mg : Str → Option Value) (base : Heap) (f : Addr) (cdv : Value) (A : Around) (outer : List Env) (s : Shared) (H : Hp) (E : XK) : Cx := (cxOf CX0 P w K mg base NP "Planner.plan" (defScope sPlan) f cdv A outer s H E).nox
abbrev bodyP : List Stmt := bodyF (nth (defBody sPlan) 3)
theorem mem_cnt {L : Lg} {x : Addr × HO} (h : x ∈ L) : ∃ R1 : Lg, ∀ a, cnt a L = one1 a x + cnt a R1 := by
  obtain ⟨A, B, rfl⟩ := List.append_of_mem h
  exact ⟨A ++ B, fun a => by rw [cnt_app, cnt_cons, cnt_app]; omega⟩
def tWh (CM CA CP : Addr) : TS := fun D σ H => ∃ (s ds md pl ld od fd xd rl : Addr) (ms : List MaE) (g : Gf) (p : PaE) (rows : List Str) (v2 : Option V) (R : Lg), σ = [some (.ref s), some (.ref od), v2, some (.ref fd), some (.ref p.2.a), some (.ref xd), some (.ref rl)] ∧
  (∀ m ∈ rows, m ∈ ms.map (·.1)) ∧ (rows.length : Int) ≤ p.2.c ∧ p.2.c ≤ 9 ∧ ms.length < 60 ∧ sortedS (ms.map (·.1)) = true ∧ Led H ((rl, .lst (rows.map .str)) :: pO CA p :: (PL CM CP s ds md pl ld ms g ++ R)) ∧
  ∀ v2 H', Led H' ((rl, .lst ((fillP (ms.map (·.1)) (zf (plM ms)) p.2.w (p.2.c - rows.length).toNat g rows).2.map .str)) :: pO CA p :: (PL CM CP s ds md pl ld ms (fillP (ms.map (·.1)) (zf (plM ms)) p.2.w (p.2.c - rows.length).toNat g rows).1 ++ R)) →
    D.nx [some (.ref s), some (.ref od), v2, some (.ref fd), some (.ref p.2.a), some (.ref xd), some (.ref rl)] H'
section
variable {P : Program} {w : World} {K : PySem.W.Frag} {mg : Str → Option Value} {base : Heap} {CM CA CP CE : Addr} {f : Addr} {cdv : Value} {A : Around} {outer : List Env} {s0 : Shared} {H0 : Hp} {E : XK}
theorem st_while (hr : Room 2 (PX P w K mg base f cdv A outer s0 H0 E).A) (X : TxtP K mg CM CA CP) (T : TxtF mg) (c_Planner_best_for : Met P w K mg base 2 CP "best_for" (spBest CM CA CP) []) :
    PS (PX P w K mg base f cdv A outer s0 H0 E) (nth bodyP 1) (tWh CM CA CP) := by
  refine ps_imp (t := _) (ps_while PassesOwn.never (pt_cmpR op_lt (pe_callB call_len_seq (by rfl) T.len (by decide +kernel) (pa_cons (pv 6) pa_nil)) (pe_fld (pv 4) rfl) (nomark _))
  (pss_cons (ps_set (i := 2) scPlan.nd rfl (Or.inl rfl) (pe_mt c_Planner_best_for hr (by decide) (pv 0) (pa_cons (pv 4) (pa_cons (pv 6) pa_nil))))
  (pss_cons (ps_if (pt_cmpR op_isN (pv 2) pe_non (nomark _))
  (pss_one ps_break)
  pss_nil)
  (pss_cons (ps_daug (hu_of hr) (pe_fld (pv 0) rfl) (pv 2) (pe_fld (pv 4) rfl) in_sub (fun _ _ _ => rfl))
  (pss_one (ps_expr (pe_bm PySem.F.plainAttrs_list PySem.F.slot_list_append PySem.F.type_list_append mt_append (pv 6) (pa_cons (pv 2) pa_nil)))))))) ?_
  rintro D σ H ⟨s, ds, md, pl, ld, od, fd, xd, rl, ms, g, ⟨pn, pd⟩, rows, v2, R, rfl, hsub, hle, hc9, hzm, hs, hL, k⟩
  have c1 := X.clP
  have c2 := X.clA
  have f1 := X.nP "left" (by decide +kernel)
  have f2 := X.nA "copies" (by decide +kernel)
  have f3 := X.nA "weight" (by decide +kernel)
  dsimp only at hle hc9 k
  generalize htg : fillP (ms.map (·.1)) (zf (plM ms)) pd.w (pd.c - rows.length).toNat g rows = tg at k
  refine ⟨fun m σ H => Hold (∃ v2 g1 r1, σ = [some (.ref s), some (.ref od), v2, some (.ref fd), some (.ref pd.a), some (.ref xd), some (.ref rl)] ∧ m = (pd.c - (r1.length : Int)).toNat ∧ (r1.length : Int) ≤ pd.c ∧ (∀ m ∈ r1, m ∈ ms.map (·.1)) ∧ fillP (ms.map (·.1)) (zf (plM ms)) pd.w m g1 r1 = tg ∧
    Led H ((rl, .lst (r1.map .str)) :: pO CA (pn, pd) :: (PL CM CP s ds md pl ld ms g1 ++ R))), ⟨_, .mk ⟨v2, g, rows, rfl, rfl, hle, hsub, htg, hL⟩⟩, fun m σ H h => ?_⟩
  clear hL
  obtain ⟨v2, g1, r1, rfl, hm, hle1, hsub1, hft, hL⟩ := h.out
  clear h
  have hL0 := hL
  dsimp only [PL, pO, List.cons_append] at hL
  fail "go"
  refine ite_d (fun hlt => ?_) (fun hlt => ?_)
  · rw [List.length_map] at hlt
    obtain ⟨m', rfl⟩ : ∃ m', m = m' + 1 := ⟨m - 1, by omega⟩
    refine ⟨fun σ' H' => Hold (∃ v2 g1 r1, σ' = [some (.ref s), some (.ref od), v2, some (.ref fd), some (.ref pd.a), some (.ref xd), some (.ref rl)] ∧ m' = (pd.c - (r1.length : Int)).toNat ∧ (r1.length : Int) ≤ pd.c ∧ (∀ m ∈ r1, m ∈ ms.map (·.1)) ∧ fillP (ms.map (·.1)) (zf (plM ms)) pd.w m' g1 r1 = tg ∧
      Led H' ((rl, .lst (r1.map .str)) :: pO CA (pn, pd) :: (PL CM CP s ds md pl ld ms g1 ++ R))), fun σ' H' h => ⟨m', Nat.lt_succ_self _, h⟩, ?_⟩
    refine ⟨_, rfl, s, ds, _, rfl, hL.at ⟨2, rfl⟩, fz_no (by decide +kernel), ?_⟩
    refine ⟨_, rfl, _, rfl, ?_⟩
    refine ⟨s, ds, md, pl, ld, rl, ms, g1, (pn, pd), r1, R, rfl, hL0, hsub1, by omega, hzm, hs, fun H hL => ?_⟩
    unfold fillP at hft
    cases hb : bestP (ms.map (·.1)) (zf (plM ms)) g1 pd.w r1 with
    | none =>
      rw [hb] at hft
      dsimp only at hft
      fail "go"
      refine k _ _ ?_
      rw [← hft]
      exact hL
    | some b =>
      rw [hb] at hft
      dsimp only at hft
      have hbm := best_may hs hb
      have hnm := (mayP_iff.mp hbm).1
      have lk := lf_val (g := g1) hnm
      dsimp only [PL, pO, List.cons_append] at hL
      fail "go"
      refine k_dput5 (x := b) hL (by fail "ix") (lf_len hzm) (lf_put hnm) (by fail "up") fun H hL => ?_
      dsimp only [List.set, List.cons_append, List.nil_append, List.append] at hL
      fail "go"
      refine ⟨_, _, _, rfl, rfl, hL.at ⟨0, rfl⟩, by rw [List.length_map]; exact Nat.lt_trans (show r1.length < 60 by omega) (by decide), ?_⟩
      fail "gup"
      refine .mk ⟨some (.str b), subG g1 b pd.w, r1 ++ [b], rfl, ?_, ?_, fun m hm => ?_, hft, ?_⟩
      · rw [List.length_append, List.length_singleton]; push_cast; omega
      · rw [List.length_append, List.length_singleton]; push_cast; omega
      · rcases List.mem_append.mp hm with h | h
        · exact hsub1 m h
        · rw [List.mem_singleton.mp h]; exact hnm
      · rw [List.map_append]
        exact hL
  · rw [List.length_map] at hlt
    fail "go"
    obtain rfl : m = 0 := by omega
    refine k _ _ ?_
    rw [← hft]
    exact hL0
end
end Sd


set_option linter.unusedVariables false
namespace Sd
open PySem L2
open PyProof.Rows (sortedS)
open C8 (Cal Met Mak pe_c pe_mk pe_mt pe_mt0 pss_cut tCut)
set_option linter.unusedSimpArgs false
set_option pp.deepTerms false
set_option pp.deepTerms.threshold 12
set_option hygiene false
local macro_rules | `(tactic| fail "nd") => `(tactic| first | assumption | decide +kernel)
local macro_rules | `(tactic| fail "ix") => `(tactic| first | exact ⟨0, rfl⟩ | exact ⟨1, rfl⟩ | exact ⟨2, rfl⟩ | exact ⟨3, rfl⟩ | exact ⟨4, rfl⟩ | exact ⟨5, rfl⟩ | exact ⟨6, rfl⟩ | exact ⟨7, rfl⟩ | exact ⟨8, rfl⟩ | exact ⟨9, rfl⟩ | exact ⟨10, rfl⟩ | exact ⟨11, rfl⟩ | exact ⟨12, rfl⟩ | exact ⟨13, rfl⟩ | exact ⟨14, rfl⟩ | exact ⟨15, rfl⟩ | exact ⟨16, rfl⟩ | exact ⟨17, rfl⟩ | exact ⟨18, rfl⟩ | assumption)
local macro_rules | `(tactic| fail "up") => `(tactic| first | exact ⟨0, rfl, rfl⟩ | exact ⟨1, rfl, rfl⟩ | exact ⟨2, rfl, rfl⟩ | exact ⟨3, rfl, rfl⟩ | exact ⟨4, rfl, rfl⟩ | exact ⟨5, rfl, rfl⟩ | exact ⟨6, rfl, rfl⟩ | exact ⟨7, rfl, rfl⟩ | exact ⟨8, rfl, rfl⟩ | exact ⟨9, rfl, rfl⟩ | exact ⟨10, rfl, rfl⟩ | exact ⟨11, rfl, rfl⟩ | exact ⟨12, rfl, rfl⟩ | exact ⟨13, rfl, rfl⟩ | exact ⟨14, rfl, rfl⟩ | exact ⟨15, rfl, rfl⟩ | exact ⟨16, rfl, rfl⟩ | assumption)
local macro_rules | `(tactic| fail "lkF") => `(tactic| first | assumption | exact fz_at 0 (by fail "nd") rfl rfl | exact fz_at 1 (by fail "nd") rfl rfl | exact fz_at 2 (by fail "nd") rfl rfl | exact fz_at 3 (by fail "nd") rfl rfl | exact fz_at 4 (by fail "nd") rfl rfl | exact fz_at 5 (by fail "nd") rfl rfl | exact fz_at 6 (by fail "nd") rfl rfl | exact fz_at 7 (by fail "nd") rfl rfl)
local macro_rules | `(tactic| fail "lkD") => `(tactic| first | assumption | exact dz_at 0 (by fail "nd") rfl rfl | exact dz_at 1 (by fail "nd") rfl rfl | exact dz_at 2 (by fail "nd") rfl rfl | exact dz_at 3 (by fail "nd") rfl rfl | exact dz_at 4 (by fail "nd") rfl rfl)
local macro_rules | `(tactic| fail "ptF") => `(tactic| first | assumption | exact fz_put 0 (by fail "nd") rfl (Nat.le_of_ble_eq_true rfl) | exact fz_put 1 (by fail "nd") rfl (Nat.le_of_ble_eq_true rfl) | exact fz_put 2 (by fail "nd") rfl (Nat.le_of_ble_eq_true rfl) | exact fz_put 3 (by fail "nd") rfl (Nat.le_of_ble_eq_true rfl) | exact fz_put 4 (by fail "nd") rfl (Nat.le_of_ble_eq_true rfl) | exact fz_put 5 (by fail "nd") rfl (Nat.le_of_ble_eq_true rfl) | exact fz_put 6 (by fail "nd") rfl (Nat.le_of_ble_eq_true rfl) | exact fz_put 7 (by fail "nd") rfl (Nat.le_of_ble_eq_true rfl) | exact fz_new (by decide +kernel) rfl)
local macro_rules | `(tactic| fail "ptD") => `(tactic| first | assumption | exact dz_put 0 (by fail "nd") rfl (Nat.le_of_ble_eq_true rfl) | exact dz_put 1 (by fail "nd") rfl (Nat.le_of_ble_eq_true rfl) | exact dz_put 2 (by fail "nd") rfl (Nat.le_of_ble_eq_true rfl) | exact dz_put 3 (by fail "nd") rfl (Nat.le_of_ble_eq_true rfl) | exact dz_put 4 (by fail "nd") rfl (Nat.le_of_ble_eq_true rfl))
local macro_rules | `(tactic| fail "sz") => `(tactic| first | assumption | exact (Nat.le_of_ble_eq_true rfl) | omega | decide)
local macro_rules | `(tactic| fail "sd") => `(tactic| first | rfl | assumption | decide | omega | (dsimp only; first | decide | omega) | exact .inr ⟨by decide, by decide⟩ | exact .inl ⟨by decide, by decide⟩ | exact ⟨by omega, by omega⟩ | exact .inl ⟨by omega, by omega⟩ | exact .inr ⟨by omega, by omega⟩ | exact ⟨by omega, by omega, by omega⟩)
local macro_rules | `(tactic| fail "cl") => `(tactic| (clear hH; dsimp only [List.set, List.cons_append, List.nil_append, List.append] at hL))
local macro_rules | `(tactic| fail "gn") => `(tactic| (intro p hp; generalize hH : upd H p _ = H; replace hL := Led.newH hL hp hH; clear hH hp))
local macro_rules | `(tactic| fail "gup") => `(tactic| (generalize hH : upd H _ _ = H; replace hL := Led.upU hL (by fail "up") hH; fail "cl"))
local macro_rules | `(tactic| fail "gmk") => `(tactic| (intro x dx hx hd ne; generalize hH : upd (upd H dx _) x _ = H; replace hL := Led.made hL hx hd ne hH; clear hH hx hd ne))
local macro_rules | `(tactic| fail "v") => `(tactic| refine ⟨_, rfl, ?_⟩)
local macro_rules | `(tactic| fail "i2") => `(tactic| refine ⟨_, _, rfl, rfl, ?_⟩)
local macro_rules | `(tactic| fail "go1") => `(tactic| first
  | refine ⟨_, rfl, ?_⟩
  | refine ⟨_, _, rfl, rfl, ?_⟩
  | refine ⟨_, _, rfl, ?_⟩
  | refine iteT ?_
  | refine iteF ?_
  | refine k_fld hL (by fail "ix") (by assumption) (by assumption) (by fail "lkF") ?_
  | refine k_dgetS hL (by fail "ix") (by fail "lkD") ?_
  | refine k_dgetI hL (by fail "ix") (by assumption) ?_
  | refine k_ixL hL (by fail "ix") (by first | rfl | assumption) ?_
  | refine k_ixT hL (by fail "ix") (by first | rfl | assumption) ?_
  | refine k_tyL hL (by fail "ix") ?_
  | refine k_isd hL (by fail "ix") ?_
  | (refine And.intro (by fail "sz") ?_; fail "gn")
  | refine And.intro (by fail "sd") ?_
  | fail "gn"
  | refine k_meth hL (by fail "ix") (by first | assumption | exact fz_no (by decide +kernel)) ?_
  | refine k_gtup hL (by fail "ix") rfl ?_
  | (refine k_popI hL (by fail "ix") (by assumption) ?_; fail "gup")
  | (refine k_listD hL (by fail "ix") ?_; fail "gn")
  | (refine ⟨_, _, _, _, rfl, rfl, hL.at (by fail "ix"), rfl, ?_⟩; fail "gup")
  | (refine ⟨_, _, _, rfl, rfl, hL.at (by fail "ix"), (by fail "sz"), ?_⟩; fail "gup")
  | (refine ⟨_, _, _, _, rfl, hL.at (by fail "ix"), by assumption, by assumption, Nat.lt_of_le_of_lt fz_len (by decide), ?_⟩; generalize hH : upd H _ _ = H; replace hL := Led.upF hL (by fail "up") (by fail "ptF") hH; fail "cl")
  | (refine ⟨_, _, hL.at (by fail "ix"), Nat.lt_of_le_of_lt fz_len (by decide), ?_⟩; generalize hH : upd H _ _ = H; replace hL := Led.upF hL (by fail "up") (by fail "ptF") hH; fail "cl")
  | (refine k_dputS hL (by fail "ix") (Nat.lt_of_le_of_lt dz_len (by decide)) (by fail "ptD") (by fail "up") ?_; clear hL; intro H hL; dsimp only [List.set, List.cons_append, List.nil_append, List.append] at hL)
  | refine k_lenL2 hL (by fail "ix") ?_
  | refine k_lenT2 hL (by fail "ix") ?_
  | refine .inl ⟨_, rfl, ?_⟩
  | refine .inr ⟨_, rfl, ?_⟩)
local macro_rules | `(tactic| fail "go") => `(tactic| repeat fail "go1")
local macro_rules | `(tactic| fail "pm") => `(tactic| (refine Led.le hL (fun a_ => ?_); simp only [cnt_nil, cnt_cons, cnt_app, List.map_append, List.map_cons, List.map_nil, List.flatMap_append, List.flatMap_cons, List.flatMap_nil, List.append_assoc, List.cons_append, List.nil_append]; omega))

abbrev TupE := Str × (Addr × List Str)
def tV (e : TupE) : V := .ref e.2.1
def tupO (e : TupE) : Addr × HO := (e.2.1, .tup (e.2.2.map .str))
def lstO (e : TupE) : Addr × HO := (e.2.1, .lst (e.2.2.map .str))
def plF (ts : List TupE) : FT := ts.map fun e => (e.1, e.2.2)
def lxV (e : Str × Int) : V := .int e.2
theorem k_dgetFS {H : Hp} {L : Lg} {a : Addr} {od : Obj} {kvs : List (Key × V)} {v : V} {x : Str} {P : Addr → V → Prop} (hL : Led H L) (e : At L a (.frz od (.dK kvs))) (lk : valV kvs (.inr x) = some v) (q : P a v) : ∃ a' v', V.ref a = .ref a' ∧ DGet H a' (.str x) (some v') ∧ P a' v' :=
  ⟨_, _, rfl, .inl ⟨kvs, .inr x, .inr ⟨od, hL.at e⟩, rfl, lk.symm⟩, q⟩
theorem plF_get {ts : List TupE} {k : Str} : aget (plF ts) k = (aget ts k).map (·.2) := aget_map (f := fun x : Addr × List Str => x.2)
theorem plF_put {ts : List TupE} {k : Str} {d : Addr × List Str} : plF (aput ts k d) = aput (plF ts) k d.2 := aput_map (f := fun x : Addr × List Str => x.2)
theorem plF_ns {ts : List TupE} : (plF ts).map (·.1) = ts.map (·.1) := by unfold plF; rw [List.map_map]; rfl
theorem plF_len {ts : List TupE} : (plF ts).length = ts.length := List.length_map ..
theorem plA_len {ps : List PaE} : (plA ps).length = ps.length := List.length_map ..
theorem tv_val {ts : List TupE} {k : Str} : valV (ts.map (kk tV)) (Sum.inr k) = (aget ts k).map fun d => V.ref d.1 := by rw [kk_val]; rfl
theorem plan_pre {ns : List Str} {z : Str → Str} {ps : List PRow} {room : Gf} (h : PsOk ps) (hs : sortedS ns = true) {old : FT} (hp : ∀ n ∈ ns, 0 ≤ room n) (i : Nat) :
    FI ns z ps room (ps.take i) ((ps.take i).foldl (fillS ns z) ⟨(stayA ns z old room ps).1, (stayA ns z old room ps).2, []⟩) := by
  obtain ⟨i1, i2⟩ := stay_all (ns := ns) (z := z) (room := room) h old ps (room, []) (fun _ hp => hp) ⟨fun n => by simp [sumF], hp, fun _ hx => (nomatch hx), fun _ hx => (nomatch hx), fun _ hx => (nomatch hx)⟩
  exact FI.all h hs (ps.take i) [] _ ⟨i1, i2, rfl, fun _ hx => (nomatch hx)⟩ (fun q hq => List.mem_of_mem_take hq) (by
    rw [List.nil_append, List.map_take]; exact h.nd.sublist (List.take_sublist _ _))
theorem old_get {os : List TupE} {k : Str} {p : Addr} : ∃ nt, ((valV (os.map (kk tV)) (Sum.inr k)).getD (.ref p)) = .ref nt ∧ ((nt, HO.tup ((oldOf (plF os) k).map V.str)) ∈ (p, HO.tup []) :: os.map tupO) := by
  rw [tv_val]
  unfold oldOf
  rw [plF_get]
  cases h : aget os k with
  | none => exact ⟨p, rfl, .head _⟩
  | some d => exact ⟨d.1, rfl, .tail _ (List.mem_map.mpr ⟨_, aget_mem h, rfl⟩)⟩
def PQ (CM CA CP s ds md pl ld od : Addr) (ms : List MaE) (ps : List PaE) (os : List TupE) (g : Gf) (R : Lg) : Lg := (s, .ins CP ds (fz nmP [.ref md, .ref pl, .ref ld])) :: (md, .dK (ms.map (kk mV))) :: (ld, .dK (lfK (ms.map (·.1)) g)) :: (od, .dK (os.map (kk tV))) :: (pl, .lst (ps.map pV)) :: (ms.map (mO CM) ++ (os.map tupO ++ (ps.map (pO CA) ++ R)))
theorem stay_names {ns : List Str} {z : Str → Str} {old : FT} : ∀ (ps : List PRow) (s : Gf × FT), (ps.foldl (stayS ns z old) s).2.map (·.1) = s.2.map (·.1) ++ ps.map (·.1)
  | [], s => by simp
  | p :: ps, s => by
    rw [List.foldl_cons, stay_names ps]
    unfold stayS
    dsimp only
    rw [List.map_append, List.append_assoc]
    rfl
/-- a plan's answer -/
def spPlan (CM CA CP : Addr) : Sp := fun vs H Q _ => ∃ (s ds md pl ld od : Addr) (ms : List MaE) (ps : List PaE) (os : List TupE) (g : Gf) (R : Lg), vs = [.ref s, .ref od] ∧
  Led H ((pl, .lst (ps.map pV)) :: (od, .dK (os.map (kk tV))) :: (os.map tupO ++ (PL CM CP s ds md pl ld ms g ++ (ps.map (pO CA) ++ R)))) ∧
  (ms.map (·.1)).Nodup ∧ sortedS (ms.map (·.1)) = true ∧ ms.length < 60 ∧ (∀ m ∈ ms, 0 ≤ m.2.r) ∧ PsOk (plA ps) ∧ ps.length < 60 ∧ (os.map (·.1)).Nodup ∧
  ∀ (t fd xd ld' : Addr) (ts : List TupE) (H' : Hp), plF ts = (planP (plM ms) (plA ps) (plF os)).f →
    Led H' ((t, .tup [.ref fd, .ref xd]) :: (fd, .dK (ts.map (kk tV))) :: (xd, .dK ((planP (plM ms) (plA ps) (plF os)).l.map (kk lxV))) :: (ts.map tupO ++
      ((pl, .lst (ps.map pV)) :: (od, .dK (os.map (kk tV))) :: (os.map tupO ++ (PL CM CP s ds md pl ld' ms (planP (plM ms) (plA ps) (plF os)).g ++ (ps.map (pO CA) ++ R)))))) → Q (.ref t) H'
theorem es_cnt {es : List TupE} {k : Str} {d : Addr × List Str} (g : aget es k = some d) : ∃ R1 : Lg, ∀ (d' : Addr × List Str) a, cnt a ((aput es k d').map lstO) = one1 a (lstO (k, d')) + cnt a R1 := by
  obtain ⟨B, C, e1, e2⟩ := aget_split g
  refine ⟨B.map lstO ++ C.map lstO, fun d' a => ?_⟩
  rw [e2]
  simp only [cnt_app, List.map_append, List.map_cons, cnt_cons]
  omega
theorem lacks_sub {qs : List PRow} {f : FT} {k : Str} (h : k ∈ (lacksOf qs f).map (·.1)) : k ∈ qs.map (·.1) := by
  obtain ⟨x, hx, rfl⟩ := List.mem_map.mp h
  obtain ⟨p, hp, e⟩ := List.mem_filterMap.mp hx
  by_cases q : ((oldOf f p.1).length : Int) < p.2.2
  · simp only [q, if_true] at e
    cases e
    exact List.mem_map.mpr ⟨p, hp, rfl⟩
  · simp only [q, if_false] at e
    cases e
theorem lacks_nd {f : FT} : ∀ {qs : List PRow}, ((lacksOf qs f).map (·.1)).Sublist (qs.map (·.1))
  | [] => .slnil
  | p :: qs => by
    unfold lacksOf
    rw [List.filterMap_cons]
    by_cases q : ((oldOf f p.1).length : Int) < p.2.2
    · simp only [q, if_true]
      exact (lacks_nd (qs := qs)).cons_cons _
    · simp only [q, if_false]
      exact (lacks_nd (qs := qs)).cons _
theorem lacks_len {qs : List PRow} {f : FT} : (lacksOf qs f).length ≤ qs.length := List.length_filterMap_le _ _
theorem nd_at {ps : List PRow} {i : Nat} {p : PRow} (h : (ps.map (·.1)).Nodup) (hp : ps[i]? = some p) : p.1 ∉ (ps.take i).map (·.1) := fun hm => by
  rw [← List.take_append_drop i ps, List.map_append] at h
  refine (List.nodup_append.mp h).2.2 _ hm p.1 ?_ rfl
  rw [List.drop_eq_getElem_cons (List.getElem?_eq_some_iff.mp hp).1, (List.getElem?_eq_some_iff.mp hp).2]
  exact List.mem_map.mpr ⟨_, .head _, rfl⟩
def restP : List Stmt := [nth (defBody sPlan) 2, nth (defBody sPlan) 3, nth (defBody sPlan) 4]
/-- what stands behind the staying -/
def tRest (CM CA CP : Addr) : TS := fun D σ H => ∃ (s ds md pl ld od fd : Addr) (ms : List MaE) (ps : List PaE) (os es : List TupE) (v2 v4 v5 v6 : Option V) (R : Lg), σ = [some (.ref s), some (.ref od), v2, some (.ref fd), v4, v5, v6] ∧
  sortedS (ms.map (·.1)) = true ∧ ms.length < 60 ∧ (∀ n ∈ ms.map (·.1), 0 ≤ rf (plM ms) n) ∧ PsOk (plA ps) ∧ ps.length < 60 ∧ plF es = (stayA (ms.map (·.1)) (zf (plM ms)) (plF os) (rf (plM ms)) (plA ps)).2 ∧
  Led H ((fd, .dK (es.map (kk tV))) :: PQ CM CA CP s ds md pl ld od ms ps os (stayA (ms.map (·.1)) (zf (plM ms)) (plF os) (rf (plM ms)) (plA ps)).1 (es.map lstO ++ R)) ∧
  ∀ (t fd xd : Addr) (ts : List TupE) (H' : Hp), plF ts = (planG (ms.map (·.1)) (zf (plM ms)) (rf (plM ms)) (plA ps) (plF os)).f →
    Led H' ((t, .tup [.ref fd, .ref xd]) :: (fd, .dK (ts.map (kk tV))) :: (xd, .dK ((planG (ms.map (·.1)) (zf (plM ms)) (rf (plM ms)) (plA ps) (plF os)).l.map (kk lxV))) :: (ts.map tupO ++
      PQ CM CA CP s ds md pl ld od ms ps os (planG (ms.map (·.1)) (zf (plM ms)) (rf (plM ms)) (plA ps) (plF os)).g R)) → D.rt (.ref t) H'
section
variable {P : Program} {w : World} {K : PySem.W.Frag} {mg : Str → Option Value} {base : Heap} {CM CA CP CE : Addr} {f : Addr} {cdv : Value} {A : Around} {outer : List Env} {s0 : Shared} {H0 : Hp} {E : XK}
theorem st_rest (hr : Room 2 (PX P w K mg base f cdv A outer s0 H0 E).A) (X : TxtP K mg CM CA CP) (T : TxtF mg) (c_Planner_best_for : Met P w K mg base 2 CP "best_for" (spBest CM CA CP) []) :
    PSs (PX P w K mg base f cdv A outer s0 H0 E) restP (tRest CM CA CP) := by
  refine pss_imp (t := _) (pss_cons (ps_set (i := 5) scPlan.nd rfl (Or.inl rfl) pe_dnewK) (pss_cons (ps_for PassesOwn.never rfl (pi_list (pe_fld (pv 0) rfl)) (pg_name (i := 4) scPlan.nd rfl (Or.inl rfl))
  (pss_cons (ps_set (i := 6) scPlan.nd rfl (Or.inl rfl) (pe_dget (hu_of hr) (pv 3) (pe_fld (pv 4) rfl) (fun _ _ => rfl)))
  (pss_cons (st_while hr X T c_Planner_best_for)
  (pss_one (ps_if (pt_cmpR op_lt (pe_callB call_len_seq (by rfl) T.len (by decide +kernel) (pa_cons (pv 6) pa_nil)) (pe_fld (pv 4) rfl) (nomark _))
  (pss_one (ps_dput (hu_of hr) (pv 5) (pe_fld (pv 4) rfl) (pe_op op_sub (pe_fld (pv 4) rfl) (pe_callB call_len_seq (by rfl) T.len (by decide +kernel) (pa_cons (pv 6) pa_nil))) rfl))
  pss_nil))))) (pss_one (ps_ret (pe_tup (pa_cons (pe_lock (pe_dc (own := [("name", 2)]) (g := gName 2) (by rfl) scPlan.nd (pi_keys (pv 3)) (blkOk_by (own := [("name", 2)]) (N := ["self", "old", "name", "found", "part", "lacks", "rows"]) (sc := (defScope sPlan)) (by decide +kernel)) (fun _ _ _ _ _ => (pg_name (i := 2) scPlan.nd rfl (Or.inl rfl))) (fun _ _ _ _ _ => pts_nil) (fun _ _ _ _ _ => (pv 2)) (fun _ _ _ _ _ => (pe_callTy call_tuple_ofB (by rfl) T.tuple (by decide +kernel) (pa_cons (pe_dget (hu_of hr) (pv 3) (pv 2) (fun _ _ => rfl)) pa_nil))))) (pa_cons (pv 5) pa_nil))))))) ?_
  rintro D σ H ⟨s, ds, md, pl, ld, od, fd, ms, ps, os, es, v2, v4, v5, v6, R, rfl, hs, zm, hr0, hps, zp, he, hL, k⟩
  have c1 := X.clP
  have c3 := X.clA
  have f2 := X.nP "parts" (by decide +kernel)
  have f5 := X.nA "name" (by decide +kernel)
  have f6 := X.nA "copies" (by decide +kernel)
  have pre := plan_pre (ns := ms.map (·.1)) (z := zf (plM ms)) (room := rf (plM ms)) hps hs (old := plF os) hr0
  unfold planG at k
  dsimp only at k
  generalize hga : stayA (ms.map (·.1)) (zf (plM ms)) (plF os) (rf (plM ms)) (plA ps) = ga at he hL pre k
  obtain ⟨g0, f0⟩ := ga
  dsimp only at he hL pre k
  subst he
  dsimp only [PQ] at hL
  fail "go"
  rename Addr => xd
  replace hL : Led H ((fd, .dK (es.map (kk tV))) :: (xd, .dK []) :: PQ CM CA CP s ds md pl ld od ms ps os g0 (es.map lstO ++ R)) := by
    unfold PQ
    (refine Led.le hL (fun a_ => ?_); simp only [cnt_nil, cnt_cons, cnt_app, List.map_append, List.map_cons, List.map_nil, List.flatMap_append, List.flatMap_cons, List.flatMap_nil, List.append_assoc, List.cons_append, List.nil_append]; omega)
  refine ⟨⟨_, .of (hL.at ⟨6, rfl⟩)⟩, for_listA (K := K) (a := pl) (xs := ps.map pV) (fun i σ H => Hold (∃ (es' : List TupE) (v2 v4 v6 : Option V), σ = [some (.ref s), some (.ref od), v2, some (.ref fd), v4, some (.ref xd), v6] ∧ plF es' = (((plA ps).take i).foldl (fillS (ms.map (·.1)) (zf (plM ms))) ⟨g0, plF es, []⟩).f ∧
    Led H ((fd, .dK (es'.map (kk tV))) :: (xd, .dK ((((plA ps).take i).foldl (fillS (ms.map (·.1)) (zf (plM ms))) ⟨g0, plF es, []⟩).l.map (kk lxV))) :: PQ CM CA CP s ds md pl ld od ms ps os (((plA ps).take i).foldl (fillS (ms.map (·.1)) (zf (plM ms))) ⟨g0, plF es, []⟩).g (es'.map lstO ++ R)))) (.mk ⟨es, _, _, _, rfl, rfl, hL⟩) (fun i σ H _ h => ?_) (fun i x σ H D' hi h hD' => ?_) (fun σ H h => ?_)⟩
  · obtain ⟨es', v2, v4, v6, rfl, _, hL⟩ := h.out
    exact .of (hL.at ⟨6, rfl⟩)
  · clear hL
    obtain ⟨es', v2, v4, v6, rfl, he, hL⟩ := h.out
    clear h
    rw [List.getElem?_map] at hi
    obtain ⟨e, hpe, rfl⟩ := Option.map_eq_some_iff.mp hi
    have hem := List.mem_of_getElem? hpe
    have hpl : (plA ps)[i]? = some (e.1, e.2.w, e.2.c) := by unfold plA; rw [List.getElem?_map, hpe]; rfl
    have hpm := List.mem_of_getElem? hpl
    have step : ((plA ps).take (i + 1)).foldl (fillS (ms.map (·.1)) (zf (plM ms))) ⟨g0, plF es, []⟩ = fillS (ms.map (·.1)) (zf (plM ms)) (((plA ps).take i).foldl (fillS (ms.map (·.1)) (zf (plM ms))) ⟨g0, plF es, []⟩) (e.1, e.2.w, e.2.c) := by
      rw [List.take_add_one, hpl, Option.toList_some, List.foldl_append]; rfl
    have fi := pre i
    generalize ((plA ps).take i).foldl (fillS (ms.map (·.1)) (zf (plM ms))) ⟨g0, plF es, []⟩ = fs at step fi he hL
    obtain ⟨g1, f1', l1⟩ := fs
    dsimp only at he hL
    subst he
    have hnm : e.1 ∈ es'.map (·.1) := by
      rw [← plF_ns, fi.nm]
      exact List.mem_map.mpr ⟨_, hpm, rfl⟩
    obtain ⟨⟨rl, rows⟩, hr0⟩ := aget_in hnm
    have hgr : aget (plF es') e.1 = some rows := by rw [plF_get, hr0]; rfl
    have hro : oldOf (plF es') e.1 = rows := by unfold oldOf; rw [hgr]; rfl
    have hrm := aget_mem hgr
    have hsub := fi.ai.sub _ hrm
    have hlen := fi.ai.len _ hrm
    have hct : ctP (plA ps) e.1 = e.2.c := hps.ct hpm
    rw [hct] at hlen
    have hc9 := (hps.c _ hpm).2
    have lk : valV (es'.map (kk tV)) (Sum.inr e.1) = some (.ref rl) := by rw [tv_val, hr0]; rfl
    obtain ⟨R1, hc1⟩ := es_cnt hr0
    have hc0 := hc1 (rl, rows)
    rw [aput_self hr0] at hc0
    obtain ⟨R2, hc2⟩ := mem_cnt (show pO CA e ∈ ps.map (pO CA) from List.mem_map.mpr ⟨e, hem, rfl⟩)
    have hnl : e.1 ∉ l1.map (·.1) := fun hm => by
      have h1 := fi.l
      dsimp only at h1
      rw [h1] at hm
      exact nd_at hps.nd hpl (lacks_sub hm)
    have hln : (l1.map (·.1)).Nodup := by
      have h1 := fi.l
      dsimp only at h1
      rw [h1]
      refine List.Nodup.sublist lacks_nd ?_
      rw [List.map_take]
      exact hps.nd.sublist (List.take_sublist _ _)
    have hll : l1.length < 60 := by
      have h1 := fi.l
      dsimp only at h1
      rw [h1]
      have h2 := lacks_len (qs := (plA ps).take i) (f := plF es')
      rw [List.length_take, plA_len] at h2
      omega
    dsimp only [PQ] at hL
    fail "go"
    refine k_fld hL (at_mem (.tail _ (.tail _ (.tail _ (.tail _ (.tail _ (.tail _ (.tail _ (List.mem_append_right _ (List.mem_append_right _ (List.mem_append_left _ (List.mem_map.mpr ⟨e, hem, rfl⟩)))))))))))) c3 f5 (by fail "lkF") ?_
    refine k_dgetS hL ⟨0, rfl⟩ lk ?_
    refine ⟨s, ds, md, pl, ld, od, fd, xd, rl, ms, g1, e, rows, v2, R1 ++ (R2 ++ ((fd, .dK (es'.map (kk tV))) :: (xd, .dK (l1.map (kk lxV))) :: (od, .dK (os.map (kk tV))) :: (pl, .lst (ps.map pV)) :: (os.map tupO ++ R))), rfl, hsub, hlen, hc9, zm, hs, ?_, fun v2 H hL => ?_⟩
    · unfold PL
      (refine Led.le hL (fun a_ => ?_); have q0_ := hc0 a_; (try dsimp only at q0_); (try simp only [cnt_nil, cnt_cons, cnt_app, List.map_append, List.map_cons, List.map_nil, List.flatMap_append, List.flatMap_cons, List.flatMap_nil, List.append_assoc, List.cons_append, List.nil_append, lstO] at q0_); have q1_ := hc2 a_; (try dsimp only at q1_); (try simp only [cnt_nil, cnt_cons, cnt_app, List.map_append, List.map_cons, List.map_nil, List.flatMap_append, List.flatMap_cons, List.flatMap_nil, List.append_assoc, List.cons_append, List.nil_append, lstO] at q1_); simp only [cnt_nil, cnt_cons, cnt_app, List.map_append, List.map_cons, List.map_nil, List.flatMap_append, List.flatMap_cons, List.flatMap_nil, List.append_assoc, List.cons_append, List.nil_append, lstO]; omega)
    have step2 : fillS (ms.map (·.1)) (zf (plM ms)) ⟨g1, plF es', l1⟩ (e.1, e.2.w, e.2.c) = ⟨(fillP (ms.map (·.1)) (zf (plM ms)) e.2.w (e.2.c - rows.length).toNat g1 rows).1, plF (aput es' e.1 (rl, (fillP (ms.map (·.1)) (zf (plM ms)) e.2.w (e.2.c - rows.length).toNat g1 rows).2)),
        if ((fillP (ms.map (·.1)) (zf (plM ms)) e.2.w (e.2.c - rows.length).toNat g1 rows).2.length : Int) < e.2.c then l1 ++ [(e.1, e.2.c - (fillP (ms.map (·.1)) (zf (plM ms)) e.2.w (e.2.c - rows.length).toNat g1 rows).2.length)] else l1⟩ := by
      unfold fillS
      dsimp only
      rw [hro, plF_put]
    rw [step2] at step
    generalize fillP (ms.map (·.1)) (zf (plM ms)) e.2.w (e.2.c - rows.length).toNat g1 rows = tg at step hL
    obtain ⟨g2, r2⟩ := tg
    dsimp only at step hL
    have hfd : (aput es' e.1 (rl, r2)).map (kk tV) = es'.map (kk tV) := by
      obtain ⟨B, C, e1, e2⟩ := aget_split hr0
      rw [e2, e1, List.map_append, List.map_append, List.map_cons, List.map_cons]
      rfl
    have hc3 := hc1 (rl, r2)
    have hD : Led H ((fd, .dK ((aput es' e.1 (rl, r2)).map (kk tV))) :: (xd, .dK (l1.map (kk lxV))) :: (rl, .lst (r2.map .str)) :: PQ CM CA CP s ds md pl ld od ms ps os g2 (R1 ++ R)) := by
      rw [hfd]
      unfold PQ
      unfold PL at hL
      (refine Led.le hL (fun a_ => ?_); have q0_ := hc2 a_; (try dsimp only at q0_); (try simp only [cnt_nil, cnt_cons, cnt_app, List.map_append, List.map_cons, List.map_nil, List.flatMap_append, List.flatMap_cons, List.flatMap_nil, List.append_assoc, List.cons_append, List.nil_append] at q0_); simp only [cnt_nil, cnt_cons, cnt_app, List.map_append, List.map_cons, List.map_nil, List.flatMap_append, List.flatMap_cons, List.flatMap_nil, List.append_assoc, List.cons_append, List.nil_append]; omega)
    clear hL
    have hL := hD
    dsimp only [PQ] at hL
    fail "go"
    refine k_fld hL (at_mem (.tail _ (.tail _ (.tail _ (.tail _ (.tail _ (.tail _ (.tail _ (.tail _ (List.mem_append_right _ (List.mem_append_right _ (List.mem_append_left _ (List.mem_map.mpr ⟨e, hem, rfl⟩))))))))))))) c3 f6 (by fail "lkF") ?_
    fail "go"
    refine ite_d (fun hlt => ?_) (fun hlt => ?_)
    · rw [List.length_map] at hlt
      rw [if_pos hlt] at step
      fail "go"
      refine k_fld hL (at_mem (.tail _ (.tail _ (.tail _ (.tail _ (.tail _ (.tail _ (.tail _ (.tail _ (List.mem_append_right _ (List.mem_append_right _ (List.mem_append_left _ (List.mem_map.mpr ⟨e, hem, rfl⟩))))))))))))) c3 f6 (by fail "lkF") ?_
      fail "go"
      refine k_fld hL (at_mem (.tail _ (.tail _ (.tail _ (.tail _ (.tail _ (.tail _ (.tail _ (.tail _ (List.mem_append_right _ (List.mem_append_right _ (List.mem_append_left _ (List.mem_map.mpr ⟨e, hem, rfl⟩))))))))))))) c3 f5 (by fail "lkF") ?_
      refine k_dputS (kvs' := (l1 ++ [(e.1, e.2.c - (r2.length : Int))]).map (kk lxV)) hL ⟨1, rfl⟩ (by rw [List.length_map]; exact small60 hll) (by rw [List.length_map, ← aput_names_out hnl]; exact kk_put (vo := lxV) hln) (by fail "up") fun H hL => ?_
      refine hD'.nx _ _ (.mk ⟨aput es' e.1 (rl, r2), v2, _, _, rfl, ?_, ?_⟩)
      · rw [step]
      · rw [step]
        unfold PQ
        dsimp only [List.set] at hL
        (refine Led.le hL (fun a_ => ?_); have q0_ := hc3 a_; (try dsimp only at q0_); (try simp only [cnt_nil, cnt_cons, cnt_app, List.map_append, List.map_cons, List.map_nil, List.flatMap_append, List.flatMap_cons, List.flatMap_nil, List.append_assoc, List.cons_append, List.nil_append, lstO] at q0_); simp only [cnt_nil, cnt_cons, cnt_app, List.map_append, List.map_cons, List.map_nil, List.flatMap_append, List.flatMap_cons, List.flatMap_nil, List.append_assoc, List.cons_append, List.nil_append, lstO]; omega)
    · rw [List.length_map] at hlt
      rw [if_neg hlt] at step
      fail "go"
      refine hD'.nx _ _ (.mk ⟨aput es' e.1 (rl, r2), v2, _, _, rfl, ?_, ?_⟩)
      · rw [step]
      · rw [step]
        unfold PQ at hD ⊢
        replace hL := hD
        (refine Led.le hL (fun a_ => ?_); have q0_ := hc3 a_; (try dsimp only at q0_); (try simp only [cnt_nil, cnt_cons, cnt_app, List.map_append, List.map_cons, List.map_nil, List.flatMap_append, List.flatMap_cons, List.flatMap_nil, List.append_assoc, List.cons_append, List.nil_append, lstO] at q0_); simp only [cnt_nil, cnt_cons, cnt_app, List.map_append, List.map_cons, List.map_nil, List.flatMap_append, List.flatMap_cons, List.flatMap_nil, List.append_assoc, List.cons_append, List.nil_append, lstO]; omega)
  · clear hL
    obtain ⟨es', v2, v4, v6, rfl, he, hL⟩ := h.out
    clear h
    have fi := pre (plA ps).length
    rw [List.length_map, ← plA_len] at hL he
    rw [List.take_length] at hL he fi
    change FI _ _ _ _ _ (fillA (ms.map (·.1)) (zf (plM ms)) ⟨g0, plF es, []⟩ (plA ps)) at fi
    change plF es' = (fillA (ms.map (·.1)) (zf (plM ms)) ⟨g0, plF es, []⟩ (plA ps)).f at he
    change Led _ (_ :: (_, HO.dK (List.map _ (fillA (ms.map (·.1)) (zf (plM ms)) ⟨g0, plF es, []⟩ (plA ps)).l)) :: PQ CM CA CP s ds md pl ld od ms ps os (fillA (ms.map (·.1)) (zf (plM ms)) ⟨g0, plF es, []⟩ (plA ps)).g _) at hL
    generalize fillA (ms.map (·.1)) (zf (plM ms)) ⟨g0, plF es, []⟩ (plA ps) = fs at fi he hL k
    have hnd : (es'.map (·.1)).Nodup := by rw [← plF_ns, he, fi.nm]; exact hps.nd
    have hlen : es'.length < 60 := by
      have h1 := congrArg List.length fi.nm
      rw [List.length_map, List.length_map, plA_len, ← he, plF_len] at h1
      omega
    have hL0 := hL
    dsimp only [PQ] at hL
    fail "go"
    refine ⟨fd, _, hL.at ⟨0, rfl⟩, trivial, fun od1 => ?_⟩
    generalize hH : upd H fd _ = H
    replace hL := Led.upU hL0 (o' := .frz od1 (.dK (es'.map (kk tV)))) ⟨0, rfl, rfl⟩ hH
    dsimp only [List.set] at hL
    clear hH hL0
    fail "go"
    refine ⟨fd, od1, rfl, .inl ⟨_, hL.at ⟨0, rfl⟩, fun D3 hD3 => dc_it (walk_keys (kvs := es'.map (kk tV))) (fun i H => Hold (∃ ts : List TupE, plF ts = (plF es').take i ∧ Led H ((D3, .dK (ts.map (kk tV))) :: (fd, .frz od1 (.dK (es'.map (kk tV)))) :: (xd, .dK (fs.l.map (kk lxV))) :: (ts.map tupO ++ PQ CM CA CP s ds md pl ld od ms ps os fs.g (es'.map lstO ++ R)))))
      (.mk ⟨[], rfl, hL.new hD3⟩) (fun i H _ h => ?_) (fun i v H1 H hi h hy => ?_) (fun H h => ?_)⟩⟩
    · obtain ⟨ts, _, hL⟩ := h.out
      exact hL.mem (.tail _ (.head _))
    · clear hL
      obtain ⟨ts, hts, hL⟩ := h.out
      clear h
      obtain ⟨rfl, kx, vx, hk, rfl⟩ := hy
      rw [List.getElem?_map] at hk
      obtain ⟨e, hee, hk⟩ := Option.map_eq_some_iff.mp hk
      obtain ⟨rfl, rfl⟩ := Prod.mk.inj hk
      have hm := List.mem_of_getElem? hee
      have lk : valV (es'.map (kk tV)) (Sum.inr e.1) = some (.ref e.2.1) := by rw [tv_val, mem_aget hnd (k := e.1) (v := e.2) hm]; rfl
      have hpe : (plF es')[i]? = some (e.1, e.2.2) := by unfold plF; rw [List.getElem?_map, hee]; rfl
      have hns : ts.map (·.1) = ((es'.map (·.1)).take i) := by rw [← plF_ns, hts, List.map_take, plF_ns]
      have hnew : e.1 ∉ ts.map (·.1) := by
        rw [hns, ← List.map_take]
        have h1 := nd_at (ps := es'.map fun x => ((x.1, 0, 0) : PRow)) (i := i) (p := (e.1, 0, 0)) (by rw [List.map_map]; exact hnd) (by rw [List.getElem?_map, hee]; rfl)
        rw [← List.map_take, List.map_map] at h1
        exact h1
      have hnd2 : (ts.map (·.1)).Nodup := by rw [hns]; exact hnd.sublist (List.take_sublist _ _)
      have hl2 : ts.length < 60 := by
        have := congrArg List.length hns
        rw [List.length_map, List.length_take, List.length_map] at this
        omega
      refine ⟨rfl, k_yes ?_⟩
      fail "go"
      refine k_dgetFS hL ⟨1, rfl⟩ lk ?_
      unfold PQ at hL
      refine ⟨_, _, rfl, .inl ⟨.of (hL.mem (.tail _ (.tail _ (.tail _ (List.mem_append_right _ (.tail _ (.tail _ (.tail _ (.tail _ (.tail _ (List.mem_append_right _ (List.mem_append_right _ (List.mem_append_right _ (List.mem_append_left _ (List.mem_map.mpr ⟨e, hm, rfl⟩))))))))))))))), fun t ht => ?_⟩⟩
      generalize hH : upd H t _ = H
      replace hL := Led.newH hL ht hH
      clear hH ht
      refine ⟨_, .inr e.1, rfl, hL.at ⟨1, rfl⟩, by rw [List.length_map]; exact small60 hl2, ?_⟩
      have e2 : putK (ts.map (kk tV)) (Sum.inr e.1) (.ref t) = (ts ++ [(e.1, (t, e.2.2))]).map (kk tV) := by
        rw [← aput_names_out hnew]
        exact kk_put (vo := tV) (v := (t, e.2.2)) hnd2
      rw [e2]
      refine .mk ⟨ts ++ [(e.1, (t, e.2.2))], ?_, ?_⟩
      · rw [List.take_add_one, hpe, ← hts]
        unfold plF
        rw [List.map_append]
        rfl
      · replace hL := hL.upU (o' := .dK ((ts ++ [(e.1, (t, e.2.2))]).map (kk tV))) ⟨1, rfl, rfl⟩ rfl
        unfold PQ
        dsimp only [List.set] at hL
        (refine Led.le hL (fun a_ => ?_); simp only [cnt_nil, cnt_cons, cnt_app, List.map_append, List.map_cons, List.map_nil, List.flatMap_append, List.flatMap_cons, List.flatMap_nil, List.append_assoc, List.cons_append, List.nil_append, tupO]; omega)
    clear hL
    obtain ⟨ts, hts, hL⟩ := h.out
    clear h
    rw [List.length_map, ← plF_len, List.take_length] at hts
    refine ⟨hL.at ⟨1, rfl⟩, ?_⟩
    generalize hH : upd H fd _ = H
    replace hL := Led.upU hL (o' := .dK (es'.map (kk tV))) (by fail "up") hH
    fail "cl"
    fail "go"
    refine k p D3 xd ts H (hts.trans he) ?_
    unfold PQ at hL ⊢
    (refine Led.le hL (fun a_ => ?_); simp only [cnt_nil, cnt_cons, cnt_app, List.map_append, List.map_cons, List.map_nil, List.flatMap_append, List.flatMap_cons, List.flatMap_nil, List.append_assoc, List.cons_append, List.nil_append]; omega)
end
end Sd


set_option linter.unusedVariables false
namespace Sd
open PySem L2
open PyProof.Rows (sortedS)
open C8 (Cal Met Mak pe_c pe_mk pe_mt pe_mt0 pss_cut tCut)
set_option linter.unusedSimpArgs false
set_option pp.deepTerms false
set_option pp.deepTerms.threshold 12
set_option hygiene false
local macro_rules | `(tactic| fail "nd") => `(tactic| first | assumption | decide +kernel)
local macro_rules | `(tactic| fail "ix") => `(tactic| first | exact ⟨0, rfl⟩ | exact ⟨1, rfl⟩ | exact ⟨2, rfl⟩ | exact ⟨3, rfl⟩ | exact ⟨4, rfl⟩ | exact ⟨5, rfl⟩ | exact ⟨6, rfl⟩ | exact ⟨7, rfl⟩ | exact ⟨8, rfl⟩ | exact ⟨9, rfl⟩ | exact ⟨10, rfl⟩ | exact ⟨11, rfl⟩ | exact ⟨12, rfl⟩ | exact ⟨13, rfl⟩ | exact ⟨14, rfl⟩ | exact ⟨15, rfl⟩ | exact ⟨16, rfl⟩ | exact ⟨17, rfl⟩ | exact ⟨18, rfl⟩ | assumption)
local macro_rules | `(tactic| fail "up") => `(tactic| first | exact ⟨0, rfl, rfl⟩ | exact ⟨1, rfl, rfl⟩ | exact ⟨2, rfl, rfl⟩ | exact ⟨3, rfl, rfl⟩ | exact ⟨4, rfl, rfl⟩ | exact ⟨5, rfl, rfl⟩ | exact ⟨6, rfl, rfl⟩ | exact ⟨7, rfl, rfl⟩ | exact ⟨8, rfl, rfl⟩ | exact ⟨9, rfl, rfl⟩ | exact ⟨10, rfl, rfl⟩ | exact ⟨11, rfl, rfl⟩ | exact ⟨12, rfl, rfl⟩ | exact ⟨13, rfl, rfl⟩ | exact ⟨14, rfl, rfl⟩ | exact ⟨15, rfl, rfl⟩ | exact ⟨16, rfl, rfl⟩ | assumption)
local macro_rules | `(tactic| fail "lkF") => `(tactic| first | assumption | exact fz_at 0 (by fail "nd") rfl rfl | exact fz_at 1 (by fail "nd") rfl rfl | exact fz_at 2 (by fail "nd") rfl rfl | exact fz_at 3 (by fail "nd") rfl rfl | exact fz_at 4 (by fail "nd") rfl rfl | exact fz_at 5 (by fail "nd") rfl rfl | exact fz_at 6 (by fail "nd") rfl rfl | exact fz_at 7 (by fail "nd") rfl rfl)
local macro_rules | `(tactic| fail "lkD") => `(tactic| first | assumption | exact dz_at 0 (by fail "nd") rfl rfl | exact dz_at 1 (by fail "nd") rfl rfl | exact dz_at 2 (by fail "nd") rfl rfl | exact dz_at 3 (by fail "nd") rfl rfl | exact dz_at 4 (by fail "nd") rfl rfl)
local macro_rules | `(tactic| fail "ptF") => `(tactic| first | assumption | exact fz_put 0 (by fail "nd") rfl (Nat.le_of_ble_eq_true rfl) | exact fz_put 1 (by fail "nd") rfl (Nat.le_of_ble_eq_true rfl) | exact fz_put 2 (by fail "nd") rfl (Nat.le_of_ble_eq_true rfl) | exact fz_put 3 (by fail "nd") rfl (Nat.le_of_ble_eq_true rfl) | exact fz_put 4 (by fail "nd") rfl (Nat.le_of_ble_eq_true rfl) | exact fz_put 5 (by fail "nd") rfl (Nat.le_of_ble_eq_true rfl) | exact fz_put 6 (by fail "nd") rfl (Nat.le_of_ble_eq_true rfl) | exact fz_put 7 (by fail "nd") rfl (Nat.le_of_ble_eq_true rfl) | exact fz_new (by decide +kernel) rfl)
local macro_rules | `(tactic| fail "ptD") => `(tactic| first | assumption | exact dz_put 0 (by fail "nd") rfl (Nat.le_of_ble_eq_true rfl) | exact dz_put 1 (by fail "nd") rfl (Nat.le_of_ble_eq_true rfl) | exact dz_put 2 (by fail "nd") rfl (Nat.le_of_ble_eq_true rfl) | exact dz_put 3 (by fail "nd") rfl (Nat.le_of_ble_eq_true rfl) | exact dz_put 4 (by fail "nd") rfl (Nat.le_of_ble_eq_true rfl))
local macro_rules | `(tactic| fail "sz") => `(tactic| first | assumption | exact (Nat.le_of_ble_eq_true rfl) | omega | decide)
local macro_rules | `(tactic| fail "sd") => `(tactic| first | rfl | assumption | decide | omega | (dsimp only; first | decide | omega) | exact .inr ⟨by decide, by decide⟩ | exact .inl ⟨by decide, by decide⟩ | exact ⟨by omega, by omega⟩ | exact .inl ⟨by omega, by omega⟩ | exact .inr ⟨by omega, by omega⟩ | exact ⟨by omega, by omega, by omega⟩)
local macro_rules | `(tactic| fail "cl") => `(tactic| (clear hH; dsimp only [List.set, List.cons_append, List.nil_append, List.append] at hL))
local macro_rules | `(tactic| fail "gn") => `(tactic| (intro p hp; generalize hH : upd H p _ = H; replace hL := Led.newH hL hp hH; clear hH hp))
local macro_rules | `(tactic| fail "gup") => `(tactic| (generalize hH : upd H _ _ = H; replace hL := Led.upU hL (by fail "up") hH; fail "cl"))
local macro_rules | `(tactic| fail "gmk") => `(tactic| (intro x dx hx hd ne; generalize hH : upd (upd H dx _) x _ = H; replace hL := Led.made hL hx hd ne hH; clear hH hx hd ne))
local macro_rules | `(tactic| fail "v") => `(tactic| refine ⟨_, rfl, ?_⟩)
local macro_rules | `(tactic| fail "i2") => `(tactic| refine ⟨_, _, rfl, rfl, ?_⟩)
local macro_rules | `(tactic| fail "go1") => `(tactic| first
  | refine ⟨_, rfl, ?_⟩
  | refine ⟨_, _, rfl, rfl, ?_⟩
  | refine ⟨_, _, rfl, ?_⟩
  | refine iteT ?_
  | refine iteF ?_
  | refine k_fld hL (by fail "ix") (by assumption) (by assumption) (by fail "lkF") ?_
  | refine k_dgetS hL (by fail "ix") (by fail "lkD") ?_
  | refine k_dgetI hL (by fail "ix") (by assumption) ?_
  | refine k_ixL hL (by fail "ix") (by first | rfl | assumption) ?_
  | refine k_ixT hL (by fail "ix") (by first | rfl | assumption) ?_
  | refine k_tyL hL (by fail "ix") ?_
  | refine k_isd hL (by fail "ix") ?_
  | (refine And.intro (by fail "sz") ?_; fail "gn")
  | refine And.intro (by fail "sd") ?_
  | fail "gn"
  | refine k_meth hL (by fail "ix") (by first | assumption | exact fz_no (by decide +kernel)) ?_
  | refine k_gtup hL (by fail "ix") rfl ?_
  | (refine k_popI hL (by fail "ix") (by assumption) ?_; fail "gup")
  | (refine k_listD hL (by fail "ix") ?_; fail "gn")
  | (refine ⟨_, _, _, _, rfl, rfl, hL.at (by fail "ix"), rfl, ?_⟩; fail "gup")
  | (refine ⟨_, _, _, rfl, rfl, hL.at (by fail "ix"), (by fail "sz"), ?_⟩; fail "gup")
  | (refine ⟨_, _, _, _, rfl, hL.at (by fail "ix"), by assumption, by assumption, Nat.lt_of_le_of_lt fz_len (by decide), ?_⟩; generalize hH : upd H _ _ = H; replace hL := Led.upF hL (by fail "up") (by fail "ptF") hH; fail "cl")
  | (refine ⟨_, _, hL.at (by fail "ix"), Nat.lt_of_le_of_lt fz_len (by decide), ?_⟩; generalize hH : upd H _ _ = H; replace hL := Led.upF hL (by fail "up") (by fail "ptF") hH; fail "cl")
  | (refine k_dputS hL (by fail "ix") (Nat.lt_of_le_of_lt dz_len (by decide)) (by fail "ptD") (by fail "up") ?_; clear hL; intro H hL; dsimp only [List.set, List.cons_append, List.nil_append, List.append] at hL)
  | refine k_lenL2 hL (by fail "ix") ?_
  | refine k_lenT2 hL (by fail "ix") ?_
  | refine .inl ⟨_, rfl, ?_⟩
  | refine .inr ⟨_, rfl, ?_⟩)
local macro_rules | `(tactic| fail "go") => `(tactic| repeat fail "go1")
local macro_rules | `(tactic| fail "pm") => `(tactic| (refine Led.le hL (fun a_ => ?_); simp only [cnt_nil, cnt_cons, cnt_app, List.map_append, List.map_cons, List.map_nil, List.flatMap_append, List.flatMap_cons, List.flatMap_nil, List.append_assoc, List.cons_append, List.nil_append]; omega))

section
variable {P : Program} {w : World} {K : PySem.W.Frag} {mg : Str → Option Value} {base : Heap} {CM CA CP CE : Addr}
theorem ok_plan {f : Addr} {fd : FuncData} (F : Fun K "plan" "Planner.plan" sPlan f fd) (X : TxtP K mg CM CA CP) (T : TxtF mg) (c_Planner_staying : Met P w K mg base 2 CP "staying" (spStay CM CA CP) []) (c_Planner_best_for : Met P w K mg base 2 CP "best_for" (spBest CM CA CP) []) :
    FnOk P w K mg base CX0 3 f fd ["self", "old"] (spPlan CM CA CP) := by
  refine F.ok scPlan (fun vs H Q E h => ?_) (fun cdv A outer s0 H vs Q E hr h => ?_)
  · obtain ⟨s, ds, md, pl, ld, od, ms, ps, os, g, R, rfl, _⟩ := h
    rfl
  · obtain ⟨s, ds, md, pl, ld, od, ms, ps, os, g, R, rfl, hL, nm, hs, zm, hr0, hps, zp, no, k⟩ := h
    have c1 := X.clP
    have c2 := X.clM
    have c3 := X.clA
    have f1 := X.nP "machines" (by decide +kernel)
    have f2 := X.nP "parts" (by decide +kernel)
    have f3 := X.nP "left" (by decide +kernel)
    have f4 := X.nM "room" (by decide +kernel)
    have f5 := X.nA "name" (by decide +kernel)
    have f6 := X.nA "copies" (by decide +kernel)
    refine ⟨_, pss_cons (ps_fld (pv 0) (pe_lock (pe_dc (own := [("name", 2)]) (g := gName 2) (by rfl) scPlan.nd (pi_keys (pe_fld (pv 0) rfl)) (blkOk_by (own := [("name", 2)]) (N := ["self", "old", "name", "found", "part", "lacks", "rows"]) (sc := (defScope sPlan)) (by decide +kernel)) (fun _ _ _ _ _ => (pg_name (i := 2) scPlan.nd rfl (Or.inl rfl))) (fun _ _ _ _ _ => pts_nil) (fun _ _ _ _ _ => (pv 2)) (fun _ _ _ _ _ => (pe_fldB (pe_dget (hu_of hr) (pe_fldB (pv 0) rfl) (pv 2) (fun _ _ => rfl)) rfl)))) rfl) (pss_cons (ps_set (i := 3) scPlan.nd rfl (Or.inr rfl) (pe_dc (own := [("part", 4)]) (g := gName 4) (by rfl) scPlan.nd (pi_list (pe_fld (pv 0) rfl)) (blkOk_by (own := [("part", 4)]) (N := ["self", "old", "name", "found", "part", "lacks", "rows"]) (sc := (defScope sPlan)) (by decide +kernel)) (fun _ _ _ _ _ => (pg_name (i := 4) scPlan.nd rfl (Or.inl rfl))) (fun _ _ _ _ _ => pts_nil) (fun _ _ _ _ _ => (pe_fldB (pv 4) rfl)) (fun _ _ _ _ _ => (pe_mt c_Planner_staying hr (by decide) (pv 0) (pa_cons (pv 4) (pa_cons (pe_dget2 (hu_of hr) (pv 1) (pe_fldB (pv 4) rfl) (pe_tup pa_nil) ⟨rfl, rfl, rfl, rfl⟩) pa_nil)))))) (st_rest hr X T c_Planner_best_for)), ?_⟩
    replace hL : Led H ((s, .ins CP ds (fz nmP [.ref md, .ref pl, .ref ld])) :: (md, .dK (ms.map (kk mV))) :: (ms.map (mO CM) ++ ((pl, .lst (ps.map pV)) :: (od, .dK (os.map (kk tV))) :: (os.map tupO ++ (ps.map (pO CA) ++ R))))) := by
      unfold PL at hL
      (refine Led.le hL (fun a_ => ?_); simp only [cnt_nil, cnt_cons, cnt_app, List.map_append, List.map_cons, List.map_nil, List.flatMap_append, List.flatMap_cons, List.flatMap_nil, List.append_assoc, List.cons_append, List.nil_append]; omega)
    fail "go"
    refine ⟨md, _, hL.at ⟨1, rfl⟩, trivial, fun od1 => ?_⟩
    generalize hH : upd H md _ = H
    replace hL := Led.upU hL (o' := .frz od1 (.dK (ms.map (kk mV)))) (by fail "up") hH
    fail "cl"
    fail "go"
    refine ⟨md, od1, rfl, .inl ⟨_, hL.at ⟨1, rfl⟩, fun D1 hD1 => dc_it (walk_keys (kvs := ms.map (kk mV))) (fun i H => Hold (Led H ((D1, .dK ((dputL (ms.take i)).map (kk rmV))) :: (s, .ins CP ds (fz nmP [.ref md, .ref pl, .ref ld])) :: (md, .frz od1 (.dK (ms.map (kk mV)))) :: (ms.map (mO CM) ++ ((pl, .lst (ps.map pV)) :: (od, .dK (os.map (kk tV))) :: (os.map tupO ++ (ps.map (pO CA) ++ R))))))) (.mk (hL.new hD1)) (fun i H _ h => h.out.mem (.tail _ (.tail _ (.head _)))) (fun i v H1 H hi h hy => ?_) (fun H h => ?_)⟩⟩
    · clear hL
      have hL := h.out
      clear h
      obtain ⟨rfl, kx, vx, hk, rfl⟩ := hy
      rw [List.getElem?_map] at hk
      obtain ⟨e, he, hk⟩ := Option.map_eq_some_iff.mp hk
      obtain ⟨rfl, rfl⟩ := Prod.mk.inj hk
      have hm := List.mem_of_getElem? he
      have lk : valV (ms.map (kk mV)) (Sum.inr e.1) = some (.ref e.2.a) := by rw [ms_val, mem_aget nm (k := e.1) (v := e.2) hm]; rfl
      refine ⟨rfl, k_yes ?_⟩
      fail "go"
      refine k_dgetFS hL ⟨2, rfl⟩ lk ?_
      refine k_fld hL (at_mem (.tail _ (.tail _ (.tail _ (List.mem_append_left _ (List.mem_map.mpr ⟨e, hm, rfl⟩)))))) c2 f4 (by fail "lkF") ?_
      refine ⟨_, .inr e.1, rfl, hL.at ⟨0, rfl⟩, ?_, .mk ?_⟩
      · rw [List.length_map]
        have h1 := (dput_le (l := ms.take i)).1
        rw [List.length_take] at h1
        exact Nat.lt_trans (show (dputL (ms.take i)).length < 60 by omega) (by decide)
      · rw [List.take_add_one, he, Option.toList_some, dput_snoc]
        have e2 : putK ((dputL (ms.take i)).map (kk rmV)) (Sum.inr e.1) (rmV e) = (aput (dputL (ms.take i)) e.1 e.2).map (kk rmV) := kk_put (v := e.2) dput_nd
        rw [show V.int e.2.r = rmV e from rfl, e2]
        exact hL.upU (o' := .dK ((aput (dputL (ms.take i)) e.1 e.2).map (kk rmV))) ⟨0, rfl, rfl⟩ rfl
    clear hL
    have hL := h.out
    clear h
    rw [List.length_map, List.take_length, dput_of nm, rm_lf nm] at hL
    refine ⟨hL.at ⟨2, rfl⟩, ?_⟩
    generalize hH : upd H md _ = H
    replace hL := Led.upU hL (o' := .dK (ms.map (kk mV))) (by fail "up") hH
    fail "cl"
    fail "go"
    replace hL : Led H (PQ CM CA CP s ds md pl D1 od ms ps os (rf (plM ms)) R) := by
      unfold PQ
      (refine Led.le hL (fun a_ => ?_); simp only [cnt_nil, cnt_cons, cnt_app, List.map_append, List.map_cons, List.map_nil, List.flatMap_append, List.flatMap_cons, List.flatMap_nil, List.append_assoc, List.cons_append, List.nil_append]; omega)
    refine ⟨⟨_, .of (hL.at ⟨4, rfl⟩)⟩, fun D2 hD2 => dc_it (walk_list (K := K) (a := pl) (xs := ps.map pV)) (fun i H => Hold (∃ es : List TupE, plF es = (((plA ps).take i).foldl (stayS (ms.map (·.1)) (zf (plM ms)) (plF os)) (rf (plM ms), [])).2 ∧
      Led H ((D2, .dK (es.map (kk tV))) :: PQ CM CA CP s ds md pl D1 od ms ps os (((plA ps).take i).foldl (stayS (ms.map (·.1)) (zf (plM ms)) (plF os)) (rf (plM ms), [])).1 (es.map lstO ++ R)))) (.mk ⟨[], rfl, hL.new hD2⟩) (fun i H _ h => ?_) (fun i x H1 H hi h hy => ?_) (fun H h => ?_)⟩
    · obtain ⟨es, _, hL⟩ := h.out
      exact .of (hL.at ⟨5, rfl⟩)
    · clear hL
      obtain ⟨es, he, hL⟩ := h.out
      clear h
      obtain ⟨rfl, hx⟩ := hy
      rw [List.getElem?_map] at hx
      obtain ⟨e, hpe, rfl⟩ := Option.map_eq_some_iff.mp hx
      have hem := List.mem_of_getElem? hpe
      have hpl : (plA ps)[i]? = some (e.1, e.2.w, e.2.c) := by unfold plA; rw [List.getElem?_map, hpe]; rfl
      have hpm := List.mem_of_getElem? hpl
      have step : ((plA ps).take (i + 1)).foldl (stayS (ms.map (·.1)) (zf (plM ms)) (plF os)) (rf (plM ms), []) = stayS (ms.map (·.1)) (zf (plM ms)) (plF os) (((plA ps).take i).foldl (stayS (ms.map (·.1)) (zf (plM ms)) (plF os)) (rf (plM ms), [])) (e.1, e.2.w, e.2.c) := by
        rw [List.take_add_one, hpl, Option.toList_some, List.foldl_append]; rfl
      have hns := stay_names (ns := ms.map (·.1)) (z := zf (plM ms)) (old := plF os) ((plA ps).take i) (rf (plM ms), [])
      have hnew : e.1 ∉ es.map (·.1) := by
        rw [← plF_ns, he, hns, List.map_nil, List.nil_append]
        intro hm
        have h1 := hps.nd
        rw [← List.take_append_drop i (plA ps), List.map_append] at h1
        refine (List.nodup_append.mp h1).2.2 _ hm e.1 ?_ rfl
        rw [List.drop_eq_getElem_cons (List.getElem?_eq_some_iff.mp hpl).1, (List.getElem?_eq_some_iff.mp hpl).2]
        exact List.mem_map.mpr ⟨_, .head _, rfl⟩
      have hnd : (es.map (·.1)).Nodup := by
        rw [← plF_ns, he, hns, List.map_nil, List.nil_append, List.map_take]
        exact hps.nd.sublist (List.take_sublist _ _)
      have hlen : es.length < 60 := by
        have h1 : es.length = (((plA ps).take i).foldl (stayS (ms.map (·.1)) (zf (plM ms)) (plF os)) (rf (plM ms), [])).2.length := by rw [← he, plF_len]
        have h2 := congrArg List.length hns
        rw [List.length_map, List.length_append, List.length_map, List.length_map, List.length_nil, List.length_take, plA_len] at h2
        omega
      generalize ((plA ps).take i).foldl (stayS (ms.map (·.1)) (zf (plM ms)) (plF os)) (rf (plM ms), []) = gs at step he hL
      obtain ⟨g1, f0⟩ := gs
      dsimp only at he hL
      subst he
      refine ⟨rfl, k_yes ?_⟩
      have hL0 := hL
      dsimp only [PQ] at hL
      fail "go"
      refine k_fld hL (at_mem (.tail _ (.tail _ (.tail _ (.tail _ (.tail _ (.tail _ (List.mem_append_right _ (List.mem_append_right _ (List.mem_append_left _ (List.mem_map.mpr ⟨e, hem, rfl⟩))))))))))) c3 f5 (by fail "lkF") ?_
      fail "go"
      refine k_fld hL (at_mem (.tail _ (.tail _ (.tail _ (.tail _ (.tail _ (.tail _ (List.mem_append_right _ (List.mem_append_right _ (List.mem_append_left _ (List.mem_map.mpr ⟨e, hem, rfl⟩))))))))))) c3 f5 (by fail "lkF") ?_
      fail "go"
      obtain ⟨nt, hnt, hnm⟩ := old_get (os := os) (k := e.1) (p := p)
      obtain ⟨R1, hc1⟩ := mem_cnt hnm
      obtain ⟨R2, hc2⟩ := mem_cnt (show pO CA e ∈ ps.map (pO CA) from List.mem_map.mpr ⟨e, hem, rfl⟩)
      refine k_getS hL (by fail "ix") ?_
      rw [hnt]
      refine ⟨s, ds, md, pl, D1, nt, ms, g1, e, oldOf (plF os) e.1, R1 ++ (R2 ++ ((D2, .dK (es.map (kk tV))) :: (od, .dK (os.map (kk tV))) :: (pl, .lst (ps.map pV)) :: (es.map lstO ++ R))), rfl, ?_, zm, (hps.c _ hpm).2, fun fl H hL => ?_⟩
      · unfold PL
        (refine Led.le hL (fun a_ => ?_); have q0_ := hc1 a_; (try dsimp only at q0_); (try simp only [cnt_nil, cnt_cons, cnt_app, List.map_append, List.map_cons, List.map_nil, List.flatMap_append, List.flatMap_cons, List.flatMap_nil, List.append_assoc, List.cons_append, List.nil_append] at q0_); have q1_ := hc2 a_; (try dsimp only at q1_); (try simp only [cnt_nil, cnt_cons, cnt_app, List.map_append, List.map_cons, List.map_nil, List.flatMap_append, List.flatMap_cons, List.flatMap_nil, List.append_assoc, List.cons_append, List.nil_append] at q1_); simp only [cnt_nil, cnt_cons, cnt_app, List.map_append, List.map_cons, List.map_nil, List.flatMap_append, List.flatMap_cons, List.flatMap_nil, List.append_assoc, List.cons_append, List.nil_append]; omega)
      have hD : Led H ((D2, .dK (es.map (kk tV))) :: PQ CM CA CP s ds md pl D1 od ms ps os (stayP (ms.map (·.1)) (zf (plM ms)) e.2.w e.2.c g1 (oldOf (plF os) e.1)).1 ((fl, .lst ((stayP (ms.map (·.1)) (zf (plM ms)) e.2.w e.2.c g1 (oldOf (plF os) e.1)).2.map .str)) :: (es.map lstO ++ R))) := by
        unfold PQ
        unfold PL at hL
        (refine Led.le hL (fun a_ => ?_); have q0_ := hc1 a_; (try dsimp only at q0_); (try simp only [cnt_nil, cnt_cons, cnt_app, List.map_append, List.map_cons, List.map_nil, List.flatMap_append, List.flatMap_cons, List.flatMap_nil, List.append_assoc, List.cons_append, List.nil_append] at q0_); have q1_ := hc2 a_; (try dsimp only at q1_); (try simp only [cnt_nil, cnt_cons, cnt_app, List.map_append, List.map_cons, List.map_nil, List.flatMap_append, List.flatMap_cons, List.flatMap_nil, List.append_assoc, List.cons_append, List.nil_append] at q1_); simp only [cnt_nil, cnt_cons, cnt_app, List.map_append, List.map_cons, List.map_nil, List.flatMap_append, List.flatMap_cons, List.flatMap_nil, List.append_assoc, List.cons_append, List.nil_append]; omega)
      refine ⟨_, .inr e.1, rfl, hD.at ⟨0, rfl⟩, by rw [List.length_map]; exact small60 hlen, ?_⟩
      have e2 : putK (es.map (kk tV)) (Sum.inr e.1) (.ref fl) = (es ++ [(e.1, (fl, (stayP (ms.map (·.1)) (zf (plM ms)) e.2.w e.2.c g1 (oldOf (plF os) e.1)).2))]).map (kk tV) := by
        rw [← aput_names_out hnew]
        exact kk_put (vo := tV) (v := (fl, (stayP (ms.map (·.1)) (zf (plM ms)) e.2.w e.2.c g1 (oldOf (plF os) e.1)).2)) hnd
      rw [e2]
      refine .mk ⟨es ++ [(e.1, (fl, (stayP (ms.map (·.1)) (zf (plM ms)) e.2.w e.2.c g1 (oldOf (plF os) e.1)).2))], ?_, ?_⟩
      · rw [step]
        unfold plF stayS
        rw [List.map_append]
        rfl
      · rw [step]
        have hL := hD.upU (o' := .dK ((es ++ [(e.1, (fl, (stayP (ms.map (·.1)) (zf (plM ms)) e.2.w e.2.c g1 (oldOf (plF os) e.1)).2))]).map (kk tV))) ⟨0, rfl, rfl⟩ rfl
        unfold stayS
        unfold PQ at hL ⊢
        dsimp only [List.set] at hL ⊢
        (refine Led.le hL (fun a_ => ?_); simp only [cnt_nil, cnt_cons, cnt_app, List.map_append, List.map_cons, List.map_nil, List.flatMap_append, List.flatMap_cons, List.flatMap_nil, List.append_assoc, List.cons_append, List.nil_append, lstO]; omega)
    clear hL
    obtain ⟨es, he, hL⟩ := h.out
    clear h
    rw [List.length_map, ← plA_len, List.take_length] at hL
    rw [List.length_map, ← plA_len, List.take_length] at he
    have hr1 : ∀ n ∈ ms.map (·.1), 0 ≤ rf (plM ms) n := fun n hn => by
      obtain ⟨d, hd⟩ := aget_in hn
      rw [rf_of hd]
      exact hr0 _ (aget_mem hd)
    refine ⟨s, ds, md, pl, D1, od, D2, ms, ps, os, es, _, _, _, _, R, rfl, hs, zm, hr1, hps, zp, he, hL, fun t fd xd ts H hts hL => ?_⟩
    unfold planP at k
    rw [plM_ns] at k
    refine k t fd xd D1 ts H hts ?_
    unfold PQ at hL
    unfold PL
    (refine Led.le hL (fun a_ => ?_); simp only [cnt_nil, cnt_cons, cnt_app, List.map_append, List.map_cons, List.map_nil, List.flatMap_append, List.flatMap_cons, List.flatMap_nil, List.append_assoc, List.cons_append, List.nil_append]; omega)
end
end Sd


set_option linter.unusedVariables false
namespace Sd
open PySem L2
open PyProof.Rows (sortedS)
open C8 (Cal Met Mak pe_c pe_mk pe_mt pe_mt0 pss_cut tCut)
set_option linter.unusedSimpArgs false
set_option pp.deepTerms false
set_option pp.deepTerms.threshold 12
set_option hygiene false
local macro_rules | `(tactic| fail "nd") => `(tactic| first | assumption | decide +kernel)
local macro_rules | `(tactic| fail "ix") => `(tactic| first | exact ⟨0, rfl⟩ | exact ⟨1, rfl⟩ | exact ⟨2, rfl⟩ | exact ⟨3, rfl⟩ | exact ⟨4, rfl⟩ | exact ⟨5, rfl⟩ | exact ⟨6, rfl⟩ | exact ⟨7, rfl⟩ | exact ⟨8, rfl⟩ | exact ⟨9, rfl⟩ | exact ⟨10, rfl⟩ | exact ⟨11, rfl⟩ | exact ⟨12, rfl⟩ | exact ⟨13, rfl⟩ | exact ⟨14, rfl⟩ | exact ⟨15, rfl⟩ | exact ⟨16, rfl⟩ | exact ⟨17, rfl⟩ | exact ⟨18, rfl⟩ | assumption)
local macro_rules | `(tactic| fail "up") => `(tactic| first | exact ⟨0, rfl, rfl⟩ | exact ⟨1, rfl, rfl⟩ | exact ⟨2, rfl, rfl⟩ | exact ⟨3, rfl, rfl⟩ | exact ⟨4, rfl, rfl⟩ | exact ⟨5, rfl, rfl⟩ | exact ⟨6, rfl, rfl⟩ | exact ⟨7, rfl, rfl⟩ | exact ⟨8, rfl, rfl⟩ | exact ⟨9, rfl, rfl⟩ | exact ⟨10, rfl, rfl⟩ | exact ⟨11, rfl, rfl⟩ | exact ⟨12, rfl, rfl⟩ | exact ⟨13, rfl, rfl⟩ | exact ⟨14, rfl, rfl⟩ | exact ⟨15, rfl, rfl⟩ | exact ⟨16, rfl, rfl⟩ | assumption)
local macro_rules | `(tactic| fail "lkF") => `(tactic| first | assumption | exact fz_at 0 (by fail "nd") rfl rfl | exact fz_at 1 (by fail "nd") rfl rfl | exact fz_at 2 (by fail "nd") rfl rfl | exact fz_at 3 (by fail "nd") rfl rfl | exact fz_at 4 (by fail "nd") rfl rfl | exact fz_at 5 (by fail "nd") rfl rfl | exact fz_at 6 (by fail "nd") rfl rfl | exact fz_at 7 (by fail "nd") rfl rfl)
local macro_rules | `(tactic| fail "lkD") => `(tactic| first | assumption | exact dz_at 0 (by fail "nd") rfl rfl | exact dz_at 1 (by fail "nd") rfl rfl | exact dz_at 2 (by fail "nd") rfl rfl | exact dz_at 3 (by fail "nd") rfl rfl | exact dz_at 4 (by fail "nd") rfl rfl)
local macro_rules | `(tactic| fail "ptF") => `(tactic| first | assumption | exact fz_put 0 (by fail "nd") rfl (Nat.le_of_ble_eq_true rfl) | exact fz_put 1 (by fail "nd") rfl (Nat.le_of_ble_eq_true rfl) | exact fz_put 2 (by fail "nd") rfl (Nat.le_of_ble_eq_true rfl) | exact fz_put 3 (by fail "nd") rfl (Nat.le_of_ble_eq_true rfl) | exact fz_put 4 (by fail "nd") rfl (Nat.le_of_ble_eq_true rfl) | exact fz_put 5 (by fail "nd") rfl (Nat.le_of_ble_eq_true rfl) | exact fz_put 6 (by fail "nd") rfl (Nat.le_of_ble_eq_true rfl) | exact fz_put 7 (by fail "nd") rfl (Nat.le_of_ble_eq_true rfl) | exact fz_new (by decide +kernel) rfl)
local macro_rules | `(tactic| fail "ptD") => `(tactic| first | assumption | exact dz_put 0 (by fail "nd") rfl (Nat.le_of_ble_eq_true rfl) | exact dz_put 1 (by fail "nd") rfl (Nat.le_of_ble_eq_true rfl) | exact dz_put 2 (by fail "nd") rfl (Nat.le_of_ble_eq_true rfl) | exact dz_put 3 (by fail "nd") rfl (Nat.le_of_ble_eq_true rfl) | exact dz_put 4 (by fail "nd") rfl (Nat.le_of_ble_eq_true rfl))
local macro_rules | `(tactic| fail "sz") => `(tactic| first | assumption | exact (Nat.le_of_ble_eq_true rfl) | omega | decide)
local macro_rules | `(tactic| fail "sd") => `(tactic| first | rfl | assumption | decide | omega | (dsimp only; first | decide | omega) | exact .inr ⟨by decide, by decide⟩ | exact .inl ⟨by decide, by decide⟩ | exact ⟨by omega, by omega⟩ | exact .inl ⟨by omega, by omega⟩ | exact .inr ⟨by omega, by omega⟩ | exact ⟨by omega, by omega, by omega⟩)
local macro_rules | `(tactic| fail "cl") => `(tactic| (clear hH; dsimp only [List.set, List.cons_append, List.nil_append, List.append] at hL))
local macro_rules | `(tactic| fail "gn") => `(tactic| (intro p hp; generalize hH : upd H p _ = H; replace hL := Led.newH hL hp hH; clear hH hp))
local macro_rules | `(tactic| fail "gup") => `(tactic| (generalize hH : upd H _ _ = H; replace hL := Led.upU hL (by fail "up") hH; fail "cl"))
local macro_rules | `(tactic| fail "gmk") => `(tactic| (intro x dx hx hd ne; generalize hH : upd (upd H dx _) x _ = H; replace hL := Led.made hL hx hd ne hH; clear hH hx hd ne))
local macro_rules | `(tactic| fail "v") => `(tactic| refine ⟨_, rfl, ?_⟩)
local macro_rules | `(tactic| fail "i2") => `(tactic| refine ⟨_, _, rfl, rfl, ?_⟩)
local macro_rules | `(tactic| fail "go1") => `(tactic| first
  | refine ⟨_, rfl, ?_⟩
  | refine ⟨_, _, rfl, rfl, ?_⟩
  | refine ⟨_, _, rfl, ?_⟩
  | refine iteT ?_
  | refine iteF ?_
  | refine k_fld hL (by fail "ix") (by assumption) (by assumption) (by fail "lkF") ?_
  | refine k_dgetS hL (by fail "ix") (by fail "lkD") ?_
  | refine k_dgetI hL (by fail "ix") (by assumption) ?_
  | refine k_ixL hL (by fail "ix") (by first | rfl | assumption) ?_
  | refine k_ixT hL (by fail "ix") (by first | rfl | assumption) ?_
  | refine k_tyL hL (by fail "ix") ?_
  | refine k_isd hL (by fail "ix") ?_
  | (refine And.intro (by fail "sz") ?_; fail "gn")
  | refine And.intro (by fail "sd") ?_
  | fail "gn"
  | refine k_meth hL (by fail "ix") (by first | assumption | exact fz_no (by decide +kernel)) ?_
  | refine k_gtup hL (by fail "ix") rfl ?_
  | (refine k_popI hL (by fail "ix") (by assumption) ?_; fail "gup")
  | (refine k_listD hL (by fail "ix") ?_; fail "gn")
  | (refine ⟨_, _, _, _, rfl, rfl, hL.at (by fail "ix"), rfl, ?_⟩; fail "gup")
  | (refine ⟨_, _, _, rfl, rfl, hL.at (by fail "ix"), (by fail "sz"), ?_⟩; fail "gup")
  | (refine ⟨_, _, _, _, rfl, hL.at (by fail "ix"), by assumption, by assumption, Nat.lt_of_le_of_lt fz_len (by decide), ?_⟩; generalize hH : upd H _ _ = H; replace hL := Led.upF hL (by fail "up") (by fail "ptF") hH; fail "cl")
  | (refine ⟨_, _, hL.at (by fail "ix"), Nat.lt_of_le_of_lt fz_len (by decide), ?_⟩; generalize hH : upd H _ _ = H; replace hL := Led.upF hL (by fail "up") (by fail "ptF") hH; fail "cl")
  | (refine k_dputS hL (by fail "ix") (Nat.lt_of_le_of_lt dz_len (by decide)) (by fail "ptD") (by fail "up") ?_; clear hL; intro H hL; dsimp only [List.set, List.cons_append, List.nil_append, List.append] at hL)
  | refine k_lenL2 hL (by fail "ix") ?_
  | refine k_lenT2 hL (by fail "ix") ?_
  | refine .inl ⟨_, rfl, ?_⟩
  | refine .inr ⟨_, rfl, ?_⟩)
local macro_rules | `(tactic| fail "go") => `(tactic| repeat fail "go1")
local macro_rules | `(tactic| fail "pm") => `(tactic| (refine Led.le hL (fun a_ => ?_); simp only [cnt_nil, cnt_cons, cnt_app, List.map_append, List.map_cons, List.map_nil, List.flatMap_append, List.flatMap_cons, List.flatMap_nil, List.append_assoc, List.cons_append, List.nil_append]; omega))

abbrev sMoves : Stmt := top 7
abbrev NM : List Str := ["old", "new", "found", "part", "name", "gone", "one", "come", "place", "left"]
theorem scMoves : FnScope ["old", "new", "found", "part", "name", "gone", "one", "come", "place", "left"] ["old", "new"] (defScope sMoves) := ⟨rfl, rfl, rfl, by decide +kernel, rfl, by decide +kernel, by decide +kernel⟩
abbrev VX (P : Program) (w : World) (K : PySem.W.Frag) (mg : Str → Option Value) (base : Heap) (f : Addr) (cdv : Value) (A : Around) (outer : List Env) (s : Shared) (H : Hp) (E : XK) : Cx := (cxOf CX0 P w K mg base NM "moves_between" (defScope sMoves) f cdv A outer s H E).nox
abbrev bodyV : List Stmt := bodyF (nth (defBody sMoves) 1)
def mvO (x : Addr × MV) : Addr × HO := (x.1, .tup [.str x.2.1, optV x.2.2.1, optV x.2.2.2])
def mvV (x : Addr × MV) : V := .ref x.1
/-- the inner loop -/
def tIn : TS := fun D σ H => ∃ (a b fl gl cl : Addr) (part : Str) (gone come : List Str) (mvs : List (Addr × MV)) (v4 v6 v8 v9 : Option V) (R : Lg), σ = [some (.ref a), some (.ref b), some (.ref fl), some (.str part), v4, some (.ref gl), v6, some (.ref cl), v8, v9] ∧
  gone.length < 60 ∧ come.length < 60 ∧ mvs.length < 2000 ∧ Led H ((fl, .lst (mvs.map mvV)) :: (gl, .lst (gone.map .str)) :: (cl, .lst (come.map .str)) :: (mvs.map mvO ++ R)) ∧
  ∀ v8 v9 (mvs' : List (Addr × MV)) H', mvs'.map (·.2) = mvs.map (·.2) ++ rowsMV part gone come → Led H' ((fl, .lst (mvs'.map mvV)) :: (gl, .lst (gone.map .str)) :: (cl, .lst (come.map .str)) :: (mvs'.map mvO ++ R)) →
    D.nx [some (.ref a), some (.ref b), some (.ref fl), some (.str part), v4, some (.ref gl), v6, some (.ref cl), v8, v9] H'
theorem at_str {xs : List Str} {i : Nat} {x : Str} (h : xs[i]? = some x) : atI (xs.map V.str) (i : Int) = some (.str x) := by
  have h1 := (List.getElem?_eq_some_iff.mp h).1
  unfold atI ixN
  rw [List.length_map, if_pos (Int.natCast_nonneg i), if_pos (by omega)]
  simp [h]
section
variable {P : Program} {w : World} {K : PySem.W.Frag} {mg : Str → Option Value} {base : Heap} {f : Addr} {cdv : Value} {A : Around} {outer : List Env} {s0 : Shared} {H0 : Hp} {E : XK}
theorem st_inner (hr : Room 2 (VX P w K mg base f cdv A outer s0 H0 E).A) (T : TxtF mg) : PS (VX P w K mg base f cdv A outer s0 H0 E) (nth bodyV 2) tIn := by
  refine ps_imp (t := _) (ps_for PassesOwn.never rfl (pi_range1 (by rfl) T.range (pa_cons (pe_callB (call_max2 rfl) (by rfl) T.max (by decide +kernel) (pa_cons (pe_callB call_len_seq (by rfl) T.len (by decide +kernel) (pa_cons (pv 5) pa_nil)) (pa_cons (pe_callB call_len_seq (by rfl) T.len (by decide +kernel) (pa_cons (pv 7) pa_nil)) pa_nil))) pa_nil)) (pg_name (i := 8) scMoves.nd rfl (Or.inl rfl))
  (pss_cons (ps_set (i := 9) scMoves.nd rfl (Or.inl rfl) (pe_ifExp (pt_cmpR op_lt (pv 8) (pe_callB call_len_seq (by rfl) T.len (by decide +kernel) (pa_cons (pv 5) pa_nil)) (nomark _)) (pe_ix ix_list (pv 5) (pv 8) (fun _ _ => rfl)) pe_non))
  (pss_one (ps_expr (pe_bm PySem.F.plainAttrs_list PySem.F.slot_list_append PySem.F.type_list_append mt_append (pv 2) (pa_cons (pe_tup (pa_cons (pv 3) (pa_cons (pv 9) (pa_cons (pe_ifExp (pt_cmpR op_lt (pv 8) (pe_callB call_len_seq (by rfl) T.len (by decide +kernel) (pa_cons (pv 7) pa_nil)) (nomark _)) (pe_ix ix_list (pv 7) (pv 8) (fun _ _ => rfl)) pe_non) pa_nil)))) pa_nil)))))) ?_
  rintro D σ H ⟨a, b, fl, gl, cl, part, gone, come, mvs, v4, v6, v8, v9, R, rfl, z1, z2, z3, hL, k⟩
  fail "go"
  have e0 : (if ((come.map V.str).length : Int) > ((gone.map V.str).length : Int) then ((come.map V.str).length : Int) else ((gone.map V.str).length : Int)) = ((max gone.length come.length : Nat) : Int) := by
    rw [List.length_map, List.length_map]
    split <;> omega
  rw [e0, Int.toNat_natCast]
  refine ⟨by omega, ?_⟩
  refine for_rangeA (lo := 0) (n := max gone.length come.length) (fun i σ H => Hold (∃ (v8 v9 : Option V) (mvs' : List (Addr × MV)), σ = [some (.ref a), some (.ref b), some (.ref fl), some (.str part), v4, some (.ref gl), v6, some (.ref cl), v8, v9] ∧ mvs'.map (·.2) = mvs.map (·.2) ++ ((List.range i).map fun i => (part, gone[i]?, come[i]?)) ∧
    Led H ((fl, .lst (mvs'.map mvV)) :: (gl, .lst (gone.map .str)) :: (cl, .lst (come.map .str)) :: (mvs'.map mvO ++ R)))) (.mk ⟨_, _, mvs, rfl, by simp, hL⟩) (fun i σ H D' hi h hD' => ?_) (fun σ H h => ?_)
  · clear hL
    obtain ⟨v8, v9, ms, rfl, he, hL⟩ := h.out
    clear h
    have hlen : ms.length < 3000 := by
      have h1 := congrArg List.length he
      rw [List.length_map, List.length_append, List.length_map, List.length_map, List.length_range] at h1
      omega
    have fin : ∀ (t : Addr) v9 H, Led H ((fl, .lst (ms.map mvV)) :: (gl, .lst (gone.map .str)) :: (cl, .lst (come.map .str)) :: (t, .tup [.str part, optV gone[i]?, optV come[i]?]) :: (ms.map mvO ++ R)) →
        rAppend (.ref fl) [.ref t] H fun _ H1 => D'.nx [some (.ref a), some (.ref b), some (.ref fl), some (.str part), v4, some (.ref gl), v6, some (.ref cl), some (.int (0 + (i : Nat))), v9] H1 := fun t v9 H hL => by
      refine ⟨_, _, _, rfl, rfl, hL.at ⟨0, rfl⟩, by rw [List.length_map]; exact Nat.lt_trans hlen (by decide), ?_⟩
      fail "gup"
      refine hD'.nx _ _ (.mk ⟨_, v9, ms ++ [(t, part, gone[i]?, come[i]?)], rfl, ?_, ?_⟩)
      · rw [List.map_append, he, List.range_succ, List.map_append, List.append_assoc]
        rfl
      · (refine Led.le hL (fun a_ => ?_); simp only [cnt_nil, cnt_cons, cnt_app, List.map_append, List.map_cons, List.map_nil, List.flatMap_append, List.flatMap_cons, List.flatMap_nil, List.append_assoc, List.cons_append, List.nil_append, mvO, mvV]; omega)
    fail "go"
    have hgl : ((gone.map V.str).length : Int) = gone.length := by rw [List.length_map]
    have hcl : ((come.map V.str).length : Int) = come.length := by rw [List.length_map]
    cases hg : gone[i]? with
    | none =>
      have h1 := List.getElem?_eq_none_iff.mp hg
      rw [hg] at fin
      refine ite_d (fun z => absurd z (by omega)) (fun _ => ?_)
      fail "go"
      cases hc : come[i]? with
      | none =>
        have h2 := List.getElem?_eq_none_iff.mp hc
        omega
      | some y =>
        have h2 := (List.getElem?_eq_some_iff.mp hc).1
        rw [hc] at fin
        refine ite_d (fun _ => ?_) (fun z => absurd (by omega) z)
        fail "go"
        refine k_ixL hL ⟨2, rfl⟩ (by rw [Int.zero_add]; exact at_str hc) ?_
        fail "go"
        refine fin p _ _ ?_
        (refine Led.le hL (fun a_ => ?_); simp only [cnt_nil, cnt_cons, cnt_app, List.map_append, List.map_cons, List.map_nil, List.flatMap_append, List.flatMap_cons, List.flatMap_nil, List.append_assoc, List.cons_append, List.nil_append, optV]; omega)
    | some x =>
      have h1 := (List.getElem?_eq_some_iff.mp hg).1
      rw [hg] at fin
      refine ite_d (fun _ => ?_) (fun z => absurd (by omega) z)
      fail "go"
      refine k_ixL hL ⟨1, rfl⟩ (by rw [Int.zero_add]; exact at_str hg) ?_
      fail "go"
      cases hc : come[i]? with
      | none =>
        have h2 := List.getElem?_eq_none_iff.mp hc
        rw [hc] at fin
        refine ite_d (fun z => absurd z (by omega)) (fun _ => ?_)
        fail "go"
        refine fin p _ _ ?_
        (refine Led.le hL (fun a_ => ?_); simp only [cnt_nil, cnt_cons, cnt_app, List.map_append, List.map_cons, List.map_nil, List.flatMap_append, List.flatMap_cons, List.flatMap_nil, List.append_assoc, List.cons_append, List.nil_append, optV]; omega)
      | some y =>
        have h2 := (List.getElem?_eq_some_iff.mp hc).1
        rw [hc] at fin
        refine ite_d (fun _ => ?_) (fun z => absurd (by omega) z)
        fail "go"
        refine k_ixL hL ⟨2, rfl⟩ (by rw [Int.zero_add]; exact at_str hc) ?_
        fail "go"
        refine fin p _ _ ?_
        (refine Led.le hL (fun a_ => ?_); simp only [cnt_nil, cnt_cons, cnt_app, List.map_append, List.map_cons, List.map_nil, List.flatMap_append, List.flatMap_cons, List.flatMap_nil, List.append_assoc, List.cons_append, List.nil_append, optV]; omega)
  · clear hL
    obtain ⟨v8, v9, ms, rfl, he, hL⟩ := h.out
    exact k _ _ ms H he hL
end
end Sd


set_option linter.unusedVariables false
namespace Sd
open PySem L2
open PyProof.Rows (sortedS)
open C8 (Cal Met Mak pe_c pe_mk pe_mt pe_mt0 pss_cut tCut)
set_option linter.unusedSimpArgs false
set_option pp.deepTerms false
set_option pp.deepTerms.threshold 12
set_option hygiene false
local macro_rules | `(tactic| fail "nd") => `(tactic| first | assumption | decide +kernel)
local macro_rules | `(tactic| fail "ix") => `(tactic| first | exact ⟨0, rfl⟩ | exact ⟨1, rfl⟩ | exact ⟨2, rfl⟩ | exact ⟨3, rfl⟩ | exact ⟨4, rfl⟩ | exact ⟨5, rfl⟩ | exact ⟨6, rfl⟩ | exact ⟨7, rfl⟩ | exact ⟨8, rfl⟩ | exact ⟨9, rfl⟩ | exact ⟨10, rfl⟩ | exact ⟨11, rfl⟩ | exact ⟨12, rfl⟩ | exact ⟨13, rfl⟩ | exact ⟨14, rfl⟩ | exact ⟨15, rfl⟩ | exact ⟨16, rfl⟩ | exact ⟨17, rfl⟩ | exact ⟨18, rfl⟩ | assumption)
local macro_rules | `(tactic| fail "up") => `(tactic| first | exact ⟨0, rfl, rfl⟩ | exact ⟨1, rfl, rfl⟩ | exact ⟨2, rfl, rfl⟩ | exact ⟨3, rfl, rfl⟩ | exact ⟨4, rfl, rfl⟩ | exact ⟨5, rfl, rfl⟩ | exact ⟨6, rfl, rfl⟩ | exact ⟨7, rfl, rfl⟩ | exact ⟨8, rfl, rfl⟩ | exact ⟨9, rfl, rfl⟩ | exact ⟨10, rfl, rfl⟩ | exact ⟨11, rfl, rfl⟩ | exact ⟨12, rfl, rfl⟩ | exact ⟨13, rfl, rfl⟩ | exact ⟨14, rfl, rfl⟩ | exact ⟨15, rfl, rfl⟩ | exact ⟨16, rfl, rfl⟩ | assumption)
local macro_rules | `(tactic| fail "lkF") => `(tactic| first | assumption | exact fz_at 0 (by fail "nd") rfl rfl | exact fz_at 1 (by fail "nd") rfl rfl | exact fz_at 2 (by fail "nd") rfl rfl | exact fz_at 3 (by fail "nd") rfl rfl | exact fz_at 4 (by fail "nd") rfl rfl | exact fz_at 5 (by fail "nd") rfl rfl | exact fz_at 6 (by fail "nd") rfl rfl | exact fz_at 7 (by fail "nd") rfl rfl)
local macro_rules | `(tactic| fail "lkD") => `(tactic| first | assumption | exact dz_at 0 (by fail "nd") rfl rfl | exact dz_at 1 (by fail "nd") rfl rfl | exact dz_at 2 (by fail "nd") rfl rfl | exact dz_at 3 (by fail "nd") rfl rfl | exact dz_at 4 (by fail "nd") rfl rfl)
local macro_rules | `(tactic| fail "ptF") => `(tactic| first | assumption | exact fz_put 0 (by fail "nd") rfl (Nat.le_of_ble_eq_true rfl) | exact fz_put 1 (by fail "nd") rfl (Nat.le_of_ble_eq_true rfl) | exact fz_put 2 (by fail "nd") rfl (Nat.le_of_ble_eq_true rfl) | exact fz_put 3 (by fail "nd") rfl (Nat.le_of_ble_eq_true rfl) | exact fz_put 4 (by fail "nd") rfl (Nat.le_of_ble_eq_true rfl) | exact fz_put 5 (by fail "nd") rfl (Nat.le_of_ble_eq_true rfl) | exact fz_put 6 (by fail "nd") rfl (Nat.le_of_ble_eq_true rfl) | exact fz_put 7 (by fail "nd") rfl (Nat.le_of_ble_eq_true rfl) | exact fz_new (by decide +kernel) rfl)
local macro_rules | `(tactic| fail "ptD") => `(tactic| first | assumption | exact dz_put 0 (by fail "nd") rfl (Nat.le_of_ble_eq_true rfl) | exact dz_put 1 (by fail "nd") rfl (Nat.le_of_ble_eq_true rfl) | exact dz_put 2 (by fail "nd") rfl (Nat.le_of_ble_eq_true rfl) | exact dz_put 3 (by fail "nd") rfl (Nat.le_of_ble_eq_true rfl) | exact dz_put 4 (by fail "nd") rfl (Nat.le_of_ble_eq_true rfl))
local macro_rules | `(tactic| fail "sz") => `(tactic| first | assumption | exact (Nat.le_of_ble_eq_true rfl) | omega | decide)
local macro_rules | `(tactic| fail "sd") => `(tactic| first | rfl | assumption | decide | omega | (dsimp only; first | decide | omega) | exact .inr ⟨by decide, by decide⟩ | exact .inl ⟨by decide, by decide⟩ | exact ⟨by omega, by omega⟩ | exact .inl ⟨by omega, by omega⟩ | exact .inr ⟨by omega, by omega⟩ | exact ⟨by omega, by omega, by omega⟩)
local macro_rules | `(tactic| fail "cl") => `(tactic| (clear hH; dsimp only [List.set, List.cons_append, List.nil_append, List.append] at hL))
local macro_rules | `(tactic| fail "gn") => `(tactic| (intro p hp; generalize hH : upd H p _ = H; replace hL := Led.newH hL hp hH; clear hH hp))
local macro_rules | `(tactic| fail "gup") => `(tactic| (generalize hH : upd H _ _ = H; replace hL := Led.upU hL (by fail "up") hH; fail "cl"))
local macro_rules | `(tactic| fail "gmk") => `(tactic| (intro x dx hx hd ne; generalize hH : upd (upd H dx _) x _ = H; replace hL := Led.made hL hx hd ne hH; clear hH hx hd ne))
local macro_rules | `(tactic| fail "v") => `(tactic| refine ⟨_, rfl, ?_⟩)
local macro_rules | `(tactic| fail "i2") => `(tactic| refine ⟨_, _, rfl, rfl, ?_⟩)
local macro_rules | `(tactic| fail "go1") => `(tactic| first
  | refine ⟨_, rfl, ?_⟩
  | refine ⟨_, _, rfl, rfl, ?_⟩
  | refine ⟨_, _, rfl, ?_⟩
  | refine iteT ?_
  | refine iteF ?_
  | refine k_fld hL (by fail "ix") (by assumption) (by assumption) (by fail "lkF") ?_
  | refine k_dgetS hL (by fail "ix") (by fail "lkD") ?_
  | refine k_dgetI hL (by fail "ix") (by assumption) ?_
  | refine k_ixL hL (by fail "ix") (by first | rfl | assumption) ?_
  | refine k_ixT hL (by fail "ix") (by first | rfl | assumption) ?_
  | refine k_tyL hL (by fail "ix") ?_
  | refine k_isd hL (by fail "ix") ?_
  | (refine And.intro (by fail "sz") ?_; fail "gn")
  | refine And.intro (by fail "sd") ?_
  | fail "gn"
  | refine k_meth hL (by fail "ix") (by first | assumption | exact fz_no (by decide +kernel)) ?_
  | refine k_gtup hL (by fail "ix") rfl ?_
  | (refine k_popI hL (by fail "ix") (by assumption) ?_; fail "gup")
  | (refine k_listD hL (by fail "ix") ?_; fail "gn")
  | (refine ⟨_, _, _, _, rfl, rfl, hL.at (by fail "ix"), rfl, ?_⟩; fail "gup")
  | (refine ⟨_, _, _, rfl, rfl, hL.at (by fail "ix"), (by fail "sz"), ?_⟩; fail "gup")
  | (refine ⟨_, _, _, _, rfl, hL.at (by fail "ix"), by assumption, by assumption, Nat.lt_of_le_of_lt fz_len (by decide), ?_⟩; generalize hH : upd H _ _ = H; replace hL := Led.upF hL (by fail "up") (by fail "ptF") hH; fail "cl")
  | (refine ⟨_, _, hL.at (by fail "ix"), Nat.lt_of_le_of_lt fz_len (by decide), ?_⟩; generalize hH : upd H _ _ = H; replace hL := Led.upF hL (by fail "up") (by fail "ptF") hH; fail "cl")
  | (refine k_dputS hL (by fail "ix") (Nat.lt_of_le_of_lt dz_len (by decide)) (by fail "ptD") (by fail "up") ?_; clear hL; intro H hL; dsimp only [List.set, List.cons_append, List.nil_append, List.append] at hL)
  | refine k_lenL2 hL (by fail "ix") ?_
  | refine k_lenT2 hL (by fail "ix") ?_
  | refine .inl ⟨_, rfl, ?_⟩
  | refine .inr ⟨_, rfl, ?_⟩)
local macro_rules | `(tactic| fail "go") => `(tactic| repeat fail "go1")
local macro_rules | `(tactic| fail "pm") => `(tactic| (refine Led.le hL (fun a_ => ?_); simp only [cnt_nil, cnt_cons, cnt_app, List.map_append, List.map_cons, List.map_nil, List.flatMap_append, List.flatMap_cons, List.flatMap_nil, List.append_assoc, List.cons_append, List.nil_append]; omega))

theorem k_ninST {K : PySem.W.Frag} {H : Hp} {L : Lg} {p : Addr} {Q : VK} {x : Str} {ns : List Str} (hL : Led H L) (h1 : At L p (.tup (ns.map V.str))) (k : Q (.bl (!decide (x ∈ ns))) H) : rIn K true (.str x) (.ref p) H Q :=
  ⟨_, _, rfl, .inr (.of (hL.at h1)), rfl, flat_strs, by rw [in_strs]; exact k⟩
def VL (a b : Addr) (os ns : List TupE) (R : Lg) : Lg := (a, .dK (os.map (kk tV))) :: (b, .dK (ns.map (kk tV))) :: (os.map tupO ++ (ns.map tupO ++ R))
theorem filt_snoc {f : Str → Bool} {l : List Str} {i : Nat} {x : Str} (h : l[i]? = some x) : (l.take (i + 1)).filter f = if f x = true then (l.take i).filter f ++ [x] else (l.take i).filter f := by
  rw [List.take_add_one, h, Option.toList_some, List.filter_append]
  by_cases q : f x = true
  · rw [if_pos q, List.filter_cons, if_pos q, List.filter_nil]
  · rw [if_neg q, List.filter_cons, if_neg q, List.filter_nil, List.append_nil]
def tgone : TS := fun D σ H => ∃ (a b : Addr) (os ns : List TupE) (part : Str) (v2 v4 v5 v6 v7 v8 v9 : Option V) (R : Lg), σ = [some (.ref a), some (.ref b), v2, some (.str part), v4, v5, v6, v7, v8, v9] ∧ (∀ k, (oldOf (plF os) k).length < 60) ∧ (∀ k, (oldOf (plF ns) k).length < 60) ∧ Led H (VL a b os ns R) ∧
  ∀ gl H', Led H' ((gl, .lst ((goneP (plF os) (plF ns) part).map .str)) :: VL a b os ns R) → D.nx ([some (.ref a), some (.ref b), v2, some (.str part), v4, v5, v6, v7, v8, v9].set 5 (some (.ref gl))) H'
section
variable {P : Program} {w : World} {K : PySem.W.Frag} {mg : Str → Option Value} {base : Heap} {f : Addr} {cdv : Value} {A : Around} {outer : List Env} {s0 : Shared} {H0 : Hp} {E : XK}
theorem st_gone (hr : Room 2 (VX P w K mg base f cdv A outer s0 H0 E).A) : PS (VX P w K mg base f cdv A outer s0 H0 E) (nth bodyV 0) tgone := by
  refine ps_imp (t := _) (ps_setLc (i := 5) (own := [("one", 6)]) (g := gName 6) (by rfl) scMoves.nd rfl rfl (sw_true rfl rfl rfl (by decide +kernel)) (pi_tup (pe_dget2 (hu_of hr) (pv 0) (pv 3) (pe_tup pa_nil) ⟨rfl, rfl, rfl, rfl⟩)) (blkOk_by (own := [("one", 6)]) (N := ["old", "new", "found", "part", "name", "gone", "one", "come", "place", "left"]) (sc := (defScope sMoves)) (by decide +kernel)) (fun _ _ _ _ _ => (pg_name (i := 6) scMoves.nd rfl (Or.inl rfl))) (fun _ _ _ _ _ => (pts_one (pt_cmpR op_notIn_seqB (pv 6) (pe_dget2 (hu_of hr) (pv 1) (pv 3) (pe_tup pa_nil) ⟨rfl, rfl, rfl, rfl⟩) (by rfl)))) (fun _ _ _ _ _ => (pv 6))) ?_
  rintro D σ H ⟨a, b, os, ns, part, v2, v4, v5, v6, v7, v8, v9, R, rfl, z1, z2, hL, k⟩
  dsimp only [VL] at hL
  fail "go"
  rename Addr => p0
  obtain ⟨nt, hnt, hnm⟩ := old_get (os := os) (k := part) (p := p0)
  have hmem : ∀ y ∈ (p0, HO.tup []) :: os.map tupO, y ∈ (p0, HO.tup []) :: (a, HO.dK (os.map (kk tV))) :: (b, HO.dK (ns.map (kk tV))) :: (os.map tupO ++ (ns.map tupO ++ R)) := fun y hy => by
    rcases List.mem_cons.mp hy with rfl | hy
    · exact .head _
    · exact (.tail _ (.tail _ (.tail _ (List.mem_append_left _ hy))))
  refine k_getS hL ⟨1, rfl⟩ ?_
  rw [hnt]
  unfold goneP at k
  have zx := z1 part
  generalize hlo : oldOf (plF os) part = l at k hnm zx
  refine ⟨_, rfl, ⟨_, .of (hL.mem (hmem _ hnm))⟩, fun D1 hD1 => lc_tup (K := K) (a := nt) (xs := l.map V.str) (fun i H => Hold (Led H ((D1, .lst (((l.take i).filter fun n => decide (n ∉ oldOf (plF ns) part)).map V.str)) :: (p0, .tup []) :: (a, .dK (os.map (kk tV))) :: (b, .dK (ns.map (kk tV))) :: (os.map tupO ++ (ns.map tupO ++ R))))) (.mk (hL.new hD1)) (fun i H _ h => .of (h.out.mem (.tail _ (hmem _ hnm)))) (fun i v H hi h => ?_) (fun H h => ?_)⟩
  · clear hL
    have hL := h.out
    clear h
    rw [List.getElem?_map] at hi
    obtain ⟨n, hn, rfl⟩ := Option.map_eq_some_iff.mp hi
    have fs := filt_snoc (f := fun n => decide (n ∉ oldOf (plF ns) part)) hn
    have hll := (List.length_filter_le (fun n => decide (n ∉ oldOf (plF ns) part)) (l.take i))
    rw [List.length_take] at hll
    refine ⟨rfl, ?_⟩
    fail "go"
    rename Addr => p1
    obtain ⟨nt2, hnt2, hnm2⟩ := old_get (os := ns) (k := part) (p := p1)
    refine k_getS hL ⟨4, rfl⟩ ?_
    rw [hnt2]
    have hmem2 : (nt2, HO.tup ((oldOf (plF ns) part).map V.str)) ∈ (p1, HO.tup []) :: (D1, HO.lst (((l.take i).filter fun n => decide (n ∉ oldOf (plF ns) part)).map V.str)) :: (p0, HO.tup []) :: (a, HO.dK (os.map (kk tV))) :: (b, HO.dK (ns.map (kk tV))) :: (os.map tupO ++ (ns.map tupO ++ R)) := by
      rcases List.mem_cons.mp hnm2 with e | hy
      · rw [e]; exact .head _
      · exact (.tail _ (.tail _ (.tail _ (.tail _ (.tail _ (List.mem_append_right _ (List.mem_append_left _ hy)))))))
    refine k_ninST (K := K) (ns := oldOf (plF ns) part) hL (at_mem hmem2) ?_
    by_cases q : n ∈ oldOf (plF ns) part
    · rw [if_neg (by simpa using q)] at fs
      rw [decide_eq_true q]
      fail "go"
      refine .mk ?_
      rw [fs]
      exact hL.tail
    · rw [if_pos (decide_eq_true q)] at fs
      rw [decide_eq_false q]
      fail "go"
      refine ⟨_, hL.at ⟨1, rfl⟩, by rw [List.length_map]; exact small60 (by omega), ?_⟩
      fail "gup"
      refine .mk ?_
      rw [fs, List.map_append]
      exact hL.tail
  · clear hL
    have hL := h.out
    clear h
    rw [List.length_map, List.take_length] at hL
    refine k D1 _ ?_
    unfold VL
    (refine Led.le hL (fun a_ => ?_); simp only [cnt_nil, cnt_cons, cnt_app, List.map_append, List.map_cons, List.map_nil, List.flatMap_append, List.flatMap_cons, List.flatMap_nil, List.append_assoc, List.cons_append, List.nil_append]; omega)
end
def tcome : TS := fun D σ H => ∃ (a b : Addr) (os ns : List TupE) (part : Str) (v2 v4 v5 v6 v7 v8 v9 : Option V) (R : Lg), σ = [some (.ref a), some (.ref b), v2, some (.str part), v4, v5, v6, v7, v8, v9] ∧ (∀ k, (oldOf (plF os) k).length < 60) ∧ (∀ k, (oldOf (plF ns) k).length < 60) ∧ Led H (VL a b os ns R) ∧
  ∀ gl H', Led H' ((gl, .lst ((goneP (plF ns) (plF os) part).map .str)) :: VL a b os ns R) → D.nx ([some (.ref a), some (.ref b), v2, some (.str part), v4, v5, v6, v7, v8, v9].set 7 (some (.ref gl))) H'
section
variable {P : Program} {w : World} {K : PySem.W.Frag} {mg : Str → Option Value} {base : Heap} {f : Addr} {cdv : Value} {A : Around} {outer : List Env} {s0 : Shared} {H0 : Hp} {E : XK}
theorem st_come (hr : Room 2 (VX P w K mg base f cdv A outer s0 H0 E).A) : PS (VX P w K mg base f cdv A outer s0 H0 E) (nth bodyV 1) tcome := by
  refine ps_imp (t := _) (ps_setLc (i := 7) (own := [("one", 6)]) (g := gName 6) (by rfl) scMoves.nd rfl rfl (sw_true rfl rfl rfl (by decide +kernel)) (pi_tup (pe_dget2 (hu_of hr) (pv 1) (pv 3) (pe_tup pa_nil) ⟨rfl, rfl, rfl, rfl⟩)) (blkOk_by (own := [("one", 6)]) (N := ["old", "new", "found", "part", "name", "gone", "one", "come", "place", "left"]) (sc := (defScope sMoves)) (by decide +kernel)) (fun _ _ _ _ _ => (pg_name (i := 6) scMoves.nd rfl (Or.inl rfl))) (fun _ _ _ _ _ => (pts_one (pt_cmpR op_notIn_seqB (pv 6) (pe_dget2 (hu_of hr) (pv 0) (pv 3) (pe_tup pa_nil) ⟨rfl, rfl, rfl, rfl⟩) (by rfl)))) (fun _ _ _ _ _ => (pv 6))) ?_
  rintro D σ H ⟨a, b, os, ns, part, v2, v4, v5, v6, v7, v8, v9, R, rfl, z1, z2, hL, k⟩
  dsimp only [VL] at hL
  fail "go"
  rename Addr => p0
  obtain ⟨nt, hnt, hnm⟩ := old_get (os := ns) (k := part) (p := p0)
  have hmem : ∀ y ∈ (p0, HO.tup []) :: ns.map tupO, y ∈ (p0, HO.tup []) :: (a, HO.dK (os.map (kk tV))) :: (b, HO.dK (ns.map (kk tV))) :: (os.map tupO ++ (ns.map tupO ++ R)) := fun y hy => by
    rcases List.mem_cons.mp hy with rfl | hy
    · exact .head _
    · exact (.tail _ (.tail _ (.tail _ (List.mem_append_right _ (List.mem_append_left _ hy)))))
  refine k_getS hL ⟨2, rfl⟩ ?_
  rw [hnt]
  unfold goneP at k
  have zx := z2 part
  generalize hlo : oldOf (plF ns) part = l at k hnm zx
  refine ⟨_, rfl, ⟨_, .of (hL.mem (hmem _ hnm))⟩, fun D1 hD1 => lc_tup (K := K) (a := nt) (xs := l.map V.str) (fun i H => Hold (Led H ((D1, .lst (((l.take i).filter fun n => decide (n ∉ oldOf (plF os) part)).map V.str)) :: (p0, .tup []) :: (a, .dK (os.map (kk tV))) :: (b, .dK (ns.map (kk tV))) :: (os.map tupO ++ (ns.map tupO ++ R))))) (.mk (hL.new hD1)) (fun i H _ h => .of (h.out.mem (.tail _ (hmem _ hnm)))) (fun i v H hi h => ?_) (fun H h => ?_)⟩
  · clear hL
    have hL := h.out
    clear h
    rw [List.getElem?_map] at hi
    obtain ⟨n, hn, rfl⟩ := Option.map_eq_some_iff.mp hi
    have fs := filt_snoc (f := fun n => decide (n ∉ oldOf (plF os) part)) hn
    have hll := (List.length_filter_le (fun n => decide (n ∉ oldOf (plF os) part)) (l.take i))
    rw [List.length_take] at hll
    refine ⟨rfl, ?_⟩
    fail "go"
    rename Addr => p1
    obtain ⟨nt2, hnt2, hnm2⟩ := old_get (os := os) (k := part) (p := p1)
    refine k_getS hL ⟨3, rfl⟩ ?_
    rw [hnt2]
    have hmem2 : (nt2, HO.tup ((oldOf (plF os) part).map V.str)) ∈ (p1, HO.tup []) :: (D1, HO.lst (((l.take i).filter fun n => decide (n ∉ oldOf (plF os) part)).map V.str)) :: (p0, HO.tup []) :: (a, HO.dK (os.map (kk tV))) :: (b, HO.dK (ns.map (kk tV))) :: (os.map tupO ++ (ns.map tupO ++ R)) := by
      rcases List.mem_cons.mp hnm2 with e | hy
      · rw [e]; exact .head _
      · exact (.tail _ (.tail _ (.tail _ (.tail _ (.tail _ (List.mem_append_left _ hy))))))
    refine k_ninST (K := K) (ns := oldOf (plF os) part) hL (at_mem hmem2) ?_
    by_cases q : n ∈ oldOf (plF os) part
    · rw [if_neg (by simpa using q)] at fs
      rw [decide_eq_true q]
      fail "go"
      refine .mk ?_
      rw [fs]
      exact hL.tail
    · rw [if_pos (decide_eq_true q)] at fs
      rw [decide_eq_false q]
      fail "go"
      refine ⟨_, hL.at ⟨1, rfl⟩, by rw [List.length_map]; exact small60 (by omega), ?_⟩
      fail "gup"
      refine .mk ?_
      rw [fs, List.map_append]
      exact hL.tail
  · clear hL
    have hL := h.out
    clear h
    rw [List.length_map, List.take_length] at hL
    refine k D1 _ ?_
    unfold VL
    (refine Led.le hL (fun a_ => ?_); simp only [cnt_nil, cnt_cons, cnt_app, List.map_append, List.map_cons, List.map_nil, List.flatMap_append, List.flatMap_cons, List.flatMap_nil, List.append_assoc, List.cons_append, List.nil_append]; omega)
end
end Sd


set_option linter.unusedVariables false
namespace Sd
open PySem L2
open PyProof.Rows (sortedS)
open C8 (Cal Met Mak pe_c pe_mk pe_mt pe_mt0 pss_cut tCut)
set_option linter.unusedSimpArgs false
set_option pp.deepTerms false
set_option pp.deepTerms.threshold 12
set_option hygiene false
local macro_rules | `(tactic| fail "nd") => `(tactic| first | assumption | decide +kernel)
local macro_rules | `(tactic| fail "ix") => `(tactic| first | exact ⟨0, rfl⟩ | exact ⟨1, rfl⟩ | exact ⟨2, rfl⟩ | exact ⟨3, rfl⟩ | exact ⟨4, rfl⟩ | exact ⟨5, rfl⟩ | exact ⟨6, rfl⟩ | exact ⟨7, rfl⟩ | exact ⟨8, rfl⟩ | exact ⟨9, rfl⟩ | exact ⟨10, rfl⟩ | exact ⟨11, rfl⟩ | exact ⟨12, rfl⟩ | exact ⟨13, rfl⟩ | exact ⟨14, rfl⟩ | exact ⟨15, rfl⟩ | exact ⟨16, rfl⟩ | exact ⟨17, rfl⟩ | exact ⟨18, rfl⟩ | assumption)
local macro_rules | `(tactic| fail "up") => `(tactic| first | exact ⟨0, rfl, rfl⟩ | exact ⟨1, rfl, rfl⟩ | exact ⟨2, rfl, rfl⟩ | exact ⟨3, rfl, rfl⟩ | exact ⟨4, rfl, rfl⟩ | exact ⟨5, rfl, rfl⟩ | exact ⟨6, rfl, rfl⟩ | exact ⟨7, rfl, rfl⟩ | exact ⟨8, rfl, rfl⟩ | exact ⟨9, rfl, rfl⟩ | exact ⟨10, rfl, rfl⟩ | exact ⟨11, rfl, rfl⟩ | exact ⟨12, rfl, rfl⟩ | exact ⟨13, rfl, rfl⟩ | exact ⟨14, rfl, rfl⟩ | exact ⟨15, rfl, rfl⟩ | exact ⟨16, rfl, rfl⟩ | assumption)
local macro_rules | `(tactic| fail "lkF") => `(tactic| first | assumption | exact fz_at 0 (by fail "nd") rfl rfl | exact fz_at 1 (by fail "nd") rfl rfl | exact fz_at 2 (by fail "nd") rfl rfl | exact fz_at 3 (by fail "nd") rfl rfl | exact fz_at 4 (by fail "nd") rfl rfl | exact fz_at 5 (by fail "nd") rfl rfl | exact fz_at 6 (by fail "nd") rfl rfl | exact fz_at 7 (by fail "nd") rfl rfl)
local macro_rules | `(tactic| fail "lkD") => `(tactic| first | assumption | exact dz_at 0 (by fail "nd") rfl rfl | exact dz_at 1 (by fail "nd") rfl rfl | exact dz_at 2 (by fail "nd") rfl rfl | exact dz_at 3 (by fail "nd") rfl rfl | exact dz_at 4 (by fail "nd") rfl rfl)
local macro_rules | `(tactic| fail "ptF") => `(tactic| first | assumption | exact fz_put 0 (by fail "nd") rfl (Nat.le_of_ble_eq_true rfl) | exact fz_put 1 (by fail "nd") rfl (Nat.le_of_ble_eq_true rfl) | exact fz_put 2 (by fail "nd") rfl (Nat.le_of_ble_eq_true rfl) | exact fz_put 3 (by fail "nd") rfl (Nat.le_of_ble_eq_true rfl) | exact fz_put 4 (by fail "nd") rfl (Nat.le_of_ble_eq_true rfl) | exact fz_put 5 (by fail "nd") rfl (Nat.le_of_ble_eq_true rfl) | exact fz_put 6 (by fail "nd") rfl (Nat.le_of_ble_eq_true rfl) | exact fz_put 7 (by fail "nd") rfl (Nat.le_of_ble_eq_true rfl) | exact fz_new (by decide +kernel) rfl)
local macro_rules | `(tactic| fail "ptD") => `(tactic| first | assumption | exact dz_put 0 (by fail "nd") rfl (Nat.le_of_ble_eq_true rfl) | exact dz_put 1 (by fail "nd") rfl (Nat.le_of_ble_eq_true rfl) | exact dz_put 2 (by fail "nd") rfl (Nat.le_of_ble_eq_true rfl) | exact dz_put 3 (by fail "nd") rfl (Nat.le_of_ble_eq_true rfl) | exact dz_put 4 (by fail "nd") rfl (Nat.le_of_ble_eq_true rfl))
local macro_rules | `(tactic| fail "sz") => `(tactic| first | assumption | exact (Nat.le_of_ble_eq_true rfl) | omega | decide)
local macro_rules | `(tactic| fail "sd") => `(tactic| first | rfl | assumption | decide | omega | (dsimp only; first | decide | omega) | exact .inr ⟨by decide, by decide⟩ | exact .inl ⟨by decide, by decide⟩ | exact ⟨by omega, by omega⟩ | exact .inl ⟨by omega, by omega⟩ | exact .inr ⟨by omega, by omega⟩ | exact ⟨by omega, by omega, by omega⟩)
local macro_rules | `(tactic| fail "cl") => `(tactic| (clear hH; dsimp only [List.set, List.cons_append, List.nil_append, List.append] at hL))
local macro_rules | `(tactic| fail "gn") => `(tactic| (intro p hp; generalize hH : upd H p _ = H; replace hL := Led.newH hL hp hH; clear hH hp))
local macro_rules | `(tactic| fail "gup") => `(tactic| (generalize hH : upd H _ _ = H; replace hL := Led.upU hL (by fail "up") hH; fail "cl"))
local macro_rules | `(tactic| fail "gmk") => `(tactic| (intro x dx hx hd ne; generalize hH : upd (upd H dx _) x _ = H; replace hL := Led.made hL hx hd ne hH; clear hH hx hd ne))
local macro_rules | `(tactic| fail "v") => `(tactic| refine ⟨_, rfl, ?_⟩)
local macro_rules | `(tactic| fail "i2") => `(tactic| refine ⟨_, _, rfl, rfl, ?_⟩)
local macro_rules | `(tactic| fail "go1") => `(tactic| first
  | refine ⟨_, rfl, ?_⟩
  | refine ⟨_, _, rfl, rfl, ?_⟩
  | refine ⟨_, _, rfl, ?_⟩
  | refine iteT ?_
  | refine iteF ?_
  | refine k_fld hL (by fail "ix") (by assumption) (by assumption) (by fail "lkF") ?_
  | refine k_dgetS hL (by fail "ix") (by fail "lkD") ?_
  | refine k_dgetI hL (by fail "ix") (by assumption) ?_
  | refine k_ixL hL (by fail "ix") (by first | rfl | assumption) ?_
  | refine k_ixT hL (by fail "ix") (by first | rfl | assumption) ?_
  | refine k_tyL hL (by fail "ix") ?_
  | refine k_isd hL (by fail "ix") ?_
  | (refine And.intro (by fail "sz") ?_; fail "gn")
  | refine And.intro (by fail "sd") ?_
  | fail "gn"
  | refine k_meth hL (by fail "ix") (by first | assumption | exact fz_no (by decide +kernel)) ?_
  | refine k_gtup hL (by fail "ix") rfl ?_
  | (refine k_popI hL (by fail "ix") (by assumption) ?_; fail "gup")
  | (refine k_listD hL (by fail "ix") ?_; fail "gn")
  | (refine ⟨_, _, _, _, rfl, rfl, hL.at (by fail "ix"), rfl, ?_⟩; fail "gup")
  | (refine ⟨_, _, _, rfl, rfl, hL.at (by fail "ix"), (by fail "sz"), ?_⟩; fail "gup")
  | (refine ⟨_, _, _, _, rfl, hL.at (by fail "ix"), by assumption, by assumption, Nat.lt_of_le_of_lt fz_len (by decide), ?_⟩; generalize hH : upd H _ _ = H; replace hL := Led.upF hL (by fail "up") (by fail "ptF") hH; fail "cl")
  | (refine ⟨_, _, hL.at (by fail "ix"), Nat.lt_of_le_of_lt fz_len (by decide), ?_⟩; generalize hH : upd H _ _ = H; replace hL := Led.upF hL (by fail "up") (by fail "ptF") hH; fail "cl")
  | (refine k_dputS hL (by fail "ix") (Nat.lt_of_le_of_lt dz_len (by decide)) (by fail "ptD") (by fail "up") ?_; clear hL; intro H hL; dsimp only [List.set, List.cons_append, List.nil_append, List.append] at hL)
  | refine k_lenL2 hL (by fail "ix") ?_
  | refine k_lenT2 hL (by fail "ix") ?_
  | refine .inl ⟨_, rfl, ?_⟩
  | refine .inr ⟨_, rfl, ?_⟩)
local macro_rules | `(tactic| fail "go") => `(tactic| repeat fail "go1")
local macro_rules | `(tactic| fail "pm") => `(tactic| (refine Led.le hL (fun a_ => ?_); simp only [cnt_nil, cnt_cons, cnt_app, List.map_append, List.map_cons, List.map_nil, List.flatMap_append, List.flatMap_cons, List.flatMap_nil, List.append_assoc, List.cons_append, List.nil_append]; omega))

theorem dput_mem {α : Type} {k : Str} {l : List (Str × α)} : k ∈ (dputL l).map (·.1) ↔ k ∈ l.map (·.1) := by
  induction l using snoc_ind with
  | h0 => exact Iff.rfl
  | hs l e ih =>
    rw [dput_snoc, List.map_append, List.mem_append, ← ih]
    by_cases q : e.1 ∈ (dputL l).map (·.1)
    · rw [aput_names_in q]
      exact ⟨.inl, fun h => h.elim id fun z => by rw [List.map_singleton, List.mem_singleton] at z; rw [z]; exact q⟩
    · rw [aput_names_out q, List.map_append, List.mem_append]
def unV (e : Str × Unit) : V := .bl true
def keV (e : Str × Unit) : V := .str e.1
structure SrtU (os ns : List TupE) (srt : List Str) : Prop where
  s : sortedS srt = true
  nd : srt.Nodup
  mem : ∀ k, k ∈ srt ↔ k ∈ os.map (·.1) ∨ k ∈ ns.map (·.1)
def spMoves : Sp := fun vs H Q _ => ∃ (a b : Addr) (os ns : List TupE) (R : Lg), vs = [.ref a, .ref b] ∧ os.length < 30 ∧ ns.length < 30 ∧ (∀ k, (oldOf (plF os) k).length ≤ 30) ∧ (∀ k, (oldOf (plF ns) k).length ≤ 30) ∧ Led H (VL a b os ns R) ∧
  ∀ (t : Addr) (mvs : List (Addr × MV)) (srt : List Str) H', SrtU os ns srt → mvs.map (·.2) = movesP (plF os) (plF ns) srt → Led H' ((t, .tup (mvs.map mvV)) :: (mvs.map mvO ++ VL a b os ns R)) → Q (.ref t) H'
section
variable {P : Program} {w : World} {K : PySem.W.Frag} {mg : Str → Option Value} {base : Heap}
theorem ok_moves {f : Addr} {fd : FuncData} (F : Fun K "moves_between" "moves_between" sMoves f fd) (T : TxtF mg) : FnOk P w K mg base CX0 3 f fd ["old", "new"] spMoves := by
  refine F.ok scMoves (fun vs H Q E h => ?_) (fun cdv A outer s0 H vs Q E hr h => ?_)
  · obtain ⟨a, b, os, ns, R, rfl, _⟩ := h
    rfl
  · obtain ⟨a, b, os, ns, R, rfl, zo, zn, z1, z2, hL, k⟩ := h
    refine ⟨_, (pss_cons (ps_set (i := 2) scMoves.nd rfl (Or.inl rfl) (pe_lst pa_nil))
  (pss_cons (ps_for PassesOwn.never rfl (pi_list (pe_callB (call_sortedD rfl) (by rfl) T.sorted (by decide +kernel) (pa_cons (pe_dc (own := [("name", 4)]) (g := gName 4) (by rfl) scMoves.nd (pi_list (pe_op op_cat (pe_callTy (call_list_dK rfl) (by rfl) T.list (by decide +kernel) (pa_cons (pv 0) pa_nil)) (pe_callTy (call_list_dK rfl) (by rfl) T.list (by decide +kernel) (pa_cons (pv 1) pa_nil)))) (blkOk_by (own := [("name", 4)]) (N := ["old", "new", "found", "part", "name", "gone", "one", "come", "place", "left"]) (sc := (defScope sMoves)) (by decide +kernel)) (fun _ _ _ _ _ => (pg_name (i := 4) scMoves.nd rfl (Or.inl rfl))) (fun _ _ _ _ _ => pts_nil) (fun _ _ _ _ _ => (pv 4)) (fun _ _ _ _ _ => pe_bl)) pa_nil))) (pg_name (i := 3) scMoves.nd rfl (Or.inr rfl))
  (pss_cons (st_gone hr)
  (pss_cons (st_come hr)
  (pss_one (st_inner hr T)))))
  (pss_one (ps_ret (pe_callTy call_tuple_of (by rfl) T.tuple (by decide +kernel) (pa_cons (pv 2) pa_nil)))))), ?_⟩
    dsimp only [VL] at hL
    fail "go"
    rename_i fl H9 la H8
    refine k_cat hL (by fail "ix") (by fail "ix") (by
      simp only [List.length_map]
      exact Nat.le_trans (show os.length + ns.length ≤ 60 by omega) (by decide)) fun l hl => ?_
    generalize hH : upd H l _ = H
    replace hL := Led.newH hL hl hH
    clear hH hl
    have eU : (os.map (kk tV)).map (fun kv : Key × V => kV kv.1) ++ (ns.map (kk tV)).map (fun kv : Key × V => kV kv.1) = ((os.map (·.1) ++ ns.map (·.1)).map fun k => (k, ())).map keV := by
      simp only [List.map_map, List.map_append]
      rfl
    rw [eU] at hL
    generalize hU : ((os.map (·.1) ++ ns.map (·.1)).map fun k => (k, ())) = U at hL
    have hUl : U.length < 60 := by
      rw [← hU, List.length_map, List.length_append, List.length_map, List.length_map]
      omega
    replace hL : Led H ((l, .lst (U.map keV)) :: (fl, .lst []) :: VL a b os ns R) := by
      unfold VL
      (refine Led.le hL (fun a_ => ?_); simp only [cnt_nil, cnt_cons, cnt_app, List.map_append, List.map_cons, List.map_nil, List.flatMap_append, List.flatMap_cons, List.flatMap_nil, List.append_assoc, List.cons_append, List.nil_append]; omega)
    refine ⟨l, rfl, ⟨_, .of (hL.at ⟨0, rfl⟩)⟩, fun D1 hD1 => dc_nm (rf := keV) (vo := unV) hL hD1 ⟨0, rfl⟩ hUl (fun e he H L1 hL => ?_) (fun H hL => ?_)⟩
    · exact ⟨rfl, rfl, fun Q q => ⟨_, rfl, q⟩, fun Q q => q⟩
    fail "go"
    refine ⟨_, _, (dputL U).map (·.1), rfl, .inl (hL.at ⟨0, rfl⟩), kk_names, Nat.lt_of_le_of_lt (by rw [List.length_map]; exact (dput_le (l := U)).1) (Nat.lt_trans hUl (by decide)), fun srt y0 hys hys2 hf => ?_⟩
    generalize hH : upd H y0 _ = H
    replace hL := Led.newH hL hf hH
    clear hH hf
    have su : SrtU os ns srt := ⟨hys2, hys.nodup_iff.mpr dput_nd, fun k => by
      rw [hys.mem_iff, dput_mem, ← hU, List.map_map]
      show k ∈ List.map (fun x => x) _ ↔ _
      rw [List.map_id', List.mem_append]⟩
    have hsl : srt.length < 60 := by
      rw [hys.length_eq, List.length_map]
      exact Nat.lt_of_le_of_lt (dput_le (l := U)).1 hUl
    clear hys hys2
    fail "go"
    replace hL : Led H ((y0, .lst (srt.map V.str)) :: (fl, .lst []) :: VL a b os ns R) := by (refine Led.le hL (fun a_ => ?_); simp only [cnt_nil, cnt_cons, cnt_app, List.map_append, List.map_cons, List.map_nil, List.flatMap_append, List.flatMap_cons, List.flatMap_nil, List.append_assoc, List.cons_append, List.nil_append]; omega)
    refine ⟨⟨_, .of (hL.at ⟨0, rfl⟩)⟩, for_listA (K := K) (a := y0) (xs := srt.map V.str) (fun i σ H => Hold (∃ (v3 v4 v5 v6 v7 v8 v9 : Option V) (mvs : List (Addr × MV)), σ = [some (.ref a), some (.ref b), some (.ref fl), v3, v4, v5, v6, v7, v8, v9] ∧ mvs.map (·.2) = movesP (plF os) (plF ns) (srt.take i) ∧
      Led H ((y0, .lst (srt.map V.str)) :: (fl, .lst (mvs.map mvV)) :: (mvs.map mvO ++ VL a b os ns R)))) (.mk ⟨_, _, _, _, _, _, _, [], rfl, rfl, hL⟩) (fun i σ H _ h => ?_) (fun i x σ H D' hi h hD' => ?_) (fun σ H h => ?_)⟩
    · obtain ⟨v3, v4, v5, v6, v7, v8, v9, mvs, rfl, _, hL⟩ := h.out
      exact .of (hL.at ⟨0, rfl⟩)
    · clear hL
      obtain ⟨v3, v4, v5, v6, v7, v8, v9, mvs, rfl, he, hL⟩ := h.out
      clear h
      rw [List.getElem?_map] at hi
      obtain ⟨part, hpt, rfl⟩ := Option.map_eq_some_iff.mp hi
      have step : movesP (plF os) (plF ns) (srt.take (i + 1)) = movesP (plF os) (plF ns) (srt.take i) ++ rowsMV part (goneP (plF os) (plF ns) part) (goneP (plF ns) (plF os) part) := by
        unfold movesP
        rw [List.take_add_one, hpt, Option.toList_some, List.flatMap_append]
        simp
      have hml : mvs.length < 2000 := by
        have h1 := congrArg List.length he
        rw [List.length_map] at h1
        have h2 := moves_len (old := plF os) (new := plF ns) (b := 30) z1 z2 (srt := srt.take i)
        rw [List.length_take] at h2
        have h3 : min i srt.length * 30 ≤ 59 * 30 := Nat.mul_le_mul_right _ (by omega)
        omega
      refine ⟨a, b, os, ns, part, _, _, _, _, _, _, _, (y0, .lst (srt.map V.str)) :: (fl, .lst (mvs.map mvV)) :: (mvs.map mvO ++ R), rfl, fun k => Nat.lt_of_le_of_lt (z1 k) (by decide), fun k => Nat.lt_of_le_of_lt (z2 k) (by decide), by unfold VL at hL ⊢; (refine Led.le hL (fun a_ => ?_); simp only [cnt_nil, cnt_cons, cnt_app, List.map_append, List.map_cons, List.map_nil, List.flatMap_append, List.flatMap_cons, List.flatMap_nil, List.append_assoc, List.cons_append, List.nil_append]; omega), fun gl H hL => ?_⟩
      refine ⟨a, b, os, ns, part, _, _, _, _, _, _, _, (gl, .lst ((goneP (plF os) (plF ns) part).map .str)) :: (y0, .lst (srt.map V.str)) :: (fl, .lst (mvs.map mvV)) :: (mvs.map mvO ++ R), rfl, fun k => Nat.lt_of_le_of_lt (z1 k) (by decide), fun k => Nat.lt_of_le_of_lt (z2 k) (by decide), by unfold VL at hL ⊢; (refine Led.le hL (fun a_ => ?_); simp only [cnt_nil, cnt_cons, cnt_app, List.map_append, List.map_cons, List.map_nil, List.flatMap_append, List.flatMap_cons, List.flatMap_nil, List.append_assoc, List.cons_append, List.nil_append]; omega), fun cl H hL => ?_⟩
      refine ⟨a, b, fl, gl, cl, part, goneP (plF os) (plF ns) part, goneP (plF ns) (plF os) part, mvs, _, _, _, _, (y0, .lst (srt.map V.str)) :: VL a b os ns R, rfl, Nat.lt_of_le_of_lt (Nat.le_trans (List.length_filter_le _ _) (z1 part)) (by decide), Nat.lt_of_le_of_lt (Nat.le_trans (List.length_filter_le _ _) (z2 part)) (by decide), hml, by unfold VL at hL ⊢; (refine Led.le hL (fun a_ => ?_); simp only [cnt_nil, cnt_cons, cnt_app, List.map_append, List.map_cons, List.map_nil, List.flatMap_append, List.flatMap_cons, List.flatMap_nil, List.append_assoc, List.cons_append, List.nil_append]; omega), fun v8 v9 mvs' H he' hL => ?_⟩
      refine hD'.nx _ _ (.mk ⟨_, _, _, _, _, _, _, mvs', rfl, ?_, ?_⟩)
      · rw [he', he, step]
      · (refine Led.le hL (fun a_ => ?_); simp only [cnt_nil, cnt_cons, cnt_app, List.map_append, List.map_cons, List.map_nil, List.flatMap_append, List.flatMap_cons, List.flatMap_nil, List.append_assoc, List.cons_append, List.nil_append]; omega)
    · clear hL
      obtain ⟨v3, v4, v5, v6, v7, v8, v9, mvs, rfl, he, hL⟩ := h.out
      clear h
      rw [List.length_map, List.take_length] at he
      fail "go"
      refine ⟨fl, _, rfl, .inl ⟨.of (hL.at ⟨1, rfl⟩), fun t ht => ?_⟩⟩
      generalize hH : upd H t _ = H
      replace hL := Led.newH hL ht hH
      refine k t mvs srt _ su he ?_
      (refine Led.le hL (fun a_ => ?_); simp only [cnt_nil, cnt_cons, cnt_app, List.map_append, List.map_cons, List.map_nil, List.flatMap_append, List.flatMap_cons, List.flatMap_nil, List.append_assoc, List.cons_append, List.nil_append]; omega)
end
end Sd


set_option linter.unusedVariables false
namespace Sd
open PySem L2
open PyProof.Rows (sortedS)
open C8 (Cal Met Mak pe_c pe_mk pe_mt pe_mt0 pss_cut tCut)
set_option linter.unusedSimpArgs false
set_option pp.deepTerms false
set_option pp.deepTerms.threshold 12
set_option hygiene false
local macro_rules | `(tactic| fail "nd") => `(tactic| first | assumption | decide +kernel)
local macro_rules | `(tactic| fail "ix") => `(tactic| first | exact ⟨0, rfl⟩ | exact ⟨1, rfl⟩ | exact ⟨2, rfl⟩ | exact ⟨3, rfl⟩ | exact ⟨4, rfl⟩ | exact ⟨5, rfl⟩ | exact ⟨6, rfl⟩ | exact ⟨7, rfl⟩ | exact ⟨8, rfl⟩ | exact ⟨9, rfl⟩ | exact ⟨10, rfl⟩ | exact ⟨11, rfl⟩ | exact ⟨12, rfl⟩ | exact ⟨13, rfl⟩ | exact ⟨14, rfl⟩ | exact ⟨15, rfl⟩ | exact ⟨16, rfl⟩ | exact ⟨17, rfl⟩ | exact ⟨18, rfl⟩ | assumption)
local macro_rules | `(tactic| fail "up") => `(tactic| first | exact ⟨0, rfl, rfl⟩ | exact ⟨1, rfl, rfl⟩ | exact ⟨2, rfl, rfl⟩ | exact ⟨3, rfl, rfl⟩ | exact ⟨4, rfl, rfl⟩ | exact ⟨5, rfl, rfl⟩ | exact ⟨6, rfl, rfl⟩ | exact ⟨7, rfl, rfl⟩ | exact ⟨8, rfl, rfl⟩ | exact ⟨9, rfl, rfl⟩ | exact ⟨10, rfl, rfl⟩ | exact ⟨11, rfl, rfl⟩ | exact ⟨12, rfl, rfl⟩ | exact ⟨13, rfl, rfl⟩ | exact ⟨14, rfl, rfl⟩ | exact ⟨15, rfl, rfl⟩ | exact ⟨16, rfl, rfl⟩ | assumption)
local macro_rules | `(tactic| fail "lkF") => `(tactic| first | assumption | exact fz_at 0 (by fail "nd") rfl rfl | exact fz_at 1 (by fail "nd") rfl rfl | exact fz_at 2 (by fail "nd") rfl rfl | exact fz_at 3 (by fail "nd") rfl rfl | exact fz_at 4 (by fail "nd") rfl rfl | exact fz_at 5 (by fail "nd") rfl rfl | exact fz_at 6 (by fail "nd") rfl rfl | exact fz_at 7 (by fail "nd") rfl rfl)
local macro_rules | `(tactic| fail "lkD") => `(tactic| first | assumption | exact dz_at 0 (by fail "nd") rfl rfl | exact dz_at 1 (by fail "nd") rfl rfl | exact dz_at 2 (by fail "nd") rfl rfl | exact dz_at 3 (by fail "nd") rfl rfl | exact dz_at 4 (by fail "nd") rfl rfl)
local macro_rules | `(tactic| fail "ptF") => `(tactic| first | assumption | exact fz_put 0 (by fail "nd") rfl (Nat.le_of_ble_eq_true rfl) | exact fz_put 1 (by fail "nd") rfl (Nat.le_of_ble_eq_true rfl) | exact fz_put 2 (by fail "nd") rfl (Nat.le_of_ble_eq_true rfl) | exact fz_put 3 (by fail "nd") rfl (Nat.le_of_ble_eq_true rfl) | exact fz_put 4 (by fail "nd") rfl (Nat.le_of_ble_eq_true rfl) | exact fz_put 5 (by fail "nd") rfl (Nat.le_of_ble_eq_true rfl) | exact fz_put 6 (by fail "nd") rfl (Nat.le_of_ble_eq_true rfl) | exact fz_put 7 (by fail "nd") rfl (Nat.le_of_ble_eq_true rfl) | exact fz_new (by decide +kernel) rfl)
local macro_rules | `(tactic| fail "ptD") => `(tactic| first | assumption | exact dz_put 0 (by fail "nd") rfl (Nat.le_of_ble_eq_true rfl) | exact dz_put 1 (by fail "nd") rfl (Nat.le_of_ble_eq_true rfl) | exact dz_put 2 (by fail "nd") rfl (Nat.le_of_ble_eq_true rfl) | exact dz_put 3 (by fail "nd") rfl (Nat.le_of_ble_eq_true rfl) | exact dz_put 4 (by fail "nd") rfl (Nat.le_of_ble_eq_true rfl))
local macro_rules | `(tactic| fail "sz") => `(tactic| first | assumption | exact (Nat.le_of_ble_eq_true rfl) | omega | decide)
local macro_rules | `(tactic| fail "sd") => `(tactic| first | rfl | assumption | decide | omega | (dsimp only; first | decide | omega) | exact .inr ⟨by decide, by decide⟩ | exact .inl ⟨by decide, by decide⟩ | exact ⟨by omega, by omega⟩ | exact .inl ⟨by omega, by omega⟩ | exact .inr ⟨by omega, by omega⟩ | exact ⟨by omega, by omega, by omega⟩)
local macro_rules | `(tactic| fail "cl") => `(tactic| (clear hH; dsimp only [List.set, List.cons_append, List.nil_append, List.append] at hL))
local macro_rules | `(tactic| fail "gn") => `(tactic| (intro p hp; generalize hH : upd H p _ = H; replace hL := Led.newH hL hp hH; clear hH hp))
local macro_rules | `(tactic| fail "gup") => `(tactic| (generalize hH : upd H _ _ = H; replace hL := Led.upU hL (by fail "up") hH; fail "cl"))
local macro_rules | `(tactic| fail "gmk") => `(tactic| (intro x dx hx hd ne; generalize hH : upd (upd H dx _) x _ = H; replace hL := Led.made hL hx hd ne hH; clear hH hx hd ne))
local macro_rules | `(tactic| fail "v") => `(tactic| refine ⟨_, rfl, ?_⟩)
local macro_rules | `(tactic| fail "i2") => `(tactic| refine ⟨_, _, rfl, rfl, ?_⟩)
local macro_rules | `(tactic| fail "go1") => `(tactic| first
  | refine ⟨_, rfl, ?_⟩
  | refine ⟨_, _, rfl, rfl, ?_⟩
  | refine ⟨_, _, rfl, ?_⟩
  | refine iteT ?_
  | refine iteF ?_
  | refine k_fld hL (by fail "ix") (by assumption) (by assumption) (by fail "lkF") ?_
  | refine k_dgetS hL (by fail "ix") (by fail "lkD") ?_
  | refine k_dgetI hL (by fail "ix") (by assumption) ?_
  | refine k_ixL hL (by fail "ix") (by first | rfl | assumption) ?_
  | refine k_ixT hL (by fail "ix") (by first | rfl | assumption) ?_
  | refine k_tyL hL (by fail "ix") ?_
  | refine k_isd hL (by fail "ix") ?_
  | (refine And.intro (by fail "sz") ?_; fail "gn")
  | refine And.intro (by fail "sd") ?_
  | fail "gn"
  | refine k_meth hL (by fail "ix") (by first | assumption | exact fz_no (by decide +kernel)) ?_
  | refine k_gtup hL (by fail "ix") rfl ?_
  | (refine k_popI hL (by fail "ix") (by assumption) ?_; fail "gup")
  | (refine k_listD hL (by fail "ix") ?_; fail "gn")
  | (refine ⟨_, _, _, _, rfl, rfl, hL.at (by fail "ix"), rfl, ?_⟩; fail "gup")
  | (refine ⟨_, _, _, rfl, rfl, hL.at (by fail "ix"), (by fail "sz"), ?_⟩; fail "gup")
  | (refine ⟨_, _, _, _, rfl, hL.at (by fail "ix"), by assumption, by assumption, Nat.lt_of_le_of_lt fz_len (by decide), ?_⟩; generalize hH : upd H _ _ = H; replace hL := Led.upF hL (by fail "up") (by fail "ptF") hH; fail "cl")
  | (refine ⟨_, _, hL.at (by fail "ix"), Nat.lt_of_le_of_lt fz_len (by decide), ?_⟩; generalize hH : upd H _ _ = H; replace hL := Led.upF hL (by fail "up") (by fail "ptF") hH; fail "cl")
  | (refine k_dputS hL (by fail "ix") (Nat.lt_of_le_of_lt dz_len (by decide)) (by fail "ptD") (by fail "up") ?_; clear hL; intro H hL; dsimp only [List.set, List.cons_append, List.nil_append, List.append] at hL)
  | refine k_lenL2 hL (by fail "ix") ?_
  | refine k_lenT2 hL (by fail "ix") ?_
  | refine .inl ⟨_, rfl, ?_⟩
  | refine .inr ⟨_, rfl, ?_⟩)
local macro_rules | `(tactic| fail "go") => `(tactic| repeat fail "go1")
local macro_rules | `(tactic| fail "pm") => `(tactic| (refine Led.le hL (fun a_ => ?_); simp only [cnt_nil, cnt_cons, cnt_app, List.map_append, List.map_cons, List.map_nil, List.flatMap_append, List.flatMap_cons, List.flatMap_nil, List.append_assoc, List.cons_append, List.nil_append]; omega))

abbrev sDrawn : Stmt := top 14
abbrev ND : List Str := ["dice", "machines", "k", "parts"]
theorem scDrawn : FnScope ["dice", "machines", "k", "parts"] ["dice"] (defScope sDrawn) := ⟨rfl, rfl, rfl, by decide +kernel, rfl, by decide +kernel, by decide +kernel⟩
def mAll : List Str := ["m0", "m1", "m2", "m3", "m4", "m5", "m6", "m7"]
def pAll : List Str := ["p0", "p1", "p2", "p3", "p4", "p5", "p6", "p7"]
def mrO (x : Addr × MRow) : Addr × HO := (x.1, .tup [.str x.2.1, .str x.2.2.1, .int x.2.2.2])
def paO (x : Addr × PRow) : Addr × HO := (x.1, .tup [.str x.2.1, .int x.2.2.1, .int x.2.2.2])
def mrV (x : Addr × MRow) : V := .ref x.1
def paV (x : Addr × PRow) : V := .ref x.1
theorem nmM_ok : ∀ j : _root_.Fin 8, Str.ofString "m" ++ Str.ofString (toString (0 + ((j.1 : Nat) : Int))) = mAll[j.1]! := by decide +kernel
theorem nmP_ok : ∀ j : _root_.Fin 8, Str.ofString "p" ++ Str.ofString (toString (0 + ((j.1 : Nat) : Int))) = pAll[j.1]! := by decide +kernel
theorem sz_ok : ∀ j : _root_.Fin 8, (Str.ofString "m").length + (Str.ofString (toString (0 + ((j.1 : Nat) : Int)))).length = 2 ∧ (Str.ofString "z").length + (Str.ofString (toString ((j.1 : Nat) : Int))).length = 2 ∧ ((j.1 : Nat) : Int).natAbs.log2 < 1920 ∧ (Str.ofString "p").length + (Str.ofString (toString (0 + ((j.1 : Nat) : Int)))).length = 2 := by decide +kernel
theorem gt_ok : ∀ j : _root_.Fin 8, mAll[j.1]? = some mAll[j.1]! ∧ pAll[j.1]? = some pAll[j.1]! := by decide +kernel
structure DrM (rs : List MRow) (all : List Str) : Prop where
  sub : (rs.map (·.1)).Sublist all
  r : ∀ x ∈ rs, 0 ≤ x.2.2
structure DrP (rs : List PRow) (all : List Str) : Prop where
  sub : (rs.map (·.1)).Sublist all
  w : ∀ x ∈ rs, 1 ≤ x.2.1
  c : ∀ x ∈ rs, 1 ≤ x.2.2 ∧ x.2.2 ≤ 4
structure TxtR (mg : Str → Option Value) : Prop where
  range : mg "range" = none
  str : mg "str" = none
def spDrawn : Sp := fun vs H Q _ => ∃ (d : Addr) (x y z : Int) (R : Lg), vs = [.ref d] ∧ Led H ((d, dD x y z) :: R) ∧
  ∀ (t ml al : Addr) (mrs : List (Addr × MRow)) (prs : List (Addr × PRow)) (x y z : Int) H', DrM (mrs.map (·.2)) mAll → DrP (prs.map (·.2)) pAll →
    Led H' ((t, .tup [.ref ml, .ref al]) :: (ml, .lst (mrs.map mrV)) :: (al, .lst (prs.map paV)) :: (d, dD x y z) :: (mrs.map mrO ++ (prs.map paO ++ R))) → Q (.ref t) H'
section
variable {P : Program} {w : World} {K : PySem.W.Frag} {mg : Str → Option Value} {base : Heap}
theorem ok_drawn {f : Addr} {fd : FuncData} (F : Fun K "_law_drawn" "_law_drawn" sDrawn f fd) (T : TxtR mg) (c__law_roll : Cal P w K mg base 1 "_law_roll" spRoll []) : FnOk P w K mg base CX0 2 f fd ["dice"] spDrawn := by
  refine F.ok scDrawn (fun vs H Q E h => ?_) (fun cdv A outer s0 H vs Q E hr h => ?_)
  · obtain ⟨d, x, y, z, R, rfl, _⟩ := h
    rfl
  · obtain ⟨d, x, y, z, R, rfl, hL, k⟩ := h
    refine ⟨_, (pss_cons (ps_setLc (i := 1) (own := [("k", 2)]) (g := gName 2) (by rfl) scDrawn.nd rfl rfl (sw_true rfl rfl rfl (by decide +kernel)) (pi_range1 (by rfl) T.range (pa_cons pe_int pa_nil)) (blkOk_by (own := [("k", 2)]) (N := ["dice", "machines", "k", "parts"]) (sc := (defScope sDrawn)) (by decide +kernel)) (fun _ _ _ _ _ => (pg_name (i := 2) scDrawn.nd rfl (Or.inl rfl))) (fun _ _ _ _ _ => (pts_one (pt_cmpR op_gt (pe_c c__law_roll hr (by decide) (by rfl) (pa_cons (pv 0) (pa_cons pe_int pa_nil))) pe_int (nomark _)))) (fun _ _ _ _ _ => (pe_tup (pa_cons (pe_op op_add_str pe_str (pe_callTy call_str_int (by rfl) T.str (by decide +kernel) (pa_cons (pv 2) pa_nil))) (pa_cons (pe_op op_add_str pe_str (pe_callTy call_str_int (by rfl) T.str (by decide +kernel) (pa_cons (pe_c c__law_roll hr (by decide) (by rfl) (pa_cons (pv 0) (pa_cons pe_int pa_nil))) pa_nil))) (pa_cons (pe_c c__law_roll hr (by decide) (by rfl) (pa_cons (pv 0) (pa_cons pe_int pa_nil))) pa_nil))))))
  (pss_cons (ps_setLc (i := 3) (own := [("k", 2)]) (g := gName 2) (by rfl) scDrawn.nd rfl rfl (sw_true rfl rfl rfl (by decide +kernel)) (pi_range1 (by rfl) T.range (pa_cons pe_int pa_nil)) (blkOk_by (own := [("k", 2)]) (N := ["dice", "machines", "k", "parts"]) (sc := (defScope sDrawn)) (by decide +kernel)) (fun _ _ _ _ _ => (pg_name (i := 2) scDrawn.nd rfl (Or.inl rfl))) (fun _ _ _ _ _ => (pts_one (pt_cmpR op_gt (pe_c c__law_roll hr (by decide) (by rfl) (pa_cons (pv 0) (pa_cons pe_int pa_nil))) pe_int (nomark _)))) (fun _ _ _ _ _ => (pe_tup (pa_cons (pe_op op_add_str pe_str (pe_callTy call_str_int (by rfl) T.str (by decide +kernel) (pa_cons (pv 2) pa_nil))) (pa_cons (pe_op op_add pe_int (pe_c c__law_roll hr (by decide) (by rfl) (pa_cons (pv 0) (pa_cons pe_int pa_nil)))) (pa_cons (pe_op op_add pe_int (pe_c c__law_roll hr (by decide) (by rfl) (pa_cons (pv 0) (pa_cons pe_int pa_nil)))) pa_nil))))))
  (pss_one (ps_ret (pe_tup (pa_cons (pv 1) (pa_cons (pv 3) pa_nil))))))), ?_⟩
    fail "go1"
    refine ⟨by decide, by decide, fun D1 hD1 => lc_it (walk_range (lo := 0) (n := 8)) (fun i H => Hold (∃ (mrs : List (Addr × MRow)) (x y z : Int), DrM (mrs.map (·.2)) (mAll.take i) ∧ Led H ((D1, .lst (mrs.map mrV)) :: (d, dD x y z) :: (mrs.map mrO ++ R)))) (.mk ⟨[], x, y, z, ⟨.slnil, fun _ h => (nomatch h)⟩, hL.new hD1⟩) (fun _ _ _ _ => trivial) (fun i v H1 H hi h hy => ?_) (fun H h => ?_)⟩
    · clear hL
      obtain ⟨mrs, x, y, z, dm, hL⟩ := h.out
      clear h
      obtain ⟨rfl, rfl⟩ := hy
      have hml : mrs.length < 60 := by
        have h1 := dm.sub.length_le
        rw [List.length_map, List.length_map, List.length_take] at h1
        omega
      have hb : ∀ j : Fin 8, (0 + ((j.1 : Nat) : Int)).natAbs.log2 < 1920 := by decide
      refine ⟨rfl, ?_⟩
      fail "go"
      refine ⟨d, x, y, z, 4, (D1, .lst (mrs.map mrV)) :: (mrs.map mrO ++ R), rfl, by (refine Led.le hL (fun a_ => ?_); simp only [cnt_nil, cnt_cons, cnt_app, List.map_append, List.map_cons, List.map_nil, List.flatMap_append, List.flatMap_cons, List.flatMap_nil, List.append_assoc, List.cons_append, List.nil_append]; omega), by decide, by decide, fun r1 x y z H _ _ hL => ?_⟩
      fail "go"
      refine ite_d (fun _ => ?_) (fun _ => ?_)
      · fail "go"
        refine ⟨hb ⟨i, hi⟩, ?_⟩
        fail "go"
        rw [nmM_ok ⟨i, hi⟩]
        refine ⟨by rw [(sz_ok ⟨i, hi⟩).1]; decide, ?_⟩
        fail "go"
        refine ⟨d, x, y, z, 4, (D1, .lst (mrs.map mrV)) :: (mrs.map mrO ++ R), rfl, hL, by decide, by decide, fun r2 x y z H h3 h4 hL => ?_⟩
        obtain ⟨j, rfl⟩ : ∃ j : _root_.Fin 8, r2 = ((j.1 : Nat) : Int) := ⟨⟨r2.toNat, by omega⟩, by dsimp only; omega⟩
        fail "go"
        refine ⟨(sz_ok j).2.2.1, ?_⟩
        fail "go"
        refine ⟨by rw [(sz_ok j).2.1]; decide, ?_⟩
        fail "go"
        refine ⟨d, x, y, z, 20, (D1, .lst (mrs.map mrV)) :: (mrs.map mrO ++ R), rfl, hL, by decide, by decide, fun r3 x y z H h5 _ hL => ?_⟩
        fail "go"
        refine ⟨_, hL.at ⟨2, rfl⟩, by rw [List.length_map]; exact small60 hml, ?_⟩
        fail "gup"
        refine .mk ⟨mrs ++ [(p, (mAll[i]!, Str.ofString "z" ++ Str.ofString (toString ((j.1 : Nat) : Int)), r3))], x, y, z, ⟨?_, fun u hu => ?_⟩, ?_⟩
        · rw [List.map_append, List.map_append, List.take_add_one, (gt_ok ⟨i, hi⟩).1]
          exact dm.sub.append (List.Sublist.refl _)
        · rw [List.map_append] at hu
          rcases List.mem_append.mp hu with hu | hu
          · exact dm.r u hu
          · rw [List.mem_singleton.mp hu]; exact h5
        · (refine Led.le hL (fun a_ => ?_); simp only [cnt_nil, cnt_cons, cnt_app, List.map_append, List.map_cons, List.map_nil, List.flatMap_append, List.flatMap_cons, List.flatMap_nil, List.append_assoc, List.cons_append, List.nil_append, mrO, mrV]; omega)
      · fail "go"
        refine .mk ⟨mrs, x, y, z, ⟨dm.sub.trans (by rw [List.take_add_one]; exact List.sublist_append_left _ _), dm.r⟩, ?_⟩
        (refine Led.le hL (fun a_ => ?_); simp only [cnt_nil, cnt_cons, cnt_app, List.map_append, List.map_cons, List.map_nil, List.flatMap_append, List.flatMap_cons, List.flatMap_nil, List.append_assoc, List.cons_append, List.nil_append]; omega)
    clear hL
    obtain ⟨mrs, x, y, z, dm, hL⟩ := h.out
    clear h
    fail "go1"
    fail "go1"
    refine ⟨by decide, fun D2 hD2 => lc_it (walk_range (lo := 0) (n := 8)) (fun i H => Hold (∃ (prs : List (Addr × PRow)) (x y z : Int), DrP (prs.map (·.2)) (pAll.take i) ∧ Led H ((D2, .lst (prs.map paV)) :: (d, dD x y z) :: (D1, .lst (mrs.map mrV)) :: (prs.map paO ++ (mrs.map mrO ++ R))))) (.mk ⟨[], x, y, z, ⟨.slnil, fun _ h => (nomatch h), fun _ h => (nomatch h)⟩, ?_⟩) (fun _ _ _ _ => trivial) (fun i v H1 H hi h hy => ?_) (fun H h => ?_)⟩
    · replace hL := hL.new (o := .lst []) hD2
      (refine Led.le hL (fun a_ => ?_); simp only [cnt_nil, cnt_cons, cnt_app, List.map_append, List.map_cons, List.map_nil, List.flatMap_append, List.flatMap_cons, List.flatMap_nil, List.append_assoc, List.cons_append, List.nil_append]; omega)
    · clear hL
      obtain ⟨prs, x, y, z, dp, hL⟩ := h.out
      clear h
      obtain ⟨rfl, rfl⟩ := hy
      have hml : prs.length < 60 := by
        have h1 := dp.sub.length_le
        rw [List.length_map, List.length_map, List.length_take] at h1
        omega
      have hb : ∀ j : _root_.Fin 8, (0 + ((j.1 : Nat) : Int)).natAbs.log2 < 1920 := by decide
      refine ⟨rfl, ?_⟩
      fail "go"
      refine ⟨d, x, y, z, 4, (D2, .lst (prs.map paV)) :: (D1, .lst (mrs.map mrV)) :: (prs.map paO ++ (mrs.map mrO ++ R)), rfl, by (refine Led.le hL (fun a_ => ?_); simp only [cnt_nil, cnt_cons, cnt_app, List.map_append, List.map_cons, List.map_nil, List.flatMap_append, List.flatMap_cons, List.flatMap_nil, List.append_assoc, List.cons_append, List.nil_append]; omega), by decide, by decide, fun r1 x y z H _ _ hL => ?_⟩
      fail "go"
      refine ite_d (fun _ => ?_) (fun _ => ?_)
      · fail "go"
        refine ⟨hb ⟨i, hi⟩, ?_⟩
        fail "go"
        rw [nmP_ok ⟨i, hi⟩]
        refine ⟨by rw [(sz_ok ⟨i, hi⟩).2.2.2]; decide, ?_⟩
        fail "go"
        refine ⟨d, x, y, z, 5, (D2, .lst (prs.map paV)) :: (D1, .lst (mrs.map mrV)) :: (prs.map paO ++ (mrs.map mrO ++ R)), rfl, hL, by decide, by decide, fun r2 x y z H h3 h4 hL => ?_⟩
        fail "go"
        refine ⟨d, x, y, z, 4, (D2, .lst (prs.map paV)) :: (D1, .lst (mrs.map mrV)) :: (prs.map paO ++ (mrs.map mrO ++ R)), rfl, hL, by decide, by decide, fun r3 x y z H h5 h6 hL => ?_⟩
        fail "go"
        refine ⟨_, hL.at ⟨2, rfl⟩, by rw [List.length_map]; exact small60 hml, ?_⟩
        fail "gup"
        refine .mk ⟨prs ++ [(p, (pAll[i]!, 1 + r2, 1 + r3))], x, y, z, ⟨?_, fun u hu => ?_, fun u hu => ?_⟩, ?_⟩
        · rw [List.map_append, List.map_append, List.take_add_one, (gt_ok ⟨i, hi⟩).2]
          exact dp.sub.append (List.Sublist.refl _)
        · rw [List.map_append] at hu
          rcases List.mem_append.mp hu with hu | hu
          · exact dp.w u hu
          · rw [List.mem_singleton.mp hu]; dsimp only; omega
        · rw [List.map_append] at hu
          rcases List.mem_append.mp hu with hu | hu
          · exact dp.c u hu
          · rw [List.mem_singleton.mp hu]; dsimp only; omega
        · (refine Led.le hL (fun a_ => ?_); simp only [cnt_nil, cnt_cons, cnt_app, List.map_append, List.map_cons, List.map_nil, List.flatMap_append, List.flatMap_cons, List.flatMap_nil, List.append_assoc, List.cons_append, List.nil_append, paO, paV]; omega)
      · fail "go"
        refine .mk ⟨prs, x, y, z, ⟨dp.sub.trans (by rw [List.take_add_one]; exact List.sublist_append_left _ _), dp.w, dp.c⟩, ?_⟩
        (refine Led.le hL (fun a_ => ?_); simp only [cnt_nil, cnt_cons, cnt_app, List.map_append, List.map_cons, List.map_nil, List.flatMap_append, List.flatMap_cons, List.flatMap_nil, List.append_assoc, List.cons_append, List.nil_append]; omega)
    clear hL
    obtain ⟨prs, x, y, z, dp, hL⟩ := h.out
    clear h
    fail "go"
    refine k p D1 D2 mrs prs x y z _ dm dp ?_
    (refine Led.le hL (fun a_ => ?_); simp only [cnt_nil, cnt_cons, cnt_app, List.map_append, List.map_cons, List.map_nil, List.flatMap_append, List.flatMap_cons, List.flatMap_nil, List.append_assoc, List.cons_append, List.nil_append]; omega)
end
end Sd


set_option linter.unusedVariables false
namespace Sd
open PySem L2
open PyProof.Rows (sortedS)
open C8 (Cal Met Mak pe_c pe_mk pe_mt pe_mt0 pss_cut tCut)
set_option linter.unusedSimpArgs false
set_option pp.deepTerms false
set_option pp.deepTerms.threshold 12
set_option hygiene false
local macro_rules | `(tactic| fail "nd") => `(tactic| first | assumption | decide +kernel)
local macro_rules | `(tactic| fail "ix") => `(tactic| first | exact ⟨0, rfl⟩ | exact ⟨1, rfl⟩ | exact ⟨2, rfl⟩ | exact ⟨3, rfl⟩ | exact ⟨4, rfl⟩ | exact ⟨5, rfl⟩ | exact ⟨6, rfl⟩ | exact ⟨7, rfl⟩ | exact ⟨8, rfl⟩ | exact ⟨9, rfl⟩ | exact ⟨10, rfl⟩ | exact ⟨11, rfl⟩ | exact ⟨12, rfl⟩ | exact ⟨13, rfl⟩ | exact ⟨14, rfl⟩ | exact ⟨15, rfl⟩ | exact ⟨16, rfl⟩ | exact ⟨17, rfl⟩ | exact ⟨18, rfl⟩ | assumption)
local macro_rules | `(tactic| fail "up") => `(tactic| first | exact ⟨0, rfl, rfl⟩ | exact ⟨1, rfl, rfl⟩ | exact ⟨2, rfl, rfl⟩ | exact ⟨3, rfl, rfl⟩ | exact ⟨4, rfl, rfl⟩ | exact ⟨5, rfl, rfl⟩ | exact ⟨6, rfl, rfl⟩ | exact ⟨7, rfl, rfl⟩ | exact ⟨8, rfl, rfl⟩ | exact ⟨9, rfl, rfl⟩ | exact ⟨10, rfl, rfl⟩ | exact ⟨11, rfl, rfl⟩ | exact ⟨12, rfl, rfl⟩ | exact ⟨13, rfl, rfl⟩ | exact ⟨14, rfl, rfl⟩ | exact ⟨15, rfl, rfl⟩ | exact ⟨16, rfl, rfl⟩ | assumption)
local macro_rules | `(tactic| fail "lkF") => `(tactic| first | assumption | exact fz_at 0 (by fail "nd") rfl rfl | exact fz_at 1 (by fail "nd") rfl rfl | exact fz_at 2 (by fail "nd") rfl rfl | exact fz_at 3 (by fail "nd") rfl rfl | exact fz_at 4 (by fail "nd") rfl rfl | exact fz_at 5 (by fail "nd") rfl rfl | exact fz_at 6 (by fail "nd") rfl rfl | exact fz_at 7 (by fail "nd") rfl rfl)
local macro_rules | `(tactic| fail "lkD") => `(tactic| first | assumption | exact dz_at 0 (by fail "nd") rfl rfl | exact dz_at 1 (by fail "nd") rfl rfl | exact dz_at 2 (by fail "nd") rfl rfl | exact dz_at 3 (by fail "nd") rfl rfl | exact dz_at 4 (by fail "nd") rfl rfl)
local macro_rules | `(tactic| fail "ptF") => `(tactic| first | assumption | exact fz_put 0 (by fail "nd") rfl (Nat.le_of_ble_eq_true rfl) | exact fz_put 1 (by fail "nd") rfl (Nat.le_of_ble_eq_true rfl) | exact fz_put 2 (by fail "nd") rfl (Nat.le_of_ble_eq_true rfl) | exact fz_put 3 (by fail "nd") rfl (Nat.le_of_ble_eq_true rfl) | exact fz_put 4 (by fail "nd") rfl (Nat.le_of_ble_eq_true rfl) | exact fz_put 5 (by fail "nd") rfl (Nat.le_of_ble_eq_true rfl) | exact fz_put 6 (by fail "nd") rfl (Nat.le_of_ble_eq_true rfl) | exact fz_put 7 (by fail "nd") rfl (Nat.le_of_ble_eq_true rfl) | exact fz_new (by decide +kernel) rfl)
local macro_rules | `(tactic| fail "ptD") => `(tactic| first | assumption | exact dz_put 0 (by fail "nd") rfl (Nat.le_of_ble_eq_true rfl) | exact dz_put 1 (by fail "nd") rfl (Nat.le_of_ble_eq_true rfl) | exact dz_put 2 (by fail "nd") rfl (Nat.le_of_ble_eq_true rfl) | exact dz_put 3 (by fail "nd") rfl (Nat.le_of_ble_eq_true rfl) | exact dz_put 4 (by fail "nd") rfl (Nat.le_of_ble_eq_true rfl))
local macro_rules | `(tactic| fail "sz") => `(tactic| first | assumption | exact (Nat.le_of_ble_eq_true rfl) | omega | decide)
local macro_rules | `(tactic| fail "sd") => `(tactic| first | rfl | assumption | decide | omega | (dsimp only; first | decide | omega) | exact .inr ⟨by decide, by decide⟩ | exact .inl ⟨by decide, by decide⟩ | exact ⟨by omega, by omega⟩ | exact .inl ⟨by omega, by omega⟩ | exact .inr ⟨by omega, by omega⟩ | exact ⟨by omega, by omega, by omega⟩)
local macro_rules | `(tactic| fail "cl") => `(tactic| (clear hH; dsimp only [List.set, List.cons_append, List.nil_append, List.append] at hL))
local macro_rules | `(tactic| fail "gn") => `(tactic| (intro p hp; generalize hH : upd H p _ = H; replace hL := Led.newH hL hp hH; clear hH hp))
local macro_rules | `(tactic| fail "gup") => `(tactic| (generalize hH : upd H _ _ = H; replace hL := Led.upU hL (by fail "up") hH; fail "cl"))
local macro_rules | `(tactic| fail "gmk") => `(tactic| (intro x dx hx hd ne; generalize hH : upd (upd H dx _) x _ = H; replace hL := Led.made hL hx hd ne hH; clear hH hx hd ne))
local macro_rules | `(tactic| fail "v") => `(tactic| refine ⟨_, rfl, ?_⟩)
local macro_rules | `(tactic| fail "i2") => `(tactic| refine ⟨_, _, rfl, rfl, ?_⟩)
local macro_rules | `(tactic| fail "go1") => `(tactic| first
  | refine ⟨_, rfl, ?_⟩
  | refine ⟨_, _, rfl, rfl, ?_⟩
  | refine ⟨_, _, rfl, ?_⟩
  | refine iteT ?_
  | refine iteF ?_
  | refine k_fld hL (by fail "ix") (by assumption) (by assumption) (by fail "lkF") ?_
  | refine k_dgetS hL (by fail "ix") (by fail "lkD") ?_
  | refine k_dgetI hL (by fail "ix") (by assumption) ?_
  | refine k_ixL hL (by fail "ix") (by first | rfl | assumption) ?_
  | refine k_ixT hL (by fail "ix") (by first | rfl | assumption) ?_
  | refine k_tyL hL (by fail "ix") ?_
  | refine k_isd hL (by fail "ix") ?_
  | (refine And.intro (by fail "sz") ?_; fail "gn")
  | refine And.intro (by fail "sd") ?_
  | fail "gn"
  | refine k_meth hL (by fail "ix") (by first | assumption | exact fz_no (by decide +kernel)) ?_
  | refine k_gtup hL (by fail "ix") rfl ?_
  | (refine k_popI hL (by fail "ix") (by assumption) ?_; fail "gup")
  | (refine k_listD hL (by fail "ix") ?_; fail "gn")
  | (refine ⟨_, _, _, _, rfl, rfl, hL.at (by fail "ix"), rfl, ?_⟩; fail "gup")
  | (refine ⟨_, _, _, rfl, rfl, hL.at (by fail "ix"), (by fail "sz"), ?_⟩; fail "gup")
  | (refine ⟨_, _, _, _, rfl, hL.at (by fail "ix"), by assumption, by assumption, Nat.lt_of_le_of_lt fz_len (by decide), ?_⟩; generalize hH : upd H _ _ = H; replace hL := Led.upF hL (by fail "up") (by fail "ptF") hH; fail "cl")
  | (refine ⟨_, _, hL.at (by fail "ix"), Nat.lt_of_le_of_lt fz_len (by decide), ?_⟩; generalize hH : upd H _ _ = H; replace hL := Led.upF hL (by fail "up") (by fail "ptF") hH; fail "cl")
  | (refine k_dputS hL (by fail "ix") (Nat.lt_of_le_of_lt dz_len (by decide)) (by fail "ptD") (by fail "up") ?_; clear hL; intro H hL; dsimp only [List.set, List.cons_append, List.nil_append, List.append] at hL)
  | refine k_lenL2 hL (by fail "ix") ?_
  | refine k_lenT2 hL (by fail "ix") ?_
  | refine .inl ⟨_, rfl, ?_⟩
  | refine .inr ⟨_, rfl, ?_⟩)
local macro_rules | `(tactic| fail "go") => `(tactic| repeat fail "go1")
local macro_rules | `(tactic| fail "pm") => `(tactic| (refine Led.le hL (fun a_ => ?_); simp only [cnt_nil, cnt_cons, cnt_app, List.map_append, List.map_cons, List.map_nil, List.flatMap_append, List.flatMap_cons, List.flatMap_nil, List.append_assoc, List.cons_append, List.nil_append]; omega))

abbrev sLPlan : Stmt := top 13
abbrev NQ : List Str := ["machines", "parts", "old", "left", "zones", "found", "lacks", "row", "name", "weight", "copies", "rows", "one", "other", "free", "best"]
theorem scLPlan : FnScope ["machines", "parts", "old", "left", "zones", "found", "lacks", "row", "name", "weight", "copies", "rows", "one", "other", "free", "best"] ["machines", "parts", "old"] (defScope sLPlan) := ⟨rfl, rfl, rfl, by decide +kernel, rfl, by decide +kernel, by decide +kernel⟩
abbrev WX (P : Program) (w : World) (K : PySem.W.Frag) (mg : Str → Option Value) (base : Heap) (f : Addr) (cdv : Value) (A : Around) (outer : List Env) (s : Shared) (H : Hp) (E : XK) : Cx := (cxOf CX0 P w K mg base NQ "_law_plan" (defScope sLPlan) f cdv A outer s H E).nox
def zV (z : Str → Str) (n : Str) : Key × V := (Sum.inr n, .str (z n))
def zK (ns : List Str) (z : Str → Str) : List (Key × V) := ns.map (zV z)
theorem z_val {ns : List Str} {z : Str → Str} {n : Str} (h : n ∈ ns) : valV (zK ns z) (Sum.inr n) = some (.str (z n)) := by
  unfold zK
  induction ns with
  | nil => cases h
  | cons x r ih =>
    by_cases e : x = n
    · subst e; exact valV_pos (p := zV z x) rfl
    · rw [List.map_cons, valV_neg (p := zV z x) (fun y => e (Sum.inr.inj y))]
      exact ih ((List.mem_cons.mp h).resolve_left fun y => e y.symm)
theorem lf_no {ns : List Str} {g : Gf} {n : Str} (h : n ∉ ns) : valV (lfK ns g) (Sum.inr n) = none := by
  unfold lfK
  induction ns with
  | nil => rfl
  | cons x r ih =>
    have e : ¬ x = n := fun e => h (e ▸ .head _)
    rw [List.map_cons, valV_neg (p := lfV g x) (fun y => e (Sum.inr.inj y))]
    exact ih fun m => h (.tail _ m)
section
variable {K : PySem.W.Frag}
/-- [zones[other] for other in rows] -/
theorem lc_zones {D H1 rl zd} {L : Lg} {ns rows : List Str} {z : Str → Str} {i j : Nat} {σ : L2.St} {Qd : Hp → Prop} (hL : Led H1 L) (hD : H1 D = none) (hr : At L rl (.lst (rows.map .str))) (hz : At L zd (.dK (zK ns z))) (hsub : ∀ m ∈ rows, m ∈ ns) (h60 : rows.length < 60)
    (hs : ∀ x H, gName j x (wipe σ [j]) H fun σ2 H2 => wipe σ2 [j] = wipe σ [j] ∧ H2 = H ∧ σ2[i]? = some (some (.ref zd)) ∧ σ2[j]? = some (some x))
    (hd : ∀ H, Led H ((D, .lst ((rows.map z).map .str)) :: L) → Qd H) :
    ∃ W : Nat → Nat → Hp → Prop, (∃ m, W 0 m (L2.upd H1 D (.lst []))) ∧ ∀ i' m H, W i' m H →
      ((Itl K rl).stop i' H ∧ Qd H) ∨ ((Itl K rl).go i' H ∧ ∃ Nx : Hp → Prop, (∀ H', Nx H' → ∃ m', m' < m ∧ W (i' + 1) m' H') ∧ ∀ x H', (Itl K rl).yld i' H x H' → gName j x (wipe σ [j]) H' fun σ2 H2 => wipe σ2 [j] = wipe σ [j] ∧ tYes σ2 H2 fun b H3 =>
        if b = true then tDGet (tVar i) (tVar j) σ2 H3 fun y H4 => ∃ acc, H4 D = some (.lst acc) ∧ acc.length < sizeLine ∧ Nx (L2.upd H4 D (.lst (acc ++ [y]))) else Nx H3) := by
  obtain ⟨ir, hir⟩ := hr
  obtain ⟨iz, hiz⟩ := hz
  refine lc_list (K := K) (a := rl) (xs := rows.map V.str) (fun i H => Hold (Led H ((D, .lst (((rows.take i).map z).map .str)) :: L))) (.mk (hL.new hD)) (fun i H _ h => .of (h.out.at ⟨ir + 1, hir⟩)) (fun k x H hi h => ?_) (fun H h => ?_)
  · have hL := h.out
    clear h
    rw [List.getElem?_map] at hi
    obtain ⟨n, hn, rfl⟩ := Option.map_eq_some_iff.mp hi
    obtain ⟨q1, _, q2, q3⟩ := hs (.str n) H
    refine ⟨q1, k_yes ?_⟩
    refine ⟨.ref zd, q2, .str n, q3, ?_⟩
    refine k_dgetS hL ⟨iz + 1, hiz⟩ (z_val (hsub n (List.mem_of_getElem? hn))) ?_
    refine ⟨_, hL.at ⟨0, rfl⟩, ?_, .mk ?_⟩
    · rw [List.length_map, List.length_map, List.length_take]; exact small60 (by omega)
    · rw [List.take_add_one, hn, Option.toList_some, List.map_append, List.map_append]
      exact hL.upU (o' := .lst (((rows.take k).map z).map V.str ++ [.str (z n)])) ⟨0, rfl, rfl⟩ rfl
  · refine hd H ?_
    have := h.out
    rw [List.length_map, List.take_length] at this
    exact this
end
end Sd


set_option linter.unusedVariables false
namespace Sd
open PySem L2
open PyProof.Rows (sortedS)
open C8 (Cal Met Mak pe_c pe_mk pe_mt pe_mt0 pss_cut tCut)
set_option linter.unusedSimpArgs false
set_option pp.deepTerms false
set_option pp.deepTerms.threshold 12
set_option hygiene false
local macro_rules | `(tactic| fail "nd") => `(tactic| first | assumption | decide +kernel)
local macro_rules | `(tactic| fail "ix") => `(tactic| first | exact ⟨0, rfl⟩ | exact ⟨1, rfl⟩ | exact ⟨2, rfl⟩ | exact ⟨3, rfl⟩ | exact ⟨4, rfl⟩ | exact ⟨5, rfl⟩ | exact ⟨6, rfl⟩ | exact ⟨7, rfl⟩ | exact ⟨8, rfl⟩ | exact ⟨9, rfl⟩ | exact ⟨10, rfl⟩ | exact ⟨11, rfl⟩ | exact ⟨12, rfl⟩ | exact ⟨13, rfl⟩ | exact ⟨14, rfl⟩ | exact ⟨15, rfl⟩ | exact ⟨16, rfl⟩ | exact ⟨17, rfl⟩ | exact ⟨18, rfl⟩ | assumption)
local macro_rules | `(tactic| fail "up") => `(tactic| first | exact ⟨0, rfl, rfl⟩ | exact ⟨1, rfl, rfl⟩ | exact ⟨2, rfl, rfl⟩ | exact ⟨3, rfl, rfl⟩ | exact ⟨4, rfl, rfl⟩ | exact ⟨5, rfl, rfl⟩ | exact ⟨6, rfl, rfl⟩ | exact ⟨7, rfl, rfl⟩ | exact ⟨8, rfl, rfl⟩ | exact ⟨9, rfl, rfl⟩ | exact ⟨10, rfl, rfl⟩ | exact ⟨11, rfl, rfl⟩ | exact ⟨12, rfl, rfl⟩ | exact ⟨13, rfl, rfl⟩ | exact ⟨14, rfl, rfl⟩ | exact ⟨15, rfl, rfl⟩ | exact ⟨16, rfl, rfl⟩ | assumption)
local macro_rules | `(tactic| fail "lkF") => `(tactic| first | assumption | exact fz_at 0 (by fail "nd") rfl rfl | exact fz_at 1 (by fail "nd") rfl rfl | exact fz_at 2 (by fail "nd") rfl rfl | exact fz_at 3 (by fail "nd") rfl rfl | exact fz_at 4 (by fail "nd") rfl rfl | exact fz_at 5 (by fail "nd") rfl rfl | exact fz_at 6 (by fail "nd") rfl rfl | exact fz_at 7 (by fail "nd") rfl rfl)
local macro_rules | `(tactic| fail "lkD") => `(tactic| first | assumption | exact dz_at 0 (by fail "nd") rfl rfl | exact dz_at 1 (by fail "nd") rfl rfl | exact dz_at 2 (by fail "nd") rfl rfl | exact dz_at 3 (by fail "nd") rfl rfl | exact dz_at 4 (by fail "nd") rfl rfl)
local macro_rules | `(tactic| fail "ptF") => `(tactic| first | assumption | exact fz_put 0 (by fail "nd") rfl (Nat.le_of_ble_eq_true rfl) | exact fz_put 1 (by fail "nd") rfl (Nat.le_of_ble_eq_true rfl) | exact fz_put 2 (by fail "nd") rfl (Nat.le_of_ble_eq_true rfl) | exact fz_put 3 (by fail "nd") rfl (Nat.le_of_ble_eq_true rfl) | exact fz_put 4 (by fail "nd") rfl (Nat.le_of_ble_eq_true rfl) | exact fz_put 5 (by fail "nd") rfl (Nat.le_of_ble_eq_true rfl) | exact fz_put 6 (by fail "nd") rfl (Nat.le_of_ble_eq_true rfl) | exact fz_put 7 (by fail "nd") rfl (Nat.le_of_ble_eq_true rfl) | exact fz_new (by decide +kernel) rfl)
local macro_rules | `(tactic| fail "ptD") => `(tactic| first | assumption | exact dz_put 0 (by fail "nd") rfl (Nat.le_of_ble_eq_true rfl) | exact dz_put 1 (by fail "nd") rfl (Nat.le_of_ble_eq_true rfl) | exact dz_put 2 (by fail "nd") rfl (Nat.le_of_ble_eq_true rfl) | exact dz_put 3 (by fail "nd") rfl (Nat.le_of_ble_eq_true rfl) | exact dz_put 4 (by fail "nd") rfl (Nat.le_of_ble_eq_true rfl))
local macro_rules | `(tactic| fail "sz") => `(tactic| first | assumption | exact (Nat.le_of_ble_eq_true rfl) | omega | decide)
local macro_rules | `(tactic| fail "sd") => `(tactic| first | rfl | assumption | decide | omega | (dsimp only; first | decide | omega) | exact .inr ⟨by decide, by decide⟩ | exact .inl ⟨by decide, by decide⟩ | exact ⟨by omega, by omega⟩ | exact .inl ⟨by omega, by omega⟩ | exact .inr ⟨by omega, by omega⟩ | exact ⟨by omega, by omega, by omega⟩)
local macro_rules | `(tactic| fail "cl") => `(tactic| (clear hH; dsimp only [List.set, List.cons_append, List.nil_append, List.append] at hL))
local macro_rules | `(tactic| fail "gn") => `(tactic| (intro p hp; generalize hH : upd H p _ = H; replace hL := Led.newH hL hp hH; clear hH hp))
local macro_rules | `(tactic| fail "gup") => `(tactic| (generalize hH : upd H _ _ = H; replace hL := Led.upU hL (by fail "up") hH; fail "cl"))
local macro_rules | `(tactic| fail "gmk") => `(tactic| (intro x dx hx hd ne; generalize hH : upd (upd H dx _) x _ = H; replace hL := Led.made hL hx hd ne hH; clear hH hx hd ne))
local macro_rules | `(tactic| fail "v") => `(tactic| refine ⟨_, rfl, ?_⟩)
local macro_rules | `(tactic| fail "i2") => `(tactic| refine ⟨_, _, rfl, rfl, ?_⟩)
local macro_rules | `(tactic| fail "go1") => `(tactic| first
  | refine ⟨_, rfl, ?_⟩
  | refine ⟨_, _, rfl, rfl, ?_⟩
  | refine ⟨_, _, rfl, ?_⟩
  | refine iteT ?_
  | refine iteF ?_
  | refine k_fld hL (by fail "ix") (by assumption) (by assumption) (by fail "lkF") ?_
  | refine k_dgetS hL (by fail "ix") (by fail "lkD") ?_
  | refine k_dgetI hL (by fail "ix") (by assumption) ?_
  | refine k_ixL hL (by fail "ix") (by first | rfl | assumption) ?_
  | refine k_ixT hL (by fail "ix") (by first | rfl | assumption) ?_
  | refine k_tyL hL (by fail "ix") ?_
  | refine k_isd hL (by fail "ix") ?_
  | (refine And.intro (by fail "sz") ?_; fail "gn")
  | refine And.intro (by fail "sd") ?_
  | fail "gn"
  | refine k_meth hL (by fail "ix") (by first | assumption | exact fz_no (by decide +kernel)) ?_
  | refine k_gtup hL (by fail "ix") rfl ?_
  | (refine k_popI hL (by fail "ix") (by assumption) ?_; fail "gup")
  | (refine k_listD hL (by fail "ix") ?_; fail "gn")
  | (refine ⟨_, _, _, _, rfl, rfl, hL.at (by fail "ix"), rfl, ?_⟩; fail "gup")
  | (refine ⟨_, _, _, rfl, rfl, hL.at (by fail "ix"), (by fail "sz"), ?_⟩; fail "gup")
  | (refine ⟨_, _, _, _, rfl, hL.at (by fail "ix"), by assumption, by assumption, Nat.lt_of_le_of_lt fz_len (by decide), ?_⟩; generalize hH : upd H _ _ = H; replace hL := Led.upF hL (by fail "up") (by fail "ptF") hH; fail "cl")
  | (refine ⟨_, _, hL.at (by fail "ix"), Nat.lt_of_le_of_lt fz_len (by decide), ?_⟩; generalize hH : upd H _ _ = H; replace hL := Led.upF hL (by fail "up") (by fail "ptF") hH; fail "cl")
  | (refine k_dputS hL (by fail "ix") (Nat.lt_of_le_of_lt dz_len (by decide)) (by fail "ptD") (by fail "up") ?_; clear hL; intro H hL; dsimp only [List.set, List.cons_append, List.nil_append, List.append] at hL)
  | refine k_lenL2 hL (by fail "ix") ?_
  | refine k_lenT2 hL (by fail "ix") ?_
  | refine .inl ⟨_, rfl, ?_⟩
  | refine .inr ⟨_, rfl, ?_⟩)
local macro_rules | `(tactic| fail "go") => `(tactic| repeat fail "go1")
local macro_rules | `(tactic| fail "pm") => `(tactic| (refine Led.le hL (fun a_ => ?_); simp only [cnt_nil, cnt_cons, cnt_app, List.map_append, List.map_cons, List.map_nil, List.flatMap_append, List.flatMap_cons, List.flatMap_nil, List.append_assoc, List.cons_append, List.nil_append]; omega))

abbrev bodyL1 : List Stmt := bodyF (nth (defBody sLPlan) 1)
abbrev bodyL2 : List Stmt := bodyF (nth (defBody sLPlan) 2)
/-- the law's own staying -/
def tLs : TS := fun D σ H => ∃ (ml al od ld zd fd xd rl : Addr) (ns : List Str) (z : Str → Str) (g : Gf) (os : List TupE) (nm : Str) (w c : Int) (v7 v12 v13 v14 v15 : Option V) (R : Lg),
  σ = [some (.ref ml), some (.ref al), some (.ref od), some (.ref ld), some (.ref zd), some (.ref fd), some (.ref xd), v7, some (.str nm), some (.int w), some (.int c), some (.ref rl), v12, v13, v14, v15] ∧
  c ≤ 9 ∧ ns.length < 60 ∧ Led H ((rl, .lst []) :: (ld, .dK (lfK ns g)) :: (zd, .dK (zK ns z)) :: (od, .dK (os.map (kk tV))) :: (os.map tupO ++ R)) ∧
  ∀ v12 H', Led H' ((rl, .lst ((stayP ns z w c g (oldOf (plF os) nm)).2.map .str)) :: (ld, .dK (lfK ns (stayP ns z w c g (oldOf (plF os) nm)).1)) :: (zd, .dK (zK ns z)) :: (od, .dK (os.map (kk tV))) :: (os.map tupO ++ R)) →
    D.nx [some (.ref ml), some (.ref al), some (.ref od), some (.ref ld), some (.ref zd), some (.ref fd), some (.ref xd), v7, some (.str nm), some (.int w), some (.int c), some (.ref rl), v12, v13, v14, v15] H'
section
variable {P : Program} {w : World} {K : PySem.W.Frag} {mg : Str → Option Value} {base : Heap} {f : Addr} {cdv : Value} {A : Around} {outer : List Env} {s0 : Shared} {H0 : Hp} {E : XK}
theorem st_ls (hr : Room 2 (WX P w K mg base f cdv A outer s0 H0 E).A) (T : TxtF mg) : PS (WX P w K mg base f cdv A outer s0 H0 E) (nth bodyL1 1) tLs := by
  refine ps_imp (t := _) (ps_for PassesOwn.never rfl (pi_tup (pe_dget2 (hu_of hr) (pv 2) (pv 8) (pe_tup pa_nil) ⟨rfl, rfl, rfl, rfl⟩)) (pg_name (i := 12) scLPlan.nd rfl (Or.inl rfl))
  (pss_one (ps_if (PW.pt (pw_and (pt_cmpR op_lt (pe_callB call_len_seq (by rfl) T.len (by decide +kernel) (pa_cons (pv 11) pa_nil)) (pv 10) (nomark _)) (pw_and (pt_cmp (pc_din (hu_of hr) (pv 12) (pv 3))) (pw_and (pt_cmpR op_ge (pe_dget (hu_of hr) (pv 3) (pv 12) (fun _ _ => rfl)) (pv 9) (nomark _)) (pw_and1 (pt_cmpR op_notIn_seq (pe_dget (hu_of hr) (pv 4) (pv 12) (fun _ _ => rfl)) (pe_lc (own := [("other", 13)]) (g := gName 13) (by rfl) scLPlan.nd (pi_list (pv 11)) (blkOk_by (own := [("other", 13)]) (N := ["machines", "parts", "old", "left", "zones", "found", "lacks", "row", "name", "weight", "copies", "rows", "one", "other", "free", "best"]) (sc := (defScope sLPlan)) (by decide +kernel)) (fun _ _ _ _ _ => (pg_name (i := 13) scLPlan.nd rfl (Or.inl rfl))) (fun _ _ _ _ _ => pts_nil) (fun _ _ _ _ _ => (pe_dget (hu_of hr) (pv 4) (pv 13) (fun _ _ => rfl)))) (by rfl)))))))
  (pss_cons (ps_dput (hu_of hr) (pv 3) (pv 12) (pe_op op_sub (pe_dget (hu_of hr) (pv 3) (pv 12) (fun _ _ => rfl)) (pv 9)) rfl)
  (pss_one (ps_expr (pe_bm PySem.F.plainAttrs_list PySem.F.slot_list_append PySem.F.type_list_append mt_append (pv 11) (pa_cons (pv 12) pa_nil)))))
  pss_nil))) ?_
  rintro D σ H ⟨ml, al, od, ld, zd, fd, xd, rl, ns, z, g, os, nm, w, c, v7, v12, v13, v14, v15, R, rfl, hc9, hz, hL, k⟩
  fail "go"
  rename Addr => p0
  obtain ⟨nt, hnt, hnm⟩ := old_get (os := os) (k := nm) (p := p0)
  refine k_getS hL ⟨4, rfl⟩ ?_
  rw [hnt]
  generalize hlo : oldOf (plF os) nm = l at k hnm
  have hmem : ∀ (r : HO) (g : Gf) y, y ∈ (p0, HO.tup []) :: os.map tupO → y ∈ (p0, HO.tup []) :: (rl, r) :: (ld, .dK (lfK ns g)) :: (zd, .dK (zK ns z)) :: (od, .dK (os.map (kk tV))) :: (os.map tupO ++ R) := fun r g y hy => by
    rcases List.mem_cons.mp hy with rfl | hy
    · exact .head _
    · exact (.tail _ (.tail _ (.tail _ (.tail _ (.tail _ (List.mem_append_left _ hy))))))
  refine ⟨nt, rfl, ⟨_, .of (hL.mem (hmem _ _ _ hnm))⟩, for_tupA (K := K) (a := nt) (xs := l.map V.str) (fun i σ H => Hold (∃ v12, σ = [some (.ref ml), some (.ref al), some (.ref od), some (.ref ld), some (.ref zd), some (.ref fd), some (.ref xd), v7, some (.str nm), some (.int w), some (.int c), some (.ref rl), v12, v13, v14, v15] ∧
    Led H ((p0, .tup []) :: (rl, .lst (((l.take i).foldl (stay1 ns z w c) (g, [])).2.map .str)) :: (ld, .dK (lfK ns ((l.take i).foldl (stay1 ns z w c) (g, [])).1)) :: (zd, .dK (zK ns z)) :: (od, .dK (os.map (kk tV))) :: (os.map tupO ++ R)))) (.mk ⟨_, rfl, hL⟩) (fun i σ H _ h => ?_) (fun i x σ H D' hi h hD' => ?_) (fun σ H h => ?_)⟩
  · obtain ⟨v12, rfl, hL⟩ := h.out
    exact .of (hL.mem (hmem _ _ _ hnm))
  · clear hL
    obtain ⟨v12, rfl, hL⟩ := h.out
    clear h
    rw [List.getElem?_map] at hi
    obtain ⟨n, hn, rfl⟩ := Option.map_eq_some_iff.mp hi
    have step : (l.take (i + 1)).foldl (stay1 ns z w c) (g, []) = stay1 ns z w c ((l.take i).foldl (stay1 ns z w c) (g, [])) n := by
      rw [List.take_add_one, hn, Option.toList_some, List.foldl_append]; rfl
    have sub := stay_sub (ns := ns) (z := z) (w := w) (c := c) (l.take i) (g, []) (fun _ h => (nomatch h))
    generalize (l.take i).foldl (stay1 ns z w c) (g, []) = gs at step sub hL
    obtain ⟨g1, rows⟩ := gs
    dsimp only at sub hL
    have fin : ∀ (b : Bool) v12 H, b = decide ((rows.length : Int) < c ∧ mayP ns z g1 w n rows = true) →
        Led H ((p0, .tup []) :: (rl, .lst ((if b = true then rows ++ [n] else rows).map .str)) :: (ld, .dK (lfK ns (if b = true then subG g1 n w else g1))) :: (zd, .dK (zK ns z)) :: (od, .dK (os.map (kk tV))) :: (os.map tupO ++ R)) →
        D'.nx [some (.ref ml), some (.ref al), some (.ref od), some (.ref ld), some (.ref zd), some (.ref fd), some (.ref xd), v7, some (.str nm), some (.int w), some (.int c), some (.ref rl), v12, v13, v14, v15] H := fun b v12 H hb hL => by
      refine hD'.nx _ _ (.mk ⟨v12, rfl, ?_⟩)
      rw [step]
      unfold stay1
      dsimp only
      by_cases q : (rows.length : Int) < c ∧ mayP ns z g1 w n rows = true
      · rw [if_pos q]
        rw [hb, decide_eq_true q] at hL
        exact hL
      · rw [if_neg q]
        rw [hb, decide_eq_false q] at hL
        exact hL
    fail "go"
    refine ite_d (fun hl => ?_) (fun hl => ?_)
    · rw [List.length_map] at hl
      fail "go"
      refine k_dinS hL (by fail "ix") ?_
      by_cases hm : n ∈ ns
      · have lk := lf_val (g := g1) hm
        have lkz := z_val (z := z) hm
        rw [lk]
        fail "go"
        refine ite_d (fun hw => ?_) (fun hw => ?_)
        · fail "go"
          refine ⟨⟨_, .of (hL.at ⟨1, rfl⟩)⟩, fun D1 hD1 => lc_zones (i := 4) (j := 13) hL hD1 ⟨1, rfl⟩ ⟨3, rfl⟩ sub (by omega) (fun x H => ⟨rfl, rfl, rfl, rfl⟩) (fun H hL => ?_)⟩
          refine k_ninS (K := K) hL ⟨0, rfl⟩ ?_
          by_cases q : z n ∈ rows.map z
          · rw [decide_eq_true q]
            fail "go"
            exact fin false _ _ (by
              have : ¬ mayP ns z g1 w n rows = true := fun t => (mayP_iff.mp t).2.2 q
              simp [this]) hL.tail
          · rw [decide_eq_false q]
            fail "go"
            refine k_dputS hL (by fail "ix") (by unfold lfK; rw [List.length_map]; exact small60 hz) (lf_put hm) (by fail "up") fun H hL => ?_
            dsimp only [List.set, List.cons_append, List.nil_append, List.append] at hL
            fail "go"
            refine ⟨_, _, _, rfl, rfl, hL.at ⟨2, rfl⟩, by rw [List.length_map]; exact Nat.lt_trans (show rows.length < 60 by omega) (by decide), ?_⟩
            fail "gup"
            have hmy : mayP ns z g1 w n rows = true := mayP_iff.mpr ⟨hm, hw, q⟩
            refine fin true _ _ (by simp [hl, hmy]) ?_
            rw [if_pos rfl, if_pos rfl, List.map_append]
            exact hL.tail
        · fail "go"
          exact fin false _ _ (by
            have : ¬ mayP ns z g1 w n rows = true := fun t => hw (mayP_iff.mp t).2.1
            simp [this]) hL
      · rw [lf_no hm]
        fail "go"
        exact fin false _ _ (by
          have : ¬ mayP ns z g1 w n rows = true := fun t => hm (mayP_iff.mp t).1
          simp [this]) hL
    · rw [List.length_map] at hl
      fail "go"
      exact fin false _ _ (by simp [hl]) hL
  · clear hL
    obtain ⟨v12, rfl, hL⟩ := h.out
    rw [List.length_map, List.take_length] at hL
    exact k _ _ hL.tail
end
end Sd


set_option linter.unusedVariables false
namespace Sd
open PySem L2
open PyProof.Rows (sortedS)
open C8 (Cal Met Mak pe_c pe_mk pe_mt pe_mt0 pss_cut tCut)
set_option linter.unusedSimpArgs false
set_option pp.deepTerms false
set_option pp.deepTerms.threshold 12
set_option hygiene false
local macro_rules | `(tactic| fail "nd") => `(tactic| first | assumption | decide +kernel)
local macro_rules | `(tactic| fail "ix") => `(tactic| first | exact ⟨0, rfl⟩ | exact ⟨1, rfl⟩ | exact ⟨2, rfl⟩ | exact ⟨3, rfl⟩ | exact ⟨4, rfl⟩ | exact ⟨5, rfl⟩ | exact ⟨6, rfl⟩ | exact ⟨7, rfl⟩ | exact ⟨8, rfl⟩ | exact ⟨9, rfl⟩ | exact ⟨10, rfl⟩ | exact ⟨11, rfl⟩ | exact ⟨12, rfl⟩ | exact ⟨13, rfl⟩ | exact ⟨14, rfl⟩ | exact ⟨15, rfl⟩ | exact ⟨16, rfl⟩ | exact ⟨17, rfl⟩ | exact ⟨18, rfl⟩ | assumption)
local macro_rules | `(tactic| fail "up") => `(tactic| first | exact ⟨0, rfl, rfl⟩ | exact ⟨1, rfl, rfl⟩ | exact ⟨2, rfl, rfl⟩ | exact ⟨3, rfl, rfl⟩ | exact ⟨4, rfl, rfl⟩ | exact ⟨5, rfl, rfl⟩ | exact ⟨6, rfl, rfl⟩ | exact ⟨7, rfl, rfl⟩ | exact ⟨8, rfl, rfl⟩ | exact ⟨9, rfl, rfl⟩ | exact ⟨10, rfl, rfl⟩ | exact ⟨11, rfl, rfl⟩ | exact ⟨12, rfl, rfl⟩ | exact ⟨13, rfl, rfl⟩ | exact ⟨14, rfl, rfl⟩ | exact ⟨15, rfl, rfl⟩ | exact ⟨16, rfl, rfl⟩ | assumption)
local macro_rules | `(tactic| fail "lkF") => `(tactic| first | assumption | exact fz_at 0 (by fail "nd") rfl rfl | exact fz_at 1 (by fail "nd") rfl rfl | exact fz_at 2 (by fail "nd") rfl rfl | exact fz_at 3 (by fail "nd") rfl rfl | exact fz_at 4 (by fail "nd") rfl rfl | exact fz_at 5 (by fail "nd") rfl rfl | exact fz_at 6 (by fail "nd") rfl rfl | exact fz_at 7 (by fail "nd") rfl rfl)
local macro_rules | `(tactic| fail "lkD") => `(tactic| first | assumption | exact dz_at 0 (by fail "nd") rfl rfl | exact dz_at 1 (by fail "nd") rfl rfl | exact dz_at 2 (by fail "nd") rfl rfl | exact dz_at 3 (by fail "nd") rfl rfl | exact dz_at 4 (by fail "nd") rfl rfl)
local macro_rules | `(tactic| fail "ptF") => `(tactic| first | assumption | exact fz_put 0 (by fail "nd") rfl (Nat.le_of_ble_eq_true rfl) | exact fz_put 1 (by fail "nd") rfl (Nat.le_of_ble_eq_true rfl) | exact fz_put 2 (by fail "nd") rfl (Nat.le_of_ble_eq_true rfl) | exact fz_put 3 (by fail "nd") rfl (Nat.le_of_ble_eq_true rfl) | exact fz_put 4 (by fail "nd") rfl (Nat.le_of_ble_eq_true rfl) | exact fz_put 5 (by fail "nd") rfl (Nat.le_of_ble_eq_true rfl) | exact fz_put 6 (by fail "nd") rfl (Nat.le_of_ble_eq_true rfl) | exact fz_put 7 (by fail "nd") rfl (Nat.le_of_ble_eq_true rfl) | exact fz_new (by decide +kernel) rfl)
local macro_rules | `(tactic| fail "ptD") => `(tactic| first | assumption | exact dz_put 0 (by fail "nd") rfl (Nat.le_of_ble_eq_true rfl) | exact dz_put 1 (by fail "nd") rfl (Nat.le_of_ble_eq_true rfl) | exact dz_put 2 (by fail "nd") rfl (Nat.le_of_ble_eq_true rfl) | exact dz_put 3 (by fail "nd") rfl (Nat.le_of_ble_eq_true rfl) | exact dz_put 4 (by fail "nd") rfl (Nat.le_of_ble_eq_true rfl))
local macro_rules | `(tactic| fail "sz") => `(tactic| first | assumption | exact (Nat.le_of_ble_eq_true rfl) | omega | decide)
local macro_rules | `(tactic| fail "sd") => `(tactic| first | rfl | assumption | decide | omega | (dsimp only; first | decide | omega) | exact .inr ⟨by decide, by decide⟩ | exact .inl ⟨by decide, by decide⟩ | exact ⟨by omega, by omega⟩ | exact .inl ⟨by omega, by omega⟩ | exact .inr ⟨by omega, by omega⟩ | exact ⟨by omega, by omega, by omega⟩)
local macro_rules | `(tactic| fail "cl") => `(tactic| (clear hH; dsimp only [List.set, List.cons_append, List.nil_append, List.append] at hL))
local macro_rules | `(tactic| fail "gn") => `(tactic| (intro p hp; generalize hH : upd H p _ = H; replace hL := Led.newH hL hp hH; clear hH hp))
local macro_rules | `(tactic| fail "gup") => `(tactic| (generalize hH : upd H _ _ = H; replace hL := Led.upU hL (by fail "up") hH; fail "cl"))
local macro_rules | `(tactic| fail "gmk") => `(tactic| (intro x dx hx hd ne; generalize hH : upd (upd H dx _) x _ = H; replace hL := Led.made hL hx hd ne hH; clear hH hx hd ne))
local macro_rules | `(tactic| fail "v") => `(tactic| refine ⟨_, rfl, ?_⟩)
local macro_rules | `(tactic| fail "i2") => `(tactic| refine ⟨_, _, rfl, rfl, ?_⟩)
local macro_rules | `(tactic| fail "go1") => `(tactic| first
  | refine ⟨_, rfl, ?_⟩
  | refine ⟨_, _, rfl, rfl, ?_⟩
  | refine ⟨_, _, rfl, ?_⟩
  | refine iteT ?_
  | refine iteF ?_
  | refine k_fld hL (by fail "ix") (by assumption) (by assumption) (by fail "lkF") ?_
  | refine k_dgetS hL (by fail "ix") (by fail "lkD") ?_
  | refine k_dgetI hL (by fail "ix") (by assumption) ?_
  | refine k_ixL hL (by fail "ix") (by first | rfl | assumption) ?_
  | refine k_ixT hL (by fail "ix") (by first | rfl | assumption) ?_
  | refine k_tyL hL (by fail "ix") ?_
  | refine k_isd hL (by fail "ix") ?_
  | (refine And.intro (by fail "sz") ?_; fail "gn")
  | refine And.intro (by fail "sd") ?_
  | fail "gn"
  | refine k_meth hL (by fail "ix") (by first | assumption | exact fz_no (by decide +kernel)) ?_
  | refine k_gtup hL (by fail "ix") rfl ?_
  | (refine k_popI hL (by fail "ix") (by assumption) ?_; fail "gup")
  | (refine k_listD hL (by fail "ix") ?_; fail "gn")
  | (refine ⟨_, _, _, _, rfl, rfl, hL.at (by fail "ix"), rfl, ?_⟩; fail "gup")
  | (refine ⟨_, _, _, rfl, rfl, hL.at (by fail "ix"), (by fail "sz"), ?_⟩; fail "gup")
  | (refine ⟨_, _, _, _, rfl, hL.at (by fail "ix"), by assumption, by assumption, Nat.lt_of_le_of_lt fz_len (by decide), ?_⟩; generalize hH : upd H _ _ = H; replace hL := Led.upF hL (by fail "up") (by fail "ptF") hH; fail "cl")
  | (refine ⟨_, _, hL.at (by fail "ix"), Nat.lt_of_le_of_lt fz_len (by decide), ?_⟩; generalize hH : upd H _ _ = H; replace hL := Led.upF hL (by fail "up") (by fail "ptF") hH; fail "cl")
  | (refine k_dputS hL (by fail "ix") (Nat.lt_of_le_of_lt dz_len (by decide)) (by fail "ptD") (by fail "up") ?_; clear hL; intro H hL; dsimp only [List.set, List.cons_append, List.nil_append, List.append] at hL)
  | refine k_lenL2 hL (by fail "ix") ?_
  | refine k_lenT2 hL (by fail "ix") ?_
  | refine .inl ⟨_, rfl, ?_⟩
  | refine .inr ⟨_, rfl, ?_⟩)
local macro_rules | `(tactic| fail "go") => `(tactic| repeat fail "go1")
local macro_rules | `(tactic| fail "pm") => `(tactic| (refine Led.le hL (fun a_ => ?_); simp only [cnt_nil, cnt_cons, cnt_app, List.map_append, List.map_cons, List.map_nil, List.flatMap_append, List.flatMap_cons, List.flatMap_nil, List.append_assoc, List.cons_append, List.nil_append]; omega))

theorem aput_put {α : Type} {k : Str} {v u : α} : ∀ {l : List (Str × α)}, aput (aput l k v) k u = aput l k u
  | [] => by simp [aput]
  | x :: r => by
    by_cases e : x.1 = k
    · simp [aput, e]
    · simp [aput, e, aput_put]
def frO (x : Addr × IS) : Addr × HO := (x.1, .tup [.int x.2.1, .str x.2.2])
structure TxtM (mg : Str → Option Value) : Prop where
  min : mg "min" = none
  len : mg "len" = none
/-- the law's own filling of one part -/
def tLw : TS := fun D σ H => ∃ (ml al od ld zd fd xd rl : Addr) (ns : List Str) (z : Str → Str) (g : Gf) (es : List TupE) (l : LT) (nm : Str) (w c : Int) (rows : List Str) (v7 v11 v12 v13 v14 v15 : Option V) (R : Lg),
  σ = [some (.ref ml), some (.ref al), some (.ref od), some (.ref ld), some (.ref zd), some (.ref fd), some (.ref xd), v7, some (.str nm), some (.int w), some (.int c), v11, v12, v13, v14, v15] ∧
  c ≤ 9 ∧ ns.length < 60 ∧ sortedS ns = true ∧ (es.map (·.1)).Nodup ∧ es.length < 60 ∧ aget es nm = some (rl, rows) ∧ (∀ m ∈ rows, m ∈ ns) ∧ (rows.length : Int) ≤ c ∧ nm ∉ l.map (·.1) ∧ (l.map (·.1)).Nodup ∧ l.length < 60 ∧
  Led H ((fd, .dK (es.map (kk tV))) :: (xd, .dK (l.map (kk lxV))) :: (ld, .dK (lfK ns g)) :: (zd, .dK (zK ns z)) :: (es.map lstO ++ R)) ∧
  ∀ v12 v13 v14 v15 rl' H', Led H' ((fd, .dK ((aput es nm (rl', (fillP ns z w (c - rows.length).toNat g rows).2)).map (kk tV))) ::
      (xd, .dK ((if ((fillP ns z w (c - rows.length).toNat g rows).2.length : Int) < c then l ++ [(nm, c - (fillP ns z w (c - rows.length).toNat g rows).2.length)] else l).map (kk lxV))) ::
      (ld, .dK (lfK ns (fillP ns z w (c - rows.length).toNat g rows).1)) :: (zd, .dK (zK ns z)) :: ((aput es nm (rl', (fillP ns z w (c - rows.length).toNat g rows).2)).map lstO ++ R)) →
    D.nx [some (.ref ml), some (.ref al), some (.ref od), some (.ref ld), some (.ref zd), some (.ref fd), some (.ref xd), v7, some (.str nm), some (.int w), some (.int c), v11, v12, v13, v14, v15] H'
section
variable {P : Program} {w : World} {K : PySem.W.Frag} {mg : Str → Option Value} {base : Heap} {f : Addr} {cdv : Value} {A : Around} {outer : List Env} {s0 : Shared} {H0 : Hp} {E : XK}
theorem st_lw (hr : Room 2 (WX P w K mg base f cdv A outer s0 H0 E).A) (T : TxtM mg) : PS (WX P w K mg base f cdv A outer s0 H0 E) (nth bodyL2 0) tLw := by
  refine ps_imp (t := _) (ps_while PassesOwn.never (pt_cmpR op_lt (pe_callB call_len_seq (by rfl) T.len (by decide +kernel) (pa_cons (pe_dget (hu_of hr) (pv 5) (pv 8) (fun _ _ => rfl)) pa_nil)) (pv 10) (nomark _))
  (pss_cons (ps_lock (ps_setLc (i := 14) (own := [("one", 12)]) (g := gName 12) (by rfl) scLPlan.nd rfl rfl (sw_true rfl rfl rfl (by decide +kernel)) (pi_keys (pv 3)) (blkOk_by (own := [("one", 12)]) (N := ["machines", "parts", "old", "left", "zones", "found", "lacks", "row", "name", "weight", "copies", "rows", "one", "other", "free", "best"]) (sc := (defScope sLPlan)) (by decide +kernel)) (fun _ _ _ _ _ => (pg_name (i := 12) scLPlan.nd rfl (Or.inl rfl))) (fun _ _ _ _ _ => (pts_one (PW.pt (pw_and (pt_cmpR op_ge (pe_dget (hu_of hr) (pv 3) (pv 12) (fun _ _ => rfl)) (pv 9) (nomark _)) (pw_and1 (pt_cmpR op_notIn_seqB (pe_dget (hu_of hr) (pv 4) (pv 12) (fun _ _ => rfl)) (pe_lc (own := [("other", 13)]) (g := gName 13) (by rfl) scLPlan.nd (pi_listB (pe_dget (hu_of hr) (pv 5) (pv 8) (fun _ _ => rfl))) (blkOk_by (own := [("other", 13)]) (by rfl)) (fun _ _ _ _ _ => (pg_name (i := 13) scLPlan.nd rfl (Or.inl rfl))) (fun _ _ _ _ _ => pts_nil) (fun _ _ _ _ _ => (pe_dget (hu_of hr) (pv 4) (pv 13) (fun _ _ => rfl)))) (by rfl))))))) (fun _ _ _ _ _ => (pe_tup (pa_cons (pe_un un_neg (pe_dget (hu_of hr) (pv 3) (pv 12) (fun _ _ => rfl))) (pa_cons (pv 12) pa_nil))))))
  (pss_cons (ps_if (pt_cmpR (op_eqP hr.units) (pv 14) (pe_lst pa_nil) (nomark _))
  (pss_cons (ps_dput (hu_of hr) (pv 6) (pv 8) (pe_op op_sub (pv 10) (pe_callB call_len_seq (by rfl) T.len (by decide +kernel) (pa_cons (pe_dget (hu_of hr) (pv 5) (pv 8) (fun _ _ => rfl)) pa_nil))) rfl)
  (pss_one ps_break))
  pss_nil)
  (pss_cons (ps_set (i := 15) scLPlan.nd rfl (Or.inl rfl) (pe_ix ix_tup (pe_callB (cr_minP rfl hr.units) (by rfl) T.min (by decide +kernel) (pa_cons (pv 14) pa_nil)) pe_int (fun _ _ => rfl)))
  (pss_cons (ps_dput (hu_of hr) (pv 3) (pv 15) (pe_op op_sub (pe_dget (hu_of hr) (pv 3) (pv 15) (fun _ _ => rfl)) (pv 9)) rfl)
  (pss_one (ps_dput (hu_of hr) (pv 5) (pv 8) (pe_op op_cat (pe_dget (hu_of hr) (pv 5) (pv 8) (fun _ _ => rfl)) (pe_lst (pa_cons (pv 15) pa_nil))) rfl))))))) ?_
  rintro D σ H ⟨ml, al, od, ld, zd, fd, xd, rl, ns, z, g, es, l, nm, w, c, rows, v7, v11, v12, v13, v14, v15, R, rfl, hc9, hz, hs, hnd, hel, hget, hsub, hle, hnl, hln, hll, hL, k⟩
  generalize htg : fillP ns z w (c - rows.length).toNat g rows = tg at k
  refine ⟨fun m σ H => Hold (∃ (v12 v13 v14 v15 : Option V) (rl1 : Addr) (g1 : Gf) (r1 : List Str), σ = [some (.ref ml), some (.ref al), some (.ref od), some (.ref ld), some (.ref zd), some (.ref fd), some (.ref xd), v7, some (.str nm), some (.int w), some (.int c), v11, v12, v13, v14, v15] ∧ m = (c - (r1.length : Int)).toNat ∧ (r1.length : Int) ≤ c ∧ (∀ m ∈ r1, m ∈ ns) ∧ fillP ns z w m g1 r1 = tg ∧
    Led H ((fd, .dK ((aput es nm (rl1, r1)).map (kk tV))) :: (xd, .dK (l.map (kk lxV))) :: (ld, .dK (lfK ns g1)) :: (zd, .dK (zK ns z)) :: ((aput es nm (rl1, r1)).map lstO ++ R))), ⟨_, .mk ⟨_, _, _, _, rl, g, rows, rfl, rfl, hle, hsub, htg, by rw [aput_self hget]; exact hL⟩⟩, fun m σ H h => ?_⟩
  clear hL
  obtain ⟨v12, v13, v14, v15, rl1, g1, r1, rfl, hm, hle1, hsub1, hft, hL⟩ := h.out
  clear h
  have hget1 : aget (aput es nm (rl1, r1)) nm = some (rl1, r1) := by rw [aget_put, if_pos rfl]
  have hnd1 : ((aput es nm (rl1, r1)).map (·.1)).Nodup := aput_nd hnd
  have hpp : ∀ d, aput (aput es nm (rl1, r1)) nm d = aput es nm d := fun d => by
    rw [aput_put]
  have hl1 : (aput es nm (rl1, r1)).length < 60 := by
    have := congrArg List.length (aput_names_in (v := (rl1, r1)) (aget_some hget))
    rw [List.length_map, List.length_map] at this
    omega
  have lk : valV ((aput es nm (rl1, r1)).map (kk tV)) (Sum.inr nm) = some (.ref rl1) := by rw [tv_val, hget1]; rfl
  have hmem : lstO (nm, (rl1, r1)) ∈ (aput es nm (rl1, r1)).map lstO := List.mem_map.mpr ⟨_, aget_mem hget1, rfl⟩
  obtain ⟨R1, hc1⟩ := es_cnt hget1
  have hc0 := hc1 (rl1, r1)
  rw [hpp] at hc0
  have hpd : ∀ d, (aput es nm d) = aput (aput es nm (rl1, r1)) nm d := fun d => (hpp d).symm
  generalize hes : aput es nm (rl1, r1) = es1 at *
  fail "go"
  refine ⟨rl1, _, rfl, .inl (.of (hL.mem (.tail _ (.tail _ (.tail _ (.tail _ (List.mem_append_left _ hmem))))))), ?_⟩
  fail "go"
  refine ite_d (fun hlt => ?_) (fun hlt => ?_)
  · rw [List.length_map] at hlt
    dsimp only at hlt
    obtain ⟨m', rfl⟩ : ∃ m', m = m' + 1 := ⟨m - 1, by omega⟩
    refine ⟨fun σ' H' => Hold (∃ (v12 v13 v14 v15 : Option V) (rl1 : Addr) (g1 : Gf) (r1 : List Str), σ' = [some (.ref ml), some (.ref al), some (.ref od), some (.ref ld), some (.ref zd), some (.ref fd), some (.ref xd), v7, some (.str nm), some (.int w), some (.int c), v11, v12, v13, v14, v15] ∧ m' = (c - (r1.length : Int)).toNat ∧ (r1.length : Int) ≤ c ∧ (∀ m ∈ r1, m ∈ ns) ∧ fillP ns z w m' g1 r1 = tg ∧
      Led H' ((fd, .dK ((aput es nm (rl1, r1)).map (kk tV))) :: (xd, .dK (l.map (kk lxV))) :: (ld, .dK (lfK ns g1)) :: (zd, .dK (zK ns z)) :: ((aput es nm (rl1, r1)).map lstO ++ R))), fun σ' H' h => ⟨m', Nat.lt_succ_self _, h⟩, ?_⟩
    refine ⟨ld, _, hL.at ⟨2, rfl⟩, trivial, fun od1 => ?_⟩
    generalize hH : upd H ld _ = H
    replace hL := Led.upU hL (o' := .frz od1 (.dK (lfK ns g1))) (by fail "up") hH
    fail "cl"
    fail "go"
    refine ⟨ld, od1, rfl, .inl ⟨_, hL.at ⟨2, rfl⟩, fun D1 hD1 => lc_it (walk_keys (kvs := lfK ns g1)) (fun i H => Hold (∃ fr : List (Addr × IS), fr.map (·.2) = freeP ns z g1 w r1 (ns.take i) ∧
      Led H ((D1, .lst (fr.map fun x => V.ref x.1)) :: (fd, .dK (es1.map (kk tV))) :: (xd, .dK (l.map (kk lxV))) :: (ld, .frz od1 (.dK (lfK ns g1))) :: (zd, .dK (zK ns z)) :: (fr.map frO ++ (es1.map lstO ++ R))))) (.mk ⟨[], rfl, hL.new hD1⟩) (fun i H _ h => ?_) (fun i v H1 H hi h hy => ?_) (fun H h => ?_)⟩⟩
    · obtain ⟨fr, _, hL⟩ := h.out
      exact hL.mem (.tail _ (.tail _ (.tail _ (.head _))))
    · clear hL
      obtain ⟨fr, hfr, hL⟩ := h.out
      clear h
      obtain ⟨rfl, kx, vx, hk, rfl⟩ := hy
      unfold lfK at hk
      rw [List.getElem?_map] at hk
      obtain ⟨n, hn, hk⟩ := Option.map_eq_some_iff.mp hk
      obtain ⟨rfl, rfl⟩ := Prod.mk.inj hk
      have hm := List.mem_of_getElem? hn
      have lkl := lf_val (g := g1) hm
      have lkz := z_val (z := z) hm
      have fstep : freeP ns z g1 w r1 (ns.take (i + 1)) = freeP ns z g1 w r1 (ns.take i) ++ (if mayP ns z g1 w n r1 = true then [(-g1 n, n)] else []) := by
        unfold freeP
        rw [filt_snoc hn]
        by_cases q : mayP ns z g1 w n r1 = true
        · rw [if_pos q, if_pos q, List.map_append]; rfl
        · rw [if_neg q, if_neg q, List.append_nil]
      have hfl : fr.length < 60 := by
        have h1 := congrArg List.length hfr
        unfold freeP at h1
        rw [List.length_map, List.length_map] at h1
        have h2 := List.length_filter_le (fun n => mayP ns z g1 w n r1) (ns.take i)
        rw [List.length_take] at h2
        omega
      refine ⟨rfl, ?_⟩
      fail "go"
      refine k_dgetFS hL ⟨3, rfl⟩ lkl ?_
      fail "go"
      refine ite_d (fun hw => ?_) (fun hw => ?_)
      · fail "go"
        refine ⟨⟨_, .of (hL.mem (.tail _ (.tail _ (.tail _ (.tail _ (.tail _ (List.mem_append_right _ (List.mem_append_left _ hmem))))))))⟩, fun D2 hD2 => lc_zones (i := 4) (j := 13) hL hD2 (at_mem (.tail _ (.tail _ (.tail _ (.tail _ (.tail _ (List.mem_append_right _ (List.mem_append_left _ hmem)))))))) ⟨4, rfl⟩ hsub1 (show r1.length < 60 by omega) (fun x H => ⟨rfl, rfl, rfl, rfl⟩) (fun H hL => ?_)⟩
        refine k_ninS (K := K) hL ⟨0, rfl⟩ ?_
        by_cases q : z n ∈ r1.map z
        · rw [decide_eq_true q]
          have hmy : ¬ mayP ns z g1 w n r1 = true := fun t => (mayP_iff.mp t).2.2 q
          rw [if_neg hmy, List.append_nil] at fstep
          fail "go"
          refine .mk ⟨fr, by rw [fstep, hfr], ?_⟩
          (refine Led.le hL (fun a_ => ?_); simp only [cnt_nil, cnt_cons, cnt_app, List.map_append, List.map_cons, List.map_nil, List.flatMap_append, List.flatMap_cons, List.flatMap_nil, List.append_assoc, List.cons_append, List.nil_append]; omega)
        · rw [decide_eq_false q]
          have hmy : mayP ns z g1 w n r1 = true := mayP_iff.mpr ⟨hm, hw, q⟩
          rw [if_pos hmy] at fstep
          fail "go"
          refine k_dgetFS hL ⟨4, rfl⟩ lkl ?_
          fail "go"
          refine ⟨_, hL.at ⟨2, rfl⟩, by rw [List.length_map]; exact small60 hfl, ?_⟩
          fail "gup"
          refine .mk ⟨fr ++ [(p, (-g1 n, n))], by rw [fstep, List.map_append, hfr]; rfl, ?_⟩
          (refine Led.le hL (fun a_ => ?_); simp only [cnt_nil, cnt_cons, cnt_app, List.map_append, List.map_cons, List.map_nil, List.flatMap_append, List.flatMap_cons, List.flatMap_nil, List.append_assoc, List.cons_append, List.nil_append, frO, kV]; omega)
      · have hmy : ¬ mayP ns z g1 w n r1 = true := fun t => hw (mayP_iff.mp t).2.1
        rw [if_neg hmy, List.append_nil] at fstep
        fail "go"
        refine .mk ⟨fr, by rw [fstep, hfr], ?_⟩
        (refine Led.le hL (fun a_ => ?_); simp only [cnt_nil, cnt_cons, cnt_app, List.map_append, List.map_cons, List.map_nil, List.flatMap_append, List.flatMap_cons, List.flatMap_nil, List.append_assoc, List.cons_append, List.nil_append]; omega)
    clear hL
    obtain ⟨fr, hfr, hL⟩ := h.out
    clear h
    have hlfl : (lfK ns g1).length = ns.length := by unfold lfK; rw [List.length_map]
    rw [hlfl, List.take_length] at hfr
    refine ⟨hL.at ⟨3, rfl⟩, ?_⟩
    generalize hH : upd H ld _ = H
    replace hL := Led.upU hL (o' := .dK (lfK ns g1)) (by fail "up") hH
    fail "cl"
    fail "go"
    refine k_eqD (α := List IS) (by decide) (dt_list (g := (·.2)) (hL.at ⟨1, rfl⟩) fun x hx => dt_pair (hL.mem (.tail _ (.tail _ (.tail _ (.tail _ (.tail _ (.tail _ (List.mem_append_left _ (List.mem_map.mpr ⟨x, hx, rfl⟩))))))))) dt_int dt_str) (dt_nil (hL.at (by fail "ix"))) ?_
    by_cases hn : fr = []
    · rw [decide_eq_true (by rw [hn]; rfl)]
      have hb : bestP ns z g1 w r1 = none := free_nil hs (by rw [← hfr, hn]; rfl)
      unfold fillP at hft
      rw [hb] at hft
      dsimp only at hft
      fail "go"
      refine ⟨rl1, _, rfl, .inl (.of (hL.mem (.tail _ (.tail _ (.tail _ (.tail _ (.tail _ (.tail _ (List.mem_append_right _ (List.mem_append_left _ hmem)))))))))), ?_⟩
      fail "go"
      refine k_dputS (kvs' := (l ++ [(nm, c - (r1.length : Int))]).map (kk lxV)) hL ⟨3, rfl⟩ (by rw [List.length_map]; exact small60 hll) (by dsimp only; rw [List.length_map, ← aput_names_out hnl]; exact kk_put (vo := lxV) hln) (by fail "up") fun H hL => ?_
      dsimp only [List.set] at hL
      refine k _ _ _ _ rl1 _ ?_
      rw [← hft]
      dsimp only
      rw [if_pos hlt, hes]
      (refine Led.le hL (fun a_ => ?_); simp only [cnt_nil, cnt_cons, cnt_app, List.map_append, List.map_cons, List.map_nil, List.flatMap_append, List.flatMap_cons, List.flatMap_nil, List.append_assoc, List.cons_append, List.nil_append]; omega)
    · rw [decide_eq_false (fun z => hn (List.map_eq_nil_iff.mp z))]
      fail "go"
      refine ⟨D1, fr, rfl, hn, .of (hL.at ⟨1, rfl⟩), fun x hx => hL.mem (.tail _ (.tail _ (.tail _ (.tail _ (.tail _ (.tail _ (List.mem_append_left _ (List.mem_map.mpr ⟨x, hx, rfl⟩)))))))), fun x hx hmin => ?_⟩
      have hxm : x.2 ∈ freeP ns z g1 w r1 ns := by rw [← hfr]; exact List.mem_map.mpr ⟨x, hx, rfl⟩
      have hb : bestP ns z g1 w r1 = some x.2.2 := free_min hs hxm fun y hy => by
        rw [← hfr] at hy
        obtain ⟨u, hu, rfl⟩ := List.mem_map.mp hy
        exact hmin u hu
      unfold fillP at hft
      rw [hb] at hft
      dsimp only at hft
      have hbn := (mayP_iff.mp (best_may hs hb)).1
      refine k_ixT hL (at_mem (.tail _ (.tail _ (.tail _ (.tail _ (.tail _ (.tail _ (List.mem_append_left _ (List.mem_map.mpr ⟨x, hx, rfl⟩))))))))) (show atI [V.int x.2.1, V.str x.2.2] 1 = some (.str x.2.2) from rfl) ?_
      generalize x.2.2 = b at hft hbn hb ⊢
      have lkb := lf_val (g := g1) hbn
      fail "go"
      refine k_dputS hL (by fail "ix") (by rw [hlfl]; exact small60 hz) (lf_put hbn) (by fail "up") fun H hL => ?_
      dsimp only [List.set, List.cons_append, List.nil_append, List.append] at hL
      fail "go"
      refine k_cat hL (at_mem (.tail _ (.tail _ (.tail _ (.tail _ (.tail _ (.tail _ (.tail _ (List.mem_append_right _ (List.mem_append_left _ hmem)))))))))) ⟨0, rfl⟩ (by
        rw [List.length_map]
        exact Nat.le_trans (show r1.length + 1 ≤ 60 by omega) (by decide)) fun q hq => ?_
      generalize hH : upd H q _ = H
      replace hL := Led.newH hL hq hH
      clear hH hq
      fail "go"
      have hc2 : ∀ a, cnt a ((aput es1 nm (q, r1 ++ [b])).map lstO) = one1 a (q, HO.lst (r1.map V.str ++ [V.str b])) + cnt a R1 := fun a => by
        rw [hc1 (q, r1 ++ [b]) a]
        show one1 a (q, HO.lst ((r1 ++ [b]).map V.str)) + _ = _
        rw [List.map_append]
        rfl
      refine k_dputS (kvs' := (aput es1 nm (q, r1 ++ [b])).map (kk tV)) hL ⟨4, rfl⟩ (by rw [List.length_map]; exact small60 hl1) (kk_put (vo := tV) (v := (q, r1 ++ [b])) hnd1) (by fail "up") fun H hL => ?_
      dsimp only [List.set] at hL
      refine .mk ⟨_, _, _, _, q, subG g1 b w, r1 ++ [b], rfl, ?_, ?_, fun m hm => ?_, hft, ?_⟩
      · rw [List.length_append, List.length_singleton]; push_cast; omega
      · rw [List.length_append, List.length_singleton]; push_cast; omega
      · rcases List.mem_append.mp hm with h | h
        · exact hsub1 m h
        · rw [List.mem_singleton.mp h]; exact hbn
      · rw [hpd]
        (refine Led.le hL (fun a_ => ?_); have q0_ := hc2 a_; (try dsimp only at q0_); (try simp only [cnt_nil, cnt_cons, cnt_app, List.map_append, List.map_cons, List.map_nil, List.flatMap_append, List.flatMap_cons, List.flatMap_nil, List.append_assoc, List.cons_append, List.nil_append] at q0_); have q1_ := hc0 a_; (try dsimp only at q1_); (try simp only [cnt_nil, cnt_cons, cnt_app, List.map_append, List.map_cons, List.map_nil, List.flatMap_append, List.flatMap_cons, List.flatMap_nil, List.append_assoc, List.cons_append, List.nil_append] at q1_); simp only [cnt_nil, cnt_cons, cnt_app, List.map_append, List.map_cons, List.map_nil, List.flatMap_append, List.flatMap_cons, List.flatMap_nil, List.append_assoc, List.cons_append, List.nil_append]; omega)
  · rw [List.length_map] at hlt
    dsimp only at hlt
    fail "go"
    obtain rfl : m = 0 := by omega
    have e0 : tg = (g1, r1) := hft.symm
    refine k _ _ _ _ rl1 _ ?_
    rw [e0]
    dsimp only
    rw [if_neg hlt, hes]
    exact hL
end
end Sd


set_option linter.unusedVariables false
namespace Sd
open PySem L2
open PyProof.Rows (sortedS)
open C8 (Cal Met Mak pe_c pe_mk pe_mt pe_mt0 pss_cut tCut)
set_option linter.unusedSimpArgs false
set_option pp.deepTerms false
set_option pp.deepTerms.threshold 12
set_option hygiene false
local macro_rules | `(tactic| fail "nd") => `(tactic| first | assumption | decide +kernel)
local macro_rules | `(tactic| fail "ix") => `(tactic| first | exact ⟨0, rfl⟩ | exact ⟨1, rfl⟩ | exact ⟨2, rfl⟩ | exact ⟨3, rfl⟩ | exact ⟨4, rfl⟩ | exact ⟨5, rfl⟩ | exact ⟨6, rfl⟩ | exact ⟨7, rfl⟩ | exact ⟨8, rfl⟩ | exact ⟨9, rfl⟩ | exact ⟨10, rfl⟩ | exact ⟨11, rfl⟩ | exact ⟨12, rfl⟩ | exact ⟨13, rfl⟩ | exact ⟨14, rfl⟩ | exact ⟨15, rfl⟩ | exact ⟨16, rfl⟩ | exact ⟨17, rfl⟩ | exact ⟨18, rfl⟩ | assumption)
local macro_rules | `(tactic| fail "up") => `(tactic| first | exact ⟨0, rfl, rfl⟩ | exact ⟨1, rfl, rfl⟩ | exact ⟨2, rfl, rfl⟩ | exact ⟨3, rfl, rfl⟩ | exact ⟨4, rfl, rfl⟩ | exact ⟨5, rfl, rfl⟩ | exact ⟨6, rfl, rfl⟩ | exact ⟨7, rfl, rfl⟩ | exact ⟨8, rfl, rfl⟩ | exact ⟨9, rfl, rfl⟩ | exact ⟨10, rfl, rfl⟩ | exact ⟨11, rfl, rfl⟩ | exact ⟨12, rfl, rfl⟩ | exact ⟨13, rfl, rfl⟩ | exact ⟨14, rfl, rfl⟩ | exact ⟨15, rfl, rfl⟩ | exact ⟨16, rfl, rfl⟩ | assumption)
local macro_rules | `(tactic| fail "lkF") => `(tactic| first | assumption | exact fz_at 0 (by fail "nd") rfl rfl | exact fz_at 1 (by fail "nd") rfl rfl | exact fz_at 2 (by fail "nd") rfl rfl | exact fz_at 3 (by fail "nd") rfl rfl | exact fz_at 4 (by fail "nd") rfl rfl | exact fz_at 5 (by fail "nd") rfl rfl | exact fz_at 6 (by fail "nd") rfl rfl | exact fz_at 7 (by fail "nd") rfl rfl)
local macro_rules | `(tactic| fail "lkD") => `(tactic| first | assumption | exact dz_at 0 (by fail "nd") rfl rfl | exact dz_at 1 (by fail "nd") rfl rfl | exact dz_at 2 (by fail "nd") rfl rfl | exact dz_at 3 (by fail "nd") rfl rfl | exact dz_at 4 (by fail "nd") rfl rfl)
local macro_rules | `(tactic| fail "ptF") => `(tactic| first | assumption | exact fz_put 0 (by fail "nd") rfl (Nat.le_of_ble_eq_true rfl) | exact fz_put 1 (by fail "nd") rfl (Nat.le_of_ble_eq_true rfl) | exact fz_put 2 (by fail "nd") rfl (Nat.le_of_ble_eq_true rfl) | exact fz_put 3 (by fail "nd") rfl (Nat.le_of_ble_eq_true rfl) | exact fz_put 4 (by fail "nd") rfl (Nat.le_of_ble_eq_true rfl) | exact fz_put 5 (by fail "nd") rfl (Nat.le_of_ble_eq_true rfl) | exact fz_put 6 (by fail "nd") rfl (Nat.le_of_ble_eq_true rfl) | exact fz_put 7 (by fail "nd") rfl (Nat.le_of_ble_eq_true rfl) | exact fz_new (by decide +kernel) rfl)
local macro_rules | `(tactic| fail "ptD") => `(tactic| first | assumption | exact dz_put 0 (by fail "nd") rfl (Nat.le_of_ble_eq_true rfl) | exact dz_put 1 (by fail "nd") rfl (Nat.le_of_ble_eq_true rfl) | exact dz_put 2 (by fail "nd") rfl (Nat.le_of_ble_eq_true rfl) | exact dz_put 3 (by fail "nd") rfl (Nat.le_of_ble_eq_true rfl) | exact dz_put 4 (by fail "nd") rfl (Nat.le_of_ble_eq_true rfl))
local macro_rules | `(tactic| fail "sz") => `(tactic| first | assumption | exact (Nat.le_of_ble_eq_true rfl) | omega | decide)
local macro_rules | `(tactic| fail "sd") => `(tactic| first | rfl | assumption | decide | omega | (dsimp only; first | decide | omega) | exact .inr ⟨by decide, by decide⟩ | exact .inl ⟨by decide, by decide⟩ | exact ⟨by omega, by omega⟩ | exact .inl ⟨by omega, by omega⟩ | exact .inr ⟨by omega, by omega⟩ | exact ⟨by omega, by omega, by omega⟩)
local macro_rules | `(tactic| fail "cl") => `(tactic| (clear hH; dsimp only [List.set, List.cons_append, List.nil_append, List.append] at hL))
local macro_rules | `(tactic| fail "gn") => `(tactic| (intro p hp; generalize hH : upd H p _ = H; replace hL := Led.newH hL hp hH; clear hH hp))
local macro_rules | `(tactic| fail "gup") => `(tactic| (generalize hH : upd H _ _ = H; replace hL := Led.upU hL (by fail "up") hH; fail "cl"))
local macro_rules | `(tactic| fail "gmk") => `(tactic| (intro x dx hx hd ne; generalize hH : upd (upd H dx _) x _ = H; replace hL := Led.made hL hx hd ne hH; clear hH hx hd ne))
local macro_rules | `(tactic| fail "v") => `(tactic| refine ⟨_, rfl, ?_⟩)
local macro_rules | `(tactic| fail "i2") => `(tactic| refine ⟨_, _, rfl, rfl, ?_⟩)
local macro_rules | `(tactic| fail "go1") => `(tactic| first
  | refine ⟨_, rfl, ?_⟩
  | refine ⟨_, _, rfl, rfl, ?_⟩
  | refine ⟨_, _, rfl, ?_⟩
  | refine iteT ?_
  | refine iteF ?_
  | refine k_fld hL (by fail "ix") (by assumption) (by assumption) (by fail "lkF") ?_
  | refine k_dgetS hL (by fail "ix") (by fail "lkD") ?_
  | refine k_dgetI hL (by fail "ix") (by assumption) ?_
  | refine k_ixL hL (by fail "ix") (by first | rfl | assumption) ?_
  | refine k_ixT hL (by fail "ix") (by first | rfl | assumption) ?_
  | refine k_tyL hL (by fail "ix") ?_
  | refine k_isd hL (by fail "ix") ?_
  | (refine And.intro (by fail "sz") ?_; fail "gn")
  | refine And.intro (by fail "sd") ?_
  | fail "gn"
  | refine k_meth hL (by fail "ix") (by first | assumption | exact fz_no (by decide +kernel)) ?_
  | refine k_gtup hL (by fail "ix") rfl ?_
  | (refine k_popI hL (by fail "ix") (by assumption) ?_; fail "gup")
  | (refine k_listD hL (by fail "ix") ?_; fail "gn")
  | (refine ⟨_, _, _, _, rfl, rfl, hL.at (by fail "ix"), rfl, ?_⟩; fail "gup")
  | (refine ⟨_, _, _, rfl, rfl, hL.at (by fail "ix"), (by fail "sz"), ?_⟩; fail "gup")
  | (refine ⟨_, _, _, _, rfl, hL.at (by fail "ix"), by assumption, by assumption, Nat.lt_of_le_of_lt fz_len (by decide), ?_⟩; generalize hH : upd H _ _ = H; replace hL := Led.upF hL (by fail "up") (by fail "ptF") hH; fail "cl")
  | (refine ⟨_, _, hL.at (by fail "ix"), Nat.lt_of_le_of_lt fz_len (by decide), ?_⟩; generalize hH : upd H _ _ = H; replace hL := Led.upF hL (by fail "up") (by fail "ptF") hH; fail "cl")
  | (refine k_dputS hL (by fail "ix") (Nat.lt_of_le_of_lt dz_len (by decide)) (by fail "ptD") (by fail "up") ?_; clear hL; intro H hL; dsimp only [List.set, List.cons_append, List.nil_append, List.append] at hL)
  | refine k_lenL2 hL (by fail "ix") ?_
  | refine k_lenT2 hL (by fail "ix") ?_
  | refine .inl ⟨_, rfl, ?_⟩
  | refine .inr ⟨_, rfl, ?_⟩)
local macro_rules | `(tactic| fail "go") => `(tactic| repeat fail "go1")
local macro_rules | `(tactic| fail "pm") => `(tactic| (refine Led.le hL (fun a_ => ?_); simp only [cnt_nil, cnt_cons, cnt_app, List.map_append, List.map_cons, List.map_nil, List.flatMap_append, List.flatMap_cons, List.flatMap_nil, List.append_assoc, List.cons_append, List.nil_append]; omega))

section
variable {K : PySem.W.Frag}
/-- dict([(row[0], row[j]) for row in machines]): the comprehension -/
theorem lc_rows {D H1 ml} {L : Lg} {mrs : List (Addr × MRow)} {jr : Nat} {jx : Int} {vo : MRow → V} {σ : L2.St} {Qd : Hp → Prop} (hL : Led H1 L) (hD : H1 D = none) (hm : At L ml (.lst (mrs.map mrV))) (hmem : ∀ x ∈ mrs, mrO x ∈ L) (h60 : mrs.length < 60)
    (hv : ∀ x : MRow, atI [V.str x.1, V.str x.2.1, V.int x.2.2] jx = some (vo x))
    (hs : ∀ x H, gName jr x (wipe σ [jr]) H fun σ2 H2 => wipe σ2 [jr] = wipe σ [jr] ∧ H2 = H ∧ σ2[jr]? = some (some x))
    (hd : ∀ (ps : List (Addr × MRow)) H, ps.map (·.2) = mrs.map (·.2) → Led H ((D, .lst ((ps.map (·.1)).map V.ref)) :: (ps.map (fun p => (p.1, HO.tup [.str p.2.1, vo p.2])) ++ L)) → Qd H) :
    ∃ W : Nat → Nat → Hp → Prop, (∃ m, W 0 m (L2.upd H1 D (.lst []))) ∧ ∀ i' m H, W i' m H →
      ((Itl K ml).stop i' H ∧ Qd H) ∨ ((Itl K ml).go i' H ∧ ∃ Nx : Hp → Prop, (∀ H', Nx H' → ∃ m', m' < m ∧ W (i' + 1) m' H') ∧ ∀ x H', (Itl K ml).yld i' H x H' → gName jr x (wipe σ [jr]) H' fun σ2 H2 => wipe σ2 [jr] = wipe σ [jr] ∧ tYes σ2 H2 fun b H3 =>
        if b = true then tTup (tCons (tOp (rIxT K) (tVar jr) (tC (.int 0))) (tCons (tOp (rIxT K) (tVar jr) (tC (.int jx))) tNil)) σ2 H3 fun y H4 => ∃ acc, H4 D = some (.lst acc) ∧ acc.length < sizeLine ∧ Nx (L2.upd H4 D (.lst (acc ++ [y]))) else Nx H3) := by
  have hm0 : (ml, HO.lst (mrs.map mrV)) ∈ L := by
    obtain ⟨i, hi⟩ := hm
    exact List.mem_of_getElem? hi
  refine lc_list (K := K) (a := ml) (xs := mrs.map mrV) (fun i H => Hold (∃ ps : List (Addr × MRow), ps.map (·.2) = (mrs.take i).map (·.2) ∧ Led H ((D, .lst ((ps.map (·.1)).map V.ref)) :: (ps.map (fun p => (p.1, HO.tup [.str p.2.1, vo p.2])) ++ L)))) (.mk ⟨[], rfl, hL.new hD⟩) (fun i H _ h => ?_) (fun k x H hi h => ?_) (fun H h => ?_)
  · obtain ⟨ps, _, hL⟩ := h.out
    exact .of (hL.mem (.tail _ (List.mem_append_right _ hm0)))
  · obtain ⟨ps, hps, hL⟩ := h.out
    clear h
    rw [List.getElem?_map] at hi
    obtain ⟨y, hy, rfl⟩ := Option.map_eq_some_iff.mp hi
    have hym := hmem y (List.mem_of_getElem? hy)
    have hpl : ps.length < 60 := by
      have := congrArg List.length hps
      rw [List.length_map, List.length_map, List.length_take] at this
      omega
    obtain ⟨q1, _, q2⟩ := hs (mrV y) H
    refine ⟨q1, k_yes ?_⟩
    refine ⟨_, q2, ?_⟩
    refine k_ixT hL (at_mem (.tail _ (List.mem_append_right _ hym))) (show atI [V.str y.2.1, V.str y.2.2.1, V.int y.2.2.2] 0 = some (.str y.2.1) from rfl) ?_
    refine ⟨_, q2, ?_⟩
    refine k_ixT hL (at_mem (.tail _ (List.mem_append_right _ hym))) (hv y.2) ?_
    refine ⟨show 2 ≤ sizeLine by decide, fun p hp => ?_⟩
    generalize hH : upd H p _ = H2
    replace hL := Led.newH hL hp hH
    clear hH hp
    refine ⟨_, hL.at ⟨1, rfl⟩, by rw [List.length_map, List.length_map]; exact small60 hpl, .mk ⟨ps ++ [(p, y.2)], ?_, ?_⟩⟩
    · rw [List.map_append, hps, List.take_add_one, hy, Option.toList_some, List.map_append]
      rfl
    · replace hL := hL.upU (o' := .lst ((ps.map (·.1)).map V.ref ++ [.ref p])) ⟨1, rfl, rfl⟩ rfl
      dsimp only [List.set] at hL
      (refine Led.le hL (fun a_ => ?_); simp only [cnt_nil, cnt_cons, cnt_app, List.map_append, List.map_cons, List.map_nil, List.flatMap_append, List.flatMap_cons, List.flatMap_nil, List.append_assoc, List.cons_append, List.nil_append]; omega)
  · obtain ⟨ps, hps, hL⟩ := h.out
    rw [List.length_map, List.take_length] at hps
    exact hd ps H hps hL
def kvM (vo : MRow → V) (M : List MRow) : List (Key × V) := M.map fun m => (Sum.inr m.1, vo m)
theorem k_dictM {H : Hp} {D : Addr} {L : Lg} {ps : List (Addr × MRow)} {M : List MRow} {vo : MRow → V} (hL : Led H ((D, .lst ((ps.map (·.1)).map V.ref)) :: (ps.map (fun p => (p.1, HO.tup [.str p.2.1, vo p.2])) ++ L))) (hM : ps.map (·.2) = M) (nd : (M.map (·.1)).Nodup) :
    SqL K H D ((ps.map (·.1)).map V.ref) ∧ Paired (fun p (kv : Key × V) => SqT K H p [kV kv.1, kv.2]) (ps.map (·.1)) (kvM vo M) ∧ mergeK [] (kvM vo M) = kvM vo M ∧ ∀ p H', H p = none → L2.upd H p (.dK (kvM vo M)) = H' → Led H' ((p, .dK (kvM vo M)) :: L) := by
  have e : kvM vo M = ps.map (fun p => ((Sum.inr p.2.1 : Key), vo p.2)) := by unfold kvM; rw [← hM, List.map_map]; rfl
  refine ⟨.of (hL.at ⟨0, rfl⟩), ?_, ?_, fun p H' hp hH => ?_⟩
  · rw [e]
    exact paired_map fun x hx => .of (hL.mem (.tail _ (List.mem_append_left _ (List.mem_map.mpr ⟨x, hx, rfl⟩))))
  · unfold kvM
    rw [mergeK_nd _ _ (by
      rw [List.nil_append, List.map_map]
      have : ((M.map (·.1)).map (Sum.inr : Str → Key)).Nodup := nd.map _ fun a b h e => h (Sum.inr.inj e)
      rw [List.map_map] at this
      exact this), List.nil_append]
  · rw [← hH]
    have := hL.new (o := .dK (kvM vo M)) hp
    refine this.sub (.cons_cons _ ?_)
    exact (List.sublist_append_right _ _).cons _
end
theorem M_z {M : List MRow} (nd : (M.map (·.1)).Nodup) : kvM (fun m => .str m.2.1) M = zK (M.map (·.1)) (zf M) := by
  unfold zK kvM
  rw [List.map_map]
  refine List.map_congr_left fun m hm => ?_
  show _ = (Sum.inr m.1, V.str (zf M m.1))
  unfold zf
  rw [mem_aget nd (k := m.1) (v := m.2) hm]
  rfl
theorem M_r {M : List MRow} (nd : (M.map (·.1)).Nodup) : kvM (fun m => .int m.2.2) M = lfK (M.map (·.1)) (rf M) := by
  unfold lfK kvM
  rw [List.map_map]
  refine List.map_congr_left fun m hm => ?_
  show _ = (Sum.inr m.1, V.int (rf M m.1))
  unfold rf
  rw [mem_aget nd (k := m.1) (v := m.2) hm]
  rfl
end Sd


set_option linter.unusedVariables false
namespace Sd
open PySem L2
open PyProof.Rows (sortedS)
open C8 (Cal Met Mak pe_c pe_mk pe_mt pe_mt0 pss_cut tCut)
set_option linter.unusedSimpArgs false
set_option pp.deepTerms false
set_option pp.deepTerms.threshold 12
set_option hygiene false
local macro_rules | `(tactic| fail "nd") => `(tactic| first | assumption | decide +kernel)
local macro_rules | `(tactic| fail "ix") => `(tactic| first | exact ⟨0, rfl⟩ | exact ⟨1, rfl⟩ | exact ⟨2, rfl⟩ | exact ⟨3, rfl⟩ | exact ⟨4, rfl⟩ | exact ⟨5, rfl⟩ | exact ⟨6, rfl⟩ | exact ⟨7, rfl⟩ | exact ⟨8, rfl⟩ | exact ⟨9, rfl⟩ | exact ⟨10, rfl⟩ | exact ⟨11, rfl⟩ | exact ⟨12, rfl⟩ | exact ⟨13, rfl⟩ | exact ⟨14, rfl⟩ | exact ⟨15, rfl⟩ | exact ⟨16, rfl⟩ | exact ⟨17, rfl⟩ | exact ⟨18, rfl⟩ | assumption)
local macro_rules | `(tactic| fail "up") => `(tactic| first | exact ⟨0, rfl, rfl⟩ | exact ⟨1, rfl, rfl⟩ | exact ⟨2, rfl, rfl⟩ | exact ⟨3, rfl, rfl⟩ | exact ⟨4, rfl, rfl⟩ | exact ⟨5, rfl, rfl⟩ | exact ⟨6, rfl, rfl⟩ | exact ⟨7, rfl, rfl⟩ | exact ⟨8, rfl, rfl⟩ | exact ⟨9, rfl, rfl⟩ | exact ⟨10, rfl, rfl⟩ | exact ⟨11, rfl, rfl⟩ | exact ⟨12, rfl, rfl⟩ | exact ⟨13, rfl, rfl⟩ | exact ⟨14, rfl, rfl⟩ | exact ⟨15, rfl, rfl⟩ | exact ⟨16, rfl, rfl⟩ | assumption)
local macro_rules | `(tactic| fail "lkF") => `(tactic| first | assumption | exact fz_at 0 (by fail "nd") rfl rfl | exact fz_at 1 (by fail "nd") rfl rfl | exact fz_at 2 (by fail "nd") rfl rfl | exact fz_at 3 (by fail "nd") rfl rfl | exact fz_at 4 (by fail "nd") rfl rfl | exact fz_at 5 (by fail "nd") rfl rfl | exact fz_at 6 (by fail "nd") rfl rfl | exact fz_at 7 (by fail "nd") rfl rfl)
local macro_rules | `(tactic| fail "lkD") => `(tactic| first | assumption | exact dz_at 0 (by fail "nd") rfl rfl | exact dz_at 1 (by fail "nd") rfl rfl | exact dz_at 2 (by fail "nd") rfl rfl | exact dz_at 3 (by fail "nd") rfl rfl | exact dz_at 4 (by fail "nd") rfl rfl)
local macro_rules | `(tactic| fail "ptF") => `(tactic| first | assumption | exact fz_put 0 (by fail "nd") rfl (Nat.le_of_ble_eq_true rfl) | exact fz_put 1 (by fail "nd") rfl (Nat.le_of_ble_eq_true rfl) | exact fz_put 2 (by fail "nd") rfl (Nat.le_of_ble_eq_true rfl) | exact fz_put 3 (by fail "nd") rfl (Nat.le_of_ble_eq_true rfl) | exact fz_put 4 (by fail "nd") rfl (Nat.le_of_ble_eq_true rfl) | exact fz_put 5 (by fail "nd") rfl (Nat.le_of_ble_eq_true rfl) | exact fz_put 6 (by fail "nd") rfl (Nat.le_of_ble_eq_true rfl) | exact fz_put 7 (by fail "nd") rfl (Nat.le_of_ble_eq_true rfl) | exact fz_new (by decide +kernel) rfl)
local macro_rules | `(tactic| fail "ptD") => `(tactic| first | assumption | exact dz_put 0 (by fail "nd") rfl (Nat.le_of_ble_eq_true rfl) | exact dz_put 1 (by fail "nd") rfl (Nat.le_of_ble_eq_true rfl) | exact dz_put 2 (by fail "nd") rfl (Nat.le_of_ble_eq_true rfl) | exact dz_put 3 (by fail "nd") rfl (Nat.le_of_ble_eq_true rfl) | exact dz_put 4 (by fail "nd") rfl (Nat.le_of_ble_eq_true rfl))
local macro_rules | `(tactic| fail "sz") => `(tactic| first | assumption | exact (Nat.le_of_ble_eq_true rfl) | omega | decide)
local macro_rules | `(tactic| fail "sd") => `(tactic| first | rfl | assumption | decide | omega | (dsimp only; first | decide | omega) | exact .inr ⟨by decide, by decide⟩ | exact .inl ⟨by decide, by decide⟩ | exact ⟨by omega, by omega⟩ | exact .inl ⟨by omega, by omega⟩ | exact .inr ⟨by omega, by omega⟩ | exact ⟨by omega, by omega, by omega⟩)
local macro_rules | `(tactic| fail "cl") => `(tactic| (clear hH; dsimp only [List.set, List.cons_append, List.nil_append, List.append] at hL))
local macro_rules | `(tactic| fail "gn") => `(tactic| (intro p hp; generalize hH : upd H p _ = H; replace hL := Led.newH hL hp hH; clear hH hp))
local macro_rules | `(tactic| fail "gup") => `(tactic| (generalize hH : upd H _ _ = H; replace hL := Led.upU hL (by fail "up") hH; fail "cl"))
local macro_rules | `(tactic| fail "gmk") => `(tactic| (intro x dx hx hd ne; generalize hH : upd (upd H dx _) x _ = H; replace hL := Led.made hL hx hd ne hH; clear hH hx hd ne))
local macro_rules | `(tactic| fail "v") => `(tactic| refine ⟨_, rfl, ?_⟩)
local macro_rules | `(tactic| fail "i2") => `(tactic| refine ⟨_, _, rfl, rfl, ?_⟩)
local macro_rules | `(tactic| fail "go1") => `(tactic| first
  | refine ⟨_, rfl, ?_⟩
  | refine ⟨_, _, rfl, rfl, ?_⟩
  | refine ⟨_, _, rfl, ?_⟩
  | refine iteT ?_
  | refine iteF ?_
  | refine k_fld hL (by fail "ix") (by assumption) (by assumption) (by fail "lkF") ?_
  | refine k_dgetS hL (by fail "ix") (by fail "lkD") ?_
  | refine k_dgetI hL (by fail "ix") (by assumption) ?_
  | refine k_ixL hL (by fail "ix") (by first | rfl | assumption) ?_
  | refine k_ixT hL (by fail "ix") (by first | rfl | assumption) ?_
  | refine k_tyL hL (by fail "ix") ?_
  | refine k_isd hL (by fail "ix") ?_
  | (refine And.intro (by fail "sz") ?_; fail "gn")
  | refine And.intro (by fail "sd") ?_
  | fail "gn"
  | refine k_meth hL (by fail "ix") (by first | assumption | exact fz_no (by decide +kernel)) ?_
  | refine k_gtup hL (by fail "ix") rfl ?_
  | (refine k_popI hL (by fail "ix") (by assumption) ?_; fail "gup")
  | (refine k_listD hL (by fail "ix") ?_; fail "gn")
  | (refine ⟨_, _, _, _, rfl, rfl, hL.at (by fail "ix"), rfl, ?_⟩; fail "gup")
  | (refine ⟨_, _, _, rfl, rfl, hL.at (by fail "ix"), (by fail "sz"), ?_⟩; fail "gup")
  | (refine ⟨_, _, _, _, rfl, hL.at (by fail "ix"), by assumption, by assumption, Nat.lt_of_le_of_lt fz_len (by decide), ?_⟩; generalize hH : upd H _ _ = H; replace hL := Led.upF hL (by fail "up") (by fail "ptF") hH; fail "cl")
  | (refine ⟨_, _, hL.at (by fail "ix"), Nat.lt_of_le_of_lt fz_len (by decide), ?_⟩; generalize hH : upd H _ _ = H; replace hL := Led.upF hL (by fail "up") (by fail "ptF") hH; fail "cl")
  | (refine k_dputS hL (by fail "ix") (Nat.lt_of_le_of_lt dz_len (by decide)) (by fail "ptD") (by fail "up") ?_; clear hL; intro H hL; dsimp only [List.set, List.cons_append, List.nil_append, List.append] at hL)
  | refine k_lenL2 hL (by fail "ix") ?_
  | refine k_lenT2 hL (by fail "ix") ?_
  | refine .inl ⟨_, rfl, ?_⟩
  | refine .inr ⟨_, rfl, ?_⟩)
local macro_rules | `(tactic| fail "go") => `(tactic| repeat fail "go1")
local macro_rules | `(tactic| fail "pm") => `(tactic| (refine Led.le hL (fun a_ => ?_); simp only [cnt_nil, cnt_cons, cnt_app, List.map_append, List.map_cons, List.map_nil, List.flatMap_append, List.flatMap_cons, List.flatMap_nil, List.append_assoc, List.cons_append, List.nil_append]; omega))

def pairO (x : Addr × TupE) : Addr × HO := (x.1, .tup [.str x.2.1, .ref x.2.2.1])
structure TxtD (mg : Str → Option Value) : Prop where
  dict : mg "dict" = none
  tuple : mg "tuple" = none
def LQ (ml al od : Addr) (mrs : List (Addr × MRow)) (prs : List (Addr × PRow)) (os : List TupE) (R : Lg) : Lg := (ml, .lst (mrs.map mrV)) :: (al, .lst (prs.map paV)) :: (od, .dK (os.map (kk tV))) :: (mrs.map mrO ++ (prs.map paO ++ (os.map tupO ++ R)))
def spLPlan : Sp := fun vs H Q _ => ∃ (ml al od : Addr) (mrs : List (Addr × MRow)) (prs : List (Addr × PRow)) (os : List TupE) (M : List MRow) (PR : List PRow) (R : Lg), vs = [.ref ml, .ref al, .ref od] ∧ mrs.map (·.2) = M ∧ prs.map (·.2) = PR ∧
  Led H (LQ ml al od mrs prs os R) ∧ (M.map (·.1)).Nodup ∧ sortedS (M.map (·.1)) = true ∧ M.length < 60 ∧ (∀ m ∈ M, 0 ≤ m.2.2) ∧ PsOk PR ∧ PR.length < 60 ∧
  ∀ (t fd xd : Addr) (ts : List TupE) (H' : Hp), plF ts = (planP M PR (plF os)).f →
    Led H' ((t, .tup [.ref fd, .ref xd]) :: (fd, .dK (ts.map (kk tV))) :: (xd, .dK ((planP M PR (plF os)).l.map (kk lxV))) :: (ts.map tupO ++ LQ ml al od mrs prs os R)) → Q (.ref t) H'
section
variable {P : Program} {w : World} {K : PySem.W.Frag} {mg : Str → Option Value} {base : Heap}
theorem ok_lplan {f : Addr} {fd : FuncData} (F : Fun K "_law_plan" "_law_plan" sLPlan f fd) (T : TxtD mg) (TF : TxtF mg) (TM : TxtM mg) : FnOk P w K mg base CX0 3 f fd ["machines", "parts", "old"] spLPlan := by
  refine F.ok scLPlan (fun vs H Q E h => ?_) (fun cdv A outer s0 H vs Q E hr h => ?_)
  · obtain ⟨ml, al, od, mrs, prs, os, M, PR, R, rfl, _⟩ := h
    rfl
  · obtain ⟨ml, al, od, mrs, prs, os, M, PR, R, rfl, hM, hP, hL, nm, hs, zm, hr0, hps, zp, k⟩ := h
    refine ⟨_, (pss_cons (ps_asg (pe_tup (pa_cons (pe_callTy (call_dictP rfl) (by rfl) T.dict (by decide +kernel) (pa_cons (pe_lc (own := [("row", 7)]) (g := gName 7) (by rfl) scLPlan.nd (pi_list (pv 0)) (blkOk_by (own := [("row", 7)]) (N := ["machines", "parts", "old", "left", "zones", "found", "lacks", "row", "name", "weight", "copies", "rows", "one", "other", "free", "best"]) (sc := (defScope sLPlan)) (by decide +kernel)) (fun _ _ _ _ _ => (pg_name (i := 7) scLPlan.nd rfl (Or.inl rfl))) (fun _ _ _ _ _ => pts_nil) (fun _ _ _ _ _ => (pe_tup (pa_cons (pe_ix ix_tupB (pv 7) pe_int (fun _ _ => rfl)) (pa_cons (pe_ix ix_tupB (pv 7) pe_int (fun _ _ => rfl)) pa_nil))))) pa_nil)) (pa_cons (pe_callTy (call_dictP rfl) (by rfl) T.dict (by decide +kernel) (pa_cons (pe_lc (own := [("row", 7)]) (g := gName 7) (by rfl) scLPlan.nd (pi_list (pv 0)) (blkOk_by (own := [("row", 7)]) (N := ["machines", "parts", "old", "left", "zones", "found", "lacks", "row", "name", "weight", "copies", "rows", "one", "other", "free", "best"]) (sc := (defScope sLPlan)) (by decide +kernel)) (fun _ _ _ _ _ => (pg_name (i := 7) scLPlan.nd rfl (Or.inl rfl))) (fun _ _ _ _ _ => pts_nil) (fun _ _ _ _ _ => (pe_tup (pa_cons (pe_ix ix_tupB (pv 7) pe_int (fun _ _ => rfl)) (pa_cons (pe_ix ix_tupB (pv 7) pe_int (fun _ _ => rfl)) pa_nil))))) pa_nil)) (pa_cons pe_dnewK (pa_cons pe_dnewK pa_nil))))) (pg_tup (by rfl) (pgs_cons (pg_name (i := 3) scLPlan.nd rfl (Or.inr rfl)) (pgs_cons (pg_name (i := 4) scLPlan.nd rfl (Or.inr rfl)) (pgs_cons (pg_name (i := 5) scLPlan.nd rfl (Or.inr rfl)) (pgs_cons (pg_name (i := 6) scLPlan.nd rfl (Or.inl rfl)) pgs_nil))))))
  (pss_cons (ps_for PassesOwn.never rfl (pi_list (pv 1)) (pg_tup (by rfl) (pgs_cons (pg_name (i := 8) scLPlan.nd rfl (Or.inr rfl)) (pgs_cons (pg_name (i := 9) scLPlan.nd rfl (Or.inr rfl)) (pgs_cons (pg_name (i := 10) scLPlan.nd rfl (Or.inl rfl)) pgs_nil))))
  (pss_cons (ps_set (i := 11) scLPlan.nd rfl (Or.inl rfl) (pe_lst pa_nil))
  (pss_cons (st_ls hr TF)
  (pss_one (ps_dput (hu_of hr) (pv 5) (pv 8) (pv 11) rfl)))))
  (pss_cons (ps_for PassesOwn.never rfl (pi_list (pv 1)) (pg_tup (by rfl) (pgs_cons (pg_name (i := 8) scLPlan.nd rfl (Or.inr rfl)) (pgs_cons (pg_name (i := 9) scLPlan.nd rfl (Or.inr rfl)) (pgs_cons (pg_name (i := 10) scLPlan.nd rfl (Or.inl rfl)) pgs_nil))))
  (pss_one (st_lw hr TM)))
  (pss_one (ps_ret (pe_tup (pa_cons (pe_callTy (call_dictP rfl) (by rfl) T.dict (by decide +kernel) (pa_cons (pe_lock (pe_lc (own := [("name", 8)]) (g := gName 8) (by rfl) scLPlan.nd (pi_keys (pv 5)) (blkOk_by (own := [("name", 8)]) (N := ["machines", "parts", "old", "left", "zones", "found", "lacks", "row", "name", "weight", "copies", "rows", "one", "other", "free", "best"]) (sc := (defScope sLPlan)) (by decide +kernel)) (fun _ _ _ _ _ => (pg_name (i := 8) scLPlan.nd rfl (Or.inl rfl))) (fun _ _ _ _ _ => pts_nil) (fun _ _ _ _ _ => (pe_tup (pa_cons (pv 8) (pa_cons (pe_callTy call_tuple_ofB (by rfl) T.tuple (by decide +kernel) (pa_cons (pe_dget (hu_of hr) (pv 5) (pv 8) (fun _ _ => rfl)) pa_nil)) pa_nil)))))) pa_nil)) (pa_cons (pv 6) pa_nil)))))))), ?_⟩
    have hml : mrs.length < 60 := by rw [← hM, List.length_map] at zm; exact zm
    have hmo : ∀ x ∈ mrs, mrO x ∈ LQ ml al od mrs prs os R := fun x hx => .tail _ (.tail _ (.tail _ (List.mem_append_left _ (List.mem_map.mpr ⟨x, hx, rfl⟩))))
    refine ⟨_, rfl, ml, rfl, ⟨_, .of (hL.at ⟨0, rfl⟩)⟩, fun D1 hD1 => lc_rows (jr := 7) (vo := fun m => .int m.2.2) hL hD1 ⟨0, rfl⟩ hmo hml (fun _ => rfl) (fun x H => ⟨rfl, rfl, rfl⟩) (fun ps1 H hp1 hL => ?_)⟩
    obtain ⟨d1, d2, d3, d4⟩ := k_dictM (K := K) (vo := fun m => .int m.2.2) hL (hp1.trans hM) nm
    refine ⟨D1, _, _, rfl, d1, d2, fun ld hld => ?_⟩
    rw [d3]
    generalize hH : upd _ ld _ = H
    replace hL := d4 ld H hld hH
    clear d1 d2 d3 d4 hld hH
    clear hp1
    refine ⟨_, rfl, ml, rfl, ⟨_, .of (hL.at ⟨1, rfl⟩)⟩, fun D2 hD2 => lc_rows (jr := 7) (vo := fun m => .str m.2.1) hL hD2 ⟨1, rfl⟩ (fun x hx => .tail _ (hmo x hx)) hml (fun _ => rfl) (fun x H => ⟨rfl, rfl, rfl⟩) (fun ps2 H hp2 hL => ?_)⟩
    obtain ⟨d1, d2, d3, d4⟩ := k_dictM (K := K) (vo := fun m => .str m.2.1) hL (hp2.trans hM) nm
    refine ⟨D2, _, _, rfl, d1, d2, fun zd hzd => ?_⟩
    rw [d3]
    generalize hH : upd _ zd _ = H
    replace hL := d4 zd H hzd hH
    clear d1 d2 d3 d4 hzd hH
    rw [M_z nm, M_r nm] at hL
    fail "go"
    rename_i fd Hx xd Hy
    have hrn : ∀ n ∈ M.map (·.1), 0 ≤ rf M n := fun n hn => by
      obtain ⟨m, hm, rfl⟩ := List.mem_map.mp hn
      unfold rf
      rw [mem_aget nm (k := m.1) (v := m.2) hm]
      exact hr0 m hm
    have pre := plan_pre (ns := M.map (·.1)) (z := zf M) (room := rf M) hps hs (old := plF os) hrn
    replace hL : Led H ((fd, .dK []) :: (xd, .dK []) :: (ld, .dK (lfK (M.map (·.1)) (rf M))) :: (zd, .dK (zK (M.map (·.1)) (zf M))) :: LQ ml al od mrs prs os R) := by (refine Led.le hL (fun a_ => ?_); simp only [cnt_nil, cnt_cons, cnt_app, List.map_append, List.map_cons, List.map_nil, List.flatMap_append, List.flatMap_cons, List.flatMap_nil, List.append_assoc, List.cons_append, List.nil_append]; omega)
    have hpl0 : prs.length < 60 := by rw [← hP, List.length_map] at zp; exact zp
    have hNl : (M.map (·.1)).length < 60 := by rw [List.length_map]; exact zm
    refine ⟨⟨_, .of (hL.at ⟨5, rfl⟩)⟩, for_listA (K := K) (a := al) (xs := prs.map paV) (fun i σ H => Hold (∃ (v7 v8 v9 v10 v11 v12 v13 v14 v15 : Option V) (es : List TupE), σ = [some (.ref ml), some (.ref al), some (.ref od), some (.ref ld), some (.ref zd), some (.ref fd), some (.ref xd), v7, v8, v9, v10, v11, v12, v13, v14, v15] ∧ plF es = ((PR.take i).foldl (stayS (M.map (·.1)) (zf M) (plF os)) (rf M, [])).2 ∧
      Led H ((fd, .dK (es.map (kk tV))) :: (xd, .dK []) :: (ld, .dK (lfK (M.map (·.1)) ((PR.take i).foldl (stayS (M.map (·.1)) (zf M) (plF os)) (rf M, [])).1)) :: (zd, .dK (zK (M.map (·.1)) (zf M))) :: (es.map lstO ++ LQ ml al od mrs prs os R)))) (.mk ⟨_, _, _, _, _, _, _, _, _, [], rfl, rfl, hL⟩) (fun i σ H _ h => ?_) (fun i x σ H D' hi h hD' => ?_) (fun σ H h => ?_)⟩
    · obtain ⟨v7, v8, v9, v10, v11, v12, v13, v14, v15, es, rfl, _, hL⟩ := h.out
      exact .of (hL.mem (.tail _ (.tail _ (.tail _ (.tail _ (List.mem_append_right _ (.tail _ (.head _))))))))
    · clear hL
      obtain ⟨v7, v8, v9, v10, v11, v12, v13, v14, v15, es, rfl, he, hL⟩ := h.out
      clear h
      rw [List.getElem?_map] at hi
      obtain ⟨e, hpe, rfl⟩ := Option.map_eq_some_iff.mp hi
      obtain ⟨ea, nm1, w1, c1⟩ := e
      have hem := List.mem_of_getElem? hpe
      have hpl : PR[i]? = some (nm1, w1, c1) := by rw [← hP, List.getElem?_map, hpe]; rfl
      have hpm := List.mem_of_getElem? hpl
      have step : (PR.take (i + 1)).foldl (stayS (M.map (·.1)) (zf M) (plF os)) (rf M, []) = stayS (M.map (·.1)) (zf M) (plF os) ((PR.take i).foldl (stayS (M.map (·.1)) (zf M) (plF os)) (rf M, [])) (nm1, w1, c1) := by
        rw [List.take_add_one, hpl, Option.toList_some, List.foldl_append]; rfl
      have hns := stay_names (ns := M.map (·.1)) (z := zf M) (old := plF os) (PR.take i) (rf M, [])
      rw [← he, plF_ns, List.map_nil, List.nil_append] at hns
      have hnew : nm1 ∉ es.map (·.1) := by rw [hns]; exact nd_at hps.nd hpl
      have hnd : (es.map (·.1)).Nodup := by
        rw [hns, List.map_take]
        exact hps.nd.sublist (List.take_sublist _ _)
      have hlen : es.length < 60 := by
        have h2 := congrArg List.length hns
        rw [List.length_map, List.length_map, List.length_take] at h2
        omega
      generalize (PR.take i).foldl (stayS (M.map (·.1)) (zf M) (plF os)) (rf M, []) = gs at step he hL
      obtain ⟨g1, f0⟩ := gs
      dsimp only at he hL
      subst he
      refine k_gtup hL (at_mem (.tail _ (.tail _ (.tail _ (.tail _ (List.mem_append_right _ (.tail _ (.tail _ (.tail _ (List.mem_append_right _ (List.mem_append_left _ (List.mem_map.mpr ⟨_, hem, rfl⟩)))))))))))) rfl ?_
      fail "go"
      rename Addr => rl
      refine ⟨ml, al, od, ld, zd, fd, xd, rl, M.map (·.1), zf M, g1, os, nm1, w1, c1, _, _, _, _, _, (fd, .dK (es.map (kk tV))) :: (xd, .dK []) :: (ml, .lst (mrs.map mrV)) :: (al, .lst (prs.map paV)) :: (es.map lstO ++ (mrs.map mrO ++ (prs.map paO ++ R))), rfl, (hps.c _ hpm).2, hNl, ?_, fun v12 H hL => ?_⟩
      · unfold LQ at hL
        (refine Led.le hL (fun a_ => ?_); simp only [cnt_nil, cnt_cons, cnt_app, List.map_append, List.map_cons, List.map_nil, List.flatMap_append, List.flatMap_cons, List.flatMap_nil, List.append_assoc, List.cons_append, List.nil_append]; omega)
      fail "go"
      have hL2 : Led H ((fd, .dK (es.map (kk tV))) :: (xd, .dK []) :: (ld, .dK (lfK (M.map (·.1)) (stayP (M.map (·.1)) (zf M) w1 c1 g1 (oldOf (plF os) nm1)).1)) :: (zd, .dK (zK (M.map (·.1)) (zf M))) :: ((es ++ [(nm1, (rl, (stayP (M.map (·.1)) (zf M) w1 c1 g1 (oldOf (plF os) nm1)).2))]).map lstO ++ LQ ml al od mrs prs os R)) := by
        unfold LQ
        (refine Led.le hL (fun a_ => ?_); simp only [cnt_nil, cnt_cons, cnt_app, List.map_append, List.map_cons, List.map_nil, List.flatMap_append, List.flatMap_cons, List.flatMap_nil, List.append_assoc, List.cons_append, List.nil_append, lstO]; omega)
      clear hL
      refine k_dputS (kvs' := (es ++ [(nm1, (rl, (stayP (M.map (·.1)) (zf M) w1 c1 g1 (oldOf (plF os) nm1)).2))]).map (kk tV)) hL2 ⟨0, rfl⟩ (by rw [List.length_map]; exact small60 hlen) (by rw [← aput_names_out hnew]; exact kk_put (vo := tV) (v := (rl, (stayP (M.map (·.1)) (zf M) w1 c1 g1 (oldOf (plF os) nm1)).2)) hnd) (by fail "up") fun H hL => ?_
      dsimp only [List.set] at hL
      refine hD'.nx _ _ (.mk ⟨_, _, _, _, _, _, _, _, _, es ++ [(nm1, (rl, (stayP (M.map (·.1)) (zf M) w1 c1 g1 (oldOf (plF os) nm1)).2))], rfl, ?_, ?_⟩)
      · rw [step]
        unfold plF stayS
        rw [List.map_append]
        rfl
      · rw [step]
        unfold stayS
        exact hL
    clear hL
    obtain ⟨v7, v8, v9, v10, v11, v12, v13, v14, v15, es, rfl, he, hL⟩ := h.out
    clear h
    rw [List.length_map, show prs.length = PR.length by rw [← hP, List.length_map], List.take_length] at hL he
    change Led _ (_ :: _ :: (_, HO.dK (lfK _ (stayA (M.map (·.1)) (zf M) (plF os) (rf M) PR).1)) :: _) at hL
    change plF es = (stayA (M.map (·.1)) (zf M) (plF os) (rf M) PR).2 at he
    fail "go"
    unfold planP planG at k
    dsimp only at k
    generalize hga : stayA (M.map (·.1)) (zf M) (plF os) (rf M) PR = ga at he hL pre k
    obtain ⟨g0, f0⟩ := ga
    dsimp only at he hL pre k
    subst he
    refine ⟨⟨_, .of (hL.mem (.tail _ (.tail _ (.tail _ (.tail _ (List.mem_append_right _ (.tail _ (.head _))))))))⟩, for_listA (K := K) (a := al) (xs := prs.map paV) (fun i σ H => Hold (∃ (v7 v8 v9 v10 v11 v12 v13 v14 v15 : Option V) (es' : List TupE), σ = [some (.ref ml), some (.ref al), some (.ref od), some (.ref ld), some (.ref zd), some (.ref fd), some (.ref xd), v7, v8, v9, v10, v11, v12, v13, v14, v15] ∧ plF es' = ((PR.take i).foldl (fillS (M.map (·.1)) (zf M)) ⟨g0, plF es, []⟩).f ∧
      Led H ((fd, .dK (es'.map (kk tV))) :: (xd, .dK (((PR.take i).foldl (fillS (M.map (·.1)) (zf M)) ⟨g0, plF es, []⟩).l.map (kk lxV))) :: (ld, .dK (lfK (M.map (·.1)) ((PR.take i).foldl (fillS (M.map (·.1)) (zf M)) ⟨g0, plF es, []⟩).g)) :: (zd, .dK (zK (M.map (·.1)) (zf M))) :: (es'.map lstO ++ LQ ml al od mrs prs os R)))) (.mk ⟨_, _, _, _, _, _, _, _, _, es, rfl, rfl, hL⟩) (fun i σ H _ h => ?_) (fun i x σ H D' hi h hD' => ?_) (fun σ H h => ?_)⟩
    · obtain ⟨v7, v8, v9, v10, v11, v12, v13, v14, v15, es, rfl, _, hL⟩ := h.out
      exact .of (hL.mem (.tail _ (.tail _ (.tail _ (.tail _ (List.mem_append_right _ (.tail _ (.head _))))))))
    · clear hL
      obtain ⟨v7, v8, v9, v10, v11, v12, v13, v14, v15, es', rfl, he, hL⟩ := h.out
      clear h
      rw [List.getElem?_map] at hi
      obtain ⟨e, hpe, rfl⟩ := Option.map_eq_some_iff.mp hi
      obtain ⟨ea, nm1, w1, c1⟩ := e
      have hem := List.mem_of_getElem? hpe
      have hpl : PR[i]? = some (nm1, w1, c1) := by rw [← hP, List.getElem?_map, hpe]; rfl
      have hpm := List.mem_of_getElem? hpl
      have step : (PR.take (i + 1)).foldl (fillS (M.map (·.1)) (zf M)) ⟨g0, plF es, []⟩ = fillS (M.map (·.1)) (zf M) ((PR.take i).foldl (fillS (M.map (·.1)) (zf M)) ⟨g0, plF es, []⟩) (nm1, w1, c1) := by
        rw [List.take_add_one, hpl, Option.toList_some, List.foldl_append]; rfl
      have fi := pre i
      generalize (PR.take i).foldl (fillS (M.map (·.1)) (zf M)) ⟨g0, plF es, []⟩ = fs at step fi he hL
      obtain ⟨g1, f1', l1⟩ := fs
      dsimp only at he hL
      subst he
      have hnm : nm1 ∈ es'.map (·.1) := by
        rw [← plF_ns, fi.nm]
        exact List.mem_map.mpr ⟨_, hpm, rfl⟩
      have hnd : (es'.map (·.1)).Nodup := by rw [← plF_ns, fi.nm]; exact hps.nd
      have hel : es'.length < 60 := by
        have h1 := congrArg List.length fi.nm
        rw [List.length_map, List.length_map, plF_len] at h1
        omega
      obtain ⟨⟨rl, rows⟩, hr0⟩ := aget_in hnm
      have hgr : aget (plF es') nm1 = some rows := by rw [plF_get, hr0]; rfl
      have hro : oldOf (plF es') nm1 = rows := by unfold oldOf; rw [hgr]; rfl
      have hrm := aget_mem hgr
      have hsub := fi.ai.sub _ hrm
      have hlen := fi.ai.len _ hrm
      have hct : ctP PR nm1 = c1 := hps.ct hpm
      rw [hct] at hlen
      have hll0 := fi.l
      dsimp only at hll0
      have hnl : nm1 ∉ l1.map (·.1) := fun hm => by
        rw [hll0] at hm
        exact nd_at hps.nd hpl (lacks_sub hm)
      have hln : (l1.map (·.1)).Nodup := by
        rw [hll0]
        refine List.Nodup.sublist lacks_nd ?_
        rw [List.map_take]
        exact hps.nd.sublist (List.take_sublist _ _)
      have hll : l1.length < 60 := by
        rw [hll0]
        have h2 := lacks_len (qs := PR.take i) (f := plF es')
        rw [List.length_take] at h2
        omega
      have step2 : fillS (M.map (·.1)) (zf M) ⟨g1, plF es', l1⟩ (nm1, w1, c1) = ⟨(fillP (M.map (·.1)) (zf M) w1 (c1 - rows.length).toNat g1 rows).1, aput (plF es') nm1 (fillP (M.map (·.1)) (zf M) w1 (c1 - rows.length).toNat g1 rows).2,
          if ((fillP (M.map (·.1)) (zf M) w1 (c1 - rows.length).toNat g1 rows).2.length : Int) < c1 then l1 ++ [(nm1, c1 - (fillP (M.map (·.1)) (zf M) w1 (c1 - rows.length).toNat g1 rows).2.length)] else l1⟩ := by
        unfold fillS
        dsimp only
        rw [hro]
      rw [step2] at step
      refine k_gtup hL (at_mem (.tail _ (.tail _ (.tail _ (.tail _ (List.mem_append_right _ (.tail _ (.tail _ (.tail _ (List.mem_append_right _ (List.mem_append_left _ (List.mem_map.mpr ⟨_, hem, rfl⟩)))))))))))) rfl ?_
      fail "go"
      refine ⟨ml, al, od, ld, zd, fd, xd, rl, M.map (·.1), zf M, g1, es', l1, nm1, w1, c1, rows, _, _, _, _, _, _, LQ ml al od mrs prs os R, rfl, (hps.c _ hpm).2, hNl, hs, hnd, hel, hr0, hsub, hlen, hnl, hln, hll, hL, fun v12 v13 v14 v15 rl' H hL => ?_⟩
      refine hD'.nx _ _ (.mk ⟨_, _, _, _, _, _, _, _, _, aput es' nm1 (rl', (fillP (M.map (·.1)) (zf M) w1 (c1 - rows.length).toNat g1 rows).2), rfl, ?_, ?_⟩)
      · rw [step, plF_put]
      · rw [step]
        exact hL
    clear hL
    obtain ⟨v7, v8, v9, v10, v11, v12, v13, v14, v15, es', rfl, he, hL⟩ := h.out
    clear h
    have fi := pre PR.length
    rw [List.length_map, show prs.length = PR.length by rw [← hP, List.length_map]] at hL he
    rw [List.take_length] at hL he fi
    change FI _ _ _ _ _ (fillA (M.map (·.1)) (zf M) ⟨g0, plF es, []⟩ PR) at fi
    change plF es' = (fillA (M.map (·.1)) (zf M) ⟨g0, plF es, []⟩ PR).f at he
    change Led _ (_ :: (_, HO.dK (List.map _ (fillA (M.map (·.1)) (zf M) ⟨g0, plF es, []⟩ PR).l)) :: (_, HO.dK (lfK _ (fillA (M.map (·.1)) (zf M) ⟨g0, plF es, []⟩ PR).g)) :: _) at hL
    generalize fillA (M.map (·.1)) (zf M) ⟨g0, plF es, []⟩ PR = fs at fi he hL k
    have hnd : (es'.map (·.1)).Nodup := by rw [← plF_ns, he, fi.nm]; exact hps.nd
    have hlen : es'.length < 60 := by
      have h1 := congrArg List.length fi.nm
      rw [List.length_map, List.length_map, ← he, plF_len] at h1
      omega
    fail "go"
    refine ⟨fd, _, hL.at ⟨0, rfl⟩, trivial, fun od1 => ?_⟩
    generalize hH : upd H fd _ = H
    replace hL := Led.upU hL (o' := .frz od1 (.dK (es'.map (kk tV)))) (by fail "up") hH
    fail "cl"
    fail "go"
    replace hL : Led H ((fd, .frz od1 (.dK (es'.map (kk tV)))) :: (xd, .dK (fs.l.map (kk lxV))) :: (es'.map lstO ++ LQ ml al od mrs prs os R)) := by (refine Led.le hL (fun a_ => ?_); simp only [cnt_nil, cnt_cons, cnt_app, List.map_append, List.map_cons, List.map_nil, List.flatMap_append, List.flatMap_cons, List.flatMap_nil, List.append_assoc, List.cons_append, List.nil_append]; omega)
    refine ⟨fd, od1, rfl, .inl ⟨_, hL.at ⟨0, rfl⟩, fun D3 hD3 => lc_it (walk_keys (kvs := es'.map (kk tV))) (fun i H => Hold (∃ tl : List (Addr × TupE), plF (tl.map (·.2)) = (plF es').take i ∧ Led H ((D3, .lst ((tl.map (·.1)).map V.ref)) :: (fd, .frz od1 (.dK (es'.map (kk tV)))) :: (xd, .dK (fs.l.map (kk lxV))) :: (tl.map pairO ++ ((tl.map (·.2)).map tupO ++ (es'.map lstO ++ LQ ml al od mrs prs os R))))))
      (.mk ⟨[], rfl, hL.new hD3⟩) (fun i H _ h => ?_) (fun i v H1 H hi h hy => ?_) (fun H h => ?_)⟩⟩
    · obtain ⟨ts, _, hL⟩ := h.out
      exact hL.mem (.tail _ (.head _))
    · clear hL
      obtain ⟨tl, htl, hL⟩ := h.out
      clear h
      obtain ⟨rfl, kx, vx, hk, rfl⟩ := hy
      rw [List.getElem?_map] at hk
      obtain ⟨e, hee, hk⟩ := Option.map_eq_some_iff.mp hk
      obtain ⟨rfl, rfl⟩ := Prod.mk.inj hk
      have hm := List.mem_of_getElem? hee
      have lk : valV (es'.map (kk tV)) (Sum.inr e.1) = some (.ref e.2.1) := by rw [tv_val, mem_aget hnd (k := e.1) (v := e.2) hm]; rfl
      have hpe : (plF es')[i]? = some (e.1, e.2.2) := by unfold plF; rw [List.getElem?_map, hee]; rfl
      have hl2 : tl.length < 60 := by
        have := congrArg List.length htl
        rw [plF_len, List.length_map, List.length_take, plF_len] at this
        omega
      refine ⟨rfl, k_yes ?_⟩
      fail "go"
      refine k_dgetFS hL ⟨1, rfl⟩ lk ?_
      refine ⟨_, _, rfl, .inl ⟨.of (hL.mem (.tail _ (.tail _ (.tail _ (List.mem_append_right _ (List.mem_append_right _ (List.mem_append_left _ (List.mem_map.mpr ⟨e, hm, rfl⟩)))))))), fun t ht => ?_⟩⟩
      generalize hH : upd H t _ = H
      replace hL := Led.newH hL ht hH
      clear hH ht
      fail "go"
      refine ⟨_, hL.at ⟨2, rfl⟩, by rw [List.length_map, List.length_map]; exact small60 hl2, ?_⟩
      fail "gup"
      refine .mk ⟨tl ++ [(p, (e.1, (t, e.2.2)))], ?_, ?_⟩
      · rw [List.map_append, List.take_add_one, hpe, ← htl]
        unfold plF
        rw [List.map_append]
        rfl
      · (refine Led.le hL (fun a_ => ?_); simp only [cnt_nil, cnt_cons, cnt_app, List.map_append, List.map_cons, List.map_nil, List.flatMap_append, List.flatMap_cons, List.flatMap_nil, List.append_assoc, List.cons_append, List.nil_append, tupO, pairO, kV]; omega)
    clear hL
    obtain ⟨tl, htl, hL⟩ := h.out
    clear h
    rw [List.length_map, ← plF_len, List.take_length] at htl
    refine ⟨hL.at ⟨1, rfl⟩, ?_⟩
    generalize hH : upd H fd _ = H
    replace hL := Led.upU hL (o' := .dK (es'.map (kk tV))) (by fail "up") hH
    fail "cl"
    have hnt : ((tl.map (·.2)).map (·.1)).Nodup := by rw [← plF_ns, htl, plF_ns]; exact hnd
    fail "go"
    refine ⟨D3, tl.map (·.1), (tl.map (·.2)).map (kk tV), rfl, .of (hL.at ⟨0, rfl⟩), ?_, fun t ht => ?_⟩
    · rw [List.map_map]
      exact paired_map fun x hx => .of (hL.mem (.tail _ (.tail _ (.tail _ (List.mem_append_left _ (List.mem_map.mpr ⟨x, hx, rfl⟩))))))
    rw [mergeK_nd _ _ (by
      rw [List.nil_append, kk_names]
      exact hnt.map _ fun a b h e => h (Sum.inr.inj e)), List.nil_append]
    generalize hH : upd H t _ = H
    replace hL := Led.newH hL ht hH
    clear hH ht
    fail "go"
    refine k p t xd (tl.map (·.2)) _ (htl.trans he) ?_
    (refine Led.le hL (fun a_ => ?_); simp only [cnt_nil, cnt_cons, cnt_app, List.map_append, List.map_cons, List.map_nil, List.flatMap_append, List.flatMap_cons, List.flatMap_nil, List.append_assoc, List.cons_append, List.nil_append]; omega)
end
end Sd


set_option linter.unusedVariables false
namespace Sd
open PySem L2
open PyProof.Rows (sortedS)
open C8 (Cal Met Mak pe_c pe_mk pe_mt pe_mt0 pss_cut tCut)
set_option linter.unusedSimpArgs false
set_option pp.deepTerms false
set_option pp.deepTerms.threshold 12
set_option hygiene false
local macro_rules | `(tactic| fail "nd") => `(tactic| first | assumption | decide +kernel)
local macro_rules | `(tactic| fail "ix") => `(tactic| first | exact ⟨0, rfl⟩ | exact ⟨1, rfl⟩ | exact ⟨2, rfl⟩ | exact ⟨3, rfl⟩ | exact ⟨4, rfl⟩ | exact ⟨5, rfl⟩ | exact ⟨6, rfl⟩ | exact ⟨7, rfl⟩ | exact ⟨8, rfl⟩ | exact ⟨9, rfl⟩ | exact ⟨10, rfl⟩ | exact ⟨11, rfl⟩ | exact ⟨12, rfl⟩ | exact ⟨13, rfl⟩ | exact ⟨14, rfl⟩ | exact ⟨15, rfl⟩ | exact ⟨16, rfl⟩ | exact ⟨17, rfl⟩ | exact ⟨18, rfl⟩ | assumption)
local macro_rules | `(tactic| fail "up") => `(tactic| first | exact ⟨0, rfl, rfl⟩ | exact ⟨1, rfl, rfl⟩ | exact ⟨2, rfl, rfl⟩ | exact ⟨3, rfl, rfl⟩ | exact ⟨4, rfl, rfl⟩ | exact ⟨5, rfl, rfl⟩ | exact ⟨6, rfl, rfl⟩ | exact ⟨7, rfl, rfl⟩ | exact ⟨8, rfl, rfl⟩ | exact ⟨9, rfl, rfl⟩ | exact ⟨10, rfl, rfl⟩ | exact ⟨11, rfl, rfl⟩ | exact ⟨12, rfl, rfl⟩ | exact ⟨13, rfl, rfl⟩ | exact ⟨14, rfl, rfl⟩ | exact ⟨15, rfl, rfl⟩ | exact ⟨16, rfl, rfl⟩ | assumption)
local macro_rules | `(tactic| fail "lkF") => `(tactic| first | assumption | exact fz_at 0 (by fail "nd") rfl rfl | exact fz_at 1 (by fail "nd") rfl rfl | exact fz_at 2 (by fail "nd") rfl rfl | exact fz_at 3 (by fail "nd") rfl rfl | exact fz_at 4 (by fail "nd") rfl rfl | exact fz_at 5 (by fail "nd") rfl rfl | exact fz_at 6 (by fail "nd") rfl rfl | exact fz_at 7 (by fail "nd") rfl rfl)
local macro_rules | `(tactic| fail "lkD") => `(tactic| first | assumption | exact dz_at 0 (by fail "nd") rfl rfl | exact dz_at 1 (by fail "nd") rfl rfl | exact dz_at 2 (by fail "nd") rfl rfl | exact dz_at 3 (by fail "nd") rfl rfl | exact dz_at 4 (by fail "nd") rfl rfl)
local macro_rules | `(tactic| fail "ptF") => `(tactic| first | assumption | exact fz_put 0 (by fail "nd") rfl (Nat.le_of_ble_eq_true rfl) | exact fz_put 1 (by fail "nd") rfl (Nat.le_of_ble_eq_true rfl) | exact fz_put 2 (by fail "nd") rfl (Nat.le_of_ble_eq_true rfl) | exact fz_put 3 (by fail "nd") rfl (Nat.le_of_ble_eq_true rfl) | exact fz_put 4 (by fail "nd") rfl (Nat.le_of_ble_eq_true rfl) | exact fz_put 5 (by fail "nd") rfl (Nat.le_of_ble_eq_true rfl) | exact fz_put 6 (by fail "nd") rfl (Nat.le_of_ble_eq_true rfl) | exact fz_put 7 (by fail "nd") rfl (Nat.le_of_ble_eq_true rfl) | exact fz_new (by decide +kernel) rfl)
local macro_rules | `(tactic| fail "ptD") => `(tactic| first | assumption | exact dz_put 0 (by fail "nd") rfl (Nat.le_of_ble_eq_true rfl) | exact dz_put 1 (by fail "nd") rfl (Nat.le_of_ble_eq_true rfl) | exact dz_put 2 (by fail "nd") rfl (Nat.le_of_ble_eq_true rfl) | exact dz_put 3 (by fail "nd") rfl (Nat.le_of_ble_eq_true rfl) | exact dz_put 4 (by fail "nd") rfl (Nat.le_of_ble_eq_true rfl))
local macro_rules | `(tactic| fail "sz") => `(tactic| first | assumption | exact (Nat.le_of_ble_eq_true rfl) | omega | decide)
local macro_rules | `(tactic| fail "sd") => `(tactic| first | rfl | assumption | decide | omega | (dsimp only; first | decide | omega) | exact .inr ⟨by decide, by decide⟩ | exact .inl ⟨by decide, by decide⟩ | exact ⟨by omega, by omega⟩ | exact .inl ⟨by omega, by omega⟩ | exact .inr ⟨by omega, by omega⟩ | exact ⟨by omega, by omega, by omega⟩)
local macro_rules | `(tactic| fail "cl") => `(tactic| (clear hH; dsimp only [List.set, List.cons_append, List.nil_append, List.append] at hL))
local macro_rules | `(tactic| fail "gn") => `(tactic| (intro p hp; generalize hH : upd H p _ = H; replace hL := Led.newH hL hp hH; clear hH hp))
local macro_rules | `(tactic| fail "gup") => `(tactic| (generalize hH : upd H _ _ = H; replace hL := Led.upU hL (by fail "up") hH; fail "cl"))
local macro_rules | `(tactic| fail "gmk") => `(tactic| (intro x dx hx hd ne; generalize hH : upd (upd H dx _) x _ = H; replace hL := Led.made hL hx hd ne hH; clear hH hx hd ne))
local macro_rules | `(tactic| fail "v") => `(tactic| refine ⟨_, rfl, ?_⟩)
local macro_rules | `(tactic| fail "i2") => `(tactic| refine ⟨_, _, rfl, rfl, ?_⟩)
local macro_rules | `(tactic| fail "go1") => `(tactic| first
  | refine ⟨_, rfl, ?_⟩
  | refine ⟨_, _, rfl, rfl, ?_⟩
  | refine ⟨_, _, rfl, ?_⟩
  | refine iteT ?_
  | refine iteF ?_
  | refine k_fld hL (by fail "ix") (by assumption) (by assumption) (by fail "lkF") ?_
  | refine k_dgetS hL (by fail "ix") (by fail "lkD") ?_
  | refine k_dgetI hL (by fail "ix") (by assumption) ?_
  | refine k_ixL hL (by fail "ix") (by first | rfl | assumption) ?_
  | refine k_ixT hL (by fail "ix") (by first | rfl | assumption) ?_
  | refine k_tyL hL (by fail "ix") ?_
  | refine k_isd hL (by fail "ix") ?_
  | (refine And.intro (by fail "sz") ?_; fail "gn")
  | refine And.intro (by fail "sd") ?_
  | fail "gn"
  | refine k_meth hL (by fail "ix") (by first | assumption | exact fz_no (by decide +kernel)) ?_
  | refine k_gtup hL (by fail "ix") rfl ?_
  | (refine k_popI hL (by fail "ix") (by assumption) ?_; fail "gup")
  | (refine k_listD hL (by fail "ix") ?_; fail "gn")
  | (refine ⟨_, _, _, _, rfl, rfl, hL.at (by fail "ix"), rfl, ?_⟩; fail "gup")
  | (refine ⟨_, _, _, rfl, rfl, hL.at (by fail "ix"), (by fail "sz"), ?_⟩; fail "gup")
  | (refine ⟨_, _, _, _, rfl, hL.at (by fail "ix"), by assumption, by assumption, Nat.lt_of_le_of_lt fz_len (by decide), ?_⟩; generalize hH : upd H _ _ = H; replace hL := Led.upF hL (by fail "up") (by fail "ptF") hH; fail "cl")
  | (refine ⟨_, _, hL.at (by fail "ix"), Nat.lt_of_le_of_lt fz_len (by decide), ?_⟩; generalize hH : upd H _ _ = H; replace hL := Led.upF hL (by fail "up") (by fail "ptF") hH; fail "cl")
  | (refine k_dputS hL (by fail "ix") (Nat.lt_of_le_of_lt dz_len (by decide)) (by fail "ptD") (by fail "up") ?_; clear hL; intro H hL; dsimp only [List.set, List.cons_append, List.nil_append, List.append] at hL)
  | refine k_lenL2 hL (by fail "ix") ?_
  | refine k_lenT2 hL (by fail "ix") ?_
  | refine .inl ⟨_, rfl, ?_⟩
  | refine .inr ⟨_, rfl, ?_⟩)
local macro_rules | `(tactic| fail "go") => `(tactic| repeat fail "go1")
local macro_rules | `(tactic| fail "pm") => `(tactic| (refine Led.le hL (fun a_ => ?_); simp only [cnt_nil, cnt_cons, cnt_app, List.map_append, List.map_cons, List.map_nil, List.flatMap_append, List.flatMap_cons, List.flatMap_nil, List.append_assoc, List.cons_append, List.nil_append]; omega))

abbrev sLaw : Stmt := top 15
def NL : List Str := ["script", "dice", "old", "turn", "machines", "parts", "planner", "row", "found", "lacks", "zones", "left", "name", "weight", "copies", "one", "moves", "here", "gone", "come", "bad", "f"]
theorem scLaw : FnScope NL ["script"] (defScope sLaw) := ⟨rfl, rfl, rfl, by decide +kernel, rfl, by decide +kernel, by decide +kernel⟩
abbrev LX (P : Program) (w : World) (K : PySem.W.Frag) (mg : Str → Option Value) (base : Heap) (f : Addr) (cdv : Value) (A : Around) (outer : List Env) (s : Shared) (H : Hp) (E : XK) : Cx := (cxOf CX0 P w K mg base NL "law" (defScope sLaw) f cdv A outer s H E).nox
abbrev bodyB : List Stmt := bodyF (nth (defBody sLaw) 0)
abbrev bodyT : List Stmt := bodyF (nth bodyB 1)
theorem mAll_ne : ∀ n ∈ mAll, n ≠ "" := by decide +kernel
theorem pAll_ne : ∀ n ∈ pAll, n ≠ "" := by decide +kernel
theorem mAll_nd : mAll.Nodup := by decide +kernel
theorem pAll_nd : pAll.Nodup := by decide +kernel
theorem mAll_s : sortedS mAll = true := by decide +kernel
theorem pAll_s : sortedS pAll = true := by decide +kernel
theorem sub_sorted {l a : List Str} (h : l.Sublist a) (s : sortedS a = true) : sortedS l = true := pw_sorted ((sorted_pw s).sublist (h.map _))
/-- planner = Planner(..) -/
def tMk (CM CA CP : Addr) : TS := fun D σ H => ∃ (ml al : Addr) (mrs : List (Addr × MRow)) (prs : List (Addr × PRow)) (v0 v1 v2 v3 v6 v7 v8 v9 v10 v11 v12 v13 v14 v15 v16 v17 v18 v19 v20 v21 : Option V) (R : Lg), σ = [v0, v1, v2, v3, some (.ref ml), some (.ref al), v6, v7, v8, v9, v10, v11, v12, v13, v14, v15, v16, v17, v18, v19, v20, v21] ∧
  DrM (mrs.map (·.2)) mAll ∧ DrP (prs.map (·.2)) pAll ∧ Led H ((ml, .lst (mrs.map mrV)) :: (al, .lst (prs.map paV)) :: (mrs.map mrO ++ (prs.map paO ++ R))) ∧
  ∀ (pn ds md pl ld : Addr) (ms : List MaE) (ps : List PaE) H', plM ms = mrs.map (·.2) → plA ps = prs.map (·.2) → Led H' ((pl, .lst (ps.map pV)) :: (PL CM CP pn ds md pl ld ms (rf (plM ms)) ++ (ps.map (pO CA) ++ ((ml, .lst (mrs.map mrV)) :: (al, .lst (prs.map paV)) :: (mrs.map mrO ++ (prs.map paO ++ R)))))) →
    D.nx [v0, v1, v2, v3, some (.ref ml), some (.ref al), some (.ref pn), v7, v8, v9, v10, v11, v12, v13, v14, v15, v16, v17, v18, v19, v20, v21] H'
section
variable {P : Program} {w : World} {K : PySem.W.Frag} {mg : Str → Option Value} {base : Heap} {CM CA CP : Addr} {f : Addr} {cdv : Value} {A : Around} {outer : List Env} {s0 : Shared} {H0 : Hp} {E : XK}
theorem st_mk (hr : Room 8 (LX P w K mg base f cdv A outer s0 H0 E).A) (c_Place : Mak P w K mg base 1 "Place" CM (spMInit CM) []) (c_Part : Mak P w K mg base 1 "Part" CA (spAInit CA) []) (c_Planner : Mak P w K mg base 1 "Planner" CP (spPInit CM CA CP) []) :
    PS (LX P w K mg base f cdv A outer s0 H0 E) (nth bodyT 1) (tMk CM CA CP) := by
  refine ps_imp (t := _) (ps_set (i := 6) scLaw.nd rfl (Or.inl rfl) (pe_mk c_Planner hr (by decide) (by rfl) (pa_cons (pe_lc (own := [("row", 7)]) (g := gName 7) (by rfl) scLaw.nd (pi_list (pv 4)) (blkOk_by (own := [("row", 7)]) (N := ["script", "dice", "old", "turn", "machines", "parts", "planner", "row", "found", "lacks", "zones", "left", "name", "weight", "copies", "one", "moves", "here", "gone", "come", "bad", "f"]) (sc := (defScope sLaw)) (by decide +kernel)) (fun _ _ _ _ _ => (pg_name (i := 7) scLaw.nd rfl (Or.inl rfl))) (fun _ _ _ _ _ => pts_nil) (fun _ _ _ _ _ => (pe_mk c_Place hr (by decide) (by rfl) (pa_cons (pe_ix ix_tupB (pv 7) pe_int (fun _ _ => rfl)) (pa_cons (pe_ix ix_tupB (pv 7) pe_int (fun _ _ => rfl)) (pa_cons (pe_ix ix_tupB (pv 7) pe_int (fun _ _ => rfl)) pa_nil)))))) (pa_cons (pe_lc (own := [("row", 7)]) (g := gName 7) (by rfl) scLaw.nd (pi_list (pv 5)) (blkOk_by (own := [("row", 7)]) (N := ["script", "dice", "old", "turn", "machines", "parts", "planner", "row", "found", "lacks", "zones", "left", "name", "weight", "copies", "one", "moves", "here", "gone", "come", "bad", "f"]) (sc := (defScope sLaw)) (by decide +kernel)) (fun _ _ _ _ _ => (pg_name (i := 7) scLaw.nd rfl (Or.inl rfl))) (fun _ _ _ _ _ => pts_nil) (fun _ _ _ _ _ => (pe_mk c_Part hr (by decide) (by rfl) (pa_cons (pe_ix ix_tupB (pv 7) pe_int (fun _ _ => rfl)) (pa_cons (pe_ix ix_tupB (pv 7) pe_int (fun _ _ => rfl)) (pa_cons (pe_ix ix_tupB (pv 7) pe_int (fun _ _ => rfl)) pa_nil)))))) pa_nil)))) ?_
  rintro D σ H ⟨ml, al, mrs, prs, v0, v1, v2, v3, v6, v7, v8, v9, v10, v11, v12, v13, v14, v15, v16, v17, v18, v19, v20, v21, R, rfl, dm, dp, hL, k⟩
  have hml : mrs.length < 60 := by
    have h1 := dm.sub.length_le
    rw [List.length_map, List.length_map] at h1
    exact Nat.lt_of_le_of_lt h1 (by decide)
  have hpl : prs.length < 60 := by
    have h1 := dp.sub.length_le
    rw [List.length_map, List.length_map] at h1
    exact Nat.lt_of_le_of_lt h1 (by decide)
  refine ⟨_, rfl, ml, rfl, ⟨_, .of (hL.at ⟨0, rfl⟩)⟩, fun D1 hD1 => lc_list (K := K) (a := ml) (xs := mrs.map mrV) (fun i H => Hold (∃ ms : List MaE, plM ms = (mrs.take i).map (·.2) ∧ Led H ((D1, .lst (ms.map mV)) :: (ms.map (mO CM) ++ ((ml, .lst (mrs.map mrV)) :: (al, .lst (prs.map paV)) :: (mrs.map mrO ++ (prs.map paO ++ R))))))) (.mk ⟨[], rfl, hL.new hD1⟩) (fun i H _ h => ?_) (fun i x H hi h => ?_) (fun H h => ?_)⟩
  · obtain ⟨ms, _, hL⟩ := h.out
    exact .of (hL.mem (.tail _ (List.mem_append_right _ (.head _))))
  · clear hL
    obtain ⟨ms, hms, hL⟩ := h.out
    clear h
    rw [List.getElem?_map] at hi
    obtain ⟨e, he, rfl⟩ := Option.map_eq_some_iff.mp hi
    obtain ⟨ea, n, z, r⟩ := e
    have hem := List.mem_of_getElem? he
    have hz : ms.length < 60 := by
      have := congrArg List.length hms
      unfold plM at this
      rw [List.length_map, List.length_map, List.length_take] at this
      omega
    have hn : n ≠ "" := mAll_ne n (dm.sub.subset (List.mem_map.mpr ⟨(n, z, r), List.mem_map.mpr ⟨_, hem, rfl⟩, rfl⟩))
    have hr1 : 0 ≤ r := dm.r (n, z, r) (List.mem_map.mpr ⟨_, hem, rfl⟩)
    have hmr : mrO (ea, n, z, r) ∈ mrs.map mrO := List.mem_map.mpr ⟨_, hem, rfl⟩
    refine ⟨rfl, k_yes ?_⟩
    refine ⟨_, rfl, k_ixT hL (at_mem (.tail _ (List.mem_append_right _ (.tail _ (.tail _ (List.mem_append_left _ hmr)))))) (show atI [V.str n, V.str z, V.int r] 0 = some (.str n) from rfl) ?_⟩
    refine ⟨_, rfl, k_ixT hL (at_mem (.tail _ (List.mem_append_right _ (.tail _ (.tail _ (List.mem_append_left _ hmr)))))) (show atI [V.str n, V.str z, V.int r] 1 = some (.str z) from rfl) ?_⟩
    refine ⟨_, rfl, k_ixT hL (at_mem (.tail _ (List.mem_append_right _ (.tail _ (.tail _ (List.mem_append_left _ hmr)))))) (show atI [V.str n, V.str z, V.int r] 2 = some (.int r) from rfl) ?_⟩
    intro x dx hx hd ne
    generalize hH : upd (upd H dx _) x _ = H
    replace hL := Led.made hL hx hd ne hH
    clear hH hx hd ne
    refine ⟨x, dx, n, z, r, _, rfl, hL, hn, hr1, fun H hL => ⟨rfl, ?_⟩⟩
    refine ⟨_, hL.at ⟨1, rfl⟩, by rw [List.length_map]; exact small60 hz, ?_⟩
    fail "gup"
    refine .mk ⟨ms ++ [(n, ⟨x, dx, z, r⟩)], ?_, ?_⟩
    · rw [List.take_add_one, he, Option.toList_some, List.map_append, ← hms]
      unfold plM
      rw [List.map_append]
      rfl
    · (refine Led.le hL (fun a_ => ?_); simp only [cnt_nil, cnt_cons, cnt_app, List.map_append, List.map_cons, List.map_nil, List.flatMap_append, List.flatMap_cons, List.flatMap_nil, List.append_assoc, List.cons_append, List.nil_append, mV]; omega)
  clear hL
  obtain ⟨ms, hms, hL⟩ := h.out
  clear h
  rw [List.length_map, List.take_length] at hms
  refine ⟨_, rfl, al, rfl, ⟨_, .of (hL.mem (.tail _ (List.mem_append_right _ (.tail _ (.head _)))))⟩, fun D2 hD2 => lc_list (K := K) (a := al) (xs := prs.map paV) (fun i H => Hold (∃ ps : List PaE, plA ps = (prs.take i).map (·.2) ∧ Led H ((D2, .lst (ps.map pV)) :: (D1, .lst (ms.map mV)) :: (ps.map (pO CA) ++ (ms.map (mO CM) ++ ((ml, .lst (mrs.map mrV)) :: (al, .lst (prs.map paV)) :: (mrs.map mrO ++ (prs.map paO ++ R)))))))) (.mk ⟨[], rfl, hL.new hD2⟩) (fun i H _ h => ?_) (fun i x H hi h => ?_) (fun H h => ?_)⟩
  · obtain ⟨ps, _, hL⟩ := h.out
    exact .of (hL.mem (.tail _ (.tail _ (List.mem_append_right _ (List.mem_append_right _ (.tail _ (.head _)))))))
  · clear hL
    obtain ⟨ps, hps, hL⟩ := h.out
    clear h
    rw [List.getElem?_map] at hi
    obtain ⟨e, he, rfl⟩ := Option.map_eq_some_iff.mp hi
    obtain ⟨ea, n, w1, c1⟩ := e
    have hem := List.mem_of_getElem? he
    have hz : ps.length < 60 := by
      have := congrArg List.length hps
      unfold plA at this
      rw [List.length_map, List.length_map, List.length_take] at this
      omega
    have hn : n ≠ "" := pAll_ne n (dp.sub.subset (List.mem_map.mpr ⟨(n, w1, c1), List.mem_map.mpr ⟨_, hem, rfl⟩, rfl⟩))
    have hw1 := dp.w (n, w1, c1) (List.mem_map.mpr ⟨_, hem, rfl⟩)
    have hc1 := dp.c (n, w1, c1) (List.mem_map.mpr ⟨_, hem, rfl⟩)
    dsimp only at hw1 hc1
    have hmr : paO (ea, n, w1, c1) ∈ prs.map paO := List.mem_map.mpr ⟨_, hem, rfl⟩
    refine ⟨rfl, k_yes ?_⟩
    refine ⟨_, rfl, k_ixT hL (at_mem (.tail _ (.tail _ (List.mem_append_right _ (List.mem_append_right _ (.tail _ (.tail _ (List.mem_append_right _ (List.mem_append_left _ hmr))))))))) (show atI [V.str n, V.int w1, V.int c1] 0 = some (.str n) from rfl) ?_⟩
    refine ⟨_, rfl, k_ixT hL (at_mem (.tail _ (.tail _ (List.mem_append_right _ (List.mem_append_right _ (.tail _ (.tail _ (List.mem_append_right _ (List.mem_append_left _ hmr))))))))) (show atI [V.str n, V.int w1, V.int c1] 1 = some (.int w1) from rfl) ?_⟩
    refine ⟨_, rfl, k_ixT hL (at_mem (.tail _ (.tail _ (List.mem_append_right _ (List.mem_append_right _ (.tail _ (.tail _ (List.mem_append_right _ (List.mem_append_left _ hmr))))))))) (show atI [V.str n, V.int w1, V.int c1] 2 = some (.int c1) from rfl) ?_⟩
    intro x dx hx hd ne
    generalize hH : upd (upd H dx _) x _ = H
    replace hL := Led.made hL hx hd ne hH
    clear hH hx hd ne
    refine ⟨x, dx, n, w1, c1, _, rfl, hL, hn, hw1, hc1.1, by omega, fun H hL => ⟨rfl, ?_⟩⟩
    refine ⟨_, hL.at ⟨1, rfl⟩, by rw [List.length_map]; exact small60 hz, ?_⟩
    fail "gup"
    refine .mk ⟨ps ++ [(n, ⟨x, dx, w1, c1⟩)], ?_, ?_⟩
    · rw [List.take_add_one, he, Option.toList_some, List.map_append, ← hps]
      unfold plA
      rw [List.map_append]
      rfl
    · (refine Led.le hL (fun a_ => ?_); simp only [cnt_nil, cnt_cons, cnt_app, List.map_append, List.map_cons, List.map_nil, List.flatMap_append, List.flatMap_cons, List.flatMap_nil, List.append_assoc, List.cons_append, List.nil_append, pV]; omega)
  clear hL
  obtain ⟨ps, hps, hL⟩ := h.out
  clear h
  rw [List.length_map, List.take_length] at hps
  intro x dx hx hd ne
  generalize hH : upd (upd H dx _) x _ = H
  replace hL := Led.made hL hx hd ne hH
  clear hH hx hd ne
  have e1 : ms.map (·.1) = (mrs.map (·.2)).map (·.1) := by rw [← hms, plM_ns]
  have e2 : ps.map (·.1) = (prs.map (·.2)).map (·.1) := by rw [← hps, plA_ns]
  refine ⟨x, dx, D1, D2, ms, ps, (ml, .lst (mrs.map mrV)) :: (al, .lst (prs.map paV)) :: (mrs.map mrO ++ (prs.map paO ++ R)), rfl, by (refine Led.le hL (fun a_ => ?_); simp only [cnt_nil, cnt_cons, cnt_app, List.map_append, List.map_cons, List.map_nil, List.flatMap_append, List.flatMap_cons, List.flatMap_nil, List.append_assoc, List.cons_append, List.nil_append]; omega), by rw [e1]; exact mAll_nd.sublist dm.sub, by rw [e2]; exact pAll_nd.sublist dp.sub, ?_, ?_, fun md pl ld H hL => ⟨rfl, ?_⟩⟩
  · have := congrArg List.length hms
    unfold plM at this
    rw [List.length_map, List.length_map] at this
    omega
  · have := congrArg List.length hps
    unfold plA at this
    rw [List.length_map, List.length_map] at this
    omega
  fail "go"
  exact k x dx md pl ld ms ps _ hms hps hL
end
end Sd


set_option linter.unusedVariables false
namespace Sd
open PySem L2
open PyProof.Rows (sortedS)
open C8 (Cal Met Mak pe_c pe_mk pe_mt pe_mt0 pss_cut tCut)
set_option linter.unusedSimpArgs false
set_option pp.deepTerms false
set_option pp.deepTerms.threshold 12
set_option hygiene false
local macro_rules | `(tactic| fail "nd") => `(tactic| first | assumption | decide +kernel)
local macro_rules | `(tactic| fail "ix") => `(tactic| first | exact ⟨0, rfl⟩ | exact ⟨1, rfl⟩ | exact ⟨2, rfl⟩ | exact ⟨3, rfl⟩ | exact ⟨4, rfl⟩ | exact ⟨5, rfl⟩ | exact ⟨6, rfl⟩ | exact ⟨7, rfl⟩ | exact ⟨8, rfl⟩ | exact ⟨9, rfl⟩ | exact ⟨10, rfl⟩ | exact ⟨11, rfl⟩ | exact ⟨12, rfl⟩ | exact ⟨13, rfl⟩ | exact ⟨14, rfl⟩ | exact ⟨15, rfl⟩ | exact ⟨16, rfl⟩ | exact ⟨17, rfl⟩ | exact ⟨18, rfl⟩ | assumption)
local macro_rules | `(tactic| fail "up") => `(tactic| first | exact ⟨0, rfl, rfl⟩ | exact ⟨1, rfl, rfl⟩ | exact ⟨2, rfl, rfl⟩ | exact ⟨3, rfl, rfl⟩ | exact ⟨4, rfl, rfl⟩ | exact ⟨5, rfl, rfl⟩ | exact ⟨6, rfl, rfl⟩ | exact ⟨7, rfl, rfl⟩ | exact ⟨8, rfl, rfl⟩ | exact ⟨9, rfl, rfl⟩ | exact ⟨10, rfl, rfl⟩ | exact ⟨11, rfl, rfl⟩ | exact ⟨12, rfl, rfl⟩ | exact ⟨13, rfl, rfl⟩ | exact ⟨14, rfl, rfl⟩ | exact ⟨15, rfl, rfl⟩ | exact ⟨16, rfl, rfl⟩ | assumption)
local macro_rules | `(tactic| fail "lkF") => `(tactic| first | assumption | exact fz_at 0 (by fail "nd") rfl rfl | exact fz_at 1 (by fail "nd") rfl rfl | exact fz_at 2 (by fail "nd") rfl rfl | exact fz_at 3 (by fail "nd") rfl rfl | exact fz_at 4 (by fail "nd") rfl rfl | exact fz_at 5 (by fail "nd") rfl rfl | exact fz_at 6 (by fail "nd") rfl rfl | exact fz_at 7 (by fail "nd") rfl rfl)
local macro_rules | `(tactic| fail "lkD") => `(tactic| first | assumption | exact dz_at 0 (by fail "nd") rfl rfl | exact dz_at 1 (by fail "nd") rfl rfl | exact dz_at 2 (by fail "nd") rfl rfl | exact dz_at 3 (by fail "nd") rfl rfl | exact dz_at 4 (by fail "nd") rfl rfl)
local macro_rules | `(tactic| fail "ptF") => `(tactic| first | assumption | exact fz_put 0 (by fail "nd") rfl (Nat.le_of_ble_eq_true rfl) | exact fz_put 1 (by fail "nd") rfl (Nat.le_of_ble_eq_true rfl) | exact fz_put 2 (by fail "nd") rfl (Nat.le_of_ble_eq_true rfl) | exact fz_put 3 (by fail "nd") rfl (Nat.le_of_ble_eq_true rfl) | exact fz_put 4 (by fail "nd") rfl (Nat.le_of_ble_eq_true rfl) | exact fz_put 5 (by fail "nd") rfl (Nat.le_of_ble_eq_true rfl) | exact fz_put 6 (by fail "nd") rfl (Nat.le_of_ble_eq_true rfl) | exact fz_put 7 (by fail "nd") rfl (Nat.le_of_ble_eq_true rfl) | exact fz_new (by decide +kernel) rfl)
local macro_rules | `(tactic| fail "ptD") => `(tactic| first | assumption | exact dz_put 0 (by fail "nd") rfl (Nat.le_of_ble_eq_true rfl) | exact dz_put 1 (by fail "nd") rfl (Nat.le_of_ble_eq_true rfl) | exact dz_put 2 (by fail "nd") rfl (Nat.le_of_ble_eq_true rfl) | exact dz_put 3 (by fail "nd") rfl (Nat.le_of_ble_eq_true rfl) | exact dz_put 4 (by fail "nd") rfl (Nat.le_of_ble_eq_true rfl))
local macro_rules | `(tactic| fail "sz") => `(tactic| first | assumption | exact (Nat.le_of_ble_eq_true rfl) | omega | decide)
local macro_rules | `(tactic| fail "sd") => `(tactic| first | rfl | assumption | decide | omega | (dsimp only; first | decide | omega) | exact .inr ⟨by decide, by decide⟩ | exact .inl ⟨by decide, by decide⟩ | exact ⟨by omega, by omega⟩ | exact .inl ⟨by omega, by omega⟩ | exact .inr ⟨by omega, by omega⟩ | exact ⟨by omega, by omega, by omega⟩)
local macro_rules | `(tactic| fail "cl") => `(tactic| (clear hH; dsimp only [List.set, List.cons_append, List.nil_append, List.append] at hL))
local macro_rules | `(tactic| fail "gn") => `(tactic| (intro p hp; generalize hH : upd H p _ = H; replace hL := Led.newH hL hp hH; clear hH hp))
local macro_rules | `(tactic| fail "gup") => `(tactic| (generalize hH : upd H _ _ = H; replace hL := Led.upU hL (by fail "up") hH; fail "cl"))
local macro_rules | `(tactic| fail "gmk") => `(tactic| (intro x dx hx hd ne; generalize hH : upd (upd H dx _) x _ = H; replace hL := Led.made hL hx hd ne hH; clear hH hx hd ne))
local macro_rules | `(tactic| fail "v") => `(tactic| refine ⟨_, rfl, ?_⟩)
local macro_rules | `(tactic| fail "i2") => `(tactic| refine ⟨_, _, rfl, rfl, ?_⟩)
local macro_rules | `(tactic| fail "go1") => `(tactic| first
  | refine ⟨_, rfl, ?_⟩
  | refine ⟨_, _, rfl, rfl, ?_⟩
  | refine ⟨_, _, rfl, ?_⟩
  | refine iteT ?_
  | refine iteF ?_
  | refine k_fld hL (by fail "ix") (by assumption) (by assumption) (by fail "lkF") ?_
  | refine k_dgetS hL (by fail "ix") (by fail "lkD") ?_
  | refine k_dgetI hL (by fail "ix") (by assumption) ?_
  | refine k_ixL hL (by fail "ix") (by first | rfl | assumption) ?_
  | refine k_ixT hL (by fail "ix") (by first | rfl | assumption) ?_
  | refine k_tyL hL (by fail "ix") ?_
  | refine k_isd hL (by fail "ix") ?_
  | (refine And.intro (by fail "sz") ?_; fail "gn")
  | refine And.intro (by fail "sd") ?_
  | fail "gn"
  | refine k_meth hL (by fail "ix") (by first | assumption | exact fz_no (by decide +kernel)) ?_
  | refine k_gtup hL (by fail "ix") rfl ?_
  | (refine k_popI hL (by fail "ix") (by assumption) ?_; fail "gup")
  | (refine k_listD hL (by fail "ix") ?_; fail "gn")
  | (refine ⟨_, _, _, _, rfl, rfl, hL.at (by fail "ix"), rfl, ?_⟩; fail "gup")
  | (refine ⟨_, _, _, rfl, rfl, hL.at (by fail "ix"), (by fail "sz"), ?_⟩; fail "gup")
  | (refine ⟨_, _, _, _, rfl, hL.at (by fail "ix"), by assumption, by assumption, Nat.lt_of_le_of_lt fz_len (by decide), ?_⟩; generalize hH : upd H _ _ = H; replace hL := Led.upF hL (by fail "up") (by fail "ptF") hH; fail "cl")
  | (refine ⟨_, _, hL.at (by fail "ix"), Nat.lt_of_le_of_lt fz_len (by decide), ?_⟩; generalize hH : upd H _ _ = H; replace hL := Led.upF hL (by fail "up") (by fail "ptF") hH; fail "cl")
  | (refine k_dputS hL (by fail "ix") (Nat.lt_of_le_of_lt dz_len (by decide)) (by fail "ptD") (by fail "up") ?_; clear hL; intro H hL; dsimp only [List.set, List.cons_append, List.nil_append, List.append] at hL)
  | refine k_lenL2 hL (by fail "ix") ?_
  | refine k_lenT2 hL (by fail "ix") ?_
  | refine .inl ⟨_, rfl, ?_⟩
  | refine .inr ⟨_, rfl, ?_⟩)
local macro_rules | `(tactic| fail "go") => `(tactic| repeat fail "go1")
local macro_rules | `(tactic| fail "pm") => `(tactic| (refine Led.le hL (fun a_ => ?_); simp only [cnt_nil, cnt_cons, cnt_app, List.map_append, List.map_cons, List.map_nil, List.flatMap_append, List.flatMap_cons, List.flatMap_nil, List.append_assoc, List.cons_append, List.nil_append]; omega))

structure Tn where
  a : Addr
  d : Addr
  od : Addr
  ml : Addr
  al : Addr
  pn : Addr
  ds : Addr
  md : Addr
  pl : Addr
  ld : Addr
  fd : Addr
  xd : Addr
structure Rws where
  mrs : List (Addr × MRow)
  prs : List (Addr × PRow)
  ms : List MaE
  ps : List PaE
  os : List TupE
  ts : List TupE
  l : LT
  g : Gf
/-- the plan before -/
structure OldOk (os : List TupE) : Prop where
  nd : (os.map (·.1)).Nodup
  sub : ∀ k ∈ os.map (·.1), k ∈ pAll
  rows : ∀ k, (oldOf (plF os) k).Nodup ∧ (oldOf (plF os) k).length ≤ 4
structure TI (r : Rws) : Prop where
  dm : DrM (r.mrs.map (·.2)) mAll
  dp : DrP (r.prs.map (·.2)) pAll
  hm : plM r.ms = r.mrs.map (·.2)
  hp : plA r.ps = r.prs.map (·.2)
  f : planP (plM r.ms) (plA r.ps) (plF r.os) = ⟨r.g, plF r.ts, r.l⟩
  ok : OldOk r.os
section
variable {r : Rws}
theorem TI.psok (h : TI r) : PsOk (plA r.ps) := by
  rw [h.hp]
  exact ⟨pAll_nd.sublist h.dp.sub, h.dp.w, fun p hp => ⟨(h.dp.c p hp).1, by have := (h.dp.c p hp).2; omega⟩⟩
theorem TI.mnd (h : TI r) : ((plM r.ms).map (·.1)).Nodup := by rw [h.hm]; exact mAll_nd.sublist h.dm.sub
theorem TI.ms (h : TI r) : sortedS ((plM r.ms).map (·.1)) = true := by rw [h.hm]; exact sub_sorted h.dm.sub mAll_s
theorem TI.mz (h : TI r) : r.ms.length < 60 := by
  have h1 := h.dm.sub.length_le
  rw [← h.hm, List.length_map] at h1
  unfold plM at h1
  rw [List.length_map] at h1
  exact Nat.lt_of_le_of_lt h1 (by decide)
theorem TI.pz (h : TI r) : r.ps.length ≤ 8 := by
  have h1 := h.dp.sub.length_le
  rw [← h.hp, List.length_map, plA_len] at h1
  exact Nat.le_trans h1 (by decide)
theorem TI.r0 (h : TI r) : ∀ n ∈ (plM r.ms).map (·.1), 0 ≤ rf (plM r.ms) n := fun n hn => by
  obtain ⟨m, hm, rfl⟩ := List.mem_map.mp hn
  unfold rf
  rw [mem_aget h.mnd (k := m.1) (v := m.2) hm]
  rw [h.hm] at hm
  exact h.dm.r m hm
theorem TI.mr (h : TI r) : ∀ m ∈ r.ms, 0 ≤ m.2.r := fun m hm => by
  have := h.dm.r (m.1, m.2.z, m.2.r) (by rw [← h.hm]; exact List.mem_map.mpr ⟨m, hm, rfl⟩)
  exact this
theorem TI.fi (h : TI r) : FI ((plM r.ms).map (·.1)) (zf (plM r.ms)) (plA r.ps) (rf (plM r.ms)) (plA r.ps) ⟨r.g, plF r.ts, r.l⟩ := by
  rw [← h.f]
  exact plan_ok h.psok h.ms h.r0
theorem TI.again (h : TI r) : planP (plM r.ms) (plA r.ps) (plF r.ts) = ⟨r.g, plF r.ts, r.l⟩ := plan_again h.psok h.ms h.fi
theorem TI.tnames (h : TI r) : r.ts.map (·.1) = (plA r.ps).map (·.1) := by rw [← plF_ns]; exact h.fi.nm
theorem TI.tnd (h : TI r) : (r.ts.map (·.1)).Nodup := by rw [h.tnames]; exact h.psok.nd
theorem nd_of_map {α β : Type} {f : α → β} : ∀ {l : List α}, (l.map f).Nodup → l.Nodup
  | [], _ => List.nodup_nil
  | x :: l, h => by
    rw [List.map_cons] at h
    obtain ⟨h1, h2⟩ := List.nodup_cons.mp h
    exact List.nodup_cons.mpr ⟨fun m => h1 (List.mem_map.mpr ⟨x, m, rfl⟩), nd_of_map h2⟩
theorem TI.ct (h : TI r) {k : Str} : ctP (plA r.ps) k ≤ 4 := by
  unfold ctP
  cases e : aget (plA r.ps) k with
  | none => exact (by decide : (0 : Int) ≤ 4)
  | some v =>
    have := aget_mem e
    rw [h.hp] at this
    exact (h.dp.c _ this).2
theorem TI.new (h : TI r) : OldOk r.ts := by
  refine ⟨h.tnd, fun k hk => ?_, fun k => ?_⟩
  · rw [h.tnames, h.hp] at hk
    exact h.dp.sub.subset hk
  · unfold oldOf
    cases e : aget (plF r.ts) k with
    | none => exact ⟨List.nodup_nil, Nat.zero_le _⟩
    | some v =>
      have hm := aget_mem e
      refine ⟨nd_of_map (h.fi.ai.nd _ hm), ?_⟩
      have h1 := h.fi.ai.len _ hm
      have h2 := h.ct (k := k)
      dsimp only at h1
      show v.length ≤ 4
      omega
theorem TI.lnd (h : TI r) : (r.l.map (·.1)).Nodup := by
  have := h.fi.l
  dsimp only at this
  rw [this]
  exact h.psok.nd.sublist lacks_nd
end
def ShT (T : Tn) (σ : L2.St) : Prop := ∃ (v3 v7 v10 v11 v12 v13 v14 v15 v16 v17 v18 v19 v20 v21 : Option V), σ = [some (.ref T.a), some (.ref T.d), some (.ref T.od), v3, some (.ref T.ml), some (.ref T.al), some (.ref T.pn), v7, some (.ref T.fd), some (.ref T.xd), v10, v11, v12, v13, v14, v15, v16, v17, v18, v19, v20, v21]
def TLg (CM CA CP : Addr) (T : Tn) (r : Rws) (x y z : Int) (R : Lg) : Lg := (T.fd, .dK (r.ts.map (kk tV))) :: (T.xd, .dK (r.l.map (kk lxV))) :: (T.od, .dK (r.os.map (kk tV))) :: (T.ml, .lst (r.mrs.map mrV)) :: (T.al, .lst (r.prs.map paV)) ::
  (T.pn, .ins CP T.ds (fz nmP [.ref T.md, .ref T.pl, .ref T.ld])) :: (T.md, .dK (r.ms.map (kk mV))) :: (T.ld, .dK (lfK (r.ms.map (·.1)) r.g)) :: (T.pl, .lst (r.ps.map pV)) :: (T.d, dD x y z) ::
  (r.ms.map (mO CM) ++ (r.ps.map (pO CA) ++ (r.mrs.map mrO ++ (r.prs.map paO ++ (r.os.map tupO ++ (r.ts.map tupO ++ R))))))
section
variable {K : PySem.W.Frag} {H : Hp}
theorem ew_tups {ts us : List TupE} (he : plF us = plF ts) (nd : (us.map (·.1)).Nodup) {a b : Addr} (h1 : H a = some (.dK (ts.map (kk tV)))) (h2 : H b = some (.dK (us.map (kk tV)))) (m1 : ∀ e ∈ ts, H e.2.1 = some (.tup (e.2.2.map .str))) (m2 : ∀ e ∈ us, H e.2.1 = some (.tup (e.2.2.map .str))) : Ew K H 3 (.ref a) (.ref b) := by
  have hl : ts.length = us.length := by rw [← plF_len, ← he, plF_len]
  refine ew_dct h1 h2 (by rw [List.length_map, List.length_map, hl]) fun p hp => ?_
  obtain ⟨e, hm, rfl⟩ := List.mem_map.mp hp
  have h3 : (e.1, e.2.2) ∈ plF us := by rw [he]; exact List.mem_map.mpr ⟨e, hm, rfl⟩
  obtain ⟨u, hu, h4⟩ := List.mem_map.mp h3
  obtain ⟨h5, h6⟩ := Prod.mk.inj h4
  refine ⟨.ref u.2.1, ?_, ?_⟩
  · show valV _ (Sum.inr e.1) = _
    rw [tv_val, ← h5, mem_aget nd (k := u.1) (v := u.2) hu]; rfl
  · refine ew_tup (m1 e hm) (by rw [m2 u hu, h6]) (ew_flats fun x hx => ?_)
    obtain ⟨y, _, rfl⟩ := List.mem_map.mp hx
    rfl
theorem ew_lacks {l : LT} (nd : (l.map (·.1)).Nodup) {a b : Addr} (h1 : H a = some (.dK (l.map (kk lxV)))) (h2 : H b = some (.dK (l.map (kk lxV)))) : Ew K H 3 (.ref a) (.ref b) := by
  refine ew_dct h1 h2 rfl fun p hp => ?_
  obtain ⟨e, hm, rfl⟩ := List.mem_map.mp hp
  refine ⟨.int e.2, ?_, ew_flat rfl⟩
  show valV _ (Sum.inr e.1) = _
  rw [kk_val, mem_aget nd (k := e.1) (v := e.2) hm]; rfl
end
/-- the plan is the law's, and stays when it is made anew -/
def tS3 (CM CA CP : Addr) : TS := fun D σ H => ∃ (T : Tn) (r : Rws) (x y z : Int) (R : Lg), ShT T σ ∧ TI r ∧ Led H (TLg CM CA CP T r x y z R) ∧ ∀ (ld : Addr) σ' H', ShT { T with ld := ld } σ' → Led H' (TLg CM CA CP { T with ld := ld } r x y z R) → D.nx σ' H'
section
variable {P : Program} {w : World} {K : PySem.W.Frag} {mg : Str → Option Value} {base : Heap} {CM CA CP : Addr} {f : Addr} {cdv : Value} {A : Around} {outer : List Env} {s0 : Shared} {H0 : Hp} {E : XK}
theorem st_s3 (hr : Room 8 (LX P w K mg base f cdv A outer s0 H0 E).A) (c_Planner_plan : Met P w K mg base 3 CP "plan" (spPlan CM CA CP) []) (c__law_plan : Cal P w K mg base 3 "_law_plan" spLPlan []) :
    PS (LX P w K mg base f cdv A outer s0 H0 E) (nth bodyT 3) (tS3 CM CA CP) := by
  refine ps_imp (t := _) (ps_if (PW.pt (pw_or (pt_cmpR (op_neW hr.units) (pe_tup (pa_cons (pv 8) (pa_cons (pv 9) pa_nil))) (pe_c c__law_plan hr (by decide) (by rfl) (pa_cons (pv 4) (pa_cons (pv 5) (pa_cons (pv 2) pa_nil)))) (nomark _)) (pw_or1 (pt_cmpR (op_neW hr.units) (pe_mt c_Planner_plan hr (by decide) (pv 6) (pa_cons (pv 8) pa_nil)) (pe_tup (pa_cons (pv 8) (pa_cons (pv 9) pa_nil))) (nomark _)))))
  (pss_one (ps_ret pe_bl))
  pss_nil) ?_
  rintro D σ H ⟨T, r, x, y, z, R, ⟨v3, v7, v10, v11, v12, v13, v14, v15, v16, v17, v18, v19, v20, v21, rfl⟩, ti, hL, k⟩
  have hL0 := hL
  dsimp only [TLg] at hL
  fail "go"
  have hmm : ∀ m ∈ plM r.ms, 0 ≤ m.2.2 := fun m hm => by rw [ti.hm] at hm; exact ti.dm.r m hm
  have hml : (plM r.ms).length < 60 := by unfold plM; rw [List.length_map]; exact ti.mz
  have hal : (plA r.ps).length < 60 := by rw [plA_len]; have := ti.pz; omega
  refine ⟨T.ml, T.al, T.od, r.mrs, r.prs, r.os, plM r.ms, plA r.ps, (p, .tup [.ref T.fd, .ref T.xd]) :: (T.fd, .dK (r.ts.map (kk tV))) :: (T.xd, .dK (r.l.map (kk lxV))) :: (T.pn, .ins CP T.ds (fz nmP [.ref T.md, .ref T.pl, .ref T.ld])) :: (T.md, .dK (r.ms.map (kk mV))) :: (T.ld, .dK (lfK (r.ms.map (·.1)) r.g)) :: (T.pl, .lst (r.ps.map pV)) :: (T.d, dD x y z) ::
    (r.ms.map (mO CM) ++ (r.ps.map (pO CA) ++ (r.ts.map tupO ++ R))), rfl, ti.hm.symm, ti.hp.symm, by unfold LQ; (refine Led.le hL (fun a_ => ?_); simp only [cnt_nil, cnt_cons, cnt_app, List.map_append, List.map_cons, List.map_nil, List.flatMap_append, List.flatMap_cons, List.flatMap_nil, List.append_assoc, List.cons_append, List.nil_append]; omega), ti.mnd, ti.ms, hml, hmm, ti.psok, hal, fun t fd1 xd1 ts1 H hts hL => ?_⟩
  rw [ti.f] at hts hL
  dsimp only at hts hL
  have hnt1 : (ts1.map (·.1)).Nodup := by rw [← plF_ns, hts, plF_ns]; exact ti.tnd
  replace hL : Led H ((t, .tup [.ref fd1, .ref xd1]) :: (fd1, .dK (ts1.map (kk tV))) :: (xd1, .dK (r.l.map (kk lxV))) :: (p, .tup [.ref T.fd, .ref T.xd]) :: (ts1.map tupO ++ TLg CM CA CP T r x y z R)) := by
    unfold LQ at hL
    unfold TLg
    (refine Led.le hL (fun a_ => ?_); simp only [cnt_nil, cnt_cons, cnt_app, List.map_append, List.map_cons, List.map_nil, List.flatMap_append, List.flatMap_cons, List.flatMap_nil, List.append_assoc, List.cons_append, List.nil_append]; omega)
  have q1 : H p = some (.tup [.ref T.fd, .ref T.xd]) := hL.at ⟨3, rfl⟩
  have q2 : H T.fd = some (.dK (r.ts.map (kk tV))) := hL.mem (.tail _ (.tail _ (.tail _ (.tail _ (List.mem_append_right _ (.head _))))))
  have q3 : H T.xd = some (.dK (r.l.map (kk lxV))) := hL.mem (.tail _ (.tail _ (.tail _ (.tail _ (List.mem_append_right _ (.tail _ (.head _)))))))
  have q4 : ∀ e ∈ r.ts, H e.2.1 = some (.tup (e.2.2.map .str)) := fun e he => hL.mem (.tail _ (.tail _ (.tail _ (.tail _ (List.mem_append_right _ (.tail _ (.tail _ (.tail _ (.tail _ (.tail _ (.tail _ (.tail _ (.tail _ (.tail _ (.tail _ (List.mem_append_right _ (List.mem_append_right _ (List.mem_append_right _ (List.mem_append_right _ (List.mem_append_right _ (List.mem_append_left _ (List.mem_map.mpr ⟨e, he, rfl⟩))))))))))))))))))))))
  have q5 : ∀ e ∈ ts1, H e.2.1 = some (.tup (e.2.2.map .str)) := fun e he => hL.mem (.tail _ (.tail _ (.tail _ (.tail _ (List.mem_append_left _ (List.mem_map.mpr ⟨e, he, rfl⟩))))))
  refine k_neW 3 (by decide) q1 (hL.at ⟨0, rfl⟩) (.cons (ew_tups hts hnt1 q2 (hL.at ⟨1, rfl⟩) q4 q5) (.cons (ew_lacks ti.lnd q3 (hL.at ⟨2, rfl⟩)) .nil)) ?_
  clear q1 q2 q3 q4 q5
  replace hL : Led H (TLg CM CA CP T r x y z R) := by (refine Led.le hL (fun a_ => ?_); simp only [cnt_nil, cnt_cons, cnt_app, List.map_append, List.map_cons, List.map_nil, List.flatMap_append, List.flatMap_cons, List.flatMap_nil, List.append_assoc, List.cons_append, List.nil_append]; omega)
  clear hts hnt1
  dsimp only [TLg] at hL
  fail "go"
  refine ⟨T.pn, T.ds, T.md, T.pl, T.ld, T.fd, r.ms, r.ps, r.ts, r.g, (T.xd, .dK (r.l.map (kk lxV))) :: (T.od, .dK (r.os.map (kk tV))) :: (T.ml, .lst (r.mrs.map mrV)) :: (T.al, .lst (r.prs.map paV)) :: (T.d, dD x y z) :: (r.mrs.map mrO ++ (r.prs.map paO ++ (r.os.map tupO ++ R))), rfl, by unfold PL; (refine Led.le hL (fun a_ => ?_); simp only [cnt_nil, cnt_cons, cnt_app, List.map_append, List.map_cons, List.map_nil, List.flatMap_append, List.flatMap_cons, List.flatMap_nil, List.append_assoc, List.cons_append, List.nil_append]; omega), by rw [← plM_ns]; exact ti.mnd, by rw [← plM_ns]; exact ti.ms, ti.mz, ti.mr, ti.psok, by have := ti.pz; omega, ti.tnd, fun t fd1 xd1 ld1 ts1 H hts hL => ?_⟩
  rw [ti.again] at hts hL
  dsimp only at hts hL
  have hnt1 : (ts1.map (·.1)).Nodup := by rw [← plF_ns, hts, plF_ns]; exact ti.tnd
  replace hL : Led H ((t, .tup [.ref fd1, .ref xd1]) :: (fd1, .dK (ts1.map (kk tV))) :: (xd1, .dK (r.l.map (kk lxV))) :: (ts1.map tupO ++ TLg CM CA CP { T with ld := ld1 } r x y z R)) := by
    unfold PL at hL
    unfold TLg
    (refine Led.le hL (fun a_ => ?_); simp only [cnt_nil, cnt_cons, cnt_app, List.map_append, List.map_cons, List.map_nil, List.flatMap_append, List.flatMap_cons, List.flatMap_nil, List.append_assoc, List.cons_append, List.nil_append]; omega)
  fail "go"
  have q2 : H T.fd = some (.dK (r.ts.map (kk tV))) := hL.mem (.tail _ (.tail _ (.tail _ (.tail _ (List.mem_append_right _ (.head _))))))
  have q3 : H T.xd = some (.dK (r.l.map (kk lxV))) := hL.mem (.tail _ (.tail _ (.tail _ (.tail _ (List.mem_append_right _ (.tail _ (.head _)))))))
  have q4 : ∀ e ∈ r.ts, H e.2.1 = some (.tup (e.2.2.map .str)) := fun e he => hL.mem (.tail _ (.tail _ (.tail _ (.tail _ (List.mem_append_right _ (.tail _ (.tail _ (.tail _ (.tail _ (.tail _ (.tail _ (.tail _ (.tail _ (.tail _ (.tail _ (List.mem_append_right _ (List.mem_append_right _ (List.mem_append_right _ (List.mem_append_right _ (List.mem_append_right _ (List.mem_append_left _ (List.mem_map.mpr ⟨e, he, rfl⟩))))))))))))))))))))))
  have q5 : ∀ e ∈ ts1, H e.2.1 = some (.tup (e.2.2.map .str)) := fun e he => hL.mem (.tail _ (.tail _ (.tail _ (.tail _ (List.mem_append_left _ (List.mem_map.mpr ⟨e, he, rfl⟩))))))
  refine k_neW 3 (by decide) (hL.at ⟨1, rfl⟩) (hL.at ⟨0, rfl⟩) (.cons (ew_tups hts.symm ti.tnd (hL.at ⟨2, rfl⟩) q2 q5 q4) (.cons (ew_lacks ti.lnd (hL.at ⟨3, rfl⟩) q3) .nil)) ?_
  clear q2 q3 q4 q5
  fail "go"
  refine k ld1 _ _ ⟨_, _, _, _, _, _, _, _, _, _, _, _, _, _, rfl⟩ ?_
  (refine Led.le hL (fun a_ => ?_); simp only [cnt_nil, cnt_cons, cnt_app, List.map_append, List.map_cons, List.map_nil, List.flatMap_append, List.flatMap_cons, List.flatMap_nil, List.append_assoc, List.cons_append, List.nil_append]; omega)
end
end Sd


set_option linter.unusedVariables false
namespace Sd
open PySem L2
open PyProof.Rows (sortedS)
open C8 (Cal Met Mak pe_c pe_mk pe_mt pe_mt0 pss_cut tCut)
set_option linter.unusedSimpArgs false
set_option pp.deepTerms false
set_option pp.deepTerms.threshold 12
set_option hygiene false
local macro_rules | `(tactic| fail "nd") => `(tactic| first | assumption | decide +kernel)
local macro_rules | `(tactic| fail "ix") => `(tactic| first | exact ⟨0, rfl⟩ | exact ⟨1, rfl⟩ | exact ⟨2, rfl⟩ | exact ⟨3, rfl⟩ | exact ⟨4, rfl⟩ | exact ⟨5, rfl⟩ | exact ⟨6, rfl⟩ | exact ⟨7, rfl⟩ | exact ⟨8, rfl⟩ | exact ⟨9, rfl⟩ | exact ⟨10, rfl⟩ | exact ⟨11, rfl⟩ | exact ⟨12, rfl⟩ | exact ⟨13, rfl⟩ | exact ⟨14, rfl⟩ | exact ⟨15, rfl⟩ | exact ⟨16, rfl⟩ | exact ⟨17, rfl⟩ | exact ⟨18, rfl⟩ | assumption)
local macro_rules | `(tactic| fail "up") => `(tactic| first | exact ⟨0, rfl, rfl⟩ | exact ⟨1, rfl, rfl⟩ | exact ⟨2, rfl, rfl⟩ | exact ⟨3, rfl, rfl⟩ | exact ⟨4, rfl, rfl⟩ | exact ⟨5, rfl, rfl⟩ | exact ⟨6, rfl, rfl⟩ | exact ⟨7, rfl, rfl⟩ | exact ⟨8, rfl, rfl⟩ | exact ⟨9, rfl, rfl⟩ | exact ⟨10, rfl, rfl⟩ | exact ⟨11, rfl, rfl⟩ | exact ⟨12, rfl, rfl⟩ | exact ⟨13, rfl, rfl⟩ | exact ⟨14, rfl, rfl⟩ | exact ⟨15, rfl, rfl⟩ | exact ⟨16, rfl, rfl⟩ | assumption)
local macro_rules | `(tactic| fail "lkF") => `(tactic| first | assumption | exact fz_at 0 (by fail "nd") rfl rfl | exact fz_at 1 (by fail "nd") rfl rfl | exact fz_at 2 (by fail "nd") rfl rfl | exact fz_at 3 (by fail "nd") rfl rfl | exact fz_at 4 (by fail "nd") rfl rfl | exact fz_at 5 (by fail "nd") rfl rfl | exact fz_at 6 (by fail "nd") rfl rfl | exact fz_at 7 (by fail "nd") rfl rfl)
local macro_rules | `(tactic| fail "lkD") => `(tactic| first | assumption | exact dz_at 0 (by fail "nd") rfl rfl | exact dz_at 1 (by fail "nd") rfl rfl | exact dz_at 2 (by fail "nd") rfl rfl | exact dz_at 3 (by fail "nd") rfl rfl | exact dz_at 4 (by fail "nd") rfl rfl)
local macro_rules | `(tactic| fail "ptF") => `(tactic| first | assumption | exact fz_put 0 (by fail "nd") rfl (Nat.le_of_ble_eq_true rfl) | exact fz_put 1 (by fail "nd") rfl (Nat.le_of_ble_eq_true rfl) | exact fz_put 2 (by fail "nd") rfl (Nat.le_of_ble_eq_true rfl) | exact fz_put 3 (by fail "nd") rfl (Nat.le_of_ble_eq_true rfl) | exact fz_put 4 (by fail "nd") rfl (Nat.le_of_ble_eq_true rfl) | exact fz_put 5 (by fail "nd") rfl (Nat.le_of_ble_eq_true rfl) | exact fz_put 6 (by fail "nd") rfl (Nat.le_of_ble_eq_true rfl) | exact fz_put 7 (by fail "nd") rfl (Nat.le_of_ble_eq_true rfl) | exact fz_new (by decide +kernel) rfl)
local macro_rules | `(tactic| fail "ptD") => `(tactic| first | assumption | exact dz_put 0 (by fail "nd") rfl (Nat.le_of_ble_eq_true rfl) | exact dz_put 1 (by fail "nd") rfl (Nat.le_of_ble_eq_true rfl) | exact dz_put 2 (by fail "nd") rfl (Nat.le_of_ble_eq_true rfl) | exact dz_put 3 (by fail "nd") rfl (Nat.le_of_ble_eq_true rfl) | exact dz_put 4 (by fail "nd") rfl (Nat.le_of_ble_eq_true rfl))
local macro_rules | `(tactic| fail "sz") => `(tactic| first | assumption | exact (Nat.le_of_ble_eq_true rfl) | omega | decide)
local macro_rules | `(tactic| fail "sd") => `(tactic| first | rfl | assumption | decide | omega | (dsimp only; first | decide | omega) | exact .inr ⟨by decide, by decide⟩ | exact .inl ⟨by decide, by decide⟩ | exact ⟨by omega, by omega⟩ | exact .inl ⟨by omega, by omega⟩ | exact .inr ⟨by omega, by omega⟩ | exact ⟨by omega, by omega, by omega⟩)
local macro_rules | `(tactic| fail "cl") => `(tactic| (clear hH; dsimp only [List.set, List.cons_append, List.nil_append, List.append] at hL))
local macro_rules | `(tactic| fail "gn") => `(tactic| (intro p hp; generalize hH : upd H p _ = H; replace hL := Led.newH hL hp hH; clear hH hp))
local macro_rules | `(tactic| fail "gup") => `(tactic| (generalize hH : upd H _ _ = H; replace hL := Led.upU hL (by fail "up") hH; fail "cl"))
local macro_rules | `(tactic| fail "gmk") => `(tactic| (intro x dx hx hd ne; generalize hH : upd (upd H dx _) x _ = H; replace hL := Led.made hL hx hd ne hH; clear hH hx hd ne))
local macro_rules | `(tactic| fail "v") => `(tactic| refine ⟨_, rfl, ?_⟩)
local macro_rules | `(tactic| fail "i2") => `(tactic| refine ⟨_, _, rfl, rfl, ?_⟩)
local macro_rules | `(tactic| fail "go1") => `(tactic| first
  | refine ⟨_, rfl, ?_⟩
  | refine ⟨_, _, rfl, rfl, ?_⟩
  | refine ⟨_, _, rfl, ?_⟩
  | refine iteT ?_
  | refine iteF ?_
  | refine k_fld hL (by fail "ix") (by assumption) (by assumption) (by fail "lkF") ?_
  | refine k_dgetS hL (by fail "ix") (by fail "lkD") ?_
  | refine k_dgetI hL (by fail "ix") (by assumption) ?_
  | refine k_ixL hL (by fail "ix") (by first | rfl | assumption) ?_
  | refine k_ixT hL (by fail "ix") (by first | rfl | assumption) ?_
  | refine k_tyL hL (by fail "ix") ?_
  | refine k_isd hL (by fail "ix") ?_
  | (refine And.intro (by fail "sz") ?_; fail "gn")
  | refine And.intro (by fail "sd") ?_
  | fail "gn"
  | refine k_meth hL (by fail "ix") (by first | assumption | exact fz_no (by decide +kernel)) ?_
  | refine k_gtup hL (by fail "ix") rfl ?_
  | (refine k_popI hL (by fail "ix") (by assumption) ?_; fail "gup")
  | (refine k_listD hL (by fail "ix") ?_; fail "gn")
  | (refine ⟨_, _, _, _, rfl, rfl, hL.at (by fail "ix"), rfl, ?_⟩; fail "gup")
  | (refine ⟨_, _, _, rfl, rfl, hL.at (by fail "ix"), (by fail "sz"), ?_⟩; fail "gup")
  | (refine ⟨_, _, _, _, rfl, hL.at (by fail "ix"), by assumption, by assumption, Nat.lt_of_le_of_lt fz_len (by decide), ?_⟩; generalize hH : upd H _ _ = H; replace hL := Led.upF hL (by fail "up") (by fail "ptF") hH; fail "cl")
  | (refine ⟨_, _, hL.at (by fail "ix"), Nat.lt_of_le_of_lt fz_len (by decide), ?_⟩; generalize hH : upd H _ _ = H; replace hL := Led.upF hL (by fail "up") (by fail "ptF") hH; fail "cl")
  | (refine k_dputS hL (by fail "ix") (Nat.lt_of_le_of_lt dz_len (by decide)) (by fail "ptD") (by fail "up") ?_; clear hL; intro H hL; dsimp only [List.set, List.cons_append, List.nil_append, List.append] at hL)
  | refine k_lenL2 hL (by fail "ix") ?_
  | refine k_lenT2 hL (by fail "ix") ?_
  | refine .inl ⟨_, rfl, ?_⟩
  | refine .inr ⟨_, rfl, ?_⟩)
local macro_rules | `(tactic| fail "go") => `(tactic| repeat fail "go1")
local macro_rules | `(tactic| fail "pm") => `(tactic| (refine Led.le hL (fun a_ => ?_); simp only [cnt_nil, cnt_cons, cnt_app, List.map_append, List.map_cons, List.map_nil, List.flatMap_append, List.flatMap_cons, List.flatMap_nil, List.append_assoc, List.cons_append, List.nil_append]; omega))

def subR (g : Gf) (rows : List Str) (w : Int) : Gf := rows.foldl (fun g n => subG g n w) g
def subP (f : FT) (g : Gf) (ps : List PRow) : Gf := ps.foldl (fun g p => subR g (oldOf f p.1) p.2.1) g
theorem subR_at {w : Int} {n : Str} : ∀ (rows : List Str) (g : Gf), subR g rows w n = g n - w * (rows.count n : Int)
  | [], g => by simp [subR]
  | m :: rows, g => by
    show subR (subG g m w) rows w n = _
    rw [subR_at rows]
    by_cases e : n = m
    · subst e
      rw [subG_self, List.count_cons_self]
      push_cast
      rw [Int.mul_add, Int.mul_one]
      omega
    · rw [subG_ne e, List.count_cons_of_ne (fun z => e z.symm)]
theorem subP_at {f : FT} {wt : Str → Int} {n : Str} : ∀ (ps : List PRow) (f' : FT) (g : Gf), f'.map (·.1) = ps.map (·.1) → (∀ e ∈ f', oldOf f e.1 = e.2) → (∀ p ∈ ps, wt p.1 = p.2.1) → subP f g ps n = g n - sumF wt f' n
  | [], [], g, _, _, _ => by simp [subP, sumF]
  | [], _ :: _, _, h, _, _ => by simp at h
  | _ :: _, [], _, h, _, _ => by simp at h
  | p :: ps, (k, rows) :: f', g, h, ho, hw => by
    rw [List.map_cons, List.map_cons, List.cons.injEq] at h
    obtain ⟨h1, h2⟩ := h
    dsimp only at h1
    subst h1
    show subP f (subR g (oldOf f p.1) p.2.1) ps n = _
    rw [subP_at ps f' _ h2 (fun e he => ho e (.tail _ he)) fun q hq => hw q (.tail _ hq), subR_at, sumF]
    have := ho _ (.head _)
    dsimp only at this ⊢
    rw [this, hw p (.head _)]
    omega
theorem TI.left {r : Rws} (h : TI r) : subP (plF r.ts) (rf (plM r.ms)) (plA r.ps) = r.g := by
  funext n
  rw [subP_at (wt := wtP (plA r.ps)) (plA r.ps) (plF r.ts) _ h.fi.nm (fun e he => ?_) fun p hp => h.psok.wt hp]
  · have := h.fi.ai.tot n
    dsimp only at this
    omega
  · unfold oldOf
    rw [mem_aget (by rw [plF_ns]; exact h.tnd) (k := e.1) (v := e.2) he]
    rfl
theorem TI.lk {r : Rws} (h : TI r) {p : PRow} (hp : p ∈ plA r.ps) : ((oldOf (plF r.ts) p.1).length : Int) + (aget r.l p.1).getD 0 = p.2.2 := by
  have hl := h.fi.l
  dsimp only at hl
  have hle : ((oldOf (plF r.ts) p.1).length : Int) ≤ p.2.2 := by
    have hm : p.1 ∈ (plF r.ts).map (·.1) := by rw [h.fi.nm]; exact List.mem_map.mpr ⟨p, hp, rfl⟩
    obtain ⟨v, hv⟩ := aget_in hm
    have := h.fi.ai.len _ (aget_mem hv)
    rw [h.psok.ct hp] at this
    unfold oldOf
    rw [hv]
    exact this
  by_cases q : ((oldOf (plF r.ts) p.1).length : Int) < p.2.2
  · have hm : (p.1, p.2.2 - ((oldOf (plF r.ts) p.1).length : Int)) ∈ r.l := by
      rw [hl]
      refine List.mem_filterMap.mpr ⟨p, hp, ?_⟩
      simp only [q, if_true]
    rw [mem_aget h.lnd hm]
    show _ + (p.2.2 - _) = _
    omega
  · have hn : p.1 ∉ r.l.map (·.1) := fun hm => by
      obtain ⟨x, hx, hx1⟩ := List.mem_map.mp hm
      rw [hl] at hx
      obtain ⟨p', hp', e⟩ := List.mem_filterMap.mp hx
      by_cases q' : ((oldOf (plF r.ts) p'.1).length : Int) < p'.2.2
      · simp only [q', if_true] at e
        cases e
        have h1 := mem_aget h.psok.nd (k := p.1) (v := p.2) hp
        have h2 := mem_aget h.psok.nd (k := p'.1) (v := p'.2) hp'
        dsimp only at hx1
        rw [hx1, h1] at h2
        have := Option.some.inj h2
        rw [hx1, ← this] at q'
        exact q q'
      · simp only [q', if_false] at e
        cases e
    rw [aget_none hn]
    show _ + (0 : Int) = _
    omega
def ShZ (T : Tn) (zd lf : Addr) (σ : L2.St) : Prop := ∃ (v3 v7 v12 v13 v14 v15 v16 v17 v18 v19 v20 v21 : Option V), σ = [some (.ref T.a), some (.ref T.d), some (.ref T.od), v3, some (.ref T.ml), some (.ref T.al), some (.ref T.pn), v7, some (.ref T.fd), some (.ref T.xd), some (.ref zd), some (.ref lf), v12, v13, v14, v15, v16, v17, v18, v19, v20, v21]
/-- zones, left = .. -/
def tS4 (CM CA CP : Addr) : TS := fun D σ H => ∃ (T : Tn) (r : Rws) (x y z : Int) (R : Lg), ShT T σ ∧ TI r ∧ Led H (TLg CM CA CP T r x y z R) ∧ ∀ (zd lf : Addr) σ' H', ShZ T zd lf σ' → Led H' ((zd, .dK (zK (r.ms.map (·.1)) (zf (plM r.ms)))) :: (lf, .dK (lfK (r.ms.map (·.1)) (rf (plM r.ms)))) :: TLg CM CA CP T r x y z R) → D.nx σ' H'
section
variable {P : Program} {w : World} {K : PySem.W.Frag} {mg : Str → Option Value} {base : Heap} {CM CA CP : Addr} {f : Addr} {cdv : Value} {A : Around} {outer : List Env} {s0 : Shared} {H0 : Hp} {E : XK}
theorem st_s4 (hr : Room 8 (LX P w K mg base f cdv A outer s0 H0 E).A) (T : TxtD mg) : PS (LX P w K mg base f cdv A outer s0 H0 E) (nth bodyT 4) (tS4 CM CA CP) := by
  refine ps_imp (t := _) (ps_asg (pe_tup (pa_cons (pe_callTy (call_dictP rfl) (by rfl) T.dict (by decide +kernel) (pa_cons (pe_lc (own := [("row", 7)]) (g := gName 7) (by rfl) scLaw.nd (pi_list (pv 4)) (blkOk_by (own := [("row", 7)]) (N := ["script", "dice", "old", "turn", "machines", "parts", "planner", "row", "found", "lacks", "zones", "left", "name", "weight", "copies", "one", "moves", "here", "gone", "come", "bad", "f"]) (sc := (defScope sLaw)) (by decide +kernel)) (fun _ _ _ _ _ => (pg_name (i := 7) scLaw.nd rfl (Or.inl rfl))) (fun _ _ _ _ _ => pts_nil) (fun _ _ _ _ _ => (pe_tup (pa_cons (pe_ix ix_tupB (pv 7) pe_int (fun _ _ => rfl)) (pa_cons (pe_ix ix_tupB (pv 7) pe_int (fun _ _ => rfl)) pa_nil))))) pa_nil)) (pa_cons (pe_callTy (call_dictP rfl) (by rfl) T.dict (by decide +kernel) (pa_cons (pe_lc (own := [("row", 7)]) (g := gName 7) (by rfl) scLaw.nd (pi_list (pv 4)) (blkOk_by (own := [("row", 7)]) (N := ["script", "dice", "old", "turn", "machines", "parts", "planner", "row", "found", "lacks", "zones", "left", "name", "weight", "copies", "one", "moves", "here", "gone", "come", "bad", "f"]) (sc := (defScope sLaw)) (by decide +kernel)) (fun _ _ _ _ _ => (pg_name (i := 7) scLaw.nd rfl (Or.inl rfl))) (fun _ _ _ _ _ => pts_nil) (fun _ _ _ _ _ => (pe_tup (pa_cons (pe_ix ix_tupB (pv 7) pe_int (fun _ _ => rfl)) (pa_cons (pe_ix ix_tupB (pv 7) pe_int (fun _ _ => rfl)) pa_nil))))) pa_nil)) pa_nil))) (pg_tup (by rfl) (pgs_cons (pg_name (i := 10) scLaw.nd rfl (Or.inr rfl)) (pgs_cons (pg_name (i := 11) scLaw.nd rfl (Or.inr rfl)) pgs_nil)))) ?_
  rintro D σ H ⟨T, r, x, y, z, R, ⟨v3, v7, v10, v11, v12, v13, v14, v15, v16, v17, v18, v19, v20, v21, rfl⟩, ti, hL, k⟩
  have hml : r.mrs.length < 60 := by
    have h1 := ti.dm.sub.length_le
    rw [List.length_map, List.length_map] at h1
    exact Nat.lt_of_le_of_lt h1 (by decide)
  have hmo : ∀ x' ∈ r.mrs, mrO x' ∈ TLg CM CA CP T r x y z R := fun x' hx => (.tail _ (.tail _ (.tail _ (.tail _ (.tail _ (.tail _ (.tail _ (.tail _ (.tail _ (.tail _ (List.mem_append_right _ (List.mem_append_right _ (List.mem_append_left _ (List.mem_map.mpr ⟨x', hx, rfl⟩))))))))))))))
  refine ⟨_, rfl, T.ml, rfl, ⟨_, .of (hL.at ⟨3, rfl⟩)⟩, fun D1 hD1 => lc_rows (jr := 7) (vo := fun m => .str m.2.1) hL hD1 ⟨3, rfl⟩ hmo hml (fun _ => rfl) (fun x H => ⟨rfl, rfl, rfl⟩) (fun ps1 H hp1 hL => ?_)⟩
  obtain ⟨d1, d2, d3, d4⟩ := k_dictM (K := K) (vo := fun m => .str m.2.1) hL (hp1.trans ti.hm.symm) ti.mnd
  refine ⟨D1, _, _, rfl, d1, d2, fun zd hzd => ?_⟩
  rw [d3]
  generalize hH : upd _ zd _ = H
  replace hL := d4 zd H hzd hH
  clear d1 d2 d3 d4 hzd hH hp1
  refine ⟨_, rfl, T.ml, rfl, ⟨_, .of (hL.at ⟨4, rfl⟩)⟩, fun D2 hD2 => lc_rows (jr := 7) (vo := fun m => .int m.2.2) hL hD2 ⟨4, rfl⟩ (fun x hx => .tail _ (hmo x hx)) hml (fun _ => rfl) (fun x H => ⟨rfl, rfl, rfl⟩) (fun ps2 H hp2 hL => ?_)⟩
  obtain ⟨d1, d2, d3, d4⟩ := k_dictM (K := K) (vo := fun m => .int m.2.2) hL (hp2.trans ti.hm.symm) ti.mnd
  refine ⟨D2, _, _, rfl, d1, d2, fun lf hlf => ?_⟩
  rw [d3]
  generalize hH : upd _ lf _ = H
  replace hL := d4 lf H hlf hH
  clear d1 d2 d3 d4 hlf hH hp2
  rw [M_z ti.mnd, M_r ti.mnd, plM_ns] at hL
  fail "go"
  refine k zd lf _ _ ⟨_, _, _, _, _, _, _, _, _, _, _, _, rfl⟩ ?_
  (refine Led.le hL (fun a_ => ?_); simp only [cnt_nil, cnt_cons, cnt_app, List.map_append, List.map_cons, List.map_nil, List.flatMap_append, List.flatMap_cons, List.flatMap_nil, List.append_assoc, List.cons_append, List.nil_append]; omega)
end
end Sd


set_option linter.unusedVariables false
namespace Sd
open PySem L2
open PyProof.Rows (sortedS)
open C8 (Cal Met Mak pe_c pe_mk pe_mt pe_mt0 pss_cut tCut)
set_option linter.unusedSimpArgs false
set_option pp.deepTerms false
set_option pp.deepTerms.threshold 12
set_option hygiene false
local macro_rules | `(tactic| fail "nd") => `(tactic| first | assumption | decide +kernel)
local macro_rules | `(tactic| fail "ix") => `(tactic| first | exact ⟨0, rfl⟩ | exact ⟨1, rfl⟩ | exact ⟨2, rfl⟩ | exact ⟨3, rfl⟩ | exact ⟨4, rfl⟩ | exact ⟨5, rfl⟩ | exact ⟨6, rfl⟩ | exact ⟨7, rfl⟩ | exact ⟨8, rfl⟩ | exact ⟨9, rfl⟩ | exact ⟨10, rfl⟩ | exact ⟨11, rfl⟩ | exact ⟨12, rfl⟩ | exact ⟨13, rfl⟩ | exact ⟨14, rfl⟩ | exact ⟨15, rfl⟩ | exact ⟨16, rfl⟩ | exact ⟨17, rfl⟩ | exact ⟨18, rfl⟩ | assumption)
local macro_rules | `(tactic| fail "up") => `(tactic| first | exact ⟨0, rfl, rfl⟩ | exact ⟨1, rfl, rfl⟩ | exact ⟨2, rfl, rfl⟩ | exact ⟨3, rfl, rfl⟩ | exact ⟨4, rfl, rfl⟩ | exact ⟨5, rfl, rfl⟩ | exact ⟨6, rfl, rfl⟩ | exact ⟨7, rfl, rfl⟩ | exact ⟨8, rfl, rfl⟩ | exact ⟨9, rfl, rfl⟩ | exact ⟨10, rfl, rfl⟩ | exact ⟨11, rfl, rfl⟩ | exact ⟨12, rfl, rfl⟩ | exact ⟨13, rfl, rfl⟩ | exact ⟨14, rfl, rfl⟩ | exact ⟨15, rfl, rfl⟩ | exact ⟨16, rfl, rfl⟩ | assumption)
local macro_rules | `(tactic| fail "lkF") => `(tactic| first | assumption | exact fz_at 0 (by fail "nd") rfl rfl | exact fz_at 1 (by fail "nd") rfl rfl | exact fz_at 2 (by fail "nd") rfl rfl | exact fz_at 3 (by fail "nd") rfl rfl | exact fz_at 4 (by fail "nd") rfl rfl | exact fz_at 5 (by fail "nd") rfl rfl | exact fz_at 6 (by fail "nd") rfl rfl | exact fz_at 7 (by fail "nd") rfl rfl)
local macro_rules | `(tactic| fail "lkD") => `(tactic| first | assumption | exact dz_at 0 (by fail "nd") rfl rfl | exact dz_at 1 (by fail "nd") rfl rfl | exact dz_at 2 (by fail "nd") rfl rfl | exact dz_at 3 (by fail "nd") rfl rfl | exact dz_at 4 (by fail "nd") rfl rfl)
local macro_rules | `(tactic| fail "ptF") => `(tactic| first | assumption | exact fz_put 0 (by fail "nd") rfl (Nat.le_of_ble_eq_true rfl) | exact fz_put 1 (by fail "nd") rfl (Nat.le_of_ble_eq_true rfl) | exact fz_put 2 (by fail "nd") rfl (Nat.le_of_ble_eq_true rfl) | exact fz_put 3 (by fail "nd") rfl (Nat.le_of_ble_eq_true rfl) | exact fz_put 4 (by fail "nd") rfl (Nat.le_of_ble_eq_true rfl) | exact fz_put 5 (by fail "nd") rfl (Nat.le_of_ble_eq_true rfl) | exact fz_put 6 (by fail "nd") rfl (Nat.le_of_ble_eq_true rfl) | exact fz_put 7 (by fail "nd") rfl (Nat.le_of_ble_eq_true rfl) | exact fz_new (by decide +kernel) rfl)
local macro_rules | `(tactic| fail "ptD") => `(tactic| first | assumption | exact dz_put 0 (by fail "nd") rfl (Nat.le_of_ble_eq_true rfl) | exact dz_put 1 (by fail "nd") rfl (Nat.le_of_ble_eq_true rfl) | exact dz_put 2 (by fail "nd") rfl (Nat.le_of_ble_eq_true rfl) | exact dz_put 3 (by fail "nd") rfl (Nat.le_of_ble_eq_true rfl) | exact dz_put 4 (by fail "nd") rfl (Nat.le_of_ble_eq_true rfl))
local macro_rules | `(tactic| fail "sz") => `(tactic| first | assumption | exact (Nat.le_of_ble_eq_true rfl) | omega | decide)
local macro_rules | `(tactic| fail "sd") => `(tactic| first | rfl | assumption | decide | omega | (dsimp only; first | decide | omega) | exact .inr ⟨by decide, by decide⟩ | exact .inl ⟨by decide, by decide⟩ | exact ⟨by omega, by omega⟩ | exact .inl ⟨by omega, by omega⟩ | exact .inr ⟨by omega, by omega⟩ | exact ⟨by omega, by omega, by omega⟩)
local macro_rules | `(tactic| fail "cl") => `(tactic| (clear hH; dsimp only [List.set, List.cons_append, List.nil_append, List.append] at hL))
local macro_rules | `(tactic| fail "gn") => `(tactic| (intro p hp; generalize hH : upd H p _ = H; replace hL := Led.newH hL hp hH; clear hH hp))
local macro_rules | `(tactic| fail "gup") => `(tactic| (generalize hH : upd H _ _ = H; replace hL := Led.upU hL (by fail "up") hH; fail "cl"))
local macro_rules | `(tactic| fail "gmk") => `(tactic| (intro x dx hx hd ne; generalize hH : upd (upd H dx _) x _ = H; replace hL := Led.made hL hx hd ne hH; clear hH hx hd ne))
local macro_rules | `(tactic| fail "v") => `(tactic| refine ⟨_, rfl, ?_⟩)
local macro_rules | `(tactic| fail "i2") => `(tactic| refine ⟨_, _, rfl, rfl, ?_⟩)
local macro_rules | `(tactic| fail "go1") => `(tactic| first
  | refine ⟨_, rfl, ?_⟩
  | refine ⟨_, _, rfl, rfl, ?_⟩
  | refine ⟨_, _, rfl, ?_⟩
  | refine iteT ?_
  | refine iteF ?_
  | refine k_fld hL (by fail "ix") (by assumption) (by assumption) (by fail "lkF") ?_
  | refine k_dgetS hL (by fail "ix") (by fail "lkD") ?_
  | refine k_dgetI hL (by fail "ix") (by assumption) ?_
  | refine k_ixL hL (by fail "ix") (by first | rfl | assumption) ?_
  | refine k_ixT hL (by fail "ix") (by first | rfl | assumption) ?_
  | refine k_tyL hL (by fail "ix") ?_
  | refine k_isd hL (by fail "ix") ?_
  | (refine And.intro (by fail "sz") ?_; fail "gn")
  | refine And.intro (by fail "sd") ?_
  | fail "gn"
  | refine k_meth hL (by fail "ix") (by first | assumption | exact fz_no (by decide +kernel)) ?_
  | refine k_gtup hL (by fail "ix") rfl ?_
  | (refine k_popI hL (by fail "ix") (by assumption) ?_; fail "gup")
  | (refine k_listD hL (by fail "ix") ?_; fail "gn")
  | (refine ⟨_, _, _, _, rfl, rfl, hL.at (by fail "ix"), rfl, ?_⟩; fail "gup")
  | (refine ⟨_, _, _, rfl, rfl, hL.at (by fail "ix"), (by fail "sz"), ?_⟩; fail "gup")
  | (refine ⟨_, _, _, _, rfl, hL.at (by fail "ix"), by assumption, by assumption, Nat.lt_of_le_of_lt fz_len (by decide), ?_⟩; generalize hH : upd H _ _ = H; replace hL := Led.upF hL (by fail "up") (by fail "ptF") hH; fail "cl")
  | (refine ⟨_, _, hL.at (by fail "ix"), Nat.lt_of_le_of_lt fz_len (by decide), ?_⟩; generalize hH : upd H _ _ = H; replace hL := Led.upF hL (by fail "up") (by fail "ptF") hH; fail "cl")
  | (refine k_dputS hL (by fail "ix") (Nat.lt_of_le_of_lt dz_len (by decide)) (by fail "ptD") (by fail "up") ?_; clear hL; intro H hL; dsimp only [List.set, List.cons_append, List.nil_append, List.append] at hL)
  | refine k_lenL2 hL (by fail "ix") ?_
  | refine k_lenT2 hL (by fail "ix") ?_
  | refine .inl ⟨_, rfl, ?_⟩
  | refine .inr ⟨_, rfl, ?_⟩)
local macro_rules | `(tactic| fail "go") => `(tactic| repeat fail "go1")
local macro_rules | `(tactic| fail "pm") => `(tactic| (refine Led.le hL (fun a_ => ?_); simp only [cnt_nil, cnt_cons, cnt_app, List.map_append, List.map_cons, List.map_nil, List.flatMap_append, List.flatMap_cons, List.flatMap_nil, List.append_assoc, List.cons_append, List.nil_append]; omega))

structure TxtC (mg : Str → Option Value) : Prop where
  dict : mg "dict" = none
  len : mg "len" = none
  list : mg "list" = none
  sorted : mg "sorted" = none
  int : mg "int" = none
  range : mg "range" = none
def ZL (CM CA CP : Addr) (T : Tn) (zd lf : Addr) (r : Rws) (x y z : Int) (g : Gf) (R : Lg) : Lg := (zd, .dK (zK (r.ms.map (·.1)) (zf (plM r.ms)))) :: (lf, .dK (lfK (r.ms.map (·.1)) g)) :: TLg CM CA CP T r x y z R
def tS5 (CM CA CP : Addr) : TS := fun D σ H => ∃ (T : Tn) (zd lf : Addr) (r : Rws) (x y z : Int) (R : Lg), ShZ T zd lf σ ∧ TI r ∧ Led H (ZL CM CA CP T zd lf r x y z (rf (plM r.ms)) R) ∧ ∀ σ' H', ShZ T zd lf σ' → Led H' (ZL CM CA CP T zd lf r x y z r.g R) → D.nx σ' H'
section
variable {P : Program} {w : World} {K : PySem.W.Frag} {mg : Str → Option Value} {base : Heap} {CM CA CP : Addr} {f : Addr} {cdv : Value} {A : Around} {outer : List Env} {s0 : Shared} {H0 : Hp} {E : XK}
theorem st_s5 (hr : Room 8 (LX P w K mg base f cdv A outer s0 H0 E).A) (T : TxtC mg) : PS (LX P w K mg base f cdv A outer s0 H0 E) (nth bodyT 5) (tS5 CM CA CP) := by
  refine ps_imp (t := _) (ps_for PassesOwn.never rfl (pi_list (pv 5)) (pg_tup (by rfl) (pgs_cons (pg_name (i := 12) scLaw.nd rfl (Or.inl rfl)) (pgs_cons (pg_name (i := 13) scLaw.nd rfl (Or.inl rfl)) (pgs_cons (pg_name (i := 14) scLaw.nd rfl (Or.inl rfl)) pgs_nil))))
  (pss_cons (ps_for PassesOwn.never rfl (pi_tup (pe_dget (hu_of hr) (pv 8) (pv 12) (fun _ _ => rfl))) (pg_name (i := 15) scLaw.nd rfl (Or.inl rfl))
  (pss_one (ps_dput (hu_of hr) (pv 11) (pv 15) (pe_op op_sub (pe_dget (hu_of hr) (pv 11) (pv 15) (fun _ _ => rfl)) (pv 13)) rfl)))
  (pss_one (ps_if (PW.pt (pw_or (pt_cmpR op_ne (pe_callB call_lenD (by rfl) T.len (by decide +kernel) (pa_cons (pe_callTy (call_dictP rfl) (by rfl) T.dict (by decide +kernel) (pa_cons (pe_lc (own := [("one", 15)]) (g := gName 15) (by rfl) scLaw.nd (pi_tup (pe_dget (hu_of hr) (pv 8) (pv 12) (fun _ _ => rfl))) (blkOk_by (own := [("one", 15)]) (N := ["script", "dice", "old", "turn", "machines", "parts", "planner", "row", "found", "lacks", "zones", "left", "name", "weight", "copies", "one", "moves", "here", "gone", "come", "bad", "f"]) (sc := (defScope sLaw)) (by decide +kernel)) (fun _ _ _ _ _ => (pg_name (i := 15) scLaw.nd rfl (Or.inl rfl))) (fun _ _ _ _ _ => pts_nil) (fun _ _ _ _ _ => (pe_tup (pa_cons (pe_dget (hu_of hr) (pv 10) (pv 15) (fun _ _ => rfl)) (pa_cons pe_int pa_nil))))) pa_nil)) pa_nil)) (pe_callB call_len_seq (by rfl) T.len (by decide +kernel) (pa_cons (pe_dget (hu_of hr) (pv 8) (pv 12) (fun _ _ => rfl)) pa_nil)) (nomark _)) (pw_or1 (pt_cmpR op_ne (pe_op op_add (pe_callB call_len_seq (by rfl) T.len (by decide +kernel) (pa_cons (pe_dget (hu_of hr) (pv 8) (pv 12) (fun _ _ => rfl)) pa_nil)) (pe_dget2 (hu_of hr) (pv 9) (pv 12) pe_int ⟨rfl, rfl, rfl, rfl⟩)) (pv 14) (nomark _)))))
  (pss_one (ps_ret pe_bl))
  pss_nil)))) ?_
  rintro D σ H ⟨T, zd, lf, r, x, y, z, R, ⟨v3, v7, v12, v13, v14, v15, v16, v17, v18, v19, v20, v21, rfl⟩, ti, hL, k⟩
  have hpz : r.prs.length ≤ 8 := by
    have h1 := ti.dp.sub.length_le
    rw [List.length_map, List.length_map] at h1
    exact Nat.le_trans h1 (by decide)
  have hnl : (r.ms.map (·.1)).length < 60 := by rw [List.length_map]; exact ti.mz
  have hfin : subP (plF r.ts) (rf (plM r.ms)) (plA r.ps) = r.g := ti.left
  rw [ti.hp] at hfin
  refine ⟨_, rfl, T.al, rfl, ⟨_, .of (hL.at ⟨6, rfl⟩)⟩, for_listA (K := K) (a := T.al) (xs := r.prs.map paV) (fun i σ H => Hold (ShZ T zd lf σ ∧ Led H (ZL CM CA CP T zd lf r x y z (subP (plF r.ts) (rf (plM r.ms)) (((r.prs.map (·.2)).take i))) R))) (.mk ⟨⟨_, _, _, _, _, _, _, _, _, _, _, _, rfl⟩, hL⟩) (fun i σ H _ h => ?_) (fun i x' σ H D' hi h hD' => ?_) (fun σ H h => ?_)⟩
  · exact .of (h.out.2.at ⟨6, rfl⟩)
  · clear hL
    obtain ⟨⟨v3, v7, v12, v13, v14, v15, v16, v17, v18, v19, v20, v21, rfl⟩, hL⟩ := h.out
    clear h
    rw [List.getElem?_map] at hi
    obtain ⟨e, hpe, rfl⟩ := Option.map_eq_some_iff.mp hi
    obtain ⟨ea, nm1, w1, c1⟩ := e
    have hem := List.mem_of_getElem? hpe
    have hpl : (r.prs.map (·.2))[i]? = some (nm1, w1, c1) := by rw [List.getElem?_map, hpe]; rfl
    have hpm : (nm1, w1, c1) ∈ plA r.ps := by rw [ti.hp]; exact List.mem_of_getElem? hpl
    have step : subP (plF r.ts) (rf (plM r.ms)) ((r.prs.map (·.2)).take (i + 1)) = subR (subP (plF r.ts) (rf (plM r.ms)) ((r.prs.map (·.2)).take i)) (oldOf (plF r.ts) nm1) w1 := by
      unfold subP
      rw [List.take_add_one, hpl, Option.toList_some, List.foldl_append]; rfl
    have hlk := ti.lk hpm
    dsimp only at hlk
    have hnm : nm1 ∈ r.ts.map (·.1) := by rw [ti.tnames]; exact List.mem_map.mpr ⟨_, hpm, rfl⟩
    obtain ⟨⟨ta, rows⟩, hta⟩ := aget_in hnm
    have hro : oldOf (plF r.ts) nm1 = rows := by unfold oldOf; rw [plF_get, hta]; rfl
    rw [hro] at step hlk
    have hrm : (nm1, rows) ∈ plF r.ts := by
      have := aget_mem hta
      exact List.mem_map.mpr ⟨_, this, rfl⟩
    have hsub := ti.fi.ai.sub _ hrm
    have hznd := ti.fi.ai.nd _ hrm
    rw [plM_ns] at hsub
    dsimp only at hsub hznd
    have hr4 : rows.length ≤ 4 := by have := (ti.new.rows nm1).2; rw [hro] at this; exact this
    have lkt : valV (r.ts.map (kk tV)) (Sum.inr nm1) = some (.ref ta) := by rw [tv_val, hta]; rfl
    have hto : (ta, HO.tup (rows.map V.str)) ∈ r.ts.map tupO := List.mem_map.mpr ⟨_, aget_mem hta, rfl⟩
    generalize subP (plF r.ts) (rf (plM r.ms)) ((r.prs.map (·.2)).take i) = g1 at step hL
    have hmt : ∀ g, (ta, HO.tup (rows.map V.str)) ∈ ZL CM CA CP T zd lf r x y z g R := fun g => (.tail _ (.tail _ (.tail _ (.tail _ (.tail _ (.tail _ (.tail _ (.tail _ (.tail _ (.tail _ (.tail _ (.tail _ (List.mem_append_right _ (List.mem_append_right _ (List.mem_append_right _ (List.mem_append_right _ (List.mem_append_right _ (List.mem_append_left _ hto))))))))))))))))))
    unfold ZL TLg at hL
    refine k_gtup hL (at_mem (.tail _ (.tail _ (.tail _ (.tail _ (.tail _ (.tail _ (.tail _ (.tail _ (.tail _ (.tail _ (.tail _ (.tail _ (List.mem_append_right _ (List.mem_append_right _ (List.mem_append_right _ (List.mem_append_left _ (List.mem_map.mpr ⟨_, hem, rfl⟩)))))))))))))))))) rfl ?_
    fail "go"
    refine ⟨⟨_, .of (hL.mem (hmt g1))⟩, for_tupA (K := K) (a := ta) (xs := rows.map V.str) (fun j σ H => Hold (∃ v15, σ = [some (.ref T.a), some (.ref T.d), some (.ref T.od), v3, some (.ref T.ml), some (.ref T.al), some (.ref T.pn), v7, some (.ref T.fd), some (.ref T.xd), some (.ref zd), some (.ref lf), some (.str nm1), some (.int w1), some (.int c1), v15, v16, v17, v18, v19, v20, v21] ∧ Led H (ZL CM CA CP T zd lf r x y z (subR g1 (rows.take j) w1) R))) (.mk ⟨_, rfl, hL⟩) (fun j σ H _ h => ?_) (fun j x' σ H D1 hi h hD1 => ?_) (fun σ H h => ?_)⟩
    · obtain ⟨v15, rfl, hL⟩ := h.out
      exact .of (hL.mem (hmt _))
    · clear hL
      obtain ⟨v15, rfl, hL⟩ := h.out
      clear h
      rw [List.getElem?_map] at hi
      obtain ⟨n, hn, rfl⟩ := Option.map_eq_some_iff.mp hi
      have hnn := hsub n (List.mem_of_getElem? hn)
      have st2 : subR g1 (rows.take (j + 1)) w1 = subG (subR g1 (rows.take j) w1) n w1 := by
        unfold subR
        rw [List.take_add_one, hn, Option.toList_some, List.foldl_append]; rfl
      generalize subR g1 (rows.take j) w1 = g2 at st2 hL
      have lk := lf_val (g := g2) hnn
      unfold ZL TLg at hL
      fail "go"
      refine k_dputS hL (by fail "ix") (by unfold lfK; rw [List.length_map]; exact small60 hnl) (lf_put hnn) (by fail "up") fun H hL => ?_
      dsimp only [List.set] at hL
      refine hD1.nx _ _ (.mk ⟨_, rfl, ?_⟩)
      rw [st2]
      exact hL
    clear hL
    obtain ⟨v15, rfl, hL⟩ := h.out
    clear h
    rw [List.length_map, List.take_length, ← step] at hL
    have fin : ∀ v15 H, Led H (ZL CM CA CP T zd lf r x y z (subP (plF r.ts) (rf (plM r.ms)) ((r.prs.map (·.2)).take (i + 1))) R) → D'.nx [some (.ref T.a), some (.ref T.d), some (.ref T.od), v3, some (.ref T.ml), some (.ref T.al), some (.ref T.pn), v7, some (.ref T.fd), some (.ref T.xd), some (.ref zd), some (.ref lf), some (.str nm1), some (.int w1), some (.int c1), v15, v16, v17, v18, v19, v20, v21] H := fun v15 H hL =>
      hD'.nx _ _ (.mk ⟨⟨_, _, _, _, _, _, _, _, _, _, _, _, rfl⟩, hL⟩)
    generalize subP (plF r.ts) (rf (plM r.ms)) ((r.prs.map (·.2)).take (i + 1)) = g3 at hL fin
    have hL0 := hL
    unfold ZL TLg at hL
    fail "go"
    refine ⟨⟨_, .of (hL.mem (hmt _))⟩, fun D2 hD2 => lc_tup (K := K) (a := ta) (xs := rows.map V.str) (fun j H => Hold (∃ pz : List (Addr × Str), pz.map (·.2) = rows.take j ∧ Led H ((D2, .lst ((pz.map (·.1)).map V.ref)) :: (pz.map (fun p => (p.1, HO.tup [.str (zf (plM r.ms) p.2), .int 1])) ++ ZL CM CA CP T zd lf r x y z g3 R)))) (.mk ⟨[], rfl, hL0.new hD2⟩) (fun j H _ h => ?_) (fun j v H hi h => ?_) (fun H h => ?_)⟩
    · obtain ⟨pz, _, hL⟩ := h.out
      exact .of (hL.mem (.tail _ (List.mem_append_right _ (hmt _))))
    · clear hL
      obtain ⟨pz, hpz2, hL⟩ := h.out
      clear h
      rw [List.getElem?_map] at hi
      obtain ⟨n, hn, rfl⟩ := Option.map_eq_some_iff.mp hi
      have hnn := hsub n (List.mem_of_getElem? hn)
      have lkz := z_val (z := zf (plM r.ms)) hnn
      have hzl : pz.length < 60 := by
        have := congrArg List.length hpz2
        rw [List.length_map, List.length_take] at this
        omega
      refine ⟨rfl, k_yes ?_⟩
      refine ⟨_, rfl, _, rfl, k_dgetS hL (at_mem (.tail _ (List.mem_append_right _ (.head _)))) lkz ?_⟩
      fail "go"
      refine ⟨_, hL.at ⟨1, rfl⟩, by rw [List.length_map, List.length_map]; exact small60 hzl, ?_⟩
      fail "gup"
      refine .mk ⟨pz ++ [(p, n)], by rw [List.map_append, hpz2, List.take_add_one, hn]; rfl, ?_⟩
      (refine Led.le hL (fun a_ => ?_); simp only [cnt_nil, cnt_cons, cnt_app, List.map_append, List.map_cons, List.map_nil, List.flatMap_append, List.flatMap_cons, List.flatMap_nil, List.append_assoc, List.cons_append, List.nil_append]; omega)
    clear hL
    obtain ⟨pz, hpz2, hL⟩ := h.out
    clear h
    rw [List.length_map, List.take_length] at hpz2
    fail "go"
    refine ⟨D2, pz.map (·.1), rows.map (fun n => ((Sum.inr (zf (plM r.ms) n) : Key), V.int 1)), rfl, .of (hL.at ⟨0, rfl⟩), ?_, fun t ht => ?_⟩
    · rw [← hpz2, List.map_map]
      exact paired_map fun x hx => .of (hL.mem (.tail _ (List.mem_append_left _ (List.mem_map.mpr ⟨x, hx, rfl⟩))))
    rw [mergeK_nd _ _ (by
      rw [List.nil_append, List.map_map]
      have : ((rows.map (zf (plM r.ms))).map (Sum.inr : Str → Key)).Nodup := hznd.map _ fun a b h e => h (Sum.inr.inj e)
      rw [List.map_map] at this
      exact this), List.nil_append]
    generalize hH : upd H t _ = H
    replace hL := Led.newH hL ht hH
    clear hH ht
    fail "go"
    refine ⟨t, _, rfl, hL.at ⟨0, rfl⟩, ?_⟩
    replace hL : Led H (ZL CM CA CP T zd lf r x y z g3 R) := by (refine Led.le hL (fun a_ => ?_); simp only [cnt_nil, cnt_cons, cnt_app, List.map_append, List.map_cons, List.map_nil, List.flatMap_append, List.flatMap_cons, List.flatMap_nil, List.append_assoc, List.cons_append, List.nil_append]; omega)
    have hL0 := hL
    unfold ZL TLg at hL
    fail "go"
    refine ⟨ta, _, rfl, .inr (.of (hL.mem (hmt _))), ?_⟩
    fail "go"
    refine ite_n (fun z => absurd (by rw [List.length_map, List.length_map]) z) (fun _ => ?_)
    fail "go"
    refine ⟨ta, _, rfl, .inr (.of (hL.mem (hmt _))), ?_⟩
    fail "go"
    refine k_getS hL ⟨3, rfl⟩ ?_
    have eo : (valV (r.l.map (kk lxV)) (Sum.inr nm1)).getD (.int 0) = .int ((aget r.l nm1).getD 0) := by
      rw [kk_val]
      cases aget r.l nm1 <;> rfl
    rw [eo]
    fail "go"
    refine ite_n (fun z => absurd (by rw [List.length_map]; exact congrArg V.int hlk) z) (fun _ => ?_)
    fail "go"
    exact fin _ _ hL0
  · obtain ⟨⟨v3, v7, v12, v13, v14, v15, v16, v17, v18, v19, v20, v21, rfl⟩, hL⟩ := h.out
    rw [List.length_map, show r.prs.length = (r.prs.map (·.2)).length by rw [List.length_map], List.take_length, hfin] at hL
    exact k _ _ ⟨_, _, _, _, _, _, _, _, _, _, _, _, rfl⟩ hL
end
end Sd


set_option linter.unusedVariables false
namespace Sd
open PySem L2
open PyProof.Rows (sortedS)
open C8 (Cal Met Mak pe_c pe_mk pe_mt pe_mt0 pss_cut tCut)
set_option linter.unusedSimpArgs false
set_option pp.deepTerms false
set_option pp.deepTerms.threshold 12
set_option hygiene false
local macro_rules | `(tactic| fail "nd") => `(tactic| first | assumption | decide +kernel)
local macro_rules | `(tactic| fail "ix") => `(tactic| first | exact ⟨0, rfl⟩ | exact ⟨1, rfl⟩ | exact ⟨2, rfl⟩ | exact ⟨3, rfl⟩ | exact ⟨4, rfl⟩ | exact ⟨5, rfl⟩ | exact ⟨6, rfl⟩ | exact ⟨7, rfl⟩ | exact ⟨8, rfl⟩ | exact ⟨9, rfl⟩ | exact ⟨10, rfl⟩ | exact ⟨11, rfl⟩ | exact ⟨12, rfl⟩ | exact ⟨13, rfl⟩ | exact ⟨14, rfl⟩ | exact ⟨15, rfl⟩ | exact ⟨16, rfl⟩ | exact ⟨17, rfl⟩ | exact ⟨18, rfl⟩ | assumption)
local macro_rules | `(tactic| fail "up") => `(tactic| first | exact ⟨0, rfl, rfl⟩ | exact ⟨1, rfl, rfl⟩ | exact ⟨2, rfl, rfl⟩ | exact ⟨3, rfl, rfl⟩ | exact ⟨4, rfl, rfl⟩ | exact ⟨5, rfl, rfl⟩ | exact ⟨6, rfl, rfl⟩ | exact ⟨7, rfl, rfl⟩ | exact ⟨8, rfl, rfl⟩ | exact ⟨9, rfl, rfl⟩ | exact ⟨10, rfl, rfl⟩ | exact ⟨11, rfl, rfl⟩ | exact ⟨12, rfl, rfl⟩ | exact ⟨13, rfl, rfl⟩ | exact ⟨14, rfl, rfl⟩ | exact ⟨15, rfl, rfl⟩ | exact ⟨16, rfl, rfl⟩ | assumption)
local macro_rules | `(tactic| fail "lkF") => `(tactic| first | assumption | exact fz_at 0 (by fail "nd") rfl rfl | exact fz_at 1 (by fail "nd") rfl rfl | exact fz_at 2 (by fail "nd") rfl rfl | exact fz_at 3 (by fail "nd") rfl rfl | exact fz_at 4 (by fail "nd") rfl rfl | exact fz_at 5 (by fail "nd") rfl rfl | exact fz_at 6 (by fail "nd") rfl rfl | exact fz_at 7 (by fail "nd") rfl rfl)
local macro_rules | `(tactic| fail "lkD") => `(tactic| first | assumption | exact dz_at 0 (by fail "nd") rfl rfl | exact dz_at 1 (by fail "nd") rfl rfl | exact dz_at 2 (by fail "nd") rfl rfl | exact dz_at 3 (by fail "nd") rfl rfl | exact dz_at 4 (by fail "nd") rfl rfl)
local macro_rules | `(tactic| fail "ptF") => `(tactic| first | assumption | exact fz_put 0 (by fail "nd") rfl (Nat.le_of_ble_eq_true rfl) | exact fz_put 1 (by fail "nd") rfl (Nat.le_of_ble_eq_true rfl) | exact fz_put 2 (by fail "nd") rfl (Nat.le_of_ble_eq_true rfl) | exact fz_put 3 (by fail "nd") rfl (Nat.le_of_ble_eq_true rfl) | exact fz_put 4 (by fail "nd") rfl (Nat.le_of_ble_eq_true rfl) | exact fz_put 5 (by fail "nd") rfl (Nat.le_of_ble_eq_true rfl) | exact fz_put 6 (by fail "nd") rfl (Nat.le_of_ble_eq_true rfl) | exact fz_put 7 (by fail "nd") rfl (Nat.le_of_ble_eq_true rfl) | exact fz_new (by decide +kernel) rfl)
local macro_rules | `(tactic| fail "ptD") => `(tactic| first | assumption | exact dz_put 0 (by fail "nd") rfl (Nat.le_of_ble_eq_true rfl) | exact dz_put 1 (by fail "nd") rfl (Nat.le_of_ble_eq_true rfl) | exact dz_put 2 (by fail "nd") rfl (Nat.le_of_ble_eq_true rfl) | exact dz_put 3 (by fail "nd") rfl (Nat.le_of_ble_eq_true rfl) | exact dz_put 4 (by fail "nd") rfl (Nat.le_of_ble_eq_true rfl))
local macro_rules | `(tactic| fail "sz") => `(tactic| first | assumption | exact (Nat.le_of_ble_eq_true rfl) | omega | decide)
local macro_rules | `(tactic| fail "sd") => `(tactic| first | rfl | assumption | decide | omega | (dsimp only; first | decide | omega) | exact .inr ⟨by decide, by decide⟩ | exact .inl ⟨by decide, by decide⟩ | exact ⟨by omega, by omega⟩ | exact .inl ⟨by omega, by omega⟩ | exact .inr ⟨by omega, by omega⟩ | exact ⟨by omega, by omega, by omega⟩)
local macro_rules | `(tactic| fail "cl") => `(tactic| (clear hH; dsimp only [List.set, List.cons_append, List.nil_append, List.append] at hL))
local macro_rules | `(tactic| fail "gn") => `(tactic| (intro p hp; generalize hH : upd H p _ = H; replace hL := Led.newH hL hp hH; clear hH hp))
local macro_rules | `(tactic| fail "gup") => `(tactic| (generalize hH : upd H _ _ = H; replace hL := Led.upU hL (by fail "up") hH; fail "cl"))
local macro_rules | `(tactic| fail "gmk") => `(tactic| (intro x dx hx hd ne; generalize hH : upd (upd H dx _) x _ = H; replace hL := Led.made hL hx hd ne hH; clear hH hx hd ne))
local macro_rules | `(tactic| fail "v") => `(tactic| refine ⟨_, rfl, ?_⟩)
local macro_rules | `(tactic| fail "i2") => `(tactic| refine ⟨_, _, rfl, rfl, ?_⟩)
local macro_rules | `(tactic| fail "go1") => `(tactic| first
  | refine ⟨_, rfl, ?_⟩
  | refine ⟨_, _, rfl, rfl, ?_⟩
  | refine ⟨_, _, rfl, ?_⟩
  | refine iteT ?_
  | refine iteF ?_
  | refine k_fld hL (by fail "ix") (by assumption) (by assumption) (by fail "lkF") ?_
  | refine k_dgetS hL (by fail "ix") (by fail "lkD") ?_
  | refine k_dgetI hL (by fail "ix") (by assumption) ?_
  | refine k_ixL hL (by fail "ix") (by first | rfl | assumption) ?_
  | refine k_ixT hL (by fail "ix") (by first | rfl | assumption) ?_
  | refine k_tyL hL (by fail "ix") ?_
  | refine k_isd hL (by fail "ix") ?_
  | (refine And.intro (by fail "sz") ?_; fail "gn")
  | refine And.intro (by fail "sd") ?_
  | fail "gn"
  | refine k_meth hL (by fail "ix") (by first | assumption | exact fz_no (by decide +kernel)) ?_
  | refine k_gtup hL (by fail "ix") rfl ?_
  | (refine k_popI hL (by fail "ix") (by assumption) ?_; fail "gup")
  | (refine k_listD hL (by fail "ix") ?_; fail "gn")
  | (refine ⟨_, _, _, _, rfl, rfl, hL.at (by fail "ix"), rfl, ?_⟩; fail "gup")
  | (refine ⟨_, _, _, rfl, rfl, hL.at (by fail "ix"), (by fail "sz"), ?_⟩; fail "gup")
  | (refine ⟨_, _, _, _, rfl, hL.at (by fail "ix"), by assumption, by assumption, Nat.lt_of_le_of_lt fz_len (by decide), ?_⟩; generalize hH : upd H _ _ = H; replace hL := Led.upF hL (by fail "up") (by fail "ptF") hH; fail "cl")
  | (refine ⟨_, _, hL.at (by fail "ix"), Nat.lt_of_le_of_lt fz_len (by decide), ?_⟩; generalize hH : upd H _ _ = H; replace hL := Led.upF hL (by fail "up") (by fail "ptF") hH; fail "cl")
  | (refine k_dputS hL (by fail "ix") (Nat.lt_of_le_of_lt dz_len (by decide)) (by fail "ptD") (by fail "up") ?_; clear hL; intro H hL; dsimp only [List.set, List.cons_append, List.nil_append, List.append] at hL)
  | refine k_lenL2 hL (by fail "ix") ?_
  | refine k_lenT2 hL (by fail "ix") ?_
  | refine .inl ⟨_, rfl, ?_⟩
  | refine .inr ⟨_, rfl, ?_⟩)
local macro_rules | `(tactic| fail "go") => `(tactic| repeat fail "go1")
local macro_rules | `(tactic| fail "pm") => `(tactic| (refine Led.le hL (fun a_ => ?_); simp only [cnt_nil, cnt_cons, cnt_app, List.map_append, List.map_cons, List.map_nil, List.flatMap_append, List.flatMap_cons, List.flatMap_nil, List.append_assoc, List.cons_append, List.nil_append]; omega))

def tS6 (CM CA CP : Addr) : TS := fun D σ H => ∃ (T : Tn) (zd lf : Addr) (r : Rws) (x y z : Int) (R : Lg), ShZ T zd lf σ ∧ TI r ∧ Led H (ZL CM CA CP T zd lf r x y z r.g R) ∧ ∀ σ' H', ShZ T zd lf σ' → Led H' (ZL CM CA CP T zd lf r x y z r.g R) → D.nx σ' H'
section
variable {P : Program} {w : World} {K : PySem.W.Frag} {mg : Str → Option Value} {base : Heap} {CM CA CP : Addr} {f : Addr} {cdv : Value} {A : Around} {outer : List Env} {s0 : Shared} {H0 : Hp} {E : XK}
theorem st_s6 (hr : Room 8 (LX P w K mg base f cdv A outer s0 H0 E).A) (X : TxtP K mg CM CA CP) : PS (LX P w K mg base f cdv A outer s0 H0 E) (nth bodyT 6) (tS6 CM CA CP) := by
  refine ps_imp (t := _) (ps_if (PW.pt (pw_or (pt_cmpR (op_neP hr.units) (pe_lock (pe_lc (own := [("one", 15)]) (g := gName 15) (by rfl) scLaw.nd (pi_keys (pv 11)) (blkOk_by (own := [("one", 15)]) (N := ["script", "dice", "old", "turn", "machines", "parts", "planner", "row", "found", "lacks", "zones", "left", "name", "weight", "copies", "one", "moves", "here", "gone", "come", "bad", "f"]) (sc := (defScope sLaw)) (by decide +kernel)) (fun _ _ _ _ _ => (pg_name (i := 15) scLaw.nd rfl (Or.inl rfl))) (fun _ _ _ _ _ => (pts_one (pt_cmpR op_lt (pe_dget (hu_of hr) (pv 11) (pv 15) (fun _ _ => rfl)) pe_int (nomark _)))) (fun _ _ _ _ _ => (pv 15)))) (pe_lst pa_nil) (nomark _)) (pw_or1 (pt_cmpR (op_ne_dictB hr.units) (pe_fld (pv 6) rfl) (pv 11) (nomark _)))))
  (pss_one (ps_ret pe_bl))
  pss_nil) ?_
  rintro D σ H ⟨T, zd, lf, r, x, y, z, R, ⟨v3, v7, v12, v13, v14, v15, v16, v17, v18, v19, v20, v21, rfl⟩, ti, hL, k⟩
  have c1 := X.clP
  have f1 := X.nP "left" (by decide +kernel)
  have hnl : (r.ms.map (·.1)).length < 60 := by rw [List.length_map]; exact ti.mz
  have hpos := ti.fi.ai.pos
  rw [plM_ns] at hpos
  dsimp only at hpos
  unfold ZL at hL
  refine ⟨lf, _, hL.at ⟨1, rfl⟩, trivial, fun od1 => ?_⟩
  generalize hH : upd H lf _ = H
  replace hL := Led.upU hL (o' := .frz od1 (.dK (lfK (r.ms.map (·.1)) r.g))) (by fail "up") hH
  fail "cl"
  fail "go"
  refine ⟨lf, od1, rfl, .inl ⟨_, hL.at ⟨1, rfl⟩, fun D1 hD1 => lc_it (walk_keys (kvs := lfK (r.ms.map (·.1)) r.g)) (fun i H => Hold (Led H ((D1, .lst []) :: (zd, .dK (zK (r.ms.map (·.1)) (zf (plM r.ms)))) :: (lf, .frz od1 (.dK (lfK (r.ms.map (·.1)) r.g))) :: TLg CM CA CP T r x y z R)))
    (.mk (hL.new hD1)) (fun i H _ h => h.out.mem (.tail _ (.tail _ (.head _)))) (fun i v H1 H hi h hy => ?_) (fun H h => ?_)⟩⟩
  · clear hL
    have hL := h.out
    clear h
    obtain ⟨rfl, kx, vx, hk, rfl⟩ := hy
    unfold lfK at hk
    rw [List.getElem?_map] at hk
    obtain ⟨n, hn, hk⟩ := Option.map_eq_some_iff.mp hk
    obtain ⟨rfl, rfl⟩ := Prod.mk.inj hk
    have hm := List.mem_of_getElem? hn
    have lkl := lf_val (g := r.g) hm
    have hp := hpos n hm
    refine ⟨rfl, ?_⟩
    fail "go"
    refine k_dgetFS hL ⟨2, rfl⟩ lkl ?_
    fail "go"
    refine ite_d (fun q => absurd q (by omega)) (fun _ => ?_)
    fail "go"
    exact .mk hL
  clear hL
  have hL := h.out
  clear h
  refine ⟨hL.at ⟨2, rfl⟩, ?_⟩
  generalize hH : upd H lf _ = H
  replace hL := Led.upU hL (o' := .dK (lfK (r.ms.map (·.1)) r.g)) (by fail "up") hH
  fail "cl"
  fail "go"
  refine k_neStrs (a := []) (b := []) hL (by fail "ix") (by fail "ix") rfl rfl ?_
  fail "go"
  refine ⟨T.ld, lf, _, _, rfl, rfl, hL.mem (.tail _ (.tail _ (.tail _ (.tail _ (.tail _ (.tail _ (.tail _ (.tail _ (.tail _ (.tail _ (.tail _ (.head _)))))))))))), hL.at ⟨3, rfl⟩, rfl, fun q hq => ?_, ?_⟩
  · unfold lfK at hq
    obtain ⟨n, hn, rfl⟩ := List.mem_map.mp hq
    exact ⟨lf_val hn, rfl⟩
  fail "go"
  refine k _ _ ⟨_, _, _, _, _, _, _, _, _, _, _, _, rfl⟩ ?_
  unfold ZL
  (refine Led.le hL (fun a_ => ?_); simp only [cnt_nil, cnt_cons, cnt_app, List.map_append, List.map_cons, List.map_nil, List.flatMap_append, List.flatMap_cons, List.flatMap_nil, List.append_assoc, List.cons_append, List.nil_append]; omega)
end
end Sd


set_option linter.unusedVariables false
namespace Sd
open PySem L2
open PyProof.Rows (sortedS)
open C8 (Cal Met Mak pe_c pe_mk pe_mt pe_mt0 pss_cut tCut)
set_option linter.unusedSimpArgs false
set_option pp.deepTerms false
set_option pp.deepTerms.threshold 12
set_option hygiene false
local macro_rules | `(tactic| fail "nd") => `(tactic| first | assumption | decide +kernel)
local macro_rules | `(tactic| fail "ix") => `(tactic| first | exact ⟨0, rfl⟩ | exact ⟨1, rfl⟩ | exact ⟨2, rfl⟩ | exact ⟨3, rfl⟩ | exact ⟨4, rfl⟩ | exact ⟨5, rfl⟩ | exact ⟨6, rfl⟩ | exact ⟨7, rfl⟩ | exact ⟨8, rfl⟩ | exact ⟨9, rfl⟩ | exact ⟨10, rfl⟩ | exact ⟨11, rfl⟩ | exact ⟨12, rfl⟩ | exact ⟨13, rfl⟩ | exact ⟨14, rfl⟩ | exact ⟨15, rfl⟩ | exact ⟨16, rfl⟩ | exact ⟨17, rfl⟩ | exact ⟨18, rfl⟩ | assumption)
local macro_rules | `(tactic| fail "up") => `(tactic| first | exact ⟨0, rfl, rfl⟩ | exact ⟨1, rfl, rfl⟩ | exact ⟨2, rfl, rfl⟩ | exact ⟨3, rfl, rfl⟩ | exact ⟨4, rfl, rfl⟩ | exact ⟨5, rfl, rfl⟩ | exact ⟨6, rfl, rfl⟩ | exact ⟨7, rfl, rfl⟩ | exact ⟨8, rfl, rfl⟩ | exact ⟨9, rfl, rfl⟩ | exact ⟨10, rfl, rfl⟩ | exact ⟨11, rfl, rfl⟩ | exact ⟨12, rfl, rfl⟩ | exact ⟨13, rfl, rfl⟩ | exact ⟨14, rfl, rfl⟩ | exact ⟨15, rfl, rfl⟩ | exact ⟨16, rfl, rfl⟩ | assumption)
local macro_rules | `(tactic| fail "lkF") => `(tactic| first | assumption | exact fz_at 0 (by fail "nd") rfl rfl | exact fz_at 1 (by fail "nd") rfl rfl | exact fz_at 2 (by fail "nd") rfl rfl | exact fz_at 3 (by fail "nd") rfl rfl | exact fz_at 4 (by fail "nd") rfl rfl | exact fz_at 5 (by fail "nd") rfl rfl | exact fz_at 6 (by fail "nd") rfl rfl | exact fz_at 7 (by fail "nd") rfl rfl)
local macro_rules | `(tactic| fail "lkD") => `(tactic| first | assumption | exact dz_at 0 (by fail "nd") rfl rfl | exact dz_at 1 (by fail "nd") rfl rfl | exact dz_at 2 (by fail "nd") rfl rfl | exact dz_at 3 (by fail "nd") rfl rfl | exact dz_at 4 (by fail "nd") rfl rfl)
local macro_rules | `(tactic| fail "ptF") => `(tactic| first | assumption | exact fz_put 0 (by fail "nd") rfl (Nat.le_of_ble_eq_true rfl) | exact fz_put 1 (by fail "nd") rfl (Nat.le_of_ble_eq_true rfl) | exact fz_put 2 (by fail "nd") rfl (Nat.le_of_ble_eq_true rfl) | exact fz_put 3 (by fail "nd") rfl (Nat.le_of_ble_eq_true rfl) | exact fz_put 4 (by fail "nd") rfl (Nat.le_of_ble_eq_true rfl) | exact fz_put 5 (by fail "nd") rfl (Nat.le_of_ble_eq_true rfl) | exact fz_put 6 (by fail "nd") rfl (Nat.le_of_ble_eq_true rfl) | exact fz_put 7 (by fail "nd") rfl (Nat.le_of_ble_eq_true rfl) | exact fz_new (by decide +kernel) rfl)
local macro_rules | `(tactic| fail "ptD") => `(tactic| first | assumption | exact dz_put 0 (by fail "nd") rfl (Nat.le_of_ble_eq_true rfl) | exact dz_put 1 (by fail "nd") rfl (Nat.le_of_ble_eq_true rfl) | exact dz_put 2 (by fail "nd") rfl (Nat.le_of_ble_eq_true rfl) | exact dz_put 3 (by fail "nd") rfl (Nat.le_of_ble_eq_true rfl) | exact dz_put 4 (by fail "nd") rfl (Nat.le_of_ble_eq_true rfl))
local macro_rules | `(tactic| fail "sz") => `(tactic| first | assumption | exact (Nat.le_of_ble_eq_true rfl) | omega | decide)
local macro_rules | `(tactic| fail "sd") => `(tactic| first | rfl | assumption | decide | omega | (dsimp only; first | decide | omega) | exact .inr ⟨by decide, by decide⟩ | exact .inl ⟨by decide, by decide⟩ | exact ⟨by omega, by omega⟩ | exact .inl ⟨by omega, by omega⟩ | exact .inr ⟨by omega, by omega⟩ | exact ⟨by omega, by omega, by omega⟩)
local macro_rules | `(tactic| fail "cl") => `(tactic| (clear hH; dsimp only [List.set, List.cons_append, List.nil_append, List.append] at hL))
local macro_rules | `(tactic| fail "gn") => `(tactic| (intro p hp; generalize hH : upd H p _ = H; replace hL := Led.newH hL hp hH; clear hH hp))
local macro_rules | `(tactic| fail "gup") => `(tactic| (generalize hH : upd H _ _ = H; replace hL := Led.upU hL (by fail "up") hH; fail "cl"))
local macro_rules | `(tactic| fail "gmk") => `(tactic| (intro x dx hx hd ne; generalize hH : upd (upd H dx _) x _ = H; replace hL := Led.made hL hx hd ne hH; clear hH hx hd ne))
local macro_rules | `(tactic| fail "v") => `(tactic| refine ⟨_, rfl, ?_⟩)
local macro_rules | `(tactic| fail "i2") => `(tactic| refine ⟨_, _, rfl, rfl, ?_⟩)
local macro_rules | `(tactic| fail "go1") => `(tactic| first
  | refine ⟨_, rfl, ?_⟩
  | refine ⟨_, _, rfl, rfl, ?_⟩
  | refine ⟨_, _, rfl, ?_⟩
  | refine iteT ?_
  | refine iteF ?_
  | refine k_fld hL (by fail "ix") (by assumption) (by assumption) (by fail "lkF") ?_
  | refine k_dgetS hL (by fail "ix") (by fail "lkD") ?_
  | refine k_dgetI hL (by fail "ix") (by assumption) ?_
  | refine k_ixL hL (by fail "ix") (by first | rfl | assumption) ?_
  | refine k_ixT hL (by fail "ix") (by first | rfl | assumption) ?_
  | refine k_tyL hL (by fail "ix") ?_
  | refine k_isd hL (by fail "ix") ?_
  | (refine And.intro (by fail "sz") ?_; fail "gn")
  | refine And.intro (by fail "sd") ?_
  | fail "gn"
  | refine k_meth hL (by fail "ix") (by first | assumption | exact fz_no (by decide +kernel)) ?_
  | refine k_gtup hL (by fail "ix") rfl ?_
  | (refine k_popI hL (by fail "ix") (by assumption) ?_; fail "gup")
  | (refine k_listD hL (by fail "ix") ?_; fail "gn")
  | (refine ⟨_, _, _, _, rfl, rfl, hL.at (by fail "ix"), rfl, ?_⟩; fail "gup")
  | (refine ⟨_, _, _, rfl, rfl, hL.at (by fail "ix"), (by fail "sz"), ?_⟩; fail "gup")
  | (refine ⟨_, _, _, _, rfl, hL.at (by fail "ix"), by assumption, by assumption, Nat.lt_of_le_of_lt fz_len (by decide), ?_⟩; generalize hH : upd H _ _ = H; replace hL := Led.upF hL (by fail "up") (by fail "ptF") hH; fail "cl")
  | (refine ⟨_, _, hL.at (by fail "ix"), Nat.lt_of_le_of_lt fz_len (by decide), ?_⟩; generalize hH : upd H _ _ = H; replace hL := Led.upF hL (by fail "up") (by fail "ptF") hH; fail "cl")
  | (refine k_dputS hL (by fail "ix") (Nat.lt_of_le_of_lt dz_len (by decide)) (by fail "ptD") (by fail "up") ?_; clear hL; intro H hL; dsimp only [List.set, List.cons_append, List.nil_append, List.append] at hL)
  | refine k_lenL2 hL (by fail "ix") ?_
  | refine k_lenT2 hL (by fail "ix") ?_
  | refine .inl ⟨_, rfl, ?_⟩
  | refine .inr ⟨_, rfl, ?_⟩)
local macro_rules | `(tactic| fail "go") => `(tactic| repeat fail "go1")
local macro_rules | `(tactic| fail "pm") => `(tactic| (refine Led.le hL (fun a_ => ?_); simp only [cnt_nil, cnt_cons, cnt_app, List.map_append, List.map_cons, List.map_nil, List.flatMap_append, List.flatMap_cons, List.flatMap_nil, List.append_assoc, List.cons_append, List.nil_append]; omega))

def ShM (T : Tn) (mt hd : Addr) (σ : L2.St) : Prop := ∃ (v3 v7 v10 v11 v12 v13 v14 v15 v18 v19 v20 v21 : Option V), σ = [some (.ref T.a), some (.ref T.d), some (.ref T.od), v3, some (.ref T.ml), some (.ref T.al), some (.ref T.pn), v7, some (.ref T.fd), some (.ref T.xd), v10, v11, v12, v13, v14, v15, some (.ref mt), some (.ref hd), v18, v19, v20, v21]
def ML (CM CA CP : Addr) (T : Tn) (mt hd : Addr) (r : Rws) (mvs : List (Addr × MV)) (hs : List TupE) (x y z : Int) (R : Lg) : Lg := (mt, .tup (mvs.map mvV)) :: (hd, .dK (hs.map (kk tV))) :: (mvs.map mvO ++ (hs.map lstO ++ TLg CM CA CP T r x y z R))
/-- all but the old plan's dict -/
def TLo (CM CA CP : Addr) (T : Tn) (r : Rws) (x y z : Int) (R : Lg) : Lg := (T.fd, .dK (r.ts.map (kk tV))) :: (T.xd, .dK (r.l.map (kk lxV))) :: (T.ml, .lst (r.mrs.map mrV)) :: (T.al, .lst (r.prs.map paV)) ::
  (T.pn, .ins CP T.ds (fz nmP [.ref T.md, .ref T.pl, .ref T.ld])) :: (T.md, .dK (r.ms.map (kk mV))) :: (T.ld, .dK (lfK (r.ms.map (·.1)) r.g)) :: (T.pl, .lst (r.ps.map pV)) :: (T.d, dD x y z) ::
  (r.os.map tupO ++ (r.ms.map (mO CM) ++ (r.ps.map (pO CA) ++ (r.mrs.map mrO ++ (r.prs.map paO ++ (r.ts.map tupO ++ R))))))
def tS7 (CM CA CP : Addr) : TS := fun D σ H => ∃ (T : Tn) (zd lf : Addr) (r : Rws) (x y z : Int) (R : Lg), ShZ T zd lf σ ∧ TI r ∧ Led H (ZL CM CA CP T zd lf r x y z r.g R) ∧
  ∀ (mt hd : Addr) (mvs : List (Addr × MV)) (hs : List TupE) (srt : List Str) σ' H', ShM T mt hd σ' → SrtU r.os r.ts srt → mvs.map (·.2) = movesP (plF r.os) (plF r.ts) srt → plF hs = plF r.os → Led H' (ML CM CA CP T mt hd r mvs hs x y z R) → D.nx σ' H'
theorem OldOk.len {os : List TupE} (h : OldOk os) : os.length ≤ 8 := by
  have := nodup_len (U := pAll) h.nd h.sub
  rw [List.length_map] at this
  exact this
section
variable {P : Program} {w : World} {K : PySem.W.Frag} {mg : Str → Option Value} {base : Heap} {CM CA CP : Addr} {f : Addr} {cdv : Value} {A : Around} {outer : List Env} {s0 : Shared} {H0 : Hp} {E : XK}
theorem st_s7 (hr : Room 8 (LX P w K mg base f cdv A outer s0 H0 E).A) (T : TxtC mg) (c_moves_between : Cal P w K mg base 3 "moves_between" spMoves []) : PS (LX P w K mg base f cdv A outer s0 H0 E) (nth bodyT 7) (tS7 CM CA CP) := by
  refine ps_imp (t := _) (ps_asg (pe_tup (pa_cons (pe_c c_moves_between hr (by decide) (by rfl) (pa_cons (pv 2) (pa_cons (pv 8) pa_nil))) (pa_cons (pe_callTy (call_dictP rfl) (by rfl) T.dict (by decide +kernel) (pa_cons (pe_lock (pe_lc (own := [("name", 12)]) (g := gName 12) (by rfl) scLaw.nd (pi_keys (pv 2)) (blkOk_by (own := [("name", 12)]) (N := ["script", "dice", "old", "turn", "machines", "parts", "planner", "row", "found", "lacks", "zones", "left", "name", "weight", "copies", "one", "moves", "here", "gone", "come", "bad", "f"]) (sc := (defScope sLaw)) (by decide +kernel)) (fun _ _ _ _ _ => (pg_name (i := 12) scLaw.nd rfl (Or.inl rfl))) (fun _ _ _ _ _ => pts_nil) (fun _ _ _ _ _ => (pe_tup (pa_cons (pv 12) (pa_cons (pe_callTy call_list_ofB (by rfl) T.list (by decide +kernel) (pa_cons (pe_dget (hu_of hr) (pv 2) (pv 12) (fun _ _ => rfl)) pa_nil)) pa_nil)))))) pa_nil)) pa_nil))) (pg_tup (by rfl) (pgs_cons (pg_name (i := 16) scLaw.nd rfl (Or.inl rfl)) (pgs_cons (pg_name (i := 17) scLaw.nd rfl (Or.inr rfl)) pgs_nil)))) ?_
  rintro D σ H ⟨T, zd, lf, r, x, y, z, R, ⟨v3, v7, v12, v13, v14, v15, v16, v17, v18, v19, v20, v21, rfl⟩, ti, hL, k⟩
  have okO := ti.ok
  have okT := ti.new
  have zo := okO.len
  have zt := okT.len
  unfold ZL TLg at hL
  refine ⟨_, rfl, _, rfl, T.od, T.fd, r.os, r.ts, (T.xd, .dK (r.l.map (kk lxV))) :: (T.ml, .lst (r.mrs.map mrV)) :: (T.al, .lst (r.prs.map paV)) ::
    (T.pn, .ins CP T.ds (fz nmP [.ref T.md, .ref T.pl, .ref T.ld])) :: (T.md, .dK (r.ms.map (kk mV))) :: (T.ld, .dK (lfK (r.ms.map (·.1)) r.g)) :: (T.pl, .lst (r.ps.map pV)) :: (T.d, dD x y z) ::
    (r.ms.map (mO CM) ++ (r.ps.map (pO CA) ++ (r.mrs.map mrO ++ (r.prs.map paO ++ R)))), rfl, by omega, by omega, fun k => Nat.le_trans (okO.rows k).2 (by decide), fun k => Nat.le_trans (okT.rows k).2 (by decide), by unfold VL; (refine Led.le hL (fun a_ => ?_); simp only [cnt_nil, cnt_cons, cnt_app, List.map_append, List.map_cons, List.map_nil, List.flatMap_append, List.flatMap_cons, List.flatMap_nil, List.append_assoc, List.cons_append, List.nil_append]; omega), fun mt mvs srt H su hmv hL => ?_⟩
  replace hL : Led H ((T.od, .dK (r.os.map (kk tV))) :: (mt, .tup (mvs.map mvV)) :: (mvs.map mvO ++ TLo CM CA CP T r x y z R)) := by
    unfold VL at hL
    unfold TLo
    (refine Led.le hL (fun a_ => ?_); simp only [cnt_nil, cnt_cons, cnt_app, List.map_append, List.map_cons, List.map_nil, List.flatMap_append, List.flatMap_cons, List.flatMap_nil, List.append_assoc, List.cons_append, List.nil_append]; omega)
  have hmem : ∀ e ∈ r.os, tupO e ∈ TLo CM CA CP T r x y z R := fun e he => (.tail _ (.tail _ (.tail _ (.tail _ (.tail _ (.tail _ (.tail _ (.tail _ (.tail _ (List.mem_append_left _ (List.mem_map.mpr ⟨e, he, rfl⟩)))))))))))
  refine ⟨T.od, _, hL.at ⟨0, rfl⟩, trivial, fun od1 => ?_⟩
  generalize hH : upd H T.od _ = H
  replace hL := Led.upU hL (o' := .frz od1 (.dK (r.os.map (kk tV)))) (by fail "up") hH
  fail "cl"
  fail "go"
  refine ⟨T.od, od1, rfl, .inl ⟨_, hL.at ⟨0, rfl⟩, fun D3 hD3 => lc_it (walk_keys (kvs := r.os.map (kk tV))) (fun i H => Hold (∃ tl : List (Addr × TupE), plF (tl.map (·.2)) = (plF r.os).take i ∧ Led H ((D3, .lst ((tl.map (·.1)).map V.ref)) :: (T.od, .frz od1 (.dK (r.os.map (kk tV)))) :: (mt, .tup (mvs.map mvV)) :: (tl.map pairO ++ ((tl.map (·.2)).map lstO ++ (mvs.map mvO ++ TLo CM CA CP T r x y z R))))))
    (.mk ⟨[], rfl, hL.new hD3⟩) (fun i H _ h => ?_) (fun i v H1 H hi h hy => ?_) (fun H h => ?_)⟩⟩
  · obtain ⟨ts, _, hL⟩ := h.out
    exact hL.mem (.tail _ (.head _))
  · clear hL
    obtain ⟨tl, htl, hL⟩ := h.out
    clear h
    obtain ⟨rfl, kx, vx, hk, rfl⟩ := hy
    rw [List.getElem?_map] at hk
    obtain ⟨e, hee, hk⟩ := Option.map_eq_some_iff.mp hk
    obtain ⟨rfl, rfl⟩ := Prod.mk.inj hk
    have hm := List.mem_of_getElem? hee
    have lk : valV (r.os.map (kk tV)) (Sum.inr e.1) = some (.ref e.2.1) := by rw [tv_val, mem_aget okO.nd (k := e.1) (v := e.2) hm]; rfl
    have hpe : (plF r.os)[i]? = some (e.1, e.2.2) := by unfold plF; rw [List.getElem?_map, hee]; rfl
    have hl2 : tl.length < 60 := by
      have := congrArg List.length htl
      rw [plF_len, List.length_map, List.length_take, plF_len] at this
      omega
    refine ⟨rfl, k_yes ?_⟩
    fail "go"
    refine k_dgetFS hL ⟨1, rfl⟩ lk ?_
    refine ⟨_, _, rfl, .inr (.of (hL.mem (.tail _ (.tail _ (.tail _ (List.mem_append_right _ (List.mem_append_right _ (List.mem_append_right _ (hmem e hm))))))))), fun t ht => ?_⟩
    generalize hH : upd H t _ = H
    replace hL := Led.newH hL ht hH
    clear hH ht
    fail "go"
    refine ⟨_, hL.at ⟨2, rfl⟩, by rw [List.length_map, List.length_map]; exact small60 hl2, ?_⟩
    fail "gup"
    refine .mk ⟨tl ++ [(p, (e.1, (t, e.2.2)))], ?_, ?_⟩
    · rw [List.map_append, List.take_add_one, hpe, ← htl]
      unfold plF
      rw [List.map_append]
      rfl
    · (refine Led.le hL (fun a_ => ?_); simp only [cnt_nil, cnt_cons, cnt_app, List.map_append, List.map_cons, List.map_nil, List.flatMap_append, List.flatMap_cons, List.flatMap_nil, List.append_assoc, List.cons_append, List.nil_append, lstO, pairO, kV]; omega)
  clear hL
  obtain ⟨tl, htl, hL⟩ := h.out
  clear h
  rw [List.length_map, ← plF_len, List.take_length] at htl
  refine ⟨hL.at ⟨1, rfl⟩, ?_⟩
  generalize hH : upd H T.od _ = H
  replace hL := Led.upU hL (o' := .dK (r.os.map (kk tV))) (by fail "up") hH
  fail "cl"
  have hnt : ((tl.map (·.2)).map (·.1)).Nodup := by rw [← plF_ns, htl, plF_ns]; exact okO.nd
  fail "go"
  refine ⟨D3, tl.map (·.1), (tl.map (·.2)).map (kk tV), rfl, .of (hL.at ⟨0, rfl⟩), ?_, fun t ht => ?_⟩
  · rw [List.map_map]
    exact paired_map fun x hx => .of (hL.mem (.tail _ (.tail _ (.tail _ (List.mem_append_left _ (List.mem_map.mpr ⟨x, hx, rfl⟩))))))
  rw [mergeK_nd _ _ (by
    rw [List.nil_append, kk_names]
    exact hnt.map _ fun a b h e => h (Sum.inr.inj e)), List.nil_append]
  generalize hH : upd H t _ = H
  replace hL := Led.newH hL ht hH
  clear hH ht
  fail "go"
  refine k mt t mvs (tl.map (·.2)) srt _ _ ⟨_, _, _, _, _, _, _, _, _, _, _, _, rfl⟩ su hmv htl ?_
  unfold ML TLg
  unfold TLo at hL
  (refine Led.le hL (fun a_ => ?_); simp only [cnt_nil, cnt_cons, cnt_app, List.map_append, List.map_cons, List.map_nil, List.flatMap_append, List.flatMap_cons, List.flatMap_nil, List.append_assoc, List.cons_append, List.nil_append]; omega)
end
end Sd


set_option linter.unusedVariables false
namespace Sd
open PySem L2
open PyProof.Rows (sortedS)
open C8 (Cal Met Mak pe_c pe_mk pe_mt pe_mt0 pss_cut tCut)
set_option linter.unusedSimpArgs false
set_option pp.deepTerms false
set_option pp.deepTerms.threshold 12
set_option hygiene false
local macro_rules | `(tactic| fail "nd") => `(tactic| first | assumption | decide +kernel)
local macro_rules | `(tactic| fail "ix") => `(tactic| first | exact ⟨0, rfl⟩ | exact ⟨1, rfl⟩ | exact ⟨2, rfl⟩ | exact ⟨3, rfl⟩ | exact ⟨4, rfl⟩ | exact ⟨5, rfl⟩ | exact ⟨6, rfl⟩ | exact ⟨7, rfl⟩ | exact ⟨8, rfl⟩ | exact ⟨9, rfl⟩ | exact ⟨10, rfl⟩ | exact ⟨11, rfl⟩ | exact ⟨12, rfl⟩ | exact ⟨13, rfl⟩ | exact ⟨14, rfl⟩ | exact ⟨15, rfl⟩ | exact ⟨16, rfl⟩ | exact ⟨17, rfl⟩ | exact ⟨18, rfl⟩ | assumption)
local macro_rules | `(tactic| fail "up") => `(tactic| first | exact ⟨0, rfl, rfl⟩ | exact ⟨1, rfl, rfl⟩ | exact ⟨2, rfl, rfl⟩ | exact ⟨3, rfl, rfl⟩ | exact ⟨4, rfl, rfl⟩ | exact ⟨5, rfl, rfl⟩ | exact ⟨6, rfl, rfl⟩ | exact ⟨7, rfl, rfl⟩ | exact ⟨8, rfl, rfl⟩ | exact ⟨9, rfl, rfl⟩ | exact ⟨10, rfl, rfl⟩ | exact ⟨11, rfl, rfl⟩ | exact ⟨12, rfl, rfl⟩ | exact ⟨13, rfl, rfl⟩ | exact ⟨14, rfl, rfl⟩ | exact ⟨15, rfl, rfl⟩ | exact ⟨16, rfl, rfl⟩ | assumption)
local macro_rules | `(tactic| fail "lkF") => `(tactic| first | assumption | exact fz_at 0 (by fail "nd") rfl rfl | exact fz_at 1 (by fail "nd") rfl rfl | exact fz_at 2 (by fail "nd") rfl rfl | exact fz_at 3 (by fail "nd") rfl rfl | exact fz_at 4 (by fail "nd") rfl rfl | exact fz_at 5 (by fail "nd") rfl rfl | exact fz_at 6 (by fail "nd") rfl rfl | exact fz_at 7 (by fail "nd") rfl rfl)
local macro_rules | `(tactic| fail "lkD") => `(tactic| first | assumption | exact dz_at 0 (by fail "nd") rfl rfl | exact dz_at 1 (by fail "nd") rfl rfl | exact dz_at 2 (by fail "nd") rfl rfl | exact dz_at 3 (by fail "nd") rfl rfl | exact dz_at 4 (by fail "nd") rfl rfl)
local macro_rules | `(tactic| fail "ptF") => `(tactic| first | assumption | exact fz_put 0 (by fail "nd") rfl (Nat.le_of_ble_eq_true rfl) | exact fz_put 1 (by fail "nd") rfl (Nat.le_of_ble_eq_true rfl) | exact fz_put 2 (by fail "nd") rfl (Nat.le_of_ble_eq_true rfl) | exact fz_put 3 (by fail "nd") rfl (Nat.le_of_ble_eq_true rfl) | exact fz_put 4 (by fail "nd") rfl (Nat.le_of_ble_eq_true rfl) | exact fz_put 5 (by fail "nd") rfl (Nat.le_of_ble_eq_true rfl) | exact fz_put 6 (by fail "nd") rfl (Nat.le_of_ble_eq_true rfl) | exact fz_put 7 (by fail "nd") rfl (Nat.le_of_ble_eq_true rfl) | exact fz_new (by decide +kernel) rfl)
local macro_rules | `(tactic| fail "ptD") => `(tactic| first | assumption | exact dz_put 0 (by fail "nd") rfl (Nat.le_of_ble_eq_true rfl) | exact dz_put 1 (by fail "nd") rfl (Nat.le_of_ble_eq_true rfl) | exact dz_put 2 (by fail "nd") rfl (Nat.le_of_ble_eq_true rfl) | exact dz_put 3 (by fail "nd") rfl (Nat.le_of_ble_eq_true rfl) | exact dz_put 4 (by fail "nd") rfl (Nat.le_of_ble_eq_true rfl))
local macro_rules | `(tactic| fail "sz") => `(tactic| first | assumption | exact (Nat.le_of_ble_eq_true rfl) | omega | decide)
local macro_rules | `(tactic| fail "sd") => `(tactic| first | rfl | assumption | decide | omega | (dsimp only; first | decide | omega) | exact .inr ⟨by decide, by decide⟩ | exact .inl ⟨by decide, by decide⟩ | exact ⟨by omega, by omega⟩ | exact .inl ⟨by omega, by omega⟩ | exact .inr ⟨by omega, by omega⟩ | exact ⟨by omega, by omega, by omega⟩)
local macro_rules | `(tactic| fail "cl") => `(tactic| (clear hH; dsimp only [List.set, List.cons_append, List.nil_append, List.append] at hL))
local macro_rules | `(tactic| fail "gn") => `(tactic| (intro p hp; generalize hH : upd H p _ = H; replace hL := Led.newH hL hp hH; clear hH hp))
local macro_rules | `(tactic| fail "gup") => `(tactic| (generalize hH : upd H _ _ = H; replace hL := Led.upU hL (by fail "up") hH; fail "cl"))
local macro_rules | `(tactic| fail "gmk") => `(tactic| (intro x dx hx hd ne; generalize hH : upd (upd H dx _) x _ = H; replace hL := Led.made hL hx hd ne hH; clear hH hx hd ne))
local macro_rules | `(tactic| fail "v") => `(tactic| refine ⟨_, rfl, ?_⟩)
local macro_rules | `(tactic| fail "i2") => `(tactic| refine ⟨_, _, rfl, rfl, ?_⟩)
local macro_rules | `(tactic| fail "go1") => `(tactic| first
  | refine ⟨_, rfl, ?_⟩
  | refine ⟨_, _, rfl, rfl, ?_⟩
  | refine ⟨_, _, rfl, ?_⟩
  | refine iteT ?_
  | refine iteF ?_
  | refine k_fld hL (by fail "ix") (by assumption) (by assumption) (by fail "lkF") ?_
  | refine k_dgetS hL (by fail "ix") (by fail "lkD") ?_
  | refine k_dgetI hL (by fail "ix") (by assumption) ?_
  | refine k_ixL hL (by fail "ix") (by first | rfl | assumption) ?_
  | refine k_ixT hL (by fail "ix") (by first | rfl | assumption) ?_
  | refine k_tyL hL (by fail "ix") ?_
  | refine k_isd hL (by fail "ix") ?_
  | (refine And.intro (by fail "sz") ?_; fail "gn")
  | refine And.intro (by fail "sd") ?_
  | fail "gn"
  | refine k_meth hL (by fail "ix") (by first | assumption | exact fz_no (by decide +kernel)) ?_
  | refine k_gtup hL (by fail "ix") rfl ?_
  | (refine k_popI hL (by fail "ix") (by assumption) ?_; fail "gup")
  | (refine k_listD hL (by fail "ix") ?_; fail "gn")
  | (refine ⟨_, _, _, _, rfl, rfl, hL.at (by fail "ix"), rfl, ?_⟩; fail "gup")
  | (refine ⟨_, _, _, rfl, rfl, hL.at (by fail "ix"), (by fail "sz"), ?_⟩; fail "gup")
  | (refine ⟨_, _, _, _, rfl, hL.at (by fail "ix"), by assumption, by assumption, Nat.lt_of_le_of_lt fz_len (by decide), ?_⟩; generalize hH : upd H _ _ = H; replace hL := Led.upF hL (by fail "up") (by fail "ptF") hH; fail "cl")
  | (refine ⟨_, _, hL.at (by fail "ix"), Nat.lt_of_le_of_lt fz_len (by decide), ?_⟩; generalize hH : upd H _ _ = H; replace hL := Led.upF hL (by fail "up") (by fail "ptF") hH; fail "cl")
  | (refine k_dputS hL (by fail "ix") (Nat.lt_of_le_of_lt dz_len (by decide)) (by fail "ptD") (by fail "up") ?_; clear hL; intro H hL; dsimp only [List.set, List.cons_append, List.nil_append, List.append] at hL)
  | refine k_lenL2 hL (by fail "ix") ?_
  | refine k_lenT2 hL (by fail "ix") ?_
  | refine .inl ⟨_, rfl, ?_⟩
  | refine .inr ⟨_, rfl, ?_⟩)
local macro_rules | `(tactic| fail "go") => `(tactic| repeat fail "go1")
local macro_rules | `(tactic| fail "pm") => `(tactic| (refine Led.le hL (fun a_ => ?_); simp only [cnt_nil, cnt_cons, cnt_app, List.map_append, List.map_cons, List.map_nil, List.flatMap_append, List.flatMap_cons, List.flatMap_nil, List.append_assoc, List.cons_append, List.nil_append]; omega))

theorem aput_len {α : Type} {k : Str} {v : α} {l : List (Str × α)} : (aput l k v).length ≤ l.length + 1 := by
  by_cases h : k ∈ l.map (·.1)
  · have := congrArg List.length (aput_names_in (v := v) h)
    rw [List.length_map, List.length_map] at this
    omega
  · rw [aput_names_out h, List.length_append, List.length_singleton]
    omega
theorem here_size : ∀ (ms : List MV) (h : FT), (hereP h ms).length ≤ h.length + ms.length
  | [], h => Nat.le_refl _
  | m :: ms, h => by
    have h1 := here_size ms (hereS h m)
    have h2 := aput_len (k := m.1) (v := stepL (oldOf h m.1) m) (l := h)
    rw [List.length_cons]
    show (hereP (hereS h m) ms).length ≤ _
    unfold hereS at h1
    unfold hereS
    omega
theorem step_len {l : List Str} {m : MV} : (stepL l m).length ≤ l.length + 1 := by
  unfold stepL
  rw [List.length_append]
  have h1 := List.length_filter_le (fun n => decide (some n ≠ m.2.1)) l
  have h2 : m.2.2.toList.length ≤ 1 := by cases m.2.2 <;> simp
  omega
theorem here_len (k : Str) : ∀ (ms : List MV) (h : FT), (oldOf (hereP h ms) k).length ≤ (oldOf h k).length + ms.length
  | [], h => Nat.le_refl _
  | m :: ms, h => by
    have h1 := here_len k ms (hereS h m)
    have h2 := step_len (l := oldOf h m.1) (m := m)
    have h3 : (oldOf (hereS h m) k).length ≤ (oldOf h k).length + 1 := by
      unfold hereS
      rw [oldOf_put]
      by_cases e : m.1 = k
      · rw [if_pos e, ← e]; exact h2
      · rw [if_neg e]; omega
    rw [List.length_cons]
    show (oldOf (hereP (hereS h m) ms) k).length ≤ _
    omega
theorem here_nd : ∀ (ms : List MV) (h : FT), (h.map (·.1)).Nodup → ((hereP h ms).map (·.1)).Nodup
  | [], h, nd => nd
  | m :: ms, h, nd => here_nd ms _ (aput_nd nd)
theorem here_get {os : List TupE} {k : Str} {p : Addr} : ∃ nt, ((valV (os.map (kk tV)) (Sum.inr k)).getD (.ref p)) = .ref nt ∧ ((nt, HO.lst ((oldOf (plF os) k).map V.str)) ∈ (p, HO.lst []) :: os.map lstO) := by
  rw [tv_val]
  unfold oldOf
  rw [plF_get]
  cases h : aget os k with
  | none => exact ⟨p, rfl, .head _⟩
  | some d => exact ⟨d.1, rfl, .tail _ (List.mem_map.mpr ⟨_, aget_mem h, rfl⟩)⟩
theorem SrtU.len {os ns : List TupE} {srt : List Str} (h : SrtU os ns srt) (h1 : OldOk os) (h2 : OldOk ns) : srt.length ≤ 8 := nodup_len (U := pAll) h.nd fun k hk => by
  rcases (h.mem k).mp hk with q | q
  · exact h1.sub k q
  · exact h2.sub k q
theorem es_le {es : List TupE} {k : Str} {d' : Addr × List Str} : ∀ a, cnt a ((aput es k d').map lstO) ≤ one1 a (lstO (k, d')) + cnt a (es.map lstO) := fun a => by
  by_cases h : k ∈ es.map (·.1)
  · obtain ⟨d, hd⟩ := aget_in h
    obtain ⟨R1, h1⟩ := es_cnt hd
    have h2 := h1 d' a
    have h3 := h1 d a
    rw [aput_self hd] at h3
    omega
  · rw [aput_names_out h, List.map_append, cnt_app, List.map_cons, List.map_nil, cnt_cons, cnt_nil]
    omega
def tS8 (CM CA CP : Addr) : TS := fun D σ H => ∃ (T : Tn) (mt hd : Addr) (r : Rws) (mvs : List (Addr × MV)) (hs : List TupE) (x y z : Int) (R : Lg), ShM T mt hd σ ∧ mvs.length ≤ 100 ∧ (hs.map (·.1)).Nodup ∧ hs.length ≤ 100 ∧ (∀ k, (oldOf (plF hs) k).length ≤ 100) ∧ Led H (ML CM CA CP T mt hd r mvs hs x y z R) ∧
  ∀ (hs' : List TupE) σ' H', ShM T mt hd σ' → plF hs' = hereP (plF hs) (mvs.map (·.2)) → Led H' (ML CM CA CP T mt hd r mvs hs' x y z R) → D.nx σ' H'
section
variable {P : Program} {w : World} {K : PySem.W.Frag} {mg : Str → Option Value} {base : Heap} {CM CA CP : Addr} {f : Addr} {cdv : Value} {A : Around} {outer : List Env} {s0 : Shared} {H0 : Hp} {E : XK}
theorem st_s8 (hr : Room 8 (LX P w K mg base f cdv A outer s0 H0 E).A) (T : TxtC mg) : PS (LX P w K mg base f cdv A outer s0 H0 E) (nth bodyT 8) (tS8 CM CA CP) := by
  refine ps_imp (t := _) (ps_for PassesOwn.never rfl (pi_tup (pv 16)) (pg_tup (by rfl) (pgs_cons (pg_name (i := 12) scLaw.nd rfl (Or.inl rfl)) (pgs_cons (pg_name (i := 18) scLaw.nd rfl (Or.inr rfl)) (pgs_cons (pg_name (i := 19) scLaw.nd rfl (Or.inl rfl)) pgs_nil))))
  (pss_one (ps_dput (hu_of hr) (pv 17) (pv 12) (pe_op op_cat (pe_lc (own := [("one", 15)]) (g := gName 15) (by rfl) scLaw.nd (pi_list (pe_dget2 (hu_of hr) (pv 17) (pv 12) (pe_lst pa_nil) ⟨rfl, rfl, rfl, rfl⟩)) (blkOk_by (own := [("one", 15)]) (N := ["script", "dice", "old", "turn", "machines", "parts", "planner", "row", "found", "lacks", "zones", "left", "name", "weight", "copies", "one", "moves", "here", "gone", "come", "bad", "f"]) (sc := (defScope sLaw)) (by decide +kernel)) (fun _ _ _ _ _ => (pg_name (i := 15) scLaw.nd rfl (Or.inl rfl))) (fun _ _ _ _ _ => (pts_one (pt_cmpR op_ne (pv 15) (pv 18) (nomark _)))) (fun _ _ _ _ _ => (pv 15))) (pe_op op_rep (pe_lst (pa_cons (pv 19) pa_nil)) (pe_callTy call_int1 (by rfl) T.int (by decide +kernel) (pa_cons (pe_cmpR op_notN (pv 19) pe_non (nomark _)) pa_nil)))) rfl))) ?_
  rintro D σ H ⟨T, mt, hd, r, mvs, hs, x, y, z, R, ⟨v3, v7, v10, v11, v12, v13, v14, v15, v18, v19, v20, v21, rfl⟩, zm, nd, zh, zl, hL, k⟩
  refine ⟨_, rfl, mt, rfl, ⟨_, .of (hL.at ⟨0, rfl⟩)⟩, for_tupA (K := K) (a := mt) (xs := mvs.map mvV) (fun i σ H => Hold (ShM T mt hd σ ∧ ∃ hs' : List TupE, plF hs' = hereP (plF hs) ((mvs.map (·.2)).take i) ∧ Led H (ML CM CA CP T mt hd r mvs hs' x y z R))) (.mk ⟨⟨_, _, _, _, _, _, _, _, _, _, _, _, rfl⟩, hs, rfl, hL⟩) (fun i σ H _ h => ?_) (fun i x' σ H D' hi h hD' => ?_) (fun σ H h => ?_)⟩
  · obtain ⟨_, hs', _, hL⟩ := h.out
    exact .of (hL.at ⟨0, rfl⟩)
  · clear hL
    obtain ⟨⟨v3, v7, v10, v11, v12, v13, v14, v15, v18, v19, v20, v21, rfl⟩, hs', he, hL⟩ := h.out
    clear h
    rw [List.getElem?_map] at hi
    obtain ⟨e, hpe, rfl⟩ := Option.map_eq_some_iff.mp hi
    obtain ⟨ea, nm, gone, come⟩ := e
    have hem := List.mem_of_getElem? hpe
    have hpl : (mvs.map (·.2))[i]? = some (nm, gone, come) := by rw [List.getElem?_map, hpe]; rfl
    have step : hereP (plF hs) ((mvs.map (·.2)).take (i + 1)) = aput (plF hs') nm (stepL (oldOf (plF hs') nm) (nm, gone, come)) := by
      rw [he]
      unfold hereP
      rw [List.take_add_one, hpl, Option.toList_some, List.foldl_append]; rfl
    have hil : i < mvs.length := (List.getElem?_eq_some_iff.mp hpe).1
    have htl : ((mvs.map (·.2)).take i).length ≤ 100 := by rw [List.length_take, List.length_map]; omega
    have z1 : hs'.length ≤ 200 := by
      have h1 := here_size ((mvs.map (·.2)).take i) (plF hs)
      rw [← he, plF_len, plF_len] at h1
      omega
    have z2 : (oldOf (plF hs') nm).length ≤ 200 := by
      have h1 := here_len nm ((mvs.map (·.2)).take i) (plF hs)
      rw [← he] at h1
      have := zl nm
      omega
    have nd' : (hs'.map (·.1)).Nodup := by
      rw [← plF_ns, he]
      exact here_nd _ _ (by rw [plF_ns]; exact nd)
    unfold ML at hL
    refine k_gtup hL (at_mem (.tail _ (.tail _ (List.mem_append_left _ (List.mem_map.mpr ⟨_, hem, rfl⟩))))) rfl ?_
    fail "go"
    rename Addr => p0
    obtain ⟨nt, hnt, hnm⟩ := here_get (os := hs') (k := nm) (p := p0)
    have hmem : (nt, HO.lst ((oldOf (plF hs') nm).map V.str)) ∈ (p0, HO.lst []) :: (mt, HO.tup (mvs.map mvV)) :: (hd, .dK (hs'.map (kk tV))) :: (mvs.map mvO ++ (hs'.map lstO ++ TLg CM CA CP T r x y z R)) := by
      rcases List.mem_cons.mp hnm with e | hy
      · rw [e]; exact .head _
      · exact (.tail _ (.tail _ (.tail _ (List.mem_append_right _ (List.mem_append_left _ hy)))))
    refine k_getS hL ⟨2, rfl⟩ ?_
    rw [hnt]
    generalize hlo : oldOf (plF hs') nm = l at z2 step hmem
    obtain ⟨L0, hL0⟩ : ∃ L0, L0 = (p0, HO.lst []) :: (mt, HO.tup (mvs.map mvV)) :: (hd, HO.dK (hs'.map (kk tV))) :: (mvs.map mvO ++ (hs'.map lstO ++ TLg CM CA CP T r x y z R)) := ⟨_, rfl⟩
    rw [← hL0] at hL hmem
    refine ⟨nt, rfl, ⟨_, .of (hL.mem hmem)⟩, fun D1 hD1 => lc_list (K := K) (a := nt) (xs := l.map V.str) (fun j H => Hold (Led H ((D1, .lst (((l.take j).filter fun n => decide (some n ≠ gone)).map V.str)) :: L0))) (.mk (hL.new hD1)) (fun j H _ h => .of (h.out.mem (.tail _ hmem))) (fun j v H hj h => ?_) (fun H h => ?_)⟩
    · clear hL
      have hL := h.out
      clear h
      rw [List.getElem?_map] at hj
      obtain ⟨n, hn, rfl⟩ := Option.map_eq_some_iff.mp hj
      have fs := filt_snoc (f := fun n => decide (some n ≠ gone)) hn
      have hll := List.length_filter_le (fun n => decide (some n ≠ gone)) (l.take j)
      rw [List.length_take] at hll
      have hdec : (!decide (V.str n = optV gone)) = decide (some n ≠ gone) := by
        cases gone with
        | none => simp [optV]
        | some g =>
          by_cases q : n = g
          · subst q; simp [optV]
          · have q1 : ¬ V.str n = V.str g := fun e => q (V.str.inj e)
            simp [optV, q, q1]
      have hsc : scal (V.str n) (optV gone) = true := by cases gone <;> rfl
      refine ⟨rfl, ?_⟩
      refine ⟨_, rfl, _, rfl, hsc, _, rfl, ?_⟩
      rw [hdec]
      by_cases q : decide (some n ≠ gone) = true
      · rw [if_pos q] at fs
        rw [q, if_pos rfl]
        refine ⟨_, rfl, _, hL.at ⟨0, rfl⟩, by rw [List.length_map]; exact Nat.lt_of_lt_of_le (show _ < 3000 by omega) (by decide), ?_⟩
        generalize hH : upd H D1 _ = H
        replace hL := Led.upU hL (by fail "up") hH
        fail "cl"
        refine .mk ?_
        rw [fs, List.map_append]
        exact hL
      · rw [if_neg q] at fs
        rw [(Bool.not_eq_true _).mp q, if_neg (by decide)]
        refine .mk ?_
        rw [fs]
        exact hL
    clear hL
    have hL := h.out
    clear h
    rw [List.length_map, List.take_length] at hL
    refine ⟨_, rfl, show 1 ≤ sizeLine by decide, fun p hp => ?_⟩
    generalize hH : upd H p _ = H
    replace hL := Led.newH hL hp hH
    clear hH hp
    refine ⟨_, rfl, rfl, .inr ⟨_, rfl, ?_⟩⟩
    have hk : ∃ k : Int, (if (!decide (optV come = V.non)) = true then (1 : Int) else 0) = k ∧ (k = 0 ∨ k = 1) ∧ (List.replicate k.toNat [optV come]).flatten = (come.toList.map V.str) := by
      cases come with
      | none => exact ⟨0, rfl, .inl rfl, rfl⟩
      | some c => exact ⟨1, rfl, .inr rfl, rfl⟩
    obtain ⟨kk1, hk1, hk2, hk3⟩ := hk
    refine ⟨p, kk1, [optV come], rfl, by exact congrArg V.int hk1, hL.at ⟨0, rfl⟩, by omega, by omega, by
      rw [List.length_singleton, Nat.one_mul]
      exact Nat.le_trans (show kk1.toNat ≤ 1 by omega) (by decide), fun q hq => ?_⟩
    rw [hk3]
    generalize hH : upd H q _ = H
    replace hL := Led.newH hL hq hH
    clear hH hq
    have hcl : come.toList.length ≤ 1 := by cases come <;> simp
    have hfl := List.length_filter_le (fun n => decide (some n ≠ gone)) l
    refine k_cat hL (by fail "ix") (by fail "ix") (by
      rw [List.length_map, List.length_map]
      exact Nat.le_trans (show _ ≤ 300 by omega) (by decide)) fun u hu => ?_
    generalize hH : upd H u _ = H
    replace hL := Led.newH hL hu hH
    clear hH hu
    have hst : (l.filter fun n => decide (some n ≠ gone)).map V.str ++ come.toList.map V.str = (stepL l (nm, gone, come)).map V.str := by
      unfold stepL
      rw [List.map_append]
    rw [hst, hL0] at hL
    refine ⟨_, rfl, _, rfl, ?_⟩
    refine k_dputS (kvs' := (aput hs' nm (u, stepL l (nm, gone, come))).map (kk tV)) hL ⟨6, rfl⟩ (by rw [List.length_map]; exact Nat.lt_of_le_of_lt z1 (by decide)) (kk_put (vo := tV) (v := (u, stepL l (nm, gone, come))) nd') (by fail "up") fun H hL => ?_
    dsimp only [List.set] at hL
    refine hD'.nx _ _ (.mk ⟨⟨_, _, _, _, _, _, _, _, _, _, _, _, rfl⟩, aput hs' nm (u, stepL l (nm, gone, come)), ?_, ?_⟩)
    · rw [step, plF_put]
    · have hc := es_le (es := hs') (k := nm) (d' := (u, stepL l (nm, gone, come)))
      unfold ML
      (refine Led.le hL (fun a_ => ?_); have q0_ := hc a_; (try dsimp only at q0_); (try simp only [cnt_nil, cnt_cons, cnt_app, List.map_append, List.map_cons, List.map_nil, List.flatMap_append, List.flatMap_cons, List.flatMap_nil, List.append_assoc, List.cons_append, List.nil_append, lstO] at q0_); simp only [cnt_nil, cnt_cons, cnt_app, List.map_append, List.map_cons, List.map_nil, List.flatMap_append, List.flatMap_cons, List.flatMap_nil, List.append_assoc, List.cons_append, List.nil_append, lstO]; omega)
  · obtain ⟨sh, hs', he, hL⟩ := h.out
    rw [List.length_map, show mvs.length = (mvs.map (·.2)).length by rw [List.length_map], List.take_length] at he
    exact k hs' _ _ sh he hL
end
end Sd


set_option linter.unusedVariables false
namespace Sd
open PySem L2
open PyProof.Rows (sortedS)
open C8 (Cal Met Mak pe_c pe_mk pe_mt pe_mt0 pss_cut tCut)
set_option linter.unusedSimpArgs false
set_option pp.deepTerms false
set_option pp.deepTerms.threshold 12
set_option hygiene false
local macro_rules | `(tactic| fail "nd") => `(tactic| first | assumption | decide +kernel)
local macro_rules | `(tactic| fail "ix") => `(tactic| first | exact ⟨0, rfl⟩ | exact ⟨1, rfl⟩ | exact ⟨2, rfl⟩ | exact ⟨3, rfl⟩ | exact ⟨4, rfl⟩ | exact ⟨5, rfl⟩ | exact ⟨6, rfl⟩ | exact ⟨7, rfl⟩ | exact ⟨8, rfl⟩ | exact ⟨9, rfl⟩ | exact ⟨10, rfl⟩ | exact ⟨11, rfl⟩ | exact ⟨12, rfl⟩ | exact ⟨13, rfl⟩ | exact ⟨14, rfl⟩ | exact ⟨15, rfl⟩ | exact ⟨16, rfl⟩ | exact ⟨17, rfl⟩ | exact ⟨18, rfl⟩ | assumption)
local macro_rules | `(tactic| fail "up") => `(tactic| first | exact ⟨0, rfl, rfl⟩ | exact ⟨1, rfl, rfl⟩ | exact ⟨2, rfl, rfl⟩ | exact ⟨3, rfl, rfl⟩ | exact ⟨4, rfl, rfl⟩ | exact ⟨5, rfl, rfl⟩ | exact ⟨6, rfl, rfl⟩ | exact ⟨7, rfl, rfl⟩ | exact ⟨8, rfl, rfl⟩ | exact ⟨9, rfl, rfl⟩ | exact ⟨10, rfl, rfl⟩ | exact ⟨11, rfl, rfl⟩ | exact ⟨12, rfl, rfl⟩ | exact ⟨13, rfl, rfl⟩ | exact ⟨14, rfl, rfl⟩ | exact ⟨15, rfl, rfl⟩ | exact ⟨16, rfl, rfl⟩ | assumption)
local macro_rules | `(tactic| fail "lkF") => `(tactic| first | assumption | exact fz_at 0 (by fail "nd") rfl rfl | exact fz_at 1 (by fail "nd") rfl rfl | exact fz_at 2 (by fail "nd") rfl rfl | exact fz_at 3 (by fail "nd") rfl rfl | exact fz_at 4 (by fail "nd") rfl rfl | exact fz_at 5 (by fail "nd") rfl rfl | exact fz_at 6 (by fail "nd") rfl rfl | exact fz_at 7 (by fail "nd") rfl rfl)
local macro_rules | `(tactic| fail "lkD") => `(tactic| first | assumption | exact dz_at 0 (by fail "nd") rfl rfl | exact dz_at 1 (by fail "nd") rfl rfl | exact dz_at 2 (by fail "nd") rfl rfl | exact dz_at 3 (by fail "nd") rfl rfl | exact dz_at 4 (by fail "nd") rfl rfl)
local macro_rules | `(tactic| fail "ptF") => `(tactic| first | assumption | exact fz_put 0 (by fail "nd") rfl (Nat.le_of_ble_eq_true rfl) | exact fz_put 1 (by fail "nd") rfl (Nat.le_of_ble_eq_true rfl) | exact fz_put 2 (by fail "nd") rfl (Nat.le_of_ble_eq_true rfl) | exact fz_put 3 (by fail "nd") rfl (Nat.le_of_ble_eq_true rfl) | exact fz_put 4 (by fail "nd") rfl (Nat.le_of_ble_eq_true rfl) | exact fz_put 5 (by fail "nd") rfl (Nat.le_of_ble_eq_true rfl) | exact fz_put 6 (by fail "nd") rfl (Nat.le_of_ble_eq_true rfl) | exact fz_put 7 (by fail "nd") rfl (Nat.le_of_ble_eq_true rfl) | exact fz_new (by decide +kernel) rfl)
local macro_rules | `(tactic| fail "ptD") => `(tactic| first | assumption | exact dz_put 0 (by fail "nd") rfl (Nat.le_of_ble_eq_true rfl) | exact dz_put 1 (by fail "nd") rfl (Nat.le_of_ble_eq_true rfl) | exact dz_put 2 (by fail "nd") rfl (Nat.le_of_ble_eq_true rfl) | exact dz_put 3 (by fail "nd") rfl (Nat.le_of_ble_eq_true rfl) | exact dz_put 4 (by fail "nd") rfl (Nat.le_of_ble_eq_true rfl))
local macro_rules | `(tactic| fail "sz") => `(tactic| first | assumption | exact (Nat.le_of_ble_eq_true rfl) | omega | decide)
local macro_rules | `(tactic| fail "sd") => `(tactic| first | rfl | assumption | decide | omega | (dsimp only; first | decide | omega) | exact .inr ⟨by decide, by decide⟩ | exact .inl ⟨by decide, by decide⟩ | exact ⟨by omega, by omega⟩ | exact .inl ⟨by omega, by omega⟩ | exact .inr ⟨by omega, by omega⟩ | exact ⟨by omega, by omega, by omega⟩)
local macro_rules | `(tactic| fail "cl") => `(tactic| (clear hH; dsimp only [List.set, List.cons_append, List.nil_append, List.append] at hL))
local macro_rules | `(tactic| fail "gn") => `(tactic| (intro p hp; generalize hH : upd H p _ = H; replace hL := Led.newH hL hp hH; clear hH hp))
local macro_rules | `(tactic| fail "gup") => `(tactic| (generalize hH : upd H _ _ = H; replace hL := Led.upU hL (by fail "up") hH; fail "cl"))
local macro_rules | `(tactic| fail "gmk") => `(tactic| (intro x dx hx hd ne; generalize hH : upd (upd H dx _) x _ = H; replace hL := Led.made hL hx hd ne hH; clear hH hx hd ne))
local macro_rules | `(tactic| fail "v") => `(tactic| refine ⟨_, rfl, ?_⟩)
local macro_rules | `(tactic| fail "i2") => `(tactic| refine ⟨_, _, rfl, rfl, ?_⟩)
local macro_rules | `(tactic| fail "go1") => `(tactic| first
  | refine ⟨_, rfl, ?_⟩
  | refine ⟨_, _, rfl, rfl, ?_⟩
  | refine ⟨_, _, rfl, ?_⟩
  | refine iteT ?_
  | refine iteF ?_
  | refine k_fld hL (by fail "ix") (by assumption) (by assumption) (by fail "lkF") ?_
  | refine k_dgetS hL (by fail "ix") (by fail "lkD") ?_
  | refine k_dgetI hL (by fail "ix") (by assumption) ?_
  | refine k_ixL hL (by fail "ix") (by first | rfl | assumption) ?_
  | refine k_ixT hL (by fail "ix") (by first | rfl | assumption) ?_
  | refine k_tyL hL (by fail "ix") ?_
  | refine k_isd hL (by fail "ix") ?_
  | (refine And.intro (by fail "sz") ?_; fail "gn")
  | refine And.intro (by fail "sd") ?_
  | fail "gn"
  | refine k_meth hL (by fail "ix") (by first | assumption | exact fz_no (by decide +kernel)) ?_
  | refine k_gtup hL (by fail "ix") rfl ?_
  | (refine k_popI hL (by fail "ix") (by assumption) ?_; fail "gup")
  | (refine k_listD hL (by fail "ix") ?_; fail "gn")
  | (refine ⟨_, _, _, _, rfl, rfl, hL.at (by fail "ix"), rfl, ?_⟩; fail "gup")
  | (refine ⟨_, _, _, rfl, rfl, hL.at (by fail "ix"), (by fail "sz"), ?_⟩; fail "gup")
  | (refine ⟨_, _, _, _, rfl, hL.at (by fail "ix"), by assumption, by assumption, Nat.lt_of_le_of_lt fz_len (by decide), ?_⟩; generalize hH : upd H _ _ = H; replace hL := Led.upF hL (by fail "up") (by fail "ptF") hH; fail "cl")
  | (refine ⟨_, _, hL.at (by fail "ix"), Nat.lt_of_le_of_lt fz_len (by decide), ?_⟩; generalize hH : upd H _ _ = H; replace hL := Led.upF hL (by fail "up") (by fail "ptF") hH; fail "cl")
  | (refine k_dputS hL (by fail "ix") (Nat.lt_of_le_of_lt dz_len (by decide)) (by fail "ptD") (by fail "up") ?_; clear hL; intro H hL; dsimp only [List.set, List.cons_append, List.nil_append, List.append] at hL)
  | refine k_lenL2 hL (by fail "ix") ?_
  | refine k_lenT2 hL (by fail "ix") ?_
  | refine .inl ⟨_, rfl, ?_⟩
  | refine .inr ⟨_, rfl, ?_⟩)
local macro_rules | `(tactic| fail "go") => `(tactic| repeat fail "go1")
local macro_rules | `(tactic| fail "pm") => `(tactic| (refine Led.le hL (fun a_ => ?_); simp only [cnt_nil, cnt_cons, cnt_app, List.map_append, List.map_cons, List.map_nil, List.flatMap_append, List.flatMap_cons, List.flatMap_nil, List.append_assoc, List.cons_append, List.nil_append]; omega))

def tS9 (CM CA CP : Addr) : TS := fun D σ H => ∃ (T : Tn) (mt hd : Addr) (r : Rws) (mvs : List (Addr × MV)) (hs : List TupE) (srt : List Str) (x y z : Int) (R : Lg), ShM T mt hd σ ∧ TI r ∧ SrtU r.os r.ts srt ∧ mvs.map (·.2) = movesP (plF r.os) (plF r.ts) srt ∧ plF hs = hereP (plF r.os) (mvs.map (·.2)) ∧ Led H (ML CM CA CP T mt hd r mvs hs x y z R) ∧
  ∀ σ' H', ShM T mt hd σ' → Led H' (TLg CM CA CP T r x y z R) → D.nx σ' H'
section
variable {P : Program} {w : World} {K : PySem.W.Frag} {mg : Str → Option Value} {base : Heap} {CM CA CP : Addr} {f : Addr} {cdv : Value} {A : Around} {outer : List Env} {s0 : Shared} {H0 : Hp} {E : XK}
theorem st_s9 (hr : Room 8 (LX P w K mg base f cdv A outer s0 H0 E).A) (T : TxtC mg) : PS (LX P w K mg base f cdv A outer s0 H0 E) (nth bodyT 9) (tS9 CM CA CP) := by
  refine ps_imp (t := _) (ps_if (PW.pt (pw_or (pt_cmpR (op_neP hr.units) (pe_lc (own := [("name", 12)]) (g := gName 12) (by rfl) scLaw.nd (pi_list (pe_op op_cat (pe_callTy (call_list_dK rfl) (by rfl) T.list (by decide +kernel) (pa_cons (pv 2) pa_nil)) (pe_callTy (call_list_dK rfl) (by rfl) T.list (by decide +kernel) (pa_cons (pv 8) pa_nil)))) (blkOk_by (own := [("name", 12)]) (N := ["script", "dice", "old", "turn", "machines", "parts", "planner", "row", "found", "lacks", "zones", "left", "name", "weight", "copies", "one", "moves", "here", "gone", "come", "bad", "f"]) (sc := (defScope sLaw)) (by decide +kernel)) (fun _ _ _ _ _ => (pg_name (i := 12) scLaw.nd rfl (Or.inl rfl))) (fun _ _ _ _ _ => (pts_one (pt_cmpR (op_nePB hr.units) (pe_callB cr_sortedSB (by rfl) T.sorted (by decide +kernel) (pa_cons (pe_dget2 (hu_of hr) (pv 17) (pv 12) (pe_lst pa_nil) ⟨rfl, rfl, rfl, rfl⟩) pa_nil)) (pe_callB cr_sortedSTB (by rfl) T.sorted (by decide +kernel) (pa_cons (pe_dget2 (hu_of hr) (pv 8) (pv 12) (pe_tup pa_nil) ⟨rfl, rfl, rfl, rfl⟩) pa_nil)) (nomark _)))) (fun _ _ _ _ _ => (pv 12))) (pe_lst pa_nil) (nomark _)) (pw_or (pt_cmpR (op_neP hr.units) (pe_lc (own := [("row", 7)]) (g := gName 7) (by rfl) scLaw.nd (pi_tup (pv 16)) (blkOk_by (own := [("row", 7)]) (N := ["script", "dice", "old", "turn", "machines", "parts", "planner", "row", "found", "lacks", "zones", "left", "name", "weight", "copies", "one", "moves", "here", "gone", "come", "bad", "f"]) (sc := (defScope sLaw)) (by decide +kernel)) (fun _ _ _ _ _ => (pg_name (i := 7) scLaw.nd rfl (Or.inl rfl))) (fun _ _ _ _ _ => (pts_one (PW.pt (pw_and (pt_cmpR op_isN (pe_ix ix_tupB (pv 7) pe_int (fun _ _ => rfl)) pe_non (nomark _)) (pw_and1 (pt_cmpR op_isN (pe_ix ix_tupB (pv 7) pe_int (fun _ _ => rfl)) pe_non (nomark _))))))) (fun _ _ _ _ _ => (pv 7))) (pe_lst pa_nil) (nomark _)) (pw_or1 (pt_cmpR (op_neP hr.units) (pe_lc (own := [("row", 7)]) (g := gName 7) (by rfl) scLaw.nd (pi_tup (pv 16)) (blkOk_by (own := [("row", 7)]) (N := ["script", "dice", "old", "turn", "machines", "parts", "planner", "row", "found", "lacks", "zones", "left", "name", "weight", "copies", "one", "moves", "here", "gone", "come", "bad", "f"]) (sc := (defScope sLaw)) (by decide +kernel)) (fun _ _ _ _ _ => (pg_name (i := 7) scLaw.nd rfl (Or.inl rfl))) (fun _ _ _ _ _ => pts_nil) (fun _ _ _ _ _ => (pe_ix ix_tupB (pv 7) pe_int (fun _ _ => rfl)))) (pe_callB cr_sortedS (by rfl) T.sorted (by decide +kernel) (pa_cons (pe_lc (own := [("row", 7)]) (g := gName 7) (by rfl) scLaw.nd (pi_tup (pv 16)) (blkOk_by (own := [("row", 7)]) (N := ["script", "dice", "old", "turn", "machines", "parts", "planner", "row", "found", "lacks", "zones", "left", "name", "weight", "copies", "one", "moves", "here", "gone", "come", "bad", "f"]) (sc := (defScope sLaw)) (by decide +kernel)) (fun _ _ _ _ _ => (pg_name (i := 7) scLaw.nd rfl (Or.inl rfl))) (fun _ _ _ _ _ => pts_nil) (fun _ _ _ _ _ => (pe_ix ix_tupB (pv 7) pe_int (fun _ _ => rfl)))) pa_nil)) (nomark _))))))
  (pss_one (ps_ret pe_bl))
  pss_nil) ?_
  rintro D σ H ⟨T, mt, hd, r, mvs, hs, srt, x, y, z, R, ⟨v3, v7, v10, v11, v12, v13, v14, v15, v18, v19, v20, v21, rfl⟩, ti, su, hmv, hhs, hL, k⟩
  have okO := ti.ok
  have okT := ti.new
  have zo := okO.len
  have zt := okT.len
  have zs := su.len okO okT
  have zm : mvs.length ≤ 32 := by
    have h1 := moves_len (old := plF r.os) (new := plF r.ts) (b := 4) (fun p => (okO.rows p).2) (fun p => (okT.rows p).2) (srt := srt)
    rw [← hmv, List.length_map] at h1
    omega
  have hperm : ∀ n, n ∈ r.os.map (·.1) ∨ n ∈ r.ts.map (·.1) → (oldOf (plF hs) n).Perm (oldOf (plF r.ts) n) := fun n hn => by
    rw [hhs, hmv]
    exact here_perm (okO.rows n).1 (okT.rows n).1 su.nd ((su.mem n).mpr hn)
  obtain ⟨L0, hL0⟩ : ∃ L0, L0 = ML CM CA CP T mt hd r mvs hs x y z R := ⟨_, rfl⟩
  have m_od : (T.od, HO.dK (r.os.map (kk tV))) ∈ L0 := by rw [hL0]; exact (.tail _ (.tail _ (List.mem_append_right _ (List.mem_append_right _ (.tail _ (.tail _ (.head _)))))))
  have m_fd : (T.fd, HO.dK (r.ts.map (kk tV))) ∈ L0 := by rw [hL0]; exact (.tail _ (.tail _ (List.mem_append_right _ (List.mem_append_right _ (.head _)))))
  have m_hd : (hd, HO.dK (hs.map (kk tV))) ∈ L0 := by rw [hL0]; exact .tail _ (.head _)
  have m_mt : (mt, HO.tup (mvs.map mvV)) ∈ L0 := by rw [hL0]; exact .head _
  have m_mv : ∀ m ∈ mvs, mvO m ∈ L0 := fun m hm => by rw [hL0]; exact (.tail _ (.tail _ (List.mem_append_left _ (List.mem_map.mpr ⟨m, hm, rfl⟩))))
  have m_hl : ∀ e ∈ hs.map lstO, e ∈ L0 := fun e he => by rw [hL0]; exact (.tail _ (.tail _ (List.mem_append_right _ (List.mem_append_left _ he))))
  have m_tl : ∀ e ∈ r.ts.map tupO, e ∈ L0 := fun e he => by rw [hL0]; exact (.tail _ (.tail _ (List.mem_append_right _ (List.mem_append_right _ (.tail _ (.tail _ (.tail _ (.tail _ (.tail _ (.tail _ (.tail _ (.tail _ (.tail _ (.tail _ (List.mem_append_right _ (List.mem_append_right _ (List.mem_append_right _ (List.mem_append_right _ (List.mem_append_right _ (List.mem_append_left _ he))))))))))))))))))))
  rw [← hL0] at hL
  refine ⟨_, rfl, k_listD hL (at_mem m_od) ?_⟩
  intro la hla
  generalize hH : upd H la _ = H
  replace hL := Led.newH hL hla hH
  clear hH hla
  refine ⟨_, rfl, k_listD hL (at_mem (.tail _ m_fd)) ?_⟩
  intro lb hlb
  generalize hH : upd H lb _ = H
  replace hL := Led.newH hL hlb hH
  clear hH hlb
  refine k_cat hL ⟨1, rfl⟩ ⟨0, rfl⟩ (by
    simp only [List.length_map]
    exact Nat.le_trans (show r.os.length + r.ts.length ≤ 60 by omega) (by decide)) fun l hl => ?_
  generalize hH : upd H l _ = H
  replace hL := Led.newH hL hl hH
  clear hH hl
  have eU : (r.os.map (kk tV)).map (fun kv : Key × V => kV kv.1) ++ (r.ts.map (kk tV)).map (fun kv : Key × V => kV kv.1) = (r.os.map (·.1) ++ r.ts.map (·.1)).map V.str := by
    simp only [List.map_map, List.map_append]
    rfl
  rw [eU] at hL
  have hU : ∀ n ∈ r.os.map (·.1) ++ r.ts.map (·.1), (oldOf (plF hs) n).Perm (oldOf (plF r.ts) n) := fun n hn => hperm n (List.mem_append.mp hn)
  generalize r.os.map (·.1) ++ r.ts.map (·.1) = U at hL hU
  replace hL : Led H ((l, .lst (U.map V.str)) :: L0) := by (refine Led.le hL (fun a_ => ?_); simp only [cnt_nil, cnt_cons, cnt_app, List.map_append, List.map_cons, List.map_nil, List.flatMap_append, List.flatMap_cons, List.flatMap_nil, List.append_assoc, List.cons_append, List.nil_append]; omega)
  refine ⟨l, rfl, ⟨_, .of (hL.at ⟨0, rfl⟩)⟩, fun D1 hD1 => lc_list (K := K) (a := l) (xs := U.map V.str) (fun j H => Hold (Led H ((D1, .lst []) :: (l, .lst (U.map V.str)) :: L0))) (.mk (hL.new hD1)) (fun j H _ h => .of (h.out.at ⟨1, rfl⟩)) (fun j v H hj h => ?_) (fun H h => ?_)⟩
  · clear hL
    have hL := h.out
    clear h
    rw [List.getElem?_map] at hj
    obtain ⟨n, hn, rfl⟩ := Option.map_eq_some_iff.mp hj
    have hp := hU n (List.mem_of_getElem? hn)
    have h4 := (okT.rows n).2
    have hl4 := hp.length_eq
    refine ⟨rfl, ?_⟩
    refine ⟨_, rfl, hd, rfl, ?_⟩
    refine k_isd hL (at_mem (.tail _ (.tail _ m_hd))) ⟨_, rfl, show 0 ≤ sizeLine by decide, fun p0 hp0 => ?_⟩
    generalize hH : upd H p0 _ = H
    replace hL := Led.newH hL hp0 hH
    clear hH hp0
    obtain ⟨nt, hnt, hnm⟩ := here_get (os := hs) (k := n) (p := p0)
    have hm1 : (nt, HO.lst ((oldOf (plF hs) n).map V.str)) ∈ (p0, HO.lst []) :: (D1, HO.lst []) :: (l, HO.lst (U.map V.str)) :: L0 := by
      rcases List.mem_cons.mp hnm with e | hy
      · rw [e]; exact .head _
      · exact .tail _ (.tail _ (.tail _ (m_hl _ hy)))
    refine k_getS hL (at_mem (.tail _ (.tail _ (.tail _ m_hd)))) ?_
    rw [hnt]
    refine ⟨nt, _, rfl, .of (hL.mem hm1), Nat.lt_of_le_of_lt (show _ ≤ 4 by omega) (by decide), fun y1 p1 hy1 hs1 hp1 => ?_⟩
    generalize hH : upd H p1 _ = H
    replace hL := Led.newH hL hp1 hH
    clear hH hp1
    refine ⟨_, rfl, T.fd, rfl, ?_⟩
    refine k_isd hL (at_mem (.tail _ (.tail _ (.tail _ (.tail _ m_fd))))) ⟨_, rfl, show 0 ≤ sizeLine by decide, fun p2 hp2 => ?_⟩
    generalize hH : upd H p2 _ = H
    replace hL := Led.newH hL hp2 hH
    clear hH hp2
    obtain ⟨nt2, hnt2, hnm2⟩ := old_get (os := r.ts) (k := n) (p := p2)
    have hm2 : (nt2, HO.tup ((oldOf (plF r.ts) n).map V.str)) ∈ (p2, HO.tup []) :: (p1, HO.lst (y1.map V.str)) :: (p0, HO.lst []) :: (D1, HO.lst []) :: (l, HO.lst (U.map V.str)) :: L0 := by
      rcases List.mem_cons.mp hnm2 with e | hy
      · rw [e]; exact .head _
      · exact .tail _ (.tail _ (.tail _ (.tail _ (.tail _ (m_tl _ hy)))))
    refine k_getS hL (at_mem (.tail _ (.tail _ (.tail _ (.tail _ (.tail _ m_fd)))))) ?_
    rw [hnt2]
    refine ⟨nt2, _, rfl, .of (hL.mem hm2), Nat.lt_of_le_of_lt h4 (by decide), fun y2 p3 hy2 hs2 hp3 => ?_⟩
    generalize hH : upd H p3 _ = H
    replace hL := Led.newH hL hp3 hH
    clear hH hp3
    have ey : y1 = y2 := sortedS_uniq (hy1.trans (hp.trans hy2.symm)) hs1 hs2
    refine k_neStrs (a := y1) (b := y2) hL ⟨2, rfl⟩ ⟨0, rfl⟩ rfl rfl ?_
    rw [decide_eq_true ey]
    fail "go"
    refine .mk ?_
    (refine Led.le hL (fun a_ => ?_); simp only [cnt_nil, cnt_cons, cnt_app, List.map_append, List.map_cons, List.map_nil, List.flatMap_append, List.flatMap_cons, List.flatMap_nil, List.append_assoc, List.cons_append, List.nil_append]; omega)
  clear hL
  have hL := h.out
  clear h
  fail "go"
  refine k_neStrs (a := []) (b := []) hL ⟨1, rfl⟩ ⟨0, rfl⟩ rfl rfl ?_
  fail "go"
  replace hL : Led H L0 := by (refine Led.le hL (fun a_ => ?_); simp only [cnt_nil, cnt_cons, cnt_app, List.map_append, List.map_cons, List.map_nil, List.flatMap_append, List.flatMap_cons, List.flatMap_nil, List.append_assoc, List.cons_append, List.nil_append]; omega)
  have hsome : ∀ m ∈ mvs, ¬ (m.2.2.1 = none ∧ m.2.2.2 = none) := fun m hm => by
    have h1 : m.2 ∈ mvs.map (·.2) := List.mem_map.mpr ⟨m, hm, rfl⟩
    rw [hmv] at h1
    exact moves_some _ h1
  refine ⟨⟨_, .of (hL.mem m_mt)⟩, fun D2 hD2 => lc_tup (K := K) (a := mt) (xs := mvs.map mvV) (fun j H => Hold (Led H ((D2, .lst []) :: L0))) (.mk (hL.new hD2)) (fun j H _ h => .of (h.out.mem (.tail _ m_mt))) (fun j v H hj h => ?_) (fun H h => ?_)⟩
  · clear hL
    have hL := h.out
    clear h
    rw [List.getElem?_map] at hj
    obtain ⟨m, hm, rfl⟩ := Option.map_eq_some_iff.mp hj
    have hmm := List.mem_of_getElem? hm
    have hs1 := hsome m hmm
    obtain ⟨ma, nm, gone, come⟩ := m
    dsimp only at hs1
    refine ⟨rfl, ?_⟩
    refine ⟨_, rfl, k_ixT hL (at_mem (.tail _ (m_mv _ hmm))) (show atI [V.str nm, optV gone, optV come] 1 = some (optV gone) from rfl) ⟨rfl, _, rfl, ?_⟩⟩
    cases gone with
    | some g =>
      fail "go"
      exact .mk hL
    | none =>
      refine iteT ?_
      refine ⟨_, rfl, k_ixT hL (at_mem (.tail _ (m_mv _ hmm))) (show atI [V.str nm, optV none, optV come] 2 = some (optV come) from rfl) ⟨rfl, _, rfl, ?_⟩⟩
      cases come with
      | some c =>
        fail "go"
        exact .mk hL
      | none => exact absurd ⟨rfl, rfl⟩ hs1
  clear hL
  have hL := h.out
  clear h
  fail "go"
  refine k_neStrs (a := []) (b := []) hL ⟨1, rfl⟩ ⟨0, rfl⟩ rfl rfl ?_
  fail "go"
  replace hL : Led H L0 := by (refine Led.le hL (fun a_ => ?_); simp only [cnt_nil, cnt_cons, cnt_app, List.map_append, List.map_cons, List.map_nil, List.flatMap_append, List.flatMap_cons, List.flatMap_nil, List.append_assoc, List.cons_append, List.nil_append]; omega)
  have hsrt : sortedS ((mvs.map (·.2)).map (·.1)) = true := by rw [hmv]; exact moves_sorted su.s
  refine ⟨⟨_, .of (hL.mem m_mt)⟩, fun D3 hD3 => lc_tup (K := K) (a := mt) (xs := mvs.map mvV) (fun j H => Hold (Led H ((D3, .lst ((((mvs.take j).map (·.2)).map (·.1)).map V.str)) :: L0))) (.mk (hL.new hD3)) (fun j H _ h => .of (h.out.mem (.tail _ m_mt))) (fun j v H hj h => ?_) (fun H h => ?_)⟩
  · clear hL
    have hL := h.out
    clear h
    rw [List.getElem?_map] at hj
    obtain ⟨m, hm, rfl⟩ := Option.map_eq_some_iff.mp hj
    have hmm := List.mem_of_getElem? hm
    refine ⟨rfl, k_yes ?_⟩
    refine ⟨_, rfl, k_ixT hL (at_mem (.tail _ (m_mv _ hmm))) (show atI [V.str m.2.1, optV m.2.2.1, optV m.2.2.2] 0 = some (.str m.2.1) from rfl) ?_⟩
    refine ⟨_, hL.at ⟨0, rfl⟩, by simp only [List.length_map, List.length_take]; exact small60 (by omega), ?_⟩
    fail "gup"
    refine .mk ?_
    rw [List.take_add_one, hm, Option.toList_some, List.map_append, List.map_append, List.map_append]
    exact hL
  clear hL
  have hL := h.out
  clear h
  rw [List.length_map, List.take_length] at hL
  refine ⟨_, rfl, mt, rfl, ⟨_, .of (hL.mem (.tail _ m_mt))⟩, fun D4 hD4 => lc_tup (K := K) (a := mt) (xs := mvs.map mvV) (fun j H => Hold (Led H ((D4, .lst ((((mvs.take j).map (·.2)).map (·.1)).map V.str)) :: (D3, .lst (((mvs.map (·.2)).map (·.1)).map V.str)) :: L0))) (.mk (hL.new hD4)) (fun j H _ h => .of (h.out.mem (.tail _ (.tail _ m_mt)))) (fun j v H hj h => ?_) (fun H h => ?_)⟩
  · clear hL
    have hL := h.out
    clear h
    rw [List.getElem?_map] at hj
    obtain ⟨m, hm, rfl⟩ := Option.map_eq_some_iff.mp hj
    have hmm := List.mem_of_getElem? hm
    refine ⟨rfl, k_yes ?_⟩
    refine ⟨_, rfl, k_ixT hL (at_mem (.tail _ (.tail _ (m_mv _ hmm)))) (show atI [V.str m.2.1, optV m.2.2.1, optV m.2.2.2] 0 = some (.str m.2.1) from rfl) ?_⟩
    refine ⟨_, hL.at ⟨0, rfl⟩, by simp only [List.length_map, List.length_take]; exact small60 (by omega), ?_⟩
    fail "gup"
    refine .mk ?_
    rw [List.take_add_one, hm, Option.toList_some, List.map_append, List.map_append, List.map_append]
    exact hL
  clear hL
  have hL := h.out
  clear h
  rw [List.length_map, List.take_length] at hL
  refine ⟨D4, _, rfl, .of (hL.at ⟨0, rfl⟩), by simp only [List.length_map]; exact Nat.lt_of_le_of_lt zm (by decide), fun ys p5 hy hs5 hp5 => ?_⟩
  obtain rfl : ys = (mvs.map (·.2)).map (·.1) := sortedS_uniq hy hs5 hsrt
  generalize hH : upd H p5 _ = H
  replace hL := Led.newH hL hp5 hH
  clear hH hp5
  refine k_neStrs (a := (mvs.map (·.2)).map (·.1)) (b := (mvs.map (·.2)).map (·.1)) hL ⟨2, rfl⟩ ⟨0, rfl⟩ rfl rfl ?_
  rw [decide_eq_true rfl]
  fail "go"
  refine k _ _ ⟨_, _, _, _, _, _, _, _, _, _, _, _, rfl⟩ ?_
  rw [hL0] at hL
  unfold ML at hL
  (refine Led.le hL (fun a_ => ?_); simp only [cnt_nil, cnt_cons, cnt_app, List.map_append, List.map_cons, List.map_nil, List.flatMap_append, List.flatMap_cons, List.flatMap_nil, List.append_assoc, List.cons_append, List.nil_append]; omega)
end
end Sd


set_option linter.unusedVariables false
namespace Sd
open PySem L2
open PyProof.Rows (sortedS)
open C8 (Cal Met Mak pe_c pe_mk pe_mt pe_mt0 pss_cut tCut)
set_option linter.unusedSimpArgs false
set_option pp.deepTerms false
set_option pp.deepTerms.threshold 12
set_option hygiene false
local macro_rules | `(tactic| fail "nd") => `(tactic| first | assumption | decide +kernel)
local macro_rules | `(tactic| fail "ix") => `(tactic| first | exact ⟨0, rfl⟩ | exact ⟨1, rfl⟩ | exact ⟨2, rfl⟩ | exact ⟨3, rfl⟩ | exact ⟨4, rfl⟩ | exact ⟨5, rfl⟩ | exact ⟨6, rfl⟩ | exact ⟨7, rfl⟩ | exact ⟨8, rfl⟩ | exact ⟨9, rfl⟩ | exact ⟨10, rfl⟩ | exact ⟨11, rfl⟩ | exact ⟨12, rfl⟩ | exact ⟨13, rfl⟩ | exact ⟨14, rfl⟩ | exact ⟨15, rfl⟩ | exact ⟨16, rfl⟩ | exact ⟨17, rfl⟩ | exact ⟨18, rfl⟩ | assumption)
local macro_rules | `(tactic| fail "up") => `(tactic| first | exact ⟨0, rfl, rfl⟩ | exact ⟨1, rfl, rfl⟩ | exact ⟨2, rfl, rfl⟩ | exact ⟨3, rfl, rfl⟩ | exact ⟨4, rfl, rfl⟩ | exact ⟨5, rfl, rfl⟩ | exact ⟨6, rfl, rfl⟩ | exact ⟨7, rfl, rfl⟩ | exact ⟨8, rfl, rfl⟩ | exact ⟨9, rfl, rfl⟩ | exact ⟨10, rfl, rfl⟩ | exact ⟨11, rfl, rfl⟩ | exact ⟨12, rfl, rfl⟩ | exact ⟨13, rfl, rfl⟩ | exact ⟨14, rfl, rfl⟩ | exact ⟨15, rfl, rfl⟩ | exact ⟨16, rfl, rfl⟩ | assumption)
local macro_rules | `(tactic| fail "lkF") => `(tactic| first | assumption | exact fz_at 0 (by fail "nd") rfl rfl | exact fz_at 1 (by fail "nd") rfl rfl | exact fz_at 2 (by fail "nd") rfl rfl | exact fz_at 3 (by fail "nd") rfl rfl | exact fz_at 4 (by fail "nd") rfl rfl | exact fz_at 5 (by fail "nd") rfl rfl | exact fz_at 6 (by fail "nd") rfl rfl | exact fz_at 7 (by fail "nd") rfl rfl)
local macro_rules | `(tactic| fail "lkD") => `(tactic| first | assumption | exact dz_at 0 (by fail "nd") rfl rfl | exact dz_at 1 (by fail "nd") rfl rfl | exact dz_at 2 (by fail "nd") rfl rfl | exact dz_at 3 (by fail "nd") rfl rfl | exact dz_at 4 (by fail "nd") rfl rfl)
local macro_rules | `(tactic| fail "ptF") => `(tactic| first | assumption | exact fz_put 0 (by fail "nd") rfl (Nat.le_of_ble_eq_true rfl) | exact fz_put 1 (by fail "nd") rfl (Nat.le_of_ble_eq_true rfl) | exact fz_put 2 (by fail "nd") rfl (Nat.le_of_ble_eq_true rfl) | exact fz_put 3 (by fail "nd") rfl (Nat.le_of_ble_eq_true rfl) | exact fz_put 4 (by fail "nd") rfl (Nat.le_of_ble_eq_true rfl) | exact fz_put 5 (by fail "nd") rfl (Nat.le_of_ble_eq_true rfl) | exact fz_put 6 (by fail "nd") rfl (Nat.le_of_ble_eq_true rfl) | exact fz_put 7 (by fail "nd") rfl (Nat.le_of_ble_eq_true rfl) | exact fz_new (by decide +kernel) rfl)
local macro_rules | `(tactic| fail "ptD") => `(tactic| first | assumption | exact dz_put 0 (by fail "nd") rfl (Nat.le_of_ble_eq_true rfl) | exact dz_put 1 (by fail "nd") rfl (Nat.le_of_ble_eq_true rfl) | exact dz_put 2 (by fail "nd") rfl (Nat.le_of_ble_eq_true rfl) | exact dz_put 3 (by fail "nd") rfl (Nat.le_of_ble_eq_true rfl) | exact dz_put 4 (by fail "nd") rfl (Nat.le_of_ble_eq_true rfl))
local macro_rules | `(tactic| fail "sz") => `(tactic| first | assumption | exact (Nat.le_of_ble_eq_true rfl) | omega | decide)
local macro_rules | `(tactic| fail "sd") => `(tactic| first | rfl | assumption | decide | omega | (dsimp only; first | decide | omega) | exact .inr ⟨by decide, by decide⟩ | exact .inl ⟨by decide, by decide⟩ | exact ⟨by omega, by omega⟩ | exact .inl ⟨by omega, by omega⟩ | exact .inr ⟨by omega, by omega⟩ | exact ⟨by omega, by omega, by omega⟩)
local macro_rules | `(tactic| fail "cl") => `(tactic| (clear hH; dsimp only [List.set, List.cons_append, List.nil_append, List.append] at hL))
local macro_rules | `(tactic| fail "gn") => `(tactic| (intro p hp; generalize hH : upd H p _ = H; replace hL := Led.newH hL hp hH; clear hH hp))
local macro_rules | `(tactic| fail "gup") => `(tactic| (generalize hH : upd H _ _ = H; replace hL := Led.upU hL (by fail "up") hH; fail "cl"))
local macro_rules | `(tactic| fail "gmk") => `(tactic| (intro x dx hx hd ne; generalize hH : upd (upd H dx _) x _ = H; replace hL := Led.made hL hx hd ne hH; clear hH hx hd ne))
local macro_rules | `(tactic| fail "v") => `(tactic| refine ⟨_, rfl, ?_⟩)
local macro_rules | `(tactic| fail "i2") => `(tactic| refine ⟨_, _, rfl, rfl, ?_⟩)
local macro_rules | `(tactic| fail "go1") => `(tactic| first
  | refine ⟨_, rfl, ?_⟩
  | refine ⟨_, _, rfl, rfl, ?_⟩
  | refine ⟨_, _, rfl, ?_⟩
  | refine iteT ?_
  | refine iteF ?_
  | refine k_fld hL (by fail "ix") (by assumption) (by assumption) (by fail "lkF") ?_
  | refine k_dgetS hL (by fail "ix") (by fail "lkD") ?_
  | refine k_dgetI hL (by fail "ix") (by assumption) ?_
  | refine k_ixL hL (by fail "ix") (by first | rfl | assumption) ?_
  | refine k_ixT hL (by fail "ix") (by first | rfl | assumption) ?_
  | refine k_tyL hL (by fail "ix") ?_
  | refine k_isd hL (by fail "ix") ?_
  | (refine And.intro (by fail "sz") ?_; fail "gn")
  | refine And.intro (by fail "sd") ?_
  | fail "gn"
  | refine k_meth hL (by fail "ix") (by first | assumption | exact fz_no (by decide +kernel)) ?_
  | refine k_gtup hL (by fail "ix") rfl ?_
  | (refine k_popI hL (by fail "ix") (by assumption) ?_; fail "gup")
  | (refine k_listD hL (by fail "ix") ?_; fail "gn")
  | (refine ⟨_, _, _, _, rfl, rfl, hL.at (by fail "ix"), rfl, ?_⟩; fail "gup")
  | (refine ⟨_, _, _, rfl, rfl, hL.at (by fail "ix"), (by fail "sz"), ?_⟩; fail "gup")
  | (refine ⟨_, _, _, _, rfl, hL.at (by fail "ix"), by assumption, by assumption, Nat.lt_of_le_of_lt fz_len (by decide), ?_⟩; generalize hH : upd H _ _ = H; replace hL := Led.upF hL (by fail "up") (by fail "ptF") hH; fail "cl")
  | (refine ⟨_, _, hL.at (by fail "ix"), Nat.lt_of_le_of_lt fz_len (by decide), ?_⟩; generalize hH : upd H _ _ = H; replace hL := Led.upF hL (by fail "up") (by fail "ptF") hH; fail "cl")
  | (refine k_dputS hL (by fail "ix") (Nat.lt_of_le_of_lt dz_len (by decide)) (by fail "ptD") (by fail "up") ?_; clear hL; intro H hL; dsimp only [List.set, List.cons_append, List.nil_append, List.append] at hL)
  | refine k_lenL2 hL (by fail "ix") ?_
  | refine k_lenT2 hL (by fail "ix") ?_
  | refine .inl ⟨_, rfl, ?_⟩
  | refine .inr ⟨_, rfl, ?_⟩)
local macro_rules | `(tactic| fail "go") => `(tactic| repeat fail "go1")
local macro_rules | `(tactic| fail "pm") => `(tactic| (refine Led.le hL (fun a_ => ?_); simp only [cnt_nil, cnt_cons, cnt_app, List.map_append, List.map_cons, List.map_nil, List.flatMap_append, List.flatMap_cons, List.flatMap_nil, List.append_assoc, List.cons_append, List.nil_append]; omega))

def ShO (a d od : Addr) (σ : L2.St) : Prop := ∃ (v3 v4 v5 v6 v7 v8 v9 v10 v11 v12 v13 v14 v15 v16 v17 v18 v19 v20 v21 : Option V), σ = [some (.ref a), some (.ref d), some (.ref od), v3, v4, v5, v6, v7, v8, v9, v10, v11, v12, v13, v14, v15, v16, v17, v18, v19, v20, v21]
def OLg (d od : Addr) (os : List TupE) (x y z : Int) (R : Lg) : Lg := (d, dD x y z) :: (od, .dK (os.map (kk tV))) :: (os.map tupO ++ R)
def tTurn : TS := fun D σ H => ∃ (a d od : Addr) (os : List TupE) (x y z : Int) (R : Lg), ShO a d od σ ∧ OldOk os ∧ Led H (OLg d od os x y z R) ∧ ∀ (od' : Addr) (os' : List TupE) (x y z : Int) σ' H', ShO a d od' σ' → OldOk os' → Led H' (OLg d od' os' x y z R) → D.nx σ' H'
section
variable {P : Program} {w : World} {K : PySem.W.Frag} {mg : Str → Option Value} {base : Heap} {CM CA CP : Addr} {f : Addr} {cdv : Value} {A : Around} {outer : List Env} {s0 : Shared} {H0 : Hp} {E : XK}
theorem st_turn (hr : Room 8 (LX P w K mg base f cdv A outer s0 H0 E).A) (X : TxtP K mg CM CA CP) (T : TxtC mg) (TD : TxtD mg) (c_Place : Mak P w K mg base 1 "Place" CM (spMInit CM) []) (c_Part : Mak P w K mg base 1 "Part" CA (spAInit CA) []) (c_Planner : Mak P w K mg base 1 "Planner" CP (spPInit CM CA CP) [])
    (c_Planner_plan : Met P w K mg base 3 CP "plan" (spPlan CM CA CP) []) (c__law_plan : Cal P w K mg base 3 "_law_plan" spLPlan []) (c_moves_between : Cal P w K mg base 3 "moves_between" spMoves []) (c__law_drawn : Cal P w K mg base 2 "_law_drawn" spDrawn []) :
    PSs (LX P w K mg base f cdv A outer s0 H0 E) bodyT tTurn := by
  refine pss_imp (t := _) (pss_cons (ps_asg (pe_c c__law_drawn hr (by decide) (by rfl) (pa_cons (pv 1) pa_nil)) (pg_tup (by rfl) (pgs_cons (pg_name (i := 4) scLaw.nd rfl (Or.inl rfl)) (pgs_cons (pg_name (i := 5) scLaw.nd rfl (Or.inl rfl)) pgs_nil)))) (pss_cons (st_mk hr c_Place c_Part c_Planner) (pss_cons (ps_asg (pe_mt c_Planner_plan hr (by decide) (pv 6) (pa_cons (pv 2) pa_nil)) (pg_tup (by rfl) (pgs_cons (pg_name (i := 8) scLaw.nd rfl (Or.inr rfl)) (pgs_cons (pg_name (i := 9) scLaw.nd rfl (Or.inl rfl)) pgs_nil)))) (pss_cons (st_s3 hr c_Planner_plan c__law_plan) (pss_cons (st_s4 (CM := CM) (CA := CA) (CP := CP) hr TD) (pss_cons (st_s5 (CM := CM) (CA := CA) (CP := CP) hr T) (pss_cons (st_s6 hr X) (pss_cons (st_s7 (CM := CM) (CA := CA) (CP := CP) hr T c_moves_between) (pss_cons (st_s8 (CM := CM) (CA := CA) (CP := CP) hr T) (pss_cons (st_s9 (CM := CM) (CA := CA) (CP := CP) hr T) (pss_one (ps_set (i := 2) scLaw.nd rfl (Or.inr rfl) (pv 8))))))))))))) ?_
  rintro D σ H ⟨a, d, od, os, x, y, z, R, ⟨v3, v4, v5, v6, v7, v8, v9, v10, v11, v12, v13, v14, v15, v16, v17, v18, v19, v20, v21, rfl⟩, ok, hL, k⟩
  unfold OLg at hL
  fail "go"
  refine ⟨d, x, y, z, (od, .dK (os.map (kk tV))) :: (os.map tupO ++ R), rfl, hL, fun t ml al mrs prs x y z H dm dp hL => ?_⟩
  fail "go"
  refine ⟨ml, al, mrs, prs, _, _, _, _, _, _, _, _, _, _, _, _, _, _, _, _, _, _, _, _, (d, dD x y z) :: (od, .dK (os.map (kk tV))) :: (os.map tupO ++ R), rfl, dm, dp, by (refine Led.le hL (fun a_ => ?_); simp only [cnt_nil, cnt_cons, cnt_app, List.map_append, List.map_cons, List.map_nil, List.flatMap_append, List.flatMap_cons, List.flatMap_nil, List.append_assoc, List.cons_append, List.nil_append]; omega), fun pn ds md pl ld ms ps H hms hps hL => ?_⟩
  have hti : ∀ (ts : List TupE), plF ts = (planP (plM ms) (plA ps) (plF os)).f → TI ⟨mrs, prs, ms, ps, os, ts, (planP (plM ms) (plA ps) (plF os)).l, (planP (plM ms) (plA ps) (plF os)).g⟩ := fun ts hts => ⟨dm, dp, hms, hps, by
    show planP (plM ms) (plA ps) (plF os) = ⟨_, plF ts, _⟩
    rw [hts], ok⟩
  have ti0 := hti ((planP (plM ms) (plA ps) (plF os)).f.map fun e => (e.1, (pn, e.2))) (by
    unfold plF
    rw [List.map_map]
    exact List.map_id _)
  unfold PL at hL
  fail "go"
  refine ⟨pn, ds, md, pl, ld, od, ms, ps, os, rf (plM ms), (ml, .lst (mrs.map mrV)) :: (al, .lst (prs.map paV)) :: (d, dD x y z) :: (mrs.map mrO ++ (prs.map paO ++ R)), rfl, by unfold PL; (refine Led.le hL (fun a_ => ?_); simp only [cnt_nil, cnt_cons, cnt_app, List.map_append, List.map_cons, List.map_nil, List.flatMap_append, List.flatMap_cons, List.flatMap_nil, List.append_assoc, List.cons_append, List.nil_append]; omega), by have := ti0.mnd; rw [plM_ns] at this; exact this, by have := ti0.ms; rw [plM_ns] at this; exact this, ti0.mz, ti0.mr, ti0.psok, Nat.lt_of_le_of_lt ti0.pz (by decide), ok.nd, fun t fd xd ld1 ts H hts hL => ?_⟩
  have ti := hti ts hts
  clear ti0 hti
  generalize hF : planP (plM ms) (plA ps) (plF os) = F at hts hL ti
  refine k_gtup hL (at_mem (.head _)) rfl ?_
  replace hL : Led H (TLg CM CA CP ⟨a, d, od, ml, al, pn, ds, md, pl, ld1, fd, xd⟩ ⟨mrs, prs, ms, ps, os, ts, F.l, F.g⟩ x y z R) := by
    unfold PL at hL
    unfold TLg
    (refine Led.le hL (fun a_ => ?_); simp only [cnt_nil, cnt_cons, cnt_app, List.map_append, List.map_cons, List.map_nil, List.flatMap_append, List.flatMap_cons, List.flatMap_nil, List.append_assoc, List.cons_append, List.nil_append]; omega)
  fail "go"
  refine ⟨⟨a, d, od, ml, al, pn, ds, md, pl, ld1, fd, xd⟩, ⟨mrs, prs, ms, ps, os, ts, F.l, F.g⟩, x, y, z, R, ⟨_, _, _, _, _, _, _, _, _, _, _, _, _, _, rfl⟩, ti, hL, fun ld2 σ H sh hL => ?_⟩
  generalize hT : (⟨a, d, od, ml, al, pn, ds, md, pl, ld2, fd, xd⟩ : Tn) = T2 at sh hL
  generalize hr2 : (⟨mrs, prs, ms, ps, os, ts, F.l, F.g⟩ : Rws) = r2 at ti hL
  refine ⟨T2, r2, x, y, z, R, sh, ti, hL, fun zd lf σ H sh hL => ?_⟩
  refine ⟨T2, zd, lf, r2, x, y, z, R, sh, ti, hL, fun σ H sh hL => ?_⟩
  refine ⟨T2, zd, lf, r2, x, y, z, R, sh, ti, hL, fun σ H sh hL => ?_⟩
  refine ⟨T2, zd, lf, r2, x, y, z, R, sh, ti, hL, fun mt hd mvs hs srt σ H sh su hmv hhs hL => ?_⟩
  have hml : mvs.length ≤ 100 := by
    have h1 := moves_len (old := plF r2.os) (new := plF r2.ts) (b := 4) (fun p => (ti.ok.rows p).2) (fun p => (ti.new.rows p).2) (srt := srt)
    have h2 := su.len ti.ok ti.new
    rw [← hmv, List.length_map] at h1
    omega
  refine ⟨T2, mt, hd, r2, mvs, hs, x, y, z, R, sh, hml, by rw [← plF_ns, hhs, plF_ns]; exact ti.ok.nd, by rw [← plF_len, hhs, plF_len]; exact Nat.le_trans ti.ok.len (by decide), fun k => by rw [hhs]; exact Nat.le_trans (ti.ok.rows k).2 (by decide), hL, fun hs' σ H sh hhs' hL => ?_⟩
  rw [hhs] at hhs'
  refine ⟨T2, mt, hd, r2, mvs, hs', srt, x, y, z, R, sh, ti, su, hmv, hhs', hL, fun σ H sh hL => ?_⟩
  obtain ⟨v3, v7, v10, v11, v12, v13, v14, v15, v18, v19, v20, v21, rfl⟩ := sh
  have okn := ti.new
  subst hT hr2
  fail "go"
  refine k fd ts x y z _ _ ⟨_, _, _, _, _, _, _, _, _, _, _, _, _, _, _, _, _, _, _, rfl⟩ okn ?_
  unfold TLg at hL
  unfold OLg
  (refine Led.le hL (fun a_ => ?_); simp only [cnt_nil, cnt_cons, cnt_app, List.map_append, List.map_cons, List.map_nil, List.flatMap_append, List.flatMap_cons, List.flatMap_nil, List.append_assoc, List.cons_append, List.nil_append]; omega)
end
end Sd


set_option linter.unusedVariables false
namespace Sd
open PySem L2 LamX
open PyProof.Rows (sortedS)
open C8 (Cal Met Mak pe_c pe_mk pe_mt pe_mt0 pss_cut tCut)
def lamsS : Stmt → List Expr
  | .Assign _ (.List es _) _ => es
  | _ => []
def lamAt (i : Nat) : Expr := ((defBody sLaw).flatMap lamsS).getD i (.Name "" ⟨0, 0, 0, 0⟩)
def lamBody (e : Expr) : Expr := match e with
  | .Lambda _ b _ _ => b
  | _ => e
def lamArgs (e : Expr) : Arguments := match e with
  | .Lambda a _ _ _ => a
  | _ => { posonlyargs := [], args := [], vararg := none, kwonlyargs := [], kw_defaults := [], kwarg := none, defaults := [] }
def lamScope (e : Expr) : Scope := match e with
  | .Lambda _ _ s _ => s
  | _ => { kind := .function, names := [], isGenerator := false, isCoroutine := false }
set_option linter.unusedSimpArgs false
set_option pp.deepTerms false
set_option pp.deepTerms.threshold 12
set_option hygiene false
local macro_rules | `(tactic| fail "nd") => `(tactic| first | assumption | decide +kernel)
local macro_rules | `(tactic| fail "ix") => `(tactic| first | exact ⟨0, rfl⟩ | exact ⟨1, rfl⟩ | exact ⟨2, rfl⟩ | exact ⟨3, rfl⟩ | exact ⟨4, rfl⟩ | exact ⟨5, rfl⟩ | exact ⟨6, rfl⟩ | exact ⟨7, rfl⟩ | exact ⟨8, rfl⟩ | exact ⟨9, rfl⟩ | exact ⟨10, rfl⟩ | exact ⟨11, rfl⟩ | exact ⟨12, rfl⟩ | exact ⟨13, rfl⟩ | exact ⟨14, rfl⟩ | exact ⟨15, rfl⟩ | exact ⟨16, rfl⟩ | exact ⟨17, rfl⟩ | exact ⟨18, rfl⟩ | assumption)
local macro_rules | `(tactic| fail "up") => `(tactic| first | exact ⟨0, rfl, rfl⟩ | exact ⟨1, rfl, rfl⟩ | exact ⟨2, rfl, rfl⟩ | exact ⟨3, rfl, rfl⟩ | exact ⟨4, rfl, rfl⟩ | exact ⟨5, rfl, rfl⟩ | exact ⟨6, rfl, rfl⟩ | exact ⟨7, rfl, rfl⟩ | exact ⟨8, rfl, rfl⟩ | exact ⟨9, rfl, rfl⟩ | exact ⟨10, rfl, rfl⟩ | exact ⟨11, rfl, rfl⟩ | exact ⟨12, rfl, rfl⟩ | exact ⟨13, rfl, rfl⟩ | exact ⟨14, rfl, rfl⟩ | exact ⟨15, rfl, rfl⟩ | exact ⟨16, rfl, rfl⟩ | assumption)
local macro_rules | `(tactic| fail "lkF") => `(tactic| first | assumption | exact fz_at 0 (by fail "nd") rfl rfl | exact fz_at 1 (by fail "nd") rfl rfl | exact fz_at 2 (by fail "nd") rfl rfl | exact fz_at 3 (by fail "nd") rfl rfl | exact fz_at 4 (by fail "nd") rfl rfl | exact fz_at 5 (by fail "nd") rfl rfl | exact fz_at 6 (by fail "nd") rfl rfl | exact fz_at 7 (by fail "nd") rfl rfl)
local macro_rules | `(tactic| fail "lkD") => `(tactic| first | assumption | exact dz_at 0 (by fail "nd") rfl rfl | exact dz_at 1 (by fail "nd") rfl rfl | exact dz_at 2 (by fail "nd") rfl rfl | exact dz_at 3 (by fail "nd") rfl rfl | exact dz_at 4 (by fail "nd") rfl rfl)
local macro_rules | `(tactic| fail "ptF") => `(tactic| first | assumption | exact fz_put 0 (by fail "nd") rfl (Nat.le_of_ble_eq_true rfl) | exact fz_put 1 (by fail "nd") rfl (Nat.le_of_ble_eq_true rfl) | exact fz_put 2 (by fail "nd") rfl (Nat.le_of_ble_eq_true rfl) | exact fz_put 3 (by fail "nd") rfl (Nat.le_of_ble_eq_true rfl) | exact fz_put 4 (by fail "nd") rfl (Nat.le_of_ble_eq_true rfl) | exact fz_put 5 (by fail "nd") rfl (Nat.le_of_ble_eq_true rfl) | exact fz_put 6 (by fail "nd") rfl (Nat.le_of_ble_eq_true rfl) | exact fz_put 7 (by fail "nd") rfl (Nat.le_of_ble_eq_true rfl) | exact fz_new (by decide +kernel) rfl)
local macro_rules | `(tactic| fail "ptD") => `(tactic| first | assumption | exact dz_put 0 (by fail "nd") rfl (Nat.le_of_ble_eq_true rfl) | exact dz_put 1 (by fail "nd") rfl (Nat.le_of_ble_eq_true rfl) | exact dz_put 2 (by fail "nd") rfl (Nat.le_of_ble_eq_true rfl) | exact dz_put 3 (by fail "nd") rfl (Nat.le_of_ble_eq_true rfl) | exact dz_put 4 (by fail "nd") rfl (Nat.le_of_ble_eq_true rfl))
local macro_rules | `(tactic| fail "sz") => `(tactic| first | assumption | exact (Nat.le_of_ble_eq_true rfl) | omega | decide)
local macro_rules | `(tactic| fail "sd") => `(tactic| first | rfl | assumption | decide | omega | (dsimp only; first | decide | omega) | exact .inr ⟨by decide, by decide⟩ | exact .inl ⟨by decide, by decide⟩ | exact ⟨by omega, by omega⟩ | exact .inl ⟨by omega, by omega⟩ | exact .inr ⟨by omega, by omega⟩ | exact ⟨by omega, by omega, by omega⟩)
local macro_rules | `(tactic| fail "cl") => `(tactic| (clear hH; dsimp only [List.set, List.cons_append, List.nil_append, List.append] at hL))
local macro_rules | `(tactic| fail "gn") => `(tactic| (intro p hp; generalize hH : upd H p _ = H; replace hL := Led.newH hL hp hH; clear hH hp))
local macro_rules | `(tactic| fail "gup") => `(tactic| (generalize hH : upd H _ _ = H; replace hL := Led.upU hL (by fail "up") hH; fail "cl"))
local macro_rules | `(tactic| fail "gmk") => `(tactic| (intro x dx hx hd ne; generalize hH : upd (upd H dx _) x _ = H; replace hL := Led.made hL hx hd ne hH; clear hH hx hd ne))
local macro_rules | `(tactic| fail "v") => `(tactic| refine ⟨_, rfl, ?_⟩)
local macro_rules | `(tactic| fail "i2") => `(tactic| refine ⟨_, _, rfl, rfl, ?_⟩)
local macro_rules | `(tactic| fail "go1") => `(tactic| first
  | refine ⟨_, rfl, ?_⟩
  | refine ⟨_, _, rfl, rfl, ?_⟩
  | refine ⟨_, _, rfl, ?_⟩
  | refine iteT ?_
  | refine iteF ?_
  | refine k_fld hL (by fail "ix") (by assumption) (by assumption) (by fail "lkF") ?_
  | refine k_dgetS hL (by fail "ix") (by fail "lkD") ?_
  | refine k_dgetI hL (by fail "ix") (by assumption) ?_
  | refine k_ixL hL (by fail "ix") (by first | rfl | assumption) ?_
  | refine k_ixT hL (by fail "ix") (by first | rfl | assumption) ?_
  | refine k_tyL hL (by fail "ix") ?_
  | refine k_isd hL (by fail "ix") ?_
  | (refine And.intro (by fail "sz") ?_; fail "gn")
  | refine And.intro (by fail "sd") ?_
  | fail "gn"
  | refine k_meth hL (by fail "ix") (by first | assumption | exact fz_no (by decide +kernel)) ?_
  | refine k_gtup hL (by fail "ix") rfl ?_
  | (refine k_popI hL (by fail "ix") (by assumption) ?_; fail "gup")
  | (refine k_listD hL (by fail "ix") ?_; fail "gn")
  | (refine ⟨_, _, _, _, rfl, rfl, hL.at (by fail "ix"), rfl, ?_⟩; fail "gup")
  | (refine ⟨_, _, _, rfl, rfl, hL.at (by fail "ix"), (by fail "sz"), ?_⟩; fail "gup")
  | (refine ⟨_, _, _, _, rfl, hL.at (by fail "ix"), by assumption, by assumption, Nat.lt_of_le_of_lt fz_len (by decide), ?_⟩; generalize hH : upd H _ _ = H; replace hL := Led.upF hL (by fail "up") (by fail "ptF") hH; fail "cl")
  | (refine ⟨_, _, hL.at (by fail "ix"), Nat.lt_of_le_of_lt fz_len (by decide), ?_⟩; generalize hH : upd H _ _ = H; replace hL := Led.upF hL (by fail "up") (by fail "ptF") hH; fail "cl")
  | (refine k_dputS hL (by fail "ix") (Nat.lt_of_le_of_lt dz_len (by decide)) (by fail "ptD") (by fail "up") ?_; clear hL; intro H hL; dsimp only [List.set, List.cons_append, List.nil_append, List.append] at hL)
  | refine k_lenL2 hL (by fail "ix") ?_
  | refine k_lenT2 hL (by fail "ix") ?_
  | refine .inl ⟨_, rfl, ?_⟩
  | refine .inr ⟨_, rfl, ?_⟩)
local macro_rules | `(tactic| fail "go") => `(tactic| repeat fail "go1")
local macro_rules | `(tactic| fail "pm") => `(tactic| (refine Led.le hL (fun a_ => ?_); simp only [cnt_nil, cnt_cons, cnt_app, List.map_append, List.map_cons, List.map_nil, List.flatMap_append, List.flatMap_cons, List.flatMap_nil, List.append_assoc, List.cons_append, List.nil_append]; omega))

theorem nsc (i : _root_.Fin 8) : NdefX.NScope [] [] [] (lamScope (lamAt i.1)) := NdefX.nscope_by (by revert i; decide +kernel)
section
variable {P : Program} {w : World} {K : PySem.W.Frag} {mg : Str → Option Value} {base : Heap} {CM CA CP CE : Addr}
theorem lok1 {f c' : Addr} {q : Str} (cX : MakX P w K mg base 1 "Place" CM (spMInitX CM CE) []) : LOk P w K mg base 6 f ⟨"<lambda>", q, lamArgs (lamAt 0), [], lamScope (lamAt 0), [], c'⟩ (lamBody (lamAt 0)) (tlR CE) := by
  refine lok_of (nsc 0) rfl (fun _ _ _ => rfl) fun A outer s H Q E hr h => ⟨_, pe_mkX cX hr (by decide) rfl (takes_of rfl rfl rfl (E := E) rfl) (pa_cons pe_str (pa_cons pe_str (pa_cons pe_int pa_nil))), ?_⟩
  obtain ⟨R, hR, h⟩ := h
  intro x dx hx hd ne
  generalize hH : upd (upd H dx _) x _ = H1
  have hL : Led H1 ((x, .ins CM dx (fz [] [])) :: R) := Led.made hR hx hd ne hH
  exact ⟨x, dx, "", "z", 1, R, rfl, hL, .inl rfl, h _ hL.tail⟩
theorem lok2 {f c' : Addr} {q : Str} (cX : MakX P w K mg base 1 "Place" CM (spMInitX CM CE) []) : LOk P w K mg base 6 f ⟨"<lambda>", q, lamArgs (lamAt 1), [], lamScope (lamAt 1), [], c'⟩ (lamBody (lamAt 1)) (tlR CE) := by
  refine lok_of (nsc 1) rfl (fun _ _ _ => rfl) fun A outer s H Q E hr h => ⟨_, pe_mkX cX hr (by decide) rfl (takes_of rfl rfl rfl (E := E) rfl) (pa_cons pe_str (pa_cons pe_str (pa_cons (pe_un un_neg pe_int) pa_nil))), ?_⟩
  obtain ⟨R, hR, h⟩ := h
  refine ⟨_, rfl, ?_⟩
  intro x dx hx hd ne
  generalize hH : upd (upd H dx _) x _ = H1
  have hL : Led H1 ((x, .ins CM dx (fz [] [])) :: R) := Led.made hR hx hd ne hH
  exact ⟨x, dx, "m", "z", -1, R, rfl, hL, .inr (by decide), h _ hL.tail⟩
theorem lok3 {f c' : Addr} {q : Str} (cX : MakX P w K mg base 1 "Part" CA (spAInitX CA CE) []) : LOk P w K mg base 6 f ⟨"<lambda>", q, lamArgs (lamAt 2), [], lamScope (lamAt 2), [], c'⟩ (lamBody (lamAt 2)) (tlR CE) := by
  refine lok_of (nsc 2) rfl (fun _ _ _ => rfl) fun A outer s H Q E hr h => ⟨_, pe_mkX cX hr (by decide) rfl (takes_of rfl rfl rfl (E := E) rfl) (pa_cons pe_str (pa_cons pe_int (pa_cons pe_int pa_nil))), ?_⟩
  obtain ⟨R, hR, h⟩ := h
  intro x dx hx hd ne
  generalize hH : upd (upd H dx _) x _ = H1
  have hL : Led H1 ((x, .ins CA dx (fz [] [])) :: R) := Led.made hR hx hd ne hH
  exact ⟨x, dx, "", 1, 1, R, rfl, hL, .inl rfl, h _ hL.tail⟩
theorem lok4 {f c' : Addr} {q : Str} (cX : MakX P w K mg base 1 "Part" CA (spAInitX CA CE) []) : LOk P w K mg base 6 f ⟨"<lambda>", q, lamArgs (lamAt 3), [], lamScope (lamAt 3), [], c'⟩ (lamBody (lamAt 3)) (tlR CE) := by
  refine lok_of (nsc 3) rfl (fun _ _ _ => rfl) fun A outer s H Q E hr h => ⟨_, pe_mkX cX hr (by decide) rfl (takes_of rfl rfl rfl (E := E) rfl) (pa_cons pe_str (pa_cons pe_int (pa_cons pe_int pa_nil))), ?_⟩
  obtain ⟨R, hR, h⟩ := h
  intro x dx hx hd ne
  generalize hH : upd (upd H dx _) x _ = H1
  have hL : Led H1 ((x, .ins CA dx (fz [] [])) :: R) := Led.made hR hx hd ne hH
  exact ⟨x, dx, "p", 0, 1, R, rfl, hL, .inr (.inl (by decide)), h _ hL.tail⟩
theorem lok5 {f c' : Addr} {q : Str} (cX : MakX P w K mg base 1 "Part" CA (spAInitX CA CE) []) : LOk P w K mg base 6 f ⟨"<lambda>", q, lamArgs (lamAt 4), [], lamScope (lamAt 4), [], c'⟩ (lamBody (lamAt 4)) (tlR CE) := by
  refine lok_of (nsc 4) rfl (fun _ _ _ => rfl) fun A outer s H Q E hr h => ⟨_, pe_mkX cX hr (by decide) rfl (takes_of rfl rfl rfl (E := E) rfl) (pa_cons pe_str (pa_cons pe_int (pa_cons pe_int pa_nil))), ?_⟩
  obtain ⟨R, hR, h⟩ := h
  intro x dx hx hd ne
  generalize hH : upd (upd H dx _) x _ = H1
  have hL : Led H1 ((x, .ins CA dx (fz [] [])) :: R) := Led.made hR hx hd ne hH
  exact ⟨x, dx, "p", 1, 0, R, rfl, hL, .inr (.inr (by decide)), h _ hL.tail⟩
theorem lok6 {f c' : Addr} {q : Str} (cX : MakX P w K mg base 1 "Part" CA (spAInitX CA CE) []) : LOk P w K mg base 6 f ⟨"<lambda>", q, lamArgs (lamAt 5), [], lamScope (lamAt 5), [], c'⟩ (lamBody (lamAt 5)) (tlR CE) := by
  refine lok_of (nsc 5) rfl (fun _ _ _ => rfl) fun A outer s H Q E hr h => ⟨_, pe_mkX cX hr (by decide) rfl (takes_of rfl rfl rfl (E := E) rfl) (pa_cons pe_str (pa_cons pe_int (pa_cons pe_int pa_nil))), ?_⟩
  obtain ⟨R, hR, h⟩ := h
  intro x dx hx hd ne
  generalize hH : upd (upd H dx _) x _ = H1
  have hL : Led H1 ((x, .ins CA dx (fz [] [])) :: R) := Led.made hR hx hd ne hH
  exact ⟨x, dx, "p", 1, 10, R, rfl, hL, .inr (.inr (by decide)), h _ hL.tail⟩
theorem lok7 {f c' : Addr} {q : Str} (c_Place : Mak P w K mg base 1 "Place" CM (spMInit CM) []) (c_Part : Mak P w K mg base 1 "Part" CA (spAInit CA) []) (cX : MakX P w K mg base 1 "Planner" CP (spPInitX CM CA CP CE) []) : LOk P w K mg base 6 f ⟨"<lambda>", q, lamArgs (lamAt 6), [], lamScope (lamAt 6), [], c'⟩ (lamBody (lamAt 6)) (tlR CE) := by
  refine lok_of (nsc 6) rfl (fun _ _ _ => rfl) fun A outer s H Q E hr h => ⟨_, pe_mkX cX hr (by decide) rfl (takes_of rfl rfl rfl (E := E) rfl) (pa_cons (pe_lst (pa_cons (pe_mk c_Place hr (by decide) rfl (pa_cons pe_str (pa_cons pe_str (pa_cons pe_int pa_nil)))) (pa_cons (pe_mk c_Place hr (by decide) rfl (pa_cons pe_str (pa_cons pe_str (pa_cons pe_int pa_nil)))) pa_nil))) (pa_cons (pe_lst pa_nil) pa_nil)), ?_⟩
  obtain ⟨R, hR, h⟩ := h
  have hL := hR
  intro a da hx hd ne
  generalize hH : upd (upd H da _) a _ = H
  replace hL := Led.made hL hx hd ne hH
  clear hH hx hd ne
  refine ⟨a, da, "m", "z", 1, _, rfl, hL, by decide, by decide, fun H hL => ⟨rfl, ?_⟩⟩
  intro b db hx hd ne
  generalize hH : upd (upd H db _) b _ = H
  replace hL := Led.made hL hx hd ne hH
  clear hH hx hd ne
  refine ⟨b, db, "m", "y", 1, _, rfl, hL, by decide, by decide, fun H hL => ⟨rfl, ?_⟩⟩
  refine ⟨show 2 ≤ sizeLine by decide, fun l1 hp => ?_⟩
  generalize hH : upd H l1 _ = H
  replace hL := Led.newH hL hp hH
  clear hH hp
  refine ⟨show 0 ≤ sizeLine by decide, fun l2 hp => ?_⟩
  generalize hH : upd H l2 _ = H
  replace hL := Led.newH hL hp hH
  clear hH hp
  intro x dx hx hd ne
  generalize hH : upd (upd H dx _) x _ = H
  replace hL := Led.made hL hx hd ne hH
  clear hH hx hd ne
  refine ⟨x, dx, l1, l2, [("m", ⟨a, da, "z", 1⟩), ("m", ⟨b, db, "y", 1⟩)], [], R, rfl, by (refine Led.le hL (fun a_ => ?_); simp only [cnt_nil, cnt_cons, cnt_app, List.map_append, List.map_cons, List.map_nil, List.flatMap_append, List.flatMap_cons, List.flatMap_nil, List.append_assoc, List.cons_append, List.nil_append, mV, pV]; omega), (show 2 < 60 by decide), by decide, .inl (show ¬ (["m", "m"] : List Str).Nodup by decide +kernel), fun H' hL' => h _ hL'⟩
theorem lok8 {f c' : Addr} {q : Str} (c_Place : Mak P w K mg base 1 "Place" CM (spMInit CM) []) (c_Part : Mak P w K mg base 1 "Part" CA (spAInit CA) []) (cX : MakX P w K mg base 1 "Planner" CP (spPInitX CM CA CP CE) []) : LOk P w K mg base 6 f ⟨"<lambda>", q, lamArgs (lamAt 7), [], lamScope (lamAt 7), [], c'⟩ (lamBody (lamAt 7)) (tlR CE) := by
  refine lok_of (nsc 7) rfl (fun _ _ _ => rfl) fun A outer s H Q E hr h => ⟨_, pe_mkX cX hr (by decide) rfl (takes_of rfl rfl rfl (E := E) rfl) (pa_cons (pe_lst pa_nil) (pa_cons (pe_lst (pa_cons (pe_mk c_Part hr (by decide) rfl (pa_cons pe_str (pa_cons pe_int (pa_cons pe_int pa_nil)))) (pa_cons (pe_mk c_Part hr (by decide) rfl (pa_cons pe_str (pa_cons pe_int (pa_cons pe_int pa_nil)))) pa_nil))) pa_nil)), ?_⟩
  obtain ⟨R, hR, h⟩ := h
  have hL := hR
  refine ⟨show 0 ≤ sizeLine by decide, fun l1 hp => ?_⟩
  generalize hH : upd H l1 _ = H
  replace hL := Led.newH hL hp hH
  clear hH hp
  intro a da hx hd ne
  generalize hH : upd (upd H da _) a _ = H
  replace hL := Led.made hL hx hd ne hH
  clear hH hx hd ne
  refine ⟨a, da, "p", 1, 1, _, rfl, hL, by decide, by decide, by decide, by decide, fun H hL => ⟨rfl, ?_⟩⟩
  intro b db hx hd ne
  generalize hH : upd (upd H db _) b _ = H
  replace hL := Led.made hL hx hd ne hH
  clear hH hx hd ne
  refine ⟨b, db, "p", 2, 1, _, rfl, hL, by decide, by decide, by decide, by decide, fun H hL => ⟨rfl, ?_⟩⟩
  refine ⟨show 2 ≤ sizeLine by decide, fun l2 hp => ?_⟩
  generalize hH : upd H l2 _ = H
  replace hL := Led.newH hL hp hH
  clear hH hp
  intro x dx hx hd ne
  generalize hH : upd (upd H dx _) x _ = H
  replace hL := Led.made hL hx hd ne hH
  clear hH hx hd ne
  refine ⟨x, dx, l1, l2, [], [("p", ⟨a, da, 1, 1⟩), ("p", ⟨b, db, 2, 1⟩)], R, rfl, by (refine Led.le hL (fun a_ => ?_); simp only [cnt_nil, cnt_cons, cnt_app, List.map_append, List.map_cons, List.map_nil, List.flatMap_append, List.flatMap_cons, List.flatMap_nil, List.append_assoc, List.cons_append, List.nil_append, mV, pV]; omega), by decide, (show 2 < 60 by decide), .inr (show ¬ (["p", "p"] : List Str).Nodup by decide +kernel), fun H' hL' => h _ hL'⟩
end
end Sd


set_option linter.unusedVariables false
namespace Sd
open PySem L2 LamX
open PyProof.Rows (sortedS)
open C8 (Cal Met Mak pe_c pe_mk pe_mt pe_mt0 pss_cut tCut)
set_option linter.unusedSimpArgs false
set_option pp.deepTerms false
set_option pp.deepTerms.threshold 12
set_option hygiene false
local macro_rules | `(tactic| fail "nd") => `(tactic| first | assumption | decide +kernel)
local macro_rules | `(tactic| fail "ix") => `(tactic| first | exact ⟨0, rfl⟩ | exact ⟨1, rfl⟩ | exact ⟨2, rfl⟩ | exact ⟨3, rfl⟩ | exact ⟨4, rfl⟩ | exact ⟨5, rfl⟩ | exact ⟨6, rfl⟩ | exact ⟨7, rfl⟩ | exact ⟨8, rfl⟩ | exact ⟨9, rfl⟩ | exact ⟨10, rfl⟩ | exact ⟨11, rfl⟩ | exact ⟨12, rfl⟩ | exact ⟨13, rfl⟩ | exact ⟨14, rfl⟩ | exact ⟨15, rfl⟩ | exact ⟨16, rfl⟩ | exact ⟨17, rfl⟩ | exact ⟨18, rfl⟩ | assumption)
local macro_rules | `(tactic| fail "up") => `(tactic| first | exact ⟨0, rfl, rfl⟩ | exact ⟨1, rfl, rfl⟩ | exact ⟨2, rfl, rfl⟩ | exact ⟨3, rfl, rfl⟩ | exact ⟨4, rfl, rfl⟩ | exact ⟨5, rfl, rfl⟩ | exact ⟨6, rfl, rfl⟩ | exact ⟨7, rfl, rfl⟩ | exact ⟨8, rfl, rfl⟩ | exact ⟨9, rfl, rfl⟩ | exact ⟨10, rfl, rfl⟩ | exact ⟨11, rfl, rfl⟩ | exact ⟨12, rfl, rfl⟩ | exact ⟨13, rfl, rfl⟩ | exact ⟨14, rfl, rfl⟩ | exact ⟨15, rfl, rfl⟩ | exact ⟨16, rfl, rfl⟩ | assumption)
local macro_rules | `(tactic| fail "lkF") => `(tactic| first | assumption | exact fz_at 0 (by fail "nd") rfl rfl | exact fz_at 1 (by fail "nd") rfl rfl | exact fz_at 2 (by fail "nd") rfl rfl | exact fz_at 3 (by fail "nd") rfl rfl | exact fz_at 4 (by fail "nd") rfl rfl | exact fz_at 5 (by fail "nd") rfl rfl | exact fz_at 6 (by fail "nd") rfl rfl | exact fz_at 7 (by fail "nd") rfl rfl)
local macro_rules | `(tactic| fail "lkD") => `(tactic| first | assumption | exact dz_at 0 (by fail "nd") rfl rfl | exact dz_at 1 (by fail "nd") rfl rfl | exact dz_at 2 (by fail "nd") rfl rfl | exact dz_at 3 (by fail "nd") rfl rfl | exact dz_at 4 (by fail "nd") rfl rfl)
local macro_rules | `(tactic| fail "ptF") => `(tactic| first | assumption | exact fz_put 0 (by fail "nd") rfl (Nat.le_of_ble_eq_true rfl) | exact fz_put 1 (by fail "nd") rfl (Nat.le_of_ble_eq_true rfl) | exact fz_put 2 (by fail "nd") rfl (Nat.le_of_ble_eq_true rfl) | exact fz_put 3 (by fail "nd") rfl (Nat.le_of_ble_eq_true rfl) | exact fz_put 4 (by fail "nd") rfl (Nat.le_of_ble_eq_true rfl) | exact fz_put 5 (by fail "nd") rfl (Nat.le_of_ble_eq_true rfl) | exact fz_put 6 (by fail "nd") rfl (Nat.le_of_ble_eq_true rfl) | exact fz_put 7 (by fail "nd") rfl (Nat.le_of_ble_eq_true rfl) | exact fz_new (by decide +kernel) rfl)
local macro_rules | `(tactic| fail "ptD") => `(tactic| first | assumption | exact dz_put 0 (by fail "nd") rfl (Nat.le_of_ble_eq_true rfl) | exact dz_put 1 (by fail "nd") rfl (Nat.le_of_ble_eq_true rfl) | exact dz_put 2 (by fail "nd") rfl (Nat.le_of_ble_eq_true rfl) | exact dz_put 3 (by fail "nd") rfl (Nat.le_of_ble_eq_true rfl) | exact dz_put 4 (by fail "nd") rfl (Nat.le_of_ble_eq_true rfl))
local macro_rules | `(tactic| fail "sz") => `(tactic| first | assumption | exact (Nat.le_of_ble_eq_true rfl) | omega | decide)
local macro_rules | `(tactic| fail "sd") => `(tactic| first | rfl | assumption | decide | omega | (dsimp only; first | decide | omega) | exact .inr ⟨by decide, by decide⟩ | exact .inl ⟨by decide, by decide⟩ | exact ⟨by omega, by omega⟩ | exact .inl ⟨by omega, by omega⟩ | exact .inr ⟨by omega, by omega⟩ | exact ⟨by omega, by omega, by omega⟩)
local macro_rules | `(tactic| fail "cl") => `(tactic| (clear hH; dsimp only [List.set, List.cons_append, List.nil_append, List.append] at hL))
local macro_rules | `(tactic| fail "gn") => `(tactic| (intro p hp; generalize hH : upd H p _ = H; replace hL := Led.newH hL hp hH; clear hH hp))
local macro_rules | `(tactic| fail "gup") => `(tactic| (generalize hH : upd H _ _ = H; replace hL := Led.upU hL (by fail "up") hH; fail "cl"))
local macro_rules | `(tactic| fail "gmk") => `(tactic| (intro x dx hx hd ne; generalize hH : upd (upd H dx _) x _ = H; replace hL := Led.made hL hx hd ne hH; clear hH hx hd ne))
local macro_rules | `(tactic| fail "v") => `(tactic| refine ⟨_, rfl, ?_⟩)
local macro_rules | `(tactic| fail "i2") => `(tactic| refine ⟨_, _, rfl, rfl, ?_⟩)
local macro_rules | `(tactic| fail "go1") => `(tactic| first
  | refine ⟨_, rfl, ?_⟩
  | refine ⟨_, _, rfl, rfl, ?_⟩
  | refine ⟨_, _, rfl, ?_⟩
  | refine iteT ?_
  | refine iteF ?_
  | refine k_fld hL (by fail "ix") (by assumption) (by assumption) (by fail "lkF") ?_
  | refine k_dgetS hL (by fail "ix") (by fail "lkD") ?_
  | refine k_dgetI hL (by fail "ix") (by assumption) ?_
  | refine k_ixL hL (by fail "ix") (by first | rfl | assumption) ?_
  | refine k_ixT hL (by fail "ix") (by first | rfl | assumption) ?_
  | refine k_tyL hL (by fail "ix") ?_
  | refine k_isd hL (by fail "ix") ?_
  | (refine And.intro (by fail "sz") ?_; fail "gn")
  | refine And.intro (by fail "sd") ?_
  | fail "gn"
  | refine k_meth hL (by fail "ix") (by first | assumption | exact fz_no (by decide +kernel)) ?_
  | refine k_gtup hL (by fail "ix") rfl ?_
  | (refine k_popI hL (by fail "ix") (by assumption) ?_; fail "gup")
  | (refine k_listD hL (by fail "ix") ?_; fail "gn")
  | (refine ⟨_, _, _, _, rfl, rfl, hL.at (by fail "ix"), rfl, ?_⟩; fail "gup")
  | (refine ⟨_, _, _, rfl, rfl, hL.at (by fail "ix"), (by fail "sz"), ?_⟩; fail "gup")
  | (refine ⟨_, _, _, _, rfl, hL.at (by fail "ix"), by assumption, by assumption, Nat.lt_of_le_of_lt fz_len (by decide), ?_⟩; generalize hH : upd H _ _ = H; replace hL := Led.upF hL (by fail "up") (by fail "ptF") hH; fail "cl")
  | (refine ⟨_, _, hL.at (by fail "ix"), Nat.lt_of_le_of_lt fz_len (by decide), ?_⟩; generalize hH : upd H _ _ = H; replace hL := Led.upF hL (by fail "up") (by fail "ptF") hH; fail "cl")
  | (refine k_dputS hL (by fail "ix") (Nat.lt_of_le_of_lt dz_len (by decide)) (by fail "ptD") (by fail "up") ?_; clear hL; intro H hL; dsimp only [List.set, List.cons_append, List.nil_append, List.append] at hL)
  | refine k_lenL2 hL (by fail "ix") ?_
  | refine k_lenT2 hL (by fail "ix") ?_
  | refine .inl ⟨_, rfl, ?_⟩
  | refine .inr ⟨_, rfl, ?_⟩)
local macro_rules | `(tactic| fail "go") => `(tactic| repeat fail "go1")
local macro_rules | `(tactic| fail "pm") => `(tactic| (refine Led.le hL (fun a_ => ?_); simp only [cnt_nil, cnt_cons, cnt_app, List.map_append, List.map_cons, List.map_nil, List.flatMap_append, List.flatMap_cons, List.flatMap_nil, List.append_assoc, List.cons_append, List.nil_append]; omega))

def M0 : List MRow := [("a", "x", 5), ("b", "x", 9), ("c", "y", 3)]
def P0 : List PRow := [("p", 2, 2)]
def T0 : FT := [("p", ["a"])]
def F1 : FT := [("p", ["b", "c"])]
def F2 : FT := [("p", ["a", "c"])]
theorem m0_nd : (M0.map (·.1)).Nodup := by decide +kernel
theorem m0_s : sortedS (M0.map (·.1)) = true := by decide +kernel
theorem m0_r : ∀ m ∈ M0, 0 ≤ m.2.2 := by decide +kernel
theorem p0_ok : PsOk P0 := ⟨by decide +kernel, by decide +kernel, by decide +kernel⟩
theorem pl_1 : (planP M0 P0 []).f = F1 ∧ (planP M0 P0 []).l = [] := by decide +kernel
theorem pl_2 : (planP M0 P0 T0).f = F2 ∧ (planP M0 P0 T0).l = [] := by decide +kernel
theorem be_2 : bestP (M0.map (·.1)) (zf M0) (planP M0 P0 T0).g 99 [] = none := by decide +kernel
theorem ma_2 : mayP (M0.map (·.1)) (zf M0) (planP M0 P0 T0).g 1 "zz" [] = false := by decide +kernel
def Sh20 (pb : V) (σ : L2.St) : Prop := ∃ (v0 v1 v2 v3 v4 v5 v6 v7 v8 v9 v10 v11 v12 v13 v14 v15 v16 v17 v18 v19 v21 : Option V), σ = [v0, v1, v2, v3, v4, v5, v6, v7, v8, v9, v10, v11, v12, v13, v14, v15, v16, v17, v18, v19, some pb, v21]
def Sh15 (on : Addr) (pb : V) (σ : L2.St) : Prop := ∃ (v0 v1 v2 v3 v4 v5 v6 v7 v8 v9 v10 v11 v12 v13 v14 v16 v17 v18 v19 v21 : Option V), σ = [v0, v1, v2, v3, v4, v5, v6, v7, v8, v9, v10, v11, v12, v13, v14, some (.ref on), v16, v17, v18, v19, some pb, v21]
def tCp : TS := fun D σ H => ∃ (pb : V) (R : Lg), Sh20 pb σ ∧ Led H R ∧ ∀ σ' H', Sh20 pb σ' → Led H' R → D.nx σ' H'
def OneL (CM CA CP : Addr) (on ds md pl ld : Addr) (ms : List MaE) (ps : List PaE) (g : Gf) (R : Lg) : Lg := (pl, .lst (ps.map pV)) :: (PL CM CP on ds md pl ld ms g ++ (ps.map (pO CA) ++ R))
def tPl (CM CA CP : Addr) : TS := fun D σ H => ∃ (pb : V) (R : Lg), Sh20 pb σ ∧ Led H R ∧ ∀ (on ds md pl ld : Addr) (ms : List MaE) (ps : List PaE) σ' H', Sh15 on pb σ' → plM ms = M0 → plA ps = P0 → Led H' (OneL CM CA CP on ds md pl ld ms ps (rf M0) R) → D.nx σ' H'
def tCk (CM CA CP : Addr) : TS := fun D σ H => ∃ (pb : V) (on ds md pl ld : Addr) (ms : List MaE) (ps : List PaE) (g : Gf) (R : Lg), Sh15 on pb σ ∧ plM ms = M0 ∧ plA ps = P0 ∧ Led H (OneL CM CA CP on ds md pl ld ms ps g R) ∧ ∀ σ' H', Sh20 pb σ' → Led H' R → D.nx σ' H'
section
variable {P : Program} {w : World} {K : PySem.W.Frag} {mg : Str → Option Value} {base : Heap} {CM CA CP : Addr} {f : Addr} {cdv : Value} {A : Around} {outer : List Env} {s0 : Shared} {H0 : Hp} {E : XK}
theorem st_cp (hr : Room 8 (LX P w K mg base f cdv A outer s0 H0 E).A) (X : TxtP K mg CM CA CP) (c_Part : Mak P w K mg base 1 "Part" CA (spAInit CA) []) : PS (LX P w K mg base f cdv A outer s0 H0 E) (nth (defBody sLaw) 2) tCp := by
  refine ps_imp (t := _) (ps_if (pt_cmpR op_ne (pe_fld (pe_mk c_Part hr (by decide) (by rfl) (pa_cons pe_str (pa_cons pe_int (pa_cons pe_int pa_nil)))) rfl) pe_int (nomark _))
  (pss_one (ps_ret pe_bl))
  pss_nil) ?_
  rintro D σ H ⟨pb, R, ⟨v0, v1, v2, v3, v4, v5, v6, v7, v8, v9, v10, v11, v12, v13, v14, v15, v16, v17, v18, v19, v21, rfl⟩, hL, k⟩
  have c1 := X.clA
  have f1 := X.nA "copies" (by decide +kernel)
  intro x dx hx hd ne
  generalize hH : upd (upd H dx _) x _ = H
  replace hL := Led.made hL hx hd ne hH
  clear hH hx hd ne
  refine ⟨x, dx, "p", 1, 9, _, rfl, hL, by decide, by decide, by decide, by decide, fun H hL => ⟨rfl, ?_⟩⟩
  dsimp only [pO] at hL
  fail "go"
  exact k _ _ ⟨_, _, _, _, _, _, _, _, _, _, _, _, _, _, _, _, _, _, _, _, _, rfl⟩ hL.tail
theorem st_pl (hr : Room 8 (LX P w K mg base f cdv A outer s0 H0 E).A) (c_Place : Mak P w K mg base 1 "Place" CM (spMInit CM) []) (c_Part : Mak P w K mg base 1 "Part" CA (spAInit CA) []) (c_Planner : Mak P w K mg base 1 "Planner" CP (spPInit CM CA CP) []) :
    PS (LX P w K mg base f cdv A outer s0 H0 E) (nth (defBody sLaw) 3) (tPl CM CA CP) := by
  refine ps_imp (t := _) (ps_set (i := 15) scLaw.nd rfl (Or.inl rfl) (pe_mk c_Planner hr (by decide) (by rfl) (pa_cons (pe_lst (pa_cons (pe_mk c_Place hr (by decide) (by rfl) (pa_cons pe_str (pa_cons pe_str (pa_cons pe_int pa_nil)))) (pa_cons (pe_mk c_Place hr (by decide) (by rfl) (pa_cons pe_str (pa_cons pe_str (pa_cons pe_int pa_nil)))) (pa_cons (pe_mk c_Place hr (by decide) (by rfl) (pa_cons pe_str (pa_cons pe_str (pa_cons pe_int pa_nil)))) pa_nil)))) (pa_cons (pe_lst (pa_cons (pe_mk c_Part hr (by decide) (by rfl) (pa_cons pe_str (pa_cons pe_int (pa_cons pe_int pa_nil)))) pa_nil)) pa_nil)))) ?_
  rintro D σ H ⟨pb, R, ⟨v0, v1, v2, v3, v4, v5, v6, v7, v8, v9, v10, v11, v12, v13, v14, v15, v16, v17, v18, v19, v21, rfl⟩, hL, k⟩
  intro a da hx hd ne
  generalize hH : upd (upd H da _) a _ = H
  replace hL := Led.made hL hx hd ne hH
  clear hH hx hd ne
  refine ⟨a, da, "a", "x", 5, _, rfl, hL, by decide, by decide, fun H hL => ⟨rfl, ?_⟩⟩
  intro b db hx hd ne
  generalize hH : upd (upd H db _) b _ = H
  replace hL := Led.made hL hx hd ne hH
  clear hH hx hd ne
  refine ⟨b, db, "b", "x", 9, _, rfl, hL, by decide, by decide, fun H hL => ⟨rfl, ?_⟩⟩
  intro c dc hx hd ne
  generalize hH : upd (upd H dc _) c _ = H
  replace hL := Led.made hL hx hd ne hH
  clear hH hx hd ne
  refine ⟨c, dc, "c", "y", 3, _, rfl, hL, by decide, by decide, fun H hL => ⟨rfl, ?_⟩⟩
  refine ⟨show 3 ≤ sizeLine by decide, fun l1 hp => ?_⟩
  generalize hH : upd H l1 _ = H
  replace hL := Led.newH hL hp hH
  clear hH hp
  intro p dp hx hd ne
  generalize hH : upd (upd H dp _) p _ = H
  replace hL := Led.made hL hx hd ne hH
  clear hH hx hd ne
  refine ⟨p, dp, "p", 2, 2, _, rfl, hL, by decide, by decide, by decide, by decide, fun H hL => ⟨rfl, ?_⟩⟩
  refine ⟨show 1 ≤ sizeLine by decide, fun l2 hp => ?_⟩
  generalize hH : upd H l2 _ = H
  replace hL := Led.newH hL hp hH
  clear hH hp
  intro x dx hx hd ne
  generalize hH : upd (upd H dx _) x _ = H
  replace hL := Led.made hL hx hd ne hH
  clear hH hx hd ne
  refine ⟨x, dx, l1, l2, [("a", ⟨a, da, "x", 5⟩), ("b", ⟨b, db, "x", 9⟩), ("c", ⟨c, dc, "y", 3⟩)], [("p", ⟨p, dp, 2, 2⟩)], R, rfl, by (refine Led.le hL (fun a_ => ?_); simp only [cnt_nil, cnt_cons, cnt_app, List.map_append, List.map_cons, List.map_nil, List.flatMap_append, List.flatMap_cons, List.flatMap_nil, List.append_assoc, List.cons_append, List.nil_append, mV, pV]; omega), (show (M0.map (·.1)).Nodup from m0_nd), (show (P0.map (·.1)).Nodup from p0_ok.nd), (show 3 < 60 by decide), (show 1 < 60 by decide), fun md pl ld H hL => ⟨rfl, ?_⟩⟩
  fail "go"
  exact k x dx md pl ld [("a", ⟨a, da, "x", 5⟩), ("b", ⟨b, db, "x", 9⟩), ("c", ⟨c, dc, "y", 3⟩)] [("p", ⟨p, dp, 2, 2⟩)] _ _ ⟨_, _, _, _, _, _, _, _, _, _, _, _, _, _, _, _, _, _, _, _, rfl⟩ rfl rfl hL
theorem st_ck (hr : Room 8 (LX P w K mg base f cdv A outer s0 H0 E).A) (c_Part : Mak P w K mg base 1 "Part" CA (spAInit CA) []) (c_Planner_plan : Met P w K mg base 3 CP "plan" (spPlan CM CA CP) []) (c_Planner_best_for : Met P w K mg base 2 CP "best_for" (spBest CM CA CP) []) (c_Planner_may_hold : Met P w K mg base 1 CP "may_hold" (spMay CM CA CP) []) :
    PS (LX P w K mg base f cdv A outer s0 H0 E) (nth (defBody sLaw) 4) (tCk CM CA CP) := by
  refine ps_imp (t := _) (ps_if (PW.pt (pw_or (pt_cmpR (op_neW hr.units) (pe_mt c_Planner_plan hr (by decide) (pv 15) (pa_cons pe_dnewK pa_nil)) (pe_tup (pa_cons (pe_disp (pps_cons pe_str (pe_tup (pa_cons pe_str (pa_cons pe_str pa_nil))) pps_nil) (by rfl) (by rfl) (fun z => by cases z) (by decide)) (pa_cons pe_dnewK pa_nil))) (nomark _)) (pw_or (pt_cmpR (op_neW hr.units) (pe_mt c_Planner_plan hr (by decide) (pv 15) (pa_cons (pe_disp (pps_cons pe_str (pe_tup (pa_cons pe_str pa_nil)) pps_nil) (by rfl) (by rfl) (fun z => by cases z) (by decide)) pa_nil)) (pe_tup (pa_cons (pe_disp (pps_cons pe_str (pe_tup (pa_cons pe_str (pa_cons pe_str pa_nil))) pps_nil) (by rfl) (by rfl) (fun z => by cases z) (by decide)) (pa_cons pe_dnewK pa_nil))) (nomark _)) (pw_or (pt_cmpR op_notN (pe_mt c_Planner_best_for hr (by decide) (pv 15) (pa_cons (pe_mk c_Part hr (by decide) (by rfl) (pa_cons pe_str (pa_cons pe_int (pa_cons pe_int pa_nil)))) (pa_cons (pe_lst pa_nil) pa_nil))) pe_non (nomark _)) (pw_or1 (pt_val (pe_mt c_Planner_may_hold hr (by decide) (pv 15) (pa_cons (pe_mk c_Part hr (by decide) (by rfl) (pa_cons pe_str (pa_cons pe_int (pa_cons pe_int pa_nil)))) (pa_cons pe_str (pa_cons (pe_lst pa_nil) pa_nil))))))))))
  (pss_one (ps_ret pe_bl))
  pss_nil) ?_
  rintro D σ H ⟨pb, on, ds, md, pl, ld, ms, ps, g, R, ⟨v0, v1, v2, v3, v4, v5, v6, v7, v8, v9, v10, v11, v12, v13, v14, v16, v17, v18, v19, v21, rfl⟩, hms, hps, hL, k⟩
  have mz : ms.length < 60 := by
    have := congrArg List.length hms
    unfold plM at this
    rw [List.length_map] at this
    rw [this]; decide
  have pz : ps.length < 60 := by
    have := congrArg List.length hps
    rw [plA_len] at this
    rw [this]; decide
  have mnd : (ms.map (·.1)).Nodup := by rw [← plM_ns, hms]; exact m0_nd
  have mst : sortedS (ms.map (·.1)) = true := by rw [← plM_ns, hms]; exact m0_s
  have mr : ∀ m ∈ ms, 0 ≤ m.2.r := fun m hm => m0_r (m.1, m.2.z, m.2.r) (by rw [← hms]; exact List.mem_map.mpr ⟨m, hm, rfl⟩)
  have pok : PsOk (plA ps) := by rw [hps]; exact p0_ok
  unfold OneL PL at hL
  fail "go"
  refine ⟨on, ds, md, pl, ld, p, ms, ps, [], g, R, rfl, by unfold PL; (refine Led.le hL (fun a_ => ?_); simp only [cnt_nil, cnt_cons, cnt_app, List.map_append, List.map_cons, List.map_nil, List.flatMap_append, List.flatMap_cons, List.flatMap_nil, List.append_assoc, List.cons_append, List.nil_append]; omega), mnd, mst, mz, mr, pok, pz, .nil, fun t fd xd ld1 ts H hts hL => ?_⟩
  rw [hms, hps] at hts hL
  change plF ts = (planP M0 P0 []).f at hts
  change Led _ (_ :: _ :: (_, HO.dK ((planP M0 P0 []).l.map _)) :: (_ ++ (_ :: _ :: (_ ++ (PL CM CP on ds md pl ld1 ms (planP M0 P0 []).g ++ _))))) at hL
  rw [pl_1.1] at hts
  rw [pl_1.2] at hL
  generalize (planP M0 P0 []).g = g1 at hL
  intro d1 hd
  generalize hH : upd H d1 _ = H
  replace hL := Led.newH hL hd hH
  clear hH hd
  refine ⟨show 2 ≤ sizeLine by decide, fun q1 hq => ?_⟩
  generalize hH : upd H q1 _ = H
  replace hL := Led.newH hL hq hH
  clear hH hq
  refine ⟨hL.at ⟨1, rfl⟩, [(Sum.inr "p", .ref q1)], rfl, (show 1 ≤ 15 by decide), ?_⟩
  generalize hH : upd H d1 _ = H
  replace hL := Led.upU hL (o' := .dK (([("p", (q1, ["b", "c"]))] : List TupE).map (kk tV))) ⟨1, rfl, rfl⟩ hH
  dsimp only [List.set] at hL
  clear hH
  intro e0 he0
  generalize hH : upd H e0 _ = H
  replace hL := Led.newH hL he0 hH
  clear hH he0
  refine ⟨show 2 ≤ sizeLine by decide, fun u hu => ?_⟩
  generalize hH : upd H u _ = H
  replace hL := Led.newH hL hu hH
  clear hH hu
  refine k_neW 3 (by decide) (hL.at ⟨4, rfl⟩) (hL.at ⟨0, rfl⟩) (.cons (ew_tups (ts := ts) (us := [("p", (q1, ["b", "c"]))]) (hts.symm) (by simp) (hL.at ⟨5, rfl⟩) (hL.at ⟨3, rfl⟩) (fun e he => hL.mem (.tail _ (.tail _ (.tail _ (.tail _ (.tail _ (.tail _ (.tail _ (List.mem_append_left _ (List.mem_map.mpr ⟨e, he, rfl⟩)))))))))) fun e he => by
    rw [List.mem_singleton.mp he]
    exact hL.at ⟨2, rfl⟩) (.cons (ew_lacks (l := []) .nil (hL.at ⟨6, rfl⟩) (hL.at ⟨1, rfl⟩)) .nil)) ?_
  replace hL : Led H (OneL CM CA CP on ds md pl ld1 ms ps g1 R) := by
    unfold OneL
    (refine Led.le hL (fun a_ => ?_); simp only [cnt_nil, cnt_cons, cnt_app, List.map_append, List.map_cons, List.map_nil, List.flatMap_append, List.flatMap_cons, List.flatMap_nil, List.append_assoc, List.cons_append, List.nil_append]; omega)
  clear hts
  unfold OneL PL at hL
  fail "go"
  rename_i d2 Hx
  refine ⟨hL.at ⟨1, rfl⟩, [(Sum.inr "p", .ref p)], rfl, (show 1 ≤ 15 by decide), ?_⟩
  generalize hH : upd H d2 _ = H
  replace hL := Led.upU hL (o' := .dK (([("p", (p, ["a"]))] : List TupE).map (kk tV))) ⟨1, rfl, rfl⟩ hH
  dsimp only [List.set] at hL
  clear hH
  refine ⟨on, ds, md, pl, ld1, d2, ms, ps, [("p", (p, ["a"]))], g1, R, rfl, by unfold PL; (refine Led.le hL (fun a_ => ?_); simp only [cnt_nil, cnt_cons, cnt_app, List.map_append, List.map_cons, List.map_nil, List.flatMap_append, List.flatMap_cons, List.flatMap_nil, List.append_assoc, List.cons_append, List.nil_append, tupO]; omega), mnd, mst, mz, mr, pok, pz, by simp, fun t fd xd ld2 ts H hts hL => ?_⟩
  rw [hms, hps] at hts hL
  change plF ts = (planP M0 P0 T0).f at hts
  change Led _ (_ :: _ :: (_, HO.dK ((planP M0 P0 T0).l.map _)) :: (_ ++ (_ :: _ :: (_ ++ (PL CM CP on ds md pl ld2 ms (planP M0 P0 T0).g ++ _))))) at hL
  rw [pl_2.1] at hts
  rw [pl_2.2] at hL
  have hbe := be_2
  have hma := ma_2
  rw [← hms] at hbe hma
  rw [plM_ns] at hbe hma
  rw [hms] at hbe hma
  generalize (planP M0 P0 T0).g = g2 at hL hbe hma
  intro d3 hd
  generalize hH : upd H d3 _ = H
  replace hL := Led.newH hL hd hH
  clear hH hd
  refine ⟨show 2 ≤ sizeLine by decide, fun q3 hq => ?_⟩
  generalize hH : upd H q3 _ = H
  replace hL := Led.newH hL hq hH
  clear hH hq
  refine ⟨hL.at ⟨1, rfl⟩, [(Sum.inr "p", .ref q3)], rfl, (show 1 ≤ 15 by decide), ?_⟩
  generalize hH : upd H d3 _ = H
  replace hL := Led.upU hL (o' := .dK (([("p", (q3, ["a", "c"]))] : List TupE).map (kk tV))) ⟨1, rfl, rfl⟩ hH
  dsimp only [List.set] at hL
  clear hH
  intro e0 he0
  generalize hH : upd H e0 _ = H
  replace hL := Led.newH hL he0 hH
  clear hH he0
  refine ⟨show 2 ≤ sizeLine by decide, fun u hu => ?_⟩
  generalize hH : upd H u _ = H
  replace hL := Led.newH hL hu hH
  clear hH hu
  refine k_neW 3 (by decide) (hL.at ⟨4, rfl⟩) (hL.at ⟨0, rfl⟩) (.cons (ew_tups (ts := ts) (us := [("p", (q3, ["a", "c"]))]) (hts.symm) (by simp) (hL.at ⟨5, rfl⟩) (hL.at ⟨3, rfl⟩) (fun e he => hL.mem (.tail _ (.tail _ (.tail _ (.tail _ (.tail _ (.tail _ (.tail _ (List.mem_append_left _ (List.mem_map.mpr ⟨e, he, rfl⟩)))))))))) fun e he => by
    rw [List.mem_singleton.mp he]
    exact hL.at ⟨2, rfl⟩) (.cons (ew_lacks (l := []) .nil (hL.at ⟨6, rfl⟩) (hL.at ⟨1, rfl⟩)) .nil)) ?_
  replace hL : Led H (OneL CM CA CP on ds md pl ld2 ms ps g2 R) := by
    unfold OneL
    (refine Led.le hL (fun a_ => ?_); simp only [cnt_nil, cnt_cons, cnt_app, List.map_append, List.map_cons, List.map_nil, List.flatMap_append, List.flatMap_cons, List.flatMap_nil, List.append_assoc, List.cons_append, List.nil_append]; omega)
  clear hts
  unfold OneL PL at hL
  fail "go"
  intro x dx hx hd ne
  generalize hH : upd (upd H dx _) x _ = H
  replace hL := Led.made hL hx hd ne hH
  clear hH hx hd ne
  refine ⟨x, dx, "q", 99, 1, _, rfl, hL, by decide, by decide, by decide, by decide, fun H hL => ⟨rfl, ?_⟩⟩
  refine ⟨show 0 ≤ sizeLine by decide, fun rl hrl => ?_⟩
  generalize hH : upd H rl _ = H
  replace hL := Led.newH hL hrl hH
  clear hH hrl
  refine ⟨on, ds, md, pl, ld2, rl, ms, g2, ("q", ⟨x, dx, 99, 1⟩), [], (pl, .lst (ps.map pV)) :: (ps.map (pO CA) ++ R), rfl, by unfold PL; (refine Led.le hL (fun a_ => ?_); simp only [cnt_nil, cnt_cons, cnt_app, List.map_append, List.map_cons, List.map_nil, List.flatMap_append, List.flatMap_cons, List.flatMap_nil, List.append_assoc, List.cons_append, List.nil_append]; omega), fun _ h => (nomatch h), by decide, mz, mst, fun H hL => ?_⟩
  refine ⟨rfl, ?_⟩
  rw [hms]
  dsimp only
  rw [hbe]
  replace hL : Led H (OneL CM CA CP on ds md pl ld2 ms ps g2 R) := by
    unfold OneL
    (refine Led.le hL (fun a_ => ?_); simp only [cnt_nil, cnt_cons, cnt_app, List.map_append, List.map_cons, List.map_nil, List.flatMap_append, List.flatMap_cons, List.flatMap_nil, List.append_assoc, List.cons_append, List.nil_append]; omega)
  unfold OneL PL at hL
  fail "go"
  intro x dx hx hd ne
  generalize hH : upd (upd H dx _) x _ = H
  replace hL := Led.made hL hx hd ne hH
  clear hH hx hd ne
  refine ⟨x, dx, "q", 1, 1, _, rfl, hL, by decide, by decide, by decide, by decide, fun H hL => ⟨rfl, ?_⟩⟩
  refine ⟨show 0 ≤ sizeLine by decide, fun rl hrl => ?_⟩
  generalize hH : upd H rl _ = H
  replace hL := Led.newH hL hrl hH
  clear hH hrl
  refine ⟨on, ds, md, pl, ld2, rl, ms, g2, ("q", ⟨x, dx, 1, 1⟩), "zz", [], (pl, .lst (ps.map pV)) :: (ps.map (pO CA) ++ R), rfl, by unfold PL; (refine Led.le hL (fun a_ => ?_); simp only [cnt_nil, cnt_cons, cnt_app, List.map_append, List.map_cons, List.map_nil, List.flatMap_append, List.flatMap_cons, List.flatMap_nil, List.append_assoc, List.cons_append, List.nil_append]; omega), fun _ h => (nomatch h), by decide, fun H hL => ⟨_, rfl, ?_⟩⟩
  rw [hms]
  dsimp only
  rw [hma]
  unfold PL at hL
  fail "go"
  exact k _ _ ⟨_, _, _, _, _, _, _, _, _, _, _, _, _, _, _, _, _, _, _, _, _, rfl⟩ (by (refine Led.le hL (fun a_ => ?_); simp only [cnt_nil, cnt_cons, cnt_app, List.map_append, List.map_cons, List.map_nil, List.flatMap_append, List.flatMap_cons, List.flatMap_nil, List.append_assoc, List.cons_append, List.nil_append]; omega))
end
end Sd


set_option linter.unusedVariables false
namespace Sd
open PySem L2 LamX
open PyProof.Rows (sortedS)
open C8 (Cal Met Mak pe_c pe_mk pe_mt pe_mt0 pss_cut tCut)
set_option linter.unusedSimpArgs false
set_option pp.deepTerms false
set_option pp.deepTerms.threshold 12
set_option hygiene false
local macro_rules | `(tactic| fail "nd") => `(tactic| first | assumption | decide +kernel)
local macro_rules | `(tactic| fail "ix") => `(tactic| first | exact ⟨0, rfl⟩ | exact ⟨1, rfl⟩ | exact ⟨2, rfl⟩ | exact ⟨3, rfl⟩ | exact ⟨4, rfl⟩ | exact ⟨5, rfl⟩ | exact ⟨6, rfl⟩ | exact ⟨7, rfl⟩ | exact ⟨8, rfl⟩ | exact ⟨9, rfl⟩ | exact ⟨10, rfl⟩ | exact ⟨11, rfl⟩ | exact ⟨12, rfl⟩ | exact ⟨13, rfl⟩ | exact ⟨14, rfl⟩ | exact ⟨15, rfl⟩ | exact ⟨16, rfl⟩ | exact ⟨17, rfl⟩ | exact ⟨18, rfl⟩ | assumption)
local macro_rules | `(tactic| fail "up") => `(tactic| first | exact ⟨0, rfl, rfl⟩ | exact ⟨1, rfl, rfl⟩ | exact ⟨2, rfl, rfl⟩ | exact ⟨3, rfl, rfl⟩ | exact ⟨4, rfl, rfl⟩ | exact ⟨5, rfl, rfl⟩ | exact ⟨6, rfl, rfl⟩ | exact ⟨7, rfl, rfl⟩ | exact ⟨8, rfl, rfl⟩ | exact ⟨9, rfl, rfl⟩ | exact ⟨10, rfl, rfl⟩ | exact ⟨11, rfl, rfl⟩ | exact ⟨12, rfl, rfl⟩ | exact ⟨13, rfl, rfl⟩ | exact ⟨14, rfl, rfl⟩ | exact ⟨15, rfl, rfl⟩ | exact ⟨16, rfl, rfl⟩ | assumption)
local macro_rules | `(tactic| fail "lkF") => `(tactic| first | assumption | exact fz_at 0 (by fail "nd") rfl rfl | exact fz_at 1 (by fail "nd") rfl rfl | exact fz_at 2 (by fail "nd") rfl rfl | exact fz_at 3 (by fail "nd") rfl rfl | exact fz_at 4 (by fail "nd") rfl rfl | exact fz_at 5 (by fail "nd") rfl rfl | exact fz_at 6 (by fail "nd") rfl rfl | exact fz_at 7 (by fail "nd") rfl rfl)
local macro_rules | `(tactic| fail "lkD") => `(tactic| first | assumption | exact dz_at 0 (by fail "nd") rfl rfl | exact dz_at 1 (by fail "nd") rfl rfl | exact dz_at 2 (by fail "nd") rfl rfl | exact dz_at 3 (by fail "nd") rfl rfl | exact dz_at 4 (by fail "nd") rfl rfl)
local macro_rules | `(tactic| fail "ptF") => `(tactic| first | assumption | exact fz_put 0 (by fail "nd") rfl (Nat.le_of_ble_eq_true rfl) | exact fz_put 1 (by fail "nd") rfl (Nat.le_of_ble_eq_true rfl) | exact fz_put 2 (by fail "nd") rfl (Nat.le_of_ble_eq_true rfl) | exact fz_put 3 (by fail "nd") rfl (Nat.le_of_ble_eq_true rfl) | exact fz_put 4 (by fail "nd") rfl (Nat.le_of_ble_eq_true rfl) | exact fz_put 5 (by fail "nd") rfl (Nat.le_of_ble_eq_true rfl) | exact fz_put 6 (by fail "nd") rfl (Nat.le_of_ble_eq_true rfl) | exact fz_put 7 (by fail "nd") rfl (Nat.le_of_ble_eq_true rfl) | exact fz_new (by decide +kernel) rfl)
local macro_rules | `(tactic| fail "ptD") => `(tactic| first | assumption | exact dz_put 0 (by fail "nd") rfl (Nat.le_of_ble_eq_true rfl) | exact dz_put 1 (by fail "nd") rfl (Nat.le_of_ble_eq_true rfl) | exact dz_put 2 (by fail "nd") rfl (Nat.le_of_ble_eq_true rfl) | exact dz_put 3 (by fail "nd") rfl (Nat.le_of_ble_eq_true rfl) | exact dz_put 4 (by fail "nd") rfl (Nat.le_of_ble_eq_true rfl))
local macro_rules | `(tactic| fail "sz") => `(tactic| first | assumption | exact (Nat.le_of_ble_eq_true rfl) | omega | decide)
local macro_rules | `(tactic| fail "sd") => `(tactic| first | rfl | assumption | decide | omega | (dsimp only; first | decide | omega) | exact .inr ⟨by decide, by decide⟩ | exact .inl ⟨by decide, by decide⟩ | exact ⟨by omega, by omega⟩ | exact .inl ⟨by omega, by omega⟩ | exact .inr ⟨by omega, by omega⟩ | exact ⟨by omega, by omega, by omega⟩)
local macro_rules | `(tactic| fail "cl") => `(tactic| (clear hH; dsimp only [List.set, List.cons_append, List.nil_append, List.append] at hL))
local macro_rules | `(tactic| fail "gn") => `(tactic| (intro p hp; generalize hH : upd H p _ = H; replace hL := Led.newH hL hp hH; clear hH hp))
local macro_rules | `(tactic| fail "gup") => `(tactic| (generalize hH : upd H _ _ = H; replace hL := Led.upU hL (by fail "up") hH; fail "cl"))
local macro_rules | `(tactic| fail "gmk") => `(tactic| (intro x dx hx hd ne; generalize hH : upd (upd H dx _) x _ = H; replace hL := Led.made hL hx hd ne hH; clear hH hx hd ne))
local macro_rules | `(tactic| fail "v") => `(tactic| refine ⟨_, rfl, ?_⟩)
local macro_rules | `(tactic| fail "i2") => `(tactic| refine ⟨_, _, rfl, rfl, ?_⟩)
local macro_rules | `(tactic| fail "go1") => `(tactic| first
  | refine ⟨_, rfl, ?_⟩
  | refine ⟨_, _, rfl, rfl, ?_⟩
  | refine ⟨_, _, rfl, ?_⟩
  | refine iteT ?_
  | refine iteF ?_
  | refine k_fld hL (by fail "ix") (by assumption) (by assumption) (by fail "lkF") ?_
  | refine k_dgetS hL (by fail "ix") (by fail "lkD") ?_
  | refine k_dgetI hL (by fail "ix") (by assumption) ?_
  | refine k_ixL hL (by fail "ix") (by first | rfl | assumption) ?_
  | refine k_ixT hL (by fail "ix") (by first | rfl | assumption) ?_
  | refine k_tyL hL (by fail "ix") ?_
  | refine k_isd hL (by fail "ix") ?_
  | (refine And.intro (by fail "sz") ?_; fail "gn")
  | refine And.intro (by fail "sd") ?_
  | fail "gn"
  | refine k_meth hL (by fail "ix") (by first | assumption | exact fz_no (by decide +kernel)) ?_
  | refine k_gtup hL (by fail "ix") rfl ?_
  | (refine k_popI hL (by fail "ix") (by assumption) ?_; fail "gup")
  | (refine k_listD hL (by fail "ix") ?_; fail "gn")
  | (refine ⟨_, _, _, _, rfl, rfl, hL.at (by fail "ix"), rfl, ?_⟩; fail "gup")
  | (refine ⟨_, _, _, rfl, rfl, hL.at (by fail "ix"), (by fail "sz"), ?_⟩; fail "gup")
  | (refine ⟨_, _, _, _, rfl, hL.at (by fail "ix"), by assumption, by assumption, Nat.lt_of_le_of_lt fz_len (by decide), ?_⟩; generalize hH : upd H _ _ = H; replace hL := Led.upF hL (by fail "up") (by fail "ptF") hH; fail "cl")
  | (refine ⟨_, _, hL.at (by fail "ix"), Nat.lt_of_le_of_lt fz_len (by decide), ?_⟩; generalize hH : upd H _ _ = H; replace hL := Led.upF hL (by fail "up") (by fail "ptF") hH; fail "cl")
  | (refine k_dputS hL (by fail "ix") (Nat.lt_of_le_of_lt dz_len (by decide)) (by fail "ptD") (by fail "up") ?_; clear hL; intro H hL; dsimp only [List.set, List.cons_append, List.nil_append, List.append] at hL)
  | refine k_lenL2 hL (by fail "ix") ?_
  | refine k_lenT2 hL (by fail "ix") ?_
  | refine .inl ⟨_, rfl, ?_⟩
  | refine .inr ⟨_, rfl, ?_⟩)
local macro_rules | `(tactic| fail "go") => `(tactic| repeat fail "go1")
local macro_rules | `(tactic| fail "pm") => `(tactic| (refine Led.le hL (fun a_ => ?_); simp only [cnt_nil, cnt_cons, cnt_app, List.map_append, List.map_cons, List.map_nil, List.flatMap_append, List.flatMap_cons, List.flatMap_nil, List.append_assoc, List.cons_append, List.nil_append]; omega))

abbrev tail : List Stmt := [nth (defBody sLaw) 1, nth (defBody sLaw) 2, nth (defBody sLaw) 3, nth (defBody sLaw) 4, nth (defBody sLaw) 5]
def tEnd (PL : Addr) (qn : Str) : TS := fun D σ H => (∃ v0 v1 v2 v3 v4 v5 v6 v7 v8 v9 v10 v11 v12 v13 v14 v15 v16 v17 v18 v19 v20 v21, σ = [v0, v1, v2, v3, v4, v5, v6, v7, v8, v9, v10, v11, v12, v13, v14, v15, v16, v17, v18, v19, v20, v21]) ∧ TabS H PL qn ∧ ∀ H', D.rt (.bl true) H'
def oB : FT := [("p", ["a", "b"])]
def nB : FT := [("p", ["b", "c"]), ("q", ["a"])]
def mB : List MV := [("p", some "a", some "c"), ("q", none, some "a")]
theorem old_le {F : FT} {n : Nat} (h : ∀ e ∈ F, e.2.length ≤ n) (k : Str) : (oldOf F k).length ≤ n := by
  unfold oldOf
  cases e : aget F k with
  | none => exact Nat.zero_le _
  | some v => exact h _ (aget_mem e)
theorem mB_ok : movesP oB nB ["p", "q"] = mB := by decide +kernel
section
variable {P : Program} {w : World} {K : PySem.W.Frag} {mg : Str → Option Value} {base : Heap} {CM CA CP CE : Addr} {f cL PL : Addr} {A : Around} {outer : List Env} {s0 : Shared} {H0 : Hp} {E : XK}
theorem st_tail (hr : Room 8 (LX P w K mg base f (.ref cL) A outer s0 H0 E).A) (X : TxtP K mg CM CA CP) (TE : ExcT K mg "PlaceError" CE) (TB : LamX.TabB base mg cL PL) (c__law_told : Cal P w K mg base 7 "_law_told" (spTold P w K mg base 6 CE "PlaceError") [])
    (c_Place : Mak P w K mg base 1 "Place" CM (spMInit CM) []) (c_Part : Mak P w K mg base 1 "Part" CA (spAInit CA) []) (c_Planner : Mak P w K mg base 1 "Planner" CP (spPInit CM CA CP) [])
    (x_Place : MakX P w K mg base 1 "Place" CM (spMInitX CM CE) []) (x_Part : MakX P w K mg base 1 "Part" CA (spAInitX CA CE) []) (x_Planner : MakX P w K mg base 1 "Planner" CP (spPInitX CM CA CP CE) [])
    (c_Planner_plan : Met P w K mg base 3 CP "plan" (spPlan CM CA CP) []) (c_Planner_best_for : Met P w K mg base 2 CP "best_for" (spBest CM CA CP) []) (c_Planner_may_hold : Met P w K mg base 1 CP "may_hold" (spMay CM CA CP) []) (c_moves_between : Cal P w K mg base 3 "moves_between" spMoves []) :
    PSs (LX P w K mg base f (.ref cL) A outer s0 H0 E) tail (tEnd PL ((LX P w K mg base f (.ref cL) A outer s0 H0 E).env.qual ++ "<lambda>")) := by
  refine pss_imp (t := _) (pss_cons (ps_set (i := 20) scLaw.nd rfl (Or.inl rfl) (pe_lst (pa_cons (pe_lamv TB rfl rfl rfl (by decide +kernel)) (pa_cons (pe_lamv TB rfl rfl rfl (by decide +kernel)) (pa_cons (pe_lamv TB rfl rfl rfl (by decide +kernel)) (pa_cons (pe_lamv TB rfl rfl rfl (by decide +kernel)) (pa_cons (pe_lamv TB rfl rfl rfl (by decide +kernel)) (pa_cons (pe_lamv TB rfl rfl rfl (by decide +kernel)) (pa_cons (pe_lamv TB rfl rfl rfl (by decide +kernel)) (pa_cons (pe_lamv TB rfl rfl rfl (by decide +kernel)) pa_nil)))))))))) (pss_cons (st_cp hr X c_Part) (pss_cons (st_pl hr c_Place c_Part c_Planner) (pss_cons (st_ck hr c_Part c_Planner_plan c_Planner_best_for c_Planner_may_hold) (pss_one (ps_ret (pe_and (pe_cmpR (op_eqP hr.units) (pe_lc (own := [("f", 21)]) (g := gName 21) (by rfl) scLaw.nd (pi_list (pv 20)) (blkOk_by (own := [("f", 21)]) (N := ["script", "dice", "old", "turn", "machines", "parts", "planner", "row", "found", "lacks", "zones", "left", "name", "weight", "copies", "one", "moves", "here", "gone", "come", "bad", "f"]) (sc := (defScope sLaw)) (by decide +kernel)) (fun _ _ _ _ _ => (pg_name (i := 21) scLaw.nd rfl (Or.inl rfl))) (fun _ _ _ _ _ => (pts_one (pt_cmpR op_ne (pe_c c__law_told hr (by decide) (by rfl) (pa_cons (pv 21) pa_nil)) pe_str (nomark _)))) (fun _ _ _ _ _ => pe_int)) (pe_lst pa_nil) (nomark _)) (pe_one (pe_cmpR (op_eqW hr.units) (pe_c c_moves_between hr (by decide) (by rfl) (pa_cons (pe_disp (pps_cons pe_str (pe_tup (pa_cons pe_str (pa_cons pe_str pa_nil))) pps_nil) (by rfl) (by rfl) (fun z => by cases z) (by decide)) (pa_cons (pe_disp (pps_cons pe_str (pe_tup (pa_cons pe_str (pa_cons pe_str pa_nil))) (pps_cons pe_str (pe_tup (pa_cons pe_str pa_nil)) pps_nil)) (by rfl) (by rfl) (fun z => by cases z) (by decide)) pa_nil))) (pe_tup (pa_cons (pe_tup (pa_cons pe_str (pa_cons pe_str (pa_cons pe_str pa_nil)))) (pa_cons (pe_tup (pa_cons pe_str (pa_cons pe_non (pa_cons pe_str pa_nil)))) pa_nil))) (nomark _)))))))))) ?_
  rintro D σ H ⟨⟨v0, v1, v2, v3, v4, v5, v6, v7, v8, v9, v10, v11, v12, v13, v14, v15, v16, v17, v18, v19, v20, v21, rfl⟩, T0, k⟩
  have keep : ∀ {H H' : Hp} {f : Addr} {F : NdefX.NF} {b : Expr}, LamX.ExtN H H' → H f = some (LamO f F b) → H' f = some (LamO f F b) := fun e h => e _ _ h fun ps z => by cases z
  have keepC : ∀ {H H' : Hp} {c : Addr} {q : Str}, LamX.ExtN H H' → H c = some (CodeO c q) → H' c = some (CodeO c q) := fun e h => e _ _ h codeO_ne
  refine ⟨T0, fun f1 c1 H1 eN1 T1 n1 hf1 hc1 => ?_⟩
  refine ⟨T1, fun f2 c2 H2 eN2 T2 n2 hf2 hc2 => ?_⟩
  refine ⟨T2, fun f3 c3 H3 eN3 T3 n3 hf3 hc3 => ?_⟩
  refine ⟨T3, fun f4 c4 H4 eN4 T4 n4 hf4 hc4 => ?_⟩
  refine ⟨T4, fun f5 c5 H5 eN5 T5 n5 hf5 hc5 => ?_⟩
  refine ⟨T5, fun f6 c6 H6 eN6 T6 n6 hf6 hc6 => ?_⟩
  refine ⟨T6, fun f7 c7 H7 eN7 T7 n7 hf7 hc7 => ?_⟩
  refine ⟨T7, fun f8 c8 H8 eN8 T8 n8 hf8 hc8 => ?_⟩
  replace hf1 := (keep eN8 (keep eN7 (keep eN6 (keep eN5 (keep eN4 (keep eN3 (keep eN2 hf1)))))))
  replace hc1 := (keepC eN8 (keepC eN7 (keepC eN6 (keepC eN5 (keepC eN4 (keepC eN3 (keepC eN2 hc1)))))))
  replace hf2 := (keep eN8 (keep eN7 (keep eN6 (keep eN5 (keep eN4 (keep eN3 hf2))))))
  replace hc2 := (keepC eN8 (keepC eN7 (keepC eN6 (keepC eN5 (keepC eN4 (keepC eN3 hc2))))))
  replace hf3 := (keep eN8 (keep eN7 (keep eN6 (keep eN5 (keep eN4 hf3)))))
  replace hc3 := (keepC eN8 (keepC eN7 (keepC eN6 (keepC eN5 (keepC eN4 hc3)))))
  replace hf4 := (keep eN8 (keep eN7 (keep eN6 (keep eN5 hf4))))
  replace hc4 := (keepC eN8 (keepC eN7 (keepC eN6 (keepC eN5 hc4))))
  replace hf5 := (keep eN8 (keep eN7 (keep eN6 hf5)))
  replace hc5 := (keepC eN8 (keepC eN7 (keepC eN6 hc5)))
  replace hf6 := (keep eN8 (keep eN7 hf6))
  replace hc6 := (keepC eN8 (keepC eN7 hc6))
  replace hf7 := (keep eN8 hf7)
  replace hc7 := (keepC eN8 hc7)
  obtain ⟨Z, hL, hZ⟩ := led_moreX [f1, f2, f3, f4, f5, f6, f7, f8, c1, c2, c3, c4, c5, c6, c7, c8] [] (Led.nil (H := H8))
  replace hf1 := hZ f1 (by simp) _ hf1
  replace hc1 := hZ c1 (by simp) _ hc1
  replace hf2 := hZ f2 (by simp) _ hf2
  replace hc2 := hZ c2 (by simp) _ hc2
  replace hf3 := hZ f3 (by simp) _ hf3
  replace hc3 := hZ c3 (by simp) _ hc3
  replace hf4 := hZ f4 (by simp) _ hf4
  replace hc4 := hZ c4 (by simp) _ hc4
  replace hf5 := hZ f5 (by simp) _ hf5
  replace hc5 := hZ c5 (by simp) _ hc5
  replace hf6 := hZ f6 (by simp) _ hf6
  replace hc6 := hZ c6 (by simp) _ hc6
  replace hf7 := hZ f7 (by simp) _ hf7
  replace hc7 := hZ c7 (by simp) _ hc7
  replace hf8 := hZ f8 (by simp) _ hf8
  replace hc8 := hZ c8 (by simp) _ hc8
  clear hZ keep keepC eN1 T1 n1 eN2 T2 n2 eN3 T3 n3 eN4 T4 n4 eN5 T5 n5 eN6 T6 n6 eN7 T7 n7 eN8 T8 n8
  rw [List.append_nil] at hL
  replace hf1 : ∀ H', Led H' Z → _ := fun H' h => hf1 H' (by rw [List.append_nil]; exact h)
  replace hc1 : ∀ H', Led H' Z → _ := fun H' h => hc1 H' (by rw [List.append_nil]; exact h)
  replace hf2 : ∀ H', Led H' Z → _ := fun H' h => hf2 H' (by rw [List.append_nil]; exact h)
  replace hc2 : ∀ H', Led H' Z → _ := fun H' h => hc2 H' (by rw [List.append_nil]; exact h)
  replace hf3 : ∀ H', Led H' Z → _ := fun H' h => hf3 H' (by rw [List.append_nil]; exact h)
  replace hc3 : ∀ H', Led H' Z → _ := fun H' h => hc3 H' (by rw [List.append_nil]; exact h)
  replace hf4 : ∀ H', Led H' Z → _ := fun H' h => hf4 H' (by rw [List.append_nil]; exact h)
  replace hc4 : ∀ H', Led H' Z → _ := fun H' h => hc4 H' (by rw [List.append_nil]; exact h)
  replace hf5 : ∀ H', Led H' Z → _ := fun H' h => hf5 H' (by rw [List.append_nil]; exact h)
  replace hc5 : ∀ H', Led H' Z → _ := fun H' h => hc5 H' (by rw [List.append_nil]; exact h)
  replace hf6 : ∀ H', Led H' Z → _ := fun H' h => hf6 H' (by rw [List.append_nil]; exact h)
  replace hc6 : ∀ H', Led H' Z → _ := fun H' h => hc6 H' (by rw [List.append_nil]; exact h)
  replace hf7 : ∀ H', Led H' Z → _ := fun H' h => hf7 H' (by rw [List.append_nil]; exact h)
  replace hc7 : ∀ H', Led H' Z → _ := fun H' h => hc7 H' (by rw [List.append_nil]; exact h)
  replace hf8 : ∀ H', Led H' Z → _ := fun H' h => hf8 H' (by rw [List.append_nil]; exact h)
  replace hc8 : ∀ H', Led H' Z → _ := fun H' h => hc8 H' (by rw [List.append_nil]; exact h)
  refine ⟨show 8 ≤ sizeLine by decide, fun pb hpb => ?_⟩
  generalize hH : upd H8 pb _ = H
  replace hL := Led.newH hL hpb hH
  clear hH hpb
  refine ⟨.ref pb, _, ⟨_, _, _, _, _, _, _, _, _, _, _, _, _, _, _, _, _, _, _, _, _, rfl⟩, hL, fun σ H sh hL => ?_⟩
  refine ⟨.ref pb, _, sh, hL, fun on ds md pl ld ms ps σ H sh hms hps hL => ?_⟩
  refine ⟨.ref pb, on, ds, md, pl, ld, ms, ps, _, _, sh, hms, hps, hL, fun σ H sh hL => ?_⟩
  obtain ⟨v0, v1, v2, v3, v4, v5, v6, v7, v8, v9, v10, v11, v12, v13, v14, v15, v16, v17, v18, v19, v21, rfl⟩ := sh
  have hxs : ∀ (i : Nat) (v : V), [V.ref f1, .ref f2, .ref f3, .ref f4, .ref f5, .ref f6, .ref f7, .ref f8][i]? = some v → v = .ref f1 ∨ v = .ref f2 ∨ v = .ref f3 ∨ v = .ref f4 ∨ v = .ref f5 ∨ v = .ref f6 ∨ v = .ref f7 ∨ v = .ref f8 := fun i v h => by
    have := List.mem_of_getElem? h
    simpa using this
  refine ⟨_, rfl, pb, rfl, ⟨_, .of (hL.at ⟨0, rfl⟩)⟩, fun D1 hD1 => lc_list (K := K) (a := pb) (xs := [.ref f1, .ref f2, .ref f3, .ref f4, .ref f5, .ref f6, .ref f7, .ref f8]) (fun i H => Hold (Led H ((D1, .lst []) :: (pb, .lst [.ref f1, .ref f2, .ref f3, .ref f4, .ref f5, .ref f6, .ref f7, .ref f8]) :: Z))) (.mk (hL.new hD1)) (fun i H _ h => .of (h.out.at ⟨1, rfl⟩)) (fun i v H hi h => ?_) (fun H h => ?_)⟩
  · clear hL
    have hL := h.out
    clear h
    rcases hxs i v hi with rfl | rfl | rfl | rfl | rfl | rfl | rfl | rfl
    · refine ⟨rfl, ?_⟩
      refine ⟨_, rfl, f1, _, _, tlR CE, rfl, hf1 _ hL.tail.tail, hc1 _ hL.tail.tail, lok1 x_Place, _, hL, fun H' hL => ⟨true, TE.em, fun _ => ?_, fun z => nomatch z⟩⟩
      fail "go"
      exact .mk hL
    · refine ⟨rfl, ?_⟩
      refine ⟨_, rfl, f2, _, _, tlR CE, rfl, hf2 _ hL.tail.tail, hc2 _ hL.tail.tail, lok2 x_Place, _, hL, fun H' hL => ⟨true, TE.em, fun _ => ?_, fun z => nomatch z⟩⟩
      fail "go"
      exact .mk hL
    · refine ⟨rfl, ?_⟩
      refine ⟨_, rfl, f3, _, _, tlR CE, rfl, hf3 _ hL.tail.tail, hc3 _ hL.tail.tail, lok3 x_Part, _, hL, fun H' hL => ⟨true, TE.em, fun _ => ?_, fun z => nomatch z⟩⟩
      fail "go"
      exact .mk hL
    · refine ⟨rfl, ?_⟩
      refine ⟨_, rfl, f4, _, _, tlR CE, rfl, hf4 _ hL.tail.tail, hc4 _ hL.tail.tail, lok4 x_Part, _, hL, fun H' hL => ⟨true, TE.em, fun _ => ?_, fun z => nomatch z⟩⟩
      fail "go"
      exact .mk hL
    · refine ⟨rfl, ?_⟩
      refine ⟨_, rfl, f5, _, _, tlR CE, rfl, hf5 _ hL.tail.tail, hc5 _ hL.tail.tail, lok5 x_Part, _, hL, fun H' hL => ⟨true, TE.em, fun _ => ?_, fun z => nomatch z⟩⟩
      fail "go"
      exact .mk hL
    · refine ⟨rfl, ?_⟩
      refine ⟨_, rfl, f6, _, _, tlR CE, rfl, hf6 _ hL.tail.tail, hc6 _ hL.tail.tail, lok6 x_Part, _, hL, fun H' hL => ⟨true, TE.em, fun _ => ?_, fun z => nomatch z⟩⟩
      fail "go"
      exact .mk hL
    · refine ⟨rfl, ?_⟩
      refine ⟨_, rfl, f7, _, _, tlR CE, rfl, hf7 _ hL.tail.tail, hc7 _ hL.tail.tail, lok7 c_Place c_Part x_Planner, _, hL, fun H' hL => ⟨true, TE.em, fun _ => ?_, fun z => nomatch z⟩⟩
      fail "go"
      exact .mk hL
    · refine ⟨rfl, ?_⟩
      refine ⟨_, rfl, f8, _, _, tlR CE, rfl, hf8 _ hL.tail.tail, hc8 _ hL.tail.tail, lok8 c_Place c_Part x_Planner, _, hL, fun H' hL => ⟨true, TE.em, fun _ => ?_, fun z => nomatch z⟩⟩
      fail "go"
      exact .mk hL
  clear hL hxs hf1 hc1 hf2 hc2 hf3 hc3 hf4 hc4 hf5 hc5 hf6 hc6 hf7 hc7 hf8 hc8
  have hL := h.out
  clear h
  refine ⟨show 0 ≤ sizeLine by decide, fun pe hpe => ?_⟩
  generalize hH : upd H pe _ = H
  replace hL := Led.newH hL hpe hH
  clear hH hpe
  refine k_eqD (α := List Int) (by decide) (dt_nil (hL.at ⟨1, rfl⟩)) (dt_nil (hL.at ⟨0, rfl⟩)) ?_
  rw [decide_eq_true rfl]
  refine ⟨_, rfl, iteT ?_⟩
  replace hL : Led H [] := ⟨fun _ h => (nomatch h), List.nodup_nil⟩
  intro d1 hd1
  generalize hH : upd H d1 _ = H
  replace hL := Led.newH hL hd1 hH
  clear hH hd1
  refine ⟨show 2 ≤ sizeLine by decide, fun q1 hq1 => ?_⟩
  generalize hH : upd H q1 _ = H
  replace hL := Led.newH hL hq1 hH
  clear hH hq1
  refine ⟨hL.at ⟨1, rfl⟩, [(Sum.inr "p", .ref q1)], rfl, (show 1 ≤ 15 by decide), ?_⟩
  generalize hH : upd H d1 _ = H
  replace hL := Led.upU hL (o' := .dK (([("p", (q1, ["a", "b"]))] : List TupE).map (kk tV))) ⟨1, rfl, rfl⟩ hH
  dsimp only [List.set] at hL
  clear hH
  intro d2 hd2
  generalize hH : upd H d2 _ = H
  replace hL := Led.newH hL hd2 hH
  clear hH hd2
  refine ⟨show 2 ≤ sizeLine by decide, fun q2 hq2 => ?_⟩
  generalize hH : upd H q2 _ = H
  replace hL := Led.newH hL hq2 hH
  clear hH hq2
  refine ⟨show 1 ≤ sizeLine by decide, fun q3 hq3 => ?_⟩
  generalize hH : upd H q3 _ = H
  replace hL := Led.newH hL hq3 hH
  clear hH hq3
  refine ⟨hL.at ⟨2, rfl⟩, [(Sum.inr "p", .ref q2), (Sum.inr "q", .ref q3)], rfl, (show 2 ≤ 15 by decide), ?_⟩
  generalize hH : upd H d2 _ = H
  have em : mergeK [] [((Sum.inr ("p" : Str) : Key), V.ref q2), (Sum.inr ("q" : Str), V.ref q3)] = [(Sum.inr ("p" : Str), V.ref q2), (Sum.inr ("q" : Str), V.ref q3)] := by
    rw [mergeK_nd _ _ (by
      show (([Sum.inr ("p" : Str), Sum.inr ("q" : Str)] : List Key)).Nodup
      decide +kernel)]
    rfl
  rw [em] at hH
  replace hL := Led.upU hL (o' := .dK (([("p", (q2, ["b", "c"])), ("q", (q3, ["a"]))] : List TupE).map (kk tV))) ⟨2, rfl, rfl⟩ hH
  dsimp only [List.set] at hL
  clear hH
  refine ⟨d1, d2, [("p", (q1, ["a", "b"]))], [("p", (q2, ["b", "c"])), ("q", (q3, ["a"]))], [], rfl, (show 1 < 30 by decide), (show 2 < 30 by decide), old_le (F := oB) (by decide +kernel), old_le (F := nB) (by decide +kernel), by unfold VL; (refine Led.le hL (fun a_ => ?_); simp only [cnt_nil, cnt_cons, cnt_app, List.map_append, List.map_cons, List.map_nil, List.flatMap_append, List.flatMap_cons, List.flatMap_nil, List.append_assoc, List.cons_append, List.nil_append, tupO]; omega), fun t mvs srt H su hmv hL => ?_⟩
  have es : srt = (["p", "q"] : List Str) := by
    have hp : srt.Perm (["p", "q"] : List Str) := perm_nd su.nd (by decide +kernel) fun k => (su.mem k).trans (by
      show k ∈ (["p"] : List Str) ∨ k ∈ (["p", "q"] : List Str) ↔ _
      exact ⟨fun h => h.elim (fun h => by rw [List.mem_singleton.mp h]; exact .head _) id, .inr⟩)
    exact sortedS_uniq hp su.s (by decide +kernel)
  rw [es] at hmv
  change mvs.map (·.2) = movesP oB nB ["p", "q"] at hmv
  rw [mB_ok] at hmv
  obtain ⟨a1, a2, rfl⟩ : ∃ a1 a2 : Addr, mvs = ([(a1, "p", some "a", some "c"), (a2, "q", none, some "a")] : List (Addr × MV)) := by
    rcases mvs with _ | ⟨⟨a1, m1⟩, _ | ⟨⟨a2, m2⟩, _ | ⟨m3, mr⟩⟩⟩
    · cases hmv
    · simp [mB] at hmv
    · simp only [List.map_cons, List.map_nil, mB, List.cons.injEq, and_true] at hmv
      obtain ⟨rfl, rfl⟩ := hmv
      exact ⟨a1, a2, rfl⟩
    · simp [mB] at hmv
  replace hL : Led H [(t, .tup [.ref a1, .ref a2]), (a1, .tup [.str "p", .str "a", .str "c"]), (a2, .tup [.str "q", .non, .str "a"])] := by (refine Led.le hL (fun a_ => ?_); simp only [cnt_nil, cnt_cons, cnt_app, List.map_append, List.map_cons, List.map_nil, List.flatMap_append, List.flatMap_cons, List.flatMap_nil, List.append_assoc, List.cons_append, List.nil_append, mvO, mvV, optV]; omega)
  refine ⟨show 3 ≤ sizeLine by decide, fun t1 ht1 => ?_⟩
  generalize hH : upd H t1 _ = H
  replace hL := Led.newH hL ht1 hH
  clear hH ht1
  refine ⟨show 3 ≤ sizeLine by decide, fun t2 ht2 => ?_⟩
  generalize hH : upd H t2 _ = H
  replace hL := Led.newH hL ht2 hH
  clear hH ht2
  refine ⟨show 2 ≤ sizeLine by decide, fun t3 ht3 => ?_⟩
  generalize hH : upd H t3 _ = H
  replace hL := Led.newH hL ht3 hH
  clear hH ht3
  refine k_eqW 2 (by decide) (hL.at ⟨3, rfl⟩) (hL.at ⟨0, rfl⟩) (.cons (ew_tup (hL.at ⟨4, rfl⟩) (hL.at ⟨2, rfl⟩) (ew_flats (by simp [flatB]))) (.cons (ew_tup (hL.at ⟨5, rfl⟩) (hL.at ⟨1, rfl⟩) (ew_flats (by simp [flatB]))) .nil)) ?_
  exact k H
end
end Sd


set_option linter.unusedVariables false
namespace Sd
open PySem L2 LamX
open PyProof.Rows (sortedS)
open C8 (Cal Met Mak pe_c pe_mk pe_mt pe_mt0 pss_cut tCut)
set_option linter.unusedSimpArgs false
set_option pp.deepTerms false
set_option pp.deepTerms.threshold 12
set_option hygiene false
local macro_rules | `(tactic| fail "nd") => `(tactic| first | assumption | decide +kernel)
local macro_rules | `(tactic| fail "ix") => `(tactic| first | exact ⟨0, rfl⟩ | exact ⟨1, rfl⟩ | exact ⟨2, rfl⟩ | exact ⟨3, rfl⟩ | exact ⟨4, rfl⟩ | exact ⟨5, rfl⟩ | exact ⟨6, rfl⟩ | exact ⟨7, rfl⟩ | exact ⟨8, rfl⟩ | exact ⟨9, rfl⟩ | exact ⟨10, rfl⟩ | exact ⟨11, rfl⟩ | exact ⟨12, rfl⟩ | exact ⟨13, rfl⟩ | exact ⟨14, rfl⟩ | exact ⟨15, rfl⟩ | exact ⟨16, rfl⟩ | exact ⟨17, rfl⟩ | exact ⟨18, rfl⟩ | assumption)
local macro_rules | `(tactic| fail "up") => `(tactic| first | exact ⟨0, rfl, rfl⟩ | exact ⟨1, rfl, rfl⟩ | exact ⟨2, rfl, rfl⟩ | exact ⟨3, rfl, rfl⟩ | exact ⟨4, rfl, rfl⟩ | exact ⟨5, rfl, rfl⟩ | exact ⟨6, rfl, rfl⟩ | exact ⟨7, rfl, rfl⟩ | exact ⟨8, rfl, rfl⟩ | exact ⟨9, rfl, rfl⟩ | exact ⟨10, rfl, rfl⟩ | exact ⟨11, rfl, rfl⟩ | exact ⟨12, rfl, rfl⟩ | exact ⟨13, rfl, rfl⟩ | exact ⟨14, rfl, rfl⟩ | exact ⟨15, rfl, rfl⟩ | exact ⟨16, rfl, rfl⟩ | assumption)
local macro_rules | `(tactic| fail "lkF") => `(tactic| first | assumption | exact fz_at 0 (by fail "nd") rfl rfl | exact fz_at 1 (by fail "nd") rfl rfl | exact fz_at 2 (by fail "nd") rfl rfl | exact fz_at 3 (by fail "nd") rfl rfl | exact fz_at 4 (by fail "nd") rfl rfl | exact fz_at 5 (by fail "nd") rfl rfl | exact fz_at 6 (by fail "nd") rfl rfl | exact fz_at 7 (by fail "nd") rfl rfl)
local macro_rules | `(tactic| fail "lkD") => `(tactic| first | assumption | exact dz_at 0 (by fail "nd") rfl rfl | exact dz_at 1 (by fail "nd") rfl rfl | exact dz_at 2 (by fail "nd") rfl rfl | exact dz_at 3 (by fail "nd") rfl rfl | exact dz_at 4 (by fail "nd") rfl rfl)
local macro_rules | `(tactic| fail "ptF") => `(tactic| first | assumption | exact fz_put 0 (by fail "nd") rfl (Nat.le_of_ble_eq_true rfl) | exact fz_put 1 (by fail "nd") rfl (Nat.le_of_ble_eq_true rfl) | exact fz_put 2 (by fail "nd") rfl (Nat.le_of_ble_eq_true rfl) | exact fz_put 3 (by fail "nd") rfl (Nat.le_of_ble_eq_true rfl) | exact fz_put 4 (by fail "nd") rfl (Nat.le_of_ble_eq_true rfl) | exact fz_put 5 (by fail "nd") rfl (Nat.le_of_ble_eq_true rfl) | exact fz_put 6 (by fail "nd") rfl (Nat.le_of_ble_eq_true rfl) | exact fz_put 7 (by fail "nd") rfl (Nat.le_of_ble_eq_true rfl) | exact fz_new (by decide +kernel) rfl)
local macro_rules | `(tactic| fail "ptD") => `(tactic| first | assumption | exact dz_put 0 (by fail "nd") rfl (Nat.le_of_ble_eq_true rfl) | exact dz_put 1 (by fail "nd") rfl (Nat.le_of_ble_eq_true rfl) | exact dz_put 2 (by fail "nd") rfl (Nat.le_of_ble_eq_true rfl) | exact dz_put 3 (by fail "nd") rfl (Nat.le_of_ble_eq_true rfl) | exact dz_put 4 (by fail "nd") rfl (Nat.le_of_ble_eq_true rfl))
local macro_rules | `(tactic| fail "sz") => `(tactic| first | assumption | exact (Nat.le_of_ble_eq_true rfl) | omega | decide)
local macro_rules | `(tactic| fail "sd") => `(tactic| first | rfl | assumption | decide | omega | (dsimp only; first | decide | omega) | exact .inr ⟨by decide, by decide⟩ | exact .inl ⟨by decide, by decide⟩ | exact ⟨by omega, by omega⟩ | exact .inl ⟨by omega, by omega⟩ | exact .inr ⟨by omega, by omega⟩ | exact ⟨by omega, by omega, by omega⟩)
local macro_rules | `(tactic| fail "cl") => `(tactic| (clear hH; dsimp only [List.set, List.cons_append, List.nil_append, List.append] at hL))
local macro_rules | `(tactic| fail "gn") => `(tactic| (intro p hp; generalize hH : upd H p _ = H; replace hL := Led.newH hL hp hH; clear hH hp))
local macro_rules | `(tactic| fail "gup") => `(tactic| (generalize hH : upd H _ _ = H; replace hL := Led.upU hL (by fail "up") hH; fail "cl"))
local macro_rules | `(tactic| fail "gmk") => `(tactic| (intro x dx hx hd ne; generalize hH : upd (upd H dx _) x _ = H; replace hL := Led.made hL hx hd ne hH; clear hH hx hd ne))
local macro_rules | `(tactic| fail "v") => `(tactic| refine ⟨_, rfl, ?_⟩)
local macro_rules | `(tactic| fail "i2") => `(tactic| refine ⟨_, _, rfl, rfl, ?_⟩)
local macro_rules | `(tactic| fail "go1") => `(tactic| first
  | refine ⟨_, rfl, ?_⟩
  | refine ⟨_, _, rfl, rfl, ?_⟩
  | refine ⟨_, _, rfl, ?_⟩
  | refine iteT ?_
  | refine iteF ?_
  | refine k_fld hL (by fail "ix") (by assumption) (by assumption) (by fail "lkF") ?_
  | refine k_dgetS hL (by fail "ix") (by fail "lkD") ?_
  | refine k_dgetI hL (by fail "ix") (by assumption) ?_
  | refine k_ixL hL (by fail "ix") (by first | rfl | assumption) ?_
  | refine k_ixT hL (by fail "ix") (by first | rfl | assumption) ?_
  | refine k_tyL hL (by fail "ix") ?_
  | refine k_isd hL (by fail "ix") ?_
  | (refine And.intro (by fail "sz") ?_; fail "gn")
  | refine And.intro (by fail "sd") ?_
  | fail "gn"
  | refine k_meth hL (by fail "ix") (by first | assumption | exact fz_no (by decide +kernel)) ?_
  | refine k_gtup hL (by fail "ix") rfl ?_
  | (refine k_popI hL (by fail "ix") (by assumption) ?_; fail "gup")
  | (refine k_listD hL (by fail "ix") ?_; fail "gn")
  | (refine ⟨_, _, _, _, rfl, rfl, hL.at (by fail "ix"), rfl, ?_⟩; fail "gup")
  | (refine ⟨_, _, _, rfl, rfl, hL.at (by fail "ix"), (by fail "sz"), ?_⟩; fail "gup")
  | (refine ⟨_, _, _, _, rfl, hL.at (by fail "ix"), by assumption, by assumption, Nat.lt_of_le_of_lt fz_len (by decide), ?_⟩; generalize hH : upd H _ _ = H; replace hL := Led.upF hL (by fail "up") (by fail "ptF") hH; fail "cl")
  | (refine ⟨_, _, hL.at (by fail "ix"), Nat.lt_of_le_of_lt fz_len (by decide), ?_⟩; generalize hH : upd H _ _ = H; replace hL := Led.upF hL (by fail "up") (by fail "ptF") hH; fail "cl")
  | (refine k_dputS hL (by fail "ix") (Nat.lt_of_le_of_lt dz_len (by decide)) (by fail "ptD") (by fail "up") ?_; clear hL; intro H hL; dsimp only [List.set, List.cons_append, List.nil_append, List.append] at hL)
  | refine k_lenL2 hL (by fail "ix") ?_
  | refine k_lenT2 hL (by fail "ix") ?_
  | refine .inl ⟨_, rfl, ?_⟩
  | refine .inr ⟨_, rfl, ?_⟩)
local macro_rules | `(tactic| fail "go") => `(tactic| repeat fail "go1")
local macro_rules | `(tactic| fail "pm") => `(tactic| (refine Led.le hL (fun a_ => ?_); simp only [cnt_nil, cnt_cons, cnt_app, List.map_append, List.map_cons, List.map_nil, List.flatMap_append, List.flatMap_cons, List.flatMap_nil, List.append_assoc, List.cons_append, List.nil_append]; omega))

def spLaw (K : PySem.W.Frag) (PL : Addr) : Sp := fun vs H Q _ => ∃ (a : Addr) (ns : List Int), vs = [.ref a] ∧ SqL K H a (ns.map V.int) ∧ ns.length ≤ 63 ∧ H PL = some (.tbl #[]) ∧ ∀ H', Q (.bl true) H'
theorem OldOk.nil : OldOk [] := ⟨List.nodup_nil, fun _ h => (nomatch h), fun k => ⟨List.nodup_nil, Nat.zero_le _⟩⟩
section
variable {P : Program} {w : World} {K : PySem.W.Frag} {mg : Str → Option Value} {base : Heap} {CE : Addr} {f cL PL : Addr} {A : Around} {outer : List Env} {s0 : Shared} {H0 : Hp} {E : XK}
theorem law_body (hr : Room 8 (LX P w K mg base f (.ref cL) A outer s0 H0 E).A) (T : TxtC mg) (c__law_rounds : Cal P w K mg base 2 "_law_rounds" (spRounds K) []) (c__law_roll : Cal P w K mg base 1 "_law_roll" spRoll [])
    (bT : PSs (LX P w K mg base f (.ref cL) A outer s0 H0 E) bodyT tTurn)
    (bE : PSs (LX P w K mg base f (.ref cL) A outer s0 H0 E) tail (tEnd PL ((LX P w K mg base f (.ref cL) A outer s0 H0 E).env.qual ++ "<lambda>")))
    {vs : List V} {H : Hp} {Q : VK} (h : spLaw K PL vs H Q E) : ∃ t, PSs (LX P w K mg base f (.ref cL) A outer s0 H0 E) (defBody sLaw) t ∧ t { nx := fun _ H' => Q .non H', rt := Q } (L2.start NL vs) H := by
  obtain ⟨a, ns0, rfl, hS, hlen, hP, k⟩ := h
  refine ⟨_, pss_cons (ps_for PassesOwn.never rfl (pi_list (pe_c c__law_rounds hr (by decide) (by rfl) (pa_cons (pv 0) (pa_cons pe_int pa_nil)))) (pg_name (i := 1) scLaw.nd rfl (Or.inl rfl))
    (pss_cons (ps_set (i := 2) scLaw.nd rfl (Or.inr rfl) pe_dnewK) (pss_one (ps_for PassesOwn.never rfl (pi_range1 (by rfl) T.range (pa_cons (pe_op op_add pe_int (pe_c c__law_roll hr (by decide) (by rfl) (pa_cons (pv 1) (pa_cons pe_int pa_nil)))) pa_nil)) (pg_name (i := 3) scLaw.nd rfl (Or.inl rfl))
  bT)))) bE, ?_⟩
  have hL : Led H [(PL, .tbl #[])] := ⟨fun x hx => by rw [List.mem_singleton.mp hx]; exact hP, by simp⟩
  fail "go"
  refine ⟨a, ns0, _, rfl, hS, hL, fun pr d x y z H hL => ?_⟩
  fail "go"
  refine ⟨⟨_, .of (hL.at ⟨0, rfl⟩)⟩, for_listA (K := K) (a := pr) (xs := [.ref d]) (fun i σ H => Hold ((i = 0 ∧ σ = L2.start NL [.ref a] ∧ Led H ((pr, .lst [.ref d]) :: (d, dD x y z) :: [(PL, .tbl #[])])) ∨
    (i = 1 ∧ (∃ v0 v1 v2 v3 v4 v5 v6 v7 v8 v9 v10 v11 v12 v13 v14 v15 v16 v17 v18 v19 v20 v21 : Option V, σ = [v0, v1, v2, v3, v4, v5, v6, v7, v8, v9, v10, v11, v12, v13, v14, v15, v16, v17, v18, v19, v20, v21]) ∧ Led H ((pr, .lst [.ref d]) :: [(PL, .tbl #[])])))) ?_ ?_ ?_ ?_⟩
  · exact .mk (.inl ⟨rfl, rfl, hL⟩)
  · intro i σ H _ h
    rcases h.out with ⟨_, _, hL⟩ | ⟨_, _, hL⟩
    · exact .of (hL.at ⟨0, rfl⟩)
    · exact .of (hL.at ⟨0, rfl⟩)
  · clear hL
    intro i y0 σ H D' hy h hD'
    rcases h.out with ⟨rfl, rfl, hL⟩ | ⟨rfl, _⟩
    · obtain rfl : V.ref d = y0 := Option.some.inj hy
      clear h hy
      refine (show gName 1 (.ref d) _ _ _ from ?_)
      fail "go"
      rename Addr => od
      refine ⟨d, x, y, z, 4, (od, .dK []) :: (pr, .lst [.ref d]) :: [(PL, .tbl #[])], rfl, by (refine Led.le hL (fun a_ => ?_); simp only [cnt_nil, cnt_cons, cnt_app, List.map_append, List.map_cons, List.map_nil, List.flatMap_append, List.flatMap_cons, List.flatMap_nil, List.append_assoc, List.cons_append, List.nil_append]; omega), by decide, by decide, fun r0 x y z H hr0 hr1 hL => ?_⟩
      fail "go"
      refine for_rangeA (lo := 0) (n := (1 + r0).toNat) (fun i σ H => Hold (∃ (od : Addr) (os : List TupE) (x y z : Int), ShO a d od σ ∧ OldOk os ∧ Led H (OLg d od os x y z [(pr, .lst [.ref d]), (PL, .tbl #[])]))) (.mk ⟨od, [], x, y, z, ⟨_, _, _, _, _, _, _, _, _, _, _, _, _, _, _, _, _, _, _, rfl⟩, OldOk.nil, hL⟩) (fun i σ H D1 hi h hD1 => ?_) (fun σ H h => ?_)
      · clear hL
        obtain ⟨od, os, x, y, z, ⟨v3, v4, v5, v6, v7, v8, v9, v10, v11, v12, v13, v14, v15, v16, v17, v18, v19, v20, v21, rfl⟩, ok, hL⟩ := h.out
        clear h
        refine ⟨a, d, od, os, x, y, z, _, ⟨_, _, _, _, _, _, _, _, _, _, _, _, _, _, _, _, _, _, _, rfl⟩, ok, hL, fun od' os' x y z σ' H' sh ok' hL' => ?_⟩
        exact hD1.nx _ _ (.mk ⟨od', os', x, y, z, sh, ok', hL'⟩)
      · clear hL
        obtain ⟨od, os, x, y, z, ⟨v3, v4, v5, v6, v7, v8, v9, v10, v11, v12, v13, v14, v15, v16, v17, v18, v19, v20, v21, rfl⟩, ok, hL⟩ := h.out
        clear h
        refine hD'.nx _ _ (.mk (.inr ⟨rfl, ⟨_, _, _, _, _, _, _, _, _, _, _, _, _, _, _, _, _, _, _, _, _, _, rfl⟩, ?_⟩))
        unfold OLg at hL
        (refine Led.le hL (fun a_ => ?_); simp only [cnt_nil, cnt_cons, cnt_app, List.map_append, List.map_cons, List.map_nil, List.flatMap_append, List.flatMap_cons, List.flatMap_nil, List.append_assoc, List.cons_append, List.nil_append]; omega)
    · cases hy
  · intro σ H h
    rcases h.out with ⟨q, _⟩ | ⟨_, hv, hL⟩
    · cases q
    · exact ⟨hv, TabS.nil (hL.at ⟨1, rfl⟩), k⟩
end
end Sd


set_option linter.unusedVariables false
namespace Sd
open PySem PySem.Spec PyProof.Rows L2
open C8 (Cal Met Mak)
/-! ### the head -/
def dfs1 : He.DefD := ⟨("Place", some "__init__"), "__init__", "Place.__init__", defArgs sMInit, defBody sMInit, defScope sMInit, [], []⟩
def dfs2 : He.DefD := ⟨("Part", some "__init__"), "__init__", "Part.__init__", defArgs sAInit, defBody sAInit, defScope sAInit, [], []⟩
def dfs3 : He.DefD := ⟨("Planner", some "__init__"), "__init__", "Planner.__init__", defArgs sPInit, defBody sPInit, defScope sPInit, [], []⟩
def dfs4 : He.DefD := ⟨("Planner", some "plan"), "plan", "Planner.plan", defArgs sPlan, defBody sPlan, defScope sPlan, [], []⟩
def dfs5 : He.DefD := ⟨("Planner", some "staying"), "staying", "Planner.staying", defArgs sStay, defBody sStay, defScope sStay, [], []⟩
def dfs6 : He.DefD := ⟨("Planner", some "may_hold"), "may_hold", "Planner.may_hold", defArgs sMay, defBody sMay, defScope sMay, [], []⟩
def dfs7 : He.DefD := ⟨("Planner", some "best_for"), "best_for", "Planner.best_for", defArgs sBest, defBody sBest, defScope sBest, [], []⟩
def dfs8 : He.DefD := ⟨("moves_between", none), "moves_between", "moves_between", defArgs sMoves, defBody sMoves, defScope sMoves, [], []⟩
def dfs9 : He.DefD := ⟨("_law_dice", none), "_law_dice", "_law_dice", defArgs sDice, defBody sDice, defScope sDice, [], []⟩
def dfs10 : He.DefD := ⟨("_law_roll", none), "_law_roll", "_law_roll", defArgs sRoll, defBody sRoll, defScope sRoll, [], []⟩
def dfs11 : He.DefD := ⟨("_law_rounds", none), "_law_rounds", "_law_rounds", defArgs sRounds, defBody sRounds, defScope sRounds, [], []⟩
def dfs12 : He.DefD := ⟨("_law_told", none), "_law_told", "_law_told", defArgs sTold, defBody sTold, defScope sTold, [], []⟩
def dfs13 : He.DefD := ⟨("_law_plan", none), "_law_plan", "_law_plan", defArgs sLPlan, defBody sLPlan, defScope sLPlan, [], []⟩
def dfs14 : He.DefD := ⟨("_law_drawn", none), "_law_drawn", "_law_drawn", defArgs sDrawn, defBody sDrawn, defScope sDrawn, [], []⟩
def dfs15 : He.DefD := ⟨("law", none), "law", "law", defArgs sLaw, defBody sLaw, defScope sLaw, [], []⟩
def hfn : List He.DefD := [dfs1, dfs2, dfs3, dfs4, dfs5, dfs6, dfs7, dfs8, dfs9, dfs10, dfs11, dfs12, dfs13, dfs14, dfs15]
def hfa : List He.Fa := [
  .glo "Place",
  .cls "Place",
  .noat "Place" "name",
  .noat "Place" "zone",
  .noat "Place" "room",
  .mkr "Place",
  .glo "Part",
  .cls "Part",
  .noat "Part" "name",
  .noat "Part" "weight",
  .noat "Part" "copies",
  .mkr "Part",
  .glo "Planner",
  .cls "Planner",
  .noat "Planner" "machines",
  .noat "Planner" "parts",
  .noat "Planner" "left",
  .mkr "Planner",
  .meth "Planner" "plan",
  .meth "Planner" "staying",
  .meth "Planner" "may_hold",
  .meth "Planner" "best_for",
  .glo "moves_between",
  .glo "_law_dice",
  .glo "_law_roll",
  .glo "_law_rounds",
  .glo "_law_told",
  .glo "_law_plan",
  .glo "_law_drawn",
  .glo "law",
  .glo "PlaceError",
  .exc "PlaceError",
  .free "abs",
  .free "int",
  .free "list",
  .free "sorted",
  .free "range",
  .free "len",
  .free "max",
  .free "min",
  .free "dict",
  .free "tuple",
  .free "str"]
def htf : List He.Defn := [("law", none)]
def hex (K : PySem.W.Frag) : Bool := (PySem.W.isClsIn K (He.ga K "PlaceError") && (decide (PySem.W.subIn K (.ref (He.ga K "PlaceError")) (.ref (He.ga K "PlaceError")) = some true) && true))
abbrev HR : PySem.W.OpenRow := PySem.W.OpenLaw.row PySem.Challenge.rw_shardstack_k21_parts_on_machines
abbrev hk : PySem.W.Hook := He.hookX 7 hfa hfn [] htf hex
def hob (s : PySem.W.SharedT) : He.AlX := He.obsX 7 hfa hfn [] htf hex (HandSHeadRun.getT s)
theorem hob_eq (s : PySem.W.SharedT) : hob s = hk.obs s.abs := He.obsX_eq (HandSHeadRun.getT_eq s)
def hloose : List Str := ["ShardError", "PlaceError", "Place", "Part", "Planner", "moves_between", "_law_dice", "_law_roll", "_law_rounds", "_law_told", "_law_plan", "_law_drawn"]
theorem hrun (w : World) : HandSHeadRun.RunEq HR (PySem.W.view HR.prog [15]) hk hob 8000 hloose w := by
  intro os
  kernel_rfl
theorem exB {K : PySem.W.Frag} (h : hex K = true) : (PySem.W.isClsIn K (He.ga K "PlaceError") = true) ∧ ((PySem.W.subIn K (.ref (He.ga K "PlaceError")) (.ref (He.ga K "PlaceError")) = some true)) ∧ True := by
  unfold hex at h
  simp only [Bool.and_eq_true, decide_eq_true_eq] at h
  simpa [and_assoc] using h
theorem all_mk {l : PySem.W.OpenLaw} {w : World} {K : PySem.W.Frag} {h : Heap} {mg : Str → Option Value} {fa : Addr} (X : K.In h) (G : h.Ns mainGlobals mg) (hfa0 : mg "law" = some (.ref fa)) (c : He.SaysX hfa hfn [] htf hex w h K) : LamX.LawAtS l w K CX0 9 63 "script" mg fa h := by
  have exs := exB c.more
  have gl15 : mg "law" = some (.ref (He.fAd K ("law", none))) := He.glo_ok X G (c.t.d.fact 29 (f := .glo "law") rfl)
  have gl_Place : mg "Place" = some (.ref (He.ga K "Place")) := He.glo_ok X G (c.t.d.fact 0 (f := .glo "Place") rfl)
  have cl_Place : Cls K (He.ga K "Place") := He.cls_ok (c.t.d.fact 1 (f := .cls "Place") rfl)
  have no_Place_name : NoAttr K (He.ga K "Place") "name" := He.noat_ok (c.t.d.fact 2 (f := .noat "Place" "name") rfl)
  have no_Place_zone : NoAttr K (He.ga K "Place") "zone" := He.noat_ok (c.t.d.fact 3 (f := .noat "Place" "zone") rfl)
  have no_Place_room : NoAttr K (He.ga K "Place") "room" := He.noat_ok (c.t.d.fact 4 (f := .noat "Place" "room") rfl)
  have mk_Place : Mk K (He.ga K "Place") (He.fAd K ("Place", some "__init__")) := He.mkr_ok (c.t.d.fact 5 (f := .mkr "Place") rfl)
  have gl_Part : mg "Part" = some (.ref (He.ga K "Part")) := He.glo_ok X G (c.t.d.fact 6 (f := .glo "Part") rfl)
  have cl_Part : Cls K (He.ga K "Part") := He.cls_ok (c.t.d.fact 7 (f := .cls "Part") rfl)
  have no_Part_name : NoAttr K (He.ga K "Part") "name" := He.noat_ok (c.t.d.fact 8 (f := .noat "Part" "name") rfl)
  have no_Part_weight : NoAttr K (He.ga K "Part") "weight" := He.noat_ok (c.t.d.fact 9 (f := .noat "Part" "weight") rfl)
  have no_Part_copies : NoAttr K (He.ga K "Part") "copies" := He.noat_ok (c.t.d.fact 10 (f := .noat "Part" "copies") rfl)
  have mk_Part : Mk K (He.ga K "Part") (He.fAd K ("Part", some "__init__")) := He.mkr_ok (c.t.d.fact 11 (f := .mkr "Part") rfl)
  have gl_Planner : mg "Planner" = some (.ref (He.ga K "Planner")) := He.glo_ok X G (c.t.d.fact 12 (f := .glo "Planner") rfl)
  have cl_Planner : Cls K (He.ga K "Planner") := He.cls_ok (c.t.d.fact 13 (f := .cls "Planner") rfl)
  have no_Planner_machines : NoAttr K (He.ga K "Planner") "machines" := He.noat_ok (c.t.d.fact 14 (f := .noat "Planner" "machines") rfl)
  have no_Planner_parts : NoAttr K (He.ga K "Planner") "parts" := He.noat_ok (c.t.d.fact 15 (f := .noat "Planner" "parts") rfl)
  have no_Planner_left : NoAttr K (He.ga K "Planner") "left" := He.noat_ok (c.t.d.fact 16 (f := .noat "Planner" "left") rfl)
  have mk_Planner : Mk K (He.ga K "Planner") (He.fAd K ("Planner", some "__init__")) := He.mkr_ok (c.t.d.fact 17 (f := .mkr "Planner") rfl)
  have me4 : Meth K (He.ga K "Planner") "plan" (He.fAd K ("Planner", some "plan")) := He.meth_ok (c.t.d.fact 18 (f := .meth "Planner" "plan") rfl)
  have me5 : Meth K (He.ga K "Planner") "staying" (He.fAd K ("Planner", some "staying")) := He.meth_ok (c.t.d.fact 19 (f := .meth "Planner" "staying") rfl)
  have me6 : Meth K (He.ga K "Planner") "may_hold" (He.fAd K ("Planner", some "may_hold")) := He.meth_ok (c.t.d.fact 20 (f := .meth "Planner" "may_hold") rfl)
  have me7 : Meth K (He.ga K "Planner") "best_for" (He.fAd K ("Planner", some "best_for")) := He.meth_ok (c.t.d.fact 21 (f := .meth "Planner" "best_for") rfl)
  have gl8 : mg "moves_between" = some (.ref (He.fAd K ("moves_between", none))) := He.glo_ok X G (c.t.d.fact 22 (f := .glo "moves_between") rfl)
  have gl9 : mg "_law_dice" = some (.ref (He.fAd K ("_law_dice", none))) := He.glo_ok X G (c.t.d.fact 23 (f := .glo "_law_dice") rfl)
  have gl10 : mg "_law_roll" = some (.ref (He.fAd K ("_law_roll", none))) := He.glo_ok X G (c.t.d.fact 24 (f := .glo "_law_roll") rfl)
  have gl11 : mg "_law_rounds" = some (.ref (He.fAd K ("_law_rounds", none))) := He.glo_ok X G (c.t.d.fact 25 (f := .glo "_law_rounds") rfl)
  have gl12 : mg "_law_told" = some (.ref (He.fAd K ("_law_told", none))) := He.glo_ok X G (c.t.d.fact 26 (f := .glo "_law_told") rfl)
  have gl13 : mg "_law_plan" = some (.ref (He.fAd K ("_law_plan", none))) := He.glo_ok X G (c.t.d.fact 27 (f := .glo "_law_plan") rfl)
  have gl14 : mg "_law_drawn" = some (.ref (He.fAd K ("_law_drawn", none))) := He.glo_ok X G (c.t.d.fact 28 (f := .glo "_law_drawn") rfl)
  have gl_PlaceError : mg "PlaceError" = some (.ref (He.ga K "PlaceError")) := He.glo_ok X G (c.t.d.fact 30 (f := .glo "PlaceError") rfl)
  have TE_PlaceError : ExcT K mg "PlaceError" (He.ga K "PlaceError") := exc_T X G (c.t.d.fact 30 (f := .glo "PlaceError") rfl) (c.t.d.fact 31 (f := .exc "PlaceError") rfl) (exB c.more).1 (exB c.more).2.1
  have fr_abs : mg "abs" = none := He.free_ok X G (c.t.d.fact 32 (f := .free "abs") rfl)
  have fr_int : mg "int" = none := He.free_ok X G (c.t.d.fact 33 (f := .free "int") rfl)
  have fr_list : mg "list" = none := He.free_ok X G (c.t.d.fact 34 (f := .free "list") rfl)
  have fr_sorted : mg "sorted" = none := He.free_ok X G (c.t.d.fact 35 (f := .free "sorted") rfl)
  have fr_range : mg "range" = none := He.free_ok X G (c.t.d.fact 36 (f := .free "range") rfl)
  have fr_len : mg "len" = none := He.free_ok X G (c.t.d.fact 37 (f := .free "len") rfl)
  have fr_max : mg "max" = none := He.free_ok X G (c.t.d.fact 38 (f := .free "max") rfl)
  have fr_min : mg "min" = none := He.free_ok X G (c.t.d.fact 39 (f := .free "min") rfl)
  have fr_dict : mg "dict" = none := He.free_ok X G (c.t.d.fact 40 (f := .free "dict") rfl)
  have fr_tuple : mg "tuple" = none := He.free_ok X G (c.t.d.fact 41 (f := .free "tuple") rfl)
  have fr_str : mg "str" = none := He.free_ok X G (c.t.d.fact 42 (f := .free "str") rfl)
  obtain ⟨fd1, D1⟩ := c.t.d.def_ 0 (d := dfs1) rfl
  have F1 : Fun K "__init__" "Place.__init__" sMInit (He.fAd K ("Place", some "__init__")) fd1 := fun_ofD D1
  have b1 := F1.binds (ps := ["self", "name", "zone", "room"]) fun _ _ _ _ _ _ us hl => match us, hl with | [_, _, _, _], _ => rfl
  obtain ⟨fd2, D2⟩ := c.t.d.def_ 1 (d := dfs2) rfl
  have F2 : Fun K "__init__" "Part.__init__" sAInit (He.fAd K ("Part", some "__init__")) fd2 := fun_ofD D2
  have b2 := F2.binds (ps := ["self", "name", "weight", "copies"]) fun _ _ _ _ _ _ us hl => match us, hl with | [_, _, _, _], _ => rfl
  obtain ⟨fd3, D3⟩ := c.t.d.def_ 2 (d := dfs3) rfl
  have F3 : Fun K "__init__" "Planner.__init__" sPInit (He.fAd K ("Planner", some "__init__")) fd3 := fun_ofD D3
  have b3 := F3.binds (ps := ["self", "machines", "parts"]) fun _ _ _ _ _ _ us hl => match us, hl with | [_, _, _], _ => rfl
  obtain ⟨fd4, D4⟩ := c.t.d.def_ 3 (d := dfs4) rfl
  have F4 : Fun K "plan" "Planner.plan" sPlan (He.fAd K ("Planner", some "plan")) fd4 := fun_ofD D4
  have b4 := F4.binds (ps := ["self", "old"]) fun _ _ _ _ _ _ us hl => match us, hl with | [_, _], _ => rfl
  obtain ⟨fd5, D5⟩ := c.t.d.def_ 4 (d := dfs5) rfl
  have F5 : Fun K "staying" "Planner.staying" sStay (He.fAd K ("Planner", some "staying")) fd5 := fun_ofD D5
  have b5 := F5.binds (ps := ["self", "part", "names"]) fun _ _ _ _ _ _ us hl => match us, hl with | [_, _, _], _ => rfl
  obtain ⟨fd6, D6⟩ := c.t.d.def_ 5 (d := dfs6) rfl
  have F6 : Fun K "may_hold" "Planner.may_hold" sMay (He.fAd K ("Planner", some "may_hold")) fd6 := fun_ofD D6
  have b6 := F6.binds (ps := ["self", "part", "name", "rows"]) fun _ _ _ _ _ _ us hl => match us, hl with | [_, _, _, _], _ => rfl
  obtain ⟨fd7, D7⟩ := c.t.d.def_ 6 (d := dfs7) rfl
  have F7 : Fun K "best_for" "Planner.best_for" sBest (He.fAd K ("Planner", some "best_for")) fd7 := fun_ofD D7
  have b7 := F7.binds (ps := ["self", "part", "rows"]) fun _ _ _ _ _ _ us hl => match us, hl with | [_, _, _], _ => rfl
  obtain ⟨fd8, D8⟩ := c.t.d.def_ 7 (d := dfs8) rfl
  have F8 : Fun K "moves_between" "moves_between" sMoves (He.fAd K ("moves_between", none)) fd8 := fun_ofD D8
  have b8 := F8.binds (ps := ["old", "new"]) fun _ _ _ _ _ _ us hl => match us, hl with | [_, _], _ => rfl
  obtain ⟨fd9, D9⟩ := c.t.d.def_ 8 (d := dfs9) rfl
  have F9 : Fun K "_law_dice" "_law_dice" sDice (He.fAd K ("_law_dice", none)) fd9 := fun_ofD D9
  have b9 := F9.binds (ps := ["cell"]) fun _ _ _ _ _ _ us hl => match us, hl with | [_], _ => rfl
  obtain ⟨fd10, D10⟩ := c.t.d.def_ 9 (d := dfs10) rfl
  have F10 : Fun K "_law_roll" "_law_roll" sRoll (He.fAd K ("_law_roll", none)) fd10 := fun_ofD D10
  have b10 := F10.binds (ps := ["dice", "many"]) fun _ _ _ _ _ _ us hl => match us, hl with | [_, _], _ => rfl
  obtain ⟨fd11, D11⟩ := c.t.d.def_ 10 (d := dfs11) rfl
  have F11 : Fun K "_law_rounds" "_law_rounds" sRounds (He.fAd K ("_law_rounds", none)) fd11 := fun_ofD D11
  have b11 := F11.binds (ps := ["script", "most"]) fun _ _ _ _ _ _ us hl => match us, hl with | [_, _], _ => rfl
  obtain ⟨fd12, D12⟩ := c.t.d.def_ 11 (d := dfs12) rfl
  have F12 : Fun K "_law_told" "_law_told" sTold (He.fAd K ("_law_told", none)) fd12 := fun_ofD D12
  have b12 := F12.binds (ps := ["what"]) fun _ _ _ _ _ _ us hl => match us, hl with | [_], _ => rfl
  obtain ⟨fd13, D13⟩ := c.t.d.def_ 12 (d := dfs13) rfl
  have F13 : Fun K "_law_plan" "_law_plan" sLPlan (He.fAd K ("_law_plan", none)) fd13 := fun_ofD D13
  have b13 := F13.binds (ps := ["machines", "parts", "old"]) fun _ _ _ _ _ _ us hl => match us, hl with | [_, _, _], _ => rfl
  obtain ⟨fd14, D14⟩ := c.t.d.def_ 13 (d := dfs14) rfl
  have F14 : Fun K "_law_drawn" "_law_drawn" sDrawn (He.fAd K ("_law_drawn", none)) fd14 := fun_ofD D14
  have b14 := F14.binds (ps := ["dice"]) fun _ _ _ _ _ _ us hl => match us, hl with | [_], _ => rfl
  obtain ⟨fd15, D15⟩ := c.t.d.def_ 14 (d := dfs15) rfl
  have F15 : Fun K "law" "law" sLaw (He.fAd K ("law", none)) fd15 := fun_ofD D15
  have e := hfa0.symm.trans gl15
  cases e
  have XT : TxtP K mg (He.ga K "Place") (He.ga K "Part") (He.ga K "Planner") := ⟨cl_Place, cl_Part, cl_Planner, fun f hf => by
    simp only [nmM, List.mem_cons, List.not_mem_nil, or_false] at hf
    rcases hf with rfl | rfl | rfl
    · exact no_Place_name
    · exact no_Place_zone
    · exact no_Place_room, fun f hf => by
    simp only [nmA, List.mem_cons, List.not_mem_nil, or_false] at hf
    rcases hf with rfl | rfl | rfl
    · exact no_Part_name
    · exact no_Part_weight
    · exact no_Part_copies, fun f hf => by
    simp only [nmP, List.mem_cons, List.not_mem_nil, or_false] at hf
    rcases hf with rfl | rfl | rfl
    · exact no_Planner_machines
    · exact no_Planner_parts
    · exact no_Planner_left⟩
  have TE := TE_PlaceError
  have TL : TxtL mg := ⟨fr_abs, fr_int⟩
  have TF : TxtF mg := ⟨fr_len, fr_list, fr_tuple, fr_sorted, fr_max, fr_range⟩
  have TR : TxtR mg := ⟨fr_range, fr_str⟩
  have TM : TxtM mg := ⟨fr_min, fr_len⟩
  have TDD : TxtD mg := ⟨fr_dict, fr_tuple⟩
  have TC : TxtC mg := ⟨fr_dict, fr_len, fr_list, fr_sorted, fr_int, fr_range⟩
  obtain ⟨ocL, odL, kVL, dcL, pmL, anL, ctL, oslL, rfl, lkL, cdL⟩ := fun_code (p := ("law", none)) F15
  refine ⟨PySem.W.fnOf "law" "law" (defArgs sLaw) (defBody sLaw) (defScope sLaw) .none kVL dcL pmL anL (.ref (He.cT K ("law", none)).1) ctL, htf.map (He.cT K), spLaw K (He.cT K ("law", none)).2, fun p hp => ?_, fun p hp => ?_, fun p hp => ?_, fun s v => .of_eq rfl, fun H a ns hlen _ hH hS => ⟨a, ns, rfl, hS, hlen, hH _ (List.mem_map.mpr ⟨_, .head _, rfl⟩), fun _ => rfl⟩, fun base _ _ htb => ?_⟩
  · obtain ⟨x, hx, rfl⟩ := List.mem_map.mp hp
    exact c.empty x hx
  · obtain ⟨x, hx, rfl⟩ := List.mem_map.mp hp
    exact c.out x hx
  · obtain ⟨x, hx, rfl⟩ := List.mem_map.mp hp
    exact PySem.W.codeHd_of_K X (c.hd x hx)
  have hTBL := htb (He.cT K ("law", none)) (List.mem_map.mpr ⟨("law", none), (.head _), rfl⟩)
  have C1 : Mak l.prog w K mg base 1 "Place" (He.ga K "Place") (spMInit (He.ga K "Place")) [] := ⟨_, _, _, [], mk_Place, ok_MInit F1 XT, gl_Place, b1, .nil⟩
  have X1 : MakX l.prog w K mg base 1 "Place" (He.ga K "Place") (spMInitX (He.ga K "Place") (He.ga K "PlaceError")) [] := ⟨_, _, _, [], mk_Place, ok_MInitX F1 TE, gl_Place, b1, .nil⟩
  have C2 : Mak l.prog w K mg base 1 "Part" (He.ga K "Part") (spAInit (He.ga K "Part")) [] := ⟨_, _, _, [], mk_Part, ok_AInit F2 XT, gl_Part, b2, .nil⟩
  have X2 : MakX l.prog w K mg base 1 "Part" (He.ga K "Part") (spAInitX (He.ga K "Part") (He.ga K "PlaceError")) [] := ⟨_, _, _, [], mk_Part, ok_AInitX F2 TE, gl_Part, b2, .nil⟩
  have C3 : Mak l.prog w K mg base 1 "Planner" (He.ga K "Planner") (spPInit (He.ga K "Place") (He.ga K "Part") (He.ga K "Planner")) [] := ⟨_, _, _, [], mk_Planner, ok_PInit F3 XT TF, gl_Planner, b3, .nil⟩
  have X3 : MakX l.prog w K mg base 1 "Planner" (He.ga K "Planner") (spPInitX (He.ga K "Place") (He.ga K "Part") (He.ga K "Planner") (He.ga K "PlaceError")) [] := ⟨_, _, _, [], mk_Planner, ok_PInitX F3 XT TF TE, gl_Planner, b3, .nil⟩
  have C6 : Met l.prog w K mg base 1 (He.ga K "Planner") "may_hold" (spMay (He.ga K "Place") (He.ga K "Part") (He.ga K "Planner")) [] := ⟨_, _, _, [], cl_Planner, me6, ok_may F6 XT, b6, .nil⟩
  have C5 : Met l.prog w K mg base 2 (He.ga K "Planner") "staying" (spStay (He.ga K "Place") (He.ga K "Part") (He.ga K "Planner")) [] := ⟨_, _, _, [], cl_Planner, me5, ok_stay F5 XT TF C6, b5, .nil⟩
  have C7 : Met l.prog w K mg base 2 (He.ga K "Planner") "best_for" (spBest (He.ga K "Place") (He.ga K "Part") (He.ga K "Planner")) [] := ⟨_, _, _, [], cl_Planner, me7, ok_best F7 XT TF C6, b7, .nil⟩
  have C4 : Met l.prog w K mg base 3 (He.ga K "Planner") "plan" (spPlan (He.ga K "Place") (He.ga K "Part") (He.ga K "Planner")) [] := ⟨_, _, _, [], cl_Planner, me4, ok_plan F4 XT TF C5 C7, b4, .nil⟩
  have C8 : Cal l.prog w K mg base 3 "moves_between" spMoves [] := ⟨_, _, _, [], ok_moves F8 TF, gl8, F8.kp, b8, .nil⟩
  have C9 : Cal l.prog w K mg base 1 "_law_dice" spDice [] := ⟨_, _, _, [], ok_dice F9 TL, gl9, F9.kp, b9, .nil⟩
  have C10 : Cal l.prog w K mg base 1 "_law_roll" spRoll [] := ⟨_, _, _, [], ok_roll F10 TL, gl10, F10.kp, b10, .nil⟩
  have C11 : Cal l.prog w K mg base 2 "_law_rounds" (spRounds K) [] := ⟨_, _, _, [], ok_rounds F11 C9, gl11, F11.kp, b11, .nil⟩
  have C12 : Cal l.prog w K mg base 7 "_law_told" (spTold l.prog w K mg base 6 (He.ga K "PlaceError") "PlaceError") [] := ⟨_, _, _, [], ok_told F12 TE, gl12, F12.kp, b12, .nil⟩
  have C13 : Cal l.prog w K mg base 3 "_law_plan" spLPlan [] := ⟨_, _, _, [], ok_lplan F13 TDD TF TM, gl13, F13.kp, b13, .nil⟩
  have C14 : Cal l.prog w K mg base 2 "_law_drawn" spDrawn [] := ⟨_, _, _, [], ok_drawn F14 TR C10, gl14, F14.kp, b14, .nil⟩
  refine fn_of lkL cdL scLaw (fun vs H Q E h => ?_) fun A outer s H vs Q E hr hsp => ?_
  · obtain ⟨a, ns, rfl, _⟩ := h
    rfl
  obtain ⟨t, ht, hq⟩ := law_body (f := He.fAd K ("law", none)) (cL := (He.cT K ("law", none)).1) (PL := (He.cT K ("law", none)).2) (A := A) (outer := outer) (s0 := s) (H0 := H) (E := E) hr TC C11 C10 (st_turn hr XT TC TDD C1 C2 C3 C4 C13 C8 C14)
    (st_tail hr XT TE hTBL C12 C1 C2 C3 X1 X2 X3 C4 C7 C6 C8) hsp
  exact ⟨t, ht.nox, hq⟩
end Sd
open PySem PySem.W PySem.Calls PyProof.Rows
set_option maxRecDepth 100000 in
set_option maxHeartbeats 0 in
theorem PySem.Challenge.cw_shardstack_k21_parts_on_machines_holds : PySem.Challenge.rw_shardstack_k21_parts_on_machines.Holds := by
  w_on; o_law
  refine HandSHeadRun.head_any (r := OpenLaw.row PySem.Challenge.rw_shardstack_k21_parts_on_machines) (q := view (OpenLaw.row PySem.Challenge.rw_shardstack_k21_parts_on_machines).prog [15]) (H := Sd.hk) (ob := Sd.hob) (M := 8000) (loose := Sd.hloose) (d := HandSHeadRun.topDef (OpenLaw.row PySem.Challenge.rw_shardstack_k21_parts_on_machines).prog 15) (kwd := []) Sd.hob_eq
    (by kernel_rfl) (fun s => by kernel_rfl) Sd.hrun (by kernel_rfl) (by kernel_rfl) (by kernel_rfl) (by rfl) (by first | assumption | decide +kernel) (by decide +kernel) ⟨rfl, rfl, rfl, rfl, rfl, by decide +kernel⟩ ?hw ?hc
  case hw => w_witness2
  case hc =>
    refine LamX.walk_ofTsE (l := PySem.Challenge.rw_shardstack_k21_parts_on_machines) (n := 63) (k := 9) (x := "script") (CX := fun _ => L2.CX0) rfl (by decide) (by kernel_rfl) ⟨rfl, by decide, by decide⟩ ?F (fun _ _ _ _ _ z => z)
    intro w mg fa h Y G hmg0
    obtain ⟨K, KX, c⟩ := Y
    have hmg : mg ("law" : PySem.Str) = some (.ref fa) := by
      have e : (HandSHeadRun.topDef (OpenLaw.row PySem.Challenge.rw_shardstack_k21_parts_on_machines).prog 15).name = ("law" : PySem.Str) := by kernel_rfl
      rw [← e]
      exact hmg0
    exact ⟨K, KX, Sd.all_mk KX G hmg c⟩
#print axioms PySem.Challenge.cw_shardstack_k21_parts_on_machines_holds

