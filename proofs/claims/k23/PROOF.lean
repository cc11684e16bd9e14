import PyProof.Rows.All
import Wide.All
import OpenK.AllK
import Wide.FinOn
import HandS.ForMost
import HandS.Flow
import HandS.Style
import HandS.Codes
import HandS.SortInts
import HandS.Conv
import HandS.Nested
import HandS.TryOnly
import HandS.ExcOwn
import HandS.WordsExc
import HandS.Small
import HandS.EndOwn
import HandS.Defaults
import KE.DataEq
import HandS.GenList
import HandS.AnyAll
import HandS.JoinGen
import PyProof.TupleOfGen
import HandS.Walk
import KE.DatumOrd
import HandS.Lambda
import HandS.HeadHook4
import HandS.HeadWalk
import HandS.Head2
import HandS.HeadEnd
import PySem.Challenge.RW_shardstack_k23_shares_by_weight
import HandS.More
import KE.KExcLine
set_option Elab.async false
set_option maxRecDepth 100000
set_option maxHeartbeats 4000000
namespace Sd
open PySem L2

/-! ### the ledger: objects of the heap, all at different places -/
abbrev Lg := List (Addr × HO)
def Led (H : Hp) (L : Lg) : Prop := (∀ x ∈ L, H x.1 = some x.2) ∧ (L.map (·.1)).Nodup
/-- the object at a is known -/
def At (L : Lg) (a : Addr) (o : HO) : Prop := ∃ i : Nat, L[i]? = some (a, o)
section
variable {H H' : Hp} {L A B C R : Lg} {a p : Addr} {o o' : HO}
theorem Led.mem (h : Led H L) (m : (a, o) ∈ L) : H a = some o := h.1 _ m
theorem Led.at (h : Led H L) (e : At L a o) : H a = some o := let ⟨_, q⟩ := e; h.1 _ (List.mem_of_getElem? q)
theorem Led.ne (h : Led H L) (e : At L a o) (hp : H p = none) : a ≠ p := ne_of_none (h.at e) hp
theorem Led.nin (h : Led H L) (hp : H p = none) : p ∉ L.map (·.1) := fun m => by
  obtain ⟨x, hx, e⟩ := List.mem_map.mp m
  have := h.1 x hx
  rw [e, hp] at this
  cases this
theorem Led.new (h : Led H L) (hp : H p = none) : Led (upd H p o) ((p, o) :: L) := by
  refine ⟨fun x hx => ?_, ?_⟩
  · rcases List.mem_cons.mp hx with e | hx
    · rw [e]; exact upd_same
    · have := h.1 x hx
      rw [upd_ne (ne_of_none this hp)]; exact this
  · rw [List.map_cons]
    exact List.nodup_cons.mpr ⟨h.nin hp, h.2⟩
theorem Led.skip (h : Led H L) (hp : H p = none) : Led (upd H p o) L :=
  let q := h.new (o := o) hp
  ⟨fun x hx => q.1 x (List.mem_cons_of_mem _ hx), h.2⟩
theorem Led.perm (h : Led H L) (q : L.Perm B) : Led H B := ⟨fun x hx => h.1 x (q.mem_iff.mpr hx), (q.map _).nodup_iff.mp h.2⟩
theorem Led.head (h : Led H ((a, o) :: B)) : Led (upd H a o') ((a, o') :: B) := by
  have n : a ∉ B.map (·.1) := (List.nodup_cons.mp h.2).1
  refine ⟨fun x hx => ?_, h.2⟩
  rcases List.mem_cons.mp hx with e | hx
  · rw [e]; exact upd_same
  · rw [upd_ne (fun e => n (List.mem_map.mpr ⟨x, hx, e⟩))]
    exact h.1 x (List.mem_cons_of_mem _ hx)
theorem Led.mid (h : Led H (A ++ (a, o) :: B)) : Led (upd H a o') (A ++ (a, o') :: B) :=
  (((h.perm List.perm_middle).head (o' := o')).perm List.perm_middle.symm)
theorem Led.set (i : Nat) (h : Led H L) (e : L[i]? = some (a, o)) : Led (upd H a o') (L.set i (a, o')) := by
  obtain ⟨hi, e⟩ := List.getElem?_eq_some_iff.mp e
  have s1 : L = L.take i ++ (a, o) :: L.drop (i + 1) := by
    rw [← e, List.getElem_cons_drop, List.take_append_drop]
  rw [s1] at h
  have q := h.mid (o' := o')
  rw [List.set_eq_take_append_cons_drop, if_pos hi]
  exact q
theorem Led.swap (h : Led H (A ++ (B ++ C))) : Led H (B ++ (A ++ C)) := by
  refine h.perm ?_
  rw [← List.append_assoc, ← List.append_assoc]
  exact List.perm_append_comm.append_right _
theorem Led.sub (h : Led H L) (q : B.Sublist L) : Led H B := ⟨fun x hx => h.1 x (q.subset hx), h.2.sublist (q.map _)⟩
theorem Led.drop (h : Led H (A ++ B)) : Led H B := h.sub (List.sublist_append_right _ _)
theorem Led.left (h : Led H (A ++ B)) : Led H A := h.sub (List.sublist_append_left _ _)
theorem Led.tail (h : Led H ((a, o) :: B)) : Led H B := h.sub (List.sublist_cons_self _ _)
theorem Led.nil : Led H [] := ⟨fun _ hx => (nomatch hx), List.nodup_nil⟩
theorem Led.mono (h : Led H L) (e : ∀ x ∈ L, H' x.1 = some x.2) : Led H' L := ⟨e, h.2⟩
end

/-! ### an instance's attributes, a dict with written keys: names and values -/
def fz (names : List Str) (vals : List V) : List (Str × V) := names.zip vals
def dz (names : List Str) (vals : List V) : List (Key × V) := (names.map Sum.inr).zip vals
theorem fz_at {f : Str} {v : V} : ∀ (i : Nat) {names : List Str} {vals : List V}, names.Nodup → names[i]? = some f → vals[i]? = some v → (fz names vals).lookup f = some v
  | 0, n :: ns, w :: ws, _, h1, h2 => by
    simp only [List.getElem?_cons_zero, Option.some.injEq] at h1 h2
    subst h1 h2
    simp [fz]
  | i + 1, n :: ns, w :: ws, nd, h1, h2 => by
    rw [List.getElem?_cons_succ] at h1 h2
    obtain ⟨n1, n2⟩ := List.nodup_cons.mp nd
    have ne : ¬ f = n := fun e => n1 (e ▸ List.mem_of_getElem? h1)
    have ih := fz_at i n2 h1 h2
    unfold fz at ih ⊢
    rw [List.zip_cons_cons, List.lookup_cons, beq_eq_false_iff_ne.mpr ne]
    exact ih
  | _, [], _, _, h1, _ => by simp at h1
  | _, _ :: _, [], _, _, h2 => by simp at h2
theorem fz_no {f : Str} : ∀ {names : List Str} {vals : List V}, f ∉ names → (fz names vals).lookup f = none
  | [], _, _ => by simp [fz]
  | _ :: _, [], _ => by simp [fz]
  | n :: ns, w :: ws, h => by
    have ne : ¬ f = n := fun e => h (by rw [e]; exact List.mem_cons_self)
    have ih := fz_no (f := f) (names := ns) (vals := ws) fun m => h (List.mem_cons_of_mem _ m)
    unfold fz at ih ⊢
    rw [List.zip_cons_cons, List.lookup_cons, beq_eq_false_iff_ne.mpr ne]
    exact ih
theorem fz_put {f : Str} {v : V} : ∀ (i : Nat) {names : List Str} {vals : List V}, names.Nodup → names[i]? = some f → i < vals.length → putF f v (fz names vals) = fz names (vals.set i v)
  | 0, n :: ns, w :: ws, _, h1, _ => by
    simp only [List.getElem?_cons_zero, Option.some.injEq] at h1
    subst h1
    unfold fz
    rw [List.zip_cons_cons, putF, if_pos rfl]
    rfl
  | i + 1, n :: ns, w :: ws, nd, h1, h2 => by
    rw [List.getElem?_cons_succ] at h1
    obtain ⟨n1, n2⟩ := List.nodup_cons.mp nd
    have ne : ¬ n = f := fun e => n1 (e.symm ▸ List.mem_of_getElem? h1)
    have ih := fz_put (v := v) i (vals := ws) n2 h1 (by simpa using h2)
    unfold fz at ih ⊢
    rw [List.zip_cons_cons, putF, if_neg ne, ih]
    rfl
  | _, [], _, _, h1, _ => by simp at h1
  | _, _ :: _, [], _, _, h2 => by simp at h2
theorem fz_new {f : Str} {v : V} : ∀ {names : List Str} {vals : List V}, f ∉ names → names.length = vals.length → putF f v (fz names vals) = fz (names ++ [f]) (vals ++ [v])
  | [], [], _, _ => rfl
  | [], _ :: _, _, h => by simp at h
  | _ :: _, [], _, h => by simp at h
  | n :: ns, w :: ws, h, hl => by
    have ne : ¬ n = f := fun e => h (by rw [e]; exact List.mem_cons_self)
    have ih := fz_new (f := f) (v := v) (names := ns) (vals := ws) (fun m => h (List.mem_cons_of_mem _ m)) (by simpa using hl)
    unfold fz at ih ⊢
    rw [List.zip_cons_cons, putF, if_neg ne, ih]
    rfl
theorem fz_len {names : List Str} {vals : List V} : (fz names vals).length ≤ names.length := by
  unfold fz
  rw [List.length_zip]
  exact Nat.min_le_left _ _
theorem fz_nil : ([] : List (Str × V)) = fz [] [] := rfl
theorem dz_at {f : Str} {v : V} : ∀ (i : Nat) {names : List Str} {vals : List V}, names.Nodup → names[i]? = some f → vals[i]? = some v → valV (dz names vals) (Sum.inr f) = some v
  | 0, n :: ns, w :: ws, _, h1, h2 => by
    simp only [List.getElem?_cons_zero, Option.some.injEq] at h1 h2
    subst h1 h2
    exact valV_pos (p := (Sum.inr n, w)) rfl
  | i + 1, n :: ns, w :: ws, nd, h1, h2 => by
    rw [List.getElem?_cons_succ] at h1 h2
    obtain ⟨n1, n2⟩ := List.nodup_cons.mp nd
    have ne : ¬ (Sum.inr n : Key) = Sum.inr f := fun e => n1 ((Sum.inr.inj e).symm ▸ List.mem_of_getElem? h1)
    have ih := dz_at i n2 h1 h2
    show valV ((Sum.inr n, w) :: dz ns ws) (Sum.inr f) = some v
    rw [valV_neg ne]
    exact ih
  | _, [], _, _, h1, _ => by simp at h1
  | _, _ :: _, [], _, _, h2 => by simp at h2
theorem dz_put {f : Str} {v : V} (i : Nat) {names : List Str} {vals : List V} (nd : names.Nodup) (h1 : names[i]? = some f) (h2 : i < vals.length) : putK (dz names vals) (Sum.inr f) v = dz names (vals.set i v) := by
  have e1 : vals[i]? = some vals[i] := List.getElem?_eq_getElem h2
  have hs : valV (dz names vals) (Sum.inr f) = some vals[i] := dz_at i nd h1 e1
  unfold putK
  rw [valV_any, hs]
  rw [if_pos (by rfl)]
  clear hs e1
  induction names generalizing vals i with
  | nil => simp at h1
  | cons n ns ih =>
    cases vals with
    | nil => simp at h2
    | cons w ws =>
      obtain ⟨n1, n2⟩ := List.nodup_cons.mp nd
      cases i with
      | zero =>
        simp only [List.getElem?_cons_zero, Option.some.injEq] at h1
        subst h1
        show (if (Sum.inr n : Key) = Sum.inr n then ((Sum.inr n : Key), v) else (Sum.inr n, w)) :: (dz ns ws).map _ = (Sum.inr n, v) :: dz ns ws
        rw [if_pos rfl]
        congr 1
        have : ∀ kv ∈ dz ns ws, (fun kv : Key × V => if kv.1 = Sum.inr n then (kv.1, v) else kv) kv = id kv := fun kv hk => by
          have m : kv.1 ∈ ns.map (Sum.inr : Str → Key) := (List.of_mem_zip hk).1
          obtain ⟨z, hz, e⟩ := List.mem_map.mp m
          have ne : ¬ kv.1 = Sum.inr n := fun q => n1 (by rw [← e] at q; exact (Sum.inr.inj q) ▸ hz)
          simp [ne]
        rw [List.map_congr_left this, List.map_id]
      | succ i =>
        rw [List.getElem?_cons_succ] at h1
        have ne : ¬ (Sum.inr n : Key) = Sum.inr f := fun e => n1 ((Sum.inr.inj e).symm ▸ List.mem_of_getElem? h1)
        show (if (Sum.inr n : Key) = Sum.inr f then ((Sum.inr n : Key), v) else (Sum.inr n, w)) :: (dz ns ws).map _ = (Sum.inr n, w) :: dz ns (ws.set i v)
        rw [if_neg ne, ih i n2 h1 (by simpa using h2)]
theorem mergeK_nd : ∀ (more kvs : List (Key × V)), ((kvs ++ more).map (·.1)).Nodup → mergeK kvs more = kvs ++ more
  | [], kvs, _ => by rw [List.append_nil]; rfl
  | p :: r, kvs, h => by
    have hp : valV kvs p.1 = none := by
      cases e : valV kvs p.1 with
      | none => rfl
      | some v =>
        have m := valV_in e
        rw [List.map_append, List.map_cons] at h
        have := (List.nodup_append.mp h).2.2 _ m _ List.mem_cons_self
        exact absurd rfl this
    have e : mergeK kvs (p :: r) = mergeK (putK kvs p.1 p.2) r := rfl
    rw [e, putK_new _ hp, mergeK_nd r (kvs ++ [(p.1, p.2)]) (by rw [List.append_assoc]; exact h), List.append_assoc]
    rfl
end Sd


namespace Sd
open PySem L2
/-- a word that the walk does not open -/
inductive Hold (p : Prop) : Prop where
  | mk (h : p)
  | mk' (h : p)
theorem Hold.out {p : Prop} (h : Hold p) : p := by cases h <;> assumption

section
variable {K : PySem.W.Frag} {H H1 : Hp} {L : Lg} {a b l p q : Addr} {o : HO} {P : V → Prop} {f : Str} {C dx : Addr} {fs : List (Str × V)} {v y : V} {xs ys : List V} {kvs : List (Key × V)} {names : List Str} {vals : List V}
theorem k_fld {P : Addr → Addr → V → Prop} (hL : Led H L) (e : At L a (.ins C dx fs)) (c : Cls K C) (n : NoAttr K C f) (lk : fs.lookup f = some v) (q : P a C v) :
    ∃ a' C' dx' fs' v', V.ref a = .ref a' ∧ H a' = some (.ins C' dx' fs') ∧ Cls K C' ∧ NoAttr K C' f ∧ fs'.lookup f = some v' ∧ P a' C' v' := ⟨_, _, _, _, _, rfl, hL.at e, c, n, lk, q⟩
/-- the ledger behind a change at a -/
def Upd (L : Lg) (a : Addr) (o o' : HO) (L' : Lg) : Prop := ∃ i : Nat, L[i]? = some (a, o) ∧ L' = L.set i (a, o')
theorem Upd.at {o' : HO} {L' : Lg} (u : Upd L a o o' L') : At L a o := let ⟨i, e, _⟩ := u; ⟨i, e⟩
theorem Led.upU {o' : HO} {L' : Lg} (hL : Led H L) (u : Upd L a o o' L') (hH : L2.upd H a o' = H1) : Led H1 L' := by
  obtain ⟨i, e, rfl⟩ := u
  rw [← hH]; exact hL.set i e
theorem Led.upF {fs' : List (Str × V)} {L' : Lg} (hL : Led H L) (u : Upd L a (.ins C dx fs) (.ins C dx fs') L') (e : putF f v fs = fs') (hH : L2.upd H a (.ins C dx (putF f v fs)) = H1) : Led H1 L' := by
  rw [e] at hH; exact hL.upU u hH
theorem Led.newH (hL : Led H L) (hp : H p = none) (hH : L2.upd H p o = H1) : Led H1 ((p, o) :: L) := by
  rw [← hH]; exact hL.new hp
theorem Led.made {x : Addr} (hL : Led H L) (hx : H x = none) (hd : H dx = none) (ne : dx ≠ x) (hH : L2.upd (L2.upd H dx (.own x)) x (.ins C dx []) = H1) : Led H1 ((x, .ins C dx (fz [] [])) :: L) := by
  rw [← hH]; exact (hL.skip hd).new (by rw [upd_ne ne.symm]; exact hx)
theorem Led.last {A R : Lg} {x : Addr × HO} (h : Led H (x :: (A ++ R))) : Led H ((A ++ [x]) ++ R) := by
  refine h.perm ?_
  rw [List.append_assoc]
  exact List.perm_middle.symm
/-- o.m(..): the object -/
theorem k_meth {P : Prop} (hL : Led H L) (e : At L a (.ins C dx fs)) (lk : fs.lookup f = none) (q : P) :
    ∃ a' dx' fs', V.ref a = .ref a' ∧ H a' = some (.ins C dx' fs') ∧ fs'.lookup f = none ∧ P := ⟨_, _, _, rfl, hL.at e, lk, q⟩
theorem k_dgetS {P : Addr → V → Prop} {x : Str} (hL : Led H L) (e : At L a (.dK kvs)) (lk : valV kvs (.inr x) = some v) (q : P a v) : ∃ a' v', V.ref a = .ref a' ∧ DGet H a' (.str x) (some v') ∧ P a' v' :=
  ⟨_, _, rfl, lk ▸ (DGet.k (k := .inr x) (hL.at e)), q⟩
theorem k_dgetI {P : Addr → V → Prop} {n : Int} (hL : Led H L) (e : At L a (.dK kvs)) (lk : valV kvs (.inl n) = some v) (q : P a v) : ∃ a' v', V.ref a = .ref a' ∧ DGet H a' (.int n) (some v') ∧ P a' v' :=
  ⟨_, _, rfl, lk ▸ (DGet.k (k := .inl n) (hL.at e)), q⟩
theorem k_dinS {P : Option V → Prop} {x : Str} (hL : Led H L) (e : At L a (.dK kvs)) (q : P (valV kvs (.inr x))) : ∃ a' o', V.ref a = .ref a' ∧ DGet H a' (.str x) o' ∧ P o' :=
  ⟨_, _, rfl, DGet.k (k := .inr x) (hL.at e), q⟩
theorem k_dinI {P : Option V → Prop} {n : Int} (hL : Led H L) (e : At L a (.dK kvs)) (q : P (valV kvs (.inl n))) : ∃ a' o', V.ref a = .ref a' ∧ DGet H a' (.int n) o' ∧ P o' :=
  ⟨_, _, rfl, DGet.k (k := .inl n) (hL.at e), q⟩
/-- d.get(k): the dict, then the answer -/
theorem k_isd {P : Prop} (hL : Led H L) (e : At L a (.dK kvs)) (q : P) : IsD H a ∧ P := ⟨.inl ⟨_, .inl (hL.at e)⟩, q⟩
theorem k_lenL' {P : Prop} (hL : Led H L) (e : At L l (.lst xs)) (q : P) : (SqL K H l xs ∨ SqT K H l xs) ∧ P := ⟨.inl (.of (hL.at e)), q⟩
theorem k_getI {P : Option V → Prop} {n : Int} (hL : Led H L) (e : At L a (.dK kvs)) (q : P (valV kvs (.inl n))) : ∃ o', DGet H a (.int n) o' ∧ P o' := ⟨_, DGet.k (k := .inl n) (hL.at e), q⟩
theorem k_getS {P : Option V → Prop} {x : Str} (hL : Led H L) (e : At L a (.dK kvs)) (q : P (valV kvs (.inr x))) : ∃ o', DGet H a (.str x) o' ∧ P o' := ⟨_, DGet.k (k := .inr x) (hL.at e), q⟩
theorem k_popI {P : List (Key × V) → Key → V → Prop} {n : Int} (hL : Led H L) (e : At L a (.dK kvs)) (lk : valV kvs (.inl n) = some v) (q : P kvs (.inl n) v) :
    ∃ kvs' k' v', H a = some (.dK kvs') ∧ V.int n = kV k' ∧ valV kvs' k' = some v' ∧ P kvs' k' v' := ⟨_, .inl n, _, hL.at e, rfl, lk, q⟩
theorem k_listD {P : List (Key × V) → Prop} (hL : Led H L) (e : At L a (.dK kvs)) (q : P kvs) : ∃ p kvs', [V.ref a] = [.ref p] ∧ H p = some (.dK kvs') ∧ P kvs' := ⟨_, _, rfl, hL.at e, q⟩
theorem Led.front {A B : Lg} {x : Addr × HO} (h : Led H (A ++ x :: B)) : Led H (x :: (A ++ B)) := h.perm List.perm_middle
theorem Led.back {A B : Lg} {x : Addr × HO} (h : Led H (x :: (A ++ B))) : Led H (A ++ x :: B) := h.perm List.perm_middle.symm
theorem k_dputS {P : Hp → Prop} {x : Str} {kvs' : List (Key × V)} {L' : Lg} (hL : Led H L) (e : At L a (.dK kvs)) (hz : kvs.length < sizeLine) (ep : putK kvs (.inr x) v = kvs') (u : Upd L a (.dK kvs) (.dK kvs') L')
    (q : ∀ H1, Led H1 L' → P H1) : ∃ a' H4, V.ref a = .ref a' ∧ DPut H a' (.str x) v H4 ∧ P H4 :=
  ⟨_, _, rfl, DPut.k (k := .inr x) (hL.at e) hz, q _ (hL.upU (ep ▸ u) rfl)⟩
theorem k_dputI {P : Hp → Prop} {n : Int} {kvs' : List (Key × V)} {L' : Lg} (hL : Led H L) (e : At L a (.dK kvs)) (hz : kvs.length < sizeLine) (ep : putK kvs (.inl n) v = kvs') (u : Upd L a (.dK kvs) (.dK kvs') L')
    (q : ∀ H1, Led H1 L' → P H1) : ∃ a' H4, V.ref a = .ref a' ∧ DPut H a' (.int n) v H4 ∧ P H4 :=
  ⟨_, _, rfl, DPut.k (k := .inl n) (hL.at e) hz, q _ (hL.upU (ep ▸ u) rfl)⟩
theorem dz_len : (dz names vals).length ≤ names.length := by unfold dz; rw [List.length_zip, List.length_map]; exact Nat.min_le_left _ _
theorem k_ixL {n : Int} (hL : Led H L) (e : At L l (.lst xs)) (lk : atI xs n = some v) (q : P v) : ∃ p xs' i v', V.ref l = .ref p ∧ V.int n = .int i ∧ SqL K H p xs' ∧ atI xs' i = some v' ∧ P v' :=
  ⟨_, _, _, _, rfl, rfl, .of (hL.at e), lk, q⟩
theorem k_ixT {n : Int} (hL : Led H L) (e : At L l (.tup xs)) (lk : atI xs n = some v) (q : P v) : ∃ p xs' i v', V.ref l = .ref p ∧ V.int n = .int i ∧ SqT K H p xs' ∧ atI xs' i = some v' ∧ P v' :=
  ⟨_, _, _, _, rfl, rfl, .of (hL.at e), lk, q⟩
theorem k_tyL {P : Prop} (hL : Led H L) (e : At L l (.lst xs)) (q : P) : tyV K "list" (.ref l) H ∧ P := ⟨.inl ⟨rfl, _, .of (hL.at e)⟩, q⟩
theorem k_lenL {P : Nat → Prop} (hL : Led H L) (e : At L l (.lst xs)) (q : P xs.length) : ∃ p ys, [V.ref l] = [.ref p] ∧ (SqL K H p ys ∨ SqT K H p ys) ∧ P ys.length := ⟨_, _, rfl, .inl (.of (hL.at e)), q⟩
theorem k_lenT {P : Nat → Prop} (hL : Led H L) (e : At L l (.tup xs)) (q : P xs.length) : ∃ p ys, [V.ref l] = [.ref p] ∧ (SqL K H p ys ∨ SqT K H p ys) ∧ P ys.length := ⟨_, _, rfl, .inr (.of (hL.at e)), q⟩
theorem k_gtup {P : List V → Prop} {n : Nat} (hL : Led H L) (e : At L a (.tup xs)) (hn : xs.length = n) (q : P xs) : ∃ a' xs', V.ref a = .ref a' ∧ SqT K H a' xs' ∧ xs'.length = n ∧ P xs' := ⟨_, _, rfl, .of (hL.at e), hn, q⟩
theorem k_cat {Q : VK} (hL : Led H L) (e1 : At L l (.lst xs)) (e2 : At L b (.lst ys)) (hz : xs.length + ys.length ≤ sizeLine) (q : ∀ p, H p = none → Q (.ref p) (L2.upd H p (.lst (xs ++ ys)))) : rCat (.ref l) (.ref b) H Q :=
  ⟨_, _, _, _, rfl, rfl, hL.at e1, hL.at e2, hz, q⟩
theorem k_yes {σ : L2.St} {A B : Hp → Prop} (h : A H) : tYes σ H fun b H3 => if b = true then A H3 else B H3 := by
  show (if true = true then A H else B H)
  rw [if_pos rfl]
  exact h
theorem ite_d {c A B : Prop} [Decidable c] (a : c → A) (b : ¬ c → B) : if decide c = true then A else B := by
  by_cases h : c
  · rw [if_pos (decide_eq_true h)]; exact a h
  · rw [if_neg (by rw [decide_eq_false h]; decide)]; exact b h
theorem ite_n {c A B : Prop} [Decidable c] (a : ¬ c → A) (b : c → B) : if (!decide c) = true then A else B := by
  by_cases h : c
  · rw [decide_eq_true h]; exact b h
  · rw [decide_eq_false h]; exact a h
theorem ite_b {b : Bool} {A B : Prop} (h1 : b = true → A) (h2 : b = false → B) : if b = true then A else B := by
  cases b with
  | true => exact h1 rfl
  | false => exact h2 rfl
theorem ite_t {b : Bool} {A B : Prop} (e : b = true) (h : A) : if b = true then A else B := by rw [if_pos e]; exact h
theorem ite_f {b : Bool} {A B : Prop} (e : b = false) (h : B) : if b = true then A else B := by rw [e]; exact h
end
end Sd


/-! A lambda without parameters as a value: made, kept, called by another def; what told makes of it. -/
namespace Sd
open PySem PySem.Spec PyProof.Rows L2 LamX NdefX
/-- the object at f is the lambda whose words F tells, its body b -/
def LamO (f : Addr) (F : NF) (b : Expr) : HO := .ext fun h => ∃ pm ctv : Value, h.get? f = some (PySem.W.kla_obj F.name F.qual F.params b F.scope F.cl pm F.c ctv)
theorem lamO_at {P : Program} {w : World} {H : Hp} {h : Heap} {f : Addr} {F : NF} {b : Expr} (hok : HOk P w H h) (e : H f = some (LamO f F b)) : ∃ pm ctv : Value, h.get? f = some (PySem.W.kla_obj F.name F.qual F.params b F.scope F.cl pm F.c ctv) :=
  (hok f _ e).1
section
variable {X : Cx} {pins : List (Addr × Obj)} {σ : L2.St} {H : Hp} {s : Shared}
theorem inv_lam {F : NF} {b : Expr} {t' : Nat} {pm ctv : Value} (I : Inv X pins σ H s) :
    Inv X pins σ (upd H s.heap.objs.size (LamO s.heap.objs.size F b)) { s with heap := s.heap.push (PySem.W.kla_obj F.name F.qual F.params b F.scope F.cl pm F.c ctv), toks := t' } := by
  have e : (s.heap.push (PySem.W.kla_obj F.name F.qual F.params b F.scope F.cl pm F.c ctv)).get? s.heap.objs.size = some (PySem.W.kla_obj F.name F.qual F.params b F.scope F.cl pm F.c ctv) := Heap.get?_push_size _ rfl
  exact I.laid (fun b u e => Heap.get?_push_of_some _ e) (Nat.le_refl _) ⟨⟨pm, ctv, e⟩, ⟨_, e⟩, fun h1 h2 ⟨p, t, z⟩ st => ⟨p, t, st _ z⟩⟩
theorem lam_value {q : Str} {c P : Addr} {params : Arguments} {body : Expr} {scope : Scope} {pos : Pos} {E : Value → Shared → Prop} {Q : Value → Shared → Prop} (I : Inv X pins σ H s) (TB : TabB X.base X.mg c P) (hcode : X.env.code = .ref c) (hq : X.env.qual ++ "<lambda>" = q)
    (hT : TabS H P q) (hdef : defaultsOf params X.env = ([], [])) (hfree : ∀ y ∈ scope.names, y.2 = .free → ∃ c, X.env.cells.lookup y.1 = some c)
    (h : ∀ (f c' : Addr) (H1 : Hp) (s' : Shared), Inv X pins σ H1 s' → ExtN H H1 → TabS H1 P q → H f = none → H1 f = some (LamO f ⟨"<lambda>", q, params, [], scope, cloFrom X.env.cells scope.names [], c'⟩ body) → H1 c' = some (CodeO c' q) → Q (.ref f) s') :
    wpAny (model X.prog X.w) X.A (eval (.Lambda params body scope pos) X.env) Q E s := by
  subst hq
  obtain ⟨ps, hP, ht, ha⟩ := hT
  have bP : s.heap.BuiltinsAt X.mg P := TB.bm.keeps I.bk
  have hP' : s.heap.get? P = some { cls := .none, data := .fields ps } := I.hok P _ hP
  refine PySem.W.kla_eval hdef ?_
  rcases hc : codeAmong pos ps.toList with _ | cv
  · refine PySem.W.kla_makeFunction (mg := X.mg) (c := c) (P := P) (ps := ps) (closure_ok hfree) I.ok.glob (I.mod.glob.keeps I.bk) hcode (TB.code.keeps I.bk) hP' ht hc TB.gP bP fun c' ctv h' tk hx hge hlt hrec htb => ?_
    obtain ⟨_, oc, vs, t, e2, hoc, hd, hv⟩ := hrec
    cases e2
    have nC : H c' = none := I.hok.fresh hge
    have I1 := inv_table (t' := tk) (more := #[rawInt pos.line, rawInt pos.col, .ref c']) (h' := h') I hP (fun b o hb e => hx b o hb e) htb hge ⟨oc, vs, t, hoc, hd, hv⟩
    have eN : ExtN H (upd (upd H P (.tbl (ps ++ #[rawInt pos.line, rawInt pos.col, .ref c']))) c' (CodeO c' (X.env.qual ++ "<lambda>"))) := fun b o e n => by
      rw [upd_ne (ne_of_none e nC), upd_ne (fun z => n ps (Option.some.inj (e.symm.trans (by rw [z]; exact hP))))]
      exact e
    have nF := I1.hok.fresh (Nat.le_refl _)
    have I2 := inv_lam (F := ⟨"<lambda>", X.env.qual ++ "<lambda>", params, [], scope, cloFrom X.env.cells scope.names [], c'⟩) (b := body) (t' := tk) (pm := (X.mg "__name__").getD .none) (ctv := ctv) I1
    have T1 : TabS (upd (upd H P (.tbl (ps ++ #[rawInt pos.line, rawInt pos.col, .ref c']))) c' (CodeO c' (X.env.qual ++ "<lambda>"))) P (X.env.qual ++ "<lambda>") := by
      have eL : (ps ++ #[rawInt pos.line, rawInt pos.col, .ref c']).toList = ps.toList ++ [rawInt pos.line, rawInt pos.col, .ref c'] := by simp
      refine ⟨_, by rw [upd_ne (ne_of_none hP nC), upd_same], by rw [eL]; exact PySem.TriplesOk_snoc _ _ _ _ ht, fun p' cv hcv => ?_⟩
      rw [eL] at hcv
      rcases among_app _ ht hcv with z | z
      · obtain ⟨c0, e1, e2⟩ := ha p' cv z
        exact ⟨c0, e1, eN _ _ e2 codeO_ne⟩
      · exact ⟨c', z, upd_same⟩
    refine h h'.objs.size c' _ _ I2 (fun b o e n => ?_) (T1.ext fun b o e => ?_) (I.hok.fresh (Nat.le_trans hge (Nat.le_of_lt hlt))) upd_same ?_
    · have e1 := eN b o e n
      exact (upd_ne (ne_of_none e1 nF)).trans e1
    · exact (upd_ne (ne_of_none e nF)).trans e
    · exact (upd_ne (Nat.ne_of_lt hlt)).trans upd_same
  · obtain ⟨c', e, hco⟩ := ha pos cv hc
    subst e
    refine PySem.W.kla_makeFunctionHit (mg := X.mg) (c := c) (P := P) (ps := ps) (closure_ok hfree) I.ok.glob (I.mod.glob.keeps I.bk) hcode (TB.code.keeps I.bk) hP' ht hc bP fun ctv h' tk hx hsz => ?_
    have I1 : Inv X pins σ H { s with heap := h', toks := tk } := I.kept hx
    have nF : H h'.objs.size = none := I1.hok.fresh (Nat.le_refl _)
    have I2 := inv_lam (F := ⟨"<lambda>", X.env.qual ++ "<lambda>", params, [], scope, cloFrom X.env.cells scope.names [], c'⟩) (b := body) (t' := tk) (pm := (X.mg "__name__").getD .none) (ctv := ctv) I1
    refine h h'.objs.size c' _ _ I2 (fun b o e n => ?_) (TabS.ext ⟨ps, hP, ht, ha⟩ fun b o e => ?_) nF upd_same ?_
    · exact (upd_ne (ne_of_none e nF)).trans e
    · exact (upd_ne (ne_of_none e nF)).trans e
    · exact (upd_ne (ne_of_none hco nF)).trans hco
end
/-- lambda: body; the names that it captures: none -/
def tLamV (P : Addr) (q : Str) (params : Arguments) (body : Expr) (scope : Scope) : TE := fun _ H Q => TabS H P q ∧ ∀ (f c' : Addr) (H1 : Hp), ExtN H H1 → TabS H1 P q → H f = none → H1 f = some (LamO f ⟨"<lambda>", q, params, [], scope, [], c'⟩ body) → H1 c' = some (CodeO c' q) → Q (.ref f) H1
theorem clo_nil {cells : List (Str × Addr)} : ∀ {names : List (Str × NameKind)}, (∀ y ∈ names, y.2 ≠ .free) → cloFrom cells names [] = []
  | [], _ => rfl
  | (x, k) :: r, h => by
    have ih := clo_nil (cells := cells) (names := r) fun y hy => h y (List.mem_cons_of_mem _ hy)
    have hk := h (x, k) List.mem_cons_self
    cases k <;> first | exact absurd rfl hk | (simp only [cloFrom]; first | exact ih | (rw [ih]) | simpa using ih)
theorem pe_lamv {X : Cx} {q : Str} {c P : Addr} {params : Arguments} {body : Expr} {scope : Scope} {pos : Pos} (TB : TabB X.base X.mg c P) (hcode : X.env.code = .ref c) (hq : X.env.qual ++ "<lambda>" = q) (hdef : defaultsOf params X.env = ([], []))
    (hfree : ∀ y ∈ scope.names, y.2 ≠ .free) : PE X (.Lambda params body scope pos) (tLamV P q params body scope) := by
  refine ⟨fun pins s σ H Q I h => ?_⟩
  obtain ⟨hT, h⟩ := h
  refine lam_value I TB hcode hq hT hdef (fun y hy e => absurd e (hfree y hy)) fun f c' H1 s' I1 eN T1 f0 f1 c1 => ?_
  rw [clo_nil hfree] at f1
  exact ⟨.ref f, H1, I1, rfl, h f c' H1 eN T1 f0 f1 c1⟩
/-! ### what it promises -/
structure LOk (P : Program) (w : World) (K : PySem.W.Frag) (mg : Str → Option Value) (base : Heap) (k : Nat) (f : Addr) (F : NF) (b : Expr) (tl : Hp → VK → XK → Prop) : Prop where
  run : ∀ (A : Around) (outer : List Env) (s : Shared) (H : Hp) (Q : VK) (E : XK), Room k A → Env0 P w K mg base A outer s H → H f = some (LamO f F b) → H F.c = some (CodeO F.c F.qual) → tl H Q E →
    codeAny (model P w) A (.call (.ref f) ⟨[], []⟩) (CR (L2.CX P w) outer P w H s Q E) s
section
variable {P : Program} {w : World} {K : PySem.W.Frag} {mg : Str → Option Value} {base : Heap} {F : NF} {f : Addr} {b : Expr} {k j : Nat} {tl : Hp → VK → XK → Prop}
theorem lok_of (S : NScope [] [] [] F.scope) (hcl : F.cl = []) (hb : ∀ pm cv ctv : Value, bindArgs (PySem.W.kla_fn F.name F.qual F.params b F.scope F.cl pm cv ctv) ⟨[], []⟩ = pure [])
    (hbody : ∀ (A : Around) (outer : List Env) (s : Shared) (H : Hp) (Q : VK) (E : XK), Room k (A.deeper (envF F f s.heap.objs.size)) → tl H Q E → ∃ t : TE, PE (ncx (L2.CX P w) P w K mg base [] F f A outer s H E) b t ∧ t [] H Q) :
    LOk P w K mg base (k + 1) f F b tl := by
  refine ⟨fun A outer s H Q E hr e0 hf hc h => ?_⟩
  have lim : s.heap.NoLimit := e0.mod.nolimit.keeps fun b o e => (e0.bs b o e).1
  obtain ⟨pm, ctv, ho⟩ := lamO_at e0.hok hf
  refine PySem.W.kla_callFunE hr.depth ho rfl S.co S.gen rfl (codeO_at e0.hok hc) ?_
  rw [hb]
  refine wpAny_pure (wpAny_newFunctionEnv S.nocell (fun y hy => absurd hy (by simp)) (fun h₁ hns hsb => ⟨lim.fresh _ hsb, ?_⟩) S.kind)
  show codeAny _ _ (.expr b (envF F f s.heap.objs.size)) _ _
  have kp : ∀ b o, s.heap.get? b = some o → h₁.get? b = some o := fun b o e => hsb.extBut b o (Nat.ne_of_lt (Heap.lt_size e)) (Heap.get?_push_of_some _ e)
  obtain ⟨t, ht, hq⟩ := hbody A outer s H Q E (hr.deeper _) h
  have C : CellsAt F.cl [] [] s.heap H := by
    rw [hcl]
    exact ⟨rfl, (fun y c e => by cases e), (fun x y c e => by cases e), (fun i y e => by simp at e)⟩
  have I : Inv (ncx (L2.CX P w) P w K mg base [] F f A outer s H E) [] (startF [] [] []) H { s with heap := h₁, toks := s.toks + ([] : List (Str × Value)).length } :=
    inv_startN (N := []) (ps := []) (fr := []) (vs := []) (us := []) (ws := []) S hr.hd e0 rfl .nil C hns kp
  refine PySem.W.kla_codeExpr (wpAny_mono (ht.run [] _ [] H Q I hq) (fun v s' hq => ?_) fun e s' hq => hq)
  obtain ⟨w', H', J', rv, q⟩ := hq
  exact ⟨w', H', J'.os, J'.bare, J'.base, J'.hok, rv, q⟩
end
/-- x(), x a name that holds a lambda -/
def tLamC (P : Program) (w : World) (K : PySem.W.Frag) (mg : Str → Option Value) (base : Heap) (k i : Nat) (W : WX) : TE := fun σ H Q => ∃ (f : Addr) (F : NF) (b : Expr) (tl : Hp → VK → XK → Prop) (E : XK), (∀ cls d σ' H', E cls d H' → W cls d σ' H') ∧
  σ[i]? = some (some (.ref f)) ∧ H f = some (LamO f F b) ∧ H F.c = some (CodeO F.c F.qual) ∧ LOk P w K mg base k f F b tl ∧ tl H Q E
theorem pe_lamc {X : Cx} {W : WX} {i k : Nat} {x : Str} {p pos : Pos} (tk : Takes X W) (hr : Room k X.A) (hN : X.N[i]? = some x) (hv : Vis X.env.scope x) (hd : (x == ("__debug__" : Str)) = false := by decide) (hcd : (x == ("__classdict__" : Str)) = false := by decide) :
    PE X (.Call (.Name x p) [] [] pos) (tLamC X.prog X.w X.K X.mg X.base k i W) := by
  refine ⟨fun pins s σ H Q I h => ?_⟩
  obtain ⟨f, F, b, tl, E, hW, hs, hf, hc, L, ht⟩ := h
  refine wpAny_Call_Name_kw (thn ((pe_var (pos := p) hN hv hd hcd).run pins s σ H (fun v H1 => v = .ref f ∧ H1 = H) I ⟨.ref f, hs, rfl, rfl⟩) fun u s1 ⟨v, H1, I1, r1, q1⟩ => ?_)
  obtain ⟨ev, eH⟩ := q1
  subst ev
  rw [eH] at I1
  obtain rfl : u = Value.ref f := r1
  obtain ⟨pm, ctv, ho⟩ := lamO_at I1.hok hf
  refine PySem.W.callWith_F0 (first := []) ⟨_, _, _, _, ho⟩ ?_
  show wpAny _ _ (call (.ref f) []) _ _ _
  refine wpAny_call (codeAny_mono (L.run X.A X.stack s1 H Q E hr I1.env0 hf hc ht) fun r s' hq => ?_)
  cases r with
  | error e => exact passes_call tk hW pins σ H s1 e s' I1 hq
  | ok fl =>
    cases fl with
    | ret u => exact I1.after hq
    | next => exact False.elim hq
    | brk => exact False.elim hq
    | cont => exact False.elim hq
/-- def told(what): try: return what() / except X: return ret -/
def spTold (P : Program) (w : World) (K : PySem.W.Frag) (mg : Str → Option Value) (base : Heap) (k : Nat) (CS : Addr) (ret : Str) : Sp := fun vs H Q _ => ∃ (f : Addr) (F : NF) (b : Expr) (tl : Hp → VK → XK → Prop), vs = [.ref f] ∧
  H f = some (LamO f F b) ∧ H F.c = some (CodeO F.c F.qual) ∧ LOk P w K mg base k f F b tl ∧ tl H Q (fun cls _ H' => ∃ b, PySem.W.exmOne K cls (.ref CS) = some b ∧ (b = true → Q (.str ret) H') ∧ (b = false → False))
theorem ps_told {P : Program} {w : World} {K : PySem.W.Frag} {mg : Str → Option Value} {base : Heap} {N : List Str} {q : Str} {sc : Scope} {g : Addr} {cdv : Value} {A : Around} {outer : List Env} {s : Shared} {H : Hp} {E : XK} {ret e a : Str} {CS : Addr} {k j : Nat} {p1 p2 p3 p4 p5 p6 p7 p8 : Pos} {Q : VK} {vs : List V}
    (hge : sc.names.lookup e = some .globalImplicit) (hme : mg e = some (.ref CS)) (hN : N[0]? = some a) (hv : Vis sc a) (h0 : ∀ f : Addr, (L2.start N [V.ref f])[0]? = some (some (V.ref f))) (hr : Room k (A.deeper (envOfC q sc s.heap.objs.size g cdv)))
    (h : spTold P w K mg base k CS ret vs H Q E) (hde : (e == ("__debug__" : Str)) = false := by decide) (hd : (a == ("__debug__" : Str)) = false := by decide) (hcd : (a == ("__classdict__" : Str)) = false := by decide) :
    ∃ t, PSs (cxOf C8.CX0 P w K mg base N q sc g cdv A outer s H E).nox [.Try [.Return (some (.Call (.Name a p1) [] [] p2)) p3] [.ExceptHandler (some (.Name e p4)) none [.Return (some (.Constant (.str ret) j p5)) p6] p7] [] [] p8] t ∧
      t { nx := fun _ H' => Q .non H', rt := Q } (L2.start N vs) H := by
  obtain ⟨f, F, b, tl, rfl, hf, hc, L, ht⟩ := h
  have hgl : Gl (cxOf C8.CX0 P w K mg base N q sc g cdv A outer s H E).nox e := hge
  refine ⟨_, pss_one (ps_try_only (c := .ref CS) (tb := fun W D σ H => tLamC P w K mg base k 0 W σ H D.rt) rfl rfl ⟨hgl, hde, .inl hme⟩ L2.takes0 (fun W pn xe tk _ => pss_one (ps_ret (pe_lamc tk hr hN hv hd hcd))) (fun a oe cls d pn _ _ => pss_one (ps_ret pe_str))), ?_⟩
  refine ⟨f, F, b, tl, _, fun cls d σ' H' q => ?_, h0 f, hf, hc, L, ht⟩
  obtain ⟨b, e1, e2, e3⟩ := q
  exact ⟨b, e1, fun hb a _ => e2 hb, fun hb => e3 hb⟩
/-! ### defs that may raise -/
structure MakX (P : Program) (w : World) (K : PySem.W.Frag) (mg : Str → Option Value) (base : Heap) (k : Nat) (x : Str) (C : Addr) (sp : Sp) (dvs : List V) : Prop where
  ex : ∃ (f : Addr) (fd : FuncData) (ps : List Str) (ds : List Value), Mk K C f ∧ FnOk P w K mg base (L2.CX P w) k f fd ps sp ∧ mg x = some (.ref C) ∧ Binds K fd ps ds ∧ Vals dvs ds
structure MetX (P : Program) (w : World) (K : PySem.W.Frag) (mg : Str → Option Value) (base : Heap) (k : Nat) (C : Addr) (m : Str) (sp : Sp) (dvs : List V) : Prop where
  ex : ∃ (f : Addr) (fd : FuncData) (ps : List Str) (ds : List Value), Cls K C ∧ Meth K C m f ∧ FnOk P w K mg base (L2.CX P w) k f fd ps sp ∧ Binds K fd ps ds ∧ Vals dvs ds
structure CalX (P : Program) (w : World) (K : PySem.W.Frag) (mg : Str → Option Value) (base : Heap) (k : Nat) (x : Str) (sp : Sp) (dvs : List V) : Prop where
  ex : ∃ (f : Addr) (fd : FuncData) (ps : List Str) (ds : List Value), FnOk P w K mg base (L2.CX P w) k f fd ps sp ∧ mg x = some (.ref f) ∧ PySem.W.keepIn K (.ref f) = true ∧ Binds K fd ps ds ∧ Vals dvs ds
section
variable {X : Cx} {k j : Nat} {C : Addr} {x m : Str} {sp : Sp} {dvs : List V} {p pos apos : Pos} {e o : Expr} {es : List Expr} {ta : TE} {t : TA} {E : XK}
theorem pe_cX (c : CalX X.prog X.w X.K X.mg X.base k x sp dvs) (hr : Room j X.A) (hk : k ≤ j) (hg : Gl X x) (tk : Takes X (fun cls d _ H => E cls d H)) (ha : PA X (e :: es) t)
    (hdb : (x == ("__debug__" : Str)) = false := by decide) (he : starEach (e :: es) X.env = (false, eval e X.env) :: starEach es X.env := by rfl) (hpl : (backTo pos (starEach es X.env)).any (·.1) = false := by rfl) :
    PE X (.Call (.Name x p) (e :: es) [] pos) (tCall sp dvs E t) := by
  obtain ⟨f, fd, ps, ds, F, hm, kp, b, d⟩ := c.ex
  exact pe_call F (hr.mono hk) hg hm kp b d (passes_call tk fun _ _ _ _ h => h) ha hdb he hpl
theorem pe_mkX (c : MakX X.prog X.w X.K X.mg X.base k x C sp dvs) (hr : Room j X.A) (hk : k + 1 ≤ j) (hg : Gl X x) (tk : Takes X (fun cls d _ H => E cls d H)) (ha : PA X (e :: es) t)
    (hdb : (x == ("__debug__" : Str)) = false := by decide) (he : starEach (e :: es) X.env = (false, eval e X.env) :: starEach es X.env := by rfl) (hpl : (backTo pos (starEach es X.env)).any (·.1) = false := by rfl) :
    PE X (.Call (.Name x p) (e :: es) [] pos) (tMake C sp dvs E t) := by
  obtain ⟨f, fd, ps, ds, M, F, hm, b, d⟩ := c.ex
  exact pe_make M F (hr.mono hk) hg hm b d (passes_call tk fun _ _ _ _ h => h) ha hdb he hpl
theorem pe_mtX {pl : Sem Bool} (c : MetX X.prog X.w X.K X.mg X.base k C m sp dvs) (hr : Room j X.A) (hk : k ≤ j) (tk : Takes X (fun cls d _ H => E cls d H)) (he : PE X o ta) (ha : PA X (e :: es) t)
    (hst : starEach (e :: es) X.env = (false, eval e X.env) :: starEach es X.env := by rfl) (hpl : (backTo pos (starEach es X.env)).any (·.1) = false := by rfl)
    (ht : eval (.Call (.Attribute o m apos) (e :: es) [] pos) X.env = (do
      let ov ← eval o X.env
      standAt apos.atName
      let (f, first) ← holding [ov] (getMethod ov m pl)
      callWith pos f first (backTo pos (starEach (e :: es) X.env)) (backToKw pos (keywordEach [] X.env))) := by rfl) :
    PE X (.Call (.Attribute o m apos) (e :: es) [] pos) (tMeth C m sp dvs E ta t) := by
  obtain ⟨f, fd, ps, ds, hc, hm, F, b, d⟩ := c.ex
  exact pe_meth (pl := pl) he hc hm F (hr.mono hk) b d (passes_call tk fun _ _ _ _ h => h) ha hst hpl ht
end
/-- an own error class below ValueError, without __init__ -/
structure ExcT (K : PySem.W.Frag) (mg : Str → Option Value) (x : Str) (C : Addr) : Prop where
  g : mg x = some (.ref C)
  ex : PySem.W.excIn K C [.type "ValueError", .type "Exception", .type "BaseException", .type "object"] "ValueError.__new__" = true
  kp : PySem.W.keepIn K (.ref C) = true
  sb : PySem.W.subIn K (.ref C) (.type "BaseException") = some true
  ty : PySem.W.typeIn K (.ref C) = some (.type "type")
  ic : PySem.W.isClsIn K C = true
  ss : PySem.W.subIn K (.ref C) (.ref C) = some true
theorem ExcT.em {K : PySem.W.Frag} {mg : Str → Option Value} {x : Str} {C : Addr} (T : ExcT K mg x C) : PySem.W.exmOne K (.ref C) (.ref C) = some true := by
  have ic : (PySem.W.clsIn K C).isSome = true := T.ic
  simp [PySem.W.exmOne, PySem.W.kitCls, T.sb, ic, T.ty, T.ss]
theorem ps_raiseT {X : Cx} {W : WX} {x m : Str} {C : Addr} {j : Nat} {p p2 pos pos2 : Pos} (T : ExcT X.K X.mg x C) (hc : X.calm = true) (tk : Takes X W) (hg : Gl X x) (hdb : (x == ("__debug__" : Str)) = false := by decide) :
    PS X (.Raise (some (.Call (.Name x p) [.Constant (.str m) j p2] [] pos)) none pos2) (fun _ σ H => W (.ref C) none σ H) :=
  ps_raise hc tk (pmk_own PySem.F.excBase_ValueError T.ex T.g T.kp (raises_own T.sb T.ty) hg hdb)
/-- Fun.ok for a def with defaults -/
theorem funD_ok0 {P : Program} {w : World} {K : PySem.W.Frag} {mg : Str → Option Value} {base : Heap} {x qual : Str} {params : Arguments} {body : List Stmt} {scope : Scope} {dvs : List V} {kws : List (Str × V)} {f : Addr} {fd : FuncData}
    {N ps : List Str} {k : Nat} {sp : Sp} (F : FunD K x qual params body scope dvs kws f fd) (S : FnScope N ps scope) (len : ∀ vs H Q E, sp vs H Q E → vs.length = ps.length)
    (hbody : ∀ (cdv : Value) (A : Around) (outer : List Env) (s : Shared) (H : Hp) (vs : List V) (Q : VK) (E : XK), Room k (A.deeper (envOfC qual scope s.heap.objs.size f cdv)) → sp vs H Q E →
      ∃ t, PSs (cxOf L2.CX0 P w K mg base N qual scope f cdv A outer s H E).nox body t ∧ t { nx := fun _ H' => Q .non H', rt := Q } (start N vs) H) : FnOk P w K mg base L2.CX0 (k + 1) f fd ps sp :=
  F.ok S len fun cdv A outer s H vs Q E hr hsp => let ⟨t, h, q⟩ := hbody cdv A outer s H vs Q E hr hsp; ⟨t, h.nox, q⟩
end Sd


/-! == and != of data without dicts: what the law compares. -/
namespace Sd
open PySem PySem.Spec PyProof.Rows L2
mutual
theorem eqv_self : ∀ d : PyData, d.plain = true → PyData.eqv d d = true
  | .none, _ => rfl
  | .bool b, _ => by simp [PyData.eqv]
  | .int i, _ => by simp [PyData.eqv]
  | .str x, _ => by simp [PyData.eqv]
  | .list xs, h => by
    simp only [PyData.eqv]
    exact eqv_selfAll xs (by simpa [PyData.plain] using h)
  | .tuple xs, h => by
    simp only [PyData.eqv]
    exact eqv_selfAll xs (by simpa [PyData.plain] using h)
  | .dict _, h => by simp [PyData.plain] at h
theorem eqv_selfAll : ∀ xs : List PyData, PyData.plainAll xs = true → PyData.eqvAll xs xs = true
  | [], _ => by simp [PyData.eqvAll]
  | x :: xs, h => by
    simp only [PyData.plainAll, Bool.and_eq_true] at h
    simp only [PyData.eqvAll, Bool.and_eq_true]
    exact ⟨eqv_self x h.1, eqv_selfAll xs h.2⟩
end
/-- data that may be compared: no dict, not deep -/
structure Shal (d : PyData) : Prop where
  p : d.plain = true
  d : d.depth ≤ 60
def rEqP (K : PySem.W.Frag) : R2 := fun x y H Q => ∃ d e, Dp K H x d ∧ Dp K H y e ∧ Shal d ∧ Shal e ∧ Q (.bl (PyData.eqv d e)) H
def rNeP (K : PySem.W.Frag) : R2 := fun x y H Q => ∃ d e, Dp K H x d ∧ Dp K H y e ∧ Shal d ∧ Shal e ∧ Q (.bl (!PyData.eqv d e)) H
section
variable {X : Cx}
theorem op_eqP (hu : X.A.units + 64 < cLine) : OpR X (compareOp .Eq) (rEqP X.K) := by
  intro pins s σ H x y v u Q I rx ry h
  obtain ⟨d, e, hd, he, sd, se, q⟩ := h
  obtain ⟨as, r1⟩ := Dp.reads I d x v hd rx
  obtain ⟨bs, r2⟩ := Dp.reads I e y u he ry
  have := sd.d
  exact PySem.SeqAt.eq_plain r1 r2 sd.p se.p (by omega) ⟨.bl _, H, I, rfl, q⟩
theorem op_neP (hu : X.A.units + 64 < cLine) : OpR X (compareOp .NotEq) (rNeP X.K) := by
  intro pins s σ H x y v u Q I rx ry h
  obtain ⟨d, e, hd, he, sd, se, q⟩ := h
  obtain ⟨as, r1⟩ := Dp.reads I d x v hd rx
  obtain ⟨bs, r2⟩ := Dp.reads I e y u he ry
  have := sd.d
  exact PySem.SeqAt.ne_plain r1 r2 sd.p se.p (by omega) ⟨.bl _, H, I, rfl, q⟩
end
section
variable {K : PySem.W.Frag} {H : Hp} {x y : V} {d e : PyData} {Q : VK}
theorem k_eqSame (h1 : Dp K H x d) (h2 : Dp K H y d) (s : Shal d) (q : Q (.bl true) H) : rEqP K x y H Q := ⟨d, d, h1, h2, s, s, by rw [eqv_self d s.p]; exact q⟩
theorem k_neSame (h1 : Dp K H x d) (h2 : Dp K H y d) (s : Shal d) (q : Q (.bl false) H) : rNeP K x y H Q := ⟨d, d, h1, h2, s, s, by rw [eqv_self d s.p]; exact q⟩
theorem dp_all {α : Type} {f : α → V} {g : α → PyData} : ∀ {l : List α}, (∀ a ∈ l, Dp K H (f a) (g a)) → DpAll K H (l.map f) (l.map g)
  | [], _ => .nil
  | a :: l, h => .cons (h a List.mem_cons_self) (dp_all fun b hb => h b (List.mem_cons_of_mem _ hb))
theorem plain_all {α : Type} {g : α → PyData} : ∀ {l : List α}, (∀ a ∈ l, (g a).plain = true) → PyData.plainAll (l.map g) = true
  | [], _ => by simp [PyData.plainAll]
  | a :: l, h => by
    simp only [List.map_cons, PyData.plainAll, Bool.and_eq_true]
    exact ⟨h a List.mem_cons_self, plain_all fun b hb => h b (List.mem_cons_of_mem _ hb)⟩
theorem depth_all {α : Type} {g : α → PyData} {n : Nat} : ∀ {l : List α}, (∀ a ∈ l, (g a).depth ≤ n) → PyData.depthAll (l.map g) ≤ n
  | [], _ => by simp [PyData.depthAll]
  | a :: l, h => by
    simp only [List.map_cons, PyData.depthAll]
    exact Nat.max_le.mpr ⟨h a List.mem_cons_self, depth_all fun b hb => h b (List.mem_cons_of_mem _ hb)⟩
theorem shal_list {α : Type} {g : α → PyData} {l : List α} {n : Nat} (hn : n < 60) (h : ∀ a ∈ l, (g a).plain = true ∧ (g a).depth ≤ n) : Shal (.list (l.map g)) := by
  refine ⟨by simp only [PyData.plain]; exact plain_all fun a ha => (h a ha).1, ?_⟩
  have := depth_all (l := l) (g := g) (n := n) fun a ha => (h a ha).2
  simp only [PyData.depth]
  omega
theorem dp_ints {ns : List Int} : DpAll K H (ns.map V.int) (ns.map PyData.int) := dp_all fun _ _ => .int _
theorem shal_ints {ns : List Int} : Shal (.list (ns.map PyData.int)) := shal_list (n := 0) (by decide) fun _ _ => ⟨by simp [PyData.plain], by simp [PyData.depth]⟩
theorem dp_strs {ns : List Str} : DpAll K H (ns.map V.str) (ns.map PyData.str) := dp_all fun _ _ => .str _
theorem shal_strs {ns : List Str} : Shal (.list (ns.map PyData.str)) := shal_list (n := 0) (by decide) fun _ _ => ⟨by simp [PyData.plain], by simp [PyData.depth]⟩
theorem dp_lst {a : Addr} {xs : List V} {ds : List PyData} (h : H a = some (.lst xs)) (hd : DpAll K H xs ds) : Dp K H (.ref a) (.list ds) := .lst (.of h) hd
theorem dp_tup {a : Addr} {xs : List V} {ds : List PyData} (h : H a = some (.tup xs)) (hd : DpAll K H xs ds) : Dp K H (.ref a) (.tuple ds) := .tup (.of h) hd
end
end Sd


/-! A generator expression of any element, consumed by tuple(..) or list(..). -/
namespace Gx
open PySem PySem.Spec PyProof.Rows L2 GenW

/-- the genexp's own frame over the def's -/
abbrev gx (X : Cx) (A : Around) (s : Shared) (H : Hp) (cenv : Env) (fp : List Addr) (pn : List (Addr × Obj)) : Cx :=
  { X with A := A, s_0 := s, H_0 := H, env := cenv, outer := X.stack, stack := cenv :: X.stack, ex := fp, fn := fun _ => false, calm := true, pn := pn, xe := fun _ _ => False }

/-- the genexp's names: «.0» (none of N), its own (with their places in N), captured ones -/
structure GxOk (N : List Str) (sc scope : Scope) (own : List (Str × Nat)) : Prop where
  kind : scope.kind = .function
  co : scope.isCoroutine = false
  cell : ∀ y ∈ scope.names, y.2 ≠ .cell
  dot : scope.names.lookup (".0" : Str) = some NameKind.local
  uniq : ∀ y ∈ scope.names, scope.names.lookup y.1 = some y.2
  ix : ∀ p ∈ own, N[p.2]? = some p.1
  free : ∀ y ∈ scope.names, y.2 = .free → sc.names.lookup y.1 = some .cell ∨ sc.names.lookup y.1 = some .free
  own : ∀ y ∈ scope.names, y.2 = .local → y.1 ∈ own.map (·.1) ∨ y.1 ∉ N

def gxC (N : List Str) (sc scope : Scope) (own : List (Str × Nat)) : Bool :=
  (match scope.kind with | .function => true | _ => false) && !scope.isCoroutine && decide (scope.names.lookup (".0" : Str) = some NameKind.local) && (scope.names.all fun y => decide (scope.names.lookup y.1 = some y.2)) && (own.all fun p => decide (N[p.2]? = some p.1)) &&
    (scope.names.all fun y => match y.2 with
      | .free => (match sc.names.lookup y.1 with | some .cell => true | some .free => true | _ => false)
      | .local => decide (y.1 ∈ own.map (·.1)) || decide (y.1 ∉ N)
      | .cell => false
      | _ => true)
theorem gxOk_by {N : List Str} {sc scope : Scope} {own : List (Str × Nat)} (h : gxC N sc scope own = true) : GxOk N sc scope own := by
  unfold gxC at h
  simp only [Bool.and_eq_true, List.all_eq_true, decide_eq_true_eq, Bool.not_eq_true'] at h
  obtain ⟨⟨⟨⟨⟨h1, h0⟩, hd⟩, h2⟩, h3⟩, h4⟩ := h
  refine ⟨?_, h0, fun y hy e => ?_, hd, h2, h3, fun y hy e => ?_, fun y hy e => ?_⟩
  · split at h1
    · assumption
    · cases h1
  · have q := h4 y hy
    simp only [e] at q
    cases q
  · have q := h4 y hy
    simp only [e] at q
    split at q <;> first | exact .inl (by assumption) | exact .inr (by assumption) | cases q
  · have q := h4 y hy
    simp only [e, Bool.or_eq_true, decide_eq_true_eq] at q
    exact q

theorem gx_over {A : Around} {elt : Expr} {gens : List Comprehension} {scope : Scope} {pos : Pos} {it acc : Value} {env : Env} :
    A.over (.compLoop (.GeneratorExp elt gens scope pos) 0 it acc env) [] = A.deeper env := by
  first
    | rfl
    | (obtain ⟨hd, d, fr, gs, u⟩ := A; simp [Around.over, Around.deeper, marksOver, frameCount, unitsOf, envsOf, guardsOf, pushEnvs, pushGuards, Code.envs, Code.env?, Code.isFrame, Code.guards, Code.isGuard, Code.weight, Code.frames, Code.isCreation, Code.isCaller, Code.cUnits])

section
variable {X : Cx} {pins : List (Addr × Obj)} {σ : L2.St} {H : Hp} {s : Shared}
theorem gx_start {A : Around} {scope : Scope} {own : List (Str × Nat)} {fp : List Addr} {code : Value} {m : Str → Option Value} {s' : Shared} {pn : List (Addr × Obj)} (I : Inv X pins σ H s) (ok : GxOk X.N X.env.scope scope own) (hN : X.N.Nodup)
    (hfp : ∀ b ∈ fp, FpOk X pins H b ∧ b < s.heap.objs.size) (hA : A.handled = none)
    (hfr : A.frames = some (genEnv scope (cloFrom X.env.cells scope.names []) s.heap.objs.size code builtinsNs X.env :: X.stack))
    (kp : ∀ b o, s.heap.get? b = some o → s'.heap.get? b = some o) (hos : s'.os = s.os) (hb : AllBare s'.gens) (hns : s'.heap.Ns s.heap.objs.size m)
    (hpn : ∀ p ∈ pn, s'.heap.get? p.1 = some p.2 ∧ s.heap.objs.size < p.1 ∧ ∀ v, p.2.data ≠ .cell v) :
    Inv (gx X A s H (genEnv scope (cloFrom X.env.cells scope.names []) s.heap.objs.size code builtinsNs X.env) fp pn) [] (wipe σ (own.map (·.2))) H s' := by
  have hfree : ∀ y ∈ scope.names, y.2 = .free → ∃ c, X.env.cells.lookup y.1 = some c := fun y hy e => by
    rcases ok.free y hy e with k | k
    · exact I.ok.has _ (.inl k)
    · exact I.ok.has _ (.inr k)
  generalize hcenv : genEnv scope (cloFrom X.env.cells scope.names []) s.heap.objs.size code builtinsNs X.env = cenv at hfr ⊢
  have hL : cenv.locals = s.heap.objs.size := by rw [← hcenv]; rfl
  have hcl : cenv.cells = cloFrom X.env.cells scope.names [] := by rw [← hcenv]; rfl
  have hsc : cenv.scope = scope := by rw [← hcenv]; rfl
  have cm : ∀ {y c}, cenv.cells.lookup y = some c → X.env.cells.lookup y = some c ∧ c < s.heap.objs.size := fun {y c} hm => by
    rw [hcl] at hm
    rcases cloFrom_mem (PySem.mem_of_lookup hm) with hm | ⟨h1, rfl⟩
    · cases hm
    · obtain ⟨c, hc⟩ := hfree _ h1 rfl
      rw [hc]
      obtain ⟨w, z⟩ := I.cell _ _ hc
      exact ⟨rfl, z.lt⟩
  have look : ∀ {y}, scope.names.lookup y = some .free → ∃ c, cenv.cells.lookup y = some c ∧ X.env.cells.lookup y = some c := fun {y} hl => by
    have hy : (y, NameKind.free) ∈ scope.names := PySem.mem_of_lookup hl
    obtain ⟨c', e'⟩ := mem_lookup (cloFrom_has (cells := X.env.cells) (acc := []) hy)
    rw [← hcl] at e'
    exact ⟨c', e', (cm e').1⟩
  have okB : (gx X A s H cenv fp pn).Ok := by
    refine ⟨I.ok.mod, by show cenv.scope.kind = _; rw [hsc]; exact ok.kind, by show cenv.globals = _; rw [← hcenv]; exact I.ok.glob, by show cenv.builtins = _; rw [← hcenv]; rfl, by show s.heap.objs.size ≤ cenv.locals; rw [hL]; exact Nat.le_refl _,
      fun y z c e1 e2 => ?_, fun y hy => ?_, fun y c z e => ?_, fun _ => hA, hfr, .inr ⟨rfl, by show cenv.frame = some cenv.locals; rw [← hcenv]; rfl⟩, fun b hb => ⟨?_, fun y c e z => ?_⟩, I.bs, Nat.le_trans I.ok.bsz I.sz, fun b o e hb => ?_, fun b hb z => ?_, I.stack, I.stkFree⟩
    · exact I.ok.inj y z c (cm e1).1 (cm e2).1
    · show ∃ c, cenv.cells.lookup y = some c
      have hy' : cenv.scope.names.lookup y = some .cell ∨ cenv.scope.names.lookup y = some .free := hy
      rw [hsc] at hy'
      rcases hy' with hy' | hy'
      · exact absurd rfl (ok.cell _ (PySem.mem_of_lookup hy'))
      · obtain ⟨c, h1, _⟩ := look hy'
        exact ⟨c, h1⟩
    · exact absurd z (by simp)
    · show b ≠ cenv.locals
      rw [hL]; exact Nat.ne_of_lt (hfp b hb).2
    · exact (hfp b hb).1.2.2.2.2.1 y c (cm e).1 z
    · rcases (hfp b hb).1.2.2.2.1 with z | z
      · exact I.ok.noex b o e z
      · exact absurd (Nat.lt_of_lt_of_le (Heap.lt_size e) (Nat.le_trans I.ok.bsz z)) (Nat.lt_irrefl _)
    · rcases List.mem_cons.mp (I.stkSub b z) with z | z
      · exact (hfp b hb).1.2.1 z
      · exact (hfp b hb).1.2.2.1 z
  refine ⟨okB, hos, hb, Un.kept kp, ⟨m, ?_, fun i y av e1 e2 e3 => ?_⟩, fun y c e => ?_, ?_, fun y c e => ?_, fun p hp => ?_, I.hok.kept kp, by rw [wipe_length]; exact I.len⟩
  · show Heap.Ns _ cenv.locals _
    rw [hL]; exact hns
  · obtain ⟨e2, hne⟩ := wipe_some e2
    have e3 : Vis cenv.scope y := e3
    rw [hsc] at e3
    have hfr : scope.names.lookup y = some .free := by
      rcases e3 with e3 | e3 | e3
      · rcases ok.own _ (PySem.mem_of_lookup e3) rfl with e' | e'
        · obtain ⟨p, hp, hpy⟩ := List.mem_map.mp e'
          have e3 := ok.ix p hp
          have : p.1 = y := hpy
          rw [this] at e3
          exact absurd (List.mem_map.mpr ⟨p, hp, nodup_ix hN e3 e1⟩) hne
        · exact absurd (List.mem_of_getElem? e1) e'
      · exact absurd rfl (ok.cell _ (PySem.mem_of_lookup e3))
      · exact e3
    obtain ⟨m, hn, hl⟩ := I.loc
    have hvis : Vis X.env.scope y := (ok.free _ (PySem.mem_of_lookup hfr) rfl).elim (fun k => .inr (.inl k)) (fun k => .inr (.inr k))
    obtain ⟨w, r, q⟩ := hl i y av e1 e2 hvis
    refine ⟨w, r, .inr ⟨.inr ?_, ?_⟩⟩
    · show cenv.scope.names.lookup y = _
      rw [hsc]; exact hfr
    obtain ⟨c, h1, h2⟩ := look hfr
    rcases q with ⟨k, _⟩ | ⟨_, c', e', z⟩
    · have k : X.env.scope.names.lookup y = some .local := k
      rcases ok.free _ (PySem.mem_of_lookup hfr) rfl with k' | k' <;> rw [show X.env.scope.names.lookup y = _ from k'] at k <;> cases k
    · rw [h2] at e'; cases e'
      exact ⟨c, h1, z.keeps kp⟩
  · obtain ⟨w, z⟩ := I.cell y c (cm e).1
    exact ⟨w, z.keeps kp⟩
  · show H cenv.locals = none
    rw [hL]; exact I.hok.fresh (Nat.le_refl _)
  · exact I.freeC y c (cm e).1
  · have hp : p ∈ pn := by simpa using hp
    obtain ⟨q1, q2, q3⟩ := hpn p hp
    refine ⟨q1, I.hok.fresh (Nat.le_of_lt q2), ?_, fun z => ?_, q3⟩
    · show p.1 ≠ cenv.locals
      rw [hL]; exact Nat.ne_of_gt q2
    · rcases List.mem_cons.mp (I.stkSub p.1 z) with z | z
      · exact absurd (z ▸ I.lt) (Nat.not_lt_of_ge (Nat.le_of_lt q2))
      · exact I.nofs (Nat.le_of_lt q2) z

/-! ### the run -/
/-- the end: all handed out stands in S -/
def GEnd (X' : Cx) (S : Addr) (σ : L2.St) (Q : List V → Hp → Prop) : GenEnd := fun n _ r s => r = .ok .next ∧ ∃ ys H, n + ys.length = sizeLine ∧ GI X' S [] ys σ H s ∧ Q ys H

theorem seg_gx {A : Around} {S : Addr} {elt tg iter : Expr} {ifs : List Expr} {scope : Scope} {gpos : Pos} {g : TG} {tt : TT} {te : TE} {vs : List Nat} {J : It} {fp : List Addr} {it : Addr} {tn : Nat → Heap → Prop} {H0 : Hp} {s0 : Shared} {cenv : Env} {pn : List (Addr × Obj)}
    {W : Nat → Nat → List V → Hp → Prop} {Q : List V → Hp → Prop}
    (T : Turn X.prog X.w X.K tg J fp it tn) (hco : cenv.scope.isCoroutine = false)
    (pg : PG (gx X (A.deeper cenv) s0 H0 cenv fp pn) tg g) (pt : PTs (gx X (A.deeper cenv) s0 H0 cenv fp pn) ifs tt) (pe : PE (gx X (A.deeper cenv) s0 H0 cenv fp pn) elt te)
    (hpn : ∀ p ∈ pn, p.1 ≠ S ∧ p.1 ∉ fp) (hA : Apart (gx X (A.deeper cenv) s0 H0 cenv fp pn) S) (hS : S ∉ fp)
    (turn : ∀ i m ys H, W i m ys H → (J.stop i H ∧ Q ys H) ∨ (J.go i H ∧ ∃ Nx : List V → Hp → Prop, (∀ ys' H', Nx ys' H' → ∃ m', m' < m ∧ W (i + 1) m' ys' H') ∧ ∀ x H', J.yld i H x H' → g x (wipe σ vs) H' fun σ2 H2 => wipe σ2 vs = wipe σ vs ∧ tt σ2 H2 fun b H3 =>
      if b = true then te σ2 H3 fun y H4 => ys.length < sizeLine ∧ Nx (ys ++ [y]) H4 else Nx ys H3)) :
    ∀ (m n i : Nat) (ys : List V) (H : Hp) (s₀ s : Shared), n + ys.length = sizeLine → W i m ys H → GI (gx X (A.deeper cenv) s0 H0 cenv fp pn) S [] ys (wipe σ vs) H s → tn i s.heap → (∀ b ∈ fp, H b = none) →
      Seg (model X.prog X.w) A (GEnd (gx X (A.deeper cenv) s0 H0 cenv fp pn) S (wipe σ vs) Q) (GY (gx X (A.deeper cenv) s0 H0 cenv fp pn) S) n s₀ (.compLoop (.GeneratorExp elt [⟨tg, iter, ifs, 0⟩] scope gpos) 0 (.ref it) .none cenv)
        ((model X.prog X.w).den (.compLoop (.GeneratorExp elt [⟨tg, iter, ifs, 0⟩] scope gpos) 0 (.ref it) .none cenv)) [] s := by
  have stat : ∀ {σ' : L2.St} {H' : Hp} {s' : Shared} {acc : Array Value} {c : Nat}, Inv (gx X (A.deeper cenv) s0 H0 cenv fp pn) [(S, lstObj acc c)] σ' H' s' → (∀ b ∈ fp, H' b = none) → ∀ b ∈ fp, FpOk (gx X (A.deeper cenv) s0 H0 cenv fp pn) [(S, lstObj acc c)] H' b := fun {σ' H' s' acc c} I' hn b hb =>
    ⟨hn b hb, (I'.ok.exf b hb).1, I'.ok.exfs b hb, .inl hb, fun x c e => (I'.ok.exf b hb).2 x c e, fun p hp z => by
      rcases List.mem_append.mp hp with hp | hp
      · exact (hpn p hp).2 (z ▸ hb)
      · rw [List.mem_singleton.mp hp] at z
        have z : S = b := z
        exact hS (by rw [z]; exact hb)⟩
  intro m
  induction m using Nat.strongRecOn with
  | ind m ih =>
    intro n i ys H s₀ s hn w hI hst hfn
    show Seg _ A _ _ _ s₀ _ ((compTurn (.GeneratorExp elt [⟨tg, iter, ifs, 0⟩] scope gpos) 0 (.ref it) .none cenv).onRaise (leaving cenv)) [] s
    rw [compTurn_gen, Sem.onRaise_eq_wrap]
    refine seg_bind_wrap (wpAny_standAt ?_)
    obtain ⟨acc, cc, r, I⟩ := hI
    rcases turn i m ys H w with ⟨stop, q⟩ | ⟨go, Nx, hNx, step⟩
    · refine seg_bind_wrap ?_
      rw [gx_over]
      refine thnF (T.done (gx X (A.deeper cenv) s0 H0 cenv fp pn) rfl rfl rfl rfl i _ s _ H (fun _ _ => False) I (stat I hfn) hst stop) fun rr s1 ⟨hr, I1⟩ => ?_
      subst hr
      exact seg_end (.ok .next) ⟨rfl, ys, H, hn, ⟨acc, cc, r, I1⟩, q⟩
    · refine seg_bind_wrap ?_
      rw [gx_over]
      refine thnF (T.item (gx X (A.deeper cenv) s0 H0 cenv fp pn) rfl rfl rfl rfl i _ s _ H (fun _ _ => False) I (stat I hfn) hst go) fun rr s1 ⟨u, hr, h1⟩ => ?_
      subst hr
      refine seg_bind_wrap ?_
      rw [gx_over]
      refine thnF h1 fun _ s2 ⟨x, H2, I2, r2, y2, st2, n2⟩ => ?_
      have I2' := I2.pinned (stat I2 n2) (T.obj _ _ st2)
      refine seg_bind_wrap ?_
      rw [gx_over]
      refine thnF (pg.run _ s2 _ H2 x u _ I2' r2 (step x H2 y2)) fun _ s3 ⟨σ3, H3, I3, hw3, q3⟩ => ?_
      refine seg_bind_wrap ?_
      rw [gx_over]
      refine thnF (pt.run _ s3 σ3 H3 _ I3 q3) fun b s4 ⟨H4, I4, q4⟩ => ?_
      -- the turn's end
      have hl : ∀ {s' : Shared} {H' : Hp}, Inv (gx X (A.deeper cenv) s0 H0 cenv fp pn) ([(S, lstObj acc cc)] ++ pinsAt fp s2.heap) σ3 H' s' →
          Inv (gx X (A.deeper cenv) s0 H0 cenv fp pn) [(S, lstObj acc cc)] (wipe σ vs) H' s' ∧ tn (i + 1) s'.heap ∧ ∀ b ∈ fp, H' b = none := fun {s' H'} I' => by
        have pin' : ∀ b ∈ fp, ∀ o, s2.heap.get? b = some o → s'.heap.get? b = some o ∧ H' b = none := fun b hb o e =>
          let z := I'.pin (b, o) (List.mem_append_right _ (List.mem_append_right _ (mem_pinsAt hb e)))
          ⟨z.1, z.2.1⟩
        have hl : (wipe σ vs).length = σ3.length := by rw [← hw3, wipe_length]
        refine ⟨I'.unpinned.weak hl (fun j v e => ?_), T.keep _ _ _ st2 fun b hb o e => (pin' b hb o e).1, fun b hb => ?_⟩
        · rw [← hw3] at e
          exact (wipe_some e).1
        · obtain ⟨o, e, _⟩ := T.obj _ _ st2 b hb
          exact (pin' b hb o e).2
      cases b with
      | false =>
        simp only [Bool.false_eq_true, if_false] at q4 ⊢
        obtain ⟨m', hm, w'⟩ := hNx ys H4 q4
        obtain ⟨I5, st5, n5⟩ := hl I4
        exact seg_again rfl (ih m' hm n (i + 1) ys H4 s₀ s4 hn w' ⟨acc, cc, r, I5⟩ st5 n5)
      | true =>
        simp only [if_true] at q4 ⊢
        have hy : ∀ v, yieldOut cenv v = yieldValue v := fun v => by simp only [yieldOut, hco, Bool.false_eq_true, if_false]
        simp only [hy]
        rw [Sem.bind_eq_wrap', Sem.bind_eq_wrap', Sem.wrap_wrap, Sem.wrap_wrap]
        refine seg_wrap ?_
        rw [gx_over]
        refine thnF (pe.run _ s4 σ3 H4 _ I4 q4) fun v s5 ⟨yv, H5, I5', r5, hlt, nx⟩ => ?_
        obtain ⟨I5, st5, n5⟩ := hl I5'
        obtain ⟨n, rfl⟩ : ∃ k, n = k + 1 := ⟨n - 1, by omega⟩
        obtain ⟨m', hm, w'⟩ := hNx _ H5 nx
        refine seg_at (seg_yield rfl rfl rfl ⟨ys, yv, [], wipe σ vs, H5, hn, r5, ⟨acc, cc, r, I5⟩, fun s'' z => ?_⟩)
        refine seg_again rfl (ih m' hm n (i + 1) _ H5 s'' s'' (by rw [List.length_append, List.length_singleton]; omega) w' ?_ ?_ n5)
        · exact GI.woken (fun p hp => (hpn p hp).1) (fun p hp => absurd hp (by simp)) hA ⟨acc, cc, r, I5⟩ r5 z
        · exact T.keep _ _ _ st5 fun b hb o e => z.keep b o (fun y => hS (y ▸ hb)) e

theorem seg_gx0 {A : Around} {elt tg iter : Expr} {ifs : List Expr} {scope : Scope} {gpos : Pos} {J : It} {fp : List Addr} {it : Addr} {tn : Nat → Heap → Prop} {cenv : Env} {R : GenEnd} {Y : Protocol} {n : Nat} {s₀ s : Shared} {i : Nat}
    (T : Turn X.prog X.w X.K tg J fp it tn) (hst : tn i s.heap)
    (loop : Seg (model X.prog X.w) A R Y n s₀ (.compLoop (.GeneratorExp elt [⟨tg, iter, ifs, 0⟩] scope gpos) 0 (.ref it) .none cenv) ((model X.prog X.w).den (.compLoop (.GeneratorExp elt [⟨tg, iter, ifs, 0⟩] scope gpos) 0 (.ref it) .none cenv)) [] s) :
    Seg (model X.prog X.w) A R Y n s₀ (.compStart (.GeneratorExp elt [⟨tg, iter, ifs, 0⟩] scope gpos) 0 (.ref it) .none cenv) ((model X.prog X.w).den (.compStart (.GeneratorExp elt [⟨tg, iter, ifs, 0⟩] scope gpos) 0 (.ref it) .none cenv)) [] s := by
  show Seg _ A _ _ _ s₀ _ ((compStart (.GeneratorExp elt [⟨tg, iter, ifs, 0⟩] scope gpos) 0 (.ref it) .none cenv).onRaise (leaving cenv)) [] s
  unfold compStart
  rw [Sem.onRaise_eq_wrap]
  show Seg _ A _ _ _ s₀ _ ((ask >>= _).wrap _ _ _ _) [] s
  refine seg_bind_wrap (wpAny_askSetting ?_)
  split
  · exact seg_again rfl loop
  · first
      | exact seg_bind_wrap (wpAny_rule (seg_bind_wrap (wpAny_standAt (seg_bind_wrap (T.self _ i s _ _ hst (seg_again rfl loop))))))
      | (refine seg_bind_wrap (wpAny_rule ?_); show Seg _ A _ _ _ s₀ _ ((standAt iter.pos >>= _).wrap _ _ _ _) [] s; exact seg_bind_wrap (wpAny_standAt (seg_bind_wrap (T.self _ i s _ _ hst (seg_again rfl loop)))))

/-! ### the expression -/
def tGx (wi : TI) (g : TG) (tt : TT) (te : TE) (vs : List Nat) (P : Addr) : TGen := fun σ H cont => wi σ H fun J H1 => GxR.TabG H1 P ∧ ∀ H2, GxR.Tabbed P H1 H2 → ∃ W : Nat → Nat → List V → Hp → Prop, (∃ m, W 0 m [] H2) ∧ ∀ i m ys H, W i m ys H →
  (J.stop i H ∧ cont ys H) ∨ (J.go i H ∧ ∃ Nx : List V → Hp → Prop, (∀ ys' H', Nx ys' H' → ∃ m', m' < m ∧ W (i + 1) m' ys' H') ∧ ∀ x H', J.yld i H x H' → g x (wipe σ vs) H' fun σ2 H2 => wipe σ2 vs = wipe σ vs ∧ tt σ2 H2 fun b H3 =>
    if b = true then te σ2 H3 fun y H4 => ys.length < sizeLine ∧ Nx (ys ++ [y]) H4 else Nx ys H3)

theorem pgen_gx {c P : Addr} {k : Nat} {elt tg iter : Expr} {ifs : List Expr} {scope : Scope} {own : List (Str × Nat)} {gpos : Pos} {wi : TI} {g : TG} {tt : TT} {te : TE}
    (hr : Room (k + 1) X.A) (TB : GxR.TabB X.base X.mg c P) (hcode : X.env.code = .ref c) (hN : X.N.Nodup) (hi : PI X tg iter wi) (ok : GxOk X.N X.env.scope scope own)
    (hg : ∀ (A : Around) (s : Shared) (H : Hp) (C : Addr) (cl : List (Str × Addr)) (code : Value) (fp : List Addr) (pn : List (Addr × Obj)), Room k A → PG (gx X A s H (genEnv scope cl C code builtinsNs X.env) fp pn) tg g)
    (ht : ∀ (A : Around) (s : Shared) (H : Hp) (C : Addr) (cl : List (Str × Addr)) (code : Value) (fp : List Addr) (pn : List (Addr × Obj)), Room k A → PTs (gx X A s H (genEnv scope cl C code builtinsNs X.env) fp pn) ifs tt)
    (he : ∀ (A : Around) (s : Shared) (H : Hp) (C : Addr) (cl : List (Str × Addr)) (code : Value) (fp : List Addr) (pn : List (Addr × Obj)), Room k A → PE (gx X A s H (genEnv scope cl C code builtinsNs X.env) fp pn) elt te)
    (hs : ∀ v, genFold iter X.env v = pure v) : PGen X (k + 1) (.GeneratorExp elt [⟨tg, iter, ifs, 0⟩] scope gpos) (tGx wi g tt te (own.map (·.2)) P) (fun _ _ _ => False) := by
  refine ⟨fun pins s σ H cont I h => ?_⟩
  have hfree : ∀ y ∈ scope.names, y.2 = .free → ∃ c, X.env.cells.lookup y.1 = some c := fun y hy e => by
    rcases ok.free y hy e with k | k
    · exact I.ok.has _ (.inl k)
    · exact I.ok.has _ (.inr k)
  refine wpAny_GeneratorExp_make ok.co (closure_ok hfree) ok.cell ok.dot ok.kind (by have := hr.dp; omega) (thn (hi.run pins s σ H _ I h) fun xv s1 hx => thn hx fun itv s2 h2 => ?_) hs
  obtain ⟨it, fp, tn, J, H2, e, I2, T, st2, f2, hTab, q⟩ := h2
  subst e
  refine ⟨I2.nolimit, ?_⟩
  obtain ⟨ps, hP, htr⟩ := hTab
  have hPs : s2.heap.get? P = some { cls := .none, data := .fields ps } := I2.hok P _ hP
  have cd : PySem.W.CodeHd s2.heap c P := TB.code.keeps fun b u e => I2.bk b u e
  have nfpP : ∀ b ∈ fp, b ≠ P := fun b hb z => by
    have := (f2 b hb).1
    rw [z, hP] at this; cases this
  have cont' : ∀ (code : Value) (h3 : Heap) (tk : Nat) (ps' : Array Value), Heap.ExtBut P s2.heap h3 → s2.heap.objs.size ≤ h3.objs.size → h3.get? P = some { cls := .none, data := .fields ps' } → (∃ more, ps' = ps ++ more) → TriplesOk ps'.toList →
      wpAny (model X.prog X.w) X.A (builtinsFor X.env.globals X.env.builtins) (fun bi s₄ => ∀ h', h'.Ns s₄.heap.objs.size (fun y => if y = ".0" then some (.ref it) else none) → Heap.SameBut s₄.heap.objs.size (s₄.heap.push { cls := .type "frame", data := .dict #[] }) h' →
          (∃ H1 sc ex, Inv X pins σ H1 sc ∧ ExOk X pins ex ∧ GMade X.prog X.w (k + 1) X.stack H1 sc ex cont (fun _ _ _ => False) (.ref h'.objs.size) { s₄ with
            gens := s₄.gens.push (.fresh (.compStart (.GeneratorExp elt [⟨tg, iter, ifs, 0⟩] scope gpos) 0 (.ref it) .none (genEnv scope (cloFrom X.env.cells scope.names []) s₄.heap.objs.size code bi X.env))),
            toks := s₄.toks + 1 + 1 + 1,
            heap := h'.push { cls := .type "generator", data := .fields #[.int s₄.gens.size 0, .str "<genexpr>" (s₄.toks + 1), .str (X.env.qual ++ "<genexpr>") (s₄.toks + 1 + 1)] } })) X.xe { s2 with heap := h3, toks := tk } := by
    intro code h3 tk ps' hx hsz hP3 hmore ht3
    obtain ⟨bm, ob, e1, e2, e3, e4, e5, e6, e7, e8⟩ := TB.bm
    have keep3 : ∀ b u, b ≠ P → s2.heap.get? b = some u → h3.get? b = some u := fun b u hb e => hx b u hb e
    refine wpAny_builtinsFor (m := X.mg) (by rw [I2.ok.glob]; exact (I2.mod.glob.keeps I2.bk).extBut hx TB.gP) e1 e2 (keep3 _ _ e4 (I2.bk _ _ e5)) e6 e7 e8 ?_
    obtain ⟨more, em⟩ := hmore
    have I3 : Inv X pins σ (upd H2 P (.tbl (ps ++ more))) { s2 with heap := h3, gens := s2.gens, drawn := s2.drawn, toks := tk } := GxR.inv_tab I2 hP (fun b u hb e => hx b u hb e) (by rw [← em]; exact hP3) I2.bare
    generalize hs3 : ({ s2 with heap := h3, gens := s2.gens, drawn := s2.drawn, toks := tk } : Shared) = s3 at I3
    have e3h : s3.heap = h3 := by rw [← hs3]
    intro h' hn' hs'
    generalize hH3 : upd H2 P (.tbl (ps ++ more)) = H3 at I3
    have hTb : GxR.Tabbed P H2 H3 := by
      rw [← hH3]
      exact ⟨⟨ps ++ more, upd_same, by rw [← em]; exact ht3⟩, fun b hb => upd_ne hb⟩
    have f3 : ∀ b ∈ fp, FpOk X pins H3 b ∧ b < s3.heap.objs.size := fun b hb => by
      obtain ⟨o, e, _⟩ := T.obj _ _ st2 b hb
      refine ⟨⟨?_, (f2 b hb).2⟩, by rw [e3h]; exact Heap.lt_size (keep3 b o (nfpP b hb) e)⟩
      rw [hTb.2 b (nfpP b hb)]
      exact (f2 b hb).1
    have st3 : tn 0 s3.heap := T.keep _ _ _ st2 fun b hb o e => by rw [e3h]; exact keep3 b o (nfpP b hb) e
    obtain ⟨W, ⟨m0, w0⟩, turn⟩ := q H3 hTb
    have keep' : ∀ b o, s3.heap.get? b = some o → h'.get? b = some o := fun b o e => hs'.extBut b o (Nat.ne_of_lt (Heap.lt_size e)) (Heap.get?_push_of_some _ e)
    have hsz' : h'.objs.size = s3.heap.objs.size + 1 := by rw [hs'.1, Heap.size_push]
    refine ⟨H3, s3, fp, I3, fun b hb => ?_, ?_⟩
    · obtain ⟨z1, z2, z3, z4, z5, z6⟩ := (f3 b hb).1
      exact ⟨z4, z2, z5, z6⟩
    generalize hce : genEnv scope (cloFrom X.env.cells scope.names []) s3.heap.objs.size code builtinsNs X.env = cenv
    have cL : cenv.locals = s3.heap.objs.size := by rw [← hce]; rfl
    generalize hgo : ({ cls := .type "generator", data := .fields #[.int s3.gens.size 0, .str "<genexpr>" (s3.toks + 1), .str (X.env.qual ++ "<genexpr>") (s3.toks + 1 + 1)] } : Obj) = go
    have hgc : go.cls = .type "generator" ∧ go.data = .fields #[.int s3.gens.size 0, .str "<genexpr>" (s3.toks + 1), .str (X.env.qual ++ "<genexpr>") (s3.toks + 1 + 1)] ∧ go.slots = #[] := by
      rw [← hgo]; exact ⟨rfl, rfl, rfl⟩
    have hgen : ∀ h : Heap, h.get? h'.objs.size = some go → h.IsGen h'.objs.size s3.gens.size := fun h e => ⟨go, _, _, e, hgc.1, hgc.2.1, hgc.2.2⟩
    have hpushed : (h'.push go).get? h'.objs.size = some go := by
      rw [← hgo]; exact Heap.get?_push_size _ rfl
    refine ⟨h'.objs.size, s3.gens.size, _, rfl, by omega, ?_, hgen _ hpushed, Array.getElem?_push_size .., rfl, AllBare.push I3.bare rfl, I3.nolimit.keeps fun b o e => Heap.get?_push_of_some _ (keep' b o e), fun b o e => Heap.get?_push_of_some _ (keep' b o e), ?_⟩
    · show _ < (h'.push _).objs.size
      rw [Heap.size_push]; exact Nat.lt_succ_self _
    intro Aw S s4 hrw hfr hSx hk2 hSo hos hba
    have hSz : h'.objs.size < S := by
      have hSx' : (h'.push go).objs.size ≤ S := hSx
      rw [Heap.size_push] at hSx'
      exact hSx'
    have hS3 : s3.heap.objs.size < S := by omega
    obtain ⟨cS, heS⟩ := hSo
    have hea : s4.heap.get? h'.objs.size = some go := hk2 _ go hpushed
    have hgd : ∀ v, go.data ≠ .cell v := fun v z => by rw [hgc.2.1] at z; cases z
    have kp4 : ∀ b o, s3.heap.get? b = some o → s4.heap.get? b = some o := fun b o e => hk2 b o (Heap.get?_push_of_some _ (keep' b o e))
    have I5 := gx_start (A := Aw.deeper cenv) (code := code) (s' := s4) (m := fun y => if y = ".0" then some (.ref it) else none) (pn := [(h'.objs.size, go)]) I3 ok hN f3 hrw.hd (by rw [hce]; exact Around.frames_deeper hfr) kp4 hos hba
      (hn'.keeps fun b o e => hk2 b o (Heap.get?_push_of_some _ e)) (fun p hp => by
        rw [List.mem_singleton.mp hp]
        exact ⟨hea, by show s3.heap.objs.size < h'.objs.size; omega, hgd⟩)
    rw [hce] at I5
    have hSL : S ≠ cenv.locals := by rw [cL]; exact Nat.ne_of_gt hS3
    have hG : GI (gx X (Aw.deeper cenv) s3 H3 cenv fp [(h'.objs.size, go)]) S [] [] (wipe σ (own.map (·.2))) H3 s4 := by
      refine ⟨#[], cS, .nil, I5.pins_of fun p hp => ?_⟩
      rw [List.mem_singleton.mp hp]
      refine ⟨heS, I3.hok.fresh (Nat.le_of_lt hS3), hSL, fun z => ?_, fun v q => by cases q⟩
      rcases List.mem_cons.mp (I3.stkSub S z) with z | z
      · exact absurd (z ▸ I3.lt) (Nat.not_lt_of_ge (Nat.le_of_lt hS3))
      · exact I3.nofs (Nat.le_of_lt hS3) z
    have hSfp : S ∉ fp := fun hb => absurd (f3 S hb).2 (Nat.not_lt_of_ge (Nat.le_of_lt hS3))
    have hAp : Apart (gx X (Aw.deeper cenv) s3 H3 cenv fp [(h'.objs.size, go)]) S := by
      refine ⟨Nat.le_of_lt hS3, hSL, fun x c e z => ?_⟩
      obtain ⟨v, o, ho, _⟩ := I5.cell x c e
      have e : cenv.cells.lookup x = some c := e
      rw [← hce] at e
      rcases cloFrom_mem (PySem.mem_of_lookup e) with hm | ⟨h1, h2⟩
      · cases hm
      · obtain ⟨c2, hc2⟩ := hfree _ h1 rfl
        rw [hc2] at h2
        have h2 : c = c2 := h2
        obtain ⟨v2, o2, ho2, _⟩ := I3.cell x c2 hc2
        have := Heap.lt_size ho2
        rw [← h2, z] at this
        exact absurd this (Nat.not_lt_of_ge (Nat.le_of_lt hS3))
    have pinned : ∀ {ip : List (Addr × Obj)} {ys : List V} {s' : Shared} {σ' : L2.St} {H' : Hp}, GI (gx X (Aw.deeper cenv) s3 H3 cenv fp [(h'.objs.size, go)]) S ip ys σ' H' s' → s'.heap.IsGen h'.objs.size s3.gens.size := fun {ip ys s' σ' H'} hI => by
      obtain ⟨acc, cc, _, J⟩ := hI
      exact hgen _ (J.pin (h'.objs.size, go) (List.mem_append_left _ (List.mem_singleton.mpr rfl))).1
    have st4 : tn 0 s4.heap := T.keep _ _ _ st3 fun b _ o e => kp4 b o e
    have loop := seg_gx (A := Aw) (S := S) (elt := elt) (iter := iter) (scope := scope) (gpos := gpos) (vs := own.map (·.2)) (H0 := H3) (s0 := s3) (cenv := cenv) (pn := [(h'.objs.size, go)]) (W := W) (Q := cont) (σ := σ) T (by rw [← hce]; exact ok.co)
      (by rw [← hce]; exact hg _ _ _ _ _ _ _ _ (hrw.deeper _)) (by rw [← hce]; exact ht _ _ _ _ _ _ _ _ (hrw.deeper _)) (by rw [← hce]; exact he _ _ _ _ _ _ _ _ (hrw.deeper _))
      (fun p hp => by
        rw [List.mem_singleton.mp hp]
        exact ⟨Nat.ne_of_lt hSz, fun hb => absurd (f3 _ hb).2 (by show ¬ (h'.objs.size < s3.heap.objs.size); omega)⟩) hAp hSfp turn m0 sizeLine 0 [] H3 s4 s4 (Nat.add_zero _) w0 hG st4 (fun b hb => (f3 b hb).1.1)
    refine seg_imp (R := GEnd (gx X (Aw.deeper cenv) s3 H3 cenv fp [(h'.objs.size, go)]) S (wipe σ (own.map (·.2))) cont) (Y := GY (gx X (Aw.deeper cenv) s3 H3 cenv fp [(h'.objs.size, go)]) S) (fun n s₀ r s1' hR => ?_) (fun n s₀ v s1' kap kap' hkk hY => ?_) sizeLine (seg_gx0 T st4 loop)
    · obtain ⟨rfl, ys, H', hn, hI, hQ⟩ := hR
      obtain ⟨a1, _, _, acc, cc, ra, ea⟩ := hI.at
      obtain ⟨_, _, _, J⟩ := hI
      exact .inl ⟨.inr rfl, H', ys, acc, cc, J.os, J.bare, J.base, J.hok, a1, ea, ra, by omega, hQ⟩
    · obtain ⟨ys, xx, ip, σ', H', hn, h2, hI, h3⟩ := hY
      obtain ⟨_, _, _, acc, cc, ra, ea⟩ := hI.at
      have hg := pinned hI
      obtain ⟨_, _, _, J⟩ := hI
      have hsz : acc.size = ys.length := by
        have e1 := ra.length
        have e2 : acc.toList.length = acc.size := by simp
        omega
      exact ⟨J.os, J.bare, J.nolimit, hg, ⟨acc, cc, ea, by rw [hsz]; exact hn⟩, fun s' z => hkk _ _ (h3 s' z)⟩
  cases hf : codeAmong gpos ps.toList with
  | none =>
    refine wpAny_genexprCodeX hcode (cd.code hPs htr) (cd.tab hPs) hf fun c' h' tk hx hge hlt hco' _ htab' _ => ?_
    obtain ⟨o1, vs, f1, tf, fl, tg, inF, tx, tt, op, _, _, _, _, _, _, _, _, _, htr', _⟩ := hco'
    exact cont' _ h' tk _ hx (Nat.le_trans hge (Nat.le_of_lt hlt)) htab'.2 ⟨_, rfl⟩ htr'
  | some cv =>
    refine wpAny_genexprCode_hit hcode (cd.code hPs htr) hf ?_
    exact cont' cv s2.heap s2.toks ps (Heap.ExtBut.refl _ _) (Nat.le_refl _) hPs ⟨#[], by simp⟩ htr
end

/-! ### tuple(g) -/
section
variable {P : Program} {w : World} {outer : List Env} {H : Hp} {sc s : Shared} {ex : List Addr} {Q : List V → Hp → Prop} {A : Around} {k : Nat} {u : Value} {E : Value → Shared → Prop}
/-- what a run of the generator to its end leaves -/
def Drained (P : Program) (w : World) (outer : List Env) (H : Hp) (sc : Shared) (ex : List Addr) (Q : List V → Hp → Prop) (acc : Array Value) (s' : Shared) : Prop :=
  ∃ H' ys, Vals ys acc.toList ∧ ys.length ≤ sizeLine ∧ s'.os = sc.os ∧ AllBare s'.gens ∧ Un (frs outer) ex H H' sc.heap s'.heap ∧ HOk P w H' s'.heap ∧ Q ys H'
theorem collect_gx {Q' : List Value → Shared → Prop} (hr : Room (k + 2) A) (hfr : A.frames = some outer) (h : GMade P w k outer H sc ex Q (fun _ _ _ => False) u s)
    (hQ : ∀ acc s', Drained P w outer H sc ex Q acc s' → Q' acc.toList s') : wpAny (model P w) A (collect u) Q' E s := by
  obtain ⟨a, g, c, rfl, ha1, ha2, hg, hgs, hos, hb, hl, hkp, wake⟩ := h
  have hSa : s.heap.objs.size ≠ a := Nat.ne_of_gt ha2
  have hcl : cStatics < s.heap.objs.size := let ⟨_, hn, _⟩ := hl; hn.lt
  have hSc : s.heap.objs.size ≠ cStatics := Nat.ne_of_gt hcl
  unfold collect
  refine wpAny_bind (wpAny_runValue (codeAny_builtin F.entry_proto_collect ?_))
  rw [Around.under_plainId F.plain_proto_collect _]
  show wpAny _ A.in1 (newList [] >>= fun l => again (.builtin "list.__iadd__" ⟨[l, .ref a], []⟩)) _ _ s
  refine wpAny_bind (wpAny_newObj_type ?_)
  refine wpAny_pure ⟨plainId_quiet F.plain_list_iadd _, codeAny_builtin F.entry_list_iadd ?_⟩
  rw [Around.under_plainId F.plain_list_iadd _]
  show wpAny _ A.in1 (Builtin.List.listExtendWith (.ref s.heap.objs.size) (.ref a) (.ref s.heap.objs.size)) _ _ _
  unfold Builtin.List.listExtendWith
  have k1 : ∀ b o, s.heap.get? b = some o → (s.heap.push { cls := .type "list", data := .seq ([] : List Value).toArray }).get? b = some o := fun b o e => Heap.get?_push_of_some _ e
  have gty : ∀ {h : Heap}, (∀ b o, s.heap.get? b = some o → h.get? b = some o) → h.IsGen a g := fun {h} q => hg.keeps q
  refine wpAny_bind (wpAny_typeOf (Heap.IsGen.typeIs (s := { s with heap := _ }) (gty k1)) ?_)
  have h1 : Builtin.List.listSameRef (.ref s.heap.objs.size) (.ref a) = false := by simp [Builtin.List.listSameRef, hSa]
  have h2 : (Value.type "generator" == Value.type "list") = false := by decide
  have h3 : (Value.type "generator" == Value.type "tuple") = false := by decide
  simp only [h1, h2, h3, Bool.or_false, Bool.false_eq_true, if_false]
  refine wpAny_bind (wpAny_pyIter_gen (s := { s with heap := _ }) (gty k1) ?_)
  refine wpAny_bind (wpAny_holding ?_)
  unfold Builtin.List.listLengthHint
  refine wpAny_bind (wpAny_specialOf (Heap.IsGen.typeIs (s := { s with heap := _ }) (gty k1)) F.gen_no_len ?_)
  show wpAny _ A.in1 (specialOf (Value.ref a) (Str.ofString "__length_hint__") >>= _) _ _ _
  refine wpAny_bind (wpAny_specialOf (Heap.IsGen.typeIs (s := { s with heap := _ }) (gty k1)) F.gen_no_hint ?_)
  refine wpAny_pure ?_
  show wpAny _ A.in1 (rule "list.extend.makes-room" >>= fun _ => Builtin.List.listTouch (.ref s.heap.objs.size) >>= fun _ =>
    again (.builtin "list.extend.loop" ⟨[.ref s.heap.objs.size, .ref a, .ref s.heap.objs.size], []⟩)) _ _ _
  refine wpAny_bind (wpAny_rule ?_)
  have hS₁ : (s.heap.push { cls := .type "list", data := .seq ([] : List Value).toArray }).get? s.heap.objs.size = some { cls := .type "list", data := .seq ([] : List Value).toArray } := Heap.get?_push_size _ rfl
  refine wpAny_bind ?_
  show wpAny _ A.in1 (updateSeq s.heap.objs.size (·.push .none) >>= fun _ => updateSeq s.heap.objs.size (·.pop)) _ _ _
  refine wpAny_bind (wpAny_updateSeq hS₁ rfl ?_)
  have hS₂ := Heap.get?_update_self (Obj.mapSeq (·.push Value.none)) hS₁ rfl
  refine wpAny_updateSeq hS₂ rfl ?_
  have hS₃ := Heap.get?_update_self (Obj.mapSeq (·.pop)) hS₂ rfl
  have up : ∀ (h : Heap) (f : Obj → Obj), (∀ b o, s.heap.get? b = some o → h.get? b = some o) → ∀ b o, s.heap.get? b = some o → (h.update s.heap.objs.size f).get? b = some o := fun h f q b o e =>
    (Heap.get?_update_other _ _ (Ne.symm (Nat.ne_of_lt (Heap.lt_size e)))).trans (q b o e)
  have k4 := up _ (Obj.mapSeq (·.pop)) (up _ (Obj.mapSeq (·.push Value.none)) k1)
  refine wpAny_pure ⟨plainId_quiet F.plain_extend_loop _, ?_⟩
  refine drain (P := P) (w := w) (outer := outer) (H := H) (sc := sc) (ex := ex) (Q := Q) (EX := fun _ _ _ => False) (A := A) (g := g) hr.hd (by have := hr.dp; omega) hSa hSc
    (fun s' acc c H' ys q1 q2 q3 q4 q5 q6 q7 q8 q9 => ?_) (fun e s' hc => ?_) sizeLine _ (gty k4) (hl.keeps k4) ⟨_, hgs, rfl, ?_⟩
  · show wpAny _ A (load s.heap.objs.size >>= _) _ _ s'
    refine wpAny_bind (wpAny_load q1 ?_)
    exact wpAny_pure (hQ acc s' ⟨H', ys, q2, q3, q4, q5, q6, q7, q9⟩)
  · obtain ⟨_, _, _, _, _, _, _, _, _, _, _, _, hf⟩ := hc
    exact hf.elim
  · refine wake _ _ _ ⟨hr.hd, ?_, ?_⟩ hfr (Nat.le_refl _) k4 ⟨_, hS₃⟩ hos (allBare_setGen (s := { s with heap := _ }) hb rfl)
    · have := hr.dp
      show A.depth + 3 * k + 5 < _
      omega
    · have := hr.un
      show A.units + 1 + 1 + 16 * k + 200 < _
      omega

theorem call_tuple_gx {Q' : Value → Shared → Prop} (hr : Room (k + 3) A) (hfr : A.frames = some outer) (h : GMade P w k outer H sc ex Q (fun _ _ _ => False) u s)
    (hQ : ∀ acc s', Drained P w outer H sc ex Q acc s' → Q' (.ref s'.heap.objs.size) { s' with heap := s'.heap.push { cls := .type "tuple", data := .seq acc } }) :
    wpAny (model P w) A (call (.type "tuple") [u]) Q' E s := by
  obtain ⟨a, g, c, hu, ha1, ha2, hg, r⟩ := id h
  have hTI : s.TypeIs u "generator" := by rw [hu]; exact hg.typeIs
  have hsub := sub_tuple_self
  have hinit := init_tuple_lookup
  have hmh := madeHere_tuple
  have r2 : Room (k + 2) A.in1.in1 := ⟨hr.hd, by have := hr.dp; show A.depth + 3 * (k + 2) + 5 < _; omega, by have := hr.un; show A.units + 1 + 1 + 16 * (k + 2) + 200 < _; omega⟩
  refine callType_codes (Q₁ := fun obj s₁ => s₁.TypeIs obj "tuple" ∧ Q' obj s₁) F.called_tuple (F.typeCall_tuple_1 _) F.entry_object_init ?_ fun obj s₁ h₁ =>
    ⟨h₁.1, F.args_object_init_2 obj _, object_init_meets F.called_tuple.init.lookup F.called_tuple.made (by decide) P w A.in1 _ s₁ ⟨h₁.1, rfl, h₁.2⟩⟩
  refine codeAny_of_tree ?_
  show wpAny _ A.in1.in1 (do checkBuiltinCall "tuple.__new__" ⟨[.type "tuple", u], []⟩; again (.builtin "tuple.__new__" ⟨[.type "tuple", u], []⟩)) _ _ s
  refine wpAny_bind (wpAny_of_eq (F.newCall_tuple_1 _) (wpAny_pure ⟨plainId_quiet F.plain_tuple_new _, codeAny_builtin F.entry_tuple_new ?_⟩))
  rw [Around.under_plainId F.plain_tuple_new _]
  have col := fun (Q'' : List Value → Shared → Prop) (E' : Value → Shared → Prop) (hq : ∀ acc s', Drained P w outer H sc ex Q acc s' → Q'' acc.toList s') => collect_gx (A := A.in1.in1) (Q' := Q'') (E := E') r2 hfr h hq
  clear r h
  subst hu
  wp_walk using wpAny_typeOf hTI, col
  intro acc s' hd
  show wpAny _ _ (Builtin.Tuple.tupleExact acc.toList.toArray >>= fun v => ret v) _ _ _
  unfold Builtin.Tuple.tupleExact
  have hz : acc.size ≤ sizeLine := by
    obtain ⟨H', ys, q1, q2, _⟩ := hd
    have e1 := q1.length
    have e2 : acc.toList.length = acc.size := by simp
    omega
  refine wpAny_bind (wpAny_newObj_type ?_ (by show acc.toList.toArray.size ≤ sizeLine; simp only [Array.toArray_toList]; exact hz))
  refine wpAny_pure ?_
  have e : acc.toList.toArray = acc := by simp
  rw [e]
  exact ⟨⟨_, Heap.get?_push_size _ rfl, rfl⟩, hQ acc s' hd⟩
end

section
variable {X : Cx}
def tTupleG (tg : TGen) : TE := fun σ H Q => tg σ H fun out H2 => ∀ p, H2 p = none → Q (.ref p) (upd H2 p (.tup out))
/-- tuple(g) -/
theorem pe_tupleG {k : Nat} {e : Expr} {tg : TGen} {p pos : Pos} (h : PGen X k e tg (fun _ _ _ => False)) (hr : Room (k + 3) X.A) (hg : Gl X "tuple") (hmg : X.mg "tuple" = none)
    (he : starEach [e] X.env = (false, eval e X.env) :: starEach [] X.env := by rfl) : PE X (.Call (.Name "tuple" p) [e] [] pos) (tTupleG tg) := by
  refine ⟨fun pins s σ H Q I hq => ?_⟩
  refine wpAny_Call_Name_kw (ld_blt I hg hmg (u := .type "tuple") (by rfl) ?_ (by decide) (by decide))
  refine PyProof.Rows.callWith_type1 ?_ he rfl
  rw [he]
  show wpAny _ _ (spliced ((false, eval e X.env) :: backTo pos (starEach [] X.env))) _ _ s
  refine Calls.spliced_cons (thn (h.run pins s σ H _ I hq) fun u s1 ⟨H1, sc, ex, I1, hex, hG⟩ => ?_)
  refine Calls.spliced_nil ?_
  refine call_tuple_gx hr I1.ok.frames hG fun acc s' hd => ?_
  obtain ⟨H', ys, q1, q2, q3, q4, q5, q6, q7⟩ := hd
  have I2 : Inv X pins σ H' s' := I1.call' (ch := ex) q3 q5 q6 q4 hex
  refine ⟨.ref s'.heap.objs.size, _, I2.laid (t' := s'.toks) (fun b o e => Heap.get?_push_of_some _ e) (Nat.le_refl _) (o := .tup ys) ⟨q2, acc.toList, q1, ?_⟩, rfl, q7 _ (I2.hok.fresh (Nat.le_refl _))⟩
  exact ⟨_, Heap.get?_push_size _ rfl, rfl, 0, by simp⟩
end
/-- a genexp's turns over a walk -/
theorem gx_it {J : It} {n : Nat} {G : Hp → Prop} {Y : Nat → Hp → V → Hp → Prop} (w : Walk J n G Y) {g : TG} {tt : TT} {te : TE} {vs : List Nat} {σ : L2.St} {H1 : Hp} {cont : List V → Hp → Prop} (Pv : Nat → List V → Hp → Prop) (h0 : Pv 0 [] H1) (hG : ∀ i ys H, i ≤ n → Pv i ys H → G H)
    (hs : ∀ i x ys H H', i < n → Pv i ys H → Y i H x H' → g x (wipe σ vs) H' fun σ2 H2 => wipe σ2 vs = wipe σ vs ∧ tt σ2 H2 fun b H3 =>
      if b = true then te σ2 H3 fun y H4 => ys.length < sizeLine ∧ Pv (i + 1) (ys ++ [y]) H4 else Pv (i + 1) ys H3) (hd : ∀ ys H, Pv n ys H → cont ys H) :
    ∃ W : Nat → Nat → List V → Hp → Prop, (∃ m, W 0 m [] H1) ∧ ∀ i m ys H, W i m ys H →
      (J.stop i H ∧ cont ys H) ∨ (J.go i H ∧ ∃ Nx : List V → Hp → Prop, (∀ ys' H', Nx ys' H' → ∃ m', m' < m ∧ W (i + 1) m' ys' H') ∧ ∀ x H', J.yld i H x H' → g x (wipe σ vs) H' fun σ2 H2 => wipe σ2 vs = wipe σ vs ∧ tt σ2 H2 fun b H3 =>
        if b = true then te σ2 H3 fun y H4 => ys.length < sizeLine ∧ Nx (ys ++ [y]) H4 else Nx ys H3) := by
  refine ⟨fun i m ys H => m = n - i ∧ i ≤ n ∧ Pv i ys H, ⟨n, by simp, Nat.zero_le _, h0⟩, ?_⟩
  rintro i m ys H ⟨rfl, hi, p⟩
  have q := hG i ys H hi p
  by_cases hlt : i < n
  · refine .inr ⟨w.goes i H hlt q, Pv (i + 1), fun ys' H' p' => ⟨n - (i + 1), by omega, rfl, hlt, p'⟩, fun x H' y => hs i x ys H H' hlt p (w.yields i H x H' hlt q y)⟩
  · have e : i = n := by omega
    subst e
    exact .inl ⟨w.stops H q, hd ys H p⟩
end Gx


/-! ledgers by counting: what stands in one stands in another, in any order -/
namespace Sd
open PySem L2
open Classical in
noncomputable def one1 (a x : Addr × HO) : Nat := if x = a then 1 else 0
noncomputable def cnt (a : Addr × HO) : Lg → Nat
  | [] => 0
  | x :: r => one1 a x + cnt a r
theorem cnt_nil {a : Addr × HO} : cnt a [] = 0 := rfl
theorem cnt_cons {a x : Addr × HO} {r : Lg} : cnt a (x :: r) = one1 a x + cnt a r := rfl
theorem cnt_app {a : Addr × HO} : ∀ {A B : Lg}, cnt a (A ++ B) = cnt a A + cnt a B
  | [], B => by rw [List.nil_append, cnt_nil, Nat.zero_add]
  | x :: r, B => by rw [List.cons_append, cnt_cons, cnt_cons, cnt_app]; omega
theorem cnt_pos {a : Addr × HO} : ∀ {A : Lg}, 0 < cnt a A → a ∈ A
  | [], h => by rw [cnt_nil] at h; omega
  | x :: r, h => by
    by_cases e : x = a
    · rw [e]; exact List.mem_cons_self
    · rw [cnt_cons, one1, if_neg e, Nat.zero_add] at h
      exact List.mem_cons_of_mem _ (cnt_pos h)
theorem Led.le_aux {H : Hp} : ∀ (B C L : Lg), Led H (C ++ L) → (∀ a, cnt a B ≤ cnt a L) → Led H (C ++ B)
  | [], C, L, h, _ => by rw [List.append_nil]; exact h.left
  | x :: r, C, L, h, e => by
    have h1 := e x
    have o1 : one1 x x = 1 := by unfold one1; rw [if_pos rfl]
    rw [cnt_cons, o1] at h1
    obtain ⟨A, B, rfl⟩ := List.append_of_mem (cnt_pos (show 0 < cnt x L by omega))
    have h2 : Led H ((C ++ [x]) ++ (A ++ B)) := by
      refine h.perm ?_
      rw [List.append_assoc]
      exact List.perm_middle.append_left C
    have := Led.le_aux r (C ++ [x]) (A ++ B) h2 fun a => by
      have := e a
      rw [cnt_cons, cnt_app, cnt_cons] at this
      rw [cnt_app]; omega
    rw [List.append_assoc] at this
    exact this
theorem Led.le {H : Hp} {B L : Lg} (h : Led H L) (e : ∀ a, cnt a B ≤ cnt a L) : Led H B := Led.le_aux B [] L h e
section
variable {K : PySem.W.Frag} {H : Hp} {L : Lg} {l : Addr} {xs : List V}
theorem k_lenL2 {P : List V → Prop} (hL : Led H L) (e : At L l (.lst xs)) (q : P xs) : ∃ p ys, [V.ref l] = [.ref p] ∧ (SqL K H p ys ∨ SqT K H p ys) ∧ P ys := ⟨_, _, rfl, .inl (.of (hL.at e)), q⟩
theorem k_lenT2 {P : List V → Prop} (hL : Led H L) (e : At L l (.tup xs)) (q : P xs) : ∃ p ys, [V.ref l] = [.ref p] ∧ (SqL K H p ys ∨ SqT K H p ys) ∧ P ys := ⟨_, _, rfl, .inr (.of (hL.at e)), q⟩
end
/-! loops with the ends told by what they take -/
/-- the ends of a turn: what stands behind it, a return, a break -/
structure EndsA (N : L2.St → Hp → Prop) (D D' : Ends) : Prop where
  nx : ∀ σ H, N σ H → D'.nx σ H
  ct : ∀ σ H, N σ H → D'.ct σ H
  bk : ∀ σ H, D.nx σ H → D'.bk σ H
  rt : ∀ v H, D.rt v H → D'.rt v H
section
variable {K : PySem.W.Frag} {a : Addr} {xs : List V} {g : TG} {tb : TS} {D : Ends} {σ : L2.St} {H : Hp}
theorem for_listA (Pv : Nat → L2.St → Hp → Prop) (h0 : Pv 0 σ H) (hl : ∀ i σ H, i ≤ xs.length → Pv i σ H → SqL K H a xs)
    (hs : ∀ i x σ H (D' : Ends), xs[i]? = some x → Pv i σ H → EndsA (Pv (i + 1)) D D' → g x σ H fun σ2 H2 => tb D' σ2 H2) (hd : ∀ σ H, Pv xs.length σ H → D.nx σ H) :
    ∃ W : Nat → Nat → L2.St → Hp → Prop, (∃ m, W 0 m σ H) ∧ ∀ i m σ H, W i m σ H →
      ((Itl K a).stop i H ∧ D.nx σ H) ∨ ((Itl K a).go i H ∧ ∃ N : L2.St → Hp → Prop, (∀ σ' H', N σ' H' → ∃ m', m' < m ∧ W (i + 1) m' σ' H') ∧ ∀ x H', (Itl K a).yld i H x H' → g x σ H' fun σ2 H2 => tb { D with nx := N, ct := N, bk := D.nx } σ2 H2) :=
  for_list Pv h0 hl (fun i x σ H hi h => hs i x σ H _ hi h ⟨fun _ _ q => q, fun _ _ q => q, fun _ _ q => q, fun _ _ q => q⟩) hd
theorem for_tupA (Pv : Nat → L2.St → Hp → Prop) (h0 : Pv 0 σ H) (hl : ∀ i σ H, i ≤ xs.length → Pv i σ H → SqT K H a xs)
    (hs : ∀ i x σ H (D' : Ends), xs[i]? = some x → Pv i σ H → EndsA (Pv (i + 1)) D D' → g x σ H fun σ2 H2 => tb D' σ2 H2) (hd : ∀ σ H, Pv xs.length σ H → D.nx σ H) :
    ∃ W : Nat → Nat → L2.St → Hp → Prop, (∃ m, W 0 m σ H) ∧ ∀ i m σ H, W i m σ H →
      ((Itt K a).stop i H ∧ D.nx σ H) ∨ ((Itt K a).go i H ∧ ∃ N : L2.St → Hp → Prop, (∀ σ' H', N σ' H' → ∃ m', m' < m ∧ W (i + 1) m' σ' H') ∧ ∀ x H', (Itt K a).yld i H x H' → g x σ H' fun σ2 H2 => tb { D with nx := N, ct := N, bk := D.nx } σ2 H2) :=
  for_tup Pv h0 hl (fun i x σ H hi h => hs i x σ H _ hi h ⟨fun _ _ q => q, fun _ _ q => q, fun _ _ q => q, fun _ _ q => q⟩) hd
theorem for_rangeA {lo : Int} {n : Nat} (Pv : Nat → L2.St → Hp → Prop) (h0 : Pv 0 σ H)
    (hs : ∀ i σ H (D' : Ends), i < n → Pv i σ H → EndsA (Pv (i + 1)) D D' → g (.int (lo + i)) σ H fun σ2 H2 => tb D' σ2 H2) (hd : ∀ σ H, Pv n σ H → D.nx σ H) :
    ∃ W : Nat → Nat → L2.St → Hp → Prop, (∃ m, W 0 m σ H) ∧ ∀ i m σ H, W i m σ H →
      ((Itr lo n).stop i H ∧ D.nx σ H) ∨ ((Itr lo n).go i H ∧ ∃ N : L2.St → Hp → Prop, (∀ σ' H', N σ' H' → ∃ m', m' < m ∧ W (i + 1) m' σ' H') ∧ ∀ x H', (Itr lo n).yld i H x H' → g x σ H' fun σ2 H2 => tb { D with nx := N, ct := N, bk := D.nx } σ2 H2) :=
  for_range Pv h0 (fun i σ H hi h => hs i σ H _ hi h ⟨fun _ _ q => q, fun _ _ q => q, fun _ _ q => q, fun _ _ q => q⟩) hd
theorem for_itA {J : It} {n : Nat} {G : Hp → Prop} {Y : Nat → Hp → V → Hp → Prop} (w : Walk J n G Y) (Pv : Nat → L2.St → Hp → Prop) (h0 : Pv 0 σ H) (hG : ∀ i σ H, i ≤ n → Pv i σ H → G H)
    (hs : ∀ i x σ H H' (D' : Ends), i < n → Pv i σ H → Y i H x H' → EndsA (Pv (i + 1)) D D' → g x σ H' fun σ2 H2 => tb D' σ2 H2) (hd : ∀ σ H, Pv n σ H → D.nx σ H) :
    ∃ W : Nat → Nat → L2.St → Hp → Prop, (∃ m, W 0 m σ H) ∧ ∀ i m σ H, W i m σ H →
      (J.stop i H ∧ D.nx σ H) ∨ (J.go i H ∧ ∃ N : L2.St → Hp → Prop, (∀ σ' H', N σ' H' → ∃ m', m' < m ∧ W (i + 1) m' σ' H') ∧ ∀ x H', J.yld i H x H' → g x σ H' fun σ2 H2 => tb { D with nx := N, ct := N, bk := D.nx } σ2 H2) :=
  for_it w Pv h0 hG (fun i x σ H H' hi h hy => hs i x σ H H' _ hi h hy ⟨fun _ _ q => q, fun _ _ q => q, fun _ _ q => q, fun _ _ q => q⟩) hd
/-- the ends of what is done while d is locked -/
structure EndsL (d : Addr) (od : Obj) (u : HO) (D D' : Ends) : Prop where
  nx : ∀ σ H, H d = some (.frz od u) → D.nx σ (L2.upd H d u) → D'.nx σ H
  rt : ∀ v H, H d = some (.frz od u) → D.rt v (L2.upd H d u) → D'.rt v H
  bk : ∀ σ H, H d = some (.frz od u) → D.bk σ (L2.upd H d u) → D'.bk σ H
  ct : ∀ σ H, H d = some (.frz od u) → D.ct σ (L2.upd H d u) → D'.ct σ H
theorem lockA {t : TS} {d : Addr} {u : HO} (hd : H d = some u) (mu : Mut (some u)) (h : ∀ od (D' : Ends), EndsL d od u D D' → t D' σ (L2.upd H d (.frz od u))) : tLock t D σ H :=
  ⟨d, u, hd, mu, fun od => h od _ ⟨fun _ _ a b => ⟨a, b⟩, fun _ _ a b => ⟨a, b⟩, fun _ _ a b => ⟨a, b⟩, fun _ _ a b => ⟨a, b⟩⟩⟩
end
end Sd


/-! sorted lists of texts: one order only -/
namespace Sd
open PySem PySem.Spec PyProof.Rows L2
theorem str_ext {x y : Str} (h : x.cps.toList = y.cps.toList) : x = y := by
  cases x; cases y
  simp only [Str.mk.injEq]
  exact Array.toList_inj.mp h
theorem rising_pw : ∀ {l : List Str} {p : Str}, risingS p l = true → ((p :: l).map (·.cps.toList)).Pairwise (· ≤ ·)
  | [], p, _ => by simp
  | x :: r, p, h => by
    have h : (!ltCps x.cps.toList p.cps.toList && risingS x r) = true := h
    rw [Bool.and_eq_true] at h
    have ih := rising_pw h.2
    have h1 : p.cps.toList ≤ x.cps.toList := by
      have := h.1
      rw [ltCps_eq] at this
      simpa using this
    rw [List.map_cons]
    refine List.pairwise_cons.mpr ⟨fun y hy => ?_, ih⟩
    rw [List.map_cons] at hy
    rcases List.mem_cons.mp hy with e | hy
    · rw [e]; exact h1
    · exact Std.le_trans h1 ((List.pairwise_cons.mp ih).1 y hy)
theorem sorted_pw {l : List Str} (h : sortedS l = true) : (l.map (·.cps.toList)).Pairwise (· ≤ ·) := by
  cases l with
  | nil => simp
  | cons x r => exact rising_pw h
theorem sortedS_uniq {xs ys : List Str} (p : ys.Perm xs) (h1 : sortedS ys = true) (h2 : sortedS xs = true) : ys = xs := by
  have e : ys.map (·.cps.toList) = xs.map (·.cps.toList) := List.Perm.eq_of_pairwise (le := (· ≤ ·)) (fun a b _ _ h3 h4 => Std.le_antisymm h3 h4) (sorted_pw h1) (sorted_pw h2) (p.map _)
  exact List.map_inj_right (fun _ _ h => str_ext h) |>.mp e
end Sd


/-! rules within a comprehension (.blk) or a generator expression (.gx), told with the outer K; words for texts -/
namespace Sd
open PySem PySem.Spec PyProof.Rows L2
section
variable {X : Cx} {s : Shared} {H : Hp} {scope : Scope} {env : Env} {fp : List Addr} {e : Expr} {f : Str} {pos : Pos} {ta : TE}
theorem pe_fldB (he : PE (X.blk s H scope env fp) e ta) (hb : attributeBase e f env (eval e env) = eval e env) : PE (X.blk s H scope env fp) (.Attribute e f pos) (tFld X.K ta f) := pe_fld he hb
theorem ix_tupB : IxR (X.blk s H scope env fp) (rIxT X.K) := ix_tup
theorem ix_listB : IxR (X.blk s H scope env fp) (rIxL X.K) := ix_list
theorem pi_listB {tg e : Expr} {te : TE} (he : PE (X.blk s H scope env fp) e te) : PI (X.blk s H scope env fp) tg e (iList X.K te) := pi_list he
theorem call_dictPB (hcalm : X.calm = true) : CallR (X.blk s H scope env fp) (.type "dict") (fun xs H Q => ∃ (a : Addr) (ps : List Addr) (kvs : List (Key × V)), xs = [.ref a] ∧ SqL X.K H a (ps.map V.ref) ∧ Paired (fun p kv => SqT X.K H p [kV kv.1, kv.2]) ps kvs ∧ ∀ p, H p = none → Q (.ref p) (upd H p (.dK (mergeK [] kvs)))) := call_dictP hcalm
theorem op_in_seqB : OpR (X.blk s H scope env fp) (compareOp .In) (rIn X.K false) := op_in_seq
theorem op_notIn_seqB : OpR (X.blk s H scope env fp) (compareOp .NotIn) (rIn X.K true) := op_notIn_seq
theorem op_eqPB (hu : (X.blk s H scope env fp).A.units + 64 < cLine) : OpR (X.blk s H scope env fp) (compareOp .Eq) (rEqP X.K) := op_eqP hu
theorem op_nePB (hu : (X.blk s H scope env fp).A.units + 64 < cLine) : OpR (X.blk s H scope env fp) (compareOp .NotEq) (rNeP X.K) := op_neP hu
end
section
variable {X : Cx} {A : Around} {s : Shared} {H : Hp} {env : Env} {fp : List Addr} {pn : List (Addr × Obj)} {e : Expr} {f : Str} {pos : Pos} {ta : TE}
theorem pe_fldG (he : PE (Gx.gx X A s H env fp pn) e ta) (hb : attributeBase e f env (eval e env) = eval e env) : PE (Gx.gx X A s H env fp pn) (.Attribute e f pos) (tFld X.K ta f) := pe_fld he hb
theorem ix_tupG : IxR (Gx.gx X A s H env fp pn) (rIxT X.K) := ix_tup
theorem ix_listG : IxR (Gx.gx X A s H env fp pn) (rIxL X.K) := ix_list
theorem op_in_seqG : OpR (Gx.gx X A s H env fp pn) (compareOp .In) (rIn X.K false) := op_in_seq
theorem op_notIn_seqG : OpR (Gx.gx X A s H env fp pn) (compareOp .NotIn) (rIn X.K true) := op_notIn_seq
end
/-! texts in lists -/
theorem in_strs {x : Str} {ns : List Str} : inV (.str x) (ns.map .str) = decide (x ∈ ns) := by
  unfold inV
  induction ns with
  | nil => simp
  | cons y r ih =>
    rw [List.map_cons, List.any_cons, ih]
    show (y == x || _) = _
    by_cases e : y = x
    · subst e; simp
    · simp [e, Ne.symm e]
theorem flat_strs {ns : List Str} : (ns.map V.str).all flatV = true := by
  rw [List.all_map, List.all_eq_true]; exact fun _ _ => rfl
theorem eqvAll_strs : ∀ (a b : List Str), PyData.eqvAll (a.map PyData.str) (b.map PyData.str) = decide (a = b)
  | [], [] => by simp [PyData.eqvAll]
  | [], _ :: _ => by simp [PyData.eqvAll]
  | _ :: _, [] => by simp [PyData.eqvAll]
  | x :: r, y :: s => by
    rw [List.map_cons, List.map_cons, PyData.eqvAll, eqvAll_strs r s]
    by_cases e : x = y <;> simp [PyData.eqv, e]
theorem eqv_strs {a b : List Str} : PyData.eqv (.list (a.map PyData.str)) (.list (b.map PyData.str)) = decide (a = b) := by
  rw [PyData.eqv]; exact eqvAll_strs a b
section
variable {K : PySem.W.Frag} {H : Hp} {L : Lg} {p q : Addr} {a b : List Str} {Q : VK} {xs ys : List V}
theorem k_neStrs (hL : Led H L) (h1 : At L p (.lst xs)) (h2 : At L q (.lst ys)) (e1 : xs = a.map V.str) (e2 : ys = b.map V.str) (k : Q (.bl (!decide (a = b))) H) : rNeP K (.ref p) (.ref q) H Q :=
  ⟨_, _, dp_lst (e1 ▸ hL.at h1) dp_strs, dp_lst (e2 ▸ hL.at h2) dp_strs, shal_strs, shal_strs, by rw [eqv_strs]; exact k⟩
theorem k_eqStrs (hL : Led H L) (h1 : At L p (.lst xs)) (h2 : At L q (.lst ys)) (e1 : xs = a.map V.str) (e2 : ys = b.map V.str) (k : Q (.bl (decide (a = b))) H) : rEqP K (.ref p) (.ref q) H Q :=
  ⟨_, _, dp_lst (e1 ▸ hL.at h1) dp_strs, dp_lst (e2 ▸ hL.at h2) dp_strs, shal_strs, shal_strs, by rw [eqv_strs]; exact k⟩
theorem k_inS {x : Str} {ns : List Str} (hL : Led H L) (h1 : At L p (.lst (ns.map V.str))) (k : Q (.bl (decide (x ∈ ns))) H) : rIn K false (.str x) (.ref p) H Q :=
  ⟨_, _, rfl, .inl (.of (hL.at h1)), rfl, flat_strs, by rw [in_strs]; exact k⟩
theorem k_ninS {x : Str} {ns : List Str} (hL : Led H L) (h1 : At L p (.lst (ns.map V.str))) (k : Q (.bl (!decide (x ∈ ns))) H) : rIn K true (.str x) (.ref p) H Q :=
  ⟨_, _, rfl, .inl (.of (hL.at h1)), rfl, flat_strs, by rw [in_strs]; exact k⟩
end
theorem mergeK_dz {names : List Str} {vals : List V} (h : names.Nodup) (hl : names.length = vals.length) : mergeK [] (dz names vals) = dz names vals := by
  rw [mergeK_nd]
  · rfl
  · have : (dz names vals).map (·.1) = names.map (Sum.inr : Str → Key) := by
      unfold dz
      rw [← List.unzip_fst, List.unzip_zip (by simpa using hl)]
    rw [List.nil_append, this]
    exact List.pairwise_map.mpr (h.imp fun ne q => ne (Sum.inr.inj q))
theorem paired_map {α β γ : Type} {F : β → γ → Prop} {f : α → β} {g : α → γ} : ∀ {l : List α}, (∀ x ∈ l, F (f x) (g x)) → Paired F (l.map f) (l.map g)
  | [], _ => .nil
  | x :: r, h => .cons (h x List.mem_cons_self) (paired_map fun y hy => h y (.tail _ hy))
end Sd


/-! dicts with text keys, told by lists of (name, what) -/
namespace Sd
open PySem L2
def aget {α : Type} : List (Str × α) → Str → Option α
  | [], _ => none
  | x :: r, k => if x.1 = k then some x.2 else aget r k
def aput {α : Type} : List (Str × α) → Str → α → List (Str × α)
  | [], k, v => [(k, v)]
  | x :: r, k, v => if x.1 = k then (k, v) :: r else x :: aput r k v
def adel {α : Type} : List (Str × α) → Str → List (Str × α)
  | [], _ => []
  | x :: r, k => if x.1 = k then r else x :: adel r k
theorem aget_none {α : Type} {k : Str} : ∀ {l : List (Str × α)}, k ∉ l.map (·.1) → aget l k = none
  | [], _ => rfl
  | x :: r, h => by
    have h1 : ¬ x.1 = k := fun e => h (by rw [← e]; exact List.mem_cons_self)
    rw [aget, if_neg h1]
    exact aget_none fun m => h (List.mem_cons_of_mem _ m)
theorem aget_some {α : Type} {k : Str} {v : α} : ∀ {l : List (Str × α)}, aget l k = some v → k ∈ l.map (·.1)
  | x :: r, h => by
    by_cases e : x.1 = k
    · rw [← e]; exact List.mem_cons_self
    · rw [aget, if_neg e] at h
      exact List.mem_cons_of_mem _ (aget_some h)
theorem aget_in {α : Type} {k : Str} : ∀ {l : List (Str × α)}, k ∈ l.map (·.1) → ∃ v, aget l k = some v
  | x :: r, h => by
    by_cases e : x.1 = k
    · exact ⟨x.2, by rw [aget, if_pos e]⟩
    · rw [aget, if_neg e]
      refine aget_in ?_
      rcases List.mem_cons.mp h with z | z
      · exact absurd z.symm e
      · exact z
theorem aput_names_in {α : Type} {k : Str} {v : α} : ∀ {l : List (Str × α)}, k ∈ l.map (·.1) → (aput l k v).map (·.1) = l.map (·.1)
  | x :: r, h => by
    by_cases e : x.1 = k
    · rw [aput, if_pos e]; simp [e]
    · rw [aput, if_neg e]
      rw [List.map_cons, List.map_cons, aput_names_in]
      rcases List.mem_cons.mp h with z | z
      · exact absurd z.symm e
      · exact z
theorem aput_names_out {α : Type} {k : Str} {v : α} : ∀ {l : List (Str × α)}, k ∉ l.map (·.1) → aput l k v = l ++ [(k, v)]
  | [], _ => rfl
  | x :: r, h => by
    have h1 : ¬ x.1 = k := fun e => h (by rw [← e]; exact List.mem_cons_self)
    rw [aput, if_neg h1, aput_names_out fun m => h (List.mem_cons_of_mem _ m)]
    rfl
theorem aget_put {α : Type} {k j : Str} {v : α} : ∀ {l : List (Str × α)}, aget (aput l k v) j = if k = j then some v else aget l j
  | [] => by
    show aget [(k, v)] j = _
    unfold aget
    rfl
  | x :: r => by
    by_cases e : x.1 = k
    · rw [aput, if_pos e]
      by_cases e2 : k = j
      · rw [aget, if_pos e2, if_pos e2]
      · rw [aget, if_neg e2, if_neg e2]
        rw [aget, if_neg (by rw [e]; exact e2)]
    · rw [aput, if_neg e]
      by_cases e2 : x.1 = j
      · rw [aget, if_pos e2, aget, if_pos e2, if_neg (fun z => e (e2.trans z.symm))]
      · rw [aget, if_neg e2, aget_put, aget, if_neg e2]
theorem aget_del {α : Type} {k j : Str} : ∀ {l : List (Str × α)}, (l.map (·.1)).Nodup → aget (adel l k) j = if k = j then none else aget l j
  | [], _ => by simp [adel, aget]
  | x :: r, nd => by
    obtain ⟨n1, n2⟩ := List.nodup_cons.mp nd
    by_cases e : x.1 = k
    · rw [adel, if_pos e]
      by_cases e2 : k = j
      · rw [if_pos e2]
        exact aget_none (by rw [← e2, ← e]; exact n1)
      · rw [if_neg e2, aget, if_neg (by rw [e]; exact e2)]
    · rw [adel, if_neg e]
      by_cases e2 : x.1 = j
      · rw [aget, if_pos e2, aget, if_pos e2, if_neg (fun z => e (e2.trans z.symm))]
      · rw [aget, if_neg e2, aget_del n2, aget, if_neg e2]
theorem adel_names {α : Type} {k : Str} : ∀ {l : List (Str × α)}, ((adel l k).map (·.1)).Sublist (l.map (·.1))
  | [] => .refl _
  | x :: r => by
    by_cases e : x.1 = k
    · rw [adel, if_pos e]; exact List.sublist_cons_self _ _
    · rw [adel, if_neg e]; exact adel_names.cons_cons _
section
variable {α : Type} {vo : Str × α → V} {l : List (Str × α)} {k : Str}
def kk (vo : Str × α → V) (x : Str × α) : Key × V := (Sum.inr x.1, vo x)
theorem kk_val : valV (l.map (kk vo)) (.inr k) = (aget l k).map fun v => vo (k, v) := by
  induction l with
  | nil => rfl
  | cons x r ih =>
    by_cases e : x.1 = k
    · rw [List.map_cons, valV_pos (p := kk vo x) (by show Sum.inr x.1 = _; rw [e]), aget, if_pos e]
      show some (vo x) = some (vo (k, x.2))
      rw [← e]
    · rw [List.map_cons, valV_neg (p := kk vo x) (fun z => e (Sum.inr.inj z)), ih, aget, if_neg e]
theorem kk_any : ((l.map (kk vo)).any fun kv => decide (kv.1 = (Sum.inr k : Key))) = decide (k ∈ l.map (·.1)) := by
  induction l with
  | nil => rfl
  | cons x r ih =>
    rw [List.map_cons, List.any_cons, ih]
    have e1 : decide ((kk vo x).1 = (Sum.inr k : Key)) = decide (x.1 = k) := decide_eq_decide.mpr ⟨fun z => Sum.inr.inj z, fun z => by show Sum.inr x.1 = _; rw [z]⟩
    rw [e1]
    by_cases e : x.1 = k
    · simp [e]
    · have e' : ¬ k = x.1 := fun z => e z.symm
      simp [e, e']
theorem kk_put {v : α} (nd : (l.map (·.1)).Nodup) : putK (l.map (kk vo)) (.inr k) (vo (k, v)) = (aput l k v).map (kk vo) := by
  unfold putK
  rw [kk_any]
  by_cases h : k ∈ l.map (·.1)
  · rw [if_pos (decide_eq_true h)]
    induction l with
    | nil => simp at h
    | cons x r ih =>
      obtain ⟨n1, n2⟩ := List.nodup_cons.mp nd
      by_cases e : x.1 = k
      · rw [aput, if_pos e, List.map_cons, List.map_cons, List.map_cons, if_pos (by show Sum.inr x.1 = _; rw [e])]
        congr 1
        · show (Sum.inr x.1, _) = (Sum.inr k, _)
          rw [e]
        · refine (List.map_congr_left fun y hy => ?_).trans (List.map_id _)
          refine if_neg fun z => n1 ?_
          obtain ⟨q, hq, rfl⟩ := List.mem_map.mp hy
          have z : q.1 = k := Sum.inr.inj z
          exact List.mem_map.mpr ⟨q, hq, z.trans e.symm⟩
      · rw [aput, if_neg e, List.map_cons, List.map_cons, List.map_cons, if_neg (show ¬ (kk vo x).1 = (Sum.inr k : Key) from fun z => e (Sum.inr.inj z))]
        congr 1
        refine ih n2 ?_
        rcases List.mem_cons.mp h with z | z
        · exact absurd z.symm e
        · exact z
  · rw [if_neg (by rw [decide_eq_false h]; decide), aput_names_out h, List.map_append]
    rfl
theorem kk_drop (nd : (l.map (·.1)).Nodup) : dropK (l.map (kk vo)) (.inr k) = (adel l k).map (kk vo) := by
  unfold dropK
  induction l with
  | nil => rfl
  | cons x r ih =>
    obtain ⟨n1, n2⟩ := List.nodup_cons.mp nd
    by_cases e : x.1 = k
    · rw [adel, if_pos e, List.map_cons, List.filter_cons, if_neg (by simp [kk, e])]
      refine List.filter_eq_self.mpr fun y hy => ?_
      obtain ⟨q, hq, rfl⟩ := List.mem_map.mp hy
      have : ¬ q.1 = k := fun z => n1 (List.mem_map.mpr ⟨q, hq, z.trans e.symm⟩)
      simp [kk, this]
    · rw [adel, if_neg e, List.map_cons, List.filter_cons, if_pos (by simp [kk, e]), List.map_cons, ih n2]
theorem aput_map {α β : Type} {f : α → β} {k : Str} {v : α} : ∀ {l : List (Str × α)}, (aput l k v).map (fun x => (x.1, f x.2)) = aput (l.map fun x => (x.1, f x.2)) k (f v)
  | [] => rfl
  | x :: r => by
    by_cases e : x.1 = k
    · rw [aput, if_pos e, List.map_cons, List.map_cons, aput, if_pos e]
    · rw [aput, if_neg e, List.map_cons, List.map_cons, aput, if_neg e, aput_map]
theorem adel_map {α β : Type} {f : α → β} {k : Str} : ∀ {l : List (Str × α)}, (adel l k).map (fun x => (x.1, f x.2)) = adel (l.map fun x => (x.1, f x.2)) k
  | [] => rfl
  | x :: r => by
    by_cases e : x.1 = k
    · rw [adel, if_pos e, List.map_cons, adel, if_pos e]
    · rw [adel, if_neg e, List.map_cons, List.map_cons, adel, if_neg e, adel_map]
theorem aget_map {α β : Type} {f : α → β} {k : Str} : ∀ {l : List (Str × α)}, aget (l.map fun x => (x.1, f x.2)) k = (aget l k).map f
  | [] => rfl
  | x :: r => by
    by_cases e : x.1 = k
    · rw [List.map_cons, aget, if_pos e, aget, if_pos e]; rfl
    · rw [List.map_cons, aget, if_neg e, aget, if_neg e, aget_map]
end
theorem at_mem {L : Lg} {a : Addr} {o : HO} (h : (a, o) ∈ L) : At L a o := let ⟨i, hi, e⟩ := List.getElem_of_mem h; ⟨i, by rw [List.getElem?_eq_getElem hi, e]⟩
theorem nodup_len {α : Type} [DecidableEq α] : ∀ {l U : List α}, l.Nodup → (∀ k ∈ l, k ∈ U) → l.length ≤ U.length
  | [], _, _, _ => Nat.zero_le _
  | x :: r, U, nd, h => by
    obtain ⟨n1, n2⟩ := List.nodup_cons.mp nd
    have hx := h x List.mem_cons_self
    have := nodup_len (U := U.erase x) n2 fun k hk => (List.mem_erase_of_ne (fun e => n1 (by rw [← e]; exact hk))).mpr (h k (.tail _ hk))
    rw [List.length_erase_of_mem hx] at this
    have h0 : 0 < U.length := List.length_pos_of_mem hx
    rw [List.length_cons]
    omega
theorem kk_names {α : Type} {vo : Str × α → V} {l : List (Str × α)} : (l.map (kk vo)).map (·.1) = (l.map (·.1)).map Sum.inr := by
  rw [List.map_map, List.map_map]; rfl
theorem aput_nd {α : Type} {k : Str} {v : α} {l : List (Str × α)} (h : (l.map (·.1)).Nodup) : ((aput l k v).map (·.1)).Nodup := by
  by_cases hk : k ∈ l.map (·.1)
  · rw [aput_names_in hk]; exact h
  · rw [aput_names_out hk, List.map_append]
    exact List.nodup_append.mpr ⟨h, by simp, fun a ha b hb => by
      rw [List.map_cons, List.map_nil, List.mem_singleton] at hb
      rw [hb]
      exact fun e => hk ((show a = k from e) ▸ ha)⟩
theorem aput_mem {α : Type} {k j : Str} {v : α} {l : List (Str × α)} (h : j ∈ (aput l k v).map (·.1)) : j = k ∨ j ∈ l.map (·.1) := by
  by_cases hk : k ∈ l.map (·.1)
  · rw [aput_names_in hk] at h; exact .inr h
  · rw [aput_names_out hk, List.map_append] at h
    rcases List.mem_append.mp h with h | h
    · exact .inr h
    · exact .inl (by simpa using h)
theorem adel_mem {α : Type} {k j : Str} : ∀ {l : List (Str × α)}, j ∈ l.map (·.1) → j ≠ k → j ∈ (adel l k).map (·.1)
  | x :: r, h, ne => by
    by_cases e : x.1 = k
    · rw [adel, if_pos e]
      rcases List.mem_cons.mp h with z | z
      · exact absurd (z.trans e) ne
      · exact z
    · rw [adel, if_neg e]
      rcases List.mem_cons.mp h with z | z
      · rw [z]; exact List.mem_cons_self
      · exact List.mem_cons_of_mem _ (adel_mem z ne)
theorem aget_split {α : Type} {k : Str} {v : α} : ∀ {l : List (Str × α)}, aget l k = some v → ∃ B C, l = B ++ (k, v) :: C ∧ ∀ v', aput l k v' = B ++ (k, v') :: C
  | x :: r, h => by
    by_cases e : x.1 = k
    · rw [aget, if_pos e] at h
      obtain rfl := Option.some.inj h
      exact ⟨[], r, by rw [← e]; rfl, fun v' => by rw [aput, if_pos e]; rfl⟩
    · rw [aget, if_neg e] at h
      obtain ⟨B, C, e1, e2⟩ := aget_split h
      exact ⟨x :: B, C, by rw [e1]; rfl, fun v' => by rw [aput, if_neg e, e2 v']; rfl⟩
theorem aput_self {α : Type} {k : Str} {v : α} {l : List (Str × α)} (h : aget l k = some v) : aput l k v = l := by
  obtain ⟨B, C, e1, e2⟩ := aget_split h
  rw [e2, ← e1]
theorem k_dgetR {H : Hp} {a : Addr} {kvs : List (Key × V)} {v : V} {P : Addr → V → Prop} {x : Str} (r : Rd H a (.dK kvs)) (lk : valV kvs (.inr x) = some v) (q : P a v) : ∃ a' v', V.ref a = .ref a' ∧ DGet H a' (.str x) (some v') ∧ P a' v' :=
  ⟨_, _, rfl, .inl ⟨kvs, .inr x, r, rfl, lk.symm⟩, q⟩
theorem adel_none {α : Type} {k : Str} : ∀ {l : List (Str × α)}, aget l k = none → adel l k = l
  | [], _ => rfl
  | x :: r, h => by
    by_cases e : x.1 = k
    · rw [aget, if_pos e] at h; cases h
    · rw [aget, if_neg e] at h
      rw [adel, if_neg e, adel_none h]
theorem aput_nm {α : Type} {l : List (Str × α)} {k : Str} {v : α} {ns : List Str} (h : l.map (·.1) = ns) (hk : k ∈ ns) : (aput l k v).map (·.1) = ns := by
  rw [aput_names_in (by rw [h]; exact hk)]; exact h
theorem aget_const {α : Type} {v : α} {k : Str} : ∀ {ns : List Str}, k ∈ ns → aget (ns.map fun n => (n, v)) k = some v
  | x :: r, h => by
    by_cases z : x = k
    · rw [List.map_cons, aget, if_pos z]
    · rw [List.map_cons, aget, if_neg z]
      exact aget_const ((List.mem_cons.mp h).resolve_left fun y => z y.symm)
theorem aget_mem {α : Type} {k : Str} {v : α} {l : List (Str × α)} (h : aget l k = some v) : (k, v) ∈ l := by
  obtain ⟨B, C, e, _⟩ := aget_split h
  rw [e]; exact List.mem_append_right _ List.mem_cons_self
theorem mem_aget {α : Type} {k : Str} {v : α} {l : List (Str × α)} (nd : (l.map (·.1)).Nodup) (h : (k, v) ∈ l) : aget l k = some v := by
  induction l with
  | nil => cases h
  | cons x r ih =>
    obtain ⟨n1, n2⟩ := List.nodup_cons.mp nd
    rcases List.mem_cons.mp h with e | h
    · rw [← e, aget, if_pos rfl]
    · rw [aget, if_neg]
      · exact ih n2 h
      · intro e
        exact n1 (List.mem_map.mpr ⟨_, h, e.symm⟩)
theorem foldl_take {α β : Type} {f : β → α → β} {l : List α} {i : Nat} {x : α} {b : β} (h : l[i]? = some x) : (l.take (i + 1)).foldl f b = f ((l.take i).foldl f b) x := by
  rw [List.take_add_one, h, List.foldl_append]; rfl
theorem small60 {n : Nat} (h : n < 60) : n < sizeLine := Nat.lt_of_lt_of_le h (by decide)
theorem map_take {α β : Type} {f : α → β} {l : List α} {i : Nat} {x : α} (h : l[i]? = some x) : (l.take (i + 1)).map f = (l.take i).map f ++ [f x] := by
  rw [List.take_add_one, h, List.map_append]; rfl
theorem pss_imp {X : Cx} {sts : List Stmt} {t u : TS} (h : PSs X sts t) (k : ∀ D σ H, u D σ H → t D σ H) : PSs X sts u := ⟨fun pins s σ H D I q => h.run pins s σ H D I (k D σ H q)⟩
theorem ps_imp {X : Cx} {st : Stmt} {t u : TS} (h : PS X st t) (k : ∀ D σ H, u D σ H → t D σ H) : PS X st u := ⟨fun pins s σ H D I q => h.run pins s σ H D I (k D σ H q)⟩
end Sd


/-! data with a Lean type: == and != of it; min of a list of (number, text) -/
namespace Sd
open PySem PySem.W PySem.Spec PyProof.Rows L2
/-- a tuple of three -/
structure T3 (α β γ : Type) where
  a : α
  b : β
  c : γ
deriving DecidableEq
instance {α β γ : Type} [DecidableEq α] [DecidableEq β] [DecidableEq γ] [Datum α] [Datum β] [Datum γ] : Datum (T3 α β γ) where
  toD x := .tuple [Datum.toD x.a, Datum.toD x.b, Datum.toD x.c]
  plain x := by simp [PyData.plain, PyData.plainAll, Datum.plain]
  eqv x y := by
    obtain ⟨a, b, c⟩ := x
    obtain ⟨a', b', c'⟩ := y
    simp only [PyData.eqv, PyData.eqvAll, Datum.eqv, T3.mk.injEq, Bool.and_true]
    by_cases h1 : a = a' <;> by_cases h2 : b = b' <;> by_cases h3 : c = c' <;> simp [h1, h2, h3]
  depth := max (Datum.depth α) (max (Datum.depth β) (Datum.depth γ)) + 1
  depth_le x := by
    have h1 := Datum.depth_le x.a
    have h2 := Datum.depth_le x.b
    have h3 := Datum.depth_le x.c
    simp only [PyData.depth, PyData.depthAll]
    omega
/-- a value of the heap is a Lean value -/
def Dt {α : Type} [DecidableEq α] [Datum α] (K : PySem.W.Frag) (H : Hp) (v : V) (x : α) : Prop := Dp K H v (Datum.toD x)
section
variable {K : PySem.W.Frag} {H : Hp} {α β γ : Type} [DecidableEq α] [DecidableEq β] [DecidableEq γ] [Datum α] [Datum β] [Datum γ] {x y : V} {a b : α} {Q : VK}
theorem dt_shal (h : Datum.depth α ≤ 60) : Shal (Datum.toD a) := ⟨Datum.plain a, Nat.le_trans (Datum.depth_le a) h⟩
theorem k_neD (h : Datum.depth α ≤ 60) (h1 : Dt K H x a) (h2 : Dt K H y b) (k : Q (.bl (!decide (a = b))) H) : rNeP K x y H Q :=
  ⟨_, _, h1, h2, dt_shal h, dt_shal h, by rw [Datum.eqv]; exact k⟩
theorem k_eqD (h : Datum.depth α ≤ 60) (h1 : Dt K H x a) (h2 : Dt K H y b) (k : Q (.bl (decide (a = b))) H) : rEqP K x y H Q :=
  ⟨_, _, h1, h2, dt_shal h, dt_shal h, by rw [Datum.eqv]; exact k⟩
theorem dt_int {i : Int} : Dt K H (.int i) i := .int _
theorem dt_str {i : Str} : Dt K H (.str i) i := .str _
theorem dt_pair {p : Addr} {v w : V} {x : α} {y : β} (h : H p = some (.tup [v, w])) (h1 : Dt K H v x) (h2 : Dt K H w y) : Dt K H (.ref p) (x, y) := dp_tup h (.cons h1 (.cons h2 .nil))
theorem dt_t3 {p : Addr} {u v w : V} {x : α} {y : β} {z : γ} (h : H p = some (.tup [u, v, w])) (h1 : Dt K H u x) (h2 : Dt K H v y) (h3 : Dt K H w z) : Dt K H (.ref p) (T3.mk x y z) := dp_tup h (.cons h1 (.cons h2 (.cons h3 .nil)))
theorem dt_list {δ : Type} {p : Addr} {l : List δ} {f : δ → V} {g : δ → α} (h : H p = some (.lst (l.map f))) (hl : ∀ x ∈ l, Dt K H (f x) (g x)) : Dt K H (.ref p) (l.map g) := by
  show Dp K H (.ref p) (.list ((l.map g).map Datum.toD))
  rw [List.map_map]
  exact dp_lst h (dp_all hl)
theorem dt_nil {p : Addr} (h : H p = some (.lst [])) : Dt K H (.ref p) ([] : List α) := dp_lst h .nil
end
/-! min -/
theorem minOf_spec {α : Type} [DecidableEq α] [DatumOrd α] (tr : ∀ a b c : α, DatumOrd.lt b a = false → DatumOrd.lt c b = false → DatumOrd.lt c a = false) (rf : ∀ a : α, DatumOrd.lt a a = false) (as : ∀ a b : α, DatumOrd.lt a b = true → DatumOrd.lt b a = false) :
    ∀ (xs : List α) (x : α), minOf x xs ∈ x :: xs ∧ ∀ y ∈ x :: xs, DatumOrd.lt y (minOf x xs) = false
  | [], x => ⟨.head _, fun y hy => by rw [List.mem_singleton.mp hy]; exact rf x⟩
  | z :: r, x => by
    have e : minOf x (z :: r) = minOf (if DatumOrd.lt z x = true then z else x) r := rfl
    obtain ⟨h1, h2⟩ := minOf_spec tr rf as r (if DatumOrd.lt z x = true then z else x)
    rw [e]
    by_cases q : DatumOrd.lt z x = true
    · rw [if_pos q] at h1 h2 ⊢
      refine ⟨.tail _ h1, fun y hy => ?_⟩
      rcases List.mem_cons.mp hy with rfl | hy
      · exact tr _ _ _ (h2 z (.head _)) (as _ _ q)
      · exact h2 y hy
    · rw [if_neg q] at h1 h2 ⊢
      refine ⟨?_, fun y hy => ?_⟩
      · rcases List.mem_cons.mp h1 with e1 | e1
        · rw [e1]; exact .head _
        · exact .tail _ (.tail _ e1)
      · rcases List.mem_cons.mp hy with rfl | hy
        · exact h2 _ (.head _)
        · rcases List.mem_cons.mp hy with rfl | hy
          · have q' : DatumOrd.lt y x = false := by simpa using q
            exact tr _ _ _ (h2 x (.head _)) q'
          · exact h2 y (.tail _ hy)
abbrev IS := Int × Str
/-- at most, by number, then by text -/
def leP (a b : IS) : Prop := a.1 < b.1 ∨ a.1 = b.1 ∧ a.2.cps.toList ≤ b.2.cps.toList
theorem lt_leP {a b : IS} : DatumOrd.lt b a = false ↔ leP a b := by
  show (if b.1 = a.1 then decide (b.2.cps.toList < a.2.cps.toList) else decide (b.1 < a.1)) = false ↔ _
  unfold leP
  by_cases h : b.1 = a.1
  · rw [if_pos h, decide_eq_false_iff_not, Std.not_lt]
    constructor
    · exact fun q => .inr ⟨h.symm, q⟩
    · rintro (q | ⟨_, q⟩)
      · omega
      · exact q
  · rw [if_neg h, decide_eq_false_iff_not]
    constructor
    · exact fun q => .inl (by omega)
    · rintro (q | ⟨q, _⟩)
      · omega
      · omega
theorem leP_refl {a : IS} : leP a a := .inr ⟨rfl, Std.le_refl _⟩
theorem leP_trans {a b c : IS} (h1 : leP a b) (h2 : leP b c) : leP a c := by
  rcases h1 with h1 | ⟨h1, h1'⟩ <;> rcases h2 with h2 | ⟨h2, h2'⟩
  · exact .inl (by omega)
  · exact .inl (by omega)
  · exact .inl (by omega)
  · exact .inr ⟨h1.trans h2, Std.le_trans h1' h2'⟩
theorem leP_anti {a b : IS} (h1 : leP a b) (h2 : leP b a) : a = b := by
  rcases h1 with h1 | ⟨h1, h1'⟩ <;> rcases h2 with h2 | ⟨h2, h2'⟩
  · omega
  · omega
  · omega
  · exact Prod.ext h1 (str_ext (Std.le_antisymm h1' h2'))
theorem leP_total {a b : IS} (h : ¬ leP a b) : leP b a := by
  by_cases q : DatumOrd.lt a b = false
  · exact lt_leP.mp q
  · exfalso
    refine h (lt_leP.mp ?_)
    have q : (if a.1 = b.1 then decide (a.2.cps.toList < b.2.cps.toList) else decide (a.1 < b.1)) = true := (Bool.not_eq_false _).mp q
    show (if b.1 = a.1 then decide (b.2.cps.toList < a.2.cps.toList) else decide (b.1 < a.1)) = false
    by_cases e : a.1 = b.1
    · rw [if_pos e] at q
      rw [if_pos e.symm]
      exact decide_eq_false (Std.not_lt.mpr (Std.le_of_lt (of_decide_eq_true q)))
    · rw [if_neg e] at q
      rw [if_neg (fun z => e z.symm)]
      exact decide_eq_false (by have := of_decide_eq_true q; omega)
theorem minOf_leP (x : IS) (xs : List IS) : minOf x xs ∈ x :: xs ∧ ∀ y ∈ x :: xs, leP (minOf x xs) y := by
  obtain ⟨h1, h2⟩ := minOf_spec (α := IS) (fun a b c h1 h2 => lt_leP.mpr (leP_trans (lt_leP.mp h1) (lt_leP.mp h2))) (fun a => lt_leP.mpr leP_refl) (fun a b h => by
    refine lt_leP.mpr ?_
    by_cases q : leP a b
    · exact q
    · have q2 := leP_total q
      exact absurd (lt_leP.mpr q2) (by rw [h]; decide)) xs x
  exact ⟨h1, fun y hy => lt_leP.mp (h2 y hy)⟩
/-- min(rows): a row that is at most all of them -/
def rMinP (K : PySem.W.Frag) : List V → Hp → VK → Prop := fun vs H Q => ∃ (a : Addr) (l : List (Addr × IS)), vs = [.ref a] ∧ l ≠ [] ∧ SqL K H a (l.map fun x => V.ref x.1) ∧ (∀ x ∈ l, H x.1 = some (.tup [.int x.2.1, .str x.2.2])) ∧
  ∀ x ∈ l, (∀ y ∈ l, leP x.2 y.2) → Q (.ref x.1) H
theorem cr_minP {X : Cx} (hc : X.calm = true) (hu : X.A.units + 64 < cLine) : CallR X (.builtin "min") (rMinP X.K) := by
  intro pins s σ H vs us Q I r h
  obtain ⟨a, l, rfl, hne, hs, hall, q⟩ := h
  obtain ⟨its, rv, hl, _⟩ := I.list hs
  rw [Vals.ref1 r]
  have hd : DpAll X.K H (l.map fun x => V.ref x.1) (l.map fun x => Datum.toD x.2) := dp_all fun x hx => dp_tup (hall x hx) (.cons (.int _) (.cons (.str _) .nil))
  obtain ⟨as, ra⟩ := Dp.readsAll I _ _ _ hd rv
  cases l with
  | nil => exact absurd rfl hne
  | cons x xs =>
    have HA : HoldAll s.heap its.toArray.toList (x.2 :: xs.map (·.2)) := ⟨as, by simpa [Function.comp_def] using ra⟩
    refine min_list_datum (α := IS) (I.ok.hd hc) hl.isList HA (Nat.lt_of_le_of_lt (Nat.add_le_add_left (by decide : 1 + Datum.depth IS ≤ 64) X.A.units |> fun h => by omega) hu) fun i v h' tk hi hv hk => ?_
    obtain ⟨m1, m2⟩ := minOf_leP x.2 (xs.map (·.2))
    have hi2 : its[i]? = some v := by simpa using hi
    have hlen := rv.length
    have hil : i < (x :: xs).length := by
      have := (List.getElem?_eq_some_iff.mp hi2).1
      simp only [List.length_map] at hlen
      omega
    have hx : (x :: xs)[i]? = some (x :: xs)[i] := List.getElem?_eq_getElem hil
    generalize hy : (x :: xs)[i] = y at hx
    have hmem : y ∈ x :: xs := by rw [← hy]; exact List.getElem_mem hil
    obtain ⟨u, hu1, hu2⟩ := Vals.get (x := V.ref y.1) rv (by rw [List.getElem?_map, hx]; rfl)
    rw [hi2] at hu1
    cases hu1
    obtain rfl : v = Value.ref y.1 := hu2
    obtain ⟨as1, r1⟩ := Dp.reads I (Datum.toD y.2) (.ref y.1) (.ref y.1) (dp_tup (hall y hmem) (.cons (.int _) (.cons (.str _) .nil))) rfl
    obtain ⟨as2, r2⟩ := hv
    have e := reads_det (fun b o e _ => hk b o e) r1 r2
    have e2 : y.2 = minOf x.2 (xs.map (·.2)) := by
      have := Datum.eqv y.2 (minOf x.2 (xs.map (·.2)))
      rw [← e.1] at this
      rw [Datum.eqv] at this
      simpa using this
    refine ⟨.ref y.1, H, I.kept hk, rfl, q y hmem fun z hz => ?_⟩
    rw [e2]
    refine m2 z.2 ?_
    rcases List.mem_cons.mp hz with rfl | hz
    · exact .head _
    · exact .tail _ (List.mem_map.mpr ⟨z, hz, rfl⟩)
end Sd


/-! told(lambda): a lambda made, called by told, and it raises: the table of the law's own code lives on -/
namespace Sd
open PySem PySem.Spec PyProof.Rows L2 LamX NdefX
theorem led_more {H : Hp} : ∀ (as : List Addr) (R : Lg), Led H R → ∃ R2 : Lg, Led H R2 ∧ (∀ x ∈ R, x ∈ R2) ∧ ∀ a ∈ as, ∀ o, H a = some o → ∀ H', Led H' R2 → H' a = some o
  | [], R, h => ⟨R, h, fun _ h => h, fun _ h => nomatch h⟩
  | a :: as, R, h => by
    obtain ⟨R1, h1, i1, k1⟩ := led_more as R h
    by_cases e : ∃ o, (a, o) ∈ R1
    · obtain ⟨o, ho⟩ := e
      refine ⟨R1, h1, i1, fun b hb o' hb' H' h' => ?_⟩
      rcases List.mem_cons.mp hb with rfl | hb
      · have := h1.mem ho
        rw [hb'] at this
        cases this
        exact h'.mem ho
      · exact k1 b hb o' hb' H' h'
    · rcases ha : H a with _ | o
      · refine ⟨R1, h1, i1, fun b hb o' hb' H' h' => ?_⟩
        rcases List.mem_cons.mp hb with rfl | hb
        · rw [ha] at hb'; cases hb'
        · exact k1 b hb o' hb' H' h'
      · refine ⟨(a, o) :: R1, ⟨fun x hx => ?_, ?_⟩, fun x hx => .tail _ (i1 x hx), fun b hb o' hb' H' h' => ?_⟩
        · rcases List.mem_cons.mp hx with rfl | hx
          · exact ha
          · exact h1.1 x hx
        · rw [List.map_cons]
          refine List.nodup_cons.mpr ⟨fun hm => ?_, h1.2⟩
          obtain ⟨x, hx, ex⟩ := List.mem_map.mp hm
          exact e ⟨x.2, by
            have ex : x.1 = a := ex
            rw [← ex]; exact hx⟩
        · rcases List.mem_cons.mp hb with rfl | hb
          · rw [ha] at hb'; cases hb'
            exact h'.mem (.head _)
          · exact k1 b hb o' hb' H' h'.tail
/-- the table within a ledger -/
theorem tab_led {H : Hp} {P : Addr} {q : Str} (t : TabS H P q) : ∃ R : Lg, Led H R ∧ ∀ H', Led H' R → TabS H' P q := by
  obtain ⟨ps, h1, h2, h3⟩ := t
  obtain ⟨R, hR, _, k⟩ := led_more (P :: ps.toList.filterMap fun v => match v with | .ref c => some c | _ => none) [] Led.nil
  refine ⟨R, hR, fun H' h' => ⟨ps, k P (.head _) _ h1 H' h', h2, fun pos cv hc => ?_⟩⟩
  obtain ⟨c, rfl, hcc⟩ := h3 pos cv hc
  refine ⟨c, rfl, k c (.tail _ (List.mem_filterMap.mpr ⟨.ref c, ?_, rfl⟩)) _ hcc H' h'⟩
  clear h1 h2 h3 k hR hcc
  generalize ps.toList = l at hc
  fun_induction codeAmong pos l with
  | case1 line t1 col t2 c' rest hq =>
    cases hc
    exact .tail _ (.tail _ (.head _))
  | case2 line t1 col t2 c' rest hq ih => exact .tail _ (.tail _ (.tail _ (ih hc)))
  | case3 => cases hc
/-- a lambda that raises -/
def tlR (CE : Addr) : Hp → VK → XK → Prop := fun H _ E => ∃ R, Led H R ∧ ∀ H', Led H' R → E (.ref CE) none H'
theorem rd_told {P : Program} {w : World} {K : PySem.W.Frag} {mg : Str → Option Value} {base : Heap} {k : Nat} {CE PL : Addr} {e ret q : Str} {params : Arguments} {body : Expr} {scope : Scope} {σ : L2.St} {H : Hp} {Q : VK} (T : ExcT K mg e CE) (hT : TabS H PL q)
    (L : ∀ f c', LOk P w K mg base k f ⟨"<lambda>", q, params, [], scope, [], c'⟩ body (tlR CE)) (kq : ∀ H', TabS H' PL q → Q (.str ret) H') :
    tCall (spTold P w K mg base k CE ret) [] C8.E0 (tCons (tLamV PL q params body scope) tNil) σ H Q := by
  refine ⟨hT, fun f c' H1 eN T1 n0 hf hc => ?_⟩
  obtain ⟨R, hR, kR⟩ := tab_led T1
  exact ⟨f, _, _, _, rfl, hf, hc, L f c', R, hR, fun H' h' => ⟨true, T.em, fun _ => kq H' (kR H' h'), fun z => nomatch z⟩⟩
end Sd


/-! lambdas that capture names, kept as values, called by told -/
namespace Sd
open PySem PySem.Spec PyProof.Rows L2 LamX NdefX
structure LOkC (P : Program) (w : World) (K : PySem.W.Frag) (mg : Str → Option Value) (base : Heap) (k : Nat) (f : Addr) (F : NF) (b : Expr) (fr : List Str) (tl : List (Option V) → Hp → VK → XK → Prop) : Prop where
  run : ∀ (A : Around) (outer : List Env) (s : Shared) (H : Hp) (ws : List (Option V)) (Q : VK) (E : XK), Room k A → Env0 P w K mg base A outer s H → H f = some (LamO f F b) → H F.c = some (CodeO F.c F.qual) → CellsAt F.cl fr ws s.heap H → tl ws H Q E →
    codeAny (model P w) A (.call (.ref f) ⟨[], []⟩) (CR (L2.CX P w) outer P w H s Q E) s
section
variable {P : Program} {w : World} {K : PySem.W.Frag} {mg : Str → Option Value} {base : Heap} {F : NF} {f : Addr} {b : Expr} {k : Nat} {N fr : List Str} {tl : List (Option V) → Hp → VK → XK → Prop}
theorem lokC_of (S : NScope N [] fr F.scope) (hb : ∀ pm cv ctv : Value, bindArgs (PySem.W.kla_fn F.name F.qual F.params b F.scope F.cl pm cv ctv) ⟨[], []⟩ = pure [])
    (hbody : ∀ (A : Around) (outer : List Env) (s : Shared) (H : Hp) (ws : List (Option V)) (Q : VK) (E : XK), Room k (A.deeper (envF F f s.heap.objs.size)) → tl ws H Q E → ∃ t : TE, PE (ncx (L2.CX P w) P w K mg base N F f A outer s H E) b t ∧ t (startF N [] ws) H Q) :
    LOkC P w K mg base (k + 1) f F b fr tl := by
  refine ⟨fun A outer s H ws Q E hr e0 hf hc C h => ?_⟩
  have lim : s.heap.NoLimit := e0.mod.nolimit.keeps fun b o e => (e0.bs b o e).1
  obtain ⟨pm, ctv, ho⟩ := lamO_at e0.hok hf
  refine PySem.W.kla_callFunE hr.depth ho rfl S.co S.gen rfl (codeO_at e0.hok hc) ?_
  rw [hb]
  refine wpAny_pure (wpAny_newFunctionEnv S.nocell (fun y hy => absurd hy (by simp)) (fun h₁ hns hsb => ⟨lim.fresh _ hsb, ?_⟩) S.kind)
  show codeAny _ _ (.expr b (envF F f s.heap.objs.size)) _ _
  have kp : ∀ b o, s.heap.get? b = some o → h₁.get? b = some o := fun b o e => hsb.extBut b o (Nat.ne_of_lt (Heap.lt_size e)) (Heap.get?_push_of_some _ e)
  obtain ⟨t, ht, hq⟩ := hbody A outer s H ws Q E (hr.deeper _) h
  have I : Inv (ncx (L2.CX P w) P w K mg base N F f A outer s H E) [] (startF N [] ws) H { s with heap := h₁, toks := s.toks + ([] : List (Str × Value)).length } :=
    inv_startN (N := N) (ps := []) (fr := fr) (vs := []) (us := []) (ws := ws) S hr.hd e0 rfl .nil C hns kp
  refine PySem.W.kla_codeExpr (wpAny_mono (ht.run [] _ _ H Q I hq) (fun v s' hq => ?_) fun e s' hq => hq)
  obtain ⟨w', H', J', rv, q⟩ := hq
  exact ⟨w', H', J'.os, J'.bare, J'.base, J'.hok, rv, q⟩
end
theorem pe_lamcC {X : Cx} {W : WX} {i k : Nat} {x : Str} {p pos : Pos} {f : Addr} {F : NF} {b : Expr} {fr : List Str} {ws : List (Option V)} {tl : List (Option V) → Hp → VK → XK → Prop} (tk : Takes X W) (hr : Room k X.A) (hN : X.N[i]? = some x) (hv : Vis X.env.scope x)
    (C : CellsAt F.cl fr ws X.s_0.heap X.H_0) (nf : ∀ y c, F.cl.lookup y = some c → c ∉ X.fs) (hx : ∀ y c, F.cl.lookup y = some c → c ∉ X.ex) (L : LOkC X.prog X.w X.K X.mg X.base k f F b fr tl)
    (hd : (x == ("__debug__" : Str)) = false := by decide) (hcd : (x == ("__classdict__" : Str)) = false := by decide) :
    PE X (.Call (.Name x p) [] [] pos) (fun σ H Q => σ[i]? = some (some (.ref f)) ∧ H f = some (LamO f F b) ∧ H F.c = some (CodeO F.c F.qual) ∧ ∃ E : XK, (∀ cls d σ' H', E cls d H' → W cls d σ' H') ∧ tl ws H Q E) := by
  refine ⟨fun pins s σ H Q I h => ?_⟩
  obtain ⟨hs, hf, hc, E, hW, ht⟩ := h
  refine wpAny_Call_Name_kw (thn ((pe_var (pos := p) hN hv hd hcd).run pins s σ H (fun v H1 => v = .ref f ∧ H1 = H) I ⟨.ref f, hs, rfl, rfl⟩) fun u s1 ⟨v, H1, I1, r1, q1⟩ => ?_)
  obtain ⟨ev, eH⟩ := q1
  subst ev
  rw [eH] at I1
  obtain rfl : u = Value.ref f := r1
  obtain ⟨pm, ctv, ho⟩ := lamO_at I1.hok hf
  refine PySem.W.callWith_F0 (first := []) ⟨_, _, _, _, ho⟩ ?_
  show wpAny _ _ (call (.ref f) []) _ _ _
  refine wpAny_call (codeAny_mono (L.run X.A X.stack s1 H ws Q E hr I1.env0 hf hc (C.later nf hx I1) ht) fun r s' hq => ?_)
  cases r with
  | error e => exact passes_call tk hW pins σ H s1 e s' I1 hq
  | ok fl =>
    cases fl with
    | ret u => exact I1.after hq
    | next => exact False.elim hq
    | brk => exact False.elim hq
    | cont => exact False.elim hq
/-- told(y), y a name that holds a lambda -/
def tToldC (K : PySem.W.Frag) (P : Program) (w : World) (mg : Str → Option Value) (base : Heap) (k i : Nat) (cl : List (Str × Addr)) (fr : List Str) (ws : List (Option V)) (CS : Addr) (ret : Str) : TE := fun σ H Q => ∃ (f : Addr) (F : NF) (b : Expr) (tl : List (Option V) → Hp → VK → XK → Prop),
  σ[i]? = some (some (.ref f)) ∧ H f = some (LamO f F b) ∧ H F.c = some (CodeO F.c F.qual) ∧ F.cl = cl ∧ LOkC P w K mg base k f F b fr tl ∧ tl ws H Q (fun cls _ H' => ∃ b, PySem.W.exmOne K cls (.ref CS) = some b ∧ (b = true → Q (.str ret) H') ∧ (b = false → False))
theorem pe_toldC {X : Cx} {i k j : Nat} {x y a e ret : Str} {g CS : Addr} {st : Stmt} {fd : FuncData} {N : List Str} {p py pos p1 p2 p3 p4 p5 p6 p7 p8 : Pos} {cl : List (Str × Addr)} {fr : List Str} {ws : List (Option V)} (Fn : Fun X.K x x st g fd) (S : FnScope N [a] (defScope st))
    (hbd : defBody st = [.Try [.Return (some (.Call (.Name a p1) [] [] p2)) p3] [.ExceptHandler (some (.Name e p4)) none [.Return (some (.Constant (.str ret) j p5)) p6] p7] [] [] p8]) (hbi : Binds X.K fd [a] []) (hm : X.mg x = some (.ref g)) (hge : (defScope st).names.lookup e = some .globalImplicit) (hme : X.mg e = some (.ref CS))
    (hN : N[0]? = some a) (hv : Vis (defScope st) a) (h0 : ∀ f : Addr, (L2.start N [V.ref f])[0]? = some (some (V.ref f)))
    (hr : Room (k + 1) X.A) (hg : Gl X x) (hy : X.N[i]? = some y) (hvy : Vis X.env.scope y)
    (C : CellsAt cl fr ws X.s_0.heap X.H_0) (nf : ∀ y c, cl.lookup y = some c → c ∉ X.fs) (hx : ∀ y c, cl.lookup y = some c → c ∉ X.ex) (nf2 : ∀ y c, cl.lookup y = some c → c ∉ frs X.stack)
    (hdb : (x == ("__debug__" : Str)) = false := by decide) (hdy : (y == ("__debug__" : Str)) = false := by decide) (hcy : (y == ("__classdict__" : Str)) = false := by decide) (hde : (e == ("__debug__" : Str)) = false := by decide) (hd : (a == ("__debug__" : Str)) = false := by decide) (hcd : (a == ("__classdict__" : Str)) = false := by decide) :
    PE X (.Call (.Name x p) [.Name y py] [] pos) (tToldC X.K X.prog X.w X.mg X.base k i cl fr ws CS ret) := by
  refine ⟨fun pins s σ H Q I h => ?_⟩
  obtain ⟨f, F, b, tl, hs, hf, hc, rfl, L, ht⟩ := h
  refine wpAny_Call_Name_kw (ld_glob I hg hm ?_ hdb)
  refine PySem.W.callWith_K (h₀ := X.base) I.ok.mod.kin Fn.kp (thn ((pa_cons (pe_var (pos := py) hy hvy hdy hcy) pa_nil).run pos pins s σ H (fun vs H1 => vs = [.ref f] ∧ H1 = H) I ⟨.ref f, hs, rfl, rfl⟩) fun us s1 ⟨vs, H1, I1, r, q⟩ => ⟨I1.kIn, ?_⟩) (by rfl) (by rfl)
  obtain ⟨ev, eH⟩ := q
  subst ev
  rw [eH] at I1
  obtain ⟨u, rfl, ru⟩ := r.one
  obtain rfl : u = Value.ref f := ru
  obtain ⟨oc, od, kV, doc, pm, an, cdv, ct, osl, rfl, lk, hcd2⟩ := Fn.ex
  have C1 : CellsAt F.cl fr ws s1.heap H := C.later nf hx I1
  have rc : codeAny (model X.prog X.w) X.A (.call (.ref g) ⟨[.ref f], []⟩) (CR C8.CX0 X.stack X.prog X.w H s1 Q C8.E0) s1 := by
    refine run_ofS (N := N) (ps := [a]) (us := [.ref f]) (vs := [.ref f]) lk hcd2 S hr I1.env0 (hbi s1 [.ref f] I1.kIn rfl) (.cons rfl .nil) rfl fun hr' => ?_
    have hgl : Gl (cxOf C8.CX0 X.prog X.w X.K X.mg X.base N x (defScope st) g cdv X.A X.stack s1 H C8.E0).nox e := hge
    rw [hbd]
    have hps : PSs (cxOf C8.CX0 X.prog X.w X.K X.mg X.base N x (defScope st) g cdv X.A X.stack s1 H C8.E0).nox [.Try [.Return (some (.Call (.Name a p1) [] [] p2)) p3] [.ExceptHandler (some (.Name e p4)) none [.Return (some (.Constant (.str ret) j p5)) p6] p7] [] [] p8] _ :=
      pss_one (ps_try_only (c := .ref CS) (tb := fun W D σ H => σ[0]? = some (some (.ref f)) ∧ H f = some (LamO f F b) ∧ H F.c = some (CodeO F.c F.qual) ∧ ∃ E : XK, (∀ cls d σ' H', E cls d H' → W cls d σ' H') ∧ tl ws H D.rt E) rfl rfl ⟨hgl, hde, .inl hme⟩ L2.takes0
        (fun W pn xe tk _ => pss_one (ps_ret (pe_lamcC tk hr' hN hv C1 nf2 (fun _ _ _ z => nomatch z) L hd hcd))) (fun a oe cls d pn _ _ => pss_one (ps_ret pe_str)))
    refine ⟨_, hps.nox, h0 f, hf, hc, _, fun cls d σ' H' q => ?_, ht⟩
    obtain ⟨b, e1, e2, e3⟩ := q
    exact ⟨b, e1, fun hb a _ => e2 hb, fun hb => e3 hb⟩
  refine wpAny_call (codeAny_mono rc fun r s2 hq => ?_)
  cases r with
  | error e => exact (show False from hq).elim
  | ok fl =>
    cases fl with
    | ret u => exact I1.after hq
    | next => exact False.elim hq
    | brk => exact False.elim hq
    | cont => exact False.elim hq
end Sd


/-! [e for f in xs if t], t false each time and fit to call what captures names of the running frame -/
namespace Sd
open PySem PySem.Spec PyProof.Rows L2 LamX NdefX
theorem cell_nofrs {X : Cx} {pins : List (Addr × Obj)} {σ : L2.St} {H : Hp} {s : Shared} (I : Inv X pins σ H s) (hfn : ∀ x, X.fn x = true) : ∀ x c, X.env.cells.lookup x = some c → c ∉ frs X.stack := fun x c e hb => by
  rcases List.mem_cons.mp (I.stkSub c hb) with z | z
  · exact I.cne x c e z
  · obtain ⟨_, o, ho, _⟩ := I.ok.funs.mem z
    exact absurd (Nat.lt_of_lt_of_le (Heap.lt_size ho) (I.ok.cab x c (hfn x) e)) (Nat.lt_irrefl _)
/-- what the block's start tells of the captured cells -/
def GdC (X : Cx) (cl : List (Str × Addr)) (fr : List Str) (ws : List (Option V)) (s : Shared) (H : Hp) (fp : List Addr) : Prop := CellsAt cl fr ws s.heap H ∧ ∀ y c, cl.lookup y = some c → c ∉ frs X.stack ∧ c ∉ fp
theorem pe_lcF {X : Cx} {elt tg iter : Expr} {ifs : List Expr} {scope : Scope} {own : List (Str × Nat)} {pos : Pos} {wi : TI} {g : TG} {tt : TT} {fr : List Str} {js : List Nat} {ws : List (Option V)} {lsc : Scope} (hfn : ∀ x, X.fn x = true) (hc : X.calm = true) (hN : X.N.Nodup) (hi : PI X tg iter wi) (ok : BlkOk X.N X.env.scope scope own)
    (caps : ∀ pins σ H s, Inv X pins σ H s → Caps X (cloFrom X.env.cells lsc.names []) fr js)
    (hg : ∀ (s : Shared) (H : Hp) (C : Addr) (cl : List (Str × Addr)) (fp : List Addr), PG (X.blk s H scope (compEnvC scope cl C X.env) fp) tg g)
    (ht : ∀ (s : Shared) (H : Hp) (C : Addr) (cl : List (Str × Addr)) (fp : List Addr), GdC X (cloFrom X.env.cells lsc.names []) fr ws s H fp → PTs (X.blk s H scope (compEnvC scope cl C X.env) fp) ifs tt)
    (hs : ∀ x, foldedSetIterable iter X.env x = pure x := by intro _; rfl) :
    PE X (.ListComp elt [⟨tg, iter, ifs, 0⟩] scope pos) (fun σ H Q => js.map (slotAt σ) = ws ∧ tLc wi g tt (fun _ _ _ => False) (own.map (·.2)) σ H Q) := by
  refine ⟨fun pins s σ H Q I h => ?_⟩
  obtain ⟨hws, h⟩ := h
  rw [eval_ListComp]
  refine wpAny_comprehension_free (use := none) rfl hs (closure_ok fun y hy e => ?_) ok.kind (fun y hy e => by rw [ok.uniq y hy, e]) (thn (hi.run pins s σ H _ I h) fun xv s1 hx => thn hx fun itv s2 h2 => ?_)
  · rcases ok.free y hy e with k | k
    · exact I.ok.has _ (.inl k)
    · exact I.ok.has _ (.inr k)
  obtain ⟨it, fp, tn, J, H2, e, I2, T, st2, f2, q⟩ := h2
  subst e
  refine wpAny_newObj_type (newEnv_comp ?_) (by show 0 ≤ sizeLine; decide)
  have hD2 : H2 s2.heap.objs.size = none := I2.hok.fresh (Nat.le_refl _)
  obtain ⟨W, ⟨m0, w0⟩, turn⟩ := q _ hD2
  generalize hs3 : ({ s2 with heap := s2.heap.push { cls := .type "list", data := .seq ([] : List Value).toArray } } : Shared) = s3
  have h3 : s3.heap = s2.heap.push { cls := .type "list", data := .seq ([] : List Value).toArray } := by rw [← hs3]
  have I3 : Inv X pins σ (upd H2 s2.heap.objs.size (.lst [])) s3 := by
    rw [← hs3]
    exact I2.laid (t' := s2.toks) (fun b o e => Heap.get?_push_of_some _ e) (Nat.le_refl _) ⟨Nat.zero_le _, [], 0, .nil, Heap.get?_push_size _ rfl⟩
  generalize hDD : s2.heap.objs.size = D at I3 w0 turn hD2 ⊢
  have fOk : ∀ b ∈ fp, FpOk X pins (upd H2 D (.lst [])) b ∧ b < s3.heap.objs.size := fun b hb => by
    obtain ⟨o, e, _⟩ := T.obj _ _ st2 b hb
    have hlt := Heap.lt_size e
    refine ⟨⟨?_, (f2 b hb).2⟩, by rw [h3, Heap.size_push]; exact Nat.lt_succ_of_lt hlt⟩
    rw [upd_ne (by rw [← hDD]; exact Nat.ne_of_lt hlt)]
    exact (f2 b hb).1
  have gd : GdC X (cloFrom X.env.cells lsc.names []) fr ws s3 (upd H2 D (.lst [])) fp := by
    refine ⟨hws ▸ cells_of I3 (caps _ _ _ _ I3), fun y c e => ⟨cell_nofrs I3 hfn y c ((caps _ _ _ _ I3).sub y c e), fun hb => ?_⟩⟩
    exact (fOk c hb).1.2.2.2.2.1 y c ((caps _ _ _ _ I3).sub y c e) rfl
  have I4 := block_start I3 ok hN fOk
  have pg := hg s3 (upd H2 D (.lst [])) s3.heap.objs.size (cellsFrom (s3.heap.objs.size + 1) scope.names (cloFrom X.env.cells scope.names [])) fp
  have pt := ht s3 (upd H2 D (.lst [])) s3.heap.objs.size (cellsFrom (s3.heap.objs.size + 1) scope.names (cloFrom X.env.cells scope.names [])) fp gd
  have t3 : tn 0 s3.heap := T.keep _ _ _ st2 fun b _ o e => by rw [h3]; exact Heap.get?_push_of_some _ e
  have n3 : ∀ b ∈ fp, (upd H2 D (.lst [])) b = none := fun b hb => (fOk b hb).1.1
  generalize hBX : X.blk s3 (upd H2 D (.lst [])) scope (compEnvC scope (cellsFrom (s3.heap.objs.size + 1) scope.names (cloFrom X.env.cells scope.names [])) s3.heap.objs.size X.env) fp = BX at I4 pg pt
  have bP : BX.prog = X.prog ∧ BX.w = X.w ∧ BX.K = X.K ∧ BX.calm = X.calm ∧ BX.A = X.A ∧ BX.ex = fp ∧ BX.pn = [] ∧ BX.env.locals = s3.heap.objs.size := by rw [← hBX]; exact ⟨rfl, rfl, rfl, rfl, rfl, rfl, rfl, rfl⟩
  have fpB : ∀ {σ' : L2.St} {H' : Hp} {s' : Shared}, Inv BX [] σ' H' s' → (∀ b ∈ fp, H' b = none) → ∀ b ∈ fp, FpOk BX [] H' b := fun {σ' H' s'} I' hn b hb => by
    have hbx : b ∈ BX.ex := by rw [bP.2.2.2.2.2.1]; exact hb
    exact ⟨hn b hb, (I'.ok.exf b hbx).1, I'.ok.exfs b hbx, .inl hbx, fun x c e => (I'.ok.exf b hbx).2 x c e, fun p hp => by rw [bP.2.2.2.2.2.2.1] at hp; cases hp⟩
  generalize hs4 : ({ s3 with heap := pushCells (s3.heap.push { cls := .type "dict", data := .dict #[] }) scope.names } : Shared) = s4 at I4
  have t4 : tn 0 s4.heap := T.keep _ _ _ t3 fun b _ o e => by rw [← hs4]; exact pushCells_keeps _ _ _ _ (Heap.get?_push_of_some _ e)
  show codeAny _ _ (.compStart (.ListComp elt [⟨tg, iter, ifs, 0⟩] scope pos) 0 (.ref it) (.ref D) (compEnvC scope (cellsFrom (s3.heap.objs.size + 1) scope.names (cloFrom X.env.cells scope.names [])) s3.heap.objs.size X.env)) (compPost (model X.prog X.w) X.A X.xe none (EP X pins σ Q) (.ref D) s3.heap.objs.size) s4
  have loop : codeAny (model X.prog X.w) X.A (.compLoop (.ListComp elt [⟨tg, iter, ifs, 0⟩] scope pos) 0 (.ref it) (.ref D) (compEnvC scope (cellsFrom (s3.heap.objs.size + 1) scope.names (cloFrom X.env.cells scope.names [])) s3.heap.objs.size X.env)) (compPost (model X.prog X.w) X.A X.xe none (EP X pins σ Q) (.ref D) s3.heap.objs.size) s4 := by
    refine compLoop_any (fun n s' => ∃ i H', Inv BX [] (wipe σ (own.map (·.2))) H' s' ∧ tn i s'.heap ∧ (∀ b ∈ fp, H' b = none) ∧ W i n H') ?_ m0 ⟨0, _, I4, t4, n3, w0⟩
    rintro n s5 ⟨i, H5, I5, t5, n5, w5⟩
    rcases turn i n H5 w5 with ⟨stop, qq⟩ | ⟨go, Nx, hNx, step⟩
    · have td := T.done BX bP.1 bP.2.1 bP.2.2.1 (bP.2.2.2.1.trans hc) i [] s5 _ H5 (fun _ _ => False) I5 (fpB I5 n5) t5 stop
      rw [bP.2.2.2.2.1] at td
      refine thnF td fun r s6 ⟨hr, I6⟩ => ?_
      subst hr
      subst hBX
      have I7 : Inv X pins σ H5 s6 := I3.call' (ch := fp) I6.os I6.base I6.hok I6.bare fun b hb => ⟨(fOk b hb).1.2.2.2.1, (fOk b hb).1.2.1, (fOk b hb).1.2.2.2.2.1, (fOk b hb).1.2.2.2.2.2⟩
      obtain ⟨m, hn, _⟩ := I6.loc
      have nC : H5 s3.heap.objs.size = none := I6.free
      obtain ⟨f0, f1, f2', f3, f4, f5⟩ := I3.fpOk (H' := H5) (Nat.le_refl _) nC
      exact ⟨m, hn, fun h'' sb => ⟨.ref D, H5, I7.turned (t' := s6.toks) (fun b o hb e => (sb.2 b hb).trans e) f0 f1 f3 f4 f5, rfl, qq⟩⟩
    · have ti := T.item BX bP.1 bP.2.1 bP.2.2.1 (bP.2.2.2.1.trans hc) i [] s5 _ H5 (fun _ _ => False) I5 (fpB I5 n5) t5 go
      rw [bP.2.2.2.2.1] at ti
      refine thnF ti fun r s6 ⟨u, hr, h6⟩ => ?_
      subst hr
      refine thnF h6 fun _ s7 ⟨x, H7, I7, r7, y7, t7, n7⟩ => ?_
      have I7' := I7.pinned (fpB I7 n7) (T.obj _ _ t7)
      subst hBX
      refine thnF (pg.run _ s7 _ H7 x u _ I7' r7 (step x H7 y7)) fun _ s8 ⟨σ8, H8, I8, hw8, q8⟩ => ?_
      refine thnF (pt.run _ s8 σ8 H8 _ I8 q8) fun b s9 ⟨H9, I9, q9⟩ => ?_
      cases b with
      | true => exact False.elim q9
      | false =>
        obtain ⟨m', hm, w'⟩ := hNx H9 q9
        have pin' : ∀ b ∈ fp, ∀ o, s7.heap.get? b = some o → s9.heap.get? b = some o ∧ H9 b = none := fun b hb o e =>
          let z := I9.pin (b, o) (List.mem_append_right _ (List.mem_append_right _ (mem_pinsAt hb e)))
          ⟨z.1, z.2.1⟩
        refine ⟨m', hm, i + 1, H9, (I9.unpinned (pins := [])).weak (by rw [← hw8, wipe_length]) (fun j v e => ?_), T.keep _ _ _ t7 fun b hb o e => (pin' b hb o e).1, fun b hb => ?_, w'⟩
        · rw [← hw8] at e
          exact (wipe_some e).1
        · obtain ⟨o, e, _⟩ := T.obj _ _ t7 b hb
          exact (pin' b hb o e).2
  exact codeAny_compStart_list loop (T.self X.A 0 _ _ _ t4 loop)
theorem pe_lcE {X : Cx} {elt tg iter : Expr} {ifs : List Expr} {scope : Scope} {own : List (Str × Nat)} {pos : Pos} {wi : TI} {g : TG} {tt : List (Option V) → TT} {fr : List Str} {js : List Nat} {lsc : Scope} (hfn : ∀ x, X.fn x = true) (hc : X.calm = true) (hN : X.N.Nodup) (hi : PI X tg iter wi) (ok : BlkOk X.N X.env.scope scope own)
    (caps : ∀ pins σ H s, Inv X pins σ H s → Caps X (cloFrom X.env.cells lsc.names []) fr js)
    (hg : ∀ (s : Shared) (H : Hp) (C : Addr) (cl : List (Str × Addr)) (fp : List Addr), PG (X.blk s H scope (compEnvC scope cl C X.env) fp) tg g)
    (ht : ∀ (ws : List (Option V)) (s : Shared) (H : Hp) (C : Addr) (cl : List (Str × Addr)) (fp : List Addr), GdC X (cloFrom X.env.cells lsc.names []) fr ws s H fp → PTs (X.blk s H scope (compEnvC scope cl C X.env) fp) ifs (tt ws))
    (hs : ∀ x, foldedSetIterable iter X.env x = pure x := by intro _; rfl) :
    PE X (.ListComp elt [⟨tg, iter, ifs, 0⟩] scope pos) (fun σ H Q => tLc wi g (tt (js.map (slotAt σ))) (fun _ _ _ => False) (own.map (·.2)) σ H Q) :=
  ⟨fun pins s σ H Q I h => (pe_lcF hfn hc hN hi ok caps hg (ht (js.map (slotAt σ))) hs).run pins s σ H Q I ⟨rfl, h⟩⟩
theorem pe_toldB {X : Cx} {s : Shared} {H : Hp} {scope : Scope} {cenv : Env} {fp : List Addr} {i k j : Nat} {x y a e ret : Str} {g CS : Addr} {st : Stmt} {fd : FuncData} {N : List Str} {p py pos p1 p2 p3 p4 p5 p6 p7 p8 : Pos} {cl : List (Str × Addr)} {fr : List Str} {ws : List (Option V)} (Fn : Fun X.K x x st g fd) (S : FnScope N [a] (defScope st))
    (hbd : defBody st = [.Try [.Return (some (.Call (.Name a p1) [] [] p2)) p3] [.ExceptHandler (some (.Name e p4)) none [.Return (some (.Constant (.str ret) j p5)) p6] p7] [] [] p8]) (hbi : Binds X.K fd [a] []) (hm : X.mg x = some (.ref g)) (hge : (defScope st).names.lookup e = some .globalImplicit) (hme : X.mg e = some (.ref CS))
    (hN : N[0]? = some a) (hv : Vis (defScope st) a) (h0 : ∀ f : Addr, (L2.start N [V.ref f])[0]? = some (some (V.ref f)))
    (hr : Room (k + 1) X.A) (gd : GdC X cl fr ws s H fp) (hg : cenv.scope.names.lookup x = some .globalImplicit) (hy : X.N[i]? = some y) (hvy : Vis cenv.scope y)
    (hdb : (x == ("__debug__" : Str)) = false := by decide) (hdy : (y == ("__debug__" : Str)) = false := by decide) (hcy : (y == ("__classdict__" : Str)) = false := by decide) (hde : (e == ("__debug__" : Str)) = false := by decide) (hd : (a == ("__debug__" : Str)) = false := by decide) (hcd : (a == ("__classdict__" : Str)) = false := by decide) :
    PE (X.blk s H scope cenv fp) (.Call (.Name x p) [.Name y py] [] pos) (tToldC X.K X.prog X.w X.mg X.base k i cl fr ws CS ret) :=
  pe_toldC (X := X.blk s H scope cenv fp) Fn S hbd hbi hm hge hme hN hv h0 hr hg hy hvy gd.1 (fun y c e => (gd.2 y c e).1) (fun y c e => (gd.2 y c e).2) (fun y c e => (gd.2 y c e).1) hdb hdy hcy hde hd hcd
/-- lambda: body; names captured: those of the running frame's cells -/
def tLamVC (P : Addr) (q : Str) (params : Arguments) (body : Expr) (scope : Scope) (cl : List (Str × Addr)) : TE := fun _ H Q => TabS H P q ∧ ∀ (f c' : Addr) (H1 : Hp), ExtN H H1 → TabS H1 P q → H f = none → H1 f = some (LamO f ⟨"<lambda>", q, params, [], scope, cl, c'⟩ body) → H1 c' = some (CodeO c' q) → Q (.ref f) H1
theorem pe_lamvC {X : Cx} {q : Str} {c P : Addr} {params : Arguments} {body : Expr} {scope : Scope} {pos : Pos} (TB : TabB X.base X.mg c P) (hcode : X.env.code = .ref c) (hq : X.env.qual ++ "<lambda>" = q) (hdef : defaultsOf params X.env = ([], []))
    (hfree : ∀ y ∈ scope.names, y.2 = .free → X.env.scope.names.lookup y.1 = some .cell) : PE X (.Lambda params body scope pos) (tLamVC P q params body scope (cloFrom X.env.cells scope.names [])) := by
  refine ⟨fun pins s σ H Q I h => ?_⟩
  obtain ⟨hT, h⟩ := h
  refine lam_value I TB hcode hq hT hdef (fun y hy e => I.ok.has _ (.inl (hfree y hy e))) fun f c' H1 s' I1 eN T1 f0 f1 c1 => ?_
  exact ⟨.ref f, H1, I1, rfl, h f c' H1 eN T1 f0 f1 c1⟩
theorem led_ext {H H1 : Hp} {L : Lg} (hL : Led H L) (hn : ∀ x ∈ L, ∀ ps, x.2 ≠ .tbl ps) (e : ExtN H H1) : Led H1 L := ⟨fun x hx => e _ _ (hL.1 x hx) fun ps z => hn x hx ps z, hL.2⟩
theorem led_moreX {H : Hp} : ∀ (as : List Addr) (R : Lg), Led H R → ∃ Z : Lg, Led H (Z ++ R) ∧ ∀ a ∈ as, ∀ o, H a = some o → ∀ H', Led H' (Z ++ R) → H' a = some o
  | [], R, h => ⟨[], h, fun _ h => nomatch h⟩
  | a :: as, R, h => by
    obtain ⟨Z, h1, k1⟩ := led_moreX as R h
    by_cases e : ∃ o, (a, o) ∈ Z ++ R
    · obtain ⟨o, ho⟩ := e
      refine ⟨Z, h1, fun b hb o' hb' H' h' => ?_⟩
      rcases List.mem_cons.mp hb with rfl | hb
      · have := h1.mem ho
        rw [hb'] at this
        cases this
        exact h'.mem ho
      · exact k1 b hb o' hb' H' h'
    · rcases ha : H a with _ | o
      · refine ⟨Z, h1, fun b hb o' hb' H' h' => ?_⟩
        rcases List.mem_cons.mp hb with rfl | hb
        · rw [ha] at hb'; cases hb'
        · exact k1 b hb o' hb' H' h'
      · refine ⟨(a, o) :: Z, ⟨fun x hx => ?_, ?_⟩, fun b hb o' hb' H' h' => ?_⟩
        · rcases List.mem_cons.mp hx with rfl | hx
          · exact ha
          · exact h1.1 x hx
        · rw [List.cons_append, List.map_cons]
          refine List.nodup_cons.mpr ⟨fun hm => ?_, h1.2⟩
          obtain ⟨x, hx, ex⟩ := List.mem_map.mp hm
          exact e ⟨x.2, by
            have ex : x.1 = a := ex
            rw [← ex]; exact hx⟩
        · rcases List.mem_cons.mp hb with rfl | hb
          · rw [ha] at hb'; cases hb'
            exact h'.mem (.head _)
          · exact k1 b hb o' hb' H' h'.tail
end Sd


/-! the head's facts for the end of a law -/
namespace Sd
open PySem PySem.Spec PyProof.Rows L2
theorem fun_ofD {K : PySem.W.Frag} {x qual : Str} {st : Stmt} {f : Addr} {fd : FuncData} (F : FunD K x qual (defArgs st) (defBody st) (defScope st) [] [] f fd) : Fun K x qual st f fd := by
  obtain ⟨oc, od, dV, kV, doc, pm, an, cdv, ct, osl, e, lk, hcd, hD, hK⟩ := F.ex
  rcases hD with ⟨_, rfl⟩ | ⟨ne, _⟩
  · exact ⟨⟨oc, od, kV, doc, pm, an, cdv, ct, osl, e, lk, hcd⟩, F.kp⟩
  · exact absurd rfl ne
/-- a def whose own code is told -/
theorem fun_code {K : PySem.W.Frag} {x qual : Str} {st : Stmt} {p : He.Defn} {fd : FuncData} (F : Fun K x qual st (He.fAd K p) fd) :
    ∃ (oc : Value) (od : Option Addr) (kV doc pm : Value) (an : Option Addr) (ct : Value) (osl : Array (Option Value)),
      fd = PySem.W.fnOf x qual (defArgs st) (defBody st) (defScope st) .none kV doc pm an (.ref (He.cT K p).1) ct ∧ K.lookup (He.fAd K p) = some ⟨oc, od, .func fd, osl⟩ ∧ PySem.W.codeIn K (.ref (He.cT K p).1) qual = true := by
  obtain ⟨oc, od, kV, doc, pm, an, cdv, ct, osl, rfl, lk, hcd⟩ := F.ex
  obtain ⟨c, rfl⟩ := He.codeIn_ref hcd
  have e : (He.cT K p).1 = c := He.codeOf_eq lk rfl
  rw [e]
  exact ⟨oc, od, kV, doc, pm, an, ct, osl, rfl, lk, hcd⟩
theorem exc_T {K : PySem.W.Frag} {h : Heap} {mg : Str → Option Value} {x : Str} (X : K.In h) (G : h.Ns mainGlobals mg) (c1 : (He.Fa.glo x).ok K = true) (c2 : (He.Fa.exc x).ok K = true) (c3 : PySem.W.isClsIn K (He.ga K x) = true) (c4 : PySem.W.subIn K (.ref (He.ga K x)) (.ref (He.ga K x)) = some true) : ExcT K mg x (He.ga K x) := by
  obtain ⟨e1, e2, e3, e4⟩ := He.exc_ok c2
  exact ⟨He.glo_ok X G c1, e1, e2, e3, e4, c3, c4⟩
end Sd


namespace Sd
open PySem L2
open C8 (Cal Met Mak pe_c pe_mk pe_mt pe_mt0 tCut)
def top (i : Nat) : Stmt := PySem.Challenge.pw_shardstack_k23_shares_by_weight.main.body.getD i (.Pass ⟨0, 0, 0, 0⟩)
abbrev sDice : Stmt := top 7
abbrev sRoll : Stmt := top 8
abbrev sTold : Stmt := top 10
abbrev sRounds : Stmt := top 9

structure TxtL (mg : Str → Option Value) : Prop where
  abs : mg "abs" = none
  int : mg "int" = none
set_option linter.unusedSimpArgs false
set_option pp.deepTerms false
set_option pp.deepTerms.threshold 12
set_option hygiene false
local macro_rules | `(tactic| fail "nd") => `(tactic| first | assumption | decide +kernel)
local macro_rules | `(tactic| fail "ix") => `(tactic| first | exact ⟨0, rfl⟩ | exact ⟨1, rfl⟩ | exact ⟨2, rfl⟩ | exact ⟨3, rfl⟩ | exact ⟨4, rfl⟩ | exact ⟨5, rfl⟩ | exact ⟨6, rfl⟩ | exact ⟨7, rfl⟩ | exact ⟨8, rfl⟩ | exact ⟨9, rfl⟩ | exact ⟨10, rfl⟩ | exact ⟨11, rfl⟩ | exact ⟨12, rfl⟩ | exact ⟨13, rfl⟩ | exact ⟨14, rfl⟩ | exact ⟨15, rfl⟩ | exact ⟨16, rfl⟩ | exact ⟨17, rfl⟩ | exact ⟨18, rfl⟩ | assumption)
local macro_rules | `(tactic| fail "up") => `(tactic| first | exact ⟨0, rfl, rfl⟩ | exact ⟨1, rfl, rfl⟩ | exact ⟨2, rfl, rfl⟩ | exact ⟨3, rfl, rfl⟩ | exact ⟨4, rfl, rfl⟩ | exact ⟨5, rfl, rfl⟩ | exact ⟨6, rfl, rfl⟩ | exact ⟨7, rfl, rfl⟩ | exact ⟨8, rfl, rfl⟩ | exact ⟨9, rfl, rfl⟩ | exact ⟨10, rfl, rfl⟩ | exact ⟨11, rfl, rfl⟩ | exact ⟨12, rfl, rfl⟩ | exact ⟨13, rfl, rfl⟩ | exact ⟨14, rfl, rfl⟩ | exact ⟨15, rfl, rfl⟩ | exact ⟨16, rfl, rfl⟩ | assumption)
local macro_rules | `(tactic| fail "lkF") => `(tactic| first | assumption | exact fz_at 0 (by fail "nd") rfl rfl | exact fz_at 1 (by fail "nd") rfl rfl | exact fz_at 2 (by fail "nd") rfl rfl | exact fz_at 3 (by fail "nd") rfl rfl | exact fz_at 4 (by fail "nd") rfl rfl | exact fz_at 5 (by fail "nd") rfl rfl | exact fz_at 6 (by fail "nd") rfl rfl | exact fz_at 7 (by fail "nd") rfl rfl)
local macro_rules | `(tactic| fail "lkD") => `(tactic| first | assumption | exact dz_at 0 (by fail "nd") rfl rfl | exact dz_at 1 (by fail "nd") rfl rfl | exact dz_at 2 (by fail "nd") rfl rfl | exact dz_at 3 (by fail "nd") rfl rfl | exact dz_at 4 (by fail "nd") rfl rfl)
local macro_rules | `(tactic| fail "ptF") => `(tactic| first | assumption | exact fz_put 0 (by fail "nd") rfl (Nat.le_of_ble_eq_true rfl) | exact fz_put 1 (by fail "nd") rfl (Nat.le_of_ble_eq_true rfl) | exact fz_put 2 (by fail "nd") rfl (Nat.le_of_ble_eq_true rfl) | exact fz_put 3 (by fail "nd") rfl (Nat.le_of_ble_eq_true rfl) | exact fz_put 4 (by fail "nd") rfl (Nat.le_of_ble_eq_true rfl) | exact fz_put 5 (by fail "nd") rfl (Nat.le_of_ble_eq_true rfl) | exact fz_put 6 (by fail "nd") rfl (Nat.le_of_ble_eq_true rfl) | exact fz_put 7 (by fail "nd") rfl (Nat.le_of_ble_eq_true rfl) | exact fz_new (by decide +kernel) rfl)
local macro_rules | `(tactic| fail "ptD") => `(tactic| first | assumption | exact dz_put 0 (by fail "nd") rfl (Nat.le_of_ble_eq_true rfl) | exact dz_put 1 (by fail "nd") rfl (Nat.le_of_ble_eq_true rfl) | exact dz_put 2 (by fail "nd") rfl (Nat.le_of_ble_eq_true rfl) | exact dz_put 3 (by fail "nd") rfl (Nat.le_of_ble_eq_true rfl) | exact dz_put 4 (by fail "nd") rfl (Nat.le_of_ble_eq_true rfl))
local macro_rules | `(tactic| fail "sz") => `(tactic| first | assumption | exact (Nat.le_of_ble_eq_true rfl) | omega | decide)
local macro_rules | `(tactic| fail "sd") => `(tactic| first | rfl | assumption | decide | omega | (dsimp only; first | decide | omega) | exact .inr ⟨by decide, by decide⟩ | exact .inl ⟨by decide, by decide⟩ | exact ⟨by omega, by omega⟩ | exact .inl ⟨by omega, by omega⟩ | exact .inr ⟨by omega, by omega⟩ | exact ⟨by omega, by omega, by omega⟩)
local macro_rules | `(tactic| fail "cl") => `(tactic| (clear hH; dsimp only [List.set, List.cons_append, List.nil_append, List.append] at hL))
local macro_rules | `(tactic| fail "gn") => `(tactic| (intro p hp; generalize hH : upd H p _ = H; replace hL := Led.newH hL hp hH; clear hH hp))
local macro_rules | `(tactic| fail "gup") => `(tactic| (generalize hH : upd H _ _ = H; replace hL := Led.upU hL (by fail "up") hH; fail "cl"))
local macro_rules | `(tactic| fail "gmk") => `(tactic| (intro x dx hx hd ne; generalize hH : upd (upd H dx _) x _ = H; replace hL := Led.made hL hx hd ne hH; clear hH hx hd ne))
local macro_rules | `(tactic| fail "v") => `(tactic| refine ⟨_, rfl, ?_⟩)
local macro_rules | `(tactic| fail "i2") => `(tactic| refine ⟨_, _, rfl, rfl, ?_⟩)
local macro_rules | `(tactic| fail "go1") => `(tactic| first
  | refine ⟨_, rfl, ?_⟩
  | refine ⟨_, _, rfl, rfl, ?_⟩
  | refine ⟨_, _, rfl, ?_⟩
  | refine iteT ?_
  | refine iteF ?_
  | refine k_fld hL (by fail "ix") (by assumption) (by assumption) (by fail "lkF") ?_
  | refine k_dgetS hL (by fail "ix") (by fail "lkD") ?_
  | refine k_dgetI hL (by fail "ix") (by assumption) ?_
  | refine k_ixL hL (by fail "ix") (by first | rfl | assumption) ?_
  | refine k_ixT hL (by fail "ix") (by first | rfl | assumption) ?_
  | refine k_tyL hL (by fail "ix") ?_
  | refine k_isd hL (by fail "ix") ?_
  | (refine And.intro (by fail "sz") ?_; fail "gn")
  | refine And.intro (by fail "sd") ?_
  | fail "gn"
  | refine k_meth hL (by fail "ix") (by first | assumption | exact fz_no (by decide +kernel)) ?_
  | refine k_gtup hL (by fail "ix") rfl ?_
  | (refine k_popI hL (by fail "ix") (by assumption) ?_; fail "gup")
  | (refine k_listD hL (by fail "ix") ?_; fail "gn")
  | (refine ⟨_, _, _, _, rfl, rfl, hL.at (by fail "ix"), rfl, ?_⟩; fail "gup")
  | (refine ⟨_, _, _, rfl, rfl, hL.at (by fail "ix"), (by fail "sz"), ?_⟩; fail "gup")
  | (refine ⟨_, _, _, _, rfl, hL.at (by fail "ix"), by assumption, by assumption, Nat.lt_of_le_of_lt fz_len (by decide), ?_⟩; generalize hH : upd H _ _ = H; replace hL := Led.upF hL (by fail "up") (by fail "ptF") hH; fail "cl")
  | (refine ⟨_, _, hL.at (by fail "ix"), Nat.lt_of_le_of_lt fz_len (by decide), ?_⟩; generalize hH : upd H _ _ = H; replace hL := Led.upF hL (by fail "up") (by fail "ptF") hH; fail "cl")
  | (refine k_dputS hL (by fail "ix") (Nat.lt_of_le_of_lt dz_len (by decide)) (by fail "ptD") (by fail "up") ?_; clear hL; intro H hL; dsimp only [List.set, List.cons_append, List.nil_append, List.append] at hL)
  | refine k_lenL2 hL (by fail "ix") ?_
  | refine k_lenT2 hL (by fail "ix") ?_
  | refine .inl ⟨_, rfl, ?_⟩
  | refine .inr ⟨_, rfl, ?_⟩)
local macro_rules | `(tactic| fail "go") => `(tactic| repeat fail "go1")
local macro_rules | `(tactic| fail "pm") => `(tactic| (refine Led.le hL (fun a_ => ?_); simp only [cnt_nil, cnt_cons, cnt_app, List.map_append, List.map_cons, List.map_nil, List.flatMap_append, List.flatMap_cons, List.flatMap_nil, List.append_assoc, List.cons_append, List.nil_append]; omega))

def dD (a b c : Int) : HO := .lst [.int a, .int b, .int c]
def spDice : Sp := fun vs H Q _ => ∃ (c : Int) (L : Lg), vs = [.int c] ∧ Led H L ∧ ∀ (a b d : Int) (p : Addr) (H' : Hp), Led H' ((p, dD a b d) :: L) → Q (.ref p) H'
def spRoll : Sp := fun vs H Q _ => ∃ (l : Addr) (a b c m : Int) (R : Lg), vs = [.ref l, .int m] ∧ Led H ((l, dD a b c) :: R) ∧ 1 ≤ m ∧ m ≤ 100000000 ∧
  ∀ (r a' b' c' : Int) (H' : Hp), 0 ≤ r → r < m → Led H' ((l, dD a' b' c') :: R) → Q (.int r) H'
section
variable {P : Program} {w : World} {K : PySem.W.Frag} {mg : Str → Option Value} {base : Heap}
theorem scDice : FnScope ["cell"] ["cell"] (defScope sDice) := ⟨rfl, rfl, rfl, by decide +kernel, rfl, by decide +kernel, by decide +kernel⟩
theorem ok_dice {f : Addr} {fd : FuncData} (F : Fun K "_law_dice" "_law_dice" sDice f fd) (T : TxtL mg) : FnOk P w K mg base CX0 1 f fd ["cell"] spDice := by
  refine F.ok scDice (fun vs H Q E h => ?_) (fun cdv A outer s H vs Q E hr h => ?_)
  · obtain ⟨c, L, rfl, _⟩ := h
    rfl
  · obtain ⟨c, L, rfl, hL, k⟩ := h
    refine ⟨_, pss_cons (ps_if (pt_chain op_lt op_lt (pe_op op_sub pe_int pe_int) (pv 0) pe_int) (pss_one (ps_ret (pe_lst (pa_cons (pe_callB call_abs (by rfl) T.abs (by decide +kernel) (pa_cons (pv 0) pa_nil)) (pa_cons pe_int (pa_cons pe_int pa_nil)))))) pss_nil)
      (pss_one (ps_ret (pe_lst (pa_cons (pv 0) (pa_cons (pe_op op_add pe_int (pe_op op_mod (pe_callTy call_int1 (by rfl) T.int (by decide +kernel) (pa_cons (pv 0) pa_nil)) pe_int)) (pa_cons (pe_callTy call_int1 (by rfl) T.int (by decide +kernel) (pa_cons (pe_cmpR op_ge (pv 0) (pe_op op_pow pe_int pe_int) (nomark _)) pa_nil)) pa_nil)))))), ?_⟩
    fail "go"
    refine ite_d (fun h1 => ?_) (fun h1 => ?_)
    · fail "go"
      refine ite_d (fun h2 => ?_) (fun h2 => ?_)
      · fail "go"
        exact k _ _ _ _ _ hL
      · fail "go"
        exact k _ _ _ _ _ hL
    · fail "go"
      exact k _ _ _ _ _ hL
theorem scRoll : FnScope ["dice", "many", "found"] ["dice", "many"] (defScope sRoll) := ⟨rfl, rfl, rfl, by decide +kernel, rfl, by decide +kernel, by decide +kernel⟩
theorem ok_roll {f : Addr} {fd : FuncData} (F : Fun K "_law_roll" "_law_roll" sRoll f fd) (T : TxtL mg) : FnOk P w K mg base CX0 1 f fd ["dice", "many"] spRoll := by
  refine F.ok scRoll (fun vs H Q E h => ?_) (fun cdv A outer s H vs Q E hr h => ?_)
  · obtain ⟨l, a, b, c, m, R, rfl, _⟩ := h
    rfl
  · obtain ⟨l, a, b, c, m, R, rfl, hL, h1, h2, k⟩ := h
    refine ⟨_, pss_cons (ps_if (PW.pt (pw_or (pt_cmpR op_eq (pe_ix ix_list (pv 0) pe_int (fun _ _ => rfl)) pe_int (nomark _)) (pw_or1 (PW.pt (pw_and (pt_cmpR op_eq (pe_ix ix_list (pv 0) pe_int (fun _ _ => rfl)) pe_int (nomark _)) (pw_and1 (pt_cmpR op_gt (pe_ix ix_list (pv 0) pe_int (fun _ _ => rfl)) pe_int (nomark _))))))))
        (pss_cons (ps_set (i := 2) scRoll.nd rfl (Or.inl rfl) (pe_op op_mod (pe_callTy call_int1 (by rfl) T.int (by decide +kernel) (pa_cons (pe_ix ix_list (pv 0) pe_int (fun _ _ => rfl)) pa_nil)) (pv 1)))
          (pss_cons (ps_asg (pe_op op_fdiv (pe_ix ix_list (pv 0) pe_int (fun _ _ => rfl)) (pv 1)) (pg_sub (pv 0) pe_int set_list)) (pss_one (ps_ret (pv 2)))))
        pss_nil)
      (pss_cons (ps_asg pe_int (pg_sub (pv 0) pe_int set_list))
      (pss_cons (ps_if (pt_cmpR op_gt (pv 1) pe_int (nomark _)) pss_never pss_nil)
      (pss_cons (ps_asg (pe_op op_mod (pe_callTy call_int1 (by rfl) T.int (by decide +kernel) (pa_cons (pe_op op_add (pe_op op_add (pe_op op_mul (pe_ix ix_list (pv 0) pe_int (fun _ _ => rfl)) pe_int) (pe_op op_mul (pe_ix ix_list (pv 0) pe_int (fun _ _ => rfl)) pe_int)) pe_int) pa_nil)) pe_int) (pg_sub (pv 0) pe_int set_list))
      (pss_cons (ps_asg (pe_op op_add (pe_ix ix_list (pv 0) pe_int (fun _ _ => rfl)) pe_int) (pg_sub (pv 0) pe_int set_list))
      (pss_one (ps_ret (pe_op op_mod (pe_callTy call_int1 (by rfl) T.int (by decide +kernel) (pa_cons (pe_op op_fdiv (pe_ix ix_list (pv 0) pe_int (fun _ _ => rfl)) pe_int) pa_nil)) (pv 1)))))))), ?_⟩
    unfold dD at hL
    have hm : ∀ (x b c : Int) (H : Hp), Led H ((l, .lst [.int (x / m), .int b, .int c]) :: R) → Q (.int (x % m)) H := fun x b c H h => k _ _ _ _ _ (Int.emod_nonneg _ (by omega)) (Int.emod_lt_of_pos _ (by omega)) h
    have hd : ∀ (x a b c : Int) (H : Hp), Led H ((l, .lst [.int a, .int b, .int c]) :: R) → Q (.int (x % m)) H := fun x a b c H h => k _ _ _ _ _ (Int.emod_nonneg _ (by omega)) (Int.emod_lt_of_pos _ (by omega)) h
    fail "go"
    refine ite_d (fun q1 => ?_) (fun q1 => ?_)
    · fail "go"
      exact hm _ _ _ _ hL
    · fail "go"
      refine ite_d (fun q2 => ?_) (fun q2 => ?_)
      · fail "go"
        refine ite_d (fun q3 => ?_) (fun q3 => ?_)
        · fail "go"
          exact hm _ _ _ _ hL
        · fail "go"
          refine ite_d (fun q4 => absurd q4 (by omega)) (fun q4 => ?_)
          fail "go"
          exact hd _ _ _ _ _ hL
      · fail "go"
        refine ite_d (fun q4 => absurd q4 (by omega)) (fun q4 => ?_)
        fail "go"
        exact hd _ _ _ _ _ hL
end
/-- script[:1], or [0]: one dice -/
def spRounds (K : PySem.W.Frag) : Sp := fun vs H Q _ => ∃ (a : Addr) (ns : List Int) (L : Lg), vs = [.ref a, .int 1] ∧ SqL K H a (ns.map V.int) ∧ Led H L ∧ ∀ (p d : Addr) (x y z : Int) (H' : Hp), Led H' ((p, .lst [.ref d]) :: (d, dD x y z) :: L) → Q (.ref p) H'
section
variable {P : Program} {w : World} {K : PySem.W.Frag} {mg : Str → Option Value} {base : Heap}
theorem scRounds : FnScope ["script", "most", "cells", "cell"] ["script", "most"] (defScope sRounds) := ⟨rfl, rfl, rfl, by decide +kernel, rfl, by decide +kernel, by decide +kernel⟩
theorem cut_1 (ns : List Int) : cutV (ns.map V.int) none (some 1) = (ns.take 1).map V.int := by
  unfold cutV
  rw [show (some (1 : Int)) = some ((1 : Nat) : Int) from rfl, HT.sIx_nat, HT.sIx_none]
  cases ns <;> simp
theorem ok_rounds {f : Addr} {fd : FuncData} (F : Fun K "_law_rounds" "_law_rounds" sRounds f fd) (c__law_dice : Cal P w K mg base 1 "_law_dice" spDice []) :
    FnOk P w K mg base CX0 2 f fd ["script", "most"] (spRounds K) := by
  refine F.ok scRounds (fun vs H Q E h => ?_) (fun cdv A outer s H vs Q E hr h => ?_)
  · obtain ⟨a, ns, L, rfl, _⟩ := h
    rfl
  · obtain ⟨a, ns, L, rfl, hS, hL, k⟩ := h
    refine ⟨_, (pss_cons (ps_set (i := 2) scRounds.nd rfl (Or.inl rfl) (pe_slice sl_list (pv 0) po_none (po_some (pv 1))))
  (C8.pss_cut (ps_if (pt_cmpR (op_eqP hr.units) (pv 2) (pe_lst pa_nil) (nomark _))
  (pss_one (ps_set (i := 2) scRounds.nd rfl (Or.inl rfl) (pe_lst (pa_cons pe_int pa_nil))))
  pss_nil)
  (pss_one (ps_ret (pe_lc (own := [("cell", 3)]) (g := gName 3) (by rfl) scRounds.nd (pi_list (pv 2)) (blkOk_by (own := [("cell", 3)]) (N := ["script", "most", "cells", "cell"]) (sc := (defScope sRounds)) (by decide +kernel)) (fun _ _ _ _ _ => (pg_name (i := 3) scRounds.nd rfl (Or.inl rfl))) (fun _ _ _ _ _ => pts_nil) (fun _ _ _ _ _ => (pe_c c__law_dice hr (by decide) (by rfl) (pa_cons (pv 3) pa_nil)))))))), ?_⟩
    refine ⟨_, rfl, _, rfl, 1, rfl, a, _, rfl, hS, ?_⟩
    rw [cut_1]
    fail "gn"
    refine ⟨fun σ H => Hold (∃ (a p : Addr) (c : Int) (v3 : Option V), σ = [some (.ref a), some (.int 1), some (.ref p), v3] ∧ Led H ((p, .lst [.int c]) :: L)), ?_, ?_⟩
    · fail "go"
      refine ⟨_, _, dp_lst (hL.at ⟨1, rfl⟩) dp_ints, dp_lst (hL.at ⟨0, rfl⟩) .nil, shal_ints, shal_ints (ns := []), _, rfl, ?_⟩
      refine ite_b (fun h1 => ?_) (fun h1 => ?_)
      · fail "go"
        refine .mk ⟨a, _, 0, _, rfl, ?_⟩
        exact hL.sub (.cons_cons _ ((List.sublist_cons_self _ _).trans (List.sublist_cons_self _ _)))
      · cases ns with
        | nil => simp [PyData.eqv, PyData.eqvAll] at h1
        | cons n ns =>
          fail "go"
          exact .mk ⟨a, _, n, _, rfl, hL.tail⟩
    · intro σ H h
      obtain ⟨a, p, c, v3, rfl, hL⟩ := h.out
      clear h
      refine ⟨_, rfl, p, rfl, ⟨_, .of (hL.at ⟨0, rfl⟩)⟩, fun D hD => lc_list (K := K) (a := p) (xs := [.int c]) (fun i H => Hold ((i = 0 ∧ Led H ((D, .lst []) :: (p, .lst [.int c]) :: L)) ∨ (i = 1 ∧ ∃ (d : Addr) (x y z : Int), Led H ((D, .lst [.ref d]) :: (d, dD x y z) :: (p, .lst [.int c]) :: L)))) ?_ ?_ ?_ ?_⟩
      · exact .mk (.inl ⟨rfl, hL.new hD⟩)
      · intro i H _ h
        rcases h.out with ⟨_, hL⟩ | ⟨_, d, x, y, z, hL⟩
        · exact .of (hL.at ⟨1, rfl⟩)
        · exact .of (hL.at ⟨2, rfl⟩)
      · intro i y H hi h
        rcases h.out with ⟨rfl, hL⟩ | ⟨rfl, d, x, y, z, hL⟩
        · obtain rfl : V.int c = y := Option.some.inj hi
          clear h
          refine ⟨rfl, ?_⟩
          refine k_yes ?_
          refine ⟨_, rfl, c, _, rfl, hL, fun x y z d H hL => ⟨_, hL.at ⟨1, rfl⟩, by decide, ?_⟩⟩
          generalize hH : upd H _ _ = H
          refine .mk (.inr ⟨rfl, d, x, y, z, ?_⟩)
          exact (hL.upU (o' := .lst [.ref d]) ⟨1, rfl, rfl⟩ hH).perm (List.Perm.swap _ _ _)
        · cases hi
      · intro H h
        rcases h.out with ⟨q, _⟩ | ⟨_, d, x, y, z, hL⟩
        · cases q
        · refine k D d x y z _ (hL.sub ?_)
          exact .cons_cons _ (.cons_cons _ (List.sublist_cons_self _ _))
theorem scTold : FnScope ["what"] ["what"] (defScope sTold) := ⟨rfl, rfl, rfl, by decide +kernel, rfl, by decide +kernel, by decide +kernel⟩
theorem ok_told {CE : Addr} {f : Addr} {fd : FuncData} (F : Fun K "_law_told" "_law_told" sTold f fd) (T : ExcT K mg "QueueError" CE) : FnOk P w K mg base CX0 7 f fd ["what"] (spTold P w K mg base 6 CE "QueueError") := by
  refine F.ok scTold (fun vs H Q E h => ?_) (fun cdv A outer s H vs Q E hr h => ?_)
  · obtain ⟨f, F, b, tl, rfl, _⟩ := h
    rfl
  · exact ps_told (by rfl) T.g rfl (Or.inl rfl) (fun _ => rfl) hr h
end
end Sd


set_option linter.unusedVariables false
namespace Sd
open PySem L2
open C8 (Cal Met Mak pe_c pe_mk pe_mt pe_mt0 pss_cut tCut)
def inClass (st : Stmt) (i : Nat) : Stmt := (C8.clsBody st).getD i (.Pass ⟨0, 0, 0, 0⟩)
abbrev sTInit : Stmt := inClass (top 4) 0
abbrev sSInit : Stmt := inClass (top 5) 0
abbrev sAdd : Stmt := inClass (top 5) 1
abbrev sPut : Stmt := inClass (top 5) 2
abbrev sNext : Stmt := inClass (top 5) 3
set_option linter.unusedSimpArgs false
set_option pp.deepTerms false
set_option pp.deepTerms.threshold 12
set_option hygiene false
local macro_rules | `(tactic| fail "nd") => `(tactic| first | assumption | decide +kernel)
local macro_rules | `(tactic| fail "ix") => `(tactic| first | exact ⟨0, rfl⟩ | exact ⟨1, rfl⟩ | exact ⟨2, rfl⟩ | exact ⟨3, rfl⟩ | exact ⟨4, rfl⟩ | exact ⟨5, rfl⟩ | exact ⟨6, rfl⟩ | exact ⟨7, rfl⟩ | exact ⟨8, rfl⟩ | exact ⟨9, rfl⟩ | exact ⟨10, rfl⟩ | exact ⟨11, rfl⟩ | exact ⟨12, rfl⟩ | exact ⟨13, rfl⟩ | exact ⟨14, rfl⟩ | exact ⟨15, rfl⟩ | exact ⟨16, rfl⟩ | exact ⟨17, rfl⟩ | exact ⟨18, rfl⟩ | assumption)
local macro_rules | `(tactic| fail "up") => `(tactic| first | exact ⟨0, rfl, rfl⟩ | exact ⟨1, rfl, rfl⟩ | exact ⟨2, rfl, rfl⟩ | exact ⟨3, rfl, rfl⟩ | exact ⟨4, rfl, rfl⟩ | exact ⟨5, rfl, rfl⟩ | exact ⟨6, rfl, rfl⟩ | exact ⟨7, rfl, rfl⟩ | exact ⟨8, rfl, rfl⟩ | exact ⟨9, rfl, rfl⟩ | exact ⟨10, rfl, rfl⟩ | exact ⟨11, rfl, rfl⟩ | exact ⟨12, rfl, rfl⟩ | exact ⟨13, rfl, rfl⟩ | exact ⟨14, rfl, rfl⟩ | exact ⟨15, rfl, rfl⟩ | exact ⟨16, rfl, rfl⟩ | assumption)
local macro_rules | `(tactic| fail "lkF") => `(tactic| first | assumption | exact fz_at 0 (by fail "nd") rfl rfl | exact fz_at 1 (by fail "nd") rfl rfl | exact fz_at 2 (by fail "nd") rfl rfl | exact fz_at 3 (by fail "nd") rfl rfl | exact fz_at 4 (by fail "nd") rfl rfl | exact fz_at 5 (by fail "nd") rfl rfl | exact fz_at 6 (by fail "nd") rfl rfl | exact fz_at 7 (by fail "nd") rfl rfl)
local macro_rules | `(tactic| fail "lkD") => `(tactic| first | assumption | exact dz_at 0 (by fail "nd") rfl rfl | exact dz_at 1 (by fail "nd") rfl rfl | exact dz_at 2 (by fail "nd") rfl rfl | exact dz_at 3 (by fail "nd") rfl rfl | exact dz_at 4 (by fail "nd") rfl rfl)
local macro_rules | `(tactic| fail "ptF") => `(tactic| first | assumption | exact fz_put 0 (by fail "nd") rfl (Nat.le_of_ble_eq_true rfl) | exact fz_put 1 (by fail "nd") rfl (Nat.le_of_ble_eq_true rfl) | exact fz_put 2 (by fail "nd") rfl (Nat.le_of_ble_eq_true rfl) | exact fz_put 3 (by fail "nd") rfl (Nat.le_of_ble_eq_true rfl) | exact fz_put 4 (by fail "nd") rfl (Nat.le_of_ble_eq_true rfl) | exact fz_put 5 (by fail "nd") rfl (Nat.le_of_ble_eq_true rfl) | exact fz_put 6 (by fail "nd") rfl (Nat.le_of_ble_eq_true rfl) | exact fz_put 7 (by fail "nd") rfl (Nat.le_of_ble_eq_true rfl) | exact fz_new (by decide +kernel) rfl)
local macro_rules | `(tactic| fail "ptD") => `(tactic| first | assumption | exact dz_put 0 (by fail "nd") rfl (Nat.le_of_ble_eq_true rfl) | exact dz_put 1 (by fail "nd") rfl (Nat.le_of_ble_eq_true rfl) | exact dz_put 2 (by fail "nd") rfl (Nat.le_of_ble_eq_true rfl) | exact dz_put 3 (by fail "nd") rfl (Nat.le_of_ble_eq_true rfl) | exact dz_put 4 (by fail "nd") rfl (Nat.le_of_ble_eq_true rfl))
local macro_rules | `(tactic| fail "sz") => `(tactic| first | assumption | exact (Nat.le_of_ble_eq_true rfl) | omega | decide)
local macro_rules | `(tactic| fail "sd") => `(tactic| first | rfl | assumption | decide | omega | (dsimp only; first | decide | omega) | exact .inr ⟨by decide, by decide⟩ | exact .inl ⟨by decide, by decide⟩ | exact ⟨by omega, by omega⟩ | exact .inl ⟨by omega, by omega⟩ | exact .inr ⟨by omega, by omega⟩ | exact ⟨by omega, by omega, by omega⟩)
local macro_rules | `(tactic| fail "cl") => `(tactic| (clear hH; dsimp only [List.set, List.cons_append, List.nil_append, List.append] at hL))
local macro_rules | `(tactic| fail "gn") => `(tactic| (intro p hp; generalize hH : upd H p _ = H; replace hL := Led.newH hL hp hH; clear hH hp))
local macro_rules | `(tactic| fail "gup") => `(tactic| (generalize hH : upd H _ _ = H; replace hL := Led.upU hL (by fail "up") hH; fail "cl"))
local macro_rules | `(tactic| fail "gmk") => `(tactic| (intro x dx hx hd ne; generalize hH : upd (upd H dx _) x _ = H; replace hL := Led.made hL hx hd ne hH; clear hH hx hd ne))
local macro_rules | `(tactic| fail "v") => `(tactic| refine ⟨_, rfl, ?_⟩)
local macro_rules | `(tactic| fail "i2") => `(tactic| refine ⟨_, _, rfl, rfl, ?_⟩)
local macro_rules | `(tactic| fail "go1") => `(tactic| first
  | refine ⟨_, rfl, ?_⟩
  | refine ⟨_, _, rfl, rfl, ?_⟩
  | refine ⟨_, _, rfl, ?_⟩
  | refine iteT ?_
  | refine iteF ?_
  | refine k_fld hL (by fail "ix") (by assumption) (by assumption) (by fail "lkF") ?_
  | refine k_dgetS hL (by fail "ix") (by fail "lkD") ?_
  | refine k_dgetI hL (by fail "ix") (by assumption) ?_
  | refine k_ixL hL (by fail "ix") (by first | rfl | assumption) ?_
  | refine k_ixT hL (by fail "ix") (by first | rfl | assumption) ?_
  | refine k_tyL hL (by fail "ix") ?_
  | refine k_isd hL (by fail "ix") ?_
  | (refine And.intro (by fail "sz") ?_; fail "gn")
  | refine And.intro (by fail "sd") ?_
  | fail "gn"
  | refine k_meth hL (by fail "ix") (by first | assumption | exact fz_no (by decide +kernel)) ?_
  | refine k_gtup hL (by fail "ix") rfl ?_
  | (refine k_popI hL (by fail "ix") (by assumption) ?_; fail "gup")
  | (refine k_listD hL (by fail "ix") ?_; fail "gn")
  | (refine ⟨_, _, _, _, rfl, rfl, hL.at (by fail "ix"), rfl, ?_⟩; fail "gup")
  | (refine ⟨_, _, _, rfl, rfl, hL.at (by fail "ix"), (by fail "sz"), ?_⟩; fail "gup")
  | (refine ⟨_, _, _, _, rfl, hL.at (by fail "ix"), by assumption, by assumption, Nat.lt_of_le_of_lt fz_len (by decide), ?_⟩; generalize hH : upd H _ _ = H; replace hL := Led.upF hL (by fail "up") (by fail "ptF") hH; fail "cl")
  | (refine ⟨_, _, hL.at (by fail "ix"), Nat.lt_of_le_of_lt fz_len (by decide), ?_⟩; generalize hH : upd H _ _ = H; replace hL := Led.upF hL (by fail "up") (by fail "ptF") hH; fail "cl")
  | (refine k_dputS hL (by fail "ix") (Nat.lt_of_le_of_lt dz_len (by decide)) (by fail "ptD") (by fail "up") ?_; clear hL; intro H hL; dsimp only [List.set, List.cons_append, List.nil_append, List.append] at hL)
  | refine k_lenL2 hL (by fail "ix") ?_
  | refine k_lenT2 hL (by fail "ix") ?_
  | refine .inl ⟨_, rfl, ?_⟩
  | refine .inr ⟨_, rfl, ?_⟩)
local macro_rules | `(tactic| fail "go") => `(tactic| repeat fail "go1")
local macro_rules | `(tactic| fail "pm") => `(tactic| (refine Led.le hL (fun a_ => ?_); simp only [cnt_nil, cnt_cons, cnt_app, List.map_append, List.map_cons, List.map_nil, List.flatMap_append, List.flatMap_cons, List.flatMap_nil, List.append_assoc, List.cons_append, List.nil_append]; omega))

/-- a work that waits: the tuple's place, size, body -/
abbrev Wt := Addr × Int × Int
def wV (x : Wt) : V := .ref x.1
def wO (x : Wt) : Addr × HO := (x.1, .tup [.int x.2.1, .int x.2.2])
structure TD where
  a : Addr
  dx : Addr
  wl : Addr
  w : Int
  ws : List Wt
  pt : Int
abbrev TE := Str × TD
def nmT : List Str := ["weight", "waits", "point"]
def nmS : List Str := ["tenants", "point"]
def tnV (e : TE) : V := .ref e.2.a
def TL (CT : Addr) (d : TD) : Lg := (d.a, .ins CT d.dx (fz nmT [.int d.w, .ref d.wl, .int d.pt])) :: (d.wl, .lst (d.ws.map wV)) :: d.ws.map wO
def tsL (CT : Addr) (ts : List TE) : Lg := ts.flatMap fun e => TL CT e.2
def ShL (CS CT s ds td : Addr) (ts : List TE) (pt : Int) : Lg := (s, .ins CS ds (fz nmS [.ref td, .int pt])) :: (td, .dK (ts.map (kk tnV))) :: tsL CT ts
structure TxtT (K : PySem.W.Frag) (mg : Str → Option Value) (CT CS : Addr) : Prop where
  clT : Cls K CT
  clS : Cls K CS
  nT : ∀ f ∈ nmT, NoAttr K CT f
  nS : ∀ f ∈ nmS, NoAttr K CS f
theorem ts_val {ts : List TE} {k : Str} : valV (ts.map (kk tnV)) (Sum.inr k) = (aget ts k).map fun d => V.ref d.a := by rw [kk_val]; rfl
theorem ts_cnt {CT : Addr} {ts : List TE} {k : Str} {d : TD} (g : aget ts k = some d) : ∃ R1 : Lg, ∀ (d' : TD) a, cnt a (tsL CT (aput ts k d')) = cnt a (TL CT d') + cnt a R1 := by
  obtain ⟨B, C, e1, e2⟩ := aget_split g
  refine ⟨tsL CT B ++ tsL CT C, fun d' a => ?_⟩
  rw [e2]
  unfold tsL
  simp only [cnt_app, List.flatMap_append, List.flatMap_cons]
  omega
theorem tsd_put {ts : List TE} {k : Str} {d d' : TD} (g : aget ts k = some d) (h : d'.a = d.a) : (aput ts k d').map (kk tnV) = ts.map (kk tnV) := by
  obtain ⟨B, C, e1, e2⟩ := aget_split g
  rw [e2, e1, List.map_append, List.map_append, List.map_cons, List.map_cons]
  show _ ++ (Sum.inr k, V.ref d'.a) :: _ = _ ++ (Sum.inr k, V.ref d.a) :: _
  rw [h]
theorem te_mem {CT : Addr} {ts : List TE} {k : Str} {d : TD} {x : Addr × HO} (h : aget ts k = some d) (hx : x ∈ TL CT d) : x ∈ tsL CT ts := by
  obtain ⟨B, C, e, _⟩ := aget_split h
  rw [e]
  unfold tsL
  rw [List.flatMap_append, List.flatMap_cons]
  exact List.mem_append_right _ (List.mem_append_left _ hx)
structure TxtMax (mg : Str → Option Value) : Prop where
  max : mg "max" = none
theorem wt_dt {K : PySem.W.Frag} {H : Hp} {L : Lg} {wl : Addr} {ws : List Wt} (hL : Led H L) (h1 : At L wl (.lst (ws.map wV))) (h2 : ∀ x ∈ ws, wO x ∈ L) : Dt K H (.ref wl) (ws.map (·.2)) :=
  dt_list (hL.at h1) fun x hx => dt_pair (hL.mem (h2 x hx)) dt_int dt_int
def spTInit (CT : Addr) : Sp := fun vs H Q _ => ∃ (x dx : Addr) (w : Int) (R : Lg), vs = [.ref x, .int w] ∧ Led H ((x, .ins CT dx (fz [] [])) :: R) ∧ ∀ (wl : Addr) (H' : Hp), Led H' (TL CT ⟨x, dx, wl, w, [], 0⟩ ++ R) → Q .non H'
def spSInit (CS CT : Addr) : Sp := fun vs H Q _ => ∃ (x dx : Addr) (R : Lg), vs = [.ref x] ∧ Led H ((x, .ins CS dx (fz [] [])) :: R) ∧ ∀ (td : Addr) (H' : Hp), Led H' (ShL CS CT x dx td [] 0 ++ R) → Q .non H'
def spAdd (CS CT : Addr) : Sp := fun vs H Q _ => ∃ (s ds td : Addr) (ts : List TE) (pt : Int) (k : Str) (w : Int) (R : Lg), vs = [.ref s, .str k, .int w] ∧ Led H (ShL CS CT s ds td ts pt ++ R) ∧ k ∉ ts.map (·.1) ∧ ts.length < 60 ∧ (ts.map (·.1)).Nodup ∧ 1 ≤ w ∧ w ≤ 10 ∧
  ∀ (d : TD) (H' : Hp), d.w = w → d.ws = [] → d.pt = 0 → Led H' (ShL CS CT s ds td (ts ++ [(k, d)]) pt ++ R) → Q .non H'
def spAddX (CS CT CE : Addr) : Sp := fun vs H _ E => ∃ (s ds td : Addr) (ts : List TE) (pt : Int) (k : Str) (w : Int) (R : Lg), vs = [.ref s, .str k, .int w] ∧ Led H (ShL CS CT s ds td ts pt ++ R) ∧ (k ∈ ts.map (·.1) ∨ ¬ (1 ≤ w ∧ w ≤ 10)) ∧ E (.ref CE) none H
def putT (d : TD) (q : Addr) (size body pt : Int) : TD := { d with ws := d.ws ++ [(q, size, body)], pt := if d.ws = [] then (if pt > d.pt then pt else d.pt) else d.pt }
def spPut (CS CT : Addr) : Sp := fun vs H Q _ => ∃ (s ds td : Addr) (ts : List TE) (pt : Int) (k : Str) (d : TD) (size body : Int) (R : Lg), vs = [.ref s, .str k, .int size, .int body] ∧ Led H (ShL CS CT s ds td ts pt ++ R) ∧ aget ts k = some d ∧ 1 ≤ size ∧ d.ws.length < 1000 ∧
  ∀ (q : Addr) (H' : Hp), Led H' (ShL CS CT s ds td (aput ts k (putT d q size body pt)) pt ++ R) → Q .non H'
def spPutX (CS CT CE : Addr) : Sp := fun vs H _ E => ∃ (s ds td : Addr) (ts : List TE) (pt : Int) (k : Str) (size body : Int) (R : Lg), vs = [.ref s, .str k, .int size, .int body] ∧ Led H (ShL CS CT s ds td ts pt ++ R) ∧ (k ∉ ts.map (·.1) ∨ size < 1) ∧ E (.ref CE) none H
section
variable {P : Program} {w : World} {K : PySem.W.Frag} {mg : Str → Option Value} {base : Heap} {CT CS CE : Addr}
theorem scTInit : FnScope ["self", "weight"] ["self", "weight"] (defScope sTInit) := ⟨rfl, rfl, rfl, by decide +kernel, rfl, by decide +kernel, by decide +kernel⟩
theorem ok_TInit {f : Addr} {fd : FuncData} (F : Fun K "__init__" "Tenant.__init__" sTInit f fd) (T : TxtT K mg CT CS) : FnOk P w K mg base CX0 1 f fd ["self", "weight"] (spTInit CT) := by
  refine F.ok scTInit (fun vs H Q E h => ?_) (fun cdv A outer s H vs Q E hr h => ?_)
  · obtain ⟨x, dx, w, R, rfl, _⟩ := h
    rfl
  · obtain ⟨x, dx, w, R, rfl, hL, k⟩ := h
    have c1 := T.clT
    have f1 := T.nT "weight" (by decide +kernel)
    have f2 := T.nT "waits" (by decide +kernel)
    have f3 := T.nT "point" (by decide +kernel)
    refine ⟨_, (pss_cons (ps_fld (pv 0) (pv 1) rfl)
  (pss_cons (ps_fld (pv 0) (pe_lst pa_nil) rfl)
  (pss_one (ps_fld (pv 0) pe_int rfl)))), ?_⟩
    fail "go"
    refine k p _ ?_
    (refine Led.le hL (fun a_ => ?_); simp only [cnt_nil, cnt_cons, cnt_app, List.map_append, List.map_cons, List.map_nil, List.flatMap_append, List.flatMap_cons, List.flatMap_nil, List.append_assoc, List.cons_append, List.nil_append, TL, nmT]; omega)
theorem scSInit : FnScope ["self"] ["self"] (defScope sSInit) := ⟨rfl, rfl, rfl, by decide +kernel, rfl, by decide +kernel, by decide +kernel⟩
theorem ok_SInit {f : Addr} {fd : FuncData} (F : Fun K "__init__" "Shares.__init__" sSInit f fd) (T : TxtT K mg CT CS) : FnOk P w K mg base CX0 1 f fd ["self"] (spSInit CS CT) := by
  refine F.ok scSInit (fun vs H Q E h => ?_) (fun cdv A outer s H vs Q E hr h => ?_)
  · obtain ⟨x, dx, R, rfl, _⟩ := h
    rfl
  · obtain ⟨x, dx, R, rfl, hL, k⟩ := h
    have c1 := T.clS
    have f1 := T.nS "tenants" (by decide +kernel)
    have f2 := T.nS "point" (by decide +kernel)
    refine ⟨_, (pss_cons (ps_fld (pv 0) pe_dnewK rfl)
  (pss_one (ps_fld (pv 0) pe_int rfl))), ?_⟩
    fail "go"
    refine k p _ ?_
    (refine Led.le hL (fun a_ => ?_); simp only [cnt_nil, cnt_cons, cnt_app, List.map_append, List.map_cons, List.map_nil, List.flatMap_append, List.flatMap_cons, List.flatMap_nil, List.append_assoc, List.cons_append, List.nil_append, ShL, nmS, tsL]; omega)
theorem scAdd : FnScope ["self", "name", "weight"] ["self", "name", "weight"] (defScope sAdd) := ⟨rfl, rfl, rfl, by decide +kernel, rfl, by decide +kernel, by decide +kernel⟩
theorem ok_add {f : Addr} {fd : FuncData} (F : Fun K "add" "Shares.add" sAdd f fd) (T : TxtT K mg CT CS) (c_Tenant : Mak P w K mg base 1 "Tenant" CT (spTInit CT) []) : FnOk P w K mg base CX0 3 f fd ["self", "name", "weight"] (spAdd CS CT) := by
  refine F.ok scAdd (fun vs H Q E h => ?_) (fun cdv A outer s H vs Q E hr h => ?_)
  · obtain ⟨s, ds, td, ts, pt, k, w, R, rfl, _⟩ := h
    rfl
  · obtain ⟨s, ds, td, ts, pt, k, w, R, rfl, hL, hk, hz, nd, h1, h2, q⟩ := h
    have c1 := T.clS
    have f1 := T.nS "tenants" (by decide +kernel)
    refine ⟨_, (pss_cons (ps_if (PW.pt (pw_or (pt_cmp (pc_din (hu_of hr) (pv 1) (pe_fld (pv 0) rfl))) (pw_or1 (pt_not (pt_chain op_le op_le pe_int (pv 2) pe_int)))))
  pss_never
  pss_nil)
  (pss_one (ps_dput (hu_of hr) (pe_fld (pv 0) rfl) (pv 1) (pe_mk c_Tenant hr (by decide) (by rfl) (pa_cons (pv 2) pa_nil)) rfl))), ?_⟩
    have lk : valV (ts.map (kk tnV)) (Sum.inr k) = none := by rw [ts_val, aget_none hk]; rfl
    dsimp only [ShL] at hL
    fail "go"
    refine k_dinS hL (by fail "ix") ?_
    rw [lk]
    fail "go"
    refine ite_d (fun _ => ?_) (fun z => absurd h1 z)
    fail "go"
    refine ite_n (fun z => absurd h2 z) (fun _ => ?_)
    fail "go"
    intro v dv hv hdv ne
    generalize hH : upd (upd H dv _) v _ = H
    replace hL := Led.made hL hv hdv ne hH
    clear hH hv hdv ne
    refine ⟨v, dv, w, _, rfl, hL, fun wl H hL => ⟨rfl, ?_⟩⟩
    replace hL : Led H ((s, .ins CS ds (fz nmS [.ref td, .int pt])) :: (td, .dK (ts.map (kk tnV))) :: (tsL CT (ts ++ [(k, (⟨v, dv, wl, w, [], 0⟩ : TD))]) ++ R)) := by
      (refine Led.le hL (fun a_ => ?_); simp only [cnt_nil, cnt_cons, cnt_app, List.map_append, List.map_cons, List.map_nil, List.flatMap_append, List.flatMap_cons, List.flatMap_nil, List.append_assoc, List.cons_append, List.nil_append, tsL]; omega)
    fail "go"
    refine k_dputS hL (by fail "ix") (by rw [List.length_map]; exact small60 hz) (kk_put (vo := tnV) (v := (⟨v, dv, wl, w, [], 0⟩ : TD)) nd) (by fail "up") fun H hL => ?_
    rw [aput_names_out hk] at hL
    exact q ⟨v, dv, wl, w, [], 0⟩ H rfl rfl rfl hL
theorem ok_addX {f : Addr} {fd : FuncData} (F : Fun K "add" "Shares.add" sAdd f fd) (T : TxtT K mg CT CS) (TE : ExcT K mg "QueueError" CE) : FnOk P w K mg base (L2.CX P w) 1 f fd ["self", "name", "weight"] (spAddX CS CT CE) := by
  refine F.okX scAdd (fun vs H Q E h => ?_) (fun cdv A outer s H vs Q E hr h => ?_)
  · obtain ⟨s, ds, td, ts, pt, k, w, R, rfl, _⟩ := h
    rfl
  · obtain ⟨s, ds, td, ts, pt, k, w, R, rfl, hL, hk, q⟩ := h
    have c1 := T.clS
    have f1 := T.nS "tenants" (by decide +kernel)
    refine ⟨_, pss_cons (ps_if (PW.pt (pw_or (pt_cmp (pc_din (hu_of hr) (pv 1) (pe_fld (pv 0) rfl))) (pw_or1 (pt_not (pt_chain op_le op_le pe_int (pv 2) pe_int))))) (pss_one (ps_raiseT TE rfl (takes_of rfl rfl rfl (E := E) rfl) rfl)) pss_nil) pss_never, ?_⟩
    dsimp only [ShL] at hL
    fail "go"
    refine k_dinS hL (by fail "ix") ?_
    rw [ts_val]
    by_cases hm : k ∈ ts.map (·.1)
    · obtain ⟨d, hd⟩ := aget_in hm
      rw [hd]
      fail "go"
      exact q
    · rw [aget_none hm]
      have hw : ¬ (1 ≤ w ∧ w ≤ 10) := hk.resolve_left hm
      fail "go"
      refine ite_d (fun h1 => ?_) (fun h1 => ?_)
      · fail "go"
        refine ite_n (fun _ => ?_) (fun h2 => absurd ⟨h1, h2⟩ hw)
        exact q
      · fail "go"
        exact q
theorem scPut : FnScope ["self", "name", "size", "body", "one"] ["self", "name", "size", "body"] (defScope sPut) := ⟨rfl, rfl, rfl, by decide +kernel, rfl, by decide +kernel, by decide +kernel⟩
theorem ok_put {f : Addr} {fd : FuncData} (F : Fun K "put" "Shares.put" sPut f fd) (T : TxtT K mg CT CS) (T2 : mg "max" = none) : FnOk P w K mg base CX0 1 f fd ["self", "name", "size", "body"] (spPut CS CT) := by
  have T : TxtT K mg CT CS ∧ mg "max" = none := ⟨T, T2⟩
  refine F.ok scPut (fun vs H Q E h => ?_) (fun cdv A outer s H vs Q E hr h => ?_)
  · obtain ⟨s, ds, td, ts, pt, k, d, size, body, R, rfl, _⟩ := h
    rfl
  · obtain ⟨s, ds, td, ts, pt, k, d, size, body, R, rfl, hL, hd, hsz, hz, q⟩ := h
    have c1 := T.1.clS
    have c2 := T.1.clT
    have f1 := T.1.nS "tenants" (by decide +kernel)
    have f2 := T.1.nS "point" (by decide +kernel)
    have f3 := T.1.nT "waits" (by decide +kernel)
    have f4 := T.1.nT "point" (by decide +kernel)
    have T : TxtMax mg := ⟨T.2⟩
    refine ⟨_, (pss_cons (ps_if (PW.pt (pw_or (pt_cmp (pc_dnotin (hu_of hr) (pv 1) (pe_fld (pv 0) rfl))) (pw_or1 (pt_cmpR op_lt (pv 2) pe_int (nomark _)))))
  pss_never
  pss_nil)
  (pss_cons (ps_set (i := 4) scPut.nd rfl (Or.inl rfl) (pe_dget (hu_of hr) (pe_fld (pv 0) rfl) (pv 1) (fun _ _ => rfl)))
  (C8.pss_cut (ps_if (pt_cmpR (op_eqP hr.units) (pe_fld (pv 4) rfl) (pe_lst pa_nil) (nomark _))
  (pss_one (ps_fld (pv 4) (pe_callB (call_max2 rfl) (by rfl) T.max (by decide +kernel) (pa_cons (pe_fld (pv 4) rfl) (pa_cons (pe_fld (pv 0) rfl) pa_nil))) rfl))
  pss_nil)
  (pss_one (ps_expr (pe_bm PySem.F.plainAttrs_list PySem.F.slot_list_append PySem.F.type_list_append mt_append (pe_fld (pv 4) rfl) (pa_cons (pe_tup (pa_cons (pv 2) (pa_cons (pv 3) pa_nil))) pa_nil))))))), ?_⟩
    obtain ⟨R1, hc⟩ := ts_cnt (CT := CT) hd
    have hc0 := hc d
    rw [aput_self hd] at hc0
    have lk : valV (ts.map (kk tnV)) (Sum.inr k) = some (.ref d.a) := by rw [ts_val, hd]; rfl
    replace hL : Led H ((s, .ins CS ds (fz nmS [.ref td, .int pt])) :: (td, .dK (ts.map (kk tnV))) :: (d.a, .ins CT d.dx (fz nmT [.int d.w, .ref d.wl, .int d.pt])) :: (d.wl, .lst (d.ws.map wV)) :: (d.ws.map wO ++ (R1 ++ R))) := by
      unfold ShL at hL
      (refine Led.le hL (fun a_ => ?_); have q0_ := hc0 a_; (try dsimp only at q0_); (try simp only [cnt_nil, cnt_cons, cnt_app, List.map_append, List.map_cons, List.map_nil, List.flatMap_append, List.flatMap_cons, List.flatMap_nil, List.append_assoc, List.cons_append, List.nil_append, TL] at q0_); simp only [cnt_nil, cnt_cons, cnt_app, List.map_append, List.map_cons, List.map_nil, List.flatMap_append, List.flatMap_cons, List.flatMap_nil, List.append_assoc, List.cons_append, List.nil_append, TL]; omega)
    fail "go"
    refine k_dinS hL (by fail "ix") ?_
    rw [lk]
    fail "go"
    refine ite_d (fun z => absurd hsz (by omega)) (fun _ => ?_)
    fail "go"
    refine ⟨fun σ H => Hold (σ = [some (.ref s), some (.str k), some (.int size), some (.int body), some (.ref d.a)] ∧ Led H ((s, .ins CS ds (fz nmS [.ref td, .int pt])) :: (td, .dK (ts.map (kk tnV))) :: (d.a, .ins CT d.dx (fz nmT [.int d.w, .ref d.wl, .int (if d.ws = [] then (if pt > d.pt then pt else d.pt) else d.pt)])) :: (d.wl, .lst (d.ws.map wV)) :: (d.ws.map wO ++ (R1 ++ R)))), ?_, fun σ H h => ?_⟩
    · fail "go"
      refine k_eqD (α := List (Int × Int)) (by decide) (wt_dt hL (by fail "ix") fun x hx => .tail _ (.tail _ (.tail _ (.tail _ (.tail _ (List.mem_append_left _ (List.mem_map.mpr ⟨x, hx, rfl⟩))))))) (dt_nil (hL.at (by fail "ix"))) ?_
      by_cases hw : d.ws = []
      · rw [decide_eq_true (by rw [hw]; rfl)]
        fail "go"
        refine .mk ⟨rfl, ?_⟩
        rw [if_pos hw]
        (refine Led.le hL (fun a_ => ?_); simp only [cnt_nil, cnt_cons, cnt_app, List.map_append, List.map_cons, List.map_nil, List.flatMap_append, List.flatMap_cons, List.flatMap_nil, List.append_assoc, List.cons_append, List.nil_append]; omega)
      · rw [decide_eq_false (fun z => hw (List.map_eq_nil_iff.mp z))]
        fail "go"
        refine .mk ⟨rfl, ?_⟩
        rw [if_neg hw]
        (refine Led.le hL (fun a_ => ?_); simp only [cnt_nil, cnt_cons, cnt_app, List.map_append, List.map_cons, List.map_nil, List.flatMap_append, List.flatMap_cons, List.flatMap_nil, List.append_assoc, List.cons_append, List.nil_append]; omega)
    · clear hL
      obtain ⟨rfl, hL⟩ := h.out
      clear h
      fail "go"
      refine ⟨_, _, _, rfl, rfl, hL.at (by fail "ix"), by rw [List.length_map]; exact Nat.lt_of_lt_of_le hz (by decide), ?_⟩
      fail "gup"
      refine q p _ ?_
      unfold ShL
      rw [tsd_put hd (d' := putT d p size body pt) rfl]
      (refine Led.le hL (fun a_ => ?_); have q0_ := hc (putT d p size body pt) a_; (try dsimp only at q0_); (try simp only [cnt_nil, cnt_cons, cnt_app, List.map_append, List.map_cons, List.map_nil, List.flatMap_append, List.flatMap_cons, List.flatMap_nil, List.append_assoc, List.cons_append, List.nil_append, TL, putT, wO, wV] at q0_); simp only [cnt_nil, cnt_cons, cnt_app, List.map_append, List.map_cons, List.map_nil, List.flatMap_append, List.flatMap_cons, List.flatMap_nil, List.append_assoc, List.cons_append, List.nil_append, TL, putT, wO, wV]; omega)
theorem ok_putX {f : Addr} {fd : FuncData} (F : Fun K "put" "Shares.put" sPut f fd) (T : TxtT K mg CT CS) (TE : ExcT K mg "QueueError" CE) : FnOk P w K mg base (L2.CX P w) 1 f fd ["self", "name", "size", "body"] (spPutX CS CT CE) := by
  refine F.okX scPut (fun vs H Q E h => ?_) (fun cdv A outer s H vs Q E hr h => ?_)
  · obtain ⟨s, ds, td, ts, pt, k, size, body, R, rfl, _⟩ := h
    rfl
  · obtain ⟨s, ds, td, ts, pt, k, size, body, R, rfl, hL, hk, q⟩ := h
    have c1 := T.clS
    have f1 := T.nS "tenants" (by decide +kernel)
    refine ⟨_, pss_cons (ps_if (PW.pt (pw_or (pt_cmp (pc_dnotin (hu_of hr) (pv 1) (pe_fld (pv 0) rfl))) (pw_or1 (pt_cmpR op_lt (pv 2) pe_int (nomark _))))) (pss_one (ps_raiseT TE rfl (takes_of rfl rfl rfl (E := E) rfl) rfl)) pss_nil) pss_never, ?_⟩
    dsimp only [ShL] at hL
    fail "go"
    refine k_dinS hL (by fail "ix") ?_
    rw [ts_val]
    by_cases hm : k ∈ ts.map (·.1)
    · obtain ⟨d, hd⟩ := aget_in hm
      rw [hd]
      fail "go"
      refine ite_d (fun _ => ?_) (fun z => absurd (hk.resolve_left fun h => h hm) z)
      exact q
    · rw [aget_none hm]
      fail "go"
      exact q
end
end Sd


set_option linter.unusedVariables false
namespace Sd
open PySem L2
open C8 (Cal Met Mak pe_c pe_mk pe_mt pe_mt0 pss_cut tCut)
set_option linter.unusedSimpArgs false
set_option pp.deepTerms false
set_option pp.deepTerms.threshold 12
set_option hygiene false
local macro_rules | `(tactic| fail "nd") => `(tactic| first | assumption | decide +kernel)
local macro_rules | `(tactic| fail "ix") => `(tactic| first | exact ⟨0, rfl⟩ | exact ⟨1, rfl⟩ | exact ⟨2, rfl⟩ | exact ⟨3, rfl⟩ | exact ⟨4, rfl⟩ | exact ⟨5, rfl⟩ | exact ⟨6, rfl⟩ | exact ⟨7, rfl⟩ | exact ⟨8, rfl⟩ | exact ⟨9, rfl⟩ | exact ⟨10, rfl⟩ | exact ⟨11, rfl⟩ | exact ⟨12, rfl⟩ | exact ⟨13, rfl⟩ | exact ⟨14, rfl⟩ | exact ⟨15, rfl⟩ | exact ⟨16, rfl⟩ | exact ⟨17, rfl⟩ | exact ⟨18, rfl⟩ | assumption)
local macro_rules | `(tactic| fail "up") => `(tactic| first | exact ⟨0, rfl, rfl⟩ | exact ⟨1, rfl, rfl⟩ | exact ⟨2, rfl, rfl⟩ | exact ⟨3, rfl, rfl⟩ | exact ⟨4, rfl, rfl⟩ | exact ⟨5, rfl, rfl⟩ | exact ⟨6, rfl, rfl⟩ | exact ⟨7, rfl, rfl⟩ | exact ⟨8, rfl, rfl⟩ | exact ⟨9, rfl, rfl⟩ | exact ⟨10, rfl, rfl⟩ | exact ⟨11, rfl, rfl⟩ | exact ⟨12, rfl, rfl⟩ | exact ⟨13, rfl, rfl⟩ | exact ⟨14, rfl, rfl⟩ | exact ⟨15, rfl, rfl⟩ | exact ⟨16, rfl, rfl⟩ | assumption)
local macro_rules | `(tactic| fail "lkF") => `(tactic| first | assumption | exact fz_at 0 (by fail "nd") rfl rfl | exact fz_at 1 (by fail "nd") rfl rfl | exact fz_at 2 (by fail "nd") rfl rfl | exact fz_at 3 (by fail "nd") rfl rfl | exact fz_at 4 (by fail "nd") rfl rfl | exact fz_at 5 (by fail "nd") rfl rfl | exact fz_at 6 (by fail "nd") rfl rfl | exact fz_at 7 (by fail "nd") rfl rfl)
local macro_rules | `(tactic| fail "lkD") => `(tactic| first | assumption | exact dz_at 0 (by fail "nd") rfl rfl | exact dz_at 1 (by fail "nd") rfl rfl | exact dz_at 2 (by fail "nd") rfl rfl | exact dz_at 3 (by fail "nd") rfl rfl | exact dz_at 4 (by fail "nd") rfl rfl)
local macro_rules | `(tactic| fail "ptF") => `(tactic| first | assumption | exact fz_put 0 (by fail "nd") rfl (Nat.le_of_ble_eq_true rfl) | exact fz_put 1 (by fail "nd") rfl (Nat.le_of_ble_eq_true rfl) | exact fz_put 2 (by fail "nd") rfl (Nat.le_of_ble_eq_true rfl) | exact fz_put 3 (by fail "nd") rfl (Nat.le_of_ble_eq_true rfl) | exact fz_put 4 (by fail "nd") rfl (Nat.le_of_ble_eq_true rfl) | exact fz_put 5 (by fail "nd") rfl (Nat.le_of_ble_eq_true rfl) | exact fz_put 6 (by fail "nd") rfl (Nat.le_of_ble_eq_true rfl) | exact fz_put 7 (by fail "nd") rfl (Nat.le_of_ble_eq_true rfl) | exact fz_new (by decide +kernel) rfl)
local macro_rules | `(tactic| fail "ptD") => `(tactic| first | assumption | exact dz_put 0 (by fail "nd") rfl (Nat.le_of_ble_eq_true rfl) | exact dz_put 1 (by fail "nd") rfl (Nat.le_of_ble_eq_true rfl) | exact dz_put 2 (by fail "nd") rfl (Nat.le_of_ble_eq_true rfl) | exact dz_put 3 (by fail "nd") rfl (Nat.le_of_ble_eq_true rfl) | exact dz_put 4 (by fail "nd") rfl (Nat.le_of_ble_eq_true rfl))
local macro_rules | `(tactic| fail "sz") => `(tactic| first | assumption | exact (Nat.le_of_ble_eq_true rfl) | omega | decide)
local macro_rules | `(tactic| fail "sd") => `(tactic| first | rfl | assumption | decide | omega | (dsimp only; first | decide | omega) | exact .inr ⟨by decide, by decide⟩ | exact .inl ⟨by decide, by decide⟩ | exact ⟨by omega, by omega⟩ | exact .inl ⟨by omega, by omega⟩ | exact .inr ⟨by omega, by omega⟩ | exact ⟨by omega, by omega, by omega⟩)
local macro_rules | `(tactic| fail "cl") => `(tactic| (clear hH; dsimp only [List.set, List.cons_append, List.nil_append, List.append] at hL))
local macro_rules | `(tactic| fail "gn") => `(tactic| (intro p hp; generalize hH : upd H p _ = H; replace hL := Led.newH hL hp hH; clear hH hp))
local macro_rules | `(tactic| fail "gup") => `(tactic| (generalize hH : upd H _ _ = H; replace hL := Led.upU hL (by fail "up") hH; fail "cl"))
local macro_rules | `(tactic| fail "gmk") => `(tactic| (intro x dx hx hd ne; generalize hH : upd (upd H dx _) x _ = H; replace hL := Led.made hL hx hd ne hH; clear hH hx hd ne))
local macro_rules | `(tactic| fail "v") => `(tactic| refine ⟨_, rfl, ?_⟩)
local macro_rules | `(tactic| fail "i2") => `(tactic| refine ⟨_, _, rfl, rfl, ?_⟩)
local macro_rules | `(tactic| fail "go1") => `(tactic| first
  | refine ⟨_, rfl, ?_⟩
  | refine ⟨_, _, rfl, rfl, ?_⟩
  | refine ⟨_, _, rfl, ?_⟩
  | refine iteT ?_
  | refine iteF ?_
  | refine k_fld hL (by fail "ix") (by assumption) (by assumption) (by fail "lkF") ?_
  | refine k_dgetS hL (by fail "ix") (by fail "lkD") ?_
  | refine k_dgetI hL (by fail "ix") (by assumption) ?_
  | refine k_ixL hL (by fail "ix") (by first | rfl | assumption) ?_
  | refine k_ixT hL (by fail "ix") (by first | rfl | assumption) ?_
  | refine k_tyL hL (by fail "ix") ?_
  | refine k_isd hL (by fail "ix") ?_
  | (refine And.intro (by fail "sz") ?_; fail "gn")
  | refine And.intro (by fail "sd") ?_
  | fail "gn"
  | refine k_meth hL (by fail "ix") (by first | assumption | exact fz_no (by decide +kernel)) ?_
  | refine k_gtup hL (by fail "ix") rfl ?_
  | (refine k_popI hL (by fail "ix") (by assumption) ?_; fail "gup")
  | (refine k_listD hL (by fail "ix") ?_; fail "gn")
  | (refine ⟨_, _, _, _, rfl, rfl, hL.at (by fail "ix"), rfl, ?_⟩; fail "gup")
  | (refine ⟨_, _, _, rfl, rfl, hL.at (by fail "ix"), (by fail "sz"), ?_⟩; fail "gup")
  | (refine ⟨_, _, _, _, rfl, hL.at (by fail "ix"), by assumption, by assumption, Nat.lt_of_le_of_lt fz_len (by decide), ?_⟩; generalize hH : upd H _ _ = H; replace hL := Led.upF hL (by fail "up") (by fail "ptF") hH; fail "cl")
  | (refine ⟨_, _, hL.at (by fail "ix"), Nat.lt_of_le_of_lt fz_len (by decide), ?_⟩; generalize hH : upd H _ _ = H; replace hL := Led.upF hL (by fail "up") (by fail "ptF") hH; fail "cl")
  | (refine k_dputS hL (by fail "ix") (Nat.lt_of_le_of_lt dz_len (by decide)) (by fail "ptD") (by fail "up") ?_; clear hL; intro H hL; dsimp only [List.set, List.cons_append, List.nil_append, List.append] at hL)
  | refine k_lenL2 hL (by fail "ix") ?_
  | refine k_lenT2 hL (by fail "ix") ?_
  | refine .inl ⟨_, rfl, ?_⟩
  | refine .inr ⟨_, rfl, ?_⟩)
local macro_rules | `(tactic| fail "go") => `(tactic| repeat fail "go1")
local macro_rules | `(tactic| fail "pm") => `(tactic| (refine Led.le hL (fun a_ => ?_); simp only [cnt_nil, cnt_cons, cnt_app, List.map_append, List.map_cons, List.map_nil, List.flatMap_append, List.flatMap_cons, List.flatMap_nil, List.append_assoc, List.cons_append, List.nil_append]; omega))

/-- who has work: point and name -/
def readyP (ts : List TE) (ys : List Str) : List IS := ys.filterMap fun k => match aget ts k with
  | some d => if d.ws = [] then none else some (d.pt, k)
  | none => none
theorem ready_mem {ts : List TE} {ys : List Str} {x : IS} : x ∈ readyP ts ys ↔ ∃ d, x.2 ∈ ys ∧ aget ts x.2 = some d ∧ d.ws ≠ [] ∧ x.1 = d.pt := by
  unfold readyP
  rw [List.mem_filterMap]
  constructor
  · rintro ⟨k, hk, e⟩
    cases hd : aget ts k with
    | none => rw [hd] at e; cases e
    | some d =>
      rw [hd] at e
      by_cases h : d.ws = []
      · simp only [h, if_true] at e; cases e
      · simp only [h, if_false] at e
        cases e
        exact ⟨d, hk, hd, h, rfl⟩
  · rintro ⟨d, h1, h2, h3, h4⟩
    refine ⟨x.2, h1, ?_⟩
    rw [h2]
    simp only [h3, if_false]
    rw [← h4]
theorem readyP_len {ts : List TE} {ys : List Str} : (readyP ts ys).length ≤ ys.length := List.length_filterMap_le _ _
def nextT (d : TD) (size : Int) (rest : List Wt) : TD := { d with ws := rest, pt := d.pt + size * 5040 / d.w }
/-- sizes and weights are small -/
structure SOk (ts : List TE) : Prop where
  nd : (ts.map (·.1)).Nodup
  z : ts.length < 60
  w : ∀ k d, aget ts k = some d → 1 ≤ d.w ∧ d.w ≤ 10 ∧ ∀ x ∈ d.ws, 1 ≤ x.2.1 ∧ x.2.1 ≤ 1000
def spNext (CS CT : Addr) : Sp := fun vs H Q _ => ∃ (s ds td : Addr) (ts : List TE) (pt : Int) (R : Lg), vs = [.ref s] ∧ Led H (ShL CS CT s ds td ts pt ++ R) ∧ SOk ts ∧
  (∀ H', (∀ k d, aget ts k = some d → d.ws = []) → Led H' (ShL CS CT s ds td ts pt ++ R) → Q .non H') ∧
  ∀ (p q : Addr) (k : Str) (d : TD) (size body : Int) (rest : List Wt) H', aget ts k = some d → d.ws = (q, size, body) :: rest → (∀ j e, aget ts j = some e → e.ws ≠ [] → leP (d.pt, k) (e.pt, j)) →
    Led H' ((p, .tup [.str k, .int size, .int body]) :: (ShL CS CT s ds td (aput ts k (nextT d size rest)) d.pt ++ R)) → Q (.ref p) H'
structure TxtNx (mg : Str → Option Value) : Prop where
  sorted : mg "sorted" = none
  min : mg "min" = none
def prO (x : Addr × IS) : Addr × HO := (x.1, .tup [.int x.2.1, .str x.2.2])
section
variable {P : Program} {w : World} {K : PySem.W.Frag} {mg : Str → Option Value} {base : Heap} {CT CS CE : Addr}
theorem scNext : FnScope ["self", "rows", "name", "point", "one", "size", "body"] ["self"] (defScope sNext) := ⟨rfl, rfl, rfl, by decide +kernel, rfl, by decide +kernel, by decide +kernel⟩
theorem ok_next {f : Addr} {fd : FuncData} (F : Fun K "next_work" "Shares.next_work" sNext f fd) (X : TxtT K mg CT CS) (T : TxtNx mg) : FnOk P w K mg base CX0 1 f fd ["self"] (spNext CS CT) := by
  refine F.ok scNext (fun vs H Q E h => ?_) (fun cdv A outer s H vs Q E hr h => ?_)
  · obtain ⟨s, ds, td, ts, pt, R, rfl, _⟩ := h
    rfl
  · obtain ⟨s, ds, td, ts, pt, R, rfl, hL, ok, k0, k1⟩ := h
    have c1 := X.clS
    have c2 := X.clT
    have f1 := X.nS "tenants" (by decide +kernel)
    have f2 := X.nS "point" (by decide +kernel)
    have f3 := X.nT "waits" (by decide +kernel)
    have f4 := X.nT "point" (by decide +kernel)
    have f5 := X.nT "weight" (by decide +kernel)
    refine ⟨_, (pss_cons (ps_setLc (i := 1) (own := [("name", 2)]) (g := gName 2) (by rfl) scNext.nd rfl rfl (sw_true rfl rfl rfl (by decide +kernel)) (pi_list (pe_callB (call_sortedD rfl) (by rfl) T.sorted (by decide +kernel) (pa_cons (pe_fld (pv 0) rfl) pa_nil))) (blkOk_by (own := [("name", 2)]) (N := ["self", "rows", "name", "point", "one", "size", "body"]) (sc := (defScope sNext)) (by decide +kernel)) (fun _ _ _ _ _ => (pg_name (i := 2) scNext.nd rfl (Or.inl rfl))) (fun _ _ _ _ _ => (pts_one (pt_cmpR (op_nePB hr.units) (pe_fldB (pe_dget (hu_of hr) (pe_fldB (pv 0) rfl) (pv 2) (fun _ _ => rfl)) rfl) (pe_lst pa_nil) (nomark _)))) (fun _ _ _ _ _ => (pe_tup (pa_cons (pe_fldB (pe_dget (hu_of hr) (pe_fldB (pv 0) rfl) (pv 2) (fun _ _ => rfl)) rfl) (pa_cons (pv 2) pa_nil)))))
  (pss_cons (ps_if (pt_cmpR (op_eqP hr.units) (pv 1) (pe_lst pa_nil) (nomark _))
  (pss_one (ps_ret pe_non))
  pss_nil)
  (pss_cons (ps_asg (pe_callB (cr_minP rfl hr.units) (by rfl) T.min (by decide +kernel) (pa_cons (pv 1) pa_nil)) (pg_tup (by rfl) (pgs_cons (pg_name (i := 3) scNext.nd rfl (Or.inl rfl)) (pgs_cons (pg_name (i := 2) scNext.nd rfl (Or.inl rfl)) pgs_nil))))
  (pss_cons (ps_set (i := 4) scNext.nd rfl (Or.inl rfl) (pe_dget (hu_of hr) (pe_fld (pv 0) rfl) (pv 2) (fun _ _ => rfl)))
  (pss_cons (ps_asg (pe_bm PySem.F.plainAttrs_list PySem.F.slot_list_pop PySem.F.type_list_pop mt_popAt (pe_fld (pv 4) rfl) (pa_cons pe_int pa_nil)) (pg_tup (by rfl) (pgs_cons (pg_name (i := 5) scNext.nd rfl (Or.inl rfl)) (pgs_cons (pg_name (i := 6) scNext.nd rfl (Or.inl rfl)) pgs_nil))))
  (pss_cons (ps_fld (pv 0) (pv 3) rfl)
  (pss_cons (ps_fld (pv 4) (pe_op op_add (pv 3) (pe_op op_fdiv (pe_op op_mul (pv 5) pe_int) (pe_fld (pv 4) rfl))) rfl)
  (pss_one (ps_ret (pe_tup (pa_cons (pv 2) (pa_cons (pv 5) (pa_cons (pv 6) pa_nil))))))))))))), ?_⟩
    dsimp only [ShL] at hL
    fail "go"
    refine ⟨_, _, ts.map (·.1), rfl, .inl (hL.at (by fail "ix")), kk_names, Nat.lt_trans (by rw [List.length_map]; exact ok.z) (by decide), fun ys y0 hys _ hf => ?_⟩
    generalize hH : upd H y0 _ = H
    replace hL := Led.newH hL hf hH
    clear hH hf
    have hzl : ys.length < 60 := by
      have := hys.length_eq
      rw [List.length_map] at this
      rw [this]; exact ok.z
    refine ⟨_, rfl, ⟨_, .of (hL.at ⟨0, rfl⟩)⟩, fun D hD => lc_list (K := K) (a := y0) (xs := ys.map V.str) (fun i H => Hold (∃ rs : List (Addr × IS), rs.map (·.2) = readyP ts (ys.take i) ∧ Led H ((D, .lst (rs.map fun x => V.ref x.1)) :: (y0, .lst (ys.map V.str)) :: (s, .ins CS ds (fz nmS [.ref td, .int pt])) :: (td, .dK (ts.map (kk tnV))) :: (rs.map prO ++ (tsL CT ts ++ R))))) (.mk ⟨[], rfl, hL.new hD⟩) (fun i H _ h => ?_) (fun i x H hi h => ?_) (fun H h => ?_)⟩
    · obtain ⟨rs, e, hL⟩ := h.out
      exact .of (hL.at ⟨1, rfl⟩)
    · clear hL
      obtain ⟨rs, e, hL⟩ := h.out
      clear h
      rw [List.getElem?_map] at hi
      obtain ⟨y, hy, rfl⟩ := Option.map_eq_some_iff.mp hi
      have hil := (List.getElem?_eq_some_iff.mp hy).1
      obtain ⟨d, hd⟩ := aget_in (hys.mem_iff.mp (List.mem_of_getElem? hy))
      have lk : valV (ts.map (kk tnV)) (Sum.inr y) = some (.ref d.a) := by rw [ts_val, hd]; rfl
      have e1 : readyP ts (ys.take (i + 1)) = readyP ts (ys.take i) ++ (if d.ws = [] then [] else [(d.pt, y)]) := by
        unfold readyP
        rw [List.take_add_one, hy, List.filterMap_append]
        by_cases h : d.ws = [] <;> simp [hd, h]
      have m : ∀ x ∈ TL CT d, x ∈ ((D, HO.lst (rs.map fun x => V.ref x.1)) :: (y0, .lst (ys.map V.str)) :: (s, .ins CS ds (fz nmS [.ref td, .int pt])) :: (td, .dK (ts.map (kk tnV))) :: (rs.map prO ++ (tsL CT ts ++ R))) := fun x hx => .tail _ (.tail _ (.tail _ (.tail _ (List.mem_append_right _ (List.mem_append_left _ (te_mem hd hx))))))
      refine ⟨rfl, ?_⟩
      fail "go"
      refine k_fld hL (at_mem (m _ (.head _))) c2 f3 (by fail "lkF") ?_
      fail "go"
      refine k_neD (α := List (Int × Int)) (by decide) (wt_dt hL (at_mem (.tail _ (m _ (.tail _ (.head _))))) fun x hx => .tail _ (m _ (.tail _ (.tail _ (List.mem_map.mpr ⟨x, hx, rfl⟩))))) (dt_nil (hL.at (by fail "ix"))) ?_
      by_cases hw : d.ws = []
      · rw [decide_eq_true (by rw [hw]; rfl)]
        fail "go"
        refine .mk ⟨rs, by rw [e, e1, if_pos hw, List.append_nil], ?_⟩
        (refine Led.le hL (fun a_ => ?_); simp only [cnt_nil, cnt_cons, cnt_app, List.map_append, List.map_cons, List.map_nil, List.flatMap_append, List.flatMap_cons, List.flatMap_nil, List.append_assoc, List.cons_append, List.nil_append]; omega)
      · rw [decide_eq_false (fun z => hw (List.map_eq_nil_iff.mp z))]
        fail "go"
        refine k_fld hL (at_mem (.tail _ (m _ (.head _)))) c2 f4 (by fail "lkF") ?_
        fail "go"
        have hrl : rs.length < 60 := by
          have h1 : (rs.map (·.2)).length = _ := congrArg List.length e
          rw [List.length_map] at h1
          have h2 := readyP_len (ts := ts) (ys := ys.take i)
          rw [List.length_take] at h2
          omega
        refine ⟨_, hL.at ⟨2, rfl⟩, by rw [List.length_map]; exact Nat.lt_trans hrl (by decide), ?_⟩
        fail "gup"
        refine .mk ⟨rs ++ [(p, (d.pt, y))], by rw [List.map_append, e, e1, if_neg hw]; rfl, ?_⟩
        (refine Led.le hL (fun a_ => ?_); simp only [cnt_nil, cnt_cons, cnt_app, List.map_append, List.map_cons, List.map_nil, List.flatMap_append, List.flatMap_cons, List.flatMap_nil, List.append_assoc, List.cons_append, List.nil_append, prO]; omega)
    · clear hL
      obtain ⟨rs, e, hL⟩ := h.out
      clear h
      rw [List.length_map, List.take_length] at e
      have hrm : ∀ x : IS, x ∈ rs.map (·.2) ↔ ∃ d, aget ts x.2 = some d ∧ d.ws ≠ [] ∧ x.1 = d.pt := fun x => by
        rw [e, ready_mem]
        constructor
        · rintro ⟨d, _, h⟩
          exact ⟨d, h⟩
        · rintro ⟨d, h, h'⟩
          exact ⟨d, hys.mem_iff.mpr (aget_some h), h, h'⟩
      clear e
      fail "go"
      refine k_eqD (α := List IS) (by decide) (dt_list (g := (·.2)) (hL.at ⟨1, rfl⟩) fun x hx => dt_pair (hL.mem (.tail _ (.tail _ (.tail _ (.tail _ (.tail _ (List.mem_append_left _ (List.mem_map.mpr ⟨x, hx, rfl⟩)))))))) dt_int dt_str) (dt_nil (hL.at (by fail "ix"))) ?_
      by_cases hn : rs = []
      · rw [decide_eq_true (by rw [hn]; rfl)]
        fail "go"
        refine k0 H (fun k d hd => ?_) (by (refine Led.le hL (fun a_ => ?_); simp only [cnt_nil, cnt_cons, cnt_app, List.map_append, List.map_cons, List.map_nil, List.flatMap_append, List.flatMap_cons, List.flatMap_nil, List.append_assoc, List.cons_append, List.nil_append, prO, ShL]; omega))
        by_cases hw : d.ws = []
        · exact hw
        · have := (hrm (d.pt, k)).mpr ⟨d, hd, hw, rfl⟩
          rw [hn] at this
          cases this
      · rw [decide_eq_false (fun z => hn (List.map_eq_nil_iff.mp z))]
        fail "go"
        refine ⟨D, rs, rfl, hn, .of (hL.at ⟨1, rfl⟩), fun x hx => hL.mem (.tail _ (.tail _ (.tail _ (.tail _ (.tail _ (List.mem_append_left _ (List.mem_map.mpr ⟨x, hx, rfl⟩))))))), fun x hx hmin => ?_⟩
        obtain ⟨p1, point, name⟩ := x
        obtain ⟨d, hd, hw, rfl⟩ := (hrm (point, name)).mp (List.mem_map.mpr ⟨_, hx, rfl⟩)
        have hle : ∀ j e, aget ts j = some e → e.ws ≠ [] → leP (d.pt, name) (e.pt, j) := fun j e he hw => by
          obtain ⟨z, hz, ez⟩ := List.mem_map.mp ((hrm (e.pt, j)).mpr ⟨e, he, hw, rfl⟩)
          have := hmin z hz
          rw [ez] at this
          exact this
        obtain ⟨B, C, rfl⟩ := List.append_of_mem hx
        obtain ⟨R1, hc⟩ := ts_cnt (CT := CT) hd
        have hc0 := hc d
        rw [aput_self hd] at hc0
        have lk : valV (ts.map (kk tnV)) (Sum.inr name) = some (.ref d.a) := by rw [ts_val, hd]; rfl
        obtain ⟨⟨q, size, body⟩, rest, hws⟩ := List.exists_cons_of_ne_nil hw
        have hcs := (ok.w _ _ hd)
        have hsz := hcs.2.2 (q, size, body) (by rw [hws]; exact .head _)
        dsimp only at hsz
        replace hL : Led H ((p1, .tup [.int d.pt, .str name]) :: (s, .ins CS ds (fz nmS [.ref td, .int pt])) :: (td, .dK (ts.map (kk tnV))) :: (d.a, .ins CT d.dx (fz nmT [.int d.w, .ref d.wl, .int d.pt])) :: (d.wl, .lst ((q, size, body) :: rest |>.map wV)) :: (q, .tup [.int size, .int body]) :: (rest.map wO ++ (R1 ++ R))) := by
          (refine Led.le hL (fun a_ => ?_); have q0_ := hc0 a_; (try dsimp only at q0_); (try simp only [cnt_nil, cnt_cons, cnt_app, List.map_append, List.map_cons, List.map_nil, List.flatMap_append, List.flatMap_cons, List.flatMap_nil, List.append_assoc, List.cons_append, List.nil_append, TL, prO, wO, hws] at q0_); simp only [cnt_nil, cnt_cons, cnt_app, List.map_append, List.map_cons, List.map_nil, List.flatMap_append, List.flatMap_cons, List.flatMap_nil, List.append_assoc, List.cons_append, List.nil_append, TL, prO, wO, hws]; omega)
        fail "go"
        refine ⟨d.wl, (wV (q, size, body)) :: rest.map wV, 0, 0, _, rfl, rfl, hL.at ⟨4, rfl⟩, by decide, by decide, by simp [seqIndex?], rfl, ?_⟩
        rw [List.eraseIdx_cons_zero]
        fail "gup"
        refine k_gtup hL ⟨5, rfl⟩ rfl ?_
        fail "go"
        refine k1 p q name d size body rest H hd hws hle ?_
        unfold ShL
        rw [tsd_put hd (d' := nextT d size rest) rfl]
        (refine Led.le hL (fun a_ => ?_); have q0_ := hc (nextT d size rest) a_; (try dsimp only at q0_); (try simp only [cnt_nil, cnt_cons, cnt_app, List.map_append, List.map_cons, List.map_nil, List.flatMap_append, List.flatMap_cons, List.flatMap_nil, List.append_assoc, List.cons_append, List.nil_append, TL, nextT, wO] at q0_); simp only [cnt_nil, cnt_cons, cnt_app, List.map_append, List.map_cons, List.map_nil, List.flatMap_append, List.flatMap_cons, List.flatMap_nil, List.append_assoc, List.cons_append, List.nil_append, TL, nextT, wO]; omega)
end
end Sd


set_option linter.unusedVariables false
namespace Sd
open PySem L2
open C8 (Cal Met Mak pe_c pe_mk pe_mt pe_mt0 tCut)
set_option linter.unusedSimpArgs false
set_option pp.deepTerms false
set_option pp.deepTerms.threshold 12
set_option hygiene false
local macro_rules | `(tactic| fail "nd") => `(tactic| first | assumption | decide +kernel)
local macro_rules | `(tactic| fail "ix") => `(tactic| first | exact ⟨0, rfl⟩ | exact ⟨1, rfl⟩ | exact ⟨2, rfl⟩ | exact ⟨3, rfl⟩ | exact ⟨4, rfl⟩ | exact ⟨5, rfl⟩ | exact ⟨6, rfl⟩ | exact ⟨7, rfl⟩ | exact ⟨8, rfl⟩ | exact ⟨9, rfl⟩ | exact ⟨10, rfl⟩ | exact ⟨11, rfl⟩ | exact ⟨12, rfl⟩ | exact ⟨13, rfl⟩ | exact ⟨14, rfl⟩ | exact ⟨15, rfl⟩ | exact ⟨16, rfl⟩ | exact ⟨17, rfl⟩ | exact ⟨18, rfl⟩ | assumption)
local macro_rules | `(tactic| fail "up") => `(tactic| first | exact ⟨0, rfl, rfl⟩ | exact ⟨1, rfl, rfl⟩ | exact ⟨2, rfl, rfl⟩ | exact ⟨3, rfl, rfl⟩ | exact ⟨4, rfl, rfl⟩ | exact ⟨5, rfl, rfl⟩ | exact ⟨6, rfl, rfl⟩ | exact ⟨7, rfl, rfl⟩ | exact ⟨8, rfl, rfl⟩ | exact ⟨9, rfl, rfl⟩ | exact ⟨10, rfl, rfl⟩ | exact ⟨11, rfl, rfl⟩ | exact ⟨12, rfl, rfl⟩ | exact ⟨13, rfl, rfl⟩ | exact ⟨14, rfl, rfl⟩ | exact ⟨15, rfl, rfl⟩ | exact ⟨16, rfl, rfl⟩ | assumption)
local macro_rules | `(tactic| fail "lkF") => `(tactic| first | assumption | exact fz_at 0 (by fail "nd") rfl rfl | exact fz_at 1 (by fail "nd") rfl rfl | exact fz_at 2 (by fail "nd") rfl rfl | exact fz_at 3 (by fail "nd") rfl rfl | exact fz_at 4 (by fail "nd") rfl rfl | exact fz_at 5 (by fail "nd") rfl rfl | exact fz_at 6 (by fail "nd") rfl rfl | exact fz_at 7 (by fail "nd") rfl rfl)
local macro_rules | `(tactic| fail "lkD") => `(tactic| first | assumption | exact dz_at 0 (by fail "nd") rfl rfl | exact dz_at 1 (by fail "nd") rfl rfl | exact dz_at 2 (by fail "nd") rfl rfl | exact dz_at 3 (by fail "nd") rfl rfl | exact dz_at 4 (by fail "nd") rfl rfl)
local macro_rules | `(tactic| fail "ptF") => `(tactic| first | assumption | exact fz_put 0 (by fail "nd") rfl (Nat.le_of_ble_eq_true rfl) | exact fz_put 1 (by fail "nd") rfl (Nat.le_of_ble_eq_true rfl) | exact fz_put 2 (by fail "nd") rfl (Nat.le_of_ble_eq_true rfl) | exact fz_put 3 (by fail "nd") rfl (Nat.le_of_ble_eq_true rfl) | exact fz_put 4 (by fail "nd") rfl (Nat.le_of_ble_eq_true rfl) | exact fz_put 5 (by fail "nd") rfl (Nat.le_of_ble_eq_true rfl) | exact fz_put 6 (by fail "nd") rfl (Nat.le_of_ble_eq_true rfl) | exact fz_put 7 (by fail "nd") rfl (Nat.le_of_ble_eq_true rfl) | exact fz_new (by decide +kernel) rfl)
local macro_rules | `(tactic| fail "ptD") => `(tactic| first | assumption | exact dz_put 0 (by fail "nd") rfl (Nat.le_of_ble_eq_true rfl) | exact dz_put 1 (by fail "nd") rfl (Nat.le_of_ble_eq_true rfl) | exact dz_put 2 (by fail "nd") rfl (Nat.le_of_ble_eq_true rfl) | exact dz_put 3 (by fail "nd") rfl (Nat.le_of_ble_eq_true rfl) | exact dz_put 4 (by fail "nd") rfl (Nat.le_of_ble_eq_true rfl))
local macro_rules | `(tactic| fail "sz") => `(tactic| first | assumption | exact (Nat.le_of_ble_eq_true rfl) | omega | decide)
local macro_rules | `(tactic| fail "sd") => `(tactic| first | rfl | assumption | decide | omega | (dsimp only; first | decide | omega) | exact .inr ⟨by decide, by decide⟩ | exact .inl ⟨by decide, by decide⟩ | exact ⟨by omega, by omega⟩ | exact .inl ⟨by omega, by omega⟩ | exact .inr ⟨by omega, by omega⟩ | exact ⟨by omega, by omega, by omega⟩)
local macro_rules | `(tactic| fail "cl") => `(tactic| (clear hH; dsimp only [List.set, List.cons_append, List.nil_append, List.append] at hL))
local macro_rules | `(tactic| fail "gn") => `(tactic| (intro p hp; generalize hH : upd H p _ = H; replace hL := Led.newH hL hp hH; clear hH hp))
local macro_rules | `(tactic| fail "gup") => `(tactic| (generalize hH : upd H _ _ = H; replace hL := Led.upU hL (by fail "up") hH; fail "cl"))
local macro_rules | `(tactic| fail "gmk") => `(tactic| (intro x dx hx hd ne; generalize hH : upd (upd H dx _) x _ = H; replace hL := Led.made hL hx hd ne hH; clear hH hx hd ne))
local macro_rules | `(tactic| fail "v") => `(tactic| refine ⟨_, rfl, ?_⟩)
local macro_rules | `(tactic| fail "i2") => `(tactic| refine ⟨_, _, rfl, rfl, ?_⟩)
local macro_rules | `(tactic| fail "go1") => `(tactic| first
  | refine ⟨_, rfl, ?_⟩
  | refine ⟨_, _, rfl, rfl, ?_⟩
  | refine ⟨_, _, rfl, ?_⟩
  | refine iteT ?_
  | refine iteF ?_
  | refine k_fld hL (by fail "ix") (by assumption) (by assumption) (by fail "lkF") ?_
  | refine k_dgetS hL (by fail "ix") (by fail "lkD") ?_
  | refine k_dgetI hL (by fail "ix") (by assumption) ?_
  | refine k_ixL hL (by fail "ix") (by first | rfl | assumption) ?_
  | refine k_ixT hL (by fail "ix") (by first | rfl | assumption) ?_
  | refine k_tyL hL (by fail "ix") ?_
  | refine k_isd hL (by fail "ix") ?_
  | (refine And.intro (by fail "sz") ?_; fail "gn")
  | refine And.intro (by fail "sd") ?_
  | fail "gn"
  | refine k_meth hL (by fail "ix") (by first | assumption | exact fz_no (by decide +kernel)) ?_
  | refine k_gtup hL (by fail "ix") rfl ?_
  | (refine k_popI hL (by fail "ix") (by assumption) ?_; fail "gup")
  | (refine k_listD hL (by fail "ix") ?_; fail "gn")
  | (refine ⟨_, _, _, _, rfl, rfl, hL.at (by fail "ix"), rfl, ?_⟩; fail "gup")
  | (refine ⟨_, _, _, rfl, rfl, hL.at (by fail "ix"), (by fail "sz"), ?_⟩; fail "gup")
  | (refine ⟨_, _, _, _, rfl, hL.at (by fail "ix"), by assumption, by assumption, Nat.lt_of_le_of_lt fz_len (by decide), ?_⟩; generalize hH : upd H _ _ = H; replace hL := Led.upF hL (by fail "up") (by fail "ptF") hH; fail "cl")
  | (refine ⟨_, _, hL.at (by fail "ix"), Nat.lt_of_le_of_lt fz_len (by decide), ?_⟩; generalize hH : upd H _ _ = H; replace hL := Led.upF hL (by fail "up") (by fail "ptF") hH; fail "cl")
  | (refine k_dputS hL (by fail "ix") (Nat.lt_of_le_of_lt dz_len (by decide)) (by fail "ptD") (by fail "up") ?_; clear hL; intro H hL; dsimp only [List.set, List.cons_append, List.nil_append, List.append] at hL)
  | refine k_lenL2 hL (by fail "ix") ?_
  | refine k_lenT2 hL (by fail "ix") ?_
  | refine .inl ⟨_, rfl, ?_⟩
  | refine .inr ⟨_, rfl, ?_⟩)
local macro_rules | `(tactic| fail "go") => `(tactic| repeat fail "go1")
local macro_rules | `(tactic| fail "pm") => `(tactic| (refine Led.le hL (fun a_ => ?_); simp only [cnt_nil, cnt_cons, cnt_app, List.map_append, List.map_cons, List.map_nil, List.flatMap_append, List.flatMap_cons, List.flatMap_nil, List.append_assoc, List.cons_append, List.nil_append]; omega))

theorem k_dgetFS {H : Hp} {L : Lg} {a : Addr} {od : Obj} {kvs : List (Key × V)} {v : V} {x : Str} {P : Addr → V → Prop} (hL : Led H L) (e : At L a (.frz od (.dK kvs))) (lk : valV kvs (.inr x) = some v) (q : P a v) : ∃ a' v', V.ref a = .ref a' ∧ DGet H a' (.str x) (some v') ∧ P a' v' :=
  ⟨_, _, rfl, .inl ⟨kvs, .inr x, .inr ⟨od, hL.at e⟩, rfl, lk.symm⟩, q⟩
abbrev sLaw : Stmt := top 11
def NL : List Str := ["script", "dice", "shares", "own", "point", "count", "k", "name", "step", "row", "size", "ready", "one", "found", "body", "busy", "sizes", "served", "many", "turn", "other", "apart", "fresh", "bad", "f"]
theorem scLaw : FnScope NL ["script"] (defScope sLaw) := ⟨rfl, rfl, rfl, by decide +kernel, rfl, by decide +kernel, by decide +kernel⟩
abbrev LX (P : Program) (w : World) (K : PySem.W.Frag) (mg : Str → Option Value) (base : Heap) (f : Addr) (cdv : Value) (A : Around) (outer : List Env) (s : Shared) (H : Hp) (E : XK) : Cx := (cxOf CX0 P w K mg base NL "law" (defScope sLaw) f cdv A outer s H E).nox
def bodyF (st : Stmt) : List Stmt := match st with | .For _ _ b _ _ => b | _ => []
def thenS (st : Stmt) : List Stmt := match st with | .If _ b _ _ => b | _ => []
def elseS (st : Stmt) : List Stmt := match st with | .If _ _ b _ => b | _ => []
def nth (b : List Stmt) (i : Nat) : Stmt := b.getD i (.Pass ⟨0, 0, 0, 0⟩)
abbrev bodyB : List Stmt := bodyF (nth (defBody sLaw) 0)
abbrev bodyS : List Stmt := bodyF (nth bodyB 2)
abbrev blkPut : List Stmt := thenS (nth bodyS 2)
abbrev blkTake : List Stmt := elseS (nth bodyS 2)
abbrev stCheck : Stmt := nth bodyS 3
/-! the law's own table -/
def nmR : List Str := ["weight", "waits", "point"]
def OL (d : TD) : Lg := (d.a, .dK (dz nmR [.int d.w, .ref d.wl, .int d.pt])) :: (d.wl, .lst (d.ws.map wV)) :: d.ws.map wO
def osL (os : List TE) : Lg := os.flatMap fun e => OL e.2
theorem os_cnt {os : List TE} {k : Str} {d : TD} (g : aget os k = some d) : ∃ R1 : Lg, ∀ (d' : TD) a, cnt a (osL (aput os k d')) = cnt a (OL d') + cnt a R1 := by
  obtain ⟨B, C, e1, e2⟩ := aget_split g
  refine ⟨osL B ++ osL C, fun d' a => ?_⟩
  rw [e2]
  unfold osL
  simp only [cnt_app, List.flatMap_append, List.flatMap_cons]
  omega
theorem oe_mem {os : List TE} {k : Str} {d : TD} {x : Addr × HO} (h : aget os k = some d) (hx : x ∈ OL d) : x ∈ osL os := by
  obtain ⟨B, C, e, _⟩ := aget_split h
  rw [e]
  unfold osL
  rw [List.flatMap_append, List.flatMap_cons]
  exact List.mem_append_right _ (List.mem_append_left _ hx)
/-- what both keep -/
abbrev PJ := Int × Int × List (Int × Int)
def pj (d : TD) : PJ := (d.w, d.pt, d.ws.map (·.2))
def plO (ts : List TE) : List (Str × PJ) := ts.map fun e => (e.1, pj e.2)
theorem plO_get {ts : List TE} {k : Str} : aget (plO ts) k = (aget ts k).map pj := aget_map (f := pj)
theorem plO_put {ts : List TE} {k : Str} {d : TD} : plO (aput ts k d) = aput (plO ts) k (pj d) := aput_map (f := pj)
theorem plO_names {ts : List TE} : (plO ts).map (·.1) = ts.map (·.1) := by
  unfold plO; rw [List.map_map]; rfl
structure JI (n : Nat) (ts os : List TE) : Prop where
  eq : plO ts = plO os
  ok : SOk ts
  n : ∀ k d, aget ts k = some d → d.ws.length ≤ n
theorem JI.nm {n : Nat} {ts os : List TE} (h : JI n ts os) : ts.map (·.1) = os.map (·.1) := by rw [← plO_names, h.eq, plO_names]
theorem JI.both {n : Nat} {ts os : List TE} (h : JI n ts os) {k : Str} (hk : k ∈ os.map (·.1)) : ∃ d e, aget ts k = some d ∧ aget os k = some e ∧ pj d = pj e := by
  obtain ⟨d, hd⟩ := aget_in (l := ts) (k := k) (by rw [h.nm]; exact hk)
  obtain ⟨e, he⟩ := aget_in hk
  have h1 : aget (plO ts) k = some (pj d) := by rw [plO_get, hd]; rfl
  rw [h.eq, plO_get, he] at h1
  exact ⟨d, e, hd, he, (Option.some.inj h1).symm⟩
theorem JI.put {n m : Nat} {ts os : List TE} (h : JI n ts os) {k : Str} {d d0 : TD} {e : TD} (hk : aget ts k = some d0) (he : pj d = pj e) (hn : n ≤ m) (hw : 1 ≤ d.w ∧ d.w ≤ 10 ∧ ∀ x ∈ d.ws, 1 ≤ x.2.1 ∧ x.2.1 ≤ 1000) (hl : d.ws.length ≤ m) : JI m (aput ts k d) (aput os k e) := by
  refine ⟨by rw [plO_put, plO_put, h.eq, he], ⟨aput_nd h.ok.nd, ?_, fun j x hj => ?_⟩, fun j x hj => ?_⟩
  · have := congrArg List.length (aput_names_in (v := d) (aget_some hk))
    rw [List.length_map, List.length_map] at this
    rw [this]; exact h.ok.z
  · rw [aget_put] at hj
    by_cases z : k = j
    · rw [if_pos z] at hj
      cases hj
      exact hw
    · rw [if_neg z] at hj
      exact h.ok.w j x hj
  · rw [aget_put] at hj
    by_cases z : k = j
    · rw [if_pos z] at hj
      cases hj
      exact hl
    · rw [if_neg z] at hj
      exact Nat.le_trans (h.n j x hj) hn
/-- places that stay -/
structure Fx where
  a : Addr
  d : Addr
  s : Addr
  ds : Addr
  td : Addr
  wd : Addr
def CoreL (CS CT : Addr) (F : Fx) (x y z : Int) (ts os : List TE) (pt : Int) (R : Lg) : Lg := (F.d, dD x y z) :: (F.wd, .dK (os.map (kk tnV))) :: (F.s, .ins CS F.ds (fz nmS [.ref F.td, .int pt])) :: (F.td, .dK (ts.map (kk tnV))) :: (tsL CT ts ++ (osL os ++ R))
def Sh (F : Fx) (pt ct : Int) (σ : L2.St) : Prop := ∃ v6 v7 v8 v9 v10 v11 v12 v13 v14 v15 v16 v17 v18 v19 v20 v21 v22 v23 v24, σ = [some (.ref F.a), some (.ref F.d), some (.ref F.s), some (.ref F.wd), some (.int pt), some (.int ct), v6, v7, v8, v9, v10, v11, v12, v13, v14, v15, v16, v17, v18, v19, v20, v21, v22, v23, v24]
/-- all is as the law has it -/
def Okk (CS CT : Addr) (F : Fx) (n : Nat) (R : Lg) (σ : L2.St) (H : Hp) : Prop := ∃ pt ct x y z ts os, Sh F pt ct σ ∧ JI n ts os ∧ ((ts.map (·.1)).length ≤ 4 ∧ 1 ≤ (ts.map (·.1)).length) ∧ Led H (CoreL CS CT F x y z ts os pt R)
def tChk (CS CT : Addr) : TS := fun D σ H => ∃ F n R, Okk CS CT F n R σ H ∧ ∀ σ' H', Okk CS CT F n R σ' H' → D.nx σ' H'
def M1 (CS CT : Addr) (F : Fx) (x y z : Int) (ts os : List TE) (pt : Int) (R : Lg) (od : Obj) : Lg := (F.wd, HO.frz od (HO.dK (os.map (kk tnV)))) :: (F.d, dD x y z) :: (F.s, .ins CS F.ds (fz nmS [.ref F.td, .int pt])) :: (F.td, .dK (ts.map (kk tnV))) :: (tsL CT ts ++ (osL os ++ R))
def t3O (x : Addr × TE) : Addr × HO := (x.1, .tup [.str x.2.1, .int x.2.2.pt, .ref x.2.2.wl])
abbrev DT := T3 Str Int (List (Int × Int))
def t3D (e : TE) : DT := ⟨e.1, e.2.pt, e.2.ws.map (·.2)⟩
section
variable {P : Program} {w : World} {K : PySem.W.Frag} {mg : Str → Option Value} {base : Heap} {CS CT : Addr} {f : Addr} {cdv : Value} {A : Around} {outer : List Env} {s0 : Shared} {H0 : Hp} {E : XK}
theorem st_check (hr : Room 8 (LX P w K mg base f cdv A outer s0 H0 E).A) (X : TxtT K mg CT CS) :
    PS (LX P w K mg base f cdv A outer s0 H0 E) stCheck (tChk CS CT) := by
  refine ps_imp (t := _) (ps_if (PW.pt (pw_or (pt_cmpR op_ne (pe_fld (pv 2) rfl) (pv 4) (nomark _)) (pw_or1 (pt_cmpR (op_neP hr.units) (pe_lock (pe_lc (own := [("one", 12)]) (g := gName 12) (by rfl) scLaw.nd (pi_keys (pv 3)) (blkOk_by (own := [("one", 12)]) (N := ["script", "dice", "shares", "own", "point", "count", "k", "name", "step", "row", "size", "ready", "one", "found", "body", "busy", "sizes", "served", "many", "turn", "other", "apart", "fresh", "bad", "f"]) (sc := (defScope sLaw)) (by decide +kernel)) (fun _ _ _ _ _ => (pg_name (i := 12) scLaw.nd rfl (Or.inl rfl))) (fun _ _ _ _ _ => pts_nil) (fun _ _ _ _ _ => (pe_tup (pa_cons (pv 12) (pa_cons (pe_fldB (pe_dget (hu_of hr) (pe_fldB (pv 2) rfl) (pv 12) (fun _ _ => rfl)) rfl) (pa_cons (pe_fldB (pe_dget (hu_of hr) (pe_fldB (pv 2) rfl) (pv 12) (fun _ _ => rfl)) rfl) pa_nil))))))) (pe_lock (pe_lc (own := [("one", 12)]) (g := gName 12) (by rfl) scLaw.nd (pi_keys (pv 3)) (blkOk_by (own := [("one", 12)]) (N := ["script", "dice", "shares", "own", "point", "count", "k", "name", "step", "row", "size", "ready", "one", "found", "body", "busy", "sizes", "served", "many", "turn", "other", "apart", "fresh", "bad", "f"]) (sc := (defScope sLaw)) (by decide +kernel)) (fun _ _ _ _ _ => (pg_name (i := 12) scLaw.nd rfl (Or.inl rfl))) (fun _ _ _ _ _ => pts_nil) (fun _ _ _ _ _ => (pe_tup (pa_cons (pv 12) (pa_cons (pe_dget (hu_of hr) (pe_dget (hu_of hr) (pv 3) (pv 12) (fun _ _ => rfl)) pe_str (fun _ _ => rfl)) (pa_cons (pe_dget (hu_of hr) (pe_dget (hu_of hr) (pv 3) (pv 12) (fun _ _ => rfl)) pe_str (fun _ _ => rfl)) pa_nil))))))) (nomark _)))))
  (pss_one (ps_ret pe_bl))
  pss_nil) ?_
  rintro D σ H ⟨F, n, R, ⟨pt, ct, x, y, z, ts, os, ⟨v6, v7, v8, v9, v10, v11, v12, v13, v14, v15, v16, v17, v18, v19, v20, v21, v22, v23, v24, rfl⟩, J, h4, hL⟩, k⟩
  have c1 := X.clS
  have c2 := X.clT
  have f1 := X.nS "tenants" (by decide +kernel)
  have f2 := X.nS "point" (by decide +kernel)
  have f3 := X.nT "waits" (by decide +kernel)
  have f4 := X.nT "point" (by decide +kernel)
  dsimp only [CoreL] at hL
  fail "go"
  refine ite_n (fun z => absurd rfl z) (fun _ => ?_)
  fail "go"
  refine ⟨F.wd, _, hL.at ⟨1, rfl⟩, trivial, fun od1 => ?_⟩
  generalize hH : upd H F.wd _ = H
  replace hL := Led.upU hL (o' := .frz od1 (.dK (os.map (kk tnV)))) (by fail "up") hH
  fail "cl"
  fail "go"
  replace hL : Led H (M1 CS CT F x y z ts os pt R od1) := by
    unfold M1
    (refine Led.le hL (fun a_ => ?_); simp only [cnt_nil, cnt_cons, cnt_app, List.map_append, List.map_cons, List.map_nil, List.flatMap_append, List.flatMap_cons, List.flatMap_nil, List.append_assoc, List.cons_append, List.nil_append]; omega)
  refine ⟨F.wd, od1, rfl, .inl ⟨_, hL.at ⟨0, rfl⟩, fun D1 hD => lc_it (walk_keys (kvs := os.map (kk tnV))) (fun i H => Hold (∃ rs : List (Addr × TE), rs.map (·.2) = ts.take i ∧ Led H ((D1, .lst (rs.map fun x => V.ref x.1)) :: M1 CS CT F x y z ts os pt (rs.map t3O ++ R) od1)))
    (.mk ⟨[], rfl, hL.new hD⟩) (fun i H _ h => ?_) (fun i v H1 H hi h hy => ?_) (fun H h => ?_)⟩⟩
  · obtain ⟨rs, e, hL⟩ := h.out
    exact hL.mem (.tail _ (.head _))
  · clear hL
    obtain ⟨rs, e, hL⟩ := h.out
    clear h
    obtain ⟨rfl, kx, vx, hk, rfl⟩ := hy
    rw [List.getElem?_map] at hk
    obtain ⟨o, ho, hk⟩ := Option.map_eq_some_iff.mp hk
    obtain ⟨rfl, rfl⟩ := Prod.mk.inj hk
    obtain ⟨ko, d0⟩ := o
    obtain ⟨d, hd⟩ : ∃ d, ts[i]? = some (ko, d) := by
      have h1 : (ts.map (·.1))[i]? = some ko := by rw [J.nm, List.getElem?_map, ho]; rfl
      rw [List.getElem?_map] at h1
      obtain ⟨⟨k1, d⟩, h2, rfl⟩ := Option.map_eq_some_iff.mp h1
      exact ⟨d, h2⟩
    have gd : aget ts ko = some d := mem_aget J.ok.nd (List.mem_of_getElem? hd)
    have lk : valV (ts.map (kk tnV)) (Sum.inr ko) = some (.ref d.a) := by rw [ts_val, gd]; rfl
    unfold M1 at hL
    have hrl : rs.length < 60 := by
      have h1 := congrArg List.length e
      rw [List.length_map, List.length_take] at h1
      rw [List.length_map] at h4
      omega
    have m : ∀ a ∈ TL CT d, a ∈ ((D1, HO.lst (rs.map fun x => V.ref x.1)) :: (F.wd, HO.frz od1 (HO.dK (os.map (kk tnV)))) :: (F.d, dD x y z) :: (F.s, .ins CS F.ds (fz nmS [.ref F.td, .int pt])) :: (F.td, .dK (ts.map (kk tnV))) :: (tsL CT ts ++ (osL os ++ (rs.map t3O ++ R)))) := fun x hx => .tail _ (.tail _ (.tail _ (.tail _ (.tail _ (List.mem_append_left _ (te_mem gd hx))))))
    refine ⟨rfl, k_yes ?_⟩
    fail "go"
    refine k_fld hL (at_mem (m _ (.head _))) c2 f4 (by fail "lkF") ?_
    fail "go"
    refine k_fld hL (at_mem (m _ (.head _))) c2 f3 (by fail "lkF") ?_
    fail "go"
    refine ⟨_, hL.at ⟨1, rfl⟩, by rw [List.length_map]; exact small60 hrl, ?_⟩
    fail "gup"
    refine .mk ⟨rs ++ [(p, (ko, d))], by rw [List.map_append, e, List.take_add_one, hd]; rfl, ?_⟩
    unfold M1
    (refine Led.le hL (fun a_ => ?_); simp only [cnt_nil, cnt_cons, cnt_app, List.map_append, List.map_cons, List.map_nil, List.flatMap_append, List.flatMap_cons, List.flatMap_nil, List.append_assoc, List.cons_append, List.nil_append, t3O, kV]; omega)
  clear hL
  obtain ⟨rs1, e1, hL⟩ := h.out
  clear h
  have e1 : rs1.map (·.2) = ts := by
    rw [e1]
    refine List.take_of_length_le ?_
    have h2 := congrArg List.length J.nm
    rw [List.length_map, List.length_map] at h2
    rw [List.length_map, h2]
    exact Nat.le_refl _
  unfold M1 at hL
  refine ⟨hL.at ⟨1, rfl⟩, ?_⟩
  generalize hH : upd H F.wd _ = H
  replace hL := Led.upU hL (o' := .dK (os.map (kk tnV))) (by fail "up") hH
  fail "cl"
  fail "go"
  refine ⟨F.wd, _, hL.at ⟨1, rfl⟩, trivial, fun od2 => ?_⟩
  generalize hH : upd H F.wd _ = H
  replace hL := Led.upU hL (o' := .frz od2 (.dK (os.map (kk tnV)))) (by fail "up") hH
  fail "cl"
  fail "go"
  replace hL : Led H (M1 CS CT F x y z ts os pt ((D1, .lst (rs1.map fun x => V.ref x.1)) :: (rs1.map t3O ++ R)) od2) := by
    unfold M1
    (refine Led.le hL (fun a_ => ?_); simp only [cnt_nil, cnt_cons, cnt_app, List.map_append, List.map_cons, List.map_nil, List.flatMap_append, List.flatMap_cons, List.flatMap_nil, List.append_assoc, List.cons_append, List.nil_append]; omega)
  refine ⟨F.wd, od2, rfl, .inl ⟨_, hL.at ⟨0, rfl⟩, fun D2 hD => lc_it (walk_keys (kvs := os.map (kk tnV))) (fun i H => Hold (∃ rs : List (Addr × TE), rs.map (·.2) = os.take i ∧ Led H ((D2, .lst (rs.map fun x => V.ref x.1)) :: M1 CS CT F x y z ts os pt (rs.map t3O ++ ((D1, .lst (rs1.map fun x => V.ref x.1)) :: (rs1.map t3O ++ R))) od2)))
    (.mk ⟨[], rfl, hL.new hD⟩) (fun i H _ h => ?_) (fun i v H1 H hi h hy => ?_) (fun H h => ?_)⟩⟩
  · obtain ⟨rs, e, hL⟩ := h.out
    exact hL.mem (.tail _ (.head _))
  · clear hL
    obtain ⟨rs, e, hL⟩ := h.out
    clear h
    obtain ⟨rfl, kx, vx, hk, rfl⟩ := hy
    rw [List.getElem?_map] at hk
    obtain ⟨o, ho, hk⟩ := Option.map_eq_some_iff.mp hk
    obtain ⟨rfl, rfl⟩ := Prod.mk.inj hk
    obtain ⟨ko, d0⟩ := o
    have gd : aget os ko = some d0 := mem_aget (by rw [← J.nm]; exact J.ok.nd) (List.mem_of_getElem? ho)
    have lk : valV (os.map (kk tnV)) (Sum.inr ko) = some (.ref d0.a) := by rw [ts_val, gd]; rfl
    unfold M1 at hL
    have hrl : rs.length < 60 := by
      have h1 := congrArg List.length e
      rw [List.length_map, List.length_take] at h1
      have h2 := congrArg List.length J.nm
      rw [List.length_map, List.length_map] at h2
      rw [List.length_map] at h4
      omega
    have m : ∀ a ∈ OL d0, a ∈ ((D2, HO.lst (rs.map fun x => V.ref x.1)) :: (F.wd, HO.frz od2 (HO.dK (os.map (kk tnV)))) :: (F.d, dD x y z) :: (F.s, .ins CS F.ds (fz nmS [.ref F.td, .int pt])) :: (F.td, .dK (ts.map (kk tnV))) :: (tsL CT ts ++ (osL os ++ (rs.map t3O ++ ((D1, .lst (rs1.map fun x => V.ref x.1)) :: (rs1.map t3O ++ R)))))) := fun x hx => .tail _ (.tail _ (.tail _ (.tail _ (.tail _ (List.mem_append_right _ (List.mem_append_left _ (oe_mem gd hx)))))))
    refine ⟨rfl, k_yes ?_⟩
    fail "go"
    refine k_dgetFS hL ⟨1, rfl⟩ lk ?_
    fail "go"
    refine k_dgetS hL (at_mem (m _ (.head _))) (by fail "lkD") ?_
    fail "go"
    refine k_dgetFS hL ⟨1, rfl⟩ lk ?_
    fail "go"
    refine k_dgetS hL (at_mem (m _ (.head _))) (by fail "lkD") ?_
    fail "go"
    refine ⟨_, hL.at ⟨1, rfl⟩, by rw [List.length_map]; exact small60 hrl, ?_⟩
    fail "gup"
    refine .mk ⟨rs ++ [(p, (ko, d0))], by rw [List.map_append, e, List.take_add_one, ho]; rfl, ?_⟩
    unfold M1
    (refine Led.le hL (fun a_ => ?_); simp only [cnt_nil, cnt_cons, cnt_app, List.map_append, List.map_cons, List.map_nil, List.flatMap_append, List.flatMap_cons, List.flatMap_nil, List.append_assoc, List.cons_append, List.nil_append, t3O, kV]; omega)
  clear hL
  obtain ⟨rs2, e2, hL⟩ := h.out
  clear h
  have e2 : rs2.map (·.2) = os := by
    rw [e2]
    refine List.take_of_length_le ?_
    rw [List.length_map]
    exact Nat.le_refl _
  unfold M1 at hL
  refine ⟨hL.at ⟨1, rfl⟩, ?_⟩
  generalize hH : upd H F.wd _ = H
  replace hL := Led.upU hL (o' := .dK (os.map (kk tnV))) (by fail "up") hH
  fail "cl"
  have m1 : ∀ x ∈ rs1, Dt K H (V.ref x.1) (t3D x.2) := fun x hx => by
    have hx2 : x.2 ∈ ts := by rw [← e1]; exact List.mem_map.mpr ⟨x, hx, rfl⟩
    have gd : aget ts x.2.1 = some x.2.2 := mem_aget J.ok.nd hx2
    exact dt_t3 (hL.mem (.tail _ (.tail _ (.tail _ (.tail _ (.tail _ (List.mem_append_right _ (List.mem_append_right _ (List.mem_append_right _ (.tail _ (List.mem_append_left _ (List.mem_map.mpr ⟨x, hx, rfl⟩)))))))))))) dt_str dt_int (wt_dt hL (at_mem (.tail _ (.tail _ (.tail _ (.tail _ (.tail _ (List.mem_append_left _ (te_mem gd (.tail _ (.head _)))))))))) fun y hy => (.tail _ (.tail _ (.tail _ (.tail _ (.tail _ (List.mem_append_left _ (te_mem gd (.tail _ (.tail _ (List.mem_map.mpr ⟨y, hy, rfl⟩)))))))))))
  have m2 : ∀ x ∈ rs2, Dt K H (V.ref x.1) (t3D x.2) := fun x hx => by
    have hx2 : x.2 ∈ os := by rw [← e2]; exact List.mem_map.mpr ⟨x, hx, rfl⟩
    have gd : aget os x.2.1 = some x.2.2 := mem_aget (by rw [← J.nm]; exact J.ok.nd) hx2
    exact dt_t3 (hL.mem (.tail _ (.tail _ (.tail _ (.tail _ (.tail _ (List.mem_append_right _ (List.mem_append_right _ (List.mem_append_left _ (List.mem_map.mpr ⟨x, hx, rfl⟩)))))))))) dt_str dt_int (wt_dt hL (at_mem (.tail _ (.tail _ (.tail _ (.tail _ (.tail _ (List.mem_append_right _ (List.mem_append_left _ (oe_mem gd (.tail _ (.head _))))))))))) fun y hy => (.tail _ (.tail _ (.tail _ (.tail _ (.tail _ (List.mem_append_right _ (List.mem_append_left _ (oe_mem gd (.tail _ (.tail _ (List.mem_map.mpr ⟨y, hy, rfl⟩))))))))))))
  have same : rs1.map (fun x => t3D x.2) = rs2.map (fun x => t3D x.2) := by
    have h1 : rs1.map (fun x => t3D x.2) = (rs1.map (·.2)).map t3D := by rw [List.map_map]; rfl
    have h2 : rs2.map (fun x => t3D x.2) = (rs2.map (·.2)).map t3D := by rw [List.map_map]; rfl
    have h3 : ∀ l : List TE, l.map t3D = (plO l).map fun y => (⟨y.1, y.2.2.1, y.2.2.2⟩ : DT) := fun l => by unfold plO; rw [List.map_map]; rfl
    rw [h1, h2, e1, e2, h3, h3, J.eq]
  refine k_neD (α := List DT) (by decide) (dt_list (δ := Addr × TE) (f := fun x => V.ref x.1) (g := fun x => t3D x.2) (hL.mem (.tail _ (.tail _ (.tail _ (.tail _ (.tail _ (List.mem_append_right _ (List.mem_append_right _ (List.mem_append_right _ (.head _)))))))))) m1) (dt_list (δ := Addr × TE) (f := fun x => V.ref x.1) (g := fun x => t3D x.2) (hL.at ⟨0, rfl⟩) m2) ?_
  rw [decide_eq_true same]
  fail "go"
  refine k _ _ ⟨pt, ct, x, y, z, ts, os, ⟨_, _, _, _, _, _, _, _, _, _, _, _, _, _, _, _, _, _, _, rfl⟩, J, h4, ?_⟩
  unfold CoreL
  (refine Led.le hL (fun a_ => ?_); simp only [cnt_nil, cnt_cons, cnt_app, List.map_append, List.map_cons, List.map_nil, List.flatMap_append, List.flatMap_cons, List.flatMap_nil, List.append_assoc, List.cons_append, List.nil_append]; omega)
end
end Sd


set_option linter.unusedVariables false
namespace Sd
open PySem L2
open C8 (Cal Met Mak pe_c pe_mk pe_mt pe_mt0 tCut)
set_option linter.unusedSimpArgs false
set_option pp.deepTerms false
set_option pp.deepTerms.threshold 12
set_option hygiene false
local macro_rules | `(tactic| fail "nd") => `(tactic| first | assumption | decide +kernel)
local macro_rules | `(tactic| fail "ix") => `(tactic| first | exact ⟨0, rfl⟩ | exact ⟨1, rfl⟩ | exact ⟨2, rfl⟩ | exact ⟨3, rfl⟩ | exact ⟨4, rfl⟩ | exact ⟨5, rfl⟩ | exact ⟨6, rfl⟩ | exact ⟨7, rfl⟩ | exact ⟨8, rfl⟩ | exact ⟨9, rfl⟩ | exact ⟨10, rfl⟩ | exact ⟨11, rfl⟩ | exact ⟨12, rfl⟩ | exact ⟨13, rfl⟩ | exact ⟨14, rfl⟩ | exact ⟨15, rfl⟩ | exact ⟨16, rfl⟩ | exact ⟨17, rfl⟩ | exact ⟨18, rfl⟩ | assumption)
local macro_rules | `(tactic| fail "up") => `(tactic| first | exact ⟨0, rfl, rfl⟩ | exact ⟨1, rfl, rfl⟩ | exact ⟨2, rfl, rfl⟩ | exact ⟨3, rfl, rfl⟩ | exact ⟨4, rfl, rfl⟩ | exact ⟨5, rfl, rfl⟩ | exact ⟨6, rfl, rfl⟩ | exact ⟨7, rfl, rfl⟩ | exact ⟨8, rfl, rfl⟩ | exact ⟨9, rfl, rfl⟩ | exact ⟨10, rfl, rfl⟩ | exact ⟨11, rfl, rfl⟩ | exact ⟨12, rfl, rfl⟩ | exact ⟨13, rfl, rfl⟩ | exact ⟨14, rfl, rfl⟩ | exact ⟨15, rfl, rfl⟩ | exact ⟨16, rfl, rfl⟩ | assumption)
local macro_rules | `(tactic| fail "lkF") => `(tactic| first | assumption | exact fz_at 0 (by fail "nd") rfl rfl | exact fz_at 1 (by fail "nd") rfl rfl | exact fz_at 2 (by fail "nd") rfl rfl | exact fz_at 3 (by fail "nd") rfl rfl | exact fz_at 4 (by fail "nd") rfl rfl | exact fz_at 5 (by fail "nd") rfl rfl | exact fz_at 6 (by fail "nd") rfl rfl | exact fz_at 7 (by fail "nd") rfl rfl)
local macro_rules | `(tactic| fail "lkD") => `(tactic| first | assumption | exact dz_at 0 (by fail "nd") rfl rfl | exact dz_at 1 (by fail "nd") rfl rfl | exact dz_at 2 (by fail "nd") rfl rfl | exact dz_at 3 (by fail "nd") rfl rfl | exact dz_at 4 (by fail "nd") rfl rfl)
local macro_rules | `(tactic| fail "ptF") => `(tactic| first | assumption | exact fz_put 0 (by fail "nd") rfl (Nat.le_of_ble_eq_true rfl) | exact fz_put 1 (by fail "nd") rfl (Nat.le_of_ble_eq_true rfl) | exact fz_put 2 (by fail "nd") rfl (Nat.le_of_ble_eq_true rfl) | exact fz_put 3 (by fail "nd") rfl (Nat.le_of_ble_eq_true rfl) | exact fz_put 4 (by fail "nd") rfl (Nat.le_of_ble_eq_true rfl) | exact fz_put 5 (by fail "nd") rfl (Nat.le_of_ble_eq_true rfl) | exact fz_put 6 (by fail "nd") rfl (Nat.le_of_ble_eq_true rfl) | exact fz_put 7 (by fail "nd") rfl (Nat.le_of_ble_eq_true rfl) | exact fz_new (by decide +kernel) rfl)
local macro_rules | `(tactic| fail "ptD") => `(tactic| first | assumption | exact dz_put 0 (by fail "nd") rfl (Nat.le_of_ble_eq_true rfl) | exact dz_put 1 (by fail "nd") rfl (Nat.le_of_ble_eq_true rfl) | exact dz_put 2 (by fail "nd") rfl (Nat.le_of_ble_eq_true rfl) | exact dz_put 3 (by fail "nd") rfl (Nat.le_of_ble_eq_true rfl) | exact dz_put 4 (by fail "nd") rfl (Nat.le_of_ble_eq_true rfl))
local macro_rules | `(tactic| fail "sz") => `(tactic| first | assumption | exact (Nat.le_of_ble_eq_true rfl) | omega | decide)
local macro_rules | `(tactic| fail "sd") => `(tactic| first | rfl | assumption | decide | omega | (dsimp only; first | decide | omega) | exact .inr ⟨by decide, by decide⟩ | exact .inl ⟨by decide, by decide⟩ | exact ⟨by omega, by omega⟩ | exact .inl ⟨by omega, by omega⟩ | exact .inr ⟨by omega, by omega⟩ | exact ⟨by omega, by omega, by omega⟩)
local macro_rules | `(tactic| fail "cl") => `(tactic| (clear hH; dsimp only [List.set, List.cons_append, List.nil_append, List.append] at hL))
local macro_rules | `(tactic| fail "gn") => `(tactic| (intro p hp; generalize hH : upd H p _ = H; replace hL := Led.newH hL hp hH; clear hH hp))
local macro_rules | `(tactic| fail "gup") => `(tactic| (generalize hH : upd H _ _ = H; replace hL := Led.upU hL (by fail "up") hH; fail "cl"))
local macro_rules | `(tactic| fail "gmk") => `(tactic| (intro x dx hx hd ne; generalize hH : upd (upd H dx _) x _ = H; replace hL := Led.made hL hx hd ne hH; clear hH hx hd ne))
local macro_rules | `(tactic| fail "v") => `(tactic| refine ⟨_, rfl, ?_⟩)
local macro_rules | `(tactic| fail "i2") => `(tactic| refine ⟨_, _, rfl, rfl, ?_⟩)
local macro_rules | `(tactic| fail "go1") => `(tactic| first
  | refine ⟨_, rfl, ?_⟩
  | refine ⟨_, _, rfl, rfl, ?_⟩
  | refine ⟨_, _, rfl, ?_⟩
  | refine iteT ?_
  | refine iteF ?_
  | refine k_fld hL (by fail "ix") (by assumption) (by assumption) (by fail "lkF") ?_
  | refine k_dgetS hL (by fail "ix") (by fail "lkD") ?_
  | refine k_dgetI hL (by fail "ix") (by assumption) ?_
  | refine k_ixL hL (by fail "ix") (by first | rfl | assumption) ?_
  | refine k_ixT hL (by fail "ix") (by first | rfl | assumption) ?_
  | refine k_tyL hL (by fail "ix") ?_
  | refine k_isd hL (by fail "ix") ?_
  | (refine And.intro (by fail "sz") ?_; fail "gn")
  | refine And.intro (by fail "sd") ?_
  | fail "gn"
  | refine k_meth hL (by fail "ix") (by first | assumption | exact fz_no (by decide +kernel)) ?_
  | refine k_gtup hL (by fail "ix") rfl ?_
  | (refine k_popI hL (by fail "ix") (by assumption) ?_; fail "gup")
  | (refine k_listD hL (by fail "ix") ?_; fail "gn")
  | (refine ⟨_, _, _, _, rfl, rfl, hL.at (by fail "ix"), rfl, ?_⟩; fail "gup")
  | (refine ⟨_, _, _, rfl, rfl, hL.at (by fail "ix"), (by fail "sz"), ?_⟩; fail "gup")
  | (refine ⟨_, _, _, _, rfl, hL.at (by fail "ix"), by assumption, by assumption, Nat.lt_of_le_of_lt fz_len (by decide), ?_⟩; generalize hH : upd H _ _ = H; replace hL := Led.upF hL (by fail "up") (by fail "ptF") hH; fail "cl")
  | (refine ⟨_, _, hL.at (by fail "ix"), Nat.lt_of_le_of_lt fz_len (by decide), ?_⟩; generalize hH : upd H _ _ = H; replace hL := Led.upF hL (by fail "up") (by fail "ptF") hH; fail "cl")
  | (refine k_dputS hL (by fail "ix") (Nat.lt_of_le_of_lt dz_len (by decide)) (by fail "ptD") (by fail "up") ?_; clear hL; intro H hL; dsimp only [List.set, List.cons_append, List.nil_append, List.append] at hL)
  | refine k_lenL2 hL (by fail "ix") ?_
  | refine k_lenT2 hL (by fail "ix") ?_
  | refine .inl ⟨_, rfl, ?_⟩
  | refine .inr ⟨_, rfl, ?_⟩)
local macro_rules | `(tactic| fail "go") => `(tactic| repeat fail "go1")
local macro_rules | `(tactic| fail "pm") => `(tactic| (refine Led.le hL (fun a_ => ?_); simp only [cnt_nil, cnt_cons, cnt_app, List.map_append, List.map_cons, List.map_nil, List.flatMap_append, List.flatMap_cons, List.flatMap_nil, List.append_assoc, List.cons_append, List.nil_append]; omega))

/-- before a step's block: name and row are set -/
def tBlk (CS CT : Addr) : TS := fun D σ H => ∃ F n pt ct x y z ts os R k e v6 v8 v10 v11 v12 v13 v14 v15 v16 v17 v18 v19 v20 v21 v22 v23 v24, σ = [some (.ref F.a), some (.ref F.d), some (.ref F.s), some (.ref F.wd), some (.int pt), some (.int ct), v6, some (.str k), v8, some (.ref e.a), v10, v11, v12, v13, v14, v15, v16, v17, v18, v19, v20, v21, v22, v23, v24] ∧
  JI n ts os ∧ ((ts.map (·.1)).length ≤ 4 ∧ 1 ≤ (ts.map (·.1)).length) ∧ n < 900 ∧ aget os k = some e ∧ Led H (CoreL CS CT F x y z ts os pt R) ∧ (∀ σ' H', Okk CS CT F (n + 1) R σ' H' → D.nx σ' H') ∧ ∀ σ' H', Okk CS CT F (n + 1) R σ' H' → D.ct σ' H'
structure TxtB (mg : Str → Option Value) : Prop where
  max : mg "max" = none
  min : mg "min" = none
section
variable {P : Program} {w : World} {K : PySem.W.Frag} {mg : Str → Option Value} {base : Heap} {CS CT : Addr} {f : Addr} {cdv : Value} {A : Around} {outer : List Env} {s0 : Shared} {H0 : Hp} {E : XK}
theorem blk_put (hr : Room 8 (LX P w K mg base f cdv A outer s0 H0 E).A) (X : TxtT K mg CT CS) (T : TxtB mg) (c_Shares_put : Met P w K mg base 1 CS "put" (spPut CS CT) []) (c__law_roll : Cal P w K mg base 1 "_law_roll" spRoll []) :
    PSs (LX P w K mg base f cdv A outer s0 H0 E) blkPut (tBlk CS CT) := by
  refine pss_imp (t := _) (pss_cons (ps_set (i := 10) scLaw.nd rfl (Or.inl rfl) (pe_op op_add pe_int (pe_c c__law_roll hr (by decide) (by rfl) (pa_cons (pv 1) (pa_cons pe_int pa_nil)))))
  (pss_cons (ps_set (i := 5) scLaw.nd rfl (Or.inl rfl) (pe_op op_add (pv 5) pe_int))
  (pss_cons (ps_expr (pe_mt c_Shares_put hr (by decide) (pv 2) (pa_cons (pv 7) (pa_cons (pv 10) (pa_cons (pv 5) pa_nil)))))
  (pss_cons (ps_dput (hu_of hr) (pv 9) pe_str (pe_ifExp (pt_cmpR (op_eqP hr.units) (pe_dget (hu_of hr) (pv 9) pe_str (fun _ _ => rfl)) (pe_lst pa_nil) (nomark _)) (pe_callB (call_max2 rfl) (by rfl) T.max (by decide +kernel) (pa_cons (pe_dget (hu_of hr) (pv 9) pe_str (fun _ _ => rfl)) (pa_cons (pv 4) pa_nil))) (pe_dget (hu_of hr) (pv 9) pe_str (fun _ _ => rfl))) rfl)
  (pss_one (ps_dput (hu_of hr) (pv 9) pe_str (pe_op op_cat (pe_dget (hu_of hr) (pv 9) pe_str (fun _ _ => rfl)) (pe_lst (pa_cons (pe_tup (pa_cons (pv 10) (pa_cons (pv 5) pa_nil))) pa_nil))) rfl)))))) ?_
  rintro D σ H ⟨F, n, pt, ct, x, y, z, ts, os, R, k, e, v6, v8, v10, v11, v12, v13, v14, v15, v16, v17, v18, v19, v20, v21, v22, v23, v24, rfl, J, h4, hn, he, hL, q, _⟩
  obtain ⟨d, e', hd, he', hp⟩ := J.both (aget_some he)
  obtain rfl : e = e' := Option.some.inj (he.symm.trans he')
  clear he'
  dsimp only [CoreL] at hL
  fail "go"
  refine ⟨F.d, x, y, z, 30, (F.wd, .dK (os.map (kk tnV))) :: (F.s, .ins CS F.ds (fz nmS [.ref F.td, .int pt])) :: (F.td, .dK (ts.map (kk tnV))) :: (tsL CT ts ++ (osL os ++ R)), rfl, hL, by decide, by decide, fun r x y z H h0 h1 hL => ?_⟩
  fail "go"
  refine ⟨F.s, F.ds, F.td, ts, pt, k, d, 1 + r, ct + 1, (F.d, dD x y z) :: (F.wd, .dK (os.map (kk tnV))) :: (osL os ++ R), rfl, by unfold ShL; (refine Led.le hL (fun a_ => ?_); simp only [cnt_nil, cnt_cons, cnt_app, List.map_append, List.map_cons, List.map_nil, List.flatMap_append, List.flatMap_cons, List.flatMap_nil, List.append_assoc, List.cons_append, List.nil_append]; omega), hd, by omega, Nat.lt_of_le_of_lt (J.n k d hd) (by omega), fun qa H hL => ?_⟩
  obtain ⟨R1, hc⟩ := os_cnt he
  have hc0 := hc e
  rw [aput_self he] at hc0
  generalize hts : aput ts k (putT d qa (1 + r) (ct + 1) pt) = ts2 at hL
  replace hL : Led H ((F.d, dD x y z) :: (F.wd, .dK (os.map (kk tnV))) :: (e.a, .dK (dz nmR [.int e.w, .ref e.wl, .int e.pt])) :: (e.wl, .lst (e.ws.map wV)) :: (e.ws.map wO ++ (R1 ++ (ShL CS CT F.s F.ds F.td ts2 pt ++ R)))) := by
    (refine Led.le hL (fun a_ => ?_); have q0_ := hc0 a_; (try dsimp only at q0_); (try simp only [cnt_nil, cnt_cons, cnt_app, List.map_append, List.map_cons, List.map_nil, List.flatMap_append, List.flatMap_cons, List.flatMap_nil, List.append_assoc, List.cons_append, List.nil_append, OL] at q0_); simp only [cnt_nil, cnt_cons, cnt_app, List.map_append, List.map_cons, List.map_nil, List.flatMap_append, List.flatMap_cons, List.flatMap_nil, List.append_assoc, List.cons_append, List.nil_append, OL]; omega)
  fail "go"
  have hel : e.ws.length ≤ n := by
    have h1 := J.n k d hd
    have h2 := congrArg (fun q : PJ => q.2.2.length) hp
    simp only [pj, List.length_map] at h2
    omega
  have fin : ∀ (p0 pc : Addr) H, Led H ((F.d, dD x y z) :: (F.wd, .dK (os.map (kk tnV))) :: (e.a, .dK (dz nmR [.int e.w, .ref pc, .int (if e.ws = [] then (if pt > e.pt then pt else e.pt) else e.pt)])) :: (pc, .lst (e.ws.map wV ++ [V.ref p0])) :: (p0, .tup [.int (1 + r), .int (ct + 1)]) :: (e.ws.map wO ++ (R1 ++ (ShL CS CT F.s F.ds F.td ts2 pt ++ R)))) → D.nx [some (.ref F.a), some (.ref F.d), some (.ref F.s), some (.ref F.wd), some (.int pt), some (.int (ct + 1)), v6, some (.str k), v8, some (.ref e.a), some (.int (1 + r)), v11, v12, v13, v14, v15, v16, v17, v18, v19, v20, v21, v22, v23, v24] H := fun p0 pc H hL => by
    have hp1 : d.w = e.w := congrArg (fun q : PJ => q.1) hp
    have hp2 : d.pt = e.pt := congrArg (fun q : PJ => q.2.1) hp
    have hp3 : d.ws.map (·.2) = e.ws.map (·.2) := congrArg (fun q : PJ => q.2.2) hp
    have hp4 : d.ws = [] ↔ e.ws = [] := by rw [← List.map_eq_nil_iff (f := (·.2)) (l := d.ws), hp3, List.map_eq_nil_iff]
    have hd2 := J.ok.w k d hd
    have hdl := J.n k d hd
    generalize he2 : ({ putT e p0 (1 + r) (ct + 1) pt with wl := pc } : TD) = e2
    have hj : pj (putT d qa (1 + r) (ct + 1) pt) = pj e2 := by
      rw [← he2]
      simp only [pj, putT, hp1, hp2, hp4, List.map_append, hp3, List.map_cons, List.map_nil]
    have Jn := J.put (m := n + 1) hd hj (Nat.le_succ _) ⟨hd2.1, hd2.2.1, fun x hx => by
      rcases List.mem_append.mp hx with hx | hx
      · exact hd2.2.2 x hx
      · rw [List.mem_singleton.mp hx]
        show 1 ≤ 1 + r ∧ 1 + r ≤ 1000
        omega⟩ (by show (d.ws ++ [_]).length ≤ _; rw [List.length_append]; exact Nat.succ_le_succ hdl)
    rw [hts] at Jn
    refine q _ _ ⟨pt, ct + 1, x, y, z, ts2, aput os k e2, ⟨_, _, _, _, _, _, _, _, _, _, _, _, _, _, _, _, _, _, _, rfl⟩, Jn, ?_, ?_⟩
    · rw [← hts, aput_names_in (aget_some hd)]; exact h4
    · unfold CoreL
      have hc2 := hc e2
      rw [tsd_put he (d' := e2) (by rw [← he2]; rfl)]
      rw [← he2] at hc2 ⊢
      (refine Led.le hL (fun a_ => ?_); have q0_ := hc2 a_; (try dsimp only at q0_); (try simp only [cnt_nil, cnt_cons, cnt_app, List.map_append, List.map_cons, List.map_nil, List.flatMap_append, List.flatMap_cons, List.flatMap_nil, List.append_assoc, List.cons_append, List.nil_append, OL, ShL, putT, wO, wV] at q0_); simp only [cnt_nil, cnt_cons, cnt_app, List.map_append, List.map_cons, List.map_nil, List.flatMap_append, List.flatMap_cons, List.flatMap_nil, List.append_assoc, List.cons_append, List.nil_append, OL, ShL, putT, wO, wV]; omega)
  refine k_eqD (α := List (Int × Int)) (by decide) (wt_dt hL (by fail "ix") fun x hx => .tail _ (.tail _ (.tail _ (.tail _ (.tail _ (List.mem_append_left _ (List.mem_map.mpr ⟨x, hx, rfl⟩))))))) (dt_nil (hL.at (by fail "ix"))) ?_
  by_cases hw : e.ws = []
  · rw [decide_eq_true (by rw [hw]; rfl)]
    fail "go"
    refine k_cat hL (by fail "ix") (by fail "ix") (by simp only [List.length_map, List.length_cons, List.length_nil]; exact Nat.le_trans (by omega : _ ≤ 1000) (by decide)) ?_
    fail "go"
    replace hL : ∃ p0 p1 pc p2 : Addr, Led H ((pc, .lst (e.ws.map wV ++ [V.ref p0])) :: (p1, .lst [.ref p0]) :: (p0, .tup [.int (1 + r), .int (ct + 1)]) :: (p2, .lst []) :: (F.d, dD x y z) :: (F.wd, .dK (os.map (kk tnV))) :: (e.a, .dK (dz nmR [.int e.w, .ref pc, .int (if pt > e.pt then pt else e.pt)])) :: (e.wl, .lst (e.ws.map wV)) :: (e.ws.map wO ++ (R1 ++ (ShL CS CT F.s F.ds F.td ts2 pt ++ R)))) := ⟨_, _, _, _, hL⟩
    obtain ⟨p0, p1, pc, p2, hL⟩ := hL
    refine fin p0 pc H ?_
    rw [if_pos hw]
    (refine Led.le hL (fun a_ => ?_); simp only [cnt_nil, cnt_cons, cnt_app, List.map_append, List.map_cons, List.map_nil, List.flatMap_append, List.flatMap_cons, List.flatMap_nil, List.append_assoc, List.cons_append, List.nil_append]; omega)
  · rw [decide_eq_false (fun z => hw (List.map_eq_nil_iff.mp z))]
    fail "go"
    refine k_cat hL (by fail "ix") (by fail "ix") (by simp only [List.length_map, List.length_cons, List.length_nil]; exact Nat.le_trans (by omega : _ ≤ 1000) (by decide)) ?_
    fail "go"
    replace hL : ∃ p0 p1 pc p2 : Addr, Led H ((pc, .lst (e.ws.map wV ++ [V.ref p0])) :: (p1, .lst [.ref p0]) :: (p0, .tup [.int (1 + r), .int (ct + 1)]) :: (p2, .lst []) :: (F.d, dD x y z) :: (F.wd, .dK (os.map (kk tnV))) :: (e.a, .dK (dz nmR [.int e.w, .ref pc, .int e.pt])) :: (e.wl, .lst (e.ws.map wV)) :: (e.ws.map wO ++ (R1 ++ (ShL CS CT F.s F.ds F.td ts2 pt ++ R)))) := ⟨_, _, _, _, hL⟩
    obtain ⟨p0, p1, pc, p2, hL⟩ := hL
    refine fin p0 pc H ?_
    rw [if_neg hw]
    (refine Led.le hL (fun a_ => ?_); simp only [cnt_nil, cnt_cons, cnt_app, List.map_append, List.map_cons, List.map_nil, List.flatMap_append, List.flatMap_cons, List.flatMap_nil, List.append_assoc, List.cons_append, List.nil_append]; omega)
end
end Sd


set_option linter.unusedVariables false
namespace Sd
open PySem L2
open C8 (Cal Met Mak pe_c pe_mk pe_mt pe_mt0 tCut)
set_option linter.unusedSimpArgs false
set_option pp.deepTerms false
set_option pp.deepTerms.threshold 12
set_option hygiene false
local macro_rules | `(tactic| fail "nd") => `(tactic| first | assumption | decide +kernel)
local macro_rules | `(tactic| fail "ix") => `(tactic| first | exact ⟨0, rfl⟩ | exact ⟨1, rfl⟩ | exact ⟨2, rfl⟩ | exact ⟨3, rfl⟩ | exact ⟨4, rfl⟩ | exact ⟨5, rfl⟩ | exact ⟨6, rfl⟩ | exact ⟨7, rfl⟩ | exact ⟨8, rfl⟩ | exact ⟨9, rfl⟩ | exact ⟨10, rfl⟩ | exact ⟨11, rfl⟩ | exact ⟨12, rfl⟩ | exact ⟨13, rfl⟩ | exact ⟨14, rfl⟩ | exact ⟨15, rfl⟩ | exact ⟨16, rfl⟩ | exact ⟨17, rfl⟩ | exact ⟨18, rfl⟩ | assumption)
local macro_rules | `(tactic| fail "up") => `(tactic| first | exact ⟨0, rfl, rfl⟩ | exact ⟨1, rfl, rfl⟩ | exact ⟨2, rfl, rfl⟩ | exact ⟨3, rfl, rfl⟩ | exact ⟨4, rfl, rfl⟩ | exact ⟨5, rfl, rfl⟩ | exact ⟨6, rfl, rfl⟩ | exact ⟨7, rfl, rfl⟩ | exact ⟨8, rfl, rfl⟩ | exact ⟨9, rfl, rfl⟩ | exact ⟨10, rfl, rfl⟩ | exact ⟨11, rfl, rfl⟩ | exact ⟨12, rfl, rfl⟩ | exact ⟨13, rfl, rfl⟩ | exact ⟨14, rfl, rfl⟩ | exact ⟨15, rfl, rfl⟩ | exact ⟨16, rfl, rfl⟩ | assumption)
local macro_rules | `(tactic| fail "lkF") => `(tactic| first | assumption | exact fz_at 0 (by fail "nd") rfl rfl | exact fz_at 1 (by fail "nd") rfl rfl | exact fz_at 2 (by fail "nd") rfl rfl | exact fz_at 3 (by fail "nd") rfl rfl | exact fz_at 4 (by fail "nd") rfl rfl | exact fz_at 5 (by fail "nd") rfl rfl | exact fz_at 6 (by fail "nd") rfl rfl | exact fz_at 7 (by fail "nd") rfl rfl)
local macro_rules | `(tactic| fail "lkD") => `(tactic| first | assumption | exact dz_at 0 (by fail "nd") rfl rfl | exact dz_at 1 (by fail "nd") rfl rfl | exact dz_at 2 (by fail "nd") rfl rfl | exact dz_at 3 (by fail "nd") rfl rfl | exact dz_at 4 (by fail "nd") rfl rfl)
local macro_rules | `(tactic| fail "ptF") => `(tactic| first | assumption | exact fz_put 0 (by fail "nd") rfl (Nat.le_of_ble_eq_true rfl) | exact fz_put 1 (by fail "nd") rfl (Nat.le_of_ble_eq_true rfl) | exact fz_put 2 (by fail "nd") rfl (Nat.le_of_ble_eq_true rfl) | exact fz_put 3 (by fail "nd") rfl (Nat.le_of_ble_eq_true rfl) | exact fz_put 4 (by fail "nd") rfl (Nat.le_of_ble_eq_true rfl) | exact fz_put 5 (by fail "nd") rfl (Nat.le_of_ble_eq_true rfl) | exact fz_put 6 (by fail "nd") rfl (Nat.le_of_ble_eq_true rfl) | exact fz_put 7 (by fail "nd") rfl (Nat.le_of_ble_eq_true rfl) | exact fz_new (by decide +kernel) rfl)
local macro_rules | `(tactic| fail "ptD") => `(tactic| first | assumption | exact dz_put 0 (by fail "nd") rfl (Nat.le_of_ble_eq_true rfl) | exact dz_put 1 (by fail "nd") rfl (Nat.le_of_ble_eq_true rfl) | exact dz_put 2 (by fail "nd") rfl (Nat.le_of_ble_eq_true rfl) | exact dz_put 3 (by fail "nd") rfl (Nat.le_of_ble_eq_true rfl) | exact dz_put 4 (by fail "nd") rfl (Nat.le_of_ble_eq_true rfl))
local macro_rules | `(tactic| fail "sz") => `(tactic| first | assumption | exact (Nat.le_of_ble_eq_true rfl) | omega | decide)
local macro_rules | `(tactic| fail "sd") => `(tactic| first | rfl | assumption | decide | omega | (dsimp only; first | decide | omega) | exact .inr ⟨by decide, by decide⟩ | exact .inl ⟨by decide, by decide⟩ | exact ⟨by omega, by omega⟩ | exact .inl ⟨by omega, by omega⟩ | exact .inr ⟨by omega, by omega⟩ | exact ⟨by omega, by omega, by omega⟩)
local macro_rules | `(tactic| fail "cl") => `(tactic| (clear hH; dsimp only [List.set, List.cons_append, List.nil_append, List.append] at hL))
local macro_rules | `(tactic| fail "gn") => `(tactic| (intro p hp; generalize hH : upd H p _ = H; replace hL := Led.newH hL hp hH; clear hH hp))
local macro_rules | `(tactic| fail "gup") => `(tactic| (generalize hH : upd H _ _ = H; replace hL := Led.upU hL (by fail "up") hH; fail "cl"))
local macro_rules | `(tactic| fail "gmk") => `(tactic| (intro x dx hx hd ne; generalize hH : upd (upd H dx _) x _ = H; replace hL := Led.made hL hx hd ne hH; clear hH hx hd ne))
local macro_rules | `(tactic| fail "v") => `(tactic| refine ⟨_, rfl, ?_⟩)
local macro_rules | `(tactic| fail "i2") => `(tactic| refine ⟨_, _, rfl, rfl, ?_⟩)
local macro_rules | `(tactic| fail "go1") => `(tactic| first
  | refine ⟨_, rfl, ?_⟩
  | refine ⟨_, _, rfl, rfl, ?_⟩
  | refine ⟨_, _, rfl, ?_⟩
  | refine iteT ?_
  | refine iteF ?_
  | refine k_fld hL (by fail "ix") (by assumption) (by assumption) (by fail "lkF") ?_
  | refine k_dgetS hL (by fail "ix") (by fail "lkD") ?_
  | refine k_dgetI hL (by fail "ix") (by assumption) ?_
  | refine k_ixL hL (by fail "ix") (by first | rfl | assumption) ?_
  | refine k_ixT hL (by fail "ix") (by first | rfl | assumption) ?_
  | refine k_tyL hL (by fail "ix") ?_
  | refine k_isd hL (by fail "ix") ?_
  | (refine And.intro (by fail "sz") ?_; fail "gn")
  | refine And.intro (by fail "sd") ?_
  | fail "gn"
  | refine k_meth hL (by fail "ix") (by first | assumption | exact fz_no (by decide +kernel)) ?_
  | refine k_gtup hL (by fail "ix") rfl ?_
  | (refine k_popI hL (by fail "ix") (by assumption) ?_; fail "gup")
  | (refine k_listD hL (by fail "ix") ?_; fail "gn")
  | (refine ⟨_, _, _, _, rfl, rfl, hL.at (by fail "ix"), rfl, ?_⟩; fail "gup")
  | (refine ⟨_, _, _, rfl, rfl, hL.at (by fail "ix"), (by fail "sz"), ?_⟩; fail "gup")
  | (refine ⟨_, _, _, _, rfl, hL.at (by fail "ix"), by assumption, by assumption, Nat.lt_of_le_of_lt fz_len (by decide), ?_⟩; generalize hH : upd H _ _ = H; replace hL := Led.upF hL (by fail "up") (by fail "ptF") hH; fail "cl")
  | (refine ⟨_, _, hL.at (by fail "ix"), Nat.lt_of_le_of_lt fz_len (by decide), ?_⟩; generalize hH : upd H _ _ = H; replace hL := Led.upF hL (by fail "up") (by fail "ptF") hH; fail "cl")
  | (refine k_dputS hL (by fail "ix") (Nat.lt_of_le_of_lt dz_len (by decide)) (by fail "ptD") (by fail "up") ?_; clear hL; intro H hL; dsimp only [List.set, List.cons_append, List.nil_append, List.append] at hL)
  | refine k_lenL2 hL (by fail "ix") ?_
  | refine k_lenT2 hL (by fail "ix") ?_
  | refine .inl ⟨_, rfl, ?_⟩
  | refine .inr ⟨_, rfl, ?_⟩)
local macro_rules | `(tactic| fail "go") => `(tactic| repeat fail "go1")
local macro_rules | `(tactic| fail "pm") => `(tactic| (refine Led.le hL (fun a_ => ?_); simp only [cnt_nil, cnt_cons, cnt_app, List.map_append, List.map_cons, List.map_nil, List.flatMap_append, List.flatMap_cons, List.flatMap_nil, List.append_assoc, List.cons_append, List.nil_append]; omega))

def M2 (CS CT : Addr) (F : Fx) (x y z : Int) (ts os : List TE) (pt : Int) (R : Lg) (od : Obj) : Lg := (F.wd, HO.frz od (HO.dK (os.map (kk tnV)))) :: (osL os ++ ((F.d, dD x y z) :: (ShL CS CT F.s F.ds F.td ts pt ++ R)))
theorem cut_tail {v : V} {l : List V} : cutV (v :: l) (some 1) none = l := by
  unfold cutV
  rw [show (some (1 : Int)) = some ((1 : Nat) : Int) from rfl, HT.sIx_nat, HT.sIx_none]
  simp
section
variable {P : Program} {w : World} {K : PySem.W.Frag} {mg : Str → Option Value} {base : Heap} {CS CT : Addr} {f : Addr} {cdv : Value} {A : Around} {outer : List Env} {s0 : Shared} {H0 : Hp} {E : XK}
theorem blk_take (hr : Room 8 (LX P w K mg base f cdv A outer s0 H0 E).A) (X : TxtT K mg CT CS) (T : TxtB mg) (c_Shares_next_work : Met P w K mg base 1 CS "next_work" (spNext CS CT) []) :
    PSs (LX P w K mg base f cdv A outer s0 H0 E) blkTake (tBlk CS CT) := by
  refine pss_imp (t := _) (pss_cons (ps_lock (ps_setLc (i := 11) (own := [("one", 12)]) (g := gName 12) (by rfl) scLaw.nd rfl rfl (sw_true rfl rfl rfl (by decide +kernel)) (pi_keys (pv 3)) (blkOk_by (own := [("one", 12)]) (N := ["script", "dice", "shares", "own", "point", "count", "k", "name", "step", "row", "size", "ready", "one", "found", "body", "busy", "sizes", "served", "many", "turn", "other", "apart", "fresh", "bad", "f"]) (sc := (defScope sLaw)) (by decide +kernel)) (fun _ _ _ _ _ => (pg_name (i := 12) scLaw.nd rfl (Or.inl rfl))) (fun _ _ _ _ _ => (pts_one (pt_cmpR (op_nePB hr.units) (pe_dget (hu_of hr) (pe_dget (hu_of hr) (pv 3) (pv 12) (fun _ _ => rfl)) pe_str (fun _ _ => rfl)) (pe_lst pa_nil) (nomark _)))) (fun _ _ _ _ _ => (pe_tup (pa_cons (pe_dget (hu_of hr) (pe_dget (hu_of hr) (pv 3) (pv 12) (fun _ _ => rfl)) pe_str (fun _ _ => rfl)) (pa_cons (pv 12) pa_nil))))))
  (pss_cons (ps_set (i := 13) scLaw.nd rfl (Or.inl rfl) (pe_mt0 c_Shares_next_work hr (by decide) (pv 2)))
  (pss_cons (ps_if (pt_cmpR (op_eqP hr.units) (pv 11) (pe_lst pa_nil) (nomark _))
  (pss_cons (ps_if (pt_cmpR op_notN (pv 13) pe_non (nomark _))
  (pss_one (ps_ret pe_bl))
  pss_nil)
  (pss_one ps_continue))
  pss_nil)
  (pss_cons (ps_asg (pe_callB (cr_minP rfl hr.units) (by rfl) T.min (by decide +kernel) (pa_cons (pv 11) pa_nil)) (pg_tup (by rfl) (pgs_cons (pg_name (i := 4) scLaw.nd rfl (Or.inl rfl)) (pgs_cons (pg_name (i := 12) scLaw.nd rfl (Or.inl rfl)) pgs_nil))))
  (pss_cons (ps_set (i := 9) scLaw.nd rfl (Or.inl rfl) (pe_dget (hu_of hr) (pv 3) (pv 12) (fun _ _ => rfl)))
  (pss_cons (ps_asg (pe_ix ix_list (pe_dget (hu_of hr) (pv 9) pe_str (fun _ _ => rfl)) pe_int (fun _ _ => rfl)) (pg_tup (by rfl) (pgs_cons (pg_name (i := 10) scLaw.nd rfl (Or.inl rfl)) (pgs_cons (pg_name (i := 14) scLaw.nd rfl (Or.inl rfl)) pgs_nil))))
  (pss_cons (ps_asg (pe_tup (pa_cons (pe_slice sl_list (pe_dget (hu_of hr) (pv 9) pe_str (fun _ _ => rfl)) (po_some pe_int) po_none) (pa_cons (pe_op op_add (pv 4) (pe_op op_fdiv (pe_op op_mul (pv 10) pe_int) (pe_dget (hu_of hr) (pv 9) pe_str (fun _ _ => rfl)))) pa_nil))) (pg_tup (by rfl) (pgs_cons (pg_sub (pv 9) pe_str (set_dict (hu_of hr))) (pgs_cons (pg_sub (pv 9) pe_str (set_dict (hu_of hr))) pgs_nil))))
  (pss_one (ps_if (pt_cmpR (op_neP hr.units) (pv 13) (pe_tup (pa_cons (pv 12) (pa_cons (pv 10) (pa_cons (pv 14) pa_nil)))) (nomark _))
  (pss_one (ps_ret pe_bl))
  pss_nil))))))))) ?_
  rintro D σ H ⟨F, n, pt, ct, x, y, z, ts, os, R, k, e, v6, v8, v10, v11, v12, v13, v14, v15, v16, v17, v18, v19, v20, v21, v22, v23, v24, rfl, J, h4, hn, he, hL, q, qc⟩
  clear he
  have nd : (os.map (·.1)).Nodup := by rw [← J.nm]; exact J.ok.nd
  have h4' : os.length ≤ 4 := by
    have h2 := congrArg List.length J.nm
    rw [h2, List.length_map] at h4
    exact h4.1
  dsimp only [CoreL] at hL
  fail "go"
  refine ⟨F.wd, _, hL.at ⟨1, rfl⟩, trivial, fun od1 => ?_⟩
  generalize hH : upd H F.wd _ = H
  replace hL := Led.upU hL (o' := .frz od1 (.dK (os.map (kk tnV)))) (by fail "up") hH
  fail "cl"
  replace hL : Led H (M2 CS CT F x y z ts os pt R od1) := by
    unfold M2
    (refine Led.le hL (fun a_ => ?_); simp only [cnt_nil, cnt_cons, cnt_app, List.map_append, List.map_cons, List.map_nil, List.flatMap_append, List.flatMap_cons, List.flatMap_nil, List.append_assoc, List.cons_append, List.nil_append, ShL]; omega)
  fail "go"
  refine ⟨F.wd, od1, rfl, .inl ⟨_, hL.at ⟨0, rfl⟩, fun D1 hD => lc_it (walk_keys (kvs := os.map (kk tnV))) (fun i H => Hold (∃ rs : List (Addr × IS), rs.map (·.2) = readyP os ((os.map (·.1)).take i) ∧ Led H ((D1, .lst (rs.map fun x => V.ref x.1)) :: M2 CS CT F x y z ts os pt (rs.map prO ++ R) od1)))
    (.mk ⟨[], rfl, hL.new hD⟩) (fun i H _ h => ?_) (fun i v H1 H hi h hy => ?_) (fun H h => ?_)⟩⟩
  · obtain ⟨rs, e, hL⟩ := h.out
    exact hL.mem (.tail _ (.head _))
  · clear hL
    obtain ⟨rs, e, hL⟩ := h.out
    clear h
    obtain ⟨rfl, kx, vx, hk, rfl⟩ := hy
    rw [List.getElem?_map] at hk
    obtain ⟨o, ho, hk⟩ := Option.map_eq_some_iff.mp hk
    obtain ⟨rfl, rfl⟩ := Prod.mk.inj hk
    obtain ⟨ko, d⟩ := o
    have hd : aget os ko = some d := mem_aget nd (List.mem_of_getElem? ho)
    have lk : valV (os.map (kk tnV)) (Sum.inr ko) = some (.ref d.a) := by rw [ts_val, hd]; rfl
    have hko : (os.map (·.1))[i]? = some ko := by rw [List.getElem?_map, ho]; rfl
    have e1 : readyP os ((os.map (·.1)).take (i + 1)) = readyP os ((os.map (·.1)).take i) ++ (if d.ws = [] then [] else [(d.pt, ko)]) := by
      unfold readyP
      rw [List.take_add_one, hko, List.filterMap_append]
      by_cases h : d.ws = [] <;> simp [hd, h]
    have m : ∀ x' ∈ OL d, x' ∈ ((D1, HO.lst (rs.map fun x => V.ref x.1)) :: M2 CS CT F x y z ts os pt (rs.map prO ++ R) od1) := fun x hx => .tail _ (.tail _ (List.mem_append_left _ (oe_mem hd hx)))
    unfold M2 at hL m
    refine ⟨rfl, ?_⟩
    fail "go"
    refine k_dgetFS hL ⟨1, rfl⟩ lk ?_
    fail "go"
    refine k_dgetS hL (at_mem (m _ (.head _))) (by fail "lkD") ?_
    fail "go"
    refine k_neD (α := List (Int × Int)) (by decide) (wt_dt hL (at_mem (.tail _ (m _ (.tail _ (.head _))))) fun x hx => .tail _ (m _ (.tail _ (.tail _ (List.mem_map.mpr ⟨x, hx, rfl⟩))))) (dt_nil (hL.at (by fail "ix"))) ?_
    by_cases hw : d.ws = []
    · rw [decide_eq_true (by rw [hw]; rfl)]
      fail "go"
      refine .mk ⟨rs, by rw [e, e1, if_pos hw, List.append_nil], ?_⟩
      unfold M2
      (refine Led.le hL (fun a_ => ?_); simp only [cnt_nil, cnt_cons, cnt_app, List.map_append, List.map_cons, List.map_nil, List.flatMap_append, List.flatMap_cons, List.flatMap_nil, List.append_assoc, List.cons_append, List.nil_append]; omega)
    · rw [decide_eq_false (fun z => hw (List.map_eq_nil_iff.mp z))]
      fail "go"
      refine k_dgetFS hL ⟨2, rfl⟩ lk ?_
      fail "go"
      refine k_dgetS hL (at_mem (.tail _ (m _ (.head _)))) (by fail "lkD") ?_
      fail "go"
      have hrl : rs.length < 60 := by
        have h1 : (rs.map (·.2)).length = _ := congrArg List.length e
        rw [List.length_map] at h1
        have h2 := readyP_len (ts := os) (ys := (os.map (·.1)).take i)
        rw [List.length_take, List.length_map] at h2
        omega
      refine ⟨_, hL.at ⟨2, rfl⟩, by rw [List.length_map]; exact Nat.lt_trans hrl (by decide), ?_⟩
      fail "gup"
      refine .mk ⟨rs ++ [(p, (d.pt, ko))], by rw [List.map_append, e, e1, if_neg hw]; rfl, ?_⟩
      unfold M2
      (refine Led.le hL (fun a_ => ?_); simp only [cnt_nil, cnt_cons, cnt_app, List.map_append, List.map_cons, List.map_nil, List.flatMap_append, List.flatMap_cons, List.flatMap_nil, List.append_assoc, List.cons_append, List.nil_append, prO, kV]; omega)
  · clear hL
    obtain ⟨rs, e, hL⟩ := h.out
    clear h
    have e : rs.map (·.2) = readyP os (os.map (·.1)) := by
      rw [e, List.take_of_length_le]
      rw [List.length_map, List.length_map]
      exact Nat.le_refl _
    have hrm : ∀ x : IS, x ∈ rs.map (·.2) ↔ ∃ d, aget os x.2 = some d ∧ d.ws ≠ [] ∧ x.1 = d.pt := fun x => by
      rw [e, ready_mem]
      constructor
      · rintro ⟨d, _, h⟩
        exact ⟨d, h⟩
      · rintro ⟨d, h, h'⟩
        exact ⟨d, aget_some h, h, h'⟩
    clear e
    unfold M2 at hL
    refine ⟨hL.at ⟨1, rfl⟩, ?_⟩
    generalize hH : upd H F.wd _ = H
    replace hL := Led.upU hL (o' := .dK (os.map (kk tnV))) (by fail "up") hH
    fail "cl"
    replace hL : Led H ((F.s, .ins CS F.ds (fz nmS [.ref F.td, .int pt])) :: (D1, HO.lst (rs.map fun x => V.ref x.1)) :: (F.wd, HO.dK (os.map (kk tnV))) :: (osL os ++ ((F.d, dD x y z) :: (F.td, .dK (ts.map (kk tnV))) :: (tsL CT ts ++ (rs.map prO ++ R))))) := by
      unfold ShL at hL
      (refine Led.le hL (fun a_ => ?_); simp only [cnt_nil, cnt_cons, cnt_app, List.map_append, List.map_cons, List.map_nil, List.flatMap_append, List.flatMap_cons, List.flatMap_nil, List.append_assoc, List.cons_append, List.nil_append]; omega)
    fail "go"
    have okd : ∀ {k d e}, aget ts k = some d → aget os k = some e → pj d = pj e := fun {k d e} hd he => by
      obtain ⟨d1, e1, h1, h2, h3⟩ := J.both (aget_some he)
      rw [hd] at h1
      rw [he] at h2
      cases h1
      cases h2
      exact h3
    refine ⟨F.s, F.ds, F.td, ts, pt, (D1, HO.lst (rs.map fun x => V.ref x.1)) :: (F.wd, HO.dK (os.map (kk tnV))) :: (osL os ++ ((F.d, dD x y z) :: (rs.map prO ++ R))), rfl, by unfold ShL; (refine Led.le hL (fun a_ => ?_); simp only [cnt_nil, cnt_cons, cnt_app, List.map_append, List.map_cons, List.map_nil, List.flatMap_append, List.flatMap_cons, List.flatMap_nil, List.append_assoc, List.cons_append, List.nil_append]; omega), J.ok, fun H hemp hL => ?_, fun p1 q1 k d size body rest H hd hws hle hL => ?_⟩
    · have hrs : rs = [] := by
        cases rs with
        | nil => rfl
        | cons x r =>
          exfalso
          obtain ⟨e, he, hw, _⟩ := (hrm x.2).mp (.head _)
          obtain ⟨d1, e1, h1, h2, h3⟩ := J.both (aget_some he)
          rw [he] at h2
          cases h2
          have h5 := congrArg (fun q : PJ => q.2.2) h3
          simp only [pj] at h5
          rw [hemp _ _ h1] at h5
          exact hw (List.map_eq_nil_iff.mp h5.symm)
      subst hrs
      replace hL : Led H ((D1, .lst []) :: CoreL CS CT F x y z ts os pt R) := by
        unfold CoreL
        (refine Led.le hL (fun a_ => ?_); simp only [cnt_nil, cnt_cons, cnt_app, List.map_append, List.map_cons, List.map_nil, List.flatMap_append, List.flatMap_cons, List.flatMap_nil, List.append_assoc, List.cons_append, List.nil_append, ShL]; omega)
      fail "go"
      refine k_eqD (α := List IS) (by decide) (dt_nil (hL.at (by fail "ix"))) (dt_nil (hL.at (by fail "ix"))) ?_
      rw [decide_eq_true rfl]
      fail "go"
      refine qc _ _ ⟨pt, ct, x, y, z, ts, os, ⟨_, _, _, _, _, _, _, _, _, _, _, _, _, _, _, _, _, _, _, rfl⟩, ⟨J.eq, J.ok, fun k d h => Nat.le_succ_of_le (J.n k d h)⟩, h4, hL.tail.tail⟩
    · obtain ⟨d1, e2, h1, he, hp⟩ := J.both (by rw [← J.nm]; exact aget_some hd)
      rw [hd] at h1
      cases h1
      have hp1 : d.w = e2.w := congrArg (fun q : PJ => q.1) hp
      have hp2 : d.pt = e2.pt := congrArg (fun q : PJ => q.2.1) hp
      have hp3 : d.ws.map (·.2) = e2.ws.map (·.2) := congrArg (fun q : PJ => q.2.2) hp
      have hcs := J.ok.w _ _ hd
      have hln := J.n _ _ hd
      have hsz := hcs.2.2 (q1, size, body) (by rw [hws]; exact .head _)
      dsimp only at hsz
      have hnl : e2.ws ≠ [] := fun z => by rw [z, hws] at hp3; cases hp3
      obtain ⟨q2, rest2, hws2, hr2⟩ : ∃ (q2 : Addr) (rest2 : List Wt), e2.ws = (q2, size, body) :: rest2 ∧ rest.map (·.2) = rest2.map (·.2) := by
        rw [hws] at hp3
        cases hh : e2.ws with
        | nil => exact absurd hh hnl
        | cons a r =>
          rw [hh] at hp3
          obtain ⟨a1, a2, a3⟩ := a
          simp only [List.map_cons, List.cons.injEq, Prod.mk.injEq] at hp3
          obtain ⟨⟨rfl, rfl⟩, h2⟩ := hp3
          exact ⟨a1, r, rfl, h2⟩
      have hmem := (hrm (e2.pt, k)).mpr ⟨e2, he, hnl, rfl⟩
      have hn : rs ≠ [] := fun z => by rw [z] at hmem; cases hmem
      obtain ⟨R1, hc⟩ := os_cnt he
      have hc0 := hc e2
      rw [aput_self he] at hc0
      have lk : valV (os.map (kk tnV)) (Sum.inr k) = some (.ref e2.a) := by rw [ts_val, he]; rfl
      have hw1 : 1 ≤ e2.w ∧ e2.w ≤ 10 := by rw [← hp1]; exact ⟨hcs.1, hcs.2.1⟩
      generalize hts : aput ts k (nextT d size rest) = ts2 at hL
      replace hL : Led H ((p1, .tup [.str k, .int size, .int body]) :: (D1, HO.lst (rs.map fun x => V.ref x.1)) :: (F.wd, HO.dK (os.map (kk tnV))) :: (e2.a, .dK (dz nmR [.int e2.w, .ref e2.wl, .int e2.pt])) :: (e2.wl, .lst ((q2, size, body) :: rest2 |>.map wV)) :: (q2, .tup [.int size, .int body]) :: (rest2.map wO ++ (rs.map prO ++ (R1 ++ ((F.d, dD x y z) :: (ShL CS CT F.s F.ds F.td ts2 d.pt ++ R)))))) := by
        (refine Led.le hL (fun a_ => ?_); have q0_ := hc0 a_; (try dsimp only at q0_); (try simp only [cnt_nil, cnt_cons, cnt_app, List.map_append, List.map_cons, List.map_nil, List.flatMap_append, List.flatMap_cons, List.flatMap_nil, List.append_assoc, List.cons_append, List.nil_append, OL, wO, hws2] at q0_); simp only [cnt_nil, cnt_cons, cnt_app, List.map_append, List.map_cons, List.map_nil, List.flatMap_append, List.flatMap_cons, List.flatMap_nil, List.append_assoc, List.cons_append, List.nil_append, OL, wO, hws2]; omega)
      fail "go"
      refine k_eqD (α := List IS) (by decide) (dt_list (δ := Addr × IS) (f := fun x => V.ref x.1) (g := (·.2)) (hL.at ⟨2, rfl⟩) fun x hx => dt_pair (hL.mem (.tail _ (.tail _ (.tail _ (.tail _ (.tail _ (.tail _ (.tail _ (List.mem_append_right _ (List.mem_append_left _ (List.mem_map.mpr ⟨x, hx, rfl⟩))))))))))) dt_int dt_str) (dt_nil (hL.at (by fail "ix"))) ?_
      rw [decide_eq_false (fun z => hn (List.map_eq_nil_iff.mp z))]
      fail "go"
      refine ⟨D1, rs, rfl, hn, .of (hL.at ⟨2, rfl⟩), fun x hx => hL.mem (.tail _ (.tail _ (.tail _ (.tail _ (.tail _ (.tail _ (.tail _ (List.mem_append_right _ (List.mem_append_left _ (List.mem_map.mpr ⟨x, hx, rfl⟩)))))))))), fun xx hx hmin => ?_⟩
      obtain ⟨p3, pt2, k2⟩ := xx
      obtain ⟨rfl, rfl⟩ : pt2 = e2.pt ∧ k2 = k := by
        obtain ⟨z, hz, ez⟩ := List.mem_map.mp hmem
        have l1 := hmin z hz
        rw [ez] at l1
        obtain ⟨e3, h1, h2, h3⟩ := (hrm (pt2, k2)).mp (List.mem_map.mpr ⟨_, hx, rfl⟩)
        obtain ⟨d3, e4, h5, h6, h7⟩ := J.both (aget_some h1)
        rw [h1] at h6
        cases h6
        have l2 := hle k2 d3 h5 (fun z => h2 (by
          have h8 := congrArg (fun q : PJ => q.2.2) h7
          simp only [pj] at h8
          rw [z] at h8
          exact List.map_eq_nil_iff.mp h8.symm))
        have h9 : d3.pt = pt2 := (congrArg (fun q : PJ => q.2.1) h7).trans h3.symm
        rw [hp2, h9] at l2
        exact Prod.mk.inj (leP_anti l1 l2)
      fail "go"
      refine k_gtup hL (at_mem (.tail _ (.tail _ (.tail _ (.tail _ (.tail _ (.tail _ (.tail _ (List.mem_append_right _ (List.mem_append_left _ (List.mem_map.mpr ⟨_, hx, rfl⟩))))))))))) rfl ?_
      fail "go"
      have lk0 : atI (((q2, size, body) :: rest2).map wV) 0 = some (.ref q2) := atI_nat (j := 0) rfl
      refine k_ixL hL (by fail "ix") lk0 ?_
      fail "go"
      refine ⟨e2.wl, _, rfl, .of (hL.at (by fail "ix")), ?_⟩
      rw [show ((q2, size, body) :: rest2).map wV = V.ref q2 :: rest2.map wV from rfl, cut_tail]
      fail "gn"
      fail "go"
      dsimp only at hL
      replace hL : ∃ pc pq pnil : Addr, Led H ((p, .tup [.str k2, .int size, .int body]) :: (pq, .tup [.ref pc, .int (e2.pt + size * 5040 / e2.w)]) :: (pc, .lst (rest2.map wV)) :: (pnil, .lst []) :: (p1, .tup [.str k2, .int size, .int body]) :: (D1, HO.lst (rs.map fun x => V.ref x.1)) :: (F.wd, HO.dK (os.map (kk tnV))) :: (e2.a, .dK (dz nmR [.int e2.w, .ref pc, .int (e2.pt + size * 5040 / e2.w)])) :: (e2.wl, .lst ((q2, size, body) :: rest2 |>.map wV)) :: (q2, .tup [.int size, .int body]) :: (rest2.map wO ++ (rs.map prO ++ (R1 ++ ((F.d, dD x y z) :: (ShL CS CT F.s F.ds F.td ts2 d.pt ++ R)))))) := ⟨_, _, _, hL⟩
      obtain ⟨pc, pq, pnil, hL⟩ := hL
      refine k_neD (α := T3 Str Int Int) (by decide) (dt_t3 (hL.at ⟨4, rfl⟩) dt_str dt_int dt_int) (dt_t3 (hL.at ⟨0, rfl⟩) dt_str dt_int dt_int) ?_
      rw [decide_eq_true rfl]
      fail "go"
      generalize he3 : ({ nextT e2 size rest2 with wl := pc } : TD) = e3
      have hj : pj (nextT d size rest) = pj e3 := by
        rw [← he3]
        simp only [pj, nextT, hp1, hp2, hr2]
      have Jn := J.put (m := n + 1) hd hj (Nat.le_succ _) ⟨hcs.1, hcs.2.1, fun x hx => hcs.2.2 x (by rw [hws]; exact .tail _ hx)⟩ (by rw [hws] at hln; exact Nat.le_succ_of_le (Nat.le_trans (Nat.le_succ _) hln))
      rw [hts] at Jn
      refine q _ _ ⟨e2.pt, ct, x, y, z, ts2, aput os k2 e3, ⟨_, _, _, _, _, _, _, _, _, _, _, _, _, _, _, _, _, _, _, rfl⟩, Jn, ?_, ?_⟩
      · rw [← hts, aput_names_in (aget_some hd)]; exact h4
      · unfold CoreL
        have hc2 := hc e3
        rw [tsd_put he (d' := e3) (by rw [← he3]; rfl)]
        rw [← he3] at hc2 ⊢
        rw [hp2] at hL
        (refine Led.le hL (fun a_ => ?_); have q0_ := hc2 a_; (try dsimp only at q0_); (try simp only [cnt_nil, cnt_cons, cnt_app, List.map_append, List.map_cons, List.map_nil, List.flatMap_append, List.flatMap_cons, List.flatMap_nil, List.append_assoc, List.cons_append, List.nil_append, OL, ShL, nextT, wO] at q0_); simp only [cnt_nil, cnt_cons, cnt_app, List.map_append, List.map_cons, List.map_nil, List.flatMap_append, List.flatMap_cons, List.flatMap_nil, List.append_assoc, List.cons_append, List.nil_append, OL, ShL, nextT, wO]; omega)
end
end Sd


set_option linter.unusedVariables false
namespace Sd
open PySem L2
open C8 (Cal Met Mak pe_c pe_mk pe_mt pe_mt0 tCut)
set_option linter.unusedSimpArgs false
set_option pp.deepTerms false
set_option pp.deepTerms.threshold 12
set_option hygiene false
local macro_rules | `(tactic| fail "nd") => `(tactic| first | assumption | decide +kernel)
local macro_rules | `(tactic| fail "ix") => `(tactic| first | exact ⟨0, rfl⟩ | exact ⟨1, rfl⟩ | exact ⟨2, rfl⟩ | exact ⟨3, rfl⟩ | exact ⟨4, rfl⟩ | exact ⟨5, rfl⟩ | exact ⟨6, rfl⟩ | exact ⟨7, rfl⟩ | exact ⟨8, rfl⟩ | exact ⟨9, rfl⟩ | exact ⟨10, rfl⟩ | exact ⟨11, rfl⟩ | exact ⟨12, rfl⟩ | exact ⟨13, rfl⟩ | exact ⟨14, rfl⟩ | exact ⟨15, rfl⟩ | exact ⟨16, rfl⟩ | exact ⟨17, rfl⟩ | exact ⟨18, rfl⟩ | assumption)
local macro_rules | `(tactic| fail "up") => `(tactic| first | exact ⟨0, rfl, rfl⟩ | exact ⟨1, rfl, rfl⟩ | exact ⟨2, rfl, rfl⟩ | exact ⟨3, rfl, rfl⟩ | exact ⟨4, rfl, rfl⟩ | exact ⟨5, rfl, rfl⟩ | exact ⟨6, rfl, rfl⟩ | exact ⟨7, rfl, rfl⟩ | exact ⟨8, rfl, rfl⟩ | exact ⟨9, rfl, rfl⟩ | exact ⟨10, rfl, rfl⟩ | exact ⟨11, rfl, rfl⟩ | exact ⟨12, rfl, rfl⟩ | exact ⟨13, rfl, rfl⟩ | exact ⟨14, rfl, rfl⟩ | exact ⟨15, rfl, rfl⟩ | exact ⟨16, rfl, rfl⟩ | assumption)
local macro_rules | `(tactic| fail "lkF") => `(tactic| first | assumption | exact fz_at 0 (by fail "nd") rfl rfl | exact fz_at 1 (by fail "nd") rfl rfl | exact fz_at 2 (by fail "nd") rfl rfl | exact fz_at 3 (by fail "nd") rfl rfl | exact fz_at 4 (by fail "nd") rfl rfl | exact fz_at 5 (by fail "nd") rfl rfl | exact fz_at 6 (by fail "nd") rfl rfl | exact fz_at 7 (by fail "nd") rfl rfl)
local macro_rules | `(tactic| fail "lkD") => `(tactic| first | assumption | exact dz_at 0 (by fail "nd") rfl rfl | exact dz_at 1 (by fail "nd") rfl rfl | exact dz_at 2 (by fail "nd") rfl rfl | exact dz_at 3 (by fail "nd") rfl rfl | exact dz_at 4 (by fail "nd") rfl rfl)
local macro_rules | `(tactic| fail "ptF") => `(tactic| first | assumption | exact fz_put 0 (by fail "nd") rfl (Nat.le_of_ble_eq_true rfl) | exact fz_put 1 (by fail "nd") rfl (Nat.le_of_ble_eq_true rfl) | exact fz_put 2 (by fail "nd") rfl (Nat.le_of_ble_eq_true rfl) | exact fz_put 3 (by fail "nd") rfl (Nat.le_of_ble_eq_true rfl) | exact fz_put 4 (by fail "nd") rfl (Nat.le_of_ble_eq_true rfl) | exact fz_put 5 (by fail "nd") rfl (Nat.le_of_ble_eq_true rfl) | exact fz_put 6 (by fail "nd") rfl (Nat.le_of_ble_eq_true rfl) | exact fz_put 7 (by fail "nd") rfl (Nat.le_of_ble_eq_true rfl) | exact fz_new (by decide +kernel) rfl)
local macro_rules | `(tactic| fail "ptD") => `(tactic| first | assumption | exact dz_put 0 (by fail "nd") rfl (Nat.le_of_ble_eq_true rfl) | exact dz_put 1 (by fail "nd") rfl (Nat.le_of_ble_eq_true rfl) | exact dz_put 2 (by fail "nd") rfl (Nat.le_of_ble_eq_true rfl) | exact dz_put 3 (by fail "nd") rfl (Nat.le_of_ble_eq_true rfl) | exact dz_put 4 (by fail "nd") rfl (Nat.le_of_ble_eq_true rfl))
local macro_rules | `(tactic| fail "sz") => `(tactic| first | assumption | exact (Nat.le_of_ble_eq_true rfl) | omega | decide)
local macro_rules | `(tactic| fail "sd") => `(tactic| first | rfl | assumption | decide | omega | (dsimp only; first | decide | omega) | exact .inr ⟨by decide, by decide⟩ | exact .inl ⟨by decide, by decide⟩ | exact ⟨by omega, by omega⟩ | exact .inl ⟨by omega, by omega⟩ | exact .inr ⟨by omega, by omega⟩ | exact ⟨by omega, by omega, by omega⟩)
local macro_rules | `(tactic| fail "cl") => `(tactic| (clear hH; dsimp only [List.set, List.cons_append, List.nil_append, List.append] at hL))
local macro_rules | `(tactic| fail "gn") => `(tactic| (intro p hp; generalize hH : upd H p _ = H; replace hL := Led.newH hL hp hH; clear hH hp))
local macro_rules | `(tactic| fail "gup") => `(tactic| (generalize hH : upd H _ _ = H; replace hL := Led.upU hL (by fail "up") hH; fail "cl"))
local macro_rules | `(tactic| fail "gmk") => `(tactic| (intro x dx hx hd ne; generalize hH : upd (upd H dx _) x _ = H; replace hL := Led.made hL hx hd ne hH; clear hH hx hd ne))
local macro_rules | `(tactic| fail "v") => `(tactic| refine ⟨_, rfl, ?_⟩)
local macro_rules | `(tactic| fail "i2") => `(tactic| refine ⟨_, _, rfl, rfl, ?_⟩)
local macro_rules | `(tactic| fail "go1") => `(tactic| first
  | refine ⟨_, rfl, ?_⟩
  | refine ⟨_, _, rfl, rfl, ?_⟩
  | refine ⟨_, _, rfl, ?_⟩
  | refine iteT ?_
  | refine iteF ?_
  | refine k_fld hL (by fail "ix") (by assumption) (by assumption) (by fail "lkF") ?_
  | refine k_dgetS hL (by fail "ix") (by fail "lkD") ?_
  | refine k_dgetI hL (by fail "ix") (by assumption) ?_
  | refine k_ixL hL (by fail "ix") (by first | rfl | assumption) ?_
  | refine k_ixT hL (by fail "ix") (by first | rfl | assumption) ?_
  | refine k_tyL hL (by fail "ix") ?_
  | refine k_isd hL (by fail "ix") ?_
  | (refine And.intro (by fail "sz") ?_; fail "gn")
  | refine And.intro (by fail "sd") ?_
  | fail "gn"
  | refine k_meth hL (by fail "ix") (by first | assumption | exact fz_no (by decide +kernel)) ?_
  | refine k_gtup hL (by fail "ix") rfl ?_
  | (refine k_popI hL (by fail "ix") (by assumption) ?_; fail "gup")
  | (refine k_listD hL (by fail "ix") ?_; fail "gn")
  | (refine ⟨_, _, _, _, rfl, rfl, hL.at (by fail "ix"), rfl, ?_⟩; fail "gup")
  | (refine ⟨_, _, _, rfl, rfl, hL.at (by fail "ix"), (by fail "sz"), ?_⟩; fail "gup")
  | (refine ⟨_, _, _, _, rfl, hL.at (by fail "ix"), by assumption, by assumption, Nat.lt_of_le_of_lt fz_len (by decide), ?_⟩; generalize hH : upd H _ _ = H; replace hL := Led.upF hL (by fail "up") (by fail "ptF") hH; fail "cl")
  | (refine ⟨_, _, hL.at (by fail "ix"), Nat.lt_of_le_of_lt fz_len (by decide), ?_⟩; generalize hH : upd H _ _ = H; replace hL := Led.upF hL (by fail "up") (by fail "ptF") hH; fail "cl")
  | (refine k_dputS hL (by fail "ix") (Nat.lt_of_le_of_lt dz_len (by decide)) (by fail "ptD") (by fail "up") ?_; clear hL; intro H hL; dsimp only [List.set, List.cons_append, List.nil_append, List.append] at hL)
  | refine k_lenL2 hL (by fail "ix") ?_
  | refine k_lenT2 hL (by fail "ix") ?_
  | refine .inl ⟨_, rfl, ?_⟩
  | refine .inr ⟨_, rfl, ?_⟩)
local macro_rules | `(tactic| fail "go") => `(tactic| repeat fail "go1")
local macro_rules | `(tactic| fail "pm") => `(tactic| (refine Led.le hL (fun a_ => ?_); simp only [cnt_nil, cnt_cons, cnt_app, List.map_append, List.map_cons, List.map_nil, List.flatMap_append, List.flatMap_cons, List.flatMap_nil, List.append_assoc, List.cons_append, List.nil_append]; omega))

structure TxtR (mg : Str → Option Value) : Prop where
  range : mg "range" = none
  list : mg "list" = none
  len : mg "len" = none
def nm4 : List Str := ["d", "b", "c", "a"]
theorem ix4 {i : Nat} (hi : i < 4) {H : Hp} {Q : VK} (q : ∀ k, nm4[i]? = some k → Q (.str k) H) : rIxS (.str "dbca") (.int (0 + (i : Int))) H Q := by
  rcases (by omega : i = 0 ∨ i = 1 ∨ i = 2 ∨ i = 3) with rfl | rfl | rfl | rfl
  · exact ⟨_, _, 100, rfl, rfl, by decide +kernel, by decide +kernel, q _ (by decide +kernel)⟩
  · exact ⟨_, _, 98, rfl, rfl, by decide +kernel, by decide +kernel, q _ (by decide +kernel)⟩
  · exact ⟨_, _, 99, rfl, rfl, by decide +kernel, by decide +kernel, q _ (by decide +kernel)⟩
  · exact ⟨_, _, 97, rfl, rfl, by decide +kernel, by decide +kernel, q _ (by decide +kernel)⟩
theorem aget_snoc {α : Type} {k j : Str} {v : α} {l : List (Str × α)} (h : k ∉ l.map (·.1)) : aget (l ++ [(k, v)]) j = if k = j then some v else aget l j := by
  rw [← aput_names_out h, aget_put]
theorem JI.snoc {n : Nat} {ts os : List TE} (h : JI n ts os) {k : Str} {d e : TD} (hk : k ∉ os.map (·.1)) (he : pj d = pj e) (hw : 1 ≤ d.w ∧ d.w ≤ 10) (hl : d.ws = []) (hz : ts.length + 1 < 60) : JI n (ts ++ [(k, d)]) (os ++ [(k, e)]) := by
  have hk2 : k ∉ ts.map (·.1) := by rw [h.nm]; exact hk
  refine ⟨by show (ts ++ [(k, d)]).map _ = (os ++ [(k, e)]).map _; rw [List.map_append, List.map_append]; show plO ts ++ [(k, pj d)] = plO os ++ [(k, pj e)]; rw [h.eq, he], ⟨?_, by rw [List.length_append]; exact hz, fun j x hj => ?_⟩, fun j x hj => ?_⟩
  · rw [List.map_append]
    exact List.nodup_append.mpr ⟨h.ok.nd, by simp, fun a ha b hb => by
      rw [List.map_cons, List.map_nil, List.mem_singleton] at hb
      rintro rfl
      rw [hb] at ha
      exact hk2 ha⟩
  · rw [aget_snoc hk2] at hj
    by_cases z : k = j
    · rw [if_pos z] at hj
      cases hj
      exact ⟨hw.1, hw.2, fun x hx => by rw [hl] at hx; cases hx⟩
    · rw [if_neg z] at hj
      exact h.ok.w j x hj
  · rw [aget_snoc hk2] at hj
    by_cases z : k = j
    · rw [if_pos z] at hj
      cases hj
      rw [hl]; exact Nat.zero_le _
    · rw [if_neg z] at hj
      exact h.n j x hj
theorem JI.nil : JI 0 [] [] := ⟨rfl, ⟨.nil, by decide, fun _ _ h => (nomatch h)⟩, fun _ _ h => (nomatch h)⟩
def Ok1 (CS CT : Addr) (F : Fx) (R : Lg) (σ : L2.St) (H : Hp) : Prop := ∃ x y z ts os, Sh F 0 0 σ ∧ JI 0 ts os ∧ ((ts.map (·.1)).length ≤ 4 ∧ 1 ≤ (ts.map (·.1)).length) ∧ Led H (CoreL CS CT F x y z ts os 0 R)
def tOwn (CS CT : Addr) : TS := fun D σ H => ∃ F x y z R, Sh F 0 0 σ ∧ Led H (CoreL CS CT F x y z [] [] 0 R) ∧ ∀ σ' H', Ok1 CS CT F R σ' H' → D.nx σ' H'
section
variable {P : Program} {w : World} {K : PySem.W.Frag} {mg : Str → Option Value} {base : Heap} {CS CT : Addr} {f : Addr} {cdv : Value} {A : Around} {outer : List Env} {s0 : Shared} {H0 : Hp} {E : XK}
theorem st_own (hr : Room 8 (LX P w K mg base f cdv A outer s0 H0 E).A) (X : TxtT K mg CT CS) (T : TxtR mg) (c_Shares_add : Met P w K mg base 3 CS "add" (spAdd CS CT) []) (c__law_roll : Cal P w K mg base 1 "_law_roll" spRoll []) :
    PS (LX P w K mg base f cdv A outer s0 H0 E) (nth bodyB 1) (tOwn CS CT) := by
  refine ps_imp (t := _) (ps_for PassesOwn.never rfl (pi_range1 (by rfl) T.range (pa_cons (pe_op op_add pe_int (pe_c c__law_roll hr (by decide) (by rfl) (pa_cons (pv 1) (pa_cons pe_int pa_nil)))) pa_nil)) (pg_name (i := 6) scLaw.nd rfl (Or.inl rfl))
  (pss_cons (ps_set (i := 7) scLaw.nd rfl (Or.inl rfl) (pe_ix ix_str pe_str (pv 6) (fun _ _ => rfl)))
  (pss_cons (ps_dput (hu_of hr) (pv 3) (pv 7) (pe_disp (pps_cons pe_str (pe_op op_add pe_int (pe_c c__law_roll hr (by decide) (by rfl) (pa_cons (pv 1) (pa_cons pe_int pa_nil)))) (pps_cons pe_str (pe_lst pa_nil) (pps_cons pe_str pe_int pps_nil))) (by rfl) (by rfl) (fun z => by cases z) (by decide)) rfl)
  (pss_one (ps_expr (pe_mt c_Shares_add hr (by decide) (pv 2) (pa_cons (pv 7) (pa_cons (pe_dget (hu_of hr) (pe_dget (hu_of hr) (pv 3) (pv 7) (fun _ _ => rfl)) pe_str (fun _ _ => rfl)) pa_nil)))))))) ?_
  rintro D σ H ⟨F, x, y, z, R, ⟨v6, v7, v8, v9, v10, v11, v12, v13, v14, v15, v16, v17, v18, v19, v20, v21, v22, v23, v24, rfl⟩, hL, k⟩
  dsimp only [CoreL] at hL
  fail "go"
  refine ⟨F.d, x, y, z, 4, _, rfl, hL, by decide, by decide, fun r x y z H h0 h1 hL => ?_⟩
  fail "go"
  obtain ⟨m, hm, hm4, hm1⟩ : ∃ m : Nat, (1 + r).toNat = m ∧ m ≤ 4 ∧ 1 ≤ m := ⟨_, rfl, by omega, by omega⟩
  rw [hm]
  refine for_rangeA (fun i σ H => Hold (∃ x y z ts os, Sh F 0 0 σ ∧ JI 0 ts os ∧ ts.map (·.1) = nm4.take i ∧ Led H (CoreL CS CT F x y z ts os 0 R))) (.mk ⟨x, y, z, [], [], ⟨_, _, _, _, _, _, _, _, _, _, _, _, _, _, _, _, _, _, _, rfl⟩, JI.nil, rfl, hL⟩) (fun i σ H D2 hi h hD2 => ?_) (fun σ H h => ?_)
  · clear hL
    obtain ⟨x, y, z, ts, os, ⟨v6, v7, v8, v9, v10, v11, v12, v13, v14, v15, v16, v17, v18, v19, v20, v21, v22, v23, v24, rfl⟩, J, hnm, hL⟩ := h.out
    clear h
    dsimp only [CoreL] at hL
    fail "go"
    refine ix4 (by omega) fun ky hky => ?_
    have hkn : ky ∉ os.map (·.1) := by
      rw [← J.nm, hnm]
      have : ∀ i : Fin 4, ∀ k, nm4[i.1]? = some k → k ∉ nm4.take i.1 := by decide +kernel
      exact this ⟨i, by omega⟩ ky hky
    have hzt : ts.length ≤ 4 := by
      have := congrArg List.length hnm
      rw [List.length_map, List.length_take] at this
      omega
    fail "go"
    replace hL : ∃ da : Addr, Led H ((F.d, dD x y z) :: (da, .dK []) :: (F.wd, HO.dK (os.map (kk tnV))) :: (F.s, HO.ins CS F.ds (fz nmS [.ref F.td, .int 0])) :: (F.td, HO.dK (ts.map (kk tnV))) :: (tsL CT ts ++ (osL os ++ R))) ∧ da = p := ⟨p, by (refine Led.le hL (fun a_ => ?_); simp only [cnt_nil, cnt_cons, cnt_app, List.map_append, List.map_cons, List.map_nil, List.flatMap_append, List.flatMap_cons, List.flatMap_nil, List.append_assoc, List.cons_append, List.nil_append]; omega), rfl⟩
    obtain ⟨da, hL, ep⟩ := hL
    subst ep
    refine ⟨F.d, x, y, z, 10, _, rfl, hL, by decide, by decide, fun wg x y z H h2 h3 hL => ?_⟩
    fail "go"
    refine ⟨hL.at ⟨2, rfl⟩, dz nmR [.int (1 + wg), .ref p, .int 0], rfl, Nat.le_of_ble_eq_true rfl, ?_⟩
    rw [mergeK_dz (by decide +kernel) rfl]
    fail "gup"
    fail "go"
    refine k_dputS hL ⟨3, rfl⟩ (by rw [List.length_map]; exact small60 (by have := congrArg List.length J.nm; rw [List.length_map, List.length_map] at this; omega)) (kk_put (vo := tnV) (v := (⟨da, da, p, 1 + wg, [], 0⟩ : TD)) (by rw [← J.nm]; exact J.ok.nd)) (by fail "up") fun H hL => ?_
    rw [aput_names_out hkn] at hL
    dsimp only [List.set] at hL
    have lk2 : valV ((os ++ [(ky, (⟨da, da, p, 1 + wg, [], 0⟩ : TD))]).map (kk tnV)) (Sum.inr ky) = some (.ref da) := by rw [ts_val, aget_snoc hkn, if_pos rfl]; rfl
    fail "go"
    refine ⟨F.s, F.ds, F.td, ts, 0, ky, 1 + wg, (p, .lst []) :: (F.d, dD x y z) :: (da, .dK (dz nmR [.int (1 + wg), .ref p, .int 0])) :: (F.wd, HO.dK ((os ++ [(ky, (⟨da, da, p, 1 + wg, [], 0⟩ : TD))]).map (kk tnV))) :: (osL os ++ R), rfl, by unfold ShL; (refine Led.le hL (fun a_ => ?_); simp only [cnt_nil, cnt_cons, cnt_app, List.map_append, List.map_cons, List.map_nil, List.flatMap_append, List.flatMap_cons, List.flatMap_nil, List.append_assoc, List.cons_append, List.nil_append]; omega), by rw [J.nm]; exact hkn, by omega, J.ok.nd, by omega, by omega, fun d H e1 e2 e3 hL => ?_⟩
    fail "go"
    refine hD2.nx _ _ (.mk ⟨x, y, z, ts ++ [(ky, d)], os ++ [(ky, ⟨da, da, p, 1 + wg, [], 0⟩)], ⟨_, _, _, _, _, _, _, _, _, _, _, _, _, _, _, _, _, _, _, rfl⟩, J.snoc hkn (by simp only [pj, e1, e2, e3]) (by rw [e1]; omega) e2 (by omega), ?_, ?_⟩)
    · rw [List.map_append, hnm, List.take_add_one, hky]; rfl
    · unfold CoreL
      (refine Led.le hL (fun a_ => ?_); simp only [cnt_nil, cnt_cons, cnt_app, List.map_append, List.map_cons, List.map_nil, List.flatMap_append, List.flatMap_cons, List.flatMap_nil, List.append_assoc, List.cons_append, List.nil_append, ShL, osL, OL]; omega)
  · clear hL
    obtain ⟨x, y, z, ts, os, hS, J, hnm, hL⟩ := h.out
    have hl := congrArg List.length hnm
    rw [List.length_map, List.length_take] at hl
    have : nm4.length = 4 := rfl
    refine k _ _ ⟨x, y, z, ts, os, hS, J, ?_, hL⟩
    rw [List.length_map]; omega
def Ok2 (CS CT : Addr) (F : Fx) (R : Lg) (σ : L2.St) (H : Hp) : Prop := ∃ pt ct x y z ts os n, Sh F pt ct σ ∧ JI n ts os ∧ ((ts.map (·.1)).length ≤ 4 ∧ 1 ≤ (ts.map (·.1)).length) ∧ Led H (CoreL CS CT F x y z ts os pt R)
def tSteps (CS CT : Addr) : TS := fun D σ H => ∃ F R, Ok1 CS CT F R σ H ∧ ∀ σ' H', Ok2 CS CT F R σ' H' → D.nx σ' H'
theorem st_steps (hr : Room 8 (LX P w K mg base f cdv A outer s0 H0 E).A) (T : TxtR mg) (c__law_roll : Cal P w K mg base 1 "_law_roll" spRoll []) (bP : PSs (LX P w K mg base f cdv A outer s0 H0 E) blkPut (tBlk CS CT)) (bT : PSs (LX P w K mg base f cdv A outer s0 H0 E) blkTake (tBlk CS CT)) (b4 : PS (LX P w K mg base f cdv A outer s0 H0 E) stCheck (tChk CS CT)) :
    PS (LX P w K mg base f cdv A outer s0 H0 E) (nth bodyB 2) (tSteps CS CT) := by
  refine ps_imp (t := _) (ps_for PassesOwn.never rfl (pi_range1 (by rfl) T.range (pa_cons (pe_c c__law_roll hr (by decide) (by rfl) (pa_cons (pv 1) (pa_cons pe_int pa_nil))) pa_nil)) (pg_name (i := 8) scLaw.nd rfl (Or.inl rfl))
  (pss_cons (ps_set (i := 7) scLaw.nd rfl (Or.inl rfl) (pe_ix ix_list (pe_callTy (call_list_dK rfl) (by rfl) T.list (by decide +kernel) (pa_cons (pv 3) pa_nil)) (pe_c c__law_roll hr (by decide) (by rfl) (pa_cons (pv 1) (pa_cons (pe_callB call_lenD (by rfl) T.len (by decide +kernel) (pa_cons (pv 3) pa_nil)) pa_nil))) (fun _ _ => rfl)))
  (pss_cons (ps_set (i := 9) scLaw.nd rfl (Or.inl rfl) (pe_dget (hu_of hr) (pv 3) (pv 7) (fun _ _ => rfl)))
  (C8.pss_cut (ps_if (pt_cmpR op_eq (pe_c c__law_roll hr (by decide) (by rfl) (pa_cons (pv 1) (pa_cons pe_int pa_nil))) pe_int (nomark _))
  bP
  bT)
  (pss_one b4))))) ?_
  rintro D σ H ⟨F, R, ⟨x, y, z, ts, os, ⟨v6, v7, v8, v9, v10, v11, v12, v13, v14, v15, v16, v17, v18, v19, v20, v21, v22, v23, v24, rfl⟩, J, h4, hL⟩, k⟩
  dsimp only [CoreL] at hL
  fail "go"
  refine ⟨F.d, x, y, z, 101, _, rfl, hL, by decide, by decide, fun r x y z H h0 h1 hL => ?_⟩
  fail "go"
  obtain ⟨m, hm, hm4⟩ : ∃ m : Nat, r.toNat = m ∧ m ≤ 100 := ⟨_, rfl, by omega⟩
  rw [hm]
  refine for_rangeA (fun i σ H => Hold (Okk CS CT F i R σ H)) (.mk ⟨0, 0, x, y, z, ts, os, ⟨_, _, _, _, _, _, _, _, _, _, _, _, _, _, _, _, _, _, _, rfl⟩, J, h4, hL⟩) (fun i σ H D2 hi h hD2 => ?_) (fun σ H h => ?_)
  · clear hL J h4
    obtain ⟨pt, ct, x, y, z, ts, os, ⟨v6, v7, v8, v9, v10, v11, v12, v13, v14, v15, v16, v17, v18, v19, v20, v21, v22, v23, v24, rfl⟩, J, h4, hL⟩ := h.out
    clear h
    dsimp only [CoreL] at hL
    fail "go"
    have hnm := J.nm
    have hlen : os.length = ts.length := by
      have := congrArg List.length hnm
      rw [List.length_map, List.length_map] at this
      exact this.symm
    rw [List.length_map] at h4
    refine ⟨_, _, rfl, hL.at ⟨2, rfl⟩, ?_⟩
    fail "go"
    rw [List.length_map]
    replace hL : ∃ pl : Addr, Led H ((F.d, dD x y z) :: (pl, .lst ((os.map (·.1)).map V.str)) :: (F.wd, HO.dK (os.map (kk tnV))) :: (F.s, HO.ins CS F.ds (fz nmS [.ref F.td, .int pt])) :: (F.td, HO.dK (ts.map (kk tnV))) :: (tsL CT ts ++ (osL os ++ R))) ∧ pl = p := by
      rw [List.map_map] at hL
      refine ⟨p, ?_, rfl⟩
      rw [List.map_map]
      exact hL.perm (List.Perm.swap _ _ _)
    obtain ⟨pl, hL, ep⟩ := hL
    subst ep
    refine ⟨F.d, x, y, z, os.length, _, rfl, hL, by omega, by omega, fun r x y z H h0 h1 hL => ?_⟩
    fail "go"
    obtain ⟨j, rfl⟩ : ∃ j : Nat, r = j := ⟨r.toNat, by omega⟩
    obtain ⟨⟨ky, e⟩, hj⟩ : ∃ q, os[j]? = some q := ⟨_, List.getElem?_eq_getElem (by omega)⟩
    have lkI : atI ((os.map (·.1)).map V.str) (j : Int) = some (.str ky) := atI_nat (by rw [List.getElem?_map, List.getElem?_map, hj]; rfl)
    have he : aget os ky = some e := mem_aget (by rw [← hnm]; exact J.ok.nd) (List.mem_of_getElem? hj)
    have lk : valV (os.map (kk tnV)) (Sum.inr ky) = some (.ref e.a) := by rw [ts_val, he]; rfl
    refine k_ixL hL ⟨1, rfl⟩ lkI ?_
    fail "go"
    refine ⟨fun σ H => Hold (Okk CS CT F (i + 1) R σ H), ?_, fun σ H h => ⟨F, i + 1, R, h.out, fun σ' H' h' => hD2.nx _ _ (.mk h')⟩⟩
    fail "go"
    refine ⟨F.d, x, y, z, 2, _, rfl, hL, by decide, by decide, fun r2 x y z H h2 h3 hL => ?_⟩
    fail "go"
    have h4 : (ts.map (·.1)).length ≤ 4 ∧ 1 ≤ (ts.map (·.1)).length := by rw [List.length_map]; exact h4
    refine ite_d (fun _ => ?_) (fun _ => ?_)
    · refine ⟨F, i, pt, ct, x, y, z, ts, os, R, ky, e, _, _, _, _, _, _, _, _, _, _, _, _, _, _, _, _, _, rfl, J, h4, by omega, he, ?_, fun σ' H' h => .mk h, fun σ' H' h => hD2.ct _ _ (.mk h)⟩
      unfold CoreL
      (refine Led.le hL (fun a_ => ?_); simp only [cnt_nil, cnt_cons, cnt_app, List.map_append, List.map_cons, List.map_nil, List.flatMap_append, List.flatMap_cons, List.flatMap_nil, List.append_assoc, List.cons_append, List.nil_append]; omega)
    · refine ⟨F, i, pt, ct, x, y, z, ts, os, R, ky, e, _, _, _, _, _, _, _, _, _, _, _, _, _, _, _, _, _, rfl, J, h4, by omega, he, ?_, fun σ' H' h => .mk h, fun σ' H' h => hD2.ct _ _ (.mk h)⟩
      unfold CoreL
      (refine Led.le hL (fun a_ => ?_); simp only [cnt_nil, cnt_cons, cnt_app, List.map_append, List.map_cons, List.map_nil, List.flatMap_append, List.flatMap_cons, List.flatMap_nil, List.append_assoc, List.cons_append, List.nil_append]; omega)
  · obtain ⟨pt, ct, x, y, z, ts, os, hS, J, h4, hL⟩ := h.out
    exact k _ _ ⟨pt, ct, x, y, z, ts, os, m, hS, J, h4, hL⟩
end
end Sd


set_option linter.unusedVariables false
namespace Sd
open PySem L2
open C8 (Cal Met Mak pe_c pe_mk pe_mt pe_mt0 tCut)
set_option linter.unusedSimpArgs false
set_option pp.deepTerms false
set_option pp.deepTerms.threshold 12
set_option hygiene false
local macro_rules | `(tactic| fail "nd") => `(tactic| first | assumption | decide +kernel)
local macro_rules | `(tactic| fail "ix") => `(tactic| first | exact ⟨0, rfl⟩ | exact ⟨1, rfl⟩ | exact ⟨2, rfl⟩ | exact ⟨3, rfl⟩ | exact ⟨4, rfl⟩ | exact ⟨5, rfl⟩ | exact ⟨6, rfl⟩ | exact ⟨7, rfl⟩ | exact ⟨8, rfl⟩ | exact ⟨9, rfl⟩ | exact ⟨10, rfl⟩ | exact ⟨11, rfl⟩ | exact ⟨12, rfl⟩ | exact ⟨13, rfl⟩ | exact ⟨14, rfl⟩ | exact ⟨15, rfl⟩ | exact ⟨16, rfl⟩ | exact ⟨17, rfl⟩ | exact ⟨18, rfl⟩ | assumption)
local macro_rules | `(tactic| fail "up") => `(tactic| first | exact ⟨0, rfl, rfl⟩ | exact ⟨1, rfl, rfl⟩ | exact ⟨2, rfl, rfl⟩ | exact ⟨3, rfl, rfl⟩ | exact ⟨4, rfl, rfl⟩ | exact ⟨5, rfl, rfl⟩ | exact ⟨6, rfl, rfl⟩ | exact ⟨7, rfl, rfl⟩ | exact ⟨8, rfl, rfl⟩ | exact ⟨9, rfl, rfl⟩ | exact ⟨10, rfl, rfl⟩ | exact ⟨11, rfl, rfl⟩ | exact ⟨12, rfl, rfl⟩ | exact ⟨13, rfl, rfl⟩ | exact ⟨14, rfl, rfl⟩ | exact ⟨15, rfl, rfl⟩ | exact ⟨16, rfl, rfl⟩ | assumption)
local macro_rules | `(tactic| fail "lkF") => `(tactic| first | assumption | exact fz_at 0 (by fail "nd") rfl rfl | exact fz_at 1 (by fail "nd") rfl rfl | exact fz_at 2 (by fail "nd") rfl rfl | exact fz_at 3 (by fail "nd") rfl rfl | exact fz_at 4 (by fail "nd") rfl rfl | exact fz_at 5 (by fail "nd") rfl rfl | exact fz_at 6 (by fail "nd") rfl rfl | exact fz_at 7 (by fail "nd") rfl rfl)
local macro_rules | `(tactic| fail "lkD") => `(tactic| first | assumption | exact dz_at 0 (by fail "nd") rfl rfl | exact dz_at 1 (by fail "nd") rfl rfl | exact dz_at 2 (by fail "nd") rfl rfl | exact dz_at 3 (by fail "nd") rfl rfl | exact dz_at 4 (by fail "nd") rfl rfl)
local macro_rules | `(tactic| fail "ptF") => `(tactic| first | assumption | exact fz_put 0 (by fail "nd") rfl (Nat.le_of_ble_eq_true rfl) | exact fz_put 1 (by fail "nd") rfl (Nat.le_of_ble_eq_true rfl) | exact fz_put 2 (by fail "nd") rfl (Nat.le_of_ble_eq_true rfl) | exact fz_put 3 (by fail "nd") rfl (Nat.le_of_ble_eq_true rfl) | exact fz_put 4 (by fail "nd") rfl (Nat.le_of_ble_eq_true rfl) | exact fz_put 5 (by fail "nd") rfl (Nat.le_of_ble_eq_true rfl) | exact fz_put 6 (by fail "nd") rfl (Nat.le_of_ble_eq_true rfl) | exact fz_put 7 (by fail "nd") rfl (Nat.le_of_ble_eq_true rfl) | exact fz_new (by decide +kernel) rfl)
local macro_rules | `(tactic| fail "ptD") => `(tactic| first | assumption | exact dz_put 0 (by fail "nd") rfl (Nat.le_of_ble_eq_true rfl) | exact dz_put 1 (by fail "nd") rfl (Nat.le_of_ble_eq_true rfl) | exact dz_put 2 (by fail "nd") rfl (Nat.le_of_ble_eq_true rfl) | exact dz_put 3 (by fail "nd") rfl (Nat.le_of_ble_eq_true rfl) | exact dz_put 4 (by fail "nd") rfl (Nat.le_of_ble_eq_true rfl))
local macro_rules | `(tactic| fail "sz") => `(tactic| first | assumption | exact (Nat.le_of_ble_eq_true rfl) | omega | decide)
local macro_rules | `(tactic| fail "sd") => `(tactic| first | rfl | assumption | decide | omega | (dsimp only; first | decide | omega) | exact .inr ⟨by decide, by decide⟩ | exact .inl ⟨by decide, by decide⟩ | exact ⟨by omega, by omega⟩ | exact .inl ⟨by omega, by omega⟩ | exact .inr ⟨by omega, by omega⟩ | exact ⟨by omega, by omega, by omega⟩)
local macro_rules | `(tactic| fail "cl") => `(tactic| (clear hH; dsimp only [List.set, List.cons_append, List.nil_append, List.append] at hL))
local macro_rules | `(tactic| fail "gn") => `(tactic| (intro p hp; generalize hH : upd H p _ = H; replace hL := Led.newH hL hp hH; clear hH hp))
local macro_rules | `(tactic| fail "gup") => `(tactic| (generalize hH : upd H _ _ = H; replace hL := Led.upU hL (by fail "up") hH; fail "cl"))
local macro_rules | `(tactic| fail "gmk") => `(tactic| (intro x dx hx hd ne; generalize hH : upd (upd H dx _) x _ = H; replace hL := Led.made hL hx hd ne hH; clear hH hx hd ne))
local macro_rules | `(tactic| fail "v") => `(tactic| refine ⟨_, rfl, ?_⟩)
local macro_rules | `(tactic| fail "i2") => `(tactic| refine ⟨_, _, rfl, rfl, ?_⟩)
local macro_rules | `(tactic| fail "go1") => `(tactic| first
  | refine ⟨_, rfl, ?_⟩
  | refine ⟨_, _, rfl, rfl, ?_⟩
  | refine ⟨_, _, rfl, ?_⟩
  | refine iteT ?_
  | refine iteF ?_
  | refine k_fld hL (by fail "ix") (by assumption) (by assumption) (by fail "lkF") ?_
  | refine k_dgetS hL (by fail "ix") (by fail "lkD") ?_
  | refine k_dgetI hL (by fail "ix") (by assumption) ?_
  | refine k_ixL hL (by fail "ix") (by first | rfl | assumption) ?_
  | refine k_ixT hL (by fail "ix") (by first | rfl | assumption) ?_
  | refine k_tyL hL (by fail "ix") ?_
  | refine k_isd hL (by fail "ix") ?_
  | (refine And.intro (by fail "sz") ?_; fail "gn")
  | refine And.intro (by fail "sd") ?_
  | fail "gn"
  | refine k_meth hL (by fail "ix") (by first | assumption | exact fz_no (by decide +kernel)) ?_
  | refine k_gtup hL (by fail "ix") rfl ?_
  | (refine k_popI hL (by fail "ix") (by assumption) ?_; fail "gup")
  | (refine k_listD hL (by fail "ix") ?_; fail "gn")
  | (refine ⟨_, _, _, _, rfl, rfl, hL.at (by fail "ix"), rfl, ?_⟩; fail "gup")
  | (refine ⟨_, _, _, rfl, rfl, hL.at (by fail "ix"), (by fail "sz"), ?_⟩; fail "gup")
  | (refine ⟨_, _, _, _, rfl, hL.at (by fail "ix"), by assumption, by assumption, Nat.lt_of_le_of_lt fz_len (by decide), ?_⟩; generalize hH : upd H _ _ = H; replace hL := Led.upF hL (by fail "up") (by fail "ptF") hH; fail "cl")
  | (refine ⟨_, _, hL.at (by fail "ix"), Nat.lt_of_le_of_lt fz_len (by decide), ?_⟩; generalize hH : upd H _ _ = H; replace hL := Led.upF hL (by fail "up") (by fail "ptF") hH; fail "cl")
  | (refine k_dputS hL (by fail "ix") (Nat.lt_of_le_of_lt dz_len (by decide)) (by fail "ptD") (by fail "up") ?_; clear hL; intro H hL; dsimp only [List.set, List.cons_append, List.nil_append, List.append] at hL)
  | refine k_lenL2 hL (by fail "ix") ?_
  | refine k_lenT2 hL (by fail "ix") ?_
  | refine .inl ⟨_, rfl, ?_⟩
  | refine .inr ⟨_, rfl, ?_⟩)
local macro_rules | `(tactic| fail "go") => `(tactic| repeat fail "go1")
local macro_rules | `(tactic| fail "pm") => `(tactic| (refine Led.le hL (fun a_ => ?_); simp only [cnt_nil, cnt_cons, cnt_app, List.map_append, List.map_cons, List.map_nil, List.flatMap_append, List.flatMap_cons, List.flatMap_nil, List.append_assoc, List.cons_append, List.nil_append]; omega))

/-- a tenant of the busy shares: the tenant, its sizes' place, the sizes, what it was served, how many -/
structure BD where
  t : TD
  sl : Addr
  S : List Int
  sv : Int
  n : Nat
abbrev BE := Str × BD
def bT (bs : List BE) : List TE := bs.map fun x => (x.1, x.2.t)
def slV (x : BE) : V := .ref x.2.sl
def svV (x : BE) : V := .int x.2.sv
def nV (x : BE) : V := .int (x.2.n : Int)
def slO (x : BE) : Addr × HO := (x.2.sl, .lst (x.2.S.map .int))
structure Gx where
  a : Addr
  d : Addr
  wd : Addr
  b : Addr
  bd : Addr
  btd : Addr
  zd : Addr
  vd : Addr
  md : Addr
def BL (CS CT : Addr) (G : Gx) (ow : HO) (x y z : Int) (bs : List BE) (bpt : Int) (R : Lg) : Lg := (G.d, dD x y z) :: (G.wd, ow) :: (G.b, .ins CS G.bd (fz nmS [.ref G.btd, .int bpt])) :: (G.btd, .dK ((bT bs).map (kk tnV))) :: (G.zd, .dK (bs.map (kk slV))) :: (G.vd, .dK (bs.map (kk svV))) :: (G.md, .dK (bs.map (kk nV))) :: (bs.map slO ++ (tsL CT (bT bs) ++ R))
def Sh2 (G : Gx) (σ : L2.St) : Prop := ∃ v2 v4 v5 v6 v7 v8 v9 v10 v11 v12 v13 v14 v19 v20 v21 v22 v23 v24, σ = [some (.ref G.a), some (.ref G.d), v2, some (.ref G.wd), v4, v5, v6, v7, v8, v9, v10, v11, v12, v13, v14, some (.ref G.b), some (.ref G.zd), some (.ref G.vd), some (.ref G.md), v19, v20, v21, v22, v23, v24]
/-- one tenant after t turns -/
structure B1 (os : List TE) (t : Nat) (k : Str) (b : BD) : Prop where
  ow : ∃ e, aget os k = some e ∧ b.t.w = e.w
  w1 : 1 ≤ b.t.w ∧ b.t.w ≤ 10
  S : ∀ s ∈ b.S, 1 ≤ s ∧ s ≤ 20
  z : b.S.length = 40
  ws : ∀ x ∈ b.t.ws, x.2.1 ∈ b.S
  l : b.t.ws.length + b.n = 40
  n : b.n ≤ t
  sv : 0 ≤ b.sv ∧ b.sv ≤ 20 * b.n
  lo : b.t.pt ≤ b.sv * 5040 / b.t.w
  hi : b.sv * 5040 / b.t.w ≤ b.t.pt + b.n
structure BOk (os : List TE) (t : Nat) (bs : List BE) : Prop where
  one : ∀ k b, aget bs k = some b → B1 os t k b
  two : ∀ i a, aget bs i = some a → ∀ j b, aget bs j = some b → ∀ M : Int, (∀ s ∈ a.S, s ≤ M) → a.t.pt - b.t.pt ≤ M * 5040 / a.t.w
theorem bT_get {bs : List BE} {k : Str} : aget (bT bs) k = (aget bs k).map (·.t) := aget_map (f := fun b : BD => b.t)
theorem bT_put {bs : List BE} {k : Str} {b : BD} : bT (aput bs k b) = aput (bT bs) k b.t := aput_map (f := fun b : BD => b.t)
theorem bT_names {bs : List BE} : (bT bs).map (·.1) = bs.map (·.1) := by
  unfold bT; rw [List.map_map]; rfl
theorem BOk.mono {os : List TE} {t u : Nat} {bs : List BE} (h : BOk os t bs) (q : t ≤ u) : BOk os u bs :=
  ⟨fun k b hb => { h.one k b hb with n := Nat.le_trans (h.one k b hb).n q }, h.two⟩
theorem sum_div {a b w : Int} (h : 1 ≤ w) : a / w + b / w ≤ (a + b) / w ∧ (a + b) / w ≤ a / w + b / w + 1 := by
  have hw : 0 < w := by omega
  have e1 := Int.emod_add_mul_ediv a w
  have e2 := Int.emod_add_mul_ediv b w
  have b1 := Int.emod_nonneg a (by omega : w ≠ 0)
  have b2 := Int.emod_nonneg b (by omega : w ≠ 0)
  have b3 := Int.emod_lt_of_pos a hw
  have b4 := Int.emod_lt_of_pos b hw
  have e : a + b = (a % w + b % w) + w * (a / w + b / w) := by rw [Int.mul_add]; omega
  have e3 : (a + b) / w = (a % w + b % w) / w + (a / w + b / w) := by
    rw [e, Int.add_mul_ediv_left _ _ (by omega)]
  have h0 : 0 ≤ (a % w + b % w) / w := Int.ediv_nonneg (by omega) (by omega)
  have h1 : (a % w + b % w) / w < 2 := Int.ediv_lt_of_lt_mul hw (by omega)
  omega
theorem BOk.serve {os : List TE} {t : Nat} {bs : List BE} (h : BOk os t bs) {k : Str} {b : BD} (hb : aget bs k = some b) {q : Addr} {size body : Int} {rest : List Wt} (hw : b.t.ws = (q, size, body) :: rest) (hmin : ∀ j c, aget bs j = some c → b.t.pt ≤ c.t.pt) :
    BOk os (t + 1) (aput bs k { b with t := nextT b.t size rest, sv := b.sv + size, n := b.n + 1 }) := by
  have hk := h.one k b hb
  have hsS : size ∈ b.S := hk.ws (q, size, body) (by rw [hw]; exact .head _)
  have hs := hk.S size hsS
  have hl := hk.l
  rw [hw, List.length_cons] at hl
  have hsum := sum_div (a := b.sv * 5040) (b := size * 5040) hk.w1.1
  rw [← Int.add_mul] at hsum
  have hpos : 0 ≤ size * 5040 / b.t.w := Int.ediv_nonneg (by omega) (by have := hk.w1.1; omega)
  have hn1 : B1 os (t + 1) k { b with t := nextT b.t size rest, sv := b.sv + size, n := b.n + 1 } := by
    refine ⟨hk.ow, hk.w1, hk.S, hk.z, fun x hx => hk.ws x (by rw [hw]; exact .tail _ hx), ?_, ?_, ?_, ?_, ?_⟩
    · show rest.length + (b.n + 1) = 40
      omega
    · have := hk.n
      show b.n + 1 ≤ t + 1
      omega
    · have := hk.sv
      show 0 ≤ b.sv + size ∧ b.sv + size ≤ 20 * ((b.n + 1 : Nat) : Int)
      omega
    · have := hk.lo
      show b.t.pt + size * 5040 / b.t.w ≤ (b.sv + size) * 5040 / b.t.w
      omega
    · have := hk.hi
      show (b.sv + size) * 5040 / b.t.w ≤ b.t.pt + size * 5040 / b.t.w + ((b.n + 1 : Nat) : Int)
      omega
  refine ⟨fun j c hc => ?_, fun i a ha j c hc M hM => ?_⟩
  · rw [aget_put] at hc
    by_cases z : k = j
    · rw [if_pos z] at hc
      cases hc
      rw [← z]; exact hn1
    · rw [if_neg z] at hc
      have := h.one j c hc
      exact { this with n := Nat.le_succ_of_le this.n }
  · rw [aget_put] at ha hc
    have hdiv : ∀ M : Int, size ≤ M → size * 5040 / b.t.w ≤ M * 5040 / b.t.w := fun M hM => Int.ediv_le_ediv (by have := hk.w1.1; omega) (by omega)
    by_cases zi : k = i
    · rw [if_pos zi] at ha
      cases ha
      have hM2 := hdiv M (hM size hsS)
      by_cases zj : k = j
      · rw [if_pos zj] at hc
        cases hc
        show _ - _ ≤ M * 5040 / b.t.w
        omega
      · rw [if_neg zj] at hc
        have := hmin j c hc
        show b.t.pt + size * 5040 / b.t.w - c.t.pt ≤ M * 5040 / b.t.w
        omega
    · rw [if_neg zi] at ha
      by_cases zj : k = j
      · rw [if_pos zj] at hc
        cases hc
        have := h.two i a ha k b hb M hM
        show a.t.pt - (b.t.pt + size * 5040 / b.t.w) ≤ M * 5040 / a.t.w
        omega
      · rw [if_neg zj] at hc
        exact h.two i a ha j c hc M hM
/-- the bound of the law -/
theorem BOk.fair {os : List TE} {t : Nat} {bs : List BE} (h : BOk os t bs) {i j : Str} {a b : BD} (ha : aget bs i = some a) (hb : aget bs j = some b) {M N : Int} (hM : ∀ s ∈ a.S, s ≤ M) (hN : 0 ≤ N) :
    ¬ (a.sv * 5040 / a.t.w - b.sv * 5040 / b.t.w > M * 5040 / a.t.w + N * 5040 / b.t.w + a.n + b.n + 2) := by
  have h1 := (h.one i a ha).hi
  have h2 := (h.one j b hb).lo
  have h3 := h.two i a ha j b hb M hM
  have h4 : 0 ≤ N * 5040 / b.t.w := Int.ediv_nonneg (by omega) (by have := (h.one j b hb).w1.1; omega)
  omega
end Sd


set_option linter.unusedVariables false
namespace Sd
open PySem L2
open C8 (Cal Met Mak pe_c pe_mk pe_mt pe_mt0 tCut)
set_option linter.unusedSimpArgs false
set_option pp.deepTerms false
set_option pp.deepTerms.threshold 12
set_option hygiene false
local macro_rules | `(tactic| fail "nd") => `(tactic| first | assumption | decide +kernel)
local macro_rules | `(tactic| fail "ix") => `(tactic| first | exact ⟨0, rfl⟩ | exact ⟨1, rfl⟩ | exact ⟨2, rfl⟩ | exact ⟨3, rfl⟩ | exact ⟨4, rfl⟩ | exact ⟨5, rfl⟩ | exact ⟨6, rfl⟩ | exact ⟨7, rfl⟩ | exact ⟨8, rfl⟩ | exact ⟨9, rfl⟩ | exact ⟨10, rfl⟩ | exact ⟨11, rfl⟩ | exact ⟨12, rfl⟩ | exact ⟨13, rfl⟩ | exact ⟨14, rfl⟩ | exact ⟨15, rfl⟩ | exact ⟨16, rfl⟩ | exact ⟨17, rfl⟩ | exact ⟨18, rfl⟩ | assumption)
local macro_rules | `(tactic| fail "up") => `(tactic| first | exact ⟨0, rfl, rfl⟩ | exact ⟨1, rfl, rfl⟩ | exact ⟨2, rfl, rfl⟩ | exact ⟨3, rfl, rfl⟩ | exact ⟨4, rfl, rfl⟩ | exact ⟨5, rfl, rfl⟩ | exact ⟨6, rfl, rfl⟩ | exact ⟨7, rfl, rfl⟩ | exact ⟨8, rfl, rfl⟩ | exact ⟨9, rfl, rfl⟩ | exact ⟨10, rfl, rfl⟩ | exact ⟨11, rfl, rfl⟩ | exact ⟨12, rfl, rfl⟩ | exact ⟨13, rfl, rfl⟩ | exact ⟨14, rfl, rfl⟩ | exact ⟨15, rfl, rfl⟩ | exact ⟨16, rfl, rfl⟩ | assumption)
local macro_rules | `(tactic| fail "lkF") => `(tactic| first | assumption | exact fz_at 0 (by fail "nd") rfl rfl | exact fz_at 1 (by fail "nd") rfl rfl | exact fz_at 2 (by fail "nd") rfl rfl | exact fz_at 3 (by fail "nd") rfl rfl | exact fz_at 4 (by fail "nd") rfl rfl | exact fz_at 5 (by fail "nd") rfl rfl | exact fz_at 6 (by fail "nd") rfl rfl | exact fz_at 7 (by fail "nd") rfl rfl)
local macro_rules | `(tactic| fail "lkD") => `(tactic| first | assumption | exact dz_at 0 (by fail "nd") rfl rfl | exact dz_at 1 (by fail "nd") rfl rfl | exact dz_at 2 (by fail "nd") rfl rfl | exact dz_at 3 (by fail "nd") rfl rfl | exact dz_at 4 (by fail "nd") rfl rfl)
local macro_rules | `(tactic| fail "ptF") => `(tactic| first | assumption | exact fz_put 0 (by fail "nd") rfl (Nat.le_of_ble_eq_true rfl) | exact fz_put 1 (by fail "nd") rfl (Nat.le_of_ble_eq_true rfl) | exact fz_put 2 (by fail "nd") rfl (Nat.le_of_ble_eq_true rfl) | exact fz_put 3 (by fail "nd") rfl (Nat.le_of_ble_eq_true rfl) | exact fz_put 4 (by fail "nd") rfl (Nat.le_of_ble_eq_true rfl) | exact fz_put 5 (by fail "nd") rfl (Nat.le_of_ble_eq_true rfl) | exact fz_put 6 (by fail "nd") rfl (Nat.le_of_ble_eq_true rfl) | exact fz_put 7 (by fail "nd") rfl (Nat.le_of_ble_eq_true rfl) | exact fz_new (by decide +kernel) rfl)
local macro_rules | `(tactic| fail "ptD") => `(tactic| first | assumption | exact dz_put 0 (by fail "nd") rfl (Nat.le_of_ble_eq_true rfl) | exact dz_put 1 (by fail "nd") rfl (Nat.le_of_ble_eq_true rfl) | exact dz_put 2 (by fail "nd") rfl (Nat.le_of_ble_eq_true rfl) | exact dz_put 3 (by fail "nd") rfl (Nat.le_of_ble_eq_true rfl) | exact dz_put 4 (by fail "nd") rfl (Nat.le_of_ble_eq_true rfl))
local macro_rules | `(tactic| fail "sz") => `(tactic| first | assumption | exact (Nat.le_of_ble_eq_true rfl) | omega | decide)
local macro_rules | `(tactic| fail "sd") => `(tactic| first | rfl | assumption | decide | omega | (dsimp only; first | decide | omega) | exact .inr ⟨by decide, by decide⟩ | exact .inl ⟨by decide, by decide⟩ | exact ⟨by omega, by omega⟩ | exact .inl ⟨by omega, by omega⟩ | exact .inr ⟨by omega, by omega⟩ | exact ⟨by omega, by omega, by omega⟩)
local macro_rules | `(tactic| fail "cl") => `(tactic| (clear hH; dsimp only [List.set, List.cons_append, List.nil_append, List.append] at hL))
local macro_rules | `(tactic| fail "gn") => `(tactic| (intro p hp; generalize hH : upd H p _ = H; replace hL := Led.newH hL hp hH; clear hH hp))
local macro_rules | `(tactic| fail "gup") => `(tactic| (generalize hH : upd H _ _ = H; replace hL := Led.upU hL (by fail "up") hH; fail "cl"))
local macro_rules | `(tactic| fail "gmk") => `(tactic| (intro x dx hx hd ne; generalize hH : upd (upd H dx _) x _ = H; replace hL := Led.made hL hx hd ne hH; clear hH hx hd ne))
local macro_rules | `(tactic| fail "v") => `(tactic| refine ⟨_, rfl, ?_⟩)
local macro_rules | `(tactic| fail "i2") => `(tactic| refine ⟨_, _, rfl, rfl, ?_⟩)
local macro_rules | `(tactic| fail "go1") => `(tactic| first
  | refine ⟨_, rfl, ?_⟩
  | refine ⟨_, _, rfl, rfl, ?_⟩
  | refine ⟨_, _, rfl, ?_⟩
  | refine iteT ?_
  | refine iteF ?_
  | refine k_fld hL (by fail "ix") (by assumption) (by assumption) (by fail "lkF") ?_
  | refine k_dgetS hL (by fail "ix") (by fail "lkD") ?_
  | refine k_dgetI hL (by fail "ix") (by assumption) ?_
  | refine k_ixL hL (by fail "ix") (by first | rfl | assumption) ?_
  | refine k_ixT hL (by fail "ix") (by first | rfl | assumption) ?_
  | refine k_tyL hL (by fail "ix") ?_
  | refine k_isd hL (by fail "ix") ?_
  | (refine And.intro (by fail "sz") ?_; fail "gn")
  | refine And.intro (by fail "sd") ?_
  | fail "gn"
  | refine k_meth hL (by fail "ix") (by first | assumption | exact fz_no (by decide +kernel)) ?_
  | refine k_gtup hL (by fail "ix") rfl ?_
  | (refine k_popI hL (by fail "ix") (by assumption) ?_; fail "gup")
  | (refine k_listD hL (by fail "ix") ?_; fail "gn")
  | (refine ⟨_, _, _, _, rfl, rfl, hL.at (by fail "ix"), rfl, ?_⟩; fail "gup")
  | (refine ⟨_, _, _, rfl, rfl, hL.at (by fail "ix"), (by fail "sz"), ?_⟩; fail "gup")
  | (refine ⟨_, _, _, _, rfl, hL.at (by fail "ix"), by assumption, by assumption, Nat.lt_of_le_of_lt fz_len (by decide), ?_⟩; generalize hH : upd H _ _ = H; replace hL := Led.upF hL (by fail "up") (by fail "ptF") hH; fail "cl")
  | (refine ⟨_, _, hL.at (by fail "ix"), Nat.lt_of_le_of_lt fz_len (by decide), ?_⟩; generalize hH : upd H _ _ = H; replace hL := Led.upF hL (by fail "up") (by fail "ptF") hH; fail "cl")
  | (refine k_dputS hL (by fail "ix") (Nat.lt_of_le_of_lt dz_len (by decide)) (by fail "ptD") (by fail "up") ?_; clear hL; intro H hL; dsimp only [List.set, List.cons_append, List.nil_append, List.append] at hL)
  | refine k_lenL2 hL (by fail "ix") ?_
  | refine k_lenT2 hL (by fail "ix") ?_
  | refine .inl ⟨_, rfl, ?_⟩
  | refine .inr ⟨_, rfl, ?_⟩)
local macro_rules | `(tactic| fail "go") => `(tactic| repeat fail "go1")
local macro_rules | `(tactic| fail "pm") => `(tactic| (refine Led.le hL (fun a_ => ?_); simp only [cnt_nil, cnt_cons, cnt_app, List.map_append, List.map_cons, List.map_nil, List.flatMap_append, List.flatMap_cons, List.flatMap_nil, List.append_assoc, List.cons_append, List.nil_append]; omega))

theorem aput_snoc {α : Type} {k : Str} {v v' : α} : ∀ {l : List (Str × α)}, k ∉ l.map (·.1) → aput (l ++ [(k, v)]) k v' = l ++ [(k, v')]
  | [], _ => by show aput [(k, v)] k v' = _; rw [aput, if_pos rfl]; rfl
  | x :: r, h => by
    rw [List.map_cons, List.mem_cons, not_or] at h
    rw [List.cons_append, aput, if_neg (fun e => h.1 e.symm), aput_snoc h.2]; rfl
theorem BOk.zero {os : List TE} {bs : List BE} (h : ∀ k b, aget bs k = some b → B1 os 0 k b ∧ b.t.pt = 0) : BOk os 0 bs := by
  refine ⟨fun k b hb => (h k b hb).1, fun i a ha j b hb M hM => ?_⟩
  obtain ⟨h1, h2⟩ := h i a ha
  obtain ⟨_, h3⟩ := h j b hb
  have : 0 ≤ M * 5040 / a.t.w := by
    cases hs : a.S with
    | nil => have := h1.z; rw [hs] at this; cases this
    | cons s r =>
      have h4 := h1.S s (by rw [hs]; exact .head _)
      have h5 := hM s (by rw [hs]; exact .head _)
      exact Int.ediv_nonneg (by omega) (by have := h1.w1.1; omega)
  omega
def OsOk (os : List TE) : Prop := (os.map (·.1)).Nodup ∧ os.length ≤ 4 ∧ ∀ k e, aget os k = some e → 1 ≤ e.w ∧ e.w ≤ 10
def Ok3 (CS CT : Addr) (G : Gx) (t : Nat) (os : List TE) (R : Lg) (σ : L2.St) (H : Hp) : Prop := ∃ x y z bs pt, Sh2 G σ ∧ bs.map (·.1) = os.map (·.1) ∧ BOk os t bs ∧ Led H (BL CS CT G (.dK (os.map (kk tnV))) x y z bs pt (osL os ++ R))
def tBusy (CS CT : Addr) : TS := fun D σ H => ∃ G os x y z R, OsOk os ∧ Sh2 G σ ∧ Led H (BL CS CT G (.dK (os.map (kk tnV))) x y z [] 0 (osL os ++ R)) ∧ ∀ σ' H', Ok3 CS CT G 0 os R σ' H' → D.nx σ' H'
section
variable {P : Program} {w : World} {K : PySem.W.Frag} {mg : Str → Option Value} {base : Heap} {CS CT : Addr} {f : Addr} {cdv : Value} {A : Around} {outer : List Env} {s0 : Shared} {H0 : Hp} {E : XK}
theorem st_busy (hr : Room 8 (LX P w K mg base f cdv A outer s0 H0 E).A) (X : TxtT K mg CT CS) (T : TxtR mg) (c_Shares_add : Met P w K mg base 3 CS "add" (spAdd CS CT) []) (c_Shares_put : Met P w K mg base 1 CS "put" (spPut CS CT) []) (c__law_roll : Cal P w K mg base 1 "_law_roll" spRoll []) :
    PS (LX P w K mg base f cdv A outer s0 H0 E) (nth bodyB 4) (tBusy CS CT) := by
  refine ps_imp (t := _) (ps_lock (ps_for PassesOwn.never rfl (pi_keys (pv 3)) (pg_name (i := 7) scLaw.nd rfl (Or.inl rfl))
  (pss_cons (ps_expr (pe_mt c_Shares_add hr (by decide) (pv 15) (pa_cons (pv 7) (pa_cons (pe_dget (hu_of hr) (pe_dget (hu_of hr) (pv 3) (pv 7) (fun _ _ => rfl)) pe_str (fun _ _ => rfl)) pa_nil))))
  (pss_cons (ps_dput (hu_of hr) (pv 16) (pv 7) (pe_lc (own := [("k", 6)]) (g := gName 6) (by rfl) scLaw.nd (pi_range1 (by rfl) T.range (pa_cons pe_int pa_nil)) (blkOk_by (own := [("k", 6)]) (N := ["script", "dice", "shares", "own", "point", "count", "k", "name", "step", "row", "size", "ready", "one", "found", "body", "busy", "sizes", "served", "many", "turn", "other", "apart", "fresh", "bad", "f"]) (sc := (defScope sLaw)) (by decide +kernel)) (fun _ _ _ _ _ => (pg_name (i := 6) scLaw.nd rfl (Or.inl rfl))) (fun _ _ _ _ _ => pts_nil) (fun _ _ _ _ _ => (pe_op op_add pe_int (pe_c c__law_roll hr (by decide) (by rfl) (pa_cons (pv 1) (pa_cons pe_int pa_nil)))))) rfl)
  (pss_cons (ps_asg (pe_tup (pa_cons pe_int (pa_cons pe_int pa_nil))) (pg_tup (by rfl) (pgs_cons (pg_sub (pv 17) (pv 7) (set_dict (hu_of hr))) (pgs_cons (pg_sub (pv 18) (pv 7) (set_dict (hu_of hr))) pgs_nil))))
  (pss_one (ps_for PassesOwn.never rfl (pi_list (pe_dget (hu_of hr) (pv 16) (pv 7) (fun _ _ => rfl))) (pg_name (i := 10) scLaw.nd rfl (Or.inl rfl))
  (pss_one (ps_expr (pe_mt c_Shares_put hr (by decide) (pv 15) (pa_cons (pv 7) (pa_cons (pv 10) (pa_cons pe_int pa_nil))))))))))))) ?_
  rintro D σ H ⟨G, os, x, y, z, R, ho, ⟨v2, v4, v5, v6, v7, v8, v9, v10, v11, v12, v13, v14, v19, v20, v21, v22, v23, v24, rfl⟩, hL, k⟩
  dsimp only [BL] at hL
  fail "go"
  refine lockA (hL.at ⟨1, rfl⟩) trivial fun od D3 hD3 => ?_
  generalize hH : upd H G.wd _ = H
  replace hL := Led.upU hL (o' := .frz od (.dK (os.map (kk tnV)))) (by fail "up") hH
  fail "cl"
  fail "go"
  refine ⟨G.wd, od, rfl, .inl ⟨_, hL.at ⟨1, rfl⟩, ?_⟩⟩
  refine for_itA (walk_keys (d := G.wd) (o := od) (kvs := os.map (kk tnV))) (fun i σ H => Hold (∃ x y z bs, Sh2 G σ ∧ bs.map (·.1) = (os.map (·.1)).take i ∧ BOk os 0 bs ∧ (∀ k b, aget bs k = some b → b.t.pt = 0 ∧ b.sv = 0) ∧ Led H (BL CS CT G (.frz od (.dK (os.map (kk tnV)))) x y z bs 0 (osL os ++ R))))
      (.mk ⟨x, y, z, [], ⟨_, _, _, _, _, _, _, _, _, _, _, _, _, _, _, _, _, _, rfl⟩, rfl, ⟨fun _ _ h => (nomatch h), fun _ _ h => (nomatch h)⟩, fun _ _ h => (nomatch h), hL⟩) (fun i σ H _ h => ?_) (fun i v σ H1 H D4 hi h hy hD4 => ?_) (fun σ H h => ?_)
  · obtain ⟨x, y, z, bs, hS, hn, hB, h0, hL⟩ := h.out
    exact hL.at ⟨1, rfl⟩
  · clear hL
    obtain ⟨x, y, z, bs, ⟨v2, v4, v5, v6, v7, v8, v9, v10, v11, v12, v13, v14, v19, v20, v21, v22, v23, v24, rfl⟩, hn, hB, hz, hL⟩ := h.out
    clear h
    obtain ⟨rfl, kx, vx, hk, rfl⟩ := hy
    rw [List.getElem?_map] at hk
    obtain ⟨o, hoi, hk⟩ := Option.map_eq_some_iff.mp hk
    obtain ⟨rfl, rfl⟩ := Prod.mk.inj hk
    obtain ⟨ko, e⟩ := o
    have he : aget os ko = some e := mem_aget ho.1 (List.mem_of_getElem? hoi)
    have hew := ho.2.2 ko e he
    have hko : (os.map (·.1))[i]? = some ko := by rw [List.getElem?_map, hoi]; rfl
    have hkn : ko ∉ bs.map (·.1) := by
      rw [hn]
      intro hm
      have hs := ho.1.sublist (List.take_sublist (i + 1) _)
      rw [List.take_add_one, hko] at hs
      exact (List.nodup_append.mp hs).2.2 ko hm ko (by simp) rfl
    have lk : valV (os.map (kk tnV)) (Sum.inr ko) = some (.ref e.a) := by rw [ts_val, he]; rfl
    have hbl : bs.length < 5 := by
      have := congrArg List.length hn
      rw [List.length_map, List.length_take, List.length_map] at this
      have := ho.2.1
      omega
    have hbn : (bs.map (·.1)).Nodup := by rw [hn]; exact ho.1.sublist (List.take_sublist _ _)
    have m : ∀ x' ∈ OL e, x' ∈ BL CS CT G (.frz od (.dK (os.map (kk tnV)))) x y z bs 0 (osL os ++ R) := fun x' hx => (.tail _ (.tail _ (.tail _ (.tail _ (.tail _ (.tail _ (.tail _ (List.mem_append_right _ (List.mem_append_right _ (List.mem_append_left _ (oe_mem he hx)))))))))))
    show gName 7 (.str ko) _ _ _
    dsimp only [BL] at hL m
    fail "go"
    refine k_dgetFS hL ⟨1, rfl⟩ lk ?_
    fail "go"
    refine k_dgetS hL (at_mem (m _ (.head _))) (by fail "lkD") ?_
    fail "go"
    refine ⟨G.b, G.bd, G.btd, bT bs, 0, ko, e.w, (G.d, dD x y z) :: (G.wd, .frz od (.dK (os.map (kk tnV)))) :: (G.zd, .dK (bs.map (kk slV))) :: (G.vd, .dK (bs.map (kk svV))) :: (G.md, .dK (bs.map (kk nV))) :: (bs.map slO ++ (osL os ++ R)), rfl, by unfold ShL; (refine Led.le hL (fun a_ => ?_); simp only [cnt_nil, cnt_cons, cnt_app, List.map_append, List.map_cons, List.map_nil, List.flatMap_append, List.flatMap_cons, List.flatMap_nil, List.append_assoc, List.cons_append, List.nil_append]; omega), by rw [bT_names]; exact hkn, by unfold bT; rw [List.length_map]; omega, by rw [bT_names]; exact hbn, hew.1, hew.2, fun d H e1 e2 e3 hL => ?_⟩
    replace hL : Led H ((G.d, dD x y z) :: (G.zd, .dK (bs.map (kk slV))) :: (G.vd, .dK (bs.map (kk svV))) :: (G.md, .dK (bs.map (kk nV))) :: (ShL CS CT G.b G.bd G.btd (bT bs ++ [(ko, d)]) 0 ++ (bs.map slO ++ ((G.wd, .frz od (.dK (os.map (kk tnV)))) :: (osL os ++ R))))) := by
      (refine Led.le hL (fun a_ => ?_); simp only [cnt_nil, cnt_cons, cnt_app, List.map_append, List.map_cons, List.map_nil, List.flatMap_append, List.flatMap_cons, List.flatMap_nil, List.append_assoc, List.cons_append, List.nil_append]; omega)
    generalize hZ : (bs.map slO ++ ((G.wd, HO.frz od (.dK (os.map (kk tnV)))) :: (osL os ++ R))) = Z at hL
    refine ⟨_, rfl, by decide, by decide, fun S1 hS1 => ?_⟩
    refine lc_range (fun i H => Hold (∃ (S : List Int) (x y z : Int), S.length = i ∧ (∀ s ∈ S, 1 ≤ s ∧ s ≤ 20) ∧ Led H ((S1, .lst (S.map V.int)) :: (G.d, dD x y z) :: (G.zd, .dK (bs.map (kk slV))) :: (G.vd, .dK (bs.map (kk svV))) :: (G.md, .dK (bs.map (kk nV))) :: (ShL CS CT G.b G.bd G.btd (bT bs ++ [(ko, d)]) 0 ++ Z)))) (.mk ⟨[], x, y, z, rfl, fun _ h => (nomatch h), hL.new hS1⟩) (fun i H hi h => ?_) (fun H h => ?_)
    · clear hL
      obtain ⟨S, x, y, z, hSl, hS, hL⟩ := h.out
      clear h
      refine ⟨rfl, k_yes ?_⟩
      fail "go"
      refine ⟨G.d, x, y, z, 20, (S1, .lst (S.map V.int)) :: (G.zd, .dK (bs.map (kk slV))) :: (G.vd, .dK (bs.map (kk svV))) :: (G.md, .dK (bs.map (kk nV))) :: (ShL CS CT G.b G.bd G.btd (bT bs ++ [(ko, d)]) 0 ++ Z), rfl, by (refine Led.le hL (fun a_ => ?_); simp only [cnt_nil, cnt_cons, cnt_app, List.map_append, List.map_cons, List.map_nil, List.flatMap_append, List.flatMap_cons, List.flatMap_nil, List.append_assoc, List.cons_append, List.nil_append]; omega), by decide, by decide, fun r x y z H h0 h1 hL => ?_⟩
      refine ⟨_, _, rfl, rfl, _, hL.at ⟨1, rfl⟩, by rw [List.length_map, hSl]; exact Nat.lt_of_lt_of_le hi (by decide), ?_⟩
      fail "gup"
      refine .mk ⟨S ++ [1 + r], x, y, z, by rw [List.length_append, hSl]; rfl, fun s hs => ?_, ?_⟩
      · rcases List.mem_append.mp hs with hs | hs
        · exact hS s hs
        · rw [List.mem_singleton.mp hs]; omega
      · (refine Led.le hL (fun a_ => ?_); simp only [cnt_nil, cnt_cons, cnt_app, List.map_append, List.map_cons, List.map_nil, List.flatMap_append, List.flatMap_cons, List.flatMap_nil, List.append_assoc, List.cons_append, List.nil_append]; omega)
    · clear hL
      obtain ⟨S, x, y, z, hSl, hS, hL⟩ := h.out
      clear h
      fail "go"
      have hbz : (bs.map (kk slV)).length < sizeLine ∧ (bs.map (kk svV)).length < sizeLine ∧ (bs.map (kk nV)).length < sizeLine := by
        rw [List.length_map, List.length_map, List.length_map]
        exact ⟨small60 (by omega), small60 (by omega), small60 (by omega)⟩
      generalize hb0 : (⟨d, S1, S, 0, 0⟩ : BD) = b0
      have v1 : V.ref S1 = slV (ko, b0) := by rw [← hb0]; rfl
      have v2 : V.int 0 = svV (ko, b0) := by rw [← hb0]; rfl
      have v3 : V.int 0 = nV (ko, b0) := by rw [← hb0]; rfl
      have p1 : putK (bs.map (kk slV)) (.inr ko) (V.ref S1) = (bs ++ [(ko, b0)]).map (kk slV) := by rw [v1, kk_put (vo := slV) hbn, aput_names_out hkn]
      have p2 : putK (bs.map (kk svV)) (.inr ko) (V.int 0) = (bs ++ [(ko, b0)]).map (kk svV) := by rw [v2, kk_put (vo := svV) hbn, aput_names_out hkn]
      have p3 : putK (bs.map (kk nV)) (.inr ko) (V.int 0) = (bs ++ [(ko, b0)]).map (kk nV) := by rw [v3, kk_put (vo := nV) hbn, aput_names_out hkn]
      refine k_dputS hL ⟨2, rfl⟩ hbz.1 p1 (by fail "up") fun H hL => ?_
      dsimp only [List.set] at hL
      have ls : valV ((bs ++ [(ko, b0)]).map (kk slV)) (Sum.inr ko) = some (.ref S1) := by rw [kk_val, aget_snoc hkn, if_pos rfl, ← hb0]; rfl
      fail "go"
      refine k_dputS hL ⟨4, rfl⟩ hbz.2.1 p2 (by fail "up") fun H hL => ?_
      dsimp only [List.set] at hL
      fail "go"
      refine k_dputS hL ⟨5, rfl⟩ hbz.2.2 p3 (by fail "up") fun H hL => ?_
      dsimp only [List.set] at hL
      fail "go"
      refine ⟨⟨_, .of (hL.at ⟨1, rfl⟩)⟩, ?_⟩
      refine for_listA (K := K) (a := S1) (xs := S.map V.int) (fun i σ H => Hold (∃ d' : TD, Sh2 G σ ∧ σ[7]? = some (some (.str ko)) ∧ d'.w = e.w ∧ d'.pt = 0 ∧ d'.ws.map (fun x : Wt => x.2.1) = S.take i ∧ Led H ((S1, .lst (S.map V.int)) :: (G.d, dD x y z) :: (G.zd, .dK ((bs ++ [(ko, b0)]).map (kk slV))) :: (G.vd, .dK ((bs ++ [(ko, b0)]).map (kk svV))) :: (G.md, .dK ((bs ++ [(ko, b0)]).map (kk nV))) :: (ShL CS CT G.b G.bd G.btd (bT bs ++ [(ko, d')]) 0 ++ Z)))) (.mk ⟨d, ⟨_, _, _, _, _, _, _, _, _, _, _, _, _, _, _, _, _, _, rfl⟩, rfl, e1, e3, by rw [e2]; rfl, hL.tail⟩) (fun i σ H _ h => ?_) (fun i v σ H D5 hi h hD5 => ?_) (fun σ H h => ?_)
      · obtain ⟨d', _, _, _, _, _, hL⟩ := h.out
        exact .of (hL.at ⟨0, rfl⟩)
      · clear hL
        obtain ⟨d', ⟨v2, v4, v5, v6, v7, v8, v9, v10, v11, v12, v13, v14, v19, v20, v21, v22, v23, v24, rfl⟩, hσ, g1, g2, g3, hL⟩ := h.out
        clear h
        obtain rfl : v7 = some (.str ko) := Option.some.inj hσ
        rw [List.getElem?_map] at hi
        obtain ⟨si, hsi, rfl⟩ := Option.map_eq_some_iff.mp hi
        have hsm := hS si (List.mem_of_getElem? hsi)
        have hil := (List.getElem?_eq_some_iff.mp hsi).1
        replace hL : Led H ((S1, .lst (S.map V.int)) :: (G.d, dD x y z) :: (G.zd, .dK ((bs ++ [(ko, b0)]).map (kk slV))) :: (G.vd, .dK ((bs ++ [(ko, b0)]).map (kk svV))) :: (G.md, .dK ((bs ++ [(ko, b0)]).map (kk nV))) :: (G.b, .ins CS G.bd (fz nmS [.ref G.btd, .int 0])) :: (G.btd, .dK ((bT bs ++ [(ko, d')]).map (kk tnV))) :: (tsL CT (bT bs ++ [(ko, d')]) ++ Z)) := by
          (refine Led.le hL (fun a_ => ?_); simp only [cnt_nil, cnt_cons, cnt_app, List.map_append, List.map_cons, List.map_nil, List.flatMap_append, List.flatMap_cons, List.flatMap_nil, List.append_assoc, List.cons_append, List.nil_append, ShL]; omega)
        fail "go"
        refine ⟨G.b, G.bd, G.btd, bT bs ++ [(ko, d')], 0, ko, d', si, 0, (S1, .lst (S.map V.int)) :: (G.d, dD x y z) :: (G.zd, .dK ((bs ++ [(ko, b0)]).map (kk slV))) :: (G.vd, .dK ((bs ++ [(ko, b0)]).map (kk svV))) :: (G.md, .dK ((bs ++ [(ko, b0)]).map (kk nV))) :: Z, rfl, by (refine Led.le hL (fun a_ => ?_); simp only [cnt_nil, cnt_cons, cnt_app, List.map_append, List.map_cons, List.map_nil, List.flatMap_append, List.flatMap_cons, List.flatMap_nil, List.append_assoc, List.cons_append, List.nil_append, ShL]; omega), by rw [aget_snoc (by rw [bT_names]; exact hkn), if_pos rfl], hsm.1, ?_, fun q H hL => ?_⟩
        · have h1 := congrArg List.length g3
          rw [List.length_map, List.length_take] at h1
          have : (40 : Int).toNat = 40 := rfl
          omega
        rw [aput_snoc (by rw [bT_names]; exact hkn)] at hL
        fail "go"
        refine hD5.nx _ _ (.mk ⟨putT d' q si 0 0, ⟨_, _, _, _, _, _, _, _, _, _, _, _, _, _, _, _, _, _, rfl⟩, rfl, g1, ?_, ?_, ?_⟩)
        · show (if d'.ws = [] then (if (0 : Int) > d'.pt then 0 else d'.pt) else d'.pt) = 0
          rw [g2]; simp
        · show (d'.ws ++ [(q, si, 0)]).map (fun x : Wt => x.2.1) = _
          rw [List.map_append, g3, List.take_add_one, hsi]; rfl
        · (refine Led.le hL (fun a_ => ?_); simp only [cnt_nil, cnt_cons, cnt_app, List.map_append, List.map_cons, List.map_nil, List.flatMap_append, List.flatMap_cons, List.flatMap_nil, List.append_assoc, List.cons_append, List.nil_append]; omega)
      · clear hL
        obtain ⟨d', hSh, hσ, g1, g2, g3, hL⟩ := h.out
        clear h
        rw [List.length_map, List.take_length] at g3
        have g4 : d'.ws.length = S.length := by rw [← g3, List.length_map]
        have h40 : (40 : Int).toNat = 40 := rfl
        have hcell : ∀ (l1 l2 : List BE), True := fun _ _ => trivial
        refine hD4.nx _ _ (.mk ⟨x, y, z, bs ++ [(ko, ⟨d', S1, S, 0, 0⟩)], hSh, ?_, ?_, ?_, ?_⟩)
        · rw [List.map_append, hn, List.take_add_one, hko]; rfl
        · refine BOk.zero fun k b hb => ?_
          rw [aget_snoc hkn] at hb
          by_cases zz : ko = k
          · rw [if_pos zz] at hb
            cases hb
            subst zz
            refine ⟨⟨⟨e, he, g1⟩, by rw [g1]; exact hew, hS, by rw [hSl]; rfl, fun x hx => ?_, ?_, Nat.le_refl _, by show (0 : Int) ≤ 0 ∧ (0 : Int) ≤ 20 * ((0 : Nat) : Int); decide, ?_, ?_⟩, g2⟩
            · rw [← g3]; exact List.mem_map.mpr ⟨x, hx, rfl⟩
            · show d'.ws.length + 0 = 40
              omega
            · show d'.pt ≤ 0 * 5040 / d'.w
              rw [g2]; simp
            · show 0 * 5040 / d'.w ≤ d'.pt + ((0 : Nat) : Int)
              rw [g2]; simp
          · rw [if_neg zz] at hb
            exact ⟨hB.one k b hb, (hz k b hb).1⟩
        · intro k b hb
          rw [aget_snoc hkn] at hb
          by_cases zz : ko = k
          · rw [if_pos zz] at hb
            cases hb
            exact ⟨g2, rfl⟩
          · rw [if_neg zz] at hb
            exact hz k b hb
        · rw [← hb0] at hL
          unfold BL
          rw [← hZ] at hL
          have eb : bT (bs ++ [(ko, (⟨d', S1, S, 0, 0⟩ : BD))]) = bT bs ++ [(ko, d')] := by unfold bT; rw [List.map_append]; rfl
          have em1 : (bs ++ [(ko, (⟨d, S1, S, 0, 0⟩ : BD))]).map (kk slV) = (bs ++ [(ko, (⟨d', S1, S, 0, 0⟩ : BD))]).map (kk slV) := by rw [List.map_append, List.map_append]; rfl
          have em2 : (bs ++ [(ko, (⟨d, S1, S, 0, 0⟩ : BD))]).map (kk svV) = (bs ++ [(ko, (⟨d', S1, S, 0, 0⟩ : BD))]).map (kk svV) := by rw [List.map_append, List.map_append]; rfl
          have em3 : (bs ++ [(ko, (⟨d, S1, S, 0, 0⟩ : BD))]).map (kk nV) = (bs ++ [(ko, (⟨d', S1, S, 0, 0⟩ : BD))]).map (kk nV) := by rw [List.map_append, List.map_append]; rfl
          rw [em1, em2, em3] at hL
          rw [eb]
          have ec : (bs ++ [(ko, (⟨d', S1, S, 0, 0⟩ : BD))]).map slO = bs.map slO ++ [(S1, .lst (S.map V.int))] := by rw [List.map_append]; rfl
          rw [ec]
          unfold ShL at hL
          clear hB hz em1 em2 em3 eb ec
          generalize (bs ++ [(ko, (⟨d', S1, S, 0, 0⟩ : BD))]) = bs2 at hL ⊢
          generalize bT bs ++ [(ko, d')] = ts2 at hL ⊢
          (refine Led.le hL (fun a_ => ?_); simp only [cnt_nil, cnt_cons, cnt_app, List.map_append, List.map_cons, List.map_nil, List.flatMap_append, List.flatMap_cons, List.flatMap_nil, List.append_assoc, List.cons_append, List.nil_append]; omega)
  · obtain ⟨x, y, z, bs, hS, hn, hB, hz, hL⟩ := h.out
    rw [List.length_map, List.take_of_length_le (by rw [List.length_map]; exact Nat.le_refl _)] at hn
    refine hD3.nx _ _ (hL.at ⟨1, rfl⟩) ?_
    refine k _ _ ⟨x, y, z, bs, 0, hS, hn, hB, ?_⟩
    exact hL.upU ⟨1, rfl, rfl⟩ rfl
end
end Sd


set_option linter.unusedVariables false
namespace Sd
open PySem L2
open C8 (Cal Met Mak pe_c pe_mk pe_mt pe_mt0 tCut)
set_option linter.unusedSimpArgs false
set_option pp.deepTerms false
set_option pp.deepTerms.threshold 12
set_option hygiene false
local macro_rules | `(tactic| fail "nd") => `(tactic| first | assumption | decide +kernel)
local macro_rules | `(tactic| fail "ix") => `(tactic| first | exact ⟨0, rfl⟩ | exact ⟨1, rfl⟩ | exact ⟨2, rfl⟩ | exact ⟨3, rfl⟩ | exact ⟨4, rfl⟩ | exact ⟨5, rfl⟩ | exact ⟨6, rfl⟩ | exact ⟨7, rfl⟩ | exact ⟨8, rfl⟩ | exact ⟨9, rfl⟩ | exact ⟨10, rfl⟩ | exact ⟨11, rfl⟩ | exact ⟨12, rfl⟩ | exact ⟨13, rfl⟩ | exact ⟨14, rfl⟩ | exact ⟨15, rfl⟩ | exact ⟨16, rfl⟩ | exact ⟨17, rfl⟩ | exact ⟨18, rfl⟩ | assumption)
local macro_rules | `(tactic| fail "up") => `(tactic| first | exact ⟨0, rfl, rfl⟩ | exact ⟨1, rfl, rfl⟩ | exact ⟨2, rfl, rfl⟩ | exact ⟨3, rfl, rfl⟩ | exact ⟨4, rfl, rfl⟩ | exact ⟨5, rfl, rfl⟩ | exact ⟨6, rfl, rfl⟩ | exact ⟨7, rfl, rfl⟩ | exact ⟨8, rfl, rfl⟩ | exact ⟨9, rfl, rfl⟩ | exact ⟨10, rfl, rfl⟩ | exact ⟨11, rfl, rfl⟩ | exact ⟨12, rfl, rfl⟩ | exact ⟨13, rfl, rfl⟩ | exact ⟨14, rfl, rfl⟩ | exact ⟨15, rfl, rfl⟩ | exact ⟨16, rfl, rfl⟩ | assumption)
local macro_rules | `(tactic| fail "lkF") => `(tactic| first | assumption | exact fz_at 0 (by fail "nd") rfl rfl | exact fz_at 1 (by fail "nd") rfl rfl | exact fz_at 2 (by fail "nd") rfl rfl | exact fz_at 3 (by fail "nd") rfl rfl | exact fz_at 4 (by fail "nd") rfl rfl | exact fz_at 5 (by fail "nd") rfl rfl | exact fz_at 6 (by fail "nd") rfl rfl | exact fz_at 7 (by fail "nd") rfl rfl)
local macro_rules | `(tactic| fail "lkD") => `(tactic| first | assumption | exact dz_at 0 (by fail "nd") rfl rfl | exact dz_at 1 (by fail "nd") rfl rfl | exact dz_at 2 (by fail "nd") rfl rfl | exact dz_at 3 (by fail "nd") rfl rfl | exact dz_at 4 (by fail "nd") rfl rfl)
local macro_rules | `(tactic| fail "ptF") => `(tactic| first | assumption | exact fz_put 0 (by fail "nd") rfl (Nat.le_of_ble_eq_true rfl) | exact fz_put 1 (by fail "nd") rfl (Nat.le_of_ble_eq_true rfl) | exact fz_put 2 (by fail "nd") rfl (Nat.le_of_ble_eq_true rfl) | exact fz_put 3 (by fail "nd") rfl (Nat.le_of_ble_eq_true rfl) | exact fz_put 4 (by fail "nd") rfl (Nat.le_of_ble_eq_true rfl) | exact fz_put 5 (by fail "nd") rfl (Nat.le_of_ble_eq_true rfl) | exact fz_put 6 (by fail "nd") rfl (Nat.le_of_ble_eq_true rfl) | exact fz_put 7 (by fail "nd") rfl (Nat.le_of_ble_eq_true rfl) | exact fz_new (by decide +kernel) rfl)
local macro_rules | `(tactic| fail "ptD") => `(tactic| first | assumption | exact dz_put 0 (by fail "nd") rfl (Nat.le_of_ble_eq_true rfl) | exact dz_put 1 (by fail "nd") rfl (Nat.le_of_ble_eq_true rfl) | exact dz_put 2 (by fail "nd") rfl (Nat.le_of_ble_eq_true rfl) | exact dz_put 3 (by fail "nd") rfl (Nat.le_of_ble_eq_true rfl) | exact dz_put 4 (by fail "nd") rfl (Nat.le_of_ble_eq_true rfl))
local macro_rules | `(tactic| fail "sz") => `(tactic| first | assumption | exact (Nat.le_of_ble_eq_true rfl) | omega | decide)
local macro_rules | `(tactic| fail "sd") => `(tactic| first | rfl | assumption | decide | omega | (dsimp only; first | decide | omega) | exact .inr ⟨by decide, by decide⟩ | exact .inl ⟨by decide, by decide⟩ | exact ⟨by omega, by omega⟩ | exact .inl ⟨by omega, by omega⟩ | exact .inr ⟨by omega, by omega⟩ | exact ⟨by omega, by omega, by omega⟩)
local macro_rules | `(tactic| fail "cl") => `(tactic| (clear hH; dsimp only [List.set, List.cons_append, List.nil_append, List.append] at hL))
local macro_rules | `(tactic| fail "gn") => `(tactic| (intro p hp; generalize hH : upd H p _ = H; replace hL := Led.newH hL hp hH; clear hH hp))
local macro_rules | `(tactic| fail "gup") => `(tactic| (generalize hH : upd H _ _ = H; replace hL := Led.upU hL (by fail "up") hH; fail "cl"))
local macro_rules | `(tactic| fail "gmk") => `(tactic| (intro x dx hx hd ne; generalize hH : upd (upd H dx _) x _ = H; replace hL := Led.made hL hx hd ne hH; clear hH hx hd ne))
local macro_rules | `(tactic| fail "v") => `(tactic| refine ⟨_, rfl, ?_⟩)
local macro_rules | `(tactic| fail "i2") => `(tactic| refine ⟨_, _, rfl, rfl, ?_⟩)
local macro_rules | `(tactic| fail "go1") => `(tactic| first
  | refine ⟨_, rfl, ?_⟩
  | refine ⟨_, _, rfl, rfl, ?_⟩
  | refine ⟨_, _, rfl, ?_⟩
  | refine iteT ?_
  | refine iteF ?_
  | refine k_fld hL (by fail "ix") (by assumption) (by assumption) (by fail "lkF") ?_
  | refine k_dgetS hL (by fail "ix") (by fail "lkD") ?_
  | refine k_dgetI hL (by fail "ix") (by assumption) ?_
  | refine k_ixL hL (by fail "ix") (by first | rfl | assumption) ?_
  | refine k_ixT hL (by fail "ix") (by first | rfl | assumption) ?_
  | refine k_tyL hL (by fail "ix") ?_
  | refine k_isd hL (by fail "ix") ?_
  | (refine And.intro (by fail "sz") ?_; fail "gn")
  | refine And.intro (by fail "sd") ?_
  | fail "gn"
  | refine k_meth hL (by fail "ix") (by first | assumption | exact fz_no (by decide +kernel)) ?_
  | refine k_gtup hL (by fail "ix") rfl ?_
  | (refine k_popI hL (by fail "ix") (by assumption) ?_; fail "gup")
  | (refine k_listD hL (by fail "ix") ?_; fail "gn")
  | (refine ⟨_, _, _, _, rfl, rfl, hL.at (by fail "ix"), rfl, ?_⟩; fail "gup")
  | (refine ⟨_, _, _, rfl, rfl, hL.at (by fail "ix"), (by fail "sz"), ?_⟩; fail "gup")
  | (refine ⟨_, _, _, _, rfl, hL.at (by fail "ix"), by assumption, by assumption, Nat.lt_of_le_of_lt fz_len (by decide), ?_⟩; generalize hH : upd H _ _ = H; replace hL := Led.upF hL (by fail "up") (by fail "ptF") hH; fail "cl")
  | (refine ⟨_, _, hL.at (by fail "ix"), Nat.lt_of_le_of_lt fz_len (by decide), ?_⟩; generalize hH : upd H _ _ = H; replace hL := Led.upF hL (by fail "up") (by fail "ptF") hH; fail "cl")
  | (refine k_dputS hL (by fail "ix") (Nat.lt_of_le_of_lt dz_len (by decide)) (by fail "ptD") (by fail "up") ?_; clear hL; intro H hL; dsimp only [List.set, List.cons_append, List.nil_append, List.append] at hL)
  | refine k_lenL2 hL (by fail "ix") ?_
  | refine k_lenT2 hL (by fail "ix") ?_
  | refine .inl ⟨_, rfl, ?_⟩
  | refine .inr ⟨_, rfl, ?_⟩)
local macro_rules | `(tactic| fail "go") => `(tactic| repeat fail "go1")
local macro_rules | `(tactic| fail "pm") => `(tactic| (refine Led.le hL (fun a_ => ?_); simp only [cnt_nil, cnt_cons, cnt_app, List.map_append, List.map_cons, List.map_nil, List.flatMap_append, List.flatMap_cons, List.flatMap_nil, List.append_assoc, List.cons_append, List.nil_append]; omega))

structure TxtM (mg : Str → Option Value) : Prop where
  max : mg "max" = none
abbrev bodyT : List Stmt := bodyF (nth bodyB 5)
def tFair (CS CT : Addr) : TS := fun D σ H => ∃ G os t R, OsOk os ∧ Ok3 CS CT G t os R σ H ∧ ∀ σ' H', Ok3 CS CT G t os R σ' H' → D.nx σ' H'
def OkF (CS CT : Addr) (G : Gx) (t : Nat) (os : List TE) (R : Lg) (od : Obj) (σ : L2.St) (H : Hp) : Prop := ∃ x y z bs pt, Sh2 G σ ∧ bs.map (·.1) = os.map (·.1) ∧ BOk os t bs ∧ Led H (BL CS CT G (.frz od (.dK (os.map (kk tnV)))) x y z bs pt (osL os ++ R))
theorem B1.cap {os : List TE} {t : Nat} {k : Str} {b : BD} (h : B1 os t k b) : 0 ≤ b.sv ∧ b.sv ≤ 800 := by
  have h1 := h.sv
  have h2 := h.l
  omega
section
variable {P : Program} {w : World} {K : PySem.W.Frag} {mg : Str → Option Value} {base : Heap} {CS CT : Addr} {f : Addr} {cdv : Value} {A : Around} {outer : List Env} {s0 : Shared} {H0 : Hp} {E : XK}
theorem st_fair (hr : Room 8 (LX P w K mg base f cdv A outer s0 H0 E).A) (T : TxtM mg) :
    PS (LX P w K mg base f cdv A outer s0 H0 E) (nth bodyT 2) (tFair CS CT) := by
  refine ps_imp (t := _) (ps_lock (ps_for PassesOwn.never rfl (pi_keys (pv 3)) (pg_name (i := 12) scLaw.nd rfl (Or.inl rfl))
  (pss_one (ps_for PassesOwn.never rfl (pi_keys (pv 3)) (pg_name (i := 20) scLaw.nd rfl (Or.inl rfl))
  (pss_cons (ps_set (i := 21) scLaw.nd rfl (Or.inl rfl) (pe_op op_sub (pe_op op_fdiv (pe_op op_mul (pe_dget (hu_of hr) (pv 17) (pv 12) (fun _ _ => rfl)) pe_int) (pe_dget (hu_of hr) (pe_dget (hu_of hr) (pv 3) (pv 12) (fun _ _ => rfl)) pe_str (fun _ _ => rfl))) (pe_op op_fdiv (pe_op op_mul (pe_dget (hu_of hr) (pv 17) (pv 20) (fun _ _ => rfl)) pe_int) (pe_dget (hu_of hr) (pe_dget (hu_of hr) (pv 3) (pv 20) (fun _ _ => rfl)) pe_str (fun _ _ => rfl)))))
  (pss_one (ps_if (pt_cmpR op_gt (pv 21) (pe_op op_add (pe_op op_add (pe_op op_add (pe_op op_add (pe_op op_fdiv (pe_op op_mul (pe_callB (cr_max rfl) (by rfl) T.max (by decide +kernel) (pa_cons (pe_dget (hu_of hr) (pv 16) (pv 12) (fun _ _ => rfl)) pa_nil)) pe_int) (pe_dget (hu_of hr) (pe_dget (hu_of hr) (pv 3) (pv 12) (fun _ _ => rfl)) pe_str (fun _ _ => rfl))) (pe_op op_fdiv (pe_op op_mul (pe_callB (cr_max rfl) (by rfl) T.max (by decide +kernel) (pa_cons (pe_dget (hu_of hr) (pv 16) (pv 20) (fun _ _ => rfl)) pa_nil)) pe_int) (pe_dget (hu_of hr) (pe_dget (hu_of hr) (pv 3) (pv 20) (fun _ _ => rfl)) pe_str (fun _ _ => rfl)))) (pe_dget (hu_of hr) (pv 18) (pv 12) (fun _ _ => rfl))) (pe_dget (hu_of hr) (pv 18) (pv 20) (fun _ _ => rfl))) pe_int) (nomark _))
  (pss_one (ps_ret pe_bl))
  pss_nil))))))) ?_
  rintro D σ H ⟨G, os, t, R, ho, ⟨x, y, z, bs, pt, ⟨v2, v4, v5, v6, v7, v8, v9, v10, v11, v12, v13, v14, v19, v20, v21, v22, v23, v24, rfl⟩, hnm, hB, hL⟩, k⟩
  refine lockA (hL.at ⟨1, rfl⟩) trivial fun od D3 hD3 => ?_
  generalize hH : upd H G.wd _ = H
  replace hL : Led H (BL CS CT G (.frz od (.dK (os.map (kk tnV)))) x y z bs pt (osL os ++ R)) := hL.upU ⟨1, rfl, rfl⟩ hH
  clear hH
  dsimp only [BL] at hL
  fail "go"
  refine ⟨G.wd, od, rfl, .inl ⟨_, hL.at ⟨1, rfl⟩, ?_⟩⟩
  refine for_itA (walk_keys (d := G.wd) (o := od) (kvs := os.map (kk tnV))) (fun i σ H => Hold (OkF CS CT G t os R od σ H))
      (.mk ⟨x, y, z, bs, pt, ⟨_, _, _, _, _, _, _, _, _, _, _, _, _, _, _, _, _, _, rfl⟩, hnm, hB, hL⟩) (fun i σ H _ h => ?_) (fun i v σ H1 H D4 hi h hy hD4 => ?_) (fun σ H h => ?_)
  · obtain ⟨x, y, z, bs, pt, hS, hn, hB, hL⟩ := h.out
    exact hL.at ⟨1, rfl⟩
  · clear hL hB hnm
    obtain ⟨x, y, z, bs, pt, ⟨v2, v4, v5, v6, v7, v8, v9, v10, v11, v12, v13, v14, v19, v20, v21, v22, v23, v24, rfl⟩, hnm, hB, hL⟩ := h.out
    clear h
    obtain ⟨rfl, kx, vx, hk, rfl⟩ := hy
    rw [List.getElem?_map] at hk
    obtain ⟨⟨k1, e1⟩, hoi, hk⟩ := Option.map_eq_some_iff.mp hk
    obtain ⟨rfl, rfl⟩ := Prod.mk.inj hk
    have he1 : aget os k1 = some e1 := mem_aget ho.1 (List.mem_of_getElem? hoi)
    show gName 12 (.str k1) _ _ _
    dsimp only [BL] at hL
    fail "go"
    refine ⟨G.wd, od, rfl, .inl ⟨_, hL.at ⟨1, rfl⟩, ?_⟩⟩
    refine for_itA (walk_keys (d := G.wd) (o := od) (kvs := os.map (kk tnV))) (fun i σ H => Hold (OkF CS CT G t os R od σ H ∧ σ[12]? = some (some (.str k1))))
      (.mk ⟨⟨x, y, z, bs, pt, ⟨_, _, _, _, _, _, _, _, _, _, _, _, _, _, _, _, _, _, rfl⟩, hnm, hB, hL⟩, rfl⟩) (fun i σ H _ h => ?_) (fun i v σ H1 H D5 hi h hy hD5 => ?_) (fun σ H h => hD4.nx _ _ (.mk h.out.1))
    · obtain ⟨⟨x, y, z, bs, pt, hS, hn, hB, hL⟩, _⟩ := h.out
      exact hL.at ⟨1, rfl⟩
    · clear hL hB hnm
      obtain ⟨⟨x, y, z, bs, pt, ⟨v2, v4, v5, v6, v7, v8, v9, v10, v11, v12, v13, v14, v19, v20, v21, v22, v23, v24, rfl⟩, hnm, hB, hL⟩, h12⟩ := h.out
      clear h
      obtain rfl : v12 = some (.str k1) := Option.some.inj h12
      obtain ⟨rfl, kx, vx, hk, rfl⟩ := hy
      rw [List.getElem?_map] at hk
      obtain ⟨⟨k2, e2⟩, hoi2, hk⟩ := Option.map_eq_some_iff.mp hk
      obtain ⟨rfl, rfl⟩ := Prod.mk.inj hk
      have he2 : aget os k2 = some e2 := mem_aget ho.1 (List.mem_of_getElem? hoi2)
      obtain ⟨a, ha⟩ := aget_in (l := bs) (k := k1) (by rw [hnm]; exact aget_some he1)
      obtain ⟨b, hb⟩ := aget_in (l := bs) (k := k2) (by rw [hnm]; exact aget_some he2)
      have A1 := hB.one k1 a ha
      have A2 := hB.one k2 b hb
      obtain ⟨e', q1, wa⟩ := A1.ow
      obtain rfl : e1 = e' := Option.some.inj (he1.symm.trans q1)
      obtain ⟨e', q2, wb⟩ := A2.ow
      obtain rfl : e2 = e' := Option.some.inj (he2.symm.trans q2)
      have ca := A1.cap
      have cb := A2.cap
      have wa1 := A1.w1
      have wb1 := A2.w1
      have hfair : ∀ M N : Int, (∀ s ∈ a.S, s ≤ M) → 0 ≤ N → ¬ (a.sv * 5040 / a.t.w - b.sv * 5040 / b.t.w > M * 5040 / a.t.w + N * 5040 / b.t.w + a.n + b.n + 2) := fun M N hM hN => hB.fair ha hb hM hN
      rw [wa] at wa1 hfair
      rw [wb] at wb1 hfair
      have lo1 : valV (os.map (kk tnV)) (Sum.inr k1) = some (.ref e1.a) := by rw [ts_val, he1]; rfl
      have lo2 : valV (os.map (kk tnV)) (Sum.inr k2) = some (.ref e2.a) := by rw [ts_val, he2]; rfl
      have ls1 : valV (bs.map (kk slV)) (Sum.inr k1) = some (.ref a.sl) := by rw [kk_val, ha]; rfl
      have ls2 : valV (bs.map (kk slV)) (Sum.inr k2) = some (.ref b.sl) := by rw [kk_val, hb]; rfl
      have lv1 : valV (bs.map (kk svV)) (Sum.inr k1) = some (.int a.sv) := by rw [kk_val, ha]; rfl
      have lv2 : valV (bs.map (kk svV)) (Sum.inr k2) = some (.int b.sv) := by rw [kk_val, hb]; rfl
      have ln1 : valV (bs.map (kk nV)) (Sum.inr k1) = some (.int (a.n : Int)) := by rw [kk_val, ha]; rfl
      have ln2 : valV (bs.map (kk nV)) (Sum.inr k2) = some (.int (b.n : Int)) := by rw [kk_val, hb]; rfl
      have m1 : ∀ x' ∈ OL e1, x' ∈ BL CS CT G (.frz od (.dK (os.map (kk tnV)))) x y z bs pt (osL os ++ R) := fun x' hx => (.tail _ (.tail _ (.tail _ (.tail _ (.tail _ (.tail _ (.tail _ (List.mem_append_right _ (List.mem_append_right _ (List.mem_append_left _ (oe_mem he1 hx)))))))))))
      have m2 : ∀ x' ∈ OL e2, x' ∈ BL CS CT G (.frz od (.dK (os.map (kk tnV)))) x y z bs pt (osL os ++ R) := fun x' hx => (.tail _ (.tail _ (.tail _ (.tail _ (.tail _ (.tail _ (.tail _ (List.mem_append_right _ (List.mem_append_right _ (List.mem_append_left _ (oe_mem he2 hx)))))))))))
      have s1 : (a.sl, HO.lst (a.S.map V.int)) ∈ BL CS CT G (.frz od (.dK (os.map (kk tnV)))) x y z bs pt (osL os ++ R) := (.tail _ (.tail _ (.tail _ (.tail _ (.tail _ (.tail _ (.tail _ (List.mem_append_left _ (List.mem_map.mpr ⟨(k1, a), aget_mem ha, rfl⟩)))))))))
      have s2 : (b.sl, HO.lst (b.S.map V.int)) ∈ BL CS CT G (.frz od (.dK (os.map (kk tnV)))) x y z bs pt (osL os ++ R) := (.tail _ (.tail _ (.tail _ (.tail _ (.tail _ (.tail _ (.tail _ (List.mem_append_left _ (List.mem_map.mpr ⟨(k2, b), aget_mem hb, rfl⟩)))))))))
      have hL0 := hL
      show gName 20 (.str k2) _ _ _
      dsimp only [BL] at hL m1 m2 s1 s2
      fail "go"
      refine k_dgetFS hL ⟨1, rfl⟩ lo1 ?_
      fail "go"
      refine k_dgetS hL (at_mem (m1 _ (.head _))) (by fail "lkD") ?_
      fail "go"
      refine k_dgetFS hL ⟨1, rfl⟩ lo2 ?_
      fail "go"
      refine k_dgetS hL (at_mem (m2 _ (.head _))) (by fail "lkD") ?_
      fail "go"
      refine ⟨a.sl, a.S, rfl, .of (hL.at (at_mem s1)), by rw [A1.z]; decide, fun M hM1 hM2 => ?_⟩
      have hM := A1.S M hM1
      fail "go"
      refine k_dgetFS hL ⟨1, rfl⟩ lo1 ?_
      fail "go"
      refine k_dgetS hL (at_mem (m1 _ (.head _))) (by fail "lkD") ?_
      fail "go"
      refine ⟨b.sl, b.S, rfl, .of (hL.at (at_mem s2)), by rw [A2.z]; decide, fun N hN1 hN2 => ?_⟩
      have hN := A2.S N hN1
      fail "go"
      refine k_dgetFS hL ⟨1, rfl⟩ lo2 ?_
      fail "go"
      refine k_dgetS hL (at_mem (m2 _ (.head _))) (by fail "lkD") ?_
      fail "go"
      refine ite_d (fun q => ?_) (fun _ => ?_)
      · have := hfair M N hM2 (by omega)
        exact absurd q this
      · refine hD5.nx _ _ (.mk ⟨⟨x, y, z, bs, pt, ⟨_, _, _, _, _, _, _, _, _, _, _, _, _, _, _, _, _, _, rfl⟩, hnm, hB, hL0⟩, rfl⟩)
  · obtain ⟨x, y, z, bs, pt, hS, hn, hB, hL⟩ := h.out
    refine hD3.nx _ _ (hL.at ⟨1, rfl⟩) ?_
    refine k _ _ ⟨x, y, z, bs, pt, hS, hn, hB, ?_⟩
    exact hL.upU ⟨1, rfl, rfl⟩ rfl
end
end Sd


set_option linter.unusedVariables false
namespace Sd
open PySem L2
open C8 (Cal Met Mak pe_c pe_mk pe_mt pe_mt0 tCut)
set_option linter.unusedSimpArgs false
set_option pp.deepTerms false
set_option pp.deepTerms.threshold 12
set_option hygiene false
local macro_rules | `(tactic| fail "nd") => `(tactic| first | assumption | decide +kernel)
local macro_rules | `(tactic| fail "ix") => `(tactic| first | exact ⟨0, rfl⟩ | exact ⟨1, rfl⟩ | exact ⟨2, rfl⟩ | exact ⟨3, rfl⟩ | exact ⟨4, rfl⟩ | exact ⟨5, rfl⟩ | exact ⟨6, rfl⟩ | exact ⟨7, rfl⟩ | exact ⟨8, rfl⟩ | exact ⟨9, rfl⟩ | exact ⟨10, rfl⟩ | exact ⟨11, rfl⟩ | exact ⟨12, rfl⟩ | exact ⟨13, rfl⟩ | exact ⟨14, rfl⟩ | exact ⟨15, rfl⟩ | exact ⟨16, rfl⟩ | exact ⟨17, rfl⟩ | exact ⟨18, rfl⟩ | assumption)
local macro_rules | `(tactic| fail "up") => `(tactic| first | exact ⟨0, rfl, rfl⟩ | exact ⟨1, rfl, rfl⟩ | exact ⟨2, rfl, rfl⟩ | exact ⟨3, rfl, rfl⟩ | exact ⟨4, rfl, rfl⟩ | exact ⟨5, rfl, rfl⟩ | exact ⟨6, rfl, rfl⟩ | exact ⟨7, rfl, rfl⟩ | exact ⟨8, rfl, rfl⟩ | exact ⟨9, rfl, rfl⟩ | exact ⟨10, rfl, rfl⟩ | exact ⟨11, rfl, rfl⟩ | exact ⟨12, rfl, rfl⟩ | exact ⟨13, rfl, rfl⟩ | exact ⟨14, rfl, rfl⟩ | exact ⟨15, rfl, rfl⟩ | exact ⟨16, rfl, rfl⟩ | assumption)
local macro_rules | `(tactic| fail "lkF") => `(tactic| first | assumption | exact fz_at 0 (by fail "nd") rfl rfl | exact fz_at 1 (by fail "nd") rfl rfl | exact fz_at 2 (by fail "nd") rfl rfl | exact fz_at 3 (by fail "nd") rfl rfl | exact fz_at 4 (by fail "nd") rfl rfl | exact fz_at 5 (by fail "nd") rfl rfl | exact fz_at 6 (by fail "nd") rfl rfl | exact fz_at 7 (by fail "nd") rfl rfl)
local macro_rules | `(tactic| fail "lkD") => `(tactic| first | assumption | exact dz_at 0 (by fail "nd") rfl rfl | exact dz_at 1 (by fail "nd") rfl rfl | exact dz_at 2 (by fail "nd") rfl rfl | exact dz_at 3 (by fail "nd") rfl rfl | exact dz_at 4 (by fail "nd") rfl rfl)
local macro_rules | `(tactic| fail "ptF") => `(tactic| first | assumption | exact fz_put 0 (by fail "nd") rfl (Nat.le_of_ble_eq_true rfl) | exact fz_put 1 (by fail "nd") rfl (Nat.le_of_ble_eq_true rfl) | exact fz_put 2 (by fail "nd") rfl (Nat.le_of_ble_eq_true rfl) | exact fz_put 3 (by fail "nd") rfl (Nat.le_of_ble_eq_true rfl) | exact fz_put 4 (by fail "nd") rfl (Nat.le_of_ble_eq_true rfl) | exact fz_put 5 (by fail "nd") rfl (Nat.le_of_ble_eq_true rfl) | exact fz_put 6 (by fail "nd") rfl (Nat.le_of_ble_eq_true rfl) | exact fz_put 7 (by fail "nd") rfl (Nat.le_of_ble_eq_true rfl) | exact fz_new (by decide +kernel) rfl)
local macro_rules | `(tactic| fail "ptD") => `(tactic| first | assumption | exact dz_put 0 (by fail "nd") rfl (Nat.le_of_ble_eq_true rfl) | exact dz_put 1 (by fail "nd") rfl (Nat.le_of_ble_eq_true rfl) | exact dz_put 2 (by fail "nd") rfl (Nat.le_of_ble_eq_true rfl) | exact dz_put 3 (by fail "nd") rfl (Nat.le_of_ble_eq_true rfl) | exact dz_put 4 (by fail "nd") rfl (Nat.le_of_ble_eq_true rfl))
local macro_rules | `(tactic| fail "sz") => `(tactic| first | assumption | exact (Nat.le_of_ble_eq_true rfl) | omega | decide)
local macro_rules | `(tactic| fail "sd") => `(tactic| first | rfl | assumption | decide | omega | (dsimp only; first | decide | omega) | exact .inr ⟨by decide, by decide⟩ | exact .inl ⟨by decide, by decide⟩ | exact ⟨by omega, by omega⟩ | exact .inl ⟨by omega, by omega⟩ | exact .inr ⟨by omega, by omega⟩ | exact ⟨by omega, by omega, by omega⟩)
local macro_rules | `(tactic| fail "cl") => `(tactic| (clear hH; dsimp only [List.set, List.cons_append, List.nil_append, List.append] at hL))
local macro_rules | `(tactic| fail "gn") => `(tactic| (intro p hp; generalize hH : upd H p _ = H; replace hL := Led.newH hL hp hH; clear hH hp))
local macro_rules | `(tactic| fail "gup") => `(tactic| (generalize hH : upd H _ _ = H; replace hL := Led.upU hL (by fail "up") hH; fail "cl"))
local macro_rules | `(tactic| fail "gmk") => `(tactic| (intro x dx hx hd ne; generalize hH : upd (upd H dx _) x _ = H; replace hL := Led.made hL hx hd ne hH; clear hH hx hd ne))
local macro_rules | `(tactic| fail "v") => `(tactic| refine ⟨_, rfl, ?_⟩)
local macro_rules | `(tactic| fail "i2") => `(tactic| refine ⟨_, _, rfl, rfl, ?_⟩)
local macro_rules | `(tactic| fail "go1") => `(tactic| first
  | refine ⟨_, rfl, ?_⟩
  | refine ⟨_, _, rfl, rfl, ?_⟩
  | refine ⟨_, _, rfl, ?_⟩
  | refine iteT ?_
  | refine iteF ?_
  | refine k_fld hL (by fail "ix") (by assumption) (by assumption) (by fail "lkF") ?_
  | refine k_dgetS hL (by fail "ix") (by fail "lkD") ?_
  | refine k_dgetI hL (by fail "ix") (by assumption) ?_
  | refine k_ixL hL (by fail "ix") (by first | rfl | assumption) ?_
  | refine k_ixT hL (by fail "ix") (by first | rfl | assumption) ?_
  | refine k_tyL hL (by fail "ix") ?_
  | refine k_isd hL (by fail "ix") ?_
  | (refine And.intro (by fail "sz") ?_; fail "gn")
  | refine And.intro (by fail "sd") ?_
  | fail "gn"
  | refine k_meth hL (by fail "ix") (by first | assumption | exact fz_no (by decide +kernel)) ?_
  | refine k_gtup hL (by fail "ix") rfl ?_
  | (refine k_popI hL (by fail "ix") (by assumption) ?_; fail "gup")
  | (refine k_listD hL (by fail "ix") ?_; fail "gn")
  | (refine ⟨_, _, _, _, rfl, rfl, hL.at (by fail "ix"), rfl, ?_⟩; fail "gup")
  | (refine ⟨_, _, _, rfl, rfl, hL.at (by fail "ix"), (by fail "sz"), ?_⟩; fail "gup")
  | (refine ⟨_, _, _, _, rfl, hL.at (by fail "ix"), by assumption, by assumption, Nat.lt_of_le_of_lt fz_len (by decide), ?_⟩; generalize hH : upd H _ _ = H; replace hL := Led.upF hL (by fail "up") (by fail "ptF") hH; fail "cl")
  | (refine ⟨_, _, hL.at (by fail "ix"), Nat.lt_of_le_of_lt fz_len (by decide), ?_⟩; generalize hH : upd H _ _ = H; replace hL := Led.upF hL (by fail "up") (by fail "ptF") hH; fail "cl")
  | (refine k_dputS hL (by fail "ix") (Nat.lt_of_le_of_lt dz_len (by decide)) (by fail "ptD") (by fail "up") ?_; clear hL; intro H hL; dsimp only [List.set, List.cons_append, List.nil_append, List.append] at hL)
  | refine k_lenL2 hL (by fail "ix") ?_
  | refine k_lenT2 hL (by fail "ix") ?_
  | refine .inl ⟨_, rfl, ?_⟩
  | refine .inr ⟨_, rfl, ?_⟩)
local macro_rules | `(tactic| fail "go") => `(tactic| repeat fail "go1")
local macro_rules | `(tactic| fail "pm") => `(tactic| (refine Led.le hL (fun a_ => ?_); simp only [cnt_nil, cnt_cons, cnt_app, List.map_append, List.map_cons, List.map_nil, List.flatMap_append, List.flatMap_cons, List.flatMap_nil, List.append_assoc, List.cons_append, List.nil_append]; omega))

theorem aput_same {α γ : Type} {f : Str × α → γ} {l : List (Str × α)} {k : Str} {b b2 : α} (h : aget l k = some b) (hf : f (k, b2) = f (k, b)) : (aput l k b2).map f = l.map f := by
  obtain ⟨B, C, e1, e2⟩ := aget_split h
  rw [e2, e1, List.map_append, List.map_append, List.map_cons, List.map_cons, hf]
def tTurns (CS CT : Addr) : TS := fun D σ H => ∃ G os R, OsOk os ∧ 1 ≤ os.length ∧ Ok3 CS CT G 0 os R σ H ∧ ∀ σ' H', Ok3 CS CT G 40 os R σ' H' → D.nx σ' H'
theorem BOk.sok {os : List TE} {t : Nat} {bs : List BE} (ho : OsOk os) (hn : bs.map (·.1) = os.map (·.1)) (h : BOk os t bs) : SOk (bT bs) := by
  refine ⟨by rw [bT_names, hn]; exact ho.1, ?_, fun k d hd => ?_⟩
  · have := congrArg List.length hn
    rw [List.length_map, List.length_map] at this
    unfold bT
    rw [List.length_map]
    have := ho.2.1
    omega
  · rw [bT_get] at hd
    obtain ⟨b, hb, rfl⟩ := Option.map_eq_some_iff.mp hd
    have A := h.one k b hb
    exact ⟨A.w1.1, A.w1.2, fun x hx => by have := A.S _ (A.ws x hx); omega⟩
section
variable {P : Program} {w : World} {K : PySem.W.Frag} {mg : Str → Option Value} {base : Heap} {CS CT : Addr} {f : Addr} {cdv : Value} {A : Around} {outer : List Env} {s0 : Shared} {H0 : Hp} {E : XK}
theorem st_turns (hr : Room 8 (LX P w K mg base f cdv A outer s0 H0 E).A) (X : TxtT K mg CT CS) (T : TxtR mg) (c_Shares_next_work : Met P w K mg base 1 CS "next_work" (spNext CS CT) []) (pF : PS (LX P w K mg base f cdv A outer s0 H0 E) (nth bodyT 2) (tFair CS CT)) :
    PS (LX P w K mg base f cdv A outer s0 H0 E) (nth bodyB 5) (tTurns CS CT) := by
  refine ps_imp (t := _) (ps_for PassesOwn.never rfl (pi_range1 (by rfl) T.range (pa_cons pe_int pa_nil)) (pg_name (i := 19) scLaw.nd rfl (Or.inl rfl))
  (pss_cons (ps_asg (pe_mt0 c_Shares_next_work hr (by decide) (pv 15)) (pg_tup (by rfl) (pgs_cons (pg_name (i := 7) scLaw.nd rfl (Or.inl rfl)) (pgs_cons (pg_name (i := 10) scLaw.nd rfl (Or.inl rfl)) (pgs_cons (pg_name (i := 14) scLaw.nd rfl (Or.inl rfl)) pgs_nil)))))
  (pss_cons (ps_asg (pe_tup (pa_cons (pe_op op_add (pe_dget (hu_of hr) (pv 17) (pv 7) (fun _ _ => rfl)) (pv 10)) (pa_cons (pe_op op_add (pe_dget (hu_of hr) (pv 18) (pv 7) (fun _ _ => rfl)) pe_int) pa_nil))) (pg_tup (by rfl) (pgs_cons (pg_sub (pv 17) (pv 7) (set_dict (hu_of hr))) (pgs_cons (pg_sub (pv 18) (pv 7) (set_dict (hu_of hr))) pgs_nil))))
  (pss_one pF)))) ?_
  rintro D σ H ⟨G, os, R, ho, ho1, h0, k⟩
  fail "go"
  refine for_rangeA (fun i σ H => Hold (Ok3 CS CT G i os R σ H)) (.mk h0) (fun i σ H D2 hi h hD2 => ?_) (fun σ H h => k _ _ h.out)
  obtain ⟨x, y, z, bs, pt, ⟨v2, v4, v5, v6, v7, v8, v9, v10, v11, v12, v13, v14, v19, v20, v21, v22, v23, v24, rfl⟩, hnm, hB, hL⟩ := h.out
  clear h h0
  have h40 : (40 : Int).toNat = 40 := rfl
  rw [h40] at hi
  have hlen : ∀ j b, aget bs j = some b → b.t.ws ≠ [] := fun j b hb z => by
    have A := hB.one j b hb
    have h1 := A.l
    have h2 := A.n
    rw [z, List.length_nil] at h1
    omega
  have hbn : (bs.map (·.1)).Nodup := by rw [hnm]; exact ho.1
  have hbz : bs.length < 60 := by
    have := congrArg List.length hnm
    rw [List.length_map, List.length_map] at this
    have := ho.2.1
    omega
  dsimp only [BL] at hL
  fail "go"
  refine ⟨G.b, G.bd, G.btd, bT bs, pt, (G.d, dD x y z) :: (G.wd, .dK (os.map (kk tnV))) :: (G.zd, .dK (bs.map (kk slV))) :: (G.vd, .dK (bs.map (kk svV))) :: (G.md, .dK (bs.map (kk nV))) :: (bs.map slO ++ (osL os ++ R)), rfl, by unfold ShL; (refine Led.le hL (fun a_ => ?_); simp only [cnt_nil, cnt_cons, cnt_app, List.map_append, List.map_cons, List.map_nil, List.flatMap_append, List.flatMap_cons, List.flatMap_nil, List.append_assoc, List.cons_append, List.nil_append]; omega), hB.sok ho hnm, fun H hemp hL => ?_, fun p1 q1 k1 d size body rest H hd hws hle hL => ?_⟩
  · exfalso
    cases hb : bs with
    | nil =>
      have := congrArg List.length hnm
      rw [List.length_map, List.length_map, hb, List.length_nil] at this
      omega
    | cons b r =>
      have h1 : aget bs b.1 = some b.2 := by rw [hb, aget, if_pos rfl]
      exact hlen _ _ h1 (hemp b.1 b.2.t (by rw [bT_get, h1]; rfl))
  · rw [bT_get] at hd
    obtain ⟨b, hb, rfl⟩ := Option.map_eq_some_iff.mp hd
    have A1 := hB.one k1 b hb
    have hsz := A1.S _ (A1.ws (q1, size, body) (by rw [hws]; exact .head _))
    dsimp only at hsz
    have hB2 := hB.serve hb hws fun j c hc => by
      rcases hle j c.t (by rw [bT_get, hc]; rfl) (hlen j c hc) with h | h
      · exact Int.le_of_lt h
      · exact Int.le_of_eq h.1
    generalize hb2 : ({ b with t := nextT b.t size rest, sv := b.sv + size, n := b.n + 1 } : BD) = b2 at hB2
    have lv1 : valV (bs.map (kk svV)) (Sum.inr k1) = some (.int b.sv) := by rw [kk_val, hb]; rfl
    have ln1 : valV (bs.map (kk nV)) (Sum.inr k1) = some (.int (b.n : Int)) := by rw [kk_val, hb]; rfl
    have p2 : putK (bs.map (kk svV)) (.inr k1) (V.int (b.sv + size)) = (aput bs k1 b2).map (kk svV) := by
      rw [← kk_put (vo := svV) hbn, ← hb2]; rfl
    have p3 : putK (bs.map (kk nV)) (.inr k1) (V.int ((b.n : Int) + 1)) = (aput bs k1 b2).map (kk nV) := by
      rw [← kk_put (vo := nV) hbn, ← hb2]; rfl
    have hz2 : (bs.map (kk svV)).length < sizeLine ∧ (bs.map (kk nV)).length < sizeLine := by
      rw [List.length_map, List.length_map]
      exact ⟨small60 hbz, small60 hbz⟩
    replace hL : Led H ((p1, .tup [.str k1, .int size, .int body]) :: (G.vd, .dK (bs.map (kk svV))) :: (G.md, .dK (bs.map (kk nV))) :: (G.d, dD x y z) :: (G.wd, .dK (os.map (kk tnV))) :: (G.zd, .dK (bs.map (kk slV))) :: (ShL CS CT G.b G.bd G.btd (aput (bT bs) k1 (nextT b.t size rest)) b.t.pt ++ (bs.map slO ++ (osL os ++ R)))) := by
      (refine Led.le hL (fun a_ => ?_); simp only [cnt_nil, cnt_cons, cnt_app, List.map_append, List.map_cons, List.map_nil, List.flatMap_append, List.flatMap_cons, List.flatMap_nil, List.append_assoc, List.cons_append, List.nil_append]; omega)
    fail "go"
    refine k_dputS hL ⟨2, rfl⟩ hz2.1 p2 (by fail "up") fun H hL => ?_
    dsimp only [List.set] at hL
    fail "go"
    refine k_dputS hL ⟨3, rfl⟩ hz2.2 p3 (by fail "up") fun H hL => ?_
    dsimp only [List.set] at hL
    fail "go"
    have hnm2 : (aput bs k1 b2).map (·.1) = os.map (·.1) := by rw [aput_names_in (aget_some hb), hnm]
    have em1 : (aput bs k1 b2).map (kk slV) = bs.map (kk slV) := aput_same hb (by rw [← hb2]; rfl)
    have em2 : (aput bs k1 b2).map slO = bs.map slO := aput_same hb (by rw [← hb2]; rfl)
    have em3 : bT (aput bs k1 b2) = aput (bT bs) k1 (nextT b.t size rest) := by rw [bT_put, ← hb2]
    refine ⟨G, os, i + 1, R, ho, ⟨x, y, z, aput bs k1 b2, b.t.pt, ⟨_, _, _, _, _, _, _, _, _, _, _, _, _, _, _, _, _, _, rfl⟩, hnm2, hB2, ?_⟩, fun σ' H' h' => hD2.nx _ _ (.mk h')⟩
    unfold BL
    rw [em1, em2, em3]
    unfold ShL at hL
    (refine Led.le hL (fun a_ => ?_); simp only [cnt_nil, cnt_cons, cnt_app, List.map_append, List.map_cons, List.map_nil, List.flatMap_append, List.flatMap_cons, List.flatMap_nil, List.append_assoc, List.cons_append, List.nil_append]; omega)
end
end Sd


set_option linter.unusedVariables false
namespace Sd
open PySem L2 LamX
open C8 (Cal Met Mak pe_c pe_mk pe_mt pe_mt0 tCut)
def lamsS : Stmt → List Expr
  | .Assign _ (.List es _) _ => es
  | _ => []
def lamAt (i : Nat) : Expr := ((defBody sLaw).flatMap lamsS).getD i (.Name "" ⟨0, 0, 0, 0⟩)
def lamBody (e : Expr) : Expr := match e with
  | .Lambda _ b _ _ => b
  | _ => e
def lamArgs (e : Expr) : Arguments := match e with
  | .Lambda a _ _ _ => a
  | _ => { posonlyargs := [], args := [], vararg := none, kwonlyargs := [], kw_defaults := [], kwarg := none, defaults := [] }
def lamScope (e : Expr) : Scope := match e with
  | .Lambda _ _ s _ => s
  | _ => { kind := .function, names := [], isGenerator := false, isCoroutine := false }
set_option linter.unusedSimpArgs false
set_option pp.deepTerms false
set_option pp.deepTerms.threshold 12
set_option hygiene false
local macro_rules | `(tactic| fail "nd") => `(tactic| first | assumption | decide +kernel)
local macro_rules | `(tactic| fail "ix") => `(tactic| first | exact ⟨0, rfl⟩ | exact ⟨1, rfl⟩ | exact ⟨2, rfl⟩ | exact ⟨3, rfl⟩ | exact ⟨4, rfl⟩ | exact ⟨5, rfl⟩ | exact ⟨6, rfl⟩ | exact ⟨7, rfl⟩ | exact ⟨8, rfl⟩ | exact ⟨9, rfl⟩ | exact ⟨10, rfl⟩ | exact ⟨11, rfl⟩ | exact ⟨12, rfl⟩ | exact ⟨13, rfl⟩ | exact ⟨14, rfl⟩ | exact ⟨15, rfl⟩ | exact ⟨16, rfl⟩ | exact ⟨17, rfl⟩ | exact ⟨18, rfl⟩ | assumption)
local macro_rules | `(tactic| fail "up") => `(tactic| first | exact ⟨0, rfl, rfl⟩ | exact ⟨1, rfl, rfl⟩ | exact ⟨2, rfl, rfl⟩ | exact ⟨3, rfl, rfl⟩ | exact ⟨4, rfl, rfl⟩ | exact ⟨5, rfl, rfl⟩ | exact ⟨6, rfl, rfl⟩ | exact ⟨7, rfl, rfl⟩ | exact ⟨8, rfl, rfl⟩ | exact ⟨9, rfl, rfl⟩ | exact ⟨10, rfl, rfl⟩ | exact ⟨11, rfl, rfl⟩ | exact ⟨12, rfl, rfl⟩ | exact ⟨13, rfl, rfl⟩ | exact ⟨14, rfl, rfl⟩ | exact ⟨15, rfl, rfl⟩ | exact ⟨16, rfl, rfl⟩ | assumption)
local macro_rules | `(tactic| fail "lkF") => `(tactic| first | assumption | exact fz_at 0 (by fail "nd") rfl rfl | exact fz_at 1 (by fail "nd") rfl rfl | exact fz_at 2 (by fail "nd") rfl rfl | exact fz_at 3 (by fail "nd") rfl rfl | exact fz_at 4 (by fail "nd") rfl rfl | exact fz_at 5 (by fail "nd") rfl rfl | exact fz_at 6 (by fail "nd") rfl rfl | exact fz_at 7 (by fail "nd") rfl rfl)
local macro_rules | `(tactic| fail "lkD") => `(tactic| first | assumption | exact dz_at 0 (by fail "nd") rfl rfl | exact dz_at 1 (by fail "nd") rfl rfl | exact dz_at 2 (by fail "nd") rfl rfl | exact dz_at 3 (by fail "nd") rfl rfl | exact dz_at 4 (by fail "nd") rfl rfl)
local macro_rules | `(tactic| fail "ptF") => `(tactic| first | assumption | exact fz_put 0 (by fail "nd") rfl (Nat.le_of_ble_eq_true rfl) | exact fz_put 1 (by fail "nd") rfl (Nat.le_of_ble_eq_true rfl) | exact fz_put 2 (by fail "nd") rfl (Nat.le_of_ble_eq_true rfl) | exact fz_put 3 (by fail "nd") rfl (Nat.le_of_ble_eq_true rfl) | exact fz_put 4 (by fail "nd") rfl (Nat.le_of_ble_eq_true rfl) | exact fz_put 5 (by fail "nd") rfl (Nat.le_of_ble_eq_true rfl) | exact fz_put 6 (by fail "nd") rfl (Nat.le_of_ble_eq_true rfl) | exact fz_put 7 (by fail "nd") rfl (Nat.le_of_ble_eq_true rfl) | exact fz_new (by decide +kernel) rfl)
local macro_rules | `(tactic| fail "ptD") => `(tactic| first | assumption | exact dz_put 0 (by fail "nd") rfl (Nat.le_of_ble_eq_true rfl) | exact dz_put 1 (by fail "nd") rfl (Nat.le_of_ble_eq_true rfl) | exact dz_put 2 (by fail "nd") rfl (Nat.le_of_ble_eq_true rfl) | exact dz_put 3 (by fail "nd") rfl (Nat.le_of_ble_eq_true rfl) | exact dz_put 4 (by fail "nd") rfl (Nat.le_of_ble_eq_true rfl))
local macro_rules | `(tactic| fail "sz") => `(tactic| first | assumption | exact (Nat.le_of_ble_eq_true rfl) | omega | decide)
local macro_rules | `(tactic| fail "sd") => `(tactic| first | rfl | assumption | decide | omega | (dsimp only; first | decide | omega) | exact .inr ⟨by decide, by decide⟩ | exact .inl ⟨by decide, by decide⟩ | exact ⟨by omega, by omega⟩ | exact .inl ⟨by omega, by omega⟩ | exact .inr ⟨by omega, by omega⟩ | exact ⟨by omega, by omega, by omega⟩)
local macro_rules | `(tactic| fail "cl") => `(tactic| (clear hH; dsimp only [List.set, List.cons_append, List.nil_append, List.append] at hL))
local macro_rules | `(tactic| fail "gn") => `(tactic| (intro p hp; generalize hH : upd H p _ = H; replace hL := Led.newH hL hp hH; clear hH hp))
local macro_rules | `(tactic| fail "gup") => `(tactic| (generalize hH : upd H _ _ = H; replace hL := Led.upU hL (by fail "up") hH; fail "cl"))
local macro_rules | `(tactic| fail "gmk") => `(tactic| (intro x dx hx hd ne; generalize hH : upd (upd H dx _) x _ = H; replace hL := Led.made hL hx hd ne hH; clear hH hx hd ne))
local macro_rules | `(tactic| fail "v") => `(tactic| refine ⟨_, rfl, ?_⟩)
local macro_rules | `(tactic| fail "i2") => `(tactic| refine ⟨_, _, rfl, rfl, ?_⟩)
local macro_rules | `(tactic| fail "go1") => `(tactic| first
  | refine ⟨_, rfl, ?_⟩
  | refine ⟨_, _, rfl, rfl, ?_⟩
  | refine ⟨_, _, rfl, ?_⟩
  | refine iteT ?_
  | refine iteF ?_
  | refine k_fld hL (by fail "ix") (by assumption) (by assumption) (by fail "lkF") ?_
  | refine k_dgetS hL (by fail "ix") (by fail "lkD") ?_
  | refine k_dgetI hL (by fail "ix") (by assumption) ?_
  | refine k_ixL hL (by fail "ix") (by first | rfl | assumption) ?_
  | refine k_ixT hL (by fail "ix") (by first | rfl | assumption) ?_
  | refine k_tyL hL (by fail "ix") ?_
  | refine k_isd hL (by fail "ix") ?_
  | (refine And.intro (by fail "sz") ?_; fail "gn")
  | refine And.intro (by fail "sd") ?_
  | fail "gn"
  | refine k_meth hL (by fail "ix") (by first | assumption | exact fz_no (by decide +kernel)) ?_
  | refine k_gtup hL (by fail "ix") rfl ?_
  | (refine k_popI hL (by fail "ix") (by assumption) ?_; fail "gup")
  | (refine k_listD hL (by fail "ix") ?_; fail "gn")
  | (refine ⟨_, _, _, _, rfl, rfl, hL.at (by fail "ix"), rfl, ?_⟩; fail "gup")
  | (refine ⟨_, _, _, rfl, rfl, hL.at (by fail "ix"), (by fail "sz"), ?_⟩; fail "gup")
  | (refine ⟨_, _, _, _, rfl, hL.at (by fail "ix"), by assumption, by assumption, Nat.lt_of_le_of_lt fz_len (by decide), ?_⟩; generalize hH : upd H _ _ = H; replace hL := Led.upF hL (by fail "up") (by fail "ptF") hH; fail "cl")
  | (refine ⟨_, _, hL.at (by fail "ix"), Nat.lt_of_le_of_lt fz_len (by decide), ?_⟩; generalize hH : upd H _ _ = H; replace hL := Led.upF hL (by fail "up") (by fail "ptF") hH; fail "cl")
  | (refine k_dputS hL (by fail "ix") (Nat.lt_of_le_of_lt dz_len (by decide)) (by fail "ptD") (by fail "up") ?_; clear hL; intro H hL; dsimp only [List.set, List.cons_append, List.nil_append, List.append] at hL)
  | refine k_lenL2 hL (by fail "ix") ?_
  | refine k_lenT2 hL (by fail "ix") ?_
  | refine .inl ⟨_, rfl, ?_⟩
  | refine .inr ⟨_, rfl, ?_⟩)
local macro_rules | `(tactic| fail "go") => `(tactic| repeat fail "go1")
local macro_rules | `(tactic| fail "pm") => `(tactic| (refine Led.le hL (fun a_ => ?_); simp only [cnt_nil, cnt_cons, cnt_app, List.map_append, List.map_cons, List.map_nil, List.flatMap_append, List.flatMap_cons, List.flatMap_nil, List.append_assoc, List.cons_append, List.nil_append]; omega))

theorem pe_mkN {X : Cx} {k j : Nat} {x : Str} {C : Addr} {sp : Sp} {dvs : List V} {p pos : Pos} (c : Mak X.prog X.w X.K X.mg X.base k x C sp dvs) (hr : Room j X.A) (hk : k + 1 ≤ j) (hg : Gl X x) (hdb : (x == ("__debug__" : Str)) = false := by decide) : PE X (.Call (.Name x p) [] [] pos) (tMake C sp dvs C8.E0 tNil) := by
  obtain ⟨f, fd, ps, ds, M, F, hm, b, d⟩ := c.ex
  exact pe_make0 M F (hr.mono hk) hg hm b d C8.pass0 hdb
theorem nsc (i : Fin 5) : NdefX.NScope ["fresh"] [] ["fresh"] (lamScope (lamAt i.1)) := NdefX.nscope_by (by revert i; decide +kernel)
/-- a lambda that raises: the captured name holds shares with the one tenant a -/
def tlF (CS CT CE fs : Addr) : List (Option V) → Hp → VK → XK → Prop := fun ws H _ E => ws = [some (.ref fs)] ∧ ∃ (ds td : Addr) (d : TD) (R : Lg), Led H (ShL CS CT fs ds td [("a", d)] 0 ++ R) ∧ E (.ref CE) none H
section
variable {P : Program} {w : World} {K : PySem.W.Frag} {mg : Str → Option Value} {base : Heap} {CS CT CE : Addr}
theorem lok1 {f c' fs : Addr} {q : Str} {cl : List (Str × Addr)} (c_X : MetX P w K mg base 1 CS "add" (spAddX CS CT CE) []) : LOkC P w K mg base 6 f ⟨"<lambda>", q, lamArgs (lamAt 0), [], lamScope (lamAt 0), cl, c'⟩ (lamBody (lamAt 0)) ["fresh"] (tlF CS CT CE fs) := by
  refine lokC_of (nsc 0) (fun _ _ _ => rfl) fun A outer s H ws Q E hr h => ⟨_, pe_mtX c_X hr (by decide) (takes_of rfl rfl rfl (E := E) rfl) (pv 0) (pa_cons pe_str (pa_cons pe_int pa_nil)), ?_⟩
  obtain ⟨rfl, ds, td, d, R, hL, k⟩ := h
  have hL2 := hL
  dsimp only [ShL] at hL2
  refine ⟨_, rfl, ?_⟩
  refine ⟨fs, _, _, rfl, hL2.at ⟨0, rfl⟩, fz_no (by decide +kernel), ?_⟩
  exact ⟨fs, ds, td, _, 0, "a", 1, R, rfl, hL, .inl (.head _), k⟩
theorem lok2 {f c' fs : Addr} {q : Str} {cl : List (Str × Addr)} (c_X : MetX P w K mg base 1 CS "add" (spAddX CS CT CE) []) : LOkC P w K mg base 6 f ⟨"<lambda>", q, lamArgs (lamAt 1), [], lamScope (lamAt 1), cl, c'⟩ (lamBody (lamAt 1)) ["fresh"] (tlF CS CT CE fs) := by
  refine lokC_of (nsc 1) (fun _ _ _ => rfl) fun A outer s H ws Q E hr h => ⟨_, pe_mtX c_X hr (by decide) (takes_of rfl rfl rfl (E := E) rfl) (pv 0) (pa_cons pe_str (pa_cons pe_int pa_nil)), ?_⟩
  obtain ⟨rfl, ds, td, d, R, hL, k⟩ := h
  have hL2 := hL
  dsimp only [ShL] at hL2
  refine ⟨_, rfl, ?_⟩
  refine ⟨fs, _, _, rfl, hL2.at ⟨0, rfl⟩, fz_no (by decide +kernel), ?_⟩
  exact ⟨fs, ds, td, _, 0, "b", 0, R, rfl, hL, .inr (by decide), k⟩
theorem lok3 {f c' fs : Addr} {q : Str} {cl : List (Str × Addr)} (c_X : MetX P w K mg base 1 CS "add" (spAddX CS CT CE) []) : LOkC P w K mg base 6 f ⟨"<lambda>", q, lamArgs (lamAt 2), [], lamScope (lamAt 2), cl, c'⟩ (lamBody (lamAt 2)) ["fresh"] (tlF CS CT CE fs) := by
  refine lokC_of (nsc 2) (fun _ _ _ => rfl) fun A outer s H ws Q E hr h => ⟨_, pe_mtX c_X hr (by decide) (takes_of rfl rfl rfl (E := E) rfl) (pv 0) (pa_cons pe_str (pa_cons pe_int pa_nil)), ?_⟩
  obtain ⟨rfl, ds, td, d, R, hL, k⟩ := h
  have hL2 := hL
  dsimp only [ShL] at hL2
  refine ⟨_, rfl, ?_⟩
  refine ⟨fs, _, _, rfl, hL2.at ⟨0, rfl⟩, fz_no (by decide +kernel), ?_⟩
  exact ⟨fs, ds, td, _, 0, "b", 11, R, rfl, hL, .inr (by decide), k⟩
theorem lok4 {f c' fs : Addr} {q : Str} {cl : List (Str × Addr)} (c_X : MetX P w K mg base 1 CS "put" (spPutX CS CT CE) []) : LOkC P w K mg base 6 f ⟨"<lambda>", q, lamArgs (lamAt 3), [], lamScope (lamAt 3), cl, c'⟩ (lamBody (lamAt 3)) ["fresh"] (tlF CS CT CE fs) := by
  refine lokC_of (nsc 3) (fun _ _ _ => rfl) fun A outer s H ws Q E hr h => ⟨_, pe_mtX c_X hr (by decide) (takes_of rfl rfl rfl (E := E) rfl) (pv 0) (pa_cons pe_str (pa_cons pe_int (pa_cons pe_int pa_nil))), ?_⟩
  obtain ⟨rfl, ds, td, d, R, hL, k⟩ := h
  have hL2 := hL
  dsimp only [ShL] at hL2
  refine ⟨_, rfl, ?_⟩
  refine ⟨fs, _, _, rfl, hL2.at ⟨0, rfl⟩, fz_no (by decide +kernel), ?_⟩
  exact ⟨fs, ds, td, _, 0, "z", 1, 0, R, rfl, hL, .inl (by show ("z" : Str) ∉ (["a"] : List Str); decide +kernel), k⟩
theorem lok5 {f c' fs : Addr} {q : Str} {cl : List (Str × Addr)} (c_X : MetX P w K mg base 1 CS "put" (spPutX CS CT CE) []) : LOkC P w K mg base 6 f ⟨"<lambda>", q, lamArgs (lamAt 4), [], lamScope (lamAt 4), cl, c'⟩ (lamBody (lamAt 4)) ["fresh"] (tlF CS CT CE fs) := by
  refine lokC_of (nsc 4) (fun _ _ _ => rfl) fun A outer s H ws Q E hr h => ⟨_, pe_mtX c_X hr (by decide) (takes_of rfl rfl rfl (E := E) rfl) (pv 0) (pa_cons pe_str (pa_cons pe_int (pa_cons pe_int pa_nil))), ?_⟩
  obtain ⟨rfl, ds, td, d, R, hL, k⟩ := h
  have hL2 := hL
  dsimp only [ShL] at hL2
  refine ⟨_, rfl, ?_⟩
  refine ⟨fs, _, _, rfl, hL2.at ⟨0, rfl⟩, fz_no (by decide +kernel), ?_⟩
  exact ⟨fs, ds, td, _, 0, "a", 0, 0, R, rfl, hL, .inr (by decide), k⟩
end
abbrev tail : List Stmt := [nth (defBody sLaw) 1, nth (defBody sLaw) 2, nth (defBody sLaw) 3, nth (defBody sLaw) 4]
theorem hfr (i : Fin 5) : ∀ y ∈ (lamScope (lamAt i.1)).names, y.2 = .free → (defScope sLaw).names.lookup y.1 = some .cell := by revert i; decide +kernel
theorem hfr2 : ∀ y ∈ (["fresh"] : List Str), (y, NameKind.free) ∈ (lamScope (lamAt 0)).names := by decide +kernel
def clL (X : Cx) : List (Str × Addr) := cloFrom X.env.cells (lamScope (lamAt 0)).names []
def tEnd (PL : Addr) (qn : Str) : TS := fun D σ H => (∃ v0 v1 v2 v3 v4 v5 v6 v7 v8 v9 v10 v11 v12 v13 v14 v15 v16 v17 v18 v19 v20 v21 v22 v23 v24, σ = [v0, v1, v2, v3, v4, v5, v6, v7, v8, v9, v10, v11, v12, v13, v14, v15, v16, v17, v18, v19, v20, v21, v22, v23, v24]) ∧ TabS H PL qn ∧ ∀ H', D.rt (.bl true) H'
section
variable {P : Program} {w : World} {K : PySem.W.Frag} {mg : Str → Option Value} {base : Heap} {CS CT CE : Addr} {f cL PL : Addr} {A : Around} {outer : List Env} {s0 : Shared} {H0 : Hp} {E : XK}
theorem st_end (hr : Room 8 (LX P w K mg base f (.ref cL) A outer s0 H0 E).A) (X : TxtT K mg CT CS) (TE : ExcT K mg "QueueError" CE) (TB : LamX.TabB base mg cL PL) {gT : Addr} {fdT : FuncData} (FT : Fun K "_law_told" "_law_told" sTold gT fdT) (hbT : L2.Binds K fdT ["what"] []) (hmT : mg "_law_told" = some (.ref gT))
    (c_Shares : Mak P w K mg base 1 "Shares" CS (spSInit CS CT) []) (c_Tenant : Mak P w K mg base 1 "Tenant" CT (spTInit CT) []) (c_Shares_add : Met P w K mg base 3 CS "add" (spAdd CS CT) []) (c_Shares_next_work : Met P w K mg base 1 CS "next_work" (spNext CS CT) [])
    (l1 : MetX P w K mg base 1 CS "add" (spAddX CS CT CE) []) (l2 : MetX P w K mg base 1 CS "put" (spPutX CS CT CE) []) :
    PSs (LX P w K mg base f (.ref cL) A outer s0 H0 E) tail (tEnd PL ((LX P w K mg base f (.ref cL) A outer s0 H0 E).env.qual ++ "<lambda>")) := by
  refine pss_imp (t := _) (pss_cons (ps_set (i := 22) scLaw.nd rfl (Or.inr rfl) (pe_mkN c_Shares hr (by decide) (by rfl)))
    (pss_cons (ps_expr (pe_mt c_Shares_add hr (by decide) (pv 22) (pa_cons pe_str (pa_cons pe_int pa_nil))))
    (pss_cons (ps_set (i := 23) scLaw.nd rfl (Or.inl rfl) (pe_lst (pa_cons (pe_lamvC TB rfl rfl rfl (hfr 0)) (pa_cons (pe_lamvC TB rfl rfl rfl (hfr 1)) (pa_cons (pe_lamvC TB rfl rfl rfl (hfr 2)) (pa_cons (pe_lamvC TB rfl rfl rfl (hfr 3)) (pa_cons (pe_lamvC TB rfl rfl rfl (hfr 4)) pa_nil)))))))
    (pss_one (ps_ret (pe_and (pe_cmpR (op_eqP hr.units) (pe_lcE (own := [("f", 24)]) (g := gName 24) (fr := ["fresh"]) (js := [22]) (lsc := lamScope (lamAt 0)) (fun _ => rfl) (by rfl) scLaw.nd (pi_list (pv 23)) (blkOk_by (own := [("f", 24)]) (N := NL) (sc := defScope sLaw) (by decide +kernel))
      (fun _ _ _ _ I => NdefX.Caps.made I.ok (fun y hy e => .inl (hfr 0 y hy e)) hfr2 rfl) (fun _ _ _ _ _ => pg_name (i := 24) scLaw.nd rfl (Or.inl rfl))
      (fun ws s H C cl fp gd => pts_one (pt_cmpR op_ne (pe_toldB (k := 6) (i := 24) FT scTold rfl hbT hmT rfl TE.g rfl (Or.inl rfl) (fun _ => rfl) (hr.mono (by decide)) gd (by rfl) rfl (Or.inl rfl)) pe_str (nomark _)))) (pe_lst pa_nil) (nomark _))
      (pe_and (pe_cmpR op_isN (pe_mt0 c_Shares_next_work hr (by decide) (pv 22)) pe_non (nomark _)) (pe_one (pe_cmpR (op_eqP hr.units) (pe_fld (pe_mk c_Tenant hr (by decide) (by rfl) (pa_cons pe_int pa_nil)) rfl) (pe_lst pa_nil) (nomark _)))))))))) ?_
  rintro D σ H ⟨⟨v0, v1, v2, v3, v4, v5, v6, v7, v8, v9, v10, v11, v12, v13, v14, v15, v16, v17, v18, v19, v20, v21, v22, v23, v24, rfl⟩, tab, k⟩
  obtain ⟨R0, hL, hT⟩ := tab_led tab
  intro x dx hx hd ne
  generalize hH : upd (upd H dx _) x _ = H
  replace hL := Led.made hL hx hd ne hH
  clear hH hx hd ne
  refine ⟨x, dx, R0, rfl, hL, fun td H hL => ⟨rfl, ?_⟩⟩
  have hL1 := hL
  dsimp only [ShL] at hL1
  refine ⟨_, rfl, x, _, _, rfl, hL1.at ⟨0, rfl⟩, fz_no (by decide +kernel), ?_⟩
  refine ⟨x, dx, td, [], 0, "a", 1, R0, rfl, hL, by decide +kernel, by decide, .nil, by decide, by decide, fun d H e1 e2 e3 hL => ?_⟩
  have hnt : ∀ y ∈ ShL CS CT x dx td [("a", d)] 0, ∀ ps, y.2 ≠ .tbl ps := fun y hy ps h => by
    simp only [ShL, tsL, TL, e2, List.flatMap_cons, List.flatMap_nil, List.map_nil, List.append_nil, List.mem_cons, List.not_mem_nil, or_false] at hy
    rcases hy with rfl | rfl | rfl | rfl <;> cases h
  clear hL1
  have T0 := hT _ hL.drop
  have hL0 : Led H (ShL CS CT x dx td [("a", d)] 0) := hL.sub (List.sublist_append_left _ _)
  refine ⟨T0, fun f1 c1 H1 eN1 T1 n1 hf1 hc1 => ?_⟩
  have hL1 : Led H1 (ShL CS CT x dx td [("a", d)] 0) := led_ext hL0 hnt eN1
  refine ⟨T1, fun f2 c2 H2 eN2 T2 n2 hf2 hc2 => ?_⟩
  have hL2 : Led H2 (ShL CS CT x dx td [("a", d)] 0) := led_ext hL1 hnt eN2
  refine ⟨T2, fun f3 c3 H3 eN3 T3 n3 hf3 hc3 => ?_⟩
  have hL3 : Led H3 (ShL CS CT x dx td [("a", d)] 0) := led_ext hL2 hnt eN3
  refine ⟨T3, fun f4 c4 H4 eN4 T4 n4 hf4 hc4 => ?_⟩
  have hL4 : Led H4 (ShL CS CT x dx td [("a", d)] 0) := led_ext hL3 hnt eN4
  refine ⟨T4, fun f5 c5 H5 eN5 T5 n5 hf5 hc5 => ?_⟩
  have hL5 : Led H5 (ShL CS CT x dx td [("a", d)] 0) := led_ext hL4 hnt eN5
  have keep : ∀ {H H' : Hp} {f : Addr} {F : NdefX.NF} {b : Expr}, LamX.ExtN H H' → H f = some (LamO f F b) → H' f = some (LamO f F b) := fun e h => e _ _ h fun ps z => by cases z
  have keepC : ∀ {H H' : Hp} {c : Addr} {q : Str}, LamX.ExtN H H' → H c = some (CodeO c q) → H' c = some (CodeO c q) := fun e h => e _ _ h codeO_ne
  replace hf1 := keep eN5 (keep eN4 (keep eN3 (keep eN2 hf1)))
  replace hf2 := keep eN5 (keep eN4 (keep eN3 hf2))
  replace hf3 := keep eN5 (keep eN4 hf3)
  replace hf4 := keep eN5 hf4
  replace hc1 := keepC eN5 (keepC eN4 (keepC eN3 (keepC eN2 hc1)))
  replace hc2 := keepC eN5 (keepC eN4 (keepC eN3 hc2))
  replace hc3 := keepC eN5 (keepC eN4 hc3)
  replace hc4 := keepC eN5 hc4
  obtain ⟨Z, hL, hZ⟩ := led_moreX [f1, f2, f3, f4, f5, c1, c2, c3, c4, c5] _ hL5
  clear hL0 hL1 hL2 hL3 hL4 hL5 T0 T1 T2 T3 T4 T5 n1 n2 n3 n4 n5 tab hT
  replace hf1 := hZ f1 (by simp) _ hf1
  replace hf2 := hZ f2 (by simp) _ hf2
  replace hf3 := hZ f3 (by simp) _ hf3
  replace hf4 := hZ f4 (by simp) _ hf4
  replace hf5 := hZ f5 (by simp) _ hf5
  replace hc1 := hZ c1 (by simp) _ hc1
  replace hc2 := hZ c2 (by simp) _ hc2
  replace hc3 := hZ c3 (by simp) _ hc3
  replace hc4 := hZ c4 (by simp) _ hc4
  replace hc5 := hZ c5 (by simp) _ hc5
  clear hZ eN1 eN2 eN3 eN4 eN5 keep keepC
  refine ⟨Nat.le_of_ble_eq_true rfl, fun pb hpb => ?_⟩
  generalize hH : upd H5 pb _ = H
  replace hL := Led.newH hL hpb hH
  clear hH hpb
  have hxs : ∀ (i : Nat) (v : V), [V.ref f1, .ref f2, .ref f3, .ref f4, .ref f5][i]? = some v → v = .ref f1 ∨ v = .ref f2 ∨ v = .ref f3 ∨ v = .ref f4 ∨ v = .ref f5 := fun i v h => by
    have := List.mem_of_getElem? h
    simpa using this
  refine ⟨_, rfl, pb, rfl, ⟨_, .of (hL.at ⟨0, rfl⟩)⟩, fun D1 hD1 => lc_list (K := K) (te := fun _ _ _ => False) (g := gName 24) (vs := [24]) (a := pb) (xs := [.ref f1, .ref f2, .ref f3, .ref f4, .ref f5]) (fun i H => Hold (Led H ((D1, .lst []) :: (pb, .lst [.ref f1, .ref f2, .ref f3, .ref f4, .ref f5]) :: (Z ++ ShL CS CT x dx td [("a", d)] 0)))) (.mk (hL.new hD1)) (fun i H _ h => .of (h.out.at ⟨1, rfl⟩)) (fun i v H hi h => ?_) (fun H h => ?_)⟩
  · clear hL
    have hL := h.out
    clear h
    rcases hxs i v hi with rfl | rfl | rfl | rfl | rfl
    · refine ⟨rfl, ?_⟩
      refine ⟨f1, _, _, tlF CS CT CE x, rfl, hf1 _ hL.tail.tail, hc1 _ hL.tail.tail, rfl, lok1 l1, ⟨rfl, dx, td, d, (D1, .lst []) :: (pb, .lst [.ref f1, .ref f2, .ref f3, .ref f4, .ref f5]) :: Z, by (refine Led.le hL (fun a_ => ?_); simp only [cnt_nil, cnt_cons, cnt_app, List.map_append, List.map_cons, List.map_nil, List.flatMap_append, List.flatMap_cons, List.flatMap_nil, List.append_assoc, List.cons_append, List.nil_append]; omega), true, TE.em, fun _ => ?_, fun z => by cases z⟩⟩
      fail "go"
      exact .mk hL
    · refine ⟨rfl, ?_⟩
      refine ⟨f2, _, _, tlF CS CT CE x, rfl, hf2 _ hL.tail.tail, hc2 _ hL.tail.tail, rfl, lok2 l1, ⟨rfl, dx, td, d, (D1, .lst []) :: (pb, .lst [.ref f1, .ref f2, .ref f3, .ref f4, .ref f5]) :: Z, by (refine Led.le hL (fun a_ => ?_); simp only [cnt_nil, cnt_cons, cnt_app, List.map_append, List.map_cons, List.map_nil, List.flatMap_append, List.flatMap_cons, List.flatMap_nil, List.append_assoc, List.cons_append, List.nil_append]; omega), true, TE.em, fun _ => ?_, fun z => by cases z⟩⟩
      fail "go"
      exact .mk hL
    · refine ⟨rfl, ?_⟩
      refine ⟨f3, _, _, tlF CS CT CE x, rfl, hf3 _ hL.tail.tail, hc3 _ hL.tail.tail, rfl, lok3 l1, ⟨rfl, dx, td, d, (D1, .lst []) :: (pb, .lst [.ref f1, .ref f2, .ref f3, .ref f4, .ref f5]) :: Z, by (refine Led.le hL (fun a_ => ?_); simp only [cnt_nil, cnt_cons, cnt_app, List.map_append, List.map_cons, List.map_nil, List.flatMap_append, List.flatMap_cons, List.flatMap_nil, List.append_assoc, List.cons_append, List.nil_append]; omega), true, TE.em, fun _ => ?_, fun z => by cases z⟩⟩
      fail "go"
      exact .mk hL
    · refine ⟨rfl, ?_⟩
      refine ⟨f4, _, _, tlF CS CT CE x, rfl, hf4 _ hL.tail.tail, hc4 _ hL.tail.tail, rfl, lok4 l2, ⟨rfl, dx, td, d, (D1, .lst []) :: (pb, .lst [.ref f1, .ref f2, .ref f3, .ref f4, .ref f5]) :: Z, by (refine Led.le hL (fun a_ => ?_); simp only [cnt_nil, cnt_cons, cnt_app, List.map_append, List.map_cons, List.map_nil, List.flatMap_append, List.flatMap_cons, List.flatMap_nil, List.append_assoc, List.cons_append, List.nil_append]; omega), true, TE.em, fun _ => ?_, fun z => by cases z⟩⟩
      fail "go"
      exact .mk hL
    · refine ⟨rfl, ?_⟩
      refine ⟨f5, _, _, tlF CS CT CE x, rfl, hf5 _ hL.tail.tail, hc5 _ hL.tail.tail, rfl, lok5 l2, ⟨rfl, dx, td, d, (D1, .lst []) :: (pb, .lst [.ref f1, .ref f2, .ref f3, .ref f4, .ref f5]) :: Z, by (refine Led.le hL (fun a_ => ?_); simp only [cnt_nil, cnt_cons, cnt_app, List.map_append, List.map_cons, List.map_nil, List.flatMap_append, List.flatMap_cons, List.flatMap_nil, List.append_assoc, List.cons_append, List.nil_append]; omega), true, TE.em, fun _ => ?_, fun z => by cases z⟩⟩
      fail "go"
      exact .mk hL
  · clear hL
    have hL := h.out
    clear h
    fail "go"
    refine k_eqD (α := List Int) (by decide) (dt_nil (hL.at ⟨1, rfl⟩)) (dt_nil (hL.at ⟨0, rfl⟩)) ?_
    rw [decide_eq_true rfl]
    refine ⟨_, rfl, iteT ?_⟩
    replace hL : Led H ((x, .ins CS dx (fz nmS [.ref td, .int 0])) :: (td, .dK (([("a", d)] : List (Str × TD)).map (kk tnV))) :: (tsL CT [("a", d)] ++ Z)) := by
      (refine Led.le hL (fun a_ => ?_); simp only [cnt_nil, cnt_cons, cnt_app, List.map_append, List.map_cons, List.map_nil, List.flatMap_append, List.flatMap_cons, List.flatMap_nil, List.append_assoc, List.cons_append, List.nil_append, ShL]; omega)
    fail "go"
    have sok : SOk [("a", d)] := by
      refine ⟨by simp, by simp, fun k d2 hk => ?_⟩
      rw [aget] at hk
      by_cases z : ("a" : Str) = k
      · rw [if_pos z] at hk
        cases hk
        rw [e1]
        exact ⟨by decide, by decide, fun y hy => by rw [e2] at hy; cases hy⟩
      · rw [if_neg z] at hk; cases hk
    refine ⟨x, dx, td, [("a", d)], 0, Z, rfl, by unfold ShL; (refine Led.le hL (fun a_ => ?_); simp only [cnt_nil, cnt_cons, cnt_app, List.map_append, List.map_cons, List.map_nil, List.flatMap_append, List.flatMap_cons, List.flatMap_nil, List.append_assoc, List.cons_append, List.nil_append]; omega), sok, fun H _ hL => ?_, fun p q k d2 size body rest H hk hws _ _ => ?_⟩
    · refine ⟨rfl, true, by simp, iteT ?_⟩
      have c1 := X.clT
      have f1 := X.nT "waits" (by decide +kernel)
      intro x2 dx2 hx2 hd2 ne2
      generalize hH : upd (upd H dx2 _) x2 _ = H
      replace hL := Led.made hL hx2 hd2 ne2 hH
      clear hH hx2 hd2 ne2
      refine ⟨x2, dx2, 3, _, rfl, hL, fun wl H hL => ⟨rfl, ?_⟩⟩
      dsimp only [TL, List.map_nil, List.cons_append, List.nil_append] at hL
      fail "go"
      refine k_eqD (α := List Int) (by decide) (dt_nil (hL.at (by fail "ix"))) (dt_nil (hL.at (by fail "ix"))) ?_
      rw [decide_eq_true rfl]
      exact k H
    · exfalso
      rw [aget] at hk
      by_cases z : ("a" : Str) = k
      · rw [if_pos z] at hk
        cases hk
        rw [e2] at hws; cases hws
      · rw [if_neg z] at hk; cases hk
end
end Sd


set_option linter.unusedVariables false
namespace Sd
open PySem L2 LamX
open C8 (Cal Met Mak pe_c pe_mk pe_mt pe_mt0 tCut)
set_option linter.unusedSimpArgs false
set_option pp.deepTerms false
set_option pp.deepTerms.threshold 12
set_option hygiene false
local macro_rules | `(tactic| fail "nd") => `(tactic| first | assumption | decide +kernel)
local macro_rules | `(tactic| fail "ix") => `(tactic| first | exact ⟨0, rfl⟩ | exact ⟨1, rfl⟩ | exact ⟨2, rfl⟩ | exact ⟨3, rfl⟩ | exact ⟨4, rfl⟩ | exact ⟨5, rfl⟩ | exact ⟨6, rfl⟩ | exact ⟨7, rfl⟩ | exact ⟨8, rfl⟩ | exact ⟨9, rfl⟩ | exact ⟨10, rfl⟩ | exact ⟨11, rfl⟩ | exact ⟨12, rfl⟩ | exact ⟨13, rfl⟩ | exact ⟨14, rfl⟩ | exact ⟨15, rfl⟩ | exact ⟨16, rfl⟩ | exact ⟨17, rfl⟩ | exact ⟨18, rfl⟩ | assumption)
local macro_rules | `(tactic| fail "up") => `(tactic| first | exact ⟨0, rfl, rfl⟩ | exact ⟨1, rfl, rfl⟩ | exact ⟨2, rfl, rfl⟩ | exact ⟨3, rfl, rfl⟩ | exact ⟨4, rfl, rfl⟩ | exact ⟨5, rfl, rfl⟩ | exact ⟨6, rfl, rfl⟩ | exact ⟨7, rfl, rfl⟩ | exact ⟨8, rfl, rfl⟩ | exact ⟨9, rfl, rfl⟩ | exact ⟨10, rfl, rfl⟩ | exact ⟨11, rfl, rfl⟩ | exact ⟨12, rfl, rfl⟩ | exact ⟨13, rfl, rfl⟩ | exact ⟨14, rfl, rfl⟩ | exact ⟨15, rfl, rfl⟩ | exact ⟨16, rfl, rfl⟩ | assumption)
local macro_rules | `(tactic| fail "lkF") => `(tactic| first | assumption | exact fz_at 0 (by fail "nd") rfl rfl | exact fz_at 1 (by fail "nd") rfl rfl | exact fz_at 2 (by fail "nd") rfl rfl | exact fz_at 3 (by fail "nd") rfl rfl | exact fz_at 4 (by fail "nd") rfl rfl | exact fz_at 5 (by fail "nd") rfl rfl | exact fz_at 6 (by fail "nd") rfl rfl | exact fz_at 7 (by fail "nd") rfl rfl)
local macro_rules | `(tactic| fail "lkD") => `(tactic| first | assumption | exact dz_at 0 (by fail "nd") rfl rfl | exact dz_at 1 (by fail "nd") rfl rfl | exact dz_at 2 (by fail "nd") rfl rfl | exact dz_at 3 (by fail "nd") rfl rfl | exact dz_at 4 (by fail "nd") rfl rfl)
local macro_rules | `(tactic| fail "ptF") => `(tactic| first | assumption | exact fz_put 0 (by fail "nd") rfl (Nat.le_of_ble_eq_true rfl) | exact fz_put 1 (by fail "nd") rfl (Nat.le_of_ble_eq_true rfl) | exact fz_put 2 (by fail "nd") rfl (Nat.le_of_ble_eq_true rfl) | exact fz_put 3 (by fail "nd") rfl (Nat.le_of_ble_eq_true rfl) | exact fz_put 4 (by fail "nd") rfl (Nat.le_of_ble_eq_true rfl) | exact fz_put 5 (by fail "nd") rfl (Nat.le_of_ble_eq_true rfl) | exact fz_put 6 (by fail "nd") rfl (Nat.le_of_ble_eq_true rfl) | exact fz_put 7 (by fail "nd") rfl (Nat.le_of_ble_eq_true rfl) | exact fz_new (by decide +kernel) rfl)
local macro_rules | `(tactic| fail "ptD") => `(tactic| first | assumption | exact dz_put 0 (by fail "nd") rfl (Nat.le_of_ble_eq_true rfl) | exact dz_put 1 (by fail "nd") rfl (Nat.le_of_ble_eq_true rfl) | exact dz_put 2 (by fail "nd") rfl (Nat.le_of_ble_eq_true rfl) | exact dz_put 3 (by fail "nd") rfl (Nat.le_of_ble_eq_true rfl) | exact dz_put 4 (by fail "nd") rfl (Nat.le_of_ble_eq_true rfl))
local macro_rules | `(tactic| fail "sz") => `(tactic| first | assumption | exact (Nat.le_of_ble_eq_true rfl) | omega | decide)
local macro_rules | `(tactic| fail "sd") => `(tactic| first | rfl | assumption | decide | omega | (dsimp only; first | decide | omega) | exact .inr ⟨by decide, by decide⟩ | exact .inl ⟨by decide, by decide⟩ | exact ⟨by omega, by omega⟩ | exact .inl ⟨by omega, by omega⟩ | exact .inr ⟨by omega, by omega⟩ | exact ⟨by omega, by omega, by omega⟩)
local macro_rules | `(tactic| fail "cl") => `(tactic| (clear hH; dsimp only [List.set, List.cons_append, List.nil_append, List.append] at hL))
local macro_rules | `(tactic| fail "gn") => `(tactic| (intro p hp; generalize hH : upd H p _ = H; replace hL := Led.newH hL hp hH; clear hH hp))
local macro_rules | `(tactic| fail "gup") => `(tactic| (generalize hH : upd H _ _ = H; replace hL := Led.upU hL (by fail "up") hH; fail "cl"))
local macro_rules | `(tactic| fail "gmk") => `(tactic| (intro x dx hx hd ne; generalize hH : upd (upd H dx _) x _ = H; replace hL := Led.made hL hx hd ne hH; clear hH hx hd ne))
local macro_rules | `(tactic| fail "v") => `(tactic| refine ⟨_, rfl, ?_⟩)
local macro_rules | `(tactic| fail "i2") => `(tactic| refine ⟨_, _, rfl, rfl, ?_⟩)
local macro_rules | `(tactic| fail "go1") => `(tactic| first
  | refine ⟨_, rfl, ?_⟩
  | refine ⟨_, _, rfl, rfl, ?_⟩
  | refine ⟨_, _, rfl, ?_⟩
  | refine iteT ?_
  | refine iteF ?_
  | refine k_fld hL (by fail "ix") (by assumption) (by assumption) (by fail "lkF") ?_
  | refine k_dgetS hL (by fail "ix") (by fail "lkD") ?_
  | refine k_dgetI hL (by fail "ix") (by assumption) ?_
  | refine k_ixL hL (by fail "ix") (by first | rfl | assumption) ?_
  | refine k_ixT hL (by fail "ix") (by first | rfl | assumption) ?_
  | refine k_tyL hL (by fail "ix") ?_
  | refine k_isd hL (by fail "ix") ?_
  | (refine And.intro (by fail "sz") ?_; fail "gn")
  | refine And.intro (by fail "sd") ?_
  | fail "gn"
  | refine k_meth hL (by fail "ix") (by first | assumption | exact fz_no (by decide +kernel)) ?_
  | refine k_gtup hL (by fail "ix") rfl ?_
  | (refine k_popI hL (by fail "ix") (by assumption) ?_; fail "gup")
  | (refine k_listD hL (by fail "ix") ?_; fail "gn")
  | (refine ⟨_, _, _, _, rfl, rfl, hL.at (by fail "ix"), rfl, ?_⟩; fail "gup")
  | (refine ⟨_, _, _, rfl, rfl, hL.at (by fail "ix"), (by fail "sz"), ?_⟩; fail "gup")
  | (refine ⟨_, _, _, _, rfl, hL.at (by fail "ix"), by assumption, by assumption, Nat.lt_of_le_of_lt fz_len (by decide), ?_⟩; generalize hH : upd H _ _ = H; replace hL := Led.upF hL (by fail "up") (by fail "ptF") hH; fail "cl")
  | (refine ⟨_, _, hL.at (by fail "ix"), Nat.lt_of_le_of_lt fz_len (by decide), ?_⟩; generalize hH : upd H _ _ = H; replace hL := Led.upF hL (by fail "up") (by fail "ptF") hH; fail "cl")
  | (refine k_dputS hL (by fail "ix") (Nat.lt_of_le_of_lt dz_len (by decide)) (by fail "ptD") (by fail "up") ?_; clear hL; intro H hL; dsimp only [List.set, List.cons_append, List.nil_append, List.append] at hL)
  | refine k_lenL2 hL (by fail "ix") ?_
  | refine k_lenT2 hL (by fail "ix") ?_
  | refine .inl ⟨_, rfl, ?_⟩
  | refine .inr ⟨_, rfl, ?_⟩)
local macro_rules | `(tactic| fail "go") => `(tactic| repeat fail "go1")
local macro_rules | `(tactic| fail "pm") => `(tactic| (refine Led.le hL (fun a_ => ?_); simp only [cnt_nil, cnt_cons, cnt_app, List.map_append, List.map_cons, List.map_nil, List.flatMap_append, List.flatMap_cons, List.flatMap_nil, List.append_assoc, List.cons_append, List.nil_append]; omega))

def spLaw (K : PySem.W.Frag) (PL : Addr) : Sp := fun vs H Q _ => ∃ (a : Addr) (ns : List Int), vs = [.ref a] ∧ SqL K H a (ns.map V.int) ∧ ns.length ≤ 63 ∧ H PL = some (.tbl #[]) ∧ ∀ H', Q (.bl true) H'
theorem JI.os {n : Nat} {ts os : List TE} (J : JI n ts os) (h4 : (ts.map (·.1)).length ≤ 4 ∧ 1 ≤ (ts.map (·.1)).length) : OsOk os ∧ 1 ≤ os.length := by
  rw [J.nm, List.length_map] at h4
  refine ⟨⟨by rw [← J.nm]; exact J.ok.nd, h4.1, fun k e he => ?_⟩, h4.2⟩
  obtain ⟨d, e', hd, he', hp⟩ := J.both (aget_some he)
  rw [he] at he'
  cases he'
  have hw : d.w = e.w := congrArg (fun q : PJ => q.1) hp
  have := J.ok.w k d hd
  omega
section
variable {P : Program} {w : World} {K : PySem.W.Frag} {mg : Str → Option Value} {base : Heap} {CS CT CE : Addr} {f cL PL : Addr} {A : Around} {outer : List Env} {s0 : Shared} {H0 : Hp} {E : XK}
theorem law_body (hr : Room 8 (LX P w K mg base f (.ref cL) A outer s0 H0 E).A) (c_Shares : Mak P w K mg base 1 "Shares" CS (spSInit CS CT) []) (c__law_rounds : Cal P w K mg base 2 "_law_rounds" (spRounds K) [])
    (bO : PS (LX P w K mg base f (.ref cL) A outer s0 H0 E) (nth bodyB 1) (tOwn CS CT)) (bS : PS (LX P w K mg base f (.ref cL) A outer s0 H0 E) (nth bodyB 2) (tSteps CS CT)) (bB : PS (LX P w K mg base f (.ref cL) A outer s0 H0 E) (nth bodyB 4) (tBusy CS CT)) (bT : PS (LX P w K mg base f (.ref cL) A outer s0 H0 E) (nth bodyB 5) (tTurns CS CT))
    (bE : PSs (LX P w K mg base f (.ref cL) A outer s0 H0 E) tail (tEnd PL ((LX P w K mg base f (.ref cL) A outer s0 H0 E).env.qual ++ "<lambda>")))
    {vs : List V} {H : Hp} {Q : VK} (h : spLaw K PL vs H Q E) : ∃ t, PSs (LX P w K mg base f (.ref cL) A outer s0 H0 E) (defBody sLaw) t ∧ t { nx := fun _ H' => Q .non H', rt := Q } (L2.start NL vs) H := by
  obtain ⟨a, ns0, rfl, hS, hlen, hP, k⟩ := h
  refine ⟨_, pss_cons (ps_for PassesOwn.never rfl (pi_list (pe_c c__law_rounds hr (by decide) (by rfl) (pa_cons (pv 0) (pa_cons pe_int pa_nil)))) (pg_name (i := 1) scLaw.nd rfl (Or.inr rfl))
    (pss_cons (ps_asg (pe_tup (pa_cons (pe_mkN c_Shares hr (by decide) (by rfl)) (pa_cons pe_dnewK (pa_cons pe_int (pa_cons pe_int pa_nil))))) (pg_tup (by rfl) (pgs_cons (pg_name (i := 2) scLaw.nd rfl (Or.inr rfl)) (pgs_cons (pg_name (i := 3) scLaw.nd rfl (Or.inr rfl)) (pgs_cons (pg_name (i := 4) scLaw.nd rfl (Or.inl rfl)) (pgs_cons (pg_name (i := 5) scLaw.nd rfl (Or.inl rfl)) pgs_nil))))))
    (pss_cons bO (pss_cons bS
    (pss_cons (ps_asg (pe_tup (pa_cons (pe_mkN c_Shares hr (by decide) (by rfl)) (pa_cons pe_dnewK (pa_cons pe_dnewK (pa_cons pe_dnewK pa_nil))))) (pg_tup (by rfl) (pgs_cons (pg_name (i := 15) scLaw.nd rfl (Or.inl rfl)) (pgs_cons (pg_name (i := 16) scLaw.nd rfl (Or.inl rfl)) (pgs_cons (pg_name (i := 17) scLaw.nd rfl (Or.inl rfl)) (pgs_cons (pg_name (i := 18) scLaw.nd rfl (Or.inl rfl)) pgs_nil))))))
    (pss_cons bB (pss_one bT))))))) bE, ?_⟩
  have hL : Led H [(PL, .tbl #[])] := ⟨fun x hx => by rw [List.mem_singleton.mp hx]; exact hP, by simp⟩
  fail "go"
  refine ⟨a, ns0, _, rfl, hS, hL, fun pr d x y z H hL => ?_⟩
  fail "go"
  refine ⟨⟨_, .of (hL.at ⟨0, rfl⟩)⟩, for_listA (K := K) (a := pr) (xs := [.ref d]) (fun i σ H => Hold ((i = 0 ∧ σ = L2.start NL [.ref a] ∧ Led H ((pr, .lst [.ref d]) :: (d, dD x y z) :: [(PL, .tbl #[])])) ∨
    (i = 1 ∧ (∃ v0 v1 v2 v3 v4 v5 v6 v7 v8 v9 v10 v11 v12 v13 v14 v15 v16 v17 v18 v19 v20 v21 v22 v23 v24 : Option V, σ = [v0, v1, v2, v3, v4, v5, v6, v7, v8, v9, v10, v11, v12, v13, v14, v15, v16, v17, v18, v19, v20, v21, v22, v23, v24]) ∧ Led H ((pr, .lst [.ref d]) :: [(PL, .tbl #[])])))) ?_ ?_ ?_ ?_⟩
  · exact .mk (.inl ⟨rfl, rfl, hL⟩)
  · intro i σ H _ h
    rcases h.out with ⟨_, _, hL⟩ | ⟨_, _, hL⟩
    · exact .of (hL.at ⟨0, rfl⟩)
    · exact .of (hL.at ⟨0, rfl⟩)
  · clear hL
    intro i y0 σ H D' hy h hD'
    rcases h.out with ⟨rfl, rfl, hL⟩ | ⟨rfl, _⟩
    · obtain rfl : V.ref d = y0 := Option.some.inj hy
      clear h hy
      refine (show gName 1 (.ref d) _ _ _ from ?_)
      intro s ds hs hds ne
      generalize hH : upd (upd H ds _) s _ = H
      replace hL := Led.made hL hs hds ne hH
      clear hH hs hds ne
      refine ⟨s, ds, _, rfl, hL, fun td H hL => ⟨rfl, ?_⟩⟩
      dsimp only [ShL, tsL, List.map_nil, List.flatMap_nil, List.nil_append, List.cons_append] at hL
      fail "go"
      refine ⟨⟨a, d, s, ds, td, _⟩, x, y, z, [(pr, .lst [.ref d]), (PL, .tbl #[])], ⟨_, _, _, _, _, _, _, _, _, _, _, _, _, _, _, _, _, _, _, rfl⟩, by unfold CoreL; (refine Led.le hL (fun a_ => ?_); simp only [cnt_nil, cnt_cons, cnt_app, List.map_append, List.map_cons, List.map_nil, List.flatMap_append, List.flatMap_cons, List.flatMap_nil, List.append_assoc, List.cons_append, List.nil_append, tsL, osL]; omega), fun σ H h1 => ?_⟩
      clear hL
      generalize hF : (⟨a, d, s, ds, td, _⟩ : Fx) = F at h1
      refine ⟨F, _, h1, fun σ H h2 => ?_⟩
      clear h1
      obtain ⟨pt, ct, x, y, z, ts, os, n, ⟨v6, v7, v8, v9, v10, v11, v12, v13, v14, v15, v16, v17, v18, v19, v20, v21, v22, v23, v24, rfl⟩, J, h4, hL⟩ := h2
      obtain ⟨hos, hos1⟩ := J.os h4
      intro b bd hb hbd ne
      generalize hH : upd (upd H bd _) b _ = H
      replace hL := Led.made hL hb hbd ne hH
      clear hH hb hbd ne
      refine ⟨b, bd, _, rfl, hL, fun btd H hL => ⟨rfl, ?_⟩⟩
      dsimp only [ShL, tsL, List.map_nil, List.flatMap_nil, List.nil_append, List.cons_append] at hL
      fail "go"
      refine ⟨⟨F.a, F.d, F.wd, b, bd, btd, _, _, _⟩, os, x, y, z, [(pr, .lst [.ref d]), (PL, .tbl #[])], hos, ⟨_, _, _, _, _, _, _, _, _, _, _, _, _, _, _, _, _, _, rfl⟩, by unfold BL; unfold CoreL at hL; (refine Led.le hL (fun a_ => ?_); simp only [cnt_nil, cnt_cons, cnt_app, List.map_append, List.map_cons, List.map_nil, List.flatMap_append, List.flatMap_cons, List.flatMap_nil, List.append_assoc, List.cons_append, List.nil_append, tsL, Sd.bT]; omega), fun σ H h3 => ?_⟩
      refine ⟨_, os, _, hos, hos1, h3, fun σ H h4 => ?_⟩
      obtain ⟨x, y, z, bs, pt, ⟨v2, v4, v5, v6, v7, v8, v9, v10, v11, v12, v13, v14, v19, v20, v21, v22, v23, v24, rfl⟩, _, _, hL⟩ := h4
      refine hD'.nx _ _ (.mk (.inr ⟨rfl, ⟨_, _, _, _, _, _, _, _, _, _, _, _, _, _, _, _, _, _, _, _, _, _, _, _, _, rfl⟩, ?_⟩))
      unfold BL at hL
      (refine Led.le hL (fun a_ => ?_); simp only [cnt_nil, cnt_cons, cnt_app, List.map_append, List.map_cons, List.map_nil, List.flatMap_append, List.flatMap_cons, List.flatMap_nil, List.append_assoc, List.cons_append, List.nil_append]; omega)
    · cases hy
  · intro σ H h
    rcases h.out with ⟨q, _⟩ | ⟨_, hv, hL⟩
    · cases q
    · exact ⟨hv, TabS.nil (hL.at ⟨1, rfl⟩), k⟩
end
end Sd


set_option linter.unusedVariables false
namespace Sd
open PySem PySem.Spec PyProof.Rows L2
open C8 (Cal Met Mak)
/-! ### the head -/
def dfs1 : He.DefD := ⟨("Tenant", some "__init__"), "__init__", "Tenant.__init__", defArgs sTInit, defBody sTInit, defScope sTInit, [], []⟩
def dfs2 : He.DefD := ⟨("Shares", some "__init__"), "__init__", "Shares.__init__", defArgs sSInit, defBody sSInit, defScope sSInit, [], []⟩
def dfs3 : He.DefD := ⟨("Shares", some "add"), "add", "Shares.add", defArgs sAdd, defBody sAdd, defScope sAdd, [], []⟩
def dfs4 : He.DefD := ⟨("Shares", some "put"), "put", "Shares.put", defArgs sPut, defBody sPut, defScope sPut, [], []⟩
def dfs5 : He.DefD := ⟨("Shares", some "next_work"), "next_work", "Shares.next_work", defArgs sNext, defBody sNext, defScope sNext, [], []⟩
def dfs6 : He.DefD := ⟨("_law_dice", none), "_law_dice", "_law_dice", defArgs sDice, defBody sDice, defScope sDice, [], []⟩
def dfs7 : He.DefD := ⟨("_law_roll", none), "_law_roll", "_law_roll", defArgs sRoll, defBody sRoll, defScope sRoll, [], []⟩
def dfs8 : He.DefD := ⟨("_law_rounds", none), "_law_rounds", "_law_rounds", defArgs sRounds, defBody sRounds, defScope sRounds, [], []⟩
def dfs9 : He.DefD := ⟨("_law_told", none), "_law_told", "_law_told", defArgs sTold, defBody sTold, defScope sTold, [], []⟩
def dfs10 : He.DefD := ⟨("law", none), "law", "law", defArgs sLaw, defBody sLaw, defScope sLaw, [], []⟩
def hfn : List He.DefD := [dfs1, dfs2, dfs3, dfs4, dfs5, dfs6, dfs7, dfs8, dfs9, dfs10]
def hfa : List He.Fa := [
  .glo "Tenant",
  .cls "Tenant",
  .noat "Tenant" "weight",
  .noat "Tenant" "waits",
  .noat "Tenant" "point",
  .mkr "Tenant",
  .glo "Shares",
  .cls "Shares",
  .noat "Shares" "tenants",
  .noat "Shares" "point",
  .mkr "Shares",
  .meth "Shares" "add",
  .meth "Shares" "put",
  .meth "Shares" "next_work",
  .glo "_law_dice",
  .glo "_law_roll",
  .glo "_law_rounds",
  .glo "_law_told",
  .glo "law",
  .glo "QueueError",
  .exc "QueueError",
  .free "abs",
  .free "int",
  .free "list",
  .free "sorted",
  .free "range",
  .free "len",
  .free "max",
  .free "min"]
def htf : List He.Defn := [("law", none)]
def hex (K : PySem.W.Frag) : Bool := (PySem.W.isClsIn K (He.ga K "QueueError") && (decide (PySem.W.subIn K (.ref (He.ga K "QueueError")) (.ref (He.ga K "QueueError")) = some true) && true))
abbrev HR : PySem.W.OpenRow := PySem.W.OpenLaw.row PySem.Challenge.rw_shardstack_k23_shares_by_weight
abbrev hk : PySem.W.Hook := He.hookX 7 hfa hfn [] htf hex
def hob (s : PySem.W.SharedT) : He.AlX := He.obsX 7 hfa hfn [] htf hex (HandSHeadRun.getT s)
theorem hob_eq (s : PySem.W.SharedT) : hob s = hk.obs s.abs := He.obsX_eq (HandSHeadRun.getT_eq s)
def hloose : List Str := ["ShardError", "QueueError", "Tenant", "Shares", "_law_dice", "_law_roll", "_law_rounds", "_law_told"]
theorem hrun (w : World) : HandSHeadRun.RunEq HR (PySem.W.view HR.prog [11]) hk hob 8000 hloose w := by
  intro os
  kernel_rfl
theorem exB {K : PySem.W.Frag} (h : hex K = true) : (PySem.W.isClsIn K (He.ga K "QueueError") = true) ∧ ((PySem.W.subIn K (.ref (He.ga K "QueueError")) (.ref (He.ga K "QueueError")) = some true)) ∧ True := by
  unfold hex at h
  simp only [Bool.and_eq_true, decide_eq_true_eq] at h
  simpa [and_assoc] using h
theorem all_mk {l : PySem.W.OpenLaw} {w : World} {K : PySem.W.Frag} {h : Heap} {mg : Str → Option Value} {fa : Addr} (X : K.In h) (G : h.Ns mainGlobals mg) (hfa0 : mg "law" = some (.ref fa)) (c : He.SaysX hfa hfn [] htf hex w h K) : LamX.LawAtS l w K CX0 9 63 "script" mg fa h := by
  have exs := exB c.more
  have gl10 : mg "law" = some (.ref (He.fAd K ("law", none))) := He.glo_ok X G (c.t.d.fact 18 (f := .glo "law") rfl)
  have gl_Tenant : mg "Tenant" = some (.ref (He.ga K "Tenant")) := He.glo_ok X G (c.t.d.fact 0 (f := .glo "Tenant") rfl)
  have cl_Tenant : Cls K (He.ga K "Tenant") := He.cls_ok (c.t.d.fact 1 (f := .cls "Tenant") rfl)
  have no_Tenant_weight : NoAttr K (He.ga K "Tenant") "weight" := He.noat_ok (c.t.d.fact 2 (f := .noat "Tenant" "weight") rfl)
  have no_Tenant_waits : NoAttr K (He.ga K "Tenant") "waits" := He.noat_ok (c.t.d.fact 3 (f := .noat "Tenant" "waits") rfl)
  have no_Tenant_point : NoAttr K (He.ga K "Tenant") "point" := He.noat_ok (c.t.d.fact 4 (f := .noat "Tenant" "point") rfl)
  have mk_Tenant : Mk K (He.ga K "Tenant") (He.fAd K ("Tenant", some "__init__")) := He.mkr_ok (c.t.d.fact 5 (f := .mkr "Tenant") rfl)
  have gl_Shares : mg "Shares" = some (.ref (He.ga K "Shares")) := He.glo_ok X G (c.t.d.fact 6 (f := .glo "Shares") rfl)
  have cl_Shares : Cls K (He.ga K "Shares") := He.cls_ok (c.t.d.fact 7 (f := .cls "Shares") rfl)
  have no_Shares_tenants : NoAttr K (He.ga K "Shares") "tenants" := He.noat_ok (c.t.d.fact 8 (f := .noat "Shares" "tenants") rfl)
  have no_Shares_point : NoAttr K (He.ga K "Shares") "point" := He.noat_ok (c.t.d.fact 9 (f := .noat "Shares" "point") rfl)
  have mk_Shares : Mk K (He.ga K "Shares") (He.fAd K ("Shares", some "__init__")) := He.mkr_ok (c.t.d.fact 10 (f := .mkr "Shares") rfl)
  have me3 : Meth K (He.ga K "Shares") "add" (He.fAd K ("Shares", some "add")) := He.meth_ok (c.t.d.fact 11 (f := .meth "Shares" "add") rfl)
  have me4 : Meth K (He.ga K "Shares") "put" (He.fAd K ("Shares", some "put")) := He.meth_ok (c.t.d.fact 12 (f := .meth "Shares" "put") rfl)
  have me5 : Meth K (He.ga K "Shares") "next_work" (He.fAd K ("Shares", some "next_work")) := He.meth_ok (c.t.d.fact 13 (f := .meth "Shares" "next_work") rfl)
  have gl6 : mg "_law_dice" = some (.ref (He.fAd K ("_law_dice", none))) := He.glo_ok X G (c.t.d.fact 14 (f := .glo "_law_dice") rfl)
  have gl7 : mg "_law_roll" = some (.ref (He.fAd K ("_law_roll", none))) := He.glo_ok X G (c.t.d.fact 15 (f := .glo "_law_roll") rfl)
  have gl8 : mg "_law_rounds" = some (.ref (He.fAd K ("_law_rounds", none))) := He.glo_ok X G (c.t.d.fact 16 (f := .glo "_law_rounds") rfl)
  have gl9 : mg "_law_told" = some (.ref (He.fAd K ("_law_told", none))) := He.glo_ok X G (c.t.d.fact 17 (f := .glo "_law_told") rfl)
  have gl_QueueError : mg "QueueError" = some (.ref (He.ga K "QueueError")) := He.glo_ok X G (c.t.d.fact 19 (f := .glo "QueueError") rfl)
  have TE_QueueError : ExcT K mg "QueueError" (He.ga K "QueueError") := exc_T X G (c.t.d.fact 19 (f := .glo "QueueError") rfl) (c.t.d.fact 20 (f := .exc "QueueError") rfl) (exB c.more).1 (exB c.more).2.1
  have fr_abs : mg "abs" = none := He.free_ok X G (c.t.d.fact 21 (f := .free "abs") rfl)
  have fr_int : mg "int" = none := He.free_ok X G (c.t.d.fact 22 (f := .free "int") rfl)
  have fr_list : mg "list" = none := He.free_ok X G (c.t.d.fact 23 (f := .free "list") rfl)
  have fr_sorted : mg "sorted" = none := He.free_ok X G (c.t.d.fact 24 (f := .free "sorted") rfl)
  have fr_range : mg "range" = none := He.free_ok X G (c.t.d.fact 25 (f := .free "range") rfl)
  have fr_len : mg "len" = none := He.free_ok X G (c.t.d.fact 26 (f := .free "len") rfl)
  have fr_max : mg "max" = none := He.free_ok X G (c.t.d.fact 27 (f := .free "max") rfl)
  have fr_min : mg "min" = none := He.free_ok X G (c.t.d.fact 28 (f := .free "min") rfl)
  obtain ⟨fd1, D1⟩ := c.t.d.def_ 0 (d := dfs1) rfl
  have F1 : Fun K "__init__" "Tenant.__init__" sTInit (He.fAd K ("Tenant", some "__init__")) fd1 := fun_ofD D1
  have b1 := F1.binds (ps := ["self", "weight"]) fun _ _ _ _ _ _ us hl => match us, hl with | [_, _], _ => rfl
  obtain ⟨fd2, D2⟩ := c.t.d.def_ 1 (d := dfs2) rfl
  have F2 : Fun K "__init__" "Shares.__init__" sSInit (He.fAd K ("Shares", some "__init__")) fd2 := fun_ofD D2
  have b2 := F2.binds (ps := ["self"]) fun _ _ _ _ _ _ us hl => match us, hl with | [_], _ => rfl
  obtain ⟨fd3, D3⟩ := c.t.d.def_ 2 (d := dfs3) rfl
  have F3 : Fun K "add" "Shares.add" sAdd (He.fAd K ("Shares", some "add")) fd3 := fun_ofD D3
  have b3 := F3.binds (ps := ["self", "name", "weight"]) fun _ _ _ _ _ _ us hl => match us, hl with | [_, _, _], _ => rfl
  obtain ⟨fd4, D4⟩ := c.t.d.def_ 3 (d := dfs4) rfl
  have F4 : Fun K "put" "Shares.put" sPut (He.fAd K ("Shares", some "put")) fd4 := fun_ofD D4
  have b4 := F4.binds (ps := ["self", "name", "size", "body"]) fun _ _ _ _ _ _ us hl => match us, hl with | [_, _, _, _], _ => rfl
  obtain ⟨fd5, D5⟩ := c.t.d.def_ 4 (d := dfs5) rfl
  have F5 : Fun K "next_work" "Shares.next_work" sNext (He.fAd K ("Shares", some "next_work")) fd5 := fun_ofD D5
  have b5 := F5.binds (ps := ["self"]) fun _ _ _ _ _ _ us hl => match us, hl with | [_], _ => rfl
  obtain ⟨fd6, D6⟩ := c.t.d.def_ 5 (d := dfs6) rfl
  have F6 : Fun K "_law_dice" "_law_dice" sDice (He.fAd K ("_law_dice", none)) fd6 := fun_ofD D6
  have b6 := F6.binds (ps := ["cell"]) fun _ _ _ _ _ _ us hl => match us, hl with | [_], _ => rfl
  obtain ⟨fd7, D7⟩ := c.t.d.def_ 6 (d := dfs7) rfl
  have F7 : Fun K "_law_roll" "_law_roll" sRoll (He.fAd K ("_law_roll", none)) fd7 := fun_ofD D7
  have b7 := F7.binds (ps := ["dice", "many"]) fun _ _ _ _ _ _ us hl => match us, hl with | [_, _], _ => rfl
  obtain ⟨fd8, D8⟩ := c.t.d.def_ 7 (d := dfs8) rfl
  have F8 : Fun K "_law_rounds" "_law_rounds" sRounds (He.fAd K ("_law_rounds", none)) fd8 := fun_ofD D8
  have b8 := F8.binds (ps := ["script", "most"]) fun _ _ _ _ _ _ us hl => match us, hl with | [_, _], _ => rfl
  obtain ⟨fd9, D9⟩ := c.t.d.def_ 8 (d := dfs9) rfl
  have F9 : Fun K "_law_told" "_law_told" sTold (He.fAd K ("_law_told", none)) fd9 := fun_ofD D9
  have b9 := F9.binds (ps := ["what"]) fun _ _ _ _ _ _ us hl => match us, hl with | [_], _ => rfl
  obtain ⟨fd10, D10⟩ := c.t.d.def_ 9 (d := dfs10) rfl
  have F10 : Fun K "law" "law" sLaw (He.fAd K ("law", none)) fd10 := fun_ofD D10
  have e := hfa0.symm.trans gl10
  cases e
  have XT : TxtT K mg (He.ga K "Tenant") (He.ga K "Shares") := ⟨cl_Tenant, cl_Shares, fun f hf => by
    simp only [nmT, List.mem_cons, List.not_mem_nil, or_false] at hf
    rcases hf with rfl | rfl | rfl
    · exact no_Tenant_weight
    · exact no_Tenant_waits
    · exact no_Tenant_point, fun f hf => by
    simp only [nmS, List.mem_cons, List.not_mem_nil, or_false] at hf
    rcases hf with rfl | rfl
    · exact no_Shares_tenants
    · exact no_Shares_point⟩
  have TE := TE_QueueError
  have TL : TxtL mg := ⟨fr_abs, fr_int⟩
  have TN : TxtNx mg := ⟨fr_sorted, fr_min⟩
  have TR : TxtR mg := ⟨fr_range, fr_list, fr_len⟩
  have TB2 : TxtB mg := ⟨fr_max, fr_min⟩
  have TM : TxtM mg := ⟨fr_max⟩
  obtain ⟨ocL, odL, kVL, dcL, pmL, anL, ctL, oslL, rfl, lkL, cdL⟩ := fun_code (p := ("law", none)) F10
  refine ⟨PySem.W.fnOf "law" "law" (defArgs sLaw) (defBody sLaw) (defScope sLaw) .none kVL dcL pmL anL (.ref (He.cT K ("law", none)).1) ctL, htf.map (He.cT K), spLaw K (He.cT K ("law", none)).2, fun p hp => ?_, fun p hp => ?_, fun p hp => ?_, fun s v => .of_eq rfl, fun H a ns hlen _ hH hS => ⟨a, ns, rfl, hS, hlen, hH _ (List.mem_map.mpr ⟨_, .head _, rfl⟩), fun _ => rfl⟩, fun base _ _ htb => ?_⟩
  · obtain ⟨x, hx, rfl⟩ := List.mem_map.mp hp
    exact c.empty x hx
  · obtain ⟨x, hx, rfl⟩ := List.mem_map.mp hp
    exact c.out x hx
  · obtain ⟨x, hx, rfl⟩ := List.mem_map.mp hp
    exact PySem.W.codeHd_of_K X (c.hd x hx)
  have hTBL := htb (He.cT K ("law", none)) (List.mem_map.mpr ⟨("law", none), (.head _), rfl⟩)
  have C1 : Mak l.prog w K mg base 1 "Tenant" (He.ga K "Tenant") (spTInit (He.ga K "Tenant")) [] := ⟨_, _, _, [], mk_Tenant, ok_TInit F1 XT, gl_Tenant, b1, .nil⟩
  have C2 : Mak l.prog w K mg base 1 "Shares" (He.ga K "Shares") (spSInit (He.ga K "Shares") (He.ga K "Tenant")) [] := ⟨_, _, _, [], mk_Shares, ok_SInit F2 XT, gl_Shares, b2, .nil⟩
  have C3 : Met l.prog w K mg base 3 (He.ga K "Shares") "add" (spAdd (He.ga K "Shares") (He.ga K "Tenant")) [] := ⟨_, _, _, [], cl_Shares, me3, ok_add F3 XT C1, b3, .nil⟩
  have C3X : MetX l.prog w K mg base 1 (He.ga K "Shares") "add" (spAddX (He.ga K "Shares") (He.ga K "Tenant") (He.ga K "QueueError")) [] := ⟨_, _, _, [], cl_Shares, me3, ok_addX F3 XT TE, b3, .nil⟩
  have C4 : Met l.prog w K mg base 1 (He.ga K "Shares") "put" (spPut (He.ga K "Shares") (He.ga K "Tenant")) [] := ⟨_, _, _, [], cl_Shares, me4, ok_put F4 XT fr_max, b4, .nil⟩
  have C4X : MetX l.prog w K mg base 1 (He.ga K "Shares") "put" (spPutX (He.ga K "Shares") (He.ga K "Tenant") (He.ga K "QueueError")) [] := ⟨_, _, _, [], cl_Shares, me4, ok_putX F4 XT TE, b4, .nil⟩
  have C5 : Met l.prog w K mg base 1 (He.ga K "Shares") "next_work" (spNext (He.ga K "Shares") (He.ga K "Tenant")) [] := ⟨_, _, _, [], cl_Shares, me5, ok_next F5 XT TN, b5, .nil⟩
  have C6 : Cal l.prog w K mg base 1 "_law_dice" spDice [] := ⟨_, _, _, [], ok_dice F6 TL, gl6, F6.kp, b6, .nil⟩
  have C7 : Cal l.prog w K mg base 1 "_law_roll" spRoll [] := ⟨_, _, _, [], ok_roll F7 TL, gl7, F7.kp, b7, .nil⟩
  have C8 : Cal l.prog w K mg base 2 "_law_rounds" (spRounds K) [] := ⟨_, _, _, [], ok_rounds F8 C6, gl8, F8.kp, b8, .nil⟩
  refine fn_of lkL cdL scLaw (fun vs H Q E h => ?_) fun A outer s H vs Q E hr hsp => ?_
  · obtain ⟨a, ns, rfl, _⟩ := h
    rfl
  obtain ⟨t, ht, hq⟩ := law_body (f := He.fAd K ("law", none)) (cL := (He.cT K ("law", none)).1) (PL := (He.cT K ("law", none)).2) (A := A) (outer := outer) (s0 := s) (H0 := H) (E := E) hr C2 C8 (st_own hr XT TR C3 C7)
    (st_steps hr TR C7 (blk_put hr XT TB2 C4 C7) (blk_take hr XT TB2 C5) (st_check hr XT)) (st_busy hr XT TR C3 C4 C7) (st_turns hr XT TR C5 (st_fair hr TM)) (st_end hr XT TE hTBL F9 b9 gl9 C2 C1 C3 C5 C3X C4X) hsp
  exact ⟨t, ht.nox, hq⟩
end Sd
open PySem PySem.W PySem.Calls PyProof.Rows
set_option maxRecDepth 100000 in
set_option maxHeartbeats 0 in
theorem PySem.Challenge.cw_shardstack_k23_shares_by_weight_holds : PySem.Challenge.rw_shardstack_k23_shares_by_weight.Holds := by
  w_on; o_law
  refine HandSHeadRun.head_any (r := OpenLaw.row PySem.Challenge.rw_shardstack_k23_shares_by_weight) (q := view (OpenLaw.row PySem.Challenge.rw_shardstack_k23_shares_by_weight).prog [11]) (H := Sd.hk) (ob := Sd.hob) (M := 8000) (loose := Sd.hloose) (d := HandSHeadRun.topDef (OpenLaw.row PySem.Challenge.rw_shardstack_k23_shares_by_weight).prog 11) (kwd := []) Sd.hob_eq
    (by kernel_rfl) (fun s => by kernel_rfl) Sd.hrun (by kernel_rfl) (by kernel_rfl) (by kernel_rfl) (by rfl) (by first | assumption | decide +kernel) (by decide +kernel) ⟨rfl, rfl, rfl, rfl, rfl, by decide +kernel⟩ ?hw ?hc
  case hw => w_witness2
  case hc =>
    refine LamX.walk_ofTsE (l := PySem.Challenge.rw_shardstack_k23_shares_by_weight) (n := 63) (k := 9) (x := "script") (CX := fun _ => L2.CX0) rfl (by decide) (by kernel_rfl) ⟨rfl, by decide, by decide⟩ ?F (fun _ _ _ _ _ z => z)
    intro w mg fa h Y G hmg0
    obtain ⟨K, KX, c⟩ := Y
    have hmg : mg ("law" : PySem.Str) = some (.ref fa) := by
      have e : (HandSHeadRun.topDef (OpenLaw.row PySem.Challenge.rw_shardstack_k23_shares_by_weight).prog 11).name = ("law" : PySem.Str) := by kernel_rfl
      rw [← e]
      exact hmg0
    exact ⟨K, KX, Sd.all_mk KX G hmg c⟩
#print axioms PySem.Challenge.cw_shardstack_k23_shares_by_weight_holds

