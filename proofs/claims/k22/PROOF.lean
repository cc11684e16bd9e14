import PyProof.Rows.All
import Wide.All
import OpenK.AllK
import Wide.FinOn
import HandS.ForMost
import HandS.Flow
import HandS.Style
import HandS.Codes
import HandS.SortInts
import HandS.Conv
import HandS.Nested
import HandS.TryOnly
import HandS.ExcOwn
import HandS.WordsExc
import HandS.Small
import HandS.EndOwn
import HandS.Defaults
import KE.DataEq
import PySem.Challenge.RW_shardstack_k22_work_that_is_given_out
import HandS.Walk
import KE.KExcLine
set_option Elab.async false
set_option maxRecDepth 100000
set_option maxHeartbeats 4000000
namespace Sd
open PySem L2

/-! ### the ledger: objects of the heap, all at different places -/
abbrev Lg := List (Addr × HO)
def Led (H : Hp) (L : Lg) : Prop := (∀ x ∈ L, H x.1 = some x.2) ∧ (L.map (·.1)).Nodup
/-- the object at a is known -/
def At (L : Lg) (a : Addr) (o : HO) : Prop := ∃ i : Nat, L[i]? = some (a, o)
section
variable {H H' : Hp} {L A B C R : Lg} {a p : Addr} {o o' : HO}
theorem Led.mem (h : Led H L) (m : (a, o) ∈ L) : H a = some o := h.1 _ m
theorem Led.at (h : Led H L) (e : At L a o) : H a = some o := let ⟨_, q⟩ := e; h.1 _ (List.mem_of_getElem? q)
theorem Led.ne (h : Led H L) (e : At L a o) (hp : H p = none) : a ≠ p := ne_of_none (h.at e) hp
theorem Led.nin (h : Led H L) (hp : H p = none) : p ∉ L.map (·.1) := fun m => by
  obtain ⟨x, hx, e⟩ := List.mem_map.mp m
  have := h.1 x hx
  rw [e, hp] at this
  cases this
theorem Led.new (h : Led H L) (hp : H p = none) : Led (upd H p o) ((p, o) :: L) := by
  refine ⟨fun x hx => ?_, ?_⟩
  · rcases List.mem_cons.mp hx with e | hx
    · rw [e]; exact upd_same
    · have := h.1 x hx
      rw [upd_ne (ne_of_none this hp)]; exact this
  · rw [List.map_cons]
    exact List.nodup_cons.mpr ⟨h.nin hp, h.2⟩
theorem Led.skip (h : Led H L) (hp : H p = none) : Led (upd H p o) L :=
  let q := h.new (o := o) hp
  ⟨fun x hx => q.1 x (List.mem_cons_of_mem _ hx), h.2⟩
theorem Led.perm (h : Led H L) (q : L.Perm B) : Led H B := ⟨fun x hx => h.1 x (q.mem_iff.mpr hx), (q.map _).nodup_iff.mp h.2⟩
theorem Led.head (h : Led H ((a, o) :: B)) : Led (upd H a o') ((a, o') :: B) := by
  have n : a ∉ B.map (·.1) := (List.nodup_cons.mp h.2).1
  refine ⟨fun x hx => ?_, h.2⟩
  rcases List.mem_cons.mp hx with e | hx
  · rw [e]; exact upd_same
  · rw [upd_ne (fun e => n (List.mem_map.mpr ⟨x, hx, e⟩))]
    exact h.1 x (List.mem_cons_of_mem _ hx)
theorem Led.mid (h : Led H (A ++ (a, o) :: B)) : Led (upd H a o') (A ++ (a, o') :: B) :=
  (((h.perm List.perm_middle).head (o' := o')).perm List.perm_middle.symm)
theorem Led.set (i : Nat) (h : Led H L) (e : L[i]? = some (a, o)) : Led (upd H a o') (L.set i (a, o')) := by
  obtain ⟨hi, e⟩ := List.getElem?_eq_some_iff.mp e
  have s1 : L = L.take i ++ (a, o) :: L.drop (i + 1) := by
    rw [← e, List.getElem_cons_drop, List.take_append_drop]
  rw [s1] at h
  have q := h.mid (o' := o')
  rw [List.set_eq_take_append_cons_drop, if_pos hi]
  exact q
theorem Led.swap (h : Led H (A ++ (B ++ C))) : Led H (B ++ (A ++ C)) := by
  refine h.perm ?_
  rw [← List.append_assoc, ← List.append_assoc]
  exact List.perm_append_comm.append_right _
theorem Led.sub (h : Led H L) (q : B.Sublist L) : Led H B := ⟨fun x hx => h.1 x (q.subset hx), h.2.sublist (q.map _)⟩
theorem Led.drop (h : Led H (A ++ B)) : Led H B := h.sub (List.sublist_append_right _ _)
theorem Led.left (h : Led H (A ++ B)) : Led H A := h.sub (List.sublist_append_left _ _)
theorem Led.tail (h : Led H ((a, o) :: B)) : Led H B := h.sub (List.sublist_cons_self _ _)
theorem Led.nil : Led H [] := ⟨fun _ hx => (nomatch hx), List.nodup_nil⟩
theorem Led.mono (h : Led H L) (e : ∀ x ∈ L, H' x.1 = some x.2) : Led H' L := ⟨e, h.2⟩
end

/-! ### an instance's attributes, a dict with written keys: names and values -/
def fz (names : List Str) (vals : List V) : List (Str × V) := names.zip vals
def dz (names : List Str) (vals : List V) : List (Key × V) := (names.map Sum.inr).zip vals
theorem fz_at {f : Str} {v : V} : ∀ (i : Nat) {names : List Str} {vals : List V}, names.Nodup → names[i]? = some f → vals[i]? = some v → (fz names vals).lookup f = some v
  | 0, n :: ns, w :: ws, _, h1, h2 => by
    simp only [List.getElem?_cons_zero, Option.some.injEq] at h1 h2
    subst h1 h2
    simp [fz]
  | i + 1, n :: ns, w :: ws, nd, h1, h2 => by
    rw [List.getElem?_cons_succ] at h1 h2
    obtain ⟨n1, n2⟩ := List.nodup_cons.mp nd
    have ne : ¬ f = n := fun e => n1 (e ▸ List.mem_of_getElem? h1)
    have ih := fz_at i n2 h1 h2
    unfold fz at ih ⊢
    rw [List.zip_cons_cons, List.lookup_cons, beq_eq_false_iff_ne.mpr ne]
    exact ih
  | _, [], _, _, h1, _ => by simp at h1
  | _, _ :: _, [], _, _, h2 => by simp at h2
theorem fz_no {f : Str} : ∀ {names : List Str} {vals : List V}, f ∉ names → (fz names vals).lookup f = none
  | [], _, _ => by simp [fz]
  | _ :: _, [], _ => by simp [fz]
  | n :: ns, w :: ws, h => by
    have ne : ¬ f = n := fun e => h (by rw [e]; exact List.mem_cons_self)
    have ih := fz_no (f := f) (names := ns) (vals := ws) fun m => h (List.mem_cons_of_mem _ m)
    unfold fz at ih ⊢
    rw [List.zip_cons_cons, List.lookup_cons, beq_eq_false_iff_ne.mpr ne]
    exact ih
theorem fz_put {f : Str} {v : V} : ∀ (i : Nat) {names : List Str} {vals : List V}, names.Nodup → names[i]? = some f → i < vals.length → putF f v (fz names vals) = fz names (vals.set i v)
  | 0, n :: ns, w :: ws, _, h1, _ => by
    simp only [List.getElem?_cons_zero, Option.some.injEq] at h1
    subst h1
    unfold fz
    rw [List.zip_cons_cons, putF, if_pos rfl]
    rfl
  | i + 1, n :: ns, w :: ws, nd, h1, h2 => by
    rw [List.getElem?_cons_succ] at h1
    obtain ⟨n1, n2⟩ := List.nodup_cons.mp nd
    have ne : ¬ n = f := fun e => n1 (e.symm ▸ List.mem_of_getElem? h1)
    have ih := fz_put (v := v) i (vals := ws) n2 h1 (by simpa using h2)
    unfold fz at ih ⊢
    rw [List.zip_cons_cons, putF, if_neg ne, ih]
    rfl
  | _, [], _, _, h1, _ => by simp at h1
  | _, _ :: _, [], _, _, h2 => by simp at h2
theorem fz_new {f : Str} {v : V} : ∀ {names : List Str} {vals : List V}, f ∉ names → names.length = vals.length → putF f v (fz names vals) = fz (names ++ [f]) (vals ++ [v])
  | [], [], _, _ => rfl
  | [], _ :: _, _, h => by simp at h
  | _ :: _, [], _, h => by simp at h
  | n :: ns, w :: ws, h, hl => by
    have ne : ¬ n = f := fun e => h (by rw [e]; exact List.mem_cons_self)
    have ih := fz_new (f := f) (v := v) (names := ns) (vals := ws) (fun m => h (List.mem_cons_of_mem _ m)) (by simpa using hl)
    unfold fz at ih ⊢
    rw [List.zip_cons_cons, putF, if_neg ne, ih]
    rfl
theorem fz_len {names : List Str} {vals : List V} : (fz names vals).length ≤ names.length := by
  unfold fz
  rw [List.length_zip]
  exact Nat.min_le_left _ _
theorem fz_nil : ([] : List (Str × V)) = fz [] [] := rfl
theorem dz_at {f : Str} {v : V} : ∀ (i : Nat) {names : List Str} {vals : List V}, names.Nodup → names[i]? = some f → vals[i]? = some v → valV (dz names vals) (Sum.inr f) = some v
  | 0, n :: ns, w :: ws, _, h1, h2 => by
    simp only [List.getElem?_cons_zero, Option.some.injEq] at h1 h2
    subst h1 h2
    exact valV_pos (p := (Sum.inr n, w)) rfl
  | i + 1, n :: ns, w :: ws, nd, h1, h2 => by
    rw [List.getElem?_cons_succ] at h1 h2
    obtain ⟨n1, n2⟩ := List.nodup_cons.mp nd
    have ne : ¬ (Sum.inr n : Key) = Sum.inr f := fun e => n1 ((Sum.inr.inj e).symm ▸ List.mem_of_getElem? h1)
    have ih := dz_at i n2 h1 h2
    show valV ((Sum.inr n, w) :: dz ns ws) (Sum.inr f) = some v
    rw [valV_neg ne]
    exact ih
  | _, [], _, _, h1, _ => by simp at h1
  | _, _ :: _, [], _, _, h2 => by simp at h2
theorem dz_put {f : Str} {v : V} (i : Nat) {names : List Str} {vals : List V} (nd : names.Nodup) (h1 : names[i]? = some f) (h2 : i < vals.length) : putK (dz names vals) (Sum.inr f) v = dz names (vals.set i v) := by
  have e1 : vals[i]? = some vals[i] := List.getElem?_eq_getElem h2
  have hs : valV (dz names vals) (Sum.inr f) = some vals[i] := dz_at i nd h1 e1
  unfold putK
  rw [valV_any, hs]
  rw [if_pos (by rfl)]
  clear hs e1
  induction names generalizing vals i with
  | nil => simp at h1
  | cons n ns ih =>
    cases vals with
    | nil => simp at h2
    | cons w ws =>
      obtain ⟨n1, n2⟩ := List.nodup_cons.mp nd
      cases i with
      | zero =>
        simp only [List.getElem?_cons_zero, Option.some.injEq] at h1
        subst h1
        show (if (Sum.inr n : Key) = Sum.inr n then ((Sum.inr n : Key), v) else (Sum.inr n, w)) :: (dz ns ws).map _ = (Sum.inr n, v) :: dz ns ws
        rw [if_pos rfl]
        congr 1
        have : ∀ kv ∈ dz ns ws, (fun kv : Key × V => if kv.1 = Sum.inr n then (kv.1, v) else kv) kv = id kv := fun kv hk => by
          have m : kv.1 ∈ ns.map (Sum.inr : Str → Key) := (List.of_mem_zip hk).1
          obtain ⟨z, hz, e⟩ := List.mem_map.mp m
          have ne : ¬ kv.1 = Sum.inr n := fun q => n1 (by rw [← e] at q; exact (Sum.inr.inj q) ▸ hz)
          simp [ne]
        rw [List.map_congr_left this, List.map_id]
      | succ i =>
        rw [List.getElem?_cons_succ] at h1
        have ne : ¬ (Sum.inr n : Key) = Sum.inr f := fun e => n1 ((Sum.inr.inj e).symm ▸ List.mem_of_getElem? h1)
        show (if (Sum.inr n : Key) = Sum.inr f then ((Sum.inr n : Key), v) else (Sum.inr n, w)) :: (dz ns ws).map _ = (Sum.inr n, w) :: dz ns (ws.set i v)
        rw [if_neg ne, ih i n2 h1 (by simpa using h2)]
theorem mergeK_nd : ∀ (more kvs : List (Key × V)), ((kvs ++ more).map (·.1)).Nodup → mergeK kvs more = kvs ++ more
  | [], kvs, _ => by rw [List.append_nil]; rfl
  | p :: r, kvs, h => by
    have hp : valV kvs p.1 = none := by
      cases e : valV kvs p.1 with
      | none => rfl
      | some v =>
        have m := valV_in e
        rw [List.map_append, List.map_cons] at h
        have := (List.nodup_append.mp h).2.2 _ m _ List.mem_cons_self
        exact absurd rfl this
    have e : mergeK kvs (p :: r) = mergeK (putK kvs p.1 p.2) r := rfl
    rw [e, putK_new _ hp, mergeK_nd r (kvs ++ [(p.1, p.2)]) (by rw [List.append_assoc]; exact h), List.append_assoc]
    rfl
end Sd


namespace Sd
open PySem L2
/-- a word that the walk does not open -/
inductive Hold (p : Prop) : Prop where
  | mk (h : p)
  | mk' (h : p)
theorem Hold.out {p : Prop} (h : Hold p) : p := by cases h <;> assumption

section
variable {K : PySem.W.Frag} {H H1 : Hp} {L : Lg} {a b l p q : Addr} {o : HO} {P : V → Prop} {f : Str} {C dx : Addr} {fs : List (Str × V)} {v y : V} {xs ys : List V} {kvs : List (Key × V)} {names : List Str} {vals : List V}
theorem k_fld {P : Addr → Addr → V → Prop} (hL : Led H L) (e : At L a (.ins C dx fs)) (c : Cls K C) (n : NoAttr K C f) (lk : fs.lookup f = some v) (q : P a C v) :
    ∃ a' C' dx' fs' v', V.ref a = .ref a' ∧ H a' = some (.ins C' dx' fs') ∧ Cls K C' ∧ NoAttr K C' f ∧ fs'.lookup f = some v' ∧ P a' C' v' := ⟨_, _, _, _, _, rfl, hL.at e, c, n, lk, q⟩
/-- the ledger behind a change at a -/
def Upd (L : Lg) (a : Addr) (o o' : HO) (L' : Lg) : Prop := ∃ i : Nat, L[i]? = some (a, o) ∧ L' = L.set i (a, o')
theorem Upd.at {o' : HO} {L' : Lg} (u : Upd L a o o' L') : At L a o := let ⟨i, e, _⟩ := u; ⟨i, e⟩
theorem Led.upU {o' : HO} {L' : Lg} (hL : Led H L) (u : Upd L a o o' L') (hH : L2.upd H a o' = H1) : Led H1 L' := by
  obtain ⟨i, e, rfl⟩ := u
  rw [← hH]; exact hL.set i e
theorem Led.upF {fs' : List (Str × V)} {L' : Lg} (hL : Led H L) (u : Upd L a (.ins C dx fs) (.ins C dx fs') L') (e : putF f v fs = fs') (hH : L2.upd H a (.ins C dx (putF f v fs)) = H1) : Led H1 L' := by
  rw [e] at hH; exact hL.upU u hH
theorem Led.newH (hL : Led H L) (hp : H p = none) (hH : L2.upd H p o = H1) : Led H1 ((p, o) :: L) := by
  rw [← hH]; exact hL.new hp
theorem Led.made {x : Addr} (hL : Led H L) (hx : H x = none) (hd : H dx = none) (ne : dx ≠ x) (hH : L2.upd (L2.upd H dx (.own x)) x (.ins C dx []) = H1) : Led H1 ((x, .ins C dx (fz [] [])) :: L) := by
  rw [← hH]; exact (hL.skip hd).new (by rw [upd_ne ne.symm]; exact hx)
theorem Led.last {A R : Lg} {x : Addr × HO} (h : Led H (x :: (A ++ R))) : Led H ((A ++ [x]) ++ R) := by
  refine h.perm ?_
  rw [List.append_assoc]
  exact List.perm_middle.symm
/-- o.m(..): the object -/
theorem k_meth {P : Prop} (hL : Led H L) (e : At L a (.ins C dx fs)) (lk : fs.lookup f = none) (q : P) :
    ∃ a' dx' fs', V.ref a = .ref a' ∧ H a' = some (.ins C dx' fs') ∧ fs'.lookup f = none ∧ P := ⟨_, _, _, rfl, hL.at e, lk, q⟩
theorem k_dgetS {P : Addr → V → Prop} {x : Str} (hL : Led H L) (e : At L a (.dK kvs)) (lk : valV kvs (.inr x) = some v) (q : P a v) : ∃ a' v', V.ref a = .ref a' ∧ DGet H a' (.str x) (some v') ∧ P a' v' :=
  ⟨_, _, rfl, lk ▸ (DGet.k (k := .inr x) (hL.at e)), q⟩
theorem k_dgetI {P : Addr → V → Prop} {n : Int} (hL : Led H L) (e : At L a (.dK kvs)) (lk : valV kvs (.inl n) = some v) (q : P a v) : ∃ a' v', V.ref a = .ref a' ∧ DGet H a' (.int n) (some v') ∧ P a' v' :=
  ⟨_, _, rfl, lk ▸ (DGet.k (k := .inl n) (hL.at e)), q⟩
theorem k_dinS {P : Option V → Prop} {x : Str} (hL : Led H L) (e : At L a (.dK kvs)) (q : P (valV kvs (.inr x))) : ∃ a' o', V.ref a = .ref a' ∧ DGet H a' (.str x) o' ∧ P o' :=
  ⟨_, _, rfl, DGet.k (k := .inr x) (hL.at e), q⟩
theorem k_dinI {P : Option V → Prop} {n : Int} (hL : Led H L) (e : At L a (.dK kvs)) (q : P (valV kvs (.inl n))) : ∃ a' o', V.ref a = .ref a' ∧ DGet H a' (.int n) o' ∧ P o' :=
  ⟨_, _, rfl, DGet.k (k := .inl n) (hL.at e), q⟩
/-- d.get(k): the dict, then the answer -/
theorem k_isd {P : Prop} (hL : Led H L) (e : At L a (.dK kvs)) (q : P) : IsD H a ∧ P := ⟨.inl ⟨_, .inl (hL.at e)⟩, q⟩
theorem k_lenL' {P : Prop} (hL : Led H L) (e : At L l (.lst xs)) (q : P) : (SqL K H l xs ∨ SqT K H l xs) ∧ P := ⟨.inl (.of (hL.at e)), q⟩
theorem k_getI {P : Option V → Prop} {n : Int} (hL : Led H L) (e : At L a (.dK kvs)) (q : P (valV kvs (.inl n))) : ∃ o', DGet H a (.int n) o' ∧ P o' := ⟨_, DGet.k (k := .inl n) (hL.at e), q⟩
theorem k_getS {P : Option V → Prop} {x : Str} (hL : Led H L) (e : At L a (.dK kvs)) (q : P (valV kvs (.inr x))) : ∃ o', DGet H a (.str x) o' ∧ P o' := ⟨_, DGet.k (k := .inr x) (hL.at e), q⟩
theorem k_popI {P : List (Key × V) → Key → V → Prop} {n : Int} (hL : Led H L) (e : At L a (.dK kvs)) (lk : valV kvs (.inl n) = some v) (q : P kvs (.inl n) v) :
    ∃ kvs' k' v', H a = some (.dK kvs') ∧ V.int n = kV k' ∧ valV kvs' k' = some v' ∧ P kvs' k' v' := ⟨_, .inl n, _, hL.at e, rfl, lk, q⟩
theorem k_listD {P : List (Key × V) → Prop} (hL : Led H L) (e : At L a (.dK kvs)) (q : P kvs) : ∃ p kvs', [V.ref a] = [.ref p] ∧ H p = some (.dK kvs') ∧ P kvs' := ⟨_, _, rfl, hL.at e, q⟩
theorem Led.front {A B : Lg} {x : Addr × HO} (h : Led H (A ++ x :: B)) : Led H (x :: (A ++ B)) := h.perm List.perm_middle
theorem Led.back {A B : Lg} {x : Addr × HO} (h : Led H (x :: (A ++ B))) : Led H (A ++ x :: B) := h.perm List.perm_middle.symm
theorem k_dputS {P : Hp → Prop} {x : Str} {kvs' : List (Key × V)} {L' : Lg} (hL : Led H L) (e : At L a (.dK kvs)) (hz : kvs.length < sizeLine) (ep : putK kvs (.inr x) v = kvs') (u : Upd L a (.dK kvs) (.dK kvs') L')
    (q : ∀ H1, Led H1 L' → P H1) : ∃ a' H4, V.ref a = .ref a' ∧ DPut H a' (.str x) v H4 ∧ P H4 :=
  ⟨_, _, rfl, DPut.k (k := .inr x) (hL.at e) hz, q _ (hL.upU (ep ▸ u) rfl)⟩
theorem k_dputI {P : Hp → Prop} {n : Int} {kvs' : List (Key × V)} {L' : Lg} (hL : Led H L) (e : At L a (.dK kvs)) (hz : kvs.length < sizeLine) (ep : putK kvs (.inl n) v = kvs') (u : Upd L a (.dK kvs) (.dK kvs') L')
    (q : ∀ H1, Led H1 L' → P H1) : ∃ a' H4, V.ref a = .ref a' ∧ DPut H a' (.int n) v H4 ∧ P H4 :=
  ⟨_, _, rfl, DPut.k (k := .inl n) (hL.at e) hz, q _ (hL.upU (ep ▸ u) rfl)⟩
theorem dz_len : (dz names vals).length ≤ names.length := by unfold dz; rw [List.length_zip, List.length_map]; exact Nat.min_le_left _ _
theorem k_ixL {n : Int} (hL : Led H L) (e : At L l (.lst xs)) (lk : atI xs n = some v) (q : P v) : ∃ p xs' i v', V.ref l = .ref p ∧ V.int n = .int i ∧ SqL K H p xs' ∧ atI xs' i = some v' ∧ P v' :=
  ⟨_, _, _, _, rfl, rfl, .of (hL.at e), lk, q⟩
theorem k_ixT {n : Int} (hL : Led H L) (e : At L l (.tup xs)) (lk : atI xs n = some v) (q : P v) : ∃ p xs' i v', V.ref l = .ref p ∧ V.int n = .int i ∧ SqT K H p xs' ∧ atI xs' i = some v' ∧ P v' :=
  ⟨_, _, _, _, rfl, rfl, .of (hL.at e), lk, q⟩
theorem k_tyL {P : Prop} (hL : Led H L) (e : At L l (.lst xs)) (q : P) : tyV K "list" (.ref l) H ∧ P := ⟨.inl ⟨rfl, _, .of (hL.at e)⟩, q⟩
theorem k_lenL {P : Nat → Prop} (hL : Led H L) (e : At L l (.lst xs)) (q : P xs.length) : ∃ p ys, [V.ref l] = [.ref p] ∧ (SqL K H p ys ∨ SqT K H p ys) ∧ P ys.length := ⟨_, _, rfl, .inl (.of (hL.at e)), q⟩
theorem k_lenT {P : Nat → Prop} (hL : Led H L) (e : At L l (.tup xs)) (q : P xs.length) : ∃ p ys, [V.ref l] = [.ref p] ∧ (SqL K H p ys ∨ SqT K H p ys) ∧ P ys.length := ⟨_, _, rfl, .inr (.of (hL.at e)), q⟩
theorem k_gtup {P : List V → Prop} {n : Nat} (hL : Led H L) (e : At L a (.tup xs)) (hn : xs.length = n) (q : P xs) : ∃ a' xs', V.ref a = .ref a' ∧ SqT K H a' xs' ∧ xs'.length = n ∧ P xs' := ⟨_, _, rfl, .of (hL.at e), hn, q⟩
theorem k_cat {Q : VK} (hL : Led H L) (e1 : At L l (.lst xs)) (e2 : At L b (.lst ys)) (hz : xs.length + ys.length ≤ sizeLine) (q : ∀ p, H p = none → Q (.ref p) (L2.upd H p (.lst (xs ++ ys)))) : rCat (.ref l) (.ref b) H Q :=
  ⟨_, _, _, _, rfl, rfl, hL.at e1, hL.at e2, hz, q⟩
theorem k_yes {σ : L2.St} {A B : Hp → Prop} (h : A H) : tYes σ H fun b H3 => if b = true then A H3 else B H3 := by
  show (if true = true then A H else B H)
  rw [if_pos rfl]
  exact h
theorem ite_d {c A B : Prop} [Decidable c] (a : c → A) (b : ¬ c → B) : if decide c = true then A else B := by
  by_cases h : c
  · rw [if_pos (decide_eq_true h)]; exact a h
  · rw [if_neg (by rw [decide_eq_false h]; decide)]; exact b h
theorem ite_n {c A B : Prop} [Decidable c] (a : ¬ c → A) (b : c → B) : if (!decide c) = true then A else B := by
  by_cases h : c
  · rw [decide_eq_true h]; exact b h
  · rw [decide_eq_false h]; exact a h
theorem ite_b {b : Bool} {A B : Prop} (h1 : b = true → A) (h2 : b = false → B) : if b = true then A else B := by
  cases b with
  | true => exact h1 rfl
  | false => exact h2 rfl
theorem ite_t {b : Bool} {A B : Prop} (e : b = true) (h : A) : if b = true then A else B := by rw [if_pos e]; exact h
theorem ite_f {b : Bool} {A B : Prop} (e : b = false) (h : B) : if b = true then A else B := by rw [e]; exact h
end
end Sd


/-! A lambda without parameters as a value: made, kept, called by another def; what told makes of it. -/
namespace Sd
open PySem PySem.Spec PyProof.Rows L2 LamX NdefX
/-- the object at f is the lambda whose words F tells, its body b -/
def LamO (f : Addr) (F : NF) (b : Expr) : HO := .ext fun h => ∃ pm ctv : Value, h.get? f = some (PySem.W.kla_obj F.name F.qual F.params b F.scope F.cl pm F.c ctv)
theorem lamO_at {P : Program} {w : World} {H : Hp} {h : Heap} {f : Addr} {F : NF} {b : Expr} (hok : HOk P w H h) (e : H f = some (LamO f F b)) : ∃ pm ctv : Value, h.get? f = some (PySem.W.kla_obj F.name F.qual F.params b F.scope F.cl pm F.c ctv) :=
  (hok f _ e).1
section
variable {X : Cx} {pins : List (Addr × Obj)} {σ : L2.St} {H : Hp} {s : Shared}
theorem inv_lam {F : NF} {b : Expr} {t' : Nat} {pm ctv : Value} (I : Inv X pins σ H s) :
    Inv X pins σ (upd H s.heap.objs.size (LamO s.heap.objs.size F b)) { s with heap := s.heap.push (PySem.W.kla_obj F.name F.qual F.params b F.scope F.cl pm F.c ctv), toks := t' } := by
  have e : (s.heap.push (PySem.W.kla_obj F.name F.qual F.params b F.scope F.cl pm F.c ctv)).get? s.heap.objs.size = some (PySem.W.kla_obj F.name F.qual F.params b F.scope F.cl pm F.c ctv) := Heap.get?_push_size _ rfl
  exact I.laid (fun b u e => Heap.get?_push_of_some _ e) (Nat.le_refl _) ⟨⟨pm, ctv, e⟩, ⟨_, e⟩, fun h1 h2 ⟨p, t, z⟩ st => ⟨p, t, st _ z⟩⟩
theorem lam_value {q : Str} {c P : Addr} {params : Arguments} {body : Expr} {scope : Scope} {pos : Pos} {E : Value → Shared → Prop} {Q : Value → Shared → Prop} (I : Inv X pins σ H s) (TB : TabB X.base X.mg c P) (hcode : X.env.code = .ref c) (hq : X.env.qual ++ "<lambda>" = q)
    (hT : TabS H P q) (hdef : defaultsOf params X.env = ([], [])) (hfree : ∀ y ∈ scope.names, y.2 = .free → ∃ c, X.env.cells.lookup y.1 = some c)
    (h : ∀ (f c' : Addr) (H1 : Hp) (s' : Shared), Inv X pins σ H1 s' → ExtN H H1 → TabS H1 P q → H f = none → H1 f = some (LamO f ⟨"<lambda>", q, params, [], scope, cloFrom X.env.cells scope.names [], c'⟩ body) → H1 c' = some (CodeO c' q) → Q (.ref f) s') :
    wpAny (model X.prog X.w) X.A (eval (.Lambda params body scope pos) X.env) Q E s := by
  subst hq
  obtain ⟨ps, hP, ht, ha⟩ := hT
  have bP : s.heap.BuiltinsAt X.mg P := TB.bm.keeps I.bk
  have hP' : s.heap.get? P = some { cls := .none, data := .fields ps } := I.hok P _ hP
  refine PySem.W.kla_eval hdef ?_
  rcases hc : codeAmong pos ps.toList with _ | cv
  · refine PySem.W.kla_makeFunction (mg := X.mg) (c := c) (P := P) (ps := ps) (closure_ok hfree) I.ok.glob (I.mod.glob.keeps I.bk) hcode (TB.code.keeps I.bk) hP' ht hc TB.gP bP fun c' ctv h' tk hx hge hlt hrec htb => ?_
    obtain ⟨_, oc, vs, t, e2, hoc, hd, hv⟩ := hrec
    cases e2
    have nC : H c' = none := I.hok.fresh hge
    have I1 := inv_table (t' := tk) (more := #[rawInt pos.line, rawInt pos.col, .ref c']) (h' := h') I hP (fun b o hb e => hx b o hb e) htb hge ⟨oc, vs, t, hoc, hd, hv⟩
    have eN : ExtN H (upd (upd H P (.tbl (ps ++ #[rawInt pos.line, rawInt pos.col, .ref c']))) c' (CodeO c' (X.env.qual ++ "<lambda>"))) := fun b o e n => by
      rw [upd_ne (ne_of_none e nC), upd_ne (fun z => n ps (Option.some.inj (e.symm.trans (by rw [z]; exact hP))))]
      exact e
    have nF := I1.hok.fresh (Nat.le_refl _)
    have I2 := inv_lam (F := ⟨"<lambda>", X.env.qual ++ "<lambda>", params, [], scope, cloFrom X.env.cells scope.names [], c'⟩) (b := body) (t' := tk) (pm := (X.mg "__name__").getD .none) (ctv := ctv) I1
    have T1 : TabS (upd (upd H P (.tbl (ps ++ #[rawInt pos.line, rawInt pos.col, .ref c']))) c' (CodeO c' (X.env.qual ++ "<lambda>"))) P (X.env.qual ++ "<lambda>") := by
      have eL : (ps ++ #[rawInt pos.line, rawInt pos.col, .ref c']).toList = ps.toList ++ [rawInt pos.line, rawInt pos.col, .ref c'] := by simp
      refine ⟨_, by rw [upd_ne (ne_of_none hP nC), upd_same], by rw [eL]; exact PySem.TriplesOk_snoc _ _ _ _ ht, fun p' cv hcv => ?_⟩
      rw [eL] at hcv
      rcases among_app _ ht hcv with z | z
      · obtain ⟨c0, e1, e2⟩ := ha p' cv z
        exact ⟨c0, e1, eN _ _ e2 codeO_ne⟩
      · exact ⟨c', z, upd_same⟩
    refine h h'.objs.size c' _ _ I2 (fun b o e n => ?_) (T1.ext fun b o e => ?_) (I.hok.fresh (Nat.le_trans hge (Nat.le_of_lt hlt))) upd_same ?_
    · have e1 := eN b o e n
      exact (upd_ne (ne_of_none e1 nF)).trans e1
    · exact (upd_ne (ne_of_none e nF)).trans e
    · exact (upd_ne (Nat.ne_of_lt hlt)).trans upd_same
  · obtain ⟨c', e, hco⟩ := ha pos cv hc
    subst e
    refine PySem.W.kla_makeFunctionHit (mg := X.mg) (c := c) (P := P) (ps := ps) (closure_ok hfree) I.ok.glob (I.mod.glob.keeps I.bk) hcode (TB.code.keeps I.bk) hP' ht hc bP fun ctv h' tk hx hsz => ?_
    have I1 : Inv X pins σ H { s with heap := h', toks := tk } := I.kept hx
    have nF : H h'.objs.size = none := I1.hok.fresh (Nat.le_refl _)
    have I2 := inv_lam (F := ⟨"<lambda>", X.env.qual ++ "<lambda>", params, [], scope, cloFrom X.env.cells scope.names [], c'⟩) (b := body) (t' := tk) (pm := (X.mg "__name__").getD .none) (ctv := ctv) I1
    refine h h'.objs.size c' _ _ I2 (fun b o e n => ?_) (TabS.ext ⟨ps, hP, ht, ha⟩ fun b o e => ?_) nF upd_same ?_
    · exact (upd_ne (ne_of_none e nF)).trans e
    · exact (upd_ne (ne_of_none e nF)).trans e
    · exact (upd_ne (ne_of_none hco nF)).trans hco
end
/-- lambda: body; the names that it captures: none -/
def tLamV (P : Addr) (q : Str) (params : Arguments) (body : Expr) (scope : Scope) : TE := fun _ H Q => TabS H P q ∧ ∀ (f c' : Addr) (H1 : Hp), ExtN H H1 → TabS H1 P q → H f = none → H1 f = some (LamO f ⟨"<lambda>", q, params, [], scope, [], c'⟩ body) → H1 c' = some (CodeO c' q) → Q (.ref f) H1
theorem clo_nil {cells : List (Str × Addr)} : ∀ {names : List (Str × NameKind)}, (∀ y ∈ names, y.2 ≠ .free) → cloFrom cells names [] = []
  | [], _ => rfl
  | (x, k) :: r, h => by
    have ih := clo_nil (cells := cells) (names := r) fun y hy => h y (List.mem_cons_of_mem _ hy)
    have hk := h (x, k) List.mem_cons_self
    cases k <;> first | exact absurd rfl hk | (simp only [cloFrom]; first | exact ih | (rw [ih]) | simpa using ih)
theorem pe_lamv {X : Cx} {q : Str} {c P : Addr} {params : Arguments} {body : Expr} {scope : Scope} {pos : Pos} (TB : TabB X.base X.mg c P) (hcode : X.env.code = .ref c) (hq : X.env.qual ++ "<lambda>" = q) (hdef : defaultsOf params X.env = ([], []))
    (hfree : ∀ y ∈ scope.names, y.2 ≠ .free) : PE X (.Lambda params body scope pos) (tLamV P q params body scope) := by
  refine ⟨fun pins s σ H Q I h => ?_⟩
  obtain ⟨hT, h⟩ := h
  refine lam_value I TB hcode hq hT hdef (fun y hy e => absurd e (hfree y hy)) fun f c' H1 s' I1 eN T1 f0 f1 c1 => ?_
  rw [clo_nil hfree] at f1
  exact ⟨.ref f, H1, I1, rfl, h f c' H1 eN T1 f0 f1 c1⟩
/-! ### what it promises -/
structure LOk (P : Program) (w : World) (K : PySem.W.Frag) (mg : Str → Option Value) (base : Heap) (k : Nat) (f : Addr) (F : NF) (b : Expr) (tl : Hp → VK → XK → Prop) : Prop where
  run : ∀ (A : Around) (outer : List Env) (s : Shared) (H : Hp) (Q : VK) (E : XK), Room k A → Env0 P w K mg base A outer s H → H f = some (LamO f F b) → H F.c = some (CodeO F.c F.qual) → tl H Q E →
    codeAny (model P w) A (.call (.ref f) ⟨[], []⟩) (CR (L2.CX P w) outer P w H s Q E) s
section
variable {P : Program} {w : World} {K : PySem.W.Frag} {mg : Str → Option Value} {base : Heap} {F : NF} {f : Addr} {b : Expr} {k j : Nat} {tl : Hp → VK → XK → Prop}
theorem lok_of (S : NScope [] [] [] F.scope) (hcl : F.cl = []) (hb : ∀ pm cv ctv : Value, bindArgs (PySem.W.kla_fn F.name F.qual F.params b F.scope F.cl pm cv ctv) ⟨[], []⟩ = pure [])
    (hbody : ∀ (A : Around) (outer : List Env) (s : Shared) (H : Hp) (Q : VK) (E : XK), Room k (A.deeper (envF F f s.heap.objs.size)) → tl H Q E → ∃ t : TE, PE (ncx (L2.CX P w) P w K mg base [] F f A outer s H E) b t ∧ t [] H Q) :
    LOk P w K mg base (k + 1) f F b tl := by
  refine ⟨fun A outer s H Q E hr e0 hf hc h => ?_⟩
  have lim : s.heap.NoLimit := e0.mod.nolimit.keeps fun b o e => (e0.bs b o e).1
  obtain ⟨pm, ctv, ho⟩ := lamO_at e0.hok hf
  refine PySem.W.kla_callFunE hr.depth ho rfl S.co S.gen rfl (codeO_at e0.hok hc) ?_
  rw [hb]
  refine wpAny_pure (wpAny_newFunctionEnv S.nocell (fun y hy => absurd hy (by simp)) (fun h₁ hns hsb => ⟨lim.fresh _ hsb, ?_⟩) S.kind)
  show codeAny _ _ (.expr b (envF F f s.heap.objs.size)) _ _
  have kp : ∀ b o, s.heap.get? b = some o → h₁.get? b = some o := fun b o e => hsb.extBut b o (Nat.ne_of_lt (Heap.lt_size e)) (Heap.get?_push_of_some _ e)
  obtain ⟨t, ht, hq⟩ := hbody A outer s H Q E (hr.deeper _) h
  have C : CellsAt F.cl [] [] s.heap H := by
    rw [hcl]
    exact ⟨rfl, (fun y c e => by cases e), (fun x y c e => by cases e), (fun i y e => by simp at e)⟩
  have I : Inv (ncx (L2.CX P w) P w K mg base [] F f A outer s H E) [] (startF [] [] []) H { s with heap := h₁, toks := s.toks + ([] : List (Str × Value)).length } :=
    inv_startN (N := []) (ps := []) (fr := []) (vs := []) (us := []) (ws := []) S hr.hd e0 rfl .nil C hns kp
  refine PySem.W.kla_codeExpr (wpAny_mono (ht.run [] _ [] H Q I hq) (fun v s' hq => ?_) fun e s' hq => hq)
  obtain ⟨w', H', J', rv, q⟩ := hq
  exact ⟨w', H', J'.os, J'.bare, J'.base, J'.hok, rv, q⟩
end
/-- x(), x a name that holds a lambda -/
def tLamC (P : Program) (w : World) (K : PySem.W.Frag) (mg : Str → Option Value) (base : Heap) (k i : Nat) (W : WX) : TE := fun σ H Q => ∃ (f : Addr) (F : NF) (b : Expr) (tl : Hp → VK → XK → Prop) (E : XK), (∀ cls d σ' H', E cls d H' → W cls d σ' H') ∧
  σ[i]? = some (some (.ref f)) ∧ H f = some (LamO f F b) ∧ H F.c = some (CodeO F.c F.qual) ∧ LOk P w K mg base k f F b tl ∧ tl H Q E
theorem pe_lamc {X : Cx} {W : WX} {i k : Nat} {x : Str} {p pos : Pos} (tk : Takes X W) (hr : Room k X.A) (hN : X.N[i]? = some x) (hv : Vis X.env.scope x) (hd : (x == ("__debug__" : Str)) = false := by decide) (hcd : (x == ("__classdict__" : Str)) = false := by decide) :
    PE X (.Call (.Name x p) [] [] pos) (tLamC X.prog X.w X.K X.mg X.base k i W) := by
  refine ⟨fun pins s σ H Q I h => ?_⟩
  obtain ⟨f, F, b, tl, E, hW, hs, hf, hc, L, ht⟩ := h
  refine wpAny_Call_Name_kw (thn ((pe_var (pos := p) hN hv hd hcd).run pins s σ H (fun v H1 => v = .ref f ∧ H1 = H) I ⟨.ref f, hs, rfl, rfl⟩) fun u s1 ⟨v, H1, I1, r1, q1⟩ => ?_)
  obtain ⟨ev, eH⟩ := q1
  subst ev
  rw [eH] at I1
  obtain rfl : u = Value.ref f := r1
  obtain ⟨pm, ctv, ho⟩ := lamO_at I1.hok hf
  refine PySem.W.callWith_F0 (first := []) ⟨_, _, _, _, ho⟩ ?_
  show wpAny _ _ (call (.ref f) []) _ _ _
  refine wpAny_call (codeAny_mono (L.run X.A X.stack s1 H Q E hr I1.env0 hf hc ht) fun r s' hq => ?_)
  cases r with
  | error e => exact passes_call tk hW pins σ H s1 e s' I1 hq
  | ok fl =>
    cases fl with
    | ret u => exact I1.after hq
    | next => exact False.elim hq
    | brk => exact False.elim hq
    | cont => exact False.elim hq
/-- def told(what): try: return what() / except X: return ret -/
def spTold (P : Program) (w : World) (K : PySem.W.Frag) (mg : Str → Option Value) (base : Heap) (k : Nat) (CS : Addr) (ret : Str) : Sp := fun vs H Q _ => ∃ (f : Addr) (F : NF) (b : Expr) (tl : Hp → VK → XK → Prop), vs = [.ref f] ∧
  H f = some (LamO f F b) ∧ H F.c = some (CodeO F.c F.qual) ∧ LOk P w K mg base k f F b tl ∧ tl H Q (fun cls _ H' => ∃ b, PySem.W.exmOne K cls (.ref CS) = some b ∧ (b = true → Q (.str ret) H') ∧ (b = false → False))
theorem ps_told {P : Program} {w : World} {K : PySem.W.Frag} {mg : Str → Option Value} {base : Heap} {N : List Str} {q : Str} {sc : Scope} {g : Addr} {cdv : Value} {A : Around} {outer : List Env} {s : Shared} {H : Hp} {E : XK} {ret e a : Str} {CS : Addr} {k j : Nat} {p1 p2 p3 p4 p5 p6 p7 p8 : Pos} {Q : VK} {vs : List V}
    (hge : sc.names.lookup e = some .globalImplicit) (hme : mg e = some (.ref CS)) (hN : N[0]? = some a) (hv : Vis sc a) (h0 : ∀ f : Addr, (L2.start N [V.ref f])[0]? = some (some (V.ref f))) (hr : Room k (A.deeper (envOfC q sc s.heap.objs.size g cdv)))
    (h : spTold P w K mg base k CS ret vs H Q E) (hde : (e == ("__debug__" : Str)) = false := by decide) (hd : (a == ("__debug__" : Str)) = false := by decide) (hcd : (a == ("__classdict__" : Str)) = false := by decide) :
    ∃ t, PSs (cxOf C8.CX0 P w K mg base N q sc g cdv A outer s H E).nox [.Try [.Return (some (.Call (.Name a p1) [] [] p2)) p3] [.ExceptHandler (some (.Name e p4)) none [.Return (some (.Constant (.str ret) j p5)) p6] p7] [] [] p8] t ∧
      t { nx := fun _ H' => Q .non H', rt := Q } (L2.start N vs) H := by
  obtain ⟨f, F, b, tl, rfl, hf, hc, L, ht⟩ := h
  have hgl : Gl (cxOf C8.CX0 P w K mg base N q sc g cdv A outer s H E).nox e := hge
  refine ⟨_, pss_one (ps_try_only (c := .ref CS) (tb := fun W D σ H => tLamC P w K mg base k 0 W σ H D.rt) rfl rfl ⟨hgl, hde, .inl hme⟩ L2.takes0 (fun W pn xe tk _ => pss_one (ps_ret (pe_lamc tk hr hN hv hd hcd))) (fun a oe cls d pn _ _ => pss_one (ps_ret pe_str))), ?_⟩
  refine ⟨f, F, b, tl, _, fun cls d σ' H' q => ?_, h0 f, hf, hc, L, ht⟩
  obtain ⟨b, e1, e2, e3⟩ := q
  exact ⟨b, e1, fun hb a _ => e2 hb, fun hb => e3 hb⟩
/-! ### defs that may raise -/
structure MakX (P : Program) (w : World) (K : PySem.W.Frag) (mg : Str → Option Value) (base : Heap) (k : Nat) (x : Str) (C : Addr) (sp : Sp) (dvs : List V) : Prop where
  ex : ∃ (f : Addr) (fd : FuncData) (ps : List Str) (ds : List Value), Mk K C f ∧ FnOk P w K mg base (L2.CX P w) k f fd ps sp ∧ mg x = some (.ref C) ∧ Binds K fd ps ds ∧ Vals dvs ds
structure MetX (P : Program) (w : World) (K : PySem.W.Frag) (mg : Str → Option Value) (base : Heap) (k : Nat) (C : Addr) (m : Str) (sp : Sp) (dvs : List V) : Prop where
  ex : ∃ (f : Addr) (fd : FuncData) (ps : List Str) (ds : List Value), Cls K C ∧ Meth K C m f ∧ FnOk P w K mg base (L2.CX P w) k f fd ps sp ∧ Binds K fd ps ds ∧ Vals dvs ds
structure CalX (P : Program) (w : World) (K : PySem.W.Frag) (mg : Str → Option Value) (base : Heap) (k : Nat) (x : Str) (sp : Sp) (dvs : List V) : Prop where
  ex : ∃ (f : Addr) (fd : FuncData) (ps : List Str) (ds : List Value), FnOk P w K mg base (L2.CX P w) k f fd ps sp ∧ mg x = some (.ref f) ∧ PySem.W.keepIn K (.ref f) = true ∧ Binds K fd ps ds ∧ Vals dvs ds
section
variable {X : Cx} {k j : Nat} {C : Addr} {x m : Str} {sp : Sp} {dvs : List V} {p pos apos : Pos} {e o : Expr} {es : List Expr} {ta : TE} {t : TA} {E : XK}
theorem pe_cX (c : CalX X.prog X.w X.K X.mg X.base k x sp dvs) (hr : Room j X.A) (hk : k ≤ j) (hg : Gl X x) (tk : Takes X (fun cls d _ H => E cls d H)) (ha : PA X (e :: es) t)
    (hdb : (x == ("__debug__" : Str)) = false := by decide) (he : starEach (e :: es) X.env = (false, eval e X.env) :: starEach es X.env := by rfl) (hpl : (backTo pos (starEach es X.env)).any (·.1) = false := by rfl) :
    PE X (.Call (.Name x p) (e :: es) [] pos) (tCall sp dvs E t) := by
  obtain ⟨f, fd, ps, ds, F, hm, kp, b, d⟩ := c.ex
  exact pe_call F (hr.mono hk) hg hm kp b d (passes_call tk fun _ _ _ _ h => h) ha hdb he hpl
theorem pe_mkX (c : MakX X.prog X.w X.K X.mg X.base k x C sp dvs) (hr : Room j X.A) (hk : k + 1 ≤ j) (hg : Gl X x) (tk : Takes X (fun cls d _ H => E cls d H)) (ha : PA X (e :: es) t)
    (hdb : (x == ("__debug__" : Str)) = false := by decide) (he : starEach (e :: es) X.env = (false, eval e X.env) :: starEach es X.env := by rfl) (hpl : (backTo pos (starEach es X.env)).any (·.1) = false := by rfl) :
    PE X (.Call (.Name x p) (e :: es) [] pos) (tMake C sp dvs E t) := by
  obtain ⟨f, fd, ps, ds, M, F, hm, b, d⟩ := c.ex
  exact pe_make M F (hr.mono hk) hg hm b d (passes_call tk fun _ _ _ _ h => h) ha hdb he hpl
theorem pe_mtX {pl : Sem Bool} (c : MetX X.prog X.w X.K X.mg X.base k C m sp dvs) (hr : Room j X.A) (hk : k ≤ j) (tk : Takes X (fun cls d _ H => E cls d H)) (he : PE X o ta) (ha : PA X (e :: es) t)
    (hst : starEach (e :: es) X.env = (false, eval e X.env) :: starEach es X.env := by rfl) (hpl : (backTo pos (starEach es X.env)).any (·.1) = false := by rfl)
    (ht : eval (.Call (.Attribute o m apos) (e :: es) [] pos) X.env = (do
      let ov ← eval o X.env
      standAt apos.atName
      let (f, first) ← holding [ov] (getMethod ov m pl)
      callWith pos f first (backTo pos (starEach (e :: es) X.env)) (backToKw pos (keywordEach [] X.env))) := by rfl) :
    PE X (.Call (.Attribute o m apos) (e :: es) [] pos) (tMeth C m sp dvs E ta t) := by
  obtain ⟨f, fd, ps, ds, hc, hm, F, b, d⟩ := c.ex
  exact pe_meth (pl := pl) he hc hm F (hr.mono hk) b d (passes_call tk fun _ _ _ _ h => h) ha hst hpl ht
end
/-- an own error class below ValueError, without __init__ -/
structure ExcT (K : PySem.W.Frag) (mg : Str → Option Value) (x : Str) (C : Addr) : Prop where
  g : mg x = some (.ref C)
  ex : PySem.W.excIn K C [.type "ValueError", .type "Exception", .type "BaseException", .type "object"] "ValueError.__new__" = true
  kp : PySem.W.keepIn K (.ref C) = true
  sb : PySem.W.subIn K (.ref C) (.type "BaseException") = some true
  ty : PySem.W.typeIn K (.ref C) = some (.type "type")
  ic : PySem.W.isClsIn K C = true
  ss : PySem.W.subIn K (.ref C) (.ref C) = some true
theorem ExcT.em {K : PySem.W.Frag} {mg : Str → Option Value} {x : Str} {C : Addr} (T : ExcT K mg x C) : PySem.W.exmOne K (.ref C) (.ref C) = some true := by
  have ic : (PySem.W.clsIn K C).isSome = true := T.ic
  simp [PySem.W.exmOne, PySem.W.kitCls, T.sb, ic, T.ty, T.ss]
theorem ps_raiseT {X : Cx} {W : WX} {x m : Str} {C : Addr} {j : Nat} {p p2 pos pos2 : Pos} (T : ExcT X.K X.mg x C) (hc : X.calm = true) (tk : Takes X W) (hg : Gl X x) (hdb : (x == ("__debug__" : Str)) = false := by decide) :
    PS X (.Raise (some (.Call (.Name x p) [.Constant (.str m) j p2] [] pos)) none pos2) (fun _ σ H => W (.ref C) none σ H) :=
  ps_raise hc tk (pmk_own PySem.F.excBase_ValueError T.ex T.g T.kp (raises_own T.sb T.ty) hg hdb)
/-- Fun.ok for a def with defaults -/
theorem funD_ok0 {P : Program} {w : World} {K : PySem.W.Frag} {mg : Str → Option Value} {base : Heap} {x qual : Str} {params : Arguments} {body : List Stmt} {scope : Scope} {dvs : List V} {kws : List (Str × V)} {f : Addr} {fd : FuncData}
    {N ps : List Str} {k : Nat} {sp : Sp} (F : FunD K x qual params body scope dvs kws f fd) (S : FnScope N ps scope) (len : ∀ vs H Q E, sp vs H Q E → vs.length = ps.length)
    (hbody : ∀ (cdv : Value) (A : Around) (outer : List Env) (s : Shared) (H : Hp) (vs : List V) (Q : VK) (E : XK), Room k (A.deeper (envOfC qual scope s.heap.objs.size f cdv)) → sp vs H Q E →
      ∃ t, PSs (cxOf L2.CX0 P w K mg base N qual scope f cdv A outer s H E).nox body t ∧ t { nx := fun _ H' => Q .non H', rt := Q } (start N vs) H) : FnOk P w K mg base L2.CX0 (k + 1) f fd ps sp :=
  F.ok S len fun cdv A outer s H vs Q E hr hsp => let ⟨t, h, q⟩ := hbody cdv A outer s H vs Q E hr hsp; ⟨t, h.nox, q⟩
end Sd


/-! == and != of data without dicts: what the law compares. -/
namespace Sd
open PySem PySem.Spec PyProof.Rows L2
mutual
theorem eqv_self : ∀ d : PyData, d.plain = true → PyData.eqv d d = true
  | .none, _ => rfl
  | .bool b, _ => by simp [PyData.eqv]
  | .int i, _ => by simp [PyData.eqv]
  | .str x, _ => by simp [PyData.eqv]
  | .list xs, h => by
    simp only [PyData.eqv]
    exact eqv_selfAll xs (by simpa [PyData.plain] using h)
  | .tuple xs, h => by
    simp only [PyData.eqv]
    exact eqv_selfAll xs (by simpa [PyData.plain] using h)
  | .dict _, h => by simp [PyData.plain] at h
theorem eqv_selfAll : ∀ xs : List PyData, PyData.plainAll xs = true → PyData.eqvAll xs xs = true
  | [], _ => by simp [PyData.eqvAll]
  | x :: xs, h => by
    simp only [PyData.plainAll, Bool.and_eq_true] at h
    simp only [PyData.eqvAll, Bool.and_eq_true]
    exact ⟨eqv_self x h.1, eqv_selfAll xs h.2⟩
end
/-- data that may be compared: no dict, not deep -/
structure Shal (d : PyData) : Prop where
  p : d.plain = true
  d : d.depth ≤ 60
def rEqP (K : PySem.W.Frag) : R2 := fun x y H Q => ∃ d e, Dp K H x d ∧ Dp K H y e ∧ Shal d ∧ Shal e ∧ Q (.bl (PyData.eqv d e)) H
def rNeP (K : PySem.W.Frag) : R2 := fun x y H Q => ∃ d e, Dp K H x d ∧ Dp K H y e ∧ Shal d ∧ Shal e ∧ Q (.bl (!PyData.eqv d e)) H
section
variable {X : Cx}
theorem op_eqP (hu : X.A.units + 64 < cLine) : OpR X (compareOp .Eq) (rEqP X.K) := by
  intro pins s σ H x y v u Q I rx ry h
  obtain ⟨d, e, hd, he, sd, se, q⟩ := h
  obtain ⟨as, r1⟩ := Dp.reads I d x v hd rx
  obtain ⟨bs, r2⟩ := Dp.reads I e y u he ry
  have := sd.d
  exact PySem.SeqAt.eq_plain r1 r2 sd.p se.p (by omega) ⟨.bl _, H, I, rfl, q⟩
theorem op_neP (hu : X.A.units + 64 < cLine) : OpR X (compareOp .NotEq) (rNeP X.K) := by
  intro pins s σ H x y v u Q I rx ry h
  obtain ⟨d, e, hd, he, sd, se, q⟩ := h
  obtain ⟨as, r1⟩ := Dp.reads I d x v hd rx
  obtain ⟨bs, r2⟩ := Dp.reads I e y u he ry
  have := sd.d
  exact PySem.SeqAt.ne_plain r1 r2 sd.p se.p (by omega) ⟨.bl _, H, I, rfl, q⟩
end
section
variable {K : PySem.W.Frag} {H : Hp} {x y : V} {d e : PyData} {Q : VK}
theorem k_eqSame (h1 : Dp K H x d) (h2 : Dp K H y d) (s : Shal d) (q : Q (.bl true) H) : rEqP K x y H Q := ⟨d, d, h1, h2, s, s, by rw [eqv_self d s.p]; exact q⟩
theorem k_neSame (h1 : Dp K H x d) (h2 : Dp K H y d) (s : Shal d) (q : Q (.bl false) H) : rNeP K x y H Q := ⟨d, d, h1, h2, s, s, by rw [eqv_self d s.p]; exact q⟩
theorem dp_all {α : Type} {f : α → V} {g : α → PyData} : ∀ {l : List α}, (∀ a ∈ l, Dp K H (f a) (g a)) → DpAll K H (l.map f) (l.map g)
  | [], _ => .nil
  | a :: l, h => .cons (h a List.mem_cons_self) (dp_all fun b hb => h b (List.mem_cons_of_mem _ hb))
theorem plain_all {α : Type} {g : α → PyData} : ∀ {l : List α}, (∀ a ∈ l, (g a).plain = true) → PyData.plainAll (l.map g) = true
  | [], _ => by simp [PyData.plainAll]
  | a :: l, h => by
    simp only [List.map_cons, PyData.plainAll, Bool.and_eq_true]
    exact ⟨h a List.mem_cons_self, plain_all fun b hb => h b (List.mem_cons_of_mem _ hb)⟩
theorem depth_all {α : Type} {g : α → PyData} {n : Nat} : ∀ {l : List α}, (∀ a ∈ l, (g a).depth ≤ n) → PyData.depthAll (l.map g) ≤ n
  | [], _ => by simp [PyData.depthAll]
  | a :: l, h => by
    simp only [List.map_cons, PyData.depthAll]
    exact Nat.max_le.mpr ⟨h a List.mem_cons_self, depth_all fun b hb => h b (List.mem_cons_of_mem _ hb)⟩
theorem shal_list {α : Type} {g : α → PyData} {l : List α} {n : Nat} (hn : n < 60) (h : ∀ a ∈ l, (g a).plain = true ∧ (g a).depth ≤ n) : Shal (.list (l.map g)) := by
  refine ⟨by simp only [PyData.plain]; exact plain_all fun a ha => (h a ha).1, ?_⟩
  have := depth_all (l := l) (g := g) (n := n) fun a ha => (h a ha).2
  simp only [PyData.depth]
  omega
theorem dp_ints {ns : List Int} : DpAll K H (ns.map V.int) (ns.map PyData.int) := dp_all fun _ _ => .int _
theorem shal_ints {ns : List Int} : Shal (.list (ns.map PyData.int)) := shal_list (n := 0) (by decide) fun _ _ => ⟨by simp [PyData.plain], by simp [PyData.depth]⟩
theorem dp_lst {a : Addr} {xs : List V} {ds : List PyData} (h : H a = some (.lst xs)) (hd : DpAll K H xs ds) : Dp K H (.ref a) (.list ds) := .lst (.of h) hd
theorem dp_tup {a : Addr} {xs : List V} {ds : List PyData} (h : H a = some (.tup xs)) (hd : DpAll K H xs ds) : Dp K H (.ref a) (.tuple ds) := .tup (.of h) hd
end
end Sd


namespace Sd
open PySem L2
def top (i : Nat) : Stmt := PySem.Challenge.pw_shardstack_k22_work_that_is_given_out.main.body.getD i (.Pass ⟨0, 0, 0, 0⟩)
abbrev sDice : Stmt := top 8
abbrev sRoll : Stmt := top 9
abbrev sRounds : Stmt := top 10

structure TxtL (mg : Str → Option Value) : Prop where
  abs : mg "abs" = none
  int : mg "int" = none
set_option hygiene false
local macro_rules | `(tactic| fail "nd") => `(tactic| first | assumption | decide +kernel)
local macro_rules | `(tactic| fail "ix") => `(tactic| first | exact ⟨0, rfl⟩ | exact ⟨1, rfl⟩ | exact ⟨2, rfl⟩ | exact ⟨3, rfl⟩ | exact ⟨4, rfl⟩ | exact ⟨5, rfl⟩ | exact ⟨6, rfl⟩ | exact ⟨7, rfl⟩ | exact ⟨8, rfl⟩ | exact ⟨9, rfl⟩ | exact ⟨10, rfl⟩ | exact ⟨11, rfl⟩ | exact ⟨12, rfl⟩ | assumption)
local macro_rules | `(tactic| fail "up") => `(tactic| first | exact ⟨0, rfl, rfl⟩ | exact ⟨1, rfl, rfl⟩ | exact ⟨2, rfl, rfl⟩ | exact ⟨3, rfl, rfl⟩ | exact ⟨4, rfl, rfl⟩ | exact ⟨5, rfl, rfl⟩ | exact ⟨6, rfl, rfl⟩ | exact ⟨7, rfl, rfl⟩ | exact ⟨8, rfl, rfl⟩ | exact ⟨9, rfl, rfl⟩ | exact ⟨10, rfl, rfl⟩ | exact ⟨11, rfl, rfl⟩ | exact ⟨12, rfl, rfl⟩ | assumption)
local macro_rules | `(tactic| fail "lkF") => `(tactic| first | assumption | exact fz_at 0 (by fail "nd") rfl rfl | exact fz_at 1 (by fail "nd") rfl rfl | exact fz_at 2 (by fail "nd") rfl rfl | exact fz_at 3 (by fail "nd") rfl rfl | exact fz_at 4 (by fail "nd") rfl rfl | exact fz_at 5 (by fail "nd") rfl rfl | exact fz_at 6 (by fail "nd") rfl rfl | exact fz_at 7 (by fail "nd") rfl rfl)
local macro_rules | `(tactic| fail "lkD") => `(tactic| first | assumption | exact dz_at 0 (by fail "nd") rfl rfl | exact dz_at 1 (by fail "nd") rfl rfl | exact dz_at 2 (by fail "nd") rfl rfl | exact dz_at 3 (by fail "nd") rfl rfl | exact dz_at 4 (by fail "nd") rfl rfl)
local macro_rules | `(tactic| fail "ptF") => `(tactic| first | assumption | exact fz_put 0 (by fail "nd") rfl (Nat.le_of_ble_eq_true rfl) | exact fz_put 1 (by fail "nd") rfl (Nat.le_of_ble_eq_true rfl) | exact fz_put 2 (by fail "nd") rfl (Nat.le_of_ble_eq_true rfl) | exact fz_put 3 (by fail "nd") rfl (Nat.le_of_ble_eq_true rfl) | exact fz_put 4 (by fail "nd") rfl (Nat.le_of_ble_eq_true rfl) | exact fz_put 5 (by fail "nd") rfl (Nat.le_of_ble_eq_true rfl) | exact fz_put 6 (by fail "nd") rfl (Nat.le_of_ble_eq_true rfl) | exact fz_put 7 (by fail "nd") rfl (Nat.le_of_ble_eq_true rfl) | exact fz_new (by decide +kernel) rfl)
local macro_rules | `(tactic| fail "ptD") => `(tactic| first | assumption | exact dz_put 0 (by fail "nd") rfl (Nat.le_of_ble_eq_true rfl) | exact dz_put 1 (by fail "nd") rfl (Nat.le_of_ble_eq_true rfl) | exact dz_put 2 (by fail "nd") rfl (Nat.le_of_ble_eq_true rfl) | exact dz_put 3 (by fail "nd") rfl (Nat.le_of_ble_eq_true rfl) | exact dz_put 4 (by fail "nd") rfl (Nat.le_of_ble_eq_true rfl))
local macro_rules | `(tactic| fail "sz") => `(tactic| first | assumption | exact (Nat.le_of_ble_eq_true rfl) | omega | decide)
local macro_rules | `(tactic| fail "sd") => `(tactic| first | rfl | assumption | decide | omega | (dsimp only; first | decide | omega) | exact .inr ⟨by decide, by decide⟩ | exact .inl ⟨by decide, by decide⟩ | exact ⟨by omega, by omega⟩ | exact .inl ⟨by omega, by omega⟩ | exact .inr ⟨by omega, by omega⟩ | exact ⟨by omega, by omega, by omega⟩)
local macro_rules | `(tactic| fail "cl") => `(tactic| (clear hH; dsimp only [List.set, List.cons_append, List.nil_append, List.append] at hL))
local macro_rules | `(tactic| fail "gn") => `(tactic| (intro p hp; generalize hH : upd H p _ = H; replace hL := Led.newH hL hp hH; clear hH hp))
local macro_rules | `(tactic| fail "gup") => `(tactic| (generalize hH : upd H _ _ = H; replace hL := Led.upU hL (by fail "up") hH; fail "cl"))
local macro_rules | `(tactic| fail "gmk") => `(tactic| (intro x dx hx hd ne; generalize hH : upd (upd H dx _) x _ = H; replace hL := Led.made hL hx hd ne hH; clear hH hx hd ne))
local macro_rules | `(tactic| fail "v") => `(tactic| refine ⟨_, rfl, ?_⟩)
local macro_rules | `(tactic| fail "i2") => `(tactic| refine ⟨_, _, rfl, rfl, ?_⟩)
local macro_rules | `(tactic| fail "go1") => `(tactic| first
  | refine ⟨_, rfl, ?_⟩
  | refine ⟨_, _, rfl, rfl, ?_⟩
  | refine ⟨_, _, rfl, ?_⟩
  | refine iteT ?_
  | refine iteF ?_
  | refine k_fld hL (by fail "ix") (by assumption) (by assumption) (by fail "lkF") ?_
  | refine k_dgetS hL (by fail "ix") (by fail "lkD") ?_
  | refine k_dgetI hL (by fail "ix") (by assumption) ?_
  | refine k_ixL hL (by fail "ix") (by first | rfl | assumption) ?_
  | refine k_ixT hL (by fail "ix") (by first | rfl | assumption) ?_
  | refine k_tyL hL (by fail "ix") ?_
  | refine k_isd hL (by fail "ix") ?_
  | (refine And.intro (by fail "sz") ?_; fail "gn")
  | refine And.intro (by fail "sd") ?_
  | fail "gn"
  | refine k_meth hL (by fail "ix") (by first | assumption | exact fz_no (by decide +kernel)) ?_
  | refine k_gtup hL (by fail "ix") rfl ?_
  | (refine k_popI hL (by fail "ix") (by assumption) ?_; fail "gup")
  | (refine k_listD hL (by fail "ix") ?_; fail "gn")
  | (refine ⟨_, _, _, _, rfl, rfl, hL.at (by fail "ix"), rfl, ?_⟩; fail "gup")
  | (refine ⟨_, _, _, rfl, rfl, hL.at (by fail "ix"), (by fail "sz"), ?_⟩; fail "gup")
  | (refine ⟨_, _, _, _, rfl, hL.at (by fail "ix"), by assumption, by assumption, Nat.lt_of_le_of_lt fz_len (by decide), ?_⟩; generalize hH : upd H _ _ = H; replace hL := Led.upF hL (by fail "up") (by fail "ptF") hH; fail "cl")
  | (refine ⟨_, _, hL.at (by fail "ix"), Nat.lt_of_le_of_lt fz_len (by decide), ?_⟩; generalize hH : upd H _ _ = H; replace hL := Led.upF hL (by fail "up") (by fail "ptF") hH; fail "cl")
  | (refine k_dputS hL (by fail "ix") (Nat.lt_of_le_of_lt dz_len (by decide)) (by fail "ptD") (by fail "up") ?_; clear hL; intro H hL; dsimp only [List.set, List.cons_append, List.nil_append, List.append] at hL)
  | refine .inl ⟨_, rfl, ?_⟩
  | refine .inr ⟨_, rfl, ?_⟩)
local macro_rules | `(tactic| fail "go") => `(tactic| repeat fail "go1")

def dD (a b c : Int) : HO := .lst [.int a, .int b, .int c]
def spDice : Sp := fun vs H Q _ => ∃ (c : Int) (L : Lg), vs = [.int c] ∧ Led H L ∧ ∀ (a b d : Int) (p : Addr) (H' : Hp), Led H' ((p, dD a b d) :: L) → Q (.ref p) H'
def spRoll : Sp := fun vs H Q _ => ∃ (l : Addr) (a b c m : Int) (R : Lg), vs = [.ref l, .int m] ∧ Led H ((l, dD a b c) :: R) ∧ 1 ≤ m ∧ m ≤ 100000000 ∧
  ∀ (r a' b' c' : Int) (H' : Hp), 0 ≤ r → r < m → Led H' ((l, dD a' b' c') :: R) → Q (.int r) H'
section
variable {P : Program} {w : World} {K : PySem.W.Frag} {mg : Str → Option Value} {base : Heap}
theorem scDice : FnScope ["cell"] ["cell"] (defScope sDice) := ⟨rfl, rfl, rfl, by decide +kernel, rfl, by decide +kernel, by decide +kernel⟩
theorem ok_dice {f : Addr} {fd : FuncData} (F : Fun K "_law_dice" "_law_dice" sDice f fd) (T : TxtL mg) : FnOk P w K mg base CX0 1 f fd ["cell"] spDice := by
  refine F.ok scDice (fun vs H Q E h => ?_) (fun cdv A outer s H vs Q E hr h => ?_)
  · obtain ⟨c, L, rfl, _⟩ := h
    rfl
  · obtain ⟨c, L, rfl, hL, k⟩ := h
    refine ⟨_, pss_cons (ps_if (pt_chain op_lt op_lt (pe_op op_sub pe_int pe_int) (pv 0) pe_int) (pss_one (ps_ret (pe_lst (pa_cons (pe_callB call_abs (by rfl) T.abs (by decide +kernel) (pa_cons (pv 0) pa_nil)) (pa_cons pe_int (pa_cons pe_int pa_nil)))))) pss_nil)
      (pss_one (ps_ret (pe_lst (pa_cons (pv 0) (pa_cons (pe_op op_add pe_int (pe_op op_mod (pe_callTy call_int1 (by rfl) T.int (by decide +kernel) (pa_cons (pv 0) pa_nil)) pe_int)) (pa_cons (pe_callTy call_int1 (by rfl) T.int (by decide +kernel) (pa_cons (pe_cmpR op_ge (pv 0) (pe_op op_pow pe_int pe_int) (nomark _)) pa_nil)) pa_nil)))))), ?_⟩
    fail "go"
    refine ite_d (fun h1 => ?_) (fun h1 => ?_)
    · fail "go"
      refine ite_d (fun h2 => ?_) (fun h2 => ?_)
      · fail "go"
        exact k _ _ _ _ _ hL
      · fail "go"
        exact k _ _ _ _ _ hL
    · fail "go"
      exact k _ _ _ _ _ hL
theorem scRoll : FnScope ["dice", "many", "found"] ["dice", "many"] (defScope sRoll) := ⟨rfl, rfl, rfl, by decide +kernel, rfl, by decide +kernel, by decide +kernel⟩
theorem ok_roll {f : Addr} {fd : FuncData} (F : Fun K "_law_roll" "_law_roll" sRoll f fd) (T : TxtL mg) : FnOk P w K mg base CX0 1 f fd ["dice", "many"] spRoll := by
  refine F.ok scRoll (fun vs H Q E h => ?_) (fun cdv A outer s H vs Q E hr h => ?_)
  · obtain ⟨l, a, b, c, m, R, rfl, _⟩ := h
    rfl
  · obtain ⟨l, a, b, c, m, R, rfl, hL, h1, h2, k⟩ := h
    refine ⟨_, pss_cons (ps_if (PW.pt (pw_or (pt_cmpR op_eq (pe_ix ix_list (pv 0) pe_int (fun _ _ => rfl)) pe_int (nomark _)) (pw_or1 (PW.pt (pw_and (pt_cmpR op_eq (pe_ix ix_list (pv 0) pe_int (fun _ _ => rfl)) pe_int (nomark _)) (pw_and1 (pt_cmpR op_gt (pe_ix ix_list (pv 0) pe_int (fun _ _ => rfl)) pe_int (nomark _))))))))
        (pss_cons (ps_set (i := 2) scRoll.nd rfl (Or.inl rfl) (pe_op op_mod (pe_callTy call_int1 (by rfl) T.int (by decide +kernel) (pa_cons (pe_ix ix_list (pv 0) pe_int (fun _ _ => rfl)) pa_nil)) (pv 1)))
          (pss_cons (ps_asg (pe_op op_fdiv (pe_ix ix_list (pv 0) pe_int (fun _ _ => rfl)) (pv 1)) (pg_sub (pv 0) pe_int set_list)) (pss_one (ps_ret (pv 2)))))
        pss_nil)
      (pss_cons (ps_asg pe_int (pg_sub (pv 0) pe_int set_list))
      (pss_cons (ps_if (pt_cmpR op_gt (pv 1) pe_int (nomark _)) pss_never pss_nil)
      (pss_cons (ps_asg (pe_op op_mod (pe_callTy call_int1 (by rfl) T.int (by decide +kernel) (pa_cons (pe_op op_add (pe_op op_add (pe_op op_mul (pe_ix ix_list (pv 0) pe_int (fun _ _ => rfl)) pe_int) (pe_op op_mul (pe_ix ix_list (pv 0) pe_int (fun _ _ => rfl)) pe_int)) pe_int) pa_nil)) pe_int) (pg_sub (pv 0) pe_int set_list))
      (pss_cons (ps_asg (pe_op op_add (pe_ix ix_list (pv 0) pe_int (fun _ _ => rfl)) pe_int) (pg_sub (pv 0) pe_int set_list))
      (pss_one (ps_ret (pe_op op_mod (pe_callTy call_int1 (by rfl) T.int (by decide +kernel) (pa_cons (pe_op op_fdiv (pe_ix ix_list (pv 0) pe_int (fun _ _ => rfl)) pe_int) pa_nil)) (pv 1)))))))), ?_⟩
    unfold dD at hL
    have hm : ∀ (x b c : Int) (H : Hp), Led H ((l, .lst [.int (x / m), .int b, .int c]) :: R) → Q (.int (x % m)) H := fun x b c H h => k _ _ _ _ _ (Int.emod_nonneg _ (by omega)) (Int.emod_lt_of_pos _ (by omega)) h
    have hd : ∀ (x a b c : Int) (H : Hp), Led H ((l, .lst [.int a, .int b, .int c]) :: R) → Q (.int (x % m)) H := fun x a b c H h => k _ _ _ _ _ (Int.emod_nonneg _ (by omega)) (Int.emod_lt_of_pos _ (by omega)) h
    fail "go"
    refine ite_d (fun q1 => ?_) (fun q1 => ?_)
    · fail "go"
      exact hm _ _ _ _ hL
    · fail "go"
      refine ite_d (fun q2 => ?_) (fun q2 => ?_)
      · fail "go"
        refine ite_d (fun q3 => ?_) (fun q3 => ?_)
        · fail "go"
          exact hm _ _ _ _ hL
        · fail "go"
          refine ite_d (fun q4 => absurd q4 (by omega)) (fun q4 => ?_)
          fail "go"
          exact hd _ _ _ _ _ hL
      · fail "go"
        refine ite_d (fun q4 => absurd q4 (by omega)) (fun q4 => ?_)
        fail "go"
        exact hd _ _ _ _ _ hL
end
end Sd


namespace Sd
open PySem L2
abbrev sWInit : Stmt := inClass (top 5) 0
abbrev sQInit : Stmt := inClass (top 6) 0
abbrev sPut : Stmt := inClass (top 6) 1
set_option hygiene false
local macro_rules | `(tactic| fail "nd") => `(tactic| first | assumption | decide +kernel)
local macro_rules | `(tactic| fail "ix") => `(tactic| first | exact ⟨0, rfl⟩ | exact ⟨1, rfl⟩ | exact ⟨2, rfl⟩ | exact ⟨3, rfl⟩ | exact ⟨4, rfl⟩ | exact ⟨5, rfl⟩ | exact ⟨6, rfl⟩ | exact ⟨7, rfl⟩ | exact ⟨8, rfl⟩ | exact ⟨9, rfl⟩ | exact ⟨10, rfl⟩ | exact ⟨11, rfl⟩ | exact ⟨12, rfl⟩ | assumption)
local macro_rules | `(tactic| fail "up") => `(tactic| first | exact ⟨0, rfl, rfl⟩ | exact ⟨1, rfl, rfl⟩ | exact ⟨2, rfl, rfl⟩ | exact ⟨3, rfl, rfl⟩ | exact ⟨4, rfl, rfl⟩ | exact ⟨5, rfl, rfl⟩ | exact ⟨6, rfl, rfl⟩ | exact ⟨7, rfl, rfl⟩ | exact ⟨8, rfl, rfl⟩ | exact ⟨9, rfl, rfl⟩ | exact ⟨10, rfl, rfl⟩ | exact ⟨11, rfl, rfl⟩ | exact ⟨12, rfl, rfl⟩ | assumption)
local macro_rules | `(tactic| fail "lkF") => `(tactic| first | assumption | exact fz_at 0 (by fail "nd") rfl rfl | exact fz_at 1 (by fail "nd") rfl rfl | exact fz_at 2 (by fail "nd") rfl rfl | exact fz_at 3 (by fail "nd") rfl rfl | exact fz_at 4 (by fail "nd") rfl rfl | exact fz_at 5 (by fail "nd") rfl rfl | exact fz_at 6 (by fail "nd") rfl rfl | exact fz_at 7 (by fail "nd") rfl rfl)
local macro_rules | `(tactic| fail "lkD") => `(tactic| first | assumption | exact dz_at 0 (by fail "nd") rfl rfl | exact dz_at 1 (by fail "nd") rfl rfl | exact dz_at 2 (by fail "nd") rfl rfl | exact dz_at 3 (by fail "nd") rfl rfl | exact dz_at 4 (by fail "nd") rfl rfl)
local macro_rules | `(tactic| fail "ptF") => `(tactic| first | assumption | exact fz_put 0 (by fail "nd") rfl (Nat.le_of_ble_eq_true rfl) | exact fz_put 1 (by fail "nd") rfl (Nat.le_of_ble_eq_true rfl) | exact fz_put 2 (by fail "nd") rfl (Nat.le_of_ble_eq_true rfl) | exact fz_put 3 (by fail "nd") rfl (Nat.le_of_ble_eq_true rfl) | exact fz_put 4 (by fail "nd") rfl (Nat.le_of_ble_eq_true rfl) | exact fz_put 5 (by fail "nd") rfl (Nat.le_of_ble_eq_true rfl) | exact fz_put 6 (by fail "nd") rfl (Nat.le_of_ble_eq_true rfl) | exact fz_put 7 (by fail "nd") rfl (Nat.le_of_ble_eq_true rfl) | exact fz_new (by decide +kernel) rfl)
local macro_rules | `(tactic| fail "ptD") => `(tactic| first | assumption | exact dz_put 0 (by fail "nd") rfl (Nat.le_of_ble_eq_true rfl) | exact dz_put 1 (by fail "nd") rfl (Nat.le_of_ble_eq_true rfl) | exact dz_put 2 (by fail "nd") rfl (Nat.le_of_ble_eq_true rfl) | exact dz_put 3 (by fail "nd") rfl (Nat.le_of_ble_eq_true rfl) | exact dz_put 4 (by fail "nd") rfl (Nat.le_of_ble_eq_true rfl))
local macro_rules | `(tactic| fail "sz") => `(tactic| first | assumption | exact (Nat.le_of_ble_eq_true rfl) | omega | decide)
local macro_rules | `(tactic| fail "sd") => `(tactic| first | rfl | assumption | decide | omega | (dsimp only; first | decide | omega) | exact .inr ⟨by decide, by decide⟩ | exact .inl ⟨by decide, by decide⟩ | exact ⟨by omega, by omega⟩ | exact .inl ⟨by omega, by omega⟩ | exact .inr ⟨by omega, by omega⟩ | exact ⟨by omega, by omega, by omega⟩)
local macro_rules | `(tactic| fail "cl") => `(tactic| (clear hH; dsimp only [List.set, List.cons_append, List.nil_append, List.append] at hL))
local macro_rules | `(tactic| fail "gn") => `(tactic| (intro p hp; generalize hH : upd H p _ = H; replace hL := Led.newH hL hp hH; clear hH hp))
local macro_rules | `(tactic| fail "gup") => `(tactic| (generalize hH : upd H _ _ = H; replace hL := Led.upU hL (by fail "up") hH; fail "cl"))
local macro_rules | `(tactic| fail "gmk") => `(tactic| (intro x dx hx hd ne; generalize hH : upd (upd H dx _) x _ = H; replace hL := Led.made hL hx hd ne hH; clear hH hx hd ne))
local macro_rules | `(tactic| fail "v") => `(tactic| refine ⟨_, rfl, ?_⟩)
local macro_rules | `(tactic| fail "i2") => `(tactic| refine ⟨_, _, rfl, rfl, ?_⟩)
local macro_rules | `(tactic| fail "go1") => `(tactic| first
  | refine ⟨_, rfl, ?_⟩
  | refine ⟨_, _, rfl, rfl, ?_⟩
  | refine ⟨_, _, rfl, ?_⟩
  | refine iteT ?_
  | refine iteF ?_
  | refine k_fld hL (by fail "ix") (by assumption) (by assumption) (by fail "lkF") ?_
  | refine k_dgetS hL (by fail "ix") (by fail "lkD") ?_
  | refine k_dgetI hL (by fail "ix") (by assumption) ?_
  | refine k_ixL hL (by fail "ix") (by first | rfl | assumption) ?_
  | refine k_ixT hL (by fail "ix") (by first | rfl | assumption) ?_
  | refine k_tyL hL (by fail "ix") ?_
  | refine k_isd hL (by fail "ix") ?_
  | (refine And.intro (by fail "sz") ?_; fail "gn")
  | refine And.intro (by fail "sd") ?_
  | fail "gn"
  | refine k_meth hL (by fail "ix") (by first | assumption | exact fz_no (by decide +kernel)) ?_
  | refine k_gtup hL (by fail "ix") rfl ?_
  | (refine k_popI hL (by fail "ix") (by assumption) ?_; fail "gup")
  | (refine k_listD hL (by fail "ix") ?_; fail "gn")
  | (refine ⟨_, _, _, _, rfl, rfl, hL.at (by fail "ix"), rfl, ?_⟩; fail "gup")
  | (refine ⟨_, _, _, rfl, rfl, hL.at (by fail "ix"), (by fail "sz"), ?_⟩; fail "gup")
  | (refine ⟨_, _, _, _, rfl, hL.at (by fail "ix"), by assumption, by assumption, Nat.lt_of_le_of_lt fz_len (by decide), ?_⟩; generalize hH : upd H _ _ = H; replace hL := Led.upF hL (by fail "up") (by fail "ptF") hH; fail "cl")
  | (refine ⟨_, _, hL.at (by fail "ix"), Nat.lt_of_le_of_lt fz_len (by decide), ?_⟩; generalize hH : upd H _ _ = H; replace hL := Led.upF hL (by fail "up") (by fail "ptF") hH; fail "cl")
  | (refine k_dputS hL (by fail "ix") (Nat.lt_of_le_of_lt dz_len (by decide)) (by fail "ptD") (by fail "up") ?_; clear hL; intro H hL; dsimp only [List.set, List.cons_append, List.nil_append, List.append] at hL)
  | refine .inl ⟨_, rfl, ?_⟩
  | refine .inr ⟨_, rfl, ?_⟩)
local macro_rules | `(tactic| fail "go") => `(tactic| repeat fail "go1")

structure Wk where
  n : Int
  r : Int
  t : Int
  c : Option Int
def optV : Option Int → V
  | none => .non
  | some i => .int i
def nmW : List Str := ["number", "body", "ready", "takes", "receipt"]
def vW (b : V) (w : Wk) : List V := [.int w.n, b, .int w.r, .int w.t, optV w.c]
def nmQ : List Str := ["length", "rows", "given_up", "next_number", "next_receipt"]
structure TxtQ (K : PySem.W.Frag) (mg : Str → Option Value) (CW CQ : Addr) : Prop where
  clW : Cls K CW
  clQ : Cls K CQ
  nW : ∀ f ∈ nmW, NoAttr K CW f
  nQ : ∀ f ∈ nmQ, NoAttr K CQ f
def spWInit (C : Addr) : Sp := fun vs H Q _ => ∃ (x dx : Addr) (n r : Int) (b : V) (R : Lg), vs = [.ref x, .int n, b, .int r] ∧ Led H ((x, .ins C dx (fz [] [])) :: R) ∧
  ∀ H' : Hp, Led H' ((x, .ins C dx (fz nmW (vW b ⟨n, r, 0, none⟩))) :: R) → Q .non H'
section
variable {P : Program} {w : World} {K : PySem.W.Frag} {mg : Str → Option Value} {base : Heap} {CW CQ : Addr}
theorem scWInit : FnScope ["self", "number", "body", "time"] ["self", "number", "body", "time"] (defScope sWInit) := ⟨rfl, rfl, rfl, by decide +kernel, rfl, by decide +kernel, by decide +kernel⟩
theorem ok_WInit {f : Addr} {fd : FuncData} (F : Fun K "__init__" "Work.__init__" sWInit f fd) (T : TxtQ K mg CW CQ) : FnOk P w K mg base CX0 1 f fd ["self", "number", "body", "time"] (spWInit CW) := by
  refine F.ok scWInit (fun vs H Q E h => ?_) (fun cdv A outer s H vs Q E hr h => ?_)
  · obtain ⟨x, dx, n, r, b, R, rfl, _⟩ := h
    rfl
  · obtain ⟨x, dx, n, r, b, R, rfl, hL, k⟩ := h
    have c1 := T.clW
    have f1 := T.nW "number" (by decide +kernel)
    have f2 := T.nW "body" (by decide +kernel)
    have f3 := T.nW "ready" (by decide +kernel)
    have f4 := T.nW "takes" (by decide +kernel)
    have f5 := T.nW "receipt" (by decide +kernel)
    refine ⟨_, (pss_cons (ps_fld (pv 0) (pv 1) rfl)
  (pss_cons (ps_fld (pv 0) (pv 2) rfl)
  (pss_cons (ps_fld (pv 0) (pv 3) rfl)
  (pss_cons (ps_fld (pv 0) pe_int rfl)
  (pss_one (ps_fld (pv 0) pe_non rfl)))))), ?_⟩
    fail "go"
    exact k _ hL
end
end Sd


namespace Sd
open PySem L2
open C8 (Cal Met Mak pe_c pe_mk pe_mt pe_mt0 pss_cut tCut)
abbrev sTake : Stmt := inClass (top 6) 2
abbrev sHolds : Stmt := inClass (top 6) 3
abbrev sDone : Stmt := inClass (top 6) 4
abbrev sBack : Stmt := inClass (top 6) 5
abbrev sLonger : Stmt := inClass (top 6) 6
set_option hygiene false
local macro_rules | `(tactic| fail "nd") => `(tactic| first | assumption | decide +kernel)
local macro_rules | `(tactic| fail "ix") => `(tactic| first | exact ⟨0, rfl⟩ | exact ⟨1, rfl⟩ | exact ⟨2, rfl⟩ | exact ⟨3, rfl⟩ | exact ⟨4, rfl⟩ | exact ⟨5, rfl⟩ | exact ⟨6, rfl⟩ | exact ⟨7, rfl⟩ | exact ⟨8, rfl⟩ | exact ⟨9, rfl⟩ | exact ⟨10, rfl⟩ | exact ⟨11, rfl⟩ | exact ⟨12, rfl⟩ | assumption)
local macro_rules | `(tactic| fail "up") => `(tactic| first | exact ⟨0, rfl, rfl⟩ | exact ⟨1, rfl, rfl⟩ | exact ⟨2, rfl, rfl⟩ | exact ⟨3, rfl, rfl⟩ | exact ⟨4, rfl, rfl⟩ | exact ⟨5, rfl, rfl⟩ | exact ⟨6, rfl, rfl⟩ | exact ⟨7, rfl, rfl⟩ | exact ⟨8, rfl, rfl⟩ | exact ⟨9, rfl, rfl⟩ | exact ⟨10, rfl, rfl⟩ | exact ⟨11, rfl, rfl⟩ | exact ⟨12, rfl, rfl⟩ | assumption)
local macro_rules | `(tactic| fail "lkF") => `(tactic| first | assumption | exact fz_at 0 (by fail "nd") rfl rfl | exact fz_at 1 (by fail "nd") rfl rfl | exact fz_at 2 (by fail "nd") rfl rfl | exact fz_at 3 (by fail "nd") rfl rfl | exact fz_at 4 (by fail "nd") rfl rfl | exact fz_at 5 (by fail "nd") rfl rfl | exact fz_at 6 (by fail "nd") rfl rfl | exact fz_at 7 (by fail "nd") rfl rfl)
local macro_rules | `(tactic| fail "lkD") => `(tactic| first | assumption | exact dz_at 0 (by fail "nd") rfl rfl | exact dz_at 1 (by fail "nd") rfl rfl | exact dz_at 2 (by fail "nd") rfl rfl | exact dz_at 3 (by fail "nd") rfl rfl | exact dz_at 4 (by fail "nd") rfl rfl)
local macro_rules | `(tactic| fail "ptF") => `(tactic| first | assumption | exact fz_put 0 (by fail "nd") rfl (Nat.le_of_ble_eq_true rfl) | exact fz_put 1 (by fail "nd") rfl (Nat.le_of_ble_eq_true rfl) | exact fz_put 2 (by fail "nd") rfl (Nat.le_of_ble_eq_true rfl) | exact fz_put 3 (by fail "nd") rfl (Nat.le_of_ble_eq_true rfl) | exact fz_put 4 (by fail "nd") rfl (Nat.le_of_ble_eq_true rfl) | exact fz_put 5 (by fail "nd") rfl (Nat.le_of_ble_eq_true rfl) | exact fz_put 6 (by fail "nd") rfl (Nat.le_of_ble_eq_true rfl) | exact fz_put 7 (by fail "nd") rfl (Nat.le_of_ble_eq_true rfl) | exact fz_new (by decide +kernel) rfl)
local macro_rules | `(tactic| fail "ptD") => `(tactic| first | assumption | exact dz_put 0 (by fail "nd") rfl (Nat.le_of_ble_eq_true rfl) | exact dz_put 1 (by fail "nd") rfl (Nat.le_of_ble_eq_true rfl) | exact dz_put 2 (by fail "nd") rfl (Nat.le_of_ble_eq_true rfl) | exact dz_put 3 (by fail "nd") rfl (Nat.le_of_ble_eq_true rfl) | exact dz_put 4 (by fail "nd") rfl (Nat.le_of_ble_eq_true rfl))
local macro_rules | `(tactic| fail "sz") => `(tactic| first | assumption | exact (Nat.le_of_ble_eq_true rfl) | omega | decide)
local macro_rules | `(tactic| fail "sd") => `(tactic| first | rfl | assumption | decide | omega | (dsimp only; first | decide | omega) | exact .inr ⟨by decide, by decide⟩ | exact .inl ⟨by decide, by decide⟩ | exact ⟨by omega, by omega⟩ | exact .inl ⟨by omega, by omega⟩ | exact .inr ⟨by omega, by omega⟩ | exact ⟨by omega, by omega, by omega⟩)
local macro_rules | `(tactic| fail "cl") => `(tactic| (clear hH; dsimp only [List.set, List.cons_append, List.nil_append, List.append] at hL))
local macro_rules | `(tactic| fail "gn") => `(tactic| (intro p hp; generalize hH : upd H p _ = H; replace hL := Led.newH hL hp hH; clear hH hp))
local macro_rules | `(tactic| fail "gup") => `(tactic| (generalize hH : upd H _ _ = H; replace hL := Led.upU hL (by fail "up") hH; fail "cl"))
local macro_rules | `(tactic| fail "gmk") => `(tactic| (intro x dx hx hd ne; generalize hH : upd (upd H dx _) x _ = H; replace hL := Led.made hL hx hd ne hH; clear hH hx hd ne))
local macro_rules | `(tactic| fail "v") => `(tactic| refine ⟨_, rfl, ?_⟩)
local macro_rules | `(tactic| fail "i2") => `(tactic| refine ⟨_, _, rfl, rfl, ?_⟩)
local macro_rules | `(tactic| fail "go1") => `(tactic| first
  | refine ⟨_, rfl, ?_⟩
  | refine ⟨_, _, rfl, rfl, ?_⟩
  | refine ⟨_, _, rfl, ?_⟩
  | refine iteT ?_
  | refine iteF ?_
  | refine k_fld hL (by fail "ix") (by assumption) (by assumption) (by fail "lkF") ?_
  | refine k_dgetS hL (by fail "ix") (by fail "lkD") ?_
  | refine k_dgetI hL (by fail "ix") (by assumption) ?_
  | refine k_ixL hL (by fail "ix") (by first | rfl | assumption) ?_
  | refine k_ixT hL (by fail "ix") (by first | rfl | assumption) ?_
  | refine k_tyL hL (by fail "ix") ?_
  | refine k_isd hL (by fail "ix") ?_
  | (refine And.intro (by fail "sz") ?_; fail "gn")
  | refine And.intro (by fail "sd") ?_
  | fail "gn"
  | refine k_meth hL (by fail "ix") (by first | assumption | exact fz_no (by decide +kernel)) ?_
  | refine k_gtup hL (by fail "ix") rfl ?_
  | (refine k_popI hL (by fail "ix") (by assumption) ?_; fail "gup")
  | (refine k_listD hL (by fail "ix") ?_; fail "gn")
  | (refine ⟨_, _, _, _, rfl, rfl, hL.at (by fail "ix"), rfl, ?_⟩; fail "gup")
  | (refine ⟨_, _, _, rfl, rfl, hL.at (by fail "ix"), (by fail "sz"), ?_⟩; fail "gup")
  | (refine ⟨_, _, _, _, rfl, hL.at (by fail "ix"), by assumption, by assumption, Nat.lt_of_le_of_lt fz_len (by decide), ?_⟩; generalize hH : upd H _ _ = H; replace hL := Led.upF hL (by fail "up") (by fail "ptF") hH; fail "cl")
  | (refine ⟨_, _, hL.at (by fail "ix"), Nat.lt_of_le_of_lt fz_len (by decide), ?_⟩; generalize hH : upd H _ _ = H; replace hL := Led.upF hL (by fail "up") (by fail "ptF") hH; fail "cl")
  | (refine k_dputS hL (by fail "ix") (Nat.lt_of_le_of_lt dz_len (by decide)) (by fail "ptD") (by fail "up") ?_; clear hL; intro H hL; dsimp only [List.set, List.cons_append, List.nil_append, List.append] at hL)
  | refine .inl ⟨_, rfl, ?_⟩
  | refine .inr ⟨_, rfl, ?_⟩)
local macro_rules | `(tactic| fail "go") => `(tactic| repeat fail "go1")

/-- a work as it stands: its place, its own dict's, what it tells -/
structure We where
  a : Addr
  dx : Addr
  w : Wk
def bodyOf (n : Int) : V := .str (("work " : Str) ++ (toString n : Str))
def wobj (C : Addr) (e : We) : Addr × HO := (e.a, .ins C e.dx (fz nmW (vW (bodyOf e.w.n) e.w)))
structure QS where
  len : Int
  nn : Int
  nr : Int
  rows : List We
  gu : List We
def rowK (e : We) : Key × V := (.inl e.w.n, .ref e.a)
def QL (CW CQ q dq rd g : Addr) (s : QS) : Lg :=
  (q, .ins CQ dq (fz nmQ [.int s.len, .ref rd, .ref g, .int s.nn, .int s.nr])) :: (rd, .dK (s.rows.map rowK)) :: (g, .lst (s.gu.map fun e => .ref e.a)) :: (s.gu.map (wobj CW) ++ s.rows.map (wobj CW))
def spQInit (CW CQ : Addr) : Sp := fun vs H Q _ => ∃ (x dx : Addr) (n : Int) (R : Lg), vs = [.ref x, .int n] ∧ 1 ≤ n ∧ Led H ((x, .ins CQ dx (fz [] [])) :: R) ∧
  ∀ (rd g : Addr) (H' : Hp), Led H' (QL CW CQ x dx rd g ⟨n, 1, 1, [], []⟩ ++ R) → Q .non H'
def spPut (CW CQ : Addr) : Sp := fun vs H Q _ => ∃ (q dq rd g : Addr) (s : QS) (t w : Int) (R : Lg), vs = [.ref q, bodyOf s.nn, .int t, .int w] ∧ 0 ≤ w ∧ Led H (QL CW CQ q dq rd g s ++ R) ∧ s.rows.length < 1000 ∧
  (∀ e ∈ s.rows, e.w.n ≠ s.nn) ∧
  ∀ (a dx : Addr) (H' : Hp), Led H' (QL CW CQ q dq rd g ⟨s.len, s.nn + 1, s.nr, s.rows ++ [⟨a, dx, ⟨s.nn, t + w, 0, none⟩⟩], s.gu⟩ ++ R) → Q (.int s.nn) H'
theorem row_no {rows : List We} {n : Int} (h : ∀ e ∈ rows, e.w.n ≠ n) : valV (rows.map rowK) (Sum.inl n) = none := by
  induction rows with
  | nil => rfl
  | cons e r ih =>
    rw [List.map_cons, valV_neg (fun q => h e List.mem_cons_self (Sum.inl.inj q)), ih fun x hx => h x (List.mem_cons_of_mem _ hx)]
theorem Led.rev3 {H : Hp} {a b c : Addr} {A B C : HO} {R : Lg} (h : Led H ((a, A) :: (b, B) :: (c, C) :: R)) : Led H ((c, C) :: (b, B) :: (a, A) :: R) :=
  h.perm (((List.Perm.swap _ _ _).trans ((List.Perm.swap _ _ _).cons _)).trans (List.Perm.swap _ _ _))
section
variable {P : Program} {w : World} {K : PySem.W.Frag} {mg : Str → Option Value} {base : Heap} {CW CQ : Addr}
theorem scQInit : FnScope ["self", "length"] ["self", "length"] (defScope sQInit) := ⟨rfl, rfl, rfl, by decide +kernel, rfl, by decide +kernel, by decide +kernel⟩
theorem ok_QInit {f : Addr} {fd : FuncData} (F : Fun K "__init__" "WorkQueue.__init__" sQInit f fd) (T : TxtQ K mg CW CQ) : FnOk P w K mg base CX0 1 f fd ["self", "length"] (spQInit CW CQ) := by
  refine F.ok scQInit (fun vs H Q E h => ?_) (fun cdv A outer s H vs Q E hr h => ?_)
  · obtain ⟨x, dx, n, R, rfl, _⟩ := h
    rfl
  · obtain ⟨x, dx, n, R, rfl, hn, hL, k⟩ := h
    have c1 := T.clQ
    have f1 := T.nQ "length" (by decide +kernel)
    have f2 := T.nQ "rows" (by decide +kernel)
    have f3 := T.nQ "given_up" (by decide +kernel)
    have f4 := T.nQ "next_number" (by decide +kernel)
    have f5 := T.nQ "next_receipt" (by decide +kernel)
    refine ⟨_, (pss_cons (ps_if (pt_cmpR op_lt (pv 1) pe_int (nomark _))
  pss_never
  pss_nil)
  (pss_cons (ps_fld (pv 0) (pv 1) rfl)
  (pss_cons (ps_fld (pv 0) pe_dnewK rfl)
  (pss_cons (ps_fld (pv 0) (pe_lst pa_nil) rfl)
  (pss_cons (ps_fld (pv 0) pe_int rfl)
  (pss_one (ps_fld (pv 0) pe_int rfl))))))), ?_⟩
    fail "go"
    refine ite_d (fun q => absurd q (by omega)) (fun _ => ?_)
    fail "go"
    exact k _ _ _ hL.rev3
theorem scPut : FnScope ["self", "body", "time", "wait", "number"] ["self", "body", "time", "wait"] (defScope sPut) := ⟨rfl, rfl, rfl, by decide +kernel, rfl, by decide +kernel, by decide +kernel⟩
theorem ok_put {f : Addr} {fd : FuncData} (F : FunD K "put" "WorkQueue.put" (defArgs sPut) (defBody sPut) (defScope sPut) [.int 0] [] f fd) (T : TxtQ K mg CW CQ) (c_Work : Mak P w K mg base 1 "Work" CW (spWInit CW) []) : FnOk P w K mg base CX0 3 f fd ["self", "body", "time", "wait"] (spPut CW CQ) := by
  refine funD_ok0 F scPut (fun vs H Q E h => ?_) (fun cdv A outer s H vs Q E hr h => ?_)
  · obtain ⟨q, dq, rd, g, s, t, w, R, rfl, _⟩ := h
    rfl
  · obtain ⟨q, dq, rd, g, s, t, w, R, rfl, hw, hL, hz, hn, k⟩ := h
    have c1 := T.clQ
    have f2 := T.nQ "rows" (by decide +kernel)
    have f4 := T.nQ "next_number" (by decide +kernel)
    refine ⟨_, (pss_cons (ps_if (pt_cmpR op_lt (pv 3) pe_int (nomark _))
  pss_never
  pss_nil)
  (pss_cons (ps_set (i := 4) scPut.nd rfl (Or.inl rfl) (pe_fld (pv 0) rfl))
  (pss_cons (ps_fldaug (pv 0) pe_int in_add)
  (pss_cons (ps_dput (hu_of hr) (pe_fld (pv 0) rfl) (pv 4) (pe_mk c_Work hr (by decide) (by rfl) (pa_cons (pv 4) (pa_cons (pv 1) (pa_cons (pe_op op_add (pv 2) (pv 3)) pa_nil)))) rfl)
  (pss_one (ps_ret (pv 4))))))), ?_⟩
    unfold QL at hL
    fail "go"
    refine ite_d (fun q => absurd q (by omega)) (fun _ => ?_)
    fail "go"
    intro x dx hx hd ne
    generalize hH : upd (upd H dx (.own x)) x (.ins CW dx []) = H
    replace hL := Led.made hL hx hd ne hH
    clear hH hx hd ne
    refine ⟨x, dx, s.nn, t + w, bodyOf s.nn, _, rfl, hL, fun H hL => ⟨rfl, ?_⟩⟩
    fail "go"
    refine k_dputI hL (by fail "ix") (by rw [List.length_map]; exact Nat.lt_of_lt_of_le hz (by decide)) (putK_new _ (row_no hn)) (by fail "up") (fun H hL => ?_)
    dsimp only [List.set] at hL
    fail "go"
    have h2 := Led.last (A := (q, .ins CQ dq (fz nmQ [.int s.len, .ref rd, .ref g, .int (s.nn + 1), .int s.nr])) :: (rd, .dK (s.rows.map rowK ++ [(.inl s.nn, .ref x)])) :: (g, .lst (s.gu.map fun e => .ref e.a)) :: (s.gu.map (wobj CW) ++ s.rows.map (wobj CW))) (R := R) hL
    refine k x dx _ ?_
    unfold QL
    simp only [List.map_append, List.map_cons, List.map_nil]
    rw [← List.append_assoc]
    exact h2
end
end Sd


namespace Sd
open PySem L2
open C8 (Cal Met Mak pe_c pe_mk pe_mt pe_mt0 pss_cut tCut)
set_option hygiene false
local macro_rules | `(tactic| fail "nd") => `(tactic| first | assumption | decide +kernel)
local macro_rules | `(tactic| fail "ix") => `(tactic| first | exact ⟨0, rfl⟩ | exact ⟨1, rfl⟩ | exact ⟨2, rfl⟩ | exact ⟨3, rfl⟩ | exact ⟨4, rfl⟩ | exact ⟨5, rfl⟩ | exact ⟨6, rfl⟩ | exact ⟨7, rfl⟩ | exact ⟨8, rfl⟩ | exact ⟨9, rfl⟩ | exact ⟨10, rfl⟩ | exact ⟨11, rfl⟩ | exact ⟨12, rfl⟩ | assumption)
local macro_rules | `(tactic| fail "up") => `(tactic| first | exact ⟨0, rfl, rfl⟩ | exact ⟨1, rfl, rfl⟩ | exact ⟨2, rfl, rfl⟩ | exact ⟨3, rfl, rfl⟩ | exact ⟨4, rfl, rfl⟩ | exact ⟨5, rfl, rfl⟩ | exact ⟨6, rfl, rfl⟩ | exact ⟨7, rfl, rfl⟩ | exact ⟨8, rfl, rfl⟩ | exact ⟨9, rfl, rfl⟩ | exact ⟨10, rfl, rfl⟩ | exact ⟨11, rfl, rfl⟩ | exact ⟨12, rfl, rfl⟩ | assumption)
local macro_rules | `(tactic| fail "lkF") => `(tactic| first | assumption | exact fz_at 0 (by fail "nd") rfl rfl | exact fz_at 1 (by fail "nd") rfl rfl | exact fz_at 2 (by fail "nd") rfl rfl | exact fz_at 3 (by fail "nd") rfl rfl | exact fz_at 4 (by fail "nd") rfl rfl | exact fz_at 5 (by fail "nd") rfl rfl | exact fz_at 6 (by fail "nd") rfl rfl | exact fz_at 7 (by fail "nd") rfl rfl)
local macro_rules | `(tactic| fail "lkD") => `(tactic| first | assumption | exact dz_at 0 (by fail "nd") rfl rfl | exact dz_at 1 (by fail "nd") rfl rfl | exact dz_at 2 (by fail "nd") rfl rfl | exact dz_at 3 (by fail "nd") rfl rfl | exact dz_at 4 (by fail "nd") rfl rfl)
local macro_rules | `(tactic| fail "ptF") => `(tactic| first | assumption | exact fz_put 0 (by fail "nd") rfl (Nat.le_of_ble_eq_true rfl) | exact fz_put 1 (by fail "nd") rfl (Nat.le_of_ble_eq_true rfl) | exact fz_put 2 (by fail "nd") rfl (Nat.le_of_ble_eq_true rfl) | exact fz_put 3 (by fail "nd") rfl (Nat.le_of_ble_eq_true rfl) | exact fz_put 4 (by fail "nd") rfl (Nat.le_of_ble_eq_true rfl) | exact fz_put 5 (by fail "nd") rfl (Nat.le_of_ble_eq_true rfl) | exact fz_put 6 (by fail "nd") rfl (Nat.le_of_ble_eq_true rfl) | exact fz_put 7 (by fail "nd") rfl (Nat.le_of_ble_eq_true rfl) | exact fz_new (by decide +kernel) rfl)
local macro_rules | `(tactic| fail "ptD") => `(tactic| first | assumption | exact dz_put 0 (by fail "nd") rfl (Nat.le_of_ble_eq_true rfl) | exact dz_put 1 (by fail "nd") rfl (Nat.le_of_ble_eq_true rfl) | exact dz_put 2 (by fail "nd") rfl (Nat.le_of_ble_eq_true rfl) | exact dz_put 3 (by fail "nd") rfl (Nat.le_of_ble_eq_true rfl) | exact dz_put 4 (by fail "nd") rfl (Nat.le_of_ble_eq_true rfl))
local macro_rules | `(tactic| fail "sz") => `(tactic| first | assumption | exact (Nat.le_of_ble_eq_true rfl) | omega | decide)
local macro_rules | `(tactic| fail "sd") => `(tactic| first | rfl | assumption | decide | omega | (dsimp only; first | decide | omega) | exact .inr ⟨by decide, by decide⟩ | exact .inl ⟨by decide, by decide⟩ | exact ⟨by omega, by omega⟩ | exact .inl ⟨by omega, by omega⟩ | exact .inr ⟨by omega, by omega⟩ | exact ⟨by omega, by omega, by omega⟩)
local macro_rules | `(tactic| fail "cl") => `(tactic| (clear hH; dsimp only [List.set, List.cons_append, List.nil_append, List.append] at hL))
local macro_rules | `(tactic| fail "gn") => `(tactic| (intro p hp; generalize hH : upd H p _ = H; replace hL := Led.newH hL hp hH; clear hH hp))
local macro_rules | `(tactic| fail "gup") => `(tactic| (generalize hH : upd H _ _ = H; replace hL := Led.upU hL (by fail "up") hH; fail "cl"))
local macro_rules | `(tactic| fail "gmk") => `(tactic| (intro x dx hx hd ne; generalize hH : upd (upd H dx _) x _ = H; replace hL := Led.made hL hx hd ne hH; clear hH hx hd ne))
local macro_rules | `(tactic| fail "v") => `(tactic| refine ⟨_, rfl, ?_⟩)
local macro_rules | `(tactic| fail "i2") => `(tactic| refine ⟨_, _, rfl, rfl, ?_⟩)
local macro_rules | `(tactic| fail "go1") => `(tactic| first
  | refine ⟨_, rfl, ?_⟩
  | refine ⟨_, _, rfl, rfl, ?_⟩
  | refine ⟨_, _, rfl, ?_⟩
  | refine iteT ?_
  | refine iteF ?_
  | refine k_fld hL (by fail "ix") (by assumption) (by assumption) (by fail "lkF") ?_
  | refine k_dgetS hL (by fail "ix") (by fail "lkD") ?_
  | refine k_dgetI hL (by fail "ix") (by assumption) ?_
  | refine k_ixL hL (by fail "ix") (by first | rfl | assumption) ?_
  | refine k_ixT hL (by fail "ix") (by first | rfl | assumption) ?_
  | refine k_tyL hL (by fail "ix") ?_
  | refine k_isd hL (by fail "ix") ?_
  | (refine And.intro (by fail "sz") ?_; fail "gn")
  | refine And.intro (by fail "sd") ?_
  | fail "gn"
  | refine k_meth hL (by fail "ix") (by first | assumption | exact fz_no (by decide +kernel)) ?_
  | refine k_gtup hL (by fail "ix") rfl ?_
  | (refine k_popI hL (by fail "ix") (by assumption) ?_; fail "gup")
  | (refine k_listD hL (by fail "ix") ?_; fail "gn")
  | (refine ⟨_, _, _, _, rfl, rfl, hL.at (by fail "ix"), rfl, ?_⟩; fail "gup")
  | (refine ⟨_, _, _, rfl, rfl, hL.at (by fail "ix"), (by fail "sz"), ?_⟩; fail "gup")
  | (refine ⟨_, _, _, _, rfl, hL.at (by fail "ix"), by assumption, by assumption, Nat.lt_of_le_of_lt fz_len (by decide), ?_⟩; generalize hH : upd H _ _ = H; replace hL := Led.upF hL (by fail "up") (by fail "ptF") hH; fail "cl")
  | (refine ⟨_, _, hL.at (by fail "ix"), Nat.lt_of_le_of_lt fz_len (by decide), ?_⟩; generalize hH : upd H _ _ = H; replace hL := Led.upF hL (by fail "up") (by fail "ptF") hH; fail "cl")
  | (refine k_dputS hL (by fail "ix") (Nat.lt_of_le_of_lt dz_len (by decide)) (by fail "ptD") (by fail "up") ?_; clear hL; intro H hL; dsimp only [List.set, List.cons_append, List.nil_append, List.append] at hL)
  | refine .inl ⟨_, rfl, ?_⟩
  | refine .inr ⟨_, rfl, ?_⟩)
local macro_rules | `(tactic| fail "go") => `(tactic| repeat fail "go1")

theorem perm_same : ∀ {a b : List Int}, a.Perm b → a.Pairwise (· ≤ ·) → b.Pairwise (· ≤ ·) → a = b
  | [], b, h, _, _ => (List.Perm.nil_eq h)
  | x :: a, [], h, _, _ => by have := h.length_eq; simp at this
  | x :: a, y :: b, h, ha, hb => by
    obtain ⟨h1, h2⟩ := List.pairwise_cons.mp ha
    obtain ⟨h3, h4⟩ := List.pairwise_cons.mp hb
    have e : x = y := by
      have p : x ∈ y :: b := h.mem_iff.mp List.mem_cons_self
      have q : y ∈ x :: a := h.mem_iff.mpr List.mem_cons_self
      rcases List.mem_cons.mp p with e | p
      · exact e
      · rcases List.mem_cons.mp q with e | q
        · exact e.symm
        · exact Int.le_antisymm (h1 _ q) (h3 _ p)
    subst e
    rw [perm_same h.cons_inv h2 h4]
def Asc (rows : List We) : Prop := (rows.map (·.w.n)).Pairwise (· < ·)
def took (t len nr : Int) (e : We) : We := { e with w := { e.w with r := t + len, t := e.w.t + 1, c := some nr } }
/-- what is kept, what is given up, what is taken -/
def takeE (t len nr : Int) : List We → List We × List We × Option We
  | [] => ([], [], none)
  | e :: r => if e.w.r ≤ t ∧ 3 ≤ e.w.t then ((takeE t len nr r).1, e :: (takeE t len nr r).2.1, (takeE t len nr r).2.2)
    else if e.w.r ≤ t then (took t len nr e :: r, [], some (took t len nr e))
    else (e :: (takeE t len nr r).1, (takeE t len nr r).2.1, (takeE t len nr r).2.2)
theorem row_at {A B : List We} {e : We} (h : Asc (A ++ e :: B)) : valV ((A ++ e :: B).map rowK) (Sum.inl e.w.n) = some (.ref e.a) := by
  induction A with
  | nil => exact valV_pos (p := rowK e) rfl
  | cons x A ih =>
    obtain ⟨h1, h2⟩ := List.pairwise_cons.mp h
    have ne : ¬ (rowK x).1 = Sum.inl e.w.n := fun q => by
      have q := Sum.inl.inj q
      have : x.w.n < e.w.n := h1 e.w.n (List.mem_map.mpr ⟨e, List.mem_append_right _ List.mem_cons_self, rfl⟩)
      omega
    show valV (rowK x :: (A ++ e :: B).map rowK) _ = _
    rw [valV_neg ne]
    exact ih h2
theorem row_drop {A B : List We} {e : We} (h : Asc (A ++ e :: B)) : dropK ((A ++ e :: B).map rowK) (Sum.inl e.w.n) = (A ++ B).map rowK := by
  induction A with
  | nil =>
    show dropK (rowK e :: B.map rowK) _ = _
    rw [dropK_pos (p := rowK e) (k := Sum.inl e.w.n) rfl, dropK_no]
    · rfl
    · intro m
      obtain ⟨h1, h2⟩ := List.pairwise_cons.mp h
      obtain ⟨y, hy, q⟩ := List.mem_map.mp m
      obtain ⟨z, hz, rfl⟩ := List.mem_map.mp hy
      have q := Sum.inl.inj q
      have : e.w.n < z.w.n := h1 z.w.n (List.mem_map.mpr ⟨z, hz, rfl⟩)
      omega
  | cons x A ih =>
    obtain ⟨h1, h2⟩ := List.pairwise_cons.mp h
    have ne : ¬ (rowK x).1 = Sum.inl e.w.n := fun q => by
      have q := Sum.inl.inj q
      have : x.w.n < e.w.n := h1 e.w.n (List.mem_map.mpr ⟨e, List.mem_append_right _ List.mem_cons_self, rfl⟩)
      omega
    show dropK (rowK x :: (A ++ e :: B).map rowK) _ = _
    rw [dropK_neg ne, ih h2]
    rfl
structure TxtB (mg : Str → Option Value) : Prop where
  sorted : mg "sorted" = none
  list : mg "list" = none
  g_MOST_TAKES : ∃ u, mg "MOST_TAKES" = some u ∧ RelV (.int 3) u
def spTake (CW CQ : Addr) : Sp := fun vs H Q _ => ∃ (q dq rd g : Addr) (s : QS) (t : Int) (R : Lg), vs = [.ref q, .int t] ∧ Led H (QL CW CQ q dq rd g s ++ R) ∧ Asc s.rows ∧ s.rows.length + s.gu.length < 1000 ∧
  (∀ H', (takeE t s.len s.nr s.rows).2.2 = none → Led H' (QL CW CQ q dq rd g ⟨s.len, s.nn, s.nr, (takeE t s.len s.nr s.rows).1, s.gu ++ (takeE t s.len s.nr s.rows).2.1⟩ ++ R) → Q .non H') ∧
  (∀ H' e p, (takeE t s.len s.nr s.rows).2.2 = some e → Led H' ((p, .tup [.int e.w.n, .int s.nr, bodyOf e.w.n]) :: (QL CW CQ q dq rd g ⟨s.len, s.nn, s.nr + 1, (takeE t s.len s.nr s.rows).1, s.gu ++ (takeE t s.len s.nr s.rows).2.1⟩ ++ R)) → Q (.ref p) H')
/-- how far a taking has come -/
structure TK (t len nr : Int) (all A G B : List We) : Prop where
  k : (takeE t len nr all).1 = A ++ (takeE t len nr B).1
  g : (takeE t len nr all).2.1 = G ++ (takeE t len nr B).2.1
  f : (takeE t len nr all).2.2 = (takeE t len nr B).2.2
section
variable {P : Program} {w : World} {K : PySem.W.Frag} {mg : Str → Option Value} {base : Heap} {CW CQ : Addr}
theorem scTake : FnScope ["self", "time", "number", "work"] ["self", "time"] (defScope sTake) := ⟨rfl, rfl, rfl, by decide +kernel, rfl, by decide +kernel, by decide +kernel⟩
theorem ok_take {f : Addr} {fd : FuncData} (F : Fun K "take" "WorkQueue.take" sTake f fd) (X : TxtQ K mg CW CQ) (T : TxtB mg) : FnOk P w K mg base CX0 1 f fd ["self", "time"] (spTake CW CQ) := by
  refine F.ok scTake (fun vs H Q E h => ?_) (fun cdv A outer s H vs Q E hr h => ?_)
  · obtain ⟨q, dq, rd, g, s, t, R, rfl, _⟩ := h
    rfl
  · obtain ⟨q, dq, rd, g, s, t, R, rfl, hL, asc, hz, k0, k1⟩ := h
    have c1 := X.clQ
    have c2 := X.clW
    have f1 := X.nQ "length" (by decide +kernel)
    have f2 := X.nQ "rows" (by decide +kernel)
    have f3 := X.nQ "given_up" (by decide +kernel)
    have f4 := X.nQ "next_number" (by decide +kernel)
    have f5 := X.nQ "next_receipt" (by decide +kernel)
    have f6 := X.nW "body" (by decide +kernel)
    have f7 := X.nW "ready" (by decide +kernel)
    have f8 := X.nW "takes" (by decide +kernel)
    have f9 := X.nW "receipt" (by decide +kernel)
    refine ⟨_, (pss_cons (ps_for PassesOwn.never rfl (pi_list (pe_callB cr_sortedI (by rfl) T.sorted (by decide +kernel) (pa_cons (pe_callTy (call_list_dK rfl) (by rfl) T.list (by decide +kernel) (pa_cons (pe_fld (pv 0) rfl) pa_nil)) pa_nil))) (pg_name (i := 2) scTake.nd rfl (Or.inl rfl))
  (pss_cons (ps_set (i := 3) scTake.nd rfl (Or.inl rfl) (pe_dget (hu_of hr) (pe_fld (pv 0) rfl) (pv 2) (fun _ _ => rfl)))
  (pss_one (ps_if (PW.pt (pw_and (pt_cmpR op_le (pe_fld (pv 3) rfl) (pv 1) (nomark _)) (pw_and1 (pt_cmpR op_ge (pe_fld (pv 3) rfl) (C8.pe_gc (by rfl) T.g_MOST_TAKES) (nomark _)))))
  (pss_one (ps_expr (pe_bm PySem.F.plainAttrs_list PySem.F.slot_list_append PySem.F.type_list_append mt_append (pe_fld (pv 0) rfl) (pa_cons (pe_dpop1 (pe_fld (pv 0) rfl) (pv 2) ⟨rfl, rfl, rfl, rfl⟩) pa_nil))))
  (pss_one (ps_if (pt_cmpR op_le (pe_fld (pv 3) rfl) (pv 1) (nomark _))
  (pss_cons (ps_fld (pv 3) (pe_op op_add (pv 1) (pe_fld (pv 0) rfl)) rfl)
  (pss_cons (ps_fldaug (pv 3) pe_int in_add)
  (pss_cons (ps_fld (pv 3) (pe_fld (pv 0) rfl) rfl)
  (pss_cons (ps_fldaug (pv 0) pe_int in_add)
  (pss_one (ps_ret (pe_tup (pa_cons (pv 2) (pa_cons (pe_fld (pv 3) rfl) (pa_cons (pe_fld (pv 3) rfl) pa_nil))))))))))
  pss_nil))))))
  (pss_one (ps_ret pe_non))), ?_⟩
    unfold QL at hL
    have e1 : (s.rows.map rowK).map (fun kv => kV kv.1) = (s.rows.map (·.w.n)).map V.int := by simp [rowK, kV, Function.comp_def]
    fail "go"
    rw [e1] at hL
    refine ⟨_, _, rfl, .of (hL.at ⟨0, rfl⟩), fun ns' p2 hp hs hf => ?_⟩
    obtain rfl : ns' = s.rows.map (·.w.n) := perm_same hp hs (asc.imp fun h => Int.le_of_lt h)
    generalize hH : upd H p2 _ = H
    replace hL := Led.newH hL.tail hf hH
    clear hH hf hp hs
    refine ⟨_, rfl, ⟨_, .of (hL.at ⟨0, rfl⟩)⟩, for_list (K := K) (a := p2) (xs := (s.rows.map (·.w.n)).map V.int) (fun i σ H => Hold (∃ (A G B : List We) (v1 v2 : Option V), σ = [some (.ref q), some (.int t), v1, v2] ∧ TK t s.len s.nr s.rows A G B ∧ Asc (A ++ B) ∧
      (s.rows.map (·.w.n)).drop i = B.map (·.w.n) ∧ (A ++ B).length + (s.gu ++ G).length < 1000 ∧ Led H ((p2, .lst ((s.rows.map (·.w.n)).map V.int)) :: (QL CW CQ q dq rd g ⟨s.len, s.nn, s.nr, A ++ B, s.gu ++ G⟩ ++ R)))) ?_ ?_ ?_ ?_⟩
    · refine .mk ⟨[], [], s.rows, none, none, rfl, ⟨rfl, rfl, rfl⟩, asc, by simp, by simp; omega, ?_⟩
      simp only [List.nil_append, List.append_nil]
      exact hL
    · intro i σ H _ h
      obtain ⟨A, G, B, v1, v2, rfl, hk, asc, hd, hz, hL⟩ := h.out
      exact .of (hL.at ⟨0, rfl⟩)
    · intro i y σ H hi h
      obtain ⟨A, G, B, v1, v2, rfl, hk, asc, hd, hz, hL⟩ := h.out
      clear h
      cases B with
      | nil =>
        have : (s.rows.map (·.w.n)).length ≤ i := List.drop_eq_nil_iff.mp hd
        rw [List.getElem?_map, List.getElem?_eq_none_iff.mpr this] at hi
        cases hi
      | cons e B =>
        have hi2 : (s.rows.map (·.w.n))[i]? = some e.w.n := by
          have := congrArg (fun l : List Int => l[0]?) hd
          simpa using this
        rw [List.getElem?_map, hi2] at hi
        obtain rfl : V.int e.w.n = y := Option.some.inj hi
        have hd2 : (s.rows.map (·.w.n)).drop (i + 1) = B.map (·.w.n) := by
          rw [← List.drop_drop, hd]
          rfl
        have lk := row_at asc
        have ld := row_drop asc
        have hL2 : Led H ((e.a, .ins CW e.dx (fz nmW (vW (bodyOf e.w.n) e.w))) :: (((p2, .lst ((s.rows.map (·.w.n)).map V.int)) :: (q, .ins CQ dq (fz nmQ [.int s.len, .ref rd, .ref g, .int s.nn, .int s.nr])) :: (rd, .dK ((A ++ e :: B).map rowK)) ::
            (g, .lst ((s.gu ++ G).map fun e => .ref e.a)) :: ((s.gu ++ G).map (wobj CW) ++ A.map (wobj CW))) ++ (B.map (wobj CW) ++ R))) := by
          refine Led.front ?_
          unfold QL at hL
          simpa [wobj] using hL
        clear hL
        have hL := hL2
        clear hL2
        unfold vW at hL
        fail "go"
        refine ite_d (fun q1 => ?_) (fun q1 => ?_)
        · fail "go"
          refine ite_d (fun q2 => ?_) (fun q2 => ?_)
          · have hk2 : TK t s.len s.nr s.rows A (G ++ [e]) B := by
              obtain ⟨k1, k2, k3⟩ := hk
              simp only [takeE, if_pos (show e.w.r ≤ t ∧ 3 ≤ e.w.t from ⟨q1, q2⟩)] at k1 k2 k3
              exact ⟨k1, by rw [k2, List.append_assoc]; rfl, k3⟩
            have hzl : ((s.gu ++ G).map fun e => V.ref e.a).length < sizeLine := by
              rw [List.length_map]
              exact Nat.lt_of_lt_of_le (Nat.lt_of_le_of_lt (Nat.le_add_left _ _) hz) (by decide)
            fail "go"
            rw [ld] at hL
            fail "go"
            refine .mk ⟨A, G ++ [e], B, _, _, rfl, hk2, ?_, hd2, by simp at hz ⊢; omega, ?_⟩
            · have := asc
              unfold Asc at this ⊢
              simp only [List.map_append, List.map_cons] at this ⊢
              exact this.sublist ((List.sublist_cons_self _ _).append_left _)
            · simp only [List.append_assoc, List.cons_append] at hL
              have h3 := Led.back (A := (p2, _) :: (q, _) :: (rd, _) :: (g, _) :: (s.gu ++ G).map (wobj CW)) (B := A.map (wobj CW) ++ (B.map (wobj CW) ++ R)) hL
              unfold QL
              simpa [wobj, vW] using h3
          · have hk2 : (takeE t s.len s.nr (e :: B)) = (took t s.len s.nr e :: B, [], some (took t s.len s.nr e)) := by
              simp only [takeE, if_neg (show ¬ (e.w.r ≤ t ∧ 3 ≤ e.w.t) from fun h => q2 h.2), if_pos q1]
            fail "go"
            refine ite_t (decide_eq_true q1) ?_
            fail "go"
            refine k1 _ (took t s.len s.nr e) p (by rw [hk.f, hk2]) ?_
            rw [hk.k, hk.g, hk2]
            simp only [List.append_assoc, List.cons_append] at hL
            have h2 := hL.perm (List.Perm.swap _ _ _)
            have h3 := Led.back (A := (p, _) :: (p2, _) :: (q, _) :: (rd, _) :: (g, _) :: ((s.gu ++ G).map (wobj CW) ++ A.map (wobj CW))) (B := B.map (wobj CW) ++ R) (by simpa using h2)
            have h4 := (h3.perm (List.Perm.swap _ _ _)).tail
            unfold QL
            simpa [wobj, vW, took, rowK, bodyOf, optV] using h4
        · have hk2 : TK t s.len s.nr s.rows (A ++ [e]) G B := by
            obtain ⟨k1, k2, k3⟩ := hk
            simp only [takeE, if_neg (show ¬ (e.w.r ≤ t ∧ 3 ≤ e.w.t) from fun h => q1 h.1), if_neg q1] at k1 k2 k3
            exact ⟨by rw [k1, List.append_assoc]; rfl, k2, k3⟩
          fail "go"
          refine ite_f (decide_eq_false q1) ?_
          fail "go"
          refine .mk ⟨A ++ [e], G, B, _, _, rfl, hk2, ?_, hd2, by simp at hz ⊢; omega, ?_⟩
          · simpa using asc
          · simp only [List.append_assoc, List.cons_append] at hL
            have h3 := Led.back (A := (p2, _) :: (q, _) :: (rd, _) :: (g, _) :: ((s.gu ++ G).map (wobj CW) ++ A.map (wobj CW))) (B := B.map (wobj CW) ++ R) (by simpa using hL)
            unfold QL
            simpa [wobj, vW] using h3
    · intro σ H h
      obtain ⟨A, G, B, v1, v2, rfl, hk, asc, hd, hz, hL⟩ := h.out
      have hB : B = [] := by
        rw [List.drop_eq_nil_of_le (by simp)] at hd
        exact List.map_eq_nil_iff.mp hd.symm
      subst hB
      fail "go"
      refine k0 _ ?_ ?_
      · rw [hk.f]; rfl
      · rw [hk.k, hk.g]
        simpa [takeE] using hL.tail
end
end Sd


namespace Sd
open PySem L2
open C8 (Cal Met Mak pe_c pe_mk pe_mt pe_mt0 pss_cut tCut)
set_option hygiene false
local macro_rules | `(tactic| fail "nd") => `(tactic| first | assumption | decide +kernel)
local macro_rules | `(tactic| fail "ix") => `(tactic| first | exact ⟨0, rfl⟩ | exact ⟨1, rfl⟩ | exact ⟨2, rfl⟩ | exact ⟨3, rfl⟩ | exact ⟨4, rfl⟩ | exact ⟨5, rfl⟩ | exact ⟨6, rfl⟩ | exact ⟨7, rfl⟩ | exact ⟨8, rfl⟩ | exact ⟨9, rfl⟩ | exact ⟨10, rfl⟩ | exact ⟨11, rfl⟩ | exact ⟨12, rfl⟩ | assumption)
local macro_rules | `(tactic| fail "up") => `(tactic| first | exact ⟨0, rfl, rfl⟩ | exact ⟨1, rfl, rfl⟩ | exact ⟨2, rfl, rfl⟩ | exact ⟨3, rfl, rfl⟩ | exact ⟨4, rfl, rfl⟩ | exact ⟨5, rfl, rfl⟩ | exact ⟨6, rfl, rfl⟩ | exact ⟨7, rfl, rfl⟩ | exact ⟨8, rfl, rfl⟩ | exact ⟨9, rfl, rfl⟩ | exact ⟨10, rfl, rfl⟩ | exact ⟨11, rfl, rfl⟩ | exact ⟨12, rfl, rfl⟩ | assumption)
local macro_rules | `(tactic| fail "lkF") => `(tactic| first | assumption | exact fz_at 0 (by fail "nd") rfl rfl | exact fz_at 1 (by fail "nd") rfl rfl | exact fz_at 2 (by fail "nd") rfl rfl | exact fz_at 3 (by fail "nd") rfl rfl | exact fz_at 4 (by fail "nd") rfl rfl | exact fz_at 5 (by fail "nd") rfl rfl | exact fz_at 6 (by fail "nd") rfl rfl | exact fz_at 7 (by fail "nd") rfl rfl)
local macro_rules | `(tactic| fail "lkD") => `(tactic| first | assumption | exact dz_at 0 (by fail "nd") rfl rfl | exact dz_at 1 (by fail "nd") rfl rfl | exact dz_at 2 (by fail "nd") rfl rfl | exact dz_at 3 (by fail "nd") rfl rfl | exact dz_at 4 (by fail "nd") rfl rfl)
local macro_rules | `(tactic| fail "ptF") => `(tactic| first | assumption | exact fz_put 0 (by fail "nd") rfl (Nat.le_of_ble_eq_true rfl) | exact fz_put 1 (by fail "nd") rfl (Nat.le_of_ble_eq_true rfl) | exact fz_put 2 (by fail "nd") rfl (Nat.le_of_ble_eq_true rfl) | exact fz_put 3 (by fail "nd") rfl (Nat.le_of_ble_eq_true rfl) | exact fz_put 4 (by fail "nd") rfl (Nat.le_of_ble_eq_true rfl) | exact fz_put 5 (by fail "nd") rfl (Nat.le_of_ble_eq_true rfl) | exact fz_put 6 (by fail "nd") rfl (Nat.le_of_ble_eq_true rfl) | exact fz_put 7 (by fail "nd") rfl (Nat.le_of_ble_eq_true rfl) | exact fz_new (by decide +kernel) rfl)
local macro_rules | `(tactic| fail "ptD") => `(tactic| first | assumption | exact dz_put 0 (by fail "nd") rfl (Nat.le_of_ble_eq_true rfl) | exact dz_put 1 (by fail "nd") rfl (Nat.le_of_ble_eq_true rfl) | exact dz_put 2 (by fail "nd") rfl (Nat.le_of_ble_eq_true rfl) | exact dz_put 3 (by fail "nd") rfl (Nat.le_of_ble_eq_true rfl) | exact dz_put 4 (by fail "nd") rfl (Nat.le_of_ble_eq_true rfl))
local macro_rules | `(tactic| fail "sz") => `(tactic| first | assumption | exact (Nat.le_of_ble_eq_true rfl) | omega | decide)
local macro_rules | `(tactic| fail "sd") => `(tactic| first | rfl | assumption | decide | omega | (dsimp only; first | decide | omega) | exact .inr ⟨by decide, by decide⟩ | exact .inl ⟨by decide, by decide⟩ | exact ⟨by omega, by omega⟩ | exact .inl ⟨by omega, by omega⟩ | exact .inr ⟨by omega, by omega⟩ | exact ⟨by omega, by omega, by omega⟩)
local macro_rules | `(tactic| fail "cl") => `(tactic| (clear hH; dsimp only [List.set, List.cons_append, List.nil_append, List.append] at hL))
local macro_rules | `(tactic| fail "gn") => `(tactic| (intro p hp; generalize hH : upd H p _ = H; replace hL := Led.newH hL hp hH; clear hH hp))
local macro_rules | `(tactic| fail "gup") => `(tactic| (generalize hH : upd H _ _ = H; replace hL := Led.upU hL (by fail "up") hH; fail "cl"))
local macro_rules | `(tactic| fail "gmk") => `(tactic| (intro x dx hx hd ne; generalize hH : upd (upd H dx _) x _ = H; replace hL := Led.made hL hx hd ne hH; clear hH hx hd ne))
local macro_rules | `(tactic| fail "v") => `(tactic| refine ⟨_, rfl, ?_⟩)
local macro_rules | `(tactic| fail "i2") => `(tactic| refine ⟨_, _, rfl, rfl, ?_⟩)
local macro_rules | `(tactic| fail "go1") => `(tactic| first
  | refine ⟨_, rfl, ?_⟩
  | refine ⟨_, _, rfl, rfl, ?_⟩
  | refine ⟨_, _, rfl, ?_⟩
  | refine iteT ?_
  | refine iteF ?_
  | refine k_fld hL (by fail "ix") (by assumption) (by assumption) (by fail "lkF") ?_
  | refine k_dgetS hL (by fail "ix") (by fail "lkD") ?_
  | refine k_dgetI hL (by fail "ix") (by assumption) ?_
  | refine k_ixL hL (by fail "ix") (by first | rfl | assumption) ?_
  | refine k_ixT hL (by fail "ix") (by first | rfl | assumption) ?_
  | refine k_tyL hL (by fail "ix") ?_
  | refine k_isd hL (by fail "ix") ?_
  | (refine And.intro (by fail "sz") ?_; fail "gn")
  | refine And.intro (by fail "sd") ?_
  | fail "gn"
  | refine k_meth hL (by fail "ix") (by first | assumption | exact fz_no (by decide +kernel)) ?_
  | refine k_gtup hL (by fail "ix") rfl ?_
  | (refine k_popI hL (by fail "ix") (by assumption) ?_; fail "gup")
  | (refine k_listD hL (by fail "ix") ?_; fail "gn")
  | (refine ⟨_, _, _, _, rfl, rfl, hL.at (by fail "ix"), rfl, ?_⟩; fail "gup")
  | (refine ⟨_, _, _, rfl, rfl, hL.at (by fail "ix"), (by fail "sz"), ?_⟩; fail "gup")
  | (refine ⟨_, _, _, _, rfl, hL.at (by fail "ix"), by assumption, by assumption, Nat.lt_of_le_of_lt fz_len (by decide), ?_⟩; generalize hH : upd H _ _ = H; replace hL := Led.upF hL (by fail "up") (by fail "ptF") hH; fail "cl")
  | (refine ⟨_, _, hL.at (by fail "ix"), Nat.lt_of_le_of_lt fz_len (by decide), ?_⟩; generalize hH : upd H _ _ = H; replace hL := Led.upF hL (by fail "up") (by fail "ptF") hH; fail "cl")
  | (refine k_dputS hL (by fail "ix") (Nat.lt_of_le_of_lt dz_len (by decide)) (by fail "ptD") (by fail "up") ?_; clear hL; intro H hL; dsimp only [List.set, List.cons_append, List.nil_append, List.append] at hL)
  | refine .inl ⟨_, rfl, ?_⟩
  | refine .inr ⟨_, rfl, ?_⟩)
local macro_rules | `(tactic| fail "go") => `(tactic| repeat fail "go1")

def holdsW (ws : List Wk) (n : Int) (rc : Option Int) (t : Int) : Bool := ws.any fun w => decide (w.n = n) && (decide (w.c = rc) && (rc.isSome && decide (t < w.r)))
theorem split_row {rows : List We} (n : Int) : (∃ A e B, rows = A ++ e :: B ∧ e.w.n = n) ∨ ∀ e ∈ rows, e.w.n ≠ n := by
  induction rows with
  | nil => exact .inr fun _ h => nomatch h
  | cons e r ih =>
    by_cases h : e.w.n = n
    · exact .inl ⟨[], e, r, rfl, h⟩
    · rcases ih with ⟨A, x, B, hs, hn⟩ | ih
      · exact .inl ⟨e :: A, x, B, by rw [hs]; rfl, hn⟩
      · refine .inr fun x hx => ?_
        rcases List.mem_cons.mp hx with q | q
        · rw [q]; exact h
        · exact ih x q
theorem asc_ne {A B : List We} {e : We} (h : Asc (A ++ e :: B)) : (∀ x ∈ A, x.w.n ≠ e.w.n) ∧ (∀ x ∈ B, x.w.n ≠ e.w.n) := by
  unfold Asc at h
  rw [List.map_append, List.map_cons] at h
  obtain ⟨h1, h2, h3⟩ := List.pairwise_append.mp h
  obtain ⟨h4, h5⟩ := List.pairwise_cons.mp h2
  refine ⟨fun x hx => ?_, fun x hx => ?_⟩
  · have := h3 x.w.n (List.mem_map.mpr ⟨x, hx, rfl⟩) e.w.n List.mem_cons_self
    omega
  · have := h4 x.w.n (List.mem_map.mpr ⟨x, hx, rfl⟩)
    omega
theorem any_no {rows : List We} {n : Int} (p : Wk → Bool) (h : ∀ x ∈ rows, x.w.n ≠ n) : ((rows.map (·.w)).any fun w => decide (w.n = n) && p w) = false := by
  rw [List.any_eq_false]
  intro w hw
  obtain ⟨x, hx, rfl⟩ := List.mem_map.mp hw
  have := h x hx
  simp [this]
theorem holds_at {A B : List We} {e : We} {rc : Option Int} {t : Int} (h : Asc (A ++ e :: B)) : holdsW ((A ++ e :: B).map (·.w)) e.w.n rc t = (decide (e.w.c = rc) && (rc.isSome && decide (t < e.w.r))) := by
  obtain ⟨h1, h2⟩ := asc_ne h
  unfold holdsW
  rw [List.map_append, List.map_cons, List.any_append, List.any_cons, any_no _ h1, any_no _ h2]
  simp
theorem holds_no {rows : List We} {n : Int} {rc : Option Int} {t : Int} (h : ∀ x ∈ rows, x.w.n ≠ n) : holdsW (rows.map (·.w)) n rc t = false := any_no _ h
theorem optV_eq (a b : Option Int) : decide (optV a = optV b) = decide (a = b) := by
  cases a <;> cases b <;> simp [optV]
theorem optV_scal (a b : Option Int) : scal (optV a) (optV b) = true := by
  cases a <;> cases b <;> rfl
theorem optV_non (a : Option Int) : decide (optV a = V.non) = a.isNone := by
  cases a <;> simp [optV]
def spHolds (CW CQ : Addr) : Sp := fun vs H Q _ => ∃ (q dq rd g : Addr) (s : QS) (n : Int) (rc : Option Int) (t : Int) (R : Lg), vs = [.ref q, .int n, optV rc, .int t] ∧ Led H (QL CW CQ q dq rd g s ++ R) ∧ Asc s.rows ∧
  ∀ H', Led H' (QL CW CQ q dq rd g s ++ R) → Q (.bl (holdsW (s.rows.map (·.w)) n rc t)) H'
def spDone (CW CQ : Addr) (f : Int → Int → List We → List We) : Sp := fun vs H Q _ => ∃ (q dq rd g : Addr) (s : QS) (n : Int) (rc : Option Int) (t : Int) (R : Lg), vs = [.ref q, .int n, optV rc, .int t] ∧ Led H (QL CW CQ q dq rd g s ++ R) ∧ Asc s.rows ∧
  (∀ H', holdsW (s.rows.map (·.w)) n rc t = false → Led H' (QL CW CQ q dq rd g s ++ R) → Q (.bl false) H') ∧
  (∀ H', holdsW (s.rows.map (·.w)) n rc t = true → Led H' (QL CW CQ q dq rd g ⟨s.len, s.nn, s.nr, f n (t + s.len) s.rows, s.gu⟩ ++ R) → Q (.bl true) H')
def dropE (n _t : Int) (rows : List We) : List We := rows.filter fun e => decide (e.w.n ≠ n)
def setE (n : Int) (r : Int) (c : Option Int → Option Int) (rows : List We) : List We := rows.map fun e => if e.w.n = n then { e with w := { e.w with r := r, c := c e.w.c } } else e
theorem drop_at {A B : List We} {e : We} {t : Int} (h : Asc (A ++ e :: B)) : dropE e.w.n t (A ++ e :: B) = A ++ B := by
  obtain ⟨h1, h2⟩ := asc_ne h
  unfold dropE
  rw [List.filter_append, List.filter_cons, if_neg (by simp), List.filter_eq_self.mpr fun x hx => by simp [h1 x hx], List.filter_eq_self.mpr fun x hx => by simp [h2 x hx]]
theorem set_at {A B : List We} {e : We} {r : Int} {c : Option Int → Option Int} (h : Asc (A ++ e :: B)) : setE e.w.n r c (A ++ e :: B) = A ++ { e with w := { e.w with r := r, c := c e.w.c } } :: B := by
  obtain ⟨h1, h2⟩ := asc_ne h
  unfold setE
  rw [List.map_append, List.map_cons, if_pos rfl]
  have e1 : A.map (fun x => if x.w.n = e.w.n then { x with w := { x.w with r := r, c := c x.w.c } } else x) = A := by
    rw [List.map_congr_left (g := id) fun x hx => by simp [h1 x hx], List.map_id]
  have e2 : B.map (fun x => if x.w.n = e.w.n then { x with w := { x.w with r := r, c := c x.w.c } } else x) = B := by
    rw [List.map_congr_left (g := id) fun x hx => by simp [h2 x hx], List.map_id]
  rw [e1, e2]
section
variable {P : Program} {w : World} {K : PySem.W.Frag} {mg : Str → Option Value} {base : Heap} {CW CQ : Addr}
theorem scHolds : FnScope ["self", "number", "receipt", "time", "work"] ["self", "number", "receipt", "time"] (defScope sHolds) := ⟨rfl, rfl, rfl, by decide +kernel, rfl, by decide +kernel, by decide +kernel⟩
theorem ok_holds {f : Addr} {fd : FuncData} (F : Fun K "holds" "WorkQueue.holds" sHolds f fd) (X : TxtQ K mg CW CQ) : FnOk P w K mg base CX0 1 f fd ["self", "number", "receipt", "time"] (spHolds CW CQ) := by
  refine F.ok scHolds (fun vs H Q E h => ?_) (fun cdv A outer s H vs Q E hr h => ?_)
  · obtain ⟨q, dq, rd, g, s, n, rc, t, R, rfl, _⟩ := h
    rfl
  · obtain ⟨q, dq, rd, g, ⟨len, nn, nr, rows, gu⟩, n, rc, t, R, rfl, hL, asc, k0⟩ := h
    have c1 := X.clQ
    have c2 := X.clW
    have f2 := X.nQ "rows" (by decide +kernel)
    have f7 := X.nW "ready" (by decide +kernel)
    have f9 := X.nW "receipt" (by decide +kernel)
    refine ⟨_, (pss_cons (ps_set (i := 4) scHolds.nd rfl (Or.inl rfl) (pe_dget1 (hu_of hr) (pe_fld (pv 0) rfl) (pv 1) ⟨rfl, rfl, rfl, rfl⟩))
  (pss_one (ps_ret (pe_and (pe_cmpR op_notN (pv 4) pe_non (nomark _)) (pe_and (pe_cmpR op_notN (pv 2) pe_non (nomark _)) (pe_and (pe_cmpR op_eq (pe_fld (pv 4) rfl) (pv 2) (nomark _)) (pe_one (pe_cmpR op_lt (pv 3) (pe_fld (pv 4) rfl) (nomark _))))))))), ?_⟩
    have hL0 := hL
    dsimp only [QL] at hL asc k0
    fail "go"
    refine k_getI hL (by fail "ix") ?_
    rcases split_row (rows := rows) n with ⟨A, e, B, rfl, rfl⟩ | hn
    · rw [row_at asc]
      have he : At (((q, .ins CQ dq (fz nmQ [.int len, .ref rd, .ref g, .int nn, .int nr])) :: (rd, .dK ((A ++ e :: B).map rowK)) :: (g, .lst (gu.map fun e => .ref e.a)) :: (gu.map (wobj CW) ++ (A ++ e :: B).map (wobj CW))) ++ R) e.a (.ins CW e.dx (fz nmW (vW (bodyOf e.w.n) e.w))) :=
        List.getElem?_of_mem (by simp [wobj])
      rw [holds_at asc] at k0
      unfold vW at he
      fail "go"
      rw [optV_non]
      cases rc with
      | none =>
        fail "go"
        simpa using k0 H hL0
      | some rc =>
        fail "go"
        refine And.intro (optV_scal _ _) ?_
        fail "go"
        rw [optV_eq]
        refine ite_d (fun h1 => ?_) (fun h1 => ?_)
        · fail "go"
          simpa [h1] using k0 H hL0
        · simpa [h1] using k0 H hL0
    · rw [row_no hn]
      fail "go"
      have := k0 H hL0
      rw [holds_no hn] at this
      exact this
end
end Sd


namespace Sd
open PySem L2
open C8 (Cal Met Mak pe_c pe_mk pe_mt pe_mt0 pss_cut tCut)
set_option hygiene false
local macro_rules | `(tactic| fail "nd") => `(tactic| first | assumption | decide +kernel)
local macro_rules | `(tactic| fail "ix") => `(tactic| first | exact ⟨0, rfl⟩ | exact ⟨1, rfl⟩ | exact ⟨2, rfl⟩ | exact ⟨3, rfl⟩ | exact ⟨4, rfl⟩ | exact ⟨5, rfl⟩ | exact ⟨6, rfl⟩ | exact ⟨7, rfl⟩ | exact ⟨8, rfl⟩ | exact ⟨9, rfl⟩ | exact ⟨10, rfl⟩ | exact ⟨11, rfl⟩ | exact ⟨12, rfl⟩ | assumption)
local macro_rules | `(tactic| fail "up") => `(tactic| first | exact ⟨0, rfl, rfl⟩ | exact ⟨1, rfl, rfl⟩ | exact ⟨2, rfl, rfl⟩ | exact ⟨3, rfl, rfl⟩ | exact ⟨4, rfl, rfl⟩ | exact ⟨5, rfl, rfl⟩ | exact ⟨6, rfl, rfl⟩ | exact ⟨7, rfl, rfl⟩ | exact ⟨8, rfl, rfl⟩ | exact ⟨9, rfl, rfl⟩ | exact ⟨10, rfl, rfl⟩ | exact ⟨11, rfl, rfl⟩ | exact ⟨12, rfl, rfl⟩ | assumption)
local macro_rules | `(tactic| fail "lkF") => `(tactic| first | assumption | exact fz_at 0 (by fail "nd") rfl rfl | exact fz_at 1 (by fail "nd") rfl rfl | exact fz_at 2 (by fail "nd") rfl rfl | exact fz_at 3 (by fail "nd") rfl rfl | exact fz_at 4 (by fail "nd") rfl rfl | exact fz_at 5 (by fail "nd") rfl rfl | exact fz_at 6 (by fail "nd") rfl rfl | exact fz_at 7 (by fail "nd") rfl rfl)
local macro_rules | `(tactic| fail "lkD") => `(tactic| first | assumption | exact dz_at 0 (by fail "nd") rfl rfl | exact dz_at 1 (by fail "nd") rfl rfl | exact dz_at 2 (by fail "nd") rfl rfl | exact dz_at 3 (by fail "nd") rfl rfl | exact dz_at 4 (by fail "nd") rfl rfl)
local macro_rules | `(tactic| fail "ptF") => `(tactic| first | assumption | exact fz_put 0 (by fail "nd") rfl (Nat.le_of_ble_eq_true rfl) | exact fz_put 1 (by fail "nd") rfl (Nat.le_of_ble_eq_true rfl) | exact fz_put 2 (by fail "nd") rfl (Nat.le_of_ble_eq_true rfl) | exact fz_put 3 (by fail "nd") rfl (Nat.le_of_ble_eq_true rfl) | exact fz_put 4 (by fail "nd") rfl (Nat.le_of_ble_eq_true rfl) | exact fz_put 5 (by fail "nd") rfl (Nat.le_of_ble_eq_true rfl) | exact fz_put 6 (by fail "nd") rfl (Nat.le_of_ble_eq_true rfl) | exact fz_put 7 (by fail "nd") rfl (Nat.le_of_ble_eq_true rfl) | exact fz_new (by decide +kernel) rfl)
local macro_rules | `(tactic| fail "ptD") => `(tactic| first | assumption | exact dz_put 0 (by fail "nd") rfl (Nat.le_of_ble_eq_true rfl) | exact dz_put 1 (by fail "nd") rfl (Nat.le_of_ble_eq_true rfl) | exact dz_put 2 (by fail "nd") rfl (Nat.le_of_ble_eq_true rfl) | exact dz_put 3 (by fail "nd") rfl (Nat.le_of_ble_eq_true rfl) | exact dz_put 4 (by fail "nd") rfl (Nat.le_of_ble_eq_true rfl))
local macro_rules | `(tactic| fail "sz") => `(tactic| first | assumption | exact (Nat.le_of_ble_eq_true rfl) | omega | decide)
local macro_rules | `(tactic| fail "sd") => `(tactic| first | rfl | assumption | decide | omega | (dsimp only; first | decide | omega) | exact .inr ⟨by decide, by decide⟩ | exact .inl ⟨by decide, by decide⟩ | exact ⟨by omega, by omega⟩ | exact .inl ⟨by omega, by omega⟩ | exact .inr ⟨by omega, by omega⟩ | exact ⟨by omega, by omega, by omega⟩)
local macro_rules | `(tactic| fail "cl") => `(tactic| (clear hH; dsimp only [List.set, List.cons_append, List.nil_append, List.append] at hL))
local macro_rules | `(tactic| fail "gn") => `(tactic| (intro p hp; generalize hH : upd H p _ = H; replace hL := Led.newH hL hp hH; clear hH hp))
local macro_rules | `(tactic| fail "gup") => `(tactic| (generalize hH : upd H _ _ = H; replace hL := Led.upU hL (by fail "up") hH; fail "cl"))
local macro_rules | `(tactic| fail "gmk") => `(tactic| (intro x dx hx hd ne; generalize hH : upd (upd H dx _) x _ = H; replace hL := Led.made hL hx hd ne hH; clear hH hx hd ne))
local macro_rules | `(tactic| fail "v") => `(tactic| refine ⟨_, rfl, ?_⟩)
local macro_rules | `(tactic| fail "i2") => `(tactic| refine ⟨_, _, rfl, rfl, ?_⟩)
local macro_rules | `(tactic| fail "go1") => `(tactic| first
  | refine ⟨_, rfl, ?_⟩
  | refine ⟨_, _, rfl, rfl, ?_⟩
  | refine ⟨_, _, rfl, ?_⟩
  | refine iteT ?_
  | refine iteF ?_
  | refine k_fld hL (by fail "ix") (by assumption) (by assumption) (by fail "lkF") ?_
  | refine k_dgetS hL (by fail "ix") (by fail "lkD") ?_
  | refine k_dgetI hL (by fail "ix") (by assumption) ?_
  | refine k_ixL hL (by fail "ix") (by first | rfl | assumption) ?_
  | refine k_ixT hL (by fail "ix") (by first | rfl | assumption) ?_
  | refine k_tyL hL (by fail "ix") ?_
  | refine k_isd hL (by fail "ix") ?_
  | (refine And.intro (by fail "sz") ?_; fail "gn")
  | refine And.intro (by fail "sd") ?_
  | fail "gn"
  | refine k_meth hL (by fail "ix") (by first | assumption | exact fz_no (by decide +kernel)) ?_
  | refine k_gtup hL (by fail "ix") rfl ?_
  | (refine k_popI hL (by fail "ix") (by assumption) ?_; fail "gup")
  | (refine k_listD hL (by fail "ix") ?_; fail "gn")
  | (refine ⟨_, _, _, _, rfl, rfl, hL.at (by fail "ix"), rfl, ?_⟩; fail "gup")
  | (refine ⟨_, _, _, rfl, rfl, hL.at (by fail "ix"), (by fail "sz"), ?_⟩; fail "gup")
  | (refine ⟨_, _, _, _, rfl, hL.at (by fail "ix"), by assumption, by assumption, Nat.lt_of_le_of_lt fz_len (by decide), ?_⟩; generalize hH : upd H _ _ = H; replace hL := Led.upF hL (by fail "up") (by fail "ptF") hH; fail "cl")
  | (refine ⟨_, _, hL.at (by fail "ix"), Nat.lt_of_le_of_lt fz_len (by decide), ?_⟩; generalize hH : upd H _ _ = H; replace hL := Led.upF hL (by fail "up") (by fail "ptF") hH; fail "cl")
  | (refine k_dputS hL (by fail "ix") (Nat.lt_of_le_of_lt dz_len (by decide)) (by fail "ptD") (by fail "up") ?_; clear hL; intro H hL; dsimp only [List.set, List.cons_append, List.nil_append, List.append] at hL)
  | refine .inl ⟨_, rfl, ?_⟩
  | refine .inr ⟨_, rfl, ?_⟩)
local macro_rules | `(tactic| fail "go") => `(tactic| repeat fail "go1")

theorem holds_split {rows : List We} {n : Int} {rc : Option Int} {t : Int} (h : holdsW (rows.map (·.w)) n rc t = true) : ∃ A e B, rows = A ++ e :: B ∧ e.w.n = n := by
  rcases split_row (rows := rows) n with q | q
  · exact q
  · rw [holds_no q] at h
    cases h
def spUpd (CW CQ : Addr) (r : Int → Int → Int) (c : Option Int → Option Int) : Sp := fun vs H Q _ => ∃ (q dq rd g : Addr) (s : QS) (n : Int) (rc : Option Int) (t : Int) (R : Lg), vs = [.ref q, .int n, optV rc, .int t] ∧ Led H (QL CW CQ q dq rd g s ++ R) ∧ Asc s.rows ∧
  (∀ H', holdsW (s.rows.map (·.w)) n rc t = false → Led H' (QL CW CQ q dq rd g s ++ R) → Q (.bl false) H') ∧
  (∀ H', holdsW (s.rows.map (·.w)) n rc t = true → Led H' (QL CW CQ q dq rd g ⟨s.len, s.nn, s.nr, setE n (r t s.len) c s.rows, s.gu⟩ ++ R) → Q (.bl true) H')
/-- the row e ahead of all -/
theorem upd_front {H : Hp} {CW CQ q dq rd g : Addr} {len nn nr : Int} {A B gu : List We} {e : We} {R : Lg} (h : Led H (QL CW CQ q dq rd g ⟨len, nn, nr, A ++ e :: B, gu⟩ ++ R)) :
    Led H (wobj CW e :: (((q, .ins CQ dq (fz nmQ [.int len, .ref rd, .ref g, .int nn, .int nr])) :: (rd, .dK ((A ++ e :: B).map rowK)) :: (g, .lst (gu.map fun e => .ref e.a)) :: (gu.map (wobj CW) ++ A.map (wobj CW))) ++ (B.map (wobj CW) ++ R))) := by
  refine Led.front ?_
  unfold QL at h
  simpa using h
theorem upd_back {H : Hp} {CW CQ q dq rd g : Addr} {len nn nr : Int} {A B gu : List We} {e e' : We} {R : Lg} (h : Led H (wobj CW ⟨e.a, e.dx, e'.w⟩ :: (((q, .ins CQ dq (fz nmQ [.int len, .ref rd, .ref g, .int nn, .int nr])) :: (rd, .dK ((A ++ e :: B).map rowK)) :: (g, .lst (gu.map fun e => .ref e.a)) :: (gu.map (wobj CW) ++ A.map (wobj CW))) ++ (B.map (wobj CW) ++ R))))
    (hn : e'.w.n = e.w.n) : Led H (QL CW CQ q dq rd g ⟨len, nn, nr, A ++ ⟨e.a, e.dx, e'.w⟩ :: B, gu⟩ ++ R) := by
  have h3 := Led.back h
  unfold QL
  simpa [rowK, hn] using h3
section
variable {P : Program} {w : World} {K : PySem.W.Frag} {mg : Str → Option Value} {base : Heap} {CW CQ : Addr}
theorem sc4 : FnScope ["self", "number", "receipt", "time"] ["self", "number", "receipt", "time"] (defScope sDone) := ⟨rfl, rfl, rfl, by decide +kernel, rfl, by decide +kernel, by decide +kernel⟩
theorem scBack : FnScope ["self", "number", "receipt", "time"] ["self", "number", "receipt", "time"] (defScope sBack) := ⟨rfl, rfl, rfl, by decide +kernel, rfl, by decide +kernel, by decide +kernel⟩
theorem scLonger : FnScope ["self", "number", "receipt", "time"] ["self", "number", "receipt", "time"] (defScope sLonger) := ⟨rfl, rfl, rfl, by decide +kernel, rfl, by decide +kernel, by decide +kernel⟩
theorem ok_done {f : Addr} {fd : FuncData} (F : Fun K "done" "WorkQueue.done" sDone f fd) (X : TxtQ K mg CW CQ) (c_WorkQueue_holds : Met P w K mg base 1 CQ "holds" (spHolds CW CQ) []) :
    FnOk P w K mg base CX0 2 f fd ["self", "number", "receipt", "time"] (spDone CW CQ dropE) := by
  refine F.ok sc4 (fun vs H Q E h => ?_) (fun cdv A outer s H vs Q E hr h => ?_)
  · obtain ⟨q, dq, rd, g, s, n, rc, t, R, rfl, _⟩ := h
    rfl
  · obtain ⟨q, dq, rd, g, ⟨len, nn, nr, rows, gu⟩, n, rc, t, R, rfl, hL, asc, k0, k1⟩ := h
    have c1 := X.clQ
    have f2 := X.nQ "rows" (by decide +kernel)
    refine ⟨_, (pss_cons (ps_if (pt_not (pt_val (pe_mt c_WorkQueue_holds hr (by decide) (pv 0) (pa_cons (pv 1) (pa_cons (pv 2) (pa_cons (pv 3) pa_nil))))))
  (pss_one (ps_ret pe_bl))
  pss_nil)
  (pss_cons (ps_ddel (pe_fld (pv 0) rfl) (pv 1))
  (pss_one (ps_ret pe_bl)))), ?_⟩
    have hL0 := hL
    dsimp only [QL] at hL asc k0 k1
    fail "go"
    clear hL
    refine ⟨q, dq, rd, g, ⟨len, nn, nr, rows, gu⟩, n, rc, t, R, rfl, hL0, asc, fun H hL => ⟨_, rfl, ?_⟩⟩
    refine ite_b (fun h1 => ?_) (fun h1 => ?_)
    · have h1 : holdsW (rows.map (·.w)) n rc t = false := by simpa using h1
      exact k0 _ h1 hL
    · have h1 : holdsW (rows.map (·.w)) n rc t = true := by simpa using h1
      obtain ⟨A, e, B, rfl, rfl⟩ := holds_split h1
      have lk := row_at asc
      have ld := row_drop asc
      dsimp only [QL] at hL
      fail "go"
      refine ⟨_, _, .inl e.w.n, rfl, hL.at (by fail "ix"), rfl, by rw [lk]; rfl, ?_⟩
      rw [ld]
      fail "gup"
      fail "go"
      refine k1 _ h1 ?_
      rw [drop_at asc]
      refine hL.sub ?_
      simp only [List.map_append, List.map_cons, List.append_assoc, List.cons_append]
      refine .cons_cons _ (.cons_cons _ (.cons_cons _ (.append_left (.append_left (List.sublist_cons_self _ _) _) _)))
theorem ok_back {f : Addr} {fd : FuncData} (F : Fun K "give_back" "WorkQueue.give_back" sBack f fd) (X : TxtQ K mg CW CQ) (c_WorkQueue_holds : Met P w K mg base 1 CQ "holds" (spHolds CW CQ) []) :
    FnOk P w K mg base CX0 2 f fd ["self", "number", "receipt", "time"] (spUpd CW CQ (fun t _ => t) (fun _ => none)) := by
  refine F.ok scBack (fun vs H Q E h => ?_) (fun cdv A outer s H vs Q E hr h => ?_)
  · obtain ⟨q, dq, rd, g, s, n, rc, t, R, rfl, _⟩ := h
    rfl
  · obtain ⟨q, dq, rd, g, ⟨len, nn, nr, rows, gu⟩, n, rc, t, R, rfl, hL, asc, k0, k1⟩ := h
    have c1 := X.clQ
    have c2 := X.clW
    have f2 := X.nQ "rows" (by decide +kernel)
    have f7 := X.nW "ready" (by decide +kernel)
    have f9 := X.nW "receipt" (by decide +kernel)
    refine ⟨_, (pss_cons (ps_if (pt_not (pt_val (pe_mt c_WorkQueue_holds hr (by decide) (pv 0) (pa_cons (pv 1) (pa_cons (pv 2) (pa_cons (pv 3) pa_nil))))))
  (pss_one (ps_ret pe_bl))
  pss_nil)
  (pss_cons (ps_fld (pe_dget (hu_of hr) (pe_fld (pv 0) rfl) (pv 1) (fun _ _ => rfl)) (pv 3) rfl)
  (pss_cons (ps_fld (pe_dget (hu_of hr) (pe_fld (pv 0) rfl) (pv 1) (fun _ _ => rfl)) pe_non rfl)
  (pss_one (ps_ret pe_bl))))), ?_⟩
    have hL0 := hL
    dsimp only [QL] at hL asc k0 k1
    fail "go"
    clear hL
    refine ⟨q, dq, rd, g, ⟨len, nn, nr, rows, gu⟩, n, rc, t, R, rfl, hL0, asc, fun H hL => ⟨_, rfl, ?_⟩⟩
    refine ite_b (fun h1 => ?_) (fun h1 => ?_)
    · have h1 : holdsW (rows.map (·.w)) n rc t = false := by simpa using h1
      exact k0 _ h1 hL
    · have h1 : holdsW (rows.map (·.w)) n rc t = true := by simpa using h1
      obtain ⟨A, e, B, rfl, rfl⟩ := holds_split h1
      have lk := row_at asc
      replace hL := upd_front hL
      dsimp only [wobj, vW] at hL
      fail "go"
      refine k1 _ h1 ?_
      rw [set_at asc]
      exact upd_back (e := e) (e' := { e with w := { e.w with r := t, c := none } }) hL rfl
theorem ok_longer {f : Addr} {fd : FuncData} (F : Fun K "longer" "WorkQueue.longer" sLonger f fd) (X : TxtQ K mg CW CQ) (c_WorkQueue_holds : Met P w K mg base 1 CQ "holds" (spHolds CW CQ) []) :
    FnOk P w K mg base CX0 2 f fd ["self", "number", "receipt", "time"] (spUpd CW CQ (fun t l => t + l) (fun c => c)) := by
  refine F.ok scLonger (fun vs H Q E h => ?_) (fun cdv A outer s H vs Q E hr h => ?_)
  · obtain ⟨q, dq, rd, g, s, n, rc, t, R, rfl, _⟩ := h
    rfl
  · obtain ⟨q, dq, rd, g, ⟨len, nn, nr, rows, gu⟩, n, rc, t, R, rfl, hL, asc, k0, k1⟩ := h
    have c1 := X.clQ
    have c2 := X.clW
    have f1 := X.nQ "length" (by decide +kernel)
    have f2 := X.nQ "rows" (by decide +kernel)
    have f7 := X.nW "ready" (by decide +kernel)
    refine ⟨_, (pss_cons (ps_if (pt_not (pt_val (pe_mt c_WorkQueue_holds hr (by decide) (pv 0) (pa_cons (pv 1) (pa_cons (pv 2) (pa_cons (pv 3) pa_nil))))))
  (pss_one (ps_ret pe_bl))
  pss_nil)
  (pss_cons (ps_fld (pe_dget (hu_of hr) (pe_fld (pv 0) rfl) (pv 1) (fun _ _ => rfl)) (pe_op op_add (pv 3) (pe_fld (pv 0) rfl)) rfl)
  (pss_one (ps_ret pe_bl)))), ?_⟩
    have hL0 := hL
    dsimp only [QL] at hL asc k0 k1
    fail "go"
    clear hL
    refine ⟨q, dq, rd, g, ⟨len, nn, nr, rows, gu⟩, n, rc, t, R, rfl, hL0, asc, fun H hL => ⟨_, rfl, ?_⟩⟩
    refine ite_b (fun h1 => ?_) (fun h1 => ?_)
    · have h1 : holdsW (rows.map (·.w)) n rc t = false := by simpa using h1
      exact k0 _ h1 hL
    · have h1 : holdsW (rows.map (·.w)) n rc t = true := by simpa using h1
      obtain ⟨A, e, B, rfl, rfl⟩ := holds_split h1
      have lk := row_at asc
      replace hL := upd_front hL
      dsimp only [wobj, vW] at hL
      fail "go"
      refine k1 _ h1 ?_
      rw [set_at asc]
      exact upd_back (e := e) (e' := { e with w := { e.w with r := t + len } }) hL rfl
end
end Sd


namespace Sd
open PySem L2
open C8 (Cal Met Mak pe_c pe_mk pe_mt pe_mt0 tCut)
set_option hygiene false
local macro_rules | `(tactic| fail "nd") => `(tactic| first | assumption | decide +kernel)
local macro_rules | `(tactic| fail "ix") => `(tactic| first | exact ⟨0, rfl⟩ | exact ⟨1, rfl⟩ | exact ⟨2, rfl⟩ | exact ⟨3, rfl⟩ | exact ⟨4, rfl⟩ | exact ⟨5, rfl⟩ | exact ⟨6, rfl⟩ | exact ⟨7, rfl⟩ | exact ⟨8, rfl⟩ | exact ⟨9, rfl⟩ | exact ⟨10, rfl⟩ | exact ⟨11, rfl⟩ | exact ⟨12, rfl⟩ | assumption)
local macro_rules | `(tactic| fail "up") => `(tactic| first | exact ⟨0, rfl, rfl⟩ | exact ⟨1, rfl, rfl⟩ | exact ⟨2, rfl, rfl⟩ | exact ⟨3, rfl, rfl⟩ | exact ⟨4, rfl, rfl⟩ | exact ⟨5, rfl, rfl⟩ | exact ⟨6, rfl, rfl⟩ | exact ⟨7, rfl, rfl⟩ | exact ⟨8, rfl, rfl⟩ | exact ⟨9, rfl, rfl⟩ | exact ⟨10, rfl, rfl⟩ | exact ⟨11, rfl, rfl⟩ | exact ⟨12, rfl, rfl⟩ | assumption)
local macro_rules | `(tactic| fail "lkF") => `(tactic| first | assumption | exact fz_at 0 (by fail "nd") rfl rfl | exact fz_at 1 (by fail "nd") rfl rfl | exact fz_at 2 (by fail "nd") rfl rfl | exact fz_at 3 (by fail "nd") rfl rfl | exact fz_at 4 (by fail "nd") rfl rfl | exact fz_at 5 (by fail "nd") rfl rfl | exact fz_at 6 (by fail "nd") rfl rfl | exact fz_at 7 (by fail "nd") rfl rfl)
local macro_rules | `(tactic| fail "lkD") => `(tactic| first | assumption | exact dz_at 0 (by fail "nd") rfl rfl | exact dz_at 1 (by fail "nd") rfl rfl | exact dz_at 2 (by fail "nd") rfl rfl | exact dz_at 3 (by fail "nd") rfl rfl | exact dz_at 4 (by fail "nd") rfl rfl)
local macro_rules | `(tactic| fail "ptF") => `(tactic| first | assumption | exact fz_put 0 (by fail "nd") rfl (Nat.le_of_ble_eq_true rfl) | exact fz_put 1 (by fail "nd") rfl (Nat.le_of_ble_eq_true rfl) | exact fz_put 2 (by fail "nd") rfl (Nat.le_of_ble_eq_true rfl) | exact fz_put 3 (by fail "nd") rfl (Nat.le_of_ble_eq_true rfl) | exact fz_put 4 (by fail "nd") rfl (Nat.le_of_ble_eq_true rfl) | exact fz_put 5 (by fail "nd") rfl (Nat.le_of_ble_eq_true rfl) | exact fz_put 6 (by fail "nd") rfl (Nat.le_of_ble_eq_true rfl) | exact fz_put 7 (by fail "nd") rfl (Nat.le_of_ble_eq_true rfl) | exact fz_new (by decide +kernel) rfl)
local macro_rules | `(tactic| fail "ptD") => `(tactic| first | assumption | exact dz_put 0 (by fail "nd") rfl (Nat.le_of_ble_eq_true rfl) | exact dz_put 1 (by fail "nd") rfl (Nat.le_of_ble_eq_true rfl) | exact dz_put 2 (by fail "nd") rfl (Nat.le_of_ble_eq_true rfl) | exact dz_put 3 (by fail "nd") rfl (Nat.le_of_ble_eq_true rfl) | exact dz_put 4 (by fail "nd") rfl (Nat.le_of_ble_eq_true rfl))
local macro_rules | `(tactic| fail "sz") => `(tactic| first | assumption | exact (Nat.le_of_ble_eq_true rfl) | omega | decide)
local macro_rules | `(tactic| fail "sd") => `(tactic| first | rfl | assumption | decide | omega | (dsimp only; first | decide | omega) | exact .inr ⟨by decide, by decide⟩ | exact .inl ⟨by decide, by decide⟩ | exact ⟨by omega, by omega⟩ | exact .inl ⟨by omega, by omega⟩ | exact .inr ⟨by omega, by omega⟩ | exact ⟨by omega, by omega, by omega⟩)
local macro_rules | `(tactic| fail "cl") => `(tactic| (clear hH; dsimp only [List.set, List.cons_append, List.nil_append, List.append] at hL))
local macro_rules | `(tactic| fail "gn") => `(tactic| (intro p hp; generalize hH : upd H p _ = H; replace hL := Led.newH hL hp hH; clear hH hp))
local macro_rules | `(tactic| fail "gup") => `(tactic| (generalize hH : upd H _ _ = H; replace hL := Led.upU hL (by fail "up") hH; fail "cl"))
local macro_rules | `(tactic| fail "gmk") => `(tactic| (intro x dx hx hd ne; generalize hH : upd (upd H dx _) x _ = H; replace hL := Led.made hL hx hd ne hH; clear hH hx hd ne))
local macro_rules | `(tactic| fail "v") => `(tactic| refine ⟨_, rfl, ?_⟩)
local macro_rules | `(tactic| fail "i2") => `(tactic| refine ⟨_, _, rfl, rfl, ?_⟩)
local macro_rules | `(tactic| fail "go1") => `(tactic| first
  | refine ⟨_, rfl, ?_⟩
  | refine ⟨_, _, rfl, rfl, ?_⟩
  | refine ⟨_, _, rfl, ?_⟩
  | refine iteT ?_
  | refine iteF ?_
  | refine k_fld hL (by fail "ix") (by assumption) (by assumption) (by fail "lkF") ?_
  | refine k_dgetS hL (by fail "ix") (by fail "lkD") ?_
  | refine k_dgetI hL (by fail "ix") (by assumption) ?_
  | refine k_ixL hL (by fail "ix") (by first | rfl | assumption) ?_
  | refine k_ixT hL (by fail "ix") (by first | rfl | assumption) ?_
  | refine k_tyL hL (by fail "ix") ?_
  | refine k_isd hL (by fail "ix") ?_
  | (refine And.intro (by fail "sz") ?_; fail "gn")
  | refine And.intro (by fail "sd") ?_
  | fail "gn"
  | refine k_meth hL (by fail "ix") (by first | assumption | exact fz_no (by decide +kernel)) ?_
  | refine k_gtup hL (by fail "ix") rfl ?_
  | (refine k_popI hL (by fail "ix") (by assumption) ?_; fail "gup")
  | (refine k_listD hL (by fail "ix") ?_; fail "gn")
  | (refine ⟨_, _, _, _, rfl, rfl, hL.at (by fail "ix"), rfl, ?_⟩; fail "gup")
  | (refine ⟨_, _, _, rfl, rfl, hL.at (by fail "ix"), (by fail "sz"), ?_⟩; fail "gup")
  | (refine ⟨_, _, _, _, rfl, hL.at (by fail "ix"), by assumption, by assumption, Nat.lt_of_le_of_lt fz_len (by decide), ?_⟩; generalize hH : upd H _ _ = H; replace hL := Led.upF hL (by fail "up") (by fail "ptF") hH; fail "cl")
  | (refine ⟨_, _, hL.at (by fail "ix"), Nat.lt_of_le_of_lt fz_len (by decide), ?_⟩; generalize hH : upd H _ _ = H; replace hL := Led.upF hL (by fail "up") (by fail "ptF") hH; fail "cl")
  | (refine k_dputS hL (by fail "ix") (Nat.lt_of_le_of_lt dz_len (by decide)) (by fail "ptD") (by fail "up") ?_; clear hL; intro H hL; dsimp only [List.set, List.cons_append, List.nil_append, List.append] at hL)
  | refine .inl ⟨_, rfl, ?_⟩
  | refine .inr ⟨_, rfl, ?_⟩)
local macro_rules | `(tactic| fail "go") => `(tactic| repeat fail "go1")

/-- script[:1], or [0]: one dice -/
def spRounds (K : PySem.W.Frag) : Sp := fun vs H Q _ => ∃ (a : Addr) (ns : List Int) (L : Lg), vs = [.ref a, .int 1] ∧ SqL K H a (ns.map V.int) ∧ Led H L ∧ ∀ (p d : Addr) (x y z : Int) (H' : Hp), Led H' ((p, .lst [.ref d]) :: (d, dD x y z) :: L) → Q (.ref p) H'
section
variable {P : Program} {w : World} {K : PySem.W.Frag} {mg : Str → Option Value} {base : Heap} {CW CQ : Addr}
theorem scRounds : FnScope ["script", "most", "cells", "cell"] ["script", "most"] (defScope sRounds) := ⟨rfl, rfl, rfl, by decide +kernel, rfl, by decide +kernel, by decide +kernel⟩
theorem cut_1 (ns : List Int) : cutV (ns.map V.int) none (some 1) = (ns.take 1).map V.int := by
  unfold cutV
  rw [show (some (1 : Int)) = some ((1 : Nat) : Int) from rfl, HT.sIx_nat, HT.sIx_none]
  cases ns <;> simp
theorem ok_rounds {f : Addr} {fd : FuncData} (F : Fun K "_law_rounds" "_law_rounds" sRounds f fd) (c__law_dice : Cal P w K mg base 1 "_law_dice" spDice []) :
    FnOk P w K mg base CX0 2 f fd ["script", "most"] (spRounds K) := by
  refine F.ok scRounds (fun vs H Q E h => ?_) (fun cdv A outer s H vs Q E hr h => ?_)
  · obtain ⟨a, ns, L, rfl, _⟩ := h
    rfl
  · obtain ⟨a, ns, L, rfl, hS, hL, k⟩ := h
    refine ⟨_, (pss_cons (ps_set (i := 2) scRounds.nd rfl (Or.inl rfl) (pe_slice sl_list (pv 0) po_none (po_some (pv 1))))
  (C8.pss_cut (ps_if (pt_cmpR (op_eqP hr.units) (pv 2) (pe_lst pa_nil) (nomark _))
  (pss_one (ps_set (i := 2) scRounds.nd rfl (Or.inl rfl) (pe_lst (pa_cons pe_int pa_nil))))
  pss_nil)
  (pss_one (ps_ret (pe_lc (own := [("cell", 3)]) (g := gName 3) (by rfl) scRounds.nd (pi_list (pv 2)) (blkOk_by (own := [("cell", 3)]) (N := ["script", "most", "cells", "cell"]) (sc := (defScope sRounds)) (by decide +kernel)) (fun _ _ _ _ _ => (pg_name (i := 3) scRounds.nd rfl (Or.inl rfl))) (fun _ _ _ _ _ => pts_nil) (fun _ _ _ _ _ => (pe_c c__law_dice hr (by decide) (by rfl) (pa_cons (pv 3) pa_nil)))))))), ?_⟩
    refine ⟨_, rfl, _, rfl, 1, rfl, a, _, rfl, hS, ?_⟩
    rw [cut_1]
    fail "gn"
    refine ⟨fun σ H => Hold (∃ (a p : Addr) (c : Int) (v3 : Option V), σ = [some (.ref a), some (.int 1), some (.ref p), v3] ∧ Led H ((p, .lst [.int c]) :: L)), ?_, ?_⟩
    · fail "go"
      refine ⟨_, _, dp_lst (hL.at ⟨1, rfl⟩) dp_ints, dp_lst (hL.at ⟨0, rfl⟩) .nil, shal_ints, shal_ints (ns := []), _, rfl, ?_⟩
      refine ite_b (fun h1 => ?_) (fun h1 => ?_)
      · fail "go"
        refine .mk ⟨a, _, 0, _, rfl, ?_⟩
        exact hL.sub (.cons_cons _ ((List.sublist_cons_self _ _).trans (List.sublist_cons_self _ _)))
      · cases ns with
        | nil => simp [PyData.eqv, PyData.eqvAll] at h1
        | cons n ns =>
          fail "go"
          exact .mk ⟨a, _, n, _, rfl, hL.tail⟩
    · intro σ H h
      obtain ⟨a, p, c, v3, rfl, hL⟩ := h.out
      clear h
      refine ⟨_, rfl, p, rfl, ⟨_, .of (hL.at ⟨0, rfl⟩)⟩, fun D hD => lc_list (K := K) (a := p) (xs := [.int c]) (fun i H => Hold ((i = 0 ∧ Led H ((D, .lst []) :: (p, .lst [.int c]) :: L)) ∨ (i = 1 ∧ ∃ (d : Addr) (x y z : Int), Led H ((D, .lst [.ref d]) :: (d, dD x y z) :: (p, .lst [.int c]) :: L)))) ?_ ?_ ?_ ?_⟩
      · exact .mk (.inl ⟨rfl, hL.new hD⟩)
      · intro i H _ h
        rcases h.out with ⟨_, hL⟩ | ⟨_, d, x, y, z, hL⟩
        · exact .of (hL.at ⟨1, rfl⟩)
        · exact .of (hL.at ⟨2, rfl⟩)
      · intro i y H hi h
        rcases h.out with ⟨rfl, hL⟩ | ⟨rfl, d, x, y, z, hL⟩
        · obtain rfl : V.int c = y := Option.some.inj hi
          clear h
          refine ⟨rfl, ?_⟩
          refine k_yes ?_
          refine ⟨_, rfl, c, _, rfl, hL, fun x y z d H hL => ⟨_, hL.at ⟨1, rfl⟩, by decide, ?_⟩⟩
          generalize hH : upd H _ _ = H
          refine .mk (.inr ⟨rfl, d, x, y, z, ?_⟩)
          exact (hL.upU (o' := .lst [.ref d]) ⟨1, rfl, rfl⟩ hH).perm (List.Perm.swap _ _ _)
        · cases hi
      · intro H h
        rcases h.out with ⟨q, _⟩ | ⟨_, d, x, y, z, hL⟩
        · cases q
        · refine k D d x y z _ (hL.sub ?_)
          exact .cons_cons _ (.cons_cons _ (List.sublist_cons_self _ _))
end
end Sd


namespace Sd
open PySem L2
open C8 (Cal Met Mak pe_c pe_mk pe_mt pe_mt0 tCut)
abbrev sTaken : Stmt := top 12
set_option hygiene false
local macro_rules | `(tactic| fail "nd") => `(tactic| first | assumption | decide +kernel)
local macro_rules | `(tactic| fail "ix") => `(tactic| first | exact ⟨0, rfl⟩ | exact ⟨1, rfl⟩ | exact ⟨2, rfl⟩ | exact ⟨3, rfl⟩ | exact ⟨4, rfl⟩ | exact ⟨5, rfl⟩ | exact ⟨6, rfl⟩ | exact ⟨7, rfl⟩ | exact ⟨8, rfl⟩ | exact ⟨9, rfl⟩ | exact ⟨10, rfl⟩ | exact ⟨11, rfl⟩ | exact ⟨12, rfl⟩ | assumption)
local macro_rules | `(tactic| fail "up") => `(tactic| first | exact ⟨0, rfl, rfl⟩ | exact ⟨1, rfl, rfl⟩ | exact ⟨2, rfl, rfl⟩ | exact ⟨3, rfl, rfl⟩ | exact ⟨4, rfl, rfl⟩ | exact ⟨5, rfl, rfl⟩ | exact ⟨6, rfl, rfl⟩ | exact ⟨7, rfl, rfl⟩ | exact ⟨8, rfl, rfl⟩ | exact ⟨9, rfl, rfl⟩ | exact ⟨10, rfl, rfl⟩ | exact ⟨11, rfl, rfl⟩ | exact ⟨12, rfl, rfl⟩ | assumption)
local macro_rules | `(tactic| fail "lkF") => `(tactic| first | assumption | exact fz_at 0 (by fail "nd") rfl rfl | exact fz_at 1 (by fail "nd") rfl rfl | exact fz_at 2 (by fail "nd") rfl rfl | exact fz_at 3 (by fail "nd") rfl rfl | exact fz_at 4 (by fail "nd") rfl rfl | exact fz_at 5 (by fail "nd") rfl rfl | exact fz_at 6 (by fail "nd") rfl rfl | exact fz_at 7 (by fail "nd") rfl rfl)
local macro_rules | `(tactic| fail "lkD") => `(tactic| first | assumption | exact dz_at 0 (by fail "nd") rfl rfl | exact dz_at 1 (by fail "nd") rfl rfl | exact dz_at 2 (by fail "nd") rfl rfl | exact dz_at 3 (by fail "nd") rfl rfl | exact dz_at 4 (by fail "nd") rfl rfl)
local macro_rules | `(tactic| fail "ptF") => `(tactic| first | assumption | exact fz_put 0 (by fail "nd") rfl (Nat.le_of_ble_eq_true rfl) | exact fz_put 1 (by fail "nd") rfl (Nat.le_of_ble_eq_true rfl) | exact fz_put 2 (by fail "nd") rfl (Nat.le_of_ble_eq_true rfl) | exact fz_put 3 (by fail "nd") rfl (Nat.le_of_ble_eq_true rfl) | exact fz_put 4 (by fail "nd") rfl (Nat.le_of_ble_eq_true rfl) | exact fz_put 5 (by fail "nd") rfl (Nat.le_of_ble_eq_true rfl) | exact fz_put 6 (by fail "nd") rfl (Nat.le_of_ble_eq_true rfl) | exact fz_put 7 (by fail "nd") rfl (Nat.le_of_ble_eq_true rfl) | exact fz_new (by decide +kernel) rfl)
local macro_rules | `(tactic| fail "ptD") => `(tactic| first | assumption | exact dz_put 0 (by fail "nd") rfl (Nat.le_of_ble_eq_true rfl) | exact dz_put 1 (by fail "nd") rfl (Nat.le_of_ble_eq_true rfl) | exact dz_put 2 (by fail "nd") rfl (Nat.le_of_ble_eq_true rfl) | exact dz_put 3 (by fail "nd") rfl (Nat.le_of_ble_eq_true rfl) | exact dz_put 4 (by fail "nd") rfl (Nat.le_of_ble_eq_true rfl))
local macro_rules | `(tactic| fail "sz") => `(tactic| first | assumption | exact (Nat.le_of_ble_eq_true rfl) | omega | decide)
local macro_rules | `(tactic| fail "sd") => `(tactic| first | rfl | assumption | decide | omega | (dsimp only; first | decide | omega) | exact .inr ⟨by decide, by decide⟩ | exact .inl ⟨by decide, by decide⟩ | exact ⟨by omega, by omega⟩ | exact .inl ⟨by omega, by omega⟩ | exact .inr ⟨by omega, by omega⟩ | exact ⟨by omega, by omega, by omega⟩)
local macro_rules | `(tactic| fail "cl") => `(tactic| (clear hH; dsimp only [List.set, List.cons_append, List.nil_append, List.append] at hL))
local macro_rules | `(tactic| fail "gn") => `(tactic| (intro p hp; generalize hH : upd H p _ = H; replace hL := Led.newH hL hp hH; clear hH hp))
local macro_rules | `(tactic| fail "gup") => `(tactic| (generalize hH : upd H _ _ = H; replace hL := Led.upU hL (by fail "up") hH; fail "cl"))
local macro_rules | `(tactic| fail "gmk") => `(tactic| (intro x dx hx hd ne; generalize hH : upd (upd H dx _) x _ = H; replace hL := Led.made hL hx hd ne hH; clear hH hx hd ne))
local macro_rules | `(tactic| fail "v") => `(tactic| refine ⟨_, rfl, ?_⟩)
local macro_rules | `(tactic| fail "i2") => `(tactic| refine ⟨_, _, rfl, rfl, ?_⟩)
local macro_rules | `(tactic| fail "go1") => `(tactic| first
  | refine ⟨_, rfl, ?_⟩
  | refine ⟨_, _, rfl, rfl, ?_⟩
  | refine ⟨_, _, rfl, ?_⟩
  | refine iteT ?_
  | refine iteF ?_
  | refine k_fld hL (by fail "ix") (by assumption) (by assumption) (by fail "lkF") ?_
  | refine k_dgetS hL (by fail "ix") (by fail "lkD") ?_
  | refine k_dgetI hL (by fail "ix") (by assumption) ?_
  | refine k_ixL hL (by fail "ix") (by first | rfl | assumption) ?_
  | refine k_ixT hL (by fail "ix") (by first | rfl | assumption) ?_
  | refine k_tyL hL (by fail "ix") ?_
  | refine k_isd hL (by fail "ix") ?_
  | (refine And.intro (by fail "sz") ?_; fail "gn")
  | refine And.intro (by fail "sd") ?_
  | fail "gn"
  | refine k_meth hL (by fail "ix") (by first | assumption | exact fz_no (by decide +kernel)) ?_
  | refine k_gtup hL (by fail "ix") rfl ?_
  | (refine k_popI hL (by fail "ix") (by assumption) ?_; fail "gup")
  | (refine k_listD hL (by fail "ix") ?_; fail "gn")
  | (refine ⟨_, _, _, _, rfl, rfl, hL.at (by fail "ix"), rfl, ?_⟩; fail "gup")
  | (refine ⟨_, _, _, rfl, rfl, hL.at (by fail "ix"), (by fail "sz"), ?_⟩; fail "gup")
  | (refine ⟨_, _, _, _, rfl, hL.at (by fail "ix"), by assumption, by assumption, Nat.lt_of_le_of_lt fz_len (by decide), ?_⟩; generalize hH : upd H _ _ = H; replace hL := Led.upF hL (by fail "up") (by fail "ptF") hH; fail "cl")
  | (refine ⟨_, _, hL.at (by fail "ix"), Nat.lt_of_le_of_lt fz_len (by decide), ?_⟩; generalize hH : upd H _ _ = H; replace hL := Led.upF hL (by fail "up") (by fail "ptF") hH; fail "cl")
  | (refine k_dputS hL (by fail "ix") (Nat.lt_of_le_of_lt dz_len (by decide)) (by fail "ptD") (by fail "up") ?_; clear hL; intro H hL; dsimp only [List.set, List.cons_append, List.nil_append, List.append] at hL)
  | refine .inl ⟨_, rfl, ?_⟩
  | refine .inr ⟨_, rfl, ?_⟩)
local macro_rules | `(tactic| fail "go") => `(tactic| repeat fail "go1")

def nmO : List Str := ["rows", "given up", "receipt"]
def nmR : List Str := ["ready", "takes", "receipt"]
def robj (e : We) : Addr × HO := (e.a, .dK (dz nmR [.int e.w.r, .int e.w.t, optV e.w.c]))
def OL (o rr gg : Addr) (nr : Int) (rows : List We) (gu : List Int) : Lg := (o, .dK (dz nmO [.ref rr, .ref gg, .int nr])) :: (rr, .dK (rows.map rowK)) :: (gg, .lst (gu.map V.int)) :: rows.map robj
def spTaken : Sp := fun vs H Q _ => ∃ (o rr gg : Addr) (nr : Int) (rows : List We) (gu : List Int) (t len : Int) (R : Lg), vs = [.ref o, .int t, .int len] ∧ Led H (OL o rr gg nr rows gu ++ R) ∧ Asc rows ∧ rows.length + gu.length < 1000 ∧
  (∀ H' gg', (takeE t len nr rows).2.2 = none → Led H' (OL o rr gg' nr (takeE t len nr rows).1 (gu ++ (takeE t len nr rows).2.1.map (·.w.n)) ++ R) → Q .non H') ∧
  (∀ H' gg' e, (takeE t len nr rows).2.2 = some e → Led H' (OL o rr gg' (nr + 1) (takeE t len nr rows).1 (gu ++ (takeE t len nr rows).2.1.map (·.w.n)) ++ R) → Q (.int e.w.n) H')
section
variable {P : Program} {w : World} {K : PySem.W.Frag} {mg : Str → Option Value} {base : Heap} {CW CQ : Addr}
theorem scTaken : FnScope ["own", "time", "length", "rows", "number", "row"] ["own", "time", "length"] (defScope sTaken) := ⟨rfl, rfl, rfl, by decide +kernel, rfl, by decide +kernel, by decide +kernel⟩
theorem ok_taken {f : Addr} {fd : FuncData} (F : Fun K "_law_taken" "_law_taken" sTaken f fd) (T : TxtB mg) : FnOk P w K mg base CX0 1 f fd ["own", "time", "length"] spTaken := by
  refine F.ok scTaken (fun vs H Q E h => ?_) (fun cdv A outer s H vs Q E hr h => ?_)
  · obtain ⟨o, rr, gg, nr, rows, gu, t, len, R, rfl, _⟩ := h
    rfl
  · obtain ⟨o, rr, gg, nr, rows, gu, t, len, R, rfl, hL, asc, hz, k0, k1⟩ := h
    refine ⟨_, (pss_cons (ps_set (i := 3) scTaken.nd rfl (Or.inl rfl) (pe_dget (hu_of hr) (pv 0) pe_str (fun _ _ => rfl)))
  (pss_cons (ps_for PassesOwn.never rfl (pi_list (pe_callB cr_sortedI (by rfl) T.sorted (by decide +kernel) (pa_cons (pe_callTy (call_list_dK rfl) (by rfl) T.list (by decide +kernel) (pa_cons (pv 3) pa_nil)) pa_nil))) (pg_name (i := 4) scTaken.nd rfl (Or.inl rfl))
  (pss_cons (ps_set (i := 5) scTaken.nd rfl (Or.inl rfl) (pe_dget (hu_of hr) (pv 3) (pv 4) (fun _ _ => rfl)))
  (pss_one (ps_if (PW.pt (pw_and (pt_cmpR op_le (pe_dget (hu_of hr) (pv 5) pe_str (fun _ _ => rfl)) (pv 1) (nomark _)) (pw_and1 (pt_cmpR op_ge (pe_dget (hu_of hr) (pv 5) pe_str (fun _ _ => rfl)) pe_int (nomark _)))))
  (pss_cons (ps_dput (hu_of hr) (pv 0) pe_str (pe_op op_cat (pe_dget (hu_of hr) (pv 0) pe_str (fun _ _ => rfl)) (pe_lst (pa_cons (pv 4) pa_nil))) rfl)
  (pss_one (ps_expr (pe_dpop1 (pv 3) (pv 4) ⟨rfl, rfl, rfl, rfl⟩))))
  (pss_one (ps_if (pt_cmpR op_le (pe_dget (hu_of hr) (pv 5) pe_str (fun _ _ => rfl)) (pv 1) (nomark _))
  (pss_cons (ps_asg (pe_tup (pa_cons (pe_op op_add (pv 1) (pv 2)) (pa_cons (pe_op op_add (pe_dget (hu_of hr) (pv 5) pe_str (fun _ _ => rfl)) pe_int) (pa_cons (pe_dget (hu_of hr) (pv 0) pe_str (fun _ _ => rfl)) pa_nil)))) (pg_tup (by rfl) (pgs_cons (pg_sub (pv 5) pe_str (set_dict (hu_of hr))) (pgs_cons (pg_sub (pv 5) pe_str (set_dict (hu_of hr))) (pgs_cons (pg_sub (pv 5) pe_str (set_dict (hu_of hr))) pgs_nil)))))
  (pss_cons (ps_dput (hu_of hr) (pv 0) pe_str (pe_op op_add (pe_dget (hu_of hr) (pv 0) pe_str (fun _ _ => rfl)) pe_int) rfl)
  (pss_one (ps_ret (pv 4)))))
  pss_nil))))))
  (pss_one (ps_ret pe_non)))), ?_⟩
    unfold OL at hL
    have e1 : (rows.map rowK).map (fun kv => kV kv.1) = (rows.map (·.w.n)).map V.int := by simp [rowK, kV, Function.comp_def]
    fail "go"
    rw [e1] at hL
    refine ⟨_, _, rfl, .of (hL.at ⟨0, rfl⟩), fun ns' p2 hp hs hf => ?_⟩
    obtain rfl : ns' = rows.map (·.w.n) := perm_same hp hs (asc.imp fun h => Int.le_of_lt h)
    generalize hH : upd H p2 _ = H
    replace hL := Led.newH hL.tail hf hH
    clear hH hf hp hs
    refine ⟨_, rfl, ⟨_, .of (hL.at ⟨0, rfl⟩)⟩, for_list (K := K) (a := p2) (xs := (rows.map (·.w.n)).map V.int) (fun i σ H => Hold (∃ (A G B : List We) (gg : Addr) (v4 v5 : Option V), σ = [some (.ref o), some (.int t), some (.int len), some (.ref rr), v4, v5] ∧ TK t len nr rows A G B ∧ Asc (A ++ B) ∧
      (rows.map (·.w.n)).drop i = B.map (·.w.n) ∧ (A ++ B).length + (gu ++ G.map (·.w.n)).length < 1000 ∧ Led H ((p2, .lst ((rows.map (·.w.n)).map V.int)) :: (OL o rr gg nr (A ++ B) (gu ++ G.map (·.w.n)) ++ R)))) ?_ ?_ ?_ ?_⟩
    · refine .mk ⟨[], [], rows, gg, none, none, rfl, ⟨rfl, rfl, rfl⟩, asc, by simp, by simp; omega, ?_⟩
      simp only [List.nil_append, List.map_nil, List.append_nil]
      exact hL
    · intro i σ H _ h
      obtain ⟨A, G, B, gg, v4, v5, rfl, hk, asc, hd, hz, hL⟩ := h.out
      exact .of (hL.at ⟨0, rfl⟩)
    · intro i y σ H hi h
      obtain ⟨A, G, B, gg, v4, v5, rfl, hk, asc, hd, hz, hL⟩ := h.out
      clear h
      cases B with
      | nil =>
        have : (rows.map (·.w.n)).length ≤ i := List.drop_eq_nil_iff.mp hd
        rw [List.getElem?_map, List.getElem?_eq_none_iff.mpr this] at hi
        cases hi
      | cons e B =>
        have hi2 : (rows.map (·.w.n))[i]? = some e.w.n := by
          have := congrArg (fun l : List Int => l[0]?) hd
          simpa using this
        rw [List.getElem?_map, hi2] at hi
        obtain rfl : V.int e.w.n = y := Option.some.inj hi
        have hd2 : (rows.map (·.w.n)).drop (i + 1) = B.map (·.w.n) := by
          rw [← List.drop_drop, hd]
          rfl
        have lk := row_at asc
        have ld := row_drop asc
        have hL2 : Led H ((e.a, .dK (dz nmR [.int e.w.r, .int e.w.t, optV e.w.c])) :: (((p2, .lst ((rows.map (·.w.n)).map V.int)) :: (o, .dK (dz nmO [.ref rr, .ref gg, .int nr])) :: (rr, .dK ((A ++ e :: B).map rowK)) ::
            (gg, .lst ((gu ++ G.map (·.w.n)).map V.int)) :: A.map robj) ++ (B.map robj ++ R))) := by
          refine Led.front ?_
          unfold OL at hL
          simpa [robj] using hL
        clear hL
        have hL := hL2
        clear hL2
        fail "go"
        refine ite_d (fun q1 => ?_) (fun q1 => ?_)
        · fail "go"
          refine ite_d (fun q2 => ?_) (fun q2 => ?_)
          · have hk2 : TK t len nr rows A (G ++ [e]) B := by
              obtain ⟨k1, k2, k3⟩ := hk
              simp only [takeE, if_pos (show e.w.r ≤ t ∧ 3 ≤ e.w.t from ⟨q1, q2⟩)] at k1 k2 k3
              exact ⟨k1, by rw [k2, List.append_assoc]; rfl, k3⟩
            fail "go"
            refine k_cat hL (by fail "ix") (by fail "ix") ?_ ?_
            · simp at hz ⊢
              exact Nat.le_trans (by omega : _ ≤ 1000) (by decide)
            intro p3 hp; generalize hH : upd H p3 _ = H; replace hL := Led.newH hL hp hH; clear hH hp
            fail "go"
            rw [ld] at hL
            refine .mk ⟨A, G ++ [e], B, p3, _, _, rfl, hk2, ?_, hd2, by simp at hz ⊢; omega, ?_⟩
            · have := asc
              unfold Asc at this ⊢
              simp only [List.map_append, List.map_cons] at this ⊢
              exact this.sublist ((List.sublist_cons_self _ _).append_left _)
            · unfold OL
              have h2 := Led.back (A := [(p, _), (e.a, _), (p2, _), (o, _), (rr, _)]) (B := (gg, _) :: (A.map robj ++ (B.map robj ++ R))) (by simpa using hL)
              have h3 := h2.tail.tail
              have h4 := h3.sub (.cons_cons _ (.cons_cons _ (.cons_cons _ (.cons_cons _ (List.sublist_cons_self _ _)))))
              simpa using h4
          · have hk2 : (takeE t len nr (e :: B)) = (took t len nr e :: B, [], some (took t len nr e)) := by
              simp only [takeE, if_neg (show ¬ (e.w.r ≤ t ∧ 3 ≤ e.w.t) from fun h => q2 h.2), if_pos q1]
            fail "go"
            refine ite_t (decide_eq_true q1) ?_
            fail "go"
            refine k1 _ gg (took t len nr e) (by rw [hk.f, hk2]) ?_
            rw [hk.k, hk.g, hk2]
            have h2 := hL.tail
            have h3 := Led.back (A := (p2, _) :: (o, _) :: (rr, _) :: (gg, _) :: A.map robj) (B := B.map robj ++ R) h2
            have h4 := h3.tail
            unfold OL
            simpa [robj, took, rowK, optV] using h4
        · have hk2 : TK t len nr rows (A ++ [e]) G B := by
            obtain ⟨k1, k2, k3⟩ := hk
            simp only [takeE, if_neg (show ¬ (e.w.r ≤ t ∧ 3 ≤ e.w.t) from fun h => q1 h.1), if_neg q1] at k1 k2 k3
            exact ⟨by rw [k1, List.append_assoc]; rfl, k2, k3⟩
          fail "go"
          refine ite_f (decide_eq_false q1) ?_
          fail "go"
          refine .mk ⟨A ++ [e], G, B, gg, _, _, rfl, hk2, ?_, hd2, by simp at hz ⊢; omega, ?_⟩
          · simpa using asc
          · have h3 := Led.back (A := (p2, _) :: (o, _) :: (rr, _) :: (gg, _) :: A.map robj) (B := B.map robj ++ R) hL
            unfold OL
            simpa [robj] using h3
    · intro σ H h
      obtain ⟨A, G, B, gg, v4, v5, rfl, hk, asc, hd, hz, hL⟩ := h.out
      have hB : B = [] := by
        rw [List.drop_eq_nil_of_le (by simp)] at hd
        exact List.map_eq_nil_iff.mp hd.symm
      subst hB
      fail "go"
      refine k0 _ gg ?_ ?_
      · rw [hk.f]; rfl
      · rw [hk.k, hk.g]
        simpa [takeE] using hL.tail
end
end Sd


namespace Sd
open PySem L2
open C8 (Cal Met Mak pe_c pe_mk pe_mt pe_mt0 tCut)
abbrev sTold : Stmt := top 11
abbrev sLaw : Stmt := top 13
/-- the lambdas of law's last line -/
def lamAt (st : Stmt) (i : Nat) : Expr := match (defBody st).getLast? with
  | some (.Return (some (.BoolOp _ [_, .Compare (.ListComp _ [⟨_, .List es _, _, _⟩] _ _) _ _ _] _)) _) => es.getD i (.Name "" ⟨0, 0, 0, 0⟩)
  | _ => .Name "" ⟨0, 0, 0, 0⟩
def lamBody (e : Expr) : Expr := match e with
  | .Lambda _ b _ _ => b
  | _ => e
def lamArgs (e : Expr) : Arguments := match e with
  | .Lambda a _ _ _ => a
  | _ => { posonlyargs := [], args := [], vararg := none, kwonlyargs := [], kw_defaults := [], kwarg := none, defaults := [] }
def lamScope (e : Expr) : Scope := match e with
  | .Lambda _ _ s _ => s
  | _ => { kind := .function, names := [], isGenerator := false, isCoroutine := false }
set_option hygiene false
local macro_rules | `(tactic| fail "nd") => `(tactic| first | assumption | decide +kernel)
local macro_rules | `(tactic| fail "ix") => `(tactic| first | exact ⟨0, rfl⟩ | exact ⟨1, rfl⟩ | exact ⟨2, rfl⟩ | exact ⟨3, rfl⟩ | exact ⟨4, rfl⟩ | exact ⟨5, rfl⟩ | exact ⟨6, rfl⟩ | exact ⟨7, rfl⟩ | exact ⟨8, rfl⟩ | exact ⟨9, rfl⟩ | exact ⟨10, rfl⟩ | exact ⟨11, rfl⟩ | exact ⟨12, rfl⟩ | assumption)
local macro_rules | `(tactic| fail "up") => `(tactic| first | exact ⟨0, rfl, rfl⟩ | exact ⟨1, rfl, rfl⟩ | exact ⟨2, rfl, rfl⟩ | exact ⟨3, rfl, rfl⟩ | exact ⟨4, rfl, rfl⟩ | exact ⟨5, rfl, rfl⟩ | exact ⟨6, rfl, rfl⟩ | exact ⟨7, rfl, rfl⟩ | exact ⟨8, rfl, rfl⟩ | exact ⟨9, rfl, rfl⟩ | exact ⟨10, rfl, rfl⟩ | exact ⟨11, rfl, rfl⟩ | exact ⟨12, rfl, rfl⟩ | assumption)
local macro_rules | `(tactic| fail "lkF") => `(tactic| first | assumption | exact fz_at 0 (by fail "nd") rfl rfl | exact fz_at 1 (by fail "nd") rfl rfl | exact fz_at 2 (by fail "nd") rfl rfl | exact fz_at 3 (by fail "nd") rfl rfl | exact fz_at 4 (by fail "nd") rfl rfl | exact fz_at 5 (by fail "nd") rfl rfl | exact fz_at 6 (by fail "nd") rfl rfl | exact fz_at 7 (by fail "nd") rfl rfl)
local macro_rules | `(tactic| fail "lkD") => `(tactic| first | assumption | exact dz_at 0 (by fail "nd") rfl rfl | exact dz_at 1 (by fail "nd") rfl rfl | exact dz_at 2 (by fail "nd") rfl rfl | exact dz_at 3 (by fail "nd") rfl rfl | exact dz_at 4 (by fail "nd") rfl rfl)
local macro_rules | `(tactic| fail "ptF") => `(tactic| first | assumption | exact fz_put 0 (by fail "nd") rfl (Nat.le_of_ble_eq_true rfl) | exact fz_put 1 (by fail "nd") rfl (Nat.le_of_ble_eq_true rfl) | exact fz_put 2 (by fail "nd") rfl (Nat.le_of_ble_eq_true rfl) | exact fz_put 3 (by fail "nd") rfl (Nat.le_of_ble_eq_true rfl) | exact fz_put 4 (by fail "nd") rfl (Nat.le_of_ble_eq_true rfl) | exact fz_put 5 (by fail "nd") rfl (Nat.le_of_ble_eq_true rfl) | exact fz_put 6 (by fail "nd") rfl (Nat.le_of_ble_eq_true rfl) | exact fz_put 7 (by fail "nd") rfl (Nat.le_of_ble_eq_true rfl) | exact fz_new (by decide +kernel) rfl)
local macro_rules | `(tactic| fail "ptD") => `(tactic| first | assumption | exact dz_put 0 (by fail "nd") rfl (Nat.le_of_ble_eq_true rfl) | exact dz_put 1 (by fail "nd") rfl (Nat.le_of_ble_eq_true rfl) | exact dz_put 2 (by fail "nd") rfl (Nat.le_of_ble_eq_true rfl) | exact dz_put 3 (by fail "nd") rfl (Nat.le_of_ble_eq_true rfl) | exact dz_put 4 (by fail "nd") rfl (Nat.le_of_ble_eq_true rfl))
local macro_rules | `(tactic| fail "sz") => `(tactic| first | assumption | exact (Nat.le_of_ble_eq_true rfl) | omega | decide)
local macro_rules | `(tactic| fail "sd") => `(tactic| first | rfl | assumption | decide | omega | (dsimp only; first | decide | omega) | exact .inr ⟨by decide, by decide⟩ | exact .inl ⟨by decide, by decide⟩ | exact ⟨by omega, by omega⟩ | exact .inl ⟨by omega, by omega⟩ | exact .inr ⟨by omega, by omega⟩ | exact ⟨by omega, by omega, by omega⟩)
local macro_rules | `(tactic| fail "cl") => `(tactic| (clear hH; dsimp only [List.set, List.cons_append, List.nil_append, List.append] at hL))
local macro_rules | `(tactic| fail "gn") => `(tactic| (intro p hp; generalize hH : upd H p _ = H; replace hL := Led.newH hL hp hH; clear hH hp))
local macro_rules | `(tactic| fail "gup") => `(tactic| (generalize hH : upd H _ _ = H; replace hL := Led.upU hL (by fail "up") hH; fail "cl"))
local macro_rules | `(tactic| fail "gmk") => `(tactic| (intro x dx hx hd ne; generalize hH : upd (upd H dx _) x _ = H; replace hL := Led.made hL hx hd ne hH; clear hH hx hd ne))
local macro_rules | `(tactic| fail "v") => `(tactic| refine ⟨_, rfl, ?_⟩)
local macro_rules | `(tactic| fail "i2") => `(tactic| refine ⟨_, _, rfl, rfl, ?_⟩)
local macro_rules | `(tactic| fail "go1") => `(tactic| first
  | refine ⟨_, rfl, ?_⟩
  | refine ⟨_, _, rfl, rfl, ?_⟩
  | refine ⟨_, _, rfl, ?_⟩
  | refine iteT ?_
  | refine iteF ?_
  | refine k_fld hL (by fail "ix") (by assumption) (by assumption) (by fail "lkF") ?_
  | refine k_dgetS hL (by fail "ix") (by fail "lkD") ?_
  | refine k_dgetI hL (by fail "ix") (by assumption) ?_
  | refine k_ixL hL (by fail "ix") (by first | rfl | assumption) ?_
  | refine k_ixT hL (by fail "ix") (by first | rfl | assumption) ?_
  | refine k_tyL hL (by fail "ix") ?_
  | refine k_isd hL (by fail "ix") ?_
  | (refine And.intro (by fail "sz") ?_; fail "gn")
  | refine And.intro (by fail "sd") ?_
  | fail "gn"
  | refine k_meth hL (by fail "ix") (by first | assumption | exact fz_no (by decide +kernel)) ?_
  | refine k_gtup hL (by fail "ix") rfl ?_
  | (refine k_popI hL (by fail "ix") (by assumption) ?_; fail "gup")
  | (refine k_listD hL (by fail "ix") ?_; fail "gn")
  | (refine ⟨_, _, _, _, rfl, rfl, hL.at (by fail "ix"), rfl, ?_⟩; fail "gup")
  | (refine ⟨_, _, _, rfl, rfl, hL.at (by fail "ix"), (by fail "sz"), ?_⟩; fail "gup")
  | (refine ⟨_, _, _, _, rfl, hL.at (by fail "ix"), by assumption, by assumption, Nat.lt_of_le_of_lt fz_len (by decide), ?_⟩; generalize hH : upd H _ _ = H; replace hL := Led.upF hL (by fail "up") (by fail "ptF") hH; fail "cl")
  | (refine ⟨_, _, hL.at (by fail "ix"), Nat.lt_of_le_of_lt fz_len (by decide), ?_⟩; generalize hH : upd H _ _ = H; replace hL := Led.upF hL (by fail "up") (by fail "ptF") hH; fail "cl")
  | (refine k_dputS hL (by fail "ix") (Nat.lt_of_le_of_lt dz_len (by decide)) (by fail "ptD") (by fail "up") ?_; clear hL; intro H hL; dsimp only [List.set, List.cons_append, List.nil_append, List.append] at hL)
  | refine .inl ⟨_, rfl, ?_⟩
  | refine .inr ⟨_, rfl, ?_⟩)
local macro_rules | `(tactic| fail "go") => `(tactic| repeat fail "go1")

def spQInitX (CE : Addr) : Sp := fun vs H _ E => ∃ (x : Addr) (n : Int), vs = [.ref x, .int n] ∧ n < 1 ∧ E (.ref CE) none H
def spPutX (CE : Addr) : Sp := fun vs H _ E => ∃ (q : Addr) (b : V) (t w : Int), vs = [.ref q, b, .int t, .int w] ∧ w < 0 ∧ E (.ref CE) none H
section
variable {P : Program} {w : World} {K : PySem.W.Frag} {mg : Str → Option Value} {base : Heap} {CW CQ CE : Addr}
theorem ok_QInitX {f : Addr} {fd : FuncData} (F : Fun K "__init__" "WorkQueue.__init__" sQInit f fd) (T : ExcT K mg "QueueError" CE) : FnOk P w K mg base (L2.CX P w) 1 f fd ["self", "length"] (spQInitX CE) := by
  refine F.okX scQInit (fun vs H Q E h => ?_) (fun cdv A outer s H vs Q E hr h => ?_)
  · obtain ⟨x, n, rfl, _⟩ := h
    rfl
  · obtain ⟨x, n, rfl, hn, k⟩ := h
    refine ⟨_, pss_cons (ps_if (pt_cmpR op_lt (pv 1) pe_int (nomark _)) (pss_one (ps_raiseT T rfl (takes_of rfl rfl rfl (E := E) rfl) rfl)) pss_nil) pss_never, ?_⟩
    fail "go"
    refine ite_d (fun q => ?_) (fun q => absurd hn q)
    exact k
theorem ok_putX {f : Addr} {fd : FuncData} (F : FunD K "put" "WorkQueue.put" (defArgs sPut) (defBody sPut) (defScope sPut) [.int 0] [] f fd) (T : ExcT K mg "QueueError" CE) : FnOk P w K mg base (L2.CX P w) 1 f fd ["self", "body", "time", "wait"] (spPutX CE) := by
  refine F.ok scPut (fun vs H Q E h => ?_) (fun cdv A outer s H vs Q E hr h => ?_)
  · obtain ⟨q, b, t, w, rfl, _⟩ := h
    rfl
  · obtain ⟨q, b, t, w, rfl, hn, k⟩ := h
    refine ⟨_, pss_cons (ps_if (pt_cmpR op_lt (pv 3) pe_int (nomark _)) (pss_one (ps_raiseT T rfl (takes_of rfl rfl rfl (E := E) rfl) rfl)) pss_nil) pss_never, ?_⟩
    fail "go"
    refine ite_d (fun q => ?_) (fun q => absurd hn q)
    exact k
theorem scTold : FnScope ["what"] ["what"] (defScope sTold) := ⟨rfl, rfl, rfl, by decide +kernel, rfl, by decide +kernel, by decide +kernel⟩
theorem ok_told {f : Addr} {fd : FuncData} (F : Fun K "_law_told" "_law_told" sTold f fd) (T : ExcT K mg "QueueError" CE) : FnOk P w K mg base CX0 6 f fd ["what"] (spTold P w K mg base 5 CE "QueueError") := by
  refine F.ok scTold (fun vs H Q E h => ?_) (fun cdv A outer s H vs Q E hr h => ?_)
  · obtain ⟨f, F, b, tl, rfl, _⟩ := h
    rfl
  · exact ps_told (by rfl) T.g rfl (Or.inl rfl) (fun _ => rfl) hr h
/-- the two lambdas raise -/
def tl1 (CE : Addr) : Hp → VK → XK → Prop := fun H _ E => ∀ H', (∀ b o, H b = some o → H' b = some o) → E (.ref CE) none H'
def tl2 (CE : Addr) : Hp → VK → XK → Prop := fun H _ E => ∃ R, Led H R ∧ ∀ H', Led H' R → E (.ref CE) none H'
theorem nsc1 : NdefX.NScope [] [] [] (lamScope (lamAt sLaw 0)) := NdefX.nscope_by (by decide +kernel)
theorem nsc2 : NdefX.NScope [] [] [] (lamScope (lamAt sLaw 1)) := NdefX.nscope_by (by decide +kernel)
theorem lok1 {f c' : Addr} {q : Str} (cX : MakX P w K mg base 1 "WorkQueue" CQ (spQInitX CE) []) : LOk P w K mg base 5 f ⟨"<lambda>", q, lamArgs (lamAt sLaw 0), [], lamScope (lamAt sLaw 0), [], c'⟩ (lamBody (lamAt sLaw 0)) (tl1 CE) := by
  refine lok_of nsc1 rfl (fun _ _ _ => rfl) fun A outer s H Q E hr h => ⟨_, pe_mkX cX hr (by decide) rfl (takes_of rfl rfl rfl (E := E) rfl) (pa_cons pe_int pa_nil), ?_⟩
  exact fun x dx hx hd _ => ⟨x, 0, rfl, by decide, h _ fun b o e => by rw [upd_ne (ne_of_none e hx), upd_ne (ne_of_none e hd)]; exact e⟩
theorem lok2 {f c' : Addr} {q : Str} (c : Mak P w K mg base 1 "WorkQueue" CQ (spQInit CW CQ) []) (cX : MetX P w K mg base 1 CQ "put" (spPutX CE) []) :
    LOk P w K mg base 5 f ⟨"<lambda>", q, lamArgs (lamAt sLaw 1), [], lamScope (lamAt sLaw 1), [], c'⟩ (lamBody (lamAt sLaw 1)) (tl2 CE) := by
  refine lok_of nsc2 rfl (fun _ _ _ => rfl) fun A outer s H Q E hr h => ⟨_, pe_mtX cX hr (by decide) (takes_of rfl rfl rfl (E := E) rfl) (pe_mk c hr (by decide) rfl (pa_cons pe_int pa_nil)) (pa_cons pe_str (pa_cons pe_int (pa_cons (pe_un un_neg pe_int) pa_nil))), ?_⟩
  obtain ⟨R, hR, h⟩ := h
  intro x dx hx hd ne
  generalize hH : upd (upd H dx _) x _ = H1
  have hL : Led H1 ((x, .ins CQ dx (fz [] [])) :: R) := Led.made hR hx hd ne hH
  refine ⟨x, dx, 1, R, rfl, by decide, hL, fun rd g H2 hL => ⟨rfl, ?_⟩⟩
  refine ⟨_, _, _, rfl, hL.at ⟨0, rfl⟩, fz_no (by decide +kernel), ?_⟩
  refine ⟨_, rfl, ?_⟩
  exact ⟨x, _, _, _, rfl, by decide, h _ hL.drop⟩
end
end Sd


namespace Sd
open PySem L2
open C8 (Cal Met Mak pe_c pe_mk pe_mt pe_mt0 tCut)
/-! the law's turn, block by block -/
def stBody : Stmt → List Stmt
  | .For _ _ b _ _ => b
  | .If _ b _ _ => b
  | _ => []
def stElse : Stmt → List Stmt
  | .If _ _ b _ => b
  | _ => []
def nth (l : List Stmt) (i : Nat) : Stmt := l.getD i (.Pass ⟨0, 0, 0, 0⟩)
/-- the turn's statements -/
def turnB : List Stmt := stBody (nth (stBody (nth (defBody sLaw) 0)) 3)
def blkPut : List Stmt := stBody (nth turnB 1)
def blkTake : List Stmt := stBody (nth (stElse (nth turnB 1)) 0)
def blkHold : List Stmt := stBody (nth (stElse (nth (stElse (nth turnB 1)) 0)) 0)
def stRows : Stmt := nth turnB 2
def stNums : Stmt := nth turnB 3
def stEnd : Stmt := nth (defBody sLaw) 2
def NL : List Str := ["script", "dice", "length", "time", "done", "queue", "own", "count", "rows", "step", "sort", "wait", "number", "due", "receipt", "good", "word", "told_now", "row", "one", "f"]
theorem scLaw : FnScope NL ["script"] (defScope sLaw) := ⟨rfl, rfl, rfl, by decide +kernel, rfl, by decide +kernel, by decide +kernel⟩
/-- the law's context -/
abbrev LX (P : Program) (w : World) (K : PySem.W.Frag) (mg : Str → Option Value) (base : Heap) (f : Addr) (cdv : Value) (A : Around) (outer : List Env) (s : Shared) (H : Hp) (E : XK) : Cx := (cxOf CX0 P w K mg base NL "law" (defScope sLaw) f cdv A outer s H E).nox
/-- places that stay -/
structure Fx where
  a : Addr
  d : Addr
  dn : Addr
  q : Addr
  dq : Addr
  rd : Addr
  g : Addr
  o : Addr
  rr : Addr
  len : Int
/-- what changes -/
structure LS where
  rq : List We
  ro : List We
  gq : List We
  go : List Int
  dn : List Int
  gg : Addr
  t : Int
  c : Nat
  nr : Int
  x : Int
  y : Int
  z : Int
def sg (F : Fx) (t c : Int) (v9 v10 v11 v12 v13 v14 v15 v16 v17 v18 v19 v20 : Option V) : L2.St :=
  [some (.ref F.a), some (.ref F.d), some (.int F.len), some (.int t), some (.ref F.dn), some (.ref F.q), some (.ref F.o), some (.int c), some (.ref F.rr), v9, v10, v11, v12, v13, v14, v15, v16, v17, v18, v19, v20]
def Sh (F : Fx) (t c : Int) (σ : L2.St) : Prop := ∃ v9 v10 v11 v12 v13 v14 v15 v16 v17 v18 v19 v20 : Option V, σ = sg F t c v9 v10 v11 v12 v13 v14 v15 v16 v17 v18 v19 v20
def objs (CW : Addr) (s : LS) : Lg := s.gq.map (wobj CW) ++ (s.rq.map (wobj CW) ++ s.ro.map robj)
def LL (CW CQ : Addr) (F : Fx) (s : LS) (L0 : Lg) : Lg := (F.d, dD s.x s.y s.z) :: (F.q, .ins CQ F.dq (fz nmQ [.int F.len, .ref F.rd, .ref F.g, .int (s.c + 1), .int s.nr])) :: (F.rd, .dK (s.rq.map rowK)) :: (F.g, .lst (s.gq.map fun e => .ref e.a)) ::
  (F.o, .dK (dz nmO [.ref F.rr, .ref s.gg, .int s.nr])) :: (F.rr, .dK (s.ro.map rowK)) :: (s.gg, .lst (s.go.map V.int)) :: (F.dn, .lst (s.dn.map V.int)) :: (objs CW s ++ L0)
structure LI (i : Nat) (s : LS) : Prop where
  w : s.rq.map (·.w) = s.ro.map (·.w)
  g : s.gq.map (·.w.n) = s.go
  asc : Asc s.rq
  pm : (s.rq.map (·.w.n) ++ (s.go ++ s.dn)).Perm ((List.range s.c).map fun i : Nat => (i : Int) + 1)
  c : s.c ≤ i
  n1 : 1 ≤ s.nr
  n2 : s.nr ≤ i + 1
def Okk (CW CQ : Addr) (F : Fx) (L0 : Lg) (i : Nat) (σ : L2.St) (H : Hp) : Prop := ∃ s, Sh F s.t s.c σ ∧ LI i s ∧ Led H (LL CW CQ F s L0)
def tBlk (CW CQ : Addr) : TS := fun D σ H => ∃ (F : Fx) (L0 : Lg) (i : Nat), i < 81 ∧ Okk CW CQ F L0 i σ H ∧ ∀ σ' H', Okk CW CQ F L0 (i + 1) σ' H' → D.nx σ' H'
theorem pss_imp {X : Cx} {sts : List Stmt} {t u : TS} (h : PSs X sts t) (k : ∀ D σ H, u D σ H → t D σ H) : PSs X sts u := ⟨fun pins s σ H D I q => h.run pins s σ H D I (k D σ H q)⟩
theorem ps_imp {X : Cx} {st : Stmt} {t u : TS} (h : PS X st t) (k : ∀ D σ H, u D σ H → t D σ H) : PS X st u := ⟨fun pins s σ H D I q => h.run pins s σ H D I (k D σ H q)⟩
/-- the queue's part ahead -/
theorem ll_queue {H : Hp} {CW CQ : Addr} {F : Fx} {s : LS} {L0 : Lg} {x : Addr × HO} {rows gq : List We} {nn nr' : Int} : Led H (x :: (F.q, .ins CQ F.dq (fz nmQ [.int F.len, .ref F.rd, .ref F.g, .int nn, .int nr'])) :: (F.rd, .dK (rows.map rowK)) :: (F.g, .lst (gq.map fun e => .ref e.a)) ::
  (F.o, .dK (dz nmO [.ref F.rr, .ref s.gg, .int s.nr])) :: (F.rr, .dK (s.ro.map rowK)) :: (s.gg, .lst (s.go.map V.int)) :: (F.dn, .lst (s.dn.map V.int)) :: ((gq.map (wobj CW) ++ (rows.map (wobj CW) ++ s.ro.map robj)) ++ L0)) ↔ Led H (QL CW CQ F.q F.dq F.rd F.g ⟨F.len, nn, nr', rows, gq⟩ ++ (x :: (F.o, .dK (dz nmO [.ref F.rr, .ref s.gg, .int s.nr])) :: (F.rr, .dK (s.ro.map rowK)) :: (s.gg, .lst (s.go.map V.int)) :: (F.dn, .lst (s.dn.map V.int)) :: (s.ro.map robj ++ L0))) := by
  have p : List.Perm (x :: (F.q, HO.ins CQ F.dq (fz nmQ [.int F.len, .ref F.rd, .ref F.g, .int nn, .int nr'])) :: (F.rd, .dK (rows.map rowK)) :: (F.g, .lst (gq.map fun e => .ref e.a)) ::
      (F.o, .dK (dz nmO [.ref F.rr, .ref s.gg, .int s.nr])) :: (F.rr, .dK (s.ro.map rowK)) :: (s.gg, .lst (s.go.map V.int)) :: (F.dn, .lst (s.dn.map V.int)) :: ((gq.map (wobj CW) ++ (rows.map (wobj CW) ++ s.ro.map robj)) ++ L0))
      (QL CW CQ F.q F.dq F.rd F.g ⟨F.len, nn, nr', rows, gq⟩ ++ (x :: (F.o, .dK (dz nmO [.ref F.rr, .ref s.gg, .int s.nr])) :: (F.rr, .dK (s.ro.map rowK)) :: (s.gg, .lst (s.go.map V.int)) :: (F.dn, .lst (s.dn.map V.int)) :: (s.ro.map robj ++ L0))) := by
    have h := List.perm_append_comm_assoc [x] [(F.q, HO.ins CQ F.dq (fz nmQ [.int F.len, .ref F.rd, .ref F.g, .int nn, .int nr'])), (F.rd, .dK (rows.map rowK)), (F.g, .lst (gq.map fun e => .ref e.a))]
      ([(F.o, .dK (dz nmO [.ref F.rr, .ref s.gg, .int s.nr])), (F.rr, .dK (s.ro.map rowK)), (s.gg, .lst (s.go.map V.int)), (F.dn, .lst (s.dn.map V.int))] ++ ((gq.map (wobj CW) ++ rows.map (wobj CW)) ++ (s.ro.map robj ++ L0)))
    have h2 := (List.perm_append_comm_assoc [x, (F.o, .dK (dz nmO [.ref F.rr, .ref s.gg, .int s.nr])), (F.rr, .dK (s.ro.map rowK)), (s.gg, .lst (s.go.map V.int)), (F.dn, .lst (s.dn.map V.int))] (gq.map (wobj CW) ++ rows.map (wobj CW)) (s.ro.map robj ++ L0))
    have h3 := h2.append_left [(F.q, HO.ins CQ F.dq (fz nmQ [.int F.len, .ref F.rd, .ref F.g, .int nn, .int nr'])), (F.rd, .dK (rows.map rowK)), (F.g, .lst (gq.map fun e => .ref e.a))]
    simp only [List.append_assoc, List.cons_append, List.nil_append, QL] at h h3 ⊢
    exact h.trans h3
  exact ⟨fun h => h.perm p, fun h => h.perm p.symm⟩
/-- our own part ahead -/
theorem ll_own {H : Hp} {CW CQ : Addr} {F : Fx} {s : LS} {L0 : Lg} {x : Addr × HO} {rows : List We} {gq : List We} {nn nr' : Int} : Led H (x :: (F.q, .ins CQ F.dq (fz nmQ [.int F.len, .ref F.rd, .ref F.g, .int nn, .int nr'])) :: (F.rd, .dK (rows.map rowK)) :: (F.g, .lst (gq.map fun e => .ref e.a)) ::
  (F.o, .dK (dz nmO [.ref F.rr, .ref s.gg, .int s.nr])) :: (F.rr, .dK (s.ro.map rowK)) :: (s.gg, .lst (s.go.map V.int)) :: (F.dn, .lst (s.dn.map V.int)) :: ((gq.map (wobj CW) ++ (rows.map (wobj CW) ++ s.ro.map robj)) ++ L0)) ↔
    Led H (OL F.o F.rr s.gg s.nr s.ro s.go ++ (x :: (F.q, .ins CQ F.dq (fz nmQ [.int F.len, .ref F.rd, .ref F.g, .int nn, .int nr'])) :: (F.rd, .dK (rows.map rowK)) :: (F.g, .lst (gq.map fun e => .ref e.a)) :: (F.dn, .lst (s.dn.map V.int)) :: (gq.map (wobj CW) ++ (rows.map (wobj CW) ++ L0)))) := by
  have p : List.Perm (x :: (F.q, HO.ins CQ F.dq (fz nmQ [.int F.len, .ref F.rd, .ref F.g, .int nn, .int nr'])) :: (F.rd, .dK (rows.map rowK)) :: (F.g, .lst (gq.map fun e => .ref e.a)) ::
      (F.o, .dK (dz nmO [.ref F.rr, .ref s.gg, .int s.nr])) :: (F.rr, .dK (s.ro.map rowK)) :: (s.gg, .lst (s.go.map V.int)) :: (F.dn, .lst (s.dn.map V.int)) :: ((gq.map (wobj CW) ++ (rows.map (wobj CW) ++ s.ro.map robj)) ++ L0))
      (OL F.o F.rr s.gg s.nr s.ro s.go ++ (x :: (F.q, .ins CQ F.dq (fz nmQ [.int F.len, .ref F.rd, .ref F.g, .int nn, .int nr'])) :: (F.rd, .dK (rows.map rowK)) :: (F.g, .lst (gq.map fun e => .ref e.a)) :: (F.dn, .lst (s.dn.map V.int)) :: (gq.map (wobj CW) ++ (rows.map (wobj CW) ++ L0)))) := by
    have h := List.perm_append_comm_assoc [x, (F.q, HO.ins CQ F.dq (fz nmQ [.int F.len, .ref F.rd, .ref F.g, .int nn, .int nr'])), (F.rd, .dK (rows.map rowK)), (F.g, .lst (gq.map fun e => .ref e.a))] [(F.o, HO.dK (dz nmO [.ref F.rr, .ref s.gg, .int s.nr])), (F.rr, .dK (s.ro.map rowK)), (s.gg, .lst (s.go.map V.int))]
      ((F.dn, .lst (s.dn.map V.int)) :: ((gq.map (wobj CW) ++ (rows.map (wobj CW) ++ s.ro.map robj)) ++ L0))
    have h2 := (List.perm_append_comm_assoc ([x, (F.q, HO.ins CQ F.dq (fz nmQ [.int F.len, .ref F.rd, .ref F.g, .int nn, .int nr'])), (F.rd, .dK (rows.map rowK)), (F.g, .lst (gq.map fun e => .ref e.a)), (F.dn, .lst (s.dn.map V.int))] ++ (gq.map (wobj CW) ++ rows.map (wobj CW))) (s.ro.map robj) L0)
    have h3 := h2.append_left [(F.o, HO.dK (dz nmO [.ref F.rr, .ref s.gg, .int s.nr])), (F.rr, .dK (s.ro.map rowK)), (s.gg, .lst (s.go.map V.int))]
    simp only [List.append_assoc, List.cons_append, List.nil_append, OL] at h h3 ⊢
    exact h.trans h3
  exact ⟨fun h => h.perm p, fun h => h.perm p.symm⟩
theorem ll_app {CW CQ : Addr} {F : Fx} {s : LS} {L0 R : Lg} : LL CW CQ F s (L0 ++ R) = LL CW CQ F s L0 ++ R := by simp [LL]
end Sd


namespace Sd
open PySem L2
open C8 (Cal Met Mak pe_c pe_mk pe_mt pe_mt0 tCut)
set_option hygiene false
local macro_rules | `(tactic| fail "nd") => `(tactic| first | assumption | decide +kernel)
local macro_rules | `(tactic| fail "ix") => `(tactic| first | exact ⟨0, rfl⟩ | exact ⟨1, rfl⟩ | exact ⟨2, rfl⟩ | exact ⟨3, rfl⟩ | exact ⟨4, rfl⟩ | exact ⟨5, rfl⟩ | exact ⟨6, rfl⟩ | exact ⟨7, rfl⟩ | exact ⟨8, rfl⟩ | exact ⟨9, rfl⟩ | exact ⟨10, rfl⟩ | exact ⟨11, rfl⟩ | exact ⟨12, rfl⟩ | assumption)
local macro_rules | `(tactic| fail "up") => `(tactic| first | exact ⟨0, rfl, rfl⟩ | exact ⟨1, rfl, rfl⟩ | exact ⟨2, rfl, rfl⟩ | exact ⟨3, rfl, rfl⟩ | exact ⟨4, rfl, rfl⟩ | exact ⟨5, rfl, rfl⟩ | exact ⟨6, rfl, rfl⟩ | exact ⟨7, rfl, rfl⟩ | exact ⟨8, rfl, rfl⟩ | exact ⟨9, rfl, rfl⟩ | exact ⟨10, rfl, rfl⟩ | exact ⟨11, rfl, rfl⟩ | exact ⟨12, rfl, rfl⟩ | assumption)
local macro_rules | `(tactic| fail "lkF") => `(tactic| first | assumption | exact fz_at 0 (by fail "nd") rfl rfl | exact fz_at 1 (by fail "nd") rfl rfl | exact fz_at 2 (by fail "nd") rfl rfl | exact fz_at 3 (by fail "nd") rfl rfl | exact fz_at 4 (by fail "nd") rfl rfl | exact fz_at 5 (by fail "nd") rfl rfl | exact fz_at 6 (by fail "nd") rfl rfl | exact fz_at 7 (by fail "nd") rfl rfl)
local macro_rules | `(tactic| fail "lkD") => `(tactic| first | assumption | exact dz_at 0 (by fail "nd") rfl rfl | exact dz_at 1 (by fail "nd") rfl rfl | exact dz_at 2 (by fail "nd") rfl rfl | exact dz_at 3 (by fail "nd") rfl rfl | exact dz_at 4 (by fail "nd") rfl rfl)
local macro_rules | `(tactic| fail "ptF") => `(tactic| first | assumption | exact fz_put 0 (by fail "nd") rfl (Nat.le_of_ble_eq_true rfl) | exact fz_put 1 (by fail "nd") rfl (Nat.le_of_ble_eq_true rfl) | exact fz_put 2 (by fail "nd") rfl (Nat.le_of_ble_eq_true rfl) | exact fz_put 3 (by fail "nd") rfl (Nat.le_of_ble_eq_true rfl) | exact fz_put 4 (by fail "nd") rfl (Nat.le_of_ble_eq_true rfl) | exact fz_put 5 (by fail "nd") rfl (Nat.le_of_ble_eq_true rfl) | exact fz_put 6 (by fail "nd") rfl (Nat.le_of_ble_eq_true rfl) | exact fz_put 7 (by fail "nd") rfl (Nat.le_of_ble_eq_true rfl) | exact fz_new (by decide +kernel) rfl)
local macro_rules | `(tactic| fail "ptD") => `(tactic| first | assumption | exact dz_put 0 (by fail "nd") rfl (Nat.le_of_ble_eq_true rfl) | exact dz_put 1 (by fail "nd") rfl (Nat.le_of_ble_eq_true rfl) | exact dz_put 2 (by fail "nd") rfl (Nat.le_of_ble_eq_true rfl) | exact dz_put 3 (by fail "nd") rfl (Nat.le_of_ble_eq_true rfl) | exact dz_put 4 (by fail "nd") rfl (Nat.le_of_ble_eq_true rfl))
local macro_rules | `(tactic| fail "sz") => `(tactic| first | assumption | exact (Nat.le_of_ble_eq_true rfl) | omega | decide)
local macro_rules | `(tactic| fail "sd") => `(tactic| first | rfl | assumption | decide | omega | (dsimp only; first | decide | omega) | exact .inr ⟨by decide, by decide⟩ | exact .inl ⟨by decide, by decide⟩ | exact ⟨by omega, by omega⟩ | exact .inl ⟨by omega, by omega⟩ | exact .inr ⟨by omega, by omega⟩ | exact ⟨by omega, by omega, by omega⟩)
local macro_rules | `(tactic| fail "cl") => `(tactic| (clear hH; dsimp only [List.set, List.cons_append, List.nil_append, List.append] at hL))
local macro_rules | `(tactic| fail "gn") => `(tactic| (intro p hp; generalize hH : upd H p _ = H; replace hL := Led.newH hL hp hH; clear hH hp))
local macro_rules | `(tactic| fail "gup") => `(tactic| (generalize hH : upd H _ _ = H; replace hL := Led.upU hL (by fail "up") hH; fail "cl"))
local macro_rules | `(tactic| fail "gmk") => `(tactic| (intro x dx hx hd ne; generalize hH : upd (upd H dx _) x _ = H; replace hL := Led.made hL hx hd ne hH; clear hH hx hd ne))
local macro_rules | `(tactic| fail "v") => `(tactic| refine ⟨_, rfl, ?_⟩)
local macro_rules | `(tactic| fail "i2") => `(tactic| refine ⟨_, _, rfl, rfl, ?_⟩)
local macro_rules | `(tactic| fail "go1") => `(tactic| first
  | refine ⟨_, rfl, ?_⟩
  | refine ⟨_, _, rfl, rfl, ?_⟩
  | refine ⟨_, _, rfl, ?_⟩
  | refine iteT ?_
  | refine iteF ?_
  | refine k_fld hL (by fail "ix") (by assumption) (by assumption) (by fail "lkF") ?_
  | refine k_dgetS hL (by fail "ix") (by fail "lkD") ?_
  | refine k_dgetI hL (by fail "ix") (by assumption) ?_
  | refine k_ixL hL (by fail "ix") (by first | rfl | assumption) ?_
  | refine k_ixT hL (by fail "ix") (by first | rfl | assumption) ?_
  | refine k_tyL hL (by fail "ix") ?_
  | refine k_isd hL (by fail "ix") ?_
  | (refine And.intro (by fail "sz") ?_; fail "gn")
  | refine And.intro (by fail "sd") ?_
  | fail "gn"
  | refine k_meth hL (by fail "ix") (by first | assumption | exact fz_no (by decide +kernel)) ?_
  | refine k_gtup hL (by fail "ix") rfl ?_
  | (refine k_popI hL (by fail "ix") (by assumption) ?_; fail "gup")
  | (refine k_listD hL (by fail "ix") ?_; fail "gn")
  | (refine ⟨_, _, _, _, rfl, rfl, hL.at (by fail "ix"), rfl, ?_⟩; fail "gup")
  | (refine ⟨_, _, _, rfl, rfl, hL.at (by fail "ix"), (by fail "sz"), ?_⟩; fail "gup")
  | (refine ⟨_, _, _, _, rfl, hL.at (by fail "ix"), by assumption, by assumption, Nat.lt_of_le_of_lt fz_len (by decide), ?_⟩; generalize hH : upd H _ _ = H; replace hL := Led.upF hL (by fail "up") (by fail "ptF") hH; fail "cl")
  | (refine ⟨_, _, hL.at (by fail "ix"), Nat.lt_of_le_of_lt fz_len (by decide), ?_⟩; generalize hH : upd H _ _ = H; replace hL := Led.upF hL (by fail "up") (by fail "ptF") hH; fail "cl")
  | (refine k_dputS hL (by fail "ix") (Nat.lt_of_le_of_lt dz_len (by decide)) (by fail "ptD") (by fail "up") ?_; clear hL; intro H hL; dsimp only [List.set, List.cons_append, List.nil_append, List.append] at hL)
  | refine .inl ⟨_, rfl, ?_⟩
  | refine .inr ⟨_, rfl, ?_⟩)
local macro_rules | `(tactic| fail "go") => `(tactic| repeat fail "go1")

structure TxtV (mg : Str → Option Value) : Prop where
  str : mg "str" = none
  max : mg "max" = none
  int : mg "int" = none
  list : mg "list" = none
  sorted : mg "sorted" = none
  range : mg "range" = none
theorem mergeK_dz {names : List Str} {vals : List V} (h : names.Nodup) (hl : names.length = vals.length) : mergeK [] (dz names vals) = dz names vals := by
  rw [mergeK_nd]
  · rfl
  · have : (dz names vals).map (·.1) = names.map (Sum.inr : Str → Key) := by
      unfold dz
      rw [← List.unzip_fst, List.unzip_zip (by simpa using hl)]
    rw [List.nil_append, this]
    exact List.pairwise_map.mpr (h.imp fun ne q => ne (Sum.inr.inj q))
theorem len_work {c : Nat} (h : c ≤ 100) : (Str.ofString "work ").length + (Str.ofString (toString ((c : Int) + 1))).length ≤ sizeLine := by
  have h1 : ∀ c : Fin 101, (Str.ofString "work ").length + (Str.ofString (toString (((c : Nat) : Int) + 1))).length ≤ 100 := by decide +kernel
  exact Nat.le_trans (h1 ⟨c, by omega⟩) (by decide)
theorem log_small {n : Int} (h0 : 0 ≤ n) (h : n ≤ 1000) : n.natAbs.log2 < 1920 := Nat.lt_of_le_of_lt (Nat.log2_le_self _) (by omega)
theorem li_num {i : Nat} {s : LS} (I : LI i s) {n : Int} (h : n ∈ s.rq.map (·.w.n) ++ (s.go ++ s.dn)) : 1 ≤ n ∧ n ≤ s.c := by
  obtain ⟨m, hm, rfl⟩ := List.mem_map.mp (I.pm.mem_iff.mp h)
  have := List.mem_range.mp hm
  omega
theorem li_row {i : Nat} {s : LS} (I : LI i s) {e : We} (h : e ∈ s.rq) : 1 ≤ e.w.n ∧ e.w.n ≤ s.c := li_num I (List.mem_append_left _ (List.mem_map.mpr ⟨e, h, rfl⟩))
theorem map_n {l m : List We} (h : l.map (·.w) = m.map (·.w)) : l.map (·.w.n) = m.map (·.w.n) := by
  have := congrArg (List.map Wk.n) h
  simpa [Function.comp_def] using this
theorem li_len {i : Nat} {s : LS} (I : LI i s) : s.rq.length + s.go.length + s.dn.length = s.c := by
  have := I.pm.length_eq
  simp at this
  omega
theorem li_rowo {i : Nat} {s : LS} (I : LI i s) {e : We} (h : e ∈ s.ro) : 1 ≤ e.w.n ∧ e.w.n ≤ s.c := by
  have : e.w.n ∈ s.rq.map (·.w.n) := by rw [map_n I.w]; exact List.mem_map.mpr ⟨e, h, rfl⟩
  exact li_num I (List.mem_append_left _ this)
theorem li_asco {i : Nat} {s : LS} (I : LI i s) : Asc s.ro := by
  have := I.asc
  unfold Asc at this ⊢
  rw [← map_n I.w]; exact this
theorem li_put {i : Nat} {s : LS} (I : LI i s) {a dx b dy : Addr} {r x y z : Int} : LI (i + 1) { s with rq := s.rq ++ [⟨a, dx, ⟨(s.c : Int) + 1, r, 0, none⟩⟩], ro := s.ro ++ [⟨b, dy, ⟨(s.c : Int) + 1, r, 0, none⟩⟩], c := s.c + 1, x := x, y := y, z := z } := by
  refine ⟨?_, I.g, ?_, ?_, Nat.succ_le_succ I.c, I.n1, (by have := I.n2; dsimp only; omega)⟩
  · simp [I.w]
  · have h := I.asc
    unfold Asc at h ⊢
    rw [List.map_append, List.pairwise_append]
    refine ⟨h, by simp, fun x hx y hy => ?_⟩
    obtain ⟨e, he, rfl⟩ := List.mem_map.mp hx
    have := li_row I he
    simp at hy
    omega
  · have h := I.pm
    dsimp only
    rw [List.range_succ, List.map_append, List.map_append]
    have h2 := (h.append_right [(s.c : Int) + 1])
    refine (List.Perm.trans ?_ h2).trans (by simp)
    simp only [List.map_cons, List.map_nil, List.append_assoc]
    exact (List.perm_append_comm (l₁ := [(s.c : Int) + 1]) (l₂ := s.go ++ s.dn)).append_left _ |>.trans (by simp)
section
variable {P : Program} {w : World} {K : PySem.W.Frag} {mg : Str → Option Value} {base : Heap} {CW CQ : Addr} {f : Addr} {cdv : Value} {A : Around} {outer : List Env} {s0 : Shared} {H0 : Hp} {E : XK} {k0 : Nat}
theorem blk_put (hr : Room 8 (LX P w K mg base f cdv A outer s0 H0 E).A) (T : TxtV mg) (X : TxtQ K mg CW CQ) (c__law_roll : Cal P w K mg base 1 "_law_roll" spRoll []) (c_WorkQueue_put : Met P w K mg base 3 CQ "put" (spPut CW CQ) []) :
    PSs (LX P w K mg base f cdv A outer s0 H0 E) blkPut (tBlk CW CQ) := by
  refine pss_imp (t := _) (pss_cons (ps_set (i := 11) scLaw.nd rfl (Or.inl rfl) (pe_ix ix_list (pe_lst (pa_cons pe_int (pa_cons pe_int (pa_cons (pe_c c__law_roll hr (by decide) (by rfl) (pa_cons (pv 1) (pa_cons pe_int pa_nil))) pa_nil)))) (pe_c c__law_roll hr (by decide) (by rfl) (pa_cons (pv 1) (pa_cons pe_int pa_nil))) (fun _ _ => rfl)))
  (pss_cons (ps_set (i := 7) scLaw.nd rfl (Or.inl rfl) (pe_op op_add (pv 7) pe_int))
  (pss_cons (ps_if (pt_cmpR op_ne (pe_mt c_WorkQueue_put hr (by decide) (pv 5) (pa_cons (pe_op op_add_str pe_str (pe_callTy call_str_int (by rfl) T.str (by decide +kernel) (pa_cons (pv 7) pa_nil))) (pa_cons (pv 3) (pa_cons (pv 11) pa_nil)))) (pv 7) (nomark _))
  (pss_one (ps_ret pe_bl))
  pss_nil)
  (pss_one (ps_dput (hu_of hr) (pv 8) (pv 7) (pe_disp (pps_cons pe_str (pe_op op_add (pv 3) (pv 11)) (pps_cons pe_str pe_int (pps_cons pe_str pe_non pps_nil))) (by rfl) (by rfl) (fun z => by cases z) (by decide)) rfl))))) ?_
  rintro D σ H ⟨F, L0, i, hi, ⟨s, ⟨v9, v10, v11, v12, v13, v14, v15, v16, v17, v18, v19, v20, rfl⟩, I, hL⟩, k⟩
  have c1 := X.clQ
  have f2 := X.nQ "rows" (by decide +kernel)
  unfold LL at hL
  fail "go"
  refine ⟨F.d, s.x, s.y, s.z, 9, _, rfl, hL, by decide, by decide, fun r x y z H hr0 hr1 hL => ?_⟩
  fail "go"
  refine ⟨F.d, x, y, z, 3, _, rfl, hL.perm (List.Perm.swap _ _ _), by decide, by decide, fun r2 x y z H hr20 hr21 hL => ?_⟩
  replace hL := hL.perm (List.Perm.swap _ _ _)
  obtain ⟨wv, hwv, hw0⟩ : ∃ wv : Int, atI [V.int 0, V.int 0, V.int r] r2 = some (V.int wv) ∧ 0 ≤ wv := by
    rcases (by omega : r2 = 0 ∨ r2 = 1 ∨ r2 = 2) with rfl | rfl | rfl
    · exact ⟨0, rfl, by omega⟩
    · exact ⟨0, rfl, by omega⟩
    · exact ⟨r, rfl, by omega⟩
  fail "go"
  replace hL := hL.tail
  have hln := li_len I
  have hci := I.c
  refine ⟨log_small (by omega) (by omega), _, _, rfl, rfl, len_work (by omega), ?_⟩
  fail "go"
  refine ⟨F.q, F.dq, F.rd, F.g, ⟨F.len, s.c + 1, s.nr, s.rq, s.gq⟩, s.t, wv, _, rfl, hw0, (ll_queue (s := s)).mp hL, by dsimp only; omega, fun e he => ?_, fun a dx H hL => ?_⟩
  · have := li_row I he
    dsimp only
    omega
  dsimp only at hL
  rw [show (s.c : Int) + 1 + 1 = ((s.c + 1 : Nat) : Int) + 1 by omega] at hL
  replace hL := (ll_queue (s := { s with rq := s.rq ++ [⟨a, dx, ⟨(s.c : Int) + 1, s.t + wv, 0, none⟩⟩], c := s.c + 1 })).mpr hL
  dsimp only at hL
  fail "go"
  refine ite_f (by simp) ?_
  fail "go"
  refine ⟨hL.at ⟨0, rfl⟩, dz nmR [.int (s.t + wv), .int 0, .non], rfl, Nat.le_of_ble_eq_true rfl, ?_⟩
  rw [mergeK_dz (by decide +kernel) rfl]
  generalize hH : upd H p _ = H
  replace hL := Led.upU (o' := .dK (dz nmR [.int (s.t + wv), .int 0, .non])) hL ⟨0, rfl, rfl⟩ hH
  dsimp only [List.set] at hL
  fail "go"
  refine k_dputI (kvs' := (s.ro ++ [(⟨p, p, ⟨(s.c : Int) + 1, s.t + wv, 0, none⟩⟩ : We)]).map rowK) hL (by fail "ix") ?_ ?_ (by fail "up") ?_
  · have := congrArg List.length I.w
    simp at this ⊢
    exact Nat.lt_of_lt_of_le (by omega : _ < 1000) (by decide)
  · rw [putK_new]
    · simp [rowK]
    · exact row_no fun e he => by have := li_rowo I he; omega
  clear hL
  intro H hL
  dsimp only [List.set] at hL
  refine k _ _ ⟨_, ⟨_, _, _, _, _, _, _, _, _, _, _, _, rfl⟩, li_put I (a := a) (dx := dx) (b := p) (dy := p) (r := s.t + wv) (x := x) (y := y) (z := z), ?_⟩
  unfold LL
  have h2 := Led.back (A := [(F.d, _), (F.q, _), (F.rd, _), (F.g, _), (F.o, _), (F.rr, _), (s.gg, _), (F.dn, _)] ++ (s.gq.map (wobj CW) ++ ((s.rq ++ [(⟨a, dx, ⟨(s.c : Int) + 1, s.t + wv, 0, none⟩⟩ : We)]).map (wobj CW) ++ s.ro.map robj))) (B := L0) (x := (p, _)) (by simpa [objs] using hL)
  simpa [objs, robj, optV] using h2
end
end Sd


namespace Sd
open PySem L2
open C8 (Cal Met Mak pe_c pe_mk pe_mt pe_mt0 tCut)
set_option hygiene false
local macro_rules | `(tactic| fail "nd") => `(tactic| first | assumption | decide +kernel)
local macro_rules | `(tactic| fail "ix") => `(tactic| first | exact ⟨0, rfl⟩ | exact ⟨1, rfl⟩ | exact ⟨2, rfl⟩ | exact ⟨3, rfl⟩ | exact ⟨4, rfl⟩ | exact ⟨5, rfl⟩ | exact ⟨6, rfl⟩ | exact ⟨7, rfl⟩ | exact ⟨8, rfl⟩ | exact ⟨9, rfl⟩ | exact ⟨10, rfl⟩ | exact ⟨11, rfl⟩ | exact ⟨12, rfl⟩ | assumption)
local macro_rules | `(tactic| fail "up") => `(tactic| first | exact ⟨0, rfl, rfl⟩ | exact ⟨1, rfl, rfl⟩ | exact ⟨2, rfl, rfl⟩ | exact ⟨3, rfl, rfl⟩ | exact ⟨4, rfl, rfl⟩ | exact ⟨5, rfl, rfl⟩ | exact ⟨6, rfl, rfl⟩ | exact ⟨7, rfl, rfl⟩ | exact ⟨8, rfl, rfl⟩ | exact ⟨9, rfl, rfl⟩ | exact ⟨10, rfl, rfl⟩ | exact ⟨11, rfl, rfl⟩ | exact ⟨12, rfl, rfl⟩ | assumption)
local macro_rules | `(tactic| fail "lkF") => `(tactic| first | assumption | exact fz_at 0 (by fail "nd") rfl rfl | exact fz_at 1 (by fail "nd") rfl rfl | exact fz_at 2 (by fail "nd") rfl rfl | exact fz_at 3 (by fail "nd") rfl rfl | exact fz_at 4 (by fail "nd") rfl rfl | exact fz_at 5 (by fail "nd") rfl rfl | exact fz_at 6 (by fail "nd") rfl rfl | exact fz_at 7 (by fail "nd") rfl rfl)
local macro_rules | `(tactic| fail "lkD") => `(tactic| first | assumption | exact dz_at 0 (by fail "nd") rfl rfl | exact dz_at 1 (by fail "nd") rfl rfl | exact dz_at 2 (by fail "nd") rfl rfl | exact dz_at 3 (by fail "nd") rfl rfl | exact dz_at 4 (by fail "nd") rfl rfl)
local macro_rules | `(tactic| fail "ptF") => `(tactic| first | assumption | exact fz_put 0 (by fail "nd") rfl (Nat.le_of_ble_eq_true rfl) | exact fz_put 1 (by fail "nd") rfl (Nat.le_of_ble_eq_true rfl) | exact fz_put 2 (by fail "nd") rfl (Nat.le_of_ble_eq_true rfl) | exact fz_put 3 (by fail "nd") rfl (Nat.le_of_ble_eq_true rfl) | exact fz_put 4 (by fail "nd") rfl (Nat.le_of_ble_eq_true rfl) | exact fz_put 5 (by fail "nd") rfl (Nat.le_of_ble_eq_true rfl) | exact fz_put 6 (by fail "nd") rfl (Nat.le_of_ble_eq_true rfl) | exact fz_put 7 (by fail "nd") rfl (Nat.le_of_ble_eq_true rfl) | exact fz_new (by decide +kernel) rfl)
local macro_rules | `(tactic| fail "ptD") => `(tactic| first | assumption | exact dz_put 0 (by fail "nd") rfl (Nat.le_of_ble_eq_true rfl) | exact dz_put 1 (by fail "nd") rfl (Nat.le_of_ble_eq_true rfl) | exact dz_put 2 (by fail "nd") rfl (Nat.le_of_ble_eq_true rfl) | exact dz_put 3 (by fail "nd") rfl (Nat.le_of_ble_eq_true rfl) | exact dz_put 4 (by fail "nd") rfl (Nat.le_of_ble_eq_true rfl))
local macro_rules | `(tactic| fail "sz") => `(tactic| first | assumption | exact (Nat.le_of_ble_eq_true rfl) | omega | decide)
local macro_rules | `(tactic| fail "sd") => `(tactic| first | rfl | assumption | decide | omega | (dsimp only; first | decide | omega) | exact .inr ⟨by decide, by decide⟩ | exact .inl ⟨by decide, by decide⟩ | exact ⟨by omega, by omega⟩ | exact .inl ⟨by omega, by omega⟩ | exact .inr ⟨by omega, by omega⟩ | exact ⟨by omega, by omega, by omega⟩)
local macro_rules | `(tactic| fail "cl") => `(tactic| (clear hH; dsimp only [List.set, List.cons_append, List.nil_append, List.append] at hL))
local macro_rules | `(tactic| fail "gn") => `(tactic| (intro p hp; generalize hH : upd H p _ = H; replace hL := Led.newH hL hp hH; clear hH hp))
local macro_rules | `(tactic| fail "gup") => `(tactic| (generalize hH : upd H _ _ = H; replace hL := Led.upU hL (by fail "up") hH; fail "cl"))
local macro_rules | `(tactic| fail "gmk") => `(tactic| (intro x dx hx hd ne; generalize hH : upd (upd H dx _) x _ = H; replace hL := Led.made hL hx hd ne hH; clear hH hx hd ne))
local macro_rules | `(tactic| fail "v") => `(tactic| refine ⟨_, rfl, ?_⟩)
local macro_rules | `(tactic| fail "i2") => `(tactic| refine ⟨_, _, rfl, rfl, ?_⟩)
local macro_rules | `(tactic| fail "go1") => `(tactic| first
  | refine ⟨_, rfl, ?_⟩
  | refine ⟨_, _, rfl, rfl, ?_⟩
  | refine ⟨_, _, rfl, ?_⟩
  | refine iteT ?_
  | refine iteF ?_
  | refine k_fld hL (by fail "ix") (by assumption) (by assumption) (by fail "lkF") ?_
  | refine k_dgetS hL (by fail "ix") (by fail "lkD") ?_
  | refine k_dgetI hL (by fail "ix") (by assumption) ?_
  | refine k_ixL hL (by fail "ix") (by first | rfl | assumption) ?_
  | refine k_ixT hL (by fail "ix") (by first | rfl | assumption) ?_
  | refine k_tyL hL (by fail "ix") ?_
  | refine k_isd hL (by fail "ix") ?_
  | (refine And.intro (by fail "sz") ?_; fail "gn")
  | refine And.intro (by fail "sd") ?_
  | fail "gn"
  | refine k_meth hL (by fail "ix") (by first | assumption | exact fz_no (by decide +kernel)) ?_
  | refine k_gtup hL (by fail "ix") rfl ?_
  | (refine k_popI hL (by fail "ix") (by assumption) ?_; fail "gup")
  | (refine k_listD hL (by fail "ix") ?_; fail "gn")
  | (refine ⟨_, _, _, _, rfl, rfl, hL.at (by fail "ix"), rfl, ?_⟩; fail "gup")
  | (refine ⟨_, _, _, rfl, rfl, hL.at (by fail "ix"), (by fail "sz"), ?_⟩; fail "gup")
  | (refine ⟨_, _, _, _, rfl, hL.at (by fail "ix"), by assumption, by assumption, Nat.lt_of_le_of_lt fz_len (by decide), ?_⟩; generalize hH : upd H _ _ = H; replace hL := Led.upF hL (by fail "up") (by fail "ptF") hH; fail "cl")
  | (refine ⟨_, _, hL.at (by fail "ix"), Nat.lt_of_le_of_lt fz_len (by decide), ?_⟩; generalize hH : upd H _ _ = H; replace hL := Led.upF hL (by fail "up") (by fail "ptF") hH; fail "cl")
  | (refine k_dputS hL (by fail "ix") (Nat.lt_of_le_of_lt dz_len (by decide)) (by fail "ptD") (by fail "up") ?_; clear hL; intro H hL; dsimp only [List.set, List.cons_append, List.nil_append, List.append] at hL)
  | refine .inl ⟨_, rfl, ?_⟩
  | refine .inr ⟨_, rfl, ?_⟩)
local macro_rules | `(tactic| fail "go") => `(tactic| repeat fail "go1")

theorem takeE_w (t len nr : Int) : ∀ {l m : List We}, l.map (·.w) = m.map (·.w) → (takeE t len nr l).1.map (·.w) = (takeE t len nr m).1.map (·.w) ∧ (takeE t len nr l).2.1.map (·.w) = (takeE t len nr m).2.1.map (·.w) ∧ (takeE t len nr l).2.2.map (·.w) = (takeE t len nr m).2.2.map (·.w)
  | [], [], _ => ⟨rfl, rfl, rfl⟩
  | [], _ :: _, h => by simp at h
  | _ :: _, [], h => by simp at h
  | a :: l, b :: m, h => by
    simp only [List.map_cons, List.cons.injEq] at h
    obtain ⟨h1, h2⟩ := h
    obtain ⟨i1, i2, i3⟩ := takeE_w t len nr h2
    simp only [takeE, h1]
    by_cases q1 : b.w.r ≤ t ∧ 3 ≤ b.w.t
    · simp only [if_pos q1, List.map_cons, h1, i1, i2, i3]
      exact ⟨trivial, trivial, trivial⟩
    · by_cases q2 : b.w.r ≤ t
      · simp only [if_neg q1, if_pos q2]
        simp [took, h1, h2]
      · simp only [if_neg q1, if_neg q2]
        simp [h1, i1, i2, i3]
theorem takeE_perm (t len nr : Int) : ∀ l : List We, (l.map (·.w.n)).Perm ((takeE t len nr l).1.map (·.w.n) ++ (takeE t len nr l).2.1.map (·.w.n))
  | [] => .refl _
  | a :: l => by
    have ih := takeE_perm t len nr l
    simp only [takeE]
    split
    · exact (ih.cons a.w.n).trans List.perm_middle.symm
    · split
      · simp [took]
      · exact ih.cons a.w.n
theorem takeE_sub (t len nr : Int) : ∀ l : List We, ((takeE t len nr l).1.map (·.w.n)).Sublist (l.map (·.w.n))
  | [] => .refl _
  | a :: l => by
    have ih := takeE_sub t len nr l
    simp only [takeE]
    split
    · exact ih.cons _
    · split
      · simp [took]
      · exact ih.cons_cons _
theorem takeE_mem {t len nr : Int} : ∀ {l : List We} {e : We}, (takeE t len nr l).2.2 = some e → ∃ A B, (takeE t len nr l).1 = A ++ e :: B ∧ e.w.c = some nr
  | [], _, h => by simp [takeE] at h
  | a :: l, e, h => by
    simp only [takeE] at h ⊢
    split at h
    · rename_i q
      rw [if_pos q]
      exact takeE_mem h
    · rename_i q
      rw [if_neg q]
      split at h
      · rename_i q2
        rw [if_pos q2]
        obtain rfl := Option.some.inj h
        exact ⟨[], l, rfl, rfl⟩
      · rename_i q2
        rw [if_neg q2]
        obtain ⟨A, B, h1, h2⟩ := takeE_mem h
        exact ⟨a :: A, B, by rw [h1]; rfl, h2⟩
def takeS (s : LS) (t len nr : Int) (gg : Addr) : LS := { s with rq := (takeE t len s.nr s.rq).1, gq := s.gq ++ (takeE t len s.nr s.rq).2.1, ro := (takeE t len s.nr s.ro).1, go := s.go ++ (takeE t len s.nr s.ro).2.1.map (·.w.n), gg := gg, nr := nr }
theorem li_take {i : Nat} {s : LS} (I : LI i s) {t len nr : Int} {gg : Addr} (h1 : s.nr ≤ nr) (h2 : nr ≤ s.nr + 1) : LI (i + 1) (takeS s t len nr gg) := by
  unfold takeS
  obtain ⟨w1, w2, w3⟩ := takeE_w t len s.nr I.w
  refine ⟨w1, ?_, ?_, ?_, Nat.le_succ_of_le I.c, Int.le_trans I.n1 h1, (by have := I.n2; dsimp only; omega)⟩
  · dsimp only
    rw [List.map_append, I.g, map_n w2]
  · exact I.asc.sublist (takeE_sub t len s.nr s.rq)
  · refine List.Perm.trans ?_ I.pm
    dsimp only
    rw [← map_n w2]
    have h := (takeE_perm t len s.nr s.rq).symm.append_right (s.go ++ s.dn)
    refine List.Perm.trans ?_ h
    rw [List.append_assoc, List.append_assoc]
    exact (List.perm_append_comm_assoc _ _ _).append_left _
section
variable {P : Program} {w : World} {K : PySem.W.Frag} {mg : Str → Option Value} {base : Heap} {CW CQ : Addr} {f : Addr} {cdv : Value} {A : Around} {outer : List Env} {s0 : Shared} {H0 : Hp} {E : XK} {k0 : Nat}
theorem blk_take (hr : Room 8 (LX P w K mg base f cdv A outer s0 H0 E).A) (T : TxtV mg) (X : TxtQ K mg CW CQ) (c__law_taken : Cal P w K mg base 1 "_law_taken" spTaken []) (c_WorkQueue_take : Met P w K mg base 1 CQ "take" (spTake CW CQ) []) :
    PSs (LX P w K mg base f cdv A outer s0 H0 E) blkTake (tBlk CW CQ) := by
  refine pss_imp (t := _) (pss_cons (ps_set (i := 12) scLaw.nd rfl (Or.inl rfl) (pe_c c__law_taken hr (by decide) (by rfl) (pa_cons (pv 6) (pa_cons (pv 3) (pa_cons (pv 2) pa_nil)))))
  (pss_cons (ps_set (i := 13) scLaw.nd rfl (Or.inl rfl) (pe_ifExp (pt_cmpR op_isN (pv 12) pe_non (nomark _)) pe_non (pe_tup (pa_cons (pv 12) (pa_cons (pe_dget (hu_of hr) (pe_dget (hu_of hr) (pv 8) (pv 12) (fun _ _ => rfl)) pe_str (fun _ _ => rfl)) (pa_cons (pe_op op_add_str pe_str (pe_callTy call_str_int (by rfl) T.str (by decide +kernel) (pa_cons (pv 12) pa_nil))) pa_nil))))))
  (pss_one (ps_if (pt_cmpR (op_neP hr.units) (pe_mt c_WorkQueue_take hr (by decide) (pv 5) (pa_cons (pv 3) pa_nil)) (pv 13) (nomark _))
  (pss_one (ps_ret pe_bl))
  pss_nil)))) ?_
  rintro D σ H ⟨F, L0, i, hi, ⟨s, ⟨v9, v10, v11, v12, v13, v14, v15, v16, v17, v18, v19, v20, rfl⟩, I, hL⟩, k⟩
  have hln := li_len I
  have hlo : s.rq.length = s.ro.length := by have := congrArg List.length I.w; simpa using this
  have hlg : s.gq.length = s.go.length := by have := congrArg List.length I.g; simpa using this
  have hci := I.c
  obtain ⟨w1, w2, w3⟩ := takeE_w s.t F.len s.nr I.w
  unfold LL objs at hL
  fail "go"
  refine ⟨F.o, F.rr, s.gg, s.nr, s.ro, s.go, s.t, F.len, _, rfl, ll_own.mp hL, li_asco I, by omega, fun H gg' hn hL => ?_, fun H gg' e he hL => ?_⟩
  · have hn2 : (takeE s.t F.len s.nr s.rq).2.2 = none := by
      rw [hn] at w3
      simpa using w3
    replace hL := (ll_own (s := { s with gg := gg', ro := (takeE s.t F.len s.nr s.ro).1, go := s.go ++ (takeE s.t F.len s.nr s.ro).2.1.map (·.w.n) })).mpr hL
    dsimp only at hL
    fail "go"
    refine ⟨F.q, F.dq, F.rd, F.g, ⟨F.len, s.c + 1, s.nr, s.rq, s.gq⟩, s.t, _, rfl, (ll_queue (s := { s with gg := gg', ro := (takeE s.t F.len s.nr s.ro).1, go := s.go ++ (takeE s.t F.len s.nr s.ro).2.1.map (·.w.n) })).mp hL, I.asc, by dsimp only; omega, fun H _ hL => ?_, fun H e p he => absurd (hn2.symm.trans he) (by simp)⟩
    replace hL := (ll_queue (s := { s with gg := gg', ro := (takeE s.t F.len s.nr s.ro).1, go := s.go ++ (takeE s.t F.len s.nr s.ro).2.1.map (·.w.n) })).mpr hL
    fail "go"
    refine k_neSame .non .non ⟨by simp [PyData.plain], by simp [PyData.depth]⟩ ?_
    refine ⟨_, rfl, ?_⟩
    refine ite_f rfl ?_
    exact k _ _ ⟨takeS s s.t F.len s.nr gg', ⟨_, _, _, _, _, _, _, _, _, _, _, _, rfl⟩, li_take I (by omega) (by omega), hL⟩
  · obtain ⟨A, B, hAB, hc⟩ := takeE_mem he
    obtain ⟨e2, he2, hw⟩ : ∃ e2, (takeE s.t F.len s.nr s.rq).2.2 = some e2 ∧ e2.w = e.w := by
      rw [he] at w3
      exact Option.map_eq_some_iff.mp w3
    have asc : Asc (A ++ e :: B) := by
      have := (li_asco I).sublist (takeE_sub s.t F.len s.nr s.ro)
      rw [hAB] at this
      exact this
    have lk := row_at asc
    have hen : 1 ≤ e.w.n ∧ e.w.n ≤ s.c := by
      have h1 : e.w.n ∈ (takeE s.t F.len s.nr s.ro).1.map (·.w.n) := by rw [hAB]; simp
      have h2 := (takeE_sub s.t F.len s.nr s.ro).subset h1
      obtain ⟨x, hx, hxe⟩ := List.mem_map.mp h2
      have := li_rowo I hx
      omega
    obtain ⟨cn, hcn⟩ : ∃ cn : Nat, e.w.n = (cn : Int) + 1 := ⟨(e.w.n - 1).toNat, by omega⟩
    have hL2 : Led H ((e.a, .dK (dz nmR [.int e.w.r, .int e.w.t, optV e.w.c])) :: ((F.o, .dK (dz nmO [.ref F.rr, .ref gg', .int (s.nr + 1)])) :: (F.rr, .dK ((A ++ e :: B).map rowK)) :: (gg', .lst ((s.go ++ (takeE s.t F.len s.nr s.ro).2.1.map (·.w.n)).map V.int)) :: A.map robj) ++ (B.map robj ++ ((F.d, dD s.x s.y s.z) ::
        (F.q, .ins CQ F.dq (fz nmQ [.int F.len, .ref F.rd, .ref F.g, .int (s.c + 1), .int s.nr])) :: (F.rd, .dK (s.rq.map rowK)) :: (F.g, .lst (s.gq.map fun e => .ref e.a)) :: (F.dn, .lst (s.dn.map V.int)) :: (s.gq.map (wobj CW) ++ (s.rq.map (wobj CW) ++ L0))))) := by
      refine Led.front ?_
      rw [hAB] at hL
      unfold OL at hL
      simpa [robj] using hL
    clear hL
    have hL := hL2
    clear hL2
    fail "go"
    refine ⟨log_small (by omega) (by omega), _, _, rfl, rfl, by rw [hcn]; exact len_work (by omega), ?_⟩
    refine ⟨Nat.le_of_ble_eq_true rfl, ?_⟩
    intro p hp; generalize hH : upd H p _ = H; replace hL := Led.newH hL hp hH; clear hH hp
    have hL3 : Led H (OL F.o F.rr gg' (s.nr + 1) (takeE s.t F.len s.nr s.ro).1 (s.go ++ (takeE s.t F.len s.nr s.ro).2.1.map (·.w.n)) ++ ((F.d, dD s.x s.y s.z) ::
        (F.q, .ins CQ F.dq (fz nmQ [.int F.len, .ref F.rd, .ref F.g, .int (s.c + 1), .int s.nr])) :: (F.rd, .dK (s.rq.map rowK)) :: (F.g, .lst (s.gq.map fun e => .ref e.a)) :: (F.dn, .lst (s.dn.map V.int)) :: (s.gq.map (wobj CW) ++ (s.rq.map (wobj CW) ++ (L0 ++ [(p, .tup [.int e.w.n, optV e.w.c, bodyOf e.w.n])]))))) := by
      have h := hL.perm (List.perm_append_comm (l₁ := [(p, _)]))
      have h2 := Led.back (A := (F.o, _) :: (F.rr, _) :: (gg', _) :: A.map robj) (B := B.map robj ++ ((F.d, dD s.x s.y s.z) ::
        (F.q, .ins CQ F.dq (fz nmQ [.int F.len, .ref F.rd, .ref F.g, .int (s.c + 1), .int s.nr])) :: (F.rd, .dK (s.rq.map rowK)) :: (F.g, .lst (s.gq.map fun e => .ref e.a)) :: (F.dn, .lst (s.dn.map V.int)) :: (s.gq.map (wobj CW) ++ (s.rq.map (wobj CW) ++ (L0 ++ [(p, .tup [.int e.w.n, optV e.w.c, bodyOf e.w.n])]))))) (x := (e.a, _)) (by simpa [bodyOf] using h)
      rw [hAB]
      unfold OL
      simpa [robj] using h2
    clear hL
    have hL := (ll_own (s := { s with gg := gg', ro := (takeE s.t F.len s.nr s.ro).1, go := s.go ++ (takeE s.t F.len s.nr s.ro).2.1.map (·.w.n), nr := s.nr + 1 })).mpr hL3
    clear hL3
    dsimp only at hL
    fail "go"
    refine ⟨F.q, F.dq, F.rd, F.g, ⟨F.len, s.c + 1, s.nr, s.rq, s.gq⟩, s.t, _, rfl, (ll_queue (s := { s with gg := gg', ro := (takeE s.t F.len s.nr s.ro).1, go := s.go ++ (takeE s.t F.len s.nr s.ro).2.1.map (·.w.n), nr := s.nr + 1 })).mp hL, I.asc, by dsimp only; omega, fun H hn => absurd (hn.symm.trans he2) (by simp), fun H e3 p2 he3 hL => ?_⟩
    obtain rfl : e2 = e3 := Option.some.inj (he2.symm.trans he3)
    fail "go"
    have hT : H p = some (.tup [.int e.w.n, optV e.w.c, bodyOf e.w.n]) := hL.mem (by simp)
    refine k_neSame (d := .tuple [.int e.w.n, .int s.nr, .str (Str.ofString "work " ++ Str.ofString (toString e.w.n))]) (dp_tup (hL.at ⟨0, rfl⟩) ?_) (dp_tup hT ?_) ⟨by simp [PyData.plain, PyData.plainAll], by simp [PyData.depth, PyData.depthAll]⟩ ?_
    · rw [hw]
      exact .cons (.int _) (.cons (.int _) (.cons (.str _) .nil))
    · rw [hc]
      exact .cons (.int _) (.cons (.int _) (.cons (.str _) .nil))
    refine ⟨_, rfl, ?_⟩
    refine ite_f rfl ?_
    replace hL := (ll_queue (s := { s with gg := gg', ro := (takeE s.t F.len s.nr s.ro).1, go := s.go ++ (takeE s.t F.len s.nr s.ro).2.1.map (·.w.n), nr := s.nr + 1 })).mpr hL.tail
    have h4 : Led H (LL CW CQ F (takeS s s.t F.len (s.nr + 1) gg') (L0 ++ [(p, .tup [.int e.w.n, optV e.w.c, bodyOf e.w.n])])) := hL
    rw [ll_app] at h4
    exact k _ _ ⟨takeS s s.t F.len (s.nr + 1) gg', ⟨_, _, _, _, _, _, _, _, _, _, _, _, rfl⟩, li_take I (by omega) (by omega), h4.left⟩
end
end Sd


namespace Sd
open PySem L2
open C8 (Cal Met Mak pe_c pe_mk pe_mt pe_mt0 tCut)
set_option hygiene false
local macro_rules | `(tactic| fail "nd") => `(tactic| first | assumption | decide +kernel)
local macro_rules | `(tactic| fail "ix") => `(tactic| first | exact ⟨0, rfl⟩ | exact ⟨1, rfl⟩ | exact ⟨2, rfl⟩ | exact ⟨3, rfl⟩ | exact ⟨4, rfl⟩ | exact ⟨5, rfl⟩ | exact ⟨6, rfl⟩ | exact ⟨7, rfl⟩ | exact ⟨8, rfl⟩ | exact ⟨9, rfl⟩ | exact ⟨10, rfl⟩ | exact ⟨11, rfl⟩ | exact ⟨12, rfl⟩ | assumption)
local macro_rules | `(tactic| fail "up") => `(tactic| first | exact ⟨0, rfl, rfl⟩ | exact ⟨1, rfl, rfl⟩ | exact ⟨2, rfl, rfl⟩ | exact ⟨3, rfl, rfl⟩ | exact ⟨4, rfl, rfl⟩ | exact ⟨5, rfl, rfl⟩ | exact ⟨6, rfl, rfl⟩ | exact ⟨7, rfl, rfl⟩ | exact ⟨8, rfl, rfl⟩ | exact ⟨9, rfl, rfl⟩ | exact ⟨10, rfl, rfl⟩ | exact ⟨11, rfl, rfl⟩ | exact ⟨12, rfl, rfl⟩ | assumption)
local macro_rules | `(tactic| fail "lkF") => `(tactic| first | assumption | exact fz_at 0 (by fail "nd") rfl rfl | exact fz_at 1 (by fail "nd") rfl rfl | exact fz_at 2 (by fail "nd") rfl rfl | exact fz_at 3 (by fail "nd") rfl rfl | exact fz_at 4 (by fail "nd") rfl rfl | exact fz_at 5 (by fail "nd") rfl rfl | exact fz_at 6 (by fail "nd") rfl rfl | exact fz_at 7 (by fail "nd") rfl rfl)
local macro_rules | `(tactic| fail "lkD") => `(tactic| first | assumption | exact dz_at 0 (by fail "nd") rfl rfl | exact dz_at 1 (by fail "nd") rfl rfl | exact dz_at 2 (by fail "nd") rfl rfl | exact dz_at 3 (by fail "nd") rfl rfl | exact dz_at 4 (by fail "nd") rfl rfl)
local macro_rules | `(tactic| fail "ptF") => `(tactic| first | assumption | exact fz_put 0 (by fail "nd") rfl (Nat.le_of_ble_eq_true rfl) | exact fz_put 1 (by fail "nd") rfl (Nat.le_of_ble_eq_true rfl) | exact fz_put 2 (by fail "nd") rfl (Nat.le_of_ble_eq_true rfl) | exact fz_put 3 (by fail "nd") rfl (Nat.le_of_ble_eq_true rfl) | exact fz_put 4 (by fail "nd") rfl (Nat.le_of_ble_eq_true rfl) | exact fz_put 5 (by fail "nd") rfl (Nat.le_of_ble_eq_true rfl) | exact fz_put 6 (by fail "nd") rfl (Nat.le_of_ble_eq_true rfl) | exact fz_put 7 (by fail "nd") rfl (Nat.le_of_ble_eq_true rfl) | exact fz_new (by decide +kernel) rfl)
local macro_rules | `(tactic| fail "ptD") => `(tactic| first | assumption | exact dz_put 0 (by fail "nd") rfl (Nat.le_of_ble_eq_true rfl) | exact dz_put 1 (by fail "nd") rfl (Nat.le_of_ble_eq_true rfl) | exact dz_put 2 (by fail "nd") rfl (Nat.le_of_ble_eq_true rfl) | exact dz_put 3 (by fail "nd") rfl (Nat.le_of_ble_eq_true rfl) | exact dz_put 4 (by fail "nd") rfl (Nat.le_of_ble_eq_true rfl))
local macro_rules | `(tactic| fail "sz") => `(tactic| first | assumption | exact (Nat.le_of_ble_eq_true rfl) | omega | decide)
local macro_rules | `(tactic| fail "sd") => `(tactic| first | rfl | assumption | decide | omega | (dsimp only; first | decide | omega) | exact .inr ⟨by decide, by decide⟩ | exact .inl ⟨by decide, by decide⟩ | exact ⟨by omega, by omega⟩ | exact .inl ⟨by omega, by omega⟩ | exact .inr ⟨by omega, by omega⟩ | exact ⟨by omega, by omega, by omega⟩)
local macro_rules | `(tactic| fail "cl") => `(tactic| (clear hH; dsimp only [List.set, List.cons_append, List.nil_append, List.append] at hL))
local macro_rules | `(tactic| fail "gn") => `(tactic| (intro p hp; generalize hH : upd H p _ = H; replace hL := Led.newH hL hp hH; clear hH hp))
local macro_rules | `(tactic| fail "gup") => `(tactic| (generalize hH : upd H _ _ = H; replace hL := Led.upU hL (by fail "up") hH; fail "cl"))
local macro_rules | `(tactic| fail "gmk") => `(tactic| (intro x dx hx hd ne; generalize hH : upd (upd H dx _) x _ = H; replace hL := Led.made hL hx hd ne hH; clear hH hx hd ne))
local macro_rules | `(tactic| fail "v") => `(tactic| refine ⟨_, rfl, ?_⟩)
local macro_rules | `(tactic| fail "i2") => `(tactic| refine ⟨_, _, rfl, rfl, ?_⟩)
local macro_rules | `(tactic| fail "go1") => `(tactic| first
  | refine ⟨_, rfl, ?_⟩
  | refine ⟨_, _, rfl, rfl, ?_⟩
  | refine ⟨_, _, rfl, ?_⟩
  | refine iteT ?_
  | refine iteF ?_
  | refine k_fld hL (by fail "ix") (by assumption) (by assumption) (by fail "lkF") ?_
  | refine k_dgetS hL (by fail "ix") (by fail "lkD") ?_
  | refine k_dgetI hL (by fail "ix") (by assumption) ?_
  | refine k_ixL hL (by fail "ix") (by first | rfl | assumption) ?_
  | refine k_ixT hL (by fail "ix") (by first | rfl | assumption) ?_
  | refine k_tyL hL (by fail "ix") ?_
  | refine k_isd hL (by fail "ix") ?_
  | (refine And.intro (by fail "sz") ?_; fail "gn")
  | refine And.intro (by fail "sd") ?_
  | fail "gn"
  | refine k_meth hL (by fail "ix") (by first | assumption | exact fz_no (by decide +kernel)) ?_
  | refine k_gtup hL (by fail "ix") rfl ?_
  | (refine k_popI hL (by fail "ix") (by assumption) ?_; fail "gup")
  | (refine k_listD hL (by fail "ix") ?_; fail "gn")
  | (refine ⟨_, _, _, _, rfl, rfl, hL.at (by fail "ix"), rfl, ?_⟩; fail "gup")
  | (refine ⟨_, _, _, rfl, rfl, hL.at (by fail "ix"), (by fail "sz"), ?_⟩; fail "gup")
  | (refine ⟨_, _, _, _, rfl, hL.at (by fail "ix"), by assumption, by assumption, Nat.lt_of_le_of_lt fz_len (by decide), ?_⟩; generalize hH : upd H _ _ = H; replace hL := Led.upF hL (by fail "up") (by fail "ptF") hH; fail "cl")
  | (refine ⟨_, _, hL.at (by fail "ix"), Nat.lt_of_le_of_lt fz_len (by decide), ?_⟩; generalize hH : upd H _ _ = H; replace hL := Led.upF hL (by fail "up") (by fail "ptF") hH; fail "cl")
  | (refine k_dputS hL (by fail "ix") (Nat.lt_of_le_of_lt dz_len (by decide)) (by fail "ptD") (by fail "up") ?_; clear hL; intro H hL; dsimp only [List.set, List.cons_append, List.nil_append, List.append] at hL)
  | refine .inl ⟨_, rfl, ?_⟩
  | refine .inr ⟨_, rfl, ?_⟩)
local macro_rules | `(tactic| fail "go") => `(tactic| repeat fail "go1")

/-- the row e of ours ahead of all -/
theorem ll_row {H : Hp} {CW CQ : Addr} {F : Fx} {s : LS} {L0 : Lg} {A B : List We} {e : We} (hs : s.ro = A ++ e :: B) : Led H (LL CW CQ F s L0) ↔
    Led H ((e.a, .dK (dz nmR [.int e.w.r, .int e.w.t, optV e.w.c])) :: (F.d, dD s.x s.y s.z) :: (F.q, .ins CQ F.dq (fz nmQ [.int F.len, .ref F.rd, .ref F.g, .int (s.c + 1), .int s.nr])) :: (F.rd, .dK (s.rq.map rowK)) :: (F.g, .lst (s.gq.map fun e => .ref e.a)) ::
      (F.o, .dK (dz nmO [.ref F.rr, .ref s.gg, .int s.nr])) :: (F.rr, .dK ((A ++ e :: B).map rowK)) :: (s.gg, .lst (s.go.map V.int)) :: (F.dn, .lst (s.dn.map V.int)) :: (s.gq.map (wobj CW) ++ (s.rq.map (wobj CW) ++ (A.map robj ++ (B.map robj ++ L0))))) := by
  have p : List.Perm (LL CW CQ F s L0) ((e.a, .dK (dz nmR [.int e.w.r, .int e.w.t, optV e.w.c])) :: (F.d, dD s.x s.y s.z) :: (F.q, .ins CQ F.dq (fz nmQ [.int F.len, .ref F.rd, .ref F.g, .int (s.c + 1), .int s.nr])) :: (F.rd, .dK (s.rq.map rowK)) :: (F.g, .lst (s.gq.map fun e => .ref e.a)) ::
      (F.o, .dK (dz nmO [.ref F.rr, .ref s.gg, .int s.nr])) :: (F.rr, .dK ((A ++ e :: B).map rowK)) :: (s.gg, .lst (s.go.map V.int)) :: (F.dn, .lst (s.dn.map V.int)) :: (s.gq.map (wobj CW) ++ (s.rq.map (wobj CW) ++ (A.map robj ++ (B.map robj ++ L0))))) := by
    have h := List.perm_middle (a := robj e) (l₁ := [(F.d, dD s.x s.y s.z), (F.q, HO.ins CQ F.dq (fz nmQ [.int F.len, .ref F.rd, .ref F.g, .int (s.c + 1), .int s.nr])), (F.rd, .dK (s.rq.map rowK)), (F.g, .lst (s.gq.map fun e => .ref e.a)),
      (F.o, .dK (dz nmO [.ref F.rr, .ref s.gg, .int s.nr])), (F.rr, .dK ((A ++ e :: B).map rowK)), (s.gg, .lst (s.go.map V.int)), (F.dn, .lst (s.dn.map V.int))] ++ (s.gq.map (wobj CW) ++ (s.rq.map (wobj CW) ++ A.map robj))) (l₂ := B.map robj ++ L0)
    simpa [LL, objs, hs, robj] using h
  exact ⟨fun h => h.perm p, fun h => h.perm p.symm⟩
theorem asc_of {l m : List We} (w : l.map (·.w) = m.map (·.w)) (h : Asc l) : Asc m := by
  unfold Asc at h ⊢
  rw [← map_n w]; exact h
def tGood (CW CQ : Addr) : TS := fun D σ H => ∃ (F : Fx) (s : LS) (L0 : Lg) (n : Int) (rc : Option Int) (v9 v10 v11 v13 v15 v16 v17 v18 v19 v20 : Option V), σ = sg F s.t s.c v9 v10 v11 (some (.int n)) v13 (some (optV rc)) v15 v16 v17 v18 v19 v20 ∧ Asc s.ro ∧ Led H (LL CW CQ F s L0) ∧
  (∀ H', Led H' (LL CW CQ F s L0) → D.nx (sg F s.t s.c v9 v10 v11 (some (.int n)) v13 (some (optV rc)) (some (.bl (holdsW (s.ro.map (·.w)) n rc s.t))) v16 v17 v18 v19 v20) H')
def opE : Nat → Int → Int → Int → List We → List We
  | 0, n, t, _, l => dropE n t l
  | 1, n, t, _, l => setE n t (fun _ => none) l
  | _, n, t, len, l => setE n (t + len) (fun c => c) l
def wordOf : Nat → Str
  | 0 => "done"
  | 1 => "back"
  | _ => "longer"
def tTold (CW CQ : Addr) : TS := fun D σ H => ∃ (F : Fx) (s : LS) (L0 : Lg) (n : Int) (rc : Option Int) (wd : Nat) (v9 v10 v11 v13 v15 v17 v18 v19 v20 : Option V), σ = sg F s.t s.c v9 v10 v11 (some (.int n)) v13 (some (optV rc)) v15 (some (.str (wordOf wd))) v17 v18 v19 v20 ∧ Asc s.rq ∧ Led H (LL CW CQ F s L0) ∧
  (∀ H', Led H' (LL CW CQ F { s with rq := if holdsW (s.rq.map (·.w)) n rc s.t = true then opE wd n s.t F.len s.rq else s.rq } L0) → D.nx (sg F s.t s.c v9 v10 v11 (some (.int n)) v13 (some (optV rc)) v15 (some (.str (wordOf wd))) (some (.bl (holdsW (s.rq.map (·.w)) n rc s.t))) v18 v19 v20) H')
def tOwn (CW CQ : Addr) : TS := fun D σ H => ∃ (F : Fx) (s : LS) (L0 : Lg) (n : Int) (rc : Option Int) (wd : Nat) (gd : Bool) (v9 v10 v11 v13 v17 v18 v19 v20 : Option V), σ = sg F s.t s.c v9 v10 v11 (some (.int n)) v13 (some (optV rc)) (some (.bl gd)) (some (.str (wordOf wd))) v17 v18 v19 v20 ∧ Asc s.ro ∧ s.dn.length < 1000 ∧
  (gd = true → ∃ A e B, s.ro = A ++ e :: B ∧ e.w.n = n ∧ e.w.c = rc) ∧ Led H (LL CW CQ F s L0) ∧
  (∀ σ' H', Sh F s.t s.c σ' → Led H' (LL CW CQ F { s with ro := if gd = true then opE wd n s.t F.len s.ro else s.ro, dn := if gd = true ∧ wd = 0 then s.dn ++ [n] else s.dn } L0) → D.nx σ' H')
section
variable {P : Program} {w : World} {K : PySem.W.Frag} {mg : Str → Option Value} {base : Heap} {CW CQ : Addr} {f : Addr} {cdv : Value} {A : Around} {outer : List Env} {s0 : Shared} {H0 : Hp} {E : XK} {k0 : Nat}
theorem blk_good (hr : Room 8 (LX P w K mg base f cdv A outer s0 H0 E).A) : PS (LX P w K mg base f cdv A outer s0 H0 E) (nth blkHold 2) (tGood CW CQ) := by
  refine ps_imp (t := _) (ps_set (i := 15) scLaw.nd rfl (Or.inl rfl) (pe_and (pe_cmp (pc_din (hu_of hr) (pv 12) (pv 8))) (pe_and (pe_cmpR op_eq (pe_dget (hu_of hr) (pe_dget (hu_of hr) (pv 8) (pv 12) (fun _ _ => rfl)) pe_str (fun _ _ => rfl)) (pv 14) (nomark _)) (pe_and (pe_cmpR op_notN (pv 14) pe_non (nomark _)) (pe_one (pe_cmpR op_lt (pv 3) (pe_dget (hu_of hr) (pe_dget (hu_of hr) (pv 8) (pv 12) (fun _ _ => rfl)) pe_str (fun _ _ => rfl)) (nomark _))))))) ?_
  rintro D σ H ⟨F, s, L0, n, rc, v9, v10, v11, v13, v15, v16, v17, v18, v19, v20, rfl, asc, hL, k⟩
  rcases split_row (rows := s.ro) n with ⟨A, e, B, hro, rfl⟩ | hn
  · rw [hro] at asc k
    have lk := row_at asc
    rw [holds_at asc] at k
    have hL1 := (ll_row hro).mp hL
    replace k := fun H' h => k H' ((ll_row hro).mpr h)
    clear hL
    have hL := hL1
    fail "go"
    refine k_dinI hL (by fail "ix") ?_
    rw [lk]
    fail "go"
    refine And.intro (optV_scal _ _) ?_
    fail "go"
    rw [optV_eq]
    refine ite_d (fun h1 => ?_) (fun h1 => ?_)
    · fail "go"
      rw [optV_non]
      cases rc with
      | none =>
        fail "go"
        have k2 := k H hL
        simp only [h1, decide_true, Bool.true_and, Option.isSome_none, Bool.false_and] at k2
        exact k2
      | some rc =>
        fail "go"
        have k2 := k H hL
        simp only [h1, decide_true, Bool.true_and, Option.isSome_some] at k2
        exact k2
    · have k2 := k H hL
      simp only [h1, decide_false, Bool.false_and] at k2
      exact k2
  · rw [holds_no hn] at k
    have hL0 := hL
    unfold LL at hL
    fail "go"
    refine k_dinI hL (by fail "ix") ?_
    rw [row_no hn]
    fail "go"
    exact k H hL0
theorem blk_told (hr : Room 8 (LX P w K mg base f cdv A outer s0 H0 E).A) (c_WorkQueue_done : Met P w K mg base 2 CQ "done" (spDone CW CQ dropE) []) (c_WorkQueue_give_back : Met P w K mg base 2 CQ "give_back" (spUpd CW CQ (fun t _ => t) (fun _ => none)) [])
    (c_WorkQueue_longer : Met P w K mg base 2 CQ "longer" (spUpd CW CQ (fun t l => t + l) (fun c => c)) []) : PS (LX P w K mg base f cdv A outer s0 H0 E) (nth blkHold 5) (tTold CW CQ) := by
  refine ps_imp (t := _) (ps_set (i := 17) scLaw.nd rfl (Or.inl rfl) (pe_ifExp (pt_cmpR op_eq (pv 16) pe_str (nomark _)) (pe_mt c_WorkQueue_done hr (by decide) (pv 5) (pa_cons (pv 12) (pa_cons (pv 14) (pa_cons (pv 3) pa_nil)))) (pe_ifExp (pt_cmpR op_eq (pv 16) pe_str (nomark _)) (pe_mt c_WorkQueue_give_back hr (by decide) (pv 5) (pa_cons (pv 12) (pa_cons (pv 14) (pa_cons (pv 3) pa_nil)))) (pe_mt c_WorkQueue_longer hr (by decide) (pv 5) (pa_cons (pv 12) (pa_cons (pv 14) (pa_cons (pv 3) pa_nil))))))) ?_
  rintro D σ H ⟨F, s, L0, n, rc, wd, v9, v10, v11, v13, v15, v17, v18, v19, v20, rfl, asc, hL, k⟩
  have hL0 := hL
  unfold LL objs at hL
  have e0 : ∀ H' : Hp, holdsW (s.rq.map (·.w)) n rc s.t = false → Led H' (QL CW CQ F.q F.dq F.rd F.g ⟨F.len, s.c + 1, s.nr, s.rq, s.gq⟩ ++ ((F.d, dD s.x s.y s.z) :: (F.o, .dK (dz nmO [.ref F.rr, .ref s.gg, .int s.nr])) :: (F.rr, .dK (s.ro.map rowK)) :: (s.gg, .lst (s.go.map V.int)) :: (F.dn, .lst (s.dn.map V.int)) :: (s.ro.map robj ++ L0))) →
      D.nx (sg F s.t s.c v9 v10 v11 (some (.int n)) v13 (some (optV rc)) v15 (some (.str (wordOf wd))) (some (.bl false)) v18 v19 v20) H' := fun H' hf hl => by
    have := k H' (by rw [if_neg (by rw [hf]; decide)]; exact ll_queue.mpr hl)
    rw [hf] at this
    exact this
  have e1 : ∀ H' : Hp, holdsW (s.rq.map (·.w)) n rc s.t = true → Led H' (QL CW CQ F.q F.dq F.rd F.g ⟨F.len, s.c + 1, s.nr, opE wd n s.t F.len s.rq, s.gq⟩ ++ ((F.d, dD s.x s.y s.z) :: (F.o, .dK (dz nmO [.ref F.rr, .ref s.gg, .int s.nr])) :: (F.rr, .dK (s.ro.map rowK)) :: (s.gg, .lst (s.go.map V.int)) :: (F.dn, .lst (s.dn.map V.int)) :: (s.ro.map robj ++ L0))) →
      D.nx (sg F s.t s.c v9 v10 v11 (some (.int n)) v13 (some (optV rc)) v15 (some (.str (wordOf wd))) (some (.bl true)) v18 v19 v20) H' := fun H' hf hl => by
    have := k H' (by rw [if_pos hf]; exact (ll_queue (s := { s with rq := opE wd n s.t F.len s.rq })).mpr hl)
    rw [hf] at this
    exact this
  clear k
  rcases wd with _ | _ | wd
  · fail "go"
    refine ⟨F.q, F.dq, F.rd, F.g, ⟨F.len, s.c + 1, s.nr, s.rq, s.gq⟩, n, rc, s.t, _, rfl, ll_queue.mp hL, asc, fun H h hL => e0 H h hL, fun H h hL => e1 H h hL⟩
  · fail "go"
    refine ⟨F.q, F.dq, F.rd, F.g, ⟨F.len, s.c + 1, s.nr, s.rq, s.gq⟩, n, rc, s.t, _, rfl, ll_queue.mp hL, asc, fun H h hL => e0 H h hL, fun H h hL => e1 H h hL⟩
  · fail "go"
    refine ⟨F.q, F.dq, F.rd, F.g, ⟨F.len, s.c + 1, s.nr, s.rq, s.gq⟩, n, rc, s.t, _, rfl, ll_queue.mp hL, asc, fun H h hL => e0 H h hL, fun H h hL => e1 H h hL⟩
theorem blk_own (hr : Room 8 (LX P w K mg base f cdv A outer s0 H0 E).A) (T : TxtV mg) : PS (LX P w K mg base f cdv A outer s0 H0 E) (nth blkHold 7) (tOwn CW CQ) := by
  refine ps_imp (t := _) (ps_if (PW.pt (pw_and (pt_val (pv 15)) (pw_and1 (pt_cmpR op_eq (pv 16) pe_str (nomark _)))))
  (pss_cons (ps_expr (pe_dpop1 (pv 8) (pv 12) ⟨rfl, rfl, rfl, rfl⟩))
  (pss_one (ps_expr (pe_bm PySem.F.plainAttrs_list PySem.F.slot_list_append PySem.F.type_list_append mt_append (pv 4) (pa_cons (pv 12) pa_nil)))))
  (pss_one (ps_if (pt_val (pv 15))
  (pss_cons (ps_set (i := 18) scLaw.nd rfl (Or.inl rfl) (pe_dget (hu_of hr) (pv 8) (pv 12) (fun _ _ => rfl)))
  (pss_one (ps_asg (pe_tup (pa_cons (pe_op op_add (pv 3) (pe_op op_mul (pv 2) (pe_callTy call_int1 (by rfl) T.int (by decide +kernel) (pa_cons (pe_cmpR op_eq (pv 16) pe_str (nomark _)) pa_nil)))) (pa_cons (pe_ifExp (pt_cmpR op_eq (pv 16) pe_str (nomark _)) (pv 14) pe_non) pa_nil))) (pg_tup (by rfl) (pgs_cons (pg_sub (pv 18) pe_str (set_dict (hu_of hr))) (pgs_cons (pg_sub (pv 18) pe_str (set_dict (hu_of hr))) pgs_nil))))))
  pss_nil))) ?_
  rintro D σ H ⟨F, s, L0, n, rc, wd, gd, v9, v10, v11, v13, v17, v18, v19, v20, rfl, asc, hz, hg, hL, k⟩
  cases gd with
  | false =>
    fail "go"
    exact k _ _ ⟨_, _, _, _, _, _, _, _, _, _, _, _, rfl⟩ hL
  | true =>
    obtain ⟨A, e, B, hro, rfl, rfl⟩ := hg rfl
    have hzl : (s.dn.map V.int).length < sizeLine := by
      rw [List.length_map]
      exact Nat.lt_of_lt_of_le hz (by decide)
    rw [hro] at asc k
    have lk := row_at asc
    have ld := row_drop asc
    replace hL := (ll_row hro).mp hL
    rcases wd with _ | _ | wd
    · fail "go"
      rw [ld] at hL
      refine k _ _ ⟨_, _, _, _, _, _, _, _, _, _, _, _, rfl⟩ ?_
      have e1 : opE 0 e.w.n s.t F.len (A ++ e :: B) = A ++ B := drop_at (t := s.t) asc
      rw [e1, if_pos rfl, if_pos ⟨rfl, rfl⟩]
      have h := hL.tail
      simpa [LL, objs] using h
    · fail "go"
      refine k _ _ ⟨_, _, _, _, _, _, _, _, _, _, _, _, rfl⟩ ?_
      have e1 : opE (0 + 1) e.w.n s.t F.len (A ++ e :: B) = A ++ ({ e with w := { e.w with r := s.t, c := none } } : We) :: B := set_at (r := s.t) (c := fun _ => none) asc
      rw [e1, if_pos rfl, if_neg (fun h => nomatch h.2)]
      rw [if_neg (by decide +kernel), Int.mul_zero, Int.add_zero] at hL
      have h := hL.tail
      refine (ll_row (s := { s with ro := A ++ ({ e with w := { e.w with r := s.t, c := none } } : We) :: B }) (A := A) (B := B) (e := { e with w := { e.w with r := s.t, c := none } }) rfl).mpr ?_
      simpa [rowK, optV] using h
    · fail "go"
      refine k _ _ ⟨_, _, _, _, _, _, _, _, _, _, _, _, rfl⟩ ?_
      have e1 : opE (wd + 1 + 1) e.w.n s.t F.len (A ++ e :: B) = A ++ ({ e with w := { e.w with r := s.t + F.len, c := e.w.c } } : We) :: B := set_at (r := s.t + F.len) (c := fun c => c) asc
      rw [e1, if_pos rfl, if_neg (fun h => nomatch h.2)]
      rw [if_pos (show decide (V.str (wordOf (wd + 1 + 1)) = V.str (Str.ofString "longer")) = true from decide_eq_true rfl), Int.mul_one] at hL
      have h := hL.tail
      refine (ll_row (s := { s with ro := A ++ ({ e with w := { e.w with r := s.t + F.len, c := e.w.c } } : We) :: B }) (A := A) (B := B) (e := { e with w := { e.w with r := s.t + F.len, c := e.w.c } }) rfl).mpr ?_
      simpa [rowK] using h
end
end Sd


namespace Sd
open PySem L2
open C8 (Cal Met Mak pe_c pe_mk pe_mt pe_mt0 tCut)
set_option hygiene false
local macro_rules | `(tactic| fail "nd") => `(tactic| first | assumption | decide +kernel)
local macro_rules | `(tactic| fail "ix") => `(tactic| first | exact ⟨0, rfl⟩ | exact ⟨1, rfl⟩ | exact ⟨2, rfl⟩ | exact ⟨3, rfl⟩ | exact ⟨4, rfl⟩ | exact ⟨5, rfl⟩ | exact ⟨6, rfl⟩ | exact ⟨7, rfl⟩ | exact ⟨8, rfl⟩ | exact ⟨9, rfl⟩ | exact ⟨10, rfl⟩ | exact ⟨11, rfl⟩ | exact ⟨12, rfl⟩ | assumption)
local macro_rules | `(tactic| fail "up") => `(tactic| first | exact ⟨0, rfl, rfl⟩ | exact ⟨1, rfl, rfl⟩ | exact ⟨2, rfl, rfl⟩ | exact ⟨3, rfl, rfl⟩ | exact ⟨4, rfl, rfl⟩ | exact ⟨5, rfl, rfl⟩ | exact ⟨6, rfl, rfl⟩ | exact ⟨7, rfl, rfl⟩ | exact ⟨8, rfl, rfl⟩ | exact ⟨9, rfl, rfl⟩ | exact ⟨10, rfl, rfl⟩ | exact ⟨11, rfl, rfl⟩ | exact ⟨12, rfl, rfl⟩ | assumption)
local macro_rules | `(tactic| fail "lkF") => `(tactic| first | assumption | exact fz_at 0 (by fail "nd") rfl rfl | exact fz_at 1 (by fail "nd") rfl rfl | exact fz_at 2 (by fail "nd") rfl rfl | exact fz_at 3 (by fail "nd") rfl rfl | exact fz_at 4 (by fail "nd") rfl rfl | exact fz_at 5 (by fail "nd") rfl rfl | exact fz_at 6 (by fail "nd") rfl rfl | exact fz_at 7 (by fail "nd") rfl rfl)
local macro_rules | `(tactic| fail "lkD") => `(tactic| first | assumption | exact dz_at 0 (by fail "nd") rfl rfl | exact dz_at 1 (by fail "nd") rfl rfl | exact dz_at 2 (by fail "nd") rfl rfl | exact dz_at 3 (by fail "nd") rfl rfl | exact dz_at 4 (by fail "nd") rfl rfl)
local macro_rules | `(tactic| fail "ptF") => `(tactic| first | assumption | exact fz_put 0 (by fail "nd") rfl (Nat.le_of_ble_eq_true rfl) | exact fz_put 1 (by fail "nd") rfl (Nat.le_of_ble_eq_true rfl) | exact fz_put 2 (by fail "nd") rfl (Nat.le_of_ble_eq_true rfl) | exact fz_put 3 (by fail "nd") rfl (Nat.le_of_ble_eq_true rfl) | exact fz_put 4 (by fail "nd") rfl (Nat.le_of_ble_eq_true rfl) | exact fz_put 5 (by fail "nd") rfl (Nat.le_of_ble_eq_true rfl) | exact fz_put 6 (by fail "nd") rfl (Nat.le_of_ble_eq_true rfl) | exact fz_put 7 (by fail "nd") rfl (Nat.le_of_ble_eq_true rfl) | exact fz_new (by decide +kernel) rfl)
local macro_rules | `(tactic| fail "ptD") => `(tactic| first | assumption | exact dz_put 0 (by fail "nd") rfl (Nat.le_of_ble_eq_true rfl) | exact dz_put 1 (by fail "nd") rfl (Nat.le_of_ble_eq_true rfl) | exact dz_put 2 (by fail "nd") rfl (Nat.le_of_ble_eq_true rfl) | exact dz_put 3 (by fail "nd") rfl (Nat.le_of_ble_eq_true rfl) | exact dz_put 4 (by fail "nd") rfl (Nat.le_of_ble_eq_true rfl))
local macro_rules | `(tactic| fail "sz") => `(tactic| first | assumption | exact (Nat.le_of_ble_eq_true rfl) | omega | decide)
local macro_rules | `(tactic| fail "sd") => `(tactic| first | rfl | assumption | decide | omega | (dsimp only; first | decide | omega) | exact .inr ⟨by decide, by decide⟩ | exact .inl ⟨by decide, by decide⟩ | exact ⟨by omega, by omega⟩ | exact .inl ⟨by omega, by omega⟩ | exact .inr ⟨by omega, by omega⟩ | exact ⟨by omega, by omega, by omega⟩)
local macro_rules | `(tactic| fail "cl") => `(tactic| (clear hH; dsimp only [List.set, List.cons_append, List.nil_append, List.append] at hL))
local macro_rules | `(tactic| fail "gn") => `(tactic| (intro p hp; generalize hH : upd H p _ = H; replace hL := Led.newH hL hp hH; clear hH hp))
local macro_rules | `(tactic| fail "gup") => `(tactic| (generalize hH : upd H _ _ = H; replace hL := Led.upU hL (by fail "up") hH; fail "cl"))
local macro_rules | `(tactic| fail "gmk") => `(tactic| (intro x dx hx hd ne; generalize hH : upd (upd H dx _) x _ = H; replace hL := Led.made hL hx hd ne hH; clear hH hx hd ne))
local macro_rules | `(tactic| fail "v") => `(tactic| refine ⟨_, rfl, ?_⟩)
local macro_rules | `(tactic| fail "i2") => `(tactic| refine ⟨_, _, rfl, rfl, ?_⟩)
local macro_rules | `(tactic| fail "go1") => `(tactic| first
  | refine ⟨_, rfl, ?_⟩
  | refine ⟨_, _, rfl, rfl, ?_⟩
  | refine ⟨_, _, rfl, ?_⟩
  | refine iteT ?_
  | refine iteF ?_
  | refine k_fld hL (by fail "ix") (by assumption) (by assumption) (by fail "lkF") ?_
  | refine k_dgetS hL (by fail "ix") (by fail "lkD") ?_
  | refine k_dgetI hL (by fail "ix") (by assumption) ?_
  | refine k_ixL hL (by fail "ix") (by first | rfl | assumption) ?_
  | refine k_ixT hL (by fail "ix") (by first | rfl | assumption) ?_
  | refine k_tyL hL (by fail "ix") ?_
  | refine k_isd hL (by fail "ix") ?_
  | (refine And.intro (by fail "sz") ?_; fail "gn")
  | refine And.intro (by fail "sd") ?_
  | fail "gn"
  | refine k_meth hL (by fail "ix") (by first | assumption | exact fz_no (by decide +kernel)) ?_
  | refine k_gtup hL (by fail "ix") rfl ?_
  | (refine k_popI hL (by fail "ix") (by assumption) ?_; fail "gup")
  | (refine k_listD hL (by fail "ix") ?_; fail "gn")
  | (refine ⟨_, _, _, _, rfl, rfl, hL.at (by fail "ix"), rfl, ?_⟩; fail "gup")
  | (refine ⟨_, _, _, rfl, rfl, hL.at (by fail "ix"), (by fail "sz"), ?_⟩; fail "gup")
  | (refine ⟨_, _, _, _, rfl, hL.at (by fail "ix"), by assumption, by assumption, Nat.lt_of_le_of_lt fz_len (by decide), ?_⟩; generalize hH : upd H _ _ = H; replace hL := Led.upF hL (by fail "up") (by fail "ptF") hH; fail "cl")
  | (refine ⟨_, _, hL.at (by fail "ix"), Nat.lt_of_le_of_lt fz_len (by decide), ?_⟩; generalize hH : upd H _ _ = H; replace hL := Led.upF hL (by fail "up") (by fail "ptF") hH; fail "cl")
  | (refine k_dputS hL (by fail "ix") (Nat.lt_of_le_of_lt dz_len (by decide)) (by fail "ptD") (by fail "up") ?_; clear hL; intro H hL; dsimp only [List.set, List.cons_append, List.nil_append, List.append] at hL)
  | refine .inl ⟨_, rfl, ?_⟩
  | refine .inr ⟨_, rfl, ?_⟩)
local macro_rules | `(tactic| fail "go") => `(tactic| repeat fail "go1")

theorem setE_w {n r : Int} {c : Option Int → Option Int} {l : List We} : (setE n r c l).map (·.w) = (l.map (·.w)).map fun w => if w.n = n then { w with r := r, c := c w.c } else w := by
  unfold setE
  rw [List.map_map, List.map_map]
  refine List.map_congr_left fun e _ => ?_
  by_cases h : e.w.n = n <;> simp [h]
theorem setE_n {n r : Int} {c : Option Int → Option Int} {l : List We} : (setE n r c l).map (·.w.n) = l.map (·.w.n) := by
  unfold setE
  rw [List.map_map]
  refine List.map_congr_left fun e _ => ?_
  by_cases h : e.w.n = n <;> simp [h]
theorem dropE_w {n t : Int} {l : List We} : (dropE n t l).map (·.w) = (l.map (·.w)).filter fun w => decide (w.n ≠ n) := by
  unfold dropE
  rw [List.filter_map]
  rfl
theorem opE_1 {n t len : Int} {l : List We} : opE (0 + 1) n t len l = setE n t (fun _ => none) l := rfl
theorem opE_2 {wd : Nat} {n t len : Int} {l : List We} : opE (wd + 1 + 1) n t len l = setE n (t + len) (fun c => c) l := rfl
theorem opE_w (wd : Nat) (n t len : Int) {l m : List We} (h : l.map (·.w) = m.map (·.w)) : (opE wd n t len l).map (·.w) = (opE wd n t len m).map (·.w) := by
  rcases wd with _ | _ | wd
  · show (dropE n t l).map _ = (dropE n t m).map _
    rw [dropE_w, dropE_w, h]
  · rw [opE_1, opE_1, setE_w, setE_w, h]
  · rw [opE_2, opE_2, setE_w, setE_w, h]
theorem opE_n (wd : Nat) (n t len : Int) (l : List We) : (opE (wd + 1) n t len l).map (·.w.n) = l.map (·.w.n) := by
  rcases wd with _ | wd
  · rw [opE_1, setE_n]
  · rw [opE_2, setE_n]
theorem holds_split2 {rows : List We} {n : Int} {rc : Option Int} {t : Int} (asc : Asc rows) (h : holdsW (rows.map (·.w)) n rc t = true) : ∃ A e B, rows = A ++ e :: B ∧ e.w.n = n ∧ e.w.c = rc := by
  obtain ⟨A, e, B, rfl, rfl⟩ := holds_split h
  rw [holds_at asc] at h
  simp at h
  exact ⟨A, e, B, rfl, rfl, h.1⟩
theorem li_mono {i : Nat} {s : LS} (I : LI i s) {x y z t : Int} : LI (i + 1) { s with x := x, y := y, z := z, t := t } := ⟨I.w, I.g, I.asc, I.pm, Nat.le_succ_of_le I.c, I.n1, by have := I.n2; dsimp only; omega⟩
theorem li_same {i : Nat} {s : LS} (I : LI i s) {x y z t : Int} : LI i { s with x := x, y := y, z := z, t := t } := ⟨I.w, I.g, I.asc, I.pm, I.c, I.n1, I.n2⟩
def holdS (s : LS) (len n : Int) (wd : Nat) (gd : Bool) : LS := { s with rq := if gd = true then opE wd n s.t len s.rq else s.rq, ro := if gd = true then opE wd n s.t len s.ro else s.ro, dn := if gd = true ∧ wd = 0 then s.dn ++ [n] else s.dn }
theorem li_hold {i : Nat} {s : LS} (I : LI i s) {len n : Int} {wd : Nat} {gd : Bool} (h : gd = true → ∃ A e B, s.rq = A ++ e :: B ∧ e.w.n = n) : LI (i + 1) (holdS s len n wd gd) := by
  unfold holdS
  cases gd with
  | false =>
    simp only [Bool.false_eq_true, if_false, false_and]
    exact li_mono (x := s.x) (y := s.y) (z := s.z) (t := s.t) I
  | true =>
    obtain ⟨A, e, B, hrq, rfl⟩ := h rfl
    simp only [if_true, true_and]
    rcases wd with _ | wd
    · have asc := I.asc
      rw [hrq] at asc
      have e1 : opE 0 e.w.n s.t len s.rq = A ++ B := by rw [hrq]; exact drop_at (t := s.t) asc
      refine ⟨by dsimp only; exact opE_w _ _ _ _ I.w, I.g, ?_, ?_, Nat.le_succ_of_le I.c, I.n1, by have := I.n2; dsimp only; omega⟩
      · rw [e1]
        unfold Asc at asc ⊢
        rw [List.map_append, List.map_cons] at asc
        rw [List.map_append]
        exact asc.sublist ((List.sublist_cons_self _ _).append_left _)
      · dsimp only
        rw [e1, if_pos rfl]
        have h := I.pm
        rw [hrq] at h
        refine List.Perm.trans ?_ h
        simp only [List.map_append, List.map_cons, List.append_assoc, List.cons_append]
        refine List.Perm.append_left _ ?_
        have h2 : ((B.map (·.w.n) ++ (s.go ++ s.dn)) ++ [e.w.n]).Perm ([e.w.n] ++ (B.map (·.w.n) ++ (s.go ++ s.dn))) := List.perm_append_comm
        simpa using h2
    · refine ⟨by dsimp only; exact opE_w _ _ _ _ I.w, I.g, ?_, ?_, Nat.le_succ_of_le I.c, I.n1, by have := I.n2; dsimp only; omega⟩
      · have asc := I.asc
        unfold Asc at asc ⊢
        rw [opE_n]; exact asc
      · dsimp only
        rw [opE_n, if_neg (by simp)]
        exact I.pm
def tHold (CW CQ : Addr) : TS := fun D σ H => ∃ (F : Fx) (L0 : Lg) (i : Nat) (s : LS) (so : Int) (v9 v11 v12 v13 v14 v15 v16 v17 v18 v19 v20 : Option V), i < 81 ∧ σ = sg F s.t s.c v9 (some (.int so)) v11 v12 v13 v14 v15 v16 v17 v18 v19 v20 ∧ 6 ≤ so ∧ so < 10 ∧ LI i s ∧ Led H (LL CW CQ F s L0) ∧
  ∀ σ' H', Okk CW CQ F L0 (i + 1) σ' H' → D.nx σ' H'
section
variable {P : Program} {w : World} {K : PySem.W.Frag} {mg : Str → Option Value} {base : Heap} {CW CQ : Addr} {f : Addr} {cdv : Value} {A : Around} {outer : List Env} {s0 : Shared} {H0 : Hp} {E : XK} {k0 : Nat}
theorem blk_hold (hr : Room 8 (LX P w K mg base f cdv A outer s0 H0 E).A) (T : TxtV mg) (c__law_roll : Cal P w K mg base 1 "_law_roll" spRoll []) (c_WorkQueue_holds : Met P w K mg base 1 CQ "holds" (spHolds CW CQ) [])
    (bg : PS (LX P w K mg base f cdv A outer s0 H0 E) (nth blkHold 2) (tGood CW CQ)) (bt : PS (LX P w K mg base f cdv A outer s0 H0 E) (nth blkHold 5) (tTold CW CQ)) (bo : PS (LX P w K mg base f cdv A outer s0 H0 E) (nth blkHold 7) (tOwn CW CQ)) :
    PSs (LX P w K mg base f cdv A outer s0 H0 E) blkHold (tHold CW CQ) := by
  refine pss_imp (t := _) (pss_cons (ps_par (i := 12) (j := 14) (by rfl) scLaw.nd rfl rfl (by decide) rfl rfl (pa_cons (pe_op op_add pe_int (pe_c c__law_roll hr (by decide) (by rfl) (pa_cons (pv 1) (pa_cons (pe_callB (call_max2 rfl) (by rfl) T.max (by decide +kernel) (pa_cons pe_int (pa_cons (pv 7) pa_nil))) pa_nil)))) (pa_cons (pe_op op_add pe_int (pe_c c__law_roll hr (by decide) (by rfl) (pa_cons (pv 1) (pa_cons (pe_dget (hu_of hr) (pv 6) pe_str (fun _ _ => rfl)) pa_nil)))) pa_nil)) (by rfl))
  (C8.pss_cut (ps_if (PW.pt (pw_and (pt_cmp (pc_din (hu_of hr) (pv 12) (pv 8))) (pw_and1 (pt_cmpR op_gt (pe_c c__law_roll hr (by decide) (by rfl) (pa_cons (pv 1) (pa_cons pe_int pa_nil))) pe_int (nomark _)))))
  (pss_one (ps_set (i := 14) scLaw.nd rfl (Or.inl rfl) (pe_dget (hu_of hr) (pe_dget (hu_of hr) (pv 8) (pv 12) (fun _ _ => rfl)) pe_str (fun _ _ => rfl))))
  pss_nil)
  (pss_cons bg
  (pss_cons (ps_if (pt_cmpR op_ne (pe_mt c_WorkQueue_holds hr (by decide) (pv 5) (pa_cons (pv 12) (pa_cons (pv 14) (pa_cons (pv 3) pa_nil)))) (pv 15) (nomark _))
  (pss_one (ps_ret pe_bl))
  pss_nil)
  (pss_cons (ps_set (i := 16) scLaw.nd rfl (Or.inl rfl) (pe_ix ix_list (pe_lst (pa_cons pe_str (pa_cons pe_str (pa_cons pe_str (pa_cons pe_str pa_nil))))) (pe_op op_sub (pv 10) pe_int) (fun _ _ => rfl)))
  (pss_cons bt
  (pss_cons (ps_if (pt_cmpR op_ne (pv 17) (pv 15) (nomark _))
  (pss_one (ps_ret pe_bl))
  pss_nil)
  (pss_one bo)))))))) ?_
  rintro D σ H ⟨F, L0, i, s, so, v9, v11, v12, v13, v14, v15, v16, v17, v18, v19, v20, hi, rfl, hs1, hs2, I, hL, k⟩
  have hln := li_len I
  have hlo : s.rq.length = s.ro.length := by have := congrArg List.length I.w; simpa using this
  have hci := I.c
  have hn1 := I.n1
  have hn2 := I.n2
  have asco := li_asco I
  unfold LL at hL
  fail "go"
  refine ⟨F.d, s.x, s.y, s.z, _, _, rfl, hL, by split <;> omega, by split <;> omega, fun r x y z H hr0 hr1 hL => ?_⟩
  fail "go"
  refine ⟨F.d, x, y, z, _, _, rfl, hL, by omega, by omega, fun r2 x y z H hr20 hr21 hL => ?_⟩
  fail "go"
  refine ⟨fun σ H => Hold (∃ (s' : LS) (rc : Option Int), σ = sg F s'.t s'.c v9 (some (.int so)) v11 (some (.int (1 + r))) v13 (some (optV rc)) v15 v16 v17 v18 v19 v20 ∧ LI i s' ∧ Led H (LL CW CQ F s' L0)), ?_, ?_⟩
  · fail "go"
    refine k_dinI hL (by fail "ix") ?_
    rcases split_row (rows := s.ro) (1 + r) with ⟨A, e, B, hro, hn⟩ | hn
    · have asc := li_asco I
      rw [hro] at asc
      have lk := row_at asc
      rw [hn] at lk
      rw [show valV (s.ro.map rowK) (Sum.inl (1 + r)) = some (.ref e.a) by rw [hro]; exact lk]
      fail "go"
      refine ⟨F.d, x, y, z, _, _, rfl, hL, by omega, by omega, fun r3 x y z H hr30 hr31 hL => ?_⟩
      fail "go"
      refine ite_d (fun h1 => ?_) (fun h1 => ?_)
      · replace hL := (ll_row (s := { s with x := x, y := y, z := z }) hro).mp hL
        fail "go"
        refine .mk ⟨{ s with x := x, y := y, z := z }, e.w.c, rfl, li_same (t := s.t) I, (ll_row (s := { s with x := x, y := y, z := z }) hro).mpr hL⟩
      · fail "go"
        exact .mk ⟨{ s with x := x, y := y, z := z }, some (1 + r2), rfl, li_same (t := s.t) I, hL⟩
    · rw [row_no hn]
      fail "go"
      exact .mk ⟨{ s with x := x, y := y, z := z }, some (1 + r2), rfl, li_same (t := s.t) I, hL⟩
  · intro σ H h
    clear hn1 hn2 hlo hln hci asco I hL
    obtain ⟨s, rc, rfl, I, hL⟩ := h.out
    clear h
    have asco := li_asco I
    have hln := li_len I
    have hci := I.c
    refine ⟨F, s, L0, 1 + r, rc, _, _, _, _, _, _, _, _, _, _, rfl, asco, hL, fun H hL => ?_⟩
    unfold LL objs at hL
    fail "go"
    refine ⟨F.q, F.dq, F.rd, F.g, ⟨F.len, s.c + 1, s.nr, s.rq, s.gq⟩, 1 + r, rc, s.t, _, rfl, ll_queue.mp hL, I.asc, fun H hL => ?_⟩
    replace hL := ll_queue.mpr hL
    fail "go"
    have hq : holdsW (s.rq.map (·.w)) (1 + r) rc s.t = holdsW (s.ro.map (·.w)) (1 + r) rc s.t := by rw [I.w]
    refine ite_f (by simp [I.w]) ?_
    obtain ⟨wd, hwd⟩ : ∃ wd, atI [V.str (Str.ofString "done"), V.str (Str.ofString "back"), V.str (Str.ofString "longer"), V.str (Str.ofString "done")] (so - 6) = some (.str (wordOf wd)) := by
      rcases (by omega : so = 6 ∨ so = 7 ∨ so = 8 ∨ so = 9) with rfl | rfl | rfl | rfl
      · exact ⟨0, rfl⟩
      · exact ⟨1, rfl⟩
      · exact ⟨2, rfl⟩
      · exact ⟨0, rfl⟩
    fail "go"
    refine ⟨F, s, L0, 1 + r, rc, wd, _, _, _, _, _, _, _, _, _, rfl, I.asc, hL.tail, fun H hL => ?_⟩
    rw [hq] at hL ⊢
    fail "go"
    refine ite_f (by simp) ?_
    refine ⟨F, { s with rq := if holdsW (s.ro.map (·.w)) (1 + r) rc s.t = true then opE wd (1 + r) s.t F.len s.rq else s.rq }, L0, 1 + r, rc, wd, holdsW (s.ro.map (·.w)) (1 + r) rc s.t, _, _, _, _, _, _, _, _, rfl, asco, by dsimp only; omega, fun h => holds_split2 asco h, hL, fun σ' H' hsh hL => ?_⟩
    exact k _ _ ⟨holdS s F.len (1 + r) wd (holdsW (s.ro.map (·.w)) (1 + r) rc s.t), hsh, li_hold I fun h => by
      obtain ⟨A, e, B, h1, h2, _⟩ := holds_split2 I.asc (hq.trans h)
      exact ⟨A, e, B, h1, h2⟩, hL⟩
end
end Sd


namespace Sd
open PySem L2
open C8 (Cal Met Mak pe_c pe_mk pe_mt pe_mt0 tCut)
set_option hygiene false
local macro_rules | `(tactic| fail "nd") => `(tactic| first | assumption | decide +kernel)
local macro_rules | `(tactic| fail "ix") => `(tactic| first | exact ⟨0, rfl⟩ | exact ⟨1, rfl⟩ | exact ⟨2, rfl⟩ | exact ⟨3, rfl⟩ | exact ⟨4, rfl⟩ | exact ⟨5, rfl⟩ | exact ⟨6, rfl⟩ | exact ⟨7, rfl⟩ | exact ⟨8, rfl⟩ | exact ⟨9, rfl⟩ | exact ⟨10, rfl⟩ | exact ⟨11, rfl⟩ | exact ⟨12, rfl⟩ | assumption)
local macro_rules | `(tactic| fail "up") => `(tactic| first | exact ⟨0, rfl, rfl⟩ | exact ⟨1, rfl, rfl⟩ | exact ⟨2, rfl, rfl⟩ | exact ⟨3, rfl, rfl⟩ | exact ⟨4, rfl, rfl⟩ | exact ⟨5, rfl, rfl⟩ | exact ⟨6, rfl, rfl⟩ | exact ⟨7, rfl, rfl⟩ | exact ⟨8, rfl, rfl⟩ | exact ⟨9, rfl, rfl⟩ | exact ⟨10, rfl, rfl⟩ | exact ⟨11, rfl, rfl⟩ | exact ⟨12, rfl, rfl⟩ | assumption)
local macro_rules | `(tactic| fail "lkF") => `(tactic| first | assumption | exact fz_at 0 (by fail "nd") rfl rfl | exact fz_at 1 (by fail "nd") rfl rfl | exact fz_at 2 (by fail "nd") rfl rfl | exact fz_at 3 (by fail "nd") rfl rfl | exact fz_at 4 (by fail "nd") rfl rfl | exact fz_at 5 (by fail "nd") rfl rfl | exact fz_at 6 (by fail "nd") rfl rfl | exact fz_at 7 (by fail "nd") rfl rfl)
local macro_rules | `(tactic| fail "lkD") => `(tactic| first | assumption | exact dz_at 0 (by fail "nd") rfl rfl | exact dz_at 1 (by fail "nd") rfl rfl | exact dz_at 2 (by fail "nd") rfl rfl | exact dz_at 3 (by fail "nd") rfl rfl | exact dz_at 4 (by fail "nd") rfl rfl)
local macro_rules | `(tactic| fail "ptF") => `(tactic| first | assumption | exact fz_put 0 (by fail "nd") rfl (Nat.le_of_ble_eq_true rfl) | exact fz_put 1 (by fail "nd") rfl (Nat.le_of_ble_eq_true rfl) | exact fz_put 2 (by fail "nd") rfl (Nat.le_of_ble_eq_true rfl) | exact fz_put 3 (by fail "nd") rfl (Nat.le_of_ble_eq_true rfl) | exact fz_put 4 (by fail "nd") rfl (Nat.le_of_ble_eq_true rfl) | exact fz_put 5 (by fail "nd") rfl (Nat.le_of_ble_eq_true rfl) | exact fz_put 6 (by fail "nd") rfl (Nat.le_of_ble_eq_true rfl) | exact fz_put 7 (by fail "nd") rfl (Nat.le_of_ble_eq_true rfl) | exact fz_new (by decide +kernel) rfl)
local macro_rules | `(tactic| fail "ptD") => `(tactic| first | assumption | exact dz_put 0 (by fail "nd") rfl (Nat.le_of_ble_eq_true rfl) | exact dz_put 1 (by fail "nd") rfl (Nat.le_of_ble_eq_true rfl) | exact dz_put 2 (by fail "nd") rfl (Nat.le_of_ble_eq_true rfl) | exact dz_put 3 (by fail "nd") rfl (Nat.le_of_ble_eq_true rfl) | exact dz_put 4 (by fail "nd") rfl (Nat.le_of_ble_eq_true rfl))
local macro_rules | `(tactic| fail "sz") => `(tactic| first | assumption | exact (Nat.le_of_ble_eq_true rfl) | omega | decide)
local macro_rules | `(tactic| fail "sd") => `(tactic| first | rfl | assumption | decide | omega | (dsimp only; first | decide | omega) | exact .inr ⟨by decide, by decide⟩ | exact .inl ⟨by decide, by decide⟩ | exact ⟨by omega, by omega⟩ | exact .inl ⟨by omega, by omega⟩ | exact .inr ⟨by omega, by omega⟩ | exact ⟨by omega, by omega, by omega⟩)
local macro_rules | `(tactic| fail "cl") => `(tactic| (clear hH; dsimp only [List.set, List.cons_append, List.nil_append, List.append] at hL))
local macro_rules | `(tactic| fail "gn") => `(tactic| (intro p hp; generalize hH : upd H p _ = H; replace hL := Led.newH hL hp hH; clear hH hp))
local macro_rules | `(tactic| fail "gup") => `(tactic| (generalize hH : upd H _ _ = H; replace hL := Led.upU hL (by fail "up") hH; fail "cl"))
local macro_rules | `(tactic| fail "gmk") => `(tactic| (intro x dx hx hd ne; generalize hH : upd (upd H dx _) x _ = H; replace hL := Led.made hL hx hd ne hH; clear hH hx hd ne))
local macro_rules | `(tactic| fail "v") => `(tactic| refine ⟨_, rfl, ?_⟩)
local macro_rules | `(tactic| fail "i2") => `(tactic| refine ⟨_, _, rfl, rfl, ?_⟩)
local macro_rules | `(tactic| fail "go1") => `(tactic| first
  | refine ⟨_, rfl, ?_⟩
  | refine ⟨_, _, rfl, rfl, ?_⟩
  | refine ⟨_, _, rfl, ?_⟩
  | refine iteT ?_
  | refine iteF ?_
  | refine k_fld hL (by fail "ix") (by assumption) (by assumption) (by fail "lkF") ?_
  | refine k_dgetS hL (by fail "ix") (by fail "lkD") ?_
  | refine k_dgetI hL (by fail "ix") (by assumption) ?_
  | refine k_ixL hL (by fail "ix") (by first | rfl | assumption) ?_
  | refine k_ixT hL (by fail "ix") (by first | rfl | assumption) ?_
  | refine k_tyL hL (by fail "ix") ?_
  | refine k_isd hL (by fail "ix") ?_
  | (refine And.intro (by fail "sz") ?_; fail "gn")
  | refine And.intro (by fail "sd") ?_
  | fail "gn"
  | refine k_meth hL (by fail "ix") (by first | assumption | exact fz_no (by decide +kernel)) ?_
  | refine k_gtup hL (by fail "ix") rfl ?_
  | (refine k_popI hL (by fail "ix") (by assumption) ?_; fail "gup")
  | (refine k_listD hL (by fail "ix") ?_; fail "gn")
  | (refine ⟨_, _, _, _, rfl, rfl, hL.at (by fail "ix"), rfl, ?_⟩; fail "gup")
  | (refine ⟨_, _, _, rfl, rfl, hL.at (by fail "ix"), (by fail "sz"), ?_⟩; fail "gup")
  | (refine ⟨_, _, _, _, rfl, hL.at (by fail "ix"), by assumption, by assumption, Nat.lt_of_le_of_lt fz_len (by decide), ?_⟩; generalize hH : upd H _ _ = H; replace hL := Led.upF hL (by fail "up") (by fail "ptF") hH; fail "cl")
  | (refine ⟨_, _, hL.at (by fail "ix"), Nat.lt_of_le_of_lt fz_len (by decide), ?_⟩; generalize hH : upd H _ _ = H; replace hL := Led.upF hL (by fail "up") (by fail "ptF") hH; fail "cl")
  | (refine k_dputS hL (by fail "ix") (Nat.lt_of_le_of_lt dz_len (by decide)) (by fail "ptD") (by fail "up") ?_; clear hL; intro H hL; dsimp only [List.set, List.cons_append, List.nil_append, List.append] at hL)
  | refine .inl ⟨_, rfl, ?_⟩
  | refine .inr ⟨_, rfl, ?_⟩)
local macro_rules | `(tactic| fail "go") => `(tactic| repeat fail "go1")

theorem pe_fldB {X : Cx} {s : Shared} {H : Hp} {scope : Scope} {env : Env} {fp : List Addr} {e : Expr} {f : Str} {pos : Pos} {ta : TE} (he : PE (X.blk s H scope env fp) e ta) (hb : attributeBase e f env (eval e env) = eval e env) : PE (X.blk s H scope env fp) (.Attribute e f pos) (tFld X.K ta f) := pe_fld he hb
theorem k_dgetF {H : Hp} {L : Lg} {a : Addr} {od : Obj} {kvs : List (Key × V)} {v : V} {n : Int} {P : Addr → V → Prop} (hL : Led H L) (e : At L a (.frz od (.dK kvs))) (lk : valV kvs (.inl n) = some v) (q : P a v) : ∃ a' v', V.ref a = .ref a' ∧ DGet H a' (.int n) (some v') ∧ P a' v' :=
  ⟨_, _, rfl, .inl ⟨kvs, .inl n, .inr ⟨od, hL.at e⟩, rfl, lk.symm⟩, q⟩
theorem Led.lockM {H : Hp} {L : Lg} {d : Addr} {u : HO} (o' : HO) (hL : Led H L) (m : (d, u) ∈ L) : ∃ R : Lg, Led (upd H d o') R ∧ (∀ x ∈ L, x.1 ≠ d → x ∈ R) ∧ (d, o') ∈ R ∧ ∀ (H : Hp) (P : Lg), Led H (P ++ R) → Led (upd H d u) (P ++ L) := by
  obtain ⟨A, B, rfl⟩ := List.append_of_mem m
  refine ⟨A ++ (d, o') :: B, hL.mid, fun x hx ne => ?_, by simp, fun H P h => ?_⟩
  · rcases List.mem_append.mp hx with h | h
    · exact List.mem_append_left _ h
    · rcases List.mem_cons.mp h with e | h
      · exact absurd (by rw [e]) ne
      · exact List.mem_append_right _ (.tail _ h)
  · rw [← List.append_assoc] at h ⊢
    exact h.mid
theorem Led.neO {H : Hp} {L : Lg} {a d : Addr} {o u : HO} (hL : Led H L) (m1 : (a, o) ∈ L) (m2 : (d, u) ∈ L) (h : o ≠ u) : a ≠ d := fun q => by
  subst q
  exact h (Option.some.inj ((hL.mem m1).symm.trans (hL.mem m2)))
def tupW (w : Wk) : List V := [.int w.n, .int w.r, .int w.t, optV w.c]
def optD : Option Int → PyData
  | none => .none
  | some i => .int i
def tupD (w : Wk) : PyData := .tuple [.int w.n, .int w.r, .int w.t, optD w.c]
/-- the pairs: each tuple's place, what it tells -/
def tps (ps : List (Addr × Wk)) : Lg := ps.map fun p => (p.1, .tup (tupW p.2))
theorem tps_step {H : Hp} {Dl : Addr} {R1 : Lg} {ps : List (Addr × Wk)} {p : Addr} {ws : List Wk} {i : Nat} {w : Wk} (hp : ps.map (·.2) = ws.take i) (hw : ws[i]? = some w) (hi : i < 1000) (hL : Led H ((p, .tup (tupW w)) :: (Dl, .lst (ps.map fun p => .ref p.1)) :: (tps ps ++ R1))) :
    ∃ acc, H Dl = some (.lst acc) ∧ acc.length < sizeLine ∧ Hold (∃ ps' : List (Addr × Wk), ps'.map (·.2) = ws.take (i + 1) ∧ Led (upd H Dl (.lst (acc ++ [.ref p]))) ((Dl, .lst (ps'.map fun p => .ref p.1)) :: (tps ps' ++ R1))) := by
  refine ⟨_, hL.at ⟨1, rfl⟩, ?_, .mk ⟨ps ++ [(p, w)], ?_, ?_⟩⟩
  · have h := congrArg List.length hp
    simp at h
    rw [List.length_map]
    exact Nat.lt_of_lt_of_le (by omega : ps.length < 1000) (by decide)
  · rw [List.map_append, hp, List.take_add_one, hw]
    rfl
  · have h := hL.upU (o' := .lst ((ps.map fun p => .ref p.1) ++ [.ref p])) ⟨1, rfl, rfl⟩ rfl
    have h2 := Led.back (A := (Dl, _) :: tps ps) (B := R1) h
    simpa [tps] using h2
theorem dp_opt {K : PySem.W.Frag} {H : Hp} (c : Option Int) : Dp K H (optV c) (optD c) := by
  cases c
  · exact .non
  · exact .int _
theorem dp_rows {K : PySem.W.Frag} {H : Hp} {a : Addr} {ps : List (Addr × Wk)} (h : H a = some (.lst (ps.map fun p => .ref p.1))) (ht : ∀ x ∈ tps ps, H x.1 = some x.2) : Dp K H (.ref a) (.list ((ps.map (·.2)).map tupD)) := by
  rw [List.map_map]
  refine dp_lst h (dp_all fun p hp => ?_)
  exact dp_tup (ht _ (List.mem_map.mpr ⟨p, hp, rfl⟩)) (.cons (.int _) (.cons (.int _) (.cons (.int _) (.cons (dp_opt _) .nil))))
theorem shal_rows {ws : List Wk} : Shal (.list (ws.map tupD)) := by
  refine shal_list (n := 1) (by decide) fun w _ => ?_
  obtain ⟨n, r, t, c⟩ := w
  cases c <;> simp [tupD, optD, PyData.plain, PyData.plainAll, PyData.depth, PyData.depthAll]
theorem robj_ne (e : We) (rows : List We) : HO.dK (dz nmR [.int e.w.r, .int e.w.t, optV e.w.c]) ≠ HO.dK (rows.map rowK) := fun h => by
  have h := HO.dK.inj h
  cases rows with
  | nil => simp [dz, nmR] at h
  | cons x r => simp [dz, nmR, rowK] at h
theorem row_get {rows : List We} {i : Nat} {e : We} (asc : Asc rows) (h : rows[i]? = some e) : valV (rows.map rowK) (Sum.inl e.w.n) = some (.ref e.a) := by
  obtain ⟨A, B, rfl⟩ := List.append_of_mem (List.mem_of_getElem? h)
  exact row_at asc
def tRows (CW CQ : Addr) : TS := fun D σ H => ∃ (F : Fx) (L0 : Lg) (s : LS) (v9 v10 v11 v12 v13 v14 v15 v16 v17 v18 v19 v20 : Option V), σ = sg F s.t s.c v9 v10 v11 v12 v13 v14 v15 v16 v17 v18 v19 v20 ∧ s.rq.map (·.w) = s.ro.map (·.w) ∧ Asc s.ro ∧ s.rq.length < 1000 ∧ Led H (LL CW CQ F s L0) ∧
  ∀ H', Led H' (LL CW CQ F s L0) → D.nx σ H'
section
variable {P : Program} {w : World} {K : PySem.W.Frag} {mg : Str → Option Value} {base : Heap} {CW CQ : Addr} {f : Addr} {cdv : Value} {A : Around} {outer : List Env} {s0 : Shared} {H0 : Hp} {E : XK} {k0 : Nat}
theorem st_rows (hr : Room 8 (LX P w K mg base f cdv A outer s0 H0 E).A) (X : TxtQ K mg CW CQ) : PS (LX P w K mg base f cdv A outer s0 H0 E) stRows (tRows CW CQ) := by
  refine ps_imp (t := _) (ps_if (pt_cmpR (op_neP hr.units) (pe_lock (pe_lc (own := [("one", 19)]) (g := gName 19) (by rfl) scLaw.nd (pi_values (pe_fld (pv 5) rfl)) (blkOk_by (own := [("one", 19)]) (N := ["script", "dice", "length", "time", "done", "queue", "own", "count", "rows", "step", "sort", "wait", "number", "due", "receipt", "good", "word", "told_now", "row", "one", "f"]) (sc := (defScope sLaw)) (by decide +kernel)) (fun _ _ _ _ _ => (pg_name (i := 19) scLaw.nd rfl (Or.inl rfl))) (fun _ _ _ _ _ => pts_nil) (fun _ _ _ _ _ => (pe_tup (pa_cons (pe_fldB (pv 19) rfl) (pa_cons (pe_fldB (pv 19) rfl) (pa_cons (pe_fldB (pv 19) rfl) (pa_cons (pe_fldB (pv 19) rfl) pa_nil)))))))) (pe_lock (pe_lc (own := [("number", 12)]) (g := gName 12) (by rfl) scLaw.nd (pi_keys (pv 8)) (blkOk_by (own := [("number", 12)]) (N := ["script", "dice", "length", "time", "done", "queue", "own", "count", "rows", "step", "sort", "wait", "number", "due", "receipt", "good", "word", "told_now", "row", "one", "f"]) (sc := (defScope sLaw)) (by decide +kernel)) (fun _ _ _ _ _ => (pg_name (i := 12) scLaw.nd rfl (Or.inl rfl))) (fun _ _ _ _ _ => pts_nil) (fun _ _ _ _ _ => (pe_tup (pa_cons (pv 12) (pa_cons (pe_dget (hu_of hr) (pe_dget (hu_of hr) (pv 8) (pv 12) (fun _ _ => rfl)) pe_str (fun _ _ => rfl)) (pa_cons (pe_dget (hu_of hr) (pe_dget (hu_of hr) (pv 8) (pv 12) (fun _ _ => rfl)) pe_str (fun _ _ => rfl)) (pa_cons (pe_dget (hu_of hr) (pe_dget (hu_of hr) (pv 8) (pv 12) (fun _ _ => rfl)) pe_str (fun _ _ => rfl)) pa_nil)))))))) (nomark _))
  (pss_one (ps_ret pe_bl))
  pss_nil) ?_
  rintro D σ H ⟨F, L0, s, v9, v10, v11, v12, v13, v14, v15, v16, v17, v18, v19, v20, rfl, hw, asc, hz, hL, k⟩
  have c1 := X.clQ
  have c2 := X.clW
  have f2 := X.nQ "rows" (by decide +kernel)
  have f6 := X.nW "number" (by decide +kernel)
  have f7 := X.nW "ready" (by decide +kernel)
  have f8 := X.nW "takes" (by decide +kernel)
  have f9 := X.nW "receipt" (by decide +kernel)
  have mq : (F.q, HO.ins CQ F.dq (fz nmQ [.int F.len, .ref F.rd, .ref F.g, .int (s.c + 1), .int s.nr])) ∈ LL CW CQ F s L0 := .tail _ (.head _)
  have mrd : (F.rd, HO.dK (s.rq.map rowK)) ∈ LL CW CQ F s L0 := .tail _ (.tail _ (.head _))
  have mrr : (F.rr, HO.dK (s.ro.map rowK)) ∈ LL CW CQ F s L0 := .tail _ (.tail _ (.tail _ (.tail _ (.tail _ (.head _)))))
  have mob : ∀ x ∈ objs CW s, x ∈ LL CW CQ F s L0 := fun x h => .tail _ (.tail _ (.tail _ (.tail _ (.tail _ (.tail _ (.tail _ (.tail _ (List.mem_append_left _ h))))))))
  have mw : ∀ e ∈ s.rq, wobj CW e ∈ LL CW CQ F s L0 := fun e he => mob _ (List.mem_append_right _ (List.mem_append_left _ (List.mem_map.mpr ⟨e, he, rfl⟩)))
  have mr : ∀ e ∈ s.ro, robj e ∈ LL CW CQ F s L0 := fun e he => mob _ (List.mem_append_right _ (List.mem_append_right _ (List.mem_map.mpr ⟨e, he, rfl⟩)))
  refine ⟨F.rd, .dK (s.rq.map rowK), hL.at ⟨2, rfl⟩, trivial, fun od => ?_⟩
  obtain ⟨R1, hR, keep, ard, back⟩ := hL.lockM (.frz od (.dK (s.rq.map rowK))) mrd
  have aq : ∀ e ∈ s.rq, wobj CW e ∈ R1 := fun e he => keep _ (mw e he) (hL.neO (mw e he) mrd (fun h => by cases h))
  have aqq := keep _ mq (hL.neO mq mrd (fun h => by cases h))
  generalize upd H F.rd _ = H at hR ⊢
  clear hL
  have hL := hR
  clear hR
  have aq1 : At R1 F.q (.ins CQ F.dq (fz nmQ [.int F.len, .ref F.rd, .ref F.g, .int (s.c + 1), .int s.nr])) := List.getElem?_of_mem aqq
  fail "go"
  refine ⟨F.rd, od, _, rfl, hL.mem ard, fun Dl hDl => lc_it walk_values (fun i H => Hold (∃ ps : List (Addr × Wk), ps.map (·.2) = (s.rq.map (·.w)).take i ∧ Led H ((Dl, .lst (ps.map fun p => .ref p.1)) :: (tps ps ++ R1)))) ?_ ?_ ?_ ?_⟩
  · exact .mk ⟨[], by simp, hL.new hDl⟩
  · intro i H _ h
    obtain ⟨ps, hp, hL⟩ := h.out
    exact hL.mem (.tail _ (List.mem_append_right _ ard))
  · intro i x H H' hi h hx
    obtain ⟨ps, hp, hL⟩ := h.out
    obtain ⟨rfl, kk, hk⟩ := hx
    clear h
    rw [List.getElem?_map] at hk
    obtain ⟨e, he, hke⟩ := Option.map_eq_some_iff.mp hk
    obtain ⟨rfl, rfl⟩ := Prod.mk.inj hke
    have hem := List.mem_of_getElem? he
    have ae : At ((Dl, .lst (ps.map fun p => .ref p.1)) :: (tps ps ++ R1)) e.a (.ins CW e.dx (fz nmW (vW (bodyOf e.w.n) e.w))) := List.getElem?_of_mem (.tail _ (List.mem_append_right _ (aq e hem)))
    refine ⟨rfl, k_yes ?_⟩
    unfold vW at ae
    fail "go"
    refine ⟨Nat.le_of_ble_eq_true rfl, ?_⟩
    intro p hp0; generalize hH : upd H' p _ = H; replace hL := Led.newH hL hp0 hH; clear hH hp0
    refine tps_step hp (by rw [List.getElem?_map, he]; rfl) ?_ hL
    rw [List.length_map] at hi
    omega
  · intro H h
    obtain ⟨ps, hp, hL⟩ := h.out
    clear h
    rw [List.length_map, List.take_of_length_le (by simp)] at hp
    refine ⟨hL.mem (.tail _ (List.mem_append_right _ ard)), ?_⟩
    replace hL := back _ ((Dl, .lst (ps.map fun p => .ref p.1)) :: tps ps) hL
    clear back aq ard aqq keep aq1
    generalize upd H F.rd _ = H at hL ⊢
    have mL : ∀ x ∈ LL CW CQ F s L0, x ∈ ((Dl, HO.lst (ps.map fun p => .ref p.1)) :: tps ps) ++ LL CW CQ F s L0 := fun x h => List.mem_append_right _ h
    refine ⟨F.rr, .dK (s.ro.map rowK), hL.mem (mL _ mrr), trivial, fun od2 => ?_⟩
    obtain ⟨R2, hR, keep, ard, back⟩ := hL.lockM (.frz od2 (.dK (s.ro.map rowK))) (mL _ mrr)
    have aq : ∀ e ∈ s.ro, robj e ∈ R2 := fun e he => keep _ (mL _ (mr e he)) (hL.neO (mL _ (mr e he)) (mL _ mrr) (robj_ne e s.ro))
    generalize upd H F.rr _ = H at hR ⊢
    clear hL
    have hL := hR
    clear hR
    fail "go"
    refine ⟨F.rr, od2, rfl, .inl ⟨_, hL.mem ard, fun D2 hD2 => lc_it walk_keys (fun i H => Hold (∃ ps : List (Addr × Wk), ps.map (·.2) = (s.ro.map (·.w)).take i ∧ Led H ((D2, .lst (ps.map fun p => .ref p.1)) :: (tps ps ++ R2)))) ?_ ?_ ?_ ?_⟩⟩
    · exact .mk ⟨[], by simp, hL.new hD2⟩
    · intro i H _ h
      obtain ⟨ps, hp, hL⟩ := h.out
      exact hL.mem (.tail _ (List.mem_append_right _ ard))
    · intro i x H H' hi h hx
      obtain ⟨ps2, hp2, hL⟩ := h.out
      obtain ⟨rfl, kk, v, hk, rfl⟩ := hx
      clear h
      rw [List.getElem?_map] at hk
      obtain ⟨e, he, hke⟩ := Option.map_eq_some_iff.mp hk
      obtain ⟨rfl, rfl⟩ := Prod.mk.inj hke
      have hem := List.mem_of_getElem? he
      have lk := row_get asc he
      have ae : At ((D2, .lst (ps2.map fun p => .ref p.1)) :: (tps ps2 ++ R2)) e.a (.dK (dz nmR [.int e.w.r, .int e.w.t, optV e.w.c])) := List.getElem?_of_mem (.tail _ (List.mem_append_right _ (aq e hem)))
      have ar : At ((D2, .lst (ps2.map fun p => .ref p.1)) :: (tps ps2 ++ R2)) F.rr (.frz od2 (.dK (s.ro.map rowK))) := List.getElem?_of_mem (.tail _ (List.mem_append_right _ ard))
      refine ⟨rfl, k_yes ?_⟩
      fail "go"
      refine k_dgetF hL ar lk ?_
      fail "go"
      refine k_dgetF hL ar lk ?_
      fail "go"
      refine k_dgetF hL ar lk ?_
      fail "go"
      refine ⟨Nat.le_of_ble_eq_true rfl, ?_⟩
      intro p hp0; generalize hH : upd H' p _ = H; replace hL := Led.newH hL hp0 hH; clear hH hp0
      refine tps_step hp2 (by rw [List.getElem?_map, he]; rfl) ?_ hL
      have := congrArg List.length hw
      simp at this hi
      omega
    · intro H h
      obtain ⟨ps2, hp2, hL⟩ := h.out
      clear h
      rw [List.length_map, List.take_of_length_le (by simp)] at hp2
      refine ⟨hL.mem (.tail _ (List.mem_append_right _ ard)), ?_⟩
      replace hL := back _ ((D2, .lst (ps2.map fun p => .ref p.1)) :: tps ps2) hL
      generalize upd H F.rr _ = H at hL ⊢
      have d1 := dp_rows (K := K) (hL.mem (List.mem_append_right _ (.head _))) (fun x hx => hL.mem (List.mem_append_right _ (.tail _ (List.mem_append_left _ hx))))
      have d2 := dp_rows (K := K) (hL.mem (.head _)) (fun x hx => hL.mem (.tail _ (List.mem_append_left _ hx)))
      rw [hp, hw] at d1
      rw [hp2] at d2
      refine k_neSame d1 d2 shal_rows ?_
      refine ⟨_, rfl, ?_⟩
      refine ite_f rfl ?_
      exact k _ hL.drop.drop
end
end Sd


namespace Sd
open PySem L2
open C8 (Cal Met Mak pe_c pe_mk pe_mt pe_mt0 tCut)
set_option hygiene false
local macro_rules | `(tactic| fail "nd") => `(tactic| first | assumption | decide +kernel)
local macro_rules | `(tactic| fail "ix") => `(tactic| first | exact ⟨0, rfl⟩ | exact ⟨1, rfl⟩ | exact ⟨2, rfl⟩ | exact ⟨3, rfl⟩ | exact ⟨4, rfl⟩ | exact ⟨5, rfl⟩ | exact ⟨6, rfl⟩ | exact ⟨7, rfl⟩ | exact ⟨8, rfl⟩ | exact ⟨9, rfl⟩ | exact ⟨10, rfl⟩ | exact ⟨11, rfl⟩ | exact ⟨12, rfl⟩ | assumption)
local macro_rules | `(tactic| fail "up") => `(tactic| first | exact ⟨0, rfl, rfl⟩ | exact ⟨1, rfl, rfl⟩ | exact ⟨2, rfl, rfl⟩ | exact ⟨3, rfl, rfl⟩ | exact ⟨4, rfl, rfl⟩ | exact ⟨5, rfl, rfl⟩ | exact ⟨6, rfl, rfl⟩ | exact ⟨7, rfl, rfl⟩ | exact ⟨8, rfl, rfl⟩ | exact ⟨9, rfl, rfl⟩ | exact ⟨10, rfl, rfl⟩ | exact ⟨11, rfl, rfl⟩ | exact ⟨12, rfl, rfl⟩ | assumption)
local macro_rules | `(tactic| fail "lkF") => `(tactic| first | assumption | exact fz_at 0 (by fail "nd") rfl rfl | exact fz_at 1 (by fail "nd") rfl rfl | exact fz_at 2 (by fail "nd") rfl rfl | exact fz_at 3 (by fail "nd") rfl rfl | exact fz_at 4 (by fail "nd") rfl rfl | exact fz_at 5 (by fail "nd") rfl rfl | exact fz_at 6 (by fail "nd") rfl rfl | exact fz_at 7 (by fail "nd") rfl rfl)
local macro_rules | `(tactic| fail "lkD") => `(tactic| first | assumption | exact dz_at 0 (by fail "nd") rfl rfl | exact dz_at 1 (by fail "nd") rfl rfl | exact dz_at 2 (by fail "nd") rfl rfl | exact dz_at 3 (by fail "nd") rfl rfl | exact dz_at 4 (by fail "nd") rfl rfl)
local macro_rules | `(tactic| fail "ptF") => `(tactic| first | assumption | exact fz_put 0 (by fail "nd") rfl (Nat.le_of_ble_eq_true rfl) | exact fz_put 1 (by fail "nd") rfl (Nat.le_of_ble_eq_true rfl) | exact fz_put 2 (by fail "nd") rfl (Nat.le_of_ble_eq_true rfl) | exact fz_put 3 (by fail "nd") rfl (Nat.le_of_ble_eq_true rfl) | exact fz_put 4 (by fail "nd") rfl (Nat.le_of_ble_eq_true rfl) | exact fz_put 5 (by fail "nd") rfl (Nat.le_of_ble_eq_true rfl) | exact fz_put 6 (by fail "nd") rfl (Nat.le_of_ble_eq_true rfl) | exact fz_put 7 (by fail "nd") rfl (Nat.le_of_ble_eq_true rfl) | exact fz_new (by decide +kernel) rfl)
local macro_rules | `(tactic| fail "ptD") => `(tactic| first | assumption | exact dz_put 0 (by fail "nd") rfl (Nat.le_of_ble_eq_true rfl) | exact dz_put 1 (by fail "nd") rfl (Nat.le_of_ble_eq_true rfl) | exact dz_put 2 (by fail "nd") rfl (Nat.le_of_ble_eq_true rfl) | exact dz_put 3 (by fail "nd") rfl (Nat.le_of_ble_eq_true rfl) | exact dz_put 4 (by fail "nd") rfl (Nat.le_of_ble_eq_true rfl))
local macro_rules | `(tactic| fail "sz") => `(tactic| first | assumption | exact (Nat.le_of_ble_eq_true rfl) | omega | decide)
local macro_rules | `(tactic| fail "sd") => `(tactic| first | rfl | assumption | decide | omega | (dsimp only; first | decide | omega) | exact .inr ⟨by decide, by decide⟩ | exact .inl ⟨by decide, by decide⟩ | exact ⟨by omega, by omega⟩ | exact .inl ⟨by omega, by omega⟩ | exact .inr ⟨by omega, by omega⟩ | exact ⟨by omega, by omega, by omega⟩)
local macro_rules | `(tactic| fail "cl") => `(tactic| (clear hH; dsimp only [List.set, List.cons_append, List.nil_append, List.append] at hL))
local macro_rules | `(tactic| fail "gn") => `(tactic| (intro p hp; generalize hH : upd H p _ = H; replace hL := Led.newH hL hp hH; clear hH hp))
local macro_rules | `(tactic| fail "gup") => `(tactic| (generalize hH : upd H _ _ = H; replace hL := Led.upU hL (by fail "up") hH; fail "cl"))
local macro_rules | `(tactic| fail "gmk") => `(tactic| (intro x dx hx hd ne; generalize hH : upd (upd H dx _) x _ = H; replace hL := Led.made hL hx hd ne hH; clear hH hx hd ne))
local macro_rules | `(tactic| fail "v") => `(tactic| refine ⟨_, rfl, ?_⟩)
local macro_rules | `(tactic| fail "i2") => `(tactic| refine ⟨_, _, rfl, rfl, ?_⟩)
local macro_rules | `(tactic| fail "go1") => `(tactic| first
  | refine ⟨_, rfl, ?_⟩
  | refine ⟨_, _, rfl, rfl, ?_⟩
  | refine ⟨_, _, rfl, ?_⟩
  | refine iteT ?_
  | refine iteF ?_
  | refine k_fld hL (by fail "ix") (by assumption) (by assumption) (by fail "lkF") ?_
  | refine k_dgetS hL (by fail "ix") (by fail "lkD") ?_
  | refine k_dgetI hL (by fail "ix") (by assumption) ?_
  | refine k_ixL hL (by fail "ix") (by first | rfl | assumption) ?_
  | refine k_ixT hL (by fail "ix") (by first | rfl | assumption) ?_
  | refine k_tyL hL (by fail "ix") ?_
  | refine k_isd hL (by fail "ix") ?_
  | (refine And.intro (by fail "sz") ?_; fail "gn")
  | refine And.intro (by fail "sd") ?_
  | fail "gn"
  | refine k_meth hL (by fail "ix") (by first | assumption | exact fz_no (by decide +kernel)) ?_
  | refine k_gtup hL (by fail "ix") rfl ?_
  | (refine k_popI hL (by fail "ix") (by assumption) ?_; fail "gup")
  | (refine k_listD hL (by fail "ix") ?_; fail "gn")
  | (refine ⟨_, _, _, _, rfl, rfl, hL.at (by fail "ix"), rfl, ?_⟩; fail "gup")
  | (refine ⟨_, _, _, rfl, rfl, hL.at (by fail "ix"), (by fail "sz"), ?_⟩; fail "gup")
  | (refine ⟨_, _, _, _, rfl, hL.at (by fail "ix"), by assumption, by assumption, Nat.lt_of_le_of_lt fz_len (by decide), ?_⟩; generalize hH : upd H _ _ = H; replace hL := Led.upF hL (by fail "up") (by fail "ptF") hH; fail "cl")
  | (refine ⟨_, _, hL.at (by fail "ix"), Nat.lt_of_le_of_lt fz_len (by decide), ?_⟩; generalize hH : upd H _ _ = H; replace hL := Led.upF hL (by fail "up") (by fail "ptF") hH; fail "cl")
  | (refine k_dputS hL (by fail "ix") (Nat.lt_of_le_of_lt dz_len (by decide)) (by fail "ptD") (by fail "up") ?_; clear hL; intro H hL; dsimp only [List.set, List.cons_append, List.nil_append, List.append] at hL)
  | refine .inl ⟨_, rfl, ?_⟩
  | refine .inr ⟨_, rfl, ?_⟩)
local macro_rules | `(tactic| fail "go") => `(tactic| repeat fail "go1")

def tNums (CW CQ : Addr) : TS := fun D σ H => ∃ (F : Fx) (L0 : Lg) (i : Nat) (s : LS) (v9 v10 v11 v12 v13 v14 v15 v16 v17 v18 v19 v20 : Option V), σ = sg F s.t s.c v9 v10 v11 v12 v13 v14 v15 v16 v17 v18 v19 v20 ∧ LI i s ∧ i ≤ 81 ∧ Led H (LL CW CQ F s L0) ∧
  ∀ H', Led H' (LL CW CQ F s L0) → D.nx σ H'
theorem pw_range (c : Nat) : ((List.range c).map fun i : Nat => (i : Int) + 1).Pairwise (· ≤ ·) := by
  rw [List.pairwise_map]
  exact List.pairwise_lt_range.imp fun h => by omega
theorem rgV_1 (c : Nat) : rgV 1 ((c : Int) + 1) = ((List.range c).map fun i : Nat => (i : Int) + 1).map V.int := by
  unfold rgV
  rw [show ((c : Int) + 1 - 1).toNat = c by omega, List.map_map]
  refine List.map_congr_left fun i _ => ?_
  show V.int (1 + (i : Int)) = V.int ((i : Int) + 1)
  rw [Int.add_comm]
section
variable {P : Program} {w : World} {K : PySem.W.Frag} {mg : Str → Option Value} {base : Heap} {CW CQ : Addr} {f : Addr} {cdv : Value} {A : Around} {outer : List Env} {s0 : Shared} {H0 : Hp} {E : XK} {k0 : Nat}
theorem st_nums (hr : Room 8 (LX P w K mg base f cdv A outer s0 H0 E).A) (X : TxtQ K mg CW CQ) (T : TxtV mg) : PS (LX P w K mg base f cdv A outer s0 H0 E) stNums (tNums CW CQ) := by
  refine ps_imp (t := _) (ps_if (PW.pt (pw_or (pt_cmpR (op_neP hr.units) (pe_lc (own := [("one", 19)]) (g := gName 19) (by rfl) scLaw.nd (pi_list (pe_fld (pv 5) rfl)) (blkOk_by (own := [("one", 19)]) (N := ["script", "dice", "length", "time", "done", "queue", "own", "count", "rows", "step", "sort", "wait", "number", "due", "receipt", "good", "word", "told_now", "row", "one", "f"]) (sc := (defScope sLaw)) (by decide +kernel)) (fun _ _ _ _ _ => (pg_name (i := 19) scLaw.nd rfl (Or.inl rfl))) (fun _ _ _ _ _ => pts_nil) (fun _ _ _ _ _ => (pe_fldB (pv 19) rfl))) (pe_dget (hu_of hr) (pv 6) pe_str (fun _ _ => rfl)) (nomark _)) (pw_or (pt_cmpR (op_neP hr.units) (pe_callB cr_sortedI (by rfl) T.sorted (by decide +kernel) (pa_cons (pe_op op_cat (pe_op op_cat (pe_callTy (call_list_dK rfl) (by rfl) T.list (by decide +kernel) (pa_cons (pv 8) pa_nil)) (pe_dget (hu_of hr) (pv 6) pe_str (fun _ _ => rfl))) (pv 4)) pa_nil)) (pe_listRg rfl (by rfl) T.list (prg_2 (by rfl) T.range pe_int (pe_op op_add (pv 7) pe_int))) (nomark _)) (pw_or1 (pt_cmpR op_ne (pe_fld (pv 5) rfl) (pe_op op_add (pv 7) pe_int) (nomark _))))))
  (pss_one (ps_ret pe_bl))
  pss_nil) ?_
  rintro D σ H ⟨F, L0, i, s, v9, v10, v11, v12, v13, v14, v15, v16, v17, v18, v19, v20, rfl, I, hi, hL, k⟩
  have c1 := X.clQ
  have c2 := X.clW
  have f3 := X.nQ "given_up" (by decide +kernel)
  have f4 := X.nQ "next_number" (by decide +kernel)
  have f6 := X.nW "number" (by decide +kernel)
  have hln := li_len I
  have hci := I.c
  have hlo : s.rq.length = s.ro.length := by have := congrArg List.length I.w; simpa using this
  have hlg : s.gq.length = s.go.length := by have := congrArg List.length I.g; simpa using this
  have hL0 := hL
  unfold LL at hL
  fail "go"
  refine ⟨⟨_, .of (hL.at ⟨3, rfl⟩)⟩, fun Dl hDl => lc_list (K := K) (a := F.g) (xs := s.gq.map fun e => .ref e.a) (fun i H => Hold (Led H ((Dl, .lst (((s.gq.map (·.w.n)).take i).map V.int)) :: LL CW CQ F s L0))) ?_ ?_ ?_ ?_⟩
  · exact .mk (hL.new hDl)
  · intro i H _ h
    exact .of (h.out.at ⟨4, rfl⟩)
  · intro i x H hx h
    have hL := h.out
    clear h
    rw [List.getElem?_map] at hx
    obtain ⟨e, he, rfl⟩ := Option.map_eq_some_iff.mp hx
    have hem := List.mem_of_getElem? he
    have ae : At ((Dl, .lst (((s.gq.map (·.w.n)).take i).map V.int)) :: LL CW CQ F s L0) e.a (.ins CW e.dx (fz nmW (vW (bodyOf e.w.n) e.w))) :=
      List.getElem?_of_mem (.tail _ (.tail _ (.tail _ (.tail _ (.tail _ (.tail _ (.tail _ (.tail _ (.tail _ (List.mem_append_left _ (List.mem_append_left _ (List.mem_map.mpr ⟨e, hem, rfl⟩))))))))))))
    unfold vW at ae
    refine ⟨rfl, k_yes ?_⟩
    fail "go"
    refine ⟨_, hL.at ⟨0, rfl⟩, ?_, .mk ?_⟩
    · simp
      exact Nat.lt_of_lt_of_le (by omega : _ < 1000) (by decide)
    · have h2 := hL.upU (o' := .lst (((s.gq.map (·.w.n)).take (i + 1)).map V.int)) ⟨0, rfl, rfl⟩ rfl
      rw [List.take_add_one, List.getElem?_map, he] at h2 ⊢
      simpa using h2
  · intro H h
    have hL := h.out
    clear h
    rw [List.length_map, List.take_of_length_le (by simp)] at hL
    unfold LL at hL
    fail "go"
    refine k_neSame (d := .list (s.go.map PyData.int)) (dp_lst (hL.at ⟨0, rfl⟩) (by rw [I.g]; exact dp_ints)) (dp_lst (hL.at (by fail "ix")) dp_ints) shal_ints ?_
    fail "go"
    have e1 : (s.ro.map rowK).map (fun kv => kV kv.1) = (s.ro.map (·.w.n)).map V.int := by simp [rowK, kV, Function.comp_def]
    rw [e1] at hL
    refine k_cat hL (by fail "ix") (by fail "ix") (by simp; exact Nat.le_trans (by omega : _ ≤ 1000) (by decide)) ?_
    rw [← List.map_append]
    intro p2 hp2; generalize hH : upd H p2 _ = H; replace hL := Led.newH hL hp2 hH; clear hH hp2
    fail "go"
    refine k_cat hL (by fail "ix") (by fail "ix") (by simp; exact Nat.le_trans (by omega : _ ≤ 1000) (by decide)) ?_
    rw [← List.map_append]
    intro p3 hp3; generalize hH : upd H p3 _ = H; replace hL := Led.newH hL hp3 hH; clear hH hp3
    fail "go"
    refine ⟨p3, _, rfl, .of (hL.at ⟨0, rfl⟩), fun ns' p4 hp hs hf => ?_⟩
    have hns : ns' = (List.range s.c).map fun i : Nat => (i : Int) + 1 := by
      refine perm_same (hp.trans ?_) hs (pw_range _)
      rw [List.append_assoc, ← map_n I.w]
      exact I.pm
    subst hns
    generalize hH : upd H p4 _ = H; replace hL := Led.newH hL hf hH; clear hH hf hp hs
    fail "go"
    rw [rgV_1] at hL
    refine k_neSame (dp_lst (hL.at ⟨1, rfl⟩) dp_ints) (dp_lst (hL.at ⟨0, rfl⟩) dp_ints) shal_ints ?_
    fail "go"
    refine ite_f (by simp) ?_
    exact k _ hL.tail.tail.tail.tail.tail.tail
end
end Sd


namespace Sd
open PySem L2 LamX
open C8 (Cal Met Mak pe_c pe_mk pe_mt pe_mt0 tCut)
set_option hygiene false
local macro_rules | `(tactic| fail "nd") => `(tactic| first | assumption | decide +kernel)
local macro_rules | `(tactic| fail "ix") => `(tactic| first | exact ⟨0, rfl⟩ | exact ⟨1, rfl⟩ | exact ⟨2, rfl⟩ | exact ⟨3, rfl⟩ | exact ⟨4, rfl⟩ | exact ⟨5, rfl⟩ | exact ⟨6, rfl⟩ | exact ⟨7, rfl⟩ | exact ⟨8, rfl⟩ | exact ⟨9, rfl⟩ | exact ⟨10, rfl⟩ | exact ⟨11, rfl⟩ | exact ⟨12, rfl⟩ | assumption)
local macro_rules | `(tactic| fail "up") => `(tactic| first | exact ⟨0, rfl, rfl⟩ | exact ⟨1, rfl, rfl⟩ | exact ⟨2, rfl, rfl⟩ | exact ⟨3, rfl, rfl⟩ | exact ⟨4, rfl, rfl⟩ | exact ⟨5, rfl, rfl⟩ | exact ⟨6, rfl, rfl⟩ | exact ⟨7, rfl, rfl⟩ | exact ⟨8, rfl, rfl⟩ | exact ⟨9, rfl, rfl⟩ | exact ⟨10, rfl, rfl⟩ | exact ⟨11, rfl, rfl⟩ | exact ⟨12, rfl, rfl⟩ | assumption)
local macro_rules | `(tactic| fail "lkF") => `(tactic| first | assumption | exact fz_at 0 (by fail "nd") rfl rfl | exact fz_at 1 (by fail "nd") rfl rfl | exact fz_at 2 (by fail "nd") rfl rfl | exact fz_at 3 (by fail "nd") rfl rfl | exact fz_at 4 (by fail "nd") rfl rfl | exact fz_at 5 (by fail "nd") rfl rfl | exact fz_at 6 (by fail "nd") rfl rfl | exact fz_at 7 (by fail "nd") rfl rfl)
local macro_rules | `(tactic| fail "lkD") => `(tactic| first | assumption | exact dz_at 0 (by fail "nd") rfl rfl | exact dz_at 1 (by fail "nd") rfl rfl | exact dz_at 2 (by fail "nd") rfl rfl | exact dz_at 3 (by fail "nd") rfl rfl | exact dz_at 4 (by fail "nd") rfl rfl)
local macro_rules | `(tactic| fail "ptF") => `(tactic| first | assumption | exact fz_put 0 (by fail "nd") rfl (Nat.le_of_ble_eq_true rfl) | exact fz_put 1 (by fail "nd") rfl (Nat.le_of_ble_eq_true rfl) | exact fz_put 2 (by fail "nd") rfl (Nat.le_of_ble_eq_true rfl) | exact fz_put 3 (by fail "nd") rfl (Nat.le_of_ble_eq_true rfl) | exact fz_put 4 (by fail "nd") rfl (Nat.le_of_ble_eq_true rfl) | exact fz_put 5 (by fail "nd") rfl (Nat.le_of_ble_eq_true rfl) | exact fz_put 6 (by fail "nd") rfl (Nat.le_of_ble_eq_true rfl) | exact fz_put 7 (by fail "nd") rfl (Nat.le_of_ble_eq_true rfl) | exact fz_new (by decide +kernel) rfl)
local macro_rules | `(tactic| fail "ptD") => `(tactic| first | assumption | exact dz_put 0 (by fail "nd") rfl (Nat.le_of_ble_eq_true rfl) | exact dz_put 1 (by fail "nd") rfl (Nat.le_of_ble_eq_true rfl) | exact dz_put 2 (by fail "nd") rfl (Nat.le_of_ble_eq_true rfl) | exact dz_put 3 (by fail "nd") rfl (Nat.le_of_ble_eq_true rfl) | exact dz_put 4 (by fail "nd") rfl (Nat.le_of_ble_eq_true rfl))
local macro_rules | `(tactic| fail "sz") => `(tactic| first | assumption | exact (Nat.le_of_ble_eq_true rfl) | omega | decide)
local macro_rules | `(tactic| fail "sd") => `(tactic| first | rfl | assumption | decide | omega | (dsimp only; first | decide | omega) | exact .inr ⟨by decide, by decide⟩ | exact .inl ⟨by decide, by decide⟩ | exact ⟨by omega, by omega⟩ | exact .inl ⟨by omega, by omega⟩ | exact .inr ⟨by omega, by omega⟩ | exact ⟨by omega, by omega, by omega⟩)
local macro_rules | `(tactic| fail "cl") => `(tactic| (clear hH; dsimp only [List.set, List.cons_append, List.nil_append, List.append] at hL))
local macro_rules | `(tactic| fail "gn") => `(tactic| (intro p hp; generalize hH : upd H p _ = H; replace hL := Led.newH hL hp hH; clear hH hp))
local macro_rules | `(tactic| fail "gup") => `(tactic| (generalize hH : upd H _ _ = H; replace hL := Led.upU hL (by fail "up") hH; fail "cl"))
local macro_rules | `(tactic| fail "gmk") => `(tactic| (intro x dx hx hd ne; generalize hH : upd (upd H dx _) x _ = H; replace hL := Led.made hL hx hd ne hH; clear hH hx hd ne))
local macro_rules | `(tactic| fail "v") => `(tactic| refine ⟨_, rfl, ?_⟩)
local macro_rules | `(tactic| fail "i2") => `(tactic| refine ⟨_, _, rfl, rfl, ?_⟩)
local macro_rules | `(tactic| fail "go1") => `(tactic| first
  | refine ⟨_, rfl, ?_⟩
  | refine ⟨_, _, rfl, rfl, ?_⟩
  | refine ⟨_, _, rfl, ?_⟩
  | refine iteT ?_
  | refine iteF ?_
  | refine k_fld hL (by fail "ix") (by assumption) (by assumption) (by fail "lkF") ?_
  | refine k_dgetS hL (by fail "ix") (by fail "lkD") ?_
  | refine k_dgetI hL (by fail "ix") (by assumption) ?_
  | refine k_ixL hL (by fail "ix") (by first | rfl | assumption) ?_
  | refine k_ixT hL (by fail "ix") (by first | rfl | assumption) ?_
  | refine k_tyL hL (by fail "ix") ?_
  | refine k_isd hL (by fail "ix") ?_
  | (refine And.intro (by fail "sz") ?_; fail "gn")
  | refine And.intro (by fail "sd") ?_
  | fail "gn"
  | refine k_meth hL (by fail "ix") (by first | assumption | exact fz_no (by decide +kernel)) ?_
  | refine k_gtup hL (by fail "ix") rfl ?_
  | (refine k_popI hL (by fail "ix") (by assumption) ?_; fail "gup")
  | (refine k_listD hL (by fail "ix") ?_; fail "gn")
  | (refine ⟨_, _, _, _, rfl, rfl, hL.at (by fail "ix"), rfl, ?_⟩; fail "gup")
  | (refine ⟨_, _, _, rfl, rfl, hL.at (by fail "ix"), (by fail "sz"), ?_⟩; fail "gup")
  | (refine ⟨_, _, _, _, rfl, hL.at (by fail "ix"), by assumption, by assumption, Nat.lt_of_le_of_lt fz_len (by decide), ?_⟩; generalize hH : upd H _ _ = H; replace hL := Led.upF hL (by fail "up") (by fail "ptF") hH; fail "cl")
  | (refine ⟨_, _, hL.at (by fail "ix"), Nat.lt_of_le_of_lt fz_len (by decide), ?_⟩; generalize hH : upd H _ _ = H; replace hL := Led.upF hL (by fail "up") (by fail "ptF") hH; fail "cl")
  | (refine k_dputS hL (by fail "ix") (Nat.lt_of_le_of_lt dz_len (by decide)) (by fail "ptD") (by fail "up") ?_; clear hL; intro H hL; dsimp only [List.set, List.cons_append, List.nil_append, List.append] at hL)
  | refine .inl ⟨_, rfl, ?_⟩
  | refine .inr ⟨_, rfl, ?_⟩)
local macro_rules | `(tactic| fail "go") => `(tactic| repeat fail "go1")

def tEnd (CW PL : Addr) : TS := fun D σ H => ∃ (F : Fx) (o dx : Addr) (t c : Int) (v1 v2 v3 v4 v5 v6 v7 v8 v9 v10 v11 v12 v13 v14 v15 v16 v17 v18 v20 : Option V), σ = [some (.ref F.a), v1, v2, v3, v4, v5, v6, v7, v8, v9, v10, v11, v12, v13, v14, v15, v16, v17, v18, some (.ref o), v20] ∧
  Led H ((o, .ins CW dx (fz nmW (vW (.str (Str.ofString "b")) ⟨4, 7, 0, none⟩))) :: (PL, .tbl #[]) :: []) ∧ ∀ H', D.rt (.bl true) H'
theorem shal_1 : Shal (.list [.str (Str.ofString "QueueError"), .str (Str.ofString "QueueError")]) := ⟨by simp [PyData.plain, PyData.plainAll], by simp [PyData.depth, PyData.depthAll]⟩
section
variable {P : Program} {w : World} {K : PySem.W.Frag} {mg : Str → Option Value} {base : Heap} {CW CQ CE : Addr} {f cL PL : Addr} {A : Around} {outer : List Env} {s0 : Shared} {H0 : Hp} {E : XK} {k0 : Nat}
theorem st_end (hr : Room 8 (LX P w K mg base f (.ref cL) A outer s0 H0 E).A) (X : TxtQ K mg CW CQ) (T : TxtV mg) (TE : ExcT K mg "QueueError" CE) (TB : LamX.TabB base mg cL PL) (c__law_told : Cal P w K mg base 6 "_law_told" (spTold P w K mg base 5 CE "QueueError") [])
    (l1 : ∀ (f c' : Addr) (q : Str), LOk P w K mg base 5 f ⟨"<lambda>", q, lamArgs (lamAt sLaw 0), [], lamScope (lamAt sLaw 0), [], c'⟩ (lamBody (lamAt sLaw 0)) (tl1 CE))
    (l2 : ∀ (f c' : Addr) (q : Str), LOk P w K mg base 5 f ⟨"<lambda>", q, lamArgs (lamAt sLaw 1), [], lamScope (lamAt sLaw 1), [], c'⟩ (lamBody (lamAt sLaw 1)) (tl2 CE)) :
    PS (LX P w K mg base f (.ref cL) A outer s0 H0 E) stEnd (tEnd CW PL) := by
  refine ps_imp (t := _) (ps_ret (pe_and (pe_cmpR (op_eqP hr.units) (pe_tup (pa_cons (pe_fld (pv 19) rfl) (pa_cons (pe_fld (pv 19) rfl) (pa_cons (pe_fld (pv 19) rfl) (pa_cons (pe_fld (pv 19) rfl) (pa_cons (pe_fld (pv 19) rfl) pa_nil)))))) (pe_tup (pa_cons pe_int (pa_cons pe_str (pa_cons pe_int (pa_cons pe_int (pa_cons pe_non pa_nil)))))) (nomark _)) (pe_one (pe_cmpR (op_eqP hr.units) (pe_lc (own := [("f", 20)]) (g := gName 20) (by rfl) scLaw.nd (pi_list (pe_lst (pa_cons (pe_lamv TB rfl rfl rfl (by decide +kernel)) (pa_cons (pe_lamv TB rfl rfl rfl (by decide +kernel)) pa_nil)))) (blkOk_by (own := [("f", 20)]) (N := ["script", "dice", "length", "time", "done", "queue", "own", "count", "rows", "step", "sort", "wait", "number", "due", "receipt", "good", "word", "told_now", "row", "one", "f"]) (sc := (defScope sLaw)) (by decide +kernel)) (fun _ _ _ _ _ => (pg_name (i := 20) scLaw.nd rfl (Or.inl rfl))) (fun _ _ _ _ _ => pts_nil) (fun _ _ _ _ _ => (pe_c c__law_told hr (by decide) (by rfl) (pa_cons (pv 20) pa_nil)))) (pe_op op_rep (pe_lst (pa_cons pe_str pa_nil)) pe_int) (nomark _))))) ?_
  rintro D σ H ⟨F, o, dx, t, c, v1, v2, v3, v4, v5, v6, v7, v8, v9, v10, v11, v12, v13, v14, v15, v16, v17, v18, v20, rfl, hL, k⟩
  have c2 := X.clW
  have f5 := X.nW "body" (by decide +kernel)
  have f6 := X.nW "number" (by decide +kernel)
  have f7 := X.nW "ready" (by decide +kernel)
  have f8 := X.nW "takes" (by decide +kernel)
  have f9 := X.nW "receipt" (by decide +kernel)
  unfold vW at hL
  fail "go"
  have dT : ∀ {K : PySem.W.Frag} {H : Hp}, DpAll K H [V.int 4, .str (Str.ofString "b"), .int 7, .int 0, .non] [.int 4, .str (Str.ofString "b"), .int 7, .int 0, .none] := .cons (.int _) (.cons (.str _) (.cons (.int _) (.cons (.int _) (.cons .non .nil))))
  refine k_eqSame (dp_tup (hL.at ⟨1, rfl⟩) dT) (dp_tup (hL.at ⟨0, rfl⟩) dT) ⟨by simp [PyData.plain, PyData.plainAll], by simp [PyData.depth, PyData.depthAll]⟩ ?_
  refine ⟨_, rfl, iteT ?_⟩
  have hP : H PL = some (.tbl #[]) := hL.at ⟨3, rfl⟩
  clear hL
  refine ⟨TabS.nil hP, fun f1 k1 H1 e1 T1 n1 a1 b1 => ?_⟩
  refine ⟨T1, fun f2 k2 H2 e2 T2 n2 a2 b2 => ?_⟩
  refine ⟨Nat.le_of_ble_eq_true rfl, fun p hp => ?_⟩
  replace a1 := e2 _ _ a1 (fun ps z => by unfold LamO at z; cases z)
  replace b1 := e2 _ _ b1 (fun ps => codeO_ne ps)
  have keep : ∀ b o, H2 b = some o → upd H2 p (.lst [.ref f1, .ref f2]) b = some o := fun b o e => by rw [upd_ne (ne_of_none e hp)]; exact e
  replace a1 := keep _ _ a1
  replace b1 := keep _ _ b1
  replace a2 := keep _ _ a2
  replace b2 := keep _ _ b2
  have hpl : upd H2 p (.lst [.ref f1, .ref f2]) p = some (.lst [.ref f1, .ref f2]) := upd_same
  generalize upd H2 p (.lst [.ref f1, .ref f2]) = H3 at a1 b1 a2 b2 hpl ⊢
  clear keep
  refine ⟨p, rfl, ⟨_, .of hpl⟩, fun D2 hD => ?_⟩
  have np : p ≠ D2 := ne_of_none hpl hD
  have nf : f2 ≠ D2 := ne_of_none a2 hD
  have nk : k2 ≠ D2 := ne_of_none b2 hD
  refine lc_list (K := K) (a := p) (xs := [.ref f1, .ref f2]) (fun i H => Hold ((i = 0 ∧ H D2 = some (.lst []) ∧ H p = H3 p ∧ H f1 = H3 f1 ∧ H k1 = H3 k1 ∧ H f2 = H3 f2 ∧ H k2 = H3 k2) ∨ (i = 1 ∧ H D2 = some (.lst [.str (Str.ofString "QueueError")]) ∧ H p = H3 p ∧ H f2 = H3 f2 ∧ H k2 = H3 k2) ∨
    (i = 2 ∧ H D2 = some (.lst [.str (Str.ofString "QueueError"), .str (Str.ofString "QueueError")]) ∧ H p = H3 p))) ?_ ?_ ?_ ?_
  · exact .mk (.inl ⟨rfl, upd_same, upd_ne np, upd_ne (ne_of_none a1 hD), upd_ne (ne_of_none b1 hD), upd_ne nf, upd_ne nk⟩)
  · intro i H _ h
    rcases h.out with ⟨_, _, q, _⟩ | ⟨_, _, q, _⟩ | ⟨_, _, q⟩
    · exact .of (q.trans hpl)
    · exact .of (q.trans hpl)
    · exact .of (q.trans hpl)
  · intro i x H hx h
    rcases h.out with ⟨rfl, q0, q1, q2, q3, q4, q5⟩ | ⟨rfl, q0, q1, q4, q5⟩ | ⟨rfl, _⟩
    · obtain rfl : V.ref f1 = x := Option.some.inj hx
      clear h
      refine ⟨rfl, k_yes ?_⟩
      fail "go"
      refine ⟨f1, _, _, tl1 CE, rfl, q2.trans a1, q3.trans b1, l1 f1 k1 _, fun H' same => ⟨true, TE.em, fun _ => ?_, fun h => nomatch h⟩⟩
      refine ⟨[], same _ _ q0, by decide, .mk (.inr (.inl ⟨rfl, upd_same, ?_, ?_, ?_⟩))⟩
      · rw [upd_ne np, hpl]; exact same _ _ (q1.trans hpl)
      · rw [upd_ne nf, a2]; exact same _ _ (q4.trans a2)
      · rw [upd_ne nk, b2]; exact same _ _ (q5.trans b2)
    · obtain rfl : V.ref f2 = x := Option.some.inj hx
      clear h
      refine ⟨rfl, k_yes ?_⟩
      fail "go"
      refine ⟨f2, _, _, tl2 CE, rfl, q4.trans a2, q5.trans b2, l2 f2 k2 _, [(D2, .lst [.str (Str.ofString "QueueError")]), (p, .lst [.ref f1, .ref f2])], ⟨fun x hx => ?_, by simp [np.symm]⟩, fun H' hL => ⟨true, TE.em, fun _ => ?_, fun h => nomatch h⟩⟩
      · simp only [List.mem_cons, List.not_mem_nil, or_false] at hx
        rcases hx with rfl | rfl
        · exact q0
        · exact q1.trans hpl
      · refine ⟨_, hL.at ⟨0, rfl⟩, by decide, .mk (.inr (.inr ⟨rfl, upd_same, ?_⟩))⟩
        rw [upd_ne np, hpl]
        exact hL.at ⟨1, rfl⟩
    · cases hx
  · intro H h
    rcases h.out with ⟨q, _⟩ | ⟨q, _⟩ | ⟨_, q0, _⟩
    · cases q
    · cases q
    · have hL : Led H [(D2, .lst [.str (Str.ofString "QueueError"), .str (Str.ofString "QueueError")])] := ⟨fun x hx => by rw [List.mem_singleton.mp hx]; exact q0, by simp⟩
      refine ⟨Nat.le_of_ble_eq_true rfl, ?_⟩
      fail "gn"
      refine ⟨_, 2, _, rfl, rfl, hL.at ⟨0, rfl⟩, by decide, by decide, by decide, ?_⟩
      fail "gn"
      have dq : ∀ {K : PySem.W.Frag} {H : Hp}, DpAll K H [V.str (Str.ofString "QueueError"), .str (Str.ofString "QueueError")] [.str (Str.ofString "QueueError"), .str (Str.ofString "QueueError")] := .cons (.str _) (.cons (.str _) .nil)
      refine k_eqSame (dp_lst (hL.at ⟨2, rfl⟩) dq) (dp_lst (hL.at ⟨0, rfl⟩) dq) shal_1 ?_
      exact k _
end
end Sd


namespace Sd
open PySem L2 LamX
open C8 (Cal Met Mak pe_c pe_mk pe_mt pe_mt0 tCut)
set_option hygiene false
local macro_rules | `(tactic| fail "nd") => `(tactic| first | assumption | decide +kernel)
local macro_rules | `(tactic| fail "ix") => `(tactic| first | exact ⟨0, rfl⟩ | exact ⟨1, rfl⟩ | exact ⟨2, rfl⟩ | exact ⟨3, rfl⟩ | exact ⟨4, rfl⟩ | exact ⟨5, rfl⟩ | exact ⟨6, rfl⟩ | exact ⟨7, rfl⟩ | exact ⟨8, rfl⟩ | exact ⟨9, rfl⟩ | exact ⟨10, rfl⟩ | exact ⟨11, rfl⟩ | exact ⟨12, rfl⟩ | assumption)
local macro_rules | `(tactic| fail "up") => `(tactic| first | exact ⟨0, rfl, rfl⟩ | exact ⟨1, rfl, rfl⟩ | exact ⟨2, rfl, rfl⟩ | exact ⟨3, rfl, rfl⟩ | exact ⟨4, rfl, rfl⟩ | exact ⟨5, rfl, rfl⟩ | exact ⟨6, rfl, rfl⟩ | exact ⟨7, rfl, rfl⟩ | exact ⟨8, rfl, rfl⟩ | exact ⟨9, rfl, rfl⟩ | exact ⟨10, rfl, rfl⟩ | exact ⟨11, rfl, rfl⟩ | exact ⟨12, rfl, rfl⟩ | assumption)
local macro_rules | `(tactic| fail "lkF") => `(tactic| first | assumption | exact fz_at 0 (by fail "nd") rfl rfl | exact fz_at 1 (by fail "nd") rfl rfl | exact fz_at 2 (by fail "nd") rfl rfl | exact fz_at 3 (by fail "nd") rfl rfl | exact fz_at 4 (by fail "nd") rfl rfl | exact fz_at 5 (by fail "nd") rfl rfl | exact fz_at 6 (by fail "nd") rfl rfl | exact fz_at 7 (by fail "nd") rfl rfl)
local macro_rules | `(tactic| fail "lkD") => `(tactic| first | assumption | exact dz_at 0 (by fail "nd") rfl rfl | exact dz_at 1 (by fail "nd") rfl rfl | exact dz_at 2 (by fail "nd") rfl rfl | exact dz_at 3 (by fail "nd") rfl rfl | exact dz_at 4 (by fail "nd") rfl rfl)
local macro_rules | `(tactic| fail "ptF") => `(tactic| first | assumption | exact fz_put 0 (by fail "nd") rfl (Nat.le_of_ble_eq_true rfl) | exact fz_put 1 (by fail "nd") rfl (Nat.le_of_ble_eq_true rfl) | exact fz_put 2 (by fail "nd") rfl (Nat.le_of_ble_eq_true rfl) | exact fz_put 3 (by fail "nd") rfl (Nat.le_of_ble_eq_true rfl) | exact fz_put 4 (by fail "nd") rfl (Nat.le_of_ble_eq_true rfl) | exact fz_put 5 (by fail "nd") rfl (Nat.le_of_ble_eq_true rfl) | exact fz_put 6 (by fail "nd") rfl (Nat.le_of_ble_eq_true rfl) | exact fz_put 7 (by fail "nd") rfl (Nat.le_of_ble_eq_true rfl) | exact fz_new (by decide +kernel) rfl)
local macro_rules | `(tactic| fail "ptD") => `(tactic| first | assumption | exact dz_put 0 (by fail "nd") rfl (Nat.le_of_ble_eq_true rfl) | exact dz_put 1 (by fail "nd") rfl (Nat.le_of_ble_eq_true rfl) | exact dz_put 2 (by fail "nd") rfl (Nat.le_of_ble_eq_true rfl) | exact dz_put 3 (by fail "nd") rfl (Nat.le_of_ble_eq_true rfl) | exact dz_put 4 (by fail "nd") rfl (Nat.le_of_ble_eq_true rfl))
local macro_rules | `(tactic| fail "sz") => `(tactic| first | assumption | exact (Nat.le_of_ble_eq_true rfl) | omega | decide)
local macro_rules | `(tactic| fail "sd") => `(tactic| first | rfl | assumption | decide | omega | (dsimp only; first | decide | omega) | exact .inr ⟨by decide, by decide⟩ | exact .inl ⟨by decide, by decide⟩ | exact ⟨by omega, by omega⟩ | exact .inl ⟨by omega, by omega⟩ | exact .inr ⟨by omega, by omega⟩ | exact ⟨by omega, by omega, by omega⟩)
local macro_rules | `(tactic| fail "cl") => `(tactic| (clear hH; dsimp only [List.set, List.cons_append, List.nil_append, List.append] at hL))
local macro_rules | `(tactic| fail "gn") => `(tactic| (intro p hp; generalize hH : upd H p _ = H; replace hL := Led.newH hL hp hH; clear hH hp))
local macro_rules | `(tactic| fail "gup") => `(tactic| (generalize hH : upd H _ _ = H; replace hL := Led.upU hL (by fail "up") hH; fail "cl"))
local macro_rules | `(tactic| fail "gmk") => `(tactic| (intro x dx hx hd ne; generalize hH : upd (upd H dx _) x _ = H; replace hL := Led.made hL hx hd ne hH; clear hH hx hd ne))
local macro_rules | `(tactic| fail "v") => `(tactic| refine ⟨_, rfl, ?_⟩)
local macro_rules | `(tactic| fail "i2") => `(tactic| refine ⟨_, _, rfl, rfl, ?_⟩)
local macro_rules | `(tactic| fail "go1") => `(tactic| first
  | refine ⟨_, rfl, ?_⟩
  | refine ⟨_, _, rfl, rfl, ?_⟩
  | refine ⟨_, _, rfl, ?_⟩
  | refine iteT ?_
  | refine iteF ?_
  | refine k_fld hL (by fail "ix") (by assumption) (by assumption) (by fail "lkF") ?_
  | refine k_dgetS hL (by fail "ix") (by fail "lkD") ?_
  | refine k_dgetI hL (by fail "ix") (by assumption) ?_
  | refine k_ixL hL (by fail "ix") (by first | rfl | assumption) ?_
  | refine k_ixT hL (by fail "ix") (by first | rfl | assumption) ?_
  | refine k_tyL hL (by fail "ix") ?_
  | refine k_isd hL (by fail "ix") ?_
  | (refine And.intro (by fail "sz") ?_; fail "gn")
  | refine And.intro (by fail "sd") ?_
  | fail "gn"
  | refine k_meth hL (by fail "ix") (by first | assumption | exact fz_no (by decide +kernel)) ?_
  | refine k_gtup hL (by fail "ix") rfl ?_
  | (refine k_popI hL (by fail "ix") (by assumption) ?_; fail "gup")
  | (refine k_listD hL (by fail "ix") ?_; fail "gn")
  | (refine ⟨_, _, _, _, rfl, rfl, hL.at (by fail "ix"), rfl, ?_⟩; fail "gup")
  | (refine ⟨_, _, _, rfl, rfl, hL.at (by fail "ix"), (by fail "sz"), ?_⟩; fail "gup")
  | (refine ⟨_, _, _, _, rfl, hL.at (by fail "ix"), by assumption, by assumption, Nat.lt_of_le_of_lt fz_len (by decide), ?_⟩; generalize hH : upd H _ _ = H; replace hL := Led.upF hL (by fail "up") (by fail "ptF") hH; fail "cl")
  | (refine ⟨_, _, hL.at (by fail "ix"), Nat.lt_of_le_of_lt fz_len (by decide), ?_⟩; generalize hH : upd H _ _ = H; replace hL := Led.upF hL (by fail "up") (by fail "ptF") hH; fail "cl")
  | (refine k_dputS hL (by fail "ix") (Nat.lt_of_le_of_lt dz_len (by decide)) (by fail "ptD") (by fail "up") ?_; clear hL; intro H hL; dsimp only [List.set, List.cons_append, List.nil_append, List.append] at hL)
  | refine .inl ⟨_, rfl, ?_⟩
  | refine .inr ⟨_, rfl, ?_⟩)
local macro_rules | `(tactic| fail "go") => `(tactic| repeat fail "go1")

def spLaw (K : PySem.W.Frag) (PL : Addr) : Sp := fun vs H Q _ => ∃ (a : Addr) (ns : List Int), vs = [.ref a] ∧ SqL K H a (ns.map V.int) ∧ ns.length ≤ 63 ∧ H PL = some (.tbl #[]) ∧ ∀ H', Q (.bl true) H'
section
variable {P : Program} {w : World} {K : PySem.W.Frag} {mg : Str → Option Value} {base : Heap} {CW CQ CE : Addr} {f cL PL : Addr} {A : Around} {outer : List Env} {s0 : Shared} {H0 : Hp} {E : XK} {k0 : Nat}
theorem law_body (hr : Room 8 (LX P w K mg base f (.ref cL) A outer s0 H0 E).A) (X : TxtQ K mg CW CQ) (T : TxtV mg) (c__law_roll : Cal P w K mg base 1 "_law_roll" spRoll []) (c__law_rounds : Cal P w K mg base 2 "_law_rounds" (spRounds K) [])
    (c_WorkQueue : Mak P w K mg base 1 "WorkQueue" CQ (spQInit CW CQ) []) (c_Work : Mak P w K mg base 1 "Work" CW (spWInit CW) [])
    (b1 : PSs (LX P w K mg base f (.ref cL) A outer s0 H0 E) blkPut (tBlk CW CQ)) (b2 : PSs (LX P w K mg base f (.ref cL) A outer s0 H0 E) blkTake (tBlk CW CQ)) (b3 : PSs (LX P w K mg base f (.ref cL) A outer s0 H0 E) blkHold (tHold CW CQ))
    (b4 : PS (LX P w K mg base f (.ref cL) A outer s0 H0 E) stRows (tRows CW CQ)) (b5 : PS (LX P w K mg base f (.ref cL) A outer s0 H0 E) stNums (tNums CW CQ)) (b6 : PS (LX P w K mg base f (.ref cL) A outer s0 H0 E) stEnd (tEnd CW PL))
    {vs : List V} {H : Hp} {Q : VK} (h : spLaw K PL vs H Q E) : ∃ t, PSs (LX P w K mg base f (.ref cL) A outer s0 H0 E) (defBody sLaw) t ∧ t { nx := fun _ H' => Q .non H', rt := Q } (L2.start NL vs) H := by
  obtain ⟨a, ns, rfl, hS, hlen, hP, k⟩ := h
  refine ⟨_, (pss_cons (ps_for PassesOwn.never rfl (pi_list (pe_c c__law_rounds hr (by decide) (by rfl) (pa_cons (pv 0) (pa_cons pe_int pa_nil)))) (pg_name (i := 1) scLaw.nd rfl (Or.inl rfl))
  (pss_cons (ps_par3 (i := 2) (j := 3) (l := 4) (by rfl) scLaw.nd rfl rfl rfl (by decide) (by decide) (by decide) rfl rfl rfl (pa_cons (pe_op op_add pe_int (pe_c c__law_roll hr (by decide) (by rfl) (pa_cons (pv 1) (pa_cons pe_int pa_nil)))) (pa_cons pe_int (pa_cons (pe_lst pa_nil) pa_nil))) (by rfl))
  (pss_cons (ps_par3 (i := 5) (j := 6) (l := 7) (by rfl) scLaw.nd rfl rfl rfl (by decide) (by decide) (by decide) rfl rfl rfl (pa_cons (pe_mk c_WorkQueue hr (by decide) (by rfl) (pa_cons (pv 2) pa_nil)) (pa_cons (pe_disp (pps_cons pe_str pe_dnewK (pps_cons pe_str (pe_lst pa_nil) (pps_cons pe_str pe_int pps_nil))) (by rfl) (by rfl) (fun z => by cases z) (by decide)) (pa_cons pe_int pa_nil))) (by rfl))
  (pss_cons (ps_set (i := 8) scLaw.nd rfl (Or.inr rfl) (pe_dget (hu_of hr) (pv 6) pe_str (fun _ _ => rfl)))
  (pss_one (ps_for PassesOwn.never rfl (pi_range1 (by rfl) T.range (pa_cons (pe_c c__law_roll hr (by decide) (by rfl) (pa_cons (pv 1) (pa_cons pe_int pa_nil))) pa_nil)) (pg_name (i := 9) scLaw.nd rfl (Or.inl rfl))
  (pss_cons (ps_par (i := 3) (j := 10) (by rfl) scLaw.nd rfl rfl (by decide) rfl rfl (pa_cons (pe_op op_add (pv 3) (pe_c c__law_roll hr (by decide) (by rfl) (pa_cons (pv 1) (pa_cons pe_int pa_nil)))) (pa_cons (pe_c c__law_roll hr (by decide) (by rfl) (pa_cons (pv 1) (pa_cons pe_int pa_nil))) pa_nil)) (by rfl))
  (C8.pss_cut (ps_if (pt_cmpR op_lt (pv 10) pe_int (nomark _))
  b1
  (pss_one (ps_if (pt_cmpR op_lt (pv 10) pe_int (nomark _))
  b2
  (pss_one (ps_if (pt_cmpR op_gt (pe_dget (hu_of hr) (pv 6) pe_str (fun _ _ => rfl)) pe_int (nomark _))
  b3
  pss_nil)))))
  (pss_cons b4
  (pss_one b5))))))))))
  (pss_cons (ps_set (i := 19) scLaw.nd rfl (Or.inl rfl) (pe_mk c_Work hr (by decide) (by rfl) (pa_cons pe_int (pa_cons pe_str (pa_cons pe_int pa_nil)))))
  (pss_one b6))), ?_⟩
  have hL : Led H [(PL, .tbl #[])] := ⟨fun x hx => by rw [List.mem_singleton.mp hx]; exact hP, by simp⟩
  fail "go"
  refine ⟨a, ns, _, rfl, hS, hL, fun pr d x y z H hL => ?_⟩
  fail "go"
  refine ⟨⟨_, .of (hL.at ⟨0, rfl⟩)⟩, for_list (K := K) (a := pr) (xs := [.ref d]) (fun i σ H => Hold ((i = 0 ∧ σ = L2.start NL [.ref a] ∧ Led H ((pr, .lst [.ref d]) :: (d, dD x y z) :: [(PL, .tbl #[])])) ∨
    (i = 1 ∧ (∃ v1 v2 v3 v4 v5 v6 v7 v8 v9 v10 v11 v12 v13 v14 v15 v16 v17 v18 v19 v20 : Option V, σ = [some (.ref a), v1, v2, v3, v4, v5, v6, v7, v8, v9, v10, v11, v12, v13, v14, v15, v16, v17, v18, v19, v20]) ∧ Led H ((pr, .lst [.ref d]) :: [(PL, .tbl #[])])))) ?_ ?_ ?_ ?_⟩
  · exact .mk (.inl ⟨rfl, rfl, hL⟩)
  · intro i σ H _ h
    rcases h.out with ⟨_, _, hL⟩ | ⟨_, _, hL⟩
    · exact .of (hL.at ⟨0, rfl⟩)
    · exact .of (hL.at ⟨0, rfl⟩)
  · intro i y0 σ H hy h
    rcases h.out with ⟨rfl, rfl, hL⟩ | ⟨rfl, _⟩
    · obtain rfl : V.ref d = y0 := Option.some.inj hy
      clear h hy
      fail "go"
      refine ⟨d, x, y, z, 9, _, rfl, hL.perm (List.Perm.swap _ _ _), by decide, by decide, fun r0 x y z H hr0 hr1 hL => ?_⟩
      refine ⟨_, _, rfl, rfl, ?_⟩
      refine ⟨Nat.zero_le _, ?_⟩
      intro dn hdn; generalize hH : upd H dn _ = H; replace hL := Led.newH hL hdn hH; clear hH hdn
      refine ⟨_, _, _, rfl, ?_⟩
      fail "go"
      fail "gmk"
      refine ⟨_, _, 1 + r0, _, rfl, by omega, hL, fun rd g H hL => ⟨rfl, ?_⟩⟩
      simp only [QL, List.map_nil, List.append_nil, List.cons_append, List.nil_append] at hL
      intro po hpo; generalize hH : upd H po _ = H; replace hL := Led.newH hL hpo hH; clear hH hpo
      intro rr hrr; generalize hH : upd H rr _ = H; replace hL := Led.newH hL hrr hH; clear hH hrr
      refine ⟨Nat.zero_le _, ?_⟩
      intro gg hgg; generalize hH : upd H gg _ = H; replace hL := Led.newH hL hgg hH; clear hH hgg
      refine ⟨hL.at ⟨2, rfl⟩, dz nmO [.ref rr, .ref gg, .int 1], rfl, Nat.le_of_ble_eq_true rfl, ?_⟩
      rw [mergeK_dz (by decide +kernel) rfl]
      generalize hH : upd H po _ = H
      replace hL := Led.upU (o' := .dK (dz nmO [.ref rr, .ref gg, .int 1])) hL ⟨2, rfl, rfl⟩ hH
      dsimp only [List.set] at hL
      clear hH
      refine ⟨_, _, _, rfl, ?_⟩
      fail "go"
      have h1 := Led.front (A := [_, _, _, _, _, _]) hL
      have h2 := Led.front (A := [_]) h1
      have h3 := Led.front (A := [_, _]) h2
      have h4 := Led.front (A := [_, _, _]) h3
      have h5 := Led.front (A := [_, _, _, _, _, _]) h4
      have h6 := Led.front (A := [_, _, _, _, _, _]) h5
      have h7 := Led.front (A := [_, _, _, _, _, _]) h6
      have h8 := Led.front (A := [_, _, _, _, _, _, _]) h7
      simp only [List.cons_append, List.nil_append] at h8
      clear h1 h2 h3 h4 h5 h6 h7 hL
      refine ⟨d, _, _, _, 81, _, rfl, h8, by decide, by decide, fun r1 x1 y1 z1 H hr10 hr11 hL => ?_⟩
      refine ⟨r1, rfl, by omega, by omega, ?_⟩
      refine for_range (lo := 0) (n := r1.toNat) (fun i σ H => Hold (Okk CW CQ ⟨a, d, dn, x, dx, rd, g, po, rr, 1 + r0⟩ [(pr, .lst [.ref d]), (PL, .tbl #[])] i σ H)) ?_ ?_ ?_
      · refine .mk ⟨⟨[], [], [], [], [], gg, 0, 0, 1, x1, y1, z1⟩, ⟨_, _, _, _, _, _, _, _, _, _, _, _, rfl⟩, ⟨rfl, rfl, List.Pairwise.nil, .refl _, Nat.le_refl _, Int.le_refl 1, Int.le_refl 1⟩, ?_⟩
        simpa [LL, objs] using hL
      · intro i σ H hi h
        obtain ⟨s, ⟨v9, v10, v11, v12, v13, v14, v15, v16, v17, v18, v19, v20, rfl⟩, I, hL⟩ := h.out
        clear h
        have hi81 : i < 81 := by omega
        fail "go"
        refine ⟨d, s.x, s.y, s.z, 3, _, rfl, hL, by decide, by decide, fun r2 x2 y2 z2 H hr20 hr21 hL => ?_⟩
        fail "go"
        refine ⟨d, x2, y2, z2, 10, _, rfl, hL, by decide, by decide, fun so x3 y3 z3 H hso0 hso1 hL => ?_⟩
        fail "go"
        have I2 := li_same (x := x3) (y := y3) (z := z3) (t := s.t + r2) I
        have hL2 : Led H (LL CW CQ ⟨a, d, dn, x, dx, rd, g, po, rr, 1 + r0⟩ { s with x := x3, y := y3, z := z3, t := s.t + r2 } [(pr, .lst [.ref d]), (PL, .tbl #[])]) := hL
        refine ⟨fun σ H => Hold (Okk CW CQ ⟨a, d, dn, x, dx, rd, g, po, rr, 1 + r0⟩ [(pr, .lst [.ref d]), (PL, .tbl #[])] (i + 1) σ H), ?_, ?_⟩
        · fail "go"
          refine ite_d (fun q1 => ?_) (fun q1 => ?_)
          · exact ⟨_, _, i, hi81, ⟨{ s with x := x3, y := y3, z := z3, t := s.t + r2 }, ⟨_, _, _, _, _, _, _, _, _, _, _, _, rfl⟩, I2, hL2⟩, fun σ' H' h => .mk h⟩
          · fail "go"
            refine ite_d (fun q2 => ?_) (fun q2 => ?_)
            · exact ⟨_, _, i, hi81, ⟨{ s with x := x3, y := y3, z := z3, t := s.t + r2 }, ⟨_, _, _, _, _, _, _, _, _, _, _, _, rfl⟩, I2, hL2⟩, fun σ' H' h => .mk h⟩
            · fail "go"
              refine ite_d (fun q3 => ?_) (fun q3 => ?_)
              · exact ⟨⟨a, d, dn, x, dx, rd, g, po, rr, 1 + r0⟩, _, i, { s with x := x3, y := y3, z := z3, t := s.t + r2 }, so, _, _, _, _, _, _, _, _, _, _, _, hi81, rfl, by omega, by omega, I2, hL2, fun σ' H' h => .mk h⟩
              · exact .mk ⟨{ s with x := x3, y := y3, z := z3, t := s.t + r2 }, ⟨_, _, _, _, _, _, _, _, _, _, _, _, rfl⟩, li_mono I, hL2⟩
        · intro σ H h
          obtain ⟨s, ⟨v9, v10, v11, v12, v13, v14, v15, v16, v17, v18, v19, v20, rfl⟩, I, hL⟩ := h.out
          clear h
          have hln := li_len I
          have hc := I.c
          refine ⟨_, _, s, _, _, _, _, _, _, _, _, _, _, _, _, rfl, I.w, li_asco I, by omega, hL, fun H hL => ?_⟩
          exact ⟨_, _, i + 1, s, _, _, _, _, _, _, _, _, _, _, _, _, rfl, I, by omega, hL, fun H hL => .mk ⟨s, ⟨_, _, _, _, _, _, _, _, _, _, _, _, rfl⟩, I, hL⟩⟩
      · intro σ H h
        obtain ⟨s, ⟨v9, v10, v11, v12, v13, v14, v15, v16, v17, v18, v19, v20, rfl⟩, I, hL⟩ := h.out
        clear h
        refine .mk (.inr ⟨rfl, ⟨_, _, _, _, _, _, _, _, _, _, _, _, _, _, _, _, _, _, _, _, rfl⟩, ?_⟩)
        exact (hL.sub (B := [(pr, .lst [.ref d]), (PL, .tbl #[])]) (by
          unfold LL
          exact .cons _ (.cons _ (.cons _ (.cons _ (.cons _ (.cons _ (.cons _ (.cons _ (List.sublist_append_right _ _))))))))))
    · cases hy
  · intro σ H h
    rcases h.out with ⟨q, _⟩ | ⟨_, ⟨v1, v2, v3, v4, v5, v6, v7, v8, v9, v10, v11, v12, v13, v14, v15, v16, v17, v18, v19, v20, rfl⟩, hL⟩
    · cases q
    · clear h
      fail "go"
      fail "gmk"
      refine ⟨_, _, 4, 7, .str (Str.ofString "b"), _, rfl, hL, fun H hL => ⟨rfl, ?_⟩⟩
      exact ⟨⟨a, 0, 0, 0, 0, 0, 0, 0, 0, 0⟩, _, _, 0, 0, _, _, _, _, _, _, _, _, _, _, _, _, _, _, _, _, _, _, _, rfl, hL.sub (.cons_cons _ (List.sublist_cons_self _ _)), k⟩
end
end Sd


namespace Sd
open PySem L2
open C8 (Cal Met Mak)
theorem all_mk {l : PySem.W.OpenLaw} {w : World} {K : PySem.W.Frag} {h : Heap} {mg : Str → Option Value} {fa : Addr} (X : K.In h) (G : h.Ns mainGlobals mg) (hfa : mg "law" = some (.ref fa)) (own : LamX.OwnTab K fa h)
    {C_Work : Addr}
    {f1 : Addr} {od1 an1 : Option Addr} {sl1 : Array (Option Value)} {oc1 kV1 dc1 pm1 cd1 ct1 : Value}
    {C_WorkQueue : Addr}
    {f2 : Addr} {od2 an2 : Option Addr} {sl2 : Array (Option Value)} {oc2 kV2 dc2 pm2 cd2 ct2 : Value}
    {f3 : Addr} {od3 an3 : Option Addr} {sl3 : Array (Option Value)} {oc3 kV3 dc3 pm3 cd3 ct3 : Value}
    {T3 : Addr} {tc3 : Value} {td3 : Option Addr} {tsl3 : Array (Option Value)} {tn3 : Nat} {tv3_0 : Tok}
    {f4 : Addr} {od4 an4 : Option Addr} {sl4 : Array (Option Value)} {oc4 kV4 dc4 pm4 cd4 ct4 : Value}
    {f5 : Addr} {od5 an5 : Option Addr} {sl5 : Array (Option Value)} {oc5 kV5 dc5 pm5 cd5 ct5 : Value}
    {f6 : Addr} {od6 an6 : Option Addr} {sl6 : Array (Option Value)} {oc6 kV6 dc6 pm6 cd6 ct6 : Value}
    {f7 : Addr} {od7 an7 : Option Addr} {sl7 : Array (Option Value)} {oc7 kV7 dc7 pm7 cd7 ct7 : Value}
    {f8 : Addr} {od8 an8 : Option Addr} {sl8 : Array (Option Value)} {oc8 kV8 dc8 pm8 cd8 ct8 : Value}
    {f9 : Addr} {od9 an9 : Option Addr} {sl9 : Array (Option Value)} {oc9 kV9 dc9 pm9 cd9 ct9 : Value}
    {f10 : Addr} {od10 an10 : Option Addr} {sl10 : Array (Option Value)} {oc10 kV10 dc10 pm10 cd10 ct10 : Value}
    {f11 : Addr} {od11 an11 : Option Addr} {sl11 : Array (Option Value)} {oc11 kV11 dc11 pm11 cd11 ct11 : Value}
    {f12 : Addr} {od12 an12 : Option Addr} {sl12 : Array (Option Value)} {oc12 kV12 dc12 pm12 cd12 ct12 : Value}
    {f13 : Addr} {od13 an13 : Option Addr} {sl13 : Array (Option Value)} {oc13 kV13 dc13 pm13 cd13 ct13 : Value}
    {f14 : Addr} {od14 an14 : Option Addr} {sl14 : Array (Option Value)} {oc14 kV14 dc14 pm14 cd14 ct14 : Value}
    {C_QueueError : Addr}
    {g_MOST_TAKES : Tok}
    {cL PL : Addr} {vL : Array Value} {eL : Value} {dL : Option Addr} {sL_ : Array (Option Value)}
    (n_Work : PySem.W.nsIn K mainGlobals "Work" = some (some (.ref C_Work)))
    (pg_Work : PySem.W.plainGet K C_Work Str.empty = true)
    (hd_Work : PySem.W.hasDictIn K C_Work = true)
    (po_Work : PySem.W.plainOver K C_Work = true)
    (sa_Work : PySem.W.findIn K (.ref C_Work) "__setattr__" = some (some (.builtin "object.__setattr__")))
    (mk_Work : PySem.W.makesIn K C_Work = true)
    (kc_Work : PySem.W.keepIn K (.ref C_Work) = true)
    (na_Work_number : PySem.W.findIn K (.ref C_Work) "number" = some none)
    (na_Work_body : PySem.W.findIn K (.ref C_Work) "body" = some none)
    (na_Work_ready : PySem.W.findIn K (.ref C_Work) "ready" = some none)
    (na_Work_takes : PySem.W.findIn K (.ref C_Work) "takes" = some none)
    (na_Work_receipt : PySem.W.findIn K (.ref C_Work) "receipt" = some none)
    (a1 : PySem.W.findIn K (.ref C_Work) "__init__" = some (some (.ref f1)))
    (i1 : PySem.W.isFn K (.ref f1) = true)
    (l1 : K.lookup f1 = some ⟨oc1, od1, .func (PySem.W.fnOf "__init__" "Work.__init__" (defArgs sWInit) (defBody sWInit) (defScope sWInit) .none kV1 dc1 pm1 an1 cd1 ct1), sl1⟩)
    (c1 : PySem.W.codeIn K cd1 "Work.__init__" = true)
    (k1 : PySem.W.keepIn K (.ref f1) = true)
    (n_WorkQueue : PySem.W.nsIn K mainGlobals "WorkQueue" = some (some (.ref C_WorkQueue)))
    (pg_WorkQueue : PySem.W.plainGet K C_WorkQueue Str.empty = true)
    (hd_WorkQueue : PySem.W.hasDictIn K C_WorkQueue = true)
    (po_WorkQueue : PySem.W.plainOver K C_WorkQueue = true)
    (sa_WorkQueue : PySem.W.findIn K (.ref C_WorkQueue) "__setattr__" = some (some (.builtin "object.__setattr__")))
    (mk_WorkQueue : PySem.W.makesIn K C_WorkQueue = true)
    (kc_WorkQueue : PySem.W.keepIn K (.ref C_WorkQueue) = true)
    (na_WorkQueue_length : PySem.W.findIn K (.ref C_WorkQueue) "length" = some none)
    (na_WorkQueue_rows : PySem.W.findIn K (.ref C_WorkQueue) "rows" = some none)
    (na_WorkQueue_given_up : PySem.W.findIn K (.ref C_WorkQueue) "given_up" = some none)
    (na_WorkQueue_next_number : PySem.W.findIn K (.ref C_WorkQueue) "next_number" = some none)
    (na_WorkQueue_next_receipt : PySem.W.findIn K (.ref C_WorkQueue) "next_receipt" = some none)
    (a2 : PySem.W.findIn K (.ref C_WorkQueue) "__init__" = some (some (.ref f2)))
    (i2 : PySem.W.isFn K (.ref f2) = true)
    (l2 : K.lookup f2 = some ⟨oc2, od2, .func (PySem.W.fnOf "__init__" "WorkQueue.__init__" (defArgs sQInit) (defBody sQInit) (defScope sQInit) .none kV2 dc2 pm2 an2 cd2 ct2), sl2⟩)
    (c2 : PySem.W.codeIn K cd2 "WorkQueue.__init__" = true)
    (k2 : PySem.W.keepIn K (.ref f2) = true)
    (a3 : PySem.W.findIn K (.ref C_WorkQueue) "put" = some (some (.ref f3)))
    (i3 : PySem.W.isFn K (.ref f3) = true)
    (l3 : K.lookup f3 = some ⟨oc3, od3, .func (PySem.W.fnOf "put" "WorkQueue.put" (defArgs sPut) (defBody sPut) (defScope sPut) (.ref T3) kV3 dc3 pm3 an3 cd3 ct3), sl3⟩)
    (c3 : PySem.W.codeIn K cd3 "WorkQueue.put" = true)
    (k3 : PySem.W.keepIn K (.ref f3) = true)
    (t3 : K.lookup T3 = some ⟨tc3, td3, .seq #[.int 0 tv3_0] tn3, tsl3⟩)
    (a4 : PySem.W.findIn K (.ref C_WorkQueue) "take" = some (some (.ref f4)))
    (i4 : PySem.W.isFn K (.ref f4) = true)
    (l4 : K.lookup f4 = some ⟨oc4, od4, .func (PySem.W.fnOf "take" "WorkQueue.take" (defArgs sTake) (defBody sTake) (defScope sTake) .none kV4 dc4 pm4 an4 cd4 ct4), sl4⟩)
    (c4 : PySem.W.codeIn K cd4 "WorkQueue.take" = true)
    (k4 : PySem.W.keepIn K (.ref f4) = true)
    (a5 : PySem.W.findIn K (.ref C_WorkQueue) "holds" = some (some (.ref f5)))
    (i5 : PySem.W.isFn K (.ref f5) = true)
    (l5 : K.lookup f5 = some ⟨oc5, od5, .func (PySem.W.fnOf "holds" "WorkQueue.holds" (defArgs sHolds) (defBody sHolds) (defScope sHolds) .none kV5 dc5 pm5 an5 cd5 ct5), sl5⟩)
    (c5 : PySem.W.codeIn K cd5 "WorkQueue.holds" = true)
    (k5 : PySem.W.keepIn K (.ref f5) = true)
    (a6 : PySem.W.findIn K (.ref C_WorkQueue) "done" = some (some (.ref f6)))
    (i6 : PySem.W.isFn K (.ref f6) = true)
    (l6 : K.lookup f6 = some ⟨oc6, od6, .func (PySem.W.fnOf "done" "WorkQueue.done" (defArgs sDone) (defBody sDone) (defScope sDone) .none kV6 dc6 pm6 an6 cd6 ct6), sl6⟩)
    (c6 : PySem.W.codeIn K cd6 "WorkQueue.done" = true)
    (k6 : PySem.W.keepIn K (.ref f6) = true)
    (a7 : PySem.W.findIn K (.ref C_WorkQueue) "give_back" = some (some (.ref f7)))
    (i7 : PySem.W.isFn K (.ref f7) = true)
    (l7 : K.lookup f7 = some ⟨oc7, od7, .func (PySem.W.fnOf "give_back" "WorkQueue.give_back" (defArgs sBack) (defBody sBack) (defScope sBack) .none kV7 dc7 pm7 an7 cd7 ct7), sl7⟩)
    (c7 : PySem.W.codeIn K cd7 "WorkQueue.give_back" = true)
    (k7 : PySem.W.keepIn K (.ref f7) = true)
    (a8 : PySem.W.findIn K (.ref C_WorkQueue) "longer" = some (some (.ref f8)))
    (i8 : PySem.W.isFn K (.ref f8) = true)
    (l8 : K.lookup f8 = some ⟨oc8, od8, .func (PySem.W.fnOf "longer" "WorkQueue.longer" (defArgs sLonger) (defBody sLonger) (defScope sLonger) .none kV8 dc8 pm8 an8 cd8 ct8), sl8⟩)
    (c8 : PySem.W.codeIn K cd8 "WorkQueue.longer" = true)
    (k8 : PySem.W.keepIn K (.ref f8) = true)
    (a9 : PySem.W.nsIn K mainGlobals "_law_dice" = some (some (.ref f9)))
    (l9 : K.lookup f9 = some ⟨oc9, od9, .func (PySem.W.fnOf "_law_dice" "_law_dice" (defArgs sDice) (defBody sDice) (defScope sDice) .none kV9 dc9 pm9 an9 cd9 ct9), sl9⟩)
    (c9 : PySem.W.codeIn K cd9 "_law_dice" = true)
    (k9 : PySem.W.keepIn K (.ref f9) = true)
    (a10 : PySem.W.nsIn K mainGlobals "_law_roll" = some (some (.ref f10)))
    (l10 : K.lookup f10 = some ⟨oc10, od10, .func (PySem.W.fnOf "_law_roll" "_law_roll" (defArgs sRoll) (defBody sRoll) (defScope sRoll) .none kV10 dc10 pm10 an10 cd10 ct10), sl10⟩)
    (c10 : PySem.W.codeIn K cd10 "_law_roll" = true)
    (k10 : PySem.W.keepIn K (.ref f10) = true)
    (a11 : PySem.W.nsIn K mainGlobals "_law_rounds" = some (some (.ref f11)))
    (l11 : K.lookup f11 = some ⟨oc11, od11, .func (PySem.W.fnOf "_law_rounds" "_law_rounds" (defArgs sRounds) (defBody sRounds) (defScope sRounds) .none kV11 dc11 pm11 an11 cd11 ct11), sl11⟩)
    (c11 : PySem.W.codeIn K cd11 "_law_rounds" = true)
    (k11 : PySem.W.keepIn K (.ref f11) = true)
    (a12 : PySem.W.nsIn K mainGlobals "_law_told" = some (some (.ref f12)))
    (l12 : K.lookup f12 = some ⟨oc12, od12, .func (PySem.W.fnOf "_law_told" "_law_told" (defArgs sTold) (defBody sTold) (defScope sTold) .none kV12 dc12 pm12 an12 cd12 ct12), sl12⟩)
    (c12 : PySem.W.codeIn K cd12 "_law_told" = true)
    (k12 : PySem.W.keepIn K (.ref f12) = true)
    (a13 : PySem.W.nsIn K mainGlobals "_law_taken" = some (some (.ref f13)))
    (l13 : K.lookup f13 = some ⟨oc13, od13, .func (PySem.W.fnOf "_law_taken" "_law_taken" (defArgs sTaken) (defBody sTaken) (defScope sTaken) .none kV13 dc13 pm13 an13 cd13 ct13), sl13⟩)
    (c13 : PySem.W.codeIn K cd13 "_law_taken" = true)
    (k13 : PySem.W.keepIn K (.ref f13) = true)
    (a14 : PySem.W.nsIn K mainGlobals "law" = some (some (.ref f14)))
    (l14 : K.lookup f14 = some ⟨oc14, od14, .func (PySem.W.fnOf "law" "law" (defArgs sLaw) (defBody sLaw) (defScope sLaw) .none kV14 dc14 pm14 an14 cd14 ct14), sl14⟩)
    (c14 : PySem.W.codeIn K cd14 "law" = true)
    (k14 : PySem.W.keepIn K (.ref f14) = true)
    (n_QueueError : PySem.W.nsIn K mainGlobals "QueueError" = some (some (.ref C_QueueError)))
    (ex_QueueError : PySem.W.excIn K C_QueueError [.type "ValueError", .type "Exception", .type "BaseException", .type "object"] "ValueError.__new__" = true)
    (kc_QueueError : PySem.W.keepIn K (.ref C_QueueError) = true)
    (sb_QueueError : PySem.W.subIn K (.ref C_QueueError) (.type "BaseException") = some true)
    (ty_QueueError : PySem.W.typeIn K (.ref C_QueueError) = some (.type "type"))
    (ic_QueueError : PySem.W.isClsIn K C_QueueError = true)
    (ss_QueueError : PySem.W.subIn K (.ref C_QueueError) (.ref C_QueueError) = some true)
    (z_abs : PySem.W.nsIn K mainGlobals "abs" = some none)
    (z_int : PySem.W.nsIn K mainGlobals "int" = some none)
    (z_list : PySem.W.nsIn K mainGlobals "list" = some none)
    (z_sorted : PySem.W.nsIn K mainGlobals "sorted" = some none)
    (z_range : PySem.W.nsIn K mainGlobals "range" = some none)
    (z_str : PySem.W.nsIn K mainGlobals "str" = some none)
    (z_max : PySem.W.nsIn K mainGlobals "max" = some none)
    (g_MOST_TAKES_ : PySem.W.nsIn K mainGlobals "MOST_TAKES" = some (some (.int 3 g_MOST_TAKES)))
    (tb1 : cd14 = .ref cL)
    (tb2 : K.lookup cL = some ⟨eL, dL, .fields vL, sL_⟩)
    (tb3 : vL[11]? = some (.ref PL))
    (tb4 : K.lookup PL = none)
    (tb5 : PySem.W.codeHdIn K cL PL = true)
    : LamX.LawAtS l w K CX0 9 63 "script" mg fa h := by
  have e := hfa.symm.trans (PySem.W.mg_of X G a14)
  cases e
  subst tb1
  have XQ : TxtQ K mg C_Work C_WorkQueue := by
    refine ⟨⟨pg_Work, hd_Work, po_Work, sa_Work⟩, ⟨pg_WorkQueue, hd_WorkQueue, po_WorkQueue, sa_WorkQueue⟩, fun f hf => ?_, fun f hf => ?_⟩
    · simp only [nmW, List.mem_cons, List.not_mem_nil, or_false] at hf
      rcases hf with rfl | rfl | rfl | rfl | rfl
      · exact na_Work_number
      · exact na_Work_body
      · exact na_Work_ready
      · exact na_Work_takes
      · exact na_Work_receipt
    · simp only [nmQ, List.mem_cons, List.not_mem_nil, or_false] at hf
      rcases hf with rfl | rfl | rfl | rfl | rfl
      · exact na_WorkQueue_length
      · exact na_WorkQueue_rows
      · exact na_WorkQueue_given_up
      · exact na_WorkQueue_next_number
      · exact na_WorkQueue_next_receipt
  have TE : ExcT K mg "QueueError" C_QueueError := ⟨PySem.W.mg_of X G n_QueueError, ex_QueueError, kc_QueueError, sb_QueueError, ty_QueueError, ic_QueueError, ss_QueueError⟩
  have TL : TxtL mg := ⟨PySem.W.mg_none_of X G z_abs, PySem.W.mg_none_of X G z_int⟩
  have TB : TxtB mg := ⟨PySem.W.mg_none_of X G z_sorted, PySem.W.mg_none_of X G z_list, ⟨_, PySem.W.mg_of X G g_MOST_TAKES_, ⟨_, rfl⟩⟩⟩
  have TV : TxtV mg := ⟨PySem.W.mg_none_of X G z_str, PySem.W.mg_none_of X G z_max, PySem.W.mg_none_of X G z_int, PySem.W.mg_none_of X G z_list, PySem.W.mg_none_of X G z_sorted, PySem.W.mg_none_of X G z_range⟩
  have F1 := fun_mk (st := sWInit) l1 c1 k1
  have F2 := fun_mk (st := sQInit) l2 c2 k2
  have F3 : FunD K "put" "WorkQueue.put" (defArgs sPut) (defBody sPut) (defScope sPut) [.int 0] [] f3 _ := ⟨⟨_, _, _, _, _, _, _, _, _, _, rfl, l3, c3, .inr ⟨by simp, _, _, _, _, rfl, t3, rfl, .cons ⟨_, rfl⟩ .nil⟩, .inl rfl⟩, k3⟩
  have F4 := fun_mk (st := sTake) l4 c4 k4
  have F5 := fun_mk (st := sHolds) l5 c5 k5
  have F6 := fun_mk (st := sDone) l6 c6 k6
  have F7 := fun_mk (st := sBack) l7 c7 k7
  have F8 := fun_mk (st := sLonger) l8 c8 k8
  have F9 := fun_mk (st := sDice) l9 c9 k9
  have F10 := fun_mk (st := sRoll) l10 c10 k10
  have F11 := fun_mk (st := sRounds) l11 c11 k11
  have F12 := fun_mk (st := sTold) l12 c12 k12
  have F13 := fun_mk (st := sTaken) l13 c13 k13
  have b1 := F1.binds (ps := ["self", "number", "body", "time"]) fun _ _ _ _ _ _ us hl => match us, hl with | [_, _, _, _], _ => rfl
  have b2 := F2.binds (ps := ["self", "length"]) fun _ _ _ _ _ _ us hl => match us, hl with | [_, _], _ => rfl
  obtain ⟨ds, vds, b3⟩ := F3.binds1 (ps := ["self", "body", "time", "wait"]) 4 1 (by simp) rfl fun _ _ _ _ _ _ _ us its h1 h2 => match us, its, h1, h2 with | [_, _, _, _], [_], _, _ => ⟨_, rfl, rfl⟩
  cases vds
  have b4 := F4.binds (ps := ["self", "time"]) fun _ _ _ _ _ _ us hl => match us, hl with | [_, _], _ => rfl
  have b5 := F5.binds (ps := ["self", "number", "receipt", "time"]) fun _ _ _ _ _ _ us hl => match us, hl with | [_, _, _, _], _ => rfl
  have b6 := F6.binds (ps := ["self", "number", "receipt", "time"]) fun _ _ _ _ _ _ us hl => match us, hl with | [_, _, _, _], _ => rfl
  have b7 := F7.binds (ps := ["self", "number", "receipt", "time"]) fun _ _ _ _ _ _ us hl => match us, hl with | [_, _, _, _], _ => rfl
  have b8 := F8.binds (ps := ["self", "number", "receipt", "time"]) fun _ _ _ _ _ _ us hl => match us, hl with | [_, _, _, _], _ => rfl
  have b9 := F9.binds (ps := ["cell"]) fun _ _ _ _ _ _ us hl => match us, hl with | [_], _ => rfl
  have b10 := F10.binds (ps := ["dice", "many"]) fun _ _ _ _ _ _ us hl => match us, hl with | [_, _], _ => rfl
  have b11 := F11.binds (ps := ["script", "most"]) fun _ _ _ _ _ _ us hl => match us, hl with | [_, _], _ => rfl
  have b12 := F12.binds (ps := ["what"]) fun _ _ _ _ _ _ us hl => match us, hl with | [_], _ => rfl
  have b13 := F13.binds (ps := ["own", "time", "length"]) fun _ _ _ _ _ _ us hl => match us, hl with | [_, _, _], _ => rfl
  refine ⟨PySem.W.fnOf "law" "law" (defArgs sLaw) (defBody sLaw) (defScope sLaw) .none kV14 dc14 pm14 an14 (.ref cL) ct14, [(cL, PL)], spLaw K PL, fun p hp => ?_, fun p hp => ?_, fun p hp => ?_, fun s v => .of_eq rfl, fun H a ns hlen _ hH hS => ⟨a, ns, rfl, hS, hlen, hH (cL, PL) (.head _), fun _ => rfl⟩, fun base _ _ htb => ?_⟩
  · rw [List.mem_singleton.mp hp]
    exact own _ _ _ _ _ _ _ _ l14 rfl rfl tb2 tb3
  · rw [List.mem_singleton.mp hp]
    exact tb4
  · rw [List.mem_singleton.mp hp]
    exact PySem.W.codeHd_of_K X tb5
  have hTB := htb (cL, PL) (.head _)
  have C1 : Mak l.prog w K mg base 1 "Work" C_Work (spWInit C_Work) [] := ⟨f1, _, _, [], ⟨mk_Work, a1, i1, kc_Work⟩, ok_WInit F1 XQ, PySem.W.mg_of X G n_Work, b1, .nil⟩
  have C2 : Mak l.prog w K mg base 1 "WorkQueue" C_WorkQueue (spQInit C_Work C_WorkQueue) [] := ⟨f2, _, _, [], ⟨mk_WorkQueue, a2, i2, kc_WorkQueue⟩, ok_QInit F2 XQ, PySem.W.mg_of X G n_WorkQueue, b2, .nil⟩
  have C2X : MakX l.prog w K mg base 1 "WorkQueue" C_WorkQueue (spQInitX C_QueueError) [] := ⟨f2, _, _, [], ⟨mk_WorkQueue, a2, i2, kc_WorkQueue⟩, ok_QInitX F2 TE, PySem.W.mg_of X G n_WorkQueue, b2, .nil⟩
  have C3 : Met l.prog w K mg base 3 C_WorkQueue "put" (spPut C_Work C_WorkQueue) [] := ⟨f3, _, _, [], XQ.clQ, ⟨a3, i3, k3⟩, ok_put F3 XQ C1, b3, .nil⟩
  have C3X : MetX l.prog w K mg base 1 C_WorkQueue "put" (spPutX C_QueueError) [] := ⟨f3, _, _, [], XQ.clQ, ⟨a3, i3, k3⟩, ok_putX F3 TE, b3, .nil⟩
  have C4 : Met l.prog w K mg base 1 C_WorkQueue "take" (spTake C_Work C_WorkQueue) [] := ⟨f4, _, _, [], XQ.clQ, ⟨a4, i4, k4⟩, ok_take F4 XQ TB, b4, .nil⟩
  have C5 : Met l.prog w K mg base 1 C_WorkQueue "holds" (spHolds C_Work C_WorkQueue) [] := ⟨f5, _, _, [], XQ.clQ, ⟨a5, i5, k5⟩, ok_holds F5 XQ, b5, .nil⟩
  have C6 : Met l.prog w K mg base 2 C_WorkQueue "done" (spDone C_Work C_WorkQueue dropE) [] := ⟨f6, _, _, [], XQ.clQ, ⟨a6, i6, k6⟩, ok_done F6 XQ C5, b6, .nil⟩
  have C7 : Met l.prog w K mg base 2 C_WorkQueue "give_back" (spUpd C_Work C_WorkQueue (fun t _ => t) (fun _ => none)) [] := ⟨f7, _, _, [], XQ.clQ, ⟨a7, i7, k7⟩, ok_back F7 XQ C5, b7, .nil⟩
  have C8' : Met l.prog w K mg base 2 C_WorkQueue "longer" (spUpd C_Work C_WorkQueue (fun t l => t + l) (fun c => c)) [] := ⟨f8, _, _, [], XQ.clQ, ⟨a8, i8, k8⟩, ok_longer F8 XQ C5, b8, .nil⟩
  have C9 : Cal l.prog w K mg base 1 "_law_dice" spDice [] := ⟨f9, _, _, [], ok_dice F9 TL, PySem.W.mg_of X G a9, k9, b9, .nil⟩
  have C10 : Cal l.prog w K mg base 1 "_law_roll" spRoll [] := ⟨f10, _, _, [], ok_roll F10 TL, PySem.W.mg_of X G a10, k10, b10, .nil⟩
  have C11 : Cal l.prog w K mg base 2 "_law_rounds" (spRounds K) [] := ⟨f11, _, _, [], ok_rounds F11 C9, PySem.W.mg_of X G a11, k11, b11, .nil⟩
  have C12 : Cal l.prog w K mg base 6 "_law_told" (spTold l.prog w K mg base 5 C_QueueError "QueueError") [] := ⟨f12, _, _, [], ok_told F12 TE, PySem.W.mg_of X G a12, k12, b12, .nil⟩
  have C13 : Cal l.prog w K mg base 1 "_law_taken" spTaken [] := ⟨f13, _, _, [], ok_taken F13 TB, PySem.W.mg_of X G a13, k13, b13, .nil⟩
  refine fn_of l14 c14 scLaw (fun vs H Q E h => ?_) fun A outer s H vs Q E hr hsp => ?_
  · obtain ⟨a, ns, rfl, _⟩ := h
    rfl
  obtain ⟨t, ht, hq⟩ := law_body (f := fa) (cL := cL) (PL := PL) (A := A) (outer := outer) (s0 := s) (H0 := H) (E := E) hr XQ TV C10 C11 C2 C1 (blk_put hr TV XQ C10 C3) (blk_take hr TV XQ C13 C4)
    (blk_hold hr TV C10 C5 (blk_good hr) (blk_told hr C6 C7 C8') (blk_own hr TV)) (st_rows hr XQ) (st_nums hr XQ TV) (st_end hr XQ TV TE hTB C12 (fun f c' q => lok1 C2X) (fun f c' q => lok2 C2 C3X)) hsp
  exact ⟨t, ht.nox, hq⟩
theorem walk {l : PySem.W.OpenLaw} {q : Program} {loose : List Str} {XP : (Str → Option Value) → Heap → Prop} {YP : World → Heap → Prop} {d : DefRec} {K : Params → PySem.W.Frag} (hn : l.most = some 63) (hdf : d.params.defaults = [])
    (hrec : ((PyProof.Rows.recsOf q).any fun e => e.name == d.name) = true) (hY : ∀ (w : World) (h : Heap), YP w h → (K w.params).In h)
    (F : ∀ (w : World) (mg : Str → Option Value) (fa : Addr) (h : Heap), (K w.params).In h → h.Ns mainGlobals mg → mg d.name = some (.ref fa) → LamX.OwnTab (K w.params) fa h → LamX.LawAtS l w (K w.params) CX0 9 63 "script" mg fa h) :
    PySem.W.WalkO q loose XP YP l.row.toRowW d [] (fun f vs => PySem.call f vs) :=
  LamX.walk_ofOwn (n := 63) (k := 9) (x := "script") (CX := fun _ => CX0) hn (by decide) hdf ⟨rfl, by decide, by decide⟩ hrec hY (fun w mg fa h _ KX G hm own => F w mg fa h KX G hm own) fun _ _ _ _ _ z => z
end Sd
open PySem PySem.W PyProof.Rows in
set_option maxRecDepth 100000 in
set_option maxHeartbeats 0 in
set_option pp.maxSteps 150 in
set_option pp.deepTerms false in
set_option pp.deepTerms.threshold 3 in
theorem PySem.Challenge.cw_shardstack_k22_work_that_is_given_out_holds : PySem.Challenge.rw_shardstack_k22_work_that_is_given_out.Holds := by
  w_on; o_law; k_head; (case hw => w_witness2)
  k_fill
  refine Sd.walk (l := PySem.Challenge.rw_shardstack_k22_work_that_is_given_out) rfl rfl (by rfl) (fun w h Y => PySem.W.km_in_of Y) ?F
  case F =>
    intro w mg fa h KX G hmg own
    refine' Sd.all_mk KX G hmg own ?n_Work ?pg_Work ?hd_Work ?po_Work ?sa_Work ?mk_Work ?kc_Work ?na_Work_number ?na_Work_body ?na_Work_ready ?na_Work_takes ?na_Work_receipt ?a1 ?i1 ?l1 ?c1 ?k1 ?n_WorkQueue ?pg_WorkQueue ?hd_WorkQueue ?po_WorkQueue ?sa_WorkQueue ?mk_WorkQueue ?kc_WorkQueue ?na_WorkQueue_length ?na_WorkQueue_rows ?na_WorkQueue_given_up ?na_WorkQueue_next_number ?na_WorkQueue_next_receipt ?a2 ?i2 ?l2 ?c2 ?k2 ?a3 ?i3 ?l3 ?c3 ?k3 ?t3 ?a4 ?i4 ?l4 ?c4 ?k4 ?a5 ?i5 ?l5 ?c5 ?k5 ?a6 ?i6 ?l6 ?c6 ?k6 ?a7 ?i7 ?l7 ?c7 ?k7 ?a8 ?i8 ?l8 ?c8 ?k8 ?a9 ?l9 ?c9 ?k9 ?a10 ?l10 ?c10 ?k10 ?a11 ?l11 ?c11 ?k11 ?a12 ?l12 ?c12 ?k12 ?a13 ?l13 ?c13 ?k13 ?a14 ?l14 ?c14 ?k14 ?n_QueueError ?ex_QueueError ?kc_QueueError ?sb_QueueError ?ty_QueueError ?ic_QueueError ?ss_QueueError ?z_abs ?z_int ?z_list ?z_sorted ?z_range ?z_str ?z_max ?g_MOST_TAKES_ ?tb1 ?tb2 ?tb3 ?tb4 ?tb5
    (case n_Work => k_is)
    (case pg_Work => k_is)
    (case hd_Work => k_is)
    (case po_Work => k_is)
    (case sa_Work => k_is)
    (case mk_Work => k_is)
    (case kc_Work => k_is)
    (case na_Work_number => k_is)
    (case na_Work_body => k_is)
    (case na_Work_ready => k_is)
    (case na_Work_takes => k_is)
    (case na_Work_receipt => k_is)
    (case a1 => k_is)
    (case i1 => k_is)
    (case l1 => k_is)
    (case c1 => k_is)
    (case k1 => k_is)
    (case n_WorkQueue => k_is)
    (case pg_WorkQueue => k_is)
    (case hd_WorkQueue => k_is)
    (case po_WorkQueue => k_is)
    (case sa_WorkQueue => k_is)
    (case mk_WorkQueue => k_is)
    (case kc_WorkQueue => k_is)
    (case na_WorkQueue_length => k_is)
    (case na_WorkQueue_rows => k_is)
    (case na_WorkQueue_given_up => k_is)
    (case na_WorkQueue_next_number => k_is)
    (case na_WorkQueue_next_receipt => k_is)
    (case a2 => k_is)
    (case i2 => k_is)
    (case l2 => k_is)
    (case c2 => k_is)
    (case k2 => k_is)
    (case a3 => k_is)
    (case i3 => k_is)
    (case l3 => k_is)
    (case c3 => k_is)
    (case k3 => k_is)
    (case t3 => k_is)
    (case a4 => k_is)
    (case i4 => k_is)
    (case l4 => k_is)
    (case c4 => k_is)
    (case k4 => k_is)
    (case a5 => k_is)
    (case i5 => k_is)
    (case l5 => k_is)
    (case c5 => k_is)
    (case k5 => k_is)
    (case a6 => k_is)
    (case i6 => k_is)
    (case l6 => k_is)
    (case c6 => k_is)
    (case k6 => k_is)
    (case a7 => k_is)
    (case i7 => k_is)
    (case l7 => k_is)
    (case c7 => k_is)
    (case k7 => k_is)
    (case a8 => k_is)
    (case i8 => k_is)
    (case l8 => k_is)
    (case c8 => k_is)
    (case k8 => k_is)
    (case a9 => k_is)
    (case l9 => k_is)
    (case c9 => k_is)
    (case k9 => k_is)
    (case a10 => k_is)
    (case l10 => k_is)
    (case c10 => k_is)
    (case k10 => k_is)
    (case a11 => k_is)
    (case l11 => k_is)
    (case c11 => k_is)
    (case k11 => k_is)
    (case a12 => k_is)
    (case l12 => k_is)
    (case c12 => k_is)
    (case k12 => k_is)
    (case a13 => k_is)
    (case l13 => k_is)
    (case c13 => k_is)
    (case k13 => k_is)
    (case a14 => k_is)
    (case l14 => k_is)
    (case c14 => k_is)
    (case k14 => k_is)
    (case n_QueueError => k_is)
    (case ex_QueueError => k_exc)
    (case kc_QueueError => k_is)
    (case sb_QueueError => k_is)
    (case ty_QueueError => k_is)
    (case ic_QueueError => k_is)
    (case ss_QueueError => k_is)
    (case z_abs => k_is)
    (case z_int => k_is)
    (case z_list => k_is)
    (case z_sorted => k_is)
    (case z_range => k_is)
    (case z_str => k_is)
    (case z_max => k_is)
    (case g_MOST_TAKES_ => k_is)
    (case tb1 => rfl)
    (case tb2 => k_is)
    (case tb3 => rfl)
    (case tb4 => first | rfl | kernel_rfl)
    (case tb5 => first | rfl | kernel_rfl)
#print axioms PySem.Challenge.cw_shardstack_k22_work_that_is_given_out_holds

