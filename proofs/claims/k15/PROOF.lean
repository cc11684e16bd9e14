import PyProof.Rows.All
import Wide.All
import OpenK.AllK
import Wide.FinOn
import HandS.ForMost
import HandS.Flow
import HandS.Style
import HandS.Codes
import HandS.SortInts
import HandS.Conv
import HandS.Nested
import HandS.TryOnly
import HandS.ExcOwn
import HandS.WordsExc
import HandS.Small
import HandS.EndOwn
import HandS.Defaults
import KE.DataEq
import HandS.GenList
import HandS.AnyAll
import HandS.JoinGen
import PyProof.TupleOfGen
import HandS.Walk
import KE.DatumOrd
import HandS.Lambda
import HandS.HeadHook4
import HandS.HeadWalk
import HandS.Head2
import HandS.HeadEnd
import HandS.DeepEq
import HandS.DictComp
import KE.KEqNest
import HandS.More
import PyProof.TupleOfSeq
import HandS.IsInst
import HandS.Text
import HandS.TupAny
import PySem.Challenge.RW_shardstack_k15_disks_that_go_down
import PyProof.StrBlock2
import PyProof.Rows.StrJoinRep
import KE.KExcLine
set_option Elab.async false
set_option maxRecDepth 100000
set_option maxHeartbeats 4000000
namespace Sd
open PySem L2

/-! ### the ledger: objects of the heap, all at different places -/
abbrev Lg := List (Addr × HO)
def Led (H : Hp) (L : Lg) : Prop := (∀ x ∈ L, H x.1 = some x.2) ∧ (L.map (·.1)).Nodup
/-- the object at a is known -/
def At (L : Lg) (a : Addr) (o : HO) : Prop := ∃ i : Nat, L[i]? = some (a, o)
section
variable {H H' : Hp} {L A B C R : Lg} {a p : Addr} {o o' : HO}
theorem Led.mem (h : Led H L) (m : (a, o) ∈ L) : H a = some o := h.1 _ m
theorem Led.at (h : Led H L) (e : At L a o) : H a = some o := let ⟨_, q⟩ := e; h.1 _ (List.mem_of_getElem? q)
theorem Led.ne (h : Led H L) (e : At L a o) (hp : H p = none) : a ≠ p := ne_of_none (h.at e) hp
theorem Led.nin (h : Led H L) (hp : H p = none) : p ∉ L.map (·.1) := fun m => by
  obtain ⟨x, hx, e⟩ := List.mem_map.mp m
  have := h.1 x hx
  rw [e, hp] at this
  cases this
theorem Led.new (h : Led H L) (hp : H p = none) : Led (upd H p o) ((p, o) :: L) := by
  refine ⟨fun x hx => ?_, ?_⟩
  · rcases List.mem_cons.mp hx with e | hx
    · rw [e]; exact upd_same
    · have := h.1 x hx
      rw [upd_ne (ne_of_none this hp)]; exact this
  · rw [List.map_cons]
    exact List.nodup_cons.mpr ⟨h.nin hp, h.2⟩
theorem Led.skip (h : Led H L) (hp : H p = none) : Led (upd H p o) L :=
  let q := h.new (o := o) hp
  ⟨fun x hx => q.1 x (List.mem_cons_of_mem _ hx), h.2⟩
theorem Led.perm (h : Led H L) (q : L.Perm B) : Led H B := ⟨fun x hx => h.1 x (q.mem_iff.mpr hx), (q.map _).nodup_iff.mp h.2⟩
theorem Led.head (h : Led H ((a, o) :: B)) : Led (upd H a o') ((a, o') :: B) := by
  have n : a ∉ B.map (·.1) := (List.nodup_cons.mp h.2).1
  refine ⟨fun x hx => ?_, h.2⟩
  rcases List.mem_cons.mp hx with e | hx
  · rw [e]; exact upd_same
  · rw [upd_ne (fun e => n (List.mem_map.mpr ⟨x, hx, e⟩))]
    exact h.1 x (List.mem_cons_of_mem _ hx)
theorem Led.mid (h : Led H (A ++ (a, o) :: B)) : Led (upd H a o') (A ++ (a, o') :: B) :=
  (((h.perm List.perm_middle).head (o' := o')).perm List.perm_middle.symm)
theorem Led.set (i : Nat) (h : Led H L) (e : L[i]? = some (a, o)) : Led (upd H a o') (L.set i (a, o')) := by
  obtain ⟨hi, e⟩ := List.getElem?_eq_some_iff.mp e
  have s1 : L = L.take i ++ (a, o) :: L.drop (i + 1) := by
    rw [← e, List.getElem_cons_drop, List.take_append_drop]
  rw [s1] at h
  have q := h.mid (o' := o')
  rw [List.set_eq_take_append_cons_drop, if_pos hi]
  exact q
theorem Led.swap (h : Led H (A ++ (B ++ C))) : Led H (B ++ (A ++ C)) := by
  refine h.perm ?_
  rw [← List.append_assoc, ← List.append_assoc]
  exact List.perm_append_comm.append_right _
theorem Led.sub (h : Led H L) (q : B.Sublist L) : Led H B := ⟨fun x hx => h.1 x (q.subset hx), h.2.sublist (q.map _)⟩
theorem Led.drop (h : Led H (A ++ B)) : Led H B := h.sub (List.sublist_append_right _ _)
theorem Led.left (h : Led H (A ++ B)) : Led H A := h.sub (List.sublist_append_left _ _)
theorem Led.tail (h : Led H ((a, o) :: B)) : Led H B := h.sub (List.sublist_cons_self _ _)
theorem Led.nil : Led H [] := ⟨fun _ hx => (nomatch hx), List.nodup_nil⟩
theorem Led.mono (h : Led H L) (e : ∀ x ∈ L, H' x.1 = some x.2) : Led H' L := ⟨e, h.2⟩
end

/-! ### an instance's attributes, a dict with written keys: names and values -/
def fz (names : List Str) (vals : List V) : List (Str × V) := names.zip vals
def dz (names : List Str) (vals : List V) : List (Key × V) := (names.map Sum.inr).zip vals
theorem fz_at {f : Str} {v : V} : ∀ (i : Nat) {names : List Str} {vals : List V}, names.Nodup → names[i]? = some f → vals[i]? = some v → (fz names vals).lookup f = some v
  | 0, n :: ns, w :: ws, _, h1, h2 => by
    simp only [List.getElem?_cons_zero, Option.some.injEq] at h1 h2
    subst h1 h2
    simp [fz]
  | i + 1, n :: ns, w :: ws, nd, h1, h2 => by
    rw [List.getElem?_cons_succ] at h1 h2
    obtain ⟨n1, n2⟩ := List.nodup_cons.mp nd
    have ne : ¬ f = n := fun e => n1 (e ▸ List.mem_of_getElem? h1)
    have ih := fz_at i n2 h1 h2
    unfold fz at ih ⊢
    rw [List.zip_cons_cons, List.lookup_cons, beq_eq_false_iff_ne.mpr ne]
    exact ih
  | _, [], _, _, h1, _ => by simp at h1
  | _, _ :: _, [], _, _, h2 => by simp at h2
theorem fz_no {f : Str} : ∀ {names : List Str} {vals : List V}, f ∉ names → (fz names vals).lookup f = none
  | [], _, _ => by simp [fz]
  | _ :: _, [], _ => by simp [fz]
  | n :: ns, w :: ws, h => by
    have ne : ¬ f = n := fun e => h (by rw [e]; exact List.mem_cons_self)
    have ih := fz_no (f := f) (names := ns) (vals := ws) fun m => h (List.mem_cons_of_mem _ m)
    unfold fz at ih ⊢
    rw [List.zip_cons_cons, List.lookup_cons, beq_eq_false_iff_ne.mpr ne]
    exact ih
theorem fz_put {f : Str} {v : V} : ∀ (i : Nat) {names : List Str} {vals : List V}, names.Nodup → names[i]? = some f → i < vals.length → putF f v (fz names vals) = fz names (vals.set i v)
  | 0, n :: ns, w :: ws, _, h1, _ => by
    simp only [List.getElem?_cons_zero, Option.some.injEq] at h1
    subst h1
    unfold fz
    rw [List.zip_cons_cons, putF, if_pos rfl]
    rfl
  | i + 1, n :: ns, w :: ws, nd, h1, h2 => by
    rw [List.getElem?_cons_succ] at h1
    obtain ⟨n1, n2⟩ := List.nodup_cons.mp nd
    have ne : ¬ n = f := fun e => n1 (e.symm ▸ List.mem_of_getElem? h1)
    have ih := fz_put (v := v) i (vals := ws) n2 h1 (by simpa using h2)
    unfold fz at ih ⊢
    rw [List.zip_cons_cons, putF, if_neg ne, ih]
    rfl
  | _, [], _, _, h1, _ => by simp at h1
  | _, _ :: _, [], _, _, h2 => by simp at h2
theorem fz_new {f : Str} {v : V} : ∀ {names : List Str} {vals : List V}, f ∉ names → names.length = vals.length → putF f v (fz names vals) = fz (names ++ [f]) (vals ++ [v])
  | [], [], _, _ => rfl
  | [], _ :: _, _, h => by simp at h
  | _ :: _, [], _, h => by simp at h
  | n :: ns, w :: ws, h, hl => by
    have ne : ¬ n = f := fun e => h (by rw [e]; exact List.mem_cons_self)
    have ih := fz_new (f := f) (v := v) (names := ns) (vals := ws) (fun m => h (List.mem_cons_of_mem _ m)) (by simpa using hl)
    unfold fz at ih ⊢
    rw [List.zip_cons_cons, putF, if_neg ne, ih]
    rfl
theorem fz_len {names : List Str} {vals : List V} : (fz names vals).length ≤ names.length := by
  unfold fz
  rw [List.length_zip]
  exact Nat.min_le_left _ _
theorem fz_nil : ([] : List (Str × V)) = fz [] [] := rfl
theorem dz_at {f : Str} {v : V} : ∀ (i : Nat) {names : List Str} {vals : List V}, names.Nodup → names[i]? = some f → vals[i]? = some v → valV (dz names vals) (Sum.inr f) = some v
  | 0, n :: ns, w :: ws, _, h1, h2 => by
    simp only [List.getElem?_cons_zero, Option.some.injEq] at h1 h2
    subst h1 h2
    exact valV_pos (p := (Sum.inr n, w)) rfl
  | i + 1, n :: ns, w :: ws, nd, h1, h2 => by
    rw [List.getElem?_cons_succ] at h1 h2
    obtain ⟨n1, n2⟩ := List.nodup_cons.mp nd
    have ne : ¬ (Sum.inr n : Key) = Sum.inr f := fun e => n1 ((Sum.inr.inj e).symm ▸ List.mem_of_getElem? h1)
    have ih := dz_at i n2 h1 h2
    show valV ((Sum.inr n, w) :: dz ns ws) (Sum.inr f) = some v
    rw [valV_neg ne]
    exact ih
  | _, [], _, _, h1, _ => by simp at h1
  | _, _ :: _, [], _, _, h2 => by simp at h2
theorem dz_put {f : Str} {v : V} (i : Nat) {names : List Str} {vals : List V} (nd : names.Nodup) (h1 : names[i]? = some f) (h2 : i < vals.length) : putK (dz names vals) (Sum.inr f) v = dz names (vals.set i v) := by
  have e1 : vals[i]? = some vals[i] := List.getElem?_eq_getElem h2
  have hs : valV (dz names vals) (Sum.inr f) = some vals[i] := dz_at i nd h1 e1
  unfold putK
  rw [valV_any, hs]
  rw [if_pos (by rfl)]
  clear hs e1
  induction names generalizing vals i with
  | nil => simp at h1
  | cons n ns ih =>
    cases vals with
    | nil => simp at h2
    | cons w ws =>
      obtain ⟨n1, n2⟩ := List.nodup_cons.mp nd
      cases i with
      | zero =>
        simp only [List.getElem?_cons_zero, Option.some.injEq] at h1
        subst h1
        show (if (Sum.inr n : Key) = Sum.inr n then ((Sum.inr n : Key), v) else (Sum.inr n, w)) :: (dz ns ws).map _ = (Sum.inr n, v) :: dz ns ws
        rw [if_pos rfl]
        congr 1
        have : ∀ kv ∈ dz ns ws, (fun kv : Key × V => if kv.1 = Sum.inr n then (kv.1, v) else kv) kv = id kv := fun kv hk => by
          have m : kv.1 ∈ ns.map (Sum.inr : Str → Key) := (List.of_mem_zip hk).1
          obtain ⟨z, hz, e⟩ := List.mem_map.mp m
          have ne : ¬ kv.1 = Sum.inr n := fun q => n1 (by rw [← e] at q; exact (Sum.inr.inj q) ▸ hz)
          simp [ne]
        rw [List.map_congr_left this, List.map_id]
      | succ i =>
        rw [List.getElem?_cons_succ] at h1
        have ne : ¬ (Sum.inr n : Key) = Sum.inr f := fun e => n1 ((Sum.inr.inj e).symm ▸ List.mem_of_getElem? h1)
        show (if (Sum.inr n : Key) = Sum.inr f then ((Sum.inr n : Key), v) else (Sum.inr n, w)) :: (dz ns ws).map _ = (Sum.inr n, w) :: dz ns (ws.set i v)
        rw [if_neg ne, ih i n2 h1 (by simpa using h2)]
theorem mergeK_nd : ∀ (more kvs : List (Key × V)), ((kvs ++ more).map (·.1)).Nodup → mergeK kvs more = kvs ++ more
  | [], kvs, _ => by rw [List.append_nil]; rfl
  | p :: r, kvs, h => by
    have hp : valV kvs p.1 = none := by
      cases e : valV kvs p.1 with
      | none => rfl
      | some v =>
        have m := valV_in e
        rw [List.map_append, List.map_cons] at h
        have := (List.nodup_append.mp h).2.2 _ m _ List.mem_cons_self
        exact absurd rfl this
    have e : mergeK kvs (p :: r) = mergeK (putK kvs p.1 p.2) r := rfl
    rw [e, putK_new _ hp, mergeK_nd r (kvs ++ [(p.1, p.2)]) (by rw [List.append_assoc]; exact h), List.append_assoc]
    rfl
end Sd


namespace Sd
open PySem L2
/-- a word that the walk does not open -/
inductive Hold (p : Prop) : Prop where
  | mk (h : p)
  | mk' (h : p)
theorem Hold.out {p : Prop} (h : Hold p) : p := by cases h <;> assumption

section
variable {K : PySem.W.Frag} {H H1 : Hp} {L : Lg} {a b l p q : Addr} {o : HO} {P : V → Prop} {f : Str} {C dx : Addr} {fs : List (Str × V)} {v y : V} {xs ys : List V} {kvs : List (Key × V)} {names : List Str} {vals : List V}
theorem k_fld {P : Addr → Addr → V → Prop} (hL : Led H L) (e : At L a (.ins C dx fs)) (c : Cls K C) (n : NoAttr K C f) (lk : fs.lookup f = some v) (q : P a C v) :
    ∃ a' C' dx' fs' v', V.ref a = .ref a' ∧ H a' = some (.ins C' dx' fs') ∧ Cls K C' ∧ NoAttr K C' f ∧ fs'.lookup f = some v' ∧ P a' C' v' := ⟨_, _, _, _, _, rfl, hL.at e, c, n, lk, q⟩
/-- the ledger behind a change at a -/
def Upd (L : Lg) (a : Addr) (o o' : HO) (L' : Lg) : Prop := ∃ i : Nat, L[i]? = some (a, o) ∧ L' = L.set i (a, o')
theorem Upd.at {o' : HO} {L' : Lg} (u : Upd L a o o' L') : At L a o := let ⟨i, e, _⟩ := u; ⟨i, e⟩
theorem Led.upU {o' : HO} {L' : Lg} (hL : Led H L) (u : Upd L a o o' L') (hH : L2.upd H a o' = H1) : Led H1 L' := by
  obtain ⟨i, e, rfl⟩ := u
  rw [← hH]; exact hL.set i e
theorem Led.upF {fs' : List (Str × V)} {L' : Lg} (hL : Led H L) (u : Upd L a (.ins C dx fs) (.ins C dx fs') L') (e : putF f v fs = fs') (hH : L2.upd H a (.ins C dx (putF f v fs)) = H1) : Led H1 L' := by
  rw [e] at hH; exact hL.upU u hH
theorem Led.newH (hL : Led H L) (hp : H p = none) (hH : L2.upd H p o = H1) : Led H1 ((p, o) :: L) := by
  rw [← hH]; exact hL.new hp
theorem Led.made {x : Addr} (hL : Led H L) (hx : H x = none) (hd : H dx = none) (ne : dx ≠ x) (hH : L2.upd (L2.upd H dx (.own x)) x (.ins C dx []) = H1) : Led H1 ((x, .ins C dx (fz [] [])) :: L) := by
  rw [← hH]; exact (hL.skip hd).new (by rw [upd_ne ne.symm]; exact hx)
theorem Led.last {A R : Lg} {x : Addr × HO} (h : Led H (x :: (A ++ R))) : Led H ((A ++ [x]) ++ R) := by
  refine h.perm ?_
  rw [List.append_assoc]
  exact List.perm_middle.symm
/-- o.m(..): the object -/
theorem k_meth {P : Prop} (hL : Led H L) (e : At L a (.ins C dx fs)) (lk : fs.lookup f = none) (q : P) :
    ∃ a' dx' fs', V.ref a = .ref a' ∧ H a' = some (.ins C dx' fs') ∧ fs'.lookup f = none ∧ P := ⟨_, _, _, rfl, hL.at e, lk, q⟩
theorem k_dgetS {P : Addr → V → Prop} {x : Str} (hL : Led H L) (e : At L a (.dK kvs)) (lk : valV kvs (.inr x) = some v) (q : P a v) : ∃ a' v', V.ref a = .ref a' ∧ DGet H a' (.str x) (some v') ∧ P a' v' :=
  ⟨_, _, rfl, lk ▸ (DGet.k (k := .inr x) (hL.at e)), q⟩
theorem k_dgetI {P : Addr → V → Prop} {n : Int} (hL : Led H L) (e : At L a (.dK kvs)) (lk : valV kvs (.inl n) = some v) (q : P a v) : ∃ a' v', V.ref a = .ref a' ∧ DGet H a' (.int n) (some v') ∧ P a' v' :=
  ⟨_, _, rfl, lk ▸ (DGet.k (k := .inl n) (hL.at e)), q⟩
theorem k_dinS {P : Option V → Prop} {x : Str} (hL : Led H L) (e : At L a (.dK kvs)) (q : P (valV kvs (.inr x))) : ∃ a' o', V.ref a = .ref a' ∧ DGet H a' (.str x) o' ∧ P o' :=
  ⟨_, _, rfl, DGet.k (k := .inr x) (hL.at e), q⟩
theorem k_dinI {P : Option V → Prop} {n : Int} (hL : Led H L) (e : At L a (.dK kvs)) (q : P (valV kvs (.inl n))) : ∃ a' o', V.ref a = .ref a' ∧ DGet H a' (.int n) o' ∧ P o' :=
  ⟨_, _, rfl, DGet.k (k := .inl n) (hL.at e), q⟩
/-- d.get(k): the dict, then the answer -/
theorem k_isd {P : Prop} (hL : Led H L) (e : At L a (.dK kvs)) (q : P) : IsD H a ∧ P := ⟨.inl ⟨_, .inl (hL.at e)⟩, q⟩
theorem k_lenL' {P : Prop} (hL : Led H L) (e : At L l (.lst xs)) (q : P) : (SqL K H l xs ∨ SqT K H l xs) ∧ P := ⟨.inl (.of (hL.at e)), q⟩
theorem k_getI {P : Option V → Prop} {n : Int} (hL : Led H L) (e : At L a (.dK kvs)) (q : P (valV kvs (.inl n))) : ∃ o', DGet H a (.int n) o' ∧ P o' := ⟨_, DGet.k (k := .inl n) (hL.at e), q⟩
theorem k_getS {P : Option V → Prop} {x : Str} (hL : Led H L) (e : At L a (.dK kvs)) (q : P (valV kvs (.inr x))) : ∃ o', DGet H a (.str x) o' ∧ P o' := ⟨_, DGet.k (k := .inr x) (hL.at e), q⟩
theorem k_popI {P : List (Key × V) → Key → V → Prop} {n : Int} (hL : Led H L) (e : At L a (.dK kvs)) (lk : valV kvs (.inl n) = some v) (q : P kvs (.inl n) v) :
    ∃ kvs' k' v', H a = some (.dK kvs') ∧ V.int n = kV k' ∧ valV kvs' k' = some v' ∧ P kvs' k' v' := ⟨_, .inl n, _, hL.at e, rfl, lk, q⟩
theorem k_listD {P : List (Key × V) → Prop} (hL : Led H L) (e : At L a (.dK kvs)) (q : P kvs) : ∃ p kvs', [V.ref a] = [.ref p] ∧ H p = some (.dK kvs') ∧ P kvs' := ⟨_, _, rfl, hL.at e, q⟩
theorem Led.front {A B : Lg} {x : Addr × HO} (h : Led H (A ++ x :: B)) : Led H (x :: (A ++ B)) := h.perm List.perm_middle
theorem Led.back {A B : Lg} {x : Addr × HO} (h : Led H (x :: (A ++ B))) : Led H (A ++ x :: B) := h.perm List.perm_middle.symm
theorem k_dputS {P : Hp → Prop} {x : Str} {kvs' : List (Key × V)} {L' : Lg} (hL : Led H L) (e : At L a (.dK kvs)) (hz : kvs.length < sizeLine) (ep : putK kvs (.inr x) v = kvs') (u : Upd L a (.dK kvs) (.dK kvs') L')
    (q : ∀ H1, Led H1 L' → P H1) : ∃ a' H4, V.ref a = .ref a' ∧ DPut H a' (.str x) v H4 ∧ P H4 :=
  ⟨_, _, rfl, DPut.k (k := .inr x) (hL.at e) hz, q _ (hL.upU (ep ▸ u) rfl)⟩
theorem k_dputI {P : Hp → Prop} {n : Int} {kvs' : List (Key × V)} {L' : Lg} (hL : Led H L) (e : At L a (.dK kvs)) (hz : kvs.length < sizeLine) (ep : putK kvs (.inl n) v = kvs') (u : Upd L a (.dK kvs) (.dK kvs') L')
    (q : ∀ H1, Led H1 L' → P H1) : ∃ a' H4, V.ref a = .ref a' ∧ DPut H a' (.int n) v H4 ∧ P H4 :=
  ⟨_, _, rfl, DPut.k (k := .inl n) (hL.at e) hz, q _ (hL.upU (ep ▸ u) rfl)⟩
theorem dz_len : (dz names vals).length ≤ names.length := by unfold dz; rw [List.length_zip, List.length_map]; exact Nat.min_le_left _ _
theorem k_ixL {n : Int} (hL : Led H L) (e : At L l (.lst xs)) (lk : atI xs n = some v) (q : P v) : ∃ p xs' i v', V.ref l = .ref p ∧ V.int n = .int i ∧ SqL K H p xs' ∧ atI xs' i = some v' ∧ P v' :=
  ⟨_, _, _, _, rfl, rfl, .of (hL.at e), lk, q⟩
theorem k_ixT {n : Int} (hL : Led H L) (e : At L l (.tup xs)) (lk : atI xs n = some v) (q : P v) : ∃ p xs' i v', V.ref l = .ref p ∧ V.int n = .int i ∧ SqT K H p xs' ∧ atI xs' i = some v' ∧ P v' :=
  ⟨_, _, _, _, rfl, rfl, .of (hL.at e), lk, q⟩
theorem k_tyL {P : Prop} (hL : Led H L) (e : At L l (.lst xs)) (q : P) : tyV K "list" (.ref l) H ∧ P := ⟨.inl ⟨rfl, _, .of (hL.at e)⟩, q⟩
theorem k_lenL {P : Nat → Prop} (hL : Led H L) (e : At L l (.lst xs)) (q : P xs.length) : ∃ p ys, [V.ref l] = [.ref p] ∧ (SqL K H p ys ∨ SqT K H p ys) ∧ P ys.length := ⟨_, _, rfl, .inl (.of (hL.at e)), q⟩
theorem k_lenT {P : Nat → Prop} (hL : Led H L) (e : At L l (.tup xs)) (q : P xs.length) : ∃ p ys, [V.ref l] = [.ref p] ∧ (SqL K H p ys ∨ SqT K H p ys) ∧ P ys.length := ⟨_, _, rfl, .inr (.of (hL.at e)), q⟩
theorem k_gtup {P : List V → Prop} {n : Nat} (hL : Led H L) (e : At L a (.tup xs)) (hn : xs.length = n) (q : P xs) : ∃ a' xs', V.ref a = .ref a' ∧ SqT K H a' xs' ∧ xs'.length = n ∧ P xs' := ⟨_, _, rfl, .of (hL.at e), hn, q⟩
theorem k_cat {Q : VK} (hL : Led H L) (e1 : At L l (.lst xs)) (e2 : At L b (.lst ys)) (hz : xs.length + ys.length ≤ sizeLine) (q : ∀ p, H p = none → Q (.ref p) (L2.upd H p (.lst (xs ++ ys)))) : rCat (.ref l) (.ref b) H Q :=
  ⟨_, _, _, _, rfl, rfl, hL.at e1, hL.at e2, hz, q⟩
theorem k_yes {σ : L2.St} {A B : Hp → Prop} (h : A H) : tYes σ H fun b H3 => if b = true then A H3 else B H3 := by
  show (if true = true then A H else B H)
  rw [if_pos rfl]
  exact h
theorem ite_d {c A B : Prop} [Decidable c] (a : c → A) (b : ¬ c → B) : if decide c = true then A else B := by
  by_cases h : c
  · rw [if_pos (decide_eq_true h)]; exact a h
  · rw [if_neg (by rw [decide_eq_false h]; decide)]; exact b h
theorem ite_n {c A B : Prop} [Decidable c] (a : ¬ c → A) (b : c → B) : if (!decide c) = true then A else B := by
  by_cases h : c
  · rw [decide_eq_true h]; exact b h
  · rw [decide_eq_false h]; exact a h
theorem ite_b {b : Bool} {A B : Prop} (h1 : b = true → A) (h2 : b = false → B) : if b = true then A else B := by
  cases b with
  | true => exact h1 rfl
  | false => exact h2 rfl
theorem ite_t {b : Bool} {A B : Prop} (e : b = true) (h : A) : if b = true then A else B := by rw [if_pos e]; exact h
theorem ite_f {b : Bool} {A B : Prop} (e : b = false) (h : B) : if b = true then A else B := by rw [e]; exact h
end
end Sd


/-! A lambda without parameters as a value: made, kept, called by another def; what told makes of it. -/
namespace Sd
open PySem PySem.Spec PyProof.Rows L2 LamX NdefX
/-- the object at f is the lambda whose words F tells, its body b -/
def LamO (f : Addr) (F : NF) (b : Expr) : HO := .ext fun h => ∃ pm ctv : Value, h.get? f = some (PySem.W.kla_obj F.name F.qual F.params b F.scope F.cl pm F.c ctv)
theorem lamO_at {P : Program} {w : World} {H : Hp} {h : Heap} {f : Addr} {F : NF} {b : Expr} (hok : HOk P w H h) (e : H f = some (LamO f F b)) : ∃ pm ctv : Value, h.get? f = some (PySem.W.kla_obj F.name F.qual F.params b F.scope F.cl pm F.c ctv) :=
  (hok f _ e).1
section
variable {X : Cx} {pins : List (Addr × Obj)} {σ : L2.St} {H : Hp} {s : Shared}
theorem inv_lam {F : NF} {b : Expr} {t' : Nat} {pm ctv : Value} (I : Inv X pins σ H s) :
    Inv X pins σ (upd H s.heap.objs.size (LamO s.heap.objs.size F b)) { s with heap := s.heap.push (PySem.W.kla_obj F.name F.qual F.params b F.scope F.cl pm F.c ctv), toks := t' } := by
  have e : (s.heap.push (PySem.W.kla_obj F.name F.qual F.params b F.scope F.cl pm F.c ctv)).get? s.heap.objs.size = some (PySem.W.kla_obj F.name F.qual F.params b F.scope F.cl pm F.c ctv) := Heap.get?_push_size _ rfl
  exact I.laid (fun b u e => Heap.get?_push_of_some _ e) (Nat.le_refl _) ⟨⟨pm, ctv, e⟩, ⟨_, e⟩, fun h1 h2 ⟨p, t, z⟩ st => ⟨p, t, st _ z⟩⟩
theorem lam_value {q : Str} {c P : Addr} {params : Arguments} {body : Expr} {scope : Scope} {pos : Pos} {E : Value → Shared → Prop} {Q : Value → Shared → Prop} (I : Inv X pins σ H s) (TB : TabB X.base X.mg c P) (hcode : X.env.code = .ref c) (hq : X.env.qual ++ "<lambda>" = q)
    (hT : TabS H P q) (hdef : defaultsOf params X.env = ([], [])) (hfree : ∀ y ∈ scope.names, y.2 = .free → ∃ c, X.env.cells.lookup y.1 = some c)
    (h : ∀ (f c' : Addr) (H1 : Hp) (s' : Shared), Inv X pins σ H1 s' → ExtN H H1 → TabS H1 P q → H f = none → H1 f = some (LamO f ⟨"<lambda>", q, params, [], scope, cloFrom X.env.cells scope.names [], c'⟩ body) → H1 c' = some (CodeO c' q) → Q (.ref f) s') :
    wpAny (model X.prog X.w) X.A (eval (.Lambda params body scope pos) X.env) Q E s := by
  subst hq
  obtain ⟨ps, hP, ht, ha⟩ := hT
  have bP : s.heap.BuiltinsAt X.mg P := TB.bm.keeps I.bk
  have hP' : s.heap.get? P = some { cls := .none, data := .fields ps } := I.hok P _ hP
  refine PySem.W.kla_eval hdef ?_
  rcases hc : codeAmong pos ps.toList with _ | cv
  · refine PySem.W.kla_makeFunction (mg := X.mg) (c := c) (P := P) (ps := ps) (closure_ok hfree) I.ok.glob (I.mod.glob.keeps I.bk) hcode (TB.code.keeps I.bk) hP' ht hc TB.gP bP fun c' ctv h' tk hx hge hlt hrec htb => ?_
    obtain ⟨_, oc, vs, t, e2, hoc, hd, hv⟩ := hrec
    cases e2
    have nC : H c' = none := I.hok.fresh hge
    have I1 := inv_table (t' := tk) (more := #[rawInt pos.line, rawInt pos.col, .ref c']) (h' := h') I hP (fun b o hb e => hx b o hb e) htb hge ⟨oc, vs, t, hoc, hd, hv⟩
    have eN : ExtN H (upd (upd H P (.tbl (ps ++ #[rawInt pos.line, rawInt pos.col, .ref c']))) c' (CodeO c' (X.env.qual ++ "<lambda>"))) := fun b o e n => by
      rw [upd_ne (ne_of_none e nC), upd_ne (fun z => n ps (Option.some.inj (e.symm.trans (by rw [z]; exact hP))))]
      exact e
    have nF := I1.hok.fresh (Nat.le_refl _)
    have I2 := inv_lam (F := ⟨"<lambda>", X.env.qual ++ "<lambda>", params, [], scope, cloFrom X.env.cells scope.names [], c'⟩) (b := body) (t' := tk) (pm := (X.mg "__name__").getD .none) (ctv := ctv) I1
    have T1 : TabS (upd (upd H P (.tbl (ps ++ #[rawInt pos.line, rawInt pos.col, .ref c']))) c' (CodeO c' (X.env.qual ++ "<lambda>"))) P (X.env.qual ++ "<lambda>") := by
      have eL : (ps ++ #[rawInt pos.line, rawInt pos.col, .ref c']).toList = ps.toList ++ [rawInt pos.line, rawInt pos.col, .ref c'] := by simp
      refine ⟨_, by rw [upd_ne (ne_of_none hP nC), upd_same], by rw [eL]; exact PySem.TriplesOk_snoc _ _ _ _ ht, fun p' cv hcv => ?_⟩
      rw [eL] at hcv
      rcases among_app _ ht hcv with z | z
      · obtain ⟨c0, e1, e2⟩ := ha p' cv z
        exact ⟨c0, e1, eN _ _ e2 codeO_ne⟩
      · exact ⟨c', z, upd_same⟩
    refine h h'.objs.size c' _ _ I2 (fun b o e n => ?_) (T1.ext fun b o e => ?_) (I.hok.fresh (Nat.le_trans hge (Nat.le_of_lt hlt))) upd_same ?_
    · have e1 := eN b o e n
      exact (upd_ne (ne_of_none e1 nF)).trans e1
    · exact (upd_ne (ne_of_none e nF)).trans e
    · exact (upd_ne (Nat.ne_of_lt hlt)).trans upd_same
  · obtain ⟨c', e, hco⟩ := ha pos cv hc
    subst e
    refine PySem.W.kla_makeFunctionHit (mg := X.mg) (c := c) (P := P) (ps := ps) (closure_ok hfree) I.ok.glob (I.mod.glob.keeps I.bk) hcode (TB.code.keeps I.bk) hP' ht hc bP fun ctv h' tk hx hsz => ?_
    have I1 : Inv X pins σ H { s with heap := h', toks := tk } := I.kept hx
    have nF : H h'.objs.size = none := I1.hok.fresh (Nat.le_refl _)
    have I2 := inv_lam (F := ⟨"<lambda>", X.env.qual ++ "<lambda>", params, [], scope, cloFrom X.env.cells scope.names [], c'⟩) (b := body) (t' := tk) (pm := (X.mg "__name__").getD .none) (ctv := ctv) I1
    refine h h'.objs.size c' _ _ I2 (fun b o e n => ?_) (TabS.ext ⟨ps, hP, ht, ha⟩ fun b o e => ?_) nF upd_same ?_
    · exact (upd_ne (ne_of_none e nF)).trans e
    · exact (upd_ne (ne_of_none e nF)).trans e
    · exact (upd_ne (ne_of_none hco nF)).trans hco
end
/-- lambda: body; the names that it captures: none -/
def tLamV (P : Addr) (q : Str) (params : Arguments) (body : Expr) (scope : Scope) : TE := fun _ H Q => TabS H P q ∧ ∀ (f c' : Addr) (H1 : Hp), ExtN H H1 → TabS H1 P q → H f = none → H1 f = some (LamO f ⟨"<lambda>", q, params, [], scope, [], c'⟩ body) → H1 c' = some (CodeO c' q) → Q (.ref f) H1
theorem clo_nil {cells : List (Str × Addr)} : ∀ {names : List (Str × NameKind)}, (∀ y ∈ names, y.2 ≠ .free) → cloFrom cells names [] = []
  | [], _ => rfl
  | (x, k) :: r, h => by
    have ih := clo_nil (cells := cells) (names := r) fun y hy => h y (List.mem_cons_of_mem _ hy)
    have hk := h (x, k) List.mem_cons_self
    cases k <;> first | exact absurd rfl hk | (simp only [cloFrom]; first | exact ih | (rw [ih]) | simpa using ih)
theorem pe_lamv {X : Cx} {q : Str} {c P : Addr} {params : Arguments} {body : Expr} {scope : Scope} {pos : Pos} (TB : TabB X.base X.mg c P) (hcode : X.env.code = .ref c) (hq : X.env.qual ++ "<lambda>" = q) (hdef : defaultsOf params X.env = ([], []))
    (hfree : ∀ y ∈ scope.names, y.2 ≠ .free) : PE X (.Lambda params body scope pos) (tLamV P q params body scope) := by
  refine ⟨fun pins s σ H Q I h => ?_⟩
  obtain ⟨hT, h⟩ := h
  refine lam_value I TB hcode hq hT hdef (fun y hy e => absurd e (hfree y hy)) fun f c' H1 s' I1 eN T1 f0 f1 c1 => ?_
  rw [clo_nil hfree] at f1
  exact ⟨.ref f, H1, I1, rfl, h f c' H1 eN T1 f0 f1 c1⟩
/-! ### what it promises -/
structure LOk (P : Program) (w : World) (K : PySem.W.Frag) (mg : Str → Option Value) (base : Heap) (k : Nat) (f : Addr) (F : NF) (b : Expr) (tl : Hp → VK → XK → Prop) : Prop where
  run : ∀ (A : Around) (outer : List Env) (s : Shared) (H : Hp) (Q : VK) (E : XK), Room k A → Env0 P w K mg base A outer s H → H f = some (LamO f F b) → H F.c = some (CodeO F.c F.qual) → tl H Q E →
    codeAny (model P w) A (.call (.ref f) ⟨[], []⟩) (CR (L2.CX P w) outer P w H s Q E) s
section
variable {P : Program} {w : World} {K : PySem.W.Frag} {mg : Str → Option Value} {base : Heap} {F : NF} {f : Addr} {b : Expr} {k j : Nat} {tl : Hp → VK → XK → Prop}
theorem lok_of (S : NScope [] [] [] F.scope) (hcl : F.cl = []) (hb : ∀ pm cv ctv : Value, bindArgs (PySem.W.kla_fn F.name F.qual F.params b F.scope F.cl pm cv ctv) ⟨[], []⟩ = pure [])
    (hbody : ∀ (A : Around) (outer : List Env) (s : Shared) (H : Hp) (Q : VK) (E : XK), Room k (A.deeper (envF F f s.heap.objs.size)) → tl H Q E → ∃ t : TE, PE (ncx (L2.CX P w) P w K mg base [] F f A outer s H E) b t ∧ t [] H Q) :
    LOk P w K mg base (k + 1) f F b tl := by
  refine ⟨fun A outer s H Q E hr e0 hf hc h => ?_⟩
  have lim : s.heap.NoLimit := e0.mod.nolimit.keeps fun b o e => (e0.bs b o e).1
  obtain ⟨pm, ctv, ho⟩ := lamO_at e0.hok hf
  refine PySem.W.kla_callFunE hr.depth ho rfl S.co S.gen rfl (codeO_at e0.hok hc) ?_
  rw [hb]
  refine wpAny_pure (wpAny_newFunctionEnv S.nocell (fun y hy => absurd hy (by simp)) (fun h₁ hns hsb => ⟨lim.fresh _ hsb, ?_⟩) S.kind)
  show codeAny _ _ (.expr b (envF F f s.heap.objs.size)) _ _
  have kp : ∀ b o, s.heap.get? b = some o → h₁.get? b = some o := fun b o e => hsb.extBut b o (Nat.ne_of_lt (Heap.lt_size e)) (Heap.get?_push_of_some _ e)
  obtain ⟨t, ht, hq⟩ := hbody A outer s H Q E (hr.deeper _) h
  have C : CellsAt F.cl [] [] s.heap H := by
    rw [hcl]
    exact ⟨rfl, (fun y c e => by cases e), (fun x y c e => by cases e), (fun i y e => by simp at e)⟩
  have I : Inv (ncx (L2.CX P w) P w K mg base [] F f A outer s H E) [] (startF [] [] []) H { s with heap := h₁, toks := s.toks + ([] : List (Str × Value)).length } :=
    inv_startN (N := []) (ps := []) (fr := []) (vs := []) (us := []) (ws := []) S hr.hd e0 rfl .nil C hns kp
  refine PySem.W.kla_codeExpr (wpAny_mono (ht.run [] _ [] H Q I hq) (fun v s' hq => ?_) fun e s' hq => hq)
  obtain ⟨w', H', J', rv, q⟩ := hq
  exact ⟨w', H', J'.os, J'.bare, J'.base, J'.hok, rv, q⟩
end
/-- x(), x a name that holds a lambda -/
def tLamC (P : Program) (w : World) (K : PySem.W.Frag) (mg : Str → Option Value) (base : Heap) (k i : Nat) (W : WX) : TE := fun σ H Q => ∃ (f : Addr) (F : NF) (b : Expr) (tl : Hp → VK → XK → Prop) (E : XK), (∀ cls d σ' H', E cls d H' → W cls d σ' H') ∧
  σ[i]? = some (some (.ref f)) ∧ H f = some (LamO f F b) ∧ H F.c = some (CodeO F.c F.qual) ∧ LOk P w K mg base k f F b tl ∧ tl H Q E
theorem pe_lamc {X : Cx} {W : WX} {i k : Nat} {x : Str} {p pos : Pos} (tk : Takes X W) (hr : Room k X.A) (hN : X.N[i]? = some x) (hv : Vis X.env.scope x) (hd : (x == ("__debug__" : Str)) = false := by decide) (hcd : (x == ("__classdict__" : Str)) = false := by decide) :
    PE X (.Call (.Name x p) [] [] pos) (tLamC X.prog X.w X.K X.mg X.base k i W) := by
  refine ⟨fun pins s σ H Q I h => ?_⟩
  obtain ⟨f, F, b, tl, E, hW, hs, hf, hc, L, ht⟩ := h
  refine wpAny_Call_Name_kw (thn ((pe_var (pos := p) hN hv hd hcd).run pins s σ H (fun v H1 => v = .ref f ∧ H1 = H) I ⟨.ref f, hs, rfl, rfl⟩) fun u s1 ⟨v, H1, I1, r1, q1⟩ => ?_)
  obtain ⟨ev, eH⟩ := q1
  subst ev
  rw [eH] at I1
  obtain rfl : u = Value.ref f := r1
  obtain ⟨pm, ctv, ho⟩ := lamO_at I1.hok hf
  refine PySem.W.callWith_F0 (first := []) ⟨_, _, _, _, ho⟩ ?_
  show wpAny _ _ (call (.ref f) []) _ _ _
  refine wpAny_call (codeAny_mono (L.run X.A X.stack s1 H Q E hr I1.env0 hf hc ht) fun r s' hq => ?_)
  cases r with
  | error e => exact passes_call tk hW pins σ H s1 e s' I1 hq
  | ok fl =>
    cases fl with
    | ret u => exact I1.after hq
    | next => exact False.elim hq
    | brk => exact False.elim hq
    | cont => exact False.elim hq
/-- def told(what): try: return what() / except X: return ret -/
def spTold (P : Program) (w : World) (K : PySem.W.Frag) (mg : Str → Option Value) (base : Heap) (k : Nat) (CS : Addr) (ret : Str) : Sp := fun vs H Q _ => ∃ (f : Addr) (F : NF) (b : Expr) (tl : Hp → VK → XK → Prop), vs = [.ref f] ∧
  H f = some (LamO f F b) ∧ H F.c = some (CodeO F.c F.qual) ∧ LOk P w K mg base k f F b tl ∧ tl H Q (fun cls _ H' => ∃ b, PySem.W.exmOne K cls (.ref CS) = some b ∧ (b = true → Q (.str ret) H') ∧ (b = false → False))
theorem ps_told {P : Program} {w : World} {K : PySem.W.Frag} {mg : Str → Option Value} {base : Heap} {N : List Str} {q : Str} {sc : Scope} {g : Addr} {cdv : Value} {A : Around} {outer : List Env} {s : Shared} {H : Hp} {E : XK} {ret e a : Str} {CS : Addr} {k j : Nat} {p1 p2 p3 p4 p5 p6 p7 p8 : Pos} {Q : VK} {vs : List V}
    (hge : sc.names.lookup e = some .globalImplicit) (hme : mg e = some (.ref CS)) (hN : N[0]? = some a) (hv : Vis sc a) (h0 : ∀ f : Addr, (L2.start N [V.ref f])[0]? = some (some (V.ref f))) (hr : Room k (A.deeper (envOfC q sc s.heap.objs.size g cdv)))
    (h : spTold P w K mg base k CS ret vs H Q E) (hde : (e == ("__debug__" : Str)) = false := by decide) (hd : (a == ("__debug__" : Str)) = false := by decide) (hcd : (a == ("__classdict__" : Str)) = false := by decide) :
    ∃ t, PSs (cxOf C8.CX0 P w K mg base N q sc g cdv A outer s H E).nox [.Try [.Return (some (.Call (.Name a p1) [] [] p2)) p3] [.ExceptHandler (some (.Name e p4)) none [.Return (some (.Constant (.str ret) j p5)) p6] p7] [] [] p8] t ∧
      t { nx := fun _ H' => Q .non H', rt := Q } (L2.start N vs) H := by
  obtain ⟨f, F, b, tl, rfl, hf, hc, L, ht⟩ := h
  have hgl : Gl (cxOf C8.CX0 P w K mg base N q sc g cdv A outer s H E).nox e := hge
  refine ⟨_, pss_one (ps_try_only (c := .ref CS) (tb := fun W D σ H => tLamC P w K mg base k 0 W σ H D.rt) rfl rfl ⟨hgl, hde, .inl hme⟩ L2.takes0 (fun W pn xe tk _ => pss_one (ps_ret (pe_lamc tk hr hN hv hd hcd))) (fun a oe cls d pn _ _ => pss_one (ps_ret pe_str))), ?_⟩
  refine ⟨f, F, b, tl, _, fun cls d σ' H' q => ?_, h0 f, hf, hc, L, ht⟩
  obtain ⟨b, e1, e2, e3⟩ := q
  exact ⟨b, e1, fun hb a _ => e2 hb, fun hb => e3 hb⟩
/-! ### defs that may raise -/
structure MakX (P : Program) (w : World) (K : PySem.W.Frag) (mg : Str → Option Value) (base : Heap) (k : Nat) (x : Str) (C : Addr) (sp : Sp) (dvs : List V) : Prop where
  ex : ∃ (f : Addr) (fd : FuncData) (ps : List Str) (ds : List Value), Mk K C f ∧ FnOk P w K mg base (L2.CX P w) k f fd ps sp ∧ mg x = some (.ref C) ∧ Binds K fd ps ds ∧ Vals dvs ds
structure MetX (P : Program) (w : World) (K : PySem.W.Frag) (mg : Str → Option Value) (base : Heap) (k : Nat) (C : Addr) (m : Str) (sp : Sp) (dvs : List V) : Prop where
  ex : ∃ (f : Addr) (fd : FuncData) (ps : List Str) (ds : List Value), Cls K C ∧ Meth K C m f ∧ FnOk P w K mg base (L2.CX P w) k f fd ps sp ∧ Binds K fd ps ds ∧ Vals dvs ds
structure CalX (P : Program) (w : World) (K : PySem.W.Frag) (mg : Str → Option Value) (base : Heap) (k : Nat) (x : Str) (sp : Sp) (dvs : List V) : Prop where
  ex : ∃ (f : Addr) (fd : FuncData) (ps : List Str) (ds : List Value), FnOk P w K mg base (L2.CX P w) k f fd ps sp ∧ mg x = some (.ref f) ∧ PySem.W.keepIn K (.ref f) = true ∧ Binds K fd ps ds ∧ Vals dvs ds
section
variable {X : Cx} {k j : Nat} {C : Addr} {x m : Str} {sp : Sp} {dvs : List V} {p pos apos : Pos} {e o : Expr} {es : List Expr} {ta : TE} {t : TA} {E : XK}
theorem pe_cX (c : CalX X.prog X.w X.K X.mg X.base k x sp dvs) (hr : Room j X.A) (hk : k ≤ j) (hg : Gl X x) (tk : Takes X (fun cls d _ H => E cls d H)) (ha : PA X (e :: es) t)
    (hdb : (x == ("__debug__" : Str)) = false := by decide) (he : starEach (e :: es) X.env = (false, eval e X.env) :: starEach es X.env := by rfl) (hpl : (backTo pos (starEach es X.env)).any (·.1) = false := by rfl) :
    PE X (.Call (.Name x p) (e :: es) [] pos) (tCall sp dvs E t) := by
  obtain ⟨f, fd, ps, ds, F, hm, kp, b, d⟩ := c.ex
  exact pe_call F (hr.mono hk) hg hm kp b d (passes_call tk fun _ _ _ _ h => h) ha hdb he hpl
theorem pe_mkX (c : MakX X.prog X.w X.K X.mg X.base k x C sp dvs) (hr : Room j X.A) (hk : k + 1 ≤ j) (hg : Gl X x) (tk : Takes X (fun cls d _ H => E cls d H)) (ha : PA X (e :: es) t)
    (hdb : (x == ("__debug__" : Str)) = false := by decide) (he : starEach (e :: es) X.env = (false, eval e X.env) :: starEach es X.env := by rfl) (hpl : (backTo pos (starEach es X.env)).any (·.1) = false := by rfl) :
    PE X (.Call (.Name x p) (e :: es) [] pos) (tMake C sp dvs E t) := by
  obtain ⟨f, fd, ps, ds, M, F, hm, b, d⟩ := c.ex
  exact pe_make M F (hr.mono hk) hg hm b d (passes_call tk fun _ _ _ _ h => h) ha hdb he hpl
theorem pe_mtX {pl : Sem Bool} (c : MetX X.prog X.w X.K X.mg X.base k C m sp dvs) (hr : Room j X.A) (hk : k ≤ j) (tk : Takes X (fun cls d _ H => E cls d H)) (he : PE X o ta) (ha : PA X (e :: es) t)
    (hst : starEach (e :: es) X.env = (false, eval e X.env) :: starEach es X.env := by rfl) (hpl : (backTo pos (starEach es X.env)).any (·.1) = false := by rfl)
    (ht : eval (.Call (.Attribute o m apos) (e :: es) [] pos) X.env = (do
      let ov ← eval o X.env
      standAt apos.atName
      let (f, first) ← holding [ov] (getMethod ov m pl)
      callWith pos f first (backTo pos (starEach (e :: es) X.env)) (backToKw pos (keywordEach [] X.env))) := by rfl) :
    PE X (.Call (.Attribute o m apos) (e :: es) [] pos) (tMeth C m sp dvs E ta t) := by
  obtain ⟨f, fd, ps, ds, hc, hm, F, b, d⟩ := c.ex
  exact pe_meth (pl := pl) he hc hm F (hr.mono hk) b d (passes_call tk fun _ _ _ _ h => h) ha hst hpl ht
end
/-- an own error class below ValueError, without __init__ -/
structure ExcT (K : PySem.W.Frag) (mg : Str → Option Value) (x : Str) (C : Addr) : Prop where
  g : mg x = some (.ref C)
  ex : PySem.W.excIn K C [.type "ValueError", .type "Exception", .type "BaseException", .type "object"] "ValueError.__new__" = true
  kp : PySem.W.keepIn K (.ref C) = true
  sb : PySem.W.subIn K (.ref C) (.type "BaseException") = some true
  ty : PySem.W.typeIn K (.ref C) = some (.type "type")
  ic : PySem.W.isClsIn K C = true
  ss : PySem.W.subIn K (.ref C) (.ref C) = some true
theorem ExcT.em {K : PySem.W.Frag} {mg : Str → Option Value} {x : Str} {C : Addr} (T : ExcT K mg x C) : PySem.W.exmOne K (.ref C) (.ref C) = some true := by
  have ic : (PySem.W.clsIn K C).isSome = true := T.ic
  simp [PySem.W.exmOne, PySem.W.kitCls, T.sb, ic, T.ty, T.ss]
theorem ps_raiseT {X : Cx} {W : WX} {x m : Str} {C : Addr} {j : Nat} {p p2 pos pos2 : Pos} (T : ExcT X.K X.mg x C) (hc : X.calm = true) (tk : Takes X W) (hg : Gl X x) (hdb : (x == ("__debug__" : Str)) = false := by decide) :
    PS X (.Raise (some (.Call (.Name x p) [.Constant (.str m) j p2] [] pos)) none pos2) (fun _ σ H => W (.ref C) none σ H) :=
  ps_raise hc tk (pmk_own PySem.F.excBase_ValueError T.ex T.g T.kp (raises_own T.sb T.ty) hg hdb)
/-- Fun.ok for a def with defaults -/
theorem funD_ok0 {P : Program} {w : World} {K : PySem.W.Frag} {mg : Str → Option Value} {base : Heap} {x qual : Str} {params : Arguments} {body : List Stmt} {scope : Scope} {dvs : List V} {kws : List (Str × V)} {f : Addr} {fd : FuncData}
    {N ps : List Str} {k : Nat} {sp : Sp} (F : FunD K x qual params body scope dvs kws f fd) (S : FnScope N ps scope) (len : ∀ vs H Q E, sp vs H Q E → vs.length = ps.length)
    (hbody : ∀ (cdv : Value) (A : Around) (outer : List Env) (s : Shared) (H : Hp) (vs : List V) (Q : VK) (E : XK), Room k (A.deeper (envOfC qual scope s.heap.objs.size f cdv)) → sp vs H Q E →
      ∃ t, PSs (cxOf L2.CX0 P w K mg base N qual scope f cdv A outer s H E).nox body t ∧ t { nx := fun _ H' => Q .non H', rt := Q } (start N vs) H) : FnOk P w K mg base L2.CX0 (k + 1) f fd ps sp :=
  F.ok S len fun cdv A outer s H vs Q E hr hsp => let ⟨t, h, q⟩ := hbody cdv A outer s H vs Q E hr hsp; ⟨t, h.nox, q⟩
end Sd


/-! == and != of data without dicts: what the law compares. -/
namespace Sd
open PySem PySem.Spec PyProof.Rows L2
mutual
theorem eqv_self : ∀ d : PyData, d.plain = true → PyData.eqv d d = true
  | .none, _ => rfl
  | .bool b, _ => by simp [PyData.eqv]
  | .int i, _ => by simp [PyData.eqv]
  | .str x, _ => by simp [PyData.eqv]
  | .list xs, h => by
    simp only [PyData.eqv]
    exact eqv_selfAll xs (by simpa [PyData.plain] using h)
  | .tuple xs, h => by
    simp only [PyData.eqv]
    exact eqv_selfAll xs (by simpa [PyData.plain] using h)
  | .dict _, h => by simp [PyData.plain] at h
theorem eqv_selfAll : ∀ xs : List PyData, PyData.plainAll xs = true → PyData.eqvAll xs xs = true
  | [], _ => by simp [PyData.eqvAll]
  | x :: xs, h => by
    simp only [PyData.plainAll, Bool.and_eq_true] at h
    simp only [PyData.eqvAll, Bool.and_eq_true]
    exact ⟨eqv_self x h.1, eqv_selfAll xs h.2⟩
end
/-- data that may be compared: no dict, not deep -/
structure Shal (d : PyData) : Prop where
  p : d.plain = true
  d : d.depth ≤ 60
def rEqP (K : PySem.W.Frag) : R2 := fun x y H Q => ∃ d e, Dp K H x d ∧ Dp K H y e ∧ Shal d ∧ Shal e ∧ Q (.bl (PyData.eqv d e)) H
def rNeP (K : PySem.W.Frag) : R2 := fun x y H Q => ∃ d e, Dp K H x d ∧ Dp K H y e ∧ Shal d ∧ Shal e ∧ Q (.bl (!PyData.eqv d e)) H
section
variable {X : Cx}
theorem op_eqP (hu : X.A.units + 64 < cLine) : OpR X (compareOp .Eq) (rEqP X.K) := by
  intro pins s σ H x y v u Q I rx ry h
  obtain ⟨d, e, hd, he, sd, se, q⟩ := h
  obtain ⟨as, r1⟩ := Dp.reads I d x v hd rx
  obtain ⟨bs, r2⟩ := Dp.reads I e y u he ry
  have := sd.d
  exact PySem.SeqAt.eq_plain r1 r2 sd.p se.p (by omega) ⟨.bl _, H, I, rfl, q⟩
theorem op_neP (hu : X.A.units + 64 < cLine) : OpR X (compareOp .NotEq) (rNeP X.K) := by
  intro pins s σ H x y v u Q I rx ry h
  obtain ⟨d, e, hd, he, sd, se, q⟩ := h
  obtain ⟨as, r1⟩ := Dp.reads I d x v hd rx
  obtain ⟨bs, r2⟩ := Dp.reads I e y u he ry
  have := sd.d
  exact PySem.SeqAt.ne_plain r1 r2 sd.p se.p (by omega) ⟨.bl _, H, I, rfl, q⟩
end
section
variable {K : PySem.W.Frag} {H : Hp} {x y : V} {d e : PyData} {Q : VK}
theorem k_eqSame (h1 : Dp K H x d) (h2 : Dp K H y d) (s : Shal d) (q : Q (.bl true) H) : rEqP K x y H Q := ⟨d, d, h1, h2, s, s, by rw [eqv_self d s.p]; exact q⟩
theorem k_neSame (h1 : Dp K H x d) (h2 : Dp K H y d) (s : Shal d) (q : Q (.bl false) H) : rNeP K x y H Q := ⟨d, d, h1, h2, s, s, by rw [eqv_self d s.p]; exact q⟩
theorem dp_all {α : Type} {f : α → V} {g : α → PyData} : ∀ {l : List α}, (∀ a ∈ l, Dp K H (f a) (g a)) → DpAll K H (l.map f) (l.map g)
  | [], _ => .nil
  | a :: l, h => .cons (h a List.mem_cons_self) (dp_all fun b hb => h b (List.mem_cons_of_mem _ hb))
theorem plain_all {α : Type} {g : α → PyData} : ∀ {l : List α}, (∀ a ∈ l, (g a).plain = true) → PyData.plainAll (l.map g) = true
  | [], _ => by simp [PyData.plainAll]
  | a :: l, h => by
    simp only [List.map_cons, PyData.plainAll, Bool.and_eq_true]
    exact ⟨h a List.mem_cons_self, plain_all fun b hb => h b (List.mem_cons_of_mem _ hb)⟩
theorem depth_all {α : Type} {g : α → PyData} {n : Nat} : ∀ {l : List α}, (∀ a ∈ l, (g a).depth ≤ n) → PyData.depthAll (l.map g) ≤ n
  | [], _ => by simp [PyData.depthAll]
  | a :: l, h => by
    simp only [List.map_cons, PyData.depthAll]
    exact Nat.max_le.mpr ⟨h a List.mem_cons_self, depth_all fun b hb => h b (List.mem_cons_of_mem _ hb)⟩
theorem shal_list {α : Type} {g : α → PyData} {l : List α} {n : Nat} (hn : n < 60) (h : ∀ a ∈ l, (g a).plain = true ∧ (g a).depth ≤ n) : Shal (.list (l.map g)) := by
  refine ⟨by simp only [PyData.plain]; exact plain_all fun a ha => (h a ha).1, ?_⟩
  have := depth_all (l := l) (g := g) (n := n) fun a ha => (h a ha).2
  simp only [PyData.depth]
  omega
theorem dp_ints {ns : List Int} : DpAll K H (ns.map V.int) (ns.map PyData.int) := dp_all fun _ _ => .int _
theorem shal_ints {ns : List Int} : Shal (.list (ns.map PyData.int)) := shal_list (n := 0) (by decide) fun _ _ => ⟨by simp [PyData.plain], by simp [PyData.depth]⟩
theorem dp_strs {ns : List Str} : DpAll K H (ns.map V.str) (ns.map PyData.str) := dp_all fun _ _ => .str _
theorem shal_strs {ns : List Str} : Shal (.list (ns.map PyData.str)) := shal_list (n := 0) (by decide) fun _ _ => ⟨by simp [PyData.plain], by simp [PyData.depth]⟩
theorem dp_lst {a : Addr} {xs : List V} {ds : List PyData} (h : H a = some (.lst xs)) (hd : DpAll K H xs ds) : Dp K H (.ref a) (.list ds) := .lst (.of h) hd
theorem dp_tup {a : Addr} {xs : List V} {ds : List PyData} (h : H a = some (.tup xs)) (hd : DpAll K H xs ds) : Dp K H (.ref a) (.tuple ds) := .tup (.of h) hd
end
end Sd


/-! A generator expression of any element, consumed by tuple(..) or list(..). -/
namespace Gx
open PySem PySem.Spec PyProof.Rows L2 GenW

/-- the genexp's own frame over the def's -/
abbrev gx (X : Cx) (A : Around) (s : Shared) (H : Hp) (cenv : Env) (fp : List Addr) (pn : List (Addr × Obj)) : Cx :=
  { X with A := A, s_0 := s, H_0 := H, env := cenv, outer := X.stack, stack := cenv :: X.stack, ex := fp, fn := fun _ => false, calm := true, pn := pn, xe := fun _ _ => False }

/-- the genexp's names: «.0» (none of N), its own (with their places in N), captured ones -/
structure GxOk (N : List Str) (sc scope : Scope) (own : List (Str × Nat)) : Prop where
  kind : scope.kind = .function
  co : scope.isCoroutine = false
  cell : ∀ y ∈ scope.names, y.2 ≠ .cell
  dot : scope.names.lookup (".0" : Str) = some NameKind.local
  uniq : ∀ y ∈ scope.names, scope.names.lookup y.1 = some y.2
  ix : ∀ p ∈ own, N[p.2]? = some p.1
  free : ∀ y ∈ scope.names, y.2 = .free → sc.names.lookup y.1 = some .cell ∨ sc.names.lookup y.1 = some .free
  own : ∀ y ∈ scope.names, y.2 = .local → y.1 ∈ own.map (·.1) ∨ y.1 ∉ N

def gxC (N : List Str) (sc scope : Scope) (own : List (Str × Nat)) : Bool :=
  (match scope.kind with | .function => true | _ => false) && !scope.isCoroutine && decide (scope.names.lookup (".0" : Str) = some NameKind.local) && (scope.names.all fun y => decide (scope.names.lookup y.1 = some y.2)) && (own.all fun p => decide (N[p.2]? = some p.1)) &&
    (scope.names.all fun y => match y.2 with
      | .free => (match sc.names.lookup y.1 with | some .cell => true | some .free => true | _ => false)
      | .local => decide (y.1 ∈ own.map (·.1)) || decide (y.1 ∉ N)
      | .cell => false
      | _ => true)
theorem gxOk_by {N : List Str} {sc scope : Scope} {own : List (Str × Nat)} (h : gxC N sc scope own = true) : GxOk N sc scope own := by
  unfold gxC at h
  simp only [Bool.and_eq_true, List.all_eq_true, decide_eq_true_eq, Bool.not_eq_true'] at h
  obtain ⟨⟨⟨⟨⟨h1, h0⟩, hd⟩, h2⟩, h3⟩, h4⟩ := h
  refine ⟨?_, h0, fun y hy e => ?_, hd, h2, h3, fun y hy e => ?_, fun y hy e => ?_⟩
  · split at h1
    · assumption
    · cases h1
  · have q := h4 y hy
    simp only [e] at q
    cases q
  · have q := h4 y hy
    simp only [e] at q
    split at q <;> first | exact .inl (by assumption) | exact .inr (by assumption) | cases q
  · have q := h4 y hy
    simp only [e, Bool.or_eq_true, decide_eq_true_eq] at q
    exact q

theorem gx_over {A : Around} {elt : Expr} {gens : List Comprehension} {scope : Scope} {pos : Pos} {it acc : Value} {env : Env} :
    A.over (.compLoop (.GeneratorExp elt gens scope pos) 0 it acc env) [] = A.deeper env := by
  first
    | rfl
    | (obtain ⟨hd, d, fr, gs, u⟩ := A; simp [Around.over, Around.deeper, marksOver, frameCount, unitsOf, envsOf, guardsOf, pushEnvs, pushGuards, Code.envs, Code.env?, Code.isFrame, Code.guards, Code.isGuard, Code.weight, Code.frames, Code.isCreation, Code.isCaller, Code.cUnits])

section
variable {X : Cx} {pins : List (Addr × Obj)} {σ : L2.St} {H : Hp} {s : Shared}
theorem gx_start {A : Around} {scope : Scope} {own : List (Str × Nat)} {fp : List Addr} {code : Value} {m : Str → Option Value} {s' : Shared} {pn : List (Addr × Obj)} (I : Inv X pins σ H s) (ok : GxOk X.N X.env.scope scope own) (hN : X.N.Nodup)
    (hfp : ∀ b ∈ fp, FpOk X pins H b ∧ b < s.heap.objs.size) (hA : A.handled = none)
    (hfr : A.frames = some (genEnv scope (cloFrom X.env.cells scope.names []) s.heap.objs.size code builtinsNs X.env :: X.stack))
    (kp : ∀ b o, s.heap.get? b = some o → s'.heap.get? b = some o) (hos : s'.os = s.os) (hb : AllBare s'.gens) (hns : s'.heap.Ns s.heap.objs.size m)
    (hpn : ∀ p ∈ pn, s'.heap.get? p.1 = some p.2 ∧ s.heap.objs.size < p.1 ∧ ∀ v, p.2.data ≠ .cell v) :
    Inv (gx X A s H (genEnv scope (cloFrom X.env.cells scope.names []) s.heap.objs.size code builtinsNs X.env) fp pn) [] (wipe σ (own.map (·.2))) H s' := by
  have hfree : ∀ y ∈ scope.names, y.2 = .free → ∃ c, X.env.cells.lookup y.1 = some c := fun y hy e => by
    rcases ok.free y hy e with k | k
    · exact I.ok.has _ (.inl k)
    · exact I.ok.has _ (.inr k)
  generalize hcenv : genEnv scope (cloFrom X.env.cells scope.names []) s.heap.objs.size code builtinsNs X.env = cenv at hfr ⊢
  have hL : cenv.locals = s.heap.objs.size := by rw [← hcenv]; rfl
  have hcl : cenv.cells = cloFrom X.env.cells scope.names [] := by rw [← hcenv]; rfl
  have hsc : cenv.scope = scope := by rw [← hcenv]; rfl
  have cm : ∀ {y c}, cenv.cells.lookup y = some c → X.env.cells.lookup y = some c ∧ c < s.heap.objs.size := fun {y c} hm => by
    rw [hcl] at hm
    rcases cloFrom_mem (PySem.mem_of_lookup hm) with hm | ⟨h1, rfl⟩
    · cases hm
    · obtain ⟨c, hc⟩ := hfree _ h1 rfl
      rw [hc]
      obtain ⟨w, z⟩ := I.cell _ _ hc
      exact ⟨rfl, z.lt⟩
  have look : ∀ {y}, scope.names.lookup y = some .free → ∃ c, cenv.cells.lookup y = some c ∧ X.env.cells.lookup y = some c := fun {y} hl => by
    have hy : (y, NameKind.free) ∈ scope.names := PySem.mem_of_lookup hl
    obtain ⟨c', e'⟩ := mem_lookup (cloFrom_has (cells := X.env.cells) (acc := []) hy)
    rw [← hcl] at e'
    exact ⟨c', e', (cm e').1⟩
  have okB : (gx X A s H cenv fp pn).Ok := by
    refine ⟨I.ok.mod, by show cenv.scope.kind = _; rw [hsc]; exact ok.kind, by show cenv.globals = _; rw [← hcenv]; exact I.ok.glob, by show cenv.builtins = _; rw [← hcenv]; rfl, by show s.heap.objs.size ≤ cenv.locals; rw [hL]; exact Nat.le_refl _,
      fun y z c e1 e2 => ?_, fun y hy => ?_, fun y c z e => ?_, fun _ => hA, hfr, .inr ⟨rfl, by show cenv.frame = some cenv.locals; rw [← hcenv]; rfl⟩, fun b hb => ⟨?_, fun y c e z => ?_⟩, I.bs, Nat.le_trans I.ok.bsz I.sz, fun b o e hb => ?_, fun b hb z => ?_, I.stack, I.stkFree⟩
    · exact I.ok.inj y z c (cm e1).1 (cm e2).1
    · show ∃ c, cenv.cells.lookup y = some c
      have hy' : cenv.scope.names.lookup y = some .cell ∨ cenv.scope.names.lookup y = some .free := hy
      rw [hsc] at hy'
      rcases hy' with hy' | hy'
      · exact absurd rfl (ok.cell _ (PySem.mem_of_lookup hy'))
      · obtain ⟨c, h1, _⟩ := look hy'
        exact ⟨c, h1⟩
    · exact absurd z (by simp)
    · show b ≠ cenv.locals
      rw [hL]; exact Nat.ne_of_lt (hfp b hb).2
    · exact (hfp b hb).1.2.2.2.2.1 y c (cm e).1 z
    · rcases (hfp b hb).1.2.2.2.1 with z | z
      · exact I.ok.noex b o e z
      · exact absurd (Nat.lt_of_lt_of_le (Heap.lt_size e) (Nat.le_trans I.ok.bsz z)) (Nat.lt_irrefl _)
    · rcases List.mem_cons.mp (I.stkSub b z) with z | z
      · exact (hfp b hb).1.2.1 z
      · exact (hfp b hb).1.2.2.1 z
  refine ⟨okB, hos, hb, Un.kept kp, ⟨m, ?_, fun i y av e1 e2 e3 => ?_⟩, fun y c e => ?_, ?_, fun y c e => ?_, fun p hp => ?_, I.hok.kept kp, by rw [wipe_length]; exact I.len⟩
  · show Heap.Ns _ cenv.locals _
    rw [hL]; exact hns
  · obtain ⟨e2, hne⟩ := wipe_some e2
    have e3 : Vis cenv.scope y := e3
    rw [hsc] at e3
    have hfr : scope.names.lookup y = some .free := by
      rcases e3 with e3 | e3 | e3
      · rcases ok.own _ (PySem.mem_of_lookup e3) rfl with e' | e'
        · obtain ⟨p, hp, hpy⟩ := List.mem_map.mp e'
          have e3 := ok.ix p hp
          have : p.1 = y := hpy
          rw [this] at e3
          exact absurd (List.mem_map.mpr ⟨p, hp, nodup_ix hN e3 e1⟩) hne
        · exact absurd (List.mem_of_getElem? e1) e'
      · exact absurd rfl (ok.cell _ (PySem.mem_of_lookup e3))
      · exact e3
    obtain ⟨m, hn, hl⟩ := I.loc
    have hvis : Vis X.env.scope y := (ok.free _ (PySem.mem_of_lookup hfr) rfl).elim (fun k => .inr (.inl k)) (fun k => .inr (.inr k))
    obtain ⟨w, r, q⟩ := hl i y av e1 e2 hvis
    refine ⟨w, r, .inr ⟨.inr ?_, ?_⟩⟩
    · show cenv.scope.names.lookup y = _
      rw [hsc]; exact hfr
    obtain ⟨c, h1, h2⟩ := look hfr
    rcases q with ⟨k, _⟩ | ⟨_, c', e', z⟩
    · have k : X.env.scope.names.lookup y = some .local := k
      rcases ok.free _ (PySem.mem_of_lookup hfr) rfl with k' | k' <;> rw [show X.env.scope.names.lookup y = _ from k'] at k <;> cases k
    · rw [h2] at e'; cases e'
      exact ⟨c, h1, z.keeps kp⟩
  · obtain ⟨w, z⟩ := I.cell y c (cm e).1
    exact ⟨w, z.keeps kp⟩
  · show H cenv.locals = none
    rw [hL]; exact I.hok.fresh (Nat.le_refl _)
  · exact I.freeC y c (cm e).1
  · have hp : p ∈ pn := by simpa using hp
    obtain ⟨q1, q2, q3⟩ := hpn p hp
    refine ⟨q1, I.hok.fresh (Nat.le_of_lt q2), ?_, fun z => ?_, q3⟩
    · show p.1 ≠ cenv.locals
      rw [hL]; exact Nat.ne_of_gt q2
    · rcases List.mem_cons.mp (I.stkSub p.1 z) with z | z
      · exact absurd (z ▸ I.lt) (Nat.not_lt_of_ge (Nat.le_of_lt q2))
      · exact I.nofs (Nat.le_of_lt q2) z

/-! ### the run -/
/-- the end: all handed out stands in S -/
def GEnd (X' : Cx) (S : Addr) (σ : L2.St) (Q : List V → Hp → Prop) : GenEnd := fun n _ r s => r = .ok .next ∧ ∃ ys H, n + ys.length = sizeLine ∧ GI X' S [] ys σ H s ∧ Q ys H

theorem seg_gx {A : Around} {S : Addr} {elt tg iter : Expr} {ifs : List Expr} {scope : Scope} {gpos : Pos} {g : TG} {tt : TT} {te : TE} {vs : List Nat} {J : It} {fp : List Addr} {it : Addr} {tn : Nat → Heap → Prop} {H0 : Hp} {s0 : Shared} {cenv : Env} {pn : List (Addr × Obj)}
    {W : Nat → Nat → List V → Hp → Prop} {Q : List V → Hp → Prop}
    (T : Turn X.prog X.w X.K tg J fp it tn) (hco : cenv.scope.isCoroutine = false)
    (pg : PG (gx X (A.deeper cenv) s0 H0 cenv fp pn) tg g) (pt : PTs (gx X (A.deeper cenv) s0 H0 cenv fp pn) ifs tt) (pe : PE (gx X (A.deeper cenv) s0 H0 cenv fp pn) elt te)
    (hpn : ∀ p ∈ pn, p.1 ≠ S ∧ p.1 ∉ fp) (hA : Apart (gx X (A.deeper cenv) s0 H0 cenv fp pn) S) (hS : S ∉ fp)
    (turn : ∀ i m ys H, W i m ys H → (J.stop i H ∧ Q ys H) ∨ (J.go i H ∧ ∃ Nx : List V → Hp → Prop, (∀ ys' H', Nx ys' H' → ∃ m', m' < m ∧ W (i + 1) m' ys' H') ∧ ∀ x H', J.yld i H x H' → g x (wipe σ vs) H' fun σ2 H2 => wipe σ2 vs = wipe σ vs ∧ tt σ2 H2 fun b H3 =>
      if b = true then te σ2 H3 fun y H4 => ys.length < sizeLine ∧ Nx (ys ++ [y]) H4 else Nx ys H3)) :
    ∀ (m n i : Nat) (ys : List V) (H : Hp) (s₀ s : Shared), n + ys.length = sizeLine → W i m ys H → GI (gx X (A.deeper cenv) s0 H0 cenv fp pn) S [] ys (wipe σ vs) H s → tn i s.heap → (∀ b ∈ fp, H b = none) →
      Seg (model X.prog X.w) A (GEnd (gx X (A.deeper cenv) s0 H0 cenv fp pn) S (wipe σ vs) Q) (GY (gx X (A.deeper cenv) s0 H0 cenv fp pn) S) n s₀ (.compLoop (.GeneratorExp elt [⟨tg, iter, ifs, 0⟩] scope gpos) 0 (.ref it) .none cenv)
        ((model X.prog X.w).den (.compLoop (.GeneratorExp elt [⟨tg, iter, ifs, 0⟩] scope gpos) 0 (.ref it) .none cenv)) [] s := by
  have stat : ∀ {σ' : L2.St} {H' : Hp} {s' : Shared} {acc : Array Value} {c : Nat}, Inv (gx X (A.deeper cenv) s0 H0 cenv fp pn) [(S, lstObj acc c)] σ' H' s' → (∀ b ∈ fp, H' b = none) → ∀ b ∈ fp, FpOk (gx X (A.deeper cenv) s0 H0 cenv fp pn) [(S, lstObj acc c)] H' b := fun {σ' H' s' acc c} I' hn b hb =>
    ⟨hn b hb, (I'.ok.exf b hb).1, I'.ok.exfs b hb, .inl hb, fun x c e => (I'.ok.exf b hb).2 x c e, fun p hp z => by
      rcases List.mem_append.mp hp with hp | hp
      · exact (hpn p hp).2 (z ▸ hb)
      · rw [List.mem_singleton.mp hp] at z
        have z : S = b := z
        exact hS (by rw [z]; exact hb)⟩
  intro m
  induction m using Nat.strongRecOn with
  | ind m ih =>
    intro n i ys H s₀ s hn w hI hst hfn
    show Seg _ A _ _ _ s₀ _ ((compTurn (.GeneratorExp elt [⟨tg, iter, ifs, 0⟩] scope gpos) 0 (.ref it) .none cenv).onRaise (leaving cenv)) [] s
    rw [compTurn_gen, Sem.onRaise_eq_wrap]
    refine seg_bind_wrap (wpAny_standAt ?_)
    obtain ⟨acc, cc, r, I⟩ := hI
    rcases turn i m ys H w with ⟨stop, q⟩ | ⟨go, Nx, hNx, step⟩
    · refine seg_bind_wrap ?_
      rw [gx_over]
      refine thnF (T.done (gx X (A.deeper cenv) s0 H0 cenv fp pn) rfl rfl rfl rfl i _ s _ H (fun _ _ => False) I (stat I hfn) hst stop) fun rr s1 ⟨hr, I1⟩ => ?_
      subst hr
      exact seg_end (.ok .next) ⟨rfl, ys, H, hn, ⟨acc, cc, r, I1⟩, q⟩
    · refine seg_bind_wrap ?_
      rw [gx_over]
      refine thnF (T.item (gx X (A.deeper cenv) s0 H0 cenv fp pn) rfl rfl rfl rfl i _ s _ H (fun _ _ => False) I (stat I hfn) hst go) fun rr s1 ⟨u, hr, h1⟩ => ?_
      subst hr
      refine seg_bind_wrap ?_
      rw [gx_over]
      refine thnF h1 fun _ s2 ⟨x, H2, I2, r2, y2, st2, n2⟩ => ?_
      have I2' := I2.pinned (stat I2 n2) (T.obj _ _ st2)
      refine seg_bind_wrap ?_
      rw [gx_over]
      refine thnF (pg.run _ s2 _ H2 x u _ I2' r2 (step x H2 y2)) fun _ s3 ⟨σ3, H3, I3, hw3, q3⟩ => ?_
      refine seg_bind_wrap ?_
      rw [gx_over]
      refine thnF (pt.run _ s3 σ3 H3 _ I3 q3) fun b s4 ⟨H4, I4, q4⟩ => ?_
      -- the turn's end
      have hl : ∀ {s' : Shared} {H' : Hp}, Inv (gx X (A.deeper cenv) s0 H0 cenv fp pn) ([(S, lstObj acc cc)] ++ pinsAt fp s2.heap) σ3 H' s' →
          Inv (gx X (A.deeper cenv) s0 H0 cenv fp pn) [(S, lstObj acc cc)] (wipe σ vs) H' s' ∧ tn (i + 1) s'.heap ∧ ∀ b ∈ fp, H' b = none := fun {s' H'} I' => by
        have pin' : ∀ b ∈ fp, ∀ o, s2.heap.get? b = some o → s'.heap.get? b = some o ∧ H' b = none := fun b hb o e =>
          let z := I'.pin (b, o) (List.mem_append_right _ (List.mem_append_right _ (mem_pinsAt hb e)))
          ⟨z.1, z.2.1⟩
        have hl : (wipe σ vs).length = σ3.length := by rw [← hw3, wipe_length]
        refine ⟨I'.unpinned.weak hl (fun j v e => ?_), T.keep _ _ _ st2 fun b hb o e => (pin' b hb o e).1, fun b hb => ?_⟩
        · rw [← hw3] at e
          exact (wipe_some e).1
        · obtain ⟨o, e, _⟩ := T.obj _ _ st2 b hb
          exact (pin' b hb o e).2
      cases b with
      | false =>
        simp only [Bool.false_eq_true, if_false] at q4 ⊢
        obtain ⟨m', hm, w'⟩ := hNx ys H4 q4
        obtain ⟨I5, st5, n5⟩ := hl I4
        exact seg_again rfl (ih m' hm n (i + 1) ys H4 s₀ s4 hn w' ⟨acc, cc, r, I5⟩ st5 n5)
      | true =>
        simp only [if_true] at q4 ⊢
        have hy : ∀ v, yieldOut cenv v = yieldValue v := fun v => by simp only [yieldOut, hco, Bool.false_eq_true, if_false]
        simp only [hy]
        rw [Sem.bind_eq_wrap', Sem.bind_eq_wrap', Sem.wrap_wrap, Sem.wrap_wrap]
        refine seg_wrap ?_
        rw [gx_over]
        refine thnF (pe.run _ s4 σ3 H4 _ I4 q4) fun v s5 ⟨yv, H5, I5', r5, hlt, nx⟩ => ?_
        obtain ⟨I5, st5, n5⟩ := hl I5'
        obtain ⟨n, rfl⟩ : ∃ k, n = k + 1 := ⟨n - 1, by omega⟩
        obtain ⟨m', hm, w'⟩ := hNx _ H5 nx
        refine seg_at (seg_yield rfl rfl rfl ⟨ys, yv, [], wipe σ vs, H5, hn, r5, ⟨acc, cc, r, I5⟩, fun s'' z => ?_⟩)
        refine seg_again rfl (ih m' hm n (i + 1) _ H5 s'' s'' (by rw [List.length_append, List.length_singleton]; omega) w' ?_ ?_ n5)
        · exact GI.woken (fun p hp => (hpn p hp).1) (fun p hp => absurd hp (by simp)) hA ⟨acc, cc, r, I5⟩ r5 z
        · exact T.keep _ _ _ st5 fun b hb o e => z.keep b o (fun y => hS (y ▸ hb)) e

theorem seg_gx0 {A : Around} {elt tg iter : Expr} {ifs : List Expr} {scope : Scope} {gpos : Pos} {J : It} {fp : List Addr} {it : Addr} {tn : Nat → Heap → Prop} {cenv : Env} {R : GenEnd} {Y : Protocol} {n : Nat} {s₀ s : Shared} {i : Nat}
    (T : Turn X.prog X.w X.K tg J fp it tn) (hst : tn i s.heap)
    (loop : Seg (model X.prog X.w) A R Y n s₀ (.compLoop (.GeneratorExp elt [⟨tg, iter, ifs, 0⟩] scope gpos) 0 (.ref it) .none cenv) ((model X.prog X.w).den (.compLoop (.GeneratorExp elt [⟨tg, iter, ifs, 0⟩] scope gpos) 0 (.ref it) .none cenv)) [] s) :
    Seg (model X.prog X.w) A R Y n s₀ (.compStart (.GeneratorExp elt [⟨tg, iter, ifs, 0⟩] scope gpos) 0 (.ref it) .none cenv) ((model X.prog X.w).den (.compStart (.GeneratorExp elt [⟨tg, iter, ifs, 0⟩] scope gpos) 0 (.ref it) .none cenv)) [] s := by
  show Seg _ A _ _ _ s₀ _ ((compStart (.GeneratorExp elt [⟨tg, iter, ifs, 0⟩] scope gpos) 0 (.ref it) .none cenv).onRaise (leaving cenv)) [] s
  unfold compStart
  rw [Sem.onRaise_eq_wrap]
  show Seg _ A _ _ _ s₀ _ ((ask >>= _).wrap _ _ _ _) [] s
  refine seg_bind_wrap (wpAny_askSetting ?_)
  split
  · exact seg_again rfl loop
  · first
      | exact seg_bind_wrap (wpAny_rule (seg_bind_wrap (wpAny_standAt (seg_bind_wrap (T.self _ i s _ _ hst (seg_again rfl loop))))))
      | (refine seg_bind_wrap (wpAny_rule ?_); show Seg _ A _ _ _ s₀ _ ((standAt iter.pos >>= _).wrap _ _ _ _) [] s; exact seg_bind_wrap (wpAny_standAt (seg_bind_wrap (T.self _ i s _ _ hst (seg_again rfl loop)))))

/-! ### the expression -/
def tGx (wi : TI) (g : TG) (tt : TT) (te : TE) (vs : List Nat) (P : Addr) : TGen := fun σ H cont => wi σ H fun J H1 => GxR.TabG H1 P ∧ ∀ H2, GxR.Tabbed P H1 H2 → ∃ W : Nat → Nat → List V → Hp → Prop, (∃ m, W 0 m [] H2) ∧ ∀ i m ys H, W i m ys H →
  (J.stop i H ∧ cont ys H) ∨ (J.go i H ∧ ∃ Nx : List V → Hp → Prop, (∀ ys' H', Nx ys' H' → ∃ m', m' < m ∧ W (i + 1) m' ys' H') ∧ ∀ x H', J.yld i H x H' → g x (wipe σ vs) H' fun σ2 H2 => wipe σ2 vs = wipe σ vs ∧ tt σ2 H2 fun b H3 =>
    if b = true then te σ2 H3 fun y H4 => ys.length < sizeLine ∧ Nx (ys ++ [y]) H4 else Nx ys H3)

theorem pgen_gx {c P : Addr} {k : Nat} {elt tg iter : Expr} {ifs : List Expr} {scope : Scope} {own : List (Str × Nat)} {gpos : Pos} {wi : TI} {g : TG} {tt : TT} {te : TE}
    (hr : Room (k + 1) X.A) (TB : GxR.TabB X.base X.mg c P) (hcode : X.env.code = .ref c) (hN : X.N.Nodup) (hi : PI X tg iter wi) (ok : GxOk X.N X.env.scope scope own)
    (hg : ∀ (A : Around) (s : Shared) (H : Hp) (C : Addr) (cl : List (Str × Addr)) (code : Value) (fp : List Addr) (pn : List (Addr × Obj)), Room k A → PG (gx X A s H (genEnv scope cl C code builtinsNs X.env) fp pn) tg g)
    (ht : ∀ (A : Around) (s : Shared) (H : Hp) (C : Addr) (cl : List (Str × Addr)) (code : Value) (fp : List Addr) (pn : List (Addr × Obj)), Room k A → PTs (gx X A s H (genEnv scope cl C code builtinsNs X.env) fp pn) ifs tt)
    (he : ∀ (A : Around) (s : Shared) (H : Hp) (C : Addr) (cl : List (Str × Addr)) (code : Value) (fp : List Addr) (pn : List (Addr × Obj)), Room k A → PE (gx X A s H (genEnv scope cl C code builtinsNs X.env) fp pn) elt te)
    (hs : ∀ v, genFold iter X.env v = pure v) : PGen X (k + 1) (.GeneratorExp elt [⟨tg, iter, ifs, 0⟩] scope gpos) (tGx wi g tt te (own.map (·.2)) P) (fun _ _ _ => False) := by
  refine ⟨fun pins s σ H cont I h => ?_⟩
  have hfree : ∀ y ∈ scope.names, y.2 = .free → ∃ c, X.env.cells.lookup y.1 = some c := fun y hy e => by
    rcases ok.free y hy e with k | k
    · exact I.ok.has _ (.inl k)
    · exact I.ok.has _ (.inr k)
  refine wpAny_GeneratorExp_make ok.co (closure_ok hfree) ok.cell ok.dot ok.kind (by have := hr.dp; omega) (thn (hi.run pins s σ H _ I h) fun xv s1 hx => thn hx fun itv s2 h2 => ?_) hs
  obtain ⟨it, fp, tn, J, H2, e, I2, T, st2, f2, hTab, q⟩ := h2
  subst e
  refine ⟨I2.nolimit, ?_⟩
  obtain ⟨ps, hP, htr⟩ := hTab
  have hPs : s2.heap.get? P = some { cls := .none, data := .fields ps } := I2.hok P _ hP
  have cd : PySem.W.CodeHd s2.heap c P := TB.code.keeps fun b u e => I2.bk b u e
  have nfpP : ∀ b ∈ fp, b ≠ P := fun b hb z => by
    have := (f2 b hb).1
    rw [z, hP] at this; cases this
  have cont' : ∀ (code : Value) (h3 : Heap) (tk : Nat) (ps' : Array Value), Heap.ExtBut P s2.heap h3 → s2.heap.objs.size ≤ h3.objs.size → h3.get? P = some { cls := .none, data := .fields ps' } → (∃ more, ps' = ps ++ more) → TriplesOk ps'.toList →
      wpAny (model X.prog X.w) X.A (builtinsFor X.env.globals X.env.builtins) (fun bi s₄ => ∀ h', h'.Ns s₄.heap.objs.size (fun y => if y = ".0" then some (.ref it) else none) → Heap.SameBut s₄.heap.objs.size (s₄.heap.push { cls := .type "frame", data := .dict #[] }) h' →
          (∃ H1 sc ex, Inv X pins σ H1 sc ∧ ExOk X pins ex ∧ GMade X.prog X.w (k + 1) X.stack H1 sc ex cont (fun _ _ _ => False) (.ref h'.objs.size) { s₄ with
            gens := s₄.gens.push (.fresh (.compStart (.GeneratorExp elt [⟨tg, iter, ifs, 0⟩] scope gpos) 0 (.ref it) .none (genEnv scope (cloFrom X.env.cells scope.names []) s₄.heap.objs.size code bi X.env))),
            toks := s₄.toks + 1 + 1 + 1,
            heap := h'.push { cls := .type "generator", data := .fields #[.int s₄.gens.size 0, .str "<genexpr>" (s₄.toks + 1), .str (X.env.qual ++ "<genexpr>") (s₄.toks + 1 + 1)] } })) X.xe { s2 with heap := h3, toks := tk } := by
    intro code h3 tk ps' hx hsz hP3 hmore ht3
    obtain ⟨bm, ob, e1, e2, e3, e4, e5, e6, e7, e8⟩ := TB.bm
    have keep3 : ∀ b u, b ≠ P → s2.heap.get? b = some u → h3.get? b = some u := fun b u hb e => hx b u hb e
    refine wpAny_builtinsFor (m := X.mg) (by rw [I2.ok.glob]; exact (I2.mod.glob.keeps I2.bk).extBut hx TB.gP) e1 e2 (keep3 _ _ e4 (I2.bk _ _ e5)) e6 e7 e8 ?_
    obtain ⟨more, em⟩ := hmore
    have I3 : Inv X pins σ (upd H2 P (.tbl (ps ++ more))) { s2 with heap := h3, gens := s2.gens, drawn := s2.drawn, toks := tk } := GxR.inv_tab I2 hP (fun b u hb e => hx b u hb e) (by rw [← em]; exact hP3) I2.bare
    generalize hs3 : ({ s2 with heap := h3, gens := s2.gens, drawn := s2.drawn, toks := tk } : Shared) = s3 at I3
    have e3h : s3.heap = h3 := by rw [← hs3]
    intro h' hn' hs'
    generalize hH3 : upd H2 P (.tbl (ps ++ more)) = H3 at I3
    have hTb : GxR.Tabbed P H2 H3 := by
      rw [← hH3]
      exact ⟨⟨ps ++ more, upd_same, by rw [← em]; exact ht3⟩, fun b hb => upd_ne hb⟩
    have f3 : ∀ b ∈ fp, FpOk X pins H3 b ∧ b < s3.heap.objs.size := fun b hb => by
      obtain ⟨o, e, _⟩ := T.obj _ _ st2 b hb
      refine ⟨⟨?_, (f2 b hb).2⟩, by rw [e3h]; exact Heap.lt_size (keep3 b o (nfpP b hb) e)⟩
      rw [hTb.2 b (nfpP b hb)]
      exact (f2 b hb).1
    have st3 : tn 0 s3.heap := T.keep _ _ _ st2 fun b hb o e => by rw [e3h]; exact keep3 b o (nfpP b hb) e
    obtain ⟨W, ⟨m0, w0⟩, turn⟩ := q H3 hTb
    have keep' : ∀ b o, s3.heap.get? b = some o → h'.get? b = some o := fun b o e => hs'.extBut b o (Nat.ne_of_lt (Heap.lt_size e)) (Heap.get?_push_of_some _ e)
    have hsz' : h'.objs.size = s3.heap.objs.size + 1 := by rw [hs'.1, Heap.size_push]
    refine ⟨H3, s3, fp, I3, fun b hb => ?_, ?_⟩
    · obtain ⟨z1, z2, z3, z4, z5, z6⟩ := (f3 b hb).1
      exact ⟨z4, z2, z5, z6⟩
    generalize hce : genEnv scope (cloFrom X.env.cells scope.names []) s3.heap.objs.size code builtinsNs X.env = cenv
    have cL : cenv.locals = s3.heap.objs.size := by rw [← hce]; rfl
    generalize hgo : ({ cls := .type "generator", data := .fields #[.int s3.gens.size 0, .str "<genexpr>" (s3.toks + 1), .str (X.env.qual ++ "<genexpr>") (s3.toks + 1 + 1)] } : Obj) = go
    have hgc : go.cls = .type "generator" ∧ go.data = .fields #[.int s3.gens.size 0, .str "<genexpr>" (s3.toks + 1), .str (X.env.qual ++ "<genexpr>") (s3.toks + 1 + 1)] ∧ go.slots = #[] := by
      rw [← hgo]; exact ⟨rfl, rfl, rfl⟩
    have hgen : ∀ h : Heap, h.get? h'.objs.size = some go → h.IsGen h'.objs.size s3.gens.size := fun h e => ⟨go, _, _, e, hgc.1, hgc.2.1, hgc.2.2⟩
    have hpushed : (h'.push go).get? h'.objs.size = some go := by
      rw [← hgo]; exact Heap.get?_push_size _ rfl
    refine ⟨h'.objs.size, s3.gens.size, _, rfl, by omega, ?_, hgen _ hpushed, Array.getElem?_push_size .., rfl, AllBare.push I3.bare rfl, I3.nolimit.keeps fun b o e => Heap.get?_push_of_some _ (keep' b o e), fun b o e => Heap.get?_push_of_some _ (keep' b o e), ?_⟩
    · show _ < (h'.push _).objs.size
      rw [Heap.size_push]; exact Nat.lt_succ_self _
    intro Aw S s4 hrw hfr hSx hk2 hSo hos hba
    have hSz : h'.objs.size < S := by
      have hSx' : (h'.push go).objs.size ≤ S := hSx
      rw [Heap.size_push] at hSx'
      exact hSx'
    have hS3 : s3.heap.objs.size < S := by omega
    obtain ⟨cS, heS⟩ := hSo
    have hea : s4.heap.get? h'.objs.size = some go := hk2 _ go hpushed
    have hgd : ∀ v, go.data ≠ .cell v := fun v z => by rw [hgc.2.1] at z; cases z
    have kp4 : ∀ b o, s3.heap.get? b = some o → s4.heap.get? b = some o := fun b o e => hk2 b o (Heap.get?_push_of_some _ (keep' b o e))
    have I5 := gx_start (A := Aw.deeper cenv) (code := code) (s' := s4) (m := fun y => if y = ".0" then some (.ref it) else none) (pn := [(h'.objs.size, go)]) I3 ok hN f3 hrw.hd (by rw [hce]; exact Around.frames_deeper hfr) kp4 hos hba
      (hn'.keeps fun b o e => hk2 b o (Heap.get?_push_of_some _ e)) (fun p hp => by
        rw [List.mem_singleton.mp hp]
        exact ⟨hea, by show s3.heap.objs.size < h'.objs.size; omega, hgd⟩)
    rw [hce] at I5
    have hSL : S ≠ cenv.locals := by rw [cL]; exact Nat.ne_of_gt hS3
    have hG : GI (gx X (Aw.deeper cenv) s3 H3 cenv fp [(h'.objs.size, go)]) S [] [] (wipe σ (own.map (·.2))) H3 s4 := by
      refine ⟨#[], cS, .nil, I5.pins_of fun p hp => ?_⟩
      rw [List.mem_singleton.mp hp]
      refine ⟨heS, I3.hok.fresh (Nat.le_of_lt hS3), hSL, fun z => ?_, fun v q => by cases q⟩
      rcases List.mem_cons.mp (I3.stkSub S z) with z | z
      · exact absurd (z ▸ I3.lt) (Nat.not_lt_of_ge (Nat.le_of_lt hS3))
      · exact I3.nofs (Nat.le_of_lt hS3) z
    have hSfp : S ∉ fp := fun hb => absurd (f3 S hb).2 (Nat.not_lt_of_ge (Nat.le_of_lt hS3))
    have hAp : Apart (gx X (Aw.deeper cenv) s3 H3 cenv fp [(h'.objs.size, go)]) S := by
      refine ⟨Nat.le_of_lt hS3, hSL, fun x c e z => ?_⟩
      obtain ⟨v, o, ho, _⟩ := I5.cell x c e
      have e : cenv.cells.lookup x = some c := e
      rw [← hce] at e
      rcases cloFrom_mem (PySem.mem_of_lookup e) with hm | ⟨h1, h2⟩
      · cases hm
      · obtain ⟨c2, hc2⟩ := hfree _ h1 rfl
        rw [hc2] at h2
        have h2 : c = c2 := h2
        obtain ⟨v2, o2, ho2, _⟩ := I3.cell x c2 hc2
        have := Heap.lt_size ho2
        rw [← h2, z] at this
        exact absurd this (Nat.not_lt_of_ge (Nat.le_of_lt hS3))
    have pinned : ∀ {ip : List (Addr × Obj)} {ys : List V} {s' : Shared} {σ' : L2.St} {H' : Hp}, GI (gx X (Aw.deeper cenv) s3 H3 cenv fp [(h'.objs.size, go)]) S ip ys σ' H' s' → s'.heap.IsGen h'.objs.size s3.gens.size := fun {ip ys s' σ' H'} hI => by
      obtain ⟨acc, cc, _, J⟩ := hI
      exact hgen _ (J.pin (h'.objs.size, go) (List.mem_append_left _ (List.mem_singleton.mpr rfl))).1
    have st4 : tn 0 s4.heap := T.keep _ _ _ st3 fun b _ o e => kp4 b o e
    have loop := seg_gx (A := Aw) (S := S) (elt := elt) (iter := iter) (scope := scope) (gpos := gpos) (vs := own.map (·.2)) (H0 := H3) (s0 := s3) (cenv := cenv) (pn := [(h'.objs.size, go)]) (W := W) (Q := cont) (σ := σ) T (by rw [← hce]; exact ok.co)
      (by rw [← hce]; exact hg _ _ _ _ _ _ _ _ (hrw.deeper _)) (by rw [← hce]; exact ht _ _ _ _ _ _ _ _ (hrw.deeper _)) (by rw [← hce]; exact he _ _ _ _ _ _ _ _ (hrw.deeper _))
      (fun p hp => by
        rw [List.mem_singleton.mp hp]
        exact ⟨Nat.ne_of_lt hSz, fun hb => absurd (f3 _ hb).2 (by show ¬ (h'.objs.size < s3.heap.objs.size); omega)⟩) hAp hSfp turn m0 sizeLine 0 [] H3 s4 s4 (Nat.add_zero _) w0 hG st4 (fun b hb => (f3 b hb).1.1)
    refine seg_imp (R := GEnd (gx X (Aw.deeper cenv) s3 H3 cenv fp [(h'.objs.size, go)]) S (wipe σ (own.map (·.2))) cont) (Y := GY (gx X (Aw.deeper cenv) s3 H3 cenv fp [(h'.objs.size, go)]) S) (fun n s₀ r s1' hR => ?_) (fun n s₀ v s1' kap kap' hkk hY => ?_) sizeLine (seg_gx0 T st4 loop)
    · obtain ⟨rfl, ys, H', hn, hI, hQ⟩ := hR
      obtain ⟨a1, _, _, acc, cc, ra, ea⟩ := hI.at
      obtain ⟨_, _, _, J⟩ := hI
      exact .inl ⟨.inr rfl, H', ys, acc, cc, J.os, J.bare, J.base, J.hok, a1, ea, ra, by omega, hQ⟩
    · obtain ⟨ys, xx, ip, σ', H', hn, h2, hI, h3⟩ := hY
      obtain ⟨_, _, _, acc, cc, ra, ea⟩ := hI.at
      have hg := pinned hI
      obtain ⟨_, _, _, J⟩ := hI
      have hsz : acc.size = ys.length := by
        have e1 := ra.length
        have e2 : acc.toList.length = acc.size := by simp
        omega
      exact ⟨J.os, J.bare, J.nolimit, hg, ⟨acc, cc, ea, by rw [hsz]; exact hn⟩, fun s' z => hkk _ _ (h3 s' z)⟩
  cases hf : codeAmong gpos ps.toList with
  | none =>
    refine wpAny_genexprCodeX hcode (cd.code hPs htr) (cd.tab hPs) hf fun c' h' tk hx hge hlt hco' _ htab' _ => ?_
    obtain ⟨o1, vs, f1, tf, fl, tg, inF, tx, tt, op, _, _, _, _, _, _, _, _, _, htr', _⟩ := hco'
    exact cont' _ h' tk _ hx (Nat.le_trans hge (Nat.le_of_lt hlt)) htab'.2 ⟨_, rfl⟩ htr'
  | some cv =>
    refine wpAny_genexprCode_hit hcode (cd.code hPs htr) hf ?_
    exact cont' cv s2.heap s2.toks ps (Heap.ExtBut.refl _ _) (Nat.le_refl _) hPs ⟨#[], by simp⟩ htr
end

/-! ### tuple(g) -/
section
variable {P : Program} {w : World} {outer : List Env} {H : Hp} {sc s : Shared} {ex : List Addr} {Q : List V → Hp → Prop} {A : Around} {k : Nat} {u : Value} {E : Value → Shared → Prop}
/-- what a run of the generator to its end leaves -/
def Drained (P : Program) (w : World) (outer : List Env) (H : Hp) (sc : Shared) (ex : List Addr) (Q : List V → Hp → Prop) (acc : Array Value) (s' : Shared) : Prop :=
  ∃ H' ys, Vals ys acc.toList ∧ ys.length ≤ sizeLine ∧ s'.os = sc.os ∧ AllBare s'.gens ∧ Un (frs outer) ex H H' sc.heap s'.heap ∧ HOk P w H' s'.heap ∧ Q ys H'
theorem collect_gx {Q' : List Value → Shared → Prop} (hr : Room (k + 2) A) (hfr : A.frames = some outer) (h : GMade P w k outer H sc ex Q (fun _ _ _ => False) u s)
    (hQ : ∀ acc s', Drained P w outer H sc ex Q acc s' → Q' acc.toList s') : wpAny (model P w) A (collect u) Q' E s := by
  obtain ⟨a, g, c, rfl, ha1, ha2, hg, hgs, hos, hb, hl, hkp, wake⟩ := h
  have hSa : s.heap.objs.size ≠ a := Nat.ne_of_gt ha2
  have hcl : cStatics < s.heap.objs.size := let ⟨_, hn, _⟩ := hl; hn.lt
  have hSc : s.heap.objs.size ≠ cStatics := Nat.ne_of_gt hcl
  unfold collect
  refine wpAny_bind (wpAny_runValue (codeAny_builtin F.entry_proto_collect ?_))
  rw [Around.under_plainId F.plain_proto_collect _]
  show wpAny _ A.in1 (newList [] >>= fun l => again (.builtin "list.__iadd__" ⟨[l, .ref a], []⟩)) _ _ s
  refine wpAny_bind (wpAny_newObj_type ?_)
  refine wpAny_pure ⟨plainId_quiet F.plain_list_iadd _, codeAny_builtin F.entry_list_iadd ?_⟩
  rw [Around.under_plainId F.plain_list_iadd _]
  show wpAny _ A.in1 (Builtin.List.listExtendWith (.ref s.heap.objs.size) (.ref a) (.ref s.heap.objs.size)) _ _ _
  unfold Builtin.List.listExtendWith
  have k1 : ∀ b o, s.heap.get? b = some o → (s.heap.push { cls := .type "list", data := .seq ([] : List Value).toArray }).get? b = some o := fun b o e => Heap.get?_push_of_some _ e
  have gty : ∀ {h : Heap}, (∀ b o, s.heap.get? b = some o → h.get? b = some o) → h.IsGen a g := fun {h} q => hg.keeps q
  refine wpAny_bind (wpAny_typeOf (Heap.IsGen.typeIs (s := { s with heap := _ }) (gty k1)) ?_)
  have h1 : Builtin.List.listSameRef (.ref s.heap.objs.size) (.ref a) = false := by simp [Builtin.List.listSameRef, hSa]
  have h2 : (Value.type "generator" == Value.type "list") = false := by decide
  have h3 : (Value.type "generator" == Value.type "tuple") = false := by decide
  simp only [h1, h2, h3, Bool.or_false, Bool.false_eq_true, if_false]
  refine wpAny_bind (wpAny_pyIter_gen (s := { s with heap := _ }) (gty k1) ?_)
  refine wpAny_bind (wpAny_holding ?_)
  unfold Builtin.List.listLengthHint
  refine wpAny_bind (wpAny_specialOf (Heap.IsGen.typeIs (s := { s with heap := _ }) (gty k1)) F.gen_no_len ?_)
  show wpAny _ A.in1 (specialOf (Value.ref a) (Str.ofString "__length_hint__") >>= _) _ _ _
  refine wpAny_bind (wpAny_specialOf (Heap.IsGen.typeIs (s := { s with heap := _ }) (gty k1)) F.gen_no_hint ?_)
  refine wpAny_pure ?_
  show wpAny _ A.in1 (rule "list.extend.makes-room" >>= fun _ => Builtin.List.listTouch (.ref s.heap.objs.size) >>= fun _ =>
    again (.builtin "list.extend.loop" ⟨[.ref s.heap.objs.size, .ref a, .ref s.heap.objs.size], []⟩)) _ _ _
  refine wpAny_bind (wpAny_rule ?_)
  have hS₁ : (s.heap.push { cls := .type "list", data := .seq ([] : List Value).toArray }).get? s.heap.objs.size = some { cls := .type "list", data := .seq ([] : List Value).toArray } := Heap.get?_push_size _ rfl
  refine wpAny_bind ?_
  show wpAny _ A.in1 (updateSeq s.heap.objs.size (·.push .none) >>= fun _ => updateSeq s.heap.objs.size (·.pop)) _ _ _
  refine wpAny_bind (wpAny_updateSeq hS₁ rfl ?_)
  have hS₂ := Heap.get?_update_self (Obj.mapSeq (·.push Value.none)) hS₁ rfl
  refine wpAny_updateSeq hS₂ rfl ?_
  have hS₃ := Heap.get?_update_self (Obj.mapSeq (·.pop)) hS₂ rfl
  have up : ∀ (h : Heap) (f : Obj → Obj), (∀ b o, s.heap.get? b = some o → h.get? b = some o) → ∀ b o, s.heap.get? b = some o → (h.update s.heap.objs.size f).get? b = some o := fun h f q b o e =>
    (Heap.get?_update_other _ _ (Ne.symm (Nat.ne_of_lt (Heap.lt_size e)))).trans (q b o e)
  have k4 := up _ (Obj.mapSeq (·.pop)) (up _ (Obj.mapSeq (·.push Value.none)) k1)
  refine wpAny_pure ⟨plainId_quiet F.plain_extend_loop _, ?_⟩
  refine drain (P := P) (w := w) (outer := outer) (H := H) (sc := sc) (ex := ex) (Q := Q) (EX := fun _ _ _ => False) (A := A) (g := g) hr.hd (by have := hr.dp; omega) hSa hSc
    (fun s' acc c H' ys q1 q2 q3 q4 q5 q6 q7 q8 q9 => ?_) (fun e s' hc => ?_) sizeLine _ (gty k4) (hl.keeps k4) ⟨_, hgs, rfl, ?_⟩
  · show wpAny _ A (load s.heap.objs.size >>= _) _ _ s'
    refine wpAny_bind (wpAny_load q1 ?_)
    exact wpAny_pure (hQ acc s' ⟨H', ys, q2, q3, q4, q5, q6, q7, q9⟩)
  · obtain ⟨_, _, _, _, _, _, _, _, _, _, _, _, hf⟩ := hc
    exact hf.elim
  · refine wake _ _ _ ⟨hr.hd, ?_, ?_⟩ hfr (Nat.le_refl _) k4 ⟨_, hS₃⟩ hos (allBare_setGen (s := { s with heap := _ }) hb rfl)
    · have := hr.dp
      show A.depth + 3 * k + 5 < _
      omega
    · have := hr.un
      show A.units + 1 + 1 + 16 * k + 200 < _
      omega

theorem call_tuple_gx {Q' : Value → Shared → Prop} (hr : Room (k + 3) A) (hfr : A.frames = some outer) (h : GMade P w k outer H sc ex Q (fun _ _ _ => False) u s)
    (hQ : ∀ acc s', Drained P w outer H sc ex Q acc s' → Q' (.ref s'.heap.objs.size) { s' with heap := s'.heap.push { cls := .type "tuple", data := .seq acc } }) :
    wpAny (model P w) A (call (.type "tuple") [u]) Q' E s := by
  obtain ⟨a, g, c, hu, ha1, ha2, hg, r⟩ := id h
  have hTI : s.TypeIs u "generator" := by rw [hu]; exact hg.typeIs
  have hsub := sub_tuple_self
  have hinit := init_tuple_lookup
  have hmh := madeHere_tuple
  have r2 : Room (k + 2) A.in1.in1 := ⟨hr.hd, by have := hr.dp; show A.depth + 3 * (k + 2) + 5 < _; omega, by have := hr.un; show A.units + 1 + 1 + 16 * (k + 2) + 200 < _; omega⟩
  refine callType_codes (Q₁ := fun obj s₁ => s₁.TypeIs obj "tuple" ∧ Q' obj s₁) F.called_tuple (F.typeCall_tuple_1 _) F.entry_object_init ?_ fun obj s₁ h₁ =>
    ⟨h₁.1, F.args_object_init_2 obj _, object_init_meets F.called_tuple.init.lookup F.called_tuple.made (by decide) P w A.in1 _ s₁ ⟨h₁.1, rfl, h₁.2⟩⟩
  refine codeAny_of_tree ?_
  show wpAny _ A.in1.in1 (do checkBuiltinCall "tuple.__new__" ⟨[.type "tuple", u], []⟩; again (.builtin "tuple.__new__" ⟨[.type "tuple", u], []⟩)) _ _ s
  refine wpAny_bind (wpAny_of_eq (F.newCall_tuple_1 _) (wpAny_pure ⟨plainId_quiet F.plain_tuple_new _, codeAny_builtin F.entry_tuple_new ?_⟩))
  rw [Around.under_plainId F.plain_tuple_new _]
  have col := fun (Q'' : List Value → Shared → Prop) (E' : Value → Shared → Prop) (hq : ∀ acc s', Drained P w outer H sc ex Q acc s' → Q'' acc.toList s') => collect_gx (A := A.in1.in1) (Q' := Q'') (E := E') r2 hfr h hq
  clear r h
  subst hu
  wp_walk using wpAny_typeOf hTI, col
  intro acc s' hd
  show wpAny _ _ (Builtin.Tuple.tupleExact acc.toList.toArray >>= fun v => ret v) _ _ _
  unfold Builtin.Tuple.tupleExact
  have hz : acc.size ≤ sizeLine := by
    obtain ⟨H', ys, q1, q2, _⟩ := hd
    have e1 := q1.length
    have e2 : acc.toList.length = acc.size := by simp
    omega
  refine wpAny_bind (wpAny_newObj_type ?_ (by show acc.toList.toArray.size ≤ sizeLine; simp only [Array.toArray_toList]; exact hz))
  refine wpAny_pure ?_
  have e : acc.toList.toArray = acc := by simp
  rw [e]
  exact ⟨⟨_, Heap.get?_push_size _ rfl, rfl⟩, hQ acc s' hd⟩
end

section
variable {X : Cx}
def tTupleG (tg : TGen) : TE := fun σ H Q => tg σ H fun out H2 => ∀ p, H2 p = none → Q (.ref p) (upd H2 p (.tup out))
/-- tuple(g) -/
theorem pe_tupleG {k : Nat} {e : Expr} {tg : TGen} {p pos : Pos} (h : PGen X k e tg (fun _ _ _ => False)) (hr : Room (k + 3) X.A) (hg : Gl X "tuple") (hmg : X.mg "tuple" = none)
    (he : starEach [e] X.env = (false, eval e X.env) :: starEach [] X.env := by rfl) : PE X (.Call (.Name "tuple" p) [e] [] pos) (tTupleG tg) := by
  refine ⟨fun pins s σ H Q I hq => ?_⟩
  refine wpAny_Call_Name_kw (ld_blt I hg hmg (u := .type "tuple") (by rfl) ?_ (by decide) (by decide))
  refine PyProof.Rows.callWith_type1 ?_ he rfl
  rw [he]
  show wpAny _ _ (spliced ((false, eval e X.env) :: backTo pos (starEach [] X.env))) _ _ s
  refine Calls.spliced_cons (thn (h.run pins s σ H _ I hq) fun u s1 ⟨H1, sc, ex, I1, hex, hG⟩ => ?_)
  refine Calls.spliced_nil ?_
  refine call_tuple_gx hr I1.ok.frames hG fun acc s' hd => ?_
  obtain ⟨H', ys, q1, q2, q3, q4, q5, q6, q7⟩ := hd
  have I2 : Inv X pins σ H' s' := I1.call' (ch := ex) q3 q5 q6 q4 hex
  refine ⟨.ref s'.heap.objs.size, _, I2.laid (t' := s'.toks) (fun b o e => Heap.get?_push_of_some _ e) (Nat.le_refl _) (o := .tup ys) ⟨q2, acc.toList, q1, ?_⟩, rfl, q7 _ (I2.hok.fresh (Nat.le_refl _))⟩
  exact ⟨_, Heap.get?_push_size _ rfl, rfl, 0, by simp⟩
end
/-- a genexp's turns over a walk -/
theorem gx_it {J : It} {n : Nat} {G : Hp → Prop} {Y : Nat → Hp → V → Hp → Prop} (w : Walk J n G Y) {g : TG} {tt : TT} {te : TE} {vs : List Nat} {σ : L2.St} {H1 : Hp} {cont : List V → Hp → Prop} (Pv : Nat → List V → Hp → Prop) (h0 : Pv 0 [] H1) (hG : ∀ i ys H, i ≤ n → Pv i ys H → G H)
    (hs : ∀ i x ys H H', i < n → Pv i ys H → Y i H x H' → g x (wipe σ vs) H' fun σ2 H2 => wipe σ2 vs = wipe σ vs ∧ tt σ2 H2 fun b H3 =>
      if b = true then te σ2 H3 fun y H4 => ys.length < sizeLine ∧ Pv (i + 1) (ys ++ [y]) H4 else Pv (i + 1) ys H3) (hd : ∀ ys H, Pv n ys H → cont ys H) :
    ∃ W : Nat → Nat → List V → Hp → Prop, (∃ m, W 0 m [] H1) ∧ ∀ i m ys H, W i m ys H →
      (J.stop i H ∧ cont ys H) ∨ (J.go i H ∧ ∃ Nx : List V → Hp → Prop, (∀ ys' H', Nx ys' H' → ∃ m', m' < m ∧ W (i + 1) m' ys' H') ∧ ∀ x H', J.yld i H x H' → g x (wipe σ vs) H' fun σ2 H2 => wipe σ2 vs = wipe σ vs ∧ tt σ2 H2 fun b H3 =>
        if b = true then te σ2 H3 fun y H4 => ys.length < sizeLine ∧ Nx (ys ++ [y]) H4 else Nx ys H3) := by
  refine ⟨fun i m ys H => m = n - i ∧ i ≤ n ∧ Pv i ys H, ⟨n, by simp, Nat.zero_le _, h0⟩, ?_⟩
  rintro i m ys H ⟨rfl, hi, p⟩
  have q := hG i ys H hi p
  by_cases hlt : i < n
  · refine .inr ⟨w.goes i H hlt q, Pv (i + 1), fun ys' H' p' => ⟨n - (i + 1), by omega, rfl, hlt, p'⟩, fun x H' y => hs i x ys H H' hlt p (w.yields i H x H' hlt q y)⟩
  · have e : i = n := by omega
    subst e
    exact .inl ⟨w.stops H q, hd ys H p⟩
end Gx


/-! ledgers by counting: what stands in one stands in another, in any order -/
namespace Sd
open PySem L2
open Classical in
noncomputable def one1 (a x : Addr × HO) : Nat := if x = a then 1 else 0
noncomputable def cnt (a : Addr × HO) : Lg → Nat
  | [] => 0
  | x :: r => one1 a x + cnt a r
theorem cnt_nil {a : Addr × HO} : cnt a [] = 0 := rfl
theorem cnt_cons {a x : Addr × HO} {r : Lg} : cnt a (x :: r) = one1 a x + cnt a r := rfl
theorem cnt_app {a : Addr × HO} : ∀ {A B : Lg}, cnt a (A ++ B) = cnt a A + cnt a B
  | [], B => by rw [List.nil_append, cnt_nil, Nat.zero_add]
  | x :: r, B => by rw [List.cons_append, cnt_cons, cnt_cons, cnt_app]; omega
theorem cnt_pos {a : Addr × HO} : ∀ {A : Lg}, 0 < cnt a A → a ∈ A
  | [], h => by rw [cnt_nil] at h; omega
  | x :: r, h => by
    by_cases e : x = a
    · rw [e]; exact List.mem_cons_self
    · rw [cnt_cons, one1, if_neg e, Nat.zero_add] at h
      exact List.mem_cons_of_mem _ (cnt_pos h)
theorem Led.le_aux {H : Hp} : ∀ (B C L : Lg), Led H (C ++ L) → (∀ a, cnt a B ≤ cnt a L) → Led H (C ++ B)
  | [], C, L, h, _ => by rw [List.append_nil]; exact h.left
  | x :: r, C, L, h, e => by
    have h1 := e x
    have o1 : one1 x x = 1 := by unfold one1; rw [if_pos rfl]
    rw [cnt_cons, o1] at h1
    obtain ⟨A, B, rfl⟩ := List.append_of_mem (cnt_pos (show 0 < cnt x L by omega))
    have h2 : Led H ((C ++ [x]) ++ (A ++ B)) := by
      refine h.perm ?_
      rw [List.append_assoc]
      exact List.perm_middle.append_left C
    have := Led.le_aux r (C ++ [x]) (A ++ B) h2 fun a => by
      have := e a
      rw [cnt_cons, cnt_app, cnt_cons] at this
      rw [cnt_app]; omega
    rw [List.append_assoc] at this
    exact this
theorem Led.le {H : Hp} {B L : Lg} (h : Led H L) (e : ∀ a, cnt a B ≤ cnt a L) : Led H B := Led.le_aux B [] L h e
section
variable {K : PySem.W.Frag} {H : Hp} {L : Lg} {l : Addr} {xs : List V}
theorem k_lenL2 {P : List V → Prop} (hL : Led H L) (e : At L l (.lst xs)) (q : P xs) : ∃ p ys, [V.ref l] = [.ref p] ∧ (SqL K H p ys ∨ SqT K H p ys) ∧ P ys := ⟨_, _, rfl, .inl (.of (hL.at e)), q⟩
theorem k_lenT2 {P : List V → Prop} (hL : Led H L) (e : At L l (.tup xs)) (q : P xs) : ∃ p ys, [V.ref l] = [.ref p] ∧ (SqL K H p ys ∨ SqT K H p ys) ∧ P ys := ⟨_, _, rfl, .inr (.of (hL.at e)), q⟩
end
/-! loops with the ends told by what they take -/
/-- the ends of a turn: what stands behind it, a return, a break -/
structure EndsA (N : L2.St → Hp → Prop) (D D' : Ends) : Prop where
  nx : ∀ σ H, N σ H → D'.nx σ H
  ct : ∀ σ H, N σ H → D'.ct σ H
  bk : ∀ σ H, D.nx σ H → D'.bk σ H
  rt : ∀ v H, D.rt v H → D'.rt v H
section
variable {K : PySem.W.Frag} {a : Addr} {xs : List V} {g : TG} {tb : TS} {D : Ends} {σ : L2.St} {H : Hp}
theorem for_listA (Pv : Nat → L2.St → Hp → Prop) (h0 : Pv 0 σ H) (hl : ∀ i σ H, i ≤ xs.length → Pv i σ H → SqL K H a xs)
    (hs : ∀ i x σ H (D' : Ends), xs[i]? = some x → Pv i σ H → EndsA (Pv (i + 1)) D D' → g x σ H fun σ2 H2 => tb D' σ2 H2) (hd : ∀ σ H, Pv xs.length σ H → D.nx σ H) :
    ∃ W : Nat → Nat → L2.St → Hp → Prop, (∃ m, W 0 m σ H) ∧ ∀ i m σ H, W i m σ H →
      ((Itl K a).stop i H ∧ D.nx σ H) ∨ ((Itl K a).go i H ∧ ∃ N : L2.St → Hp → Prop, (∀ σ' H', N σ' H' → ∃ m', m' < m ∧ W (i + 1) m' σ' H') ∧ ∀ x H', (Itl K a).yld i H x H' → g x σ H' fun σ2 H2 => tb { D with nx := N, ct := N, bk := D.nx } σ2 H2) :=
  for_list Pv h0 hl (fun i x σ H hi h => hs i x σ H _ hi h ⟨fun _ _ q => q, fun _ _ q => q, fun _ _ q => q, fun _ _ q => q⟩) hd
theorem for_tupA (Pv : Nat → L2.St → Hp → Prop) (h0 : Pv 0 σ H) (hl : ∀ i σ H, i ≤ xs.length → Pv i σ H → SqT K H a xs)
    (hs : ∀ i x σ H (D' : Ends), xs[i]? = some x → Pv i σ H → EndsA (Pv (i + 1)) D D' → g x σ H fun σ2 H2 => tb D' σ2 H2) (hd : ∀ σ H, Pv xs.length σ H → D.nx σ H) :
    ∃ W : Nat → Nat → L2.St → Hp → Prop, (∃ m, W 0 m σ H) ∧ ∀ i m σ H, W i m σ H →
      ((Itt K a).stop i H ∧ D.nx σ H) ∨ ((Itt K a).go i H ∧ ∃ N : L2.St → Hp → Prop, (∀ σ' H', N σ' H' → ∃ m', m' < m ∧ W (i + 1) m' σ' H') ∧ ∀ x H', (Itt K a).yld i H x H' → g x σ H' fun σ2 H2 => tb { D with nx := N, ct := N, bk := D.nx } σ2 H2) :=
  for_tup Pv h0 hl (fun i x σ H hi h => hs i x σ H _ hi h ⟨fun _ _ q => q, fun _ _ q => q, fun _ _ q => q, fun _ _ q => q⟩) hd
theorem for_rangeA {lo : Int} {n : Nat} (Pv : Nat → L2.St → Hp → Prop) (h0 : Pv 0 σ H)
    (hs : ∀ i σ H (D' : Ends), i < n → Pv i σ H → EndsA (Pv (i + 1)) D D' → g (.int (lo + i)) σ H fun σ2 H2 => tb D' σ2 H2) (hd : ∀ σ H, Pv n σ H → D.nx σ H) :
    ∃ W : Nat → Nat → L2.St → Hp → Prop, (∃ m, W 0 m σ H) ∧ ∀ i m σ H, W i m σ H →
      ((Itr lo n).stop i H ∧ D.nx σ H) ∨ ((Itr lo n).go i H ∧ ∃ N : L2.St → Hp → Prop, (∀ σ' H', N σ' H' → ∃ m', m' < m ∧ W (i + 1) m' σ' H') ∧ ∀ x H', (Itr lo n).yld i H x H' → g x σ H' fun σ2 H2 => tb { D with nx := N, ct := N, bk := D.nx } σ2 H2) :=
  for_range Pv h0 (fun i σ H hi h => hs i σ H _ hi h ⟨fun _ _ q => q, fun _ _ q => q, fun _ _ q => q, fun _ _ q => q⟩) hd
theorem for_itA {J : It} {n : Nat} {G : Hp → Prop} {Y : Nat → Hp → V → Hp → Prop} (w : Walk J n G Y) (Pv : Nat → L2.St → Hp → Prop) (h0 : Pv 0 σ H) (hG : ∀ i σ H, i ≤ n → Pv i σ H → G H)
    (hs : ∀ i x σ H H' (D' : Ends), i < n → Pv i σ H → Y i H x H' → EndsA (Pv (i + 1)) D D' → g x σ H' fun σ2 H2 => tb D' σ2 H2) (hd : ∀ σ H, Pv n σ H → D.nx σ H) :
    ∃ W : Nat → Nat → L2.St → Hp → Prop, (∃ m, W 0 m σ H) ∧ ∀ i m σ H, W i m σ H →
      (J.stop i H ∧ D.nx σ H) ∨ (J.go i H ∧ ∃ N : L2.St → Hp → Prop, (∀ σ' H', N σ' H' → ∃ m', m' < m ∧ W (i + 1) m' σ' H') ∧ ∀ x H', J.yld i H x H' → g x σ H' fun σ2 H2 => tb { D with nx := N, ct := N, bk := D.nx } σ2 H2) :=
  for_it w Pv h0 hG (fun i x σ H H' hi h hy => hs i x σ H H' _ hi h hy ⟨fun _ _ q => q, fun _ _ q => q, fun _ _ q => q, fun _ _ q => q⟩) hd
/-- the ends of what is done while d is locked -/
structure EndsL (d : Addr) (od : Obj) (u : HO) (D D' : Ends) : Prop where
  nx : ∀ σ H, H d = some (.frz od u) → D.nx σ (L2.upd H d u) → D'.nx σ H
  rt : ∀ v H, H d = some (.frz od u) → D.rt v (L2.upd H d u) → D'.rt v H
  bk : ∀ σ H, H d = some (.frz od u) → D.bk σ (L2.upd H d u) → D'.bk σ H
  ct : ∀ σ H, H d = some (.frz od u) → D.ct σ (L2.upd H d u) → D'.ct σ H
theorem lockA {t : TS} {d : Addr} {u : HO} (hd : H d = some u) (mu : Mut (some u)) (h : ∀ od (D' : Ends), EndsL d od u D D' → t D' σ (L2.upd H d (.frz od u))) : tLock t D σ H :=
  ⟨d, u, hd, mu, fun od => h od _ ⟨fun _ _ a b => ⟨a, b⟩, fun _ _ a b => ⟨a, b⟩, fun _ _ a b => ⟨a, b⟩, fun _ _ a b => ⟨a, b⟩⟩⟩
end
end Sd


/-! sorted lists of texts: one order only -/
namespace Sd
open PySem PySem.Spec PyProof.Rows L2
theorem str_ext {x y : Str} (h : x.cps.toList = y.cps.toList) : x = y := by
  cases x; cases y
  simp only [Str.mk.injEq]
  exact Array.toList_inj.mp h
theorem rising_pw : ∀ {l : List Str} {p : Str}, risingS p l = true → ((p :: l).map (·.cps.toList)).Pairwise (· ≤ ·)
  | [], p, _ => by simp
  | x :: r, p, h => by
    have h : (!ltCps x.cps.toList p.cps.toList && risingS x r) = true := h
    rw [Bool.and_eq_true] at h
    have ih := rising_pw h.2
    have h1 : p.cps.toList ≤ x.cps.toList := by
      have := h.1
      rw [ltCps_eq] at this
      simpa using this
    rw [List.map_cons]
    refine List.pairwise_cons.mpr ⟨fun y hy => ?_, ih⟩
    rw [List.map_cons] at hy
    rcases List.mem_cons.mp hy with e | hy
    · rw [e]; exact h1
    · exact Std.le_trans h1 ((List.pairwise_cons.mp ih).1 y hy)
theorem sorted_pw {l : List Str} (h : sortedS l = true) : (l.map (·.cps.toList)).Pairwise (· ≤ ·) := by
  cases l with
  | nil => simp
  | cons x r => exact rising_pw h
theorem sortedS_uniq {xs ys : List Str} (p : ys.Perm xs) (h1 : sortedS ys = true) (h2 : sortedS xs = true) : ys = xs := by
  have e : ys.map (·.cps.toList) = xs.map (·.cps.toList) := List.Perm.eq_of_pairwise (le := (· ≤ ·)) (fun a b _ _ h3 h4 => Std.le_antisymm h3 h4) (sorted_pw h1) (sorted_pw h2) (p.map _)
  exact List.map_inj_right (fun _ _ h => str_ext h) |>.mp e
end Sd


/-! rules within a comprehension (.blk) or a generator expression (.gx), told with the outer K; words for texts -/
namespace Sd
open PySem PySem.Spec PyProof.Rows L2
section
variable {X : Cx} {s : Shared} {H : Hp} {scope : Scope} {env : Env} {fp : List Addr} {e : Expr} {f : Str} {pos : Pos} {ta : TE}
theorem pe_fldB (he : PE (X.blk s H scope env fp) e ta) (hb : attributeBase e f env (eval e env) = eval e env) : PE (X.blk s H scope env fp) (.Attribute e f pos) (tFld X.K ta f) := pe_fld he hb
theorem ix_tupB : IxR (X.blk s H scope env fp) (rIxT X.K) := ix_tup
theorem ix_listB : IxR (X.blk s H scope env fp) (rIxL X.K) := ix_list
theorem pi_listB {tg e : Expr} {te : TE} (he : PE (X.blk s H scope env fp) e te) : PI (X.blk s H scope env fp) tg e (iList X.K te) := pi_list he
theorem call_dictPB (hcalm : X.calm = true) : CallR (X.blk s H scope env fp) (.type "dict") (fun xs H Q => ∃ (a : Addr) (ps : List Addr) (kvs : List (Key × V)), xs = [.ref a] ∧ SqL X.K H a (ps.map V.ref) ∧ Paired (fun p kv => SqT X.K H p [kV kv.1, kv.2]) ps kvs ∧ ∀ p, H p = none → Q (.ref p) (upd H p (.dK (mergeK [] kvs)))) := call_dictP hcalm
theorem op_in_seqB : OpR (X.blk s H scope env fp) (compareOp .In) (rIn X.K false) := op_in_seq
theorem op_notIn_seqB : OpR (X.blk s H scope env fp) (compareOp .NotIn) (rIn X.K true) := op_notIn_seq
theorem op_eqPB (hu : (X.blk s H scope env fp).A.units + 64 < cLine) : OpR (X.blk s H scope env fp) (compareOp .Eq) (rEqP X.K) := op_eqP hu
theorem op_nePB (hu : (X.blk s H scope env fp).A.units + 64 < cLine) : OpR (X.blk s H scope env fp) (compareOp .NotEq) (rNeP X.K) := op_neP hu
end
section
variable {X : Cx} {A : Around} {s : Shared} {H : Hp} {env : Env} {fp : List Addr} {pn : List (Addr × Obj)} {e : Expr} {f : Str} {pos : Pos} {ta : TE}
theorem pe_fldG (he : PE (Gx.gx X A s H env fp pn) e ta) (hb : attributeBase e f env (eval e env) = eval e env) : PE (Gx.gx X A s H env fp pn) (.Attribute e f pos) (tFld X.K ta f) := pe_fld he hb
theorem ix_tupG : IxR (Gx.gx X A s H env fp pn) (rIxT X.K) := ix_tup
theorem ix_listG : IxR (Gx.gx X A s H env fp pn) (rIxL X.K) := ix_list
theorem op_in_seqG : OpR (Gx.gx X A s H env fp pn) (compareOp .In) (rIn X.K false) := op_in_seq
theorem op_notIn_seqG : OpR (Gx.gx X A s H env fp pn) (compareOp .NotIn) (rIn X.K true) := op_notIn_seq
end
/-! texts in lists -/
theorem in_strs {x : Str} {ns : List Str} : inV (.str x) (ns.map .str) = decide (x ∈ ns) := by
  unfold inV
  induction ns with
  | nil => simp
  | cons y r ih =>
    rw [List.map_cons, List.any_cons, ih]
    show (y == x || _) = _
    by_cases e : y = x
    · subst e; simp
    · simp [e, Ne.symm e]
theorem flat_strs {ns : List Str} : (ns.map V.str).all flatV = true := by
  rw [List.all_map, List.all_eq_true]; exact fun _ _ => rfl
theorem eqvAll_strs : ∀ (a b : List Str), PyData.eqvAll (a.map PyData.str) (b.map PyData.str) = decide (a = b)
  | [], [] => by simp [PyData.eqvAll]
  | [], _ :: _ => by simp [PyData.eqvAll]
  | _ :: _, [] => by simp [PyData.eqvAll]
  | x :: r, y :: s => by
    rw [List.map_cons, List.map_cons, PyData.eqvAll, eqvAll_strs r s]
    by_cases e : x = y <;> simp [PyData.eqv, e]
theorem eqv_strs {a b : List Str} : PyData.eqv (.list (a.map PyData.str)) (.list (b.map PyData.str)) = decide (a = b) := by
  rw [PyData.eqv]; exact eqvAll_strs a b
section
variable {K : PySem.W.Frag} {H : Hp} {L : Lg} {p q : Addr} {a b : List Str} {Q : VK} {xs ys : List V}
theorem k_neStrs (hL : Led H L) (h1 : At L p (.lst xs)) (h2 : At L q (.lst ys)) (e1 : xs = a.map V.str) (e2 : ys = b.map V.str) (k : Q (.bl (!decide (a = b))) H) : rNeP K (.ref p) (.ref q) H Q :=
  ⟨_, _, dp_lst (e1 ▸ hL.at h1) dp_strs, dp_lst (e2 ▸ hL.at h2) dp_strs, shal_strs, shal_strs, by rw [eqv_strs]; exact k⟩
theorem k_eqStrs (hL : Led H L) (h1 : At L p (.lst xs)) (h2 : At L q (.lst ys)) (e1 : xs = a.map V.str) (e2 : ys = b.map V.str) (k : Q (.bl (decide (a = b))) H) : rEqP K (.ref p) (.ref q) H Q :=
  ⟨_, _, dp_lst (e1 ▸ hL.at h1) dp_strs, dp_lst (e2 ▸ hL.at h2) dp_strs, shal_strs, shal_strs, by rw [eqv_strs]; exact k⟩
theorem k_inS {x : Str} {ns : List Str} (hL : Led H L) (h1 : At L p (.lst (ns.map V.str))) (k : Q (.bl (decide (x ∈ ns))) H) : rIn K false (.str x) (.ref p) H Q :=
  ⟨_, _, rfl, .inl (.of (hL.at h1)), rfl, flat_strs, by rw [in_strs]; exact k⟩
theorem k_ninS {x : Str} {ns : List Str} (hL : Led H L) (h1 : At L p (.lst (ns.map V.str))) (k : Q (.bl (!decide (x ∈ ns))) H) : rIn K true (.str x) (.ref p) H Q :=
  ⟨_, _, rfl, .inl (.of (hL.at h1)), rfl, flat_strs, by rw [in_strs]; exact k⟩
end
theorem mergeK_dz {names : List Str} {vals : List V} (h : names.Nodup) (hl : names.length = vals.length) : mergeK [] (dz names vals) = dz names vals := by
  rw [mergeK_nd]
  · rfl
  · have : (dz names vals).map (·.1) = names.map (Sum.inr : Str → Key) := by
      unfold dz
      rw [← List.unzip_fst, List.unzip_zip (by simpa using hl)]
    rw [List.nil_append, this]
    exact List.pairwise_map.mpr (h.imp fun ne q => ne (Sum.inr.inj q))
theorem paired_map {α β γ : Type} {F : β → γ → Prop} {f : α → β} {g : α → γ} : ∀ {l : List α}, (∀ x ∈ l, F (f x) (g x)) → Paired F (l.map f) (l.map g)
  | [], _ => .nil
  | x :: r, h => .cons (h x List.mem_cons_self) (paired_map fun y hy => h y (.tail _ hy))
end Sd


/-! dicts with text keys, told by lists of (name, what) -/
namespace Sd
open PySem L2
def aget {α : Type} : List (Str × α) → Str → Option α
  | [], _ => none
  | x :: r, k => if x.1 = k then some x.2 else aget r k
def aput {α : Type} : List (Str × α) → Str → α → List (Str × α)
  | [], k, v => [(k, v)]
  | x :: r, k, v => if x.1 = k then (k, v) :: r else x :: aput r k v
def adel {α : Type} : List (Str × α) → Str → List (Str × α)
  | [], _ => []
  | x :: r, k => if x.1 = k then r else x :: adel r k
theorem aget_none {α : Type} {k : Str} : ∀ {l : List (Str × α)}, k ∉ l.map (·.1) → aget l k = none
  | [], _ => rfl
  | x :: r, h => by
    have h1 : ¬ x.1 = k := fun e => h (by rw [← e]; exact List.mem_cons_self)
    rw [aget, if_neg h1]
    exact aget_none fun m => h (List.mem_cons_of_mem _ m)
theorem aget_some {α : Type} {k : Str} {v : α} : ∀ {l : List (Str × α)}, aget l k = some v → k ∈ l.map (·.1)
  | x :: r, h => by
    by_cases e : x.1 = k
    · rw [← e]; exact List.mem_cons_self
    · rw [aget, if_neg e] at h
      exact List.mem_cons_of_mem _ (aget_some h)
theorem aget_in {α : Type} {k : Str} : ∀ {l : List (Str × α)}, k ∈ l.map (·.1) → ∃ v, aget l k = some v
  | x :: r, h => by
    by_cases e : x.1 = k
    · exact ⟨x.2, by rw [aget, if_pos e]⟩
    · rw [aget, if_neg e]
      refine aget_in ?_
      rcases List.mem_cons.mp h with z | z
      · exact absurd z.symm e
      · exact z
theorem aput_names_in {α : Type} {k : Str} {v : α} : ∀ {l : List (Str × α)}, k ∈ l.map (·.1) → (aput l k v).map (·.1) = l.map (·.1)
  | x :: r, h => by
    by_cases e : x.1 = k
    · rw [aput, if_pos e]; simp [e]
    · rw [aput, if_neg e]
      rw [List.map_cons, List.map_cons, aput_names_in]
      rcases List.mem_cons.mp h with z | z
      · exact absurd z.symm e
      · exact z
theorem aput_names_out {α : Type} {k : Str} {v : α} : ∀ {l : List (Str × α)}, k ∉ l.map (·.1) → aput l k v = l ++ [(k, v)]
  | [], _ => rfl
  | x :: r, h => by
    have h1 : ¬ x.1 = k := fun e => h (by rw [← e]; exact List.mem_cons_self)
    rw [aput, if_neg h1, aput_names_out fun m => h (List.mem_cons_of_mem _ m)]
    rfl
theorem aget_put {α : Type} {k j : Str} {v : α} : ∀ {l : List (Str × α)}, aget (aput l k v) j = if k = j then some v else aget l j
  | [] => by
    show aget [(k, v)] j = _
    unfold aget
    rfl
  | x :: r => by
    by_cases e : x.1 = k
    · rw [aput, if_pos e]
      by_cases e2 : k = j
      · rw [aget, if_pos e2, if_pos e2]
      · rw [aget, if_neg e2, if_neg e2]
        rw [aget, if_neg (by rw [e]; exact e2)]
    · rw [aput, if_neg e]
      by_cases e2 : x.1 = j
      · rw [aget, if_pos e2, aget, if_pos e2, if_neg (fun z => e (e2.trans z.symm))]
      · rw [aget, if_neg e2, aget_put, aget, if_neg e2]
theorem aget_del {α : Type} {k j : Str} : ∀ {l : List (Str × α)}, (l.map (·.1)).Nodup → aget (adel l k) j = if k = j then none else aget l j
  | [], _ => by simp [adel, aget]
  | x :: r, nd => by
    obtain ⟨n1, n2⟩ := List.nodup_cons.mp nd
    by_cases e : x.1 = k
    · rw [adel, if_pos e]
      by_cases e2 : k = j
      · rw [if_pos e2]
        exact aget_none (by rw [← e2, ← e]; exact n1)
      · rw [if_neg e2, aget, if_neg (by rw [e]; exact e2)]
    · rw [adel, if_neg e]
      by_cases e2 : x.1 = j
      · rw [aget, if_pos e2, aget, if_pos e2, if_neg (fun z => e (e2.trans z.symm))]
      · rw [aget, if_neg e2, aget_del n2, aget, if_neg e2]
theorem adel_names {α : Type} {k : Str} : ∀ {l : List (Str × α)}, ((adel l k).map (·.1)).Sublist (l.map (·.1))
  | [] => .refl _
  | x :: r => by
    by_cases e : x.1 = k
    · rw [adel, if_pos e]; exact List.sublist_cons_self _ _
    · rw [adel, if_neg e]; exact adel_names.cons_cons _
section
variable {α : Type} {vo : Str × α → V} {l : List (Str × α)} {k : Str}
def kk (vo : Str × α → V) (x : Str × α) : Key × V := (Sum.inr x.1, vo x)
theorem kk_val : valV (l.map (kk vo)) (.inr k) = (aget l k).map fun v => vo (k, v) := by
  induction l with
  | nil => rfl
  | cons x r ih =>
    by_cases e : x.1 = k
    · rw [List.map_cons, valV_pos (p := kk vo x) (by show Sum.inr x.1 = _; rw [e]), aget, if_pos e]
      show some (vo x) = some (vo (k, x.2))
      rw [← e]
    · rw [List.map_cons, valV_neg (p := kk vo x) (fun z => e (Sum.inr.inj z)), ih, aget, if_neg e]
theorem kk_any : ((l.map (kk vo)).any fun kv => decide (kv.1 = (Sum.inr k : Key))) = decide (k ∈ l.map (·.1)) := by
  induction l with
  | nil => rfl
  | cons x r ih =>
    rw [List.map_cons, List.any_cons, ih]
    have e1 : decide ((kk vo x).1 = (Sum.inr k : Key)) = decide (x.1 = k) := decide_eq_decide.mpr ⟨fun z => Sum.inr.inj z, fun z => by show Sum.inr x.1 = _; rw [z]⟩
    rw [e1]
    by_cases e : x.1 = k
    · simp [e]
    · have e' : ¬ k = x.1 := fun z => e z.symm
      simp [e, e']
theorem kk_put {v : α} (nd : (l.map (·.1)).Nodup) : putK (l.map (kk vo)) (.inr k) (vo (k, v)) = (aput l k v).map (kk vo) := by
  unfold putK
  rw [kk_any]
  by_cases h : k ∈ l.map (·.1)
  · rw [if_pos (decide_eq_true h)]
    induction l with
    | nil => simp at h
    | cons x r ih =>
      obtain ⟨n1, n2⟩ := List.nodup_cons.mp nd
      by_cases e : x.1 = k
      · rw [aput, if_pos e, List.map_cons, List.map_cons, List.map_cons, if_pos (by show Sum.inr x.1 = _; rw [e])]
        congr 1
        · show (Sum.inr x.1, _) = (Sum.inr k, _)
          rw [e]
        · refine (List.map_congr_left fun y hy => ?_).trans (List.map_id _)
          refine if_neg fun z => n1 ?_
          obtain ⟨q, hq, rfl⟩ := List.mem_map.mp hy
          have z : q.1 = k := Sum.inr.inj z
          exact List.mem_map.mpr ⟨q, hq, z.trans e.symm⟩
      · rw [aput, if_neg e, List.map_cons, List.map_cons, List.map_cons, if_neg (show ¬ (kk vo x).1 = (Sum.inr k : Key) from fun z => e (Sum.inr.inj z))]
        congr 1
        refine ih n2 ?_
        rcases List.mem_cons.mp h with z | z
        · exact absurd z.symm e
        · exact z
  · rw [if_neg (by rw [decide_eq_false h]; decide), aput_names_out h, List.map_append]
    rfl
theorem kk_drop (nd : (l.map (·.1)).Nodup) : dropK (l.map (kk vo)) (.inr k) = (adel l k).map (kk vo) := by
  unfold dropK
  induction l with
  | nil => rfl
  | cons x r ih =>
    obtain ⟨n1, n2⟩ := List.nodup_cons.mp nd
    by_cases e : x.1 = k
    · rw [adel, if_pos e, List.map_cons, List.filter_cons, if_neg (by simp [kk, e])]
      refine List.filter_eq_self.mpr fun y hy => ?_
      obtain ⟨q, hq, rfl⟩ := List.mem_map.mp hy
      have : ¬ q.1 = k := fun z => n1 (List.mem_map.mpr ⟨q, hq, z.trans e.symm⟩)
      simp [kk, this]
    · rw [adel, if_neg e, List.map_cons, List.filter_cons, if_pos (by simp [kk, e]), List.map_cons, ih n2]
theorem aput_map {α β : Type} {f : α → β} {k : Str} {v : α} : ∀ {l : List (Str × α)}, (aput l k v).map (fun x => (x.1, f x.2)) = aput (l.map fun x => (x.1, f x.2)) k (f v)
  | [] => rfl
  | x :: r => by
    by_cases e : x.1 = k
    · rw [aput, if_pos e, List.map_cons, List.map_cons, aput, if_pos e]
    · rw [aput, if_neg e, List.map_cons, List.map_cons, aput, if_neg e, aput_map]
theorem adel_map {α β : Type} {f : α → β} {k : Str} : ∀ {l : List (Str × α)}, (adel l k).map (fun x => (x.1, f x.2)) = adel (l.map fun x => (x.1, f x.2)) k
  | [] => rfl
  | x :: r => by
    by_cases e : x.1 = k
    · rw [adel, if_pos e, List.map_cons, adel, if_pos e]
    · rw [adel, if_neg e, List.map_cons, List.map_cons, adel, if_neg e, adel_map]
theorem aget_map {α β : Type} {f : α → β} {k : Str} : ∀ {l : List (Str × α)}, aget (l.map fun x => (x.1, f x.2)) k = (aget l k).map f
  | [] => rfl
  | x :: r => by
    by_cases e : x.1 = k
    · rw [List.map_cons, aget, if_pos e, aget, if_pos e]; rfl
    · rw [List.map_cons, aget, if_neg e, aget, if_neg e, aget_map]
end
theorem at_mem {L : Lg} {a : Addr} {o : HO} (h : (a, o) ∈ L) : At L a o := let ⟨i, hi, e⟩ := List.getElem_of_mem h; ⟨i, by rw [List.getElem?_eq_getElem hi, e]⟩
theorem nodup_len {α : Type} [DecidableEq α] : ∀ {l U : List α}, l.Nodup → (∀ k ∈ l, k ∈ U) → l.length ≤ U.length
  | [], _, _, _ => Nat.zero_le _
  | x :: r, U, nd, h => by
    obtain ⟨n1, n2⟩ := List.nodup_cons.mp nd
    have hx := h x List.mem_cons_self
    have := nodup_len (U := U.erase x) n2 fun k hk => (List.mem_erase_of_ne (fun e => n1 (by rw [← e]; exact hk))).mpr (h k (.tail _ hk))
    rw [List.length_erase_of_mem hx] at this
    have h0 : 0 < U.length := List.length_pos_of_mem hx
    rw [List.length_cons]
    omega
theorem kk_names {α : Type} {vo : Str × α → V} {l : List (Str × α)} : (l.map (kk vo)).map (·.1) = (l.map (·.1)).map Sum.inr := by
  rw [List.map_map, List.map_map]; rfl
theorem aput_nd {α : Type} {k : Str} {v : α} {l : List (Str × α)} (h : (l.map (·.1)).Nodup) : ((aput l k v).map (·.1)).Nodup := by
  by_cases hk : k ∈ l.map (·.1)
  · rw [aput_names_in hk]; exact h
  · rw [aput_names_out hk, List.map_append]
    exact List.nodup_append.mpr ⟨h, by simp, fun a ha b hb => by
      rw [List.map_cons, List.map_nil, List.mem_singleton] at hb
      rw [hb]
      exact fun e => hk ((show a = k from e) ▸ ha)⟩
theorem aput_mem {α : Type} {k j : Str} {v : α} {l : List (Str × α)} (h : j ∈ (aput l k v).map (·.1)) : j = k ∨ j ∈ l.map (·.1) := by
  by_cases hk : k ∈ l.map (·.1)
  · rw [aput_names_in hk] at h; exact .inr h
  · rw [aput_names_out hk, List.map_append] at h
    rcases List.mem_append.mp h with h | h
    · exact .inr h
    · exact .inl (by simpa using h)
theorem adel_mem {α : Type} {k j : Str} : ∀ {l : List (Str × α)}, j ∈ l.map (·.1) → j ≠ k → j ∈ (adel l k).map (·.1)
  | x :: r, h, ne => by
    by_cases e : x.1 = k
    · rw [adel, if_pos e]
      rcases List.mem_cons.mp h with z | z
      · exact absurd (z.trans e) ne
      · exact z
    · rw [adel, if_neg e]
      rcases List.mem_cons.mp h with z | z
      · rw [z]; exact List.mem_cons_self
      · exact List.mem_cons_of_mem _ (adel_mem z ne)
theorem aget_split {α : Type} {k : Str} {v : α} : ∀ {l : List (Str × α)}, aget l k = some v → ∃ B C, l = B ++ (k, v) :: C ∧ ∀ v', aput l k v' = B ++ (k, v') :: C
  | x :: r, h => by
    by_cases e : x.1 = k
    · rw [aget, if_pos e] at h
      obtain rfl := Option.some.inj h
      exact ⟨[], r, by rw [← e]; rfl, fun v' => by rw [aput, if_pos e]; rfl⟩
    · rw [aget, if_neg e] at h
      obtain ⟨B, C, e1, e2⟩ := aget_split h
      exact ⟨x :: B, C, by rw [e1]; rfl, fun v' => by rw [aput, if_neg e, e2 v']; rfl⟩
theorem aput_self {α : Type} {k : Str} {v : α} {l : List (Str × α)} (h : aget l k = some v) : aput l k v = l := by
  obtain ⟨B, C, e1, e2⟩ := aget_split h
  rw [e2, ← e1]
theorem k_dgetR {H : Hp} {a : Addr} {kvs : List (Key × V)} {v : V} {P : Addr → V → Prop} {x : Str} (r : Rd H a (.dK kvs)) (lk : valV kvs (.inr x) = some v) (q : P a v) : ∃ a' v', V.ref a = .ref a' ∧ DGet H a' (.str x) (some v') ∧ P a' v' :=
  ⟨_, _, rfl, .inl ⟨kvs, .inr x, r, rfl, lk.symm⟩, q⟩
theorem adel_none {α : Type} {k : Str} : ∀ {l : List (Str × α)}, aget l k = none → adel l k = l
  | [], _ => rfl
  | x :: r, h => by
    by_cases e : x.1 = k
    · rw [aget, if_pos e] at h; cases h
    · rw [aget, if_neg e] at h
      rw [adel, if_neg e, adel_none h]
theorem aput_nm {α : Type} {l : List (Str × α)} {k : Str} {v : α} {ns : List Str} (h : l.map (·.1) = ns) (hk : k ∈ ns) : (aput l k v).map (·.1) = ns := by
  rw [aput_names_in (by rw [h]; exact hk)]; exact h
theorem aget_const {α : Type} {v : α} {k : Str} : ∀ {ns : List Str}, k ∈ ns → aget (ns.map fun n => (n, v)) k = some v
  | x :: r, h => by
    by_cases z : x = k
    · rw [List.map_cons, aget, if_pos z]
    · rw [List.map_cons, aget, if_neg z]
      exact aget_const ((List.mem_cons.mp h).resolve_left fun y => z y.symm)
theorem aget_mem {α : Type} {k : Str} {v : α} {l : List (Str × α)} (h : aget l k = some v) : (k, v) ∈ l := by
  obtain ⟨B, C, e, _⟩ := aget_split h
  rw [e]; exact List.mem_append_right _ List.mem_cons_self
theorem mem_aget {α : Type} {k : Str} {v : α} {l : List (Str × α)} (nd : (l.map (·.1)).Nodup) (h : (k, v) ∈ l) : aget l k = some v := by
  induction l with
  | nil => cases h
  | cons x r ih =>
    obtain ⟨n1, n2⟩ := List.nodup_cons.mp nd
    rcases List.mem_cons.mp h with e | h
    · rw [← e, aget, if_pos rfl]
    · rw [aget, if_neg]
      · exact ih n2 h
      · intro e
        exact n1 (List.mem_map.mpr ⟨_, h, e.symm⟩)
theorem foldl_take {α β : Type} {f : β → α → β} {l : List α} {i : Nat} {x : α} {b : β} (h : l[i]? = some x) : (l.take (i + 1)).foldl f b = f ((l.take i).foldl f b) x := by
  rw [List.take_add_one, h, List.foldl_append]; rfl
theorem small60 {n : Nat} (h : n < 60) : n < sizeLine := Nat.lt_of_lt_of_le h (by decide)
theorem map_take {α β : Type} {f : α → β} {l : List α} {i : Nat} {x : α} (h : l[i]? = some x) : (l.take (i + 1)).map f = (l.take i).map f ++ [f x] := by
  rw [List.take_add_one, h, List.map_append]; rfl
theorem pss_imp {X : Cx} {sts : List Stmt} {t u : TS} (h : PSs X sts t) (k : ∀ D σ H, u D σ H → t D σ H) : PSs X sts u := ⟨fun pins s σ H D I q => h.run pins s σ H D I (k D σ H q)⟩
theorem ps_imp {X : Cx} {st : Stmt} {t u : TS} (h : PS X st t) (k : ∀ D σ H, u D σ H → t D σ H) : PS X st u := ⟨fun pins s σ H D I q => h.run pins s σ H D I (k D σ H q)⟩
end Sd


/-! data with a Lean type: == and != of it; min of a list of (number, text) -/
namespace Sd
open PySem PySem.W PySem.Spec PyProof.Rows L2
/-- a tuple of three -/
structure T3 (α β γ : Type) where
  a : α
  b : β
  c : γ
deriving DecidableEq
instance {α β γ : Type} [DecidableEq α] [DecidableEq β] [DecidableEq γ] [Datum α] [Datum β] [Datum γ] : Datum (T3 α β γ) where
  toD x := .tuple [Datum.toD x.a, Datum.toD x.b, Datum.toD x.c]
  plain x := by simp [PyData.plain, PyData.plainAll, Datum.plain]
  eqv x y := by
    obtain ⟨a, b, c⟩ := x
    obtain ⟨a', b', c'⟩ := y
    simp only [PyData.eqv, PyData.eqvAll, Datum.eqv, T3.mk.injEq, Bool.and_true]
    by_cases h1 : a = a' <;> by_cases h2 : b = b' <;> by_cases h3 : c = c' <;> simp [h1, h2, h3]
  depth := max (Datum.depth α) (max (Datum.depth β) (Datum.depth γ)) + 1
  depth_le x := by
    have h1 := Datum.depth_le x.a
    have h2 := Datum.depth_le x.b
    have h3 := Datum.depth_le x.c
    simp only [PyData.depth, PyData.depthAll]
    omega
/-- a value of the heap is a Lean value -/
def Dt {α : Type} [DecidableEq α] [Datum α] (K : PySem.W.Frag) (H : Hp) (v : V) (x : α) : Prop := Dp K H v (Datum.toD x)
section
variable {K : PySem.W.Frag} {H : Hp} {α β γ : Type} [DecidableEq α] [DecidableEq β] [DecidableEq γ] [Datum α] [Datum β] [Datum γ] {x y : V} {a b : α} {Q : VK}
theorem dt_shal (h : Datum.depth α ≤ 60) : Shal (Datum.toD a) := ⟨Datum.plain a, Nat.le_trans (Datum.depth_le a) h⟩
theorem k_neD (h : Datum.depth α ≤ 60) (h1 : Dt K H x a) (h2 : Dt K H y b) (k : Q (.bl (!decide (a = b))) H) : rNeP K x y H Q :=
  ⟨_, _, h1, h2, dt_shal h, dt_shal h, by rw [Datum.eqv]; exact k⟩
theorem k_eqD (h : Datum.depth α ≤ 60) (h1 : Dt K H x a) (h2 : Dt K H y b) (k : Q (.bl (decide (a = b))) H) : rEqP K x y H Q :=
  ⟨_, _, h1, h2, dt_shal h, dt_shal h, by rw [Datum.eqv]; exact k⟩
theorem dt_int {i : Int} : Dt K H (.int i) i := .int _
theorem dt_str {i : Str} : Dt K H (.str i) i := .str _
theorem dt_pair {p : Addr} {v w : V} {x : α} {y : β} (h : H p = some (.tup [v, w])) (h1 : Dt K H v x) (h2 : Dt K H w y) : Dt K H (.ref p) (x, y) := dp_tup h (.cons h1 (.cons h2 .nil))
theorem dt_t3 {p : Addr} {u v w : V} {x : α} {y : β} {z : γ} (h : H p = some (.tup [u, v, w])) (h1 : Dt K H u x) (h2 : Dt K H v y) (h3 : Dt K H w z) : Dt K H (.ref p) (T3.mk x y z) := dp_tup h (.cons h1 (.cons h2 (.cons h3 .nil)))
theorem dt_list {δ : Type} {p : Addr} {l : List δ} {f : δ → V} {g : δ → α} (h : H p = some (.lst (l.map f))) (hl : ∀ x ∈ l, Dt K H (f x) (g x)) : Dt K H (.ref p) (l.map g) := by
  show Dp K H (.ref p) (.list ((l.map g).map Datum.toD))
  rw [List.map_map]
  exact dp_lst h (dp_all hl)
theorem dt_nil {p : Addr} (h : H p = some (.lst [])) : Dt K H (.ref p) ([] : List α) := dp_lst h .nil
end
/-! min -/
theorem minOf_spec {α : Type} [DecidableEq α] [DatumOrd α] (tr : ∀ a b c : α, DatumOrd.lt b a = false → DatumOrd.lt c b = false → DatumOrd.lt c a = false) (rf : ∀ a : α, DatumOrd.lt a a = false) (as : ∀ a b : α, DatumOrd.lt a b = true → DatumOrd.lt b a = false) :
    ∀ (xs : List α) (x : α), minOf x xs ∈ x :: xs ∧ ∀ y ∈ x :: xs, DatumOrd.lt y (minOf x xs) = false
  | [], x => ⟨.head _, fun y hy => by rw [List.mem_singleton.mp hy]; exact rf x⟩
  | z :: r, x => by
    have e : minOf x (z :: r) = minOf (if DatumOrd.lt z x = true then z else x) r := rfl
    obtain ⟨h1, h2⟩ := minOf_spec tr rf as r (if DatumOrd.lt z x = true then z else x)
    rw [e]
    by_cases q : DatumOrd.lt z x = true
    · rw [if_pos q] at h1 h2 ⊢
      refine ⟨.tail _ h1, fun y hy => ?_⟩
      rcases List.mem_cons.mp hy with rfl | hy
      · exact tr _ _ _ (h2 z (.head _)) (as _ _ q)
      · exact h2 y hy
    · rw [if_neg q] at h1 h2 ⊢
      refine ⟨?_, fun y hy => ?_⟩
      · rcases List.mem_cons.mp h1 with e1 | e1
        · rw [e1]; exact .head _
        · exact .tail _ (.tail _ e1)
      · rcases List.mem_cons.mp hy with rfl | hy
        · exact h2 _ (.head _)
        · rcases List.mem_cons.mp hy with rfl | hy
          · have q' : DatumOrd.lt y x = false := by simpa using q
            exact tr _ _ _ (h2 x (.head _)) q'
          · exact h2 y (.tail _ hy)
abbrev IS := Int × Str
/-- at most, by number, then by text -/
def leP (a b : IS) : Prop := a.1 < b.1 ∨ a.1 = b.1 ∧ a.2.cps.toList ≤ b.2.cps.toList
theorem lt_leP {a b : IS} : DatumOrd.lt b a = false ↔ leP a b := by
  show (if b.1 = a.1 then decide (b.2.cps.toList < a.2.cps.toList) else decide (b.1 < a.1)) = false ↔ _
  unfold leP
  by_cases h : b.1 = a.1
  · rw [if_pos h, decide_eq_false_iff_not, Std.not_lt]
    constructor
    · exact fun q => .inr ⟨h.symm, q⟩
    · rintro (q | ⟨_, q⟩)
      · omega
      · exact q
  · rw [if_neg h, decide_eq_false_iff_not]
    constructor
    · exact fun q => .inl (by omega)
    · rintro (q | ⟨q, _⟩)
      · omega
      · omega
theorem leP_refl {a : IS} : leP a a := .inr ⟨rfl, Std.le_refl _⟩
theorem leP_trans {a b c : IS} (h1 : leP a b) (h2 : leP b c) : leP a c := by
  rcases h1 with h1 | ⟨h1, h1'⟩ <;> rcases h2 with h2 | ⟨h2, h2'⟩
  · exact .inl (by omega)
  · exact .inl (by omega)
  · exact .inl (by omega)
  · exact .inr ⟨h1.trans h2, Std.le_trans h1' h2'⟩
theorem leP_anti {a b : IS} (h1 : leP a b) (h2 : leP b a) : a = b := by
  rcases h1 with h1 | ⟨h1, h1'⟩ <;> rcases h2 with h2 | ⟨h2, h2'⟩
  · omega
  · omega
  · omega
  · exact Prod.ext h1 (str_ext (Std.le_antisymm h1' h2'))
theorem leP_total {a b : IS} (h : ¬ leP a b) : leP b a := by
  by_cases q : DatumOrd.lt a b = false
  · exact lt_leP.mp q
  · exfalso
    refine h (lt_leP.mp ?_)
    have q : (if a.1 = b.1 then decide (a.2.cps.toList < b.2.cps.toList) else decide (a.1 < b.1)) = true := (Bool.not_eq_false _).mp q
    show (if b.1 = a.1 then decide (b.2.cps.toList < a.2.cps.toList) else decide (b.1 < a.1)) = false
    by_cases e : a.1 = b.1
    · rw [if_pos e] at q
      rw [if_pos e.symm]
      exact decide_eq_false (Std.not_lt.mpr (Std.le_of_lt (of_decide_eq_true q)))
    · rw [if_neg e] at q
      rw [if_neg (fun z => e z.symm)]
      exact decide_eq_false (by have := of_decide_eq_true q; omega)
theorem minOf_leP (x : IS) (xs : List IS) : minOf x xs ∈ x :: xs ∧ ∀ y ∈ x :: xs, leP (minOf x xs) y := by
  obtain ⟨h1, h2⟩ := minOf_spec (α := IS) (fun a b c h1 h2 => lt_leP.mpr (leP_trans (lt_leP.mp h1) (lt_leP.mp h2))) (fun a => lt_leP.mpr leP_refl) (fun a b h => by
    refine lt_leP.mpr ?_
    by_cases q : leP a b
    · exact q
    · have q2 := leP_total q
      exact absurd (lt_leP.mpr q2) (by rw [h]; decide)) xs x
  exact ⟨h1, fun y hy => lt_leP.mp (h2 y hy)⟩
/-- min(rows): a row that is at most all of them -/
def rMinP (K : PySem.W.Frag) : List V → Hp → VK → Prop := fun vs H Q => ∃ (a : Addr) (l : List (Addr × IS)), vs = [.ref a] ∧ l ≠ [] ∧ SqL K H a (l.map fun x => V.ref x.1) ∧ (∀ x ∈ l, H x.1 = some (.tup [.int x.2.1, .str x.2.2])) ∧
  ∀ x ∈ l, (∀ y ∈ l, leP x.2 y.2) → Q (.ref x.1) H
theorem cr_minP {X : Cx} (hc : X.calm = true) (hu : X.A.units + 64 < cLine) : CallR X (.builtin "min") (rMinP X.K) := by
  intro pins s σ H vs us Q I r h
  obtain ⟨a, l, rfl, hne, hs, hall, q⟩ := h
  obtain ⟨its, rv, hl, _⟩ := I.list hs
  rw [Vals.ref1 r]
  have hd : DpAll X.K H (l.map fun x => V.ref x.1) (l.map fun x => Datum.toD x.2) := dp_all fun x hx => dp_tup (hall x hx) (.cons (.int _) (.cons (.str _) .nil))
  obtain ⟨as, ra⟩ := Dp.readsAll I _ _ _ hd rv
  cases l with
  | nil => exact absurd rfl hne
  | cons x xs =>
    have HA : HoldAll s.heap its.toArray.toList (x.2 :: xs.map (·.2)) := ⟨as, by simpa [Function.comp_def] using ra⟩
    refine min_list_datum (α := IS) (I.ok.hd hc) hl.isList HA (Nat.lt_of_le_of_lt (Nat.add_le_add_left (by decide : 1 + Datum.depth IS ≤ 64) X.A.units |> fun h => by omega) hu) fun i v h' tk hi hv hk => ?_
    obtain ⟨m1, m2⟩ := minOf_leP x.2 (xs.map (·.2))
    have hi2 : its[i]? = some v := by simpa using hi
    have hlen := rv.length
    have hil : i < (x :: xs).length := by
      have := (List.getElem?_eq_some_iff.mp hi2).1
      simp only [List.length_map] at hlen
      omega
    have hx : (x :: xs)[i]? = some (x :: xs)[i] := List.getElem?_eq_getElem hil
    generalize hy : (x :: xs)[i] = y at hx
    have hmem : y ∈ x :: xs := by rw [← hy]; exact List.getElem_mem hil
    obtain ⟨u, hu1, hu2⟩ := Vals.get (x := V.ref y.1) rv (by rw [List.getElem?_map, hx]; rfl)
    rw [hi2] at hu1
    cases hu1
    obtain rfl : v = Value.ref y.1 := hu2
    obtain ⟨as1, r1⟩ := Dp.reads I (Datum.toD y.2) (.ref y.1) (.ref y.1) (dp_tup (hall y hmem) (.cons (.int _) (.cons (.str _) .nil))) rfl
    obtain ⟨as2, r2⟩ := hv
    have e := reads_det (fun b o e _ => hk b o e) r1 r2
    have e2 : y.2 = minOf x.2 (xs.map (·.2)) := by
      have := Datum.eqv y.2 (minOf x.2 (xs.map (·.2)))
      rw [← e.1] at this
      rw [Datum.eqv] at this
      simpa using this
    refine ⟨.ref y.1, H, I.kept hk, rfl, q y hmem fun z hz => ?_⟩
    rw [e2]
    refine m2 z.2 ?_
    rcases List.mem_cons.mp hz with rfl | hz
    · exact .head _
    · exact .tail _ (List.mem_map.mpr ⟨z, hz, rfl⟩)
end Sd


/-! told(lambda): a lambda made, called by told, and it raises: the table of the law's own code lives on -/
namespace Sd
open PySem PySem.Spec PyProof.Rows L2 LamX NdefX
theorem led_more {H : Hp} : ∀ (as : List Addr) (R : Lg), Led H R → ∃ R2 : Lg, Led H R2 ∧ (∀ x ∈ R, x ∈ R2) ∧ ∀ a ∈ as, ∀ o, H a = some o → ∀ H', Led H' R2 → H' a = some o
  | [], R, h => ⟨R, h, fun _ h => h, fun _ h => nomatch h⟩
  | a :: as, R, h => by
    obtain ⟨R1, h1, i1, k1⟩ := led_more as R h
    by_cases e : ∃ o, (a, o) ∈ R1
    · obtain ⟨o, ho⟩ := e
      refine ⟨R1, h1, i1, fun b hb o' hb' H' h' => ?_⟩
      rcases List.mem_cons.mp hb with rfl | hb
      · have := h1.mem ho
        rw [hb'] at this
        cases this
        exact h'.mem ho
      · exact k1 b hb o' hb' H' h'
    · rcases ha : H a with _ | o
      · refine ⟨R1, h1, i1, fun b hb o' hb' H' h' => ?_⟩
        rcases List.mem_cons.mp hb with rfl | hb
        · rw [ha] at hb'; cases hb'
        · exact k1 b hb o' hb' H' h'
      · refine ⟨(a, o) :: R1, ⟨fun x hx => ?_, ?_⟩, fun x hx => .tail _ (i1 x hx), fun b hb o' hb' H' h' => ?_⟩
        · rcases List.mem_cons.mp hx with rfl | hx
          · exact ha
          · exact h1.1 x hx
        · rw [List.map_cons]
          refine List.nodup_cons.mpr ⟨fun hm => ?_, h1.2⟩
          obtain ⟨x, hx, ex⟩ := List.mem_map.mp hm
          exact e ⟨x.2, by
            have ex : x.1 = a := ex
            rw [← ex]; exact hx⟩
        · rcases List.mem_cons.mp hb with rfl | hb
          · rw [ha] at hb'; cases hb'
            exact h'.mem (.head _)
          · exact k1 b hb o' hb' H' h'.tail
/-- the table within a ledger -/
theorem tab_led {H : Hp} {P : Addr} {q : Str} (t : TabS H P q) : ∃ R : Lg, Led H R ∧ ∀ H', Led H' R → TabS H' P q := by
  obtain ⟨ps, h1, h2, h3⟩ := t
  obtain ⟨R, hR, _, k⟩ := led_more (P :: ps.toList.filterMap fun v => match v with | .ref c => some c | _ => none) [] Led.nil
  refine ⟨R, hR, fun H' h' => ⟨ps, k P (.head _) _ h1 H' h', h2, fun pos cv hc => ?_⟩⟩
  obtain ⟨c, rfl, hcc⟩ := h3 pos cv hc
  refine ⟨c, rfl, k c (.tail _ (List.mem_filterMap.mpr ⟨.ref c, ?_, rfl⟩)) _ hcc H' h'⟩
  clear h1 h2 h3 k hR hcc
  generalize ps.toList = l at hc
  fun_induction codeAmong pos l with
  | case1 line t1 col t2 c' rest hq =>
    cases hc
    exact .tail _ (.tail _ (.head _))
  | case2 line t1 col t2 c' rest hq ih => exact .tail _ (.tail _ (.tail _ (ih hc)))
  | case3 => cases hc
/-- a lambda that raises -/
def tlR (CE : Addr) : Hp → VK → XK → Prop := fun H _ E => ∃ R, Led H R ∧ ∀ H', Led H' R → E (.ref CE) none H'
theorem rd_told {P : Program} {w : World} {K : PySem.W.Frag} {mg : Str → Option Value} {base : Heap} {k : Nat} {CE PL : Addr} {e ret q : Str} {params : Arguments} {body : Expr} {scope : Scope} {σ : L2.St} {H : Hp} {Q : VK} (T : ExcT K mg e CE) (hT : TabS H PL q)
    (L : ∀ f c', LOk P w K mg base k f ⟨"<lambda>", q, params, [], scope, [], c'⟩ body (tlR CE)) (kq : ∀ H', TabS H' PL q → Q (.str ret) H') :
    tCall (spTold P w K mg base k CE ret) [] C8.E0 (tCons (tLamV PL q params body scope) tNil) σ H Q := by
  refine ⟨hT, fun f c' H1 eN T1 n0 hf hc => ?_⟩
  obtain ⟨R, hR, kR⟩ := tab_led T1
  exact ⟨f, _, _, _, rfl, hf, hc, L f c', R, hR, fun H' h' => ⟨true, T.em, fun _ => kq H' (kR H' h'), fun z => nomatch z⟩⟩
end Sd


/-! lambdas that capture names, kept as values, called by told -/
namespace Sd
open PySem PySem.Spec PyProof.Rows L2 LamX NdefX
structure LOkC (P : Program) (w : World) (K : PySem.W.Frag) (mg : Str → Option Value) (base : Heap) (k : Nat) (f : Addr) (F : NF) (b : Expr) (fr : List Str) (tl : List (Option V) → Hp → VK → XK → Prop) : Prop where
  run : ∀ (A : Around) (outer : List Env) (s : Shared) (H : Hp) (ws : List (Option V)) (Q : VK) (E : XK), Room k A → Env0 P w K mg base A outer s H → H f = some (LamO f F b) → H F.c = some (CodeO F.c F.qual) → CellsAt F.cl fr ws s.heap H → tl ws H Q E →
    codeAny (model P w) A (.call (.ref f) ⟨[], []⟩) (CR (L2.CX P w) outer P w H s Q E) s
section
variable {P : Program} {w : World} {K : PySem.W.Frag} {mg : Str → Option Value} {base : Heap} {F : NF} {f : Addr} {b : Expr} {k : Nat} {N fr : List Str} {tl : List (Option V) → Hp → VK → XK → Prop}
theorem lokC_of (S : NScope N [] fr F.scope) (hb : ∀ pm cv ctv : Value, bindArgs (PySem.W.kla_fn F.name F.qual F.params b F.scope F.cl pm cv ctv) ⟨[], []⟩ = pure [])
    (hbody : ∀ (A : Around) (outer : List Env) (s : Shared) (H : Hp) (ws : List (Option V)) (Q : VK) (E : XK), Room k (A.deeper (envF F f s.heap.objs.size)) → tl ws H Q E → ∃ t : TE, PE (ncx (L2.CX P w) P w K mg base N F f A outer s H E) b t ∧ t (startF N [] ws) H Q) :
    LOkC P w K mg base (k + 1) f F b fr tl := by
  refine ⟨fun A outer s H ws Q E hr e0 hf hc C h => ?_⟩
  have lim : s.heap.NoLimit := e0.mod.nolimit.keeps fun b o e => (e0.bs b o e).1
  obtain ⟨pm, ctv, ho⟩ := lamO_at e0.hok hf
  refine PySem.W.kla_callFunE hr.depth ho rfl S.co S.gen rfl (codeO_at e0.hok hc) ?_
  rw [hb]
  refine wpAny_pure (wpAny_newFunctionEnv S.nocell (fun y hy => absurd hy (by simp)) (fun h₁ hns hsb => ⟨lim.fresh _ hsb, ?_⟩) S.kind)
  show codeAny _ _ (.expr b (envF F f s.heap.objs.size)) _ _
  have kp : ∀ b o, s.heap.get? b = some o → h₁.get? b = some o := fun b o e => hsb.extBut b o (Nat.ne_of_lt (Heap.lt_size e)) (Heap.get?_push_of_some _ e)
  obtain ⟨t, ht, hq⟩ := hbody A outer s H ws Q E (hr.deeper _) h
  have I : Inv (ncx (L2.CX P w) P w K mg base N F f A outer s H E) [] (startF N [] ws) H { s with heap := h₁, toks := s.toks + ([] : List (Str × Value)).length } :=
    inv_startN (N := N) (ps := []) (fr := fr) (vs := []) (us := []) (ws := ws) S hr.hd e0 rfl .nil C hns kp
  refine PySem.W.kla_codeExpr (wpAny_mono (ht.run [] _ _ H Q I hq) (fun v s' hq => ?_) fun e s' hq => hq)
  obtain ⟨w', H', J', rv, q⟩ := hq
  exact ⟨w', H', J'.os, J'.bare, J'.base, J'.hok, rv, q⟩
end
theorem pe_lamcC {X : Cx} {W : WX} {i k : Nat} {x : Str} {p pos : Pos} {f : Addr} {F : NF} {b : Expr} {fr : List Str} {ws : List (Option V)} {tl : List (Option V) → Hp → VK → XK → Prop} (tk : Takes X W) (hr : Room k X.A) (hN : X.N[i]? = some x) (hv : Vis X.env.scope x)
    (C : CellsAt F.cl fr ws X.s_0.heap X.H_0) (nf : ∀ y c, F.cl.lookup y = some c → c ∉ X.fs) (hx : ∀ y c, F.cl.lookup y = some c → c ∉ X.ex) (L : LOkC X.prog X.w X.K X.mg X.base k f F b fr tl)
    (hd : (x == ("__debug__" : Str)) = false := by decide) (hcd : (x == ("__classdict__" : Str)) = false := by decide) :
    PE X (.Call (.Name x p) [] [] pos) (fun σ H Q => σ[i]? = some (some (.ref f)) ∧ H f = some (LamO f F b) ∧ H F.c = some (CodeO F.c F.qual) ∧ ∃ E : XK, (∀ cls d σ' H', E cls d H' → W cls d σ' H') ∧ tl ws H Q E) := by
  refine ⟨fun pins s σ H Q I h => ?_⟩
  obtain ⟨hs, hf, hc, E, hW, ht⟩ := h
  refine wpAny_Call_Name_kw (thn ((pe_var (pos := p) hN hv hd hcd).run pins s σ H (fun v H1 => v = .ref f ∧ H1 = H) I ⟨.ref f, hs, rfl, rfl⟩) fun u s1 ⟨v, H1, I1, r1, q1⟩ => ?_)
  obtain ⟨ev, eH⟩ := q1
  subst ev
  rw [eH] at I1
  obtain rfl : u = Value.ref f := r1
  obtain ⟨pm, ctv, ho⟩ := lamO_at I1.hok hf
  refine PySem.W.callWith_F0 (first := []) ⟨_, _, _, _, ho⟩ ?_
  show wpAny _ _ (call (.ref f) []) _ _ _
  refine wpAny_call (codeAny_mono (L.run X.A X.stack s1 H ws Q E hr I1.env0 hf hc (C.later nf hx I1) ht) fun r s' hq => ?_)
  cases r with
  | error e => exact passes_call tk hW pins σ H s1 e s' I1 hq
  | ok fl =>
    cases fl with
    | ret u => exact I1.after hq
    | next => exact False.elim hq
    | brk => exact False.elim hq
    | cont => exact False.elim hq
/-- told(y), y a name that holds a lambda -/
def tToldC (K : PySem.W.Frag) (P : Program) (w : World) (mg : Str → Option Value) (base : Heap) (k i : Nat) (cl : List (Str × Addr)) (fr : List Str) (ws : List (Option V)) (CS : Addr) (ret : Str) : TE := fun σ H Q => ∃ (f : Addr) (F : NF) (b : Expr) (tl : List (Option V) → Hp → VK → XK → Prop),
  σ[i]? = some (some (.ref f)) ∧ H f = some (LamO f F b) ∧ H F.c = some (CodeO F.c F.qual) ∧ F.cl = cl ∧ LOkC P w K mg base k f F b fr tl ∧ tl ws H Q (fun cls _ H' => ∃ b, PySem.W.exmOne K cls (.ref CS) = some b ∧ (b = true → Q (.str ret) H') ∧ (b = false → False))
theorem pe_toldC {X : Cx} {i k j : Nat} {x y a e ret : Str} {g CS : Addr} {st : Stmt} {fd : FuncData} {N : List Str} {p py pos p1 p2 p3 p4 p5 p6 p7 p8 : Pos} {cl : List (Str × Addr)} {fr : List Str} {ws : List (Option V)} (Fn : Fun X.K x x st g fd) (S : FnScope N [a] (defScope st))
    (hbd : defBody st = [.Try [.Return (some (.Call (.Name a p1) [] [] p2)) p3] [.ExceptHandler (some (.Name e p4)) none [.Return (some (.Constant (.str ret) j p5)) p6] p7] [] [] p8]) (hbi : Binds X.K fd [a] []) (hm : X.mg x = some (.ref g)) (hge : (defScope st).names.lookup e = some .globalImplicit) (hme : X.mg e = some (.ref CS))
    (hN : N[0]? = some a) (hv : Vis (defScope st) a) (h0 : ∀ f : Addr, (L2.start N [V.ref f])[0]? = some (some (V.ref f)))
    (hr : Room (k + 1) X.A) (hg : Gl X x) (hy : X.N[i]? = some y) (hvy : Vis X.env.scope y)
    (C : CellsAt cl fr ws X.s_0.heap X.H_0) (nf : ∀ y c, cl.lookup y = some c → c ∉ X.fs) (hx : ∀ y c, cl.lookup y = some c → c ∉ X.ex) (nf2 : ∀ y c, cl.lookup y = some c → c ∉ frs X.stack)
    (hdb : (x == ("__debug__" : Str)) = false := by decide) (hdy : (y == ("__debug__" : Str)) = false := by decide) (hcy : (y == ("__classdict__" : Str)) = false := by decide) (hde : (e == ("__debug__" : Str)) = false := by decide) (hd : (a == ("__debug__" : Str)) = false := by decide) (hcd : (a == ("__classdict__" : Str)) = false := by decide) :
    PE X (.Call (.Name x p) [.Name y py] [] pos) (tToldC X.K X.prog X.w X.mg X.base k i cl fr ws CS ret) := by
  refine ⟨fun pins s σ H Q I h => ?_⟩
  obtain ⟨f, F, b, tl, hs, hf, hc, rfl, L, ht⟩ := h
  refine wpAny_Call_Name_kw (ld_glob I hg hm ?_ hdb)
  refine PySem.W.callWith_K (h₀ := X.base) I.ok.mod.kin Fn.kp (thn ((pa_cons (pe_var (pos := py) hy hvy hdy hcy) pa_nil).run pos pins s σ H (fun vs H1 => vs = [.ref f] ∧ H1 = H) I ⟨.ref f, hs, rfl, rfl⟩) fun us s1 ⟨vs, H1, I1, r, q⟩ => ⟨I1.kIn, ?_⟩) (by rfl) (by rfl)
  obtain ⟨ev, eH⟩ := q
  subst ev
  rw [eH] at I1
  obtain ⟨u, rfl, ru⟩ := r.one
  obtain rfl : u = Value.ref f := ru
  obtain ⟨oc, od, kV, doc, pm, an, cdv, ct, osl, rfl, lk, hcd2⟩ := Fn.ex
  have C1 : CellsAt F.cl fr ws s1.heap H := C.later nf hx I1
  have rc : codeAny (model X.prog X.w) X.A (.call (.ref g) ⟨[.ref f], []⟩) (CR C8.CX0 X.stack X.prog X.w H s1 Q C8.E0) s1 := by
    refine run_ofS (N := N) (ps := [a]) (us := [.ref f]) (vs := [.ref f]) lk hcd2 S hr I1.env0 (hbi s1 [.ref f] I1.kIn rfl) (.cons rfl .nil) rfl fun hr' => ?_
    have hgl : Gl (cxOf C8.CX0 X.prog X.w X.K X.mg X.base N x (defScope st) g cdv X.A X.stack s1 H C8.E0).nox e := hge
    rw [hbd]
    have hps : PSs (cxOf C8.CX0 X.prog X.w X.K X.mg X.base N x (defScope st) g cdv X.A X.stack s1 H C8.E0).nox [.Try [.Return (some (.Call (.Name a p1) [] [] p2)) p3] [.ExceptHandler (some (.Name e p4)) none [.Return (some (.Constant (.str ret) j p5)) p6] p7] [] [] p8] _ :=
      pss_one (ps_try_only (c := .ref CS) (tb := fun W D σ H => σ[0]? = some (some (.ref f)) ∧ H f = some (LamO f F b) ∧ H F.c = some (CodeO F.c F.qual) ∧ ∃ E : XK, (∀ cls d σ' H', E cls d H' → W cls d σ' H') ∧ tl ws H D.rt E) rfl rfl ⟨hgl, hde, .inl hme⟩ L2.takes0
        (fun W pn xe tk _ => pss_one (ps_ret (pe_lamcC tk hr' hN hv C1 nf2 (fun _ _ _ z => nomatch z) L hd hcd))) (fun a oe cls d pn _ _ => pss_one (ps_ret pe_str)))
    refine ⟨_, hps.nox, h0 f, hf, hc, _, fun cls d σ' H' q => ?_, ht⟩
    obtain ⟨b, e1, e2, e3⟩ := q
    exact ⟨b, e1, fun hb a _ => e2 hb, fun hb => e3 hb⟩
  refine wpAny_call (codeAny_mono rc fun r s2 hq => ?_)
  cases r with
  | error e => exact (show False from hq).elim
  | ok fl =>
    cases fl with
    | ret u => exact I1.after hq
    | next => exact False.elim hq
    | brk => exact False.elim hq
    | cont => exact False.elim hq
end Sd


/-! [e for f in xs if t], t false each time and fit to call what captures names of the running frame -/
namespace Sd
open PySem PySem.Spec PyProof.Rows L2 LamX NdefX
theorem cell_nofrs {X : Cx} {pins : List (Addr × Obj)} {σ : L2.St} {H : Hp} {s : Shared} (I : Inv X pins σ H s) (hfn : ∀ x, X.fn x = true) : ∀ x c, X.env.cells.lookup x = some c → c ∉ frs X.stack := fun x c e hb => by
  rcases List.mem_cons.mp (I.stkSub c hb) with z | z
  · exact I.cne x c e z
  · obtain ⟨_, o, ho, _⟩ := I.ok.funs.mem z
    exact absurd (Nat.lt_of_lt_of_le (Heap.lt_size ho) (I.ok.cab x c (hfn x) e)) (Nat.lt_irrefl _)
/-- what the block's start tells of the captured cells -/
def GdC (X : Cx) (cl : List (Str × Addr)) (fr : List Str) (ws : List (Option V)) (s : Shared) (H : Hp) (fp : List Addr) : Prop := CellsAt cl fr ws s.heap H ∧ ∀ y c, cl.lookup y = some c → c ∉ frs X.stack ∧ c ∉ fp
theorem pe_lcF {X : Cx} {elt tg iter : Expr} {ifs : List Expr} {scope : Scope} {own : List (Str × Nat)} {pos : Pos} {wi : TI} {g : TG} {tt : TT} {fr : List Str} {js : List Nat} {ws : List (Option V)} {lsc : Scope} (hfn : ∀ x, X.fn x = true) (hc : X.calm = true) (hN : X.N.Nodup) (hi : PI X tg iter wi) (ok : BlkOk X.N X.env.scope scope own)
    (caps : ∀ pins σ H s, Inv X pins σ H s → Caps X (cloFrom X.env.cells lsc.names []) fr js)
    (hg : ∀ (s : Shared) (H : Hp) (C : Addr) (cl : List (Str × Addr)) (fp : List Addr), PG (X.blk s H scope (compEnvC scope cl C X.env) fp) tg g)
    (ht : ∀ (s : Shared) (H : Hp) (C : Addr) (cl : List (Str × Addr)) (fp : List Addr), GdC X (cloFrom X.env.cells lsc.names []) fr ws s H fp → PTs (X.blk s H scope (compEnvC scope cl C X.env) fp) ifs tt)
    (hs : ∀ x, foldedSetIterable iter X.env x = pure x := by intro _; rfl) :
    PE X (.ListComp elt [⟨tg, iter, ifs, 0⟩] scope pos) (fun σ H Q => js.map (slotAt σ) = ws ∧ tLc wi g tt (fun _ _ _ => False) (own.map (·.2)) σ H Q) := by
  refine ⟨fun pins s σ H Q I h => ?_⟩
  obtain ⟨hws, h⟩ := h
  rw [eval_ListComp]
  refine wpAny_comprehension_free (use := none) rfl hs (closure_ok fun y hy e => ?_) ok.kind (fun y hy e => by rw [ok.uniq y hy, e]) (thn (hi.run pins s σ H _ I h) fun xv s1 hx => thn hx fun itv s2 h2 => ?_)
  · rcases ok.free y hy e with k | k
    · exact I.ok.has _ (.inl k)
    · exact I.ok.has _ (.inr k)
  obtain ⟨it, fp, tn, J, H2, e, I2, T, st2, f2, q⟩ := h2
  subst e
  refine wpAny_newObj_type (newEnv_comp ?_) (by show 0 ≤ sizeLine; decide)
  have hD2 : H2 s2.heap.objs.size = none := I2.hok.fresh (Nat.le_refl _)
  obtain ⟨W, ⟨m0, w0⟩, turn⟩ := q _ hD2
  generalize hs3 : ({ s2 with heap := s2.heap.push { cls := .type "list", data := .seq ([] : List Value).toArray } } : Shared) = s3
  have h3 : s3.heap = s2.heap.push { cls := .type "list", data := .seq ([] : List Value).toArray } := by rw [← hs3]
  have I3 : Inv X pins σ (upd H2 s2.heap.objs.size (.lst [])) s3 := by
    rw [← hs3]
    exact I2.laid (t' := s2.toks) (fun b o e => Heap.get?_push_of_some _ e) (Nat.le_refl _) ⟨Nat.zero_le _, [], 0, .nil, Heap.get?_push_size _ rfl⟩
  generalize hDD : s2.heap.objs.size = D at I3 w0 turn hD2 ⊢
  have fOk : ∀ b ∈ fp, FpOk X pins (upd H2 D (.lst [])) b ∧ b < s3.heap.objs.size := fun b hb => by
    obtain ⟨o, e, _⟩ := T.obj _ _ st2 b hb
    have hlt := Heap.lt_size e
    refine ⟨⟨?_, (f2 b hb).2⟩, by rw [h3, Heap.size_push]; exact Nat.lt_succ_of_lt hlt⟩
    rw [upd_ne (by rw [← hDD]; exact Nat.ne_of_lt hlt)]
    exact (f2 b hb).1
  have gd : GdC X (cloFrom X.env.cells lsc.names []) fr ws s3 (upd H2 D (.lst [])) fp := by
    refine ⟨hws ▸ cells_of I3 (caps _ _ _ _ I3), fun y c e => ⟨cell_nofrs I3 hfn y c ((caps _ _ _ _ I3).sub y c e), fun hb => ?_⟩⟩
    exact (fOk c hb).1.2.2.2.2.1 y c ((caps _ _ _ _ I3).sub y c e) rfl
  have I4 := block_start I3 ok hN fOk
  have pg := hg s3 (upd H2 D (.lst [])) s3.heap.objs.size (cellsFrom (s3.heap.objs.size + 1) scope.names (cloFrom X.env.cells scope.names [])) fp
  have pt := ht s3 (upd H2 D (.lst [])) s3.heap.objs.size (cellsFrom (s3.heap.objs.size + 1) scope.names (cloFrom X.env.cells scope.names [])) fp gd
  have t3 : tn 0 s3.heap := T.keep _ _ _ st2 fun b _ o e => by rw [h3]; exact Heap.get?_push_of_some _ e
  have n3 : ∀ b ∈ fp, (upd H2 D (.lst [])) b = none := fun b hb => (fOk b hb).1.1
  generalize hBX : X.blk s3 (upd H2 D (.lst [])) scope (compEnvC scope (cellsFrom (s3.heap.objs.size + 1) scope.names (cloFrom X.env.cells scope.names [])) s3.heap.objs.size X.env) fp = BX at I4 pg pt
  have bP : BX.prog = X.prog ∧ BX.w = X.w ∧ BX.K = X.K ∧ BX.calm = X.calm ∧ BX.A = X.A ∧ BX.ex = fp ∧ BX.pn = [] ∧ BX.env.locals = s3.heap.objs.size := by rw [← hBX]; exact ⟨rfl, rfl, rfl, rfl, rfl, rfl, rfl, rfl⟩
  have fpB : ∀ {σ' : L2.St} {H' : Hp} {s' : Shared}, Inv BX [] σ' H' s' → (∀ b ∈ fp, H' b = none) → ∀ b ∈ fp, FpOk BX [] H' b := fun {σ' H' s'} I' hn b hb => by
    have hbx : b ∈ BX.ex := by rw [bP.2.2.2.2.2.1]; exact hb
    exact ⟨hn b hb, (I'.ok.exf b hbx).1, I'.ok.exfs b hbx, .inl hbx, fun x c e => (I'.ok.exf b hbx).2 x c e, fun p hp => by rw [bP.2.2.2.2.2.2.1] at hp; cases hp⟩
  generalize hs4 : ({ s3 with heap := pushCells (s3.heap.push { cls := .type "dict", data := .dict #[] }) scope.names } : Shared) = s4 at I4
  have t4 : tn 0 s4.heap := T.keep _ _ _ t3 fun b _ o e => by rw [← hs4]; exact pushCells_keeps _ _ _ _ (Heap.get?_push_of_some _ e)
  show codeAny _ _ (.compStart (.ListComp elt [⟨tg, iter, ifs, 0⟩] scope pos) 0 (.ref it) (.ref D) (compEnvC scope (cellsFrom (s3.heap.objs.size + 1) scope.names (cloFrom X.env.cells scope.names [])) s3.heap.objs.size X.env)) (compPost (model X.prog X.w) X.A X.xe none (EP X pins σ Q) (.ref D) s3.heap.objs.size) s4
  have loop : codeAny (model X.prog X.w) X.A (.compLoop (.ListComp elt [⟨tg, iter, ifs, 0⟩] scope pos) 0 (.ref it) (.ref D) (compEnvC scope (cellsFrom (s3.heap.objs.size + 1) scope.names (cloFrom X.env.cells scope.names [])) s3.heap.objs.size X.env)) (compPost (model X.prog X.w) X.A X.xe none (EP X pins σ Q) (.ref D) s3.heap.objs.size) s4 := by
    refine compLoop_any (fun n s' => ∃ i H', Inv BX [] (wipe σ (own.map (·.2))) H' s' ∧ tn i s'.heap ∧ (∀ b ∈ fp, H' b = none) ∧ W i n H') ?_ m0 ⟨0, _, I4, t4, n3, w0⟩
    rintro n s5 ⟨i, H5, I5, t5, n5, w5⟩
    rcases turn i n H5 w5 with ⟨stop, qq⟩ | ⟨go, Nx, hNx, step⟩
    · have td := T.done BX bP.1 bP.2.1 bP.2.2.1 (bP.2.2.2.1.trans hc) i [] s5 _ H5 (fun _ _ => False) I5 (fpB I5 n5) t5 stop
      rw [bP.2.2.2.2.1] at td
      refine thnF td fun r s6 ⟨hr, I6⟩ => ?_
      subst hr
      subst hBX
      have I7 : Inv X pins σ H5 s6 := I3.call' (ch := fp) I6.os I6.base I6.hok I6.bare fun b hb => ⟨(fOk b hb).1.2.2.2.1, (fOk b hb).1.2.1, (fOk b hb).1.2.2.2.2.1, (fOk b hb).1.2.2.2.2.2⟩
      obtain ⟨m, hn, _⟩ := I6.loc
      have nC : H5 s3.heap.objs.size = none := I6.free
      obtain ⟨f0, f1, f2', f3, f4, f5⟩ := I3.fpOk (H' := H5) (Nat.le_refl _) nC
      exact ⟨m, hn, fun h'' sb => ⟨.ref D, H5, I7.turned (t' := s6.toks) (fun b o hb e => (sb.2 b hb).trans e) f0 f1 f3 f4 f5, rfl, qq⟩⟩
    · have ti := T.item BX bP.1 bP.2.1 bP.2.2.1 (bP.2.2.2.1.trans hc) i [] s5 _ H5 (fun _ _ => False) I5 (fpB I5 n5) t5 go
      rw [bP.2.2.2.2.1] at ti
      refine thnF ti fun r s6 ⟨u, hr, h6⟩ => ?_
      subst hr
      refine thnF h6 fun _ s7 ⟨x, H7, I7, r7, y7, t7, n7⟩ => ?_
      have I7' := I7.pinned (fpB I7 n7) (T.obj _ _ t7)
      subst hBX
      refine thnF (pg.run _ s7 _ H7 x u _ I7' r7 (step x H7 y7)) fun _ s8 ⟨σ8, H8, I8, hw8, q8⟩ => ?_
      refine thnF (pt.run _ s8 σ8 H8 _ I8 q8) fun b s9 ⟨H9, I9, q9⟩ => ?_
      cases b with
      | true => exact False.elim q9
      | false =>
        obtain ⟨m', hm, w'⟩ := hNx H9 q9
        have pin' : ∀ b ∈ fp, ∀ o, s7.heap.get? b = some o → s9.heap.get? b = some o ∧ H9 b = none := fun b hb o e =>
          let z := I9.pin (b, o) (List.mem_append_right _ (List.mem_append_right _ (mem_pinsAt hb e)))
          ⟨z.1, z.2.1⟩
        refine ⟨m', hm, i + 1, H9, (I9.unpinned (pins := [])).weak (by rw [← hw8, wipe_length]) (fun j v e => ?_), T.keep _ _ _ t7 fun b hb o e => (pin' b hb o e).1, fun b hb => ?_, w'⟩
        · rw [← hw8] at e
          exact (wipe_some e).1
        · obtain ⟨o, e, _⟩ := T.obj _ _ t7 b hb
          exact (pin' b hb o e).2
  exact codeAny_compStart_list loop (T.self X.A 0 _ _ _ t4 loop)
theorem pe_lcE {X : Cx} {elt tg iter : Expr} {ifs : List Expr} {scope : Scope} {own : List (Str × Nat)} {pos : Pos} {wi : TI} {g : TG} {tt : List (Option V) → TT} {fr : List Str} {js : List Nat} {lsc : Scope} (hfn : ∀ x, X.fn x = true) (hc : X.calm = true) (hN : X.N.Nodup) (hi : PI X tg iter wi) (ok : BlkOk X.N X.env.scope scope own)
    (caps : ∀ pins σ H s, Inv X pins σ H s → Caps X (cloFrom X.env.cells lsc.names []) fr js)
    (hg : ∀ (s : Shared) (H : Hp) (C : Addr) (cl : List (Str × Addr)) (fp : List Addr), PG (X.blk s H scope (compEnvC scope cl C X.env) fp) tg g)
    (ht : ∀ (ws : List (Option V)) (s : Shared) (H : Hp) (C : Addr) (cl : List (Str × Addr)) (fp : List Addr), GdC X (cloFrom X.env.cells lsc.names []) fr ws s H fp → PTs (X.blk s H scope (compEnvC scope cl C X.env) fp) ifs (tt ws))
    (hs : ∀ x, foldedSetIterable iter X.env x = pure x := by intro _; rfl) :
    PE X (.ListComp elt [⟨tg, iter, ifs, 0⟩] scope pos) (fun σ H Q => tLc wi g (tt (js.map (slotAt σ))) (fun _ _ _ => False) (own.map (·.2)) σ H Q) :=
  ⟨fun pins s σ H Q I h => (pe_lcF hfn hc hN hi ok caps hg (ht (js.map (slotAt σ))) hs).run pins s σ H Q I ⟨rfl, h⟩⟩
theorem pe_toldB {X : Cx} {s : Shared} {H : Hp} {scope : Scope} {cenv : Env} {fp : List Addr} {i k j : Nat} {x y a e ret : Str} {g CS : Addr} {st : Stmt} {fd : FuncData} {N : List Str} {p py pos p1 p2 p3 p4 p5 p6 p7 p8 : Pos} {cl : List (Str × Addr)} {fr : List Str} {ws : List (Option V)} (Fn : Fun X.K x x st g fd) (S : FnScope N [a] (defScope st))
    (hbd : defBody st = [.Try [.Return (some (.Call (.Name a p1) [] [] p2)) p3] [.ExceptHandler (some (.Name e p4)) none [.Return (some (.Constant (.str ret) j p5)) p6] p7] [] [] p8]) (hbi : Binds X.K fd [a] []) (hm : X.mg x = some (.ref g)) (hge : (defScope st).names.lookup e = some .globalImplicit) (hme : X.mg e = some (.ref CS))
    (hN : N[0]? = some a) (hv : Vis (defScope st) a) (h0 : ∀ f : Addr, (L2.start N [V.ref f])[0]? = some (some (V.ref f)))
    (hr : Room (k + 1) X.A) (gd : GdC X cl fr ws s H fp) (hg : cenv.scope.names.lookup x = some .globalImplicit) (hy : X.N[i]? = some y) (hvy : Vis cenv.scope y)
    (hdb : (x == ("__debug__" : Str)) = false := by decide) (hdy : (y == ("__debug__" : Str)) = false := by decide) (hcy : (y == ("__classdict__" : Str)) = false := by decide) (hde : (e == ("__debug__" : Str)) = false := by decide) (hd : (a == ("__debug__" : Str)) = false := by decide) (hcd : (a == ("__classdict__" : Str)) = false := by decide) :
    PE (X.blk s H scope cenv fp) (.Call (.Name x p) [.Name y py] [] pos) (tToldC X.K X.prog X.w X.mg X.base k i cl fr ws CS ret) :=
  pe_toldC (X := X.blk s H scope cenv fp) Fn S hbd hbi hm hge hme hN hv h0 hr hg hy hvy gd.1 (fun y c e => (gd.2 y c e).1) (fun y c e => (gd.2 y c e).2) (fun y c e => (gd.2 y c e).1) hdb hdy hcy hde hd hcd
/-- lambda: body; names captured: those of the running frame's cells -/
def tLamVC (P : Addr) (q : Str) (params : Arguments) (body : Expr) (scope : Scope) (cl : List (Str × Addr)) : TE := fun _ H Q => TabS H P q ∧ ∀ (f c' : Addr) (H1 : Hp), ExtN H H1 → TabS H1 P q → H f = none → H1 f = some (LamO f ⟨"<lambda>", q, params, [], scope, cl, c'⟩ body) → H1 c' = some (CodeO c' q) → Q (.ref f) H1
theorem pe_lamvC {X : Cx} {q : Str} {c P : Addr} {params : Arguments} {body : Expr} {scope : Scope} {pos : Pos} (TB : TabB X.base X.mg c P) (hcode : X.env.code = .ref c) (hq : X.env.qual ++ "<lambda>" = q) (hdef : defaultsOf params X.env = ([], []))
    (hfree : ∀ y ∈ scope.names, y.2 = .free → X.env.scope.names.lookup y.1 = some .cell) : PE X (.Lambda params body scope pos) (tLamVC P q params body scope (cloFrom X.env.cells scope.names [])) := by
  refine ⟨fun pins s σ H Q I h => ?_⟩
  obtain ⟨hT, h⟩ := h
  refine lam_value I TB hcode hq hT hdef (fun y hy e => I.ok.has _ (.inl (hfree y hy e))) fun f c' H1 s' I1 eN T1 f0 f1 c1 => ?_
  exact ⟨.ref f, H1, I1, rfl, h f c' H1 eN T1 f0 f1 c1⟩
theorem led_ext {H H1 : Hp} {L : Lg} (hL : Led H L) (hn : ∀ x ∈ L, ∀ ps, x.2 ≠ .tbl ps) (e : ExtN H H1) : Led H1 L := ⟨fun x hx => e _ _ (hL.1 x hx) fun ps z => hn x hx ps z, hL.2⟩
theorem led_moreX {H : Hp} : ∀ (as : List Addr) (R : Lg), Led H R → ∃ Z : Lg, Led H (Z ++ R) ∧ ∀ a ∈ as, ∀ o, H a = some o → ∀ H', Led H' (Z ++ R) → H' a = some o
  | [], R, h => ⟨[], h, fun _ h => nomatch h⟩
  | a :: as, R, h => by
    obtain ⟨Z, h1, k1⟩ := led_moreX as R h
    by_cases e : ∃ o, (a, o) ∈ Z ++ R
    · obtain ⟨o, ho⟩ := e
      refine ⟨Z, h1, fun b hb o' hb' H' h' => ?_⟩
      rcases List.mem_cons.mp hb with rfl | hb
      · have := h1.mem ho
        rw [hb'] at this
        cases this
        exact h'.mem ho
      · exact k1 b hb o' hb' H' h'
    · rcases ha : H a with _ | o
      · refine ⟨Z, h1, fun b hb o' hb' H' h' => ?_⟩
        rcases List.mem_cons.mp hb with rfl | hb
        · rw [ha] at hb'; cases hb'
        · exact k1 b hb o' hb' H' h'
      · refine ⟨(a, o) :: Z, ⟨fun x hx => ?_, ?_⟩, fun b hb o' hb' H' h' => ?_⟩
        · rcases List.mem_cons.mp hx with rfl | hx
          · exact ha
          · exact h1.1 x hx
        · rw [List.cons_append, List.map_cons]
          refine List.nodup_cons.mpr ⟨fun hm => ?_, h1.2⟩
          obtain ⟨x, hx, ex⟩ := List.mem_map.mp hm
          exact e ⟨x.2, by
            have ex : x.1 = a := ex
            rw [← ex]; exact hx⟩
        · rcases List.mem_cons.mp hb with rfl | hb
          · rw [ha] at hb'; cases hb'
            exact h'.mem (.head _)
          · exact k1 b hb o' hb' H' h'.tail
end Sd


/-! the head's facts for the end of a law -/
namespace Sd
open PySem PySem.Spec PyProof.Rows L2
theorem fun_ofD {K : PySem.W.Frag} {x qual : Str} {st : Stmt} {f : Addr} {fd : FuncData} (F : FunD K x qual (defArgs st) (defBody st) (defScope st) [] [] f fd) : Fun K x qual st f fd := by
  obtain ⟨oc, od, dV, kV, doc, pm, an, cdv, ct, osl, e, lk, hcd, hD, hK⟩ := F.ex
  rcases hD with ⟨_, rfl⟩ | ⟨ne, _⟩
  · exact ⟨⟨oc, od, kV, doc, pm, an, cdv, ct, osl, e, lk, hcd⟩, F.kp⟩
  · exact absurd rfl ne
/-- a def whose own code is told -/
theorem fun_code {K : PySem.W.Frag} {x qual : Str} {st : Stmt} {p : He.Defn} {fd : FuncData} (F : Fun K x qual st (He.fAd K p) fd) :
    ∃ (oc : Value) (od : Option Addr) (kV doc pm : Value) (an : Option Addr) (ct : Value) (osl : Array (Option Value)),
      fd = PySem.W.fnOf x qual (defArgs st) (defBody st) (defScope st) .none kV doc pm an (.ref (He.cT K p).1) ct ∧ K.lookup (He.fAd K p) = some ⟨oc, od, .func fd, osl⟩ ∧ PySem.W.codeIn K (.ref (He.cT K p).1) qual = true := by
  obtain ⟨oc, od, kV, doc, pm, an, cdv, ct, osl, rfl, lk, hcd⟩ := F.ex
  obtain ⟨c, rfl⟩ := He.codeIn_ref hcd
  have e : (He.cT K p).1 = c := He.codeOf_eq lk rfl
  rw [e]
  exact ⟨oc, od, kV, doc, pm, an, ct, osl, rfl, lk, hcd⟩
theorem fun_codeD {K : PySem.W.Frag} {x qual : Str} {params : Arguments} {body : List Stmt} {scope : Scope} {dvs : List V} {p : He.Defn} {fd : FuncData} (F : FunD K x qual params body scope dvs [] (He.fAd K p) fd) :
    ∃ (oc : Value) (od : Option Addr) (dV kV doc pm : Value) (an : Option Addr) (ct : Value) (osl : Array (Option Value)),
      fd = PySem.W.fnOf x qual params body scope dV kV doc pm an (.ref (He.cT K p).1) ct ∧ K.lookup (He.fAd K p) = some ⟨oc, od, .func fd, osl⟩ ∧ PySem.W.codeIn K (.ref (He.cT K p).1) qual = true := by
  obtain ⟨oc, od, dV, kV, doc, pm, an, cdv, ct, osl, rfl, lk, hcd, hD, hK⟩ := F.ex
  obtain ⟨c, rfl⟩ := He.codeIn_ref hcd
  have e : (He.cT K p).1 = c := He.codeOf_eq lk rfl
  rw [e]
  exact ⟨oc, od, dV, kV, doc, pm, an, ct, osl, rfl, lk, hcd⟩
theorem led3 {H : Hp} {a b c : Addr} {o u v : HO} (h1 : H a = some o) (h2 : H b = some u) (h3 : H c = some v) (n1 : a ≠ b) (n2 : a ≠ c) (n3 : b ≠ c) : Led H [(a, o), (b, u), (c, v)] :=
  ⟨fun x hx => by
    simp only [List.mem_cons, List.not_mem_nil, or_false] at hx
    rcases hx with rfl | rfl | rfl
    · exact h1
    · exact h2
    · exact h3, by simp [n1, n2, n3]⟩
theorem exc_T {K : PySem.W.Frag} {h : Heap} {mg : Str → Option Value} {x : Str} (X : K.In h) (G : h.Ns mainGlobals mg) (c1 : (He.Fa.glo x).ok K = true) (c2 : (He.Fa.exc x).ok K = true) (c3 : PySem.W.isClsIn K (He.ga K x) = true) (c4 : PySem.W.subIn K (.ref (He.ga K x)) (.ref (He.ga K x)) = some true) : ExcT K mg x (He.ga K x) := by
  obtain ⟨e1, e2, e3, e4⟩ := He.exc_ok c2
  exact ⟨He.glo_ok X G c1, e1, e2, e3, e4, c3, c4⟩
end Sd


/-! == and != of data that are equal: lists, tuples and dicts, nested -/
namespace PySem.SeqAt
open AutoSeq1 (wpAny_loadPart')
open MeetsSeq MeetsSeq2 MeetsSeq3 SeqRoads2
theorem sd_tuple_neIn {prog : Program} {w : World} (l b : Addr) (items items2 : Array Value) (n n2 : Nat) (dd dd2 : Option Addr) (sl sl2 : Array (Option Value)) (e : Nat → Bool) :
    MeetsIn prog w (Builtin.«tuple.__ne__» ⟨[.ref l, .ref b], []⟩)
      (fun A R s => s.heap.get? l = some { cls := .type "tuple", dict := dd, data := .seq items n, slots := sl } ∧ s.heap.get? b = some { cls := .type "tuple", dict := dd2, data := .seq items2 n2, slots := sl2 } ∧
        (∀ j (h1 : j < items.size) (h2 : j < items2.size), EqIn prog w A.in1 s items[j] items2[j] (e j)) ∧
        R (.ok (.ret (.bool (!((List.range (min items.size items2.size)).all e && items.size == items2.size))))) s) :=
  .of_wp fun A R s h => by
    obtain ⟨hp, g, d, tk, os⟩ := s; obtain ⟨hl, hb, he, h⟩ := h
    have f2 := AutoSeq1.sub_tuple_tuple
    have hZ : (items.toList.zip items2.toList).length = min items.size items2.size := by simp
    wp_walk using wpAny_loadPart' hl, wpAny_loadPart' hb, wpAny_forIn_list _ (fun rest b s' => b.1 = none ∧ s' = ⟨hp, g, d, tk, os⟩ ∧ ∃ i, rest = (items.toList.zip items2.toList).drop i ∧
      R (.ok (.ret (.bool (!(((List.range (min items.size items2.size)).drop i).all e && items.size == items2.size))))) ⟨hp, g, d, tk, os⟩) _
    case turn =>
      rintro ⟨y, x⟩ rest b s' ⟨hb', rfl, i, hz, hR⟩
      have hlt : i < (items.toList.zip items2.toList).length := by
        rcases Nat.lt_or_ge i (items.toList.zip items2.toList).length with h' | h'
        · exact h'
        · rw [List.drop_of_length_le h'] at hz; cases hz
      have hm : i < min items.size items2.size := hZ ▸ hlt
      have h1 : i < items.size := Nat.lt_of_lt_of_le hm (Nat.min_le_left _ _)
      have h2 : i < items2.size := Nat.lt_of_lt_of_le hm (Nat.min_le_right _ _)
      rw [List.drop_eq_getElem_cons hlt] at hz
      injection hz with hyx hrest
      have hy : y = items[i] := by have := congrArg Prod.fst hyx; simpa using this
      have hx : x = items2[i] := by have := congrArg Prod.snd hyx; simpa using this
      subst hy hx
      have hd : (List.range (min items.size items2.size)).drop i = i :: (List.range (min items.size items2.size)).drop (i + 1) := by simp [List.drop_eq_getElem_cons, hm]
      rw [hd, List.all_cons] at hR
      refine wpAny_bind (he i h1 h2 _ _ ?_)
      cases hy : e i with
      | true =>
        rw [hy] at hR
        wp_walk
        exact ⟨rfl, rfl, i + 1, hrest, by simpa using hR⟩
      | false =>
        rw [hy] at hR
        wp_walk
        exact ⟨_, rfl, by simpa using hR⟩
    case fin =>
      rintro ⟨b1, b2⟩ s' ⟨hb', rfl, i, hz, hR⟩
      simp only at hb'
      subst hb'
      have hge : min items.size items2.size ≤ i := by
        rcases Nat.lt_or_ge i (items.toList.zip items2.toList).length with h' | h'
        · rw [List.drop_eq_getElem_cons h'] at hz; cases hz
        · exact hZ ▸ h'
      rw [List.drop_of_length_le (by simpa using hge)] at hR
      wp_walk
      exact ⟨_, rfl, by simpa [Builtin.Tuple.tupleCompareSizes, bne] using hR⟩
    case h =>
      exact ⟨rfl, rfl, 0, rfl, by simpa using h⟩
theorem sd_rcNeIn_tuples {prog : Program} {w : World} {A : Around} {s : Shared} {E : Value → Shared → Prop} {l b : Addr} {items items2 : Array Value} {e : Nat → Bool} {Q : Value → Shared → Prop} (hl : s.heap.IsTuple l items) (hb : s.heap.IsTuple b items2) (hu : A.units < cLine)
    (he : ∀ j (h1 : j < items.size) (h2 : j < items2.size), EqIn prog w A.in1 s items[j] items2[j] (e j)) (h : Q (.bool (!((List.range (min items.size items2.size)).all e && items.size == items2.size))) s) :
    wpAny (model prog w) A (richCompare .NotEq (.ref l) (.ref b)) Q E s := by
  obtain ⟨⟨cls, dd, data, sl⟩, ho, hc, n, hd⟩ := id hl
  obtain ⟨⟨cls2, dd2, data2, sl2⟩, ho2, hc2, n2, hd2⟩ := id hb
  simp only at hc hd hc2 hd2
  subst hc hd hc2 hd2
  exact wpAny_richCompare_same_room (T := "tuple") (op := .NotEq) ⟨_, ho, rfl⟩ ⟨_, ho2, rfl⟩ F.slot_tuple_ne (call_meetsIn F.slot_tuple_ne ⟨_, ho, rfl⟩ F.entry_tuple_ne (F.args_tuple_ne_2 _ _) (sd_tuple_neIn l b items items2 n n2 dd dd2 sl sl2 e)
    ⟨ho, ho2, he, show Value.bool (!((List.range (min items.size items2.size)).all e && items.size == items2.size)) ≠ Value.notImplemented ∧ Q (.bool (!((List.range (min items.size items2.size)).all e && items.size == items2.size))) s from ⟨(fun x => nomatch x), h⟩⟩) hu
end PySem.SeqAt
namespace Sd
open PySem PySem.Spec PyProof.Rows L2
def EwT (K : PySem.W.Frag) (H : Hp) (E : V → V → Prop) (x y : V) : Prop := ∃ a b xs ys, x = .ref a ∧ y = .ref b ∧ SqT K H a xs ∧ SqT K H b ys ∧ Paired E xs ys
/-- equal, of nesting below n -/
def Ew (K : PySem.W.Frag) (H : Hp) : Nat → V → V → Prop
  | 0 => fun _ _ => False
  | n + 1 => fun x y => (x = y ∧ flatB x = true) ∨ EqR K H (Ew K H n) x y ∨ EwT K H (Ew K H n) x y
section
variable {X : Cx} {pins : List (Addr × Obj)} {σ : L2.St} {H : Hp} {s : Shared}
theorem all_true (n : Nat) : ((List.range n).all fun _ => true) = true := List.all_eq_true.mpr fun _ _ => rfl
theorem ewT_run (I : Inv X pins σ H s) {A : Around} {F : V → V → Prop} (hu : A.units < cLine) (ih : ∀ x y v u, F x y → RelV x v → RelV y u → SeqAt.EqP X.prog X.w A.in1 s v u true) {x y : V} {v u : Value} (h : EwT X.K H F x y) (rx : RelV x v) (ry : RelV y u)
    (E Q : Value → Shared → Prop) (q : Q (.bool true) s) : wpAny (model X.prog X.w) A (richCompare .Eq v u) Q E s := by
  obtain ⟨a, b, xs, ys, rfl, rfl, ha, hb, hp⟩ := h
  cases (show v = Value.ref a from rx)
  cases (show u = Value.ref b from ry)
  obtain ⟨us, r1, p1, _⟩ := I.tuple ha
  obtain ⟨ws, r2, p2, _⟩ := I.tuple hb
  have hsz : us.toArray.size = ws.toArray.size := by
    rw [List.size_toArray, List.size_toArray, ← r1.length, ← r2.length]
    exact Paired.length hp
  refine SeqAt.rcIn_tuples (e := fun _ => true) p1 p2 hu (fun j h1 h2 => ?_) ?_
  · have k := items_run ih hp r1 r2 j (by simpa using h1) (by simpa using h2)
    have k2 : SeqAt.EqIn X.prog X.w A.in1 s _ _ true := k
    simpa using k2
  · rw [all_true, hsz]
    simpa using q
theorem ewT_ne (I : Inv X pins σ H s) {A : Around} {F : V → V → Prop} (hu : A.units < cLine) (ih : ∀ x y v u, F x y → RelV x v → RelV y u → SeqAt.EqP X.prog X.w A.in1 s v u true) {x y : V} {v u : Value} (h : EwT X.K H F x y) (rx : RelV x v) (ry : RelV y u)
    (E Q : Value → Shared → Prop) (q : Q (.bool false) s) : wpAny (model X.prog X.w) A (richCompare .NotEq v u) Q E s := by
  obtain ⟨a, b, xs, ys, rfl, rfl, ha, hb, hp⟩ := h
  cases (show v = Value.ref a from rx)
  cases (show u = Value.ref b from ry)
  obtain ⟨us, r1, p1, _⟩ := I.tuple ha
  obtain ⟨ws, r2, p2, _⟩ := I.tuple hb
  have hsz : us.toArray.size = ws.toArray.size := by
    rw [List.size_toArray, List.size_toArray, ← r1.length, ← r2.length]
    exact Paired.length hp
  refine SeqAt.sd_rcNeIn_tuples (e := fun _ => true) p1 p2 hu (fun j h1 h2 => ?_) ?_
  · have k := items_run ih hp r1 r2 j (by simpa using h1) (by simpa using h2)
    have k2 : SeqAt.EqIn X.prog X.w A.in1 s _ _ true := k
    simpa using k2
  · rw [all_true, hsz]
    simpa using q
theorem ew_run (I : Inv X pins σ H s) : ∀ (n : Nat) (A : Around), A.units + n < cLine → ∀ (x y : V) (v u : Value), Ew X.K H n x y → RelV x v → RelV y u → SeqAt.EqP X.prog X.w A s v u true
  | 0, _, _, _, _, _, _, h, _, _ => (show False from h).elim
  | n + 1, A, hu, x, y, v, u, h, rx, ry => by
    rcases h with ⟨rfl, f⟩ | h | h
    · exact (eqAt_same rx ry f).eqP
    · have step := eqR_run I (A := A) (by omega) (ew_run I n A.in1 (by show A.units + 1 + n < cLine; omega)) h rx ry
      obtain ⟨a, b, rfl, rfl⟩ : ∃ a b, x = .ref a ∧ y = .ref b := by
        rcases h with ⟨a, b, _, _, e1, e2, _⟩ | ⟨a, b, _, _, e1, e2, _⟩
        · exact ⟨a, b, e1, e2⟩
        · exact ⟨a, b, e1, e2⟩
      cases (show v = Value.ref a from rx)
      cases (show u = Value.ref b from ry)
      by_cases e : a = b
      · subst e
        exact (SeqAt.EqAt.same _).eqP
      · exact SeqAt.eqP_refs e step
    · have step := ewT_run I (A := A) (by omega) (ew_run I n A.in1 (by show A.units + 1 + n < cLine; omega)) h rx ry
      obtain ⟨a, b, _, _, rfl, rfl, _⟩ := h
      cases (show v = Value.ref a from rx)
      cases (show u = Value.ref b from ry)
      by_cases e : a = b
      · subst e
        exact (SeqAt.EqAt.same _).eqP
      · exact SeqAt.eqP_refs e step
end
section
variable {X : Cx}
/-- a == b, a != b: two tuples that are equal -/
def rEqW (K : PySem.W.Frag) : R2 := fun x y H Q => ∃ n, n ≤ 60 ∧ EwT K H (Ew K H n) x y ∧ Q (.bl true) H
def rNeW (K : PySem.W.Frag) : R2 := fun x y H Q => ∃ n, n ≤ 60 ∧ EwT K H (Ew K H n) x y ∧ Q (.bl false) H
theorem op_eqW (hu : X.A.units + 64 < cLine) : OpR X (compareOp .Eq) (rEqW X.K) := by
  intro pins s σ H x y v u Q I rx ry h
  obtain ⟨n, hn, h, q⟩ := h
  exact ewT_run I (A := X.A) (by omega) (ew_run I n X.A.in1 (by show X.A.units + 1 + n < cLine; omega)) h rx ry _ _ ⟨.bl true, H, I, rfl, q⟩
theorem op_neW (hu : X.A.units + 64 < cLine) : OpR X (compareOp .NotEq) (rNeW X.K) := by
  intro pins s σ H x y v u Q I rx ry h
  obtain ⟨n, hn, h, q⟩ := h
  exact ewT_ne I (A := X.A) (by omega) (ew_run I n X.A.in1 (by show X.A.units + 1 + n < cLine; omega)) h rx ry _ _ ⟨.bl false, H, I, rfl, q⟩
end
section
variable {K : PySem.W.Frag} {H : Hp} {a b : Addr} {n : Nat}
theorem ew_flat {x : V} (h : flatB x = true) : Ew K H (n + 1) x x := .inl ⟨rfl, h⟩
theorem ew_tup {xs ys : List V} (h1 : H a = some (.tup xs)) (h2 : H b = some (.tup ys)) (h : Paired (Ew K H n) xs ys) : Ew K H (n + 1) (.ref a) (.ref b) := .inr (.inr ⟨_, _, _, _, rfl, rfl, .of h1, .of h2, h⟩)
theorem ew_lst {xs ys : List V} (h1 : H a = some (.lst xs)) (h2 : H b = some (.lst ys)) (h : Paired (Ew K H n) xs ys) : Ew K H (n + 1) (.ref a) (.ref b) := .inr (.inl (.inl ⟨_, _, _, _, rfl, rfl, .of h1, .of h2, h⟩))
theorem ew_dct {ks ls : List (Key × V)} (h1 : H a = some (.dK ks)) (h2 : H b = some (.dK ls)) (hl : ks.length = ls.length) (h : ∀ p ∈ ks, ∃ u, valV ls p.1 = some u ∧ Ew K H n p.2 u) : Ew K H (n + 1) (.ref a) (.ref b) := .inr (.inl (.inr ⟨_, _, _, _, rfl, rfl, h1, h2, hl, h⟩))
theorem ew_flats {xs : List V} (h : ∀ x ∈ xs, flatB x = true) : Paired (Ew K H (n + 1)) xs xs := by
  induction xs with
  | nil => exact .nil
  | cons x xs ih => exact .cons (ew_flat (h x List.mem_cons_self)) (ih fun y hy => h y (List.mem_cons_of_mem _ hy))
end
section
variable {X : Cx}
/-- sorted(t): a tuple of texts, fewer than 64 -/
def rSortedST (K : PySem.W.Frag) : List V → Hp → VK → Prop := fun vs H Q => ∃ (a : Addr) (xs : List Str), vs = [V.ref a] ∧ SqT K H a (xs.map V.str) ∧ xs.length < 64 ∧ ∀ (ys : List Str) (p : Addr), ys.Perm xs → sortedS ys = true → H p = none → Q (.ref p) (upd H p (.lst (ys.map V.str)))
theorem cr_sortedST : CallR X (.builtin "sorted") (rSortedST X.K) := by
  intro pins s σ H vs us Q I r h
  obtain ⟨a, xs, rfl, hs, h64, q⟩ := h
  obtain ⟨its, rv, hl, _⟩ := I.tuple hs
  rw [Vals.ref1 r]
  have hlen0 := rv.length
  rw [List.length_map] at hlen0
  obtain ⟨o, ho, hc, n, hd⟩ := hl
  refine Calls.call_function_entry PyProof.Rows.kind_sorted PyProof.Rows.plain_sorted PyProof.Rows.entry_sorted (PyProof.Rows.args_sorted1 _) ?_
  unfold Builtin.«sorted»
  refine wpAny_bind (m := checkCount "sorted" 1 1 _) (wpAny_pure ?_)
  have h16 : its.length ≤ sizeLine := by rw [← hlen0, sizeLine_eq]; omega
  refine wpAny_bind (wpAny_collect_seq (A := X.A.in1) a (.inr rfl) ho hc hd (fun h' hk => ?_) (by simpa using h16))
  have hS : StrsAre its xs := rv.strs
  have I1 : Inv X pins σ H { s with heap := h' } := I.kept (t' := s.toks) hk
  refine wpAny_bind (wpAny_newList ?_ (by simpa using h16))
  have hoL : (h'.push (seqObj "list" its.toArray 0)).get? h'.objs.size = some (seqObj "list" its.toArray 0) := Heap.get?_push_size _ rfl
  show wpAny _ _ _ _ _ { s with heap := h'.push (seqObj "list" its.toArray 0) }
  refine wpAny_bind (wpAny_holding (wpAny_call_entry PyProof.Rows.slot_list_sort ⟨_, hoL, rfl⟩ PyProof.Rows.entry_list_sort
    (list_sort_treeK strKind_oneLt (s := { s with heap := h'.push (seqObj "list" its.toArray 0) }) hoL hS.keysOf (fun v₁ v₂ rest e => keyKind_strs (by rw [← e]; exact hS)) (by rw [← hlen0]; exact h64) fun st' hp hs => ⟨_, rfl, ?_⟩)
    (PyProof.Rows.args_list_sort _)))
  obtain ⟨ys, g1, g2, g3⟩ := sorted_out_str hS hp hs
  obtain ⟨e', he'⟩ := PyProof.Rows.sortedHeap_at (vs := its) (out := (arrOf st').map (·.2)) hoL
  have hlen : (ys.map V.str).length ≤ sizeLine := by
    rw [List.length_map, g2.length_eq]
    exact Nat.le_trans (Nat.le_of_lt h64) (by decide)
  refine wpAny_pure ⟨_, rfl, .ref h'.objs.size, upd H h'.objs.size (.lst (ys.map V.str)), I1.laid (t' := s.toks) (fun b u e => ?_) (Nat.le_refl _)
    (show ObjOk X.prog X.w _ _ _ (.lst (ys.map V.str)) from ⟨hlen, ((arrOf st').map (·.2)).toList, e', vals_of_strs g1, by rw [Array.toArray_toList]; exact he'⟩), rfl, q ys _ g2 g3 (I1.hok.fresh (Nat.le_refl _))⟩
  have hb : b < h'.objs.size := Heap.lt_size e
  rw [PyProof.Rows.sortedHeap_old (Nat.ne_of_lt hb) (by rw [size_push']; exact Nat.lt_succ_of_lt hb)]
  exact Heap.get?_push_of_some _ e
end
section
variable {X : Cx} {s : Shared} {H : Hp} {scope : Scope} {env : Env} {fp : List Addr}
theorem call_list_ofB : CallR (X.blk s H scope env fp) (.type "list") (fun xs H Q => ∃ p ys, xs = [.ref p] ∧ (SqL X.K H p ys ∨ SqT X.K H p ys) ∧ ∀ l, H l = none → Q (.ref l) (upd H l (.lst ys))) := call_list_of
theorem call_tuple_ofB : CallR (X.blk s H scope env fp) (.type "tuple") (fun xs H Q => ∃ p ys, xs = [.ref p] ∧ ((SqL X.K H p ys ∧ ∀ l, H l = none → Q (.ref l) (upd H l (.tup ys))) ∨ (SqT X.K H p ys ∧ Q (.ref p) H))) := call_tuple_of
theorem cr_sortedSB : CallR (X.blk s H scope env fp) (.builtin "sorted") (rSortedS X.K) := cr_sortedS
theorem cr_sortedSTB : CallR (X.blk s H scope env fp) (.builtin "sorted") (rSortedST X.K) := cr_sortedST
end
section
variable {X : Cx}
theorem op_ne_dictB (hu : X.A.units + 64 < cLine) : OpR X (compareOp .NotEq) rNeDA := op_ne_dictA (by omega)
end
section
variable {K : PySem.W.Frag} {H : Hp} {Q : VK}
theorem k_neW {a b : Addr} {xs ys : List V} (n : Nat) (hn : n ≤ 60) (h1 : H a = some (.tup xs)) (h2 : H b = some (.tup ys)) (h : Paired (Ew K H n) xs ys) (q : Q (.bl false) H) : rNeW K (.ref a) (.ref b) H Q := ⟨n, hn, ⟨_, _, _, _, rfl, rfl, .of h1, .of h2, h⟩, q⟩
theorem k_eqW {a b : Addr} {xs ys : List V} (n : Nat) (hn : n ≤ 60) (h1 : H a = some (.tup xs)) (h2 : H b = some (.tup ys)) (h : Paired (Ew K H n) xs ys) (q : Q (.bl true) H) : rEqW K (.ref a) (.ref b) H Q := ⟨n, hn, ⟨_, _, _, _, rfl, rfl, .of h1, .of h2, h⟩, q⟩
end
end Sd


/-! dict comprehensions: name = {..}; over any walk -/
namespace Sd
open PySem L2
section
variable {X : Cx}
theorem ps_setDc {i : Nat} {y : Str} {py : Pos} {kx vx tg iter : Expr} {ifs : List Expr} {scope : Scope} {own : List (Str × Nat)} {pos spos : Pos} {wi : TI} {g : TG} {tt : TT} {tk tv : L2.TE} (hc : X.calm = true) (hN : X.N.Nodup) (hy : X.N[i]? = some y) (hyl : X.env.scope.names.lookup y = some .local)
    (hsw : swapsWith (.DictComp kx vx [⟨tg, iter, ifs, 0⟩] scope pos) (some (.Name y py)) spos.line X.env = pure true) (hi : PI X tg iter wi) (ok : BlkOk X.N X.env.scope scope own)
    (hg : ∀ (s : Shared) (H : Hp) (C : Addr) (cl : List (Str × Addr)) (fp : List Addr), PG (X.blk s H scope (compEnvC scope cl C X.env) fp) tg g) (ht : ∀ (s : Shared) (H : Hp) (C : Addr) (cl : List (Str × Addr)) (fp : List Addr), PTs (X.blk s H scope (compEnvC scope cl C X.env) fp) ifs tt)
    (hk : ∀ (s : Shared) (H : Hp) (C : Addr) (cl : List (Str × Addr)) (fp : List Addr), PE (X.blk s H scope (compEnvC scope cl C X.env) fp) kx tk)
    (he : ∀ (s : Shared) (H : Hp) (C : Addr) (cl : List (Str × Addr)) (fp : List Addr), PE (X.blk s H scope (compEnvC scope cl C X.env) fp) vx tv) (hs : ∀ x, foldedSetIterable iter X.env x = pure x := by intro _; rfl) :
    PS X (.Assign [.Name y py] (.DictComp kx vx [⟨tg, iter, ifs, 0⟩] scope pos) spos) (tAsg (tDc wi g tt tk tv (own.map (·.2))) (gName i)) := by
  refine ⟨fun pins s σ H D I h => ?_⟩
  rw [exec_Assign_Name_used _ _ _ _ hsw]
  refine wpAny_bind (wpAny_standAt (wpAny_bind ?_))
  show wpAny _ X.A (do let _ ← comprehension (.DictComp kx vx [⟨tg, iter, ifs, 0⟩] scope pos) scope X.env (firstIterPos [⟨tg, iter, ifs, 0⟩] pos) newDict false (eval iter X.env) (some (assign (.Name y py) X.env))) _ _ s
  have h : tDc wi g tt tk tv (own.map (·.2)) σ H (fun x H1 => gName i x σ H1 D.nx) := h
  refine wpAny_bind (thn (dc_core (Qf := fun _ s' => SP X pins D .next s') hc hN I hi ok hg ht hk he hs h fun L C s' m H' I' q hn f => ?_) fun _ s' hq => wpAny_pure (wpAny_pure hq))
  show wpAny _ _ (assign (.Name y py) X.env (.ref L)) _ _ _
  refine wpAny_assign_Name (store_ok2 (v := V.ref L) I' hN hy (.inl hyl) rfl (fun s2 I2 ⟨a, sb, ha⟩ => ?_) (.inr hyl))
  obtain ⟨f0, f1, f2, f3, f4, f5⟩ := f
  have haC : C ≠ a := by
    rcases ha with z | z
    · rw [z]; exact f1
    · exact fun e => f4 y a z e.symm
  refine ⟨m, hn.sameBut sb haC, fun h3 sb3 => ?_⟩
  exact ⟨_, H', I2.turned (t' := s2.toks) (fun b o hb e => (sb3.2 b hb).trans e) f0 f1 f3 f4 f5, q⟩
end
theorem sw_trueD {kx vx : Expr} {gs : List Comprehension} {scope : Scope} {pos py : Pos} {y : Str} {l : Nat} {env : Env} (hk : env.scope.kind = .function) (hy : env.scope.names.lookup y = some .local) (hl : (py.line == pos.line) = true)
    (hn : (scope.names.any fun (n, k) => n == y && (k == .local || k == .cell)) = false) : swapsWith (.DictComp kx vx gs scope pos) (some (.Name y py)) l env = pure true := by
  have ky : env.kindOf y = some .local := hy
  have hb : env.blockKind = .function := by unfold Env.blockKind; rw [hk]; rfl
  unfold swapsWith
  simp only [hb, ky, hn, Expr.pos, hl]
  rfl
section
variable {J : It} {n : Nat} {G : Hp → Prop} {Y : Nat → Hp → V → Hp → Prop}
theorem dc_it (w : Walk J n G Y) {g : TG} {tt : TT} {tk tv : L2.TE} {vs : List Nat} {σ : L2.St} {H1 : Hp} {D : Addr} {Qd : Hp → Prop} (Pv : Nat → Hp → Prop) (h0 : Pv 0 (upd H1 D (.dK []))) (hG : ∀ i H, i ≤ n → Pv i H → G H)
    (hs : ∀ i x H H', i < n → Pv i H → Y i H x H' → g x (wipe σ vs) H' fun σ2 H2 => wipe σ2 vs = wipe σ vs ∧ tt σ2 H2 fun b H3 =>
      if b = true then tk σ2 H3 fun y H4 => tv σ2 H4 fun z H5 => ∃ kvs k, y = kV k ∧ H5 D = some (.dK kvs) ∧ kvs.length < sizeLine ∧ Pv (i + 1) (upd H5 D (.dK (putK kvs k z))) else Pv (i + 1) H3) (hd : ∀ H, Pv n H → Qd H) :
    ∃ W : Nat → Nat → Hp → Prop, (∃ m, W 0 m (upd H1 D (.dK []))) ∧ ∀ i m H, W i m H →
      (J.stop i H ∧ Qd H) ∨ (J.go i H ∧ ∃ Nx : Hp → Prop, (∀ H', Nx H' → ∃ m', m' < m ∧ W (i + 1) m' H') ∧ ∀ x H', J.yld i H x H' → g x (wipe σ vs) H' fun σ2 H2 => wipe σ2 vs = wipe σ vs ∧ tt σ2 H2 fun b H3 =>
        if b = true then tk σ2 H3 fun y H4 => tv σ2 H4 fun z H5 => ∃ kvs k, y = kV k ∧ H5 D = some (.dK kvs) ∧ kvs.length < sizeLine ∧ Nx (upd H5 D (.dK (putK kvs k z))) else Nx H3) := by
  refine ⟨fun i m H => m = n - i ∧ i ≤ n ∧ Pv i H, ⟨n, by simp, Nat.zero_le _, h0⟩, ?_⟩
  rintro i m H ⟨rfl, hi, p⟩
  have q := hG i H hi p
  by_cases hlt : i < n
  · refine .inr ⟨w.goes i H hlt q, Pv (i + 1), fun H' p' => ⟨n - (i + 1), by omega, rfl, hlt, p'⟩, fun x H' y => hs i x H H' hlt p (w.yields i H x H' hlt q y)⟩
  · have e : i = n := by omega
    subst e
    exact .inl ⟨w.stops H q, hd H p⟩
end
end Sd


/-! is True, is False; plain data in a ledger -/
namespace Sd
open PySem PySem.Spec PyProof.Rows L2
section
variable {X : Cx}
/-- x is True, x is False: x a None, a truth, a number, a text, or an object of the heap -/
def isBV (x : V) : Bool := match x with
  | .non | .bl _ | .int _ | .str _ | .ref _ => true
  | _ => false
def rIsB : R2 := fun x y H Q => ∃ b, y = .bl b ∧ isBV x = true ∧ Q (.bl (decide (x = .bl b))) H
theorem op_isB : OpR X (compareOp .Is) rIsB := by
  intro pins s σ H x y v u Q I rx ry h
  obtain ⟨b, rfl, hx, q⟩ := h
  cases (show u = Value.bool b from ry)
  cases x with
  | non => cases (show v = Value.none from rx); exact wpAny_is_other rfl (fun z => nomatch z) ⟨.bl false, H, I, rfl, by simpa using q⟩
  | bl c =>
    cases (show v = Value.bool c from rx)
    by_cases e : c = b
    · subst e; exact wpAny_is_self rfl ⟨.bl true, H, I, rfl, by simpa using q⟩
    · exact wpAny_is_other rfl (fun z => e (Value.bool.inj z)) ⟨.bl false, H, I, rfl, by simpa [e] using q⟩
  | int i => obtain ⟨t, rfl⟩ := (show ∃ t, v = Value.int i t from rx); exact wpAny_is_other rfl (fun z => nomatch z) ⟨.bl false, H, I, rfl, by simpa using q⟩
  | str i => obtain ⟨t, rfl⟩ := (show ∃ t, v = Value.str i t from rx); exact wpAny_is_other rfl (fun z => nomatch z) ⟨.bl false, H, I, rfl, by simpa using q⟩
  | ref a => cases (show v = Value.ref a from rx); exact wpAny_is_other rfl (fun z => nomatch z) ⟨.bl false, H, I, rfl, by simpa using q⟩
  | _ => cases hx
end
/-- plain data: None, truths, numbers, texts, rows -/
inductive Dv where
  | non
  | bl (b : Bool)
  | int (i : Int)
  | str (s : Str)
  | row (ds : List Dv)
mutual
/-- the value v of a ledger reads as d -/
inductive DL (L : Lg) : V → Dv → Prop
  | non : DL L .non .non
  | bl (b : Bool) : DL L (.bl b) (.bl b)
  | int (i : Int) : DL L (.int i) (.int i)
  | str (s : Str) : DL L (.str s) (.str s)
  | row {p : Addr} {xs : List V} {ds : List Dv} (h : (p, .tup xs) ∈ L) (h1 : DLs L xs ds) : DL L (.ref p) (.row ds)
inductive DLs (L : Lg) : List V → List Dv → Prop
  | nil : DLs L [] []
  | cons {x : V} {xs : List V} {d : Dv} {ds : List Dv} (h : DL L x d) (h1 : DLs L xs ds) : DLs L (x :: xs) (d :: ds)
end
mutual
theorem DL.mono {L L' : Lg} (s : ∀ a ∈ L, a ∈ L') : ∀ {v : V} {d : Dv}, DL L v d → DL L' v d
  | _, _, .non => .non
  | _, _, .bl b => .bl b
  | _, _, .int i => .int i
  | _, _, .str x => .str x
  | _, _, .row h h1 => .row (s _ h) (DLs.mono s h1)
theorem DLs.mono {L L' : Lg} (s : ∀ a ∈ L, a ∈ L') : ∀ {v : List V} {d : List Dv}, DLs L v d → DLs L' v d
  | _, _, .nil => .nil
  | _, _, .cons h h1 => .cons (h.mono s) (DLs.mono s h1)
end
theorem DLs.len {L : Lg} : ∀ {xs : List V} {ds : List Dv}, DLs L xs ds → xs.length = ds.length
  | _, _, .nil => rfl
  | _, _, .cons _ h => by rw [List.length_cons, List.length_cons, h.len]
theorem DLs.get {L : Lg} : ∀ {xs : List V} {ds : List Dv} {i : Nat} {x : V}, DLs L xs ds → xs[i]? = some x → ∃ d, ds[i]? = some d ∧ DL L x d
  | _, _, 0, _, .cons h _, e => by
    rw [List.getElem?_cons_zero] at e
    cases e
    exact ⟨_, rfl, h⟩
  | _, _, i + 1, _, .cons _ h, e => by
    rw [List.getElem?_cons_succ] at e
    obtain ⟨d, h1, h2⟩ := h.get e
    exact ⟨d, by rw [List.getElem?_cons_succ]; exact h1, h2⟩
theorem DL.isB {L : Lg} {v : V} {d : Dv} (h : DL L v d) : isBV v = true := by cases h <;> rfl
theorem DL.ty {K : PySem.W.Frag} {H : Hp} {L : Lg} {v : V} {d : Dv} (hL : Led H L) (h : DL L v d) : TyX K H v (match d with | .non => .type "NoneType" | .bl _ => .type "bool" | .int _ => .type "int" | .str _ => .type "str" | .row _ => .type "tuple") := by
  cases h with
  | non => exact .base .non
  | bl b => exact .base (.bl b)
  | int i => exact .base (.int i)
  | str s => exact .base (.str s)
  | row h h1 => exact .base (.tup (hL.mem h))
/-! ### t += u -/
theorem noI_tuple_add : typeLookup (.type "tuple") (dunderI "add") = pure none := by rw [typeLookup_type, builtinLookup_eq_fast]; kernel_rfl
section
variable {prog : Program} {w : World} {A : Around} {E : Value → Shared → Prop} {s : Shared}
theorem icat_tup {t b : Addr} {vs ws : List Value} {Q : Value → Shared → Prop} (ht : IsTup s.heap t vs.toArray) (hb : IsTup s.heap b ws.toArray)
    (h0 : vs = [] → Q (.ref b) s) (h1 : vs ≠ [] → ws = [] → Q (.ref t) s) (h2 : vs ≠ [] → ws ≠ [] → Q (.ref s.heap.objs.size) { s with heap := s.heap.push { cls := .type "tuple", data := .seq (vs ++ ws).toArray } })
    (hsz : vs.length + ws.length ≤ sizeLine) : wpAny (model prog w) A (inplaceOp .Add (.ref t) (.ref b)) Q E s := by
  obtain ⟨⟨cls, dd, data, sl⟩, ho, hc, n, hd⟩ := id ht
  obtain ⟨⟨cls2, dd2, data2, sl2⟩, ho2, hc2, n2, hd2⟩ := id hb
  simp only at hc hd hc2 hd2
  subst hc hd hc2 hd2
  have e : vs.toArray ++ ws.toArray = (vs ++ ws).toArray := by simp
  refine PySem.wpAny_inplaceOp_concat ⟨_, ho, rfl⟩ ⟨_, ho2, rfl⟩ noI_tuple_add noFill_tuple_add seq_tuple_add ?_
  by_cases hv : vs = []
  · exact call_meets PySem.F.slot_tuple_add ⟨_, ho, rfl⟩ PySem.F.entry_tuple_add (PySem.F.args_tuple_add_2 _ _)
      (tuple_addW0 t b vs.toArray ws.toArray n n2 dd dd2 sl sl2 (by simp [hv])) ⟨ho, ho2, h0 hv⟩
  · by_cases hw : ws = []
    · exact call_meets PySem.F.slot_tuple_add ⟨_, ho, rfl⟩ PySem.F.entry_tuple_add (PySem.F.args_tuple_add_2 _ _)
        (tuple_addW1 t b vs.toArray ws.toArray n n2 dd dd2 sl sl2 (by simpa using hv) (by simp [hw])) ⟨ho, ho2, h1 hv hw⟩
    · refine call_meets PySem.F.slot_tuple_add ⟨_, ho, rfl⟩ PySem.F.entry_tuple_add (PySem.F.args_tuple_add_2 _ _)
        (tuple_addW2 t b vs.toArray ws.toArray n n2 dd dd2 sl sl2 (by simpa using hv) (by simpa using hw) (by rw [List.size_toArray, List.size_toArray]; exact hsz)) ⟨ho, ho2, ?_⟩
      rw [e]
      exact h2 hv hw
end
section
variable {X : Cx}
theorem iop_catA : OpR X (inplaceOp .Add) (rCatA X.K) := by
  intro pins s σ H x y v u Q I rx ry h
  obtain ⟨a, b, xs, ys, rfl, rfl, ha, hb, hz, q0, q1, q2⟩ := h
  cases rx
  cases ry
  obtain ⟨its, r1, p1, _⟩ := I.tuple ha
  obtain ⟨its2, r2, p2, _⟩ := I.tuple hb
  refine icat_tup p1 p2 (fun z => ⟨.ref b, H, I, rfl, q0 (r1.nil_iff.mp z)⟩) (fun z1 z => ⟨.ref a, H, I, rfl, q1 (fun w => z1 (r1.nil_iff.mpr w)) (r2.nil_iff.mp z)⟩) (fun z1 z => ?_) (by rw [← r1.length, ← r2.length]; exact hz)
  refine ⟨.ref s.heap.objs.size, _, I.laid (t' := s.toks) (o := .tup (xs ++ ys)) (fun b ob q => Heap.get?_push_of_some _ q) (Nat.le_refl _) ?_, rfl, q2 (fun w => z1 (r1.nil_iff.mpr w)) (fun w => z (r2.nil_iff.mpr w)) _ (I.hok.fresh (Nat.le_refl _))⟩
  exact ⟨by rw [List.length_append]; exact hz, _, r1.append r2, IsTup.new _ _⟩
end
section
variable {K : PySem.W.Frag} {H : Hp} {L : Lg} {a b : Addr} {xs ys : List V} {Q : VK}
/-- t + u, t += u: both are given up for the sum -/
theorem k_catA (hL : Led H ((b, .tup ys) :: (a, .tup xs) :: L)) (hz : xs.length + ys.length ≤ sizeLine) (k : ∀ r H', Led H' ((r, .tup (xs ++ ys)) :: L) → Q (.ref r) H') : rCatA K (.ref a) (.ref b) H Q := by
  refine ⟨a, b, xs, ys, rfl, rfl, .of (hL.at ⟨1, rfl⟩), .of (hL.at ⟨0, rfl⟩), hz, fun e => ?_, fun _ e => ?_, fun _ _ _ hp => ?_⟩
  · subst e; exact k _ _ (hL.sub (.cons_cons _ (.cons _ (.refl _))))
  · subst e; rw [List.append_nil] at k; exact k _ _ hL.tail
  · exact k _ _ ((hL.new hp).sub (.cons_cons _ (.cons _ (.cons _ (.refl _)))))
/-- t + u, both not empty: a new one -/
theorem k_catN (hL : Led H L) (e1 : At L a (.tup xs)) (e2 : At L b (.tup ys)) (hx : xs ≠ []) (hy : ys ≠ []) (hz : xs.length + ys.length ≤ sizeLine) (k : ∀ r H', Led H' ((r, .tup (xs ++ ys)) :: L) → Q (.ref r) H') : rCatA K (.ref a) (.ref b) H Q :=
  ⟨a, b, xs, ys, rfl, rfl, .of (hL.at e1), .of (hL.at e2), hz, fun e => absurd e hx, fun _ e => absurd e hy, fun _ _ _ hp => k _ _ (hL.new hp)⟩
end
end Sd


namespace Sd
open PySem L2
open C8 (Cal Met Mak pe_c pe_mk pe_mt pe_mt0 tCut)
def top (i : Nat) : Stmt := PySem.Challenge.pw_shardstack_k15_disks_that_go_down.main.body.getD i (.Pass ⟨0, 0, 0, 0⟩)
abbrev sDice : Stmt := top 26
abbrev sRoll : Stmt := top 27
abbrev sTold : Stmt := top 29
abbrev sRounds : Stmt := top 28

structure TxtL (mg : Str → Option Value) : Prop where
  abs : mg "abs" = none
  int : mg "int" = none
set_option linter.unusedSimpArgs false
set_option pp.deepTerms false
set_option pp.deepTerms.threshold 12
set_option hygiene false
local macro_rules | `(tactic| fail "nd") => `(tactic| first | assumption | decide +kernel)
local macro_rules | `(tactic| fail "ix") => `(tactic| first | exact ⟨0, rfl⟩ | exact ⟨1, rfl⟩ | exact ⟨2, rfl⟩ | exact ⟨3, rfl⟩ | exact ⟨4, rfl⟩ | exact ⟨5, rfl⟩ | exact ⟨6, rfl⟩ | exact ⟨7, rfl⟩ | exact ⟨8, rfl⟩ | exact ⟨9, rfl⟩ | exact ⟨10, rfl⟩ | exact ⟨11, rfl⟩ | exact ⟨12, rfl⟩ | exact ⟨13, rfl⟩ | exact ⟨14, rfl⟩ | exact ⟨15, rfl⟩ | exact ⟨16, rfl⟩ | exact ⟨17, rfl⟩ | exact ⟨18, rfl⟩ | assumption)
local macro_rules | `(tactic| fail "up") => `(tactic| first | exact ⟨0, rfl, rfl⟩ | exact ⟨1, rfl, rfl⟩ | exact ⟨2, rfl, rfl⟩ | exact ⟨3, rfl, rfl⟩ | exact ⟨4, rfl, rfl⟩ | exact ⟨5, rfl, rfl⟩ | exact ⟨6, rfl, rfl⟩ | exact ⟨7, rfl, rfl⟩ | exact ⟨8, rfl, rfl⟩ | exact ⟨9, rfl, rfl⟩ | exact ⟨10, rfl, rfl⟩ | exact ⟨11, rfl, rfl⟩ | exact ⟨12, rfl, rfl⟩ | exact ⟨13, rfl, rfl⟩ | exact ⟨14, rfl, rfl⟩ | exact ⟨15, rfl, rfl⟩ | exact ⟨16, rfl, rfl⟩ | assumption)
local macro_rules | `(tactic| fail "lkF") => `(tactic| first | assumption | exact fz_at 0 (by fail "nd") rfl rfl | exact fz_at 1 (by fail "nd") rfl rfl | exact fz_at 2 (by fail "nd") rfl rfl | exact fz_at 3 (by fail "nd") rfl rfl | exact fz_at 4 (by fail "nd") rfl rfl | exact fz_at 5 (by fail "nd") rfl rfl | exact fz_at 6 (by fail "nd") rfl rfl | exact fz_at 7 (by fail "nd") rfl rfl)
local macro_rules | `(tactic| fail "lkD") => `(tactic| first | assumption | exact dz_at 0 (by fail "nd") rfl rfl | exact dz_at 1 (by fail "nd") rfl rfl | exact dz_at 2 (by fail "nd") rfl rfl | exact dz_at 3 (by fail "nd") rfl rfl | exact dz_at 4 (by fail "nd") rfl rfl)
local macro_rules | `(tactic| fail "ptF") => `(tactic| first | assumption | exact fz_put 0 (by fail "nd") rfl (Nat.le_of_ble_eq_true rfl) | exact fz_put 1 (by fail "nd") rfl (Nat.le_of_ble_eq_true rfl) | exact fz_put 2 (by fail "nd") rfl (Nat.le_of_ble_eq_true rfl) | exact fz_put 3 (by fail "nd") rfl (Nat.le_of_ble_eq_true rfl) | exact fz_put 4 (by fail "nd") rfl (Nat.le_of_ble_eq_true rfl) | exact fz_put 5 (by fail "nd") rfl (Nat.le_of_ble_eq_true rfl) | exact fz_put 6 (by fail "nd") rfl (Nat.le_of_ble_eq_true rfl) | exact fz_put 7 (by fail "nd") rfl (Nat.le_of_ble_eq_true rfl) | exact fz_new (by decide +kernel) rfl)
local macro_rules | `(tactic| fail "ptD") => `(tactic| first | assumption | exact dz_put 0 (by fail "nd") rfl (Nat.le_of_ble_eq_true rfl) | exact dz_put 1 (by fail "nd") rfl (Nat.le_of_ble_eq_true rfl) | exact dz_put 2 (by fail "nd") rfl (Nat.le_of_ble_eq_true rfl) | exact dz_put 3 (by fail "nd") rfl (Nat.le_of_ble_eq_true rfl) | exact dz_put 4 (by fail "nd") rfl (Nat.le_of_ble_eq_true rfl))
local macro_rules | `(tactic| fail "sz") => `(tactic| first | assumption | exact (Nat.le_of_ble_eq_true rfl) | omega | decide)
local macro_rules | `(tactic| fail "sd") => `(tactic| first | rfl | assumption | decide | omega | (dsimp only; first | decide | omega) | exact .inr ⟨by decide, by decide⟩ | exact .inl ⟨by decide, by decide⟩ | exact ⟨by omega, by omega⟩ | exact .inl ⟨by omega, by omega⟩ | exact .inr ⟨by omega, by omega⟩ | exact ⟨by omega, by omega, by omega⟩)
local macro_rules | `(tactic| fail "cl") => `(tactic| (clear hH; dsimp only [List.set, List.cons_append, List.nil_append, List.append] at hL))
local macro_rules | `(tactic| fail "gn") => `(tactic| (intro p hp; generalize hH : upd H p _ = H; replace hL := Led.newH hL hp hH; clear hH hp))
local macro_rules | `(tactic| fail "gup") => `(tactic| (generalize hH : upd H _ _ = H; replace hL := Led.upU hL (by fail "up") hH; fail "cl"))
local macro_rules | `(tactic| fail "gmk") => `(tactic| (intro x dx hx hd ne; generalize hH : upd (upd H dx _) x _ = H; replace hL := Led.made hL hx hd ne hH; clear hH hx hd ne))
local macro_rules | `(tactic| fail "v") => `(tactic| refine ⟨_, rfl, ?_⟩)
local macro_rules | `(tactic| fail "i2") => `(tactic| refine ⟨_, _, rfl, rfl, ?_⟩)
local macro_rules | `(tactic| fail "go1") => `(tactic| first
  | refine ⟨_, rfl, ?_⟩
  | refine ⟨_, _, rfl, rfl, ?_⟩
  | refine ⟨_, _, rfl, ?_⟩
  | refine iteT ?_
  | refine iteF ?_
  | refine k_fld hL (by fail "ix") (by assumption) (by assumption) (by fail "lkF") ?_
  | refine k_dgetS hL (by fail "ix") (by fail "lkD") ?_
  | refine k_dgetI hL (by fail "ix") (by assumption) ?_
  | refine k_ixL hL (by fail "ix") (by first | rfl | assumption) ?_
  | refine k_ixT hL (by fail "ix") (by first | rfl | assumption) ?_
  | refine k_tyL hL (by fail "ix") ?_
  | refine k_isd hL (by fail "ix") ?_
  | (refine And.intro (by fail "sz") ?_; fail "gn")
  | refine And.intro (by fail "sd") ?_
  | fail "gn"
  | refine k_meth hL (by fail "ix") (by first | assumption | exact fz_no (by decide +kernel)) ?_
  | refine k_gtup hL (by fail "ix") rfl ?_
  | (refine k_popI hL (by fail "ix") (by assumption) ?_; fail "gup")
  | (refine k_listD hL (by fail "ix") ?_; fail "gn")
  | (refine ⟨_, _, _, _, rfl, rfl, hL.at (by fail "ix"), rfl, ?_⟩; fail "gup")
  | (refine ⟨_, _, _, rfl, rfl, hL.at (by fail "ix"), (by fail "sz"), ?_⟩; fail "gup")
  | (refine ⟨_, _, _, _, rfl, hL.at (by fail "ix"), by assumption, by assumption, Nat.lt_of_le_of_lt fz_len (by decide), ?_⟩; generalize hH : upd H _ _ = H; replace hL := Led.upF hL (by fail "up") (by fail "ptF") hH; fail "cl")
  | (refine ⟨_, _, hL.at (by fail "ix"), Nat.lt_of_le_of_lt fz_len (by decide), ?_⟩; generalize hH : upd H _ _ = H; replace hL := Led.upF hL (by fail "up") (by fail "ptF") hH; fail "cl")
  | (refine k_dputS hL (by fail "ix") (Nat.lt_of_le_of_lt dz_len (by decide)) (by fail "ptD") (by fail "up") ?_; clear hL; intro H hL; dsimp only [List.set, List.cons_append, List.nil_append, List.append] at hL)
  | refine k_lenL2 hL (by fail "ix") ?_
  | refine k_lenT2 hL (by fail "ix") ?_
  | refine .inl ⟨_, rfl, ?_⟩
  | refine .inr ⟨_, rfl, ?_⟩)
local macro_rules | `(tactic| fail "go") => `(tactic| repeat fail "go1")
local macro_rules | `(tactic| fail "pm") => `(tactic| (refine Led.le hL (fun a_ => ?_); simp only [cnt_nil, cnt_cons, cnt_app, List.map_append, List.map_cons, List.map_nil, List.flatMap_append, List.flatMap_cons, List.flatMap_nil, List.append_assoc, List.cons_append, List.nil_append]; omega))

def dD (a b c : Int) : HO := .lst [.int a, .int b, .int c]
def spDice : Sp := fun vs H Q _ => ∃ (c : Int) (L : Lg), vs = [.int c] ∧ Led H L ∧ ∀ (a b d : Int) (p : Addr) (H' : Hp), Led H' ((p, dD a b d) :: L) → Q (.ref p) H'
def spRoll : Sp := fun vs H Q _ => ∃ (l : Addr) (a b c m : Int) (R : Lg), vs = [.ref l, .int m] ∧ Led H ((l, dD a b c) :: R) ∧ 1 ≤ m ∧ m ≤ 100000000 ∧
  ∀ (r a' b' c' : Int) (H' : Hp), 0 ≤ r → r < m → Led H' ((l, dD a' b' c') :: R) → Q (.int r) H'
section
variable {P : Program} {w : World} {K : PySem.W.Frag} {mg : Str → Option Value} {base : Heap}
theorem scDice : FnScope ["cell"] ["cell"] (defScope sDice) := ⟨rfl, rfl, rfl, by decide +kernel, rfl, by decide +kernel, by decide +kernel⟩
theorem ok_dice {f : Addr} {fd : FuncData} (F : Fun K "_law_dice" "_law_dice" sDice f fd) (T : TxtL mg) : FnOk P w K mg base CX0 1 f fd ["cell"] spDice := by
  refine F.ok scDice (fun vs H Q E h => ?_) (fun cdv A outer s H vs Q E hr h => ?_)
  · obtain ⟨c, L, rfl, _⟩ := h
    rfl
  · obtain ⟨c, L, rfl, hL, k⟩ := h
    refine ⟨_, pss_cons (ps_if (pt_chain op_lt op_lt (pe_op op_sub pe_int pe_int) (pv 0) pe_int) (pss_one (ps_ret (pe_lst (pa_cons (pe_callB call_abs (by rfl) T.abs (by decide +kernel) (pa_cons (pv 0) pa_nil)) (pa_cons pe_int (pa_cons pe_int pa_nil)))))) pss_nil)
      (pss_one (ps_ret (pe_lst (pa_cons (pv 0) (pa_cons (pe_op op_add pe_int (pe_op op_mod (pe_callTy call_int1 (by rfl) T.int (by decide +kernel) (pa_cons (pv 0) pa_nil)) pe_int)) (pa_cons (pe_callTy call_int1 (by rfl) T.int (by decide +kernel) (pa_cons (pe_cmpR op_ge (pv 0) (pe_op op_pow pe_int pe_int) (nomark _)) pa_nil)) pa_nil)))))), ?_⟩
    fail "go"
    refine ite_d (fun h1 => ?_) (fun h1 => ?_)
    · fail "go"
      refine ite_d (fun h2 => ?_) (fun h2 => ?_)
      · fail "go"
        exact k _ _ _ _ _ hL
      · fail "go"
        exact k _ _ _ _ _ hL
    · fail "go"
      exact k _ _ _ _ _ hL
theorem scRoll : FnScope ["dice", "many", "found"] ["dice", "many"] (defScope sRoll) := ⟨rfl, rfl, rfl, by decide +kernel, rfl, by decide +kernel, by decide +kernel⟩
theorem ok_roll {f : Addr} {fd : FuncData} (F : Fun K "_law_roll" "_law_roll" sRoll f fd) (T : TxtL mg) : FnOk P w K mg base CX0 1 f fd ["dice", "many"] spRoll := by
  refine F.ok scRoll (fun vs H Q E h => ?_) (fun cdv A outer s H vs Q E hr h => ?_)
  · obtain ⟨l, a, b, c, m, R, rfl, _⟩ := h
    rfl
  · obtain ⟨l, a, b, c, m, R, rfl, hL, h1, h2, k⟩ := h
    refine ⟨_, pss_cons (ps_if (PW.pt (pw_or (pt_cmpR op_eq (pe_ix ix_list (pv 0) pe_int (fun _ _ => rfl)) pe_int (nomark _)) (pw_or1 (PW.pt (pw_and (pt_cmpR op_eq (pe_ix ix_list (pv 0) pe_int (fun _ _ => rfl)) pe_int (nomark _)) (pw_and1 (pt_cmpR op_gt (pe_ix ix_list (pv 0) pe_int (fun _ _ => rfl)) pe_int (nomark _))))))))
        (pss_cons (ps_set (i := 2) scRoll.nd rfl (Or.inl rfl) (pe_op op_mod (pe_callTy call_int1 (by rfl) T.int (by decide +kernel) (pa_cons (pe_ix ix_list (pv 0) pe_int (fun _ _ => rfl)) pa_nil)) (pv 1)))
          (pss_cons (ps_asg (pe_op op_fdiv (pe_ix ix_list (pv 0) pe_int (fun _ _ => rfl)) (pv 1)) (pg_sub (pv 0) pe_int set_list)) (pss_one (ps_ret (pv 2)))))
        pss_nil)
      (pss_cons (ps_asg pe_int (pg_sub (pv 0) pe_int set_list))
      (pss_cons (ps_if (pt_cmpR op_gt (pv 1) pe_int (nomark _)) pss_never pss_nil)
      (pss_cons (ps_asg (pe_op op_mod (pe_callTy call_int1 (by rfl) T.int (by decide +kernel) (pa_cons (pe_op op_add (pe_op op_add (pe_op op_mul (pe_ix ix_list (pv 0) pe_int (fun _ _ => rfl)) pe_int) (pe_op op_mul (pe_ix ix_list (pv 0) pe_int (fun _ _ => rfl)) pe_int)) pe_int) pa_nil)) pe_int) (pg_sub (pv 0) pe_int set_list))
      (pss_cons (ps_asg (pe_op op_add (pe_ix ix_list (pv 0) pe_int (fun _ _ => rfl)) pe_int) (pg_sub (pv 0) pe_int set_list))
      (pss_one (ps_ret (pe_op op_mod (pe_callTy call_int1 (by rfl) T.int (by decide +kernel) (pa_cons (pe_op op_fdiv (pe_ix ix_list (pv 0) pe_int (fun _ _ => rfl)) pe_int) pa_nil)) (pv 1)))))))), ?_⟩
    unfold dD at hL
    have hm : ∀ (x b c : Int) (H : Hp), Led H ((l, .lst [.int (x / m), .int b, .int c]) :: R) → Q (.int (x % m)) H := fun x b c H h => k _ _ _ _ _ (Int.emod_nonneg _ (by omega)) (Int.emod_lt_of_pos _ (by omega)) h
    have hd : ∀ (x a b c : Int) (H : Hp), Led H ((l, .lst [.int a, .int b, .int c]) :: R) → Q (.int (x % m)) H := fun x a b c H h => k _ _ _ _ _ (Int.emod_nonneg _ (by omega)) (Int.emod_lt_of_pos _ (by omega)) h
    fail "go"
    refine ite_d (fun q1 => ?_) (fun q1 => ?_)
    · fail "go"
      exact hm _ _ _ _ hL
    · fail "go"
      refine ite_d (fun q2 => ?_) (fun q2 => ?_)
      · fail "go"
        refine ite_d (fun q3 => ?_) (fun q3 => ?_)
        · fail "go"
          exact hm _ _ _ _ hL
        · fail "go"
          refine ite_d (fun q4 => absurd q4 (by omega)) (fun q4 => ?_)
          fail "go"
          exact hd _ _ _ _ _ hL
      · fail "go"
        refine ite_d (fun q4 => absurd q4 (by omega)) (fun q4 => ?_)
        fail "go"
        exact hd _ _ _ _ _ hL
end
/-- script[:1], or [0]: one dice -/
def spRounds (K : PySem.W.Frag) : Sp := fun vs H Q _ => ∃ (a : Addr) (ns : List Int) (L : Lg), vs = [.ref a, .int 1] ∧ SqL K H a (ns.map V.int) ∧ Led H L ∧ ∀ (p d : Addr) (x y z : Int) (H' : Hp), Led H' ((p, .lst [.ref d]) :: (d, dD x y z) :: L) → Q (.ref p) H'
section
variable {P : Program} {w : World} {K : PySem.W.Frag} {mg : Str → Option Value} {base : Heap}
theorem scRounds : FnScope ["script", "most", "cells", "cell"] ["script", "most"] (defScope sRounds) := ⟨rfl, rfl, rfl, by decide +kernel, rfl, by decide +kernel, by decide +kernel⟩
theorem cut_1 (ns : List Int) : cutV (ns.map V.int) none (some 1) = (ns.take 1).map V.int := by
  unfold cutV
  rw [show (some (1 : Int)) = some ((1 : Nat) : Int) from rfl, HT.sIx_nat, HT.sIx_none]
  cases ns <;> simp
theorem ok_rounds {f : Addr} {fd : FuncData} (F : Fun K "_law_rounds" "_law_rounds" sRounds f fd) (c__law_dice : Cal P w K mg base 1 "_law_dice" spDice []) :
    FnOk P w K mg base CX0 2 f fd ["script", "most"] (spRounds K) := by
  refine F.ok scRounds (fun vs H Q E h => ?_) (fun cdv A outer s H vs Q E hr h => ?_)
  · obtain ⟨a, ns, L, rfl, _⟩ := h
    rfl
  · obtain ⟨a, ns, L, rfl, hS, hL, k⟩ := h
    refine ⟨_, (pss_cons (ps_set (i := 2) scRounds.nd rfl (Or.inl rfl) (pe_slice sl_list (pv 0) po_none (po_some (pv 1))))
  (C8.pss_cut (ps_if (pt_cmpR (op_eqP hr.units) (pv 2) (pe_lst pa_nil) (nomark _))
  (pss_one (ps_set (i := 2) scRounds.nd rfl (Or.inl rfl) (pe_lst (pa_cons pe_int pa_nil))))
  pss_nil)
  (pss_one (ps_ret (pe_lc (own := [("cell", 3)]) (g := gName 3) (by rfl) scRounds.nd (pi_list (pv 2)) (blkOk_by (own := [("cell", 3)]) (N := ["script", "most", "cells", "cell"]) (sc := (defScope sRounds)) (by decide +kernel)) (fun _ _ _ _ _ => (pg_name (i := 3) scRounds.nd rfl (Or.inl rfl))) (fun _ _ _ _ _ => pts_nil) (fun _ _ _ _ _ => (pe_c c__law_dice hr (by decide) (by rfl) (pa_cons (pv 3) pa_nil)))))))), ?_⟩
    refine ⟨_, rfl, _, rfl, 1, rfl, a, _, rfl, hS, ?_⟩
    rw [cut_1]
    fail "gn"
    refine ⟨fun σ H => Hold (∃ (a p : Addr) (c : Int) (v3 : Option V), σ = [some (.ref a), some (.int 1), some (.ref p), v3] ∧ Led H ((p, .lst [.int c]) :: L)), ?_, ?_⟩
    · fail "go"
      refine ⟨_, _, dp_lst (hL.at ⟨1, rfl⟩) dp_ints, dp_lst (hL.at ⟨0, rfl⟩) .nil, shal_ints, shal_ints (ns := []), _, rfl, ?_⟩
      refine ite_b (fun h1 => ?_) (fun h1 => ?_)
      · fail "go"
        refine .mk ⟨a, _, 0, _, rfl, ?_⟩
        exact hL.sub (.cons_cons _ ((List.sublist_cons_self _ _).trans (List.sublist_cons_self _ _)))
      · cases ns with
        | nil => simp [PyData.eqv, PyData.eqvAll] at h1
        | cons n ns =>
          fail "go"
          exact .mk ⟨a, _, n, _, rfl, hL.tail⟩
    · intro σ H h
      obtain ⟨a, p, c, v3, rfl, hL⟩ := h.out
      clear h
      refine ⟨_, rfl, p, rfl, ⟨_, .of (hL.at ⟨0, rfl⟩)⟩, fun D hD => lc_list (K := K) (a := p) (xs := [.int c]) (fun i H => Hold ((i = 0 ∧ Led H ((D, .lst []) :: (p, .lst [.int c]) :: L)) ∨ (i = 1 ∧ ∃ (d : Addr) (x y z : Int), Led H ((D, .lst [.ref d]) :: (d, dD x y z) :: (p, .lst [.int c]) :: L)))) ?_ ?_ ?_ ?_⟩
      · exact .mk (.inl ⟨rfl, hL.new hD⟩)
      · intro i H _ h
        rcases h.out with ⟨_, hL⟩ | ⟨_, d, x, y, z, hL⟩
        · exact .of (hL.at ⟨1, rfl⟩)
        · exact .of (hL.at ⟨2, rfl⟩)
      · intro i y H hi h
        rcases h.out with ⟨rfl, hL⟩ | ⟨rfl, d, x, y, z, hL⟩
        · obtain rfl : V.int c = y := Option.some.inj hi
          clear h
          refine ⟨rfl, ?_⟩
          refine k_yes ?_
          refine ⟨_, rfl, c, _, rfl, hL, fun x y z d H hL => ⟨_, hL.at ⟨1, rfl⟩, by decide, ?_⟩⟩
          generalize hH : upd H _ _ = H
          refine .mk (.inr ⟨rfl, d, x, y, z, ?_⟩)
          exact (hL.upU (o' := .lst [.ref d]) ⟨1, rfl, rfl⟩ hH).perm (List.Perm.swap _ _ _)
        · cases hi
      · intro H h
        rcases h.out with ⟨q, _⟩ | ⟨_, d, x, y, z, hL⟩
        · cases q
        · refine k D d x y z _ (hL.sub ?_)
          exact .cons_cons _ (.cons_cons _ (List.sublist_cons_self _ _))
theorem scTold : FnScope ["what"] ["what"] (defScope sTold) := ⟨rfl, rfl, rfl, by decide +kernel, rfl, by decide +kernel, by decide +kernel⟩
theorem ok_told {CE : Addr} {f : Addr} {fd : FuncData} (F : Fun K "_law_told" "_law_told" sTold f fd) (T : ExcT K mg "StoreError" CE) : FnOk P w K mg base CX0 7 f fd ["what"] (spTold P w K mg base 6 CE "StoreError") := by
  refine F.ok scTold (fun vs H Q E h => ?_) (fun cdv A outer s H vs Q E hr h => ?_)
  · obtain ⟨f, F, b, tl, rfl, _⟩ := h
    rfl
  · exact ps_told (by rfl) T.g rfl (Or.inl rfl) (fun _ => rfl) hr h
end
end Sd


set_option linter.unusedVariables false
namespace Sd
open PySem L2
open C8 (Cal Met Mak pe_c pe_mk pe_mt pe_mt0 pss_cut tCut)
set_option linter.unusedSimpArgs false
set_option pp.deepTerms false
set_option pp.deepTerms.threshold 12
set_option hygiene false
local macro_rules | `(tactic| fail "nd") => `(tactic| first | assumption | decide +kernel)
local macro_rules | `(tactic| fail "ix") => `(tactic| first | exact ⟨0, rfl⟩ | exact ⟨1, rfl⟩ | exact ⟨2, rfl⟩ | exact ⟨3, rfl⟩ | exact ⟨4, rfl⟩ | exact ⟨5, rfl⟩ | exact ⟨6, rfl⟩ | exact ⟨7, rfl⟩ | exact ⟨8, rfl⟩ | exact ⟨9, rfl⟩ | exact ⟨10, rfl⟩ | exact ⟨11, rfl⟩ | exact ⟨12, rfl⟩ | exact ⟨13, rfl⟩ | exact ⟨14, rfl⟩ | exact ⟨15, rfl⟩ | exact ⟨16, rfl⟩ | exact ⟨17, rfl⟩ | exact ⟨18, rfl⟩ | assumption)
local macro_rules | `(tactic| fail "up") => `(tactic| first | exact ⟨0, rfl, rfl⟩ | exact ⟨1, rfl, rfl⟩ | exact ⟨2, rfl, rfl⟩ | exact ⟨3, rfl, rfl⟩ | exact ⟨4, rfl, rfl⟩ | exact ⟨5, rfl, rfl⟩ | exact ⟨6, rfl, rfl⟩ | exact ⟨7, rfl, rfl⟩ | exact ⟨8, rfl, rfl⟩ | exact ⟨9, rfl, rfl⟩ | exact ⟨10, rfl, rfl⟩ | exact ⟨11, rfl, rfl⟩ | exact ⟨12, rfl, rfl⟩ | exact ⟨13, rfl, rfl⟩ | exact ⟨14, rfl, rfl⟩ | exact ⟨15, rfl, rfl⟩ | exact ⟨16, rfl, rfl⟩ | assumption)
local macro_rules | `(tactic| fail "lkF") => `(tactic| first | assumption | exact fz_at 0 (by fail "nd") rfl rfl | exact fz_at 1 (by fail "nd") rfl rfl | exact fz_at 2 (by fail "nd") rfl rfl | exact fz_at 3 (by fail "nd") rfl rfl | exact fz_at 4 (by fail "nd") rfl rfl | exact fz_at 5 (by fail "nd") rfl rfl | exact fz_at 6 (by fail "nd") rfl rfl | exact fz_at 7 (by fail "nd") rfl rfl)
local macro_rules | `(tactic| fail "lkD") => `(tactic| first | assumption | exact dz_at 0 (by fail "nd") rfl rfl | exact dz_at 1 (by fail "nd") rfl rfl | exact dz_at 2 (by fail "nd") rfl rfl | exact dz_at 3 (by fail "nd") rfl rfl | exact dz_at 4 (by fail "nd") rfl rfl)
local macro_rules | `(tactic| fail "ptF") => `(tactic| first | assumption | exact fz_put 0 (by fail "nd") rfl (Nat.le_of_ble_eq_true rfl) | exact fz_put 1 (by fail "nd") rfl (Nat.le_of_ble_eq_true rfl) | exact fz_put 2 (by fail "nd") rfl (Nat.le_of_ble_eq_true rfl) | exact fz_put 3 (by fail "nd") rfl (Nat.le_of_ble_eq_true rfl) | exact fz_put 4 (by fail "nd") rfl (Nat.le_of_ble_eq_true rfl) | exact fz_put 5 (by fail "nd") rfl (Nat.le_of_ble_eq_true rfl) | exact fz_put 6 (by fail "nd") rfl (Nat.le_of_ble_eq_true rfl) | exact fz_put 7 (by fail "nd") rfl (Nat.le_of_ble_eq_true rfl) | exact fz_new (by decide +kernel) rfl)
local macro_rules | `(tactic| fail "ptD") => `(tactic| first | assumption | exact dz_put 0 (by fail "nd") rfl (Nat.le_of_ble_eq_true rfl) | exact dz_put 1 (by fail "nd") rfl (Nat.le_of_ble_eq_true rfl) | exact dz_put 2 (by fail "nd") rfl (Nat.le_of_ble_eq_true rfl) | exact dz_put 3 (by fail "nd") rfl (Nat.le_of_ble_eq_true rfl) | exact dz_put 4 (by fail "nd") rfl (Nat.le_of_ble_eq_true rfl))
local macro_rules | `(tactic| fail "sz") => `(tactic| first | assumption | exact (Nat.le_of_ble_eq_true rfl) | omega | decide)
local macro_rules | `(tactic| fail "sd") => `(tactic| first | rfl | assumption | decide | omega | (dsimp only; first | decide | omega) | exact .inr ⟨by decide, by decide⟩ | exact .inl ⟨by decide, by decide⟩ | exact ⟨by omega, by omega⟩ | exact .inl ⟨by omega, by omega⟩ | exact .inr ⟨by omega, by omega⟩ | exact ⟨by omega, by omega, by omega⟩)
local macro_rules | `(tactic| fail "cl") => `(tactic| (clear hH; dsimp only [List.set, List.cons_append, List.nil_append, List.append] at hL))
local macro_rules | `(tactic| fail "gn") => `(tactic| (intro p hp; generalize hH : upd H p _ = H; replace hL := Led.newH hL hp hH; clear hH hp))
local macro_rules | `(tactic| fail "gup") => `(tactic| (generalize hH : upd H _ _ = H; replace hL := Led.upU hL (by fail "up") hH; fail "cl"))
local macro_rules | `(tactic| fail "gmk") => `(tactic| (intro x dx hx hd ne; generalize hH : upd (upd H dx _) x _ = H; replace hL := Led.made hL hx hd ne hH; clear hH hx hd ne))
local macro_rules | `(tactic| fail "v") => `(tactic| refine ⟨_, rfl, ?_⟩)
local macro_rules | `(tactic| fail "i2") => `(tactic| refine ⟨_, _, rfl, rfl, ?_⟩)
local macro_rules | `(tactic| fail "go1") => `(tactic| first
  | refine ⟨_, rfl, ?_⟩
  | refine ⟨_, _, rfl, rfl, ?_⟩
  | refine ⟨_, _, rfl, ?_⟩
  | refine iteT ?_
  | refine iteF ?_
  | refine k_fld hL (by fail "ix") (by assumption) (by assumption) (by fail "lkF") ?_
  | refine k_dgetS hL (by fail "ix") (by fail "lkD") ?_
  | refine k_dgetI hL (by fail "ix") (by assumption) ?_
  | refine k_ixL hL (by fail "ix") (by first | rfl | assumption) ?_
  | refine k_ixT hL (by fail "ix") (by first | rfl | assumption) ?_
  | refine k_tyL hL (by fail "ix") ?_
  | refine k_isd hL (by fail "ix") ?_
  | (refine And.intro (by fail "sz") ?_; fail "gn")
  | refine And.intro (by fail "sd") ?_
  | fail "gn"
  | refine k_meth hL (by fail "ix") (by first | assumption | exact fz_no (by decide +kernel)) ?_
  | refine k_gtup hL (by fail "ix") rfl ?_
  | (refine k_popI hL (by fail "ix") (by assumption) ?_; fail "gup")
  | (refine k_listD hL (by fail "ix") ?_; fail "gn")
  | (refine ⟨_, _, _, _, rfl, rfl, hL.at (by fail "ix"), rfl, ?_⟩; fail "gup")
  | (refine ⟨_, _, _, rfl, rfl, hL.at (by fail "ix"), (by fail "sz"), ?_⟩; fail "gup")
  | (refine ⟨_, _, _, _, rfl, hL.at (by fail "ix"), by assumption, by assumption, Nat.lt_of_le_of_lt fz_len (by decide), ?_⟩; generalize hH : upd H _ _ = H; replace hL := Led.upF hL (by fail "up") (by fail "ptF") hH; fail "cl")
  | (refine ⟨_, _, hL.at (by fail "ix"), Nat.lt_of_le_of_lt fz_len (by decide), ?_⟩; generalize hH : upd H _ _ = H; replace hL := Led.upF hL (by fail "up") (by fail "ptF") hH; fail "cl")
  | (refine k_dputS hL (by fail "ix") (Nat.lt_of_le_of_lt dz_len (by decide)) (by fail "ptD") (by fail "up") ?_; clear hL; intro H hL; dsimp only [List.set, List.cons_append, List.nil_append, List.append] at hL)
  | refine k_lenL2 hL (by fail "ix") ?_
  | refine k_lenT2 hL (by fail "ix") ?_
  | refine .inl ⟨_, rfl, ?_⟩
  | refine .inr ⟨_, rfl, ?_⟩)
local macro_rules | `(tactic| fail "go") => `(tactic| repeat fail "go1")
local macro_rules | `(tactic| fail "pm") => `(tactic| (refine Led.le hL (fun a_ => ?_); simp only [cnt_nil, cnt_cons, cnt_app, List.map_append, List.map_cons, List.map_nil, List.flatMap_append, List.flatMap_cons, List.flatMap_nil, List.append_assoc, List.cons_append, List.nil_append]; omega))

abbrev sNatural : Stmt := top 14
abbrev sPack : Stmt := top 15
abbrev sSignN : Stmt := top 16
abbrev sUnpack : Stmt := top 18
abbrev sSumB : Stmt := top 19
abbrev sFour : Stmt := top 20
abbrev sFrame : Stmt := top 21
abbrev sReadF : Stmt := top 22
/-- line end, and the printable ASCII signs without the percent sign -/
def SIGNS : Str := ⟨(10 :: ((List.range 95).map (· + 32)).filter (· != 37)).toArray⟩
structure TxtW (mg : Str → Option Value) : Prop where
  tuple : mg "tuple" = none
  len : mg "len" = none
  range : mg "range" = none
  isinstance : mg "isinstance" = none
  int : mg "int" = none
  str : mg "str" = none
  g_NONE : ∃ u, mg "NONE" = some u ∧ RelV (.int 1) u
  g_TRUE : ∃ u, mg "TRUE" = some u ∧ RelV (.int 2) u
  g_FALSE : ∃ u, mg "FALSE" = some u ∧ RelV (.int 3) u
  g_NUMBER : ∃ u, mg "NUMBER" = some u ∧ RelV (.int 4) u
  g_BELOW : ∃ u, mg "BELOW" = some u ∧ RelV (.int 5) u
  g_TEXT : ∃ u, mg "TEXT" = some u ∧ RelV (.int 6) u
  g_ROW : ∃ u, mg "ROW" = some u ∧ RelV (.int 7) u
  g_MOST_DEEP : ∃ u, mg "MOST_DEEP" = some u ∧ RelV (.int 30) u
  g_SIGNS : ∃ u, mg "SIGNS" = some u ∧ RelV (.str SIGNS) u
/-- a number's bytes -/
def natB (n : Nat) : List Int := if h : n < 128 then [(n : Int)] else ((128 + n % 128 : Nat) : Int) :: natB (n / 128)
termination_by n
decreasing_by omega
theorem natB_lo {n : Nat} (h : n < 128) : natB n = [(n : Int)] := by rw [natB, dif_pos h]
theorem natB_hi {n : Nat} (h : ¬ n < 128) : natB n = ((128 + n % 128 : Nat) : Int) :: natB (n / 128) := by rw [natB, dif_neg h]
theorem natB_ne {n : Nat} : natB n ≠ [] := by
  by_cases h : n < 128
  · rw [natB_lo h]; exact List.cons_ne_nil _ _
  · rw [natB_hi h]; exact List.cons_ne_nil _ _
/-- a tuple of numbers -/
abbrev tI (bs : List Int) : HO := .tup (bs.map V.int)
def spNatural : Sp := fun vs H Q _ => ∃ (n : Nat) (L : Lg), vs = [.int n] ∧ Led H L ∧ (natB n).length ≤ sizeLine ∧ ∀ r H', Led H' ((r, tI (natB n)) :: L) → Q (.ref r) H'
def spSignN : Sp := fun vs H Q _ => ∃ (c : Str), vs = [.str c] ∧ 0 ≤ Txt.find SIGNS c ∧ Q (.int (Txt.find SIGNS c)) H
def sumStep (ab : Int × Int) (b : Int) : Int × Int := ((ab.1 + b) % 65521, (ab.2 + (ab.1 + b) % 65521) % 65521)
def sumB (bs : List Int) : List Int := let ab := bs.foldl sumStep (1, 0); [ab.2 / 256, ab.2 % 256, ab.1 / 256, ab.1 % 256]
def spSumB : Sp := fun vs H Q _ => ∃ (a : Addr) (bs : List Int) (L : Lg), vs = [.ref a] ∧ Led H L ∧ At L a (tI bs) ∧ ∀ r H', Led H' ((r, tI (sumB bs)) :: L) → Q (.ref r) H'
def fourB (n : Int) : List Int := [n / 16777216 % 256, n / 65536 % 256, n / 256 % 256, n % 256]
def spFour : Sp := fun vs H Q _ => ∃ (n : Int) (L : Lg), vs = [.int n] ∧ Led H L ∧ ∀ r H', Led H' ((r, tI (fourB n)) :: L) → Q (.ref r) H'
section
variable {P : Program} {w : World} {K : PySem.W.Frag} {mg : Str → Option Value} {base : Heap}
theorem scFour : FnScope ["number"] ["number"] (defScope sFour) := ⟨rfl, rfl, rfl, by decide +kernel, rfl, by decide +kernel, by decide +kernel⟩
theorem ok_four {f : Addr} {fd : FuncData} (F : Fun K "four" "four" sFour f fd) : FnOk P w K mg base CX0 1 f fd ["number"] spFour := by
  refine F.ok scFour (fun vs H Q E h => ?_) (fun cdv A outer s H vs Q E hr h => ?_)
  · obtain ⟨n, L, rfl, _⟩ := h
    rfl
  · obtain ⟨n, L, rfl, hL, k⟩ := h
    refine ⟨_, (pss_one (ps_ret (pe_tup (pa_cons (pe_op op_mod (pe_op op_fdiv (pv 0) pe_int) pe_int) (pa_cons (pe_op op_mod (pe_op op_fdiv (pv 0) pe_int) pe_int) (pa_cons (pe_op op_mod (pe_op op_fdiv (pv 0) pe_int) pe_int) (pa_cons (pe_op op_mod (pv 0) pe_int) pa_nil))))))), ?_⟩
    fail "go"
    exact k _ _ hL
theorem scSignN : FnScope ["sign", "place"] ["sign"] (defScope sSignN) := ⟨rfl, rfl, rfl, by decide +kernel, rfl, by decide +kernel, by decide +kernel⟩
theorem ok_signN {f : Addr} {fd : FuncData} (F : Fun K "sign_number" "sign_number" sSignN f fd) (T : TxtW mg) : FnOk P w K mg base CX0 1 f fd ["sign"] spSignN := by
  refine F.ok scSignN (fun vs H Q E h => ?_) (fun cdv A outer s H vs Q E hr h => ?_)
  · obtain ⟨c, rfl, _⟩ := h
    rfl
  · obtain ⟨c, rfl, h0, k⟩ := h
    refine ⟨_, (pss_cons (ps_set (i := 1) scSignN.nd rfl (Or.inl rfl) (pe_bm PySem.F.plainAttrs_str PySem.F.slot_str_find PySem.F.type_str_find mt_find (C8.pe_gc (by rfl) T.g_SIGNS) (pa_cons (pv 0) pa_nil)))
  (pss_cons (ps_if (pt_cmpR op_lt (pv 1) pe_int (nomark _))
  pss_never
  pss_nil)
  (pss_one (ps_ret (pv 1))))), ?_⟩
    fail "go"
    refine ite_d (fun q => absurd q (by omega)) fun q => ?_
    fail "go"
    exact k
theorem scSumB : FnScope ["data", "first", "second", "one"] ["data"] (defScope sSumB) := ⟨rfl, rfl, rfl, by decide +kernel, rfl, by decide +kernel, by decide +kernel⟩
theorem ok_sumB {f : Addr} {fd : FuncData} (F : Fun K "sum_of_bytes" "sum_of_bytes" sSumB f fd) : FnOk P w K mg base CX0 1 f fd ["data"] spSumB := by
  refine F.ok scSumB (fun vs H Q E h => ?_) (fun cdv A outer s H vs Q E hr h => ?_)
  · obtain ⟨a, bs, L, rfl, _⟩ := h
    rfl
  · obtain ⟨a, bs, L, rfl, hL, ha, k⟩ := h
    refine ⟨_, (pss_cons (ps_asg (pe_tup (pa_cons pe_int (pa_cons pe_int pa_nil))) (pg_tup (by rfl) (pgs_cons (pg_name (i := 1) scSumB.nd rfl (Or.inl rfl)) (pgs_cons (pg_name (i := 2) scSumB.nd rfl (Or.inl rfl)) pgs_nil))))
  (pss_cons (ps_for PassesOwn.never rfl (pi_tup (pv 0)) (pg_name (i := 3) scSumB.nd rfl (Or.inl rfl))
  (pss_cons (ps_set (i := 1) scSumB.nd rfl (Or.inl rfl) (pe_op op_mod (pe_op op_add (pv 1) (pv 3)) pe_int))
  (pss_one (ps_set (i := 2) scSumB.nd rfl (Or.inl rfl) (pe_op op_mod (pe_op op_add (pv 2) (pv 1)) pe_int)))))
  (pss_one (ps_ret (pe_tup (pa_cons (pe_op op_fdiv (pv 2) pe_int) (pa_cons (pe_op op_mod (pv 2) pe_int) (pa_cons (pe_op op_fdiv (pv 1) pe_int) (pa_cons (pe_op op_mod (pv 1) pe_int) pa_nil))))))))), ?_⟩
    fail "go"
    refine ⟨⟨_, .of (hL.tail.at ha)⟩, ?_⟩
    refine for_tupA (xs := bs.map V.int) (fun i σ H => Hold (∃ v3, σ = [some (.ref a), some (.int ((bs.take i).foldl sumStep (1, 0)).1), some (.int ((bs.take i).foldl sumStep (1, 0)).2), v3] ∧ Led H L)) (.mk ⟨_, rfl, hL.tail⟩) (fun i σ H _ h => ?_) (fun i x σ H D' hi h hN => ?_) (fun σ H h => ?_)
    · obtain ⟨v3, rfl, hL⟩ := h.out
      exact .of (hL.at ha)
    · obtain ⟨v3, rfl, hL⟩ := h.out
      rw [List.getElem?_map] at hi
      obtain ⟨b, hb, rfl⟩ := Option.map_eq_some_iff.mp hi
      fail "go"
      refine hN.nx _ _ (.mk ⟨some (.int b), ?_, hL⟩)
      rw [List.take_add_one, hb, Option.toList_some, List.foldl_append]
      rfl
    · obtain ⟨v3, rfl, hL⟩ := h.out
      rw [List.length_map, List.take_length] at *
      fail "go"
      exact k _ _ hL
theorem scNatural : FnScope ["number", "found"] ["number"] (defScope sNatural) := ⟨rfl, rfl, rfl, by decide +kernel, rfl, by decide +kernel, by decide +kernel⟩
theorem ok_natural {f : Addr} {fd : FuncData} (F : Fun K "natural" "natural" sNatural f fd) (T : TxtW mg) : FnOk P w K mg base CX0 1 f fd ["number"] spNatural := by
  refine F.ok scNatural (fun vs H Q E h => ?_) (fun cdv A outer s H vs Q E hr h => ?_)
  · obtain ⟨n, L, rfl, _⟩ := h
    rfl
  · obtain ⟨n, L, rfl, hL, hz, k⟩ := h
    refine ⟨_, (pss_cons (ps_set (i := 1) scNatural.nd rfl (Or.inl rfl) (pe_lst pa_nil))
  (pss_cons (ps_while PassesOwn.never (pt_cmpR op_ge (pv 0) pe_int (nomark _))
  (pss_cons (ps_expr (pe_bm PySem.F.plainAttrs_list PySem.F.slot_list_append PySem.F.type_list_append mt_append (pv 1) (pa_cons (pe_op op_add pe_int (pe_op op_mod (pv 0) pe_int)) pa_nil)))
  (pss_one (ps_aug (i := 0) scNatural.nd rfl (Or.inl rfl) pe_int iop_fdiv))))
  (pss_one (ps_ret (pe_op (op_catA) (pe_callTy call_tuple_of (by rfl) T.tuple (by decide +kernel) (pa_cons (pv 1) pa_nil)) (pe_tup (pa_cons (pv 0) pa_nil))))))), ?_⟩
    fail "go"
    refine ⟨fun m σ H => Hold (∃ (acc : List Int), σ = [some (.int (m : Nat)), some (.ref p)] ∧ acc ++ natB m = natB n ∧ Led H ((p, .lst (acc.map .int)) :: L)), ⟨n, .mk ⟨[], rfl, rfl, hL⟩⟩, fun m σ H h => ?_⟩
    clear hL
    obtain ⟨acc, rfl, he, hL⟩ := h.out
    clear h
    fail "go"
    refine ite_d (fun q => ?_) fun q => ?_
    · have hn : ¬ m < 128 := by omega
      rw [natB_hi hn] at he
      refine ⟨fun σ' H' => Hold (∃ (acc : List Int), σ' = [some (.int (m / 128 : Nat)), some (.ref p)] ∧ acc ++ natB (m / 128) = natB n ∧ Led H' ((p, .lst (acc.map .int)) :: L)), fun σ' H' h => ⟨m / 128, by omega, h⟩, ?_⟩
      have hz2 : acc.length < sizeLine := by
        have := congrArg List.length he
        rw [List.length_append, List.length_cons] at this
        omega
      fail "go"
      refine ⟨_, _, _, rfl, rfl, hL.at ⟨0, rfl⟩, by rw [List.length_map]; exact hz2, ?_⟩
      fail "gup"
      fail "go"
      refine .mk ⟨acc ++ [((128 + m % 128 : Nat) : Int)], ?_, ?_, ?_⟩
      · rfl
      · rw [List.append_assoc]; exact he
      · rw [List.map_append]
        exact hL
    · have hn : m < 128 := by omega
      rw [natB_lo hn] at he
      fail "go"
      refine ⟨_, _, rfl, .inl ⟨.of (hL.at ⟨0, rfl⟩), ?_⟩⟩
      fail "gn"
      fail "go"
      have hz2 := congrArg List.length he
      rw [List.length_append, List.length_singleton] at hz2
      refine k_catA (L := L) (hL.sub (.cons_cons _ (.cons_cons _ (.cons _ (.refl _))))) (by rw [List.length_map, List.length_singleton]; omega) fun r H' hL => k _ _ ?_
      rw [← he]
      show Led H' ((r, .tup ((acc ++ [(m : Int)]).map V.int)) :: L)
      rw [List.map_append]
      exact hL
end
end Sd


set_option linter.unusedVariables false
namespace Sd
open PySem L2
open C8 (Cal Met Mak pe_c pe_mk pe_mt pe_mt0 pss_cut tCut)
set_option linter.unusedSimpArgs false
set_option pp.deepTerms false
set_option pp.deepTerms.threshold 12
set_option hygiene false
local macro_rules | `(tactic| fail "nd") => `(tactic| first | assumption | decide +kernel)
local macro_rules | `(tactic| fail "ix") => `(tactic| first | exact ⟨0, rfl⟩ | exact ⟨1, rfl⟩ | exact ⟨2, rfl⟩ | exact ⟨3, rfl⟩ | exact ⟨4, rfl⟩ | exact ⟨5, rfl⟩ | exact ⟨6, rfl⟩ | exact ⟨7, rfl⟩ | exact ⟨8, rfl⟩ | exact ⟨9, rfl⟩ | exact ⟨10, rfl⟩ | exact ⟨11, rfl⟩ | exact ⟨12, rfl⟩ | exact ⟨13, rfl⟩ | exact ⟨14, rfl⟩ | exact ⟨15, rfl⟩ | exact ⟨16, rfl⟩ | exact ⟨17, rfl⟩ | exact ⟨18, rfl⟩ | assumption)
local macro_rules | `(tactic| fail "up") => `(tactic| first | exact ⟨0, rfl, rfl⟩ | exact ⟨1, rfl, rfl⟩ | exact ⟨2, rfl, rfl⟩ | exact ⟨3, rfl, rfl⟩ | exact ⟨4, rfl, rfl⟩ | exact ⟨5, rfl, rfl⟩ | exact ⟨6, rfl, rfl⟩ | exact ⟨7, rfl, rfl⟩ | exact ⟨8, rfl, rfl⟩ | exact ⟨9, rfl, rfl⟩ | exact ⟨10, rfl, rfl⟩ | exact ⟨11, rfl, rfl⟩ | exact ⟨12, rfl, rfl⟩ | exact ⟨13, rfl, rfl⟩ | exact ⟨14, rfl, rfl⟩ | exact ⟨15, rfl, rfl⟩ | exact ⟨16, rfl, rfl⟩ | assumption)
local macro_rules | `(tactic| fail "lkF") => `(tactic| first | assumption | exact fz_at 0 (by fail "nd") rfl rfl | exact fz_at 1 (by fail "nd") rfl rfl | exact fz_at 2 (by fail "nd") rfl rfl | exact fz_at 3 (by fail "nd") rfl rfl | exact fz_at 4 (by fail "nd") rfl rfl | exact fz_at 5 (by fail "nd") rfl rfl | exact fz_at 6 (by fail "nd") rfl rfl | exact fz_at 7 (by fail "nd") rfl rfl)
local macro_rules | `(tactic| fail "lkD") => `(tactic| first | assumption | exact dz_at 0 (by fail "nd") rfl rfl | exact dz_at 1 (by fail "nd") rfl rfl | exact dz_at 2 (by fail "nd") rfl rfl | exact dz_at 3 (by fail "nd") rfl rfl | exact dz_at 4 (by fail "nd") rfl rfl)
local macro_rules | `(tactic| fail "ptF") => `(tactic| first | assumption | exact fz_put 0 (by fail "nd") rfl (Nat.le_of_ble_eq_true rfl) | exact fz_put 1 (by fail "nd") rfl (Nat.le_of_ble_eq_true rfl) | exact fz_put 2 (by fail "nd") rfl (Nat.le_of_ble_eq_true rfl) | exact fz_put 3 (by fail "nd") rfl (Nat.le_of_ble_eq_true rfl) | exact fz_put 4 (by fail "nd") rfl (Nat.le_of_ble_eq_true rfl) | exact fz_put 5 (by fail "nd") rfl (Nat.le_of_ble_eq_true rfl) | exact fz_put 6 (by fail "nd") rfl (Nat.le_of_ble_eq_true rfl) | exact fz_put 7 (by fail "nd") rfl (Nat.le_of_ble_eq_true rfl) | exact fz_new (by decide +kernel) rfl)
local macro_rules | `(tactic| fail "ptD") => `(tactic| first | assumption | exact dz_put 0 (by fail "nd") rfl (Nat.le_of_ble_eq_true rfl) | exact dz_put 1 (by fail "nd") rfl (Nat.le_of_ble_eq_true rfl) | exact dz_put 2 (by fail "nd") rfl (Nat.le_of_ble_eq_true rfl) | exact dz_put 3 (by fail "nd") rfl (Nat.le_of_ble_eq_true rfl) | exact dz_put 4 (by fail "nd") rfl (Nat.le_of_ble_eq_true rfl))
local macro_rules | `(tactic| fail "sz") => `(tactic| first | assumption | exact (Nat.le_of_ble_eq_true rfl) | omega | decide)
local macro_rules | `(tactic| fail "sd") => `(tactic| first | rfl | assumption | decide | omega | (dsimp only; first | decide | omega) | exact .inr ⟨by decide, by decide⟩ | exact .inl ⟨by decide, by decide⟩ | exact ⟨by omega, by omega⟩ | exact .inl ⟨by omega, by omega⟩ | exact .inr ⟨by omega, by omega⟩ | exact ⟨by omega, by omega, by omega⟩)
local macro_rules | `(tactic| fail "cl") => `(tactic| (clear hH; dsimp only [List.set, List.cons_append, List.nil_append, List.append] at hL))
local macro_rules | `(tactic| fail "gn") => `(tactic| (intro p hp; generalize hH : upd H p _ = H; replace hL := Led.newH hL hp hH; clear hH hp))
local macro_rules | `(tactic| fail "gup") => `(tactic| (generalize hH : upd H _ _ = H; replace hL := Led.upU hL (by fail "up") hH; fail "cl"))
local macro_rules | `(tactic| fail "gmk") => `(tactic| (intro x dx hx hd ne; generalize hH : upd (upd H dx _) x _ = H; replace hL := Led.made hL hx hd ne hH; clear hH hx hd ne))
local macro_rules | `(tactic| fail "v") => `(tactic| refine ⟨_, rfl, ?_⟩)
local macro_rules | `(tactic| fail "i2") => `(tactic| refine ⟨_, _, rfl, rfl, ?_⟩)
local macro_rules | `(tactic| fail "go1") => `(tactic| first
  | refine ⟨_, rfl, ?_⟩
  | refine ⟨_, _, rfl, rfl, ?_⟩
  | refine ⟨_, _, rfl, ?_⟩
  | refine iteT ?_
  | refine iteF ?_
  | refine k_fld hL (by fail "ix") (by assumption) (by assumption) (by fail "lkF") ?_
  | refine k_dgetS hL (by fail "ix") (by fail "lkD") ?_
  | refine k_dgetI hL (by fail "ix") (by assumption) ?_
  | refine k_ixL hL (by fail "ix") (by first | rfl | assumption) ?_
  | refine k_ixT hL (by fail "ix") (by first | rfl | assumption) ?_
  | refine k_tyL hL (by fail "ix") ?_
  | refine k_isd hL (by fail "ix") ?_
  | (refine And.intro (by fail "sz") ?_; fail "gn")
  | refine And.intro (by fail "sd") ?_
  | fail "gn"
  | refine k_meth hL (by fail "ix") (by first | assumption | exact fz_no (by decide +kernel)) ?_
  | refine k_gtup hL (by fail "ix") rfl ?_
  | (refine k_popI hL (by fail "ix") (by assumption) ?_; fail "gup")
  | (refine k_listD hL (by fail "ix") ?_; fail "gn")
  | (refine ⟨_, _, _, _, rfl, rfl, hL.at (by fail "ix"), rfl, ?_⟩; fail "gup")
  | (refine ⟨_, _, _, rfl, rfl, hL.at (by fail "ix"), (by fail "sz"), ?_⟩; fail "gup")
  | (refine ⟨_, _, _, _, rfl, hL.at (by fail "ix"), by assumption, by assumption, Nat.lt_of_le_of_lt fz_len (by decide), ?_⟩; generalize hH : upd H _ _ = H; replace hL := Led.upF hL (by fail "up") (by fail "ptF") hH; fail "cl")
  | (refine ⟨_, _, hL.at (by fail "ix"), Nat.lt_of_le_of_lt fz_len (by decide), ?_⟩; generalize hH : upd H _ _ = H; replace hL := Led.upF hL (by fail "up") (by fail "ptF") hH; fail "cl")
  | (refine k_dputS hL (by fail "ix") (Nat.lt_of_le_of_lt dz_len (by decide)) (by fail "ptD") (by fail "up") ?_; clear hL; intro H hL; dsimp only [List.set, List.cons_append, List.nil_append, List.append] at hL)
  | refine k_lenL2 hL (by fail "ix") ?_
  | refine k_lenT2 hL (by fail "ix") ?_
  | refine .inl ⟨_, rfl, ?_⟩
  | refine .inr ⟨_, rfl, ?_⟩)
local macro_rules | `(tactic| fail "go") => `(tactic| repeat fail "go1")
local macro_rules | `(tactic| fail "pm") => `(tactic| (refine Led.le hL (fun a_ => ?_); simp only [cnt_nil, cnt_cons, cnt_app, List.map_append, List.map_cons, List.map_nil, List.flatMap_append, List.flatMap_cons, List.flatMap_nil, List.append_assoc, List.cons_append, List.nil_append]; omega))

def signs (s : Str) : List Int := s.cps.toList.map fun c => Txt.find SIGNS ⟨#[c]⟩
mutual
/-- a value's bytes -/
def packB : Dv → List Int
  | .non => [1]
  | .bl b => [if b = true then 2 else 3]
  | .int i => if 0 ≤ i then 4 :: natB i.toNat else 5 :: natB (0 - i - 1).toNat
  | .str s => 6 :: (natB s.length ++ signs s)
  | .row ds => 7 :: (natB ds.length ++ packsB ds)
def packsB : List Dv → List Int
  | [] => []
  | d :: ds => packB d ++ packsB ds
end
mutual
def deep : Dv → Nat
  | .row ds => deeps ds + 1
  | _ => 0
def deeps : List Dv → Nat
  | [] => 0
  | d :: ds => max (deep d) (deeps ds)
end
/-- a sign of the wire -/
def goodS (c : Nat) : Prop := 0 ≤ Txt.find SIGNS ⟨#[c]⟩ ∧ SIGNS.cps[(Txt.find SIGNS ⟨#[c]⟩).toNat]? = some c
mutual
/-- what can be sent -/
def sendable : Dv → Prop
  | .str s => ∀ c ∈ s.cps.toList, goodS c
  | .row ds => sendables ds
  | _ => True
def sendables : List Dv → Prop
  | [] => True
  | d :: ds => sendable d ∧ sendables ds
end
theorem packB_ne {d : Dv} : packB d ≠ [] := by
  cases d with
  | int i => unfold packB; split <;> exact List.cons_ne_nil _ _
  | _ => unfold packB; exact List.cons_ne_nil _ _
theorem packsB_take {ds : List Dv} {i : Nat} {d : Dv} (h : ds[i]? = some d) : packsB (ds.take (i + 1)) = packsB (ds.take i) ++ packB d := by
  induction ds generalizing i with
  | nil => simp at h
  | cons e r ih =>
    cases i with
    | zero =>
      rw [List.getElem?_cons_zero] at h
      cases h
      simp [packsB]
    | succ i =>
      rw [List.getElem?_cons_succ] at h
      rw [List.take_succ_cons, List.take_succ_cons, packsB, packsB, ih h, List.append_assoc]
theorem packsB_le {ds : List Dv} {i : Nat} : (packsB (ds.take i)).length ≤ (packsB ds).length := by
  induction ds generalizing i with
  | nil => simp
  | cons e r ih =>
    cases i with
    | zero => simp [packsB]
    | succ i =>
      have := ih (i := i)
      rw [List.take_succ_cons, packsB, packsB, List.length_append, List.length_append]
      omega
theorem deeps_get {ds : List Dv} {i : Nat} {d : Dv} (h : ds[i]? = some d) : deep d ≤ deeps ds := by
  induction ds generalizing i with
  | nil => simp at h
  | cons e r ih =>
    rw [deeps]
    cases i with
    | zero =>
      rw [List.getElem?_cons_zero] at h
      cases h
      omega
    | succ i =>
      rw [List.getElem?_cons_succ] at h
      have := ih h
      omega
theorem send_get {ds : List Dv} {i : Nat} {d : Dv} (s : sendables ds) (h : ds[i]? = some d) : sendable d := by
  induction ds generalizing i with
  | nil => simp at h
  | cons e r ih =>
    rw [sendables] at s
    cases i with
    | zero =>
      rw [List.getElem?_cons_zero] at h
      cases h
      exact s.1
    | succ i =>
      rw [List.getElem?_cons_succ] at h
      exact ih s.2 h
def spPack (PN : Addr) (n : Nat) : Sp := fun vs H Q _ => ∃ (v : V) (c : Int) (d : Dv) (ps : Array Value) (L : Lg), vs = [v, .int c] ∧ Led H ((PN, .tbl ps) :: L) ∧ TriplesOk ps.toList ∧ DL L v d ∧ deep d < n ∧ 0 ≤ c ∧ c + deep d ≤ 30 ∧ sendable d ∧ (packB d).length ≤ sizeLine ∧
  ∀ (ps' : Array Value) r H', TriplesOk ps'.toList → Led H' ((r, tI (packB d)) :: (PN, .tbl ps') :: L) → Q (.ref r) H'
theorem Led.tabbed {H H2 : Hp} {P : Addr} {ps : Array Value} {A B : Lg} (h : Led H (A ++ (P, .tbl ps) :: B)) (t : GxR.Tabbed P H H2) : ∃ ps' : Array Value, TriplesOk ps'.toList ∧ Led H2 (A ++ (P, .tbl ps') :: B) := by
  obtain ⟨⟨ps', e, q⟩, k⟩ := t
  refine ⟨ps', q, ?_⟩
  have h1 := h.front.2
  have h2 : P ∉ (A ++ B).map (·.1) := (List.nodup_cons.mp h1).1
  refine Led.back ⟨fun x hx => ?_, h1⟩
  rcases List.mem_cons.mp hx with z | z
  · rw [z]; exact e
  · rw [k x.1 (fun y => h2 (by rw [← y]; exact List.mem_map.mpr ⟨x, z, rfl⟩))]
    exact h.front.1 x (.tail _ z)
section
variable {P : Program} {w : World} {K : PySem.W.Frag} {mg : Str → Option Value} {base : Heap}
theorem scPack : FnScope ["value", "depth", "sign", "found", "part"] ["value", "depth"] (defScope sPack) := ⟨rfl, rfl, rfl, by decide +kernel, rfl, by decide +kernel, by decide +kernel⟩
theorem no_ok {f : Addr} {fd : FuncData} {ps : List Str} {k : Nat} {sp : Sp} (h : ∀ vs H Q E, ¬ sp vs H Q E) : FnOk P w K mg base CX0 k f fd ps sp :=
  ⟨fun vs H Q E z => (h vs H Q E z).elim, fun _ _ _ H _ _ vs Q E _ _ _ _ z => (h vs H Q E z).elim⟩
theorem ok_pack {f c PN : Addr} {oc dV : Value} {od : Option Addr} {osl : Array (Option Value)} {kV doc pm ct : Value} {an : Option Addr} {ds : List Value}
    (lk : K.lookup f = some ⟨oc, od, .func (PySem.W.fnOf "pack" "pack" (defArgs sPack) (defBody sPack) (defScope sPack) dV kV doc pm an (.ref c) ct), osl⟩) (hcd : PySem.W.codeIn K (.ref c) "pack" = true) (TB : GxR.TabB base mg c PN) (T : TxtW mg)
    (hm : mg "pack" = some (.ref f)) (kp : PySem.W.keepIn K (.ref f) = true) (b : Binds K (PySem.W.fnOf "pack" "pack" (defArgs sPack) (defBody sPack) (defScope sPack) dV kV doc pm an (.ref c) ct) ["value", "depth"] [])
    (c_natural : Cal P w K mg base 1 "natural" spNatural []) (c_sign_number : Cal P w K mg base 1 "sign_number" spSignN []) (n : Nat) :
    FnOk P w K mg base CX0 (5 + n) f (PySem.W.fnOf "pack" "pack" (defArgs sPack) (defBody sPack) (defScope sPack) dV kV doc pm an (.ref c) ct) ["value", "depth"] (spPack PN n) := by
  induction n with
  | zero => exact no_ok fun vs H Q E ⟨_, _, _, _, _, _, _, _, _, h, _⟩ => absurd h (Nat.not_lt_zero _)
  | succ n ih =>
    have c_pack_all : Cal P w K mg base (5 + n) "pack" (spPack PN n) [] := ⟨_, _, _, [], ih, hm, kp, b, .nil⟩
    refine fn_of lk hcd scPack (fun vs H Q E h => ?_) fun A outer s H vs Q E hr h => ?_
    · obtain ⟨v, i, d, ps, L, rfl, _⟩ := h
      rfl
    · obtain ⟨v, i, d, ps, L, rfl, hL, ht, hd, hn, h0, h30, hs, hz, k⟩ := h
      replace hr : Room (5 + n) _ := hr
      have hr1 : Room 2 _ := hr.mono (by omega)
      have hr5 : Room 5 _ := hr.mono (by omega)
      refine ⟨_, ((pss_cons (ps_if (pt_cmpR op_gt (pv 1) (C8.pe_gc (by rfl) T.g_MOST_DEEP) (nomark _))
  pss_never
  pss_nil)
  (pss_cons (ps_if (pt_cmpR op_isN (pv 0) pe_non (nomark _))
  (pss_one (ps_ret (pe_tup (pa_cons (C8.pe_gc (by rfl) T.g_NONE) pa_nil))))
  pss_nil)
  (pss_cons (ps_if (PW.pt (pw_or (pt_cmpR op_isB (pv 0) pe_bl (nomark _)) (pw_or1 (pt_cmpR op_isB (pv 0) pe_bl (nomark _)))))
  (pss_one (ps_ret (pe_tup (pa_cons (pe_ifExp (pt_truth (pv 0) (by intro _; rfl)) (C8.pe_gc (by rfl) T.g_TRUE) (C8.pe_gc (by rfl) T.g_FALSE)) pa_nil))))
  pss_nil)
  (pss_cons (ps_if (pt_val (pe_callB call_isi (by rfl) T.isinstance (by decide +kernel) (pa_cons (pv 0) (pa_cons (pe_bltn (v := .ty "int") (by rfl) T.int (show bootBuiltins _ = some (.type "int") by decide +kernel) rfl) pa_nil))))
  (pss_one (ps_ret (pe_ifExp (pt_cmpR op_ge (pv 0) pe_int (nomark _)) (pe_op (op_catA) (pe_tup (pa_cons (C8.pe_gc (by rfl) T.g_NUMBER) pa_nil)) (pe_c c_natural hr (by omega) (by rfl) (pa_cons (pv 0) pa_nil))) (pe_op (op_catA) (pe_tup (pa_cons (C8.pe_gc (by rfl) T.g_BELOW) pa_nil)) (pe_c c_natural hr (by omega) (by rfl) (pa_cons (pe_op op_sub (pe_op op_sub pe_int (pv 0)) pe_int) pa_nil))))))
  pss_nil)
  (pss_cons (ps_if (pt_val (pe_callB call_isi (by rfl) T.isinstance (by decide +kernel) (pa_cons (pv 0) (pa_cons (pe_bltn (v := .ty "str") (by rfl) T.str (show bootBuiltins _ = some (.type "str") by decide +kernel) rfl) pa_nil))))
  (pss_one (ps_ret (pe_op (op_catA) (pe_op (op_catA) (pe_tup (pa_cons (C8.pe_gc (by rfl) T.g_TEXT) pa_nil)) (pe_c c_natural hr (by omega) (by rfl) (pa_cons (pe_callB call_len_str (by rfl) T.len (by decide +kernel) (pa_cons (pv 0) pa_nil)) pa_nil))) (Gx.pe_tupleG (Gx.pgen_gx (own := [("sign", 2)]) (g := gName 2) hr1 TB rfl scPack.nd (pi_str (pv 0)) (Gx.gxOk_by (own := [("sign", 2)]) (N := ["value", "depth", "sign", "found", "part"]) (sc := (defScope sPack)) (by decide +kernel)) (fun _ _ _ _ _ _ _ _ _ => (pg_name (i := 2) scPack.nd rfl (Or.inl rfl))) (fun _ _ _ _ _ _ _ _ hr => pts_nil) (fun _ _ _ _ _ _ _ _ hr => (pe_c c_sign_number hr (by omega) (by rfl) (pa_cons (pv 2) pa_nil))) (fun _ => rfl)) hr5 (by rfl) T.tuple))))
  pss_nil)
  (pss_cons (ps_if (pt_val (pe_callB call_isi (by rfl) T.isinstance (by decide +kernel) (pa_cons (pv 0) (pa_cons (pe_bltn (v := .ty "tuple") (by rfl) T.tuple (show bootBuiltins _ = some (.type "tuple") by decide +kernel) rfl) pa_nil))))
  (pss_cons (ps_set (i := 3) scPack.nd rfl (Or.inl rfl) (pe_op (op_catA) (pe_tup (pa_cons (C8.pe_gc (by rfl) T.g_ROW) pa_nil)) (pe_c c_natural hr (by omega) (by rfl) (pa_cons (pe_callB call_len_seq (by rfl) T.len (by decide +kernel) (pa_cons (pv 0) pa_nil)) pa_nil))))
  (pss_cons (ps_for PassesOwn.never rfl (pi_tup (pv 0)) (pg_name (i := 4) scPack.nd rfl (Or.inl rfl))
  (pss_one (ps_aug (i := 3) scPack.nd rfl (Or.inl rfl) (pe_c c_pack_all hr (by omega) (by rfl) (pa_cons (pv 4) (pa_cons (pe_op op_add (pv 1) pe_int) pa_nil))) iop_catA)))
  (pss_one (ps_ret (pv 3)))))
  pss_nil)
  pss_never))))))).nox, ?_⟩


      fail "go"
      refine ite_d (fun q => absurd q (by omega)) fun _ => ?_
      fail "go"
      cases hd with
      | non =>
        fail "go"
        exact k ps _ _ ht hL
      | bl bb =>
        cases bb with
        | true =>
          fail "go"
          exact k ps _ _ ht hL
        | false =>
          fail "go"
          exact k ps _ _ ht hL
      | int j =>
        fail "go"
        refine ⟨_, _, _, _, true, rfl, .ty _, .base (.int j), kit_ty (by decide +kernel), ?_⟩
        fail "go"
        unfold packB at hz
        refine ite_d (fun hj => ?_) fun hj => ?_
        · rw [if_pos hj] at hz
          fail "go"
          obtain ⟨m, rfl⟩ : ∃ m : Nat, j = m := ⟨j.toNat, by omega⟩
          refine ⟨m, _, rfl, hL, by simp only [List.length_cons, Int.toNat_natCast] at hz; omega, fun r H hL => ?_⟩
          refine k_catA (hL.sub (.refl _)) (by simp only [List.length_cons, List.length_map, Int.toNat_natCast, List.length_nil] at hz ⊢; omega) fun r H hL => k ps _ _ ht ?_
          unfold packB
          rw [if_pos hj]
          exact hL
        · rw [if_neg hj] at hz
          fail "go"
          obtain ⟨m, hm1⟩ : ∃ m : Nat, 0 - j - 1 = m := ⟨(0 - j - 1).toNat, by omega⟩
          rw [hm1] at hz
          refine ⟨m, _, congrArg (fun x => [V.int x]) hm1, hL, by simp only [List.length_cons, Int.toNat_natCast] at hz; omega, fun r H hL => ?_⟩
          refine k_catA (hL.sub (.refl _)) (by simp only [List.length_cons, List.length_map, Int.toNat_natCast, List.length_nil] at hz ⊢; omega) fun r H hL => k ps _ _ ht ?_
          unfold packB
          rw [if_neg hj, hm1]
          exact hL
      | str z =>
        fail "go"
        refine ⟨_, _, _, _, false, rfl, .ty _, .base (.str z), kit_ty (by decide +kernel), ?_⟩
        fail "go"
        refine ⟨_, _, _, _, true, rfl, .ty _, .base (.str z), kit_ty (by decide +kernel), ?_⟩
        fail "go"
        unfold packB at hz
        simp only [List.length_cons, List.length_append] at hz
        have hsz : (signs z).length = z.length := by unfold signs; rw [List.length_map, Array.length_toList]; rfl
        refine ⟨by omega, z.length, _, rfl, hL, by omega, fun r H hL => ?_⟩
        refine k_catA (hL.sub (.refl _)) (by simp only [List.length_cons, List.length_map, List.length_nil]; omega) fun r H hL => ?_
        refine ⟨.str z, rfl, z, rfl, ⟨ps, hL.at ⟨1, rfl⟩, ht⟩, fun H2 hT => ?_⟩
        obtain ⟨ps', ht', hL⟩ := Led.tabbed (A := [_]) hL hT
        dsimp only [List.cons_append, List.nil_append, List.append] at hL
        clear hT
        refine Gx.gx_it (walk_str (z := z)) (fun i out H => Hold (out = ((signs z).take i).map V.int ∧ Led H ((r, .tup ([V.int 6] ++ (natB z.length).map V.int)) :: (PN, .tbl ps') :: L))) (.mk ⟨rfl, hL⟩) (fun i out H _ h => True.intro) (fun i x out H H' hi h hy => ?_) (fun out H h => ?_)
        · obtain ⟨rfl, hL⟩ := h.out
          clear h
          obtain ⟨rfl, ch, hc, rfl⟩ := hy
          have hg : (signs z)[i]? = some (Txt.find SIGNS ⟨#[ch]⟩) := by
            unfold signs
            rw [List.getElem?_map, Array.getElem?_toList, hc]
            rfl
          refine ⟨rfl, k_yes ?_⟩
          refine ⟨_, rfl, ⟨#[ch]⟩, rfl, ?_, ?_⟩
          · unfold sendable at hs
            exact (hs ch (List.mem_of_getElem? (by rw [Array.getElem?_toList]; exact hc))).1
          · refine ⟨?_, .mk ⟨?_, hL⟩⟩
            · rw [List.length_map, List.length_take]
              have : z.cps.size = z.length := rfl
              omega
            · rw [List.take_add_one, hg, Option.toList_some, List.map_append]
              rfl
        · obtain ⟨rfl, hL⟩ := h.out
          clear h
          intro q hq
          generalize hH : upd H q _ = H
          replace hL := Led.newH hL hq hH
          have hall : (signs z).take z.cps.size = signs z := by
            rw [List.take_of_length_le]
            rw [hsz]
            exact Nat.le_refl _
          rw [hall] at hL
          refine k_catA (hL.sub (.refl _)) (by simp only [List.length_cons, List.length_map, List.length_nil, List.length_append]; omega) fun r H hL => k ps' _ _ ht' ?_
          unfold packB
          show Led H ((r, .tup (List.map V.int ((6 :: natB z.length) ++ signs z))) :: _)
          rw [List.map_append]
          exact hL
      | @row pr xs dl hp hxs =>
        fail "go"
        refine ⟨_, _, _, _, false, rfl, .ty _, .base (.tup (hL.mem (.tail _ hp))), kit_ty (by decide +kernel), ?_⟩
        fail "go"
        refine ⟨_, _, _, _, false, rfl, .ty _, .base (.tup (hL.mem (.tail _ hp))), kit_ty (by decide +kernel), ?_⟩
        fail "go"
        refine ⟨_, _, _, _, true, rfl, .ty _, .base (.tup (hL.mem (.tail _ hp))), kit_ty (by decide +kernel), ?_⟩
        fail "go"
        refine ⟨_, _, rfl, .inr (.of (hL.mem (.tail _ (.tail _ hp)))), ?_⟩
        have hln := hxs.len
        unfold packB at hz
        simp only [List.length_cons, List.length_append] at hz
        refine ⟨_, _, congrArg (fun x : Nat => [V.int x]) hln, hL, by omega, fun r H hL => ?_⟩
        refine k_catA (hL.sub (.refl _)) (by simp only [List.length_cons, List.length_map, List.length_nil]; omega) fun r H hL => ?_
        fail "go"
        refine ⟨⟨_, .of (hL.mem (.tail _ (.tail _ hp)))⟩, ?_⟩
        rw [deep] at hn h30
        rw [sendable] at hs
        refine for_tupA (xs := xs) (fun i' σ H => Hold (∃ (v2 v4 : Option V) (r : Addr) (ps : Array Value), σ = [some (.ref pr), some (.int i), v2, some (.ref r), v4] ∧ TriplesOk ps.toList ∧ Led H ((r, tI (7 :: (natB dl.length ++ packsB (dl.take i')))) :: (PN, .tbl ps) :: L))) (.mk ⟨_, _, r, ps, rfl, ht, ?_⟩)
          (fun i' σ H _ h => ?_) (fun i' x σ H D' hi h hN => ?_) (fun σ H h => ?_)
        · rw [List.take_zero, packsB, List.append_nil]
          exact hL
        · obtain ⟨v2, v4, r, ps, rfl, ht, hL⟩ := h.out
          exact .of (hL.mem (.tail _ (.tail _ hp)))
        · clear hL ht
          obtain ⟨v2, v4, r, ps, rfl, ht, hL⟩ := h.out
          clear h
          obtain ⟨d, hdi, hdx⟩ := hxs.get hi
          have q1 := deeps_get hdi
          have q2 := packsB_take hdi
          have q3 := packsB_le (ds := dl) (i := i' + 1)
          rw [q2, List.length_append] at q3
          refine ⟨_, rfl, ?_⟩
          fail "go"
          refine ⟨x, i + 1, d, ps, (r, tI (7 :: (natB dl.length ++ packsB (dl.take i')))) :: L, rfl, hL.perm (List.Perm.swap _ _ _), ht, hdx.mono (fun a h => .tail _ h), by omega, by omega, by omega, send_get hs hdi, by omega, fun ps r2 H ht hL => ?_⟩
          refine k_catA (L := (PN, .tbl ps) :: L) (hL.perm (.cons _ (.swap _ _ _))) (by simp only [List.length_cons, List.length_map, List.length_append]; omega) fun r H hL => ?_
          refine hN.nx _ _ (.mk ⟨v2, some x, r, ps, rfl, ht, ?_⟩)
          rw [q2]
          rw [← List.map_append] at hL
          simpa only [List.append_assoc, List.cons_append] using hL
        · obtain ⟨v2, v4, r, ps, rfl, ht, hL⟩ := h.out
          fail "go"
          refine k ps _ _ ht ?_
          rw [hln, List.take_length] at hL
          unfold packB
          exact hL
end
end Sd


set_option linter.unusedVariables false
namespace Sd
open PySem L2
open C8 (Cal Met Mak pe_c pe_mk pe_mt pe_mt0 pss_cut tCut)
set_option linter.unusedSimpArgs false
set_option pp.deepTerms false
set_option pp.deepTerms.threshold 12
set_option hygiene false
local macro_rules | `(tactic| fail "nd") => `(tactic| first | assumption | decide +kernel)
local macro_rules | `(tactic| fail "ix") => `(tactic| first | exact ⟨0, rfl⟩ | exact ⟨1, rfl⟩ | exact ⟨2, rfl⟩ | exact ⟨3, rfl⟩ | exact ⟨4, rfl⟩ | exact ⟨5, rfl⟩ | exact ⟨6, rfl⟩ | exact ⟨7, rfl⟩ | exact ⟨8, rfl⟩ | exact ⟨9, rfl⟩ | exact ⟨10, rfl⟩ | exact ⟨11, rfl⟩ | exact ⟨12, rfl⟩ | exact ⟨13, rfl⟩ | exact ⟨14, rfl⟩ | exact ⟨15, rfl⟩ | exact ⟨16, rfl⟩ | exact ⟨17, rfl⟩ | exact ⟨18, rfl⟩ | assumption)
local macro_rules | `(tactic| fail "up") => `(tactic| first | exact ⟨0, rfl, rfl⟩ | exact ⟨1, rfl, rfl⟩ | exact ⟨2, rfl, rfl⟩ | exact ⟨3, rfl, rfl⟩ | exact ⟨4, rfl, rfl⟩ | exact ⟨5, rfl, rfl⟩ | exact ⟨6, rfl, rfl⟩ | exact ⟨7, rfl, rfl⟩ | exact ⟨8, rfl, rfl⟩ | exact ⟨9, rfl, rfl⟩ | exact ⟨10, rfl, rfl⟩ | exact ⟨11, rfl, rfl⟩ | exact ⟨12, rfl, rfl⟩ | exact ⟨13, rfl, rfl⟩ | exact ⟨14, rfl, rfl⟩ | exact ⟨15, rfl, rfl⟩ | exact ⟨16, rfl, rfl⟩ | assumption)
local macro_rules | `(tactic| fail "lkF") => `(tactic| first | assumption | exact fz_at 0 (by fail "nd") rfl rfl | exact fz_at 1 (by fail "nd") rfl rfl | exact fz_at 2 (by fail "nd") rfl rfl | exact fz_at 3 (by fail "nd") rfl rfl | exact fz_at 4 (by fail "nd") rfl rfl | exact fz_at 5 (by fail "nd") rfl rfl | exact fz_at 6 (by fail "nd") rfl rfl | exact fz_at 7 (by fail "nd") rfl rfl)
local macro_rules | `(tactic| fail "lkD") => `(tactic| first | assumption | exact dz_at 0 (by fail "nd") rfl rfl | exact dz_at 1 (by fail "nd") rfl rfl | exact dz_at 2 (by fail "nd") rfl rfl | exact dz_at 3 (by fail "nd") rfl rfl | exact dz_at 4 (by fail "nd") rfl rfl)
local macro_rules | `(tactic| fail "ptF") => `(tactic| first | assumption | exact fz_put 0 (by fail "nd") rfl (Nat.le_of_ble_eq_true rfl) | exact fz_put 1 (by fail "nd") rfl (Nat.le_of_ble_eq_true rfl) | exact fz_put 2 (by fail "nd") rfl (Nat.le_of_ble_eq_true rfl) | exact fz_put 3 (by fail "nd") rfl (Nat.le_of_ble_eq_true rfl) | exact fz_put 4 (by fail "nd") rfl (Nat.le_of_ble_eq_true rfl) | exact fz_put 5 (by fail "nd") rfl (Nat.le_of_ble_eq_true rfl) | exact fz_put 6 (by fail "nd") rfl (Nat.le_of_ble_eq_true rfl) | exact fz_put 7 (by fail "nd") rfl (Nat.le_of_ble_eq_true rfl) | exact fz_new (by decide +kernel) rfl)
local macro_rules | `(tactic| fail "ptD") => `(tactic| first | assumption | exact dz_put 0 (by fail "nd") rfl (Nat.le_of_ble_eq_true rfl) | exact dz_put 1 (by fail "nd") rfl (Nat.le_of_ble_eq_true rfl) | exact dz_put 2 (by fail "nd") rfl (Nat.le_of_ble_eq_true rfl) | exact dz_put 3 (by fail "nd") rfl (Nat.le_of_ble_eq_true rfl) | exact dz_put 4 (by fail "nd") rfl (Nat.le_of_ble_eq_true rfl))
local macro_rules | `(tactic| fail "sz") => `(tactic| first | assumption | exact (Nat.le_of_ble_eq_true rfl) | omega | decide)
local macro_rules | `(tactic| fail "sd") => `(tactic| first | rfl | assumption | decide | omega | (dsimp only; first | decide | omega) | exact .inr ⟨by decide, by decide⟩ | exact .inl ⟨by decide, by decide⟩ | exact ⟨by omega, by omega⟩ | exact .inl ⟨by omega, by omega⟩ | exact .inr ⟨by omega, by omega⟩ | exact ⟨by omega, by omega, by omega⟩)
local macro_rules | `(tactic| fail "cl") => `(tactic| (clear hH; dsimp only [List.set, List.cons_append, List.nil_append, List.append] at hL))
local macro_rules | `(tactic| fail "gn") => `(tactic| (intro p hp; generalize hH : upd H p _ = H; replace hL := Led.newH hL hp hH; clear hH hp))
local macro_rules | `(tactic| fail "gup") => `(tactic| (generalize hH : upd H _ _ = H; replace hL := Led.upU hL (by fail "up") hH; fail "cl"))
local macro_rules | `(tactic| fail "gmk") => `(tactic| (intro x dx hx hd ne; generalize hH : upd (upd H dx _) x _ = H; replace hL := Led.made hL hx hd ne hH; clear hH hx hd ne))
local macro_rules | `(tactic| fail "v") => `(tactic| refine ⟨_, rfl, ?_⟩)
local macro_rules | `(tactic| fail "i2") => `(tactic| refine ⟨_, _, rfl, rfl, ?_⟩)
local macro_rules | `(tactic| fail "go1") => `(tactic| first
  | refine ⟨_, rfl, ?_⟩
  | refine ⟨_, _, rfl, rfl, ?_⟩
  | refine ⟨_, _, rfl, ?_⟩
  | refine iteT ?_
  | refine iteF ?_
  | refine k_fld hL (by fail "ix") (by assumption) (by assumption) (by fail "lkF") ?_
  | refine k_dgetS hL (by fail "ix") (by fail "lkD") ?_
  | refine k_dgetI hL (by fail "ix") (by assumption) ?_
  | refine k_ixL hL (by fail "ix") (by first | rfl | assumption) ?_
  | refine k_ixT hL (by fail "ix") (by first | rfl | assumption) ?_
  | refine k_tyL hL (by fail "ix") ?_
  | refine k_isd hL (by fail "ix") ?_
  | (refine And.intro (by fail "sz") ?_; fail "gn")
  | refine And.intro (by fail "sd") ?_
  | fail "gn"
  | refine k_meth hL (by fail "ix") (by first | assumption | exact fz_no (by decide +kernel)) ?_
  | refine k_gtup hL (by fail "ix") rfl ?_
  | (refine k_popI hL (by fail "ix") (by assumption) ?_; fail "gup")
  | (refine k_listD hL (by fail "ix") ?_; fail "gn")
  | (refine ⟨_, _, _, _, rfl, rfl, hL.at (by fail "ix"), rfl, ?_⟩; fail "gup")
  | (refine ⟨_, _, _, rfl, rfl, hL.at (by fail "ix"), (by fail "sz"), ?_⟩; fail "gup")
  | (refine ⟨_, _, _, _, rfl, hL.at (by fail "ix"), by assumption, by assumption, Nat.lt_of_le_of_lt fz_len (by decide), ?_⟩; generalize hH : upd H _ _ = H; replace hL := Led.upF hL (by fail "up") (by fail "ptF") hH; fail "cl")
  | (refine ⟨_, _, hL.at (by fail "ix"), Nat.lt_of_le_of_lt fz_len (by decide), ?_⟩; generalize hH : upd H _ _ = H; replace hL := Led.upF hL (by fail "up") (by fail "ptF") hH; fail "cl")
  | (refine k_dputS hL (by fail "ix") (Nat.lt_of_le_of_lt dz_len (by decide)) (by fail "ptD") (by fail "up") ?_; clear hL; intro H hL; dsimp only [List.set, List.cons_append, List.nil_append, List.append] at hL)
  | refine k_lenL2 hL (by fail "ix") ?_
  | refine k_lenT2 hL (by fail "ix") ?_
  | refine .inl ⟨_, rfl, ?_⟩
  | refine .inr ⟨_, rfl, ?_⟩)
local macro_rules | `(tactic| fail "go") => `(tactic| repeat fail "go1")
local macro_rules | `(tactic| fail "pm") => `(tactic| (refine Led.le hL (fun a_ => ?_); simp only [cnt_nil, cnt_cons, cnt_app, List.map_append, List.map_cons, List.map_nil, List.flatMap_append, List.flatMap_cons, List.flatMap_nil, List.append_assoc, List.cons_append, List.nil_append]; omega))

def inCls (st : Stmt) (i : Nat) : Stmt := (C8.clsBody st).getD i (.Pass ⟨0, 0, 0, 0⟩)
abbrev sUInit : Stmt := inCls (top 17) 0
abbrev sUByte : Stmt := inCls (top 17) 1
abbrev sUNat : Stmt := inCls (top 17) 2
abbrev sUVal : Stmt := inCls (top 17) 3
abbrev sUText : Stmt := inCls (top 17) 4
def frameB (bs : List Int) : List Int := fourB bs.length ++ bs ++ sumB bs
def spFrame (PN : Addr) (n : Nat) : Sp := fun vs H Q _ => ∃ (v : V) (d : Dv) (ps : Array Value) (L : Lg), vs = [v] ∧ Led H ((PN, .tbl ps) :: L) ∧ TriplesOk ps.toList ∧ DL L v d ∧ deep d < n ∧ deep d ≤ 30 ∧ sendable d ∧ (packB d).length + 8 ≤ sizeLine ∧
  ∀ (ps' : Array Value) r H', TriplesOk ps'.toList → Led H' ((r, tI (frameB (packB d))) :: (PN, .tbl ps') :: L) → Q (.ref r) H'
def nmU : List Str := ["data", "place", "nesting"]
/-- the unpacker over the bytes at D -/
def uO (CU u dx D : Addr) (i : Nat) (k : Int) : Addr × HO := (u, .ins CU dx (fz nmU [.ref D, .int i, .int k]))
structure TxtU (K : PySem.W.Frag) (mg : Str → Option Value) (CU : Addr) : Prop where
  cl : Cls K CU
  n : ∀ f ∈ nmU, NoAttr K CU f
def spUInit (CU : Addr) : Sp := fun vs H Q _ => ∃ (u dx D : Addr) (bs : List Int) (L : Lg), vs = [.ref u, .ref D] ∧ Led H ((u, .ins CU dx (fz [] [])) :: L) ∧ At L D (tI bs) ∧ ∀ H', Led H' (uO CU u dx D 0 0 :: L) → Q .non H'
def spUByte (CU : Addr) : Sp := fun vs H Q _ => ∃ (u dx D : Addr) (i : Nat) (k b : Int) (bs : List Int) (L : Lg), vs = [.ref u] ∧ Led H (uO CU u dx D i k :: L) ∧ (D, tI bs) ∈ L ∧ bs[i]? = some b ∧ ∀ H', Led H' (uO CU u dx D (i + 1) k :: L) → Q (.int b) H'
def spUNat (CU : Addr) : Sp := fun vs H Q _ => ∃ (u dx D : Addr) (i : Nat) (k : Int) (n : Nat) (bs rest : List Int) (L : Lg), vs = [.ref u] ∧ Led H (uO CU u dx D i k :: L) ∧ (D, tI bs) ∈ L ∧ bs.drop i = natB n ++ rest ∧
  ∀ H', Led H' (uO CU u dx D (i + (natB n).length) k :: L) → Q (.int n) H'
theorem drop_get {α : Type} {bs rest : List α} {i : Nat} {b : α} (h : bs.drop i = b :: rest) : bs[i]? = some b ∧ bs.drop (i + 1) = rest := by
  constructor
  · have := congrArg (fun l => l[0]?) h
    simpa using this
  · have := congrArg List.tail h
    rw [List.tail_drop] at this
    exact this
section
variable {P : Program} {w : World} {K : PySem.W.Frag} {mg : Str → Option Value} {base : Heap} {CU : Addr}
theorem scFrame : FnScope ["value", "data"] ["value"] (defScope sFrame) := ⟨rfl, rfl, rfl, by decide +kernel, rfl, by decide +kernel, by decide +kernel⟩
theorem ok_frame {f : Addr} {fd : FuncData} {PN : Addr} {n : Nat} (F : Fun K "frame" "frame" sFrame f fd) (T : TxtW mg) (c_pack : Cal P w K mg base (5 + n) "pack" (spPack PN n) [.int 0]) (c_four : Cal P w K mg base 1 "four" spFour []) (c_sum_of_bytes : Cal P w K mg base 1 "sum_of_bytes" spSumB []) :
    FnOk P w K mg base CX0 (6 + n) f fd ["value"] (spFrame PN n) := by
  have e6 : 6 + n = (5 + n) + 1 := by omega
  rw [e6]
  refine F.ok scFrame (fun vs H Q E h => ?_) (fun cdv A outer s H vs Q E hr h => ?_)
  · obtain ⟨v, d, ps, L, rfl, _⟩ := h
    rfl
  · obtain ⟨v, d, ps, L, rfl, hL, ht, hd, hn, h30, hs, hz, k⟩ := h
    refine ⟨_, (pss_cons (ps_set (i := 1) scFrame.nd rfl (Or.inl rfl) (pe_c c_pack hr (by omega) (by rfl) (pa_cons (pv 0) pa_nil)))
  (pss_one (ps_ret (pe_op (op_catA) (pe_op (op_catA) (pe_c c_four hr (by omega) (by rfl) (pa_cons (pe_callB call_len_seq (by rfl) T.len (by decide +kernel) (pa_cons (pv 1) pa_nil)) pa_nil)) (pv 1)) (pe_c c_sum_of_bytes hr (by omega) (by rfl) (pa_cons (pv 1) pa_nil)))))), ?_⟩
    fail "go"
    refine ⟨v, 0, d, ps, L, rfl, hL, ht, hd, hn, Int.le_refl _, by omega, hs, by omega, fun ps r H ht hL => ?_⟩
    fail "go"
    refine ⟨_, _, rfl, hL, fun r4 H hL => ?_⟩
    refine ⟨.ref r, rfl, ?_⟩
    refine k_catN hL ⟨0, rfl⟩ ⟨1, rfl⟩ (by exact List.cons_ne_nil _ _) (by simpa using packB_ne) (by simp only [List.length_map]; unfold fourB; simp only [List.length_cons, List.length_nil]; omega) fun rc H hL => ?_
    fail "go"
    refine ⟨r, packB d, _, rfl, hL, ⟨2, rfl⟩, fun rs H hL => ?_⟩
    refine k_catN hL ⟨1, rfl⟩ ⟨0, rfl⟩ (by simp [fourB]) (by exact List.cons_ne_nil _ _) (by simp only [List.length_map, List.length_append]; unfold fourB sumB; simp only [List.length_cons, List.length_nil]; omega) fun rf H hL => k ps _ _ ht ?_
    unfold frameB tI
    rw [List.map_append, List.map_append]
    rw [List.length_map] at hL
    exact hL.sub (.cons_cons _ (.cons _ (.cons _ (.cons _ (.cons _ (.refl _))))))
theorem scUInit : FnScope ["self", "data"] ["self", "data"] (defScope sUInit) := ⟨rfl, rfl, rfl, by decide +kernel, rfl, by decide +kernel, by decide +kernel⟩
theorem ok_UInit {f : Addr} {fd : FuncData} (F : Fun K "__init__" "Unpacker.__init__" sUInit f fd) (X : TxtU K mg CU) (T : TxtW mg) : FnOk P w K mg base CX0 1 f fd ["self", "data"] (spUInit CU) := by
  refine F.ok scUInit (fun vs H Q E h => ?_) (fun cdv A outer s H vs Q E hr h => ?_)
  · obtain ⟨u, dx, D, bs, L, rfl, _⟩ := h
    rfl
  · obtain ⟨u, dx, D, bs, L, rfl, hL, hD, k⟩ := h
    have c1 := X.cl
    have f1 := X.n "data" (by decide +kernel)
    have f2 := X.n "place" (by decide +kernel)
    have f3 := X.n "nesting" (by decide +kernel)
    refine ⟨_, (pss_cons (ps_fld (pv 0) (pe_callTy call_tuple_of (by rfl) T.tuple (by decide +kernel) (pa_cons (pv 1) pa_nil)) rfl)
  (pss_cons (ps_fld (pv 0) pe_int rfl)
  (pss_one (ps_fld (pv 0) pe_int rfl)))), ?_⟩
    fail "go"
    refine ⟨D, _, rfl, .inr ⟨.of (hL.tail.at hD), ?_⟩⟩
    fail "go"
    exact k _ hL
theorem scUByte : FnScope ["self"] ["self"] (defScope sUByte) := ⟨rfl, rfl, rfl, by decide +kernel, rfl, by decide +kernel, by decide +kernel⟩
theorem ok_UByte {f : Addr} {fd : FuncData} (F : Fun K "byte" "Unpacker.byte" sUByte f fd) (X : TxtU K mg CU) (T : TxtW mg) : FnOk P w K mg base CX0 1 f fd ["self"] (spUByte CU) := by
  refine F.ok scUByte (fun vs H Q E h => ?_) (fun cdv A outer s H vs Q E hr h => ?_)
  · obtain ⟨u, dx, D, i, k, b, bs, L, rfl, _⟩ := h
    rfl
  · obtain ⟨u, dx, D, i, kk, b, bs, L, rfl, hL, hD, hb, k⟩ := h
    have c1 := X.cl
    have f1 := X.n "data" (by decide +kernel)
    have f2 := X.n "place" (by decide +kernel)
    refine ⟨_, (pss_cons (ps_if (pt_cmpR op_ge (pe_fld (pv 0) rfl) (pe_callB call_len_seq (by rfl) T.len (by decide +kernel) (pa_cons (pe_fld (pv 0) rfl) pa_nil)) (nomark _))
  pss_never
  pss_nil)
  (pss_cons (ps_fldaug (pv 0) pe_int in_add)
  (pss_one (ps_ret (pe_ix ix_tup (pe_fld (pv 0) rfl) (pe_op op_sub (pe_fld (pv 0) rfl) pe_int) (fun _ _ => rfl)))))), ?_⟩
    dsimp only [uO] at hL
    fail "go"
    refine ⟨D, _, rfl, .inr (.of (hL.tail.mem hD)), ?_⟩
    fail "go"
    obtain ⟨hb1, hb2⟩ := List.getElem?_eq_some_iff.mp hb
    refine ite_d (fun q => absurd q (by rw [List.length_map]; omega)) fun _ => ?_
    fail "go"
    have e1 : ((i : Int) + 1) - 1 = i := by omega
    refine k_ixT hL (at_mem (.tail _ hD)) (v := .int b) (by rw [e1]; exact atI_nat (by rw [List.getElem?_map, hb]; rfl)) ?_
    fail "go"
    exact k _ hL
end
end Sd


set_option linter.unusedVariables false
namespace Sd
open PySem L2
open C8 (Cal Met Mak pe_c pe_mk pe_mt pe_mt0 pss_cut tCut)
set_option linter.unusedSimpArgs false
set_option pp.deepTerms false
set_option pp.deepTerms.threshold 12
set_option hygiene false
local macro_rules | `(tactic| fail "nd") => `(tactic| first | assumption | decide +kernel)
local macro_rules | `(tactic| fail "ix") => `(tactic| first | exact ⟨0, rfl⟩ | exact ⟨1, rfl⟩ | exact ⟨2, rfl⟩ | exact ⟨3, rfl⟩ | exact ⟨4, rfl⟩ | exact ⟨5, rfl⟩ | exact ⟨6, rfl⟩ | exact ⟨7, rfl⟩ | exact ⟨8, rfl⟩ | exact ⟨9, rfl⟩ | exact ⟨10, rfl⟩ | exact ⟨11, rfl⟩ | exact ⟨12, rfl⟩ | exact ⟨13, rfl⟩ | exact ⟨14, rfl⟩ | exact ⟨15, rfl⟩ | exact ⟨16, rfl⟩ | exact ⟨17, rfl⟩ | exact ⟨18, rfl⟩ | assumption)
local macro_rules | `(tactic| fail "up") => `(tactic| first | exact ⟨0, rfl, rfl⟩ | exact ⟨1, rfl, rfl⟩ | exact ⟨2, rfl, rfl⟩ | exact ⟨3, rfl, rfl⟩ | exact ⟨4, rfl, rfl⟩ | exact ⟨5, rfl, rfl⟩ | exact ⟨6, rfl, rfl⟩ | exact ⟨7, rfl, rfl⟩ | exact ⟨8, rfl, rfl⟩ | exact ⟨9, rfl, rfl⟩ | exact ⟨10, rfl, rfl⟩ | exact ⟨11, rfl, rfl⟩ | exact ⟨12, rfl, rfl⟩ | exact ⟨13, rfl, rfl⟩ | exact ⟨14, rfl, rfl⟩ | exact ⟨15, rfl, rfl⟩ | exact ⟨16, rfl, rfl⟩ | assumption)
local macro_rules | `(tactic| fail "lkF") => `(tactic| first | assumption | exact fz_at 0 (by fail "nd") rfl rfl | exact fz_at 1 (by fail "nd") rfl rfl | exact fz_at 2 (by fail "nd") rfl rfl | exact fz_at 3 (by fail "nd") rfl rfl | exact fz_at 4 (by fail "nd") rfl rfl | exact fz_at 5 (by fail "nd") rfl rfl | exact fz_at 6 (by fail "nd") rfl rfl | exact fz_at 7 (by fail "nd") rfl rfl)
local macro_rules | `(tactic| fail "lkD") => `(tactic| first | assumption | exact dz_at 0 (by fail "nd") rfl rfl | exact dz_at 1 (by fail "nd") rfl rfl | exact dz_at 2 (by fail "nd") rfl rfl | exact dz_at 3 (by fail "nd") rfl rfl | exact dz_at 4 (by fail "nd") rfl rfl)
local macro_rules | `(tactic| fail "ptF") => `(tactic| first | assumption | exact fz_put 0 (by fail "nd") rfl (Nat.le_of_ble_eq_true rfl) | exact fz_put 1 (by fail "nd") rfl (Nat.le_of_ble_eq_true rfl) | exact fz_put 2 (by fail "nd") rfl (Nat.le_of_ble_eq_true rfl) | exact fz_put 3 (by fail "nd") rfl (Nat.le_of_ble_eq_true rfl) | exact fz_put 4 (by fail "nd") rfl (Nat.le_of_ble_eq_true rfl) | exact fz_put 5 (by fail "nd") rfl (Nat.le_of_ble_eq_true rfl) | exact fz_put 6 (by fail "nd") rfl (Nat.le_of_ble_eq_true rfl) | exact fz_put 7 (by fail "nd") rfl (Nat.le_of_ble_eq_true rfl) | exact fz_new (by decide +kernel) rfl)
local macro_rules | `(tactic| fail "ptD") => `(tactic| first | assumption | exact dz_put 0 (by fail "nd") rfl (Nat.le_of_ble_eq_true rfl) | exact dz_put 1 (by fail "nd") rfl (Nat.le_of_ble_eq_true rfl) | exact dz_put 2 (by fail "nd") rfl (Nat.le_of_ble_eq_true rfl) | exact dz_put 3 (by fail "nd") rfl (Nat.le_of_ble_eq_true rfl) | exact dz_put 4 (by fail "nd") rfl (Nat.le_of_ble_eq_true rfl))
local macro_rules | `(tactic| fail "sz") => `(tactic| first | assumption | exact (Nat.le_of_ble_eq_true rfl) | omega | decide)
local macro_rules | `(tactic| fail "sd") => `(tactic| first | rfl | assumption | decide | omega | (dsimp only; first | decide | omega) | exact .inr ⟨by decide, by decide⟩ | exact .inl ⟨by decide, by decide⟩ | exact ⟨by omega, by omega⟩ | exact .inl ⟨by omega, by omega⟩ | exact .inr ⟨by omega, by omega⟩ | exact ⟨by omega, by omega, by omega⟩)
local macro_rules | `(tactic| fail "cl") => `(tactic| (clear hH; dsimp only [List.set, List.cons_append, List.nil_append, List.append] at hL))
local macro_rules | `(tactic| fail "gn") => `(tactic| (intro p hp; generalize hH : upd H p _ = H; replace hL := Led.newH hL hp hH; clear hH hp))
local macro_rules | `(tactic| fail "gup") => `(tactic| (generalize hH : upd H _ _ = H; replace hL := Led.upU hL (by fail "up") hH; fail "cl"))
local macro_rules | `(tactic| fail "gmk") => `(tactic| (intro x dx hx hd ne; generalize hH : upd (upd H dx _) x _ = H; replace hL := Led.made hL hx hd ne hH; clear hH hx hd ne))
local macro_rules | `(tactic| fail "v") => `(tactic| refine ⟨_, rfl, ?_⟩)
local macro_rules | `(tactic| fail "i2") => `(tactic| refine ⟨_, _, rfl, rfl, ?_⟩)
local macro_rules | `(tactic| fail "go1") => `(tactic| first
  | refine ⟨_, rfl, ?_⟩
  | refine ⟨_, _, rfl, rfl, ?_⟩
  | refine ⟨_, _, rfl, ?_⟩
  | refine iteT ?_
  | refine iteF ?_
  | refine k_fld hL (by fail "ix") (by assumption) (by assumption) (by fail "lkF") ?_
  | refine k_dgetS hL (by fail "ix") (by fail "lkD") ?_
  | refine k_dgetI hL (by fail "ix") (by assumption) ?_
  | refine k_ixL hL (by fail "ix") (by first | rfl | assumption) ?_
  | refine k_ixT hL (by fail "ix") (by first | rfl | assumption) ?_
  | refine k_tyL hL (by fail "ix") ?_
  | refine k_isd hL (by fail "ix") ?_
  | (refine And.intro (by fail "sz") ?_; fail "gn")
  | refine And.intro (by fail "sd") ?_
  | fail "gn"
  | refine k_meth hL (by fail "ix") (by first | assumption | exact fz_no (by decide +kernel)) ?_
  | refine k_gtup hL (by fail "ix") rfl ?_
  | (refine k_popI hL (by fail "ix") (by assumption) ?_; fail "gup")
  | (refine k_listD hL (by fail "ix") ?_; fail "gn")
  | (refine ⟨_, _, _, _, rfl, rfl, hL.at (by fail "ix"), rfl, ?_⟩; fail "gup")
  | (refine ⟨_, _, _, rfl, rfl, hL.at (by fail "ix"), (by fail "sz"), ?_⟩; fail "gup")
  | (refine ⟨_, _, _, _, rfl, hL.at (by fail "ix"), by assumption, by assumption, Nat.lt_of_le_of_lt fz_len (by decide), ?_⟩; generalize hH : upd H _ _ = H; replace hL := Led.upF hL (by fail "up") (by fail "ptF") hH; fail "cl")
  | (refine ⟨_, _, hL.at (by fail "ix"), Nat.lt_of_le_of_lt fz_len (by decide), ?_⟩; generalize hH : upd H _ _ = H; replace hL := Led.upF hL (by fail "up") (by fail "ptF") hH; fail "cl")
  | (refine k_dputS hL (by fail "ix") (Nat.lt_of_le_of_lt dz_len (by decide)) (by fail "ptD") (by fail "up") ?_; clear hL; intro H hL; dsimp only [List.set, List.cons_append, List.nil_append, List.append] at hL)
  | refine k_lenL2 hL (by fail "ix") ?_
  | refine k_lenT2 hL (by fail "ix") ?_
  | refine .inl ⟨_, rfl, ?_⟩
  | refine .inr ⟨_, rfl, ?_⟩)
local macro_rules | `(tactic| fail "go") => `(tactic| repeat fail "go1")
local macro_rules | `(tactic| fail "pm") => `(tactic| (refine Led.le hL (fun a_ => ?_); simp only [cnt_nil, cnt_cons, cnt_app, List.map_append, List.map_cons, List.map_nil, List.flatMap_append, List.flatMap_cons, List.flatMap_nil, List.append_assoc, List.cons_append, List.nil_append]; omega))

def spUText (CU : Addr) : Sp := fun vs H Q _ => ∃ (u dx D : Addr) (i : Nat) (k : Int) (z : Str) (bs rest : List Int) (L : Lg), vs = [.ref u] ∧ Led H (uO CU u dx D i k :: L) ∧ (D, tI bs) ∈ L ∧ bs.drop i = natB z.length ++ (signs z ++ rest) ∧ (∀ c ∈ z.cps.toList, goodS c) ∧ z.length ≤ sizeLine ∧
  ∀ H', Led H' (uO CU u dx D (i + ((natB z.length).length + (signs z).length)) k :: L) → Q (.str z) H'
section
variable {P : Program} {w : World} {K : PySem.W.Frag} {mg : Str → Option Value} {base : Heap} {CU : Addr}
theorem scUNat : FnScope ["self", "found", "weight", "one"] ["self"] (defScope sUNat) := ⟨rfl, rfl, rfl, by decide +kernel, rfl, by decide +kernel, by decide +kernel⟩
theorem ok_UNat {f : Addr} {fd : FuncData} (F : Fun K "read_natural" "Unpacker.read_natural" sUNat f fd) (X : TxtU K mg CU) (c_Unpacker_byte : Met P w K mg base 1 CU "byte" (spUByte CU) []) : FnOk P w K mg base CX0 2 f fd ["self"] (spUNat CU) := by
  refine F.ok scUNat (fun vs H Q E h => ?_) (fun cdv A outer s H vs Q E hr h => ?_)
  · obtain ⟨u, dx, D, i, k, n, bs, rest, L, rfl, _⟩ := h
    rfl
  · obtain ⟨u, dx, D, i, kk, n, bs, rest, L, rfl, hL, hD, hb, k⟩ := h
    have c1 := X.cl
    refine ⟨_, (pss_cons (ps_asg (pe_tup (pa_cons pe_int (pa_cons pe_int pa_nil))) (pg_tup (by rfl) (pgs_cons (pg_name (i := 1) scUNat.nd rfl (Or.inl rfl)) (pgs_cons (pg_name (i := 2) scUNat.nd rfl (Or.inl rfl)) pgs_nil))))
  (pss_one (ps_while PassesOwn.never (pt_val pe_bl)
  (pss_cons (ps_set (i := 3) scUNat.nd rfl (Or.inl rfl) (pe_mt0 c_Unpacker_byte hr (by decide) (pv 0)))
  (pss_cons (ps_aug (i := 1) scUNat.nd rfl (Or.inl rfl) (pe_op op_mul (pe_op op_mod (pv 3) pe_int) (pv 2)) ip_add)
  (pss_cons (ps_aug (i := 2) scUNat.nd rfl (Or.inl rfl) pe_int iop_mul)
  (pss_one (ps_if (pt_cmpR op_lt (pv 3) pe_int (nomark _))
  (pss_cons (ps_if (PW.pt (pw_and (pt_cmpR op_eq (pv 3) pe_int (nomark _)) (pw_and1 (pt_cmpR op_gt (pv 2) pe_int (nomark _)))))
  pss_never
  pss_nil)
  (pss_one (ps_ret (pv 1))))
  pss_nil)))))))), ?_⟩
    fail "go"
    replace hL := hL.tail
    refine ⟨fun m σ H => Hold (∃ (v3 : Option V) (a wt : Nat) (i' : Nat) , σ = [some (.ref u), some (.int a), some (.int wt), v3] ∧ a + wt * m = n ∧ (wt = 1 ∨ (128 ≤ wt ∧ 1 ≤ m)) ∧ bs.drop i' = natB m ++ rest ∧ i' + (natB m).length = i + (natB n).length ∧ Led H (uO CU u dx D i' kk :: L)), ⟨n, .mk ⟨none, 0, 1, i, rfl, by omega, .inl rfl, hb, rfl, hL⟩⟩, fun m σ H h => ?_⟩
    clear hL
    obtain ⟨v3, a, wt, i', rfl, ha, hw, hb, hi, hL⟩ := h.out
    clear h
    fail "go"
    refine ⟨fun σ' H' => Hold (128 ≤ m ∧ ∃ (v3 : Option V) (a wt : Nat) (i' : Nat) , σ' = [some (.ref u), some (.int a), some (.int wt), v3] ∧ a + wt * (m / 128) = n ∧ (wt = 1 ∨ (128 ≤ wt ∧ 1 ≤ m / 128)) ∧ bs.drop i' = natB (m / 128) ++ rest ∧ i' + (natB (m / 128)).length = i + (natB n).length ∧ Led H' (uO CU u dx D i' kk :: L)), fun σ' H' h => ⟨m / 128, by have := h.out.1; omega, .mk h.out.2⟩, ?_⟩
    refine ⟨_, rfl, u, dx, _, rfl, hL.at ⟨0, rfl⟩, fz_no (by decide +kernel), ?_⟩
    by_cases hm : m < 128
    · rw [natB_lo hm] at hb hi
      obtain ⟨hb1, hb2⟩ := drop_get hb
      refine ⟨u, dx, D, i', kk, m, bs, L, rfl, hL, hD, hb1, fun H hL => ?_⟩
      fail "go"
      refine ite_d (fun _ => ?_) (fun q => absurd q (by omega))
      fail "go"
      have e1 : (a : Int) + (m : Int) % 128 * (wt : Int) = n := by
        rw [Int.emod_eq_of_lt (by omega) (by omega), Int.mul_comm, ← ha]
        push_cast
        rfl
      have hfin : Led H (uO CU u dx D (i + (natB n).length) kk :: L) := by rw [← hi]; exact hL
      refine ite_d (fun q => ?_) (fun q => ?_)
      · have q := V.int.inj q
        have : wt = 1 := by omega
        subst this
        fail "go"
        rw [← e1] at k
        exact k _ hfin
      · fail "go"
        rw [← e1] at k
        exact k _ hfin
    · rw [natB_hi hm] at hb hi
      obtain ⟨hb1, hb2⟩ := drop_get hb
      refine ⟨u, dx, D, i', kk, _, bs, L, rfl, hL, hD, hb1, fun H hL => ?_⟩
      fail "go"
      refine ite_d (fun q => absurd q (by omega)) (fun q => ?_)
      fail "go"
      refine .mk ⟨by omega, some (.int ((128 + m % 128 : Nat) : Int)), a + m % 128 * wt, wt * 128, i' + 1, ?_, ?_, ?_, hb2, ?_, hL⟩
      · have e1 : (((128 + m % 128 : Nat) : Int)) % 128 = (m % 128 : Nat) := by omega
        dsimp only [List.set]
        rw [e1]
        rfl
      · have := Nat.div_add_mod m 128
        rw [← ha]
        calc a + m % 128 * wt + wt * 128 * (m / 128) = a + wt * (128 * (m / 128) + m % 128) := by rw [Nat.mul_add, ← Nat.mul_assoc, Nat.mul_comm (m % 128) wt]; omega
          _ = a + wt * m := by rw [this]
      · right
        omega
      · rw [List.length_cons] at hi; omega
theorem scUText : FnScope ["self", "many", "found", "step", "number"] ["self"] (defScope sUText) := ⟨rfl, rfl, rfl, by decide +kernel, rfl, by decide +kernel, by decide +kernel⟩
theorem ok_UText {f : Addr} {fd : FuncData} (F : Fun K "text" "Unpacker.text" sUText f fd) (X : TxtU K mg CU) (T : TxtW mg) (c_Unpacker_byte : Met P w K mg base 1 CU "byte" (spUByte CU) []) (c_Unpacker_read_natural : Met P w K mg base 2 CU "read_natural" (spUNat CU) []) : FnOk P w K mg base CX0 3 f fd ["self"] (spUText CU) := by
  refine F.ok scUText (fun vs H Q E h => ?_) (fun cdv A outer s H vs Q E hr h => ?_)
  · obtain ⟨u, dx, D, i, k, z, bs, rest, L, rfl, _⟩ := h
    rfl
  · obtain ⟨u, dx, D, i, kk, z, bs, rest, L, rfl, hL, hD, hb, hg, hz, k⟩ := h
    have c1 := X.cl
    have f1 := X.n "data" (by decide +kernel)
    refine ⟨_, (pss_cons (ps_set (i := 1) scUText.nd rfl (Or.inl rfl) (pe_mt0 c_Unpacker_read_natural hr (by decide) (pv 0)))
  (pss_cons (ps_if (pt_cmpR op_gt (pv 1) (pe_callB call_len_seq (by rfl) T.len (by decide +kernel) (pa_cons (pe_fld (pv 0) rfl) pa_nil)) (nomark _))
  pss_never
  pss_nil)
  (pss_cons (ps_set (i := 2) scUText.nd rfl (Or.inl rfl) pe_str)
  (pss_cons (ps_for PassesOwn.never rfl (pi_range1 (by rfl) T.range (pa_cons (pv 1) pa_nil)) (pg_name (i := 3) scUText.nd rfl (Or.inl rfl))
  (pss_cons (ps_set (i := 4) scUText.nd rfl (Or.inl rfl) (pe_mt0 c_Unpacker_byte hr (by decide) (pv 0)))
  (pss_cons (ps_if (pt_cmpR op_ge (pv 4) (pe_callB call_len_str (by rfl) T.len (by decide +kernel) (pa_cons (C8.pe_gc (by rfl) T.g_SIGNS) pa_nil)) (nomark _))
  pss_never
  pss_nil)
  (pss_one (ps_aug (i := 2) scUText.nd rfl (Or.inl rfl) (pe_ix ix_str (C8.pe_gc (by rfl) T.g_SIGNS) (pv 4) (fun _ _ => rfl)) iop_add_str)))))
  (pss_one (ps_ret (pv 2))))))), ?_⟩
    fail "go"
    have hsz : (signs z).length = z.length := by unfold signs; rw [List.length_map, Array.length_toList]; rfl
    refine ⟨u, dx, D, i, kk, z.length, bs, _, L, rfl, hL, hD, hb, fun H hL => ?_⟩
    fail "go"
    dsimp only [uO] at hL
    fail "go"
    refine ⟨D, _, rfl, .inr (.of (hL.tail.mem hD)), ?_⟩
    fail "go"
    have hlen := congrArg List.length hb
    rw [List.length_drop, List.length_append, List.length_append, hsz] at hlen
    refine ite_d (fun q => absurd q (by rw [List.length_map]; omega)) fun _ => ?_
    fail "go"
    refine ⟨Int.lt_of_le_of_lt (Int.ofNat_le.mpr hz) (by decide), ?_⟩
    refine for_rangeA (lo := 0) (n := (z.length : Int).toNat) (fun j σ H => Hold (∃ (v3 v4 : Option V), σ = [some (.ref u), some (.int z.length), some (.str ⟨(z.cps.toList.take j).toArray⟩), v3, v4] ∧ Led H (uO CU u dx D (i + (natB z.length).length + j) kk :: L))) (.mk ⟨_, _, rfl, hL⟩) (fun j σ H D1 hj h hD1 => ?_) (fun σ H h => ?_)
    · clear hL
      obtain ⟨v3, v4, rfl, hL⟩ := h.out
      clear h
      rw [Int.toNat_natCast] at hj
      have hzc : z.cps.size = z.length := rfl
      have hc : z.cps.toList[j]? = some z.cps[j] := by rw [Array.getElem?_toList]; exact Array.getElem?_eq_getElem (by omega)
      obtain ⟨g1, g2⟩ := hg _ (List.mem_of_getElem? hc)
      have hb2 : bs[i + (natB z.length).length + j]? = some (Txt.find SIGNS ⟨#[z.cps[j]]⟩) := by
        have : bs[i + (natB z.length).length + j]? = (bs.drop i)[(natB z.length).length + j]? := by rw [List.getElem?_drop, Nat.add_assoc]
        rw [this, hb, List.getElem?_append_right (by omega), Nat.add_sub_cancel_left, List.getElem?_append_left (by omega)]
        unfold signs
        rw [List.getElem?_map, hc]
        rfl
      refine ⟨_, rfl, u, dx, _, rfl, hL.at ⟨0, rfl⟩, fz_no (by decide +kernel), ?_⟩
      refine ⟨u, dx, D, _, kk, _, bs, L, rfl, hL, hD, hb2, fun H hL => ?_⟩
      fail "go"
      obtain ⟨g3, _⟩ := Array.getElem?_eq_some_iff.mp g2
      have g4 : SIGNS.cps.size = SIGNS.length := rfl
      refine ite_d (fun q => absurd q (by omega)) fun _ => ?_
      fail "go"
      refine ⟨SIGNS, _, z.cps[j], rfl, rfl, by decide, ?_, ?_⟩
      · obtain ⟨fn, hfn⟩ : ∃ fn : Nat, Txt.find SIGNS ⟨#[z.cps[j]]⟩ = fn := ⟨_, (Int.toNat_of_nonneg g1).symm⟩
        rw [hfn] at g2 ⊢
        exact atI_nat (by rw [Array.getElem?_toList]; exact g2)
      · refine ⟨_, _, rfl, rfl, ?_, hD1.nx _ _ (.mk ⟨some (.int (0 + j)), some (.int (Txt.find SIGNS ⟨#[z.cps[j]]⟩)), ?_, hL⟩)⟩
        · have h1 : (⟨(z.cps.toList.take j).toArray⟩ : Str).length = j := by
            show (z.cps.toList.take j).toArray.size = j
            rw [List.size_toArray, List.length_take, Array.length_toList]
            omega
          have h2 : (⟨#[z.cps[j]]⟩ : Str).length = 1 := rfl
          rw [h1, h2]
          omega
        · have h1 : (⟨(z.cps.toList.take j).toArray⟩ : Str) ++ (⟨#[z.cps[j]]⟩ : Str) = ⟨(z.cps.toList.take (j + 1)).toArray⟩ := by
            rw [List.take_add_one, hc]
            show (⟨(z.cps.toList.take j).toArray ++ #[z.cps[j]]⟩ : Str) = _
            simp
          rw [h1]
          rfl
    · obtain ⟨v3, v4, rfl, hL⟩ := h.out
      clear h
      rw [Int.toNat_natCast] at hL
      fail "go"
      have e1 : (⟨(z.cps.toList.take (z.length : Int).toNat).toArray⟩ : Str) = z := by
        rw [Int.toNat_natCast, List.take_of_length_le (by rw [Array.length_toList]; exact Nat.le_refl _), Array.toArray_toList]
      rw [e1]
      refine k _ ?_
      rw [hsz, ← Nat.add_assoc]
      exact hL
end
end Sd


set_option linter.unusedVariables false
namespace Sd
open PySem L2
open C8 (Cal Met Mak pe_c pe_mk pe_mt pe_mt0 pss_cut tCut)
set_option linter.unusedSimpArgs false
set_option pp.deepTerms false
set_option pp.deepTerms.threshold 12
set_option hygiene false
local macro_rules | `(tactic| fail "nd") => `(tactic| first | assumption | decide +kernel)
local macro_rules | `(tactic| fail "ix") => `(tactic| first | exact ⟨0, rfl⟩ | exact ⟨1, rfl⟩ | exact ⟨2, rfl⟩ | exact ⟨3, rfl⟩ | exact ⟨4, rfl⟩ | exact ⟨5, rfl⟩ | exact ⟨6, rfl⟩ | exact ⟨7, rfl⟩ | exact ⟨8, rfl⟩ | exact ⟨9, rfl⟩ | exact ⟨10, rfl⟩ | exact ⟨11, rfl⟩ | exact ⟨12, rfl⟩ | exact ⟨13, rfl⟩ | exact ⟨14, rfl⟩ | exact ⟨15, rfl⟩ | exact ⟨16, rfl⟩ | exact ⟨17, rfl⟩ | exact ⟨18, rfl⟩ | assumption)
local macro_rules | `(tactic| fail "up") => `(tactic| first | exact ⟨0, rfl, rfl⟩ | exact ⟨1, rfl, rfl⟩ | exact ⟨2, rfl, rfl⟩ | exact ⟨3, rfl, rfl⟩ | exact ⟨4, rfl, rfl⟩ | exact ⟨5, rfl, rfl⟩ | exact ⟨6, rfl, rfl⟩ | exact ⟨7, rfl, rfl⟩ | exact ⟨8, rfl, rfl⟩ | exact ⟨9, rfl, rfl⟩ | exact ⟨10, rfl, rfl⟩ | exact ⟨11, rfl, rfl⟩ | exact ⟨12, rfl, rfl⟩ | exact ⟨13, rfl, rfl⟩ | exact ⟨14, rfl, rfl⟩ | exact ⟨15, rfl, rfl⟩ | exact ⟨16, rfl, rfl⟩ | assumption)
local macro_rules | `(tactic| fail "lkF") => `(tactic| first | assumption | exact fz_at 0 (by fail "nd") rfl rfl | exact fz_at 1 (by fail "nd") rfl rfl | exact fz_at 2 (by fail "nd") rfl rfl | exact fz_at 3 (by fail "nd") rfl rfl | exact fz_at 4 (by fail "nd") rfl rfl | exact fz_at 5 (by fail "nd") rfl rfl | exact fz_at 6 (by fail "nd") rfl rfl | exact fz_at 7 (by fail "nd") rfl rfl)
local macro_rules | `(tactic| fail "lkD") => `(tactic| first | assumption | exact dz_at 0 (by fail "nd") rfl rfl | exact dz_at 1 (by fail "nd") rfl rfl | exact dz_at 2 (by fail "nd") rfl rfl | exact dz_at 3 (by fail "nd") rfl rfl | exact dz_at 4 (by fail "nd") rfl rfl)
local macro_rules | `(tactic| fail "ptF") => `(tactic| first | assumption | exact fz_put 0 (by fail "nd") rfl (Nat.le_of_ble_eq_true rfl) | exact fz_put 1 (by fail "nd") rfl (Nat.le_of_ble_eq_true rfl) | exact fz_put 2 (by fail "nd") rfl (Nat.le_of_ble_eq_true rfl) | exact fz_put 3 (by fail "nd") rfl (Nat.le_of_ble_eq_true rfl) | exact fz_put 4 (by fail "nd") rfl (Nat.le_of_ble_eq_true rfl) | exact fz_put 5 (by fail "nd") rfl (Nat.le_of_ble_eq_true rfl) | exact fz_put 6 (by fail "nd") rfl (Nat.le_of_ble_eq_true rfl) | exact fz_put 7 (by fail "nd") rfl (Nat.le_of_ble_eq_true rfl) | exact fz_new (by decide +kernel) rfl)
local macro_rules | `(tactic| fail "ptD") => `(tactic| first | assumption | exact dz_put 0 (by fail "nd") rfl (Nat.le_of_ble_eq_true rfl) | exact dz_put 1 (by fail "nd") rfl (Nat.le_of_ble_eq_true rfl) | exact dz_put 2 (by fail "nd") rfl (Nat.le_of_ble_eq_true rfl) | exact dz_put 3 (by fail "nd") rfl (Nat.le_of_ble_eq_true rfl) | exact dz_put 4 (by fail "nd") rfl (Nat.le_of_ble_eq_true rfl))
local macro_rules | `(tactic| fail "sz") => `(tactic| first | assumption | exact (Nat.le_of_ble_eq_true rfl) | omega | decide)
local macro_rules | `(tactic| fail "sd") => `(tactic| first | rfl | assumption | decide | omega | (dsimp only; first | decide | omega) | exact .inr ⟨by decide, by decide⟩ | exact .inl ⟨by decide, by decide⟩ | exact ⟨by omega, by omega⟩ | exact .inl ⟨by omega, by omega⟩ | exact .inr ⟨by omega, by omega⟩ | exact ⟨by omega, by omega, by omega⟩)
local macro_rules | `(tactic| fail "cl") => `(tactic| (clear hH; dsimp only [List.set, List.cons_append, List.nil_append, List.append] at hL))
local macro_rules | `(tactic| fail "gn") => `(tactic| (intro p hp; generalize hH : upd H p _ = H; replace hL := Led.newH hL hp hH; clear hH hp))
local macro_rules | `(tactic| fail "gup") => `(tactic| (generalize hH : upd H _ _ = H; replace hL := Led.upU hL (by fail "up") hH; fail "cl"))
local macro_rules | `(tactic| fail "gmk") => `(tactic| (intro x dx hx hd ne; generalize hH : upd (upd H dx _) x _ = H; replace hL := Led.made hL hx hd ne hH; clear hH hx hd ne))
local macro_rules | `(tactic| fail "v") => `(tactic| refine ⟨_, rfl, ?_⟩)
local macro_rules | `(tactic| fail "i2") => `(tactic| refine ⟨_, _, rfl, rfl, ?_⟩)
local macro_rules | `(tactic| fail "go1") => `(tactic| first
  | refine ⟨_, rfl, ?_⟩
  | refine ⟨_, _, rfl, rfl, ?_⟩
  | refine ⟨_, _, rfl, ?_⟩
  | refine iteT ?_
  | refine iteF ?_
  | refine k_fld hL (by fail "ix") (by assumption) (by assumption) (by fail "lkF") ?_
  | refine k_dgetS hL (by fail "ix") (by fail "lkD") ?_
  | refine k_dgetI hL (by fail "ix") (by assumption) ?_
  | refine k_ixL hL (by fail "ix") (by first | rfl | assumption) ?_
  | refine k_ixT hL (by fail "ix") (by first | rfl | assumption) ?_
  | refine k_tyL hL (by fail "ix") ?_
  | refine k_isd hL (by fail "ix") ?_
  | (refine And.intro (by fail "sz") ?_; fail "gn")
  | refine And.intro (by fail "sd") ?_
  | fail "gn"
  | refine k_meth hL (by fail "ix") (by first | assumption | exact fz_no (by decide +kernel)) ?_
  | refine k_gtup hL (by fail "ix") rfl ?_
  | (refine k_popI hL (by fail "ix") (by assumption) ?_; fail "gup")
  | (refine k_listD hL (by fail "ix") ?_; fail "gn")
  | (refine ⟨_, _, _, _, rfl, rfl, hL.at (by fail "ix"), rfl, ?_⟩; fail "gup")
  | (refine ⟨_, _, _, rfl, rfl, hL.at (by fail "ix"), (by fail "sz"), ?_⟩; fail "gup")
  | (refine ⟨_, _, _, _, rfl, hL.at (by fail "ix"), by assumption, by assumption, Nat.lt_of_le_of_lt fz_len (by decide), ?_⟩; generalize hH : upd H _ _ = H; replace hL := Led.upF hL (by fail "up") (by fail "ptF") hH; fail "cl")
  | (refine ⟨_, _, hL.at (by fail "ix"), Nat.lt_of_le_of_lt fz_len (by decide), ?_⟩; generalize hH : upd H _ _ = H; replace hL := Led.upF hL (by fail "up") (by fail "ptF") hH; fail "cl")
  | (refine k_dputS hL (by fail "ix") (Nat.lt_of_le_of_lt dz_len (by decide)) (by fail "ptD") (by fail "up") ?_; clear hL; intro H hL; dsimp only [List.set, List.cons_append, List.nil_append, List.append] at hL)
  | refine k_lenL2 hL (by fail "ix") ?_
  | refine k_lenT2 hL (by fail "ix") ?_
  | refine .inl ⟨_, rfl, ?_⟩
  | refine .inr ⟨_, rfl, ?_⟩)
local macro_rules | `(tactic| fail "go") => `(tactic| repeat fail "go1")
local macro_rules | `(tactic| fail "pm") => `(tactic| (refine Led.le hL (fun a_ => ?_); simp only [cnt_nil, cnt_cons, cnt_app, List.map_append, List.map_cons, List.map_nil, List.flatMap_append, List.flatMap_cons, List.flatMap_nil, List.append_assoc, List.cons_append, List.nil_append]; omega))

def spUVal (CU PU : Addr) (n : Nat) : Sp := fun vs H Q _ => ∃ (u dx D : Addr) (i : Nat) (k : Int) (d : Dv) (bs rest : List Int) (ps : Array Value) (L : Lg), vs = [.ref u] ∧ Led H (uO CU u dx D i k :: (PU, .tbl ps) :: L) ∧ TriplesOk ps.toList ∧ (D, tI bs) ∈ L ∧ bs.drop i = packB d ++ rest ∧
  deep d < n ∧ 0 ≤ k ∧ k + deep d ≤ 30 ∧ sendable d ∧ (packB d).length ≤ sizeLine ∧ ∀ (v : V) (Z : Lg) (ps' : Array Value) H', TriplesOk ps'.toList → DL Z v d → Led H' (uO CU u dx D (i + (packB d).length) k :: (PU, .tbl ps') :: (Z ++ L)) → Q v H'
theorem packsB_len {ds : List Dv} : ds.length ≤ (packsB ds).length := by
  induction ds with
  | nil => exact Nat.le_refl _
  | cons d r ih =>
    rw [packsB, List.length_cons, List.length_append]
    have := List.length_pos_iff.mpr (packB_ne (d := d))
    omega
theorem packsB_at {ds : List Dv} {i : Nat} {d : Dv} (h : ds[i]? = some d) : packsB ds = packsB (ds.take i) ++ (packB d ++ packsB (ds.drop (i + 1))) := by
  induction ds generalizing i with
  | nil => simp at h
  | cons e r ih =>
    cases i with
    | zero =>
      rw [List.getElem?_cons_zero] at h
      cases h
      simp [packsB]
    | succ i =>
      rw [List.getElem?_cons_succ] at h
      rw [List.take_succ_cons, List.drop_succ_cons, packsB, packsB, ih h, List.append_assoc]
theorem DLs.snoc {L : Lg} {v : V} {d : Dv} (h : DL L v d) : ∀ {xs : List V} {ds : List Dv}, DLs L xs ds → DLs L (xs ++ [v]) (ds ++ [d])
  | _, _, .nil => .cons h .nil
  | _, _, .cons a b => .cons a (b.snoc h)
section
variable {P : Program} {w : World} {K : PySem.W.Frag} {mg : Str → Option Value} {base : Heap} {CU : Addr}
theorem scUVal : FnScope ["self", "mark", "many", "found", "step"] ["self"] (defScope sUVal) := ⟨rfl, rfl, rfl, by decide +kernel, rfl, by decide +kernel, by decide +kernel⟩
theorem ok_UVal {f c PU : Addr} {oc dV : Value} {od : Option Addr} {osl : Array (Option Value)} {kV doc pm ct : Value} {an : Option Addr}
    (lk : K.lookup f = some ⟨oc, od, .func (PySem.W.fnOf "read_value" "Unpacker.read_value" (defArgs sUVal) (defBody sUVal) (defScope sUVal) dV kV doc pm an (.ref c) ct), osl⟩) (hcd : PySem.W.codeIn K (.ref c) "Unpacker.read_value" = true) (TB : GxR.TabB base mg c PU) (X : TxtU K mg CU) (T : TxtW mg)
    (me : Meth K CU "read_value" f) (b : Binds K (PySem.W.fnOf "read_value" "Unpacker.read_value" (defArgs sUVal) (defBody sUVal) (defScope sUVal) dV kV doc pm an (.ref c) ct) ["self"] [])
    (c_Unpacker_byte : Met P w K mg base 1 CU "byte" (spUByte CU) []) (c_Unpacker_read_natural : Met P w K mg base 2 CU "read_natural" (spUNat CU) []) (c_Unpacker_text : Met P w K mg base 3 CU "text" (spUText CU) []) (n : Nat) :
    FnOk P w K mg base CX0 (4 + 5 * n) f (PySem.W.fnOf "read_value" "Unpacker.read_value" (defArgs sUVal) (defBody sUVal) (defScope sUVal) dV kV doc pm an (.ref c) ct) ["self"] (spUVal CU PU n) := by
  induction n with
  | zero => exact no_ok fun vs H Q E ⟨_, _, _, _, _, _, _, _, _, _, _, _, _, _, _, h, _⟩ => absurd h (Nat.not_lt_zero _)
  | succ n ih =>
    have c_Unpacker_read_value : Met P w K mg base (4 + 5 * n) CU "read_value" (spUVal CU PU n) [] := ⟨_, _, _, [], X.cl, me, ih, b, .nil⟩
    have e9 : 4 + 5 * (n + 1) = (8 + 5 * n) + 1 := by omega
    rw [e9]
    refine fn_of lk hcd scUVal (fun vs H Q E h => ?_) fun A outer s H vs Q E hr h => ?_
    · obtain ⟨u, dx, D, i, k, d, bs, rest, ps, L, rfl, _⟩ := h
      rfl
    · obtain ⟨u, dx, D, i, kk, d, bs, rest, ps, L, rfl, hL, ht, hD, hb, hn, h0, h30, hs, hz, k⟩ := h
      have c1 := X.cl
      have f1 := X.n "data" (by decide +kernel)
      have f3 := X.n "nesting" (by decide +kernel)
      replace hr : Room (8 + 5 * n) _ := hr
      have hr1 : Room ((4 + 5 * n) + 1) _ := hr.mono (by omega)
      have hr5 : Room ((4 + 5 * n) + 1 + 3) _ := hr.mono (by omega)
      refine ⟨_, ((pss_cons (ps_set (i := 1) scUVal.nd rfl (Or.inl rfl) (pe_mt0 c_Unpacker_byte hr (by omega) (pv 0)))
  (pss_cons (ps_if (pt_cmpR op_gt (pe_fld (pv 0) rfl) (C8.pe_gc (by rfl) T.g_MOST_DEEP) (nomark _))
  pss_never
  pss_nil)
  (pss_cons (ps_if (pt_cmpR op_in_seq (pv 1) (pe_tup (pa_cons (C8.pe_gc (by rfl) T.g_NONE) (pa_cons (C8.pe_gc (by rfl) T.g_TRUE) (pa_cons (C8.pe_gc (by rfl) T.g_FALSE) pa_nil)))) (by rfl))
  (pss_one (ps_ret (pe_dget (hu_of hr) (pe_disp (pps_cons (C8.pe_gc (by rfl) T.g_NONE) pe_non (pps_cons (C8.pe_gc (by rfl) T.g_TRUE) pe_bl (pps_cons (C8.pe_gc (by rfl) T.g_FALSE) pe_bl pps_nil))) (by rfl) (by rfl) (fun z => by cases z) (by decide)) (pv 1) (fun _ _ => rfl))))
  pss_nil)
  (pss_cons (ps_if (pt_cmpR op_eq (pv 1) (C8.pe_gc (by rfl) T.g_NUMBER) (nomark _))
  (pss_one (ps_ret (pe_mt0 c_Unpacker_read_natural hr (by omega) (pv 0))))
  pss_nil)
  (pss_cons (ps_if (pt_cmpR op_eq (pv 1) (C8.pe_gc (by rfl) T.g_BELOW) (nomark _))
  (pss_one (ps_ret (pe_op op_sub (pe_op op_sub pe_int (pe_mt0 c_Unpacker_read_natural hr (by omega) (pv 0))) pe_int)))
  pss_nil)
  (pss_cons (ps_if (pt_cmpR op_eq (pv 1) (C8.pe_gc (by rfl) T.g_TEXT) (nomark _))
  (pss_one (ps_ret (pe_mt0 c_Unpacker_text hr (by omega) (pv 0))))
  pss_nil)
  (pss_cons (ps_if (pt_cmpR op_ne (pv 1) (C8.pe_gc (by rfl) T.g_ROW) (nomark _))
  pss_never
  pss_nil)
  (pss_cons (ps_fldaug (pv 0) pe_int in_add)
  (pss_cons (ps_set (i := 2) scUVal.nd rfl (Or.inl rfl) (pe_mt0 c_Unpacker_read_natural hr (by omega) (pv 0)))
  (pss_cons (ps_if (pt_cmpR op_gt (pv 2) (pe_callB call_len_seq (by rfl) T.len (by decide +kernel) (pa_cons (pe_fld (pv 0) rfl) pa_nil)) (nomark _))
  pss_never
  pss_nil)
  (pss_cons (ps_set (i := 3) scUVal.nd rfl (Or.inl rfl) (Gx.pe_tupleG (Gx.pgen_gx (own := [("step", 4)]) (g := gName 4) hr1 TB rfl scUVal.nd (pi_range1 (by rfl) T.range (pa_cons (pv 2) pa_nil)) (Gx.gxOk_by (own := [("step", 4)]) (N := ["self", "mark", "many", "found", "step"]) (sc := (defScope sUVal)) (by decide +kernel)) (fun _ _ _ _ _ _ _ _ _ => (pg_name (i := 4) scUVal.nd rfl (Or.inl rfl))) (fun _ _ _ _ _ _ _ _ hr => pts_nil) (fun _ _ _ _ _ _ _ _ hr => (pe_mt0 c_Unpacker_read_value hr (by omega) (pv 0))) (fun _ => rfl)) hr5 (by rfl) T.tuple))
  (pss_cons (ps_fldaug (pv 0) pe_int in_sub)
  (pss_one (ps_ret (pv 3)))))))))))))))).nox, ?_⟩
      fail "go"
      cases d with
      | non =>
        unfold packB at hb k
        obtain ⟨hb1, hb2⟩ := drop_get hb
        refine ⟨u, dx, D, i, kk, _, bs, _, rfl, hL, .tail _ hD, hb1, fun H hL => ?_⟩
        fail "go"
        dsimp only [uO] at hL
        fail "go"
        refine ite_d (fun q => absurd q (by omega)) fun _ => ?_
        fail "go"
        refine ⟨p, _, rfl, .inr (.of (hL.at ⟨0, rfl⟩)), rfl, rfl, ?_⟩
        refine ⟨true, by decide, ?_⟩
        fail "go"
        refine (show H p = some (.dK []) ∧ _ from ⟨hL.at ⟨0, rfl⟩, [(.inl 1, .non), (.inl 2, .bl true), (.inl 3, .bl false)], rfl, by decide, ?_⟩)
        generalize hH : upd H p _ = H
        replace hL := hL.upU (o' := .dK [(.inl 1, .non), (.inl 2, .bl true), (.inl 3, .bl false)]) ⟨0, rfl, rfl⟩ hH
        clear hH
        dsimp only [List.set] at hL
        refine ⟨_, rfl, ?_⟩
        refine k_dgetI (n := 1) hL ⟨0, rfl⟩ (v := .non) rfl ?_
        exact k _ [] ps _ ht .non (hL.sub (.cons _ (.cons _ (.refl _))))
      | bl bb =>
        cases bb with
        | true =>
          unfold packB at hb k
          obtain ⟨hb1, hb2⟩ := drop_get hb
          refine ⟨u, dx, D, i, kk, _, bs, _, rfl, hL, .tail _ hD, hb1, fun H hL => ?_⟩
          fail "go"
          dsimp only [uO] at hL
          fail "go"
          refine ite_d (fun q => absurd q (by omega)) fun _ => ?_
          fail "go"
          refine ⟨p, _, rfl, .inr (.of (hL.at ⟨0, rfl⟩)), rfl, rfl, ?_⟩
          refine ⟨true, by decide, ?_⟩
          fail "go"
          refine (show H p = some (.dK []) ∧ _ from ⟨hL.at ⟨0, rfl⟩, [(.inl 1, .non), (.inl 2, .bl true), (.inl 3, .bl false)], rfl, by decide, ?_⟩)
          generalize hH : upd H p _ = H
          replace hL := hL.upU (o' := .dK [(.inl 1, .non), (.inl 2, .bl true), (.inl 3, .bl false)]) ⟨0, rfl, rfl⟩ hH
          clear hH
          dsimp only [List.set] at hL
          refine ⟨_, rfl, ?_⟩
          refine k_dgetI (n := 2) hL ⟨0, rfl⟩ (v := .bl true) rfl ?_
          exact k _ [] ps _ ht (.bl true) (hL.sub (.cons _ (.cons _ (.refl _))))
        | false =>
          unfold packB at hb k
          obtain ⟨hb1, hb2⟩ := drop_get hb
          refine ⟨u, dx, D, i, kk, _, bs, _, rfl, hL, .tail _ hD, hb1, fun H hL => ?_⟩
          fail "go"
          dsimp only [uO] at hL
          fail "go"
          refine ite_d (fun q => absurd q (by omega)) fun _ => ?_
          fail "go"
          refine ⟨p, _, rfl, .inr (.of (hL.at ⟨0, rfl⟩)), rfl, rfl, ?_⟩
          refine ⟨true, by decide, ?_⟩
          fail "go"
          refine (show H p = some (.dK []) ∧ _ from ⟨hL.at ⟨0, rfl⟩, [(.inl 1, .non), (.inl 2, .bl true), (.inl 3, .bl false)], rfl, by decide, ?_⟩)
          generalize hH : upd H p _ = H
          replace hL := hL.upU (o' := .dK [(.inl 1, .non), (.inl 2, .bl true), (.inl 3, .bl false)]) ⟨0, rfl, rfl⟩ hH
          clear hH
          dsimp only [List.set] at hL
          refine ⟨_, rfl, ?_⟩
          refine k_dgetI (n := 3) hL ⟨0, rfl⟩ (v := .bl false) rfl ?_
          exact k _ [] ps _ ht (.bl false) (hL.sub (.cons _ (.cons _ (.refl _))))
      | int j =>
        unfold packB at hb k
        by_cases hj : 0 ≤ j
        · rw [if_pos hj] at hb
          rw [if_pos hj] at k
          obtain ⟨hb1, hb2⟩ := drop_get hb
          refine ⟨u, dx, D, i, kk, _, bs, _, rfl, hL, .tail _ hD, hb1, fun H hL => ?_⟩
          fail "go"
          dsimp only [uO] at hL
          fail "go"
          refine ite_d (fun q => absurd q (by omega)) fun _ => ?_
          fail "go"
          refine ⟨p, _, rfl, .inr (.of (hL.at ⟨0, rfl⟩)), rfl, rfl, ?_⟩
          refine ⟨false, by decide, ?_⟩
          fail "go"
          refine ⟨u, dx, D, i + 1, kk, j.toNat, bs, rest, _, rfl, hL.tail, .tail _ hD, hb2, fun H hL => ?_⟩
          have e1 : ((j.toNat : Nat) : Int) = j := Int.toNat_of_nonneg hj
          rw [e1]
          refine k _ [] ps _ ht (.int j) ?_
          rw [List.length_cons, Nat.add_comm _ 1, ← Nat.add_assoc]
          exact hL
        · rw [if_neg hj] at hb
          rw [if_neg hj] at k
          obtain ⟨hb1, hb2⟩ := drop_get hb
          refine ⟨u, dx, D, i, kk, _, bs, _, rfl, hL, .tail _ hD, hb1, fun H hL => ?_⟩
          fail "go"
          dsimp only [uO] at hL
          fail "go"
          refine ite_d (fun q => absurd q (by omega)) fun _ => ?_
          fail "go"
          refine ⟨p, _, rfl, .inr (.of (hL.at ⟨0, rfl⟩)), rfl, rfl, ?_⟩
          refine ⟨false, by decide, ?_⟩
          fail "go"
          refine ⟨u, dx, D, i + 1, kk, (0 - j - 1).toNat, bs, rest, _, rfl, hL.tail, .tail _ hD, hb2, fun H hL => ?_⟩
          fail "go"
          have e1 : 0 - (((0 - j - 1).toNat : Nat) : Int) - 1 = j := by omega
          have q : Q (.int (0 - (((0 - j - 1).toNat : Nat) : Int) - 1)) H := by
            rw [e1]
            refine k _ [] ps _ ht (.int j) ?_
            rw [List.length_cons, Nat.add_comm _ 1, ← Nat.add_assoc]
            exact hL
          exact q
      | str z =>
        have hsz : (signs z).length = z.length := by unfold signs; rw [List.length_map, Array.length_toList]; rfl
        unfold packB at hb k hz
        unfold sendable at hs
        obtain ⟨hb1, hb2⟩ := drop_get hb
        refine ⟨u, dx, D, i, kk, _, bs, _, rfl, hL, .tail _ hD, hb1, fun H hL => ?_⟩
        fail "go"
        dsimp only [uO] at hL
        fail "go"
        refine ite_d (fun q => absurd q (by omega)) fun _ => ?_
        fail "go"
        refine ⟨p, _, rfl, .inr (.of (hL.at ⟨0, rfl⟩)), rfl, rfl, ?_⟩
        refine ⟨false, by decide, ?_⟩
        fail "go"
        refine ⟨u, dx, D, i + 1, kk, z, bs, rest, _, rfl, hL.tail, .tail _ hD, (by rw [hb2, List.append_eq, List.append_assoc]), hs, (by rw [List.length_cons, List.length_append, hsz] at hz; omega), fun H hL => ?_⟩
        refine k _ [] ps _ ht (.str z) ?_
        rw [List.length_cons, Nat.add_comm _ 1, ← Nat.add_assoc, List.length_append]
        exact hL
      | row dl =>
        unfold packB at hb k hz
        rw [deep] at hn h30
        rw [sendable] at hs
        obtain ⟨hb1, hb2⟩ := drop_get hb
        refine ⟨u, dx, D, i, kk, _, bs, _, rfl, hL, .tail _ hD, hb1, fun H hL => ?_⟩
        fail "go"
        dsimp only [uO] at hL
        fail "go"
        refine ite_d (fun q => absurd q (by omega)) fun _ => ?_
        fail "go"
        refine ⟨p, _, rfl, .inr (.of (hL.at ⟨0, rfl⟩)), rfl, rfl, ?_⟩
        refine ⟨false, by decide, ?_⟩
        fail "go"
        refine ⟨u, dx, D, i + 1, kk + 1, dl.length, bs, packsB dl ++ rest, _, rfl, hL.tail, .tail _ hD, by rw [hb2, List.append_eq, List.append_assoc], fun H hL => ?_⟩
        fail "go"
        dsimp only [uO] at hL
        fail "go"
        refine ⟨D, _, rfl, .inr (.of (hL.mem (.tail _ (.tail _ hD)))), ?_⟩
        fail "go"
        have hlen := congrArg List.length hb2
        rw [List.length_drop, List.append_eq, List.length_append, List.length_append] at hlen
        have hpl := packsB_len (ds := dl)
        rw [List.length_cons, List.length_append] at hz
        refine ite_d (fun q => absurd q (by rw [List.length_map]; omega)) fun _ => ?_
        refine ⟨_, rfl, _, rfl, Int.le_trans (show (-(2 ^ 62) : Int) ≤ 0 by decide) (Int.natCast_nonneg _), Int.lt_of_le_of_lt (Int.ofNat_le.mpr (show dl.length ≤ sizeLine by omega)) (show (sizeLine : Int) < 2 ^ 62 by decide), ?_⟩
        refine ⟨⟨ps, hL.at ⟨1, rfl⟩, ht⟩, fun H2 hT => ?_⟩
        obtain ⟨ps1, ht1, hL⟩ := Led.tabbed (A := [_]) hL hT
        dsimp only [List.cons_append, List.nil_append, List.append] at hL
        clear hT ht
        rw [List.append_eq, List.append_assoc] at hb2
        have hb3 : bs.drop (i + 1 + (natB dl.length).length) = packsB dl ++ rest := by
          rw [← List.drop_drop, hb2, List.drop_left]
        refine Gx.gx_it (walk_range (lo := 0) (n := (dl.length : Int).toNat)) (fun j out H => Hold (∃ (Z : Lg) (ps : Array Value), TriplesOk ps.toList ∧ DLs Z out (dl.take j) ∧ out.length = j ∧ Led H (uO CU u dx D (i + 1 + (natB dl.length).length + (packsB (dl.take j)).length) (kk + 1) :: (PU, .tbl ps) :: (Z ++ L)))) (.mk ⟨[], ps1, ht1, .nil, rfl, hL⟩)
          (fun j out H _ h => True.intro) (fun j x out H H' hj h hy => ?_) (fun out H h => ?_)
        · clear hL
          obtain ⟨Z, ps, ht, hdl, hol, hL⟩ := h.out
          clear h
          rw [Int.toNat_natCast] at hj
          obtain ⟨rfl, rfl⟩ := hy
          have hd1 : dl[j]? = some dl[j] := List.getElem?_eq_getElem hj
          have q1 := deeps_get hd1
          have q2 := packsB_take hd1
          have q3 := packsB_le (ds := dl) (i := j + 1)
          rw [q2, List.length_append] at q3
          have hb4 : bs.drop (i + 1 + (natB dl.length).length + (packsB (dl.take j)).length) = packB dl[j] ++ (packsB (dl.drop (j + 1)) ++ rest) := by
            rw [← List.drop_drop, hb3, packsB_at hd1, List.append_assoc, List.append_assoc, List.drop_left]
          refine ⟨rfl, k_yes ?_⟩
          refine ⟨_, rfl, u, dx, _, rfl, hL.at ⟨0, rfl⟩, fz_no (by decide +kernel), ?_⟩
          refine ⟨u, dx, D, _, kk + 1, dl[j], bs, _, ps, Z ++ L, rfl, hL, ht, List.mem_append_right _ hD, hb4, by omega, by omega, by omega, send_get hs hd1, by omega, fun v Z2 ps2 H2 ht2 hv hL => ⟨by omega, .mk ⟨Z2 ++ Z, ps2, ht2, ?_, ?_, ?_⟩⟩⟩
          · rw [List.take_add_one, hd1]
            exact DLs.snoc (hv.mono (fun a h => List.mem_append_left _ h)) (hdl.mono (fun a h => List.mem_append_right _ h))
          · rw [List.length_append, hol]; rfl
          · rw [q2, List.length_append, ← Nat.add_assoc, List.append_assoc]
            exact hL
        · clear hL
          obtain ⟨Z, ps, ht, hdl, hol, hL⟩ := h.out
          clear h
          rw [Int.toNat_natCast, List.take_length] at hdl hL
          intro q hq
          generalize hH : upd H q _ = H
          replace hL := Led.newH hL hq hH
          clear hH hq
          dsimp only [uO] at hL
          fail "go"
          refine k (.ref q) ((q, .tup out) :: Z) ps _ ht (.row (.head _) (hdl.mono fun a h => .tail _ h)) ?_
          have e1 : kk + 1 - 1 = kk := by omega
          have e2 : i + (7 :: (natB dl.length ++ packsB dl)).length = i + 1 + (natB dl.length).length + (packsB dl).length := by
            rw [List.length_cons, List.length_append]; omega
          rw [e1] at hL
          rw [e2]
          exact hL.perm ((List.Perm.swap _ _ _).trans (.cons _ (.swap _ _ _)))
end
end Sd


set_option linter.unusedVariables false
namespace Sd
open PySem L2
open C8 (Cal Met Mak pe_c pe_mk pe_mt pe_mt0 pss_cut tCut)
set_option linter.unusedSimpArgs false
set_option pp.deepTerms false
set_option pp.deepTerms.threshold 12
set_option hygiene false
local macro_rules | `(tactic| fail "nd") => `(tactic| first | assumption | decide +kernel)
local macro_rules | `(tactic| fail "ix") => `(tactic| first | exact ⟨0, rfl⟩ | exact ⟨1, rfl⟩ | exact ⟨2, rfl⟩ | exact ⟨3, rfl⟩ | exact ⟨4, rfl⟩ | exact ⟨5, rfl⟩ | exact ⟨6, rfl⟩ | exact ⟨7, rfl⟩ | exact ⟨8, rfl⟩ | exact ⟨9, rfl⟩ | exact ⟨10, rfl⟩ | exact ⟨11, rfl⟩ | exact ⟨12, rfl⟩ | exact ⟨13, rfl⟩ | exact ⟨14, rfl⟩ | exact ⟨15, rfl⟩ | exact ⟨16, rfl⟩ | exact ⟨17, rfl⟩ | exact ⟨18, rfl⟩ | assumption)
local macro_rules | `(tactic| fail "up") => `(tactic| first | exact ⟨0, rfl, rfl⟩ | exact ⟨1, rfl, rfl⟩ | exact ⟨2, rfl, rfl⟩ | exact ⟨3, rfl, rfl⟩ | exact ⟨4, rfl, rfl⟩ | exact ⟨5, rfl, rfl⟩ | exact ⟨6, rfl, rfl⟩ | exact ⟨7, rfl, rfl⟩ | exact ⟨8, rfl, rfl⟩ | exact ⟨9, rfl, rfl⟩ | exact ⟨10, rfl, rfl⟩ | exact ⟨11, rfl, rfl⟩ | exact ⟨12, rfl, rfl⟩ | exact ⟨13, rfl, rfl⟩ | exact ⟨14, rfl, rfl⟩ | exact ⟨15, rfl, rfl⟩ | exact ⟨16, rfl, rfl⟩ | assumption)
local macro_rules | `(tactic| fail "lkF") => `(tactic| first | assumption | exact fz_at 0 (by fail "nd") rfl rfl | exact fz_at 1 (by fail "nd") rfl rfl | exact fz_at 2 (by fail "nd") rfl rfl | exact fz_at 3 (by fail "nd") rfl rfl | exact fz_at 4 (by fail "nd") rfl rfl | exact fz_at 5 (by fail "nd") rfl rfl | exact fz_at 6 (by fail "nd") rfl rfl | exact fz_at 7 (by fail "nd") rfl rfl)
local macro_rules | `(tactic| fail "lkD") => `(tactic| first | assumption | exact dz_at 0 (by fail "nd") rfl rfl | exact dz_at 1 (by fail "nd") rfl rfl | exact dz_at 2 (by fail "nd") rfl rfl | exact dz_at 3 (by fail "nd") rfl rfl | exact dz_at 4 (by fail "nd") rfl rfl)
local macro_rules | `(tactic| fail "ptF") => `(tactic| first | assumption | exact fz_put 0 (by fail "nd") rfl (Nat.le_of_ble_eq_true rfl) | exact fz_put 1 (by fail "nd") rfl (Nat.le_of_ble_eq_true rfl) | exact fz_put 2 (by fail "nd") rfl (Nat.le_of_ble_eq_true rfl) | exact fz_put 3 (by fail "nd") rfl (Nat.le_of_ble_eq_true rfl) | exact fz_put 4 (by fail "nd") rfl (Nat.le_of_ble_eq_true rfl) | exact fz_put 5 (by fail "nd") rfl (Nat.le_of_ble_eq_true rfl) | exact fz_put 6 (by fail "nd") rfl (Nat.le_of_ble_eq_true rfl) | exact fz_put 7 (by fail "nd") rfl (Nat.le_of_ble_eq_true rfl) | exact fz_new (by decide +kernel) rfl)
local macro_rules | `(tactic| fail "ptD") => `(tactic| first | assumption | exact dz_put 0 (by fail "nd") rfl (Nat.le_of_ble_eq_true rfl) | exact dz_put 1 (by fail "nd") rfl (Nat.le_of_ble_eq_true rfl) | exact dz_put 2 (by fail "nd") rfl (Nat.le_of_ble_eq_true rfl) | exact dz_put 3 (by fail "nd") rfl (Nat.le_of_ble_eq_true rfl) | exact dz_put 4 (by fail "nd") rfl (Nat.le_of_ble_eq_true rfl))
local macro_rules | `(tactic| fail "sz") => `(tactic| first | assumption | exact (Nat.le_of_ble_eq_true rfl) | omega | decide)
local macro_rules | `(tactic| fail "sd") => `(tactic| first | rfl | assumption | decide | omega | (dsimp only; first | decide | omega) | exact .inr ⟨by decide, by decide⟩ | exact .inl ⟨by decide, by decide⟩ | exact ⟨by omega, by omega⟩ | exact .inl ⟨by omega, by omega⟩ | exact .inr ⟨by omega, by omega⟩ | exact ⟨by omega, by omega, by omega⟩)
local macro_rules | `(tactic| fail "cl") => `(tactic| (clear hH; dsimp only [List.set, List.cons_append, List.nil_append, List.append] at hL))
local macro_rules | `(tactic| fail "gn") => `(tactic| (intro p hp; generalize hH : upd H p _ = H; replace hL := Led.newH hL hp hH; clear hH hp))
local macro_rules | `(tactic| fail "gup") => `(tactic| (generalize hH : upd H _ _ = H; replace hL := Led.upU hL (by fail "up") hH; fail "cl"))
local macro_rules | `(tactic| fail "gmk") => `(tactic| (intro x dx hx hd ne; generalize hH : upd (upd H dx _) x _ = H; replace hL := Led.made hL hx hd ne hH; clear hH hx hd ne))
local macro_rules | `(tactic| fail "v") => `(tactic| refine ⟨_, rfl, ?_⟩)
local macro_rules | `(tactic| fail "i2") => `(tactic| refine ⟨_, _, rfl, rfl, ?_⟩)
local macro_rules | `(tactic| fail "go1") => `(tactic| first
  | refine ⟨_, rfl, ?_⟩
  | refine ⟨_, _, rfl, rfl, ?_⟩
  | refine ⟨_, _, rfl, ?_⟩
  | refine iteT ?_
  | refine iteF ?_
  | refine k_fld hL (by fail "ix") (by assumption) (by assumption) (by fail "lkF") ?_
  | refine k_dgetS hL (by fail "ix") (by fail "lkD") ?_
  | refine k_dgetI hL (by fail "ix") (by assumption) ?_
  | refine k_ixL hL (by fail "ix") (by first | rfl | assumption) ?_
  | refine k_ixT hL (by fail "ix") (by first | rfl | assumption) ?_
  | refine k_tyL hL (by fail "ix") ?_
  | refine k_isd hL (by fail "ix") ?_
  | (refine And.intro (by fail "sz") ?_; fail "gn")
  | refine And.intro (by fail "sd") ?_
  | fail "gn"
  | refine k_meth hL (by fail "ix") (by first | assumption | exact fz_no (by decide +kernel)) ?_
  | refine k_gtup hL (by fail "ix") rfl ?_
  | (refine k_popI hL (by fail "ix") (by assumption) ?_; fail "gup")
  | (refine k_listD hL (by fail "ix") ?_; fail "gn")
  | (refine ⟨_, _, _, _, rfl, rfl, hL.at (by fail "ix"), rfl, ?_⟩; fail "gup")
  | (refine ⟨_, _, _, rfl, rfl, hL.at (by fail "ix"), (by fail "sz"), ?_⟩; fail "gup")
  | (refine ⟨_, _, _, _, rfl, hL.at (by fail "ix"), by assumption, by assumption, Nat.lt_of_le_of_lt fz_len (by decide), ?_⟩; generalize hH : upd H _ _ = H; replace hL := Led.upF hL (by fail "up") (by fail "ptF") hH; fail "cl")
  | (refine ⟨_, _, hL.at (by fail "ix"), Nat.lt_of_le_of_lt fz_len (by decide), ?_⟩; generalize hH : upd H _ _ = H; replace hL := Led.upF hL (by fail "up") (by fail "ptF") hH; fail "cl")
  | (refine k_dputS hL (by fail "ix") (Nat.lt_of_le_of_lt dz_len (by decide)) (by fail "ptD") (by fail "up") ?_; clear hL; intro H hL; dsimp only [List.set, List.cons_append, List.nil_append, List.append] at hL)
  | refine k_lenL2 hL (by fail "ix") ?_
  | refine k_lenT2 hL (by fail "ix") ?_
  | refine .inl ⟨_, rfl, ?_⟩
  | refine .inr ⟨_, rfl, ?_⟩)
local macro_rules | `(tactic| fail "go") => `(tactic| repeat fail "go1")
local macro_rules | `(tactic| fail "pm") => `(tactic| (refine Led.le hL (fun a_ => ?_); simp only [cnt_nil, cnt_cons, cnt_app, List.map_append, List.map_cons, List.map_nil, List.flatMap_append, List.flatMap_cons, List.flatMap_nil, List.append_assoc, List.cons_append, List.nil_append]; omega))

def spUnpack (CU PU : Addr) (n : Nat) : Sp := fun vs H Q _ => ∃ (D : Addr) (d : Dv) (ps : Array Value) (L : Lg), vs = [.ref D] ∧ Led H ((PU, .tbl ps) :: L) ∧ TriplesOk ps.toList ∧ (D, tI (packB d)) ∈ L ∧
  deep d < n ∧ deep d ≤ 30 ∧ sendable d ∧ (packB d).length ≤ sizeLine ∧ ∀ (v : V) (Z : Lg) (ps' : Array Value) H', TriplesOk ps'.toList → DL Z v d → Led H' ((PU, .tbl ps') :: (Z ++ L)) → Q v H'
def framesB (ds : List Dv) : List Int := ds.flatMap fun d => frameB (packB d)
def manyB (bs : List Int) : Int := bs.foldl (fun m b => m * 256 + b) 0
/-- what is left behind whole frames -/
def Cut (t : List Int) : Prop := t.length < 8 ∨ (t.length : Int) < 8 + manyB (t.take 4)
def spReadF (CU PU : Addr) (n : Nat) : Sp := fun vs H Q _ => ∃ (D : Addr) (ds : List Dv) (tail : List Int) (ps : Array Value) (L : Lg), vs = [.ref D] ∧ Led H ((PU, .tbl ps) :: L) ∧ TriplesOk ps.toList ∧ (D, tI (framesB ds ++ tail)) ∈ L ∧
  (∀ d ∈ ds, deep d < n ∧ deep d ≤ 30 ∧ sendable d ∧ (packB d).length + 8 ≤ sizeLine) ∧ ds.length < sizeLine ∧ Cut tail ∧
  ∀ (t l : Addr) (vs : List V) (Z : Lg) (ps' : Array Value) H', TriplesOk ps'.toList → DLs Z vs ds → Led H' ((t, .tup [.ref l, .int (framesB ds).length]) :: (l, .lst vs) :: (PU, .tbl ps') :: (Z ++ L)) → Q (.ref t) H'
theorem many_four {n : Int} (h0 : 0 ≤ n) (h1 : n < 4294967296) : manyB (fourB n) = n := by
  unfold manyB fourB
  simp only [List.foldl_cons, List.foldl_nil]
  omega
theorem frames_take {ds : List Dv} {i : Nat} {d : Dv} (h : ds[i]? = some d) : framesB (ds.take (i + 1)) = framesB (ds.take i) ++ frameB (packB d) := by
  unfold framesB
  rw [List.take_add_one, h, List.flatMap_append]
  simp
theorem frames_at {ds : List Dv} {i : Nat} {d : Dv} (h : ds[i]? = some d) : framesB ds = framesB (ds.take i) ++ (frameB (packB d) ++ framesB (ds.drop (i + 1))) := by
  obtain ⟨h1, h2⟩ := List.getElem?_eq_some_iff.mp h
  conv => lhs; rw [← List.take_append_drop i ds, List.drop_eq_getElem_cons h1, h2]
  unfold framesB
  rw [List.flatMap_append, List.flatMap_cons]
theorem frame_len {b : List Int} : (frameB b).length = b.length + 8 := by
  unfold frameB fourB sumB
  simp only [List.length_append, List.length_cons, List.length_nil]
  omega
theorem cut_map {bs : List Int} {a b : Nat} : cutV (bs.map V.int) (some (a : Int)) (some (b : Int)) = ((bs.drop (min a bs.length)).take (min b bs.length - min a bs.length)).map V.int := by
  unfold cutV
  rw [HT.sIx_nat, HT.sIx_nat, List.length_map, List.map_take, List.map_drop]
section
variable {K : PySem.W.Frag} {H : Hp} {L : Lg} {D : Addr} {Q : VK}
/-- t[a:b], not the whole -/
theorem k_cut {bs : List Int} {a b : Nat} (hL : Led H L) (hD : (D, tI bs) ∈ L) (hab : a ≤ b) (hb : b ≤ bs.length) (hn : ¬ (a = 0 ∧ b = bs.length)) (k : ∀ p H', Led H' ((p, tI ((bs.drop a).take (b - a))) :: L) → Q (.ref p) H') :
    rSlT K (.ref D) (some (a : Int)) (some (b : Int)) H Q := by
  refine ⟨D, _, rfl, .of (hL.mem hD), ?_, fun p hp => ?_⟩
  · rw [HT.sIx_nat, HT.sIx_nat, List.length_map]
    omega
  · rw [cut_map, Nat.min_eq_left hb, Nat.min_eq_left (Nat.le_trans hab hb)]
    exact k p _ (hL.new hp)
theorem k_cutE {bs : List Int} {a b : Nat} {x y : Int} (hL : Led H L) (hD : (D, tI bs) ∈ L) (hx : x = a) (hy : y = b) (hab : a ≤ b) (hb : b ≤ bs.length) (hn : ¬ (a = 0 ∧ b = bs.length)) (k : ∀ p H', Led H' ((p, tI ((bs.drop a).take (b - a))) :: L) → Q (.ref p) H') :
    rSlT K (.ref D) (some x) (some y) H Q := by
  subst hx hy
  exact k_cut hL hD hab hb hn k
end
theorem drop_mid {α : Type} {bs x y r : List α} {q : Nat} (h : bs.drop q = x ++ (y ++ r)) : (bs.drop (q + x.length)).take y.length = y := by
  rw [← List.drop_drop, h, List.drop_left, List.take_left]
section
variable {P : Program} {w : World} {K : PySem.W.Frag} {mg : Str → Option Value} {base : Heap} {CU PU : Addr}
theorem scUnpack : FnScope ["data", "unpacker", "found"] ["data"] (defScope sUnpack) := ⟨rfl, rfl, rfl, by decide +kernel, rfl, by decide +kernel, by decide +kernel⟩
theorem ok_unpack {f : Addr} {fd : FuncData} {n : Nat} (F : Fun K "unpack" "unpack" sUnpack f fd) (X : TxtU K mg CU) (T : TxtW mg) (c_Unpacker : Mak P w K mg base 1 "Unpacker" CU (spUInit CU) [])
    (c_Unpacker_read_value : Met P w K mg base (4 + 5 * n) CU "read_value" (spUVal CU PU n) []) : FnOk P w K mg base CX0 (5 + 5 * n) f fd ["data"] (spUnpack CU PU n) := by
  have e6 : 5 + 5 * n = (4 + 5 * n) + 1 := by omega
  rw [e6]
  refine F.ok scUnpack (fun vs H Q E h => ?_) (fun cdv A outer s H vs Q E hr h => ?_)
  · obtain ⟨D, d, ps, L, rfl, _⟩ := h
    rfl
  · obtain ⟨D, d, ps, L, rfl, hL, ht, hD, hn, h30, hs, hz, k⟩ := h
    have c1 := X.cl
    have f1 := X.n "data" (by decide +kernel)
    have f2 := X.n "place" (by decide +kernel)
    refine ⟨_, (pss_cons (ps_set (i := 1) scUnpack.nd rfl (Or.inl rfl) (pe_mk c_Unpacker hr (by omega) (by rfl) (pa_cons (pv 0) pa_nil)))
  (pss_cons (ps_set (i := 2) scUnpack.nd rfl (Or.inl rfl) (pe_mt0 c_Unpacker_read_value hr (by omega) (pv 1)))
  (pss_cons (ps_if (pt_cmpR op_ne (pe_fld (pv 1) rfl) (pe_callB call_len_seq (by rfl) T.len (by decide +kernel) (pa_cons (pe_fld (pv 1) rfl) pa_nil)) (nomark _))
  pss_never
  pss_nil)
  (pss_one (ps_ret (pv 2)))))), ?_⟩
    fail "go"
    fail "gmk"
    refine ⟨x, dx, D, _, _, rfl, hL, at_mem (.tail _ hD), fun H hL => ⟨rfl, ?_⟩⟩
    dsimp only [uO] at hL
    fail "go"
    refine ⟨x, dx, D, 0, 0, d, packB d, [], ps, L, rfl, hL, ht, hD, by simp, hn, Int.le_refl _, by omega, hs, hz, fun v Z ps H ht hv hL => ?_⟩
    dsimp only [uO] at hL
    fail "go"
    refine ⟨D, _, rfl, .inr (.of (hL.mem (.tail _ (.tail _ (List.mem_append_right _ hD))))), ?_⟩
    fail "go"
    refine ite_n (fun z => absurd (by rw [List.length_map, Nat.zero_add]) z) fun _ => ?_
    fail "go"
    exact k _ Z ps _ ht hv hL.tail
theorem scReadF : FnScope ["data", "found", "place", "many", "one", "end"] ["data"] (defScope sReadF) := ⟨rfl, rfl, rfl, by decide +kernel, rfl, by decide +kernel, by decide +kernel⟩
theorem ok_readF {f : Addr} {fd : FuncData} {n : Nat} (F : Fun K "read_frames" "read_frames" sReadF f fd) (T : TxtW mg) (c_unpack : Cal P w K mg base (5 + 5 * n) "unpack" (spUnpack CU PU n) []) (c_sum_of_bytes : Cal P w K mg base 1 "sum_of_bytes" spSumB []) :
    FnOk P w K mg base CX0 (6 + 5 * n) f fd ["data"] (spReadF CU PU n) := by
  have e6 : 6 + 5 * n = (5 + 5 * n) + 1 := by omega
  rw [e6]
  refine F.ok scReadF (fun vs H Q E h => ?_) (fun cdv A outer s H vs Q E hr h => ?_)
  · obtain ⟨D, ds, tail, ps, L, rfl, _⟩ := h
    rfl
  · obtain ⟨D, ds, tail, ps, L, rfl, hL, ht, hD, hds, hzl, hcut, k⟩ := h
    refine ⟨_, (pss_cons (ps_par (i := 1) (j := 2) (by rfl) scReadF.nd rfl rfl (by decide) rfl rfl (pa_cons (pe_lst pa_nil) (pa_cons pe_int pa_nil)) (by rfl))
  (pss_cons (ps_while PassesOwn.never (pt_cmpR op_le (pe_op op_add (pv 2) pe_int) (pe_callB call_len_seq (by rfl) T.len (by decide +kernel) (pa_cons (pv 0) pa_nil)) (nomark _))
  (pss_cons (ps_set (i := 3) scReadF.nd rfl (Or.inl rfl) pe_int)
  (pss_cons (ps_for PassesOwn.never rfl (pi_tup (pe_slice sl_tup (pv 0) (po_some (pv 2)) (po_some (pe_op op_add (pv 2) pe_int)))) (pg_name (i := 4) scReadF.nd rfl (Or.inl rfl))
  (pss_one (ps_set (i := 3) scReadF.nd rfl (Or.inl rfl) (pe_op op_add (pe_op op_mul (pv 3) pe_int) (pv 4)))))
  (pss_cons (ps_set (i := 5) scReadF.nd rfl (Or.inl rfl) (pe_op op_add (pe_op op_add (pe_op op_add (pv 2) pe_int) (pv 3)) pe_int))
  (pss_cons (ps_if (PW.pt (pw_or (pt_cmpR op_gt (pv 5) (pe_callB call_len_seq (by rfl) T.len (by decide +kernel) (pa_cons (pv 0) pa_nil)) (nomark _)) (pw_or1 (pt_cmpR (op_neW hr.units) (pe_c c_sum_of_bytes hr (by omega) (by rfl) (pa_cons (pe_slice sl_tup (pv 0) (po_some (pe_op op_add (pv 2) pe_int)) (po_some (pe_op op_sub (pv 5) pe_int))) pa_nil)) (pe_callTy call_tuple_of (by rfl) T.tuple (by decide +kernel) (pa_cons (pe_slice sl_tup (pv 0) (po_some (pe_op op_sub (pv 5) pe_int)) (po_some (pv 5))) pa_nil)) (nomark _)))))
  (pss_one ps_break)
  pss_nil)
  (pss_cons (ps_try_never (fun _ _ h => h) (pss_one (ps_expr (pe_bm PySem.F.plainAttrs_list PySem.F.slot_list_append PySem.F.type_list_append mt_append (pv 1) (pa_cons (pe_c c_unpack hr (by omega) (by rfl) (pa_cons (pe_slice sl_tup (pv 0) (po_some (pe_op op_add (pv 2) pe_int)) (po_some (pe_op op_sub (pv 5) pe_int))) pa_nil)) pa_nil)))) pss_nil)
  (pss_one (ps_set (i := 2) scReadF.nd rfl (Or.inl rfl) (pv 5)))))))))
  (pss_one (ps_ret (pe_tup (pa_cons (pv 1) (pa_cons (pv 2) pa_nil))))))), ?_⟩
    fail "go"
    refine ⟨fun m σ H => Hold (∃ (j : Nat) (l : Addr) (v3 v4 v5 : Option V) (vs : List V) (Z : Lg) (ps : Array Value), m = ds.length - j ∧ j ≤ ds.length ∧ σ = [some (.ref D), some (.ref l), some (.int (framesB (ds.take j)).length), v3, v4, v5] ∧ TriplesOk ps.toList ∧ DLs Z vs (ds.take j) ∧
      Led H ((l, .lst vs) :: (PU, .tbl ps) :: (Z ++ L))), ⟨_, .mk ⟨0, _, _, _, _, [], [], ps, rfl, Nat.zero_le _, rfl, ht, .nil, hL⟩⟩, fun m σ H h => ?_⟩
    clear hL ht
    obtain ⟨j, l, v3, v4, v5, vs, Z, ps, hm, hj, rfl, ht, hdl, hL⟩ := h.out
    clear h
    have hDm : (D, tI (framesB ds ++ tail)) ∈ (l, HO.lst vs) :: (PU, HO.tbl ps) :: (Z ++ L) := .tail _ (.tail _ (List.mem_append_right _ hD))
    fail "go"
    refine ⟨D, _, rfl, .inr (.of (hL.mem hDm)), ?_⟩
    fail "go"
    have hfin : (framesB (ds.take j)).length = (framesB ds).length → j = ds.length → Q (.ref p) H → Q (.ref p) H := fun _ _ h => h
    clear hfin
    have hlt : (framesB (ds.take j)).length ≤ (framesB ds ++ tail).length := by
      rw [List.length_append]
      have : (framesB (ds.take j)).length ≤ (framesB ds).length := by
        conv => rhs; rw [← List.take_append_drop j ds]
        unfold framesB
        rw [List.flatMap_append, List.length_append]
        exact Nat.le_add_right _ _
      omega
    have hdr : j = ds.length → (framesB ds ++ tail).drop (framesB (ds.take j)).length = tail := fun e => by rw [e, List.take_length, List.drop_left]
    refine ite_d (fun h8 => ?_) (fun h8 => ?_)
    · rw [List.length_map] at h8
      refine ⟨fun σ' H' => Hold (j < ds.length ∧ ∃ (v3 v4 v5 : Option V) (vs : List V) (Z : Lg) (ps : Array Value), σ' = [some (.ref D), some (.ref l), some (.int (framesB (ds.take (j + 1))).length), v3, v4, v5] ∧ TriplesOk ps.toList ∧ DLs Z vs (ds.take (j + 1)) ∧
        Led H' ((l, .lst vs) :: (PU, .tbl ps) :: (Z ++ L))), fun σ' H' h => ?_, ?_⟩
      · obtain ⟨q0, v3, v4, v5, vs, Z, ps, q1, q2, q3, q4⟩ := h.out
        exact ⟨ds.length - (j + 1), by omega, .mk ⟨j + 1, l, v3, v4, v5, vs, Z, ps, rfl, q0, q1, q2, q3, q4⟩⟩
      fail "go"
      refine k_cut (b := (framesB (ds.take j)).length + 4) hL hDm (Nat.le_add_right _ _) (by omega) (by omega) fun p4 H hL => ?_
      rw [Nat.add_sub_cancel_left] at hL
      refine ⟨p4, rfl, ⟨_, .of (hL.at ⟨0, rfl⟩)⟩, ?_⟩
      generalize hq : (framesB (ds.take j)).length = q at *
      generalize h4e : ((framesB ds ++ tail).drop q).take 4 = h4 at hL
      refine for_tupA (xs := h4.map V.int) (fun i σ H => Hold (∃ v4, σ = [some (.ref D), some (.ref l), some (.int q), some (.int (manyB (h4.take i))), v4, v5] ∧ Led H ((p4, tI h4) :: (l, .lst vs) :: (PU, .tbl ps) :: (Z ++ L)))) (.mk ⟨v4, rfl, hL⟩) (fun i σ H _ h => ?_) (fun i x σ H D1 hi h hN => ?_) (fun σ H h => ?_)
      · obtain ⟨v4, rfl, hL⟩ := h.out
        exact .of (hL.at ⟨0, rfl⟩)
      · clear hL
        obtain ⟨v4, rfl, hL⟩ := h.out
        rw [List.getElem?_map] at hi
        obtain ⟨b, hb, rfl⟩ := Option.map_eq_some_iff.mp hi
        fail "go"
        refine hN.nx _ _ (.mk ⟨some (.int b), ?_, hL⟩)
        have : manyB (h4.take (i + 1)) = manyB (h4.take i) * 256 + b := by
          rw [List.take_add_one, hb, Option.toList_some]
          unfold manyB
          rw [List.foldl_append]
          rfl
        rw [this]
        rfl
      · clear hL
        obtain ⟨v4, rfl, hL⟩ := h.out
        clear h
        rw [List.length_map, List.take_length]
        fail "go"
        replace hL := hL.tail
        rcases Nat.lt_or_ge j ds.length with hjl | hjl
        · have hd1 : ds[j]? = some ds[j] := List.getElem?_eq_getElem hjl
          generalize ds[j] = d at hd1
          obtain ⟨d1, d2, d3, d4⟩ := hds d (List.mem_of_getElem? hd1)
          have hat := frames_at hd1
          have hdq : (framesB ds ++ tail).drop q = fourB (packB d).length ++ (packB d ++ (sumB (packB d) ++ (framesB (ds.drop (j + 1)) ++ tail))) := by
            rw [hat, ← hq, List.append_assoc, List.append_assoc, List.drop_left]
            unfold frameB
            simp only [List.append_assoc]
          have h4f : h4 = fourB (packB d).length := by
            rw [← h4e, hdq]
            exact List.take_left' rfl
          have hmany : manyB h4 = (packB d).length := by
            rw [h4f]
            refine many_four (Int.natCast_nonneg _) ?_
            have : sizeLine < 4294967296 := by decide
            omega
          have hblen : (framesB ds ++ tail).length = q + ((packB d).length + 8 + ((framesB (ds.drop (j + 1))).length + tail.length)) := by
            have := congrArg List.length hdq
            rw [List.length_drop] at this
            simp only [List.length_append] at this
            simp only [fourB, sumB, List.length_cons, List.length_nil] at this
            simp only [List.length_append] at hlt ⊢
            omega
          rw [hmany]
          refine ⟨D, _, rfl, .inr (.of (hL.mem hDm)), ?_⟩
          fail "go"
          refine ite_d (fun z => absurd z (by rw [List.length_map]; omega)) fun _ => ?_
          have hs1 : ((framesB ds ++ tail).drop (q + 4)).take (packB d).length = packB d := drop_mid (x := fourB (packB d).length) hdq
          have hs2 : ((framesB ds ++ tail).drop (q + 4 + (packB d).length)).take 4 = sumB (packB d) := by
            refine drop_mid (x := packB d) (y := sumB (packB d)) (r := framesB (ds.drop (j + 1)) ++ tail) ?_
            rw [← List.drop_drop, hdq]
            exact List.drop_left' rfl
          fail "go"
          refine k_cutE (a := q + 4) (b := q + 4 + (packB d).length) hL hDm (by omega) (by push_cast; omega) (by omega) (by omega) (by omega) fun p5 H hL => ?_
          rw [Nat.add_sub_cancel_left, hs1] at hL
          fail "go"
          refine ⟨p5, packB d, _, rfl, hL, ⟨0, rfl⟩, fun r6 H hL => ?_⟩
          fail "go"
          refine k_cutE (a := q + 4 + (packB d).length) (b := q + 4 + (packB d).length + 4) hL (.tail _ (.tail _ hDm)) (by push_cast; omega) (by push_cast; omega) (by omega) (by omega) (by omega) fun p7 H hL => ?_
          rw [Nat.add_sub_cancel_left, hs2] at hL
          fail "go"
          refine ⟨p7, _, rfl, .inr ⟨.of (hL.at ⟨0, rfl⟩), ?_⟩⟩
          refine k_neW 1 (by decide) (hL.at ⟨1, rfl⟩) (hL.at ⟨0, rfl⟩) (ew_flats (n := 0) fun x hx => ?_) ?_
          · obtain ⟨i, _, rfl⟩ := List.mem_map.mp hx
            rfl
          fail "go"
          replace hL := hL.tail.tail.tail
          refine k_cutE (a := q + 4) (b := q + 4 + (packB d).length) hL hDm (by omega) (by push_cast; omega) (by omega) (by omega) (by omega) fun p8 H hL => ?_
          rw [Nat.add_sub_cancel_left, hs1] at hL
          fail "go"
          refine ⟨p8, d, ps, (p8, tI (packB d)) :: (l, .lst vs) :: (Z ++ L), rfl, hL.perm ((List.Perm.cons _ (.swap _ _ _)).trans (.swap _ _ _)), ht, .head _, d1, d2, d3, by omega, fun v Z2 ps2 H ht2 hv hL => ?_⟩
          have hL' : Led H ((l, .lst vs) :: (PU, .tbl ps2) :: ((Z2 ++ Z) ++ L)) := by fail "pm"
          clear hL
          have hL := hL'
          clear hL'
          fail "go"
          refine ⟨l, _, _, rfl, rfl, hL.at ⟨0, rfl⟩, ?_, ?_⟩
          · rw [hdl.len, List.length_take]; omega
          fail "gup"
          fail "go"
          have e9 : (((framesB (ds.take (j + 1))).length : Nat) : Int) = (q : Int) + 4 + (packB d).length + 4 := by
            rw [frames_take hd1, List.length_append, hq, frame_len]
            push_cast
            omega
          refine .mk ⟨hjl, some (.int (packB d).length), v4, some (.int ((q : Int) + 4 + (packB d).length + 4)), vs ++ [v], Z2 ++ Z, ps2, ?_, ht2, ?_, hL⟩
          · rw [e9]
            rfl
          · rw [List.take_add_one, hd1]
            exact DLs.snoc (hv.mono (fun a h => List.mem_append_left _ h)) (hdl.mono (fun a h => List.mem_append_right _ h))
        · have hjd : j = ds.length := by omega
          have hdt := hdr hjd
          rw [hdt] at h4e
          refine ⟨D, _, rfl, .inr (.of (hL.mem hDm)), ?_⟩
          fail "go"
          have hbl : (framesB ds ++ tail).length = q + tail.length := by
            have := congrArg List.length hdt
            rw [List.length_drop] at this
            omega
          refine ite_d (fun _ => ?_) (fun z => ?_)
          · fail "go"
            rw [hjd, List.take_length] at hdl hq
            rw [← hq] at hL
            exact k _ _ vs Z ps _ ht hdl hL
          · exfalso
            rw [List.length_map, hbl] at z
            rw [hbl] at h8
            rcases hcut with h | h
            · omega
            · rw [h4e] at h
              omega
    · rw [List.length_map] at h8
      have hjd : j = ds.length := by
        rcases Nat.lt_or_ge j ds.length with h | h
        · have := frames_at (List.getElem?_eq_getElem h)
          have := congrArg List.length this
          rw [List.length_append, List.length_append, frame_len] at this
          rw [List.length_append] at h8
          omega
        · omega
      rw [hjd, List.take_length] at hdl
      fail "go"
      rw [hjd, List.take_length] at hL
      exact k _ _ vs Z ps _ ht hdl hL
end
end Sd


set_option linter.unusedVariables false
namespace Sd
open PySem L2
open C8 (Cal Met Mak pe_c pe_mk pe_mt pe_mt0 pss_cut tCut)
set_option linter.unusedSimpArgs false
set_option pp.deepTerms false
set_option pp.deepTerms.threshold 12
set_option hygiene false
local macro_rules | `(tactic| fail "nd") => `(tactic| first | assumption | decide +kernel)
local macro_rules | `(tactic| fail "ix") => `(tactic| first | exact ⟨0, rfl⟩ | exact ⟨1, rfl⟩ | exact ⟨2, rfl⟩ | exact ⟨3, rfl⟩ | exact ⟨4, rfl⟩ | exact ⟨5, rfl⟩ | exact ⟨6, rfl⟩ | exact ⟨7, rfl⟩ | exact ⟨8, rfl⟩ | exact ⟨9, rfl⟩ | exact ⟨10, rfl⟩ | exact ⟨11, rfl⟩ | exact ⟨12, rfl⟩ | exact ⟨13, rfl⟩ | exact ⟨14, rfl⟩ | exact ⟨15, rfl⟩ | exact ⟨16, rfl⟩ | exact ⟨17, rfl⟩ | exact ⟨18, rfl⟩ | assumption)
local macro_rules | `(tactic| fail "up") => `(tactic| first | exact ⟨0, rfl, rfl⟩ | exact ⟨1, rfl, rfl⟩ | exact ⟨2, rfl, rfl⟩ | exact ⟨3, rfl, rfl⟩ | exact ⟨4, rfl, rfl⟩ | exact ⟨5, rfl, rfl⟩ | exact ⟨6, rfl, rfl⟩ | exact ⟨7, rfl, rfl⟩ | exact ⟨8, rfl, rfl⟩ | exact ⟨9, rfl, rfl⟩ | exact ⟨10, rfl, rfl⟩ | exact ⟨11, rfl, rfl⟩ | exact ⟨12, rfl, rfl⟩ | exact ⟨13, rfl, rfl⟩ | exact ⟨14, rfl, rfl⟩ | exact ⟨15, rfl, rfl⟩ | exact ⟨16, rfl, rfl⟩ | assumption)
local macro_rules | `(tactic| fail "lkF") => `(tactic| first | assumption | exact fz_at 0 (by fail "nd") rfl rfl | exact fz_at 1 (by fail "nd") rfl rfl | exact fz_at 2 (by fail "nd") rfl rfl | exact fz_at 3 (by fail "nd") rfl rfl | exact fz_at 4 (by fail "nd") rfl rfl | exact fz_at 5 (by fail "nd") rfl rfl | exact fz_at 6 (by fail "nd") rfl rfl | exact fz_at 7 (by fail "nd") rfl rfl)
local macro_rules | `(tactic| fail "lkD") => `(tactic| first | assumption | exact dz_at 0 (by fail "nd") rfl rfl | exact dz_at 1 (by fail "nd") rfl rfl | exact dz_at 2 (by fail "nd") rfl rfl | exact dz_at 3 (by fail "nd") rfl rfl | exact dz_at 4 (by fail "nd") rfl rfl)
local macro_rules | `(tactic| fail "ptF") => `(tactic| first | assumption | exact fz_put 0 (by fail "nd") rfl (Nat.le_of_ble_eq_true rfl) | exact fz_put 1 (by fail "nd") rfl (Nat.le_of_ble_eq_true rfl) | exact fz_put 2 (by fail "nd") rfl (Nat.le_of_ble_eq_true rfl) | exact fz_put 3 (by fail "nd") rfl (Nat.le_of_ble_eq_true rfl) | exact fz_put 4 (by fail "nd") rfl (Nat.le_of_ble_eq_true rfl) | exact fz_put 5 (by fail "nd") rfl (Nat.le_of_ble_eq_true rfl) | exact fz_put 6 (by fail "nd") rfl (Nat.le_of_ble_eq_true rfl) | exact fz_put 7 (by fail "nd") rfl (Nat.le_of_ble_eq_true rfl) | exact fz_new (by decide +kernel) rfl)
local macro_rules | `(tactic| fail "ptD") => `(tactic| first | assumption | exact dz_put 0 (by fail "nd") rfl (Nat.le_of_ble_eq_true rfl) | exact dz_put 1 (by fail "nd") rfl (Nat.le_of_ble_eq_true rfl) | exact dz_put 2 (by fail "nd") rfl (Nat.le_of_ble_eq_true rfl) | exact dz_put 3 (by fail "nd") rfl (Nat.le_of_ble_eq_true rfl) | exact dz_put 4 (by fail "nd") rfl (Nat.le_of_ble_eq_true rfl))
local macro_rules | `(tactic| fail "sz") => `(tactic| first | assumption | exact (Nat.le_of_ble_eq_true rfl) | omega | decide)
local macro_rules | `(tactic| fail "sd") => `(tactic| first | rfl | assumption | decide | omega | (dsimp only; first | decide | omega) | exact .inr ⟨by decide, by decide⟩ | exact .inl ⟨by decide, by decide⟩ | exact ⟨by omega, by omega⟩ | exact .inl ⟨by omega, by omega⟩ | exact .inr ⟨by omega, by omega⟩ | exact ⟨by omega, by omega, by omega⟩)
local macro_rules | `(tactic| fail "cl") => `(tactic| (clear hH; dsimp only [List.set, List.cons_append, List.nil_append, List.append] at hL))
local macro_rules | `(tactic| fail "gn") => `(tactic| (intro p hp; generalize hH : upd H p _ = H; replace hL := Led.newH hL hp hH; clear hH hp))
local macro_rules | `(tactic| fail "gup") => `(tactic| (generalize hH : upd H _ _ = H; replace hL := Led.upU hL (by fail "up") hH; fail "cl"))
local macro_rules | `(tactic| fail "gmk") => `(tactic| (intro x dx hx hd ne; generalize hH : upd (upd H dx _) x _ = H; replace hL := Led.made hL hx hd ne hH; clear hH hx hd ne))
local macro_rules | `(tactic| fail "v") => `(tactic| refine ⟨_, rfl, ?_⟩)
local macro_rules | `(tactic| fail "i2") => `(tactic| refine ⟨_, _, rfl, rfl, ?_⟩)
local macro_rules | `(tactic| fail "go1") => `(tactic| first
  | refine ⟨_, rfl, ?_⟩
  | refine ⟨_, _, rfl, rfl, ?_⟩
  | refine ⟨_, _, rfl, ?_⟩
  | refine iteT ?_
  | refine iteF ?_
  | refine k_fld hL (by fail "ix") (by assumption) (by assumption) (by fail "lkF") ?_
  | refine k_dgetS hL (by fail "ix") (by fail "lkD") ?_
  | refine k_dgetI hL (by fail "ix") (by assumption) ?_
  | refine k_ixL hL (by fail "ix") (by first | rfl | assumption) ?_
  | refine k_ixT hL (by fail "ix") (by first | rfl | assumption) ?_
  | refine k_tyL hL (by fail "ix") ?_
  | refine k_isd hL (by fail "ix") ?_
  | (refine And.intro (by fail "sz") ?_; fail "gn")
  | refine And.intro (by fail "sd") ?_
  | fail "gn"
  | refine k_meth hL (by fail "ix") (by first | assumption | exact fz_no (by decide +kernel)) ?_
  | refine k_gtup hL (by fail "ix") rfl ?_
  | (refine k_popI hL (by fail "ix") (by assumption) ?_; fail "gup")
  | (refine k_listD hL (by fail "ix") ?_; fail "gn")
  | (refine ⟨_, _, _, _, rfl, rfl, hL.at (by fail "ix"), rfl, ?_⟩; fail "gup")
  | (refine ⟨_, _, _, rfl, rfl, hL.at (by fail "ix"), (by fail "sz"), ?_⟩; fail "gup")
  | (refine ⟨_, _, _, _, rfl, hL.at (by fail "ix"), by assumption, by assumption, Nat.lt_of_le_of_lt fz_len (by decide), ?_⟩; generalize hH : upd H _ _ = H; replace hL := Led.upF hL (by fail "up") (by fail "ptF") hH; fail "cl")
  | (refine ⟨_, _, hL.at (by fail "ix"), Nat.lt_of_le_of_lt fz_len (by decide), ?_⟩; generalize hH : upd H _ _ = H; replace hL := Led.upF hL (by fail "up") (by fail "ptF") hH; fail "cl")
  | (refine k_dputS hL (by fail "ix") (Nat.lt_of_le_of_lt dz_len (by decide)) (by fail "ptD") (by fail "up") ?_; clear hL; intro H hL; dsimp only [List.set, List.cons_append, List.nil_append, List.append] at hL)
  | refine k_lenL2 hL (by fail "ix") ?_
  | refine k_lenT2 hL (by fail "ix") ?_
  | refine .inl ⟨_, rfl, ?_⟩
  | refine .inr ⟨_, rfl, ?_⟩)
local macro_rules | `(tactic| fail "go") => `(tactic| repeat fail "go1")
local macro_rules | `(tactic| fail "pm") => `(tactic| (refine Led.le hL (fun a_ => ?_); simp only [cnt_nil, cnt_cons, cnt_app, List.map_append, List.map_cons, List.map_nil, List.flatMap_append, List.flatMap_cons, List.flatMap_nil, List.append_assoc, List.cons_append, List.nil_append]; omega))

section
variable {X : Cx} {k j : Nat} {C : Addr} {m : Str} {sp : Sp} {dvs : List V} {pos apos : Pos} {o : Expr} {ta : TE} {E : XK}
theorem pe_mtX0 {pl : Sem Bool} (c : MetX X.prog X.w X.K X.mg X.base k C m sp dvs) (hr : Room j X.A) (hk : k ≤ j) (tk : Takes X (fun cls d _ H => E cls d H)) (he : PE X o ta)
    (ht : eval (.Call (.Attribute o m apos) [] [] pos) X.env = (do
      let ov ← eval o X.env
      standAt apos.atName
      let (f, first) ← holding [ov] (getMethod ov m pl)
      callWith pos f first (backTo pos (starEach [] X.env)) (backToKw pos (keywordEach [] X.env))) := by rfl) :
    PE X (.Call (.Attribute o m apos) [] [] pos) (tMeth C m sp dvs E ta tNil) := by
  obtain ⟨f, fd, ps, ds, hc, hm, F, b, d⟩ := c.ex
  exact pe_meth0 (pl := pl) he hc hm F (hr.mono hk) b d (passes_call tk fun _ _ _ _ h => h) ht
end
abbrev sDInit : Stmt := inCls (top 24) 0
abbrev sArm : Stmt := inCls (top 24) 1
abbrev sNeed : Stmt := inCls (top 24) 2
abbrev sDApp : Stmt := inCls (top 24) 3
abbrev sSync : Stmt := inCls (top 24) 4
abbrev sRecs : Stmt := inCls (top 24) 5
abbrev sRepl : Stmt := inCls (top 24) 6
abbrev sRFile : Stmt := inCls (top 24) 7
abbrev sCrash : Stmt := inCls (top 24) 8
abbrev sRest : Stmt := inCls (top 24) 9
def nmD : List Str := ["kept", "waiting", "files", "syncs", "fuse", "down"]
structure TxtDk (K : PySem.W.Frag) (CD : Addr) : Prop where
  cl : Cls K CD
  n : ∀ f ∈ nmD, NoAttr K CD f
/-- a file: its name, its place, its bytes -/
abbrev FilE := Str × (Addr × List Int)
def filV (e : FilE) : V := .ref e.2.1
def filO (e : FilE) : Addr × HO := (e.2.1, tI e.2.2)
/-- a disk -/
structure DkS where
  kb : List Int
  wb : List Int
  fs : List FilE
  sy : Int
  fu : Option Int
  dn : Bool
def fuV : Option Int → V
  | none => .non
  | some i => .int i
def dkO (CD x dx K W F : Addr) (s : DkS) : Addr × HO := (x, .ins CD dx (fz nmD [.ref K, .ref W, .ref F, .int s.sy, fuV s.fu, .bl s.dn]))
def dkL (CD x dx K W F : Addr) (s : DkS) : Lg := dkO CD x dx K W F s :: (K, tI s.kb) :: (W, tI s.wb) :: (F, .dK (s.fs.map (kk filV))) :: s.fs.map filO
/-- the disk does its step -/
def DkS.up (s : DkS) : Bool := !s.dn && !decide (s.fu = some 0)
def DkS.step (s : DkS) : DkS := { s with fu := s.fu.map (· - 1) }
def DkS.fall (s : DkS) : DkS := { s with dn := true }
def spDInit (CD : Addr) : Sp := fun vs H Q _ => ∃ (x dx : Addr) (L : Lg), vs = [.ref x] ∧ Led H ((x, .ins CD dx (fz [] [])) :: L) ∧ ∀ (K W F : Addr) H', Led H' (dkL CD x dx K W F ⟨[], [], [], 0, none, false⟩ ++ L) → Q .non H'
def spArm (CD : Addr) : Sp := fun vs H Q _ => ∃ (x dx K W F : Addr) (s : DkS) (i : Int) (L : Lg), vs = [.ref x, .int i] ∧ Led H (dkL CD x dx K W F s ++ L) ∧ ∀ H', Led H' (dkL CD x dx K W F { s with fu := some i } ++ L) → Q .non H'
def spNeed (CD CE : Addr) : Sp := fun vs H Q E => ∃ (x dx K W F : Addr) (s : DkS) (L : Lg), vs = [.ref x] ∧ Led H (dkL CD x dx K W F s ++ L) ∧ (s.up = true → ∀ H', Led H' (dkL CD x dx K W F s.step ++ L) → Q .non H') ∧
  (s.up = false → ∀ H', Led H' (dkL CD x dx K W F s.fall ++ L) → E (.ref CE) none H')
section
variable {P : Program} {w : World} {K : PySem.W.Frag} {mg : Str → Option Value} {base : Heap} {CD CE : Addr}
theorem scDInit : FnScope ["self"] ["self"] (defScope sDInit) := ⟨rfl, rfl, rfl, by decide +kernel, rfl, by decide +kernel, by decide +kernel⟩
theorem ok_DInit {f : Addr} {fd : FuncData} (F : Fun K "__init__" "Disk.__init__" sDInit f fd) (X : TxtDk K CD) : FnOk P w K mg base CX0 1 f fd ["self"] (spDInit CD) := by
  refine F.ok scDInit (fun vs H Q E h => ?_) (fun cdv A outer s H vs Q E hr h => ?_)
  · obtain ⟨x, dx, L, rfl, _⟩ := h
    rfl
  · obtain ⟨x, dx, L, rfl, hL, k⟩ := h
    have c1 := X.cl
    have f1 := X.n "kept" (by decide +kernel)
    have f2 := X.n "waiting" (by decide +kernel)
    have f3 := X.n "files" (by decide +kernel)
    have f4 := X.n "syncs" (by decide +kernel)
    have f5 := X.n "fuse" (by decide +kernel)
    have f6 := X.n "down" (by decide +kernel)
    refine ⟨_, (pss_cons (ps_fld (pv 0) (pe_tup pa_nil) rfl)
  (pss_cons (ps_fld (pv 0) (pe_tup pa_nil) rfl)
  (pss_cons (ps_fld (pv 0) pe_dnewK rfl)
  (pss_cons (ps_fld (pv 0) pe_int rfl)
  (pss_cons (ps_fld (pv 0) pe_non rfl)
  (pss_one (ps_fld (pv 0) pe_bl rfl))))))), ?_⟩
    fail "go"
    rename_i a1 _ _ a2 _ _ _ _ _ _
    refine k a1 a2 p H (hL.le (fun a_ => ?_))
    simp only [dkL, dkO, cnt_nil, cnt_cons, cnt_app, List.cons_append, List.nil_append, List.map_nil]
    have e1 : fuV none = .non := rfl
    have e2 : tI [] = .tup [] := rfl
    simp only [e1, e2, nmD]
    omega
theorem scArm : FnScope ["self", "steps"] ["self", "steps"] (defScope sArm) := ⟨rfl, rfl, rfl, by decide +kernel, rfl, by decide +kernel, by decide +kernel⟩
theorem ok_arm {f : Addr} {fd : FuncData} (F : Fun K "arm" "Disk.arm" sArm f fd) (X : TxtDk K CD) : FnOk P w K mg base CX0 1 f fd ["self", "steps"] (spArm CD) := by
  refine F.ok scArm (fun vs H Q E h => ?_) (fun cdv A outer s H vs Q E hr h => ?_)
  · obtain ⟨x, dx, K, W, F, s, i, L, rfl, _⟩ := h
    rfl
  · obtain ⟨x, dx, KK, W, F, s, i, L, rfl, hL, k⟩ := h
    have c1 := X.cl
    have f5 := X.n "fuse" (by decide +kernel)
    refine ⟨_, (pss_one (ps_fld (pv 0) (pv 1) rfl)), ?_⟩
    dsimp only [dkL, dkO, List.cons_append] at hL
    fail "go"
    exact k _ hL
theorem scNeed : FnScope ["self"] ["self"] (defScope sNeed) := ⟨rfl, rfl, rfl, by decide +kernel, rfl, by decide +kernel, by decide +kernel⟩
theorem ok_need {f : Addr} {fd : FuncData} (F : Fun K "need_up" "Disk.need_up" sNeed f fd) (X : TxtDk K CD) (TE : ExcT K mg "StoreError" CE) : FnOk P w K mg base (L2.CX P w) 1 f fd ["self"] (spNeed CD CE) := by
  refine F.okX scNeed (fun vs H Q E h => ?_) (fun cdv A outer s H vs Q E hr h => ?_)
  · obtain ⟨x, dx, K, W, F, s, L, rfl, _⟩ := h
    rfl
  · obtain ⟨x, dx, KK, W, F, s, L, rfl, hL, k1, k2⟩ := h
    have c1 := X.cl
    have f5 := X.n "fuse" (by decide +kernel)
    have f6 := X.n "down" (by decide +kernel)
    refine ⟨_, pss_cons (ps_if (pt_cmpR op_eq (pe_fld (pv 0) rfl) pe_int (nomark _)) (pss_one (ps_fld (pv 0) pe_bl rfl)) pss_nil)
      (pss_cons (ps_if (pt_val (pe_fld (pv 0) rfl)) (pss_one (ps_raiseT TE rfl (takes_of rfl rfl rfl (E := E) rfl) rfl)) pss_nil)
      (pss_one (ps_if (pt_cmpR op_notN (pe_fld (pv 0) rfl) pe_non (nomark _)) (pss_one (ps_fldaug (pv 0) pe_int in_sub)) pss_nil))), ?_⟩
    obtain ⟨kb, wb, fs, sy, fu, dn⟩ := s
    dsimp only [dkL, dkO, List.cons_append] at hL
    have hdown : ∀ H, Led H ((x, HO.ins CD dx (fz nmD [.ref KK, .ref W, .ref F, .int sy, fuV fu, .bl true])) :: (KK, tI kb) :: (W, tI wb) :: (F, .dK (fs.map (kk filV))) :: (fs.map filO ++ L)) → DkS.up ⟨kb, wb, fs, sy, fu, dn⟩ = false → E (.ref CE) none H := fun H hL hu => k2 hu H hL
    cases fu with
    | none =>
      dsimp only [fuV] at hL hdown
      cases dn with
      | true =>
        fail "go"
        exact hdown _ hL rfl
      | false =>
        fail "go"
        exact k1 rfl _ hL
    | some i =>
      dsimp only [fuV] at hL hdown
      fail "go"
      refine ite_d (fun q => ?_) fun q => ?_
      · obtain rfl := V.int.inj q
        fail "go"
        exact hdown _ hL (by unfold DkS.up; simp)
      · have hi : ¬ i = 0 := fun e => q (by rw [e])
        cases dn with
        | true =>
          fail "go"
          exact hdown _ hL rfl
        | false =>
          fail "go"
          exact k1 (by unfold DkS.up; simp [hi]) _ hL
end
end Sd


set_option linter.unusedVariables false
namespace Sd
open PySem L2
open C8 (Cal Met Mak pe_c pe_mk pe_mt pe_mt0 pss_cut tCut)
set_option linter.unusedSimpArgs false
set_option pp.deepTerms false
set_option pp.deepTerms.threshold 12
set_option hygiene false
local macro_rules | `(tactic| fail "nd") => `(tactic| first | assumption | decide +kernel)
local macro_rules | `(tactic| fail "ix") => `(tactic| first | exact ⟨0, rfl⟩ | exact ⟨1, rfl⟩ | exact ⟨2, rfl⟩ | exact ⟨3, rfl⟩ | exact ⟨4, rfl⟩ | exact ⟨5, rfl⟩ | exact ⟨6, rfl⟩ | exact ⟨7, rfl⟩ | exact ⟨8, rfl⟩ | exact ⟨9, rfl⟩ | exact ⟨10, rfl⟩ | exact ⟨11, rfl⟩ | exact ⟨12, rfl⟩ | exact ⟨13, rfl⟩ | exact ⟨14, rfl⟩ | exact ⟨15, rfl⟩ | exact ⟨16, rfl⟩ | exact ⟨17, rfl⟩ | exact ⟨18, rfl⟩ | assumption)
local macro_rules | `(tactic| fail "up") => `(tactic| first | exact ⟨0, rfl, rfl⟩ | exact ⟨1, rfl, rfl⟩ | exact ⟨2, rfl, rfl⟩ | exact ⟨3, rfl, rfl⟩ | exact ⟨4, rfl, rfl⟩ | exact ⟨5, rfl, rfl⟩ | exact ⟨6, rfl, rfl⟩ | exact ⟨7, rfl, rfl⟩ | exact ⟨8, rfl, rfl⟩ | exact ⟨9, rfl, rfl⟩ | exact ⟨10, rfl, rfl⟩ | exact ⟨11, rfl, rfl⟩ | exact ⟨12, rfl, rfl⟩ | exact ⟨13, rfl, rfl⟩ | exact ⟨14, rfl, rfl⟩ | exact ⟨15, rfl, rfl⟩ | exact ⟨16, rfl, rfl⟩ | assumption)
local macro_rules | `(tactic| fail "lkF") => `(tactic| first | assumption | exact fz_at 0 (by fail "nd") rfl rfl | exact fz_at 1 (by fail "nd") rfl rfl | exact fz_at 2 (by fail "nd") rfl rfl | exact fz_at 3 (by fail "nd") rfl rfl | exact fz_at 4 (by fail "nd") rfl rfl | exact fz_at 5 (by fail "nd") rfl rfl | exact fz_at 6 (by fail "nd") rfl rfl | exact fz_at 7 (by fail "nd") rfl rfl)
local macro_rules | `(tactic| fail "lkD") => `(tactic| first | assumption | exact dz_at 0 (by fail "nd") rfl rfl | exact dz_at 1 (by fail "nd") rfl rfl | exact dz_at 2 (by fail "nd") rfl rfl | exact dz_at 3 (by fail "nd") rfl rfl | exact dz_at 4 (by fail "nd") rfl rfl)
local macro_rules | `(tactic| fail "ptF") => `(tactic| first | assumption | exact fz_put 0 (by fail "nd") rfl (Nat.le_of_ble_eq_true rfl) | exact fz_put 1 (by fail "nd") rfl (Nat.le_of_ble_eq_true rfl) | exact fz_put 2 (by fail "nd") rfl (Nat.le_of_ble_eq_true rfl) | exact fz_put 3 (by fail "nd") rfl (Nat.le_of_ble_eq_true rfl) | exact fz_put 4 (by fail "nd") rfl (Nat.le_of_ble_eq_true rfl) | exact fz_put 5 (by fail "nd") rfl (Nat.le_of_ble_eq_true rfl) | exact fz_put 6 (by fail "nd") rfl (Nat.le_of_ble_eq_true rfl) | exact fz_put 7 (by fail "nd") rfl (Nat.le_of_ble_eq_true rfl) | exact fz_new (by decide +kernel) rfl)
local macro_rules | `(tactic| fail "ptD") => `(tactic| first | assumption | exact dz_put 0 (by fail "nd") rfl (Nat.le_of_ble_eq_true rfl) | exact dz_put 1 (by fail "nd") rfl (Nat.le_of_ble_eq_true rfl) | exact dz_put 2 (by fail "nd") rfl (Nat.le_of_ble_eq_true rfl) | exact dz_put 3 (by fail "nd") rfl (Nat.le_of_ble_eq_true rfl) | exact dz_put 4 (by fail "nd") rfl (Nat.le_of_ble_eq_true rfl))
local macro_rules | `(tactic| fail "sz") => `(tactic| first | assumption | exact (Nat.le_of_ble_eq_true rfl) | omega | decide)
local macro_rules | `(tactic| fail "sd") => `(tactic| first | rfl | assumption | decide | omega | (dsimp only; first | decide | omega) | exact .inr ⟨by decide, by decide⟩ | exact .inl ⟨by decide, by decide⟩ | exact ⟨by omega, by omega⟩ | exact .inl ⟨by omega, by omega⟩ | exact .inr ⟨by omega, by omega⟩ | exact ⟨by omega, by omega, by omega⟩)
local macro_rules | `(tactic| fail "cl") => `(tactic| (clear hH; dsimp only [List.set, List.cons_append, List.nil_append, List.append] at hL))
local macro_rules | `(tactic| fail "gn") => `(tactic| (intro p hp; generalize hH : upd H p _ = H; replace hL := Led.newH hL hp hH; clear hH hp))
local macro_rules | `(tactic| fail "gup") => `(tactic| (generalize hH : upd H _ _ = H; replace hL := Led.upU hL (by fail "up") hH; fail "cl"))
local macro_rules | `(tactic| fail "gmk") => `(tactic| (intro x dx hx hd ne; generalize hH : upd (upd H dx _) x _ = H; replace hL := Led.made hL hx hd ne hH; clear hH hx hd ne))
local macro_rules | `(tactic| fail "v") => `(tactic| refine ⟨_, rfl, ?_⟩)
local macro_rules | `(tactic| fail "i2") => `(tactic| refine ⟨_, _, rfl, rfl, ?_⟩)
local macro_rules | `(tactic| fail "go1") => `(tactic| first
  | refine ⟨_, rfl, ?_⟩
  | refine ⟨_, _, rfl, rfl, ?_⟩
  | refine ⟨_, _, rfl, ?_⟩
  | refine iteT ?_
  | refine iteF ?_
  | refine k_fld hL (by fail "ix") (by assumption) (by assumption) (by fail "lkF") ?_
  | refine k_dgetS hL (by fail "ix") (by fail "lkD") ?_
  | refine k_dgetI hL (by fail "ix") (by assumption) ?_
  | refine k_ixL hL (by fail "ix") (by first | rfl | assumption) ?_
  | refine k_ixT hL (by fail "ix") (by first | rfl | assumption) ?_
  | refine k_tyL hL (by fail "ix") ?_
  | refine k_isd hL (by fail "ix") ?_
  | (refine And.intro (by fail "sz") ?_; fail "gn")
  | refine And.intro (by fail "sd") ?_
  | fail "gn"
  | refine k_meth hL (by fail "ix") (by first | assumption | exact fz_no (by decide +kernel)) ?_
  | refine k_gtup hL (by fail "ix") rfl ?_
  | (refine k_popI hL (by fail "ix") (by assumption) ?_; fail "gup")
  | (refine k_listD hL (by fail "ix") ?_; fail "gn")
  | (refine ⟨_, _, _, _, rfl, rfl, hL.at (by fail "ix"), rfl, ?_⟩; fail "gup")
  | (refine ⟨_, _, _, rfl, rfl, hL.at (by fail "ix"), (by fail "sz"), ?_⟩; fail "gup")
  | (refine ⟨_, _, _, _, rfl, hL.at (by fail "ix"), by assumption, by assumption, Nat.lt_of_le_of_lt fz_len (by decide), ?_⟩; generalize hH : upd H _ _ = H; replace hL := Led.upF hL (by fail "up") (by fail "ptF") hH; fail "cl")
  | (refine ⟨_, _, hL.at (by fail "ix"), Nat.lt_of_le_of_lt fz_len (by decide), ?_⟩; generalize hH : upd H _ _ = H; replace hL := Led.upF hL (by fail "up") (by fail "ptF") hH; fail "cl")
  | (refine k_dputS hL (by fail "ix") (Nat.lt_of_le_of_lt dz_len (by decide)) (by fail "ptD") (by fail "up") ?_; clear hL; intro H hL; dsimp only [List.set, List.cons_append, List.nil_append, List.append] at hL)
  | refine k_lenL2 hL (by fail "ix") ?_
  | refine k_lenT2 hL (by fail "ix") ?_
  | refine .inl ⟨_, rfl, ?_⟩
  | refine .inr ⟨_, rfl, ?_⟩)
local macro_rules | `(tactic| fail "go") => `(tactic| repeat fail "go1")
local macro_rules | `(tactic| fail "pm") => `(tactic| (refine Led.le hL (fun a_ => ?_); simp only [cnt_nil, cnt_cons, cnt_app, List.map_append, List.map_cons, List.map_nil, List.flatMap_append, List.flatMap_cons, List.flatMap_nil, List.append_assoc, List.cons_append, List.nil_append]; omega))

local macro_rules | `(tactic| fail "pmt") => `(tactic| (try dsimp only [tI] at hL); (try dsimp only [tI]); (refine Led.le hL (fun a_ => ?_); simp only [cnt_nil, cnt_cons, cnt_app, List.map_append, List.map_cons, List.map_nil, List.flatMap_append, List.flatMap_cons, List.flatMap_nil, List.append_assoc, List.cons_append, List.nil_append]; omega))
/-- data that a frame takes -/
def Pk (n : Nat) (d : Dv) : Prop := deep d < n ∧ deep d ≤ 30 ∧ sendable d ∧ (packB d).length + 8 ≤ sizeLine
def spDApp (CD CE PN : Addr) (n : Nat) : Sp := fun vs H Q E => ∃ (x dx K W F : Addr) (s : DkS) (v : V) (d : Dv) (ps : Array Value) (L : Lg), vs = [.ref x, v] ∧ Led H ((PN, .tbl ps) :: (dkL CD x dx K W F s ++ L)) ∧ TriplesOk ps.toList ∧ DL L v d ∧ Pk n d ∧ s.wb.length + ((packB d).length + 8) ≤ sizeLine ∧
  (s.up = true → ∀ (W' : Addr) (ps' : Array Value) H', TriplesOk ps'.toList → Led H' ((PN, .tbl ps') :: (dkL CD x dx K W' F { s.step with wb := s.wb ++ frameB (packB d) } ++ L)) → Q .non H') ∧
  (s.up = false → ∀ (ps' : Array Value) H', TriplesOk ps'.toList → Led H' ((PN, .tbl ps') :: (dkL CD x dx K W F s.fall ++ L)) → E (.ref CE) none H')
def spSync (CD CE : Addr) : Sp := fun vs H Q E => ∃ (x dx K W F : Addr) (s : DkS) (L : Lg), vs = [.ref x] ∧ Led H (dkL CD x dx K W F s ++ L) ∧ s.kb.length + s.wb.length ≤ sizeLine ∧
  (s.up = true → ∀ (K' W' : Addr) H', Led H' (dkL CD x dx K' W' F { s.step with kb := s.kb ++ s.wb, wb := [], sy := s.sy + 1 } ++ L) → Q .non H') ∧
  (s.up = false → ∀ H', Led H' (dkL CD x dx K W F s.fall ++ L) → E (.ref CE) none H')
def spCrash (CD : Addr) : Sp := fun vs H Q E => ∃ (x dx K W F : Addr) (s : DkS) (m : Nat) (L : Lg), vs = [.ref x, .int m] ∧ Led H (dkL CD x dx K W F s ++ L) ∧ s.kb.length + s.wb.length ≤ sizeLine ∧
  ∀ (K' W' : Addr) H', Led H' (dkL CD x dx K' W' F { s with kb := s.kb ++ s.wb.take m, wb := [], dn := true } ++ L) → Q .non H'
section
variable {K : PySem.W.Frag} {H : Hp} {L : Lg} {D : Addr} {Q : VK}
/-- t[:m]: t is given up -/
theorem k_takeA {bs : List Int} {m : Nat} (hL : Led H ((D, tI bs) :: L)) (k : ∀ r H', Led H' ((r, tI (bs.take m)) :: L) → Q (.ref r) H') : rSlA K (.ref D) none (some (m : Int)) H Q := by
  refine ⟨D, _, rfl, .of (hL.at ⟨0, rfl⟩), fun e => ?_, fun _ p hp => ?_⟩
  · have e2 := e.2
    rw [HT.sIx_nat, List.length_map] at e2
    have : bs.take m = bs := List.take_of_length_le (by omega)
    rw [this] at k
    exact k _ _ hL
  · have e1 : cutV (bs.map V.int) none (some (m : Int)) = (bs.take m).map V.int := by
      unfold cutV
      rw [HT.sIx_none, HT.sIx_nat, List.drop_zero, Nat.sub_zero, List.length_map, ← List.map_take]
      congr 1
      rcases Nat.le_total m bs.length with h | h
      · rw [Nat.min_eq_left h]
      · rw [Nat.min_eq_right h, List.take_length, List.take_of_length_le h]
    rw [e1]
    exact k _ _ ((hL.new hp).sub (.cons_cons _ (.cons _ (.refl _))))
end
section
variable {P : Program} {w : World} {K : PySem.W.Frag} {mg : Str → Option Value} {base : Heap} {CD CE : Addr}
theorem scDApp : FnScope ["self", "value", "framed"] ["self", "value"] (defScope sDApp) := ⟨rfl, rfl, rfl, by decide +kernel, rfl, by decide +kernel, by decide +kernel⟩
theorem ok_DApp {f : Addr} {fd : FuncData} {PN : Addr} {n : Nat} (F : Fun K "append" "Disk.append" sDApp f fd) (X : TxtDk K CD) (c_frame : Cal P w K mg base (6 + n) "frame" (spFrame PN n) []) (c_Disk_need_up : MetX P w K mg base 1 CD "need_up" (spNeed CD CE) []) :
    FnOk P w K mg base (L2.CX P w) (7 + n) f fd ["self", "value"] (spDApp CD CE PN n) := by
  have e6 : 7 + n = (6 + n) + 1 := by omega
  rw [e6]
  refine F.okX scDApp (fun vs H Q E h => ?_) (fun cdv A outer s0 H vs Q E hr h => ?_)
  · obtain ⟨x, dx, K, W, F, s, v, d, ps, L, rfl, _⟩ := h
    rfl
  · obtain ⟨x, dx, KK, W, F, s, v, d, ps, L, rfl, hL, ht, hd, ⟨p1, p2, p3, p4⟩, hz, k1, k2⟩ := h
    have c1 := X.cl
    have f2 := X.n "waiting" (by decide +kernel)
    refine ⟨_, (pss_cons (ps_set (i := 2) scDApp.nd rfl (Or.inl rfl) (pe_c c_frame hr (by omega) (by rfl) (pa_cons (pv 1) pa_nil)))
  (pss_cons (ps_expr (pe_mtX0 c_Disk_need_up hr (by omega) (takes_of rfl rfl rfl (E := E) rfl) (pv 0)))
  (pss_one (ps_fldaug (pv 0) (pv 2) iop_catA)))), ?_⟩
    fail "go"
    refine ⟨v, d, ps, _, rfl, hL, ht, hd.mono (fun a h => List.mem_append_right _ h), p1, p2, p3, p4, fun ps r H ht hL => ?_⟩
    fail "go"
    have hL2 : Led H (dkL CD x dx KK W F s ++ ((r, tI (frameB (packB d))) :: (PN, .tbl ps) :: L)) := by fail "pm"
    clear hL
    refine ⟨x, dx, KK, W, F, s, _, rfl, hL2, fun hu H hL => ?_, fun hu H hL => ?_⟩
    · clear hL2
      obtain ⟨kb, wb, fs, sy, fu, dn⟩ := s
      dsimp only [DkS.step] at k1 hL hz
      dsimp only [dkL, dkO, List.cons_append] at hL
      fail "go"
      refine k_catA (L := (x, HO.ins CD dx (fz nmD [.ref KK, .ref W, .ref F, .int sy, fuV (fu.map (· - 1)), .bl dn])) :: (KK, tI kb) :: (F, .dK (fs.map (kk filV))) :: (PN, .tbl ps) :: (fs.map filO ++ L)) (b := r) (ys := (frameB (packB d)).map .int) (xs := wb.map .int) (by fail "pmt") (by rw [List.length_map, List.length_map, frame_len]; omega) fun rc H hL => ?_
      fail "go"
      refine k1 hu rc ps H ht ?_
      dsimp only [dkL, dkO]
      rw [← List.map_append] at hL
      fail "pmt"
    · exact k2 hu ps H ht (by fail "pm")
theorem scSync : FnScope ["self"] ["self"] (defScope sSync) := ⟨rfl, rfl, rfl, by decide +kernel, rfl, by decide +kernel, by decide +kernel⟩
theorem ok_sync {f : Addr} {fd : FuncData} (F : Fun K "sync" "Disk.sync" sSync f fd) (X : TxtDk K CD) (c_Disk_need_up : MetX P w K mg base 1 CD "need_up" (spNeed CD CE) []) :
    FnOk P w K mg base (L2.CX P w) 2 f fd ["self"] (spSync CD CE) := by
  refine F.okX scSync (fun vs H Q E h => ?_) (fun cdv A outer s0 H vs Q E hr h => ?_)
  · obtain ⟨x, dx, K, W, F, s, L, rfl, _⟩ := h
    rfl
  · obtain ⟨x, dx, KK, W, F, s, L, rfl, hL, hz, k1, k2⟩ := h
    have c1 := X.cl
    have f1 := X.n "kept" (by decide +kernel)
    have f2 := X.n "waiting" (by decide +kernel)
    have f4 := X.n "syncs" (by decide +kernel)
    refine ⟨_, (pss_cons (ps_expr (pe_mtX0 c_Disk_need_up hr (by decide) (takes_of rfl rfl rfl (E := E) rfl) (pv 0)))
  (pss_cons (ps_fldaug (pv 0) (pe_fld (pv 0) rfl) iop_catA)
  (pss_cons (ps_fld (pv 0) (pe_tup pa_nil) rfl)
  (pss_one (ps_fldaug (pv 0) pe_int in_add))))), ?_⟩
    fail "go"
    refine ⟨x, dx, KK, W, F, s, _, rfl, hL, fun hu H hL => ?_, fun hu H hL => ?_⟩
    · obtain ⟨kb, wb, fs, sy, fu, dn⟩ := s
      dsimp only [DkS.step] at k1 hL hz
      dsimp only [dkL, dkO, List.cons_append] at hL
      fail "go"
      refine k_catA (L := (x, HO.ins CD dx (fz nmD [.ref KK, .ref W, .ref F, .int sy, fuV (fu.map (· - 1)), .bl dn])) :: (F, .dK (fs.map (kk filV))) :: (fs.map filO ++ L)) (b := W) (ys := wb.map .int) (xs := kb.map .int) (by fail "pmt") (by rw [List.length_map, List.length_map]; omega) fun rc H hL => ?_
      fail "go"
      refine k1 hu rc p H ?_
      dsimp only [dkL, dkO]
      rw [← List.map_append] at hL
      fail "pmt"
    · exact k2 hu H hL
theorem scCrash : FnScope ["self", "many"] ["self", "many"] (defScope sCrash) := ⟨rfl, rfl, rfl, by decide +kernel, rfl, by decide +kernel, by decide +kernel⟩
theorem ok_crash {f : Addr} {fd : FuncData} (F : Fun K "crash" "Disk.crash" sCrash f fd) (X : TxtDk K CD) : FnOk P w K mg base CX0 1 f fd ["self", "many"] (spCrash CD) := by
  refine F.ok scCrash (fun vs H Q E h => ?_) (fun cdv A outer s0 H vs Q E hr h => ?_)
  · obtain ⟨x, dx, K, W, F, s, m, L, rfl, _⟩ := h
    rfl
  · obtain ⟨x, dx, KK, W, F, s, m, L, rfl, hL, hz, k⟩ := h
    have c1 := X.cl
    have f1 := X.n "kept" (by decide +kernel)
    have f2 := X.n "waiting" (by decide +kernel)
    have f6 := X.n "down" (by decide +kernel)
    refine ⟨_, (pss_cons (ps_fldaug (pv 0) (pe_slice sl_tupA (pe_fld (pv 0) rfl) po_none (po_some (pv 1))) iop_catA)
  (pss_cons (ps_fld (pv 0) (pe_tup pa_nil) rfl)
  (pss_one (ps_fld (pv 0) pe_bl rfl)))), ?_⟩
    obtain ⟨kb, wb, fs, sy, fu, dn⟩ := s
    dsimp only at k hz
    dsimp only [dkL, dkO, List.cons_append] at hL
    fail "go"
    refine k_takeA (D := W) (bs := wb) (L := (x, HO.ins CD dx (fz nmD [.ref KK, .ref W, .ref F, .int sy, fuV fu, .bl dn])) :: (KK, tI kb) :: (F, .dK (fs.map (kk filV))) :: (fs.map filO ++ L)) (by fail "pmt") fun r H hL => ?_
    refine k_catA (L := (x, HO.ins CD dx (fz nmD [.ref KK, .ref W, .ref F, .int sy, fuV fu, .bl dn])) :: (F, .dK (fs.map (kk filV))) :: (fs.map filO ++ L)) (b := r) (ys := (wb.take m).map .int) (xs := kb.map .int) (by fail "pmt") (by rw [List.length_map, List.length_map, List.length_take]; omega) fun rc H hL => ?_
    fail "go"
    refine k rc p H ?_
    dsimp only [dkL, dkO]
    rw [← List.map_append] at hL
    fail "pmt"
end
end Sd


set_option linter.unusedVariables false
namespace Sd
open PySem L2
open C8 (Cal Met Mak pe_c pe_mk pe_mt pe_mt0 pss_cut tCut)
set_option linter.unusedSimpArgs false
set_option pp.deepTerms false
set_option pp.deepTerms.threshold 12
set_option hygiene false
local macro_rules | `(tactic| fail "nd") => `(tactic| first | assumption | decide +kernel)
local macro_rules | `(tactic| fail "ix") => `(tactic| first | exact ⟨0, rfl⟩ | exact ⟨1, rfl⟩ | exact ⟨2, rfl⟩ | exact ⟨3, rfl⟩ | exact ⟨4, rfl⟩ | exact ⟨5, rfl⟩ | exact ⟨6, rfl⟩ | exact ⟨7, rfl⟩ | exact ⟨8, rfl⟩ | exact ⟨9, rfl⟩ | exact ⟨10, rfl⟩ | exact ⟨11, rfl⟩ | exact ⟨12, rfl⟩ | exact ⟨13, rfl⟩ | exact ⟨14, rfl⟩ | exact ⟨15, rfl⟩ | exact ⟨16, rfl⟩ | exact ⟨17, rfl⟩ | exact ⟨18, rfl⟩ | assumption)
local macro_rules | `(tactic| fail "up") => `(tactic| first | exact ⟨0, rfl, rfl⟩ | exact ⟨1, rfl, rfl⟩ | exact ⟨2, rfl, rfl⟩ | exact ⟨3, rfl, rfl⟩ | exact ⟨4, rfl, rfl⟩ | exact ⟨5, rfl, rfl⟩ | exact ⟨6, rfl, rfl⟩ | exact ⟨7, rfl, rfl⟩ | exact ⟨8, rfl, rfl⟩ | exact ⟨9, rfl, rfl⟩ | exact ⟨10, rfl, rfl⟩ | exact ⟨11, rfl, rfl⟩ | exact ⟨12, rfl, rfl⟩ | exact ⟨13, rfl, rfl⟩ | exact ⟨14, rfl, rfl⟩ | exact ⟨15, rfl, rfl⟩ | exact ⟨16, rfl, rfl⟩ | assumption)
local macro_rules | `(tactic| fail "lkF") => `(tactic| first | assumption | exact fz_at 0 (by fail "nd") rfl rfl | exact fz_at 1 (by fail "nd") rfl rfl | exact fz_at 2 (by fail "nd") rfl rfl | exact fz_at 3 (by fail "nd") rfl rfl | exact fz_at 4 (by fail "nd") rfl rfl | exact fz_at 5 (by fail "nd") rfl rfl | exact fz_at 6 (by fail "nd") rfl rfl | exact fz_at 7 (by fail "nd") rfl rfl)
local macro_rules | `(tactic| fail "lkD") => `(tactic| first | assumption | exact dz_at 0 (by fail "nd") rfl rfl | exact dz_at 1 (by fail "nd") rfl rfl | exact dz_at 2 (by fail "nd") rfl rfl | exact dz_at 3 (by fail "nd") rfl rfl | exact dz_at 4 (by fail "nd") rfl rfl)
local macro_rules | `(tactic| fail "ptF") => `(tactic| first | assumption | exact fz_put 0 (by fail "nd") rfl (Nat.le_of_ble_eq_true rfl) | exact fz_put 1 (by fail "nd") rfl (Nat.le_of_ble_eq_true rfl) | exact fz_put 2 (by fail "nd") rfl (Nat.le_of_ble_eq_true rfl) | exact fz_put 3 (by fail "nd") rfl (Nat.le_of_ble_eq_true rfl) | exact fz_put 4 (by fail "nd") rfl (Nat.le_of_ble_eq_true rfl) | exact fz_put 5 (by fail "nd") rfl (Nat.le_of_ble_eq_true rfl) | exact fz_put 6 (by fail "nd") rfl (Nat.le_of_ble_eq_true rfl) | exact fz_put 7 (by fail "nd") rfl (Nat.le_of_ble_eq_true rfl) | exact fz_new (by decide +kernel) rfl)
local macro_rules | `(tactic| fail "ptD") => `(tactic| first | assumption | exact dz_put 0 (by fail "nd") rfl (Nat.le_of_ble_eq_true rfl) | exact dz_put 1 (by fail "nd") rfl (Nat.le_of_ble_eq_true rfl) | exact dz_put 2 (by fail "nd") rfl (Nat.le_of_ble_eq_true rfl) | exact dz_put 3 (by fail "nd") rfl (Nat.le_of_ble_eq_true rfl) | exact dz_put 4 (by fail "nd") rfl (Nat.le_of_ble_eq_true rfl))
local macro_rules | `(tactic| fail "sz") => `(tactic| first | assumption | exact (Nat.le_of_ble_eq_true rfl) | omega | decide)
local macro_rules | `(tactic| fail "sd") => `(tactic| first | rfl | assumption | decide | omega | (dsimp only; first | decide | omega) | exact .inr ⟨by decide, by decide⟩ | exact .inl ⟨by decide, by decide⟩ | exact ⟨by omega, by omega⟩ | exact .inl ⟨by omega, by omega⟩ | exact .inr ⟨by omega, by omega⟩ | exact ⟨by omega, by omega, by omega⟩)
local macro_rules | `(tactic| fail "cl") => `(tactic| (clear hH; dsimp only [List.set, List.cons_append, List.nil_append, List.append] at hL))
local macro_rules | `(tactic| fail "gn") => `(tactic| (intro p hp; generalize hH : upd H p _ = H; replace hL := Led.newH hL hp hH; clear hH hp))
local macro_rules | `(tactic| fail "gup") => `(tactic| (generalize hH : upd H _ _ = H; replace hL := Led.upU hL (by fail "up") hH; fail "cl"))
local macro_rules | `(tactic| fail "gmk") => `(tactic| (intro x dx hx hd ne; generalize hH : upd (upd H dx _) x _ = H; replace hL := Led.made hL hx hd ne hH; clear hH hx hd ne))
local macro_rules | `(tactic| fail "v") => `(tactic| refine ⟨_, rfl, ?_⟩)
local macro_rules | `(tactic| fail "i2") => `(tactic| refine ⟨_, _, rfl, rfl, ?_⟩)
local macro_rules | `(tactic| fail "go1") => `(tactic| first
  | refine ⟨_, rfl, ?_⟩
  | refine ⟨_, _, rfl, rfl, ?_⟩
  | refine ⟨_, _, rfl, ?_⟩
  | refine iteT ?_
  | refine iteF ?_
  | refine k_fld hL (by fail "ix") (by assumption) (by assumption) (by fail "lkF") ?_
  | refine k_dgetS hL (by fail "ix") (by fail "lkD") ?_
  | refine k_dgetI hL (by fail "ix") (by assumption) ?_
  | refine k_ixL hL (by fail "ix") (by first | rfl | assumption) ?_
  | refine k_ixT hL (by fail "ix") (by first | rfl | assumption) ?_
  | refine k_tyL hL (by fail "ix") ?_
  | refine k_isd hL (by fail "ix") ?_
  | (refine And.intro (by fail "sz") ?_; fail "gn")
  | refine And.intro (by fail "sd") ?_
  | fail "gn"
  | refine k_meth hL (by fail "ix") (by first | assumption | exact fz_no (by decide +kernel)) ?_
  | refine k_gtup hL (by fail "ix") rfl ?_
  | (refine k_popI hL (by fail "ix") (by assumption) ?_; fail "gup")
  | (refine k_listD hL (by fail "ix") ?_; fail "gn")
  | (refine ⟨_, _, _, _, rfl, rfl, hL.at (by fail "ix"), rfl, ?_⟩; fail "gup")
  | (refine ⟨_, _, _, rfl, rfl, hL.at (by fail "ix"), (by fail "sz"), ?_⟩; fail "gup")
  | (refine ⟨_, _, _, _, rfl, hL.at (by fail "ix"), by assumption, by assumption, Nat.lt_of_le_of_lt fz_len (by decide), ?_⟩; generalize hH : upd H _ _ = H; replace hL := Led.upF hL (by fail "up") (by fail "ptF") hH; fail "cl")
  | (refine ⟨_, _, hL.at (by fail "ix"), Nat.lt_of_le_of_lt fz_len (by decide), ?_⟩; generalize hH : upd H _ _ = H; replace hL := Led.upF hL (by fail "up") (by fail "ptF") hH; fail "cl")
  | (refine k_dputS hL (by fail "ix") (Nat.lt_of_le_of_lt dz_len (by decide)) (by fail "ptD") (by fail "up") ?_; clear hL; intro H hL; dsimp only [List.set, List.cons_append, List.nil_append, List.append] at hL)
  | refine k_lenL2 hL (by fail "ix") ?_
  | refine k_lenT2 hL (by fail "ix") ?_
  | refine .inl ⟨_, rfl, ?_⟩
  | refine .inr ⟨_, rfl, ?_⟩)
local macro_rules | `(tactic| fail "go") => `(tactic| repeat fail "go1")
local macro_rules | `(tactic| fail "pm") => `(tactic| (refine Led.le hL (fun a_ => ?_); simp only [cnt_nil, cnt_cons, cnt_app, List.map_append, List.map_cons, List.map_nil, List.flatMap_append, List.flatMap_cons, List.flatMap_nil, List.append_assoc, List.cons_append, List.nil_append]; omega))

local macro_rules | `(tactic| fail "pmt") => `(tactic| (try dsimp only [tI] at hL); (try dsimp only [tI]); (refine Led.le hL (fun a_ => ?_); simp only [cnt_nil, cnt_cons, cnt_app, List.map_append, List.map_cons, List.map_nil, List.flatMap_append, List.flatMap_cons, List.flatMap_nil, List.append_assoc, List.cons_append, List.nil_append]; omega))
def spRecs (CD PU : Addr) (n : Nat) : Sp := fun vs H Q _ => ∃ (x dx K W F : Addr) (s : DkS) (ds : List Dv) (tail : List Int) (ps : Array Value) (L : Lg), vs = [.ref x] ∧ Led H ((PU, .tbl ps) :: (dkL CD x dx K W F s ++ L)) ∧ TriplesOk ps.toList ∧ s.kb ++ s.wb = framesB ds ++ tail ∧ s.kb.length + s.wb.length ≤ sizeLine ∧
  (∀ d ∈ ds, Pk n d) ∧ ds.length < sizeLine ∧ Cut tail ∧ ∀ (l : Addr) (vs : List V) (Z : Lg) (ps' : Array Value) H', TriplesOk ps'.toList → DLs Z vs ds → Led H' ((l, .lst vs) :: (PU, .tbl ps') :: (Z ++ (dkL CD x dx K W F s ++ L))) → Q (.ref l) H'
def spRest (CD PU : Addr) (n : Nat) : Sp := fun vs H Q _ => ∃ (x dx K W F : Addr) (s : DkS) (ds : List Dv) (tail : List Int) (ps : Array Value) (L : Lg), vs = [.ref x] ∧ Led H ((PU, .tbl ps) :: (dkL CD x dx K W F s ++ L)) ∧ TriplesOk ps.toList ∧ s.kb = framesB ds ++ tail ∧
  (∀ d ∈ ds, Pk n d) ∧ ds.length < sizeLine ∧ Cut tail ∧ ∀ (K' : Addr) (ps' : Array Value) H', TriplesOk ps'.toList → Led H' ((PU, .tbl ps') :: (dkL CD x dx K' W F { s with kb := framesB ds, fu := none, dn := false } ++ L)) → Q .non H'
section
variable {K : PySem.W.Frag} {H : Hp} {L : Lg} {a b : Addr} {xs ys : List V} {Q : VK}
/-- t + u, both are kept -/
theorem k_catK {T : Addr × HO} (hL : Led H (T :: L)) (h1 : (a, .tup xs) ∈ L) (h2 : (b, .tup ys) ∈ L) (hz : xs.length + ys.length ≤ sizeLine) (k : ∀ r H' Z, Led H' (T :: (Z ++ L)) → (r, .tup (xs ++ ys)) ∈ Z ++ L → Q (.ref r) H') : rCatA K (.ref a) (.ref b) H Q := by
  refine ⟨a, b, xs, ys, rfl, rfl, .of (hL.mem (.tail _ h1)), .of (hL.mem (.tail _ h2)), hz, fun e => ?_, fun _ e => ?_, fun _ _ p hp => ?_⟩
  · subst e; exact k _ _ [] hL h2
  · subst e; rw [List.append_nil] at k; exact k _ _ [] hL h1
  · exact k _ _ [(p, .tup (xs ++ ys))] ((hL.new hp).perm (.swap _ _ _)) (.head _)
end
section
variable {P : Program} {w : World} {K : PySem.W.Frag} {mg : Str → Option Value} {base : Heap} {CD CE PU : Addr}
theorem scRecs : FnScope ["self"] ["self"] (defScope sRecs) := ⟨rfl, rfl, rfl, by decide +kernel, rfl, by decide +kernel, by decide +kernel⟩
theorem ok_recs {f : Addr} {fd : FuncData} {n : Nat} (F : Fun K "records" "Disk.records" sRecs f fd) (X : TxtDk K CD) (c_read_frames : Cal P w K mg base (6 + 5 * n) "read_frames" (spReadF CU PU n) []) :
    FnOk P w K mg base CX0 (7 + 5 * n) f fd ["self"] (spRecs CD PU n) := by
  have e6 : 7 + 5 * n = (6 + 5 * n) + 1 := by omega
  rw [e6]
  refine F.ok scRecs (fun vs H Q E h => ?_) (fun cdv A outer s0 H vs Q E hr h => ?_)
  · obtain ⟨x, dx, K, W, F, s, ds, tail, ps, L, rfl, _⟩ := h
    rfl
  · obtain ⟨x, dx, KK, W, F, s, ds, tail, ps, L, rfl, hL, ht, hk, hz, hds, hl, hcut, k⟩ := h
    have c1 := X.cl
    have f1 := X.n "kept" (by decide +kernel)
    have f2 := X.n "waiting" (by decide +kernel)
    refine ⟨_, (pss_one (ps_ret (pe_ix ix_tup (pe_c c_read_frames hr (by omega) (by rfl) (pa_cons (pe_op (op_catA) (pe_fld (pv 0) rfl) (pe_fld (pv 0) rfl)) pa_nil)) pe_int (fun _ _ => rfl)))), ?_⟩
    have hL0 := hL
    dsimp only [dkL, dkO, List.cons_append] at hL
    fail "go"
    clear hL
    refine k_catK hL0 (a := KK) (b := W) (xs := s.kb.map .int) (ys := s.wb.map .int) (.tail _ (.head _)) (.tail _ (.tail _ (.head _))) (by rw [List.length_map, List.length_map]; exact hz) fun r H Z hL hr => ?_
    rw [← List.map_append, hk] at hr
    fail "go"
    refine ⟨r, ds, tail, ps, _, rfl, hL, ht, hr, hds, hl, hcut, fun t l vs Z2 ps2 H ht2 hv hL => ?_⟩
    fail "go"
    refine k l vs (Z2 ++ Z) ps2 H ht2 (hv.mono fun a h => List.mem_append_left _ h) ?_
    rw [List.append_assoc]
    exact hL.tail
theorem scRest : FnScope ["self"] ["self"] (defScope sRest) := ⟨rfl, rfl, rfl, by decide +kernel, rfl, by decide +kernel, by decide +kernel⟩
theorem ok_rest {f : Addr} {fd : FuncData} {n : Nat} (F : Fun K "restart" "Disk.restart" sRest f fd) (X : TxtDk K CD) (c_read_frames : Cal P w K mg base (6 + 5 * n) "read_frames" (spReadF CU PU n) []) :
    FnOk P w K mg base CX0 (7 + 5 * n) f fd ["self"] (spRest CD PU n) := by
  have e6 : 7 + 5 * n = (6 + 5 * n) + 1 := by omega
  rw [e6]
  refine F.ok scRest (fun vs H Q E h => ?_) (fun cdv A outer s0 H vs Q E hr h => ?_)
  · obtain ⟨x, dx, K, W, F, s, ds, tail, ps, L, rfl, _⟩ := h
    rfl
  · obtain ⟨x, dx, KK, W, F, s, ds, tail, ps, L, rfl, hL, ht, hk, hds, hl, hcut, k⟩ := h
    have c1 := X.cl
    have f1 := X.n "kept" (by decide +kernel)
    have f5 := X.n "fuse" (by decide +kernel)
    have f6 := X.n "down" (by decide +kernel)
    refine ⟨_, (pss_cons (ps_fld (pv 0) pe_bl rfl)
  (pss_cons (ps_fld (pv 0) pe_non rfl)
  (pss_one (ps_fld (pv 0) (pe_slice sl_tupA (pe_fld (pv 0) rfl) po_none (po_some (pe_ix ix_tup (pe_c c_read_frames hr (by omega) (by rfl) (pa_cons (pe_fld (pv 0) rfl) pa_nil)) pe_int (fun _ _ => rfl)))) rfl)))), ?_⟩
    obtain ⟨kb, wb, fs, sy, fu, dn⟩ := s
    dsimp only at k hk
    dsimp only [dkL, dkO, List.cons_append] at hL
    fail "go"
    refine ⟨KK, ds, tail, ps, _, rfl, hL, ht, by rw [← hk]; exact .tail _ (.head _), hds, hl, hcut, fun t l vs Z2 ps2 H ht2 hv hL => ?_⟩
    fail "go"
    refine k_takeA (D := KK) (bs := kb) (L := (PU, .tbl ps2) :: (x, HO.ins CD dx (fz nmD [.ref KK, .ref W, .ref F, .int sy, .non, .bl false])) :: (W, tI wb) :: (F, .dK (fs.map (kk filV))) :: (fs.map filO ++ L)) (by fail "pmt") fun r H hL => ?_
    have e1 : kb.take (framesB ds).length = framesB ds := by rw [hk, List.take_left]
    rw [e1] at hL
    fail "go"
    refine k r ps2 H ht2 ?_
    dsimp only [dkL, dkO, fuV]
    fail "pmt"
theorem ps_nox {X : Cx} {st : Stmt} {t : TS} (h : PS X.nox st t) : PS X st t := ⟨fun pins s σ H D I hw =>
  wpAny_mono (h.run pins s σ H D (I.wish _) hw) (fun _ _ q => q.unwish) fun _ _ z => False.elim z⟩
theorem aput_cnt {fs : List FilE} {nm : Str} {e : Addr × List Int} {x : Addr × HO} : cnt x ((aput fs nm e).map filO) ≤ one1 x (filO (nm, e)) + cnt x (fs.map filO) := by
  induction fs with
  | nil => simp only [aput, List.map_cons, List.map_nil, cnt_cons, cnt_nil]; omega
  | cons y r ih =>
    rw [aput]
    by_cases h : y.1 = nm
    · rw [if_pos h]
      simp only [List.map_cons, cnt_cons]
      omega
    · rw [if_neg h]
      simp only [List.map_cons, cnt_cons]
      omega
def spRepl (CD CE PN : Addr) (n : Nat) : Sp := fun vs H Q E => ∃ (x dx K W F : Addr) (s : DkS) (nm : Str) (v : V) (d : Dv) (rl : Addr) (rvs : List V) (rds : List Dv) (ps : Array Value) (L : Lg), vs = [.ref x, .str nm, v, .ref rl] ∧ Led H ((PN, .tbl ps) :: (dkL CD x dx K W F s ++ L)) ∧ TriplesOk ps.toList ∧
  DL L v d ∧ Pk n d ∧ (rl, .lst rvs) ∈ L ∧ DLs L rvs rds ∧ (∀ d ∈ rds, Pk n d) ∧ (framesB rds).length ≤ sizeLine ∧ s.fs.length < 60 ∧ (s.fs.map (·.1)).Nodup ∧
  (s.up = true → ∀ (K' W' a' : Addr) (ps' : Array Value) H', TriplesOk ps'.toList → Led H' ((PN, .tbl ps') :: (dkL CD x dx K' W' F { s.step with kb := framesB rds, wb := [], fs := aput s.fs nm (a', frameB (packB d)), sy := s.sy + 1 } ++ L)) → Q .non H') ∧
  (s.up = false → ∀ (ps' : Array Value) H', TriplesOk ps'.toList → Led H' ((PN, .tbl ps') :: (dkL CD x dx K W F s.fall ++ L)) → E (.ref CE) none H')
theorem scRepl : FnScope ["self", "name", "value", "records", "fresh", "whole", "record"] ["self", "name", "value", "records"] (defScope sRepl) := ⟨rfl, rfl, rfl, by decide +kernel, rfl, by decide +kernel, by decide +kernel⟩
theorem ok_repl {f : Addr} {fd : FuncData} {PN : Addr} {n : Nat} (F : Fun K "replace" "Disk.replace" sRepl f fd) (X : TxtDk K CD) (c_frame : Cal P w K mg base (6 + n) "frame" (spFrame PN n) []) (c_Disk_need_up : MetX P w K mg base 1 CD "need_up" (spNeed CD CE) []) :
    FnOk P w K mg base (L2.CX P w) (7 + n) f fd ["self", "name", "value", "records"] (spRepl CD CE PN n) := by
  have e6 : 7 + n = (6 + n) + 1 := by omega
  rw [e6]
  refine F.okX scRepl (fun vs H Q E h => ?_) (fun cdv A outer s0 H vs Q E hr h => ?_)
  · obtain ⟨x, dx, K, W, F, s, nm, v, d, rl, rvs, rds, ps, L, rfl, _⟩ := h
    rfl
  · obtain ⟨x, dx, KK, W, F, s, nm, v, d, rl, rvs, rds, ps, L, rfl, hL, ht, hd, ⟨p1, p2, p3, p4⟩, hrl, hrs, hrk, hz, hfl, hfn, k1, k2⟩ := h
    have c1 := X.cl
    have f1 := X.n "kept" (by decide +kernel)
    have f2 := X.n "waiting" (by decide +kernel)
    have f3 := X.n "files" (by decide +kernel)
    have f4 := X.n "syncs" (by decide +kernel)
    refine ⟨_, (pss_cons (ps_par (i := 4) (j := 5) (by rfl) scRepl.nd rfl rfl (by decide) rfl rfl (pa_cons (pe_tup pa_nil) (pa_cons (pe_c c_frame hr (by omega) (by rfl) (pa_cons (pv 2) pa_nil)) pa_nil)) (by rfl))
  (pss_cons (ps_nox (ps_for PassesOwn.never rfl (pi_list (pv 3)) (pg_name (i := 6) scRepl.nd rfl (Or.inl rfl))
  (pss_one (ps_aug (i := 4) scRepl.nd rfl (Or.inl rfl) (pe_c c_frame hr (by omega) (by rfl) (pa_cons (pv 6) pa_nil)) iop_catA))))
  (pss_cons (ps_expr (pe_mtX0 c_Disk_need_up hr (by omega) (takes_of rfl rfl rfl (E := E) rfl) (pv 0)))
  (pss_cons (ps_dput (hu_of hr) (pe_fld (pv 0) rfl) (pv 1) (pv 5) rfl)
  (pss_cons (ps_fld (pv 0) (pv 4) rfl)
  (pss_cons (ps_fld (pv 0) (pe_tup pa_nil) rfl)
  (pss_one (ps_fldaug (pv 0) pe_int in_add)))))))), ?_⟩
    fail "go"
    refine ⟨v, d, ps, (p, .tup []) :: (dkL CD x dx KK W F s ++ L), rfl, hL.perm (.swap _ _ _), ht, hd.mono (fun a h => .tail _ (List.mem_append_right _ h)), p1, p2, p3, p4, fun ps r H ht hL => ?_⟩
    fail "go"
    have hrl2 : ∀ {A : Lg} {a b : Addr × HO}, (rl, HO.lst rvs) ∈ a :: b :: (A ++ (dkL CD x dx KK W F s ++ L)) := fun {A a b} => .tail _ (.tail _ (List.mem_append_right _ (List.mem_append_right _ hrl)))
    refine ⟨⟨_, .of (hL.mem (.tail _ (.tail _ (.tail _ (List.mem_append_right _ hrl)))))⟩, ?_⟩
    refine for_listA (xs := rvs) (fun i σ H => Hold (∃ (v6 : Option V) (fp : Addr) (ps : Array Value), σ = [some (.ref x), some (.str nm), some v, some (.ref rl), some (.ref fp), some (.ref r), v6] ∧ TriplesOk ps.toList ∧
      Led H ((fp, tI (framesB (rds.take i))) :: (PN, .tbl ps) :: (r, tI (frameB (packB d))) :: (dkL CD x dx KK W F s ++ L)))) (.mk ⟨_, p, ps, rfl, ht, ?_⟩) (fun i σ H _ h => ?_) (fun i rv σ H D1 hi h hN => ?_) (fun σ H h => ?_)
    · show Led H ((p, .tup []) :: _)
      fail "pmt"
    · obtain ⟨v6, fp, ps, rfl, ht, hL⟩ := h.out
      exact .of (hL.mem (.tail _ (.tail _ (.tail _ (List.mem_append_right _ hrl)))))
    · clear hL ht
      obtain ⟨v6, fp, ps, rfl, ht, hL⟩ := h.out
      obtain ⟨rd, hrd, hrv⟩ := hrs.get hi
      obtain ⟨q1, q2, q3, q4⟩ := hrk rd (List.mem_of_getElem? hrd)
      have hft := frames_take hrd
      have hfa := congrArg List.length (frames_at hrd)
      rw [List.length_append, List.length_append] at hfa
      refine ⟨_, rfl, ?_⟩
      fail "go"
      refine ⟨rv, rd, ps, (fp, tI (framesB (rds.take i))) :: (r, tI (frameB (packB d))) :: (dkL CD x dx KK W F s ++ L), rfl, hL.perm (.swap _ _ _), ht, hrv.mono (fun a h => .tail _ (.tail _ (List.mem_append_right _ h))), q1, q2, q3, q4, fun ps r2 H ht hL => ?_⟩
      refine k_catA (b := r2) (a := fp) (xs := (framesB (rds.take i)).map .int) (ys := (frameB (packB rd)).map .int) (L := (PN, .tbl ps) :: (r, tI (frameB (packB d))) :: (dkL CD x dx KK W F s ++ L)) (by fail "pmt") (by rw [List.length_map, List.length_map]; omega) fun r3 H hL => ?_
      refine hN.nx _ _ (.mk ⟨some rv, r3, ps, rfl, ht, ?_⟩)
      rw [hft]
      rw [← List.map_append] at hL
      exact hL
    · clear hL ht
      obtain ⟨v6, fp, ps, rfl, ht, hL⟩ := h.out
      clear h
      rw [hrs.len, List.take_length] at hL
      fail "go"
      have hL2 : Led H (dkL CD x dx KK W F s ++ ((fp, tI (framesB rds)) :: (PN, .tbl ps) :: (r, tI (frameB (packB d))) :: L)) := by fail "pmt"
      clear hL
      refine ⟨x, dx, KK, W, F, s, _, rfl, hL2, fun hu H hL => ?_, fun hu H hL => ?_⟩
      · clear hL2
        obtain ⟨kb, wb, fs, sy, fu, dn⟩ := s
        dsimp only [DkS.step] at k1 hL
        dsimp only at hfl hfn
        dsimp only [dkL, dkO, List.cons_append] at hL
        fail "go"
        have hput := kk_put (vo := filV) (k := nm) (v := (r, frameB (packB d))) hfn
        refine k_dputS hL (by fail "ix") (by rw [List.length_map]; exact Nat.lt_trans hfl (by decide)) hput (by fail "up") fun H hL => ?_
        dsimp only [List.set, List.cons_append, List.nil_append, List.append] at hL
        fail "go"
        refine k1 hu fp p r ps H ht ?_
        dsimp only [dkL, dkO]
        dsimp only [tI] at hL
        dsimp only [tI]
        refine hL.le (fun a_ => ?_)
        have q : cnt a_ ((aput fs nm (r, frameB (packB d))).map filO) ≤ one1 a_ (r, HO.tup ((frameB (packB d)).map V.int)) + cnt a_ (fs.map filO) := aput_cnt
        simp only [cnt_nil, cnt_cons, cnt_app, List.append_assoc, List.cons_append, List.nil_append, List.map_nil]
        omega
      · exact k2 hu ps H ht (by fail "pmt")
end
end Sd


set_option linter.unusedVariables false
namespace Sd
open PySem L2
open C8 (Cal Met Mak pe_c pe_mk pe_mt pe_mt0 pss_cut tCut)
set_option linter.unusedSimpArgs false
set_option pp.deepTerms false
set_option pp.deepTerms.threshold 12
set_option hygiene false
local macro_rules | `(tactic| fail "nd") => `(tactic| first | assumption | decide +kernel)
local macro_rules | `(tactic| fail "ix") => `(tactic| first | exact ⟨0, rfl⟩ | exact ⟨1, rfl⟩ | exact ⟨2, rfl⟩ | exact ⟨3, rfl⟩ | exact ⟨4, rfl⟩ | exact ⟨5, rfl⟩ | exact ⟨6, rfl⟩ | exact ⟨7, rfl⟩ | exact ⟨8, rfl⟩ | exact ⟨9, rfl⟩ | exact ⟨10, rfl⟩ | exact ⟨11, rfl⟩ | exact ⟨12, rfl⟩ | exact ⟨13, rfl⟩ | exact ⟨14, rfl⟩ | exact ⟨15, rfl⟩ | exact ⟨16, rfl⟩ | exact ⟨17, rfl⟩ | exact ⟨18, rfl⟩ | assumption)
local macro_rules | `(tactic| fail "up") => `(tactic| first | exact ⟨0, rfl, rfl⟩ | exact ⟨1, rfl, rfl⟩ | exact ⟨2, rfl, rfl⟩ | exact ⟨3, rfl, rfl⟩ | exact ⟨4, rfl, rfl⟩ | exact ⟨5, rfl, rfl⟩ | exact ⟨6, rfl, rfl⟩ | exact ⟨7, rfl, rfl⟩ | exact ⟨8, rfl, rfl⟩ | exact ⟨9, rfl, rfl⟩ | exact ⟨10, rfl, rfl⟩ | exact ⟨11, rfl, rfl⟩ | exact ⟨12, rfl, rfl⟩ | exact ⟨13, rfl, rfl⟩ | exact ⟨14, rfl, rfl⟩ | exact ⟨15, rfl, rfl⟩ | exact ⟨16, rfl, rfl⟩ | assumption)
local macro_rules | `(tactic| fail "lkF") => `(tactic| first | assumption | exact fz_at 0 (by fail "nd") rfl rfl | exact fz_at 1 (by fail "nd") rfl rfl | exact fz_at 2 (by fail "nd") rfl rfl | exact fz_at 3 (by fail "nd") rfl rfl | exact fz_at 4 (by fail "nd") rfl rfl | exact fz_at 5 (by fail "nd") rfl rfl | exact fz_at 6 (by fail "nd") rfl rfl | exact fz_at 7 (by fail "nd") rfl rfl)
local macro_rules | `(tactic| fail "lkD") => `(tactic| first | assumption | exact dz_at 0 (by fail "nd") rfl rfl | exact dz_at 1 (by fail "nd") rfl rfl | exact dz_at 2 (by fail "nd") rfl rfl | exact dz_at 3 (by fail "nd") rfl rfl | exact dz_at 4 (by fail "nd") rfl rfl)
local macro_rules | `(tactic| fail "ptF") => `(tactic| first | assumption | exact fz_put 0 (by fail "nd") rfl (Nat.le_of_ble_eq_true rfl) | exact fz_put 1 (by fail "nd") rfl (Nat.le_of_ble_eq_true rfl) | exact fz_put 2 (by fail "nd") rfl (Nat.le_of_ble_eq_true rfl) | exact fz_put 3 (by fail "nd") rfl (Nat.le_of_ble_eq_true rfl) | exact fz_put 4 (by fail "nd") rfl (Nat.le_of_ble_eq_true rfl) | exact fz_put 5 (by fail "nd") rfl (Nat.le_of_ble_eq_true rfl) | exact fz_put 6 (by fail "nd") rfl (Nat.le_of_ble_eq_true rfl) | exact fz_put 7 (by fail "nd") rfl (Nat.le_of_ble_eq_true rfl) | exact fz_new (by decide +kernel) rfl)
local macro_rules | `(tactic| fail "ptD") => `(tactic| first | assumption | exact dz_put 0 (by fail "nd") rfl (Nat.le_of_ble_eq_true rfl) | exact dz_put 1 (by fail "nd") rfl (Nat.le_of_ble_eq_true rfl) | exact dz_put 2 (by fail "nd") rfl (Nat.le_of_ble_eq_true rfl) | exact dz_put 3 (by fail "nd") rfl (Nat.le_of_ble_eq_true rfl) | exact dz_put 4 (by fail "nd") rfl (Nat.le_of_ble_eq_true rfl))
local macro_rules | `(tactic| fail "sz") => `(tactic| first | assumption | exact (Nat.le_of_ble_eq_true rfl) | omega | decide)
local macro_rules | `(tactic| fail "sd") => `(tactic| first | rfl | assumption | decide | omega | (dsimp only; first | decide | omega) | exact .inr ⟨by decide, by decide⟩ | exact .inl ⟨by decide, by decide⟩ | exact ⟨by omega, by omega⟩ | exact .inl ⟨by omega, by omega⟩ | exact .inr ⟨by omega, by omega⟩ | exact ⟨by omega, by omega, by omega⟩)
local macro_rules | `(tactic| fail "cl") => `(tactic| (clear hH; dsimp only [List.set, List.cons_append, List.nil_append, List.append] at hL))
local macro_rules | `(tactic| fail "gn") => `(tactic| (intro p hp; generalize hH : upd H p _ = H; replace hL := Led.newH hL hp hH; clear hH hp))
local macro_rules | `(tactic| fail "gup") => `(tactic| (generalize hH : upd H _ _ = H; replace hL := Led.upU hL (by fail "up") hH; fail "cl"))
local macro_rules | `(tactic| fail "gmk") => `(tactic| (intro x dx hx hd ne; generalize hH : upd (upd H dx _) x _ = H; replace hL := Led.made hL hx hd ne hH; clear hH hx hd ne))
local macro_rules | `(tactic| fail "v") => `(tactic| refine ⟨_, rfl, ?_⟩)
local macro_rules | `(tactic| fail "i2") => `(tactic| refine ⟨_, _, rfl, rfl, ?_⟩)
local macro_rules | `(tactic| fail "go1") => `(tactic| first
  | refine ⟨_, rfl, ?_⟩
  | refine ⟨_, _, rfl, rfl, ?_⟩
  | refine ⟨_, _, rfl, ?_⟩
  | refine iteT ?_
  | refine iteF ?_
  | refine k_fld hL (by fail "ix") (by assumption) (by assumption) (by fail "lkF") ?_
  | refine k_dgetS hL (by fail "ix") (by fail "lkD") ?_
  | refine k_dgetI hL (by fail "ix") (by assumption) ?_
  | refine k_ixL hL (by fail "ix") (by first | rfl | assumption) ?_
  | refine k_ixT hL (by fail "ix") (by first | rfl | assumption) ?_
  | refine k_tyL hL (by fail "ix") ?_
  | refine k_isd hL (by fail "ix") ?_
  | (refine And.intro (by fail "sz") ?_; fail "gn")
  | refine And.intro (by fail "sd") ?_
  | fail "gn"
  | refine k_meth hL (by fail "ix") (by first | assumption | exact fz_no (by decide +kernel)) ?_
  | refine k_gtup hL (by fail "ix") rfl ?_
  | (refine k_popI hL (by fail "ix") (by assumption) ?_; fail "gup")
  | (refine k_listD hL (by fail "ix") ?_; fail "gn")
  | (refine ⟨_, _, _, _, rfl, rfl, hL.at (by fail "ix"), rfl, ?_⟩; fail "gup")
  | (refine ⟨_, _, _, rfl, rfl, hL.at (by fail "ix"), (by fail "sz"), ?_⟩; fail "gup")
  | (refine ⟨_, _, _, _, rfl, hL.at (by fail "ix"), by assumption, by assumption, Nat.lt_of_le_of_lt fz_len (by decide), ?_⟩; generalize hH : upd H _ _ = H; replace hL := Led.upF hL (by fail "up") (by fail "ptF") hH; fail "cl")
  | (refine ⟨_, _, hL.at (by fail "ix"), Nat.lt_of_le_of_lt fz_len (by decide), ?_⟩; generalize hH : upd H _ _ = H; replace hL := Led.upF hL (by fail "up") (by fail "ptF") hH; fail "cl")
  | (refine k_dputS hL (by fail "ix") (Nat.lt_of_le_of_lt dz_len (by decide)) (by fail "ptD") (by fail "up") ?_; clear hL; intro H hL; dsimp only [List.set, List.cons_append, List.nil_append, List.append] at hL)
  | refine k_lenL2 hL (by fail "ix") ?_
  | refine k_lenT2 hL (by fail "ix") ?_
  | refine .inl ⟨_, rfl, ?_⟩
  | refine .inr ⟨_, rfl, ?_⟩)
local macro_rules | `(tactic| fail "go") => `(tactic| repeat fail "go1")
local macro_rules | `(tactic| fail "pm") => `(tactic| (refine Led.le hL (fun a_ => ?_); simp only [cnt_nil, cnt_cons, cnt_app, List.map_append, List.map_cons, List.map_nil, List.flatMap_append, List.flatMap_cons, List.flatMap_nil, List.append_assoc, List.cons_append, List.nil_append]; omega))

local macro_rules | `(tactic| fail "pmt") => `(tactic| (try dsimp only [tI] at hL); (try dsimp only [tI]); (refine Led.le hL (fun a_ => ?_); simp only [cnt_nil, cnt_cons, cnt_app, List.map_append, List.map_cons, List.map_nil, List.flatMap_append, List.flatMap_cons, List.flatMap_nil, List.append_assoc, List.cons_append, List.nil_append]; omega))
/-- what a file reads as -/
def FilOk (n : Nat) : Option (Addr × List Int) → Option Dv → Prop
  | none, none => True
  | some f, some d => f.2 = frameB (packB d) ∧ Pk n d
  | _, _ => False
/-- a value, or None -/
def DLo (Z : Lg) (v : V) : Option Dv → Prop
  | none => v = .non
  | some d => DL Z v d
def spRFile (CD PU : Addr) (n : Nat) : Sp := fun vs H Q _ => ∃ (x dx K W F : Addr) (s : DkS) (nm : Str) (od : Option Dv) (ps : Array Value) (L : Lg), vs = [.ref x, .str nm] ∧ Led H ((PU, .tbl ps) :: (dkL CD x dx K W F s ++ L)) ∧ TriplesOk ps.toList ∧ FilOk n (aget s.fs nm) od ∧
  ∀ (v : V) (Z : Lg) (ps' : Array Value) H', TriplesOk ps'.toList → DLo Z v od → Led H' ((PU, .tbl ps') :: (Z ++ (dkL CD x dx K W F s ++ L))) → Q v H'
theorem mem_cntV {L : Lg} {x : Addr × HO} (h : x ∈ L) : ∃ R1 : Lg, ∀ a, cnt a L = one1 a x + cnt a R1 := by
  obtain ⟨A, B, rfl⟩ := List.append_of_mem h
  exact ⟨A ++ B, fun a => by rw [cnt_app, cnt_cons, cnt_app]; omega⟩
section
variable {P : Program} {w : World} {K : PySem.W.Frag} {mg : Str → Option Value} {base : Heap} {CD CE PU : Addr}
theorem scRFile : FnScope ["self", "name", "found", "many"] ["self", "name"] (defScope sRFile) := ⟨rfl, rfl, rfl, by decide +kernel, rfl, by decide +kernel, by decide +kernel⟩
theorem ok_rfile {f : Addr} {fd : FuncData} {n : Nat} (F : Fun K "read_file" "Disk.read_file" sRFile f fd) (X : TxtDk K CD) (T : TxtW mg) (c_read_frames : Cal P w K mg base (6 + 5 * n) "read_frames" (spReadF CU PU n) []) :
    FnOk P w K mg base CX0 (7 + 5 * n) f fd ["self", "name"] (spRFile CD PU n) := by
  have e6 : 7 + 5 * n = (6 + 5 * n) + 1 := by omega
  rw [e6]
  refine F.ok scRFile (fun vs H Q E h => ?_) (fun cdv A outer s0 H vs Q E hr h => ?_)
  · obtain ⟨x, dx, K, W, F, s, nm, od, ps, L, rfl, _⟩ := h
    rfl
  · obtain ⟨x, dx, KK, W, F, s, nm, od, ps, L, rfl, hL, ht, hod, k⟩ := h
    have c1 := X.cl
    have f3 := X.n "files" (by decide +kernel)
    refine ⟨_, (pss_cons (ps_if (pt_cmp (pc_dnotin (hu_of hr) (pv 1) (pe_fld (pv 0) rfl)))
  (pss_one (ps_ret pe_non))
  pss_nil)
  (pss_cons (ps_asg (pe_c c_read_frames hr (by omega) (by rfl) (pa_cons (pe_dget (hu_of hr) (pe_fld (pv 0) rfl) (pv 1) (fun _ _ => rfl)) pa_nil)) (pg_tup (by rfl) (pgs_cons (pg_name (i := 2) scRFile.nd rfl (Or.inl rfl)) (pgs_cons (pg_name (i := 3) scRFile.nd rfl (Or.inl rfl)) pgs_nil))))
  (pss_cons (ps_if (PW.pt (pw_or (pt_cmpR op_ne (pe_callB call_len_seq (by rfl) T.len (by decide +kernel) (pa_cons (pv 2) pa_nil)) pe_int (nomark _)) (pw_or1 (pt_cmpR op_ne (pv 3) (pe_callB call_len_seq (by rfl) T.len (by decide +kernel) (pa_cons (pe_dget (hu_of hr) (pe_fld (pv 0) rfl) (pv 1) (fun _ _ => rfl)) pa_nil)) (nomark _)))))
  pss_never
  pss_nil)
  (pss_one (ps_ret (pe_ix ix_list (pv 2) pe_int (fun _ _ => rfl))))))), ?_⟩
    have hv := kk_val (vo := filV) (l := s.fs) (k := nm)
    cases he : aget s.fs nm with
    | none =>
      rw [he] at hod hv
      cases od with
      | some d => exact hod.elim
      | none =>
        dsimp only [dkL, dkO, List.cons_append] at hL
        fail "go"
        refine k_dinS hL (by fail "ix") ?_
        rw [hv]
        fail "go"
        exact k _ [] ps _ ht rfl hL
    | some fl =>
      rw [he] at hod hv
      obtain ⟨fa, fb⟩ := fl
      cases od with
      | none => exact hod.elim
      | some d =>
        obtain ⟨h1, p1, p2, p3, p4⟩ := hod
        dsimp only at h1
        subst h1
        have hfm : (fa, tI (frameB (packB d))) ∈ s.fs.map filO := List.mem_map.mpr ⟨_, aget_mem he, rfl⟩
        have hL0 := hL
        dsimp only [dkL, dkO, List.cons_append] at hL
        fail "go"
        refine k_dinS hL (by fail "ix") ?_
        rw [hv]
        fail "go"
        have efr : framesB [d] ++ [] = frameB (packB d) := by unfold framesB; simp
        refine ⟨fa, [d], [], ps, dkL CD x dx KK W F s ++ L, rfl, hL0, ht, by rw [efr]; exact .tail _ (.tail _ (.tail _ (.tail _ (List.mem_append_left _ hfm)))), fun d' h => by rw [List.mem_singleton.mp h]; exact ⟨p1, p2, p3, p4⟩, (show 1 < sizeLine by decide), .inl (by decide), fun t l vs Z ps2 H ht2 hvs hL => ?_⟩
        rw [List.append_nil] at efr
        rw [efr] at hL
        clear hL0
        have hL1 := hL.tail.tail
        obtain ⟨v, rfl, hdv⟩ : ∃ v, vs = [v] ∧ DL Z v d := by
          cases hvs with
          | cons a b => cases b with | nil => exact ⟨_, rfl, a⟩
        replace hL : Led H ((t, .tup [.ref l, .int (frameB (packB d)).length]) :: (l, .lst [v]) :: dkO CD x dx KK W F s :: (KK, tI s.kb) :: (W, tI s.wb) :: (F, .dK (s.fs.map (kk filV))) :: (fa, tI (frameB (packB d))) :: []) := by
          have hfl : ∀ a, one1 a (fa, tI (frameB (packB d))) ≤ cnt a (s.fs.map filO) := fun a => by
            obtain ⟨R1, h⟩ := mem_cntV hfm
            rw [h]
            omega
          refine hL.le (fun a_ => ?_)
          have := hfl a_
          simp only [dkL, cnt_nil, cnt_cons, cnt_app, List.cons_append]
          omega
        dsimp only [dkO] at hL
        fail "go"
        refine ite_n (fun z => absurd (by rw [List.length_map]) z) fun _ => ?_
        fail "go"
        exact k v Z ps2 H ht2 hdv hL1
end
end Sd


/-! told(lambda: ..) at once, the lambda captures names of the running frame -/
namespace Sd
open PySem PySem.Spec PyProof.Rows L2 LamX NdefX
def tToldL (K : PySem.W.Frag) (P : Program) (w : World) (mg : Str → Option Value) (base : Heap) (k : Nat) (te : TE) (cl : List (Str × Addr)) (fr : List Str) (js : List Nat) (CS : Addr) (ret : Str) : TE := fun σ H Q => te σ H fun v H1 => ∃ (f : Addr) (F : NF) (b : Expr) (tl : List (Option V) → Hp → VK → XK → Prop),
  [v] = [.ref f] ∧ H1 f = some (LamO f F b) ∧ H1 F.c = some (CodeO F.c F.qual) ∧ F.cl = cl ∧ LOkC P w K mg base k f F b fr tl ∧ tl (js.map (slotAt σ)) H1 Q (fun cls _ H' => ∃ b, PySem.W.exmOne K cls (.ref CS) = some b ∧ (b = true → Q (.str ret) H') ∧ (b = false → False))
theorem pe_toldL {X : Cx} {k j : Nat} {x a e ret : Str} {e0 : Expr} {te : TE} {g CS : Addr} {st : Stmt} {fd : FuncData} {N : List Str} {p pos p1 p2 p3 p4 p5 p6 p7 p8 : Pos} {lsc : Scope} {fr : List Str} {js : List Nat} (Fn : Fun X.K x x st g fd) (S : FnScope N [a] (defScope st))
    (hbd : defBody st = [.Try [.Return (some (.Call (.Name a p1) [] [] p2)) p3] [.ExceptHandler (some (.Name e p4)) none [.Return (some (.Constant (.str ret) j p5)) p6] p7] [] [] p8]) (hbi : Binds X.K fd [a] []) (hm : X.mg x = some (.ref g)) (hge : (defScope st).names.lookup e = some .globalImplicit) (hme : X.mg e = some (.ref CS))
    (hN : N[0]? = some a) (hv : Vis (defScope st) a) (h0 : ∀ f : Addr, (L2.start N [V.ref f])[0]? = some (some (V.ref f)))
    (hr : Room (k + 1) X.A) (hg : Gl X x) (he : PE X e0 te) (hfn : ∀ x, X.fn x = true)
    (caps : ∀ pins σ H s, Inv X pins σ H s → Caps X (cloFrom X.env.cells lsc.names []) fr js)
    (hst : starEach [e0] X.env = (false, eval e0 X.env) :: starEach [] X.env := by rfl)
    (hdb : (x == ("__debug__" : Str)) = false := by decide) (hde : (e == ("__debug__" : Str)) = false := by decide) (hd : (a == ("__debug__" : Str)) = false := by decide) (hcd : (a == ("__classdict__" : Str)) = false := by decide) :
    PE X (.Call (.Name x p) [e0] [] pos) (tToldL X.K X.prog X.w X.mg X.base k te (cloFrom X.env.cells lsc.names []) fr js CS ret) := by
  refine ⟨fun pins s σ H Q I h => ?_⟩
  refine wpAny_Call_Name_kw (ld_glob I hg hm ?_ hdb)
  refine PySem.W.callWith_K (h₀ := X.base) I.ok.mod.kin Fn.kp (thn ((pa_cons he pa_nil hst).run pos pins s σ H (fun vs H1 => ∃ (f : Addr) (F : NF) (b : Expr) (tl : List (Option V) → Hp → VK → XK → Prop),
    vs = [.ref f] ∧ H1 f = some (LamO f F b) ∧ H1 F.c = some (CodeO F.c F.qual) ∧ F.cl = cloFrom X.env.cells lsc.names [] ∧ LOkC X.prog X.w X.K X.mg X.base k f F b fr tl ∧ tl (js.map (slotAt σ)) H1 Q (fun cls _ H' => ∃ b, PySem.W.exmOne X.K cls (.ref CS) = some b ∧ (b = true → Q (.str ret) H') ∧ (b = false → False))) I h) fun us s1 ⟨vs, H1, I1, r, q⟩ => ⟨I1.kIn, ?_⟩) hst (by rfl)
  obtain ⟨f, F, b, tl, rfl, hf, hc, hcl, L, ht⟩ := q
  obtain ⟨u, rfl, ru⟩ := r.one
  obtain rfl : u = Value.ref f := ru
  obtain ⟨oc, od, kV, doc, pm, an, cdv, ct, osl, rfl, lk, hcd2⟩ := Fn.ex
  have C1 : CellsAt F.cl fr (js.map (slotAt σ)) s1.heap H1 := by rw [hcl]; exact cells_of I1 (caps _ _ _ _ I1)
  have nf2 : ∀ y c, F.cl.lookup y = some c → c ∉ frs X.stack := fun y c z => cell_nofrs I1 hfn y c ((caps _ _ _ _ I1).sub y c (hcl ▸ z))
  generalize js.map (slotAt σ) = ws at C1 ht
  have rc : codeAny (model X.prog X.w) X.A (.call (.ref g) ⟨[.ref f], []⟩) (CR C8.CX0 X.stack X.prog X.w H1 s1 Q C8.E0) s1 := by
    refine run_ofS (N := N) (ps := [a]) (us := [.ref f]) (vs := [.ref f]) lk hcd2 S hr I1.env0 (hbi s1 [.ref f] I1.kIn rfl) (.cons rfl .nil) rfl fun hr' => ?_
    have hgl : Gl (cxOf C8.CX0 X.prog X.w X.K X.mg X.base N x (defScope st) g cdv X.A X.stack s1 H1 C8.E0).nox e := hge
    rw [hbd]
    have hps : PSs (cxOf C8.CX0 X.prog X.w X.K X.mg X.base N x (defScope st) g cdv X.A X.stack s1 H1 C8.E0).nox [.Try [.Return (some (.Call (.Name a p1) [] [] p2)) p3] [.ExceptHandler (some (.Name e p4)) none [.Return (some (.Constant (.str ret) j p5)) p6] p7] [] [] p8] _ :=
      pss_one (ps_try_only (c := .ref CS) (tb := fun W D σ H => σ[0]? = some (some (.ref f)) ∧ H f = some (LamO f F b) ∧ H F.c = some (CodeO F.c F.qual) ∧ ∃ E : XK, (∀ cls d σ' H', E cls d H' → W cls d σ' H') ∧ tl ws H D.rt E) rfl rfl ⟨hgl, hde, .inl hme⟩ L2.takes0
        (fun W pn xe tk _ => pss_one (ps_ret (pe_lamcC tk hr' hN hv C1 nf2 (fun _ _ _ z => nomatch z) L hd hcd))) (fun a oe cls d pn _ _ => pss_one (ps_ret pe_str)))
    refine ⟨_, hps.nox, h0 f, hf, hc, _, fun cls d σ' H' q => ?_, ht⟩
    obtain ⟨b, e1, e2, e3⟩ := q
    exact ⟨b, e1, fun hb a _ => e2 hb, fun hb => e3 hb⟩
  refine wpAny_call (codeAny_mono rc fun r s2 hq => ?_)
  cases r with
  | error e => exact (show False from hq).elim
  | ok fl =>
    cases fl with
    | ret u => exact I1.after hq
    | next => exact False.elim hq
    | brk => exact False.elim hq
    | cont => exact False.elim hq
end Sd


/-! the value of a lambda, told by ledgers: other tables beside the own one are kept -/
namespace Sd
open PySem PySem.Spec PyProof.Rows L2 LamX NdefX
/-- the own table's codes, in the ledger -/
def TabL (q : Str) (ps : Array Value) (L : Lg) : Prop := TriplesOk ps.toList ∧ ∀ (pos : Pos) (cv : Value), codeAmong pos ps.toList = some cv → ∃ c, cv = .ref c ∧ (c, CodeO c q) ∈ L
theorem TabL.nil {q : Str} {L : Lg} : TabL q #[] L := ⟨by simp [TriplesOk], fun pos cv h => by simp [codeAmong] at h⟩
theorem TabL.mono {q : Str} {ps : Array Value} {L L' : Lg} (h : TabL q ps L) (s : ∀ x ∈ L, x ∈ L') : TabL q ps L' := ⟨h.1, fun pos cv e => let ⟨c, e1, e2⟩ := h.2 pos cv e; ⟨c, e1, s _ e2⟩⟩
section
variable {X : Cx} {pins : List (Addr × Obj)} {σ : L2.St} {H : Hp} {s : Shared}
theorem lam_valueL {q : Str} {c P : Addr} {params : Arguments} {body : Expr} {scope : Scope} {pos : Pos} {E : Value → Shared → Prop} {Q : Value → Shared → Prop} {ps : Array Value} {L R : Lg} (I : Inv X pins σ H s) (TB : TabB X.base X.mg c P) (hcode : X.env.code = .ref c) (hq : X.env.qual ++ "<lambda>" = q)
    (hL : Led H ((P, .tbl ps) :: (L ++ R))) (hT : TabL q ps L) (hdef : defaultsOf params X.env = ([], [])) (hfree : ∀ y ∈ scope.names, y.2 = .free → ∃ c, X.env.cells.lookup y.1 = some c)
    (h : ∀ (f c' : Addr) (ps' : Array Value) (Z : Lg) (H1 : Hp) (s' : Shared), Inv X pins σ H1 s' → Led H1 ((f, LamO f ⟨"<lambda>", q, params, [], scope, cloFrom X.env.cells scope.names [], c'⟩ body) :: (P, .tbl ps') :: (Z ++ (L ++ R))) → TabL q ps' (Z ++ L) → (c', CodeO c' q) ∈ Z ++ L → Q (.ref f) s') :
    wpAny (model X.prog X.w) X.A (eval (.Lambda params body scope pos) X.env) Q E s := by
  subst hq
  obtain ⟨ht, ha⟩ := hT
  have hP : H P = some (.tbl ps) := hL.at ⟨0, rfl⟩
  have bP : s.heap.BuiltinsAt X.mg P := TB.bm.keeps I.bk
  have hP' : s.heap.get? P = some { cls := .none, data := .fields ps } := I.hok P _ hP
  refine PySem.W.kla_eval hdef ?_
  rcases hc : codeAmong pos ps.toList with _ | cv
  · refine PySem.W.kla_makeFunction (mg := X.mg) (c := c) (P := P) (ps := ps) (closure_ok hfree) I.ok.glob (I.mod.glob.keeps I.bk) hcode (TB.code.keeps I.bk) hP' ht hc TB.gP bP fun c' ctv h' tk hx hge hlt hrec htb => ?_
    obtain ⟨_, oc, vs, t, e2, hoc, hd, hv⟩ := hrec
    cases e2
    have nC : H c' = none := I.hok.fresh hge
    have I1 := inv_table (t' := tk) (more := #[rawInt pos.line, rawInt pos.col, .ref c']) (h' := h') I hP (fun b o hb e => hx b o hb e) htb hge ⟨oc, vs, t, hoc, hd, hv⟩
    have L1 : Led (upd (upd H P (.tbl (ps ++ #[rawInt pos.line, rawInt pos.col, .ref c']))) c' (CodeO c' (X.env.qual ++ "<lambda>"))) ((c', CodeO c' (X.env.qual ++ "<lambda>")) :: (P, .tbl (ps ++ #[rawInt pos.line, rawInt pos.col, .ref c'])) :: (L ++ R)) :=
      (hL.head).new (by rw [upd_ne (ne_of_none hP nC).symm]; exact nC)
    have nF := I1.hok.fresh (Nat.le_refl _)
    have I2 := inv_lam (F := ⟨"<lambda>", X.env.qual ++ "<lambda>", params, [], scope, cloFrom X.env.cells scope.names [], c'⟩) (b := body) (t' := tk) (pm := (X.mg "__name__").getD .none) (ctv := ctv) I1
    have eL : (ps ++ #[rawInt pos.line, rawInt pos.col, .ref c']).toList = ps.toList ++ [rawInt pos.line, rawInt pos.col, .ref c'] := by simp
    refine h h'.objs.size c' _ [(c', CodeO c' (X.env.qual ++ "<lambda>"))] _ _ I2 ((L1.new nF).perm (.cons _ (.swap _ _ _))) ⟨by rw [eL]; exact PySem.TriplesOk_snoc _ _ _ _ ht, fun p' cv hcv => ?_⟩ (.head _)
    rw [eL] at hcv
    rcases among_app _ ht hcv with z | z
    · obtain ⟨c0, e1, e2⟩ := ha p' cv z
      exact ⟨c0, e1, .tail _ e2⟩
    · exact ⟨c', z, .head _⟩
  · obtain ⟨c', e, hco⟩ := ha pos cv hc
    subst e
    refine PySem.W.kla_makeFunctionHit (mg := X.mg) (c := c) (P := P) (ps := ps) (closure_ok hfree) I.ok.glob (I.mod.glob.keeps I.bk) hcode (TB.code.keeps I.bk) hP' ht hc bP fun ctv h' tk hx hsz => ?_
    have I1 : Inv X pins σ H { s with heap := h', toks := tk } := I.kept hx
    have nF : H h'.objs.size = none := I1.hok.fresh (Nat.le_refl _)
    have I2 := inv_lam (F := ⟨"<lambda>", X.env.qual ++ "<lambda>", params, [], scope, cloFrom X.env.cells scope.names [], c'⟩) (b := body) (t' := tk) (pm := (X.mg "__name__").getD .none) (ctv := ctv) I1
    exact h h'.objs.size c' ps [] _ _ I2 (hL.new nF) ⟨ht, ha⟩ hco
end
/-- lambda: body, captured names; the own table and its codes in the ledger -/
def tLamVL (P : Addr) (q : Str) (params : Arguments) (body : Expr) (scope : Scope) (cl : List (Str × Addr)) : TE := fun _ H Q => ∃ (ps : Array Value) (L R : Lg), Led H ((P, .tbl ps) :: (L ++ R)) ∧ TabL q ps L ∧
  ∀ (f c' : Addr) (ps' : Array Value) (Z : Lg) (H1 : Hp), Led H1 ((f, LamO f ⟨"<lambda>", q, params, [], scope, cl, c'⟩ body) :: (P, .tbl ps') :: (Z ++ (L ++ R))) → TabL q ps' (Z ++ L) → (c', CodeO c' q) ∈ Z ++ L → Q (.ref f) H1
theorem pe_lamvL {X : Cx} {q : Str} {c P : Addr} {params : Arguments} {body : Expr} {scope : Scope} {pos : Pos} (TB : TabB X.base X.mg c P) (hcode : X.env.code = .ref c) (hq : X.env.qual ++ "<lambda>" = q) (hdef : defaultsOf params X.env = ([], []))
    (hfree : ∀ y ∈ scope.names, y.2 = .free → X.env.scope.names.lookup y.1 = some .cell) : PE X (.Lambda params body scope pos) (tLamVL P q params body scope (cloFrom X.env.cells scope.names [])) := by
  refine ⟨fun pins s σ H Q I h => ?_⟩
  obtain ⟨ps, L, R, hL, hT, h⟩ := h
  refine lam_valueL I TB hcode hq hL hT hdef (fun y hy e => I.ok.has _ (.inl (hfree y hy e))) fun f c' ps' Z H1 s' I1 h1 h2 h3 => ?_
  exact ⟨.ref f, H1, I1, rfl, h f c' ps' Z H1 h1 h2 h3⟩
section
variable {X : Cx} {s : Shared} {H : Hp} {scope : Scope} {env : Env} {fp : List Addr}
theorem sl_listB : SlR (X.blk s H scope env fp) (rSlL X.K) := sl_list
theorem call_len_seqB : CallR (X.blk s H scope env fp) (.builtin "len") (fun xs H Q => ∃ p ys, xs = [.ref p] ∧ (SqL X.K H p ys ∨ SqT X.K H p ys) ∧ Q (.int ys.length) H) := call_len_seq
end
end Sd


set_option linter.unusedVariables false
namespace Sd
open PySem L2
open C8 (Cal Met Mak pe_c pe_mk pe_mt pe_mt0 pss_cut tCut)
set_option linter.unusedSimpArgs false
set_option pp.deepTerms false
set_option pp.deepTerms.threshold 12
set_option hygiene false
local macro_rules | `(tactic| fail "nd") => `(tactic| first | assumption | decide +kernel)
local macro_rules | `(tactic| fail "ix") => `(tactic| first | exact ⟨0, rfl⟩ | exact ⟨1, rfl⟩ | exact ⟨2, rfl⟩ | exact ⟨3, rfl⟩ | exact ⟨4, rfl⟩ | exact ⟨5, rfl⟩ | exact ⟨6, rfl⟩ | exact ⟨7, rfl⟩ | exact ⟨8, rfl⟩ | exact ⟨9, rfl⟩ | exact ⟨10, rfl⟩ | exact ⟨11, rfl⟩ | exact ⟨12, rfl⟩ | exact ⟨13, rfl⟩ | exact ⟨14, rfl⟩ | exact ⟨15, rfl⟩ | exact ⟨16, rfl⟩ | exact ⟨17, rfl⟩ | exact ⟨18, rfl⟩ | assumption)
local macro_rules | `(tactic| fail "up") => `(tactic| first | exact ⟨0, rfl, rfl⟩ | exact ⟨1, rfl, rfl⟩ | exact ⟨2, rfl, rfl⟩ | exact ⟨3, rfl, rfl⟩ | exact ⟨4, rfl, rfl⟩ | exact ⟨5, rfl, rfl⟩ | exact ⟨6, rfl, rfl⟩ | exact ⟨7, rfl, rfl⟩ | exact ⟨8, rfl, rfl⟩ | exact ⟨9, rfl, rfl⟩ | exact ⟨10, rfl, rfl⟩ | exact ⟨11, rfl, rfl⟩ | exact ⟨12, rfl, rfl⟩ | exact ⟨13, rfl, rfl⟩ | exact ⟨14, rfl, rfl⟩ | exact ⟨15, rfl, rfl⟩ | exact ⟨16, rfl, rfl⟩ | assumption)
local macro_rules | `(tactic| fail "lkF") => `(tactic| first | assumption | exact fz_at 0 (by fail "nd") rfl rfl | exact fz_at 1 (by fail "nd") rfl rfl | exact fz_at 2 (by fail "nd") rfl rfl | exact fz_at 3 (by fail "nd") rfl rfl | exact fz_at 4 (by fail "nd") rfl rfl | exact fz_at 5 (by fail "nd") rfl rfl | exact fz_at 6 (by fail "nd") rfl rfl | exact fz_at 7 (by fail "nd") rfl rfl)
local macro_rules | `(tactic| fail "lkD") => `(tactic| first | assumption | exact dz_at 0 (by fail "nd") rfl rfl | exact dz_at 1 (by fail "nd") rfl rfl | exact dz_at 2 (by fail "nd") rfl rfl | exact dz_at 3 (by fail "nd") rfl rfl | exact dz_at 4 (by fail "nd") rfl rfl)
local macro_rules | `(tactic| fail "ptF") => `(tactic| first | assumption | exact fz_put 0 (by fail "nd") rfl (Nat.le_of_ble_eq_true rfl) | exact fz_put 1 (by fail "nd") rfl (Nat.le_of_ble_eq_true rfl) | exact fz_put 2 (by fail "nd") rfl (Nat.le_of_ble_eq_true rfl) | exact fz_put 3 (by fail "nd") rfl (Nat.le_of_ble_eq_true rfl) | exact fz_put 4 (by fail "nd") rfl (Nat.le_of_ble_eq_true rfl) | exact fz_put 5 (by fail "nd") rfl (Nat.le_of_ble_eq_true rfl) | exact fz_put 6 (by fail "nd") rfl (Nat.le_of_ble_eq_true rfl) | exact fz_put 7 (by fail "nd") rfl (Nat.le_of_ble_eq_true rfl) | exact fz_new (by decide +kernel) rfl)
local macro_rules | `(tactic| fail "ptD") => `(tactic| first | assumption | exact dz_put 0 (by fail "nd") rfl (Nat.le_of_ble_eq_true rfl) | exact dz_put 1 (by fail "nd") rfl (Nat.le_of_ble_eq_true rfl) | exact dz_put 2 (by fail "nd") rfl (Nat.le_of_ble_eq_true rfl) | exact dz_put 3 (by fail "nd") rfl (Nat.le_of_ble_eq_true rfl) | exact dz_put 4 (by fail "nd") rfl (Nat.le_of_ble_eq_true rfl))
local macro_rules | `(tactic| fail "sz") => `(tactic| first | assumption | exact (Nat.le_of_ble_eq_true rfl) | omega | decide)
local macro_rules | `(tactic| fail "sd") => `(tactic| first | rfl | assumption | decide | omega | (dsimp only; first | decide | omega) | exact .inr ⟨by decide, by decide⟩ | exact .inl ⟨by decide, by decide⟩ | exact ⟨by omega, by omega⟩ | exact .inl ⟨by omega, by omega⟩ | exact .inr ⟨by omega, by omega⟩ | exact ⟨by omega, by omega, by omega⟩)
local macro_rules | `(tactic| fail "cl") => `(tactic| (clear hH; dsimp only [List.set, List.cons_append, List.nil_append, List.append] at hL))
local macro_rules | `(tactic| fail "gn") => `(tactic| (intro p hp; generalize hH : upd H p _ = H; replace hL := Led.newH hL hp hH; clear hH hp))
local macro_rules | `(tactic| fail "gup") => `(tactic| (generalize hH : upd H _ _ = H; replace hL := Led.upU hL (by fail "up") hH; fail "cl"))
local macro_rules | `(tactic| fail "gmk") => `(tactic| (intro x dx hx hd ne; generalize hH : upd (upd H dx _) x _ = H; replace hL := Led.made hL hx hd ne hH; clear hH hx hd ne))
local macro_rules | `(tactic| fail "v") => `(tactic| refine ⟨_, rfl, ?_⟩)
local macro_rules | `(tactic| fail "i2") => `(tactic| refine ⟨_, _, rfl, rfl, ?_⟩)
local macro_rules | `(tactic| fail "go1") => `(tactic| first
  | refine ⟨_, rfl, ?_⟩
  | refine ⟨_, _, rfl, rfl, ?_⟩
  | refine ⟨_, _, rfl, ?_⟩
  | refine iteT ?_
  | refine iteF ?_
  | refine k_fld hL (by fail "ix") (by assumption) (by assumption) (by fail "lkF") ?_
  | refine k_dgetS hL (by fail "ix") (by fail "lkD") ?_
  | refine k_dgetI hL (by fail "ix") (by assumption) ?_
  | refine k_ixL hL (by fail "ix") (by first | rfl | assumption) ?_
  | refine k_ixT hL (by fail "ix") (by first | rfl | assumption) ?_
  | refine k_tyL hL (by fail "ix") ?_
  | refine k_isd hL (by fail "ix") ?_
  | (refine And.intro (by fail "sz") ?_; fail "gn")
  | refine And.intro (by fail "sd") ?_
  | fail "gn"
  | refine k_meth hL (by fail "ix") (by first | assumption | exact fz_no (by decide +kernel)) ?_
  | refine k_gtup hL (by fail "ix") rfl ?_
  | (refine k_popI hL (by fail "ix") (by assumption) ?_; fail "gup")
  | (refine k_listD hL (by fail "ix") ?_; fail "gn")
  | (refine ⟨_, _, _, _, rfl, rfl, hL.at (by fail "ix"), rfl, ?_⟩; fail "gup")
  | (refine ⟨_, _, _, rfl, rfl, hL.at (by fail "ix"), (by fail "sz"), ?_⟩; fail "gup")
  | (refine ⟨_, _, _, _, rfl, hL.at (by fail "ix"), by assumption, by assumption, Nat.lt_of_le_of_lt fz_len (by decide), ?_⟩; generalize hH : upd H _ _ = H; replace hL := Led.upF hL (by fail "up") (by fail "ptF") hH; fail "cl")
  | (refine ⟨_, _, hL.at (by fail "ix"), Nat.lt_of_le_of_lt fz_len (by decide), ?_⟩; generalize hH : upd H _ _ = H; replace hL := Led.upF hL (by fail "up") (by fail "ptF") hH; fail "cl")
  | (refine k_dputS hL (by fail "ix") (Nat.lt_of_le_of_lt dz_len (by decide)) (by fail "ptD") (by fail "up") ?_; clear hL; intro H hL; dsimp only [List.set, List.cons_append, List.nil_append, List.append] at hL)
  | refine k_lenL2 hL (by fail "ix") ?_
  | refine k_lenT2 hL (by fail "ix") ?_
  | refine .inl ⟨_, rfl, ?_⟩
  | refine .inr ⟨_, rfl, ?_⟩)
local macro_rules | `(tactic| fail "go") => `(tactic| repeat fail "go1")
local macro_rules | `(tactic| fail "pm") => `(tactic| (refine Led.le hL (fun a_ => ?_); simp only [cnt_nil, cnt_cons, cnt_app, List.map_append, List.map_cons, List.map_nil, List.flatMap_append, List.flatMap_cons, List.flatMap_nil, List.append_assoc, List.cons_append, List.nil_append]; omega))

local macro_rules | `(tactic| fail "pmt") => `(tactic| (try dsimp only [tI] at hL); (try dsimp only [tI]); (refine Led.le hL (fun a_ => ?_); simp only [cnt_nil, cnt_cons, cnt_app, List.map_append, List.map_cons, List.map_nil, List.flatMap_append, List.flatMap_cons, List.flatMap_nil, List.append_assoc, List.cons_append, List.nil_append]; omega))
abbrev sLBytes : Stmt := top 30
def spLBytes (PN : Addr) (n : Nat) : Sp := fun vs H Q _ => ∃ (rl : Addr) (rvs : List V) (rds : List Dv) (ps : Array Value) (L : Lg), vs = [.ref rl] ∧ Led H ((PN, .tbl ps) :: L) ∧ TriplesOk ps.toList ∧ (rl, .lst rvs) ∈ L ∧ DLs L rvs rds ∧ (∀ d ∈ rds, Pk n d) ∧ (framesB rds).length ≤ sizeLine ∧
  ∀ (r : Addr) (ps' : Array Value) H', TriplesOk ps'.toList → Led H' ((r, tI (framesB rds)) :: (PN, .tbl ps') :: L) → Q (.ref r) H'
section
variable {P : Program} {w : World} {K : PySem.W.Frag} {mg : Str → Option Value} {base : Heap}
theorem scLBytes : FnScope ["rows", "found", "row"] ["rows"] (defScope sLBytes) := ⟨rfl, rfl, rfl, by decide +kernel, rfl, by decide +kernel, by decide +kernel⟩
theorem ok_lbytes {f : Addr} {fd : FuncData} {PN : Addr} {n : Nat} (F : Fun K "_law_bytes" "_law_bytes" sLBytes f fd) (c_frame : Cal P w K mg base (6 + n) "frame" (spFrame PN n) []) :
    FnOk P w K mg base CX0 (7 + n) f fd ["rows"] (spLBytes PN n) := by
  have e6 : 7 + n = (6 + n) + 1 := by omega
  rw [e6]
  refine F.ok scLBytes (fun vs H Q E h => ?_) (fun cdv A outer s0 H vs Q E hr h => ?_)
  · obtain ⟨rl, rvs, rds, ps, L, rfl, _⟩ := h
    rfl
  · obtain ⟨rl, rvs, rds, ps, L, rfl, hL, ht, hrl, hrs, hrk, hz, k⟩ := h
    refine ⟨_, (pss_cons (ps_set (i := 1) scLBytes.nd rfl (Or.inl rfl) (pe_tup pa_nil))
  (pss_cons (ps_for PassesOwn.never rfl (pi_list (pv 0)) (pg_name (i := 2) scLBytes.nd rfl (Or.inl rfl))
  (pss_one (ps_set (i := 1) scLBytes.nd rfl (Or.inl rfl) (pe_op (op_catA) (pv 1) (pe_c c_frame hr (by omega) (by rfl) (pa_cons (pv 2) pa_nil))))))
  (pss_one (ps_ret (pv 1))))), ?_⟩
    fail "go"
    refine ⟨⟨_, .of (hL.mem (.tail _ (.tail _ hrl)))⟩, ?_⟩
    refine for_listA (xs := rvs) (fun i σ H => Hold (∃ (v2 : Option V) (fp : Addr) (ps : Array Value), σ = [some (.ref rl), some (.ref fp), v2] ∧ TriplesOk ps.toList ∧
      Led H ((fp, tI (framesB (rds.take i))) :: (PN, .tbl ps) :: L))) (.mk ⟨_, p, ps, rfl, ht, hL⟩) (fun i σ H _ h => ?_) (fun i rv σ H D1 hi h hN => ?_) (fun σ H h => ?_)
    · obtain ⟨v2, fp, ps, rfl, ht, hL⟩ := h.out
      exact .of (hL.mem (.tail _ (.tail _ hrl)))
    · clear hL ht
      obtain ⟨v2, fp, ps, rfl, ht, hL⟩ := h.out
      obtain ⟨rd, hrd, hrv⟩ := hrs.get hi
      obtain ⟨q1, q2, q3, q4⟩ := hrk rd (List.mem_of_getElem? hrd)
      have hft := frames_take hrd
      have hfa := congrArg List.length (frames_at hrd)
      rw [List.length_append, List.length_append] at hfa
      fail "go"
      refine ⟨rv, rd, ps, (fp, tI (framesB (rds.take i))) :: L, rfl, hL.perm (.swap _ _ _), ht, hrv.mono (fun a h => .tail _ h), q1, q2, q3, q4, fun ps r2 H ht hL => ?_⟩
      refine k_catA (b := r2) (a := fp) (xs := (framesB (rds.take i)).map .int) (ys := (frameB (packB rd)).map .int) (L := (PN, .tbl ps) :: L) (hL.perm (.cons _ (.swap _ _ _))) (by rw [List.length_map, List.length_map]; omega) fun r3 H hL => ?_
      fail "go"
      refine hN.nx _ _ (.mk ⟨some rv, r3, ps, rfl, ht, ?_⟩)
      rw [hft]
      rw [← List.map_append] at hL
      exact hL
    · clear hL ht
      obtain ⟨v2, fp, ps, rfl, ht, hL⟩ := h.out
      rw [hrs.len, List.take_length] at hL
      fail "go"
      exact k fp ps H ht hL
end
end Sd


set_option linter.unusedVariables false
namespace Sd
open PySem L2 LamX
open C8 (Cal Met Mak pe_c pe_mk pe_mt pe_mt0 pss_cut tCut)
set_option linter.unusedSimpArgs false
set_option pp.deepTerms false
set_option pp.deepTerms.threshold 12
set_option hygiene false
local macro_rules | `(tactic| fail "nd") => `(tactic| first | assumption | decide +kernel)
local macro_rules | `(tactic| fail "ix") => `(tactic| first | exact ⟨0, rfl⟩ | exact ⟨1, rfl⟩ | exact ⟨2, rfl⟩ | exact ⟨3, rfl⟩ | exact ⟨4, rfl⟩ | exact ⟨5, rfl⟩ | exact ⟨6, rfl⟩ | exact ⟨7, rfl⟩ | exact ⟨8, rfl⟩ | exact ⟨9, rfl⟩ | exact ⟨10, rfl⟩ | exact ⟨11, rfl⟩ | exact ⟨12, rfl⟩ | exact ⟨13, rfl⟩ | exact ⟨14, rfl⟩ | exact ⟨15, rfl⟩ | exact ⟨16, rfl⟩ | exact ⟨17, rfl⟩ | exact ⟨18, rfl⟩ | assumption)
local macro_rules | `(tactic| fail "up") => `(tactic| first | exact ⟨0, rfl, rfl⟩ | exact ⟨1, rfl, rfl⟩ | exact ⟨2, rfl, rfl⟩ | exact ⟨3, rfl, rfl⟩ | exact ⟨4, rfl, rfl⟩ | exact ⟨5, rfl, rfl⟩ | exact ⟨6, rfl, rfl⟩ | exact ⟨7, rfl, rfl⟩ | exact ⟨8, rfl, rfl⟩ | exact ⟨9, rfl, rfl⟩ | exact ⟨10, rfl, rfl⟩ | exact ⟨11, rfl, rfl⟩ | exact ⟨12, rfl, rfl⟩ | exact ⟨13, rfl, rfl⟩ | exact ⟨14, rfl, rfl⟩ | exact ⟨15, rfl, rfl⟩ | exact ⟨16, rfl, rfl⟩ | assumption)
local macro_rules | `(tactic| fail "lkF") => `(tactic| first | assumption | exact fz_at 0 (by fail "nd") rfl rfl | exact fz_at 1 (by fail "nd") rfl rfl | exact fz_at 2 (by fail "nd") rfl rfl | exact fz_at 3 (by fail "nd") rfl rfl | exact fz_at 4 (by fail "nd") rfl rfl | exact fz_at 5 (by fail "nd") rfl rfl | exact fz_at 6 (by fail "nd") rfl rfl | exact fz_at 7 (by fail "nd") rfl rfl)
local macro_rules | `(tactic| fail "lkD") => `(tactic| first | assumption | exact dz_at 0 (by fail "nd") rfl rfl | exact dz_at 1 (by fail "nd") rfl rfl | exact dz_at 2 (by fail "nd") rfl rfl | exact dz_at 3 (by fail "nd") rfl rfl | exact dz_at 4 (by fail "nd") rfl rfl)
local macro_rules | `(tactic| fail "ptF") => `(tactic| first | assumption | exact fz_put 0 (by fail "nd") rfl (Nat.le_of_ble_eq_true rfl) | exact fz_put 1 (by fail "nd") rfl (Nat.le_of_ble_eq_true rfl) | exact fz_put 2 (by fail "nd") rfl (Nat.le_of_ble_eq_true rfl) | exact fz_put 3 (by fail "nd") rfl (Nat.le_of_ble_eq_true rfl) | exact fz_put 4 (by fail "nd") rfl (Nat.le_of_ble_eq_true rfl) | exact fz_put 5 (by fail "nd") rfl (Nat.le_of_ble_eq_true rfl) | exact fz_put 6 (by fail "nd") rfl (Nat.le_of_ble_eq_true rfl) | exact fz_put 7 (by fail "nd") rfl (Nat.le_of_ble_eq_true rfl) | exact fz_new (by decide +kernel) rfl)
local macro_rules | `(tactic| fail "ptD") => `(tactic| first | assumption | exact dz_put 0 (by fail "nd") rfl (Nat.le_of_ble_eq_true rfl) | exact dz_put 1 (by fail "nd") rfl (Nat.le_of_ble_eq_true rfl) | exact dz_put 2 (by fail "nd") rfl (Nat.le_of_ble_eq_true rfl) | exact dz_put 3 (by fail "nd") rfl (Nat.le_of_ble_eq_true rfl) | exact dz_put 4 (by fail "nd") rfl (Nat.le_of_ble_eq_true rfl))
local macro_rules | `(tactic| fail "sz") => `(tactic| first | assumption | exact (Nat.le_of_ble_eq_true rfl) | omega | decide)
local macro_rules | `(tactic| fail "sd") => `(tactic| first | rfl | assumption | decide | omega | (dsimp only; first | decide | omega) | exact .inr ⟨by decide, by decide⟩ | exact .inl ⟨by decide, by decide⟩ | exact ⟨by omega, by omega⟩ | exact .inl ⟨by omega, by omega⟩ | exact .inr ⟨by omega, by omega⟩ | exact ⟨by omega, by omega, by omega⟩)
local macro_rules | `(tactic| fail "cl") => `(tactic| (clear hH; dsimp only [List.set, List.cons_append, List.nil_append, List.append] at hL))
local macro_rules | `(tactic| fail "gn") => `(tactic| (intro p hp; generalize hH : upd H p _ = H; replace hL := Led.newH hL hp hH; clear hH hp))
local macro_rules | `(tactic| fail "gup") => `(tactic| (generalize hH : upd H _ _ = H; replace hL := Led.upU hL (by fail "up") hH; fail "cl"))
local macro_rules | `(tactic| fail "gmk") => `(tactic| (intro x dx hx hd ne; generalize hH : upd (upd H dx _) x _ = H; replace hL := Led.made hL hx hd ne hH; clear hH hx hd ne))
local macro_rules | `(tactic| fail "v") => `(tactic| refine ⟨_, rfl, ?_⟩)
local macro_rules | `(tactic| fail "i2") => `(tactic| refine ⟨_, _, rfl, rfl, ?_⟩)
local macro_rules | `(tactic| fail "go1") => `(tactic| first
  | refine ⟨_, rfl, ?_⟩
  | refine ⟨_, _, rfl, rfl, ?_⟩
  | refine ⟨_, _, rfl, ?_⟩
  | refine iteT ?_
  | refine iteF ?_
  | refine k_fld hL (by fail "ix") (by assumption) (by assumption) (by fail "lkF") ?_
  | refine k_dgetS hL (by fail "ix") (by fail "lkD") ?_
  | refine k_dgetI hL (by fail "ix") (by assumption) ?_
  | refine k_ixL hL (by fail "ix") (by first | rfl | assumption) ?_
  | refine k_ixT hL (by fail "ix") (by first | rfl | assumption) ?_
  | refine k_tyL hL (by fail "ix") ?_
  | refine k_isd hL (by fail "ix") ?_
  | (refine And.intro (by fail "sz") ?_; fail "gn")
  | refine And.intro (by fail "sd") ?_
  | fail "gn"
  | refine k_meth hL (by fail "ix") (by first | assumption | exact fz_no (by decide +kernel)) ?_
  | refine k_gtup hL (by fail "ix") rfl ?_
  | (refine k_popI hL (by fail "ix") (by assumption) ?_; fail "gup")
  | (refine k_listD hL (by fail "ix") ?_; fail "gn")
  | (refine ⟨_, _, _, _, rfl, rfl, hL.at (by fail "ix"), rfl, ?_⟩; fail "gup")
  | (refine ⟨_, _, _, rfl, rfl, hL.at (by fail "ix"), (by fail "sz"), ?_⟩; fail "gup")
  | (refine ⟨_, _, _, _, rfl, hL.at (by fail "ix"), by assumption, by assumption, Nat.lt_of_le_of_lt fz_len (by decide), ?_⟩; generalize hH : upd H _ _ = H; replace hL := Led.upF hL (by fail "up") (by fail "ptF") hH; fail "cl")
  | (refine ⟨_, _, hL.at (by fail "ix"), Nat.lt_of_le_of_lt fz_len (by decide), ?_⟩; generalize hH : upd H _ _ = H; replace hL := Led.upF hL (by fail "up") (by fail "ptF") hH; fail "cl")
  | (refine k_dputS hL (by fail "ix") (Nat.lt_of_le_of_lt dz_len (by decide)) (by fail "ptD") (by fail "up") ?_; clear hL; intro H hL; dsimp only [List.set, List.cons_append, List.nil_append, List.append] at hL)
  | refine k_lenL2 hL (by fail "ix") ?_
  | refine k_lenT2 hL (by fail "ix") ?_
  | refine .inl ⟨_, rfl, ?_⟩
  | refine .inr ⟨_, rfl, ?_⟩)
local macro_rules | `(tactic| fail "go") => `(tactic| repeat fail "go1")
local macro_rules | `(tactic| fail "pm") => `(tactic| (refine Led.le hL (fun a_ => ?_); simp only [cnt_nil, cnt_cons, cnt_app, List.map_append, List.map_cons, List.map_nil, List.flatMap_append, List.flatMap_cons, List.flatMap_nil, List.append_assoc, List.cons_append, List.nil_append]; omega))

abbrev sLaw : Stmt := top 31
def bodyF (st : Stmt) : List Stmt := match st with | .For _ _ b _ _ => b | _ => []
def thenS (st : Stmt) : List Stmt := match st with | .If _ b _ _ => b | _ => []
def elseS (st : Stmt) : List Stmt := match st with | .If _ _ b _ => b | _ => []
def nth (b : List Stmt) (i : Nat) : Stmt := b.getD i (.Pass ⟨0, 0, 0, 0⟩)
abbrev diceB : List Stmt := bodyF (nth (defBody sLaw) 0)
abbrev stepB : List Stmt := bodyF (nth diceB 1)
abbrev deedB : List Stmt := thenS (nth (elseS (nth stepB 1)) 0)
def argOf (st : Stmt) : Expr := match st with
  | .Assign _ (.Call _ (l :: _) _ _) _ => l
  | _ => .Name "" ⟨0, 0, 0, 0⟩
def lamBody (e : Expr) : Expr := match e with
  | .Lambda _ b _ _ => b
  | _ => e
def lamArgs (e : Expr) : Arguments := match e with
  | .Lambda a _ _ _ => a
  | _ => { posonlyargs := [], args := [], vararg := none, kwonlyargs := [], kw_defaults := [], kwarg := none, defaults := [] }
def lamScope (e : Expr) : Scope := match e with
  | .Lambda _ _ s _ => s
  | _ => { kind := .function, names := [], isGenerator := false, isCoroutine := false }
abbrev lamE : Expr := argOf (nth deedB 3)
abbrev NLm : List Str := ["disk", "value", "sort", "name", "kept"]
theorem nsc : NdefX.NScope NLm [] NLm (lamScope lamE) := NdefX.nscope_by (by decide +kernel)
/-- the law's deed: append, sync or replace -/
def tlD (CD CE PN : Addr) : List (Option V) → Hp → VK → XK → Prop := fun ws H Q E => ∃ (x : Addr) (v : V) (so : Int) (nm : Str) (kl : Addr) (kvs : List V) (dx K W F : Addr) (s : DkS) (R : Lg), ws = [some (.ref x), some v, some (.int so), some (.str nm), some (.ref kl)] ∧
  Led H (dkL CD x dx K W F s ++ R) ∧ (so < 4 → spDApp CD CE PN 2 [.ref x, v] H Q E) ∧ (4 ≤ so → so < 6 → spSync CD CE [.ref x] H Q E) ∧
  (6 ≤ so → H kl = some (.lst kvs) ∧ ∀ p, H p = none → spRepl CD CE PN 2 [.ref x, .str nm, v, .ref p] (upd H p (.lst (kvs.take 1))) Q E)
section
variable {P : Program} {w : World} {K : PySem.W.Frag} {mg : Str → Option Value} {base : Heap} {CD CE PN : Addr}
theorem lok_deed {f c' : Addr} {q : Str} {cl : List (Str × Addr)} (c_app : MetX P w K mg base 9 CD "append" (spDApp CD CE PN 2) []) (c_sync : MetX P w K mg base 2 CD "sync" (spSync CD CE) []) (c_repl : MetX P w K mg base 9 CD "replace" (spRepl CD CE PN 2) []) :
    LOkC P w K mg base 10 f ⟨"<lambda>", q, lamArgs lamE, [], lamScope lamE, cl, c'⟩ (lamBody lamE) NLm (tlD CD CE PN) := by
  refine lokC_of nsc (fun _ _ _ => rfl) fun A outer s H ws Q E hr h => ⟨_, pe_ifExp (pt_cmpR op_lt (pv 2) pe_int (nomark _)) (pe_mtX c_app hr (by decide) (takes_of rfl rfl rfl (E := E) rfl) (pv 0) (pa_cons (pv 1) pa_nil))
    (pe_ifExp (pt_cmpR op_lt (pv 2) pe_int (nomark _)) (pe_mtX0 c_sync hr (by decide) (takes_of rfl rfl rfl (E := E) rfl) (pv 0)) (pe_mtX c_repl hr (by decide) (takes_of rfl rfl rfl (E := E) rfl) (pv 0) (pa_cons (pv 3) (pa_cons (pv 1) (pa_cons (pe_slice sl_list (pv 4) po_none (po_some pe_int)) pa_nil))))), ?_⟩
  obtain ⟨x, v, so, nm, kl, kvs, dx, KK, W, F, s, R, rfl, hL, h1, h2, h3⟩ := h
  have hL2 := hL
  dsimp only [dkL, dkO, List.cons_append] at hL2
  fail "go"
  refine ite_d (fun q => ?_) fun q => ?_
  · refine ⟨_, rfl, x, _, _, rfl, hL2.at ⟨0, rfl⟩, fz_no (by decide +kernel), ?_⟩
    exact ⟨_, rfl, h1 q⟩
  · fail "go"
    refine ite_d (fun q2 => ?_) fun q2 => ?_
    · refine ⟨_, rfl, x, _, _, rfl, hL2.at ⟨0, rfl⟩, fz_no (by decide +kernel), ?_⟩
      exact h2 (by omega) q2
    · obtain ⟨h4, h5⟩ := h3 (by omega)
      refine ⟨_, rfl, x, _, _, rfl, hL2.at ⟨0, rfl⟩, fz_no (by decide +kernel), ?_⟩
      refine ⟨_, rfl, _, rfl, _, rfl, ?_⟩
      refine ⟨1, rfl, ?_⟩
      refine ⟨kl, kvs, rfl, .of h4, fun p hp => ?_⟩
      have e1 : cutV kvs none (some 1) = kvs.take 1 := by
        unfold cutV
        rw [HT.sIx_none, show (some (1 : Int)) = some ((1 : Nat) : Int) from rfl, HT.sIx_nat, List.drop_zero, Nat.sub_zero]
        cases kvs with
        | nil => rfl
        | cons a r => simp
      rw [e1]
      exact h5 p hp
end
end Sd


set_option linter.unusedVariables false
namespace Sd
open PySem L2 LamX
open C8 (Cal Met Mak pe_c pe_mk pe_mt pe_mt0 pss_cut tCut)
set_option linter.unusedSimpArgs false
set_option pp.deepTerms false
set_option pp.deepTerms.threshold 12
set_option hygiene false
local macro_rules | `(tactic| fail "nd") => `(tactic| first | assumption | decide +kernel)
local macro_rules | `(tactic| fail "ix") => `(tactic| first | exact ⟨0, rfl⟩ | exact ⟨1, rfl⟩ | exact ⟨2, rfl⟩ | exact ⟨3, rfl⟩ | exact ⟨4, rfl⟩ | exact ⟨5, rfl⟩ | exact ⟨6, rfl⟩ | exact ⟨7, rfl⟩ | exact ⟨8, rfl⟩ | exact ⟨9, rfl⟩ | exact ⟨10, rfl⟩ | exact ⟨11, rfl⟩ | exact ⟨12, rfl⟩ | exact ⟨13, rfl⟩ | exact ⟨14, rfl⟩ | exact ⟨15, rfl⟩ | exact ⟨16, rfl⟩ | exact ⟨17, rfl⟩ | exact ⟨18, rfl⟩ | assumption)
local macro_rules | `(tactic| fail "up") => `(tactic| first | exact ⟨0, rfl, rfl⟩ | exact ⟨1, rfl, rfl⟩ | exact ⟨2, rfl, rfl⟩ | exact ⟨3, rfl, rfl⟩ | exact ⟨4, rfl, rfl⟩ | exact ⟨5, rfl, rfl⟩ | exact ⟨6, rfl, rfl⟩ | exact ⟨7, rfl, rfl⟩ | exact ⟨8, rfl, rfl⟩ | exact ⟨9, rfl, rfl⟩ | exact ⟨10, rfl, rfl⟩ | exact ⟨11, rfl, rfl⟩ | exact ⟨12, rfl, rfl⟩ | exact ⟨13, rfl, rfl⟩ | exact ⟨14, rfl, rfl⟩ | exact ⟨15, rfl, rfl⟩ | exact ⟨16, rfl, rfl⟩ | assumption)
local macro_rules | `(tactic| fail "lkF") => `(tactic| first | assumption | exact fz_at 0 (by fail "nd") rfl rfl | exact fz_at 1 (by fail "nd") rfl rfl | exact fz_at 2 (by fail "nd") rfl rfl | exact fz_at 3 (by fail "nd") rfl rfl | exact fz_at 4 (by fail "nd") rfl rfl | exact fz_at 5 (by fail "nd") rfl rfl | exact fz_at 6 (by fail "nd") rfl rfl | exact fz_at 7 (by fail "nd") rfl rfl)
local macro_rules | `(tactic| fail "lkD") => `(tactic| first | assumption | exact dz_at 0 (by fail "nd") rfl rfl | exact dz_at 1 (by fail "nd") rfl rfl | exact dz_at 2 (by fail "nd") rfl rfl | exact dz_at 3 (by fail "nd") rfl rfl | exact dz_at 4 (by fail "nd") rfl rfl)
local macro_rules | `(tactic| fail "ptF") => `(tactic| first | assumption | exact fz_put 0 (by fail "nd") rfl (Nat.le_of_ble_eq_true rfl) | exact fz_put 1 (by fail "nd") rfl (Nat.le_of_ble_eq_true rfl) | exact fz_put 2 (by fail "nd") rfl (Nat.le_of_ble_eq_true rfl) | exact fz_put 3 (by fail "nd") rfl (Nat.le_of_ble_eq_true rfl) | exact fz_put 4 (by fail "nd") rfl (Nat.le_of_ble_eq_true rfl) | exact fz_put 5 (by fail "nd") rfl (Nat.le_of_ble_eq_true rfl) | exact fz_put 6 (by fail "nd") rfl (Nat.le_of_ble_eq_true rfl) | exact fz_put 7 (by fail "nd") rfl (Nat.le_of_ble_eq_true rfl) | exact fz_new (by decide +kernel) rfl)
local macro_rules | `(tactic| fail "ptD") => `(tactic| first | assumption | exact dz_put 0 (by fail "nd") rfl (Nat.le_of_ble_eq_true rfl) | exact dz_put 1 (by fail "nd") rfl (Nat.le_of_ble_eq_true rfl) | exact dz_put 2 (by fail "nd") rfl (Nat.le_of_ble_eq_true rfl) | exact dz_put 3 (by fail "nd") rfl (Nat.le_of_ble_eq_true rfl) | exact dz_put 4 (by fail "nd") rfl (Nat.le_of_ble_eq_true rfl))
local macro_rules | `(tactic| fail "sz") => `(tactic| first | assumption | exact (Nat.le_of_ble_eq_true rfl) | omega | decide)
local macro_rules | `(tactic| fail "sd") => `(tactic| first | rfl | assumption | decide | omega | (dsimp only; first | decide | omega) | exact .inr ⟨by decide, by decide⟩ | exact .inl ⟨by decide, by decide⟩ | exact ⟨by omega, by omega⟩ | exact .inl ⟨by omega, by omega⟩ | exact .inr ⟨by omega, by omega⟩ | exact ⟨by omega, by omega, by omega⟩)
local macro_rules | `(tactic| fail "cl") => `(tactic| (clear hH; dsimp only [List.set, List.cons_append, List.nil_append, List.append] at hL))
local macro_rules | `(tactic| fail "gn") => `(tactic| (intro p hp; generalize hH : upd H p _ = H; replace hL := Led.newH hL hp hH; clear hH hp))
local macro_rules | `(tactic| fail "gup") => `(tactic| (generalize hH : upd H _ _ = H; replace hL := Led.upU hL (by fail "up") hH; fail "cl"))
local macro_rules | `(tactic| fail "gmk") => `(tactic| (intro x dx hx hd ne; generalize hH : upd (upd H dx _) x _ = H; replace hL := Led.made hL hx hd ne hH; clear hH hx hd ne))
local macro_rules | `(tactic| fail "v") => `(tactic| refine ⟨_, rfl, ?_⟩)
local macro_rules | `(tactic| fail "i2") => `(tactic| refine ⟨_, _, rfl, rfl, ?_⟩)
local macro_rules | `(tactic| fail "go1") => `(tactic| first
  | refine ⟨_, rfl, ?_⟩
  | refine ⟨_, _, rfl, rfl, ?_⟩
  | refine ⟨_, _, rfl, ?_⟩
  | refine iteT ?_
  | refine iteF ?_
  | refine k_fld hL (by fail "ix") (by assumption) (by assumption) (by fail "lkF") ?_
  | refine k_dgetS hL (by fail "ix") (by fail "lkD") ?_
  | refine k_dgetI hL (by fail "ix") (by assumption) ?_
  | refine k_ixL hL (by fail "ix") (by first | rfl | assumption) ?_
  | refine k_ixT hL (by fail "ix") (by first | rfl | assumption) ?_
  | refine k_tyL hL (by fail "ix") ?_
  | refine k_isd hL (by fail "ix") ?_
  | (refine And.intro (by fail "sz") ?_; fail "gn")
  | refine And.intro (by fail "sd") ?_
  | fail "gn"
  | refine k_meth hL (by fail "ix") (by first | assumption | exact fz_no (by decide +kernel)) ?_
  | refine k_gtup hL (by fail "ix") rfl ?_
  | (refine k_popI hL (by fail "ix") (by assumption) ?_; fail "gup")
  | (refine k_listD hL (by fail "ix") ?_; fail "gn")
  | (refine ⟨_, _, _, _, rfl, rfl, hL.at (by fail "ix"), rfl, ?_⟩; fail "gup")
  | (refine ⟨_, _, _, rfl, rfl, hL.at (by fail "ix"), (by fail "sz"), ?_⟩; fail "gup")
  | (refine ⟨_, _, _, _, rfl, hL.at (by fail "ix"), by assumption, by assumption, Nat.lt_of_le_of_lt fz_len (by decide), ?_⟩; generalize hH : upd H _ _ = H; replace hL := Led.upF hL (by fail "up") (by fail "ptF") hH; fail "cl")
  | (refine ⟨_, _, hL.at (by fail "ix"), Nat.lt_of_le_of_lt fz_len (by decide), ?_⟩; generalize hH : upd H _ _ = H; replace hL := Led.upF hL (by fail "up") (by fail "ptF") hH; fail "cl")
  | (refine k_dputS hL (by fail "ix") (Nat.lt_of_le_of_lt dz_len (by decide)) (by fail "ptD") (by fail "up") ?_; clear hL; intro H hL; dsimp only [List.set, List.cons_append, List.nil_append, List.append] at hL)
  | refine k_lenL2 hL (by fail "ix") ?_
  | refine k_lenT2 hL (by fail "ix") ?_
  | refine .inl ⟨_, rfl, ?_⟩
  | refine .inr ⟨_, rfl, ?_⟩)
local macro_rules | `(tactic| fail "go") => `(tactic| repeat fail "go1")
local macro_rules | `(tactic| fail "pm") => `(tactic| (refine Led.le hL (fun a_ => ?_); simp only [cnt_nil, cnt_cons, cnt_app, List.map_append, List.map_cons, List.map_nil, List.flatMap_append, List.flatMap_cons, List.flatMap_nil, List.append_assoc, List.cons_append, List.nil_append]; omega))

/-- z * n -/
def rMulS : R2 := fun x y H Q => ∃ (z : Str) (n : Int), x = .str z ∧ y = .int n ∧ MulOk z n ∧ Q (.str (Txt.mul z n)) H
theorem op_mulS {X : Cx} : OpR X (binaryOp .Mult) rMulS := by
  intro pins s σ H x y v u Q I rx ry h
  obtain ⟨z, n, rfl, rfl, hm, q⟩ := h
  obtain ⟨t, rfl⟩ := rx
  obtain ⟨t', rfl⟩ := ry
  exact SB.mul hm fun t' k => ⟨.str (Txt.mul z n), H, I.tok _, ⟨_, rfl⟩, q⟩
/-- 'x' * k -/
def xs (k : Nat) : Str := ⟨(List.replicate k 120).toArray⟩
theorem xs_mul {k : Nat} (h : k < 4) : MulOk "x" k ∧ Txt.mul "x" k = xs k := by
  have : k = 0 ∨ k = 1 ∨ k = 2 ∨ k = 3 := by omega
  rcases this with rfl | rfl | rfl | rfl <;> exact ⟨by refine ⟨?_, ?_, ?_⟩ <;> decide, by decide⟩
abbrev NLw : List Str := ["script", "dice", "disk", "kept", "waiting", "files", "fuse", "down", "syncs", "step", "sort", "value", "name", "told_now", "data", "many", "rows", "k"]
theorem scLaw : FnScope NLw ["script"] (defScope sLaw) := ⟨rfl, rfl, rfl, by decide +kernel, rfl, by decide +kernel, by decide +kernel⟩
abbrev LX (P : Program) (w : World) (K : PySem.W.Frag) (mg : Str → Option Value) (base : Heap) (f : Addr) (cdv : Value) (A : Around) (outer : List Env) (s : Shared) (H : Hp) (E : XK) : Cx := (cxOf CX0 P w K mg base NLw "law" (defScope sLaw) f cdv A outer s H E).nox
/-- a record of the law -/
def vD (n k : Nat) : Dv := .row [.str "r", .int n, .str (xs k)]
def vO (v : Addr) (n k : Nat) : Addr × HO := (v, .tup [.str "r", .int n, .str (xs k)])
def tVal : TS := fun D σ H => ∃ (d : Addr) (x y z : Int) (R : Lg), σ[1]? = some (some (.ref d)) ∧ Led H ((d, dD x y z) :: R) ∧ ∀ (so : Int) (v : Addr) (n k : Nat) (x y z : Int) H', 0 ≤ so → so < 9 → n < 999 → k < 4 → Led H' (vO v n k :: (d, dD x y z) :: R) → D.nx ((σ.set 10 (some (.int so))).set 11 (some (.ref v))) H'
section
variable {P : Program} {w : World} {K : PySem.W.Frag} {mg : Str → Option Value} {base : Heap} {f : Addr} {cdv : Value} {A : Around} {outer : List Env} {s0 : Shared} {H0 : Hp} {E : XK}
theorem st_val (hr : Room 18 (LX P w K mg base f cdv A outer s0 H0 E).A) (c__law_roll : Cal P w K mg base 1 "_law_roll" spRoll []) : PS (LX P w K mg base f cdv A outer s0 H0 E) (nth stepB 0) tVal := by
  refine ps_imp (t := _) (ps_asg (pe_tup (pa_cons (pe_c c__law_roll hr (by decide) (by rfl) (pa_cons (pv 1) (pa_cons pe_int pa_nil))) (pa_cons (pe_tup (pa_cons pe_str (pa_cons (pe_c c__law_roll hr (by decide) (by rfl) (pa_cons (pv 1) (pa_cons pe_int pa_nil))) (pa_cons (pe_op op_mulS pe_str (pe_c c__law_roll hr (by decide) (by rfl) (pa_cons (pv 1) (pa_cons pe_int pa_nil)))) pa_nil)))) pa_nil))) (pg_tup (by rfl) (pgs_cons (pg_name (i := 10) scLaw.nd rfl (Or.inr rfl)) (pgs_cons (pg_name (i := 11) scLaw.nd rfl (Or.inr rfl)) pgs_nil)))) ?_
  rintro D σ H ⟨d, x, y, z, R, hs, hL, k⟩
  refine ⟨_, hs, ?_⟩
  fail "go"
  refine ⟨d, x, y, z, 9, R, rfl, hL, by decide, by decide, fun so x y z H h0 h1 hL => ?_⟩
  fail "go"
  refine ⟨_, hs, ?_⟩
  fail "go"
  refine ⟨d, x, y, z, 999, R, rfl, hL, by decide, by decide, fun n x y z H h2 h3 hL => ?_⟩
  fail "go"
  refine ⟨_, hs, ?_⟩
  fail "go"
  refine ⟨d, x, y, z, 4, R, rfl, hL, by decide, by decide, fun m x y z H h4 h5 hL => ?_⟩
  obtain ⟨n, rfl⟩ : ∃ a : Nat, n = a := ⟨n.toNat, by omega⟩
  obtain ⟨m, rfl⟩ : ∃ a : Nat, m = a := ⟨m.toNat, by omega⟩
  obtain ⟨q1, q2⟩ := xs_mul (k := m) (by omega)
  refine ⟨_, _, rfl, rfl, q1, ?_⟩
  rw [q2]
  fail "go"
  exact k so _ n m x y z H h0 h1 (by omega) (by omega) hL.tail
end
end Sd


set_option linter.unusedVariables false
namespace Sd
open PySem L2 LamX
open C8 (Cal Met Mak pe_c pe_mk pe_mt pe_mt0 pss_cut tCut)
set_option linter.unusedSimpArgs false
set_option pp.deepTerms false
set_option pp.deepTerms.threshold 12
set_option hygiene false
local macro_rules | `(tactic| fail "nd") => `(tactic| first | assumption | decide +kernel)
local macro_rules | `(tactic| fail "ix") => `(tactic| first | exact ⟨0, rfl⟩ | exact ⟨1, rfl⟩ | exact ⟨2, rfl⟩ | exact ⟨3, rfl⟩ | exact ⟨4, rfl⟩ | exact ⟨5, rfl⟩ | exact ⟨6, rfl⟩ | exact ⟨7, rfl⟩ | exact ⟨8, rfl⟩ | exact ⟨9, rfl⟩ | exact ⟨10, rfl⟩ | exact ⟨11, rfl⟩ | exact ⟨12, rfl⟩ | exact ⟨13, rfl⟩ | exact ⟨14, rfl⟩ | exact ⟨15, rfl⟩ | exact ⟨16, rfl⟩ | exact ⟨17, rfl⟩ | exact ⟨18, rfl⟩ | assumption)
local macro_rules | `(tactic| fail "up") => `(tactic| first | exact ⟨0, rfl, rfl⟩ | exact ⟨1, rfl, rfl⟩ | exact ⟨2, rfl, rfl⟩ | exact ⟨3, rfl, rfl⟩ | exact ⟨4, rfl, rfl⟩ | exact ⟨5, rfl, rfl⟩ | exact ⟨6, rfl, rfl⟩ | exact ⟨7, rfl, rfl⟩ | exact ⟨8, rfl, rfl⟩ | exact ⟨9, rfl, rfl⟩ | exact ⟨10, rfl, rfl⟩ | exact ⟨11, rfl, rfl⟩ | exact ⟨12, rfl, rfl⟩ | exact ⟨13, rfl, rfl⟩ | exact ⟨14, rfl, rfl⟩ | exact ⟨15, rfl, rfl⟩ | exact ⟨16, rfl, rfl⟩ | assumption)
local macro_rules | `(tactic| fail "lkF") => `(tactic| first | assumption | exact fz_at 0 (by fail "nd") rfl rfl | exact fz_at 1 (by fail "nd") rfl rfl | exact fz_at 2 (by fail "nd") rfl rfl | exact fz_at 3 (by fail "nd") rfl rfl | exact fz_at 4 (by fail "nd") rfl rfl | exact fz_at 5 (by fail "nd") rfl rfl | exact fz_at 6 (by fail "nd") rfl rfl | exact fz_at 7 (by fail "nd") rfl rfl)
local macro_rules | `(tactic| fail "lkD") => `(tactic| first | assumption | exact dz_at 0 (by fail "nd") rfl rfl | exact dz_at 1 (by fail "nd") rfl rfl | exact dz_at 2 (by fail "nd") rfl rfl | exact dz_at 3 (by fail "nd") rfl rfl | exact dz_at 4 (by fail "nd") rfl rfl)
local macro_rules | `(tactic| fail "ptF") => `(tactic| first | assumption | exact fz_put 0 (by fail "nd") rfl (Nat.le_of_ble_eq_true rfl) | exact fz_put 1 (by fail "nd") rfl (Nat.le_of_ble_eq_true rfl) | exact fz_put 2 (by fail "nd") rfl (Nat.le_of_ble_eq_true rfl) | exact fz_put 3 (by fail "nd") rfl (Nat.le_of_ble_eq_true rfl) | exact fz_put 4 (by fail "nd") rfl (Nat.le_of_ble_eq_true rfl) | exact fz_put 5 (by fail "nd") rfl (Nat.le_of_ble_eq_true rfl) | exact fz_put 6 (by fail "nd") rfl (Nat.le_of_ble_eq_true rfl) | exact fz_put 7 (by fail "nd") rfl (Nat.le_of_ble_eq_true rfl) | exact fz_new (by decide +kernel) rfl)
local macro_rules | `(tactic| fail "ptD") => `(tactic| first | assumption | exact dz_put 0 (by fail "nd") rfl (Nat.le_of_ble_eq_true rfl) | exact dz_put 1 (by fail "nd") rfl (Nat.le_of_ble_eq_true rfl) | exact dz_put 2 (by fail "nd") rfl (Nat.le_of_ble_eq_true rfl) | exact dz_put 3 (by fail "nd") rfl (Nat.le_of_ble_eq_true rfl) | exact dz_put 4 (by fail "nd") rfl (Nat.le_of_ble_eq_true rfl))
local macro_rules | `(tactic| fail "sz") => `(tactic| first | assumption | exact (Nat.le_of_ble_eq_true rfl) | omega | decide)
local macro_rules | `(tactic| fail "sd") => `(tactic| first | rfl | assumption | decide | omega | (dsimp only; first | decide | omega) | exact .inr ⟨by decide, by decide⟩ | exact .inl ⟨by decide, by decide⟩ | exact ⟨by omega, by omega⟩ | exact .inl ⟨by omega, by omega⟩ | exact .inr ⟨by omega, by omega⟩ | exact ⟨by omega, by omega, by omega⟩)
local macro_rules | `(tactic| fail "cl") => `(tactic| (clear hH; dsimp only [List.set, List.cons_append, List.nil_append, List.append] at hL))
local macro_rules | `(tactic| fail "gn") => `(tactic| (intro p hp; generalize hH : upd H p _ = H; replace hL := Led.newH hL hp hH; clear hH hp))
local macro_rules | `(tactic| fail "gup") => `(tactic| (generalize hH : upd H _ _ = H; replace hL := Led.upU hL (by fail "up") hH; fail "cl"))
local macro_rules | `(tactic| fail "gmk") => `(tactic| (intro x dx hx hd ne; generalize hH : upd (upd H dx _) x _ = H; replace hL := Led.made hL hx hd ne hH; clear hH hx hd ne))
local macro_rules | `(tactic| fail "v") => `(tactic| refine ⟨_, rfl, ?_⟩)
local macro_rules | `(tactic| fail "i2") => `(tactic| refine ⟨_, _, rfl, rfl, ?_⟩)
local macro_rules | `(tactic| fail "go1") => `(tactic| first
  | refine ⟨_, rfl, ?_⟩
  | refine ⟨_, _, rfl, rfl, ?_⟩
  | refine ⟨_, _, rfl, ?_⟩
  | refine iteT ?_
  | refine iteF ?_
  | refine k_fld hL (by fail "ix") (by assumption) (by assumption) (by fail "lkF") ?_
  | refine k_dgetS hL (by fail "ix") (by fail "lkD") ?_
  | refine k_dgetI hL (by fail "ix") (by assumption) ?_
  | refine k_ixL hL (by fail "ix") (by first | rfl | assumption) ?_
  | refine k_ixT hL (by fail "ix") (by first | rfl | assumption) ?_
  | refine k_tyL hL (by fail "ix") ?_
  | refine k_isd hL (by fail "ix") ?_
  | (refine And.intro (by fail "sz") ?_; fail "gn")
  | refine And.intro (by fail "sd") ?_
  | fail "gn"
  | refine k_meth hL (by fail "ix") (by first | assumption | exact fz_no (by decide +kernel)) ?_
  | refine k_gtup hL (by fail "ix") rfl ?_
  | (refine k_popI hL (by fail "ix") (by assumption) ?_; fail "gup")
  | (refine k_listD hL (by fail "ix") ?_; fail "gn")
  | (refine ⟨_, _, _, _, rfl, rfl, hL.at (by fail "ix"), rfl, ?_⟩; fail "gup")
  | (refine ⟨_, _, _, rfl, rfl, hL.at (by fail "ix"), (by fail "sz"), ?_⟩; fail "gup")
  | (refine ⟨_, _, _, _, rfl, hL.at (by fail "ix"), by assumption, by assumption, Nat.lt_of_le_of_lt fz_len (by decide), ?_⟩; generalize hH : upd H _ _ = H; replace hL := Led.upF hL (by fail "up") (by fail "ptF") hH; fail "cl")
  | (refine ⟨_, _, hL.at (by fail "ix"), Nat.lt_of_le_of_lt fz_len (by decide), ?_⟩; generalize hH : upd H _ _ = H; replace hL := Led.upF hL (by fail "up") (by fail "ptF") hH; fail "cl")
  | (refine k_dputS hL (by fail "ix") (Nat.lt_of_le_of_lt dz_len (by decide)) (by fail "ptD") (by fail "up") ?_; clear hL; intro H hL; dsimp only [List.set, List.cons_append, List.nil_append, List.append] at hL)
  | refine k_lenL2 hL (by fail "ix") ?_
  | refine k_lenT2 hL (by fail "ix") ?_
  | refine .inl ⟨_, rfl, ?_⟩
  | refine .inr ⟨_, rfl, ?_⟩)
local macro_rules | `(tactic| fail "go") => `(tactic| repeat fail "go1")
local macro_rules | `(tactic| fail "pm") => `(tactic| (refine Led.le hL (fun a_ => ?_); simp only [cnt_nil, cnt_cons, cnt_app, List.map_append, List.map_cons, List.map_nil, List.flatMap_append, List.flatMap_cons, List.flatMap_nil, List.append_assoc, List.cons_append, List.nil_append]; omega))

/-- the law's objects and its disk -/
structure LwS where
  d : Addr
  x : Addr
  dx : Addr
  K : Addr
  W : Addr
  F : Addr
  kl : Addr
  wl : Addr
  fl : Addr
  dk : DkS
  kvs : List V
  wvs : List V
  kds : List Dv
  wds : List Dv
  fe : List (Str × V)
def fvV (e : Str × V) : V := e.2
def LwR (G : LwS) (Z : Lg) : Lg := (G.kl, .lst G.kvs) :: (G.wl, .lst G.wvs) :: (G.fl, .dK (G.fe.map (kk fvV))) :: Z
def LwL (CD PN PU PL : Addr) (G : LwS) (p1 p2 p3 : Array Value) (a b c : Int) (Z : Lg) : Lg :=
  (PN, .tbl p1) :: (PU, .tbl p2) :: (PL, .tbl p3) :: (G.d, dD a b c) :: (dkL CD G.x G.dx G.K G.W G.F G.dk ++ LwR G Z)
def isVD (d : Dv) : Prop := ∃ n k : Nat, n < 999 ∧ k < 4 ∧ d = vD n k
structure LwOk (i : Nat) (q : Str) (G : LwS) (p1 p2 p3 : Array Value) (Z : Lg) : Prop where
  kb : G.dk.kb = framesB G.kds
  wb : G.dk.wb = framesB G.wds
  hk : DLs Z G.kvs G.kds
  hw : DLs Z G.wvs G.wds
  vk : ∀ d ∈ G.kds, isVD d
  vw : ∀ d ∈ G.wds, isVD d
  len : G.kds.length + G.wds.length ≤ i
  fn : (G.dk.fs.map (·.1)).Nodup
  fs : ∀ n ∈ G.dk.fs.map (·.1), n ∈ (["a", "b"] : List Str)
  en : (G.fe.map (·.1)).Nodup
  es : ∀ n ∈ G.fe.map (·.1), n ∈ (["a", "b"] : List Str)
  fr : ∀ n, ∃ od, FilOk 2 (aget G.dk.fs n) od ∧ DLo Z ((aget G.fe n).getD .non) od
  t1 : TriplesOk p1.toList
  t2 : TriplesOk p2.toList
  t3 : TabL q p3 Z
/-- the law's names: fu and dn are told apart from the disk's -/
def ShL (G : LwS) (fu : Option Int) (dn : Bool) (v10 v11 v12 : Option V) (σ : L2.St) : Prop := ∃ v0 v9 v13 v14 v15 v16 v17, σ = [v0, some (.ref G.d), some (.ref G.x), some (.ref G.kl), some (.ref G.wl), some (.ref G.fl), some (fuV fu), some (.bl dn), some (.int G.dk.sy), v9, v10, v11, v12, v13, v14, v15, v16, v17]
theorem goodS_r : goodS 114 := by constructor <;> decide +kernel
theorem goodS_x : goodS 120 := by constructor <;> decide +kernel
theorem vD_send {n k : Nat} : sendable (vD n k) := by
  unfold vD
  rw [sendable]
  refine ⟨?_, True.intro, ?_, True.intro⟩
  · rw [sendable]
    intro c hc
    have e : (Str.ofString "r").cps.toList = [114] := by decide +kernel
    have : c = 114 := List.mem_singleton.mp (e ▸ hc)
    rw [this]; exact goodS_r
  · rw [sendable]
    intro c hc
    have : c = 120 := by
      have h : c ∈ List.replicate k 120 := by simpa [xs] using hc
      exact List.eq_of_mem_replicate h
    rw [this]; exact goodS_x
theorem natB_small {n : Nat} (h : n < 999) : (natB n).length ≤ 2 := by
  by_cases q : n < 128
  · rw [natB_lo q]; simp
  · rw [natB_hi q, natB_lo (by omega)]; simp
theorem vD_len {n k : Nat} (hn : n < 999) (hk : k < 4) : (packB (vD n k)).length ≤ 20 := by
  have h1 := natB_small hn
  have h2 : (natB (xs k).length).length ≤ 2 := natB_small (by show (List.replicate k 120).toArray.size < 999; simp; omega)
  have h3 : (signs (xs k)).length = k := by unfold signs xs; simp
  have h4 : (signs "r").length = 1 := by decide +kernel
  have h5 : (natB (Str.length "r")).length = 1 := by rw [show Str.length "r" = 1 by decide +kernel, natB_lo (by decide)]; rfl
  have h6 : (natB (List.length [Dv.str "r", .int n, .str (xs k)])).length = 1 := by rw [show List.length [Dv.str "r", .int n, .str (xs k)] = 3 from rfl, natB_lo (by decide)]; rfl
  unfold vD
  rw [packB, List.length_cons, List.length_append, h6]
  simp only [packsB, packB, List.length_append, List.length_cons, List.length_nil]
  rw [h4, h5, h3, if_pos (Int.natCast_nonneg n)]
  simp only [List.length_cons, Int.toNat_natCast]
  omega
theorem vD_pk {d : Dv} (h : isVD d) : Pk 2 d ∧ (packB d).length ≤ 20 := by
  obtain ⟨n, k, hn, hk, rfl⟩ := h
  have h1 := vD_len hn hk
  have hd : deep (vD n k) = 1 := by simp [vD, deep, deeps]
  exact ⟨⟨by omega, by omega, vD_send, by have : 30 ≤ sizeLine := by decide
                                          omega⟩, h1⟩
theorem frames_len {ds : List Dv} (h : ∀ d ∈ ds, isVD d) : (framesB ds).length ≤ 28 * ds.length := by
  induction ds with
  | nil => simp [framesB]
  | cons d r ih =>
    have h1 := (vD_pk (h d (.head _))).2
    have h2 := ih fun d hd => h d (.tail _ hd)
    have e : framesB (d :: r) = frameB (packB d) ++ framesB r := by unfold framesB; rw [List.flatMap_cons]
    rw [e, List.length_append, frame_len, List.length_cons]
    omega
end Sd


set_option linter.unusedVariables false
namespace Sd
open PySem L2 LamX
open C8 (Cal Met Mak pe_c pe_mk pe_mt pe_mt0 pss_cut tCut)
set_option linter.unusedSimpArgs false
set_option pp.deepTerms false
set_option pp.deepTerms.threshold 12
set_option hygiene false
local macro_rules | `(tactic| fail "nd") => `(tactic| first | assumption | decide +kernel)
local macro_rules | `(tactic| fail "ix") => `(tactic| first | exact ⟨0, rfl⟩ | exact ⟨1, rfl⟩ | exact ⟨2, rfl⟩ | exact ⟨3, rfl⟩ | exact ⟨4, rfl⟩ | exact ⟨5, rfl⟩ | exact ⟨6, rfl⟩ | exact ⟨7, rfl⟩ | exact ⟨8, rfl⟩ | exact ⟨9, rfl⟩ | exact ⟨10, rfl⟩ | exact ⟨11, rfl⟩ | exact ⟨12, rfl⟩ | exact ⟨13, rfl⟩ | exact ⟨14, rfl⟩ | exact ⟨15, rfl⟩ | exact ⟨16, rfl⟩ | exact ⟨17, rfl⟩ | exact ⟨18, rfl⟩ | assumption)
local macro_rules | `(tactic| fail "up") => `(tactic| first | exact ⟨0, rfl, rfl⟩ | exact ⟨1, rfl, rfl⟩ | exact ⟨2, rfl, rfl⟩ | exact ⟨3, rfl, rfl⟩ | exact ⟨4, rfl, rfl⟩ | exact ⟨5, rfl, rfl⟩ | exact ⟨6, rfl, rfl⟩ | exact ⟨7, rfl, rfl⟩ | exact ⟨8, rfl, rfl⟩ | exact ⟨9, rfl, rfl⟩ | exact ⟨10, rfl, rfl⟩ | exact ⟨11, rfl, rfl⟩ | exact ⟨12, rfl, rfl⟩ | exact ⟨13, rfl, rfl⟩ | exact ⟨14, rfl, rfl⟩ | exact ⟨15, rfl, rfl⟩ | exact ⟨16, rfl, rfl⟩ | assumption)
local macro_rules | `(tactic| fail "lkF") => `(tactic| first | assumption | exact fz_at 0 (by fail "nd") rfl rfl | exact fz_at 1 (by fail "nd") rfl rfl | exact fz_at 2 (by fail "nd") rfl rfl | exact fz_at 3 (by fail "nd") rfl rfl | exact fz_at 4 (by fail "nd") rfl rfl | exact fz_at 5 (by fail "nd") rfl rfl | exact fz_at 6 (by fail "nd") rfl rfl | exact fz_at 7 (by fail "nd") rfl rfl)
local macro_rules | `(tactic| fail "lkD") => `(tactic| first | assumption | exact dz_at 0 (by fail "nd") rfl rfl | exact dz_at 1 (by fail "nd") rfl rfl | exact dz_at 2 (by fail "nd") rfl rfl | exact dz_at 3 (by fail "nd") rfl rfl | exact dz_at 4 (by fail "nd") rfl rfl)
local macro_rules | `(tactic| fail "ptF") => `(tactic| first | assumption | exact fz_put 0 (by fail "nd") rfl (Nat.le_of_ble_eq_true rfl) | exact fz_put 1 (by fail "nd") rfl (Nat.le_of_ble_eq_true rfl) | exact fz_put 2 (by fail "nd") rfl (Nat.le_of_ble_eq_true rfl) | exact fz_put 3 (by fail "nd") rfl (Nat.le_of_ble_eq_true rfl) | exact fz_put 4 (by fail "nd") rfl (Nat.le_of_ble_eq_true rfl) | exact fz_put 5 (by fail "nd") rfl (Nat.le_of_ble_eq_true rfl) | exact fz_put 6 (by fail "nd") rfl (Nat.le_of_ble_eq_true rfl) | exact fz_put 7 (by fail "nd") rfl (Nat.le_of_ble_eq_true rfl) | exact fz_new (by decide +kernel) rfl)
local macro_rules | `(tactic| fail "ptD") => `(tactic| first | assumption | exact dz_put 0 (by fail "nd") rfl (Nat.le_of_ble_eq_true rfl) | exact dz_put 1 (by fail "nd") rfl (Nat.le_of_ble_eq_true rfl) | exact dz_put 2 (by fail "nd") rfl (Nat.le_of_ble_eq_true rfl) | exact dz_put 3 (by fail "nd") rfl (Nat.le_of_ble_eq_true rfl) | exact dz_put 4 (by fail "nd") rfl (Nat.le_of_ble_eq_true rfl))
local macro_rules | `(tactic| fail "sz") => `(tactic| first | assumption | exact (Nat.le_of_ble_eq_true rfl) | omega | decide)
local macro_rules | `(tactic| fail "sd") => `(tactic| first | rfl | assumption | decide | omega | (dsimp only; first | decide | omega) | exact .inr ⟨by decide, by decide⟩ | exact .inl ⟨by decide, by decide⟩ | exact ⟨by omega, by omega⟩ | exact .inl ⟨by omega, by omega⟩ | exact .inr ⟨by omega, by omega⟩ | exact ⟨by omega, by omega, by omega⟩)
local macro_rules | `(tactic| fail "cl") => `(tactic| (clear hH; dsimp only [List.set, List.cons_append, List.nil_append, List.append] at hL))
local macro_rules | `(tactic| fail "gn") => `(tactic| (intro p hp; generalize hH : upd H p _ = H; replace hL := Led.newH hL hp hH; clear hH hp))
local macro_rules | `(tactic| fail "gup") => `(tactic| (generalize hH : upd H _ _ = H; replace hL := Led.upU hL (by fail "up") hH; fail "cl"))
local macro_rules | `(tactic| fail "gmk") => `(tactic| (intro x dx hx hd ne; generalize hH : upd (upd H dx _) x _ = H; replace hL := Led.made hL hx hd ne hH; clear hH hx hd ne))
local macro_rules | `(tactic| fail "v") => `(tactic| refine ⟨_, rfl, ?_⟩)
local macro_rules | `(tactic| fail "i2") => `(tactic| refine ⟨_, _, rfl, rfl, ?_⟩)
local macro_rules | `(tactic| fail "go1") => `(tactic| first
  | refine ⟨_, rfl, ?_⟩
  | refine ⟨_, _, rfl, rfl, ?_⟩
  | refine ⟨_, _, rfl, ?_⟩
  | refine iteT ?_
  | refine iteF ?_
  | refine k_fld hL (by fail "ix") (by assumption) (by assumption) (by fail "lkF") ?_
  | refine k_dgetS hL (by fail "ix") (by fail "lkD") ?_
  | refine k_dgetI hL (by fail "ix") (by assumption) ?_
  | refine k_ixL hL (by fail "ix") (by first | rfl | assumption) ?_
  | refine k_ixT hL (by fail "ix") (by first | rfl | assumption) ?_
  | refine k_tyL hL (by fail "ix") ?_
  | refine k_isd hL (by fail "ix") ?_
  | (refine And.intro (by fail "sz") ?_; fail "gn")
  | refine And.intro (by fail "sd") ?_
  | fail "gn"
  | refine k_meth hL (by fail "ix") (by first | assumption | exact fz_no (by decide +kernel)) ?_
  | refine k_gtup hL (by fail "ix") rfl ?_
  | (refine k_popI hL (by fail "ix") (by assumption) ?_; fail "gup")
  | (refine k_listD hL (by fail "ix") ?_; fail "gn")
  | (refine ⟨_, _, _, _, rfl, rfl, hL.at (by fail "ix"), rfl, ?_⟩; fail "gup")
  | (refine ⟨_, _, _, rfl, rfl, hL.at (by fail "ix"), (by fail "sz"), ?_⟩; fail "gup")
  | (refine ⟨_, _, _, _, rfl, hL.at (by fail "ix"), by assumption, by assumption, Nat.lt_of_le_of_lt fz_len (by decide), ?_⟩; generalize hH : upd H _ _ = H; replace hL := Led.upF hL (by fail "up") (by fail "ptF") hH; fail "cl")
  | (refine ⟨_, _, hL.at (by fail "ix"), Nat.lt_of_le_of_lt fz_len (by decide), ?_⟩; generalize hH : upd H _ _ = H; replace hL := Led.upF hL (by fail "up") (by fail "ptF") hH; fail "cl")
  | (refine k_dputS hL (by fail "ix") (Nat.lt_of_le_of_lt dz_len (by decide)) (by fail "ptD") (by fail "up") ?_; clear hL; intro H hL; dsimp only [List.set, List.cons_append, List.nil_append, List.append] at hL)
  | refine k_lenL2 hL (by fail "ix") ?_
  | refine k_lenT2 hL (by fail "ix") ?_
  | refine .inl ⟨_, rfl, ?_⟩
  | refine .inr ⟨_, rfl, ?_⟩)
local macro_rules | `(tactic| fail "go") => `(tactic| repeat fail "go1")
local macro_rules | `(tactic| fail "pm") => `(tactic| (refine Led.le hL (fun a_ => ?_); simp only [cnt_nil, cnt_cons, cnt_app, List.map_append, List.map_cons, List.map_nil, List.flatMap_append, List.flatMap_cons, List.flatMap_nil, List.append_assoc, List.cons_append, List.nil_append]; omega))

local macro_rules | `(tactic| fail "pmt") => `(tactic| (try dsimp only [tI] at hL); (try dsimp only [tI]); (refine Led.le hL (fun a_ => ?_); simp only [cnt_nil, cnt_cons, cnt_app, List.map_append, List.map_cons, List.map_nil, List.flatMap_append, List.flatMap_cons, List.flatMap_nil, List.append_assoc, List.cons_append, List.nil_append]; omega))
theorem hfr : ∀ y ∈ (lamScope lamE).names, y.2 = .free → (defScope sLaw).names.lookup y.1 = some .cell := by decide +kernel
theorem hfr2 : ∀ y ∈ NLm, (y, NameKind.free) ∈ (lamScope lamE).names := by decide +kernel
/-- the disk behind a deed that was done -/
def dkDone (so : Int) (d : Dv) (nm : Str) (kds : List Dv) (a' : Addr) (s : DkS) : DkS :=
  if so < 4 then { s.step with wb := s.wb ++ frameB (packB d) } else if so < 6 then { s.step with kb := s.kb ++ s.wb, wb := [], sy := s.sy + 1 }
  else { s.step with kb := framesB (kds.take 1), wb := [], fs := aput s.fs nm (a', frameB (packB d)), sy := s.sy + 1 }
def tTold (CD PN PU PL : Addr) (q : Str) : TS := fun D σ H => ∃ (i : Nat) (G : LwS) (p1 p2 p3 : Array Value) (a b c : Int) (Z : Lg) (so : Int) (v : Addr) (d : Dv) (nm : Str) (fu : Option Int) (dn : Bool), ShL G fu dn (some (.int so)) (some (.ref v)) (some (.str nm)) σ ∧ LwOk i q G p1 p2 p3 Z ∧ i ≤ 40 ∧ DL Z (.ref v) d ∧ isVD d ∧
  Led H (LwL CD PN PU PL G p1 p2 p3 a b c Z) ∧
  (G.dk.up = true → ∀ (K' W' a' : Addr) (p1' p3' : Array Value) (Z2 : Lg) H', TriplesOk p1'.toList → TabL q p3' (Z2 ++ Z) → Led H' (LwL CD PN PU PL { G with K := K', W := W', dk := dkDone so d nm G.kds a' G.dk } p1' p2 p3' a b c (Z2 ++ Z)) → D.nx (σ.set 13 (some .non)) H') ∧
  (G.dk.up = false → ∀ (p1' p3' : Array Value) (Z2 : Lg) H', TriplesOk p1'.toList → TabL q p3' (Z2 ++ Z) → Led H' (LwL CD PN PU PL { G with dk := G.dk.fall } p1' p2 p3' a b c (Z2 ++ Z)) → D.nx (σ.set 13 (some (.str "StoreError"))) H')
theorem DLs.take {L : Lg} : ∀ {xs : List V} {ds : List Dv} (n : Nat), DLs L xs ds → DLs L (xs.take n) (ds.take n)
  | _, _, 0, _ => by rw [List.take_zero, List.take_zero]; exact .nil
  | _, _, _ + 1, .nil => .nil
  | _, _, n + 1, .cons a b => .cons a (b.take n)
section
variable {P : Program} {w : World} {K : PySem.W.Frag} {mg : Str → Option Value} {base : Heap} {CD CE PN PU : Addr} {f cL PL : Addr} {A : Around} {outer : List Env} {s0 : Shared} {H0 : Hp} {E : XK}
theorem st_told (hr : Room 18 (LX P w K mg base f (.ref cL) A outer s0 H0 E).A) (TE : ExcT K mg "StoreError" CE) (TB : LamX.TabB base mg cL PL) {gT : Addr} {fdT : FuncData} (FT : Fun K "_law_told" "_law_told" sTold gT fdT) (hbT : L2.Binds K fdT ["what"] []) (hmT : mg "_law_told" = some (.ref gT))
    (c_app : MetX P w K mg base 9 CD "append" (spDApp CD CE PN 2) []) (c_sync : MetX P w K mg base 2 CD "sync" (spSync CD CE) []) (c_repl : MetX P w K mg base 9 CD "replace" (spRepl CD CE PN 2) []) :
    PS (LX P w K mg base f (.ref cL) A outer s0 H0 E) (nth deedB 3) (tTold CD PN PU PL ((LX P w K mg base f (.ref cL) A outer s0 H0 E).env.qual ++ "<lambda>")) := by
  refine ps_imp (t := _) (ps_set (i := 13) scLaw.nd rfl (Or.inl rfl) (pe_toldL (k := 10) (lsc := lamScope lamE) (fr := NLm) (js := [2, 11, 10, 12, 3]) FT scTold rfl hbT hmT rfl TE.g rfl (Or.inl rfl) (fun _ => rfl) (hr.mono (by decide)) (by rfl) (pe_lamvL TB rfl rfl rfl hfr) (fun _ => rfl)
    (fun _ _ _ _ I => NdefX.Caps.made I.ok (fun y hy e => .inl (hfr y hy e)) hfr2 rfl))) ?_
  rintro D σ H ⟨i, G, p1, p2, p3, a, b, c, Z, so, v, d, nm, fu, dn, ⟨v0, v9, v13, v14, v15, v16, v17, rfl⟩, ok, hi, hv, hd, hL, k1, k2⟩
  refine ⟨p3, Z, (PN, .tbl p1) :: (PU, .tbl p2) :: (G.d, dD a b c) :: (dkL CD G.x G.dx G.K G.W G.F G.dk ++ LwR G []), by unfold LwL LwR at hL; unfold LwR; fail "pm", ok.t3, fun g c' p3' Z2 H hL ht hc => ?_⟩
  refine ⟨g, _, _, tlD CD CE PN, rfl, hL.at ⟨0, rfl⟩, hL.mem (.tail _ (.tail _ ?_)), rfl, lok_deed c_app c_sync c_repl, ?_⟩
  · rcases List.mem_append.mp hc with h | h
    · exact List.mem_append_left _ h
    · exact List.mem_append_right _ (List.mem_append_left _ h)
  replace hL := hL.tail
  have hz1 := frames_len ok.vw
  have hz2 := frames_len ok.vk
  have hz3 := ok.len
  have hzL : 3000 ≤ sizeLine := by decide
  obtain ⟨hp1, hp2⟩ := vD_pk hd
  have hA : Led H ((PN, .tbl p1) :: (dkL CD G.x G.dx G.K G.W G.F G.dk ++ ((PU, .tbl p2) :: (PL, .tbl p3') :: (G.d, dD a b c) :: LwR G (Z2 ++ Z)))) := by unfold LwR at hL ⊢; fail "pm"
  clear hL
  have mZ : ∀ x ∈ Z, x ∈ (PU, HO.tbl p2) :: (PL, .tbl p3') :: (G.d, dD a b c) :: LwR G (Z2 ++ Z) := fun x h => .tail _ (.tail _ (.tail _ (.tail _ (.tail _ (.tail _ (List.mem_append_right _ h))))))
  have hx : ∀ (p1' : Array Value) H', TriplesOk p1'.toList → G.dk.up = false → Led H' ((PN, .tbl p1') :: (dkL CD G.x G.dx G.K G.W G.F G.dk.fall ++ ((PU, .tbl p2) :: (PL, .tbl p3') :: (G.d, dD a b c) :: LwR G (Z2 ++ Z)))) →
      ∃ b, PySem.W.exmOne K (.ref CE) (.ref CE) = some b ∧ (b = true → D.nx ([v0, some (.ref G.d), some (.ref G.x), some (.ref G.kl), some (.ref G.wl), some (.ref G.fl), some (fuV fu), some (.bl dn), some (.int G.dk.sy), v9, some (.int so), some (.ref v), some (.str nm), v13, v14, v15, v16, v17].set 13 (some (.str "StoreError"))) H') ∧ (b = false → False) := fun p1' H' ht1 hu hL =>
    ⟨true, TE.em, fun _ => k2 hu p1' p3' Z2 H' ht1 ht (by unfold LwL; unfold LwR at hL ⊢; fail "pm"), fun h => by cases h⟩
  refine ⟨G.x, .ref v, so, nm, G.kl, G.kvs, G.dx, G.K, G.W, G.F, G.dk, _, rfl, hA.tail, fun h4 => ?_, fun h4 h6 => ?_, fun h6 => ⟨hA.mem (.tail _ (List.mem_append_right _ (.tail _ (.tail _ (.tail _ (.head _)))))), fun p hp => ?_⟩⟩
  · refine ⟨G.x, G.dx, G.K, G.W, G.F, G.dk, .ref v, d, p1, _, rfl, hA, ok.t1, hv.mono mZ, hp1, by rw [ok.wb]; omega, fun hu W' p1' H' ht1 hL => ?_, fun hu p1' H' ht1 hL => hx p1' H' ht1 hu hL⟩
    refine k1 hu G.K W' G.K p1' p3' Z2 H' ht1 ht ?_
    unfold LwL dkDone
    rw [if_pos h4]
    unfold LwR at hL ⊢
    fail "pm"
  · refine ⟨G.x, G.dx, G.K, G.W, G.F, G.dk, (PN, .tbl p1) :: (PU, .tbl p2) :: (PL, .tbl p3') :: (G.d, dD a b c) :: LwR G (Z2 ++ Z), rfl, hA.perm ?_, by rw [ok.kb, ok.wb]; omega, fun hu K' W' H' hL => ?_, fun hu H' hL => hx p1 H' ok.t1 hu (by fail "pm")⟩
    · exact List.perm_middle.symm
    refine k1 hu K' W' G.K p1 p3' Z2 H' ok.t1 ht ?_
    unfold LwL dkDone
    rw [if_neg (by omega), if_pos h6]
    unfold LwR at hL ⊢
    fail "pm"
  · have hB : Led (upd H p (.lst (G.kvs.take 1))) ((PN, .tbl p1) :: (dkL CD G.x G.dx G.K G.W G.F G.dk ++ ((p, .lst (G.kvs.take 1)) :: (PU, .tbl p2) :: (PL, .tbl p3') :: (G.d, dD a b c) :: LwR G (Z2 ++ Z)))) := by
      have hL := hA.new (o := .lst (G.kvs.take 1)) hp
      fail "pm"
    have hfl : G.dk.fs.length ≤ 2 := by
      have := nodup_len ok.fn ok.fs
      rw [List.length_map] at this
      exact this
    have hft : (framesB (G.kds.take 1)).length ≤ 28 := by
      have := frames_len (ds := G.kds.take 1) fun d h => ok.vk d (List.mem_of_mem_take h)
      rw [List.length_take] at this
      omega
    refine ⟨G.x, G.dx, G.K, G.W, G.F, G.dk, nm, .ref v, d, p, G.kvs.take 1, G.kds.take 1, p1, _, rfl, hB, ok.t1, hv.mono (fun x h => .tail _ (mZ x h)), hp1, .head _, (ok.hk.mono (fun x h => .tail _ (mZ x h))).take 1, fun d h => (vD_pk (ok.vk d (List.mem_of_mem_take h))).1, by omega, by omega, ok.fn,
      fun hu K' W' a' p1' H' ht1 hL => ?_, fun hu p1' H' ht1 hL => hx p1' H' ht1 hu (by fail "pm")⟩
    refine k1 hu K' W' a' p1' p3' Z2 H' ht1 ht ?_
    unfold LwL dkDone
    rw [if_neg (by omega), if_neg (by omega)]
    unfold LwR at hL ⊢
    fail "pm"
end
end Sd


set_option linter.unusedVariables false
namespace Sd
open PySem L2 LamX
open C8 (Cal Met Mak pe_c pe_mk pe_mt pe_mt0 pss_cut tCut)
set_option linter.unusedSimpArgs false
set_option pp.deepTerms false
set_option pp.deepTerms.threshold 12
set_option hygiene false
local macro_rules | `(tactic| fail "nd") => `(tactic| first | assumption | decide +kernel)
local macro_rules | `(tactic| fail "ix") => `(tactic| first | exact ⟨0, rfl⟩ | exact ⟨1, rfl⟩ | exact ⟨2, rfl⟩ | exact ⟨3, rfl⟩ | exact ⟨4, rfl⟩ | exact ⟨5, rfl⟩ | exact ⟨6, rfl⟩ | exact ⟨7, rfl⟩ | exact ⟨8, rfl⟩ | exact ⟨9, rfl⟩ | exact ⟨10, rfl⟩ | exact ⟨11, rfl⟩ | exact ⟨12, rfl⟩ | exact ⟨13, rfl⟩ | exact ⟨14, rfl⟩ | exact ⟨15, rfl⟩ | exact ⟨16, rfl⟩ | exact ⟨17, rfl⟩ | exact ⟨18, rfl⟩ | assumption)
local macro_rules | `(tactic| fail "up") => `(tactic| first | exact ⟨0, rfl, rfl⟩ | exact ⟨1, rfl, rfl⟩ | exact ⟨2, rfl, rfl⟩ | exact ⟨3, rfl, rfl⟩ | exact ⟨4, rfl, rfl⟩ | exact ⟨5, rfl, rfl⟩ | exact ⟨6, rfl, rfl⟩ | exact ⟨7, rfl, rfl⟩ | exact ⟨8, rfl, rfl⟩ | exact ⟨9, rfl, rfl⟩ | exact ⟨10, rfl, rfl⟩ | exact ⟨11, rfl, rfl⟩ | exact ⟨12, rfl, rfl⟩ | exact ⟨13, rfl, rfl⟩ | exact ⟨14, rfl, rfl⟩ | exact ⟨15, rfl, rfl⟩ | exact ⟨16, rfl, rfl⟩ | assumption)
local macro_rules | `(tactic| fail "lkF") => `(tactic| first | assumption | exact fz_at 0 (by fail "nd") rfl rfl | exact fz_at 1 (by fail "nd") rfl rfl | exact fz_at 2 (by fail "nd") rfl rfl | exact fz_at 3 (by fail "nd") rfl rfl | exact fz_at 4 (by fail "nd") rfl rfl | exact fz_at 5 (by fail "nd") rfl rfl | exact fz_at 6 (by fail "nd") rfl rfl | exact fz_at 7 (by fail "nd") rfl rfl)
local macro_rules | `(tactic| fail "lkD") => `(tactic| first | assumption | exact dz_at 0 (by fail "nd") rfl rfl | exact dz_at 1 (by fail "nd") rfl rfl | exact dz_at 2 (by fail "nd") rfl rfl | exact dz_at 3 (by fail "nd") rfl rfl | exact dz_at 4 (by fail "nd") rfl rfl)
local macro_rules | `(tactic| fail "ptF") => `(tactic| first | assumption | exact fz_put 0 (by fail "nd") rfl (Nat.le_of_ble_eq_true rfl) | exact fz_put 1 (by fail "nd") rfl (Nat.le_of_ble_eq_true rfl) | exact fz_put 2 (by fail "nd") rfl (Nat.le_of_ble_eq_true rfl) | exact fz_put 3 (by fail "nd") rfl (Nat.le_of_ble_eq_true rfl) | exact fz_put 4 (by fail "nd") rfl (Nat.le_of_ble_eq_true rfl) | exact fz_put 5 (by fail "nd") rfl (Nat.le_of_ble_eq_true rfl) | exact fz_put 6 (by fail "nd") rfl (Nat.le_of_ble_eq_true rfl) | exact fz_put 7 (by fail "nd") rfl (Nat.le_of_ble_eq_true rfl) | exact fz_new (by decide +kernel) rfl)
local macro_rules | `(tactic| fail "ptD") => `(tactic| first | assumption | exact dz_put 0 (by fail "nd") rfl (Nat.le_of_ble_eq_true rfl) | exact dz_put 1 (by fail "nd") rfl (Nat.le_of_ble_eq_true rfl) | exact dz_put 2 (by fail "nd") rfl (Nat.le_of_ble_eq_true rfl) | exact dz_put 3 (by fail "nd") rfl (Nat.le_of_ble_eq_true rfl) | exact dz_put 4 (by fail "nd") rfl (Nat.le_of_ble_eq_true rfl))
local macro_rules | `(tactic| fail "sz") => `(tactic| first | assumption | exact (Nat.le_of_ble_eq_true rfl) | omega | decide)
local macro_rules | `(tactic| fail "sd") => `(tactic| first | rfl | assumption | decide | omega | (dsimp only; first | decide | omega) | exact .inr ⟨by decide, by decide⟩ | exact .inl ⟨by decide, by decide⟩ | exact ⟨by omega, by omega⟩ | exact .inl ⟨by omega, by omega⟩ | exact .inr ⟨by omega, by omega⟩ | exact ⟨by omega, by omega, by omega⟩)
local macro_rules | `(tactic| fail "cl") => `(tactic| (clear hH; dsimp only [List.set, List.cons_append, List.nil_append, List.append] at hL))
local macro_rules | `(tactic| fail "gn") => `(tactic| (intro p hp; generalize hH : upd H p _ = H; replace hL := Led.newH hL hp hH; clear hH hp))
local macro_rules | `(tactic| fail "gup") => `(tactic| (generalize hH : upd H _ _ = H; replace hL := Led.upU hL (by fail "up") hH; fail "cl"))
local macro_rules | `(tactic| fail "gmk") => `(tactic| (intro x dx hx hd ne; generalize hH : upd (upd H dx _) x _ = H; replace hL := Led.made hL hx hd ne hH; clear hH hx hd ne))
local macro_rules | `(tactic| fail "v") => `(tactic| refine ⟨_, rfl, ?_⟩)
local macro_rules | `(tactic| fail "i2") => `(tactic| refine ⟨_, _, rfl, rfl, ?_⟩)
local macro_rules | `(tactic| fail "go1") => `(tactic| first
  | refine ⟨_, rfl, ?_⟩
  | refine ⟨_, _, rfl, rfl, ?_⟩
  | refine ⟨_, _, rfl, ?_⟩
  | refine iteT ?_
  | refine iteF ?_
  | refine k_fld hL (by fail "ix") (by assumption) (by assumption) (by fail "lkF") ?_
  | refine k_dgetS hL (by fail "ix") (by fail "lkD") ?_
  | refine k_dgetI hL (by fail "ix") (by assumption) ?_
  | refine k_ixL hL (by fail "ix") (by first | rfl | assumption) ?_
  | refine k_ixT hL (by fail "ix") (by first | rfl | assumption) ?_
  | refine k_tyL hL (by fail "ix") ?_
  | refine k_isd hL (by fail "ix") ?_
  | (refine And.intro (by fail "sz") ?_; fail "gn")
  | refine And.intro (by fail "sd") ?_
  | fail "gn"
  | refine k_meth hL (by fail "ix") (by first | assumption | exact fz_no (by decide +kernel)) ?_
  | refine k_gtup hL (by fail "ix") rfl ?_
  | (refine k_popI hL (by fail "ix") (by assumption) ?_; fail "gup")
  | (refine k_listD hL (by fail "ix") ?_; fail "gn")
  | (refine ⟨_, _, _, _, rfl, rfl, hL.at (by fail "ix"), rfl, ?_⟩; fail "gup")
  | (refine ⟨_, _, _, rfl, rfl, hL.at (by fail "ix"), (by fail "sz"), ?_⟩; fail "gup")
  | (refine ⟨_, _, _, _, rfl, hL.at (by fail "ix"), by assumption, by assumption, Nat.lt_of_le_of_lt fz_len (by decide), ?_⟩; generalize hH : upd H _ _ = H; replace hL := Led.upF hL (by fail "up") (by fail "ptF") hH; fail "cl")
  | (refine ⟨_, _, hL.at (by fail "ix"), Nat.lt_of_le_of_lt fz_len (by decide), ?_⟩; generalize hH : upd H _ _ = H; replace hL := Led.upF hL (by fail "up") (by fail "ptF") hH; fail "cl")
  | (refine k_dputS hL (by fail "ix") (Nat.lt_of_le_of_lt dz_len (by decide)) (by fail "ptD") (by fail "up") ?_; clear hL; intro H hL; dsimp only [List.set, List.cons_append, List.nil_append, List.append] at hL)
  | refine k_lenL2 hL (by fail "ix") ?_
  | refine k_lenT2 hL (by fail "ix") ?_
  | refine .inl ⟨_, rfl, ?_⟩
  | refine .inr ⟨_, rfl, ?_⟩)
local macro_rules | `(tactic| fail "go") => `(tactic| repeat fail "go1")
local macro_rules | `(tactic| fail "pm") => `(tactic| (refine Led.le hL (fun a_ => ?_); simp only [cnt_nil, cnt_cons, cnt_app, List.map_append, List.map_cons, List.map_nil, List.flatMap_append, List.flatMap_cons, List.flatMap_nil, List.append_assoc, List.cons_append, List.nil_append]; omega))

local macro_rules | `(tactic| fail "pmt") => `(tactic| (try dsimp only [tI] at hL); (try dsimp only [tI]); (refine Led.le hL (fun a_ => ?_); simp only [cnt_nil, cnt_cons, cnt_app, List.map_append, List.map_cons, List.map_nil, List.flatMap_append, List.flatMap_cons, List.flatMap_nil, List.append_assoc, List.cons_append, List.nil_append]; omega))
structure TxtG (mg : Str → Option Value) : Prop where
  int : mg "int" = none
  len : mg "len" = none
  list : mg "list" = none
  range : mg "range" = none
/-- the same objects of the law's beginning -/
def SameW (G G' : LwS) (Z Z' : Lg) : Prop := G'.d = G.d ∧ G'.x = G.x ∧ ∀ x ∈ Z, x ∈ Z'
def tDeed (CD PN PU PL : Addr) (q : Str) : TS := fun D σ H => ∃ (i : Nat) (G : LwS) (p1 p2 p3 : Array Value) (a b c : Int) (Z : Lg) (so : Int) (v : Addr) (d : Dv) (v12 : Option V), ShL G G.dk.fu G.dk.dn (some (.int so)) (some (.ref v)) v12 σ ∧ LwOk i q G p1 p2 p3 Z ∧ i ≤ 40 ∧ DL Z (.ref v) d ∧ isVD d ∧ 1 ≤ so ∧ so < 7 ∧
  Led H (LwL CD PN PU PL G p1 p2 p3 a b c Z) ∧
  ∀ (G' : LwS) (p1' p2' p3' : Array Value) (a' b' c' : Int) (Z' : Lg) (v11 v12 : Option V) σ' H', SameW G G' Z Z' → ShL G' G'.dk.fu G'.dk.dn (some (.int so)) v11 v12 σ' → LwOk (i + 1) q G' p1' p2' p3' Z' → Led H' (LwL CD PN PU PL G' p1' p2' p3' a' b' c' Z') → D.nx σ' H'
theorem cut1 {α : List V} : cutV α none (some 1) = α.take 1 := by
  unfold cutV
  rw [HT.sIx_none, show (some (1 : Int)) = some ((1 : Nat) : Int) from rfl, HT.sIx_nat, List.drop_zero, Nat.sub_zero]
  cases α with
  | nil => rfl
  | cons a r => simp
theorem DLo.mono {Z Z' : Lg} {v : V} {od : Option Dv} (s : ∀ x ∈ Z, x ∈ Z') (h : DLo Z v od) : DLo Z' v od := by
  cases od with
  | none => exact h
  | some d => exact DL.mono s h
theorem LwOk.more {i j : Nat} {q : Str} {G : LwS} {p1 p2 p3 p1' p3' : Array Value} {Z Z' : Lg} (ok : LwOk i q G p1 p2 p3 Z) (s : ∀ x ∈ Z, x ∈ Z') (t1 : TriplesOk p1'.toList) (t3 : TabL q p3' Z') (hij : i ≤ j) : LwOk j q G p1' p2 p3' Z' :=
  ⟨ok.kb, ok.wb, ok.hk.mono s, ok.hw.mono s, ok.vk, ok.vw, Nat.le_trans ok.len hij, ok.fn, ok.fs, ok.en, ok.es, fun n => let ⟨od, h1, h2⟩ := ok.fr n; ⟨od, h1, h2.mono s⟩, t1, ok.t2, t3⟩
theorem LwOk.fall {i : Nat} {q : Str} {G : LwS} {p1 p2 p3 : Array Value} {Z : Lg} (ok : LwOk i q G p1 p2 p3 Z) : LwOk i q { G with dk := G.dk.fall } p1 p2 p3 Z :=
  ⟨ok.kb, ok.wb, ok.hk, ok.hw, ok.vk, ok.vw, ok.len, ok.fn, ok.fs, ok.en, ok.es, ok.fr, ok.t1, ok.t2, ok.t3⟩
theorem DLs.app {L : Lg} : ∀ {xs ys : List V} {ds es : List Dv}, DLs L xs ds → DLs L ys es → DLs L (xs ++ ys) (ds ++ es)
  | _, _, _, _, .nil, h => h
  | _, _, _, _, .cons a b, h => .cons a (b.app h)
theorem fe_same {fe : List (Str × V)} {nm n : Str} : (aget (aput fe nm ((aget fe nm).getD .non)) n).getD .non = (aget fe n).getD .non := by
  rw [aget_put]
  by_cases e : nm = n
  · rw [if_pos e, e]; rfl
  · rw [if_neg e]
theorem ok_app {i : Nat} {q : Str} {G : LwS} {p1 p2 p3 p1' p3' : Array Value} {Z Z' : Lg} {v : Addr} {d : Dv} {nm : Str} {so : Int} {val : V} (ok : LwOk i q G p1 p2 p3 Z) (s : ∀ x ∈ Z, x ∈ Z') (t1 : TriplesOk p1'.toList) (t3 : TabL q p3' Z') (hv : DL Z (.ref v) d) (hd : isVD d) (hnm : nm ∈ (["a", "b"] : List Str)) (h4 : so < 4) (hval : (aget G.fe nm).getD .non = val) (K' W' a' wl2 : Addr) :
    LwOk (i + 1) q { G with K := K', W := W', dk := dkDone so d nm G.kds a' G.dk, wl := wl2, wvs := G.wvs ++ [.ref v], wds := G.wds ++ [d], fe := aput G.fe nm val } p1' p2 p3' Z' := by
  have e : dkDone so d nm G.kds a' G.dk = { G.dk.step with wb := G.dk.wb ++ frameB (packB d) } := by unfold dkDone; rw [if_pos h4]
  subst hval
  rw [e]
  refine ⟨ok.kb, ?_, ok.hk.mono s, (ok.hw.mono s).app (.cons (hv.mono s) .nil), ok.vk, fun d' h => ?_, ?_, ok.fn, ok.fs, aput_nd ok.en, fun n h => ?_, fun n => ?_, t1, ok.t2, t3⟩
  · show G.dk.wb ++ frameB (packB d) = framesB (G.wds ++ [d])
    rw [ok.wb]
    unfold framesB
    rw [List.flatMap_append]
    simp
  · rcases List.mem_append.mp h with h | h
    · exact ok.vw d' h
    · rw [List.mem_singleton.mp h]; exact hd
  · show G.kds.length + (G.wds ++ [d]).length ≤ i + 1
    have := ok.len
    rw [List.length_append, List.length_singleton]; omega
  · rcases aput_mem h with rfl | h
    · exact hnm
    · exact ok.es n h
  · obtain ⟨od, h1, h2⟩ := ok.fr n
    refine ⟨od, h1, ?_⟩
    show DLo Z' ((aget (aput G.fe nm ((aget G.fe nm).getD .non)) n).getD .non) od
    rw [fe_same]
    exact h2.mono s
theorem ok_syn {i : Nat} {q : Str} {G : LwS} {p1 p2 p3 p1' p3' : Array Value} {Z Z' : Lg} {d : Dv} {nm : Str} {so : Int} {val : V} (ok : LwOk i q G p1 p2 p3 Z) (s : ∀ x ∈ Z, x ∈ Z') (t1 : TriplesOk p1'.toList) (t3 : TabL q p3' Z') (hnm : nm ∈ (["a", "b"] : List Str)) (h4 : ¬ so < 4) (h6 : so < 6) (hval : (aget G.fe nm).getD .non = val) (K' W' a' kl2 wl2 : Addr) :
    LwOk (i + 1) q { G with K := K', W := W', dk := dkDone so d nm G.kds a' G.dk, kl := kl2, wl := wl2, kvs := G.kvs ++ G.wvs, wvs := [], kds := G.kds ++ G.wds, wds := [], fe := aput G.fe nm val } p1' p2 p3' Z' := by
  have e : dkDone so d nm G.kds a' G.dk = { G.dk.step with kb := G.dk.kb ++ G.dk.wb, wb := [], sy := G.dk.sy + 1 } := by unfold dkDone; rw [if_neg h4, if_pos h6]
  subst hval
  rw [e]
  refine ⟨?_, rfl, (ok.hk.mono s).app (ok.hw.mono s), .nil, fun d' h => ?_, fun d h => (nomatch h), ?_, ok.fn, ok.fs, aput_nd ok.en, fun n h => ?_, fun n => ?_, t1, ok.t2, t3⟩
  · show G.dk.kb ++ G.dk.wb = framesB (G.kds ++ G.wds)
    rw [ok.kb, ok.wb]
    unfold framesB
    rw [List.flatMap_append]
  · rcases List.mem_append.mp h with h | h
    · exact ok.vk d' h
    · exact ok.vw d' h
  · show (G.kds ++ G.wds).length + 0 ≤ i + 1
    have := ok.len
    rw [List.length_append]; omega
  · rcases aput_mem h with rfl | h
    · exact hnm
    · exact ok.es n h
  · obtain ⟨od, h1, h2⟩ := ok.fr n
    refine ⟨od, h1, ?_⟩
    show DLo Z' ((aget (aput G.fe nm ((aget G.fe nm).getD .non)) n).getD .non) od
    rw [fe_same]
    exact h2.mono s
theorem ok_six {i : Nat} {q : Str} {G : LwS} {p1 p2 p3 p1' p3' : Array Value} {Z Z' : Lg} {v : Addr} {d : Dv} {nm : Str} (ok : LwOk i q G p1 p2 p3 Z) (s : ∀ x ∈ Z, x ∈ Z') (t1 : TriplesOk p1'.toList) (t3 : TabL q p3' Z') (hv : DL Z (.ref v) d) (hd : isVD d) (hnm : nm ∈ (["a", "b"] : List Str)) (K' W' a' kl2 wl2 : Addr) :
    LwOk (i + 1) q { G with K := K', W := W', dk := dkDone 6 d nm G.kds a' G.dk, kl := kl2, wl := wl2, kvs := G.kvs.take 1, wvs := [], kds := G.kds.take 1, wds := [], fe := aput G.fe nm (.ref v) } p1' p2 p3' Z' := by
  have e : dkDone 6 d nm G.kds a' G.dk = { G.dk.step with kb := framesB (G.kds.take 1), wb := [], fs := aput G.dk.fs nm (a', frameB (packB d)), sy := G.dk.sy + 1 } := rfl
  refine ⟨rfl, rfl, (ok.hk.mono s).take 1, .nil, fun d h => ok.vk d (List.mem_of_mem_take h), fun d h => (nomatch h), ?_, aput_nd ok.fn, fun n h => ?_, aput_nd ok.en, fun n h => ?_, fun n => ?_, t1, ok.t2, t3⟩
  · show (G.kds.take 1).length + 0 ≤ i + 1
    rw [List.length_take]; omega
  · rcases aput_mem h with rfl | h
    · exact hnm
    · exact ok.fs n h
  · rcases aput_mem h with rfl | h
    · exact hnm
    · exact ok.es n h
  · show ∃ od, FilOk 2 (aget (aput G.dk.fs nm (a', frameB (packB d))) n) od ∧ DLo Z' ((aget (aput G.fe nm (.ref v)) n).getD .non) od
    rw [aget_put, aget_put]
    by_cases e : nm = n
    · rw [if_pos e, if_pos e]
      exact ⟨some d, ⟨rfl, (vD_pk hd).1⟩, hv.mono s⟩
    · rw [if_neg e, if_neg e]
      obtain ⟨od, h1, h2⟩ := ok.fr n
      exact ⟨od, h1, h2.mono s⟩
section
variable {P : Program} {w : World} {K : PySem.W.Frag} {mg : Str → Option Value} {base : Heap} {CD CE PN PU : Addr} {f cL PL : Addr} {A : Around} {outer : List Env} {s0 : Shared} {H0 : Hp} {E : XK}
theorem st_dn (hr : Room 18 (LX P w K mg base f (.ref cL) A outer s0 H0 E).A) : PS (LX P w K mg base f (.ref cL) A outer s0 H0 E) (nth deedB 0)
    (fun D σ H => ∃ (fu : Option Int) (dn : Bool), σ[6]? = some (some (fuV fu)) ∧ σ[7]? = some (some (.bl dn)) ∧ D.nx (σ.set 7 (some (.bl (dn || decide (fu = some 0))))) H) := by
  refine ps_imp (t := _) (ps_set (i := 7) scLaw.nd rfl (Or.inl rfl) (pe_or (pv 7) (pe_one (pe_cmpR op_eq (pv 6) pe_int (nomark _))))) ?_
  rintro D σ H ⟨fu, dn, h6, h7, k⟩
  refine ⟨_, h7, ?_⟩
  cases dn with
  | true =>
    fail "go"
    exact k
  | false =>
    fail "go"
    refine ⟨_, h6, ?_⟩
    fail "go"
    cases fu with
    | none =>
      dsimp only [fuV]
      fail "go"
      exact k
    | some j =>
      dsimp only [fuV]
      fail "go"
      have e : (false || decide (some j = some (0 : Int))) = decide (V.int j = V.int 0) := by
        rw [Bool.false_or]
        by_cases q : j = 0
        · rw [decide_eq_true (by rw [q]), decide_eq_true (by rw [q])]
        · rw [decide_eq_false (fun z => q (Option.some.inj z)), decide_eq_false (fun z => q (V.int.inj z))]
      rw [e] at k
      exact k
theorem st_fu (hr : Room 18 (LX P w K mg base f (.ref cL) A outer s0 H0 E).A) : PS (LX P w K mg base f (.ref cL) A outer s0 H0 E) (nth deedB 1)
    (fun D σ H => ∃ (fu : Option Int) (dn : Bool), σ[6]? = some (some (fuV fu)) ∧ σ[7]? = some (some (.bl dn)) ∧ D.nx (σ.set 6 (some (fuV (if dn = true then fu else fu.map (· - 1))))) H) := by
  refine ps_imp (t := _) (ps_set (i := 6) scLaw.nd rfl (Or.inl rfl) (pe_ifExp (PW.pt (pw_or (pt_cmpR op_isN (pv 6) pe_non (nomark _)) (pw_or1 (pt_val (pv 7))))) (pv 6) (pe_op op_sub (pv 6) pe_int))) ?_
  rintro D σ H ⟨fu, dn, h6, h7, k⟩
  refine ⟨_, h6, ?_⟩
  cases fu with
  | none =>
    dsimp only [fuV]
    fail "go"
    refine ⟨_, h6, ?_⟩
    cases dn <;> exact k
  | some j =>
    dsimp only [fuV]
    fail "go"
    refine ⟨_, h7, ?_⟩
    cases dn with
    | true =>
      fail "go"
      exact ⟨_, h6, k⟩
    | false =>
      fail "go"
      refine ⟨_, h6, ?_⟩
      dsimp only [fuV]
      fail "go"
      exact k
theorem st_deed (hr : Room 18 (LX P w K mg base f (.ref cL) A outer s0 H0 E).A) (T : TxtG mg) (c__law_roll : Cal P w K mg base 1 "_law_roll" spRoll [])
    (h_told : PS (LX P w K mg base f (.ref cL) A outer s0 H0 E) (nth deedB 3) (tTold CD PN PU PL ((LX P w K mg base f (.ref cL) A outer s0 H0 E).env.qual ++ "<lambda>"))) :
    PSs (LX P w K mg base f (.ref cL) A outer s0 H0 E) deedB (tDeed CD PN PU PL ((LX P w K mg base f (.ref cL) A outer s0 H0 E).env.qual ++ "<lambda>")) := by
  refine pss_imp (t := _) (pss_cons (st_dn hr)
  (pss_cons (st_fu hr)
  (pss_cons (ps_set (i := 12) scLaw.nd rfl (Or.inr rfl) (pe_ix ix_str pe_str (pe_c c__law_roll hr (by decide) (by rfl) (pa_cons (pv 1) (pa_cons pe_int pa_nil))) (fun _ _ => rfl)))
  (pss_cons h_told
  (pss_cons (ps_if (pt_cmpR op_ne (pe_cmpR op_eq (pv 13) pe_str (nomark _)) (pv 7) (nomark _))
  (pss_one (ps_ret pe_bl))
  pss_nil)
  (pss_one (ps_if (pt_not (pt_val (pv 7)))
  (pss_cons (ps_set (i := 8) scLaw.nd rfl (Or.inl rfl) (pe_op op_add (pv 8) (pe_callTy call_int1 (by rfl) T.int (by decide +kernel) (pa_cons (pe_cmpR op_gt (pv 10) pe_int (nomark _)) pa_nil))))
  (pss_cons (ps_dput (hu_of hr) (pv 5) (pv 12) (pe_ifExp (pt_cmpR op_eq (pv 10) pe_int (nomark _)) (pv 11) (pe_dget1 (hu_of hr) (pv 5) (pv 12) ⟨rfl, rfl, rfl, rfl⟩)) rfl)
  (pss_one (ps_asg (pe_ifExp (pt_cmpR op_lt (pv 10) pe_int (nomark _)) (pe_tup (pa_cons (pv 3) (pa_cons (pe_op op_cat (pv 4) (pe_lst (pa_cons (pv 11) pa_nil))) pa_nil))) (pe_ifExp (pt_cmpR op_lt (pv 10) pe_int (nomark _)) (pe_tup (pa_cons (pe_op op_cat (pv 3) (pv 4)) (pa_cons (pe_lst pa_nil) pa_nil))) (pe_tup (pa_cons (pe_slice sl_list (pv 3) po_none (po_some pe_int)) (pa_cons (pe_lst pa_nil) pa_nil))))) (pg_tup (by rfl) (pgs_cons (pg_name (i := 3) scLaw.nd rfl (Or.inr rfl)) (pgs_cons (pg_name (i := 4) scLaw.nd rfl (Or.inr rfl)) pgs_nil)))))))
  pss_nil))))))) ?_
  rintro D σ H ⟨i, G, p1, p2, p3, a, b, c, Z, so, v, d, v12, ⟨v0, v9, v13, v14, v15, v16, v17, rfl⟩, ok, hi, hv, hd, h1, h7, hL, k⟩
  fail "go"
  have eup : (G.dk.dn || decide (G.dk.fu = some 0)) = !G.dk.up := by unfold DkS.up; cases G.dk.dn <;> simp
  rw [eup]
  have hL2 : Led H ((G.d, dD a b c) :: (PN, .tbl p1) :: (PU, .tbl p2) :: (PL, .tbl p3) :: (dkL CD G.x G.dx G.K G.W G.F G.dk ++ LwR G Z)) := by unfold LwL at hL; fail "pm"
  clear hL
  fail "go"
  refine ⟨G.d, a, b, c, 2, _, rfl, hL2, by decide, by decide, fun r a b c H hr0 hr1 hL => ?_⟩
  have hnm : ∃ cc : Nat, atI (Str.ofString "ab").cps.toList r = some cc ∧ (⟨#[cc]⟩ : Str) ∈ (["a", "b"] : List Str) := by
    have : r = 0 ∨ r = 1 := by omega
    rcases this with rfl | rfl
    · exact ⟨97, by decide +kernel, by decide +kernel⟩
    · exact ⟨98, by decide +kernel, by decide +kernel⟩
  obtain ⟨cc, hcc, hnm⟩ := hnm
  refine ⟨_, _, cc, rfl, rfl, by decide, hcc, ?_⟩
  generalize (⟨#[cc]⟩ : Str) = nm at hnm
  refine ⟨i, G, p1, p2, p3, a, b, c, Z, so, v, d, nm, _, _, ⟨_, _, _, _, _, _, _, rfl⟩, ok, hi, hv, hd, by unfold LwL; fail "pm", fun hu K' W' a' p1' p3' Z2 H ht1 ht3 hL => ?_, fun hu p1' p3' Z2 H ht1 ht3 hL => ?_⟩
  · rw [hu, show (if (!true) = true then G.dk.fu else G.dk.fu.map (· - 1)) = G.dk.step.fu from rfl, show (!true) = false from rfl]
    fail "go"
    unfold LwL LwR at hL
    have hL2 : Led H ((G.fl, .dK (G.fe.map (kk fvV))) :: (G.kl, .lst G.kvs) :: (G.wl, .lst G.wvs) :: (PN, .tbl p1') :: (PU, .tbl p2) :: (PL, .tbl p3') :: (G.d, dD a b c) :: (dkL CD G.x G.dx K' W' G.F (dkDone so d nm G.kds a' G.dk) ++ (Z2 ++ Z))) := by fail "pm"
    clear hL
    have hL := hL2
    clear hL2
    have hfe : (G.fe.map (kk fvV)).length < sizeLine := by
      have h1 := nodup_len ok.en ok.es
      rw [List.length_map] at h1 ⊢
      have h2 : 60 ≤ sizeLine := by decide
      have h3 : (["a", "b"] : List Str).length = 2 := rfl
      omega
    by_cases h6 : so = 6
    · subst h6
      fail "go"
      refine k_dputS hL ⟨0, rfl⟩ hfe (kk_put (vo := fvV) (k := nm) (v := .ref v) ok.en) ⟨0, rfl, rfl⟩ fun H hL => ?_
      dsimp only [List.set] at hL
      fail "go"
      refine ⟨G.kl, G.kvs, rfl, .of (hL.at ⟨1, rfl⟩), fun kl2 hkl => ?_⟩
      rw [cut1]
      generalize hH : upd H kl2 _ = H
      replace hL := Led.newH hL hkl hH
      clear hH hkl
      fail "go"
      have e6 : (G.dk.sy + if decide ((3 : Int) < 6) = true then 1 else 0) = (dkDone 6 d nm G.kds a' G.dk).sy := rfl
      have e7 : G.dk.step.fu = (dkDone 6 d nm G.kds a' G.dk).fu := rfl
      have e8 : false = (dkDone 6 d nm G.kds a' G.dk).dn := by
        have : G.dk.dn = false := by
          have := hu
          unfold DkS.up at this
          cases h : G.dk.dn with
          | false => rfl
          | true => rw [h] at this; cases this
        exact this.symm
      rw [e7, e8]
      dsimp only [List.set]
      rw [e6]
      refine k { G with K := K', W := W', dk := dkDone 6 d nm G.kds a' G.dk, kl := kl2, wl := _, kvs := G.kvs.take 1, wvs := [], kds := G.kds.take 1, wds := [], fe := aput G.fe nm (.ref v) } p1' p2 p3' a b c (Z2 ++ Z) _ _ _ H ⟨rfl, rfl, fun x h => List.mem_append_right _ h⟩ ⟨_, _, _, _, _, _, _, rfl⟩ (ok_six ok (fun x h => List.mem_append_right _ h) ht1 ht3 hv hd hnm _ _ _ _ _) ?_
      unfold LwL LwR
      fail "pm"
    · refine ite_d (fun z => absurd (V.int.inj z) h6) fun _ => ?_
      fail "go"
      refine k_getS hL ⟨0, rfl⟩ ?_
      have ev : (valV (G.fe.map (kk fvV)) (Sum.inr nm)).getD .non = (aget G.fe nm).getD .non := by
        rw [kk_val]
        cases aget G.fe nm <;> rfl
      rw [ev]
      generalize hval : (aget G.fe nm).getD .non = val
      fail "go"
      refine k_dputS hL ⟨0, rfl⟩ hfe (kk_put (vo := fvV) (k := nm) (v := val) ok.en) ⟨0, rfl, rfl⟩ fun H hL => ?_
      dsimp only [List.set] at hL
      fail "go"
      refine ite_d (fun h4 => ?_) fun h4 => ?_
      · fail "go"
        have hwl := ok.hw.len
        have hln := ok.len
        have hz : 100 ≤ sizeLine := by decide
        refine k_cat hL ⟨3, rfl⟩ ⟨0, rfl⟩ (by rw [List.length_singleton]; omega) fun wl2 hwl2 => ?_
        generalize hH : upd H wl2 _ = H
        replace hL := Led.newH hL hwl2 hH
        clear hH hwl2
        fail "go"
        have e : dkDone so d nm G.kds a' G.dk = { G.dk.step with wb := G.dk.wb ++ frameB (packB d) } := by unfold dkDone; rw [if_pos h4]
        have e6 : (G.dk.sy + if decide (3 < so) = true then 1 else 0) = (dkDone so d nm G.kds a' G.dk).sy := by
          rw [e, if_neg (by rw [decide_eq_false (by omega)]; decide)]
          exact Int.add_zero _
        have e7 : G.dk.step.fu = (dkDone so d nm G.kds a' G.dk).fu := by rw [e]
        have e8 : false = (dkDone so d nm G.kds a' G.dk).dn := by
          have : G.dk.dn = false := by
            have := hu
            unfold DkS.up at this
            cases h : G.dk.dn with
            | false => rfl
            | true => rw [h] at this; cases this
          rw [e]
          exact this.symm
        rw [e7, e8]
        dsimp only [List.set]
        rw [e6]
        refine k { G with K := K', W := W', dk := dkDone so d nm G.kds a' G.dk, wl := wl2, wvs := G.wvs ++ [.ref v], wds := G.wds ++ [d], fe := aput G.fe nm val } p1' p2 p3' a b c (Z2 ++ Z) _ _ _ H ⟨rfl, rfl, fun x h => List.mem_append_right _ h⟩ ⟨_, _, _, _, _, _, _, rfl⟩ (ok_app ok (fun x h => List.mem_append_right _ h) ht1 ht3 hv hd hnm h4 hval _ _ _ _) ?_
        unfold LwL LwR
        fail "pm"
      · fail "go"
        refine ite_d (fun h5 => ?_) fun h5 => absurd (by omega) h6
        fail "go"
        have hwl := ok.hw.len
        have hkl := ok.hk.len
        have hln := ok.len
        have hz : 100 ≤ sizeLine := by decide
        refine k_cat hL ⟨1, rfl⟩ ⟨2, rfl⟩ (by omega) fun kl2 hkl2 => ?_
        generalize hH : upd H kl2 _ = H
        replace hL := Led.newH hL hkl2 hH
        clear hH hkl2
        fail "go"
        have e : dkDone so d nm G.kds a' G.dk = { G.dk.step with kb := G.dk.kb ++ G.dk.wb, wb := [], sy := G.dk.sy + 1 } := by unfold dkDone; rw [if_neg h4, if_pos h5]
        have e6 : (G.dk.sy + if decide (3 < so) = true then 1 else 0) = (dkDone so d nm G.kds a' G.dk).sy := by
          rw [e, if_pos (decide_eq_true (by omega))]
        have e7 : G.dk.step.fu = (dkDone so d nm G.kds a' G.dk).fu := by rw [e]
        have e8 : false = (dkDone so d nm G.kds a' G.dk).dn := by
          have : G.dk.dn = false := by
            have := hu
            unfold DkS.up at this
            cases h : G.dk.dn with
            | false => rfl
            | true => rw [h] at this; cases this
          rw [e]
          exact this.symm
        rw [e7, e8]
        dsimp only [List.set]
        rw [e6]
        refine k { G with K := K', W := W', dk := dkDone so d nm G.kds a' G.dk, kl := kl2, wl := _, kvs := G.kvs ++ G.wvs, wvs := [], kds := G.kds ++ G.wds, wds := [], fe := aput G.fe nm val } p1' p2 p3' a b c (Z2 ++ Z) _ _ _ H ⟨rfl, rfl, fun x h => List.mem_append_right _ h⟩ ⟨_, _, _, _, _, _, _, rfl⟩ (ok_syn ok (fun x h => List.mem_append_right _ h) ht1 ht3 hnm h4 h5 hval _ _ _ _ _) ?_
        unfold LwL LwR
        fail "pm"
  · rw [hu]
    fail "go"
    exact k { G with dk := G.dk.fall } p1' p2 p3' a b c (Z2 ++ Z) _ _ _ H ⟨rfl, rfl, fun x h => List.mem_append_right _ h⟩ ⟨_, _, _, _, _, _, _, rfl⟩ (ok.fall.more (fun x h => List.mem_append_right _ h) ht1 ht3 (Nat.le_succ _)) hL
end
end Sd


set_option linter.unusedVariables false
namespace Sd
open PySem L2 LamX
open C8 (Cal Met Mak pe_c pe_mk pe_mt pe_mt0 pss_cut tCut)
/-- how many whole frames stand among the first m bytes -/
def rq : List Dv → Nat → Nat
  | [], _ => 0
  | d :: ds, m => if (frameB (packB d)).length ≤ m then rq ds (m - (frameB (packB d)).length) + 1 else 0
theorem frames_cons {d : Dv} {ds : List Dv} : framesB (d :: ds) = frameB (packB d) ++ framesB ds := by unfold framesB; rw [List.flatMap_cons]
theorem rq_le : ∀ {ds : List Dv} {m : Nat}, rq ds m ≤ ds.length
  | [], _ => Nat.le_refl _
  | d :: ds, m => by
    rw [rq]
    split
    · have := rq_le (ds := ds) (m := m - (frameB (packB d)).length)
      rw [List.length_cons]; omega
    · exact Nat.zero_le _
theorem rq_iff : ∀ {ds : List Dv} {m k : Nat}, k ≤ ds.length → ((framesB (ds.take k)).length ≤ m ↔ k ≤ rq ds m)
  | [], m, k, h => by
    obtain rfl : k = 0 := by simpa using h
    simp [framesB, rq]
  | d :: ds, m, 0, _ => by simp [framesB]
  | d :: ds, m, k + 1, h => by
    rw [List.take_succ_cons, frames_cons, List.length_append, rq]
    have ih := rq_iff (ds := ds) (m := m - (frameB (packB d)).length) (k := k) (by rw [List.length_cons] at h; omega)
    by_cases q : (frameB (packB d)).length ≤ m
    · rw [if_pos q]
      constructor
      · intro z; have := ih.mp (by omega); omega
      · intro z; have := ih.mpr (by omega); omega
    · rw [if_neg q]
      constructor
      · intro z; omega
      · intro z; omega
theorem rq_cut : ∀ {ds : List Dv} {m : Nat}, (∀ d ∈ ds, isVD d) → ∃ tail, (framesB ds).take m = framesB (ds.take (rq ds m)) ++ tail ∧ Cut tail
  | [], m, _ => ⟨[], by simp [framesB, rq], .inl (by decide)⟩
  | d :: ds, m, h => by
    rw [frames_cons, rq]
    by_cases q : (frameB (packB d)).length ≤ m
    · obtain ⟨t, h1, h2⟩ := rq_cut (ds := ds) (m := m - (frameB (packB d)).length) fun d hd => h d (.tail _ hd)
      rw [if_pos q]
      refine ⟨t, ?_, h2⟩
      rw [List.take_append, List.take_of_length_le q, h1, List.take_succ_cons, frames_cons, List.append_assoc]
    · rw [if_neg q]
      refine ⟨(frameB (packB d) ++ framesB ds).take m, by rw [List.take_zero]; simp [framesB], ?_⟩
      have hl := frame_len (b := packB d)
      have hd := (vD_pk (h d (.head _))).2
      by_cases h8 : m < 8
      · left
        rw [List.length_take]; omega
      · right
        have h4 : ((frameB (packB d) ++ framesB ds).take m).take 4 = fourB (packB d).length := by
          rw [List.take_take, Nat.min_eq_left (by omega)]
          unfold frameB
          rw [List.append_assoc, List.append_assoc]
          exact List.take_left' rfl
        rw [h4, many_four (Int.natCast_nonneg _) (by omega), List.length_take, List.length_append]
        omega
end Sd


set_option linter.unusedVariables false
namespace Sd
open PySem L2 LamX
open C8 (Cal Met Mak pe_c pe_mk pe_mt pe_mt0 pss_cut tCut)
set_option linter.unusedSimpArgs false
set_option pp.deepTerms false
set_option pp.deepTerms.threshold 12
set_option hygiene false
local macro_rules | `(tactic| fail "nd") => `(tactic| first | assumption | decide +kernel)
local macro_rules | `(tactic| fail "ix") => `(tactic| first | exact ⟨0, rfl⟩ | exact ⟨1, rfl⟩ | exact ⟨2, rfl⟩ | exact ⟨3, rfl⟩ | exact ⟨4, rfl⟩ | exact ⟨5, rfl⟩ | exact ⟨6, rfl⟩ | exact ⟨7, rfl⟩ | exact ⟨8, rfl⟩ | exact ⟨9, rfl⟩ | exact ⟨10, rfl⟩ | exact ⟨11, rfl⟩ | exact ⟨12, rfl⟩ | exact ⟨13, rfl⟩ | exact ⟨14, rfl⟩ | exact ⟨15, rfl⟩ | exact ⟨16, rfl⟩ | exact ⟨17, rfl⟩ | exact ⟨18, rfl⟩ | assumption)
local macro_rules | `(tactic| fail "up") => `(tactic| first | exact ⟨0, rfl, rfl⟩ | exact ⟨1, rfl, rfl⟩ | exact ⟨2, rfl, rfl⟩ | exact ⟨3, rfl, rfl⟩ | exact ⟨4, rfl, rfl⟩ | exact ⟨5, rfl, rfl⟩ | exact ⟨6, rfl, rfl⟩ | exact ⟨7, rfl, rfl⟩ | exact ⟨8, rfl, rfl⟩ | exact ⟨9, rfl, rfl⟩ | exact ⟨10, rfl, rfl⟩ | exact ⟨11, rfl, rfl⟩ | exact ⟨12, rfl, rfl⟩ | exact ⟨13, rfl, rfl⟩ | exact ⟨14, rfl, rfl⟩ | exact ⟨15, rfl, rfl⟩ | exact ⟨16, rfl, rfl⟩ | assumption)
local macro_rules | `(tactic| fail "lkF") => `(tactic| first | assumption | exact fz_at 0 (by fail "nd") rfl rfl | exact fz_at 1 (by fail "nd") rfl rfl | exact fz_at 2 (by fail "nd") rfl rfl | exact fz_at 3 (by fail "nd") rfl rfl | exact fz_at 4 (by fail "nd") rfl rfl | exact fz_at 5 (by fail "nd") rfl rfl | exact fz_at 6 (by fail "nd") rfl rfl | exact fz_at 7 (by fail "nd") rfl rfl)
local macro_rules | `(tactic| fail "lkD") => `(tactic| first | assumption | exact dz_at 0 (by fail "nd") rfl rfl | exact dz_at 1 (by fail "nd") rfl rfl | exact dz_at 2 (by fail "nd") rfl rfl | exact dz_at 3 (by fail "nd") rfl rfl | exact dz_at 4 (by fail "nd") rfl rfl)
local macro_rules | `(tactic| fail "ptF") => `(tactic| first | assumption | exact fz_put 0 (by fail "nd") rfl (Nat.le_of_ble_eq_true rfl) | exact fz_put 1 (by fail "nd") rfl (Nat.le_of_ble_eq_true rfl) | exact fz_put 2 (by fail "nd") rfl (Nat.le_of_ble_eq_true rfl) | exact fz_put 3 (by fail "nd") rfl (Nat.le_of_ble_eq_true rfl) | exact fz_put 4 (by fail "nd") rfl (Nat.le_of_ble_eq_true rfl) | exact fz_put 5 (by fail "nd") rfl (Nat.le_of_ble_eq_true rfl) | exact fz_put 6 (by fail "nd") rfl (Nat.le_of_ble_eq_true rfl) | exact fz_put 7 (by fail "nd") rfl (Nat.le_of_ble_eq_true rfl) | exact fz_new (by decide +kernel) rfl)
local macro_rules | `(tactic| fail "ptD") => `(tactic| first | assumption | exact dz_put 0 (by fail "nd") rfl (Nat.le_of_ble_eq_true rfl) | exact dz_put 1 (by fail "nd") rfl (Nat.le_of_ble_eq_true rfl) | exact dz_put 2 (by fail "nd") rfl (Nat.le_of_ble_eq_true rfl) | exact dz_put 3 (by fail "nd") rfl (Nat.le_of_ble_eq_true rfl) | exact dz_put 4 (by fail "nd") rfl (Nat.le_of_ble_eq_true rfl))
local macro_rules | `(tactic| fail "sz") => `(tactic| first | assumption | exact (Nat.le_of_ble_eq_true rfl) | omega | decide)
local macro_rules | `(tactic| fail "sd") => `(tactic| first | rfl | assumption | decide | omega | (dsimp only; first | decide | omega) | exact .inr ⟨by decide, by decide⟩ | exact .inl ⟨by decide, by decide⟩ | exact ⟨by omega, by omega⟩ | exact .inl ⟨by omega, by omega⟩ | exact .inr ⟨by omega, by omega⟩ | exact ⟨by omega, by omega, by omega⟩)
local macro_rules | `(tactic| fail "cl") => `(tactic| (clear hH; dsimp only [List.set, List.cons_append, List.nil_append, List.append] at hL))
local macro_rules | `(tactic| fail "gn") => `(tactic| (intro p hp; generalize hH : upd H p _ = H; replace hL := Led.newH hL hp hH; clear hH hp))
local macro_rules | `(tactic| fail "gup") => `(tactic| (generalize hH : upd H _ _ = H; replace hL := Led.upU hL (by fail "up") hH; fail "cl"))
local macro_rules | `(tactic| fail "gmk") => `(tactic| (intro x dx hx hd ne; generalize hH : upd (upd H dx _) x _ = H; replace hL := Led.made hL hx hd ne hH; clear hH hx hd ne))
local macro_rules | `(tactic| fail "v") => `(tactic| refine ⟨_, rfl, ?_⟩)
local macro_rules | `(tactic| fail "i2") => `(tactic| refine ⟨_, _, rfl, rfl, ?_⟩)
local macro_rules | `(tactic| fail "go1") => `(tactic| first
  | refine ⟨_, rfl, ?_⟩
  | refine ⟨_, _, rfl, rfl, ?_⟩
  | refine ⟨_, _, rfl, ?_⟩
  | refine iteT ?_
  | refine iteF ?_
  | refine k_fld hL (by fail "ix") (by assumption) (by assumption) (by fail "lkF") ?_
  | refine k_dgetS hL (by fail "ix") (by fail "lkD") ?_
  | refine k_dgetI hL (by fail "ix") (by assumption) ?_
  | refine k_ixL hL (by fail "ix") (by first | rfl | assumption) ?_
  | refine k_ixT hL (by fail "ix") (by first | rfl | assumption) ?_
  | refine k_tyL hL (by fail "ix") ?_
  | refine k_isd hL (by fail "ix") ?_
  | (refine And.intro (by fail "sz") ?_; fail "gn")
  | refine And.intro (by fail "sd") ?_
  | fail "gn"
  | refine k_meth hL (by fail "ix") (by first | assumption | exact fz_no (by decide +kernel)) ?_
  | refine k_gtup hL (by fail "ix") rfl ?_
  | (refine k_popI hL (by fail "ix") (by assumption) ?_; fail "gup")
  | (refine k_listD hL (by fail "ix") ?_; fail "gn")
  | (refine ⟨_, _, _, _, rfl, rfl, hL.at (by fail "ix"), rfl, ?_⟩; fail "gup")
  | (refine ⟨_, _, _, rfl, rfl, hL.at (by fail "ix"), (by fail "sz"), ?_⟩; fail "gup")
  | (refine ⟨_, _, _, _, rfl, hL.at (by fail "ix"), by assumption, by assumption, Nat.lt_of_le_of_lt fz_len (by decide), ?_⟩; generalize hH : upd H _ _ = H; replace hL := Led.upF hL (by fail "up") (by fail "ptF") hH; fail "cl")
  | (refine ⟨_, _, hL.at (by fail "ix"), Nat.lt_of_le_of_lt fz_len (by decide), ?_⟩; generalize hH : upd H _ _ = H; replace hL := Led.upF hL (by fail "up") (by fail "ptF") hH; fail "cl")
  | (refine k_dputS hL (by fail "ix") (Nat.lt_of_le_of_lt dz_len (by decide)) (by fail "ptD") (by fail "up") ?_; clear hL; intro H hL; dsimp only [List.set, List.cons_append, List.nil_append, List.append] at hL)
  | refine k_lenL2 hL (by fail "ix") ?_
  | refine k_lenT2 hL (by fail "ix") ?_
  | refine .inl ⟨_, rfl, ?_⟩
  | refine .inr ⟨_, rfl, ?_⟩)
local macro_rules | `(tactic| fail "go") => `(tactic| repeat fail "go1")
local macro_rules | `(tactic| fail "pm") => `(tactic| (refine Led.le hL (fun a_ => ?_); simp only [cnt_nil, cnt_cons, cnt_app, List.map_append, List.map_cons, List.map_nil, List.flatMap_append, List.flatMap_cons, List.flatMap_nil, List.append_assoc, List.cons_append, List.nil_append]; omega))

local macro_rules | `(tactic| fail "pmt") => `(tactic| (try dsimp only [tI] at hL); (try dsimp only [tI]); (refine Led.le hL (fun a_ => ?_); simp only [cnt_nil, cnt_cons, cnt_app, List.map_append, List.map_cons, List.map_nil, List.flatMap_append, List.flatMap_cons, List.flatMap_nil, List.append_assoc, List.cons_append, List.nil_append]; omega))
abbrev fallB : List Stmt := thenS (nth (elseS (nth (elseS (nth stepB 1)) 0)) 0)
theorem cutT {α : List V} {n : Nat} (h : n ≤ α.length) : cutV α none (some (n : Int)) = α.take n := by
  unfold cutV
  rw [HT.sIx_none, HT.sIx_nat, List.drop_zero, Nat.sub_zero, Nat.min_eq_left h]
/-- the disk behind a crash and a restart -/
def tFall (CD PN PU PL : Addr) (q : Str) : TS := fun D σ H => ∃ (i : Nat) (G : LwS) (p1 p2 p3 : Array Value) (a b c : Int) (Z : Lg) (so : Int) (v11 v12 : Option V), ShL G G.dk.fu G.dk.dn (some (.int so)) v11 v12 σ ∧ LwOk i q G p1 p2 p3 Z ∧ i ≤ 40 ∧
  Led H (LwL CD PN PU PL G p1 p2 p3 a b c Z) ∧
  ∀ (G' : LwS) (p1' p2' p3' : Array Value) (a' b' c' : Int) (Z' : Lg) σ' H', SameW G G' Z Z' → ShL G' G'.dk.fu G'.dk.dn (some (.int so)) v11 v12 σ' → LwOk i q G' p1' p2' p3' Z' → G'.dk.dn = false → Led H' (LwL CD PN PU PL G' p1' p2' p3' a' b' c' Z') → D.nx σ' H'
section
variable {P : Program} {w : World} {K : PySem.W.Frag} {mg : Str → Option Value} {base : Heap} {CD CE PN PU : Addr} {f cL PL : Addr} {A : Around} {outer : List Env} {s0 : Shared} {H0 : Hp} {E : XK}
theorem st_fall (hr : Room 18 (LX P w K mg base f (.ref cL) A outer s0 H0 E).A) (T : TxtG mg) (X : TxtDk K CD) (c__law_roll : Cal P w K mg base 1 "_law_roll" spRoll []) (c__law_bytes : Cal P w K mg base 9 "_law_bytes" (spLBytes PN 2) [])
    (c_Disk_crash : Met P w K mg base 1 CD "crash" (spCrash CD) []) (c_Disk_restart : Met P w K mg base 17 CD "restart" (spRest CD PU 2) []) :
    PSs (LX P w K mg base f (.ref cL) A outer s0 H0 E) fallB (tFall CD PN PU PL ((LX P w K mg base f (.ref cL) A outer s0 H0 E).env.qual ++ "<lambda>")) := by
  refine pss_imp (t := _) (pss_cons (ps_set (i := 14) scLaw.nd rfl (Or.inl rfl) (pe_c c__law_bytes hr (by decide) (by rfl) (pa_cons (pv 4) pa_nil)))
  (pss_cons (ps_set (i := 15) scLaw.nd rfl (Or.inr rfl) (pe_c c__law_roll hr (by decide) (by rfl) (pa_cons (pv 1) (pa_cons (pe_op op_add (pe_callB call_len_seq (by rfl) T.len (by decide +kernel) (pa_cons (pv 14) pa_nil)) pe_int) pa_nil))))
  (pss_cons (ps_expr (pe_mt c_Disk_crash hr (by decide) (pv 2) (pa_cons (pv 15) pa_nil)))
  (pss_cons (ps_if (PW.pt (pw_or (pt_cmpR (op_neW hr.units) (pe_fld (pv 2) rfl) (pe_op (op_catA) (pe_c c__law_bytes hr (by decide) (by rfl) (pa_cons (pv 3) pa_nil)) (pe_slice sl_tupA (pv 14) po_none (po_some (pv 15)))) (nomark _)) (pw_or (pt_cmpR (op_neW hr.units) (pe_fld (pv 2) rfl) (pe_tup pa_nil) (nomark _)) (pw_or1 (pt_not (pt_val (pe_fld (pv 2) rfl)))))))
  (pss_one (ps_ret pe_bl))
  pss_nil)
  (pss_cons (ps_expr (pe_mt0 c_Disk_restart hr (by decide) (pv 2)))
  (pss_cons (ps_setLc (i := 16) (own := [("k", 17)]) (g := gName 17) (by rfl) scLaw.nd rfl rfl (sw_true rfl rfl rfl (by decide +kernel)) (pi_range1 (by rfl) T.range (pa_cons (pe_op op_add (pe_callB call_len_seq (by rfl) T.len (by decide +kernel) (pa_cons (pv 4) pa_nil)) pe_int) pa_nil)) (blkOk_by (own := [("k", 17)]) (N := ["script", "dice", "disk", "kept", "waiting", "files", "fuse", "down", "syncs", "step", "sort", "value", "name", "told_now", "data", "many", "rows", "k"]) (sc := (defScope sLaw)) (by decide +kernel)) (fun _ _ _ _ _ => (pg_name (i := 17) scLaw.nd rfl (Or.inl rfl))) (fun _ _ _ _ _ => (pts_one (pt_cmpR op_le (pe_callB call_len_seqB (by rfl) T.len (by decide +kernel) (pa_cons (pe_c c__law_bytes hr (by decide) (by rfl) (pa_cons (pe_slice sl_listB (pv 4) po_none (po_some (pv 17))) pa_nil)) pa_nil)) (pv 15) (nomark _)))) (fun _ _ _ _ _ => (pv 17)))
  (pss_one (ps_asg (pe_tup (pa_cons (pe_op op_cat (pv 3) (pe_slice sl_list (pv 4) po_none (po_some (pe_ix ix_list (pv 16) (pe_op op_sub (pe_callB call_len_seq (by rfl) T.len (by decide +kernel) (pa_cons (pv 16) pa_nil)) pe_int) (fun _ _ => rfl))))) (pa_cons (pe_lst pa_nil) (pa_cons pe_non (pa_cons pe_bl pa_nil))))) (pg_tup (by rfl) (pgs_cons (pg_name (i := 3) scLaw.nd rfl (Or.inr rfl)) (pgs_cons (pg_name (i := 4) scLaw.nd rfl (Or.inr rfl)) (pgs_cons (pg_name (i := 6) scLaw.nd rfl (Or.inl rfl)) (pgs_cons (pg_name (i := 7) scLaw.nd rfl (Or.inl rfl)) pgs_nil))))))))))))) ?_
  rintro D σ H ⟨i, G, p1, p2, p3, a, b, c, Z, so, v11, v12, ⟨v0, v9, v13, v14, v15, v16, v17, rfl⟩, ok, hi, hL, k⟩
  have c1 := X.cl
  have f1 := X.n "kept" (by decide +kernel)
  have f2 := X.n "waiting" (by decide +kernel)
  have f6 := X.n "down" (by decide +kernel)
  fail "go"
  have hz1 := frames_len ok.vw
  have hz2 := frames_len ok.vk
  have hz3 := ok.len
  have hzL : 3000 ≤ sizeLine := by decide
  unfold LwL LwR at hL
  refine ⟨G.wl, G.wvs, G.wds, p1, (PU, .tbl p2) :: (PL, .tbl p3) :: (G.d, dD a b c) :: (dkL CD G.x G.dx G.K G.W G.F G.dk ++ LwR G Z), rfl, hL, ok.t1, .tail _ (.tail _ (.tail _ (List.mem_append_right _ (.tail _ (.head _))))), ok.hw.mono (fun x h => .tail _ (.tail _ (.tail _ (List.mem_append_right _ (.tail _ (.tail _ (.tail _ h))))))), fun d h => (vD_pk (ok.vw d h)).1, by omega, fun dt p1 H ht1 hL => ?_⟩
  fail "go"
  refine ⟨G.d, a, b, c, _, (dt, tI (framesB G.wds)) :: (PN, .tbl p1) :: (PU, .tbl p2) :: (PL, .tbl p3) :: (dkL CD G.x G.dx G.K G.W G.F G.dk ++ LwR G Z), rfl, by fail "pm", by rw [List.length_map]; omega, by rw [List.length_map]; omega, fun m a b c H hm0 hm1 hL => ?_⟩
  obtain ⟨m, rfl⟩ : ∃ k : Nat, m = k := ⟨m.toNat, by omega⟩
  rw [List.length_map] at hm1
  fail "go"
  refine ⟨G.x, G.dx, G.K, G.W, G.F, G.dk, m, (PN, .tbl p1) :: (dt, tI (framesB G.wds)) :: (PU, .tbl p2) :: (PL, .tbl p3) :: (G.d, dD a b c) :: LwR G Z, rfl, by fail "pm", by rw [ok.kb, ok.wb]; omega, fun K' W' H hL => ?_⟩
  dsimp only [dkL, dkO, List.cons_append] at hL
  fail "go"
  have hL2 : Led H ((PN, .tbl p1) :: ((G.x, HO.ins CD G.dx (fz nmD [.ref K', .ref W', .ref G.F, .int G.dk.sy, fuV G.dk.fu, .bl true])) :: (K', tI (G.dk.kb ++ G.dk.wb.take m)) :: (W', tI []) :: (dt, tI (framesB G.wds)) :: (PU, .tbl p2) :: (PL, .tbl p3) :: (G.d, dD a b c) :: (G.F, .dK (G.dk.fs.map (kk filV))) :: (LwR G Z ++ G.dk.fs.map filO))) := by fail "pm"
  clear hL
  refine ⟨G.kl, G.kvs, G.kds, p1, _, rfl, hL2, ht1, .tail _ (.tail _ (.tail _ (.tail _ (.tail _ (.tail _ (.tail _ (.tail _ (.head _)))))))), ok.hk.mono (fun x h => .tail _ (.tail _ (.tail _ (.tail _ (.tail _ (.tail _ (.tail _ (.tail _ (.tail _ (.tail _ (.tail _ (List.mem_append_left _ h)))))))))))), fun d h => (vD_pk (ok.vk d h)).1, by omega, fun r p1 H ht1 hL => ?_⟩
  clear hL2
  fail "go"
  refine k_takeA (D := dt) (bs := framesB G.wds) (L := (r, tI (framesB G.kds)) :: (PN, .tbl p1) :: (G.x, HO.ins CD G.dx (fz nmD [.ref K', .ref W', .ref G.F, .int G.dk.sy, fuV G.dk.fu, .bl true])) :: (K', tI (G.dk.kb ++ G.dk.wb.take m)) :: (W', tI []) :: (PU, .tbl p2) :: (PL, .tbl p3) :: (G.d, dD a b c) :: (G.F, .dK (G.dk.fs.map (kk filV))) :: (LwR G Z ++ G.dk.fs.map filO)) (by fail "pm") fun s H hL => ?_
  refine k_catA (b := s) (a := r) (hL.sub (.refl _)) (by rw [List.length_map, List.length_map, List.length_take]; omega) fun t H hL => ?_
  fail "go"
  refine k_neW 1 (by decide) (hL.at ⟨3, rfl⟩) (hL.at ⟨0, rfl⟩) ?_ ?_
  · rw [ok.kb, ok.wb, List.map_append]
    exact ew_flats (n := 0) fun x hx => by
      rw [← List.map_append] at hx
      obtain ⟨i, _, rfl⟩ := List.mem_map.mp hx
      rfl
  fail "go"
  refine k_neW 1 (by decide) (hL.at ⟨5, rfl⟩) (hL.at ⟨0, rfl⟩) .nil ?_
  fail "go"
  obtain ⟨tl, htl, hcut⟩ := rq_cut (ds := G.wds) (m := m) ok.vw
  have hrl := rq_le (ds := G.wds) (m := m)
  have hkb : G.dk.kb ++ G.dk.wb.take m = framesB (G.kds ++ G.wds.take (rq G.wds m)) ++ tl := by
    rw [ok.kb, ok.wb, htl, ← List.append_assoc]
    congr 1
    unfold framesB
    rw [List.flatMap_append]
  have hvn : ∀ d ∈ G.kds ++ G.wds.take (rq G.wds m), isVD d := fun d h => (List.mem_append.mp h).elim (ok.vk d) fun h => ok.vw d (List.mem_of_mem_take h)
  have hL2 : Led H ((PU, .tbl p2) :: (dkL CD G.x G.dx K' W' G.F { G.dk with kb := G.dk.kb ++ G.dk.wb.take m, wb := [], dn := true } ++ ((PN, .tbl p1) :: (PL, .tbl p3) :: (G.d, dD a b c) :: LwR G Z))) := by
    dsimp only [dkL, dkO]
    fail "pm"
  clear hL
  refine ⟨G.x, G.dx, K', W', G.F, _, _, tl, p2, _, rfl, hL2, ok.t2, hkb, fun d h => (vD_pk (hvn d h)).1, by rw [List.length_append, List.length_take]; omega, hcut, fun K2 p2 H ht2 hL => ?_⟩
  clear hL2
  dsimp only at hL
  unfold LwR at hL
  have hL2 : Led H ((G.wl, .lst G.wvs) :: (G.kl, .lst G.kvs) :: (PN, .tbl p1) :: (PU, .tbl p2) :: (PL, .tbl p3) :: (G.d, dD a b c) :: (G.fl, .dK (G.fe.map (kk fvV))) :: (dkL CD G.x G.dx K2 W' G.F { kb := framesB (G.kds ++ List.take (rq G.wds m) G.wds), wb := [], fs := G.dk.fs, sy := G.dk.sy, fu := none, dn := false } ++ Z)) := by fail "pm"
  clear hL
  have hL := hL2
  clear hL2
  refine ⟨_, rfl, ?_⟩
  refine k_lenL2 hL ⟨0, rfl⟩ ?_
  refine ⟨_, _, rfl, rfl, ?_⟩
  have hwl := ok.hw.len
  refine ⟨_, rfl, by omega, by omega, fun D hD => ?_⟩
  have en : ((G.wvs.length : Int) + 1).toNat = G.wds.length + 1 := by omega
  rw [en]
  have hL2 : Led H ((PN, .tbl p1) :: (G.wl, .lst G.wvs) :: (G.kl, .lst G.kvs) :: (PU, .tbl p2) :: (PL, .tbl p3) :: (G.d, dD a b c) :: (G.fl, .dK (G.fe.map (kk fvV))) :: (dkL CD G.x G.dx K2 W' G.F { kb := framesB (G.kds ++ List.take (rq G.wds m) G.wds), wb := [], fs := G.dk.fs, sy := G.dk.sy, fu := none, dn := false } ++ Z)) := by fail "pm"
  clear hL
  have hL := hL2
  clear hL2
  obtain ⟨R, hR⟩ : ∃ R : Lg, R = (G.wl, .lst G.wvs) :: (G.kl, .lst G.kvs) :: (PU, .tbl p2) :: (PL, .tbl p3) :: (G.d, dD a b c) :: (G.fl, .dK (G.fe.map (kk fvV))) :: (dkL CD G.x G.dx K2 W' G.F { kb := framesB (G.kds ++ List.take (rq G.wds m) G.wds), wb := [], fs := G.dk.fs, sy := G.dk.sy, fu := none, dn := false } ++ Z) := ⟨_, rfl⟩
  rw [← hR] at hL
  have hRw : (G.wl, HO.lst G.wvs) ∈ R := by rw [hR]; exact .head _
  have hRz : ∀ x ∈ Z, x ∈ R := fun x h => by rw [hR]; exact .tail _ (.tail _ (.tail _ (.tail _ (.tail _ (.tail _ (List.mem_append_right _ h))))))
  refine lc_range (lo := 0) (n := G.wds.length + 1) (fun i H => Hold (∃ ps : Array Value, TriplesOk ps.toList ∧ Led H ((D, .lst ((List.range (min i (rq G.wds m + 1))).map fun k : Nat => V.int (k : Int))) :: (PN, .tbl ps) :: R))) ?_ ?_ ?_
  · exact .mk ⟨p1, ht1, hL.new hD⟩
  · clear hL hD ht1
    intro j H hj h
    obtain ⟨ps, ht1, hL⟩ := h.out
    clear h
    refine ⟨rfl, ?_⟩
    rw [Int.zero_add]
    refine ⟨_, rfl, ?_⟩
    refine ⟨_, rfl, ?_⟩
    refine ⟨_, rfl, ?_⟩
    refine ⟨_, _, rfl, .of (hL.mem (.tail _ (.tail _ hRw))), fun s hs => ?_⟩
    rw [cutT (show j ≤ G.wvs.length by omega)]
    generalize hH : upd H s _ = H
    replace hL := Led.newH hL hs hH
    clear hH hs
    have hjl : (framesB (G.wds.take j)).length ≤ 28 * j := by
      have := frames_len (ds := G.wds.take j) fun d h => ok.vw d (List.mem_of_mem_take h)
      rw [List.length_take, Nat.min_eq_left (by omega)] at this
      exact this
    refine ⟨s, G.wvs.take j, G.wds.take j, ps, (s, .lst (G.wvs.take j)) :: (D, .lst ((List.range (min j (rq G.wds m + 1))).map fun k : Nat => V.int (k : Int))) :: R, rfl, by fail "pm", ht1, .head _, (ok.hw.mono (fun x h => .tail _ (.tail _ (hRz x h)))).take j, fun d h => (vD_pk (ok.vw d (List.mem_of_mem_take h))).1, by omega, fun r ps H ht1 hL => ?_⟩
    refine k_lenT2 hL ⟨0, rfl⟩ ?_
    refine ⟨_, rfl, ?_⟩
    refine ⟨_, _, rfl, rfl, ?_⟩
    have hiff := rq_iff (ds := G.wds) (m := m) (k := j) (by omega)
    rw [List.length_map]
    refine ⟨_, rfl, ?_⟩
    refine ite_d (fun q => ?_) fun q => ?_
    · have hjq : j ≤ rq G.wds m := hiff.mp (by omega)
      refine ⟨_, rfl, _, hL.at ⟨3, rfl⟩, by rw [List.length_map, List.length_range]; omega, ?_⟩
      generalize hH : upd H _ _ = H
      replace hL := hL.upU ⟨3, rfl, rfl⟩ hH
      dsimp only [List.set] at hL
      refine .mk ⟨ps, ht1, ?_⟩
      rw [Nat.min_eq_left (by omega), List.range_succ, List.map_append]
      rw [Nat.min_eq_left (by omega)] at hL
      exact hL.tail.le (fun a_ => by simp only [cnt_cons, List.map_cons, List.map_nil]; omega)
    · have hjq : ¬ j ≤ rq G.wds m := fun z => q (by have := hiff.mpr z; omega)
      refine .mk ⟨ps, ht1, ?_⟩
      rw [Nat.min_eq_right (by omega)]
      rw [Nat.min_eq_right (by omega)] at hL
      fail "pm"
  · clear hL hD ht1
    intro H h
    obtain ⟨ps, ht1, hL⟩ := h.out
    clear h
    rw [Nat.min_eq_right (by omega)] at hL
    obtain ⟨R2, hR2⟩ : ∃ R : Lg, R = (PU, .tbl p2) :: (PL, .tbl p3) :: (G.d, dD a b c) :: (G.fl, .dK (G.fe.map (kk fvV))) :: (dkL CD G.x G.dx K2 W' G.F { kb := framesB (G.kds ++ List.take (rq G.wds m) G.wds), wb := [], fs := G.dk.fs, sy := G.dk.sy, fu := none, dn := false } ++ Z) := ⟨_, rfl⟩
    rw [hR, ← hR2] at hL
    clear hR hRw hRz
    refine (show gName 16 (.ref D) _ _ _ from ?_)
    refine ⟨_, rfl, ?_⟩
    refine ⟨_, rfl, ?_⟩
    refine ⟨_, rfl, ?_⟩
    refine ⟨_, rfl, ?_⟩
    refine k_lenL2 hL ⟨0, rfl⟩ ?_
    refine ⟨_, _, rfl, rfl, ?_⟩
    have ert : atI ((List.range (rq G.wds m + 1)).map fun k : Nat => V.int (k : Int)) ((((List.range (rq G.wds m + 1)).map fun k : Nat => V.int (k : Int)).length : Int) - 1) = some (.int (rq G.wds m : Nat)) := by
      rw [List.length_map, List.length_range, show ((rq G.wds m + 1 : Nat) : Int) - 1 = (rq G.wds m : Nat) by omega]
      exact atI_nat (by rw [List.getElem?_map, List.getElem?_range (by omega)]; rfl)
    refine k_ixL hL ⟨0, rfl⟩ ert ?_
    refine ⟨_, rfl, ?_⟩
    refine ⟨_, _, rfl, .of (hL.at ⟨2, rfl⟩), fun s hs => ?_⟩
    rw [cutT (show rq G.wds m ≤ G.wvs.length by omega)]
    generalize hH : upd H s _ = H
    replace hL := Led.newH hL hs hH
    clear hH hs
    have hkl := ok.hk.len
    refine k_cat hL ⟨4, rfl⟩ ⟨0, rfl⟩ (by rw [List.length_take]; omega) fun kl2 hkl2 => ?_
    generalize hH : upd H kl2 _ = H
    replace hL := Led.newH hL hkl2 hH
    clear hH hkl2
    fail "go"
    refine k { G with K := K2, W := W', dk := { kb := framesB (G.kds ++ List.take (rq G.wds m) G.wds), wb := [], fs := G.dk.fs, sy := G.dk.sy, fu := none, dn := false }, kl := kl2, wl := _, kvs := G.kvs ++ List.take (rq G.wds m) G.wvs, wvs := [], kds := G.kds ++ G.wds.take (rq G.wds m), wds := [] } ps p2 p3 a b c Z _ H ⟨rfl, rfl, fun x h => h⟩ ⟨_, _, _, _, _, _, _, rfl⟩
      ⟨rfl, rfl, ok.hk.app (ok.hw.take _), .nil, hvn, fun d h => (nomatch h), by show (G.kds ++ G.wds.take (rq G.wds m)).length + 0 ≤ i; rw [List.length_append, List.length_take]; omega, ok.fn, ok.fs, ok.en, ok.es, ok.fr, ht1, ht2, ok.t3⟩ rfl ?_
    rw [hR2] at hL
    unfold LwL LwR
    fail "pm"
end
end Sd


/-! plain data of a ledger as the comparisons' data -/
namespace Sd
open PySem PySem.Spec PyProof.Rows L2
mutual
def pyD : Dv → PyData
  | .non => .none
  | .bl b => .bool b
  | .int i => .int i
  | .str s => .str s
  | .row ds => .tuple (pyDs ds)
def pyDs : List Dv → List PyData
  | [] => []
  | d :: r => pyD d :: pyDs r
end
theorem pyDs_map : ∀ {ds : List Dv}, pyDs ds = ds.map pyD
  | [] => by rw [pyDs, List.map_nil]
  | d :: r => by rw [pyDs, List.map_cons, pyDs_map]
mutual
theorem pyD_plain : ∀ d : Dv, (pyD d).plain = true
  | .non => by rw [pyD]; rfl
  | .bl b => by rw [pyD]; rfl
  | .int i => by rw [pyD]; rfl
  | .str s => by rw [pyD]; rfl
  | .row ds => by rw [pyD, PyData.plain]; exact pyDs_plain ds
theorem pyDs_plain : ∀ ds : List Dv, PyData.plainAll (pyDs ds) = true
  | [] => by rw [pyDs]; simp [PyData.plainAll]
  | d :: r => by rw [pyDs, PyData.plainAll, pyD_plain d, pyDs_plain r]; rfl
end
mutual
theorem pyD_depth : ∀ d : Dv, (pyD d).depth = deep d
  | .non => by simp [pyD, deep, PyData.depth]
  | .bl b => by simp [pyD, deep, PyData.depth]
  | .int i => by simp [pyD, deep, PyData.depth]
  | .str s => by simp [pyD, deep, PyData.depth]
  | .row ds => by rw [pyD, PyData.depth, deep, pyDs_depth ds]
theorem pyDs_depth : ∀ ds : List Dv, PyData.depthAll (pyDs ds) = deeps ds
  | [] => by rw [pyDs, deeps]; simp [PyData.depthAll]
  | d :: r => by rw [pyDs, deeps, PyData.depthAll, pyD_depth d, pyDs_depth r]
end
section
variable {K : PySem.W.Frag} {H : Hp} {L Z : Lg}
mutual
theorem DL.dp (hL : Led H L) (s : ∀ x ∈ Z, x ∈ L) : ∀ {v : V} {d : Dv}, DL Z v d → Dp K H v (pyD d)
  | _, _, .non => by rw [pyD]; exact .non
  | _, _, .bl b => by rw [pyD]; exact .bl b
  | _, _, .int i => by rw [pyD]; exact .int i
  | _, _, .str x => by rw [pyD]; exact .str x
  | _, _, .row h h1 => by rw [pyD]; exact .tup (.of (hL.mem (s _ h))) (DLs.dp hL s h1)
theorem DLs.dp (hL : Led H L) (s : ∀ x ∈ Z, x ∈ L) : ∀ {v : List V} {d : List Dv}, DLs Z v d → DpAll K H v (pyDs d)
  | _, _, .nil => by rw [pyDs]; exact .nil
  | _, _, .cons h h1 => by rw [pyDs]; exact .cons (DL.dp hL s h) (DLs.dp hL s h1)
end
end
theorem deeps_le {n : Nat} : ∀ {ds : List Dv}, (∀ d ∈ ds, deep d ≤ n) → deeps ds ≤ n
  | [], _ => by rw [deeps]; exact Nat.zero_le _
  | d :: r, h => by rw [deeps]; exact Nat.max_le.mpr ⟨h d (.head _), deeps_le fun d hd => h d (.tail _ hd)⟩
theorem shal_D {d : Dv} (h : deep d ≤ 60) : Shal (pyD d) := ⟨pyD_plain d, by rw [pyD_depth]; exact h⟩
theorem shal_Ds {ds : List Dv} (h : ∀ d ∈ ds, deep d ≤ 59) : Shal (.list (pyDs ds)) :=
  ⟨by rw [PyData.plain]; exact pyDs_plain ds, by rw [PyData.depth, pyDs_depth]; have := deeps_le h; omega⟩
theorem shal_Dt {ds : List Dv} (h : ∀ d ∈ ds, deep d ≤ 59) : Shal (.tuple (pyDs ds)) :=
  ⟨by rw [PyData.plain]; exact pyDs_plain ds, by rw [PyData.depth, pyDs_depth]; have := deeps_le h; omega⟩
theorem shal_tupI {ns : List Int} : Shal (.tuple (ns.map PyData.int)) := by
  have := shal_ints (ns := ns)
  exact ⟨by have := this.p; simpa [PyData.plain] using this, by have := this.d; simpa [PyData.depth] using this⟩
/-- a value, or None -/
def pyO : Option Dv → PyData
  | none => .none
  | some d => pyD d
theorem pe_mkN {X : Cx} {k j : Nat} {x : Str} {C : Addr} {sp : Sp} {dvs : List V} {p pos : Pos} (c : C8.Mak X.prog X.w X.K X.mg X.base k x C sp dvs) (hr : Room j X.A) (hk : k + 1 ≤ j) (hg : Gl X x) (hdb : (x == ("__debug__" : Str)) = false := by decide) : PE X (.Call (.Name x p) [] [] pos) (tMake C sp dvs C8.E0 tNil) := by
  obtain ⟨f, fd, ps, ds, M, F, hm, b, d⟩ := c.ex
  exact pe_make0 M F (hr.mono hk) hg hm b d C8.pass0 hdb
end Sd


set_option linter.unusedVariables false
namespace Sd
open PySem PySem.Spec PyProof.Rows L2 LamX
open C8 (Cal Met Mak pe_c pe_mk pe_mt pe_mt0 pss_cut tCut)
set_option linter.unusedSimpArgs false
set_option pp.deepTerms false
set_option pp.deepTerms.threshold 12
set_option hygiene false
local macro_rules | `(tactic| fail "nd") => `(tactic| first | assumption | decide +kernel)
local macro_rules | `(tactic| fail "ix") => `(tactic| first | exact ⟨0, rfl⟩ | exact ⟨1, rfl⟩ | exact ⟨2, rfl⟩ | exact ⟨3, rfl⟩ | exact ⟨4, rfl⟩ | exact ⟨5, rfl⟩ | exact ⟨6, rfl⟩ | exact ⟨7, rfl⟩ | exact ⟨8, rfl⟩ | exact ⟨9, rfl⟩ | exact ⟨10, rfl⟩ | exact ⟨11, rfl⟩ | exact ⟨12, rfl⟩ | exact ⟨13, rfl⟩ | exact ⟨14, rfl⟩ | exact ⟨15, rfl⟩ | exact ⟨16, rfl⟩ | exact ⟨17, rfl⟩ | exact ⟨18, rfl⟩ | assumption)
local macro_rules | `(tactic| fail "up") => `(tactic| first | exact ⟨0, rfl, rfl⟩ | exact ⟨1, rfl, rfl⟩ | exact ⟨2, rfl, rfl⟩ | exact ⟨3, rfl, rfl⟩ | exact ⟨4, rfl, rfl⟩ | exact ⟨5, rfl, rfl⟩ | exact ⟨6, rfl, rfl⟩ | exact ⟨7, rfl, rfl⟩ | exact ⟨8, rfl, rfl⟩ | exact ⟨9, rfl, rfl⟩ | exact ⟨10, rfl, rfl⟩ | exact ⟨11, rfl, rfl⟩ | exact ⟨12, rfl, rfl⟩ | exact ⟨13, rfl, rfl⟩ | exact ⟨14, rfl, rfl⟩ | exact ⟨15, rfl, rfl⟩ | exact ⟨16, rfl, rfl⟩ | assumption)
local macro_rules | `(tactic| fail "lkF") => `(tactic| first | assumption | exact fz_at 0 (by fail "nd") rfl rfl | exact fz_at 1 (by fail "nd") rfl rfl | exact fz_at 2 (by fail "nd") rfl rfl | exact fz_at 3 (by fail "nd") rfl rfl | exact fz_at 4 (by fail "nd") rfl rfl | exact fz_at 5 (by fail "nd") rfl rfl | exact fz_at 6 (by fail "nd") rfl rfl | exact fz_at 7 (by fail "nd") rfl rfl)
local macro_rules | `(tactic| fail "lkD") => `(tactic| first | assumption | exact dz_at 0 (by fail "nd") rfl rfl | exact dz_at 1 (by fail "nd") rfl rfl | exact dz_at 2 (by fail "nd") rfl rfl | exact dz_at 3 (by fail "nd") rfl rfl | exact dz_at 4 (by fail "nd") rfl rfl)
local macro_rules | `(tactic| fail "ptF") => `(tactic| first | assumption | exact fz_put 0 (by fail "nd") rfl (Nat.le_of_ble_eq_true rfl) | exact fz_put 1 (by fail "nd") rfl (Nat.le_of_ble_eq_true rfl) | exact fz_put 2 (by fail "nd") rfl (Nat.le_of_ble_eq_true rfl) | exact fz_put 3 (by fail "nd") rfl (Nat.le_of_ble_eq_true rfl) | exact fz_put 4 (by fail "nd") rfl (Nat.le_of_ble_eq_true rfl) | exact fz_put 5 (by fail "nd") rfl (Nat.le_of_ble_eq_true rfl) | exact fz_put 6 (by fail "nd") rfl (Nat.le_of_ble_eq_true rfl) | exact fz_put 7 (by fail "nd") rfl (Nat.le_of_ble_eq_true rfl) | exact fz_new (by decide +kernel) rfl)
local macro_rules | `(tactic| fail "ptD") => `(tactic| first | assumption | exact dz_put 0 (by fail "nd") rfl (Nat.le_of_ble_eq_true rfl) | exact dz_put 1 (by fail "nd") rfl (Nat.le_of_ble_eq_true rfl) | exact dz_put 2 (by fail "nd") rfl (Nat.le_of_ble_eq_true rfl) | exact dz_put 3 (by fail "nd") rfl (Nat.le_of_ble_eq_true rfl) | exact dz_put 4 (by fail "nd") rfl (Nat.le_of_ble_eq_true rfl))
local macro_rules | `(tactic| fail "sz") => `(tactic| first | assumption | exact (Nat.le_of_ble_eq_true rfl) | omega | decide)
local macro_rules | `(tactic| fail "sd") => `(tactic| first | rfl | assumption | decide | omega | (dsimp only; first | decide | omega) | exact .inr ⟨by decide, by decide⟩ | exact .inl ⟨by decide, by decide⟩ | exact ⟨by omega, by omega⟩ | exact .inl ⟨by omega, by omega⟩ | exact .inr ⟨by omega, by omega⟩ | exact ⟨by omega, by omega, by omega⟩)
local macro_rules | `(tactic| fail "cl") => `(tactic| (clear hH; dsimp only [List.set, List.cons_append, List.nil_append, List.append] at hL))
local macro_rules | `(tactic| fail "gn") => `(tactic| (intro p hp; generalize hH : upd H p _ = H; replace hL := Led.newH hL hp hH; clear hH hp))
local macro_rules | `(tactic| fail "gup") => `(tactic| (generalize hH : upd H _ _ = H; replace hL := Led.upU hL (by fail "up") hH; fail "cl"))
local macro_rules | `(tactic| fail "gmk") => `(tactic| (intro x dx hx hd ne; generalize hH : upd (upd H dx _) x _ = H; replace hL := Led.made hL hx hd ne hH; clear hH hx hd ne))
local macro_rules | `(tactic| fail "v") => `(tactic| refine ⟨_, rfl, ?_⟩)
local macro_rules | `(tactic| fail "i2") => `(tactic| refine ⟨_, _, rfl, rfl, ?_⟩)
local macro_rules | `(tactic| fail "go1") => `(tactic| first
  | refine ⟨_, rfl, ?_⟩
  | refine ⟨_, _, rfl, rfl, ?_⟩
  | refine ⟨_, _, rfl, ?_⟩
  | refine iteT ?_
  | refine iteF ?_
  | refine k_fld hL (by fail "ix") (by assumption) (by assumption) (by fail "lkF") ?_
  | refine k_dgetS hL (by fail "ix") (by fail "lkD") ?_
  | refine k_dgetI hL (by fail "ix") (by assumption) ?_
  | refine k_ixL hL (by fail "ix") (by first | rfl | assumption) ?_
  | refine k_ixT hL (by fail "ix") (by first | rfl | assumption) ?_
  | refine k_tyL hL (by fail "ix") ?_
  | refine k_isd hL (by fail "ix") ?_
  | (refine And.intro (by fail "sz") ?_; fail "gn")
  | refine And.intro (by fail "sd") ?_
  | fail "gn"
  | refine k_meth hL (by fail "ix") (by first | assumption | exact fz_no (by decide +kernel)) ?_
  | refine k_gtup hL (by fail "ix") rfl ?_
  | (refine k_popI hL (by fail "ix") (by assumption) ?_; fail "gup")
  | (refine k_listD hL (by fail "ix") ?_; fail "gn")
  | (refine ⟨_, _, _, _, rfl, rfl, hL.at (by fail "ix"), rfl, ?_⟩; fail "gup")
  | (refine ⟨_, _, _, rfl, rfl, hL.at (by fail "ix"), (by fail "sz"), ?_⟩; fail "gup")
  | (refine ⟨_, _, _, _, rfl, hL.at (by fail "ix"), by assumption, by assumption, Nat.lt_of_le_of_lt fz_len (by decide), ?_⟩; generalize hH : upd H _ _ = H; replace hL := Led.upF hL (by fail "up") (by fail "ptF") hH; fail "cl")
  | (refine ⟨_, _, hL.at (by fail "ix"), Nat.lt_of_le_of_lt fz_len (by decide), ?_⟩; generalize hH : upd H _ _ = H; replace hL := Led.upF hL (by fail "up") (by fail "ptF") hH; fail "cl")
  | (refine k_dputS hL (by fail "ix") (Nat.lt_of_le_of_lt dz_len (by decide)) (by fail "ptD") (by fail "up") ?_; clear hL; intro H hL; dsimp only [List.set, List.cons_append, List.nil_append, List.append] at hL)
  | refine k_lenL2 hL (by fail "ix") ?_
  | refine k_lenT2 hL (by fail "ix") ?_
  | refine .inl ⟨_, rfl, ?_⟩
  | refine .inr ⟨_, rfl, ?_⟩)
local macro_rules | `(tactic| fail "go") => `(tactic| repeat fail "go1")
local macro_rules | `(tactic| fail "pm") => `(tactic| (refine Led.le hL (fun a_ => ?_); simp only [cnt_nil, cnt_cons, cnt_app, List.map_append, List.map_cons, List.map_nil, List.flatMap_append, List.flatMap_cons, List.flatMap_nil, List.append_assoc, List.cons_append, List.nil_append]; omega))

theorem shal_vs {ds : List Dv} (h : ∀ d ∈ ds, isVD d) : Shal (.list (pyDs ds)) := shal_Ds fun d hd => by
  obtain ⟨n, k, _, _, rfl⟩ := h d hd
  simp [vD, deep, deeps]
theorem DLo.dp {K : PySem.W.Frag} {H : Hp} {L Z : Lg} {v : V} {od : Option Dv} (hL : Led H L) (s : ∀ x ∈ Z, x ∈ L) (h : DLo Z v od) : Dp K H v (pyO od) := by
  cases od with
  | none => obtain rfl := (show v = .non from h); exact .non
  | some d => exact DL.dp hL s h
theorem shal_fil {n : Nat} {o : Option (Addr × List Int)} {od : Option Dv} (h : FilOk n o od) : Shal (pyO od) := by
  cases od with
  | none => exact shal_D (d := .non) (by simp [deep])
  | some d =>
    cases o with
    | none => exact h.elim
    | some e => exact shal_D (by have := h.2.2.1; omega)
/-- the check behind a crash -/
def tChk2 (CD PN PU PL : Addr) (q : Str) : TS := fun D σ H => ∃ (i : Nat) (G : LwS) (p1 p2 p3 : Array Value) (a b c : Int) (Z : Lg) (so : Int) (v11 v12 : Option V), ShL G G.dk.fu G.dk.dn (some (.int so)) v11 v12 σ ∧ LwOk i q G p1 p2 p3 Z ∧ i ≤ 41 ∧ (so = 7 → G.dk.dn = false) ∧
  Led H (LwL CD PN PU PL G p1 p2 p3 a b c Z) ∧ ∀ p1' H', TriplesOk p1'.toList → Led H' (LwL CD PN PU PL G p1' p2 p3 a b c Z) → D.nx σ H'
/-- the check of the records -/
def tChk3 (CD PN PU PL : Addr) (q : Str) : TS := fun D σ H => ∃ (i : Nat) (G : LwS) (p1 p2 p3 : Array Value) (a b c : Int) (Z : Lg) (v10 v11 v12 : Option V), ShL G G.dk.fu G.dk.dn v10 v11 v12 σ ∧ LwOk i q G p1 p2 p3 Z ∧ i ≤ 41 ∧
  Led H (LwL CD PN PU PL G p1 p2 p3 a b c Z) ∧ ∀ p2' H', TriplesOk p2'.toList → Led H' (LwL CD PN PU PL G p1 p2' p3 a b c Z) → D.nx σ H'
section
variable {P : Program} {w : World} {K : PySem.W.Frag} {mg : Str → Option Value} {base : Heap} {CD CE PN PU : Addr} {f cL PL : Addr} {A : Around} {outer : List Env} {s0 : Shared} {H0 : Hp} {E : XK}
theorem st_chk2 (hr : Room 18 (LX P w K mg base f (.ref cL) A outer s0 H0 E).A) (X : TxtDk K CD) (c__law_bytes : Cal P w K mg base 9 "_law_bytes" (spLBytes PN 2) []) :
    PS (LX P w K mg base f (.ref cL) A outer s0 H0 E) (nth stepB 2) (tChk2 CD PN PU PL ((LX P w K mg base f (.ref cL) A outer s0 H0 E).env.qual ++ "<lambda>")) := by
  refine ps_imp (t := _) (ps_if (PW.pt (pw_and (pt_cmpR op_eq (pv 10) pe_int (nomark _)) (pw_and1 (PW.pt (pw_or (pt_cmpR (op_neP hr.units) (pe_fld (pv 2) rfl) (pe_c c__law_bytes hr (by decide) (by rfl) (pa_cons (pv 3) pa_nil)) (nomark _)) (pw_or1 (pt_val (pe_fld (pv 2) rfl))))))))
  (pss_one (ps_ret pe_bl))
  pss_nil) ?_
  rintro D σ H ⟨i, G, p1, p2, p3, a, b, c, Z, so, v11, v12, ⟨v0, v9, v13, v14, v15, v16, v17, rfl⟩, ok, hi, hd, hL, k⟩
  have c1 := X.cl
  have f1 := X.n "kept" (by decide +kernel)
  have f6 := X.n "down" (by decide +kernel)
  fail "go"
  refine ite_d (fun q => ?_) fun q => ?_
  · have e7 : so = 7 := V.int.inj q
    have hdn := hd e7
    obtain ⟨R, hR⟩ : ∃ R : Lg, R = (PU, .tbl p2) :: (PL, .tbl p3) :: (G.d, dD a b c) :: (G.W, tI G.dk.wb) :: (G.F, .dK (G.dk.fs.map (kk filV))) :: (G.dk.fs.map filO ++ LwR G Z) := ⟨_, rfl⟩
    have hL2 : Led H ((PN, .tbl p1) :: (G.x, HO.ins CD G.dx (fz nmD [.ref G.K, .ref G.W, .ref G.F, .int G.dk.sy, fuV G.dk.fu, .bl G.dk.dn])) :: (G.K, tI G.dk.kb) :: R) := by
      rw [hR]
      unfold LwL dkL dkO at hL
      fail "pm"
    have hRk : (G.kl, HO.lst G.kvs) ∈ R := by rw [hR]; exact .tail _ (.tail _ (.tail _ (.tail _ (.tail _ (List.mem_append_right _ (.head _))))))
    have hRz : ∀ x ∈ Z, x ∈ R := fun x h => by rw [hR]; exact .tail _ (.tail _ (.tail _ (.tail _ (.tail _ (List.mem_append_right _ (.tail _ (.tail _ (.tail _ h))))))))
    clear hL
    have hL := hL2
    clear hL2
    have hz2 := frames_len ok.vk
    have hz3 := ok.len
    have hzL : 3000 ≤ sizeLine := by decide
    fail "go"
    refine ⟨G.kl, G.kvs, G.kds, p1, _, rfl, hL, ok.t1, .tail _ (.tail _ hRk), ok.hk.mono (fun x h => .tail _ (.tail _ (hRz x h))), fun d h => (vD_pk (ok.vk d h)).1, by omega, fun r p1 H ht1 hL => ?_⟩
    refine k_neSame (dp_tup (hL.at ⟨3, rfl⟩) dp_ints) (by rw [ok.kb]; exact dp_tup (hL.at ⟨0, rfl⟩) dp_ints) shal_tupI ?_
    fail "go"
    rw [hdn] at hL k ⊢
    fail "go"
    refine k p1 H ht1 ?_
    rw [hR, ← hdn] at hL
    unfold LwL dkL dkO
    fail "pm"
  · fail "go"
    exact k p1 H ok.t1 hL
theorem st_chk3 (hr : Room 18 (LX P w K mg base f (.ref cL) A outer s0 H0 E).A) (T : TxtG mg) (X : TxtDk K CD) (c_Disk_records : Met P w K mg base 17 CD "records" (spRecs CD PU 2) []) :
    PS (LX P w K mg base f (.ref cL) A outer s0 H0 E) (nth stepB 3) (tChk3 CD PN PU PL ((LX P w K mg base f (.ref cL) A outer s0 H0 E).env.qual ++ "<lambda>")) := by
  refine ps_imp (t := _) (ps_if (PW.pt (pw_or (pt_cmpR (op_neP hr.units) (pe_callTy call_list_of (by rfl) T.list (by decide +kernel) (pa_cons (pe_mt0 c_Disk_records hr (by decide) (pv 2)) pa_nil)) (pe_op op_cat (pv 3) (pv 4)) (nomark _)) (pw_or1 (pt_cmpR (op_neP hr.units) (pe_tup (pa_cons (pe_fld (pv 2) rfl) (pa_cons (pe_fld (pv 2) rfl) pa_nil))) (pe_tup (pa_cons (pv 7) (pa_cons (pv 8) pa_nil))) (nomark _)))))
  (pss_one (ps_ret pe_bl))
  pss_nil) ?_
  rintro D σ H ⟨i, G, p1, p2, p3, a, b, c, Z, v10, v11, v12, ⟨v0, v9, v13, v14, v15, v16, v17, rfl⟩, ok, hi, hL, k⟩
  have c1 := X.cl
  have f1 := X.n "kept" (by decide +kernel)
  have f6 := X.n "down" (by decide +kernel)
  have f4 := X.n "syncs" (by decide +kernel)
  have hz1 := frames_len ok.vw
  have hz2 := frames_len ok.vk
  have hz3 := ok.len
  have hzL : 3000 ≤ sizeLine := by decide
  have hvv : ∀ d ∈ G.kds ++ G.wds, isVD d := fun d h => (List.mem_append.mp h).elim (ok.vk d) (ok.vw d)
  obtain ⟨R, hR⟩ : ∃ R : Lg, R = (PN, .tbl p1) :: (PL, .tbl p3) :: (G.d, dD a b c) :: (G.fl, .dK (G.fe.map (kk fvV))) :: Z := ⟨_, rfl⟩
  have hL2 : Led H ((PU, .tbl p2) :: (dkL CD G.x G.dx G.K G.W G.F G.dk ++ ((G.kl, .lst G.kvs) :: (G.wl, .lst G.wvs) :: R))) := by
    rw [hR]
    unfold LwL LwR at hL
    fail "pm"
  have hRz : ∀ x ∈ Z, x ∈ R := fun x h => by rw [hR]; exact .tail _ (.tail _ (.tail _ (.tail _ h)))
  clear hL
  have hL := hL2
  clear hL2
  have hL0 := hL
  dsimp only [dkL, dkO, List.cons_append] at hL0
  fail "go"
  clear hL0
  refine ⟨G.x, G.dx, G.K, G.W, G.F, G.dk, G.kds ++ G.wds, [], p2, _, rfl, hL, ok.t2, by rw [ok.kb, ok.wb]; unfold framesB; rw [List.flatMap_append, List.append_nil], by rw [ok.kb, ok.wb]; omega, fun d h => (vD_pk (hvv d h)).1, by rw [List.length_append]; omega, .inl (by decide), fun l vs Z2 p2 H ht2 hvs hL => ?_⟩
  refine ⟨l, vs, rfl, .inl (.of (hL.at ⟨0, rfl⟩)), fun l2 hl2 => ?_⟩
  generalize hH : upd H l2 _ = H
  replace hL := Led.newH hL hl2 hH
  clear hH hl2
  have hL3 : Led H ((G.kl, .lst G.kvs) :: (G.wl, .lst G.wvs) :: (G.x, HO.ins CD G.dx (fz nmD [.ref G.K, .ref G.W, .ref G.F, .int G.dk.sy, fuV G.dk.fu, .bl G.dk.dn])) :: (l2, .lst vs) :: (PU, .tbl p2) :: (G.K, tI G.dk.kb) :: (G.W, tI G.dk.wb) :: (G.F, .dK (G.dk.fs.map (kk filV))) :: (G.dk.fs.map filO ++ (Z2 ++ R))) := by
    unfold dkL dkO at hL
    fail "pm"
  clear hL
  have hL := hL3
  clear hL3
  refine ⟨_, rfl, _, rfl, ?_⟩
  have hkl := ok.hk.len
  have hwl := ok.hw.len
  refine k_cat hL ⟨0, rfl⟩ ⟨1, rfl⟩ (by omega) fun l3 hl3 => ?_
  generalize hH : upd H l3 _ = H
  replace hL := Led.newH hL hl3 hH
  clear hH hl3
  have m1 : ∀ x ∈ Z2, x ∈ (l3, HO.lst (G.kvs ++ G.wvs)) :: (G.kl, .lst G.kvs) :: (G.wl, .lst G.wvs) :: (G.x, HO.ins CD G.dx (fz nmD [.ref G.K, .ref G.W, .ref G.F, .int G.dk.sy, fuV G.dk.fu, .bl G.dk.dn])) :: (l2, .lst vs) :: (PU, .tbl p2) :: (G.K, tI G.dk.kb) :: (G.W, tI G.dk.wb) :: (G.F, .dK (G.dk.fs.map (kk filV))) :: (G.dk.fs.map filO ++ (Z2 ++ R)) :=
    fun x h => .tail _ (.tail _ (.tail _ (.tail _ (.tail _ (.tail _ (.tail _ (.tail _ (.tail _ (List.mem_append_right _ (List.mem_append_left _ h))))))))))
  have m2 : ∀ x ∈ Z, x ∈ (l3, HO.lst (G.kvs ++ G.wvs)) :: (G.kl, .lst G.kvs) :: (G.wl, .lst G.wvs) :: (G.x, HO.ins CD G.dx (fz nmD [.ref G.K, .ref G.W, .ref G.F, .int G.dk.sy, fuV G.dk.fu, .bl G.dk.dn])) :: (l2, .lst vs) :: (PU, .tbl p2) :: (G.K, tI G.dk.kb) :: (G.W, tI G.dk.wb) :: (G.F, .dK (G.dk.fs.map (kk filV))) :: (G.dk.fs.map filO ++ (Z2 ++ R)) :=
    fun x h => .tail _ (.tail _ (.tail _ (.tail _ (.tail _ (.tail _ (.tail _ (.tail _ (.tail _ (List.mem_append_right _ (List.mem_append_right _ (hRz x h)))))))))))
  refine k_neSame (dp_lst (hL.at ⟨4, rfl⟩) (hvs.dp hL m1)) (dp_lst (hL.at ⟨0, rfl⟩) ((ok.hk.app ok.hw).dp hL m2)) (shal_vs hvv) ?_
  fail "go"
  refine k_neSame (d := .tuple [.bool G.dk.dn, .int G.dk.sy]) (dp_tup (hL.at ⟨1, rfl⟩) (.cons (.bl _) (.cons (.int _) .nil))) (dp_tup (hL.at ⟨0, rfl⟩) (.cons (.bl _) (.cons (.int _) .nil))) ⟨by simp [PyData.plain, PyData.plainAll], by simp [PyData.depth, PyData.depthAll]⟩ ?_
  fail "go"
  refine k p2 H ht2 ?_
  rw [hR] at hL
  unfold LwL LwR dkL dkO
  fail "pm"
theorem st_chk4 (hr : Room 18 (LX P w K mg base f (.ref cL) A outer s0 H0 E).A) (X : TxtDk K CD) (c_Disk_read_file : Met P w K mg base 17 CD "read_file" (spRFile CD PU 2) []) :
    PS (LX P w K mg base f (.ref cL) A outer s0 H0 E) (nth stepB 4) (tChk3 CD PN PU PL ((LX P w K mg base f (.ref cL) A outer s0 H0 E).env.qual ++ "<lambda>")) := by
  refine ps_imp (t := _) (ps_if (pt_cmpR (op_neP hr.units) (pe_lc (own := [("name", 12)]) (g := gName 12) (by rfl) scLaw.nd (pi_list (pe_lst (pa_cons pe_str (pa_cons pe_str pa_nil)))) (blkOk_by (own := [("name", 12)]) (N := ["script", "dice", "disk", "kept", "waiting", "files", "fuse", "down", "syncs", "step", "sort", "value", "name", "told_now", "data", "many", "rows", "k"]) (sc := (defScope sLaw)) (by decide +kernel)) (fun _ _ _ _ _ => (pg_name (i := 12) scLaw.nd rfl (Or.inl rfl))) (fun _ _ _ _ _ => (pts_one (pt_cmpR (op_nePB hr.units) (pe_mt c_Disk_read_file hr (by decide) (pv 2) (pa_cons (pv 12) pa_nil)) (pe_dget1 (hu_of hr) (pv 5) (pv 12) ⟨rfl, rfl, rfl, rfl⟩) (nomark _)))) (fun _ _ _ _ _ => (pv 12))) (pe_lst pa_nil) (nomark _))
  (pss_one (ps_ret pe_bl))
  pss_nil) ?_
  rintro D σ H ⟨i, G, p1, p2, p3, a, b, c, Z, v10, v11, v12, ⟨v0, v9, v13, v14, v15, v16, v17, rfl⟩, ok, hi, hL, k⟩
  have c1 := X.cl
  fail "go"
  refine ⟨⟨_, .of (hL.at ⟨0, rfl⟩)⟩, ?_⟩
  obtain ⟨R, hR⟩ : ∃ R : Lg, R = (PN, .tbl p1) :: (PL, .tbl p3) :: (G.d, dD a b c) :: (G.kl, .lst G.kvs) :: (G.wl, .lst G.wvs) :: Z := ⟨_, rfl⟩
  have hRz : ∀ x ∈ Z, x ∈ R := fun x h => by rw [hR]; exact .tail _ (.tail _ (.tail _ (.tail _ (.tail _ h))))
  have hL2 : Led H ((p, .lst [.str "a", .str "b"]) :: (PU, .tbl p2) :: (dkL CD G.x G.dx G.K G.W G.F G.dk ++ ((G.fl, .dK (G.fe.map (kk fvV))) :: R))) := by
    rw [hR]
    unfold LwL LwR at hL
    fail "pm"
  clear hL
  have hL := hL2
  clear hL2
  have hto : ∀ (p2' : Array Value) H', TriplesOk p2'.toList → Led H' ((PU, .tbl p2') :: (dkL CD G.x G.dx G.K G.W G.F G.dk ++ ((G.fl, .dK (G.fe.map (kk fvV))) :: R))) → Led H' (LwL CD PN PU PL G p1 p2' p3 a b c Z) := fun p2' H' _ hL => by
    rw [hR] at hL
    unfold LwL LwR
    fail "pm"
  clear hR
  intro D2 hD
  refine lc_list (K := K) (a := p) (xs := [.str "a", .str "b"]) (fun i H => Hold (∃ ps : Array Value, TriplesOk ps.toList ∧ Led H ((D2, .lst []) :: (p, .lst [.str "a", .str "b"]) :: (PU, .tbl ps) :: (dkL CD G.x G.dx G.K G.W G.F G.dk ++ ((G.fl, .dK (G.fe.map (kk fvV))) :: R))))) (.mk ⟨p2, ok.t2, hL.new hD⟩) ?_ ?_ ?_
  · intro i H _ h
    obtain ⟨ps, _, hL⟩ := h.out
    exact .of (hL.at ⟨1, rfl⟩)
  · clear hL hD
    intro j x H hj h
    obtain ⟨ps, ht, hL⟩ := h.out
    clear h
    obtain ⟨nm, rfl⟩ : ∃ nm : Str, x = .str nm := by
      match j, hj with
      | 0, hj => exact ⟨_, (Option.some.inj hj).symm⟩
      | 1, hj => exact ⟨_, (Option.some.inj hj).symm⟩
    clear hj
    refine ⟨rfl, ?_⟩
    obtain ⟨od, ho1, ho2⟩ := ok.fr nm
    have hL0 := hL
    dsimp only [dkL, dkO, List.cons_append] at hL0
    refine ⟨_, rfl, ?_⟩
    refine k_meth hL0 ⟨3, rfl⟩ (fz_no (by decide +kernel)) ?_
    clear hL0
    refine ⟨_, rfl, ?_⟩
    refine ⟨G.x, G.dx, G.K, G.W, G.F, G.dk, nm, od, ps, (D2, .lst []) :: (p, .lst [.str "a", .str "b"]) :: (G.fl, .dK (G.fe.map (kk fvV))) :: R, rfl, by fail "pm", ht, ho1, fun v Z2 ps H ht hv hL => ?_⟩
    have hL2 : Led H ((G.fl, .dK (G.fe.map (kk fvV))) :: (D2, .lst []) :: (p, .lst [.str "a", .str "b"]) :: (PU, .tbl ps) :: (Z2 ++ (dkL CD G.x G.dx G.K G.W G.F G.dk ++ R))) := by fail "pm"
    clear hL
    have hL := hL2
    clear hL2
    refine ⟨_, rfl, ?_⟩
    refine ⟨_, rfl, ?_⟩
    refine k_isd hL ⟨0, rfl⟩ ?_
    refine ⟨_, rfl, ?_⟩
    refine k_getS hL ⟨0, rfl⟩ ?_
    have ev : (valV (G.fe.map (kk fvV)) (Sum.inr nm)).getD .non = (aget G.fe nm).getD .non := by
      rw [kk_val]
      cases aget G.fe nm <;> rfl
    rw [ev]
    refine k_neSame (DLo.dp hL (fun x h => .tail _ (.tail _ (.tail _ (.tail _ (List.mem_append_left _ h))))) hv) (DLo.dp hL (fun x h => .tail _ (.tail _ (.tail _ (.tail _ (List.mem_append_right _ (List.mem_append_right _ (hRz x h))))))) ho2) (shal_fil ho1) ?_
    refine ⟨_, rfl, ?_⟩
    refine ite_f rfl ?_
    exact .mk ⟨ps, ht, by fail "pm"⟩
  · clear hL hD
    intro H h
    obtain ⟨ps, ht, hL⟩ := h.out
    clear h
    fail "go"
    refine k_neSame (dp_lst (hL.at ⟨1, rfl⟩) .nil) (dp_lst (hL.at ⟨0, rfl⟩) .nil) (shal_ints (ns := [])) ?_
    fail "go"
    refine k ps H ht (hto ps H ht ?_)
    fail "pm"
end
end Sd


set_option linter.unusedVariables false
namespace Sd
open PySem L2 LamX
open C8 (Cal Met Mak pe_c pe_mk pe_mt pe_mt0 pss_cut tCut)
set_option linter.unusedSimpArgs false
set_option pp.deepTerms false
set_option pp.deepTerms.threshold 12
set_option hygiene false
local macro_rules | `(tactic| fail "nd") => `(tactic| first | assumption | decide +kernel)
local macro_rules | `(tactic| fail "ix") => `(tactic| first | exact ⟨0, rfl⟩ | exact ⟨1, rfl⟩ | exact ⟨2, rfl⟩ | exact ⟨3, rfl⟩ | exact ⟨4, rfl⟩ | exact ⟨5, rfl⟩ | exact ⟨6, rfl⟩ | exact ⟨7, rfl⟩ | exact ⟨8, rfl⟩ | exact ⟨9, rfl⟩ | exact ⟨10, rfl⟩ | exact ⟨11, rfl⟩ | exact ⟨12, rfl⟩ | exact ⟨13, rfl⟩ | exact ⟨14, rfl⟩ | exact ⟨15, rfl⟩ | exact ⟨16, rfl⟩ | exact ⟨17, rfl⟩ | exact ⟨18, rfl⟩ | assumption)
local macro_rules | `(tactic| fail "up") => `(tactic| first | exact ⟨0, rfl, rfl⟩ | exact ⟨1, rfl, rfl⟩ | exact ⟨2, rfl, rfl⟩ | exact ⟨3, rfl, rfl⟩ | exact ⟨4, rfl, rfl⟩ | exact ⟨5, rfl, rfl⟩ | exact ⟨6, rfl, rfl⟩ | exact ⟨7, rfl, rfl⟩ | exact ⟨8, rfl, rfl⟩ | exact ⟨9, rfl, rfl⟩ | exact ⟨10, rfl, rfl⟩ | exact ⟨11, rfl, rfl⟩ | exact ⟨12, rfl, rfl⟩ | exact ⟨13, rfl, rfl⟩ | exact ⟨14, rfl, rfl⟩ | exact ⟨15, rfl, rfl⟩ | exact ⟨16, rfl, rfl⟩ | assumption)
local macro_rules | `(tactic| fail "lkF") => `(tactic| first | assumption | exact fz_at 0 (by fail "nd") rfl rfl | exact fz_at 1 (by fail "nd") rfl rfl | exact fz_at 2 (by fail "nd") rfl rfl | exact fz_at 3 (by fail "nd") rfl rfl | exact fz_at 4 (by fail "nd") rfl rfl | exact fz_at 5 (by fail "nd") rfl rfl | exact fz_at 6 (by fail "nd") rfl rfl | exact fz_at 7 (by fail "nd") rfl rfl)
local macro_rules | `(tactic| fail "lkD") => `(tactic| first | assumption | exact dz_at 0 (by fail "nd") rfl rfl | exact dz_at 1 (by fail "nd") rfl rfl | exact dz_at 2 (by fail "nd") rfl rfl | exact dz_at 3 (by fail "nd") rfl rfl | exact dz_at 4 (by fail "nd") rfl rfl)
local macro_rules | `(tactic| fail "ptF") => `(tactic| first | assumption | exact fz_put 0 (by fail "nd") rfl (Nat.le_of_ble_eq_true rfl) | exact fz_put 1 (by fail "nd") rfl (Nat.le_of_ble_eq_true rfl) | exact fz_put 2 (by fail "nd") rfl (Nat.le_of_ble_eq_true rfl) | exact fz_put 3 (by fail "nd") rfl (Nat.le_of_ble_eq_true rfl) | exact fz_put 4 (by fail "nd") rfl (Nat.le_of_ble_eq_true rfl) | exact fz_put 5 (by fail "nd") rfl (Nat.le_of_ble_eq_true rfl) | exact fz_put 6 (by fail "nd") rfl (Nat.le_of_ble_eq_true rfl) | exact fz_put 7 (by fail "nd") rfl (Nat.le_of_ble_eq_true rfl) | exact fz_new (by decide +kernel) rfl)
local macro_rules | `(tactic| fail "ptD") => `(tactic| first | assumption | exact dz_put 0 (by fail "nd") rfl (Nat.le_of_ble_eq_true rfl) | exact dz_put 1 (by fail "nd") rfl (Nat.le_of_ble_eq_true rfl) | exact dz_put 2 (by fail "nd") rfl (Nat.le_of_ble_eq_true rfl) | exact dz_put 3 (by fail "nd") rfl (Nat.le_of_ble_eq_true rfl) | exact dz_put 4 (by fail "nd") rfl (Nat.le_of_ble_eq_true rfl))
local macro_rules | `(tactic| fail "sz") => `(tactic| first | assumption | exact (Nat.le_of_ble_eq_true rfl) | omega | decide)
local macro_rules | `(tactic| fail "sd") => `(tactic| first | rfl | assumption | decide | omega | (dsimp only; first | decide | omega) | exact .inr ⟨by decide, by decide⟩ | exact .inl ⟨by decide, by decide⟩ | exact ⟨by omega, by omega⟩ | exact .inl ⟨by omega, by omega⟩ | exact .inr ⟨by omega, by omega⟩ | exact ⟨by omega, by omega, by omega⟩)
local macro_rules | `(tactic| fail "cl") => `(tactic| (clear hH; dsimp only [List.set, List.cons_append, List.nil_append, List.append] at hL))
local macro_rules | `(tactic| fail "gn") => `(tactic| (intro p hp; generalize hH : upd H p _ = H; replace hL := Led.newH hL hp hH; clear hH hp))
local macro_rules | `(tactic| fail "gup") => `(tactic| (generalize hH : upd H _ _ = H; replace hL := Led.upU hL (by fail "up") hH; fail "cl"))
local macro_rules | `(tactic| fail "gmk") => `(tactic| (intro x dx hx hd ne; generalize hH : upd (upd H dx _) x _ = H; replace hL := Led.made hL hx hd ne hH; clear hH hx hd ne))
local macro_rules | `(tactic| fail "v") => `(tactic| refine ⟨_, rfl, ?_⟩)
local macro_rules | `(tactic| fail "i2") => `(tactic| refine ⟨_, _, rfl, rfl, ?_⟩)
local macro_rules | `(tactic| fail "go1") => `(tactic| first
  | refine ⟨_, rfl, ?_⟩
  | refine ⟨_, _, rfl, rfl, ?_⟩
  | refine ⟨_, _, rfl, ?_⟩
  | refine iteT ?_
  | refine iteF ?_
  | refine k_fld hL (by fail "ix") (by assumption) (by assumption) (by fail "lkF") ?_
  | refine k_dgetS hL (by fail "ix") (by fail "lkD") ?_
  | refine k_dgetI hL (by fail "ix") (by assumption) ?_
  | refine k_ixL hL (by fail "ix") (by first | rfl | assumption) ?_
  | refine k_ixT hL (by fail "ix") (by first | rfl | assumption) ?_
  | refine k_tyL hL (by fail "ix") ?_
  | refine k_isd hL (by fail "ix") ?_
  | (refine And.intro (by fail "sz") ?_; fail "gn")
  | refine And.intro (by fail "sd") ?_
  | fail "gn"
  | refine k_meth hL (by fail "ix") (by first | assumption | exact fz_no (by decide +kernel)) ?_
  | refine k_gtup hL (by fail "ix") rfl ?_
  | (refine k_popI hL (by fail "ix") (by assumption) ?_; fail "gup")
  | (refine k_listD hL (by fail "ix") ?_; fail "gn")
  | (refine ⟨_, _, _, _, rfl, rfl, hL.at (by fail "ix"), rfl, ?_⟩; fail "gup")
  | (refine ⟨_, _, _, rfl, rfl, hL.at (by fail "ix"), (by fail "sz"), ?_⟩; fail "gup")
  | (refine ⟨_, _, _, _, rfl, hL.at (by fail "ix"), by assumption, by assumption, Nat.lt_of_le_of_lt fz_len (by decide), ?_⟩; generalize hH : upd H _ _ = H; replace hL := Led.upF hL (by fail "up") (by fail "ptF") hH; fail "cl")
  | (refine ⟨_, _, hL.at (by fail "ix"), Nat.lt_of_le_of_lt fz_len (by decide), ?_⟩; generalize hH : upd H _ _ = H; replace hL := Led.upF hL (by fail "up") (by fail "ptF") hH; fail "cl")
  | (refine k_dputS hL (by fail "ix") (Nat.lt_of_le_of_lt dz_len (by decide)) (by fail "ptD") (by fail "up") ?_; clear hL; intro H hL; dsimp only [List.set, List.cons_append, List.nil_append, List.append] at hL)
  | refine k_lenL2 hL (by fail "ix") ?_
  | refine k_lenT2 hL (by fail "ix") ?_
  | refine .inl ⟨_, rfl, ?_⟩
  | refine .inr ⟨_, rfl, ?_⟩)
local macro_rules | `(tactic| fail "go") => `(tactic| repeat fail "go1")
local macro_rules | `(tactic| fail "pm") => `(tactic| (refine Led.le hL (fun a_ => ?_); simp only [cnt_nil, cnt_cons, cnt_app, List.map_append, List.map_cons, List.map_nil, List.flatMap_append, List.flatMap_cons, List.flatMap_nil, List.append_assoc, List.cons_append, List.nil_append]; omega))

def tStep (CD PN PU PL : Addr) (q : Str) : TS := fun D σ H => ∃ (i : Nat) (G : LwS) (p1 p2 p3 : Array Value) (a b c : Int) (Z : Lg) (v10 v11 v12 : Option V), ShL G G.dk.fu G.dk.dn v10 v11 v12 σ ∧ LwOk i q G p1 p2 p3 Z ∧ i ≤ 40 ∧
  Led H (LwL CD PN PU PL G p1 p2 p3 a b c Z) ∧
  ∀ (G' : LwS) (p1' p2' p3' : Array Value) (a' b' c' : Int) (Z' : Lg) (v10 v11 v12 : Option V) σ' H', SameW G G' Z Z' → ShL G' G'.dk.fu G'.dk.dn v10 v11 v12 σ' → LwOk (i + 1) q G' p1' p2' p3' Z' → Led H' (LwL CD PN PU PL G' p1' p2' p3' a' b' c' Z') → D.nx σ' H'
section
variable {P : Program} {w : World} {K : PySem.W.Frag} {mg : Str → Option Value} {base : Heap} {CD CE PN PU : Addr} {f cL PL : Addr} {A : Around} {outer : List Env} {s0 : Shared} {H0 : Hp} {E : XK}
theorem st_step (hr : Room 18 (LX P w K mg base f (.ref cL) A outer s0 H0 E).A) (c__law_roll : Cal P w K mg base 1 "_law_roll" spRoll []) (c_Disk_arm : Met P w K mg base 1 CD "arm" (spArm CD) [])
    (h_val : PS (LX P w K mg base f (.ref cL) A outer s0 H0 E) (nth stepB 0) tVal)
    (h_deed : PSs (LX P w K mg base f (.ref cL) A outer s0 H0 E) deedB (tDeed CD PN PU PL ((LX P w K mg base f (.ref cL) A outer s0 H0 E).env.qual ++ "<lambda>")))
    (h_fall : PSs (LX P w K mg base f (.ref cL) A outer s0 H0 E) fallB (tFall CD PN PU PL ((LX P w K mg base f (.ref cL) A outer s0 H0 E).env.qual ++ "<lambda>")))
    (h2 : PS (LX P w K mg base f (.ref cL) A outer s0 H0 E) (nth stepB 2) (tChk2 CD PN PU PL ((LX P w K mg base f (.ref cL) A outer s0 H0 E).env.qual ++ "<lambda>")))
    (h3 : PS (LX P w K mg base f (.ref cL) A outer s0 H0 E) (nth stepB 3) (tChk3 CD PN PU PL ((LX P w K mg base f (.ref cL) A outer s0 H0 E).env.qual ++ "<lambda>")))
    (h4 : PS (LX P w K mg base f (.ref cL) A outer s0 H0 E) (nth stepB 4) (tChk3 CD PN PU PL ((LX P w K mg base f (.ref cL) A outer s0 H0 E).env.qual ++ "<lambda>"))) :
    PSs (LX P w K mg base f (.ref cL) A outer s0 H0 E) stepB (tStep CD PN PU PL ((LX P w K mg base f (.ref cL) A outer s0 H0 E).env.qual ++ "<lambda>")) := by
  refine pss_imp (t := _) (pss_cons h_val
  (C8.pss_cut (ps_if (pt_cmpR op_eq (pv 10) pe_int (nomark _))
  (pss_cons (ps_set (i := 6) scLaw.nd rfl (Or.inl rfl) (pe_c c__law_roll hr (by decide) (by rfl) (pa_cons (pv 1) (pa_cons pe_int pa_nil))))
  (pss_one (ps_expr (pe_mt c_Disk_arm hr (by decide) (pv 2) (pa_cons (pv 6) pa_nil)))))
  (pss_one (ps_if (pt_cmpR op_lt (pv 10) pe_int (nomark _))
  h_deed
  (pss_one (ps_if (pt_cmpR op_eq (pv 10) pe_int (nomark _))
  h_fall
  pss_nil)))))
  (pss_cons h2
  (pss_cons h3
  (pss_one h4))))) ?_
  rintro D σ H ⟨i, G, p1, p2, p3, a, b, c, Z, v10, v11, v12, ⟨v0, v9, v13, v14, v15, v16, v17, rfl⟩, ok, hi, hL, k⟩
  refine ⟨G.d, a, b, c, (PN, .tbl p1) :: (PU, .tbl p2) :: (PL, .tbl p3) :: (dkL CD G.x G.dx G.K G.W G.F G.dk ++ LwR G Z), rfl, by unfold LwL at hL; fail "pm", fun so v n kk a b c H hs0 hs1 hn hk hL => ?_⟩
  have hv : DL (vO v n kk :: Z) (.ref v) (vD n kk) := .row (.head _) (.cons (.str _) (.cons (.int _) (.cons (.str _) .nil)))
  have hvd : isVD (vD n kk) := ⟨n, kk, hn, hk, rfl⟩
  have ok2 : LwOk i ((LX P w K mg base f (.ref cL) A outer s0 H0 E).env.qual ++ "<lambda>") G p1 p2 p3 (vO v n kk :: Z) := ok.more (fun x h => .tail _ h) ok.t1 (ok.t3.mono fun x h => .tail _ h) (Nat.le_refl _)
  replace hL : Led H (LwL CD PN PU PL G p1 p2 p3 a b c (vO v n kk :: Z)) := by unfold LwL; unfold LwR at hL ⊢; fail "pm"
  refine ⟨fun σ' H' => ∃ (G' : LwS) (p1' p2' p3' : Array Value) (a' b' c' : Int) (Z' : Lg) (v11 v12 : Option V), SameW G G' Z Z' ∧ ShL G' G'.dk.fu G'.dk.dn (some (.int so)) v11 v12 σ' ∧ (so = 7 → G'.dk.dn = false) ∧
    LwOk (i + 1) ((LX P w K mg base f (.ref cL) A outer s0 H0 E).env.qual ++ "<lambda>") G' p1' p2' p3' Z' ∧ Led H' (LwL CD PN PU PL G' p1' p2' p3' a' b' c' Z'), ?_, fun σ' H' h => ?_⟩
  · refine ⟨_, rfl, ?_⟩
    fail "go"
    refine ite_d (fun q => ?_) fun q => ?_
    · have e0 : so = 0 := V.int.inj q
      refine ⟨_, rfl, ?_⟩
      fail "go"
      refine ⟨G.d, a, b, c, 9, (PN, .tbl p1) :: (PU, .tbl p2) :: (PL, .tbl p3) :: (dkL CD G.x G.dx G.K G.W G.F G.dk ++ LwR G (vO v n kk :: Z)), rfl, by unfold LwL at hL; fail "pm", by decide, by decide, fun r a b c H hr0 hr1 hL => ?_⟩
      have hL2 : Led H (dkL CD G.x G.dx G.K G.W G.F G.dk ++ ((G.d, dD a b c) :: (PN, .tbl p1) :: (PU, .tbl p2) :: (PL, .tbl p3) :: LwR G (vO v n kk :: Z))) := by fail "pm"
      clear hL
      have hL0 := hL2
      dsimp only [dkL, dkO, List.cons_append] at hL0
      refine (show gName 6 (.int r) _ _ _ from ?_)
      refine ⟨_, rfl, ?_⟩
      refine k_meth hL0 ⟨0, rfl⟩ (fz_no (by decide +kernel)) ?_
      clear hL0
      refine ⟨_, rfl, ?_⟩
      refine ⟨G.x, G.dx, G.K, G.W, G.F, G.dk, r, _, rfl, hL2, fun H hL => ?_⟩
      clear hL2
      refine ⟨{ G with dk := { G.dk with fu := some r } }, p1, p2, p3, a, b, c, vO v n kk :: Z, _, _, ⟨rfl, rfl, fun x h => .tail _ h⟩, ⟨_, _, _, _, _, _, _, rfl⟩, fun z => (by omega), ?_, by unfold LwL; unfold LwR at hL ⊢; fail "pm"⟩
      exact ⟨ok2.kb, ok2.wb, ok2.hk, ok2.hw, ok2.vk, ok2.vw, Nat.le_trans ok2.len (Nat.le_succ _), ok2.fn, ok2.fs, ok2.en, ok2.es, ok2.fr, ok2.t1, ok2.t2, ok2.t3⟩
    · have e0 : ¬ so = 0 := fun z => q (by rw [z])
      refine ⟨_, rfl, ?_⟩
      fail "go"
      refine ite_d (fun q1 => ?_) fun q1 => ?_
      · refine ⟨i, G, p1, p2, p3, a, b, c, vO v n kk :: Z, so, v, _, v12, ⟨_, _, _, _, _, _, _, rfl⟩, ok2, hi, hv, hvd, by omega, q1, hL, fun G' p1' p2' p3' a' b' c' Z' w11 w12 σ' H' hS hs ok' hL' => ?_⟩
        exact ⟨G', p1', p2', p3', a', b', c', Z', w11, w12, ⟨hS.1, hS.2.1, fun x h => hS.2.2 x (.tail _ h)⟩, hs, fun z => by omega, ok', hL'⟩
      · refine ⟨_, rfl, ?_⟩
        fail "go"
        refine ite_d (fun q2 => ?_) fun q2 => ?_
        · refine ⟨i, G, p1, p2, p3, a, b, c, vO v n kk :: Z, so, _, v12, ⟨_, _, _, _, _, _, _, rfl⟩, ok2, hi, hL, fun G' p1' p2' p3' a' b' c' Z' σ' H' hS hs ok' hd hL' => ?_⟩
          exact ⟨G', p1', p2', p3', a', b', c', Z', _, _, ⟨hS.1, hS.2.1, fun x h => hS.2.2 x (.tail _ h)⟩, hs, fun _ => hd, { ok' with len := Nat.le_trans ok'.len (Nat.le_succ _) }, hL'⟩
        · have e7 : ¬ so = 7 := fun z => q2 (by rw [z])
          exact ⟨G, p1, p2, p3, a, b, c, vO v n kk :: Z, _, v12, ⟨rfl, rfl, fun x h => .tail _ h⟩, ⟨_, _, _, _, _, _, _, rfl⟩, fun z => absurd z e7, { ok2 with len := Nat.le_trans ok2.len (Nat.le_succ _) }, hL⟩
  · obtain ⟨G', p1', p2', p3', a', b', c', Z', w11, w12, hS, hs, h7, ok', hL'⟩ := h
    clear hL
    refine ⟨i + 1, G', p1', p2', p3', a', b', c', Z', so, w11, w12, hs, ok', by omega, h7, hL', fun p1'' H'' ht hL'' => ?_⟩
    refine ⟨i + 1, G', p1'', p2', p3', a', b', c', Z', _, w11, w12, hs, { ok' with t1 := ht }, by omega, hL'', fun p2'' H'' ht2 hL'' => ?_⟩
    refine ⟨i + 1, G', p1'', p2'', p3', a', b', c', Z', _, w11, w12, hs, { ok' with t1 := ht, t2 := ht2 }, by omega, hL'', fun p2'' H'' ht2 hL'' => ?_⟩
    exact k G' p1'' p2'' p3' a' b' c' Z' _ w11 w12 σ' H'' hS hs { ok' with t1 := ht, t2 := ht2 } hL''
end
end Sd


set_option linter.unusedVariables false
namespace Sd
open PySem L2 LamX
open C8 (Cal Met Mak pe_c pe_mk pe_mt pe_mt0 pss_cut tCut)
set_option linter.unusedSimpArgs false
set_option pp.deepTerms false
set_option pp.deepTerms.threshold 12
set_option hygiene false
local macro_rules | `(tactic| fail "nd") => `(tactic| first | assumption | decide +kernel)
local macro_rules | `(tactic| fail "ix") => `(tactic| first | exact ⟨0, rfl⟩ | exact ⟨1, rfl⟩ | exact ⟨2, rfl⟩ | exact ⟨3, rfl⟩ | exact ⟨4, rfl⟩ | exact ⟨5, rfl⟩ | exact ⟨6, rfl⟩ | exact ⟨7, rfl⟩ | exact ⟨8, rfl⟩ | exact ⟨9, rfl⟩ | exact ⟨10, rfl⟩ | exact ⟨11, rfl⟩ | exact ⟨12, rfl⟩ | exact ⟨13, rfl⟩ | exact ⟨14, rfl⟩ | exact ⟨15, rfl⟩ | exact ⟨16, rfl⟩ | exact ⟨17, rfl⟩ | exact ⟨18, rfl⟩ | assumption)
local macro_rules | `(tactic| fail "up") => `(tactic| first | exact ⟨0, rfl, rfl⟩ | exact ⟨1, rfl, rfl⟩ | exact ⟨2, rfl, rfl⟩ | exact ⟨3, rfl, rfl⟩ | exact ⟨4, rfl, rfl⟩ | exact ⟨5, rfl, rfl⟩ | exact ⟨6, rfl, rfl⟩ | exact ⟨7, rfl, rfl⟩ | exact ⟨8, rfl, rfl⟩ | exact ⟨9, rfl, rfl⟩ | exact ⟨10, rfl, rfl⟩ | exact ⟨11, rfl, rfl⟩ | exact ⟨12, rfl, rfl⟩ | exact ⟨13, rfl, rfl⟩ | exact ⟨14, rfl, rfl⟩ | exact ⟨15, rfl, rfl⟩ | exact ⟨16, rfl, rfl⟩ | assumption)
local macro_rules | `(tactic| fail "lkF") => `(tactic| first | assumption | exact fz_at 0 (by fail "nd") rfl rfl | exact fz_at 1 (by fail "nd") rfl rfl | exact fz_at 2 (by fail "nd") rfl rfl | exact fz_at 3 (by fail "nd") rfl rfl | exact fz_at 4 (by fail "nd") rfl rfl | exact fz_at 5 (by fail "nd") rfl rfl | exact fz_at 6 (by fail "nd") rfl rfl | exact fz_at 7 (by fail "nd") rfl rfl)
local macro_rules | `(tactic| fail "lkD") => `(tactic| first | assumption | exact dz_at 0 (by fail "nd") rfl rfl | exact dz_at 1 (by fail "nd") rfl rfl | exact dz_at 2 (by fail "nd") rfl rfl | exact dz_at 3 (by fail "nd") rfl rfl | exact dz_at 4 (by fail "nd") rfl rfl)
local macro_rules | `(tactic| fail "ptF") => `(tactic| first | assumption | exact fz_put 0 (by fail "nd") rfl (Nat.le_of_ble_eq_true rfl) | exact fz_put 1 (by fail "nd") rfl (Nat.le_of_ble_eq_true rfl) | exact fz_put 2 (by fail "nd") rfl (Nat.le_of_ble_eq_true rfl) | exact fz_put 3 (by fail "nd") rfl (Nat.le_of_ble_eq_true rfl) | exact fz_put 4 (by fail "nd") rfl (Nat.le_of_ble_eq_true rfl) | exact fz_put 5 (by fail "nd") rfl (Nat.le_of_ble_eq_true rfl) | exact fz_put 6 (by fail "nd") rfl (Nat.le_of_ble_eq_true rfl) | exact fz_put 7 (by fail "nd") rfl (Nat.le_of_ble_eq_true rfl) | exact fz_new (by decide +kernel) rfl)
local macro_rules | `(tactic| fail "ptD") => `(tactic| first | assumption | exact dz_put 0 (by fail "nd") rfl (Nat.le_of_ble_eq_true rfl) | exact dz_put 1 (by fail "nd") rfl (Nat.le_of_ble_eq_true rfl) | exact dz_put 2 (by fail "nd") rfl (Nat.le_of_ble_eq_true rfl) | exact dz_put 3 (by fail "nd") rfl (Nat.le_of_ble_eq_true rfl) | exact dz_put 4 (by fail "nd") rfl (Nat.le_of_ble_eq_true rfl))
local macro_rules | `(tactic| fail "sz") => `(tactic| first | assumption | exact (Nat.le_of_ble_eq_true rfl) | omega | decide)
local macro_rules | `(tactic| fail "sd") => `(tactic| first | rfl | assumption | decide | omega | (dsimp only; first | decide | omega) | exact .inr ⟨by decide, by decide⟩ | exact .inl ⟨by decide, by decide⟩ | exact ⟨by omega, by omega⟩ | exact .inl ⟨by omega, by omega⟩ | exact .inr ⟨by omega, by omega⟩ | exact ⟨by omega, by omega, by omega⟩)
local macro_rules | `(tactic| fail "cl") => `(tactic| (clear hH; dsimp only [List.set, List.cons_append, List.nil_append, List.append] at hL))
local macro_rules | `(tactic| fail "gn") => `(tactic| (intro p hp; generalize hH : upd H p _ = H; replace hL := Led.newH hL hp hH; clear hH hp))
local macro_rules | `(tactic| fail "gup") => `(tactic| (generalize hH : upd H _ _ = H; replace hL := Led.upU hL (by fail "up") hH; fail "cl"))
local macro_rules | `(tactic| fail "gmk") => `(tactic| (intro x dx hx hd ne; generalize hH : upd (upd H dx _) x _ = H; replace hL := Led.made hL hx hd ne hH; clear hH hx hd ne))
local macro_rules | `(tactic| fail "v") => `(tactic| refine ⟨_, rfl, ?_⟩)
local macro_rules | `(tactic| fail "i2") => `(tactic| refine ⟨_, _, rfl, rfl, ?_⟩)
local macro_rules | `(tactic| fail "go1") => `(tactic| first
  | refine ⟨_, rfl, ?_⟩
  | refine ⟨_, _, rfl, rfl, ?_⟩
  | refine ⟨_, _, rfl, ?_⟩
  | refine iteT ?_
  | refine iteF ?_
  | refine k_fld hL (by fail "ix") (by assumption) (by assumption) (by fail "lkF") ?_
  | refine k_dgetS hL (by fail "ix") (by fail "lkD") ?_
  | refine k_dgetI hL (by fail "ix") (by assumption) ?_
  | refine k_ixL hL (by fail "ix") (by first | rfl | assumption) ?_
  | refine k_ixT hL (by fail "ix") (by first | rfl | assumption) ?_
  | refine k_tyL hL (by fail "ix") ?_
  | refine k_isd hL (by fail "ix") ?_
  | (refine And.intro (by fail "sz") ?_; fail "gn")
  | refine And.intro (by fail "sd") ?_
  | fail "gn"
  | refine k_meth hL (by fail "ix") (by first | assumption | exact fz_no (by decide +kernel)) ?_
  | refine k_gtup hL (by fail "ix") rfl ?_
  | (refine k_popI hL (by fail "ix") (by assumption) ?_; fail "gup")
  | (refine k_listD hL (by fail "ix") ?_; fail "gn")
  | (refine ⟨_, _, _, _, rfl, rfl, hL.at (by fail "ix"), rfl, ?_⟩; fail "gup")
  | (refine ⟨_, _, _, rfl, rfl, hL.at (by fail "ix"), (by fail "sz"), ?_⟩; fail "gup")
  | (refine ⟨_, _, _, _, rfl, hL.at (by fail "ix"), by assumption, by assumption, Nat.lt_of_le_of_lt fz_len (by decide), ?_⟩; generalize hH : upd H _ _ = H; replace hL := Led.upF hL (by fail "up") (by fail "ptF") hH; fail "cl")
  | (refine ⟨_, _, hL.at (by fail "ix"), Nat.lt_of_le_of_lt fz_len (by decide), ?_⟩; generalize hH : upd H _ _ = H; replace hL := Led.upF hL (by fail "up") (by fail "ptF") hH; fail "cl")
  | (refine k_dputS hL (by fail "ix") (Nat.lt_of_le_of_lt dz_len (by decide)) (by fail "ptD") (by fail "up") ?_; clear hL; intro H hL; dsimp only [List.set, List.cons_append, List.nil_append, List.append] at hL)
  | refine k_lenL2 hL (by fail "ix") ?_
  | refine k_lenT2 hL (by fail "ix") ?_
  | refine .inl ⟨_, rfl, ?_⟩
  | refine .inr ⟨_, rfl, ?_⟩)
local macro_rules | `(tactic| fail "go") => `(tactic| repeat fail "go1")
local macro_rules | `(tactic| fail "pm") => `(tactic| (refine Led.le hL (fun a_ => ?_); simp only [cnt_nil, cnt_cons, cnt_app, List.map_append, List.map_cons, List.map_nil, List.flatMap_append, List.flatMap_cons, List.flatMap_nil, List.append_assoc, List.cons_append, List.nil_append]; omega))

def spLaw (K : PySem.W.Frag) (PL PN PU : Addr) : Sp := fun vs H Q _ => ∃ (a : Addr) (ns : List Int), vs = [.ref a] ∧ SqL K H a (ns.map V.int) ∧ ns.length ≤ 63 ∧ Led H [(PL, .tbl #[]), (PN, .tbl #[]), (PU, .tbl #[])] ∧ ∀ H', Q (.bl true) H'
section
variable {P : Program} {w : World} {K : PySem.W.Frag} {mg : Str → Option Value} {base : Heap} {CD CE PN PU : Addr} {f cL PL : Addr} {A : Around} {outer : List Env} {s0 : Shared} {H0 : Hp} {E : XK}
theorem law_body (hr : Room 18 (LX P w K mg base f (.ref cL) A outer s0 H0 E).A) (T : TxtG mg) (c__law_rounds : Cal P w K mg base 2 "_law_rounds" (spRounds K) []) (c__law_roll : Cal P w K mg base 1 "_law_roll" spRoll []) (c_Disk : Mak P w K mg base 1 "Disk" CD (spDInit CD) [])
    (bS : PSs (LX P w K mg base f (.ref cL) A outer s0 H0 E) stepB (tStep CD PN PU PL ((LX P w K mg base f (.ref cL) A outer s0 H0 E).env.qual ++ "<lambda>")))
    {vs : List V} {H : Hp} {Q : VK} (h : spLaw K PL PN PU vs H Q E) : ∃ t, PSs (LX P w K mg base f (.ref cL) A outer s0 H0 E) (defBody sLaw) t ∧ t { nx := fun _ H' => Q .non H', rt := Q } (L2.start NLw vs) H := by
  obtain ⟨a, ns0, rfl, hS, hlen, hL, k⟩ := h
  refine ⟨_, (pss_cons (ps_for PassesOwn.never rfl (pi_list (pe_c c__law_rounds hr (by decide) (by rfl) (pa_cons (pv 0) (pa_cons pe_int pa_nil)))) (pg_name (i := 1) scLaw.nd rfl (Or.inl rfl))
  (pss_cons (ps_asg (pe_tup (pa_cons (pe_mkN c_Disk hr (by decide) (by rfl)) (pa_cons (pe_lst pa_nil) (pa_cons (pe_lst pa_nil) (pa_cons pe_dnewK (pa_cons pe_non (pa_cons pe_bl (pa_cons pe_int pa_nil)))))))) (pg_tup (by rfl) (pgs_cons (pg_name (i := 2) scLaw.nd rfl (Or.inr rfl)) (pgs_cons (pg_name (i := 3) scLaw.nd rfl (Or.inr rfl)) (pgs_cons (pg_name (i := 4) scLaw.nd rfl (Or.inr rfl)) (pgs_cons (pg_name (i := 5) scLaw.nd rfl (Or.inr rfl)) (pgs_cons (pg_name (i := 6) scLaw.nd rfl (Or.inl rfl)) (pgs_cons (pg_name (i := 7) scLaw.nd rfl (Or.inl rfl)) (pgs_cons (pg_name (i := 8) scLaw.nd rfl (Or.inl rfl)) pgs_nil)))))))))
  (pss_one (ps_for PassesOwn.never rfl (pi_range1 (by rfl) T.range (pa_cons (pe_c c__law_roll hr (by decide) (by rfl) (pa_cons (pv 1) (pa_cons pe_int pa_nil))) pa_nil)) (pg_name (i := 9) scLaw.nd rfl (Or.inl rfl))
  bS))))
  (pss_one (ps_ret pe_bl))), ?_⟩
  fail "go"
  refine ⟨a, ns0, _, rfl, hS, hL, fun pr d x1 y1 z1 H hL => ?_⟩
  fail "go"
  refine ⟨⟨_, .of (hL.at ⟨0, rfl⟩)⟩, for_listA (K := K) (a := pr) (xs := [.ref d]) (fun i σ H => Hold ((i = 0 ∧ σ = L2.start NLw [.ref a] ∧ Led H ((pr, .lst [.ref d]) :: (d, dD x1 y1 z1) :: [(PL, .tbl #[]), (PN, .tbl #[]), (PU, .tbl #[])])) ∨
    (i = 1 ∧ Led H [(pr, .lst [.ref d])]))) ?_ ?_ ?_ ?_⟩
  · exact .mk (.inl ⟨rfl, rfl, hL⟩)
  · intro i σ H _ h
    rcases h.out with ⟨_, _, hL⟩ | ⟨_, hL⟩
    · exact .of (hL.at ⟨0, rfl⟩)
    · exact .of (hL.at ⟨0, rfl⟩)
  · clear hL
    intro i y0 σ H D' hy h hD'
    rcases h.out with ⟨rfl, rfl, hL⟩ | ⟨rfl, _⟩
    · obtain rfl : V.ref d = y0 := Option.some.inj hy
      clear h hy
      refine (show gName 1 (.ref d) _ _ _ from ?_)
      fail "gmk"
      refine ⟨x, dx, _, rfl, hL, fun K1 W1 F1 H hL => ⟨rfl, ?_⟩⟩
      dsimp only [dkL, dkO, List.map_nil, List.cons_append, List.nil_append] at hL
      fail "go"
      rename_i kl _ wl _ fl _
      refine ⟨d, x1, y1, z1, 41, (x, HO.ins CD dx (fz nmD [.ref K1, .ref W1, .ref F1, .int 0, fuV none, .bl false])) :: (K1, tI []) :: (W1, tI []) :: (F1, .dK []) :: (kl, .lst []) :: (wl, .lst []) :: (fl, .dK []) :: [(pr, .lst [.ref d]), (PL, .tbl #[]), (PN, .tbl #[]), (PU, .tbl #[])], rfl, by simp only [List.map_nil, List.nil_append] at hL; fail "pm", by decide, by decide, fun r x1 y1 z1 H hr0 hr1 hL => ?_⟩
      fail "go"
      generalize hq : (LX P w K mg base f (.ref cL) A outer s0 H0 E).env.qual ++ "<lambda>" = q
      refine for_rangeA (lo := 0) (n := r.toNat) (fun i σ H => Hold (∃ (G : LwS) (p1 p2 p3 : Array Value) (a b c : Int) (Z : Lg) (v10 v11 v12 : Option V), ShL G G.dk.fu G.dk.dn v10 v11 v12 σ ∧ LwOk i q G p1 p2 p3 Z ∧ (pr, HO.lst [V.ref d]) ∈ Z ∧
        Led H (LwL CD PN PU PL G p1 p2 p3 a b c Z))) (.mk ⟨⟨d, x, dx, K1, W1, F1, kl, wl, fl, ⟨[], [], [], 0, none, false⟩, [], [], [], [], []⟩, #[], #[], #[], x1, y1, z1, [(pr, .lst [.ref d])], _, _, _, ⟨_, _, _, _, _, _, _, rfl⟩, ?_, .head _, ?_⟩) (fun i σ H D1 hi h hD1 => ?_) (fun σ H h => ?_)
      · exact ⟨rfl, rfl, .nil, .nil, fun d h => (nomatch h), fun d h => (nomatch h), Nat.zero_le _, List.nodup_nil, fun n h => (nomatch h), List.nodup_nil, fun n h => (nomatch h), fun n => ⟨none, trivial, rfl⟩, by simp [TriplesOk], by simp [TriplesOk], .nil⟩
      · unfold LwL LwR dkL dkO
        dsimp only
        fail "pm"
      · clear hL
        obtain ⟨G, p1, p2, p3, a, b, c, Z, v10, v11, v12, hs, ok, hm, hL⟩ := h.out
        clear h
        obtain ⟨v0, v9, v13, v14, v15, v16, v17, rfl⟩ := hs
        refine (show gName 9 _ _ _ _ from ?_)
        rw [← hq] at ok ⊢
        refine ⟨i, G, p1, p2, p3, a, b, c, Z, v10, v11, v12, ⟨_, _, _, _, _, _, _, rfl⟩, ok, by omega, hL, fun G' p1' p2' p3' a' b' c' Z' w10 w11 w12 σ' H' hS hs ok' hL' => ?_⟩
        refine hD1.nx _ _ (.mk ⟨G', p1', p2', p3', a', b', c', Z', w10, w11, w12, hs, ?_, hS.2.2 _ hm, hL'⟩)
        rw [← hq]
        exact ok'
      · clear hL
        obtain ⟨G, p1, p2, p3, a, b, c, Z, v10, v11, v12, hs, ok, hm, hL⟩ := h.out
        clear h
        refine hD'.nx _ _ (.mk (.inr ⟨rfl, ?_⟩))
        unfold LwL LwR at hL
        exact ⟨fun x hx => by rw [List.mem_singleton.mp hx]; exact hL.mem (.tail _ (.tail _ (.tail _ (.tail _ (List.mem_append_right _ (.tail _ (.tail _ (.tail _ hm)))))))), by simp⟩
    · cases hy
  · intro σ H h
    rcases h.out with ⟨q, _⟩ | ⟨_, hL⟩
    · cases q
    · exact k H
end
end Sd


set_option linter.unusedVariables false
namespace Sd
open PySem PySem.Spec PyProof.Rows L2
open C8 (Cal Met Mak)
/-! ### the head -/
def dfs1 : He.DefD := ⟨("Disk", some "__init__"), "__init__", "Disk.__init__", defArgs sDInit, defBody sDInit, defScope sDInit, [], []⟩
def dfs2 : He.DefD := ⟨("Disk", some "arm"), "arm", "Disk.arm", defArgs sArm, defBody sArm, defScope sArm, [], []⟩
def dfs3 : He.DefD := ⟨("Disk", some "need_up"), "need_up", "Disk.need_up", defArgs sNeed, defBody sNeed, defScope sNeed, [], []⟩
def dfs4 : He.DefD := ⟨("Disk", some "append"), "append", "Disk.append", defArgs sDApp, defBody sDApp, defScope sDApp, [], []⟩
def dfs5 : He.DefD := ⟨("Disk", some "sync"), "sync", "Disk.sync", defArgs sSync, defBody sSync, defScope sSync, [], []⟩
def dfs6 : He.DefD := ⟨("Disk", some "records"), "records", "Disk.records", defArgs sRecs, defBody sRecs, defScope sRecs, [], []⟩
def dfs7 : He.DefD := ⟨("Disk", some "replace"), "replace", "Disk.replace", defArgs sRepl, defBody sRepl, defScope sRepl, [], []⟩
def dfs8 : He.DefD := ⟨("Disk", some "read_file"), "read_file", "Disk.read_file", defArgs sRFile, defBody sRFile, defScope sRFile, [], []⟩
def dfs9 : He.DefD := ⟨("Disk", some "crash"), "crash", "Disk.crash", defArgs sCrash, defBody sCrash, defScope sCrash, [], []⟩
def dfs10 : He.DefD := ⟨("Disk", some "restart"), "restart", "Disk.restart", defArgs sRest, defBody sRest, defScope sRest, [], []⟩
def dfs11 : He.DefD := ⟨("Unpacker", some "__init__"), "__init__", "Unpacker.__init__", defArgs sUInit, defBody sUInit, defScope sUInit, [], []⟩
def dfs12 : He.DefD := ⟨("Unpacker", some "byte"), "byte", "Unpacker.byte", defArgs sUByte, defBody sUByte, defScope sUByte, [], []⟩
def dfs13 : He.DefD := ⟨("Unpacker", some "read_natural"), "read_natural", "Unpacker.read_natural", defArgs sUNat, defBody sUNat, defScope sUNat, [], []⟩
def dfs14 : He.DefD := ⟨("Unpacker", some "read_value"), "read_value", "Unpacker.read_value", defArgs sUVal, defBody sUVal, defScope sUVal, [], []⟩
def dfs15 : He.DefD := ⟨("Unpacker", some "text"), "text", "Unpacker.text", defArgs sUText, defBody sUText, defScope sUText, [], []⟩
def dfs16 : He.DefD := ⟨("natural", none), "natural", "natural", defArgs sNatural, defBody sNatural, defScope sNatural, [], []⟩
def dfs17 : He.DefD := ⟨("pack", none), "pack", "pack", defArgs sPack, defBody sPack, defScope sPack, [.int 0], []⟩
def dfs18 : He.DefD := ⟨("sign_number", none), "sign_number", "sign_number", defArgs sSignN, defBody sSignN, defScope sSignN, [], []⟩
def dfs19 : He.DefD := ⟨("sum_of_bytes", none), "sum_of_bytes", "sum_of_bytes", defArgs sSumB, defBody sSumB, defScope sSumB, [], []⟩
def dfs20 : He.DefD := ⟨("four", none), "four", "four", defArgs sFour, defBody sFour, defScope sFour, [], []⟩
def dfs21 : He.DefD := ⟨("frame", none), "frame", "frame", defArgs sFrame, defBody sFrame, defScope sFrame, [], []⟩
def dfs22 : He.DefD := ⟨("unpack", none), "unpack", "unpack", defArgs sUnpack, defBody sUnpack, defScope sUnpack, [], []⟩
def dfs23 : He.DefD := ⟨("read_frames", none), "read_frames", "read_frames", defArgs sReadF, defBody sReadF, defScope sReadF, [], []⟩
def dfs24 : He.DefD := ⟨("_law_dice", none), "_law_dice", "_law_dice", defArgs sDice, defBody sDice, defScope sDice, [], []⟩
def dfs25 : He.DefD := ⟨("_law_roll", none), "_law_roll", "_law_roll", defArgs sRoll, defBody sRoll, defScope sRoll, [], []⟩
def dfs26 : He.DefD := ⟨("_law_rounds", none), "_law_rounds", "_law_rounds", defArgs sRounds, defBody sRounds, defScope sRounds, [], []⟩
def dfs27 : He.DefD := ⟨("_law_told", none), "_law_told", "_law_told", defArgs sTold, defBody sTold, defScope sTold, [], []⟩
def dfs28 : He.DefD := ⟨("_law_bytes", none), "_law_bytes", "_law_bytes", defArgs sLBytes, defBody sLBytes, defScope sLBytes, [], []⟩
def dfs29 : He.DefD := ⟨("law", none), "law", "law", defArgs sLaw, defBody sLaw, defScope sLaw, [], []⟩
def hfn : List He.DefD := [dfs1, dfs2, dfs3, dfs4, dfs5, dfs6, dfs7, dfs8, dfs9, dfs10, dfs11, dfs12, dfs13, dfs14, dfs15, dfs16, dfs17, dfs18, dfs19, dfs20, dfs21, dfs22, dfs23, dfs24, dfs25, dfs26, dfs27, dfs28, dfs29]
def hfa : List He.Fa := [
  .glo "Disk",
  .cls "Disk",
  .noat "Disk" "kept",
  .noat "Disk" "waiting",
  .noat "Disk" "files",
  .noat "Disk" "syncs",
  .noat "Disk" "fuse",
  .noat "Disk" "down",
  .mkr "Disk",
  .meth "Disk" "arm",
  .meth "Disk" "need_up",
  .meth "Disk" "append",
  .meth "Disk" "sync",
  .meth "Disk" "records",
  .meth "Disk" "replace",
  .meth "Disk" "read_file",
  .meth "Disk" "crash",
  .meth "Disk" "restart",
  .glo "Unpacker",
  .cls "Unpacker",
  .noat "Unpacker" "data",
  .noat "Unpacker" "place",
  .noat "Unpacker" "nesting",
  .mkr "Unpacker",
  .meth "Unpacker" "byte",
  .meth "Unpacker" "read_natural",
  .meth "Unpacker" "read_value",
  .meth "Unpacker" "text",
  .glo "natural",
  .glo "pack",
  .glo "sign_number",
  .glo "sum_of_bytes",
  .glo "four",
  .glo "frame",
  .glo "unpack",
  .glo "read_frames",
  .glo "_law_dice",
  .glo "_law_roll",
  .glo "_law_rounds",
  .glo "_law_told",
  .glo "_law_bytes",
  .glo "law",
  .glo "StoreError",
  .exc "StoreError",
  .free "tuple",
  .free "len",
  .free "range",
  .free "isinstance",
  .free "int",
  .free "str",
  .free "abs",
  .free "list",
  .int "NONE" 1,
  .int "TRUE" 2,
  .int "FALSE" 3,
  .int "NUMBER" 4,
  .int "BELOW" 5,
  .int "TEXT" 6,
  .int "ROW" 7,
  .int "MOST_DEEP" 30,
  .str "SIGNS" SIGNS]
def htf : List He.Defn := [("law", none), ("pack", none), ("Unpacker", some "read_value")]
def hex (K : PySem.W.Frag) : Bool := (PySem.W.isClsIn K (He.ga K "StoreError") && (decide (PySem.W.subIn K (.ref (He.ga K "StoreError")) (.ref (He.ga K "StoreError")) = some true) && (decide ((He.cT K ("law", none)).2 ≠ (He.cT K ("pack", none)).2) && (decide ((He.cT K ("law", none)).2 ≠ (He.cT K ("Unpacker", some "read_value")).2) && (decide ((He.cT K ("pack", none)).2 ≠ (He.cT K ("Unpacker", some "read_value")).2) && true)))))
abbrev HR : PySem.W.OpenRow := PySem.W.OpenLaw.row PySem.Challenge.rw_shardstack_k15_disks_that_go_down
abbrev hk : PySem.W.Hook := He.hookX 7 hfa hfn [] htf hex
def hob (s : PySem.W.SharedT) : He.AlX := He.obsX 7 hfa hfn [] htf hex (HandSHeadRun.getT s)
theorem hob_eq (s : PySem.W.SharedT) : hob s = hk.obs s.abs := He.obsX_eq (HandSHeadRun.getT_eq s)
def hloose : List Str := ["ShardError", "WireError", "StoreError", "NONE", "TRUE", "FALSE", "NUMBER", "BELOW", "TEXT", "ROW", "MOST_DEEP", "SIGNS", "natural", "pack", "sign_number", "Unpacker", "unpack", "sum_of_bytes", "four", "frame", "read_frames", "Disk", "_law_dice", "_law_roll", "_law_rounds", "_law_told", "_law_bytes"]
theorem hrun (w : World) : HandSHeadRun.RunEq HR (PySem.W.view HR.prog [31]) hk hob 8000 hloose w := by
  intro os
  kernel_rfl
theorem exB {K : PySem.W.Frag} (h : hex K = true) : (PySem.W.isClsIn K (He.ga K "StoreError") = true) ∧ ((PySem.W.subIn K (.ref (He.ga K "StoreError")) (.ref (He.ga K "StoreError")) = some true)) ∧ (((He.cT K ("law", none)).2 ≠ (He.cT K ("pack", none)).2)) ∧ (((He.cT K ("law", none)).2 ≠ (He.cT K ("Unpacker", some "read_value")).2)) ∧ (((He.cT K ("pack", none)).2 ≠ (He.cT K ("Unpacker", some "read_value")).2)) ∧ True := by
  unfold hex at h
  simp only [Bool.and_eq_true, decide_eq_true_eq] at h
  simpa [and_assoc] using h
theorem all_mk {l : PySem.W.OpenLaw} {w : World} {K : PySem.W.Frag} {h : Heap} {mg : Str → Option Value} {fa : Addr} (X : K.In h) (G : h.Ns mainGlobals mg) (hfa0 : mg "law" = some (.ref fa)) (c : He.SaysX hfa hfn [] htf hex w h K) : LamX.LawAtS l w K CX0 19 63 "script" mg fa h := by
  have exs := exB c.more
  have gl29 : mg "law" = some (.ref (He.fAd K ("law", none))) := He.glo_ok X G (c.t.d.fact 41 (f := .glo "law") rfl)
  have gl_Disk : mg "Disk" = some (.ref (He.ga K "Disk")) := He.glo_ok X G (c.t.d.fact 0 (f := .glo "Disk") rfl)
  have cl_Disk : Cls K (He.ga K "Disk") := He.cls_ok (c.t.d.fact 1 (f := .cls "Disk") rfl)
  have no_Disk_kept : NoAttr K (He.ga K "Disk") "kept" := He.noat_ok (c.t.d.fact 2 (f := .noat "Disk" "kept") rfl)
  have no_Disk_waiting : NoAttr K (He.ga K "Disk") "waiting" := He.noat_ok (c.t.d.fact 3 (f := .noat "Disk" "waiting") rfl)
  have no_Disk_files : NoAttr K (He.ga K "Disk") "files" := He.noat_ok (c.t.d.fact 4 (f := .noat "Disk" "files") rfl)
  have no_Disk_syncs : NoAttr K (He.ga K "Disk") "syncs" := He.noat_ok (c.t.d.fact 5 (f := .noat "Disk" "syncs") rfl)
  have no_Disk_fuse : NoAttr K (He.ga K "Disk") "fuse" := He.noat_ok (c.t.d.fact 6 (f := .noat "Disk" "fuse") rfl)
  have no_Disk_down : NoAttr K (He.ga K "Disk") "down" := He.noat_ok (c.t.d.fact 7 (f := .noat "Disk" "down") rfl)
  have mk_Disk : Mk K (He.ga K "Disk") (He.fAd K ("Disk", some "__init__")) := He.mkr_ok (c.t.d.fact 8 (f := .mkr "Disk") rfl)
  have me2 : Meth K (He.ga K "Disk") "arm" (He.fAd K ("Disk", some "arm")) := He.meth_ok (c.t.d.fact 9 (f := .meth "Disk" "arm") rfl)
  have me3 : Meth K (He.ga K "Disk") "need_up" (He.fAd K ("Disk", some "need_up")) := He.meth_ok (c.t.d.fact 10 (f := .meth "Disk" "need_up") rfl)
  have me4 : Meth K (He.ga K "Disk") "append" (He.fAd K ("Disk", some "append")) := He.meth_ok (c.t.d.fact 11 (f := .meth "Disk" "append") rfl)
  have me5 : Meth K (He.ga K "Disk") "sync" (He.fAd K ("Disk", some "sync")) := He.meth_ok (c.t.d.fact 12 (f := .meth "Disk" "sync") rfl)
  have me6 : Meth K (He.ga K "Disk") "records" (He.fAd K ("Disk", some "records")) := He.meth_ok (c.t.d.fact 13 (f := .meth "Disk" "records") rfl)
  have me7 : Meth K (He.ga K "Disk") "replace" (He.fAd K ("Disk", some "replace")) := He.meth_ok (c.t.d.fact 14 (f := .meth "Disk" "replace") rfl)
  have me8 : Meth K (He.ga K "Disk") "read_file" (He.fAd K ("Disk", some "read_file")) := He.meth_ok (c.t.d.fact 15 (f := .meth "Disk" "read_file") rfl)
  have me9 : Meth K (He.ga K "Disk") "crash" (He.fAd K ("Disk", some "crash")) := He.meth_ok (c.t.d.fact 16 (f := .meth "Disk" "crash") rfl)
  have me10 : Meth K (He.ga K "Disk") "restart" (He.fAd K ("Disk", some "restart")) := He.meth_ok (c.t.d.fact 17 (f := .meth "Disk" "restart") rfl)
  have gl_Unpacker : mg "Unpacker" = some (.ref (He.ga K "Unpacker")) := He.glo_ok X G (c.t.d.fact 18 (f := .glo "Unpacker") rfl)
  have cl_Unpacker : Cls K (He.ga K "Unpacker") := He.cls_ok (c.t.d.fact 19 (f := .cls "Unpacker") rfl)
  have no_Unpacker_data : NoAttr K (He.ga K "Unpacker") "data" := He.noat_ok (c.t.d.fact 20 (f := .noat "Unpacker" "data") rfl)
  have no_Unpacker_place : NoAttr K (He.ga K "Unpacker") "place" := He.noat_ok (c.t.d.fact 21 (f := .noat "Unpacker" "place") rfl)
  have no_Unpacker_nesting : NoAttr K (He.ga K "Unpacker") "nesting" := He.noat_ok (c.t.d.fact 22 (f := .noat "Unpacker" "nesting") rfl)
  have mk_Unpacker : Mk K (He.ga K "Unpacker") (He.fAd K ("Unpacker", some "__init__")) := He.mkr_ok (c.t.d.fact 23 (f := .mkr "Unpacker") rfl)
  have me12 : Meth K (He.ga K "Unpacker") "byte" (He.fAd K ("Unpacker", some "byte")) := He.meth_ok (c.t.d.fact 24 (f := .meth "Unpacker" "byte") rfl)
  have me13 : Meth K (He.ga K "Unpacker") "read_natural" (He.fAd K ("Unpacker", some "read_natural")) := He.meth_ok (c.t.d.fact 25 (f := .meth "Unpacker" "read_natural") rfl)
  have me14 : Meth K (He.ga K "Unpacker") "read_value" (He.fAd K ("Unpacker", some "read_value")) := He.meth_ok (c.t.d.fact 26 (f := .meth "Unpacker" "read_value") rfl)
  have me15 : Meth K (He.ga K "Unpacker") "text" (He.fAd K ("Unpacker", some "text")) := He.meth_ok (c.t.d.fact 27 (f := .meth "Unpacker" "text") rfl)
  have gl16 : mg "natural" = some (.ref (He.fAd K ("natural", none))) := He.glo_ok X G (c.t.d.fact 28 (f := .glo "natural") rfl)
  have gl17 : mg "pack" = some (.ref (He.fAd K ("pack", none))) := He.glo_ok X G (c.t.d.fact 29 (f := .glo "pack") rfl)
  have gl18 : mg "sign_number" = some (.ref (He.fAd K ("sign_number", none))) := He.glo_ok X G (c.t.d.fact 30 (f := .glo "sign_number") rfl)
  have gl19 : mg "sum_of_bytes" = some (.ref (He.fAd K ("sum_of_bytes", none))) := He.glo_ok X G (c.t.d.fact 31 (f := .glo "sum_of_bytes") rfl)
  have gl20 : mg "four" = some (.ref (He.fAd K ("four", none))) := He.glo_ok X G (c.t.d.fact 32 (f := .glo "four") rfl)
  have gl21 : mg "frame" = some (.ref (He.fAd K ("frame", none))) := He.glo_ok X G (c.t.d.fact 33 (f := .glo "frame") rfl)
  have gl22 : mg "unpack" = some (.ref (He.fAd K ("unpack", none))) := He.glo_ok X G (c.t.d.fact 34 (f := .glo "unpack") rfl)
  have gl23 : mg "read_frames" = some (.ref (He.fAd K ("read_frames", none))) := He.glo_ok X G (c.t.d.fact 35 (f := .glo "read_frames") rfl)
  have gl24 : mg "_law_dice" = some (.ref (He.fAd K ("_law_dice", none))) := He.glo_ok X G (c.t.d.fact 36 (f := .glo "_law_dice") rfl)
  have gl25 : mg "_law_roll" = some (.ref (He.fAd K ("_law_roll", none))) := He.glo_ok X G (c.t.d.fact 37 (f := .glo "_law_roll") rfl)
  have gl26 : mg "_law_rounds" = some (.ref (He.fAd K ("_law_rounds", none))) := He.glo_ok X G (c.t.d.fact 38 (f := .glo "_law_rounds") rfl)
  have gl27 : mg "_law_told" = some (.ref (He.fAd K ("_law_told", none))) := He.glo_ok X G (c.t.d.fact 39 (f := .glo "_law_told") rfl)
  have gl28 : mg "_law_bytes" = some (.ref (He.fAd K ("_law_bytes", none))) := He.glo_ok X G (c.t.d.fact 40 (f := .glo "_law_bytes") rfl)
  have gl_StoreError : mg "StoreError" = some (.ref (He.ga K "StoreError")) := He.glo_ok X G (c.t.d.fact 42 (f := .glo "StoreError") rfl)
  have TE_StoreError : ExcT K mg "StoreError" (He.ga K "StoreError") := exc_T X G (c.t.d.fact 42 (f := .glo "StoreError") rfl) (c.t.d.fact 43 (f := .exc "StoreError") rfl) (exB c.more).1 (exB c.more).2.1
  have fr_tuple : mg "tuple" = none := He.free_ok X G (c.t.d.fact 44 (f := .free "tuple") rfl)
  have fr_len : mg "len" = none := He.free_ok X G (c.t.d.fact 45 (f := .free "len") rfl)
  have fr_range : mg "range" = none := He.free_ok X G (c.t.d.fact 46 (f := .free "range") rfl)
  have fr_isinstance : mg "isinstance" = none := He.free_ok X G (c.t.d.fact 47 (f := .free "isinstance") rfl)
  have fr_int : mg "int" = none := He.free_ok X G (c.t.d.fact 48 (f := .free "int") rfl)
  have fr_str : mg "str" = none := He.free_ok X G (c.t.d.fact 49 (f := .free "str") rfl)
  have fr_abs : mg "abs" = none := He.free_ok X G (c.t.d.fact 50 (f := .free "abs") rfl)
  have fr_list : mg "list" = none := He.free_ok X G (c.t.d.fact 51 (f := .free "list") rfl)
  have con_NONE : ∃ u, mg "NONE" = some u ∧ RelV (.int 1) u := let ⟨t, e⟩ := He.int_ok X G (c.t.d.fact 52 (f := .int "NONE" 1) rfl); ⟨_, e, ⟨t, rfl⟩⟩
  have con_TRUE : ∃ u, mg "TRUE" = some u ∧ RelV (.int 2) u := let ⟨t, e⟩ := He.int_ok X G (c.t.d.fact 53 (f := .int "TRUE" 2) rfl); ⟨_, e, ⟨t, rfl⟩⟩
  have con_FALSE : ∃ u, mg "FALSE" = some u ∧ RelV (.int 3) u := let ⟨t, e⟩ := He.int_ok X G (c.t.d.fact 54 (f := .int "FALSE" 3) rfl); ⟨_, e, ⟨t, rfl⟩⟩
  have con_NUMBER : ∃ u, mg "NUMBER" = some u ∧ RelV (.int 4) u := let ⟨t, e⟩ := He.int_ok X G (c.t.d.fact 55 (f := .int "NUMBER" 4) rfl); ⟨_, e, ⟨t, rfl⟩⟩
  have con_BELOW : ∃ u, mg "BELOW" = some u ∧ RelV (.int 5) u := let ⟨t, e⟩ := He.int_ok X G (c.t.d.fact 56 (f := .int "BELOW" 5) rfl); ⟨_, e, ⟨t, rfl⟩⟩
  have con_TEXT : ∃ u, mg "TEXT" = some u ∧ RelV (.int 6) u := let ⟨t, e⟩ := He.int_ok X G (c.t.d.fact 57 (f := .int "TEXT" 6) rfl); ⟨_, e, ⟨t, rfl⟩⟩
  have con_ROW : ∃ u, mg "ROW" = some u ∧ RelV (.int 7) u := let ⟨t, e⟩ := He.int_ok X G (c.t.d.fact 58 (f := .int "ROW" 7) rfl); ⟨_, e, ⟨t, rfl⟩⟩
  have con_MOST_DEEP : ∃ u, mg "MOST_DEEP" = some u ∧ RelV (.int 30) u := let ⟨t, e⟩ := He.int_ok X G (c.t.d.fact 59 (f := .int "MOST_DEEP" 30) rfl); ⟨_, e, ⟨t, rfl⟩⟩
  have con_SIGNS : ∃ u, mg "SIGNS" = some u ∧ RelV (.str SIGNS) u := let ⟨t, e⟩ := He.str_ok X G (c.t.d.fact 60 (f := .str "SIGNS" SIGNS) rfl); ⟨_, e, ⟨t, rfl⟩⟩
  obtain ⟨fd1, D1⟩ := c.t.d.def_ 0 (d := dfs1) rfl
  have F1 : Fun K "__init__" "Disk.__init__" sDInit (He.fAd K ("Disk", some "__init__")) fd1 := fun_ofD D1
  have b1 := F1.binds (ps := ["self"]) fun _ _ _ _ _ _ us hl => match us, hl with | [_], _ => rfl
  obtain ⟨fd2, D2⟩ := c.t.d.def_ 1 (d := dfs2) rfl
  have F2 : Fun K "arm" "Disk.arm" sArm (He.fAd K ("Disk", some "arm")) fd2 := fun_ofD D2
  have b2 := F2.binds (ps := ["self", "steps"]) fun _ _ _ _ _ _ us hl => match us, hl with | [_, _], _ => rfl
  obtain ⟨fd3, D3⟩ := c.t.d.def_ 2 (d := dfs3) rfl
  have F3 : Fun K "need_up" "Disk.need_up" sNeed (He.fAd K ("Disk", some "need_up")) fd3 := fun_ofD D3
  have b3 := F3.binds (ps := ["self"]) fun _ _ _ _ _ _ us hl => match us, hl with | [_], _ => rfl
  obtain ⟨fd4, D4⟩ := c.t.d.def_ 3 (d := dfs4) rfl
  have F4 : Fun K "append" "Disk.append" sDApp (He.fAd K ("Disk", some "append")) fd4 := fun_ofD D4
  have b4 := F4.binds (ps := ["self", "value"]) fun _ _ _ _ _ _ us hl => match us, hl with | [_, _], _ => rfl
  obtain ⟨fd5, D5⟩ := c.t.d.def_ 4 (d := dfs5) rfl
  have F5 : Fun K "sync" "Disk.sync" sSync (He.fAd K ("Disk", some "sync")) fd5 := fun_ofD D5
  have b5 := F5.binds (ps := ["self"]) fun _ _ _ _ _ _ us hl => match us, hl with | [_], _ => rfl
  obtain ⟨fd6, D6⟩ := c.t.d.def_ 5 (d := dfs6) rfl
  have F6 : Fun K "records" "Disk.records" sRecs (He.fAd K ("Disk", some "records")) fd6 := fun_ofD D6
  have b6 := F6.binds (ps := ["self"]) fun _ _ _ _ _ _ us hl => match us, hl with | [_], _ => rfl
  obtain ⟨fd7, D7⟩ := c.t.d.def_ 6 (d := dfs7) rfl
  have F7 : Fun K "replace" "Disk.replace" sRepl (He.fAd K ("Disk", some "replace")) fd7 := fun_ofD D7
  have b7 := F7.binds (ps := ["self", "name", "value", "records"]) fun _ _ _ _ _ _ us hl => match us, hl with | [_, _, _, _], _ => rfl
  obtain ⟨fd8, D8⟩ := c.t.d.def_ 7 (d := dfs8) rfl
  have F8 : Fun K "read_file" "Disk.read_file" sRFile (He.fAd K ("Disk", some "read_file")) fd8 := fun_ofD D8
  have b8 := F8.binds (ps := ["self", "name"]) fun _ _ _ _ _ _ us hl => match us, hl with | [_, _], _ => rfl
  obtain ⟨fd9, D9⟩ := c.t.d.def_ 8 (d := dfs9) rfl
  have F9 : Fun K "crash" "Disk.crash" sCrash (He.fAd K ("Disk", some "crash")) fd9 := fun_ofD D9
  have b9 := F9.binds (ps := ["self", "many"]) fun _ _ _ _ _ _ us hl => match us, hl with | [_, _], _ => rfl
  obtain ⟨fd10, D10⟩ := c.t.d.def_ 9 (d := dfs10) rfl
  have F10 : Fun K "restart" "Disk.restart" sRest (He.fAd K ("Disk", some "restart")) fd10 := fun_ofD D10
  have b10 := F10.binds (ps := ["self"]) fun _ _ _ _ _ _ us hl => match us, hl with | [_], _ => rfl
  obtain ⟨fd11, D11⟩ := c.t.d.def_ 10 (d := dfs11) rfl
  have F11 : Fun K "__init__" "Unpacker.__init__" sUInit (He.fAd K ("Unpacker", some "__init__")) fd11 := fun_ofD D11
  have b11 := F11.binds (ps := ["self", "data"]) fun _ _ _ _ _ _ us hl => match us, hl with | [_, _], _ => rfl
  obtain ⟨fd12, D12⟩ := c.t.d.def_ 11 (d := dfs12) rfl
  have F12 : Fun K "byte" "Unpacker.byte" sUByte (He.fAd K ("Unpacker", some "byte")) fd12 := fun_ofD D12
  have b12 := F12.binds (ps := ["self"]) fun _ _ _ _ _ _ us hl => match us, hl with | [_], _ => rfl
  obtain ⟨fd13, D13⟩ := c.t.d.def_ 12 (d := dfs13) rfl
  have F13 : Fun K "read_natural" "Unpacker.read_natural" sUNat (He.fAd K ("Unpacker", some "read_natural")) fd13 := fun_ofD D13
  have b13 := F13.binds (ps := ["self"]) fun _ _ _ _ _ _ us hl => match us, hl with | [_], _ => rfl
  obtain ⟨fd14, D14⟩ := c.t.d.def_ 13 (d := dfs14) rfl
  have F14 : Fun K "read_value" "Unpacker.read_value" sUVal (He.fAd K ("Unpacker", some "read_value")) fd14 := fun_ofD D14
  have b14 := F14.binds (ps := ["self"]) fun _ _ _ _ _ _ us hl => match us, hl with | [_], _ => rfl
  obtain ⟨fd15, D15⟩ := c.t.d.def_ 14 (d := dfs15) rfl
  have F15 : Fun K "text" "Unpacker.text" sUText (He.fAd K ("Unpacker", some "text")) fd15 := fun_ofD D15
  have b15 := F15.binds (ps := ["self"]) fun _ _ _ _ _ _ us hl => match us, hl with | [_], _ => rfl
  obtain ⟨fd16, D16⟩ := c.t.d.def_ 15 (d := dfs16) rfl
  have F16 : Fun K "natural" "natural" sNatural (He.fAd K ("natural", none)) fd16 := fun_ofD D16
  have b16 := F16.binds (ps := ["number"]) fun _ _ _ _ _ _ us hl => match us, hl with | [_], _ => rfl
  obtain ⟨fd17, D17⟩ := c.t.d.def_ 16 (d := dfs17) rfl
  have F17 : FunD K "pack" "pack" (defArgs sPack) (defBody sPack) (defScope sPack) [.int 0] [] (He.fAd K ("pack", none)) fd17 := D17
  obtain ⟨ds17_0, vds17_0, b17_0⟩ := F17.binds1 (ps := ["value", "depth"]) 1 0 (by simp) rfl fun _ _ _ _ _ _ _ us its h1 h2 => match us, its, h1, h2 with | [_], [_], _, _ => ⟨_, rfl, rfl⟩
  obtain ⟨ds17_1, vds17_1, b17_1⟩ := F17.binds1 (ps := ["value", "depth"]) 2 1 (by simp) rfl fun _ _ _ _ _ _ _ us its h1 h2 => match us, its, h1, h2 with | [_, _], [_], _, _ => ⟨_, rfl, rfl⟩
  obtain ⟨fd18, D18⟩ := c.t.d.def_ 17 (d := dfs18) rfl
  have F18 : Fun K "sign_number" "sign_number" sSignN (He.fAd K ("sign_number", none)) fd18 := fun_ofD D18
  have b18 := F18.binds (ps := ["sign"]) fun _ _ _ _ _ _ us hl => match us, hl with | [_], _ => rfl
  obtain ⟨fd19, D19⟩ := c.t.d.def_ 18 (d := dfs19) rfl
  have F19 : Fun K "sum_of_bytes" "sum_of_bytes" sSumB (He.fAd K ("sum_of_bytes", none)) fd19 := fun_ofD D19
  have b19 := F19.binds (ps := ["data"]) fun _ _ _ _ _ _ us hl => match us, hl with | [_], _ => rfl
  obtain ⟨fd20, D20⟩ := c.t.d.def_ 19 (d := dfs20) rfl
  have F20 : Fun K "four" "four" sFour (He.fAd K ("four", none)) fd20 := fun_ofD D20
  have b20 := F20.binds (ps := ["number"]) fun _ _ _ _ _ _ us hl => match us, hl with | [_], _ => rfl
  obtain ⟨fd21, D21⟩ := c.t.d.def_ 20 (d := dfs21) rfl
  have F21 : Fun K "frame" "frame" sFrame (He.fAd K ("frame", none)) fd21 := fun_ofD D21
  have b21 := F21.binds (ps := ["value"]) fun _ _ _ _ _ _ us hl => match us, hl with | [_], _ => rfl
  obtain ⟨fd22, D22⟩ := c.t.d.def_ 21 (d := dfs22) rfl
  have F22 : Fun K "unpack" "unpack" sUnpack (He.fAd K ("unpack", none)) fd22 := fun_ofD D22
  have b22 := F22.binds (ps := ["data"]) fun _ _ _ _ _ _ us hl => match us, hl with | [_], _ => rfl
  obtain ⟨fd23, D23⟩ := c.t.d.def_ 22 (d := dfs23) rfl
  have F23 : Fun K "read_frames" "read_frames" sReadF (He.fAd K ("read_frames", none)) fd23 := fun_ofD D23
  have b23 := F23.binds (ps := ["data"]) fun _ _ _ _ _ _ us hl => match us, hl with | [_], _ => rfl
  obtain ⟨fd24, D24⟩ := c.t.d.def_ 23 (d := dfs24) rfl
  have F24 : Fun K "_law_dice" "_law_dice" sDice (He.fAd K ("_law_dice", none)) fd24 := fun_ofD D24
  have b24 := F24.binds (ps := ["cell"]) fun _ _ _ _ _ _ us hl => match us, hl with | [_], _ => rfl
  obtain ⟨fd25, D25⟩ := c.t.d.def_ 24 (d := dfs25) rfl
  have F25 : Fun K "_law_roll" "_law_roll" sRoll (He.fAd K ("_law_roll", none)) fd25 := fun_ofD D25
  have b25 := F25.binds (ps := ["dice", "many"]) fun _ _ _ _ _ _ us hl => match us, hl with | [_, _], _ => rfl
  obtain ⟨fd26, D26⟩ := c.t.d.def_ 25 (d := dfs26) rfl
  have F26 : Fun K "_law_rounds" "_law_rounds" sRounds (He.fAd K ("_law_rounds", none)) fd26 := fun_ofD D26
  have b26 := F26.binds (ps := ["script", "most"]) fun _ _ _ _ _ _ us hl => match us, hl with | [_, _], _ => rfl
  obtain ⟨fd27, D27⟩ := c.t.d.def_ 26 (d := dfs27) rfl
  have F27 : Fun K "_law_told" "_law_told" sTold (He.fAd K ("_law_told", none)) fd27 := fun_ofD D27
  have b27 := F27.binds (ps := ["what"]) fun _ _ _ _ _ _ us hl => match us, hl with | [_], _ => rfl
  obtain ⟨fd28, D28⟩ := c.t.d.def_ 27 (d := dfs28) rfl
  have F28 : Fun K "_law_bytes" "_law_bytes" sLBytes (He.fAd K ("_law_bytes", none)) fd28 := fun_ofD D28
  have b28 := F28.binds (ps := ["rows"]) fun _ _ _ _ _ _ us hl => match us, hl with | [_], _ => rfl
  obtain ⟨fd29, D29⟩ := c.t.d.def_ 28 (d := dfs29) rfl
  have F29 : Fun K "law" "law" sLaw (He.fAd K ("law", none)) fd29 := fun_ofD D29
  have e := hfa0.symm.trans gl29
  cases e
  have TE := TE_StoreError
  have TL : TxtL mg := ⟨fr_abs, fr_int⟩
  have TG : TxtG mg := ⟨fr_int, fr_len, fr_list, fr_range⟩
  have XD : TxtDk K (He.ga K "Disk") := ⟨cl_Disk, (fun f hf => by
    simp only [nmD, List.mem_cons, List.not_mem_nil, or_false] at hf
    rcases hf with rfl | rfl | rfl | rfl | rfl | rfl
    · exact no_Disk_kept
    · exact no_Disk_waiting
    · exact no_Disk_files
    · exact no_Disk_syncs
    · exact no_Disk_fuse
    · exact no_Disk_down)⟩
  have XU : TxtU K mg (He.ga K "Unpacker") := ⟨cl_Unpacker, (fun f hf => by
    simp only [nmU, List.mem_cons, List.not_mem_nil, or_false] at hf
    rcases hf with rfl | rfl | rfl
    · exact no_Unpacker_data
    · exact no_Unpacker_place
    · exact no_Unpacker_nesting)⟩
  have TW : TxtW mg := ⟨fr_tuple, fr_len, fr_range, fr_isinstance, fr_int, fr_str, con_NONE, con_TRUE, con_FALSE, con_NUMBER, con_BELOW, con_TEXT, con_ROW, con_MOST_DEEP, con_SIGNS⟩
  obtain ⟨ocL, odL, kVL, dcL, pmL, anL, ctL, oslL, rfl, lkL, cdL⟩ := fun_code (p := ("law", none)) F29
  obtain ⟨ocG0, odG0, dVG0, kVG0, dcG0, pmG0, anG0, ctG0, oslG0, rfl, lkG0, cdG0⟩ := fun_codeD (p := ("pack", none)) F17
  obtain ⟨ocG1, odG1, kVG1, dcG1, pmG1, anG1, ctG1, oslG1, rfl, lkG1, cdG1⟩ := fun_code (p := ("Unpacker", some "read_value")) F14
  refine ⟨PySem.W.fnOf "law" "law" (defArgs sLaw) (defBody sLaw) (defScope sLaw) .none kVL dcL pmL anL (.ref (He.cT K ("law", none)).1) ctL, htf.map (He.cT K), spLaw K (He.cT K ("law", none)).2 (He.cT K ("pack", none)).2 (He.cT K ("Unpacker", some "read_value")).2, fun p hp => ?_, fun p hp => ?_, fun p hp => ?_, fun s v => .of_eq rfl, fun H a ns hlen _ hH hS => ⟨a, ns, rfl, hS, hlen, led3 (hH _ (List.mem_map.mpr ⟨_, .head _, rfl⟩)) (hH _ (List.mem_map.mpr ⟨_, .tail _ (.head _), rfl⟩)) (hH _ (List.mem_map.mpr ⟨_, .tail _ (.tail _ (.head _)), rfl⟩)) exs.2.2.1 exs.2.2.2.1 exs.2.2.2.2.1, fun _ => rfl⟩, fun base _ _ htb => ?_⟩
  · obtain ⟨x, hx, rfl⟩ := List.mem_map.mp hp
    exact c.empty x hx
  · obtain ⟨x, hx, rfl⟩ := List.mem_map.mp hp
    exact c.out x hx
  · obtain ⟨x, hx, rfl⟩ := List.mem_map.mp hp
    exact PySem.W.codeHd_of_K X (c.hd x hx)
  have hTBL := htb (He.cT K ("law", none)) (List.mem_map.mpr ⟨("law", none), (.head _), rfl⟩)
  have hTB0 := htb (He.cT K ("pack", none)) (List.mem_map.mpr ⟨("pack", none), (.tail _ (.head _)), rfl⟩)
  have hTB1 := htb (He.cT K ("Unpacker", some "read_value")) (List.mem_map.mpr ⟨("Unpacker", some "read_value"), (.tail _ (.tail _ (.head _))), rfl⟩)
  cases vds17_1
  have Wnat : Cal l.prog w K mg base (1) "natural" spNatural [] := ⟨_, _, _, [], ok_natural F16 TW, gl16, F16.kp, b16, .nil⟩
  have Wsgn : Cal l.prog w K mg base (1) "sign_number" spSignN [] := ⟨_, _, _, [], ok_signN F18 TW, gl18, F18.kp, b18, .nil⟩
  have Wpack : Cal l.prog w K mg base (5 + 2) "pack" (spPack (He.cT K ("pack", none)).2 2) [.int 0] := ⟨_, _, _, _, ok_pack (ds := []) lkG0 cdG0 ⟨hTB0.code, hTB0.bm, hTB0.gP⟩ TW gl17 F17.kp b17_1 Wnat Wsgn 2, gl17, F17.kp, b17_0, vds17_0⟩
  have Wsum : Cal l.prog w K mg base (1) "sum_of_bytes" spSumB [] := ⟨_, _, _, [], ok_sumB F19, gl19, F19.kp, b19, .nil⟩
  have Wfour : Cal l.prog w K mg base (1) "four" spFour [] := ⟨_, _, _, [], ok_four F20, gl20, F20.kp, b20, .nil⟩
  have Wframe : Cal l.prog w K mg base (6 + 2) "frame" (spFrame (He.cT K ("pack", none)).2 2) [] := ⟨_, _, _, [], ok_frame F21 TW Wpack Wfour Wsum, gl21, F21.kp, b21, .nil⟩
  have Wunp : Mak l.prog w K mg base 1 "Unpacker" (He.ga K "Unpacker") (spUInit (He.ga K "Unpacker")) [] := ⟨_, _, _, [], mk_Unpacker, ok_UInit F11 XU TW, gl_Unpacker, b11, .nil⟩
  have Wbyte : Met l.prog w K mg base (1) (He.ga K "Unpacker") "byte" (spUByte (He.ga K "Unpacker")) [] := ⟨_, _, _, [], cl_Unpacker, me12, ok_UByte F12 XU TW, b12, .nil⟩
  have Wrnat : Met l.prog w K mg base (2) (He.ga K "Unpacker") "read_natural" (spUNat (He.ga K "Unpacker")) [] := ⟨_, _, _, [], cl_Unpacker, me13, ok_UNat F13 XU Wbyte, b13, .nil⟩
  have Wtext : Met l.prog w K mg base (3) (He.ga K "Unpacker") "text" (spUText (He.ga K "Unpacker")) [] := ⟨_, _, _, [], cl_Unpacker, me15, ok_UText F15 XU TW Wbyte Wrnat, b15, .nil⟩
  have Wval : Met l.prog w K mg base (4 + 5 * 2) (He.ga K "Unpacker") "read_value" (spUVal (He.ga K "Unpacker") (He.cT K ("Unpacker", some "read_value")).2 2) [] := ⟨_, _, _, [], cl_Unpacker, me14, ok_UVal lkG1 cdG1 ⟨hTB1.code, hTB1.bm, hTB1.gP⟩ XU TW me14 b14 Wbyte Wrnat Wtext 2, b14, .nil⟩
  have Wunpack : Cal l.prog w K mg base (5 + 5 * 2) "unpack" (spUnpack (He.ga K "Unpacker") (He.cT K ("Unpacker", some "read_value")).2 2) [] := ⟨_, _, _, [], ok_unpack F22 XU TW Wunp Wval, gl22, F22.kp, b22, .nil⟩
  have Wread : Cal l.prog w K mg base (6 + 5 * 2) "read_frames" (spReadF (He.ga K "Unpacker") (He.cT K ("Unpacker", some "read_value")).2 2) [] := ⟨_, _, _, [], ok_readF F23 TW Wunpack Wsum, gl23, F23.kp, b23, .nil⟩
  have Dmk : Mak l.prog w K mg base 1 "Disk" (He.ga K "Disk") (spDInit (He.ga K "Disk")) [] := ⟨_, _, _, [], mk_Disk, ok_DInit F1 XD, gl_Disk, b1, .nil⟩
  have Darm : Met l.prog w K mg base (1) (He.ga K "Disk") "arm" (spArm (He.ga K "Disk")) [] := ⟨_, _, _, [], cl_Disk, me2, ok_arm F2 XD, b2, .nil⟩
  have Dneed : MetX l.prog w K mg base (1) (He.ga K "Disk") "need_up" (spNeed (He.ga K "Disk") (He.ga K "StoreError")) [] := ⟨_, _, _, [], cl_Disk, me3, ok_need F3 XD TE, b3, .nil⟩
  have Dapp : MetX l.prog w K mg base (7 + 2) (He.ga K "Disk") "append" (spDApp (He.ga K "Disk") (He.ga K "StoreError") (He.cT K ("pack", none)).2 2) [] := ⟨_, _, _, [], cl_Disk, me4, ok_DApp F4 XD Wframe Dneed, b4, .nil⟩
  have Dsync : MetX l.prog w K mg base (2) (He.ga K "Disk") "sync" (spSync (He.ga K "Disk") (He.ga K "StoreError")) [] := ⟨_, _, _, [], cl_Disk, me5, ok_sync F5 XD Dneed, b5, .nil⟩
  have Drecs : Met l.prog w K mg base (7 + 5 * 2) (He.ga K "Disk") "records" (spRecs (He.ga K "Disk") (He.cT K ("Unpacker", some "read_value")).2 2) [] := ⟨_, _, _, [], cl_Disk, me6, ok_recs F6 XD Wread, b6, .nil⟩
  have Drepl : MetX l.prog w K mg base (7 + 2) (He.ga K "Disk") "replace" (spRepl (He.ga K "Disk") (He.ga K "StoreError") (He.cT K ("pack", none)).2 2) [] := ⟨_, _, _, [], cl_Disk, me7, ok_repl F7 XD Wframe Dneed, b7, .nil⟩
  have Drfile : Met l.prog w K mg base (7 + 5 * 2) (He.ga K "Disk") "read_file" (spRFile (He.ga K "Disk") (He.cT K ("Unpacker", some "read_value")).2 2) [] := ⟨_, _, _, [], cl_Disk, me8, ok_rfile F8 XD TW Wread, b8, .nil⟩
  have Dcrash : Met l.prog w K mg base (1) (He.ga K "Disk") "crash" (spCrash (He.ga K "Disk")) [] := ⟨_, _, _, [], cl_Disk, me9, ok_crash F9 XD, b9, .nil⟩
  have Drest : Met l.prog w K mg base (7 + 5 * 2) (He.ga K "Disk") "restart" (spRest (He.ga K "Disk") (He.cT K ("Unpacker", some "read_value")).2 2) [] := ⟨_, _, _, [], cl_Disk, me10, ok_rest F10 XD Wread, b10, .nil⟩
  have Ldice : Cal l.prog w K mg base 1 "_law_dice" spDice [] := ⟨_, _, _, [], ok_dice F24 TL, gl24, F24.kp, b24, .nil⟩
  have Lroll : Cal l.prog w K mg base 1 "_law_roll" spRoll [] := ⟨_, _, _, [], ok_roll F25 TL, gl25, F25.kp, b25, .nil⟩
  have Lround : Cal l.prog w K mg base 2 "_law_rounds" (spRounds K) [] := ⟨_, _, _, [], ok_rounds F26 Ldice, gl26, F26.kp, b26, .nil⟩
  have Lby : Cal l.prog w K mg base (7 + 2) "_law_bytes" (spLBytes (He.cT K ("pack", none)).2 2) [] := ⟨_, _, _, [], ok_lbytes F28 Wframe, gl28, F28.kp, b28, .nil⟩
  refine fn_of lkL cdL scLaw (fun vs H Q E h => ?_) fun A outer s H vs Q E hr hsp => ?_
  · obtain ⟨a, ns, rfl, _⟩ := h
    rfl
  obtain ⟨t, ht, hq⟩ := law_body (f := He.fAd K ("law", none)) (cL := (He.cT K ("law", none)).1) (PL := (He.cT K ("law", none)).2) (A := A) (outer := outer) (s0 := s) (H0 := H) (E := E) hr TG Lround Lroll Dmk
    (st_step hr Lroll Darm (st_val hr Lroll) (st_deed hr TG Lroll (st_told hr TE hTBL F27 b27 gl27 Dapp Dsync Drepl)) (st_fall hr TG XD Lroll Lby Dcrash Drest) (st_chk2 hr XD Lby) (st_chk3 hr TG XD Drecs) (st_chk4 hr XD Drfile)) hsp
  exact ⟨t, ht.nox, hq⟩
end Sd
open PySem PySem.W PySem.Calls PyProof.Rows
set_option maxRecDepth 100000 in
set_option maxHeartbeats 0 in
theorem PySem.Challenge.cw_shardstack_k15_disks_that_go_down_holds : PySem.Challenge.rw_shardstack_k15_disks_that_go_down.Holds := by
  w_on; o_law
  refine HandSHeadRun.head_any (r := OpenLaw.row PySem.Challenge.rw_shardstack_k15_disks_that_go_down) (q := view (OpenLaw.row PySem.Challenge.rw_shardstack_k15_disks_that_go_down).prog [31]) (H := Sd.hk) (ob := Sd.hob) (M := 8000) (loose := Sd.hloose) (d := HandSHeadRun.topDef (OpenLaw.row PySem.Challenge.rw_shardstack_k15_disks_that_go_down).prog 31) (kwd := []) Sd.hob_eq
    (by kernel_rfl) (fun s => by kernel_rfl) Sd.hrun (by kernel_rfl) (by kernel_rfl) (by kernel_rfl) (by rfl) (by first | assumption | decide +kernel) (by decide +kernel) ⟨rfl, rfl, rfl, rfl, rfl, by decide +kernel⟩ ?hw ?hc
  case hw => w_witness2
  case hc =>
    refine LamX.walk_ofTsE (l := PySem.Challenge.rw_shardstack_k15_disks_that_go_down) (n := 63) (k := 19) (x := "script") (CX := fun _ => L2.CX0) rfl (by decide) (by kernel_rfl) ⟨rfl, by decide, by decide⟩ ?F (fun _ _ _ _ _ z => z)
    intro w mg fa h Y G hmg0
    obtain ⟨K, KX, c⟩ := Y
    have hmg : mg ("law" : PySem.Str) = some (.ref fa) := by
      have e : (HandSHeadRun.topDef (OpenLaw.row PySem.Challenge.rw_shardstack_k15_disks_that_go_down).prog 31).name = ("law" : PySem.Str) := by kernel_rfl
      rw [← e]
      exact hmg0
    exact ⟨K, KX, Sd.all_mk KX G hmg c⟩
#print axioms PySem.Challenge.cw_shardstack_k15_disks_that_go_down_holds

