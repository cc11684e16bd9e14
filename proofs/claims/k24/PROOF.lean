import PyProof.Rows.All
import Wide.All
import OpenK.AllK
import Wide.FinOn
import HandS.ForMost
import HandS.Flow
import HandS.Style
import HandS.Codes
import HandS.SortInts
import HandS.Conv
import HandS.Nested
import HandS.TryOnly
import HandS.ExcOwn
import HandS.WordsExc
import HandS.Small
import HandS.EndOwn
import HandS.Defaults
import KE.DataEq
import HandS.GenList
import HandS.AnyAll
import HandS.JoinGen
import PyProof.TupleOfGen
import HandS.Walk
import KE.DatumOrd
import HandS.Lambda
import HandS.HeadHook4
import HandS.HeadWalk
import HandS.Head2
import HandS.HeadEnd
import HandS.DeepEq
import HandS.DictComp
import KE.KEqNest
import HandS.More
import PyProof.TupleOfSeq
import HandS.IsInst
import HandS.Text
import HandS.TupAny
import PySem.Challenge.RW_shardstack_k24_steps_that_are_all_done_o
import PyProof.ConsumeS
import KE.KRevSl
import HandS.TryMany
import HandS.Keys
import KE.KExcLine
set_option Elab.async false
set_option maxRecDepth 100000
set_option maxHeartbeats 4000000
namespace Sd
open PySem L2

/-! ### the ledger: objects of the heap, all at different places -/
abbrev Lg := List (Addr × HO)
def Led (H : Hp) (L : Lg) : Prop := (∀ x ∈ L, H x.1 = some x.2) ∧ (L.map (·.1)).Nodup
/-- the object at a is known -/
def At (L : Lg) (a : Addr) (o : HO) : Prop := ∃ i : Nat, L[i]? = some (a, o)
section
variable {H H' : Hp} {L A B C R : Lg} {a p : Addr} {o o' : HO}
theorem Led.mem (h : Led H L) (m : (a, o) ∈ L) : H a = some o := h.1 _ m
theorem Led.at (h : Led H L) (e : At L a o) : H a = some o := let ⟨_, q⟩ := e; h.1 _ (List.mem_of_getElem? q)
theorem Led.ne (h : Led H L) (e : At L a o) (hp : H p = none) : a ≠ p := ne_of_none (h.at e) hp
theorem Led.nin (h : Led H L) (hp : H p = none) : p ∉ L.map (·.1) := fun m => by
  obtain ⟨x, hx, e⟩ := List.mem_map.mp m
  have := h.1 x hx
  rw [e, hp] at this
  cases this
theorem Led.new (h : Led H L) (hp : H p = none) : Led (upd H p o) ((p, o) :: L) := by
  refine ⟨fun x hx => ?_, ?_⟩
  · rcases List.mem_cons.mp hx with e | hx
    · rw [e]; exact upd_same
    · have := h.1 x hx
      rw [upd_ne (ne_of_none this hp)]; exact this
  · rw [List.map_cons]
    exact List.nodup_cons.mpr ⟨h.nin hp, h.2⟩
theorem Led.skip (h : Led H L) (hp : H p = none) : Led (upd H p o) L :=
  let q := h.new (o := o) hp
  ⟨fun x hx => q.1 x (List.mem_cons_of_mem _ hx), h.2⟩
theorem Led.perm (h : Led H L) (q : L.Perm B) : Led H B := ⟨fun x hx => h.1 x (q.mem_iff.mpr hx), (q.map _).nodup_iff.mp h.2⟩
theorem Led.head (h : Led H ((a, o) :: B)) : Led (upd H a o') ((a, o') :: B) := by
  have n : a ∉ B.map (·.1) := (List.nodup_cons.mp h.2).1
  refine ⟨fun x hx => ?_, h.2⟩
  rcases List.mem_cons.mp hx with e | hx
  · rw [e]; exact upd_same
  · rw [upd_ne (fun e => n (List.mem_map.mpr ⟨x, hx, e⟩))]
    exact h.1 x (List.mem_cons_of_mem _ hx)
theorem Led.mid (h : Led H (A ++ (a, o) :: B)) : Led (upd H a o') (A ++ (a, o') :: B) :=
  (((h.perm List.perm_middle).head (o' := o')).perm List.perm_middle.symm)
theorem Led.set (i : Nat) (h : Led H L) (e : L[i]? = some (a, o)) : Led (upd H a o') (L.set i (a, o')) := by
  obtain ⟨hi, e⟩ := List.getElem?_eq_some_iff.mp e
  have s1 : L = L.take i ++ (a, o) :: L.drop (i + 1) := by
    rw [← e, List.getElem_cons_drop, List.take_append_drop]
  rw [s1] at h
  have q := h.mid (o' := o')
  rw [List.set_eq_take_append_cons_drop, if_pos hi]
  exact q
theorem Led.swap (h : Led H (A ++ (B ++ C))) : Led H (B ++ (A ++ C)) := by
  refine h.perm ?_
  rw [← List.append_assoc, ← List.append_assoc]
  exact List.perm_append_comm.append_right _
theorem Led.sub (h : Led H L) (q : B.Sublist L) : Led H B := ⟨fun x hx => h.1 x (q.subset hx), h.2.sublist (q.map _)⟩
theorem Led.drop (h : Led H (A ++ B)) : Led H B := h.sub (List.sublist_append_right _ _)
theorem Led.left (h : Led H (A ++ B)) : Led H A := h.sub (List.sublist_append_left _ _)
theorem Led.tail (h : Led H ((a, o) :: B)) : Led H B := h.sub (List.sublist_cons_self _ _)
theorem Led.nil : Led H [] := ⟨fun _ hx => (nomatch hx), List.nodup_nil⟩
theorem Led.mono (h : Led H L) (e : ∀ x ∈ L, H' x.1 = some x.2) : Led H' L := ⟨e, h.2⟩
end

/-! ### an instance's attributes, a dict with written keys: names and values -/
def fz (names : List Str) (vals : List V) : List (Str × V) := names.zip vals
def dz (names : List Str) (vals : List V) : List (Key × V) := (names.map Sum.inr).zip vals
theorem fz_at {f : Str} {v : V} : ∀ (i : Nat) {names : List Str} {vals : List V}, names.Nodup → names[i]? = some f → vals[i]? = some v → (fz names vals).lookup f = some v
  | 0, n :: ns, w :: ws, _, h1, h2 => by
    simp only [List.getElem?_cons_zero, Option.some.injEq] at h1 h2
    subst h1 h2
    simp [fz]
  | i + 1, n :: ns, w :: ws, nd, h1, h2 => by
    rw [List.getElem?_cons_succ] at h1 h2
    obtain ⟨n1, n2⟩ := List.nodup_cons.mp nd
    have ne : ¬ f = n := fun e => n1 (e ▸ List.mem_of_getElem? h1)
    have ih := fz_at i n2 h1 h2
    unfold fz at ih ⊢
    rw [List.zip_cons_cons, List.lookup_cons, beq_eq_false_iff_ne.mpr ne]
    exact ih
  | _, [], _, _, h1, _ => by simp at h1
  | _, _ :: _, [], _, _, h2 => by simp at h2
theorem fz_no {f : Str} : ∀ {names : List Str} {vals : List V}, f ∉ names → (fz names vals).lookup f = none
  | [], _, _ => by simp [fz]
  | _ :: _, [], _ => by simp [fz]
  | n :: ns, w :: ws, h => by
    have ne : ¬ f = n := fun e => h (by rw [e]; exact List.mem_cons_self)
    have ih := fz_no (f := f) (names := ns) (vals := ws) fun m => h (List.mem_cons_of_mem _ m)
    unfold fz at ih ⊢
    rw [List.zip_cons_cons, List.lookup_cons, beq_eq_false_iff_ne.mpr ne]
    exact ih
theorem fz_put {f : Str} {v : V} : ∀ (i : Nat) {names : List Str} {vals : List V}, names.Nodup → names[i]? = some f → i < vals.length → putF f v (fz names vals) = fz names (vals.set i v)
  | 0, n :: ns, w :: ws, _, h1, _ => by
    simp only [List.getElem?_cons_zero, Option.some.injEq] at h1
    subst h1
    unfold fz
    rw [List.zip_cons_cons, putF, if_pos rfl]
    rfl
  | i + 1, n :: ns, w :: ws, nd, h1, h2 => by
    rw [List.getElem?_cons_succ] at h1
    obtain ⟨n1, n2⟩ := List.nodup_cons.mp nd
    have ne : ¬ n = f := fun e => n1 (e.symm ▸ List.mem_of_getElem? h1)
    have ih := fz_put (v := v) i (vals := ws) n2 h1 (by simpa using h2)
    unfold fz at ih ⊢
    rw [List.zip_cons_cons, putF, if_neg ne, ih]
    rfl
  | _, [], _, _, h1, _ => by simp at h1
  | _, _ :: _, [], _, _, h2 => by simp at h2
theorem fz_new {f : Str} {v : V} : ∀ {names : List Str} {vals : List V}, f ∉ names → names.length = vals.length → putF f v (fz names vals) = fz (names ++ [f]) (vals ++ [v])
  | [], [], _, _ => rfl
  | [], _ :: _, _, h => by simp at h
  | _ :: _, [], _, h => by simp at h
  | n :: ns, w :: ws, h, hl => by
    have ne : ¬ n = f := fun e => h (by rw [e]; exact List.mem_cons_self)
    have ih := fz_new (f := f) (v := v) (names := ns) (vals := ws) (fun m => h (List.mem_cons_of_mem _ m)) (by simpa using hl)
    unfold fz at ih ⊢
    rw [List.zip_cons_cons, putF, if_neg ne, ih]
    rfl
theorem fz_len {names : List Str} {vals : List V} : (fz names vals).length ≤ names.length := by
  unfold fz
  rw [List.length_zip]
  exact Nat.min_le_left _ _
theorem fz_nil : ([] : List (Str × V)) = fz [] [] := rfl
theorem dz_at {f : Str} {v : V} : ∀ (i : Nat) {names : List Str} {vals : List V}, names.Nodup → names[i]? = some f → vals[i]? = some v → valV (dz names vals) (Sum.inr f) = some v
  | 0, n :: ns, w :: ws, _, h1, h2 => by
    simp only [List.getElem?_cons_zero, Option.some.injEq] at h1 h2
    subst h1 h2
    exact valV_pos (p := (Sum.inr n, w)) rfl
  | i + 1, n :: ns, w :: ws, nd, h1, h2 => by
    rw [List.getElem?_cons_succ] at h1 h2
    obtain ⟨n1, n2⟩ := List.nodup_cons.mp nd
    have ne : ¬ (Sum.inr n : Key) = Sum.inr f := fun e => n1 ((Sum.inr.inj e).symm ▸ List.mem_of_getElem? h1)
    have ih := dz_at i n2 h1 h2
    show valV ((Sum.inr n, w) :: dz ns ws) (Sum.inr f) = some v
    rw [valV_neg ne]
    exact ih
  | _, [], _, _, h1, _ => by simp at h1
  | _, _ :: _, [], _, _, h2 => by simp at h2
theorem dz_put {f : Str} {v : V} (i : Nat) {names : List Str} {vals : List V} (nd : names.Nodup) (h1 : names[i]? = some f) (h2 : i < vals.length) : putK (dz names vals) (Sum.inr f) v = dz names (vals.set i v) := by
  have e1 : vals[i]? = some vals[i] := List.getElem?_eq_getElem h2
  have hs : valV (dz names vals) (Sum.inr f) = some vals[i] := dz_at i nd h1 e1
  unfold putK
  rw [valV_any, hs]
  rw [if_pos (by rfl)]
  clear hs e1
  induction names generalizing vals i with
  | nil => simp at h1
  | cons n ns ih =>
    cases vals with
    | nil => simp at h2
    | cons w ws =>
      obtain ⟨n1, n2⟩ := List.nodup_cons.mp nd
      cases i with
      | zero =>
        simp only [List.getElem?_cons_zero, Option.some.injEq] at h1
        subst h1
        show (if (Sum.inr n : Key) = Sum.inr n then ((Sum.inr n : Key), v) else (Sum.inr n, w)) :: (dz ns ws).map _ = (Sum.inr n, v) :: dz ns ws
        rw [if_pos rfl]
        congr 1
        have : ∀ kv ∈ dz ns ws, (fun kv : Key × V => if kv.1 = Sum.inr n then (kv.1, v) else kv) kv = id kv := fun kv hk => by
          have m : kv.1 ∈ ns.map (Sum.inr : Str → Key) := (List.of_mem_zip hk).1
          obtain ⟨z, hz, e⟩ := List.mem_map.mp m
          have ne : ¬ kv.1 = Sum.inr n := fun q => n1 (by rw [← e] at q; exact (Sum.inr.inj q) ▸ hz)
          simp [ne]
        rw [List.map_congr_left this, List.map_id]
      | succ i =>
        rw [List.getElem?_cons_succ] at h1
        have ne : ¬ (Sum.inr n : Key) = Sum.inr f := fun e => n1 ((Sum.inr.inj e).symm ▸ List.mem_of_getElem? h1)
        show (if (Sum.inr n : Key) = Sum.inr f then ((Sum.inr n : Key), v) else (Sum.inr n, w)) :: (dz ns ws).map _ = (Sum.inr n, w) :: dz ns (ws.set i v)
        rw [if_neg ne, ih i n2 h1 (by simpa using h2)]
theorem mergeK_nd : ∀ (more kvs : List (Key × V)), ((kvs ++ more).map (·.1)).Nodup → mergeK kvs more = kvs ++ more
  | [], kvs, _ => by rw [List.append_nil]; rfl
  | p :: r, kvs, h => by
    have hp : valV kvs p.1 = none := by
      cases e : valV kvs p.1 with
      | none => rfl
      | some v =>
        have m := valV_in e
        rw [List.map_append, List.map_cons] at h
        have := (List.nodup_append.mp h).2.2 _ m _ List.mem_cons_self
        exact absurd rfl this
    have e : mergeK kvs (p :: r) = mergeK (putK kvs p.1 p.2) r := rfl
    rw [e, putK_new _ hp, mergeK_nd r (kvs ++ [(p.1, p.2)]) (by rw [List.append_assoc]; exact h), List.append_assoc]
    rfl
end Sd


namespace Sd
open PySem L2
/-- a word that the walk does not open -/
inductive Hold (p : Prop) : Prop where
  | mk (h : p)
  | mk' (h : p)
theorem Hold.out {p : Prop} (h : Hold p) : p := by cases h <;> assumption

section
variable {K : PySem.W.Frag} {H H1 : Hp} {L : Lg} {a b l p q : Addr} {o : HO} {P : V → Prop} {f : Str} {C dx : Addr} {fs : List (Str × V)} {v y : V} {xs ys : List V} {kvs : List (Key × V)} {names : List Str} {vals : List V}
theorem k_fld {P : Addr → Addr → V → Prop} (hL : Led H L) (e : At L a (.ins C dx fs)) (c : Cls K C) (n : NoAttr K C f) (lk : fs.lookup f = some v) (q : P a C v) :
    ∃ a' C' dx' fs' v', V.ref a = .ref a' ∧ H a' = some (.ins C' dx' fs') ∧ Cls K C' ∧ NoAttr K C' f ∧ fs'.lookup f = some v' ∧ P a' C' v' := ⟨_, _, _, _, _, rfl, hL.at e, c, n, lk, q⟩
/-- the ledger behind a change at a -/
def Upd (L : Lg) (a : Addr) (o o' : HO) (L' : Lg) : Prop := ∃ i : Nat, L[i]? = some (a, o) ∧ L' = L.set i (a, o')
theorem Upd.at {o' : HO} {L' : Lg} (u : Upd L a o o' L') : At L a o := let ⟨i, e, _⟩ := u; ⟨i, e⟩
theorem Led.upU {o' : HO} {L' : Lg} (hL : Led H L) (u : Upd L a o o' L') (hH : L2.upd H a o' = H1) : Led H1 L' := by
  obtain ⟨i, e, rfl⟩ := u
  rw [← hH]; exact hL.set i e
theorem Led.upF {fs' : List (Str × V)} {L' : Lg} (hL : Led H L) (u : Upd L a (.ins C dx fs) (.ins C dx fs') L') (e : putF f v fs = fs') (hH : L2.upd H a (.ins C dx (putF f v fs)) = H1) : Led H1 L' := by
  rw [e] at hH; exact hL.upU u hH
theorem Led.newH (hL : Led H L) (hp : H p = none) (hH : L2.upd H p o = H1) : Led H1 ((p, o) :: L) := by
  rw [← hH]; exact hL.new hp
theorem Led.made {x : Addr} (hL : Led H L) (hx : H x = none) (hd : H dx = none) (ne : dx ≠ x) (hH : L2.upd (L2.upd H dx (.own x)) x (.ins C dx []) = H1) : Led H1 ((x, .ins C dx (fz [] [])) :: L) := by
  rw [← hH]; exact (hL.skip hd).new (by rw [upd_ne ne.symm]; exact hx)
theorem Led.last {A R : Lg} {x : Addr × HO} (h : Led H (x :: (A ++ R))) : Led H ((A ++ [x]) ++ R) := by
  refine h.perm ?_
  rw [List.append_assoc]
  exact List.perm_middle.symm
/-- o.m(..): the object -/
theorem k_meth {P : Prop} (hL : Led H L) (e : At L a (.ins C dx fs)) (lk : fs.lookup f = none) (q : P) :
    ∃ a' dx' fs', V.ref a = .ref a' ∧ H a' = some (.ins C dx' fs') ∧ fs'.lookup f = none ∧ P := ⟨_, _, _, rfl, hL.at e, lk, q⟩
theorem k_dgetS {P : Addr → V → Prop} {x : Str} (hL : Led H L) (e : At L a (.dK kvs)) (lk : valV kvs (.inr x) = some v) (q : P a v) : ∃ a' v', V.ref a = .ref a' ∧ DGet H a' (.str x) (some v') ∧ P a' v' :=
  ⟨_, _, rfl, lk ▸ (DGet.k (k := .inr x) (hL.at e)), q⟩
theorem k_dgetI {P : Addr → V → Prop} {n : Int} (hL : Led H L) (e : At L a (.dK kvs)) (lk : valV kvs (.inl n) = some v) (q : P a v) : ∃ a' v', V.ref a = .ref a' ∧ DGet H a' (.int n) (some v') ∧ P a' v' :=
  ⟨_, _, rfl, lk ▸ (DGet.k (k := .inl n) (hL.at e)), q⟩
theorem k_dinS {P : Option V → Prop} {x : Str} (hL : Led H L) (e : At L a (.dK kvs)) (q : P (valV kvs (.inr x))) : ∃ a' o', V.ref a = .ref a' ∧ DGet H a' (.str x) o' ∧ P o' :=
  ⟨_, _, rfl, DGet.k (k := .inr x) (hL.at e), q⟩
theorem k_dinI {P : Option V → Prop} {n : Int} (hL : Led H L) (e : At L a (.dK kvs)) (q : P (valV kvs (.inl n))) : ∃ a' o', V.ref a = .ref a' ∧ DGet H a' (.int n) o' ∧ P o' :=
  ⟨_, _, rfl, DGet.k (k := .inl n) (hL.at e), q⟩
/-- d.get(k): the dict, then the answer -/
theorem k_isd {P : Prop} (hL : Led H L) (e : At L a (.dK kvs)) (q : P) : IsD H a ∧ P := ⟨.inl ⟨_, .inl (hL.at e)⟩, q⟩
theorem k_lenL' {P : Prop} (hL : Led H L) (e : At L l (.lst xs)) (q : P) : (SqL K H l xs ∨ SqT K H l xs) ∧ P := ⟨.inl (.of (hL.at e)), q⟩
theorem k_getI {P : Option V → Prop} {n : Int} (hL : Led H L) (e : At L a (.dK kvs)) (q : P (valV kvs (.inl n))) : ∃ o', DGet H a (.int n) o' ∧ P o' := ⟨_, DGet.k (k := .inl n) (hL.at e), q⟩
theorem k_getS {P : Option V → Prop} {x : Str} (hL : Led H L) (e : At L a (.dK kvs)) (q : P (valV kvs (.inr x))) : ∃ o', DGet H a (.str x) o' ∧ P o' := ⟨_, DGet.k (k := .inr x) (hL.at e), q⟩
theorem k_popI {P : List (Key × V) → Key → V → Prop} {n : Int} (hL : Led H L) (e : At L a (.dK kvs)) (lk : valV kvs (.inl n) = some v) (q : P kvs (.inl n) v) :
    ∃ kvs' k' v', H a = some (.dK kvs') ∧ V.int n = kV k' ∧ valV kvs' k' = some v' ∧ P kvs' k' v' := ⟨_, .inl n, _, hL.at e, rfl, lk, q⟩
theorem k_listD {P : List (Key × V) → Prop} (hL : Led H L) (e : At L a (.dK kvs)) (q : P kvs) : ∃ p kvs', [V.ref a] = [.ref p] ∧ H p = some (.dK kvs') ∧ P kvs' := ⟨_, _, rfl, hL.at e, q⟩
theorem Led.front {A B : Lg} {x : Addr × HO} (h : Led H (A ++ x :: B)) : Led H (x :: (A ++ B)) := h.perm List.perm_middle
theorem Led.back {A B : Lg} {x : Addr × HO} (h : Led H (x :: (A ++ B))) : Led H (A ++ x :: B) := h.perm List.perm_middle.symm
theorem k_dputS {P : Hp → Prop} {x : Str} {kvs' : List (Key × V)} {L' : Lg} (hL : Led H L) (e : At L a (.dK kvs)) (hz : kvs.length < sizeLine) (ep : putK kvs (.inr x) v = kvs') (u : Upd L a (.dK kvs) (.dK kvs') L')
    (q : ∀ H1, Led H1 L' → P H1) : ∃ a' H4, V.ref a = .ref a' ∧ DPut H a' (.str x) v H4 ∧ P H4 :=
  ⟨_, _, rfl, DPut.k (k := .inr x) (hL.at e) hz, q _ (hL.upU (ep ▸ u) rfl)⟩
theorem k_dputI {P : Hp → Prop} {n : Int} {kvs' : List (Key × V)} {L' : Lg} (hL : Led H L) (e : At L a (.dK kvs)) (hz : kvs.length < sizeLine) (ep : putK kvs (.inl n) v = kvs') (u : Upd L a (.dK kvs) (.dK kvs') L')
    (q : ∀ H1, Led H1 L' → P H1) : ∃ a' H4, V.ref a = .ref a' ∧ DPut H a' (.int n) v H4 ∧ P H4 :=
  ⟨_, _, rfl, DPut.k (k := .inl n) (hL.at e) hz, q _ (hL.upU (ep ▸ u) rfl)⟩
theorem dz_len : (dz names vals).length ≤ names.length := by unfold dz; rw [List.length_zip, List.length_map]; exact Nat.min_le_left _ _
theorem k_ixL {n : Int} (hL : Led H L) (e : At L l (.lst xs)) (lk : atI xs n = some v) (q : P v) : ∃ p xs' i v', V.ref l = .ref p ∧ V.int n = .int i ∧ SqL K H p xs' ∧ atI xs' i = some v' ∧ P v' :=
  ⟨_, _, _, _, rfl, rfl, .of (hL.at e), lk, q⟩
theorem k_ixT {n : Int} (hL : Led H L) (e : At L l (.tup xs)) (lk : atI xs n = some v) (q : P v) : ∃ p xs' i v', V.ref l = .ref p ∧ V.int n = .int i ∧ SqT K H p xs' ∧ atI xs' i = some v' ∧ P v' :=
  ⟨_, _, _, _, rfl, rfl, .of (hL.at e), lk, q⟩
theorem k_tyL {P : Prop} (hL : Led H L) (e : At L l (.lst xs)) (q : P) : tyV K "list" (.ref l) H ∧ P := ⟨.inl ⟨rfl, _, .of (hL.at e)⟩, q⟩
theorem k_lenL {P : Nat → Prop} (hL : Led H L) (e : At L l (.lst xs)) (q : P xs.length) : ∃ p ys, [V.ref l] = [.ref p] ∧ (SqL K H p ys ∨ SqT K H p ys) ∧ P ys.length := ⟨_, _, rfl, .inl (.of (hL.at e)), q⟩
theorem k_lenT {P : Nat → Prop} (hL : Led H L) (e : At L l (.tup xs)) (q : P xs.length) : ∃ p ys, [V.ref l] = [.ref p] ∧ (SqL K H p ys ∨ SqT K H p ys) ∧ P ys.length := ⟨_, _, rfl, .inr (.of (hL.at e)), q⟩
theorem k_gtup {P : List V → Prop} {n : Nat} (hL : Led H L) (e : At L a (.tup xs)) (hn : xs.length = n) (q : P xs) : ∃ a' xs', V.ref a = .ref a' ∧ SqT K H a' xs' ∧ xs'.length = n ∧ P xs' := ⟨_, _, rfl, .of (hL.at e), hn, q⟩
theorem k_cat {Q : VK} (hL : Led H L) (e1 : At L l (.lst xs)) (e2 : At L b (.lst ys)) (hz : xs.length + ys.length ≤ sizeLine) (q : ∀ p, H p = none → Q (.ref p) (L2.upd H p (.lst (xs ++ ys)))) : rCat (.ref l) (.ref b) H Q :=
  ⟨_, _, _, _, rfl, rfl, hL.at e1, hL.at e2, hz, q⟩
theorem k_yes {σ : L2.St} {A B : Hp → Prop} (h : A H) : tYes σ H fun b H3 => if b = true then A H3 else B H3 := by
  show (if true = true then A H else B H)
  rw [if_pos rfl]
  exact h
theorem ite_d {c A B : Prop} [Decidable c] (a : c → A) (b : ¬ c → B) : if decide c = true then A else B := by
  by_cases h : c
  · rw [if_pos (decide_eq_true h)]; exact a h
  · rw [if_neg (by rw [decide_eq_false h]; decide)]; exact b h
theorem ite_n {c A B : Prop} [Decidable c] (a : ¬ c → A) (b : c → B) : if (!decide c) = true then A else B := by
  by_cases h : c
  · rw [decide_eq_true h]; exact b h
  · rw [decide_eq_false h]; exact a h
theorem ite_b {b : Bool} {A B : Prop} (h1 : b = true → A) (h2 : b = false → B) : if b = true then A else B := by
  cases b with
  | true => exact h1 rfl
  | false => exact h2 rfl
theorem ite_t {b : Bool} {A B : Prop} (e : b = true) (h : A) : if b = true then A else B := by rw [if_pos e]; exact h
theorem ite_f {b : Bool} {A B : Prop} (e : b = false) (h : B) : if b = true then A else B := by rw [e]; exact h
end
end Sd


/-! A lambda without parameters as a value: made, kept, called by another def; what told makes of it. -/
namespace Sd
open PySem PySem.Spec PyProof.Rows L2 LamX NdefX
/-- the object at f is the lambda whose words F tells, its body b -/
def LamO (f : Addr) (F : NF) (b : Expr) : HO := .ext fun h => ∃ pm ctv : Value, h.get? f = some (PySem.W.kla_obj F.name F.qual F.params b F.scope F.cl pm F.c ctv)
theorem lamO_at {P : Program} {w : World} {H : Hp} {h : Heap} {f : Addr} {F : NF} {b : Expr} (hok : HOk P w H h) (e : H f = some (LamO f F b)) : ∃ pm ctv : Value, h.get? f = some (PySem.W.kla_obj F.name F.qual F.params b F.scope F.cl pm F.c ctv) :=
  (hok f _ e).1
section
variable {X : Cx} {pins : List (Addr × Obj)} {σ : L2.St} {H : Hp} {s : Shared}
theorem inv_lam {F : NF} {b : Expr} {t' : Nat} {pm ctv : Value} (I : Inv X pins σ H s) :
    Inv X pins σ (upd H s.heap.objs.size (LamO s.heap.objs.size F b)) { s with heap := s.heap.push (PySem.W.kla_obj F.name F.qual F.params b F.scope F.cl pm F.c ctv), toks := t' } := by
  have e : (s.heap.push (PySem.W.kla_obj F.name F.qual F.params b F.scope F.cl pm F.c ctv)).get? s.heap.objs.size = some (PySem.W.kla_obj F.name F.qual F.params b F.scope F.cl pm F.c ctv) := Heap.get?_push_size _ rfl
  exact I.laid (fun b u e => Heap.get?_push_of_some _ e) (Nat.le_refl _) ⟨⟨pm, ctv, e⟩, ⟨_, e⟩, fun h1 h2 ⟨p, t, z⟩ st => ⟨p, t, st _ z⟩⟩
theorem lam_value {q : Str} {c P : Addr} {params : Arguments} {body : Expr} {scope : Scope} {pos : Pos} {E : Value → Shared → Prop} {Q : Value → Shared → Prop} (I : Inv X pins σ H s) (TB : TabB X.base X.mg c P) (hcode : X.env.code = .ref c) (hq : X.env.qual ++ "<lambda>" = q)
    (hT : TabS H P q) (hdef : defaultsOf params X.env = ([], [])) (hfree : ∀ y ∈ scope.names, y.2 = .free → ∃ c, X.env.cells.lookup y.1 = some c)
    (h : ∀ (f c' : Addr) (H1 : Hp) (s' : Shared), Inv X pins σ H1 s' → ExtN H H1 → TabS H1 P q → H f = none → H1 f = some (LamO f ⟨"<lambda>", q, params, [], scope, cloFrom X.env.cells scope.names [], c'⟩ body) → H1 c' = some (CodeO c' q) → Q (.ref f) s') :
    wpAny (model X.prog X.w) X.A (eval (.Lambda params body scope pos) X.env) Q E s := by
  subst hq
  obtain ⟨ps, hP, ht, ha⟩ := hT
  have bP : s.heap.BuiltinsAt X.mg P := TB.bm.keeps I.bk
  have hP' : s.heap.get? P = some { cls := .none, data := .fields ps } := I.hok P _ hP
  refine PySem.W.kla_eval hdef ?_
  rcases hc : codeAmong pos ps.toList with _ | cv
  · refine PySem.W.kla_makeFunction (mg := X.mg) (c := c) (P := P) (ps := ps) (closure_ok hfree) I.ok.glob (I.mod.glob.keeps I.bk) hcode (TB.code.keeps I.bk) hP' ht hc TB.gP bP fun c' ctv h' tk hx hge hlt hrec htb => ?_
    obtain ⟨_, oc, vs, t, e2, hoc, hd, hv⟩ := hrec
    cases e2
    have nC : H c' = none := I.hok.fresh hge
    have I1 := inv_table (t' := tk) (more := #[rawInt pos.line, rawInt pos.col, .ref c']) (h' := h') I hP (fun b o hb e => hx b o hb e) htb hge ⟨oc, vs, t, hoc, hd, hv⟩
    have eN : ExtN H (upd (upd H P (.tbl (ps ++ #[rawInt pos.line, rawInt pos.col, .ref c']))) c' (CodeO c' (X.env.qual ++ "<lambda>"))) := fun b o e n => by
      rw [upd_ne (ne_of_none e nC), upd_ne (fun z => n ps (Option.some.inj (e.symm.trans (by rw [z]; exact hP))))]
      exact e
    have nF := I1.hok.fresh (Nat.le_refl _)
    have I2 := inv_lam (F := ⟨"<lambda>", X.env.qual ++ "<lambda>", params, [], scope, cloFrom X.env.cells scope.names [], c'⟩) (b := body) (t' := tk) (pm := (X.mg "__name__").getD .none) (ctv := ctv) I1
    have T1 : TabS (upd (upd H P (.tbl (ps ++ #[rawInt pos.line, rawInt pos.col, .ref c']))) c' (CodeO c' (X.env.qual ++ "<lambda>"))) P (X.env.qual ++ "<lambda>") := by
      have eL : (ps ++ #[rawInt pos.line, rawInt pos.col, .ref c']).toList = ps.toList ++ [rawInt pos.line, rawInt pos.col, .ref c'] := by simp
      refine ⟨_, by rw [upd_ne (ne_of_none hP nC), upd_same], by rw [eL]; exact PySem.TriplesOk_snoc _ _ _ _ ht, fun p' cv hcv => ?_⟩
      rw [eL] at hcv
      rcases among_app _ ht hcv with z | z
      · obtain ⟨c0, e1, e2⟩ := ha p' cv z
        exact ⟨c0, e1, eN _ _ e2 codeO_ne⟩
      · exact ⟨c', z, upd_same⟩
    refine h h'.objs.size c' _ _ I2 (fun b o e n => ?_) (T1.ext fun b o e => ?_) (I.hok.fresh (Nat.le_trans hge (Nat.le_of_lt hlt))) upd_same ?_
    · have e1 := eN b o e n
      exact (upd_ne (ne_of_none e1 nF)).trans e1
    · exact (upd_ne (ne_of_none e nF)).trans e
    · exact (upd_ne (Nat.ne_of_lt hlt)).trans upd_same
  · obtain ⟨c', e, hco⟩ := ha pos cv hc
    subst e
    refine PySem.W.kla_makeFunctionHit (mg := X.mg) (c := c) (P := P) (ps := ps) (closure_ok hfree) I.ok.glob (I.mod.glob.keeps I.bk) hcode (TB.code.keeps I.bk) hP' ht hc bP fun ctv h' tk hx hsz => ?_
    have I1 : Inv X pins σ H { s with heap := h', toks := tk } := I.kept hx
    have nF : H h'.objs.size = none := I1.hok.fresh (Nat.le_refl _)
    have I2 := inv_lam (F := ⟨"<lambda>", X.env.qual ++ "<lambda>", params, [], scope, cloFrom X.env.cells scope.names [], c'⟩) (b := body) (t' := tk) (pm := (X.mg "__name__").getD .none) (ctv := ctv) I1
    refine h h'.objs.size c' _ _ I2 (fun b o e n => ?_) (TabS.ext ⟨ps, hP, ht, ha⟩ fun b o e => ?_) nF upd_same ?_
    · exact (upd_ne (ne_of_none e nF)).trans e
    · exact (upd_ne (ne_of_none e nF)).trans e
    · exact (upd_ne (ne_of_none hco nF)).trans hco
end
/-- lambda: body; the names that it captures: none -/
def tLamV (P : Addr) (q : Str) (params : Arguments) (body : Expr) (scope : Scope) : TE := fun _ H Q => TabS H P q ∧ ∀ (f c' : Addr) (H1 : Hp), ExtN H H1 → TabS H1 P q → H f = none → H1 f = some (LamO f ⟨"<lambda>", q, params, [], scope, [], c'⟩ body) → H1 c' = some (CodeO c' q) → Q (.ref f) H1
theorem clo_nil {cells : List (Str × Addr)} : ∀ {names : List (Str × NameKind)}, (∀ y ∈ names, y.2 ≠ .free) → cloFrom cells names [] = []
  | [], _ => rfl
  | (x, k) :: r, h => by
    have ih := clo_nil (cells := cells) (names := r) fun y hy => h y (List.mem_cons_of_mem _ hy)
    have hk := h (x, k) List.mem_cons_self
    cases k <;> first | exact absurd rfl hk | (simp only [cloFrom]; first | exact ih | (rw [ih]) | simpa using ih)
theorem pe_lamv {X : Cx} {q : Str} {c P : Addr} {params : Arguments} {body : Expr} {scope : Scope} {pos : Pos} (TB : TabB X.base X.mg c P) (hcode : X.env.code = .ref c) (hq : X.env.qual ++ "<lambda>" = q) (hdef : defaultsOf params X.env = ([], []))
    (hfree : ∀ y ∈ scope.names, y.2 ≠ .free) : PE X (.Lambda params body scope pos) (tLamV P q params body scope) := by
  refine ⟨fun pins s σ H Q I h => ?_⟩
  obtain ⟨hT, h⟩ := h
  refine lam_value I TB hcode hq hT hdef (fun y hy e => absurd e (hfree y hy)) fun f c' H1 s' I1 eN T1 f0 f1 c1 => ?_
  rw [clo_nil hfree] at f1
  exact ⟨.ref f, H1, I1, rfl, h f c' H1 eN T1 f0 f1 c1⟩
/-! ### what it promises -/
structure LOk (P : Program) (w : World) (K : PySem.W.Frag) (mg : Str → Option Value) (base : Heap) (k : Nat) (f : Addr) (F : NF) (b : Expr) (tl : Hp → VK → XK → Prop) : Prop where
  run : ∀ (A : Around) (outer : List Env) (s : Shared) (H : Hp) (Q : VK) (E : XK), Room k A → Env0 P w K mg base A outer s H → H f = some (LamO f F b) → H F.c = some (CodeO F.c F.qual) → tl H Q E →
    codeAny (model P w) A (.call (.ref f) ⟨[], []⟩) (CR (L2.CX P w) outer P w H s Q E) s
section
variable {P : Program} {w : World} {K : PySem.W.Frag} {mg : Str → Option Value} {base : Heap} {F : NF} {f : Addr} {b : Expr} {k j : Nat} {tl : Hp → VK → XK → Prop}
theorem lok_of (S : NScope [] [] [] F.scope) (hcl : F.cl = []) (hb : ∀ pm cv ctv : Value, bindArgs (PySem.W.kla_fn F.name F.qual F.params b F.scope F.cl pm cv ctv) ⟨[], []⟩ = pure [])
    (hbody : ∀ (A : Around) (outer : List Env) (s : Shared) (H : Hp) (Q : VK) (E : XK), Room k (A.deeper (envF F f s.heap.objs.size)) → tl H Q E → ∃ t : TE, PE (ncx (L2.CX P w) P w K mg base [] F f A outer s H E) b t ∧ t [] H Q) :
    LOk P w K mg base (k + 1) f F b tl := by
  refine ⟨fun A outer s H Q E hr e0 hf hc h => ?_⟩
  have lim : s.heap.NoLimit := e0.mod.nolimit.keeps fun b o e => (e0.bs b o e).1
  obtain ⟨pm, ctv, ho⟩ := lamO_at e0.hok hf
  refine PySem.W.kla_callFunE hr.depth ho rfl S.co S.gen rfl (codeO_at e0.hok hc) ?_
  rw [hb]
  refine wpAny_pure (wpAny_newFunctionEnv S.nocell (fun y hy => absurd hy (by simp)) (fun h₁ hns hsb => ⟨lim.fresh _ hsb, ?_⟩) S.kind)
  show codeAny _ _ (.expr b (envF F f s.heap.objs.size)) _ _
  have kp : ∀ b o, s.heap.get? b = some o → h₁.get? b = some o := fun b o e => hsb.extBut b o (Nat.ne_of_lt (Heap.lt_size e)) (Heap.get?_push_of_some _ e)
  obtain ⟨t, ht, hq⟩ := hbody A outer s H Q E (hr.deeper _) h
  have C : CellsAt F.cl [] [] s.heap H := by
    rw [hcl]
    exact ⟨rfl, (fun y c e => by cases e), (fun x y c e => by cases e), (fun i y e => by simp at e)⟩
  have I : Inv (ncx (L2.CX P w) P w K mg base [] F f A outer s H E) [] (startF [] [] []) H { s with heap := h₁, toks := s.toks + ([] : List (Str × Value)).length } :=
    inv_startN (N := []) (ps := []) (fr := []) (vs := []) (us := []) (ws := []) S hr.hd e0 rfl .nil C hns kp
  refine PySem.W.kla_codeExpr (wpAny_mono (ht.run [] _ [] H Q I hq) (fun v s' hq => ?_) fun e s' hq => hq)
  obtain ⟨w', H', J', rv, q⟩ := hq
  exact ⟨w', H', J'.os, J'.bare, J'.base, J'.hok, rv, q⟩
end
/-- x(), x a name that holds a lambda -/
def tLamC (P : Program) (w : World) (K : PySem.W.Frag) (mg : Str → Option Value) (base : Heap) (k i : Nat) (W : WX) : TE := fun σ H Q => ∃ (f : Addr) (F : NF) (b : Expr) (tl : Hp → VK → XK → Prop) (E : XK), (∀ cls d σ' H', E cls d H' → W cls d σ' H') ∧
  σ[i]? = some (some (.ref f)) ∧ H f = some (LamO f F b) ∧ H F.c = some (CodeO F.c F.qual) ∧ LOk P w K mg base k f F b tl ∧ tl H Q E
theorem pe_lamc {X : Cx} {W : WX} {i k : Nat} {x : Str} {p pos : Pos} (tk : Takes X W) (hr : Room k X.A) (hN : X.N[i]? = some x) (hv : Vis X.env.scope x) (hd : (x == ("__debug__" : Str)) = false := by decide) (hcd : (x == ("__classdict__" : Str)) = false := by decide) :
    PE X (.Call (.Name x p) [] [] pos) (tLamC X.prog X.w X.K X.mg X.base k i W) := by
  refine ⟨fun pins s σ H Q I h => ?_⟩
  obtain ⟨f, F, b, tl, E, hW, hs, hf, hc, L, ht⟩ := h
  refine wpAny_Call_Name_kw (thn ((pe_var (pos := p) hN hv hd hcd).run pins s σ H (fun v H1 => v = .ref f ∧ H1 = H) I ⟨.ref f, hs, rfl, rfl⟩) fun u s1 ⟨v, H1, I1, r1, q1⟩ => ?_)
  obtain ⟨ev, eH⟩ := q1
  subst ev
  rw [eH] at I1
  obtain rfl : u = Value.ref f := r1
  obtain ⟨pm, ctv, ho⟩ := lamO_at I1.hok hf
  refine PySem.W.callWith_F0 (first := []) ⟨_, _, _, _, ho⟩ ?_
  show wpAny _ _ (call (.ref f) []) _ _ _
  refine wpAny_call (codeAny_mono (L.run X.A X.stack s1 H Q E hr I1.env0 hf hc ht) fun r s' hq => ?_)
  cases r with
  | error e => exact passes_call tk hW pins σ H s1 e s' I1 hq
  | ok fl =>
    cases fl with
    | ret u => exact I1.after hq
    | next => exact False.elim hq
    | brk => exact False.elim hq
    | cont => exact False.elim hq
/-- def told(what): try: return what() / except X: return ret -/
def spTold (P : Program) (w : World) (K : PySem.W.Frag) (mg : Str → Option Value) (base : Heap) (k : Nat) (CS : Addr) (ret : Str) : Sp := fun vs H Q _ => ∃ (f : Addr) (F : NF) (b : Expr) (tl : Hp → VK → XK → Prop), vs = [.ref f] ∧
  H f = some (LamO f F b) ∧ H F.c = some (CodeO F.c F.qual) ∧ LOk P w K mg base k f F b tl ∧ tl H Q (fun cls _ H' => ∃ b, PySem.W.exmOne K cls (.ref CS) = some b ∧ (b = true → Q (.str ret) H') ∧ (b = false → False))
theorem ps_told {P : Program} {w : World} {K : PySem.W.Frag} {mg : Str → Option Value} {base : Heap} {N : List Str} {q : Str} {sc : Scope} {g : Addr} {cdv : Value} {A : Around} {outer : List Env} {s : Shared} {H : Hp} {E : XK} {ret e a : Str} {CS : Addr} {k j : Nat} {p1 p2 p3 p4 p5 p6 p7 p8 : Pos} {Q : VK} {vs : List V}
    (hge : sc.names.lookup e = some .globalImplicit) (hme : mg e = some (.ref CS)) (hN : N[0]? = some a) (hv : Vis sc a) (h0 : ∀ f : Addr, (L2.start N [V.ref f])[0]? = some (some (V.ref f))) (hr : Room k (A.deeper (envOfC q sc s.heap.objs.size g cdv)))
    (h : spTold P w K mg base k CS ret vs H Q E) (hde : (e == ("__debug__" : Str)) = false := by decide) (hd : (a == ("__debug__" : Str)) = false := by decide) (hcd : (a == ("__classdict__" : Str)) = false := by decide) :
    ∃ t, PSs (cxOf C8.CX0 P w K mg base N q sc g cdv A outer s H E).nox [.Try [.Return (some (.Call (.Name a p1) [] [] p2)) p3] [.ExceptHandler (some (.Name e p4)) none [.Return (some (.Constant (.str ret) j p5)) p6] p7] [] [] p8] t ∧
      t { nx := fun _ H' => Q .non H', rt := Q } (L2.start N vs) H := by
  obtain ⟨f, F, b, tl, rfl, hf, hc, L, ht⟩ := h
  have hgl : Gl (cxOf C8.CX0 P w K mg base N q sc g cdv A outer s H E).nox e := hge
  refine ⟨_, pss_one (ps_try_only (c := .ref CS) (tb := fun W D σ H => tLamC P w K mg base k 0 W σ H D.rt) rfl rfl ⟨hgl, hde, .inl hme⟩ L2.takes0 (fun W pn xe tk _ => pss_one (ps_ret (pe_lamc tk hr hN hv hd hcd))) (fun a oe cls d pn _ _ => pss_one (ps_ret pe_str))), ?_⟩
  refine ⟨f, F, b, tl, _, fun cls d σ' H' q => ?_, h0 f, hf, hc, L, ht⟩
  obtain ⟨b, e1, e2, e3⟩ := q
  exact ⟨b, e1, fun hb a _ => e2 hb, fun hb => e3 hb⟩
/-! ### defs that may raise -/
structure MakX (P : Program) (w : World) (K : PySem.W.Frag) (mg : Str → Option Value) (base : Heap) (k : Nat) (x : Str) (C : Addr) (sp : Sp) (dvs : List V) : Prop where
  ex : ∃ (f : Addr) (fd : FuncData) (ps : List Str) (ds : List Value), Mk K C f ∧ FnOk P w K mg base (L2.CX P w) k f fd ps sp ∧ mg x = some (.ref C) ∧ Binds K fd ps ds ∧ Vals dvs ds
structure MetX (P : Program) (w : World) (K : PySem.W.Frag) (mg : Str → Option Value) (base : Heap) (k : Nat) (C : Addr) (m : Str) (sp : Sp) (dvs : List V) : Prop where
  ex : ∃ (f : Addr) (fd : FuncData) (ps : List Str) (ds : List Value), Cls K C ∧ Meth K C m f ∧ FnOk P w K mg base (L2.CX P w) k f fd ps sp ∧ Binds K fd ps ds ∧ Vals dvs ds
structure CalX (P : Program) (w : World) (K : PySem.W.Frag) (mg : Str → Option Value) (base : Heap) (k : Nat) (x : Str) (sp : Sp) (dvs : List V) : Prop where
  ex : ∃ (f : Addr) (fd : FuncData) (ps : List Str) (ds : List Value), FnOk P w K mg base (L2.CX P w) k f fd ps sp ∧ mg x = some (.ref f) ∧ PySem.W.keepIn K (.ref f) = true ∧ Binds K fd ps ds ∧ Vals dvs ds
section
variable {X : Cx} {k j : Nat} {C : Addr} {x m : Str} {sp : Sp} {dvs : List V} {p pos apos : Pos} {e o : Expr} {es : List Expr} {ta : TE} {t : TA} {E : XK}
theorem pe_cX (c : CalX X.prog X.w X.K X.mg X.base k x sp dvs) (hr : Room j X.A) (hk : k ≤ j) (hg : Gl X x) (tk : Takes X (fun cls d _ H => E cls d H)) (ha : PA X (e :: es) t)
    (hdb : (x == ("__debug__" : Str)) = false := by decide) (he : starEach (e :: es) X.env = (false, eval e X.env) :: starEach es X.env := by rfl) (hpl : (backTo pos (starEach es X.env)).any (·.1) = false := by rfl) :
    PE X (.Call (.Name x p) (e :: es) [] pos) (tCall sp dvs E t) := by
  obtain ⟨f, fd, ps, ds, F, hm, kp, b, d⟩ := c.ex
  exact pe_call F (hr.mono hk) hg hm kp b d (passes_call tk fun _ _ _ _ h => h) ha hdb he hpl
theorem pe_mkX (c : MakX X.prog X.w X.K X.mg X.base k x C sp dvs) (hr : Room j X.A) (hk : k + 1 ≤ j) (hg : Gl X x) (tk : Takes X (fun cls d _ H => E cls d H)) (ha : PA X (e :: es) t)
    (hdb : (x == ("__debug__" : Str)) = false := by decide) (he : starEach (e :: es) X.env = (false, eval e X.env) :: starEach es X.env := by rfl) (hpl : (backTo pos (starEach es X.env)).any (·.1) = false := by rfl) :
    PE X (.Call (.Name x p) (e :: es) [] pos) (tMake C sp dvs E t) := by
  obtain ⟨f, fd, ps, ds, M, F, hm, b, d⟩ := c.ex
  exact pe_make M F (hr.mono hk) hg hm b d (passes_call tk fun _ _ _ _ h => h) ha hdb he hpl
theorem pe_mtX {pl : Sem Bool} (c : MetX X.prog X.w X.K X.mg X.base k C m sp dvs) (hr : Room j X.A) (hk : k ≤ j) (tk : Takes X (fun cls d _ H => E cls d H)) (he : PE X o ta) (ha : PA X (e :: es) t)
    (hst : starEach (e :: es) X.env = (false, eval e X.env) :: starEach es X.env := by rfl) (hpl : (backTo pos (starEach es X.env)).any (·.1) = false := by rfl)
    (ht : eval (.Call (.Attribute o m apos) (e :: es) [] pos) X.env = (do
      let ov ← eval o X.env
      standAt apos.atName
      let (f, first) ← holding [ov] (getMethod ov m pl)
      callWith pos f first (backTo pos (starEach (e :: es) X.env)) (backToKw pos (keywordEach [] X.env))) := by rfl) :
    PE X (.Call (.Attribute o m apos) (e :: es) [] pos) (tMeth C m sp dvs E ta t) := by
  obtain ⟨f, fd, ps, ds, hc, hm, F, b, d⟩ := c.ex
  exact pe_meth (pl := pl) he hc hm F (hr.mono hk) b d (passes_call tk fun _ _ _ _ h => h) ha hst hpl ht
end
/-- an own error class below ValueError, without __init__ -/
structure ExcT (K : PySem.W.Frag) (mg : Str → Option Value) (x : Str) (C : Addr) : Prop where
  g : mg x = some (.ref C)
  ex : PySem.W.excIn K C [.type "ValueError", .type "Exception", .type "BaseException", .type "object"] "ValueError.__new__" = true
  kp : PySem.W.keepIn K (.ref C) = true
  sb : PySem.W.subIn K (.ref C) (.type "BaseException") = some true
  ty : PySem.W.typeIn K (.ref C) = some (.type "type")
  ic : PySem.W.isClsIn K C = true
  ss : PySem.W.subIn K (.ref C) (.ref C) = some true
theorem ExcT.em {K : PySem.W.Frag} {mg : Str → Option Value} {x : Str} {C : Addr} (T : ExcT K mg x C) : PySem.W.exmOne K (.ref C) (.ref C) = some true := by
  have ic : (PySem.W.clsIn K C).isSome = true := T.ic
  simp [PySem.W.exmOne, PySem.W.kitCls, T.sb, ic, T.ty, T.ss]
theorem ps_raiseT {X : Cx} {W : WX} {x m : Str} {C : Addr} {j : Nat} {p p2 pos pos2 : Pos} (T : ExcT X.K X.mg x C) (hc : X.calm = true) (tk : Takes X W) (hg : Gl X x) (hdb : (x == ("__debug__" : Str)) = false := by decide) :
    PS X (.Raise (some (.Call (.Name x p) [.Constant (.str m) j p2] [] pos)) none pos2) (fun _ σ H => W (.ref C) none σ H) :=
  ps_raise hc tk (pmk_own PySem.F.excBase_ValueError T.ex T.g T.kp (raises_own T.sb T.ty) hg hdb)
/-- Fun.ok for a def with defaults -/
theorem funD_ok0 {P : Program} {w : World} {K : PySem.W.Frag} {mg : Str → Option Value} {base : Heap} {x qual : Str} {params : Arguments} {body : List Stmt} {scope : Scope} {dvs : List V} {kws : List (Str × V)} {f : Addr} {fd : FuncData}
    {N ps : List Str} {k : Nat} {sp : Sp} (F : FunD K x qual params body scope dvs kws f fd) (S : FnScope N ps scope) (len : ∀ vs H Q E, sp vs H Q E → vs.length = ps.length)
    (hbody : ∀ (cdv : Value) (A : Around) (outer : List Env) (s : Shared) (H : Hp) (vs : List V) (Q : VK) (E : XK), Room k (A.deeper (envOfC qual scope s.heap.objs.size f cdv)) → sp vs H Q E →
      ∃ t, PSs (cxOf L2.CX0 P w K mg base N qual scope f cdv A outer s H E).nox body t ∧ t { nx := fun _ H' => Q .non H', rt := Q } (start N vs) H) : FnOk P w K mg base L2.CX0 (k + 1) f fd ps sp :=
  F.ok S len fun cdv A outer s H vs Q E hr hsp => let ⟨t, h, q⟩ := hbody cdv A outer s H vs Q E hr hsp; ⟨t, h.nox, q⟩
end Sd


/-! == and != of data without dicts: what the law compares. -/
namespace Sd
open PySem PySem.Spec PyProof.Rows L2
mutual
theorem eqv_self : ∀ d : PyData, d.plain = true → PyData.eqv d d = true
  | .none, _ => rfl
  | .bool b, _ => by simp [PyData.eqv]
  | .int i, _ => by simp [PyData.eqv]
  | .str x, _ => by simp [PyData.eqv]
  | .list xs, h => by
    simp only [PyData.eqv]
    exact eqv_selfAll xs (by simpa [PyData.plain] using h)
  | .tuple xs, h => by
    simp only [PyData.eqv]
    exact eqv_selfAll xs (by simpa [PyData.plain] using h)
  | .dict _, h => by simp [PyData.plain] at h
theorem eqv_selfAll : ∀ xs : List PyData, PyData.plainAll xs = true → PyData.eqvAll xs xs = true
  | [], _ => by simp [PyData.eqvAll]
  | x :: xs, h => by
    simp only [PyData.plainAll, Bool.and_eq_true] at h
    simp only [PyData.eqvAll, Bool.and_eq_true]
    exact ⟨eqv_self x h.1, eqv_selfAll xs h.2⟩
end
/-- data that may be compared: no dict, not deep -/
structure Shal (d : PyData) : Prop where
  p : d.plain = true
  d : d.depth ≤ 60
def rEqP (K : PySem.W.Frag) : R2 := fun x y H Q => ∃ d e, Dp K H x d ∧ Dp K H y e ∧ Shal d ∧ Shal e ∧ Q (.bl (PyData.eqv d e)) H
def rNeP (K : PySem.W.Frag) : R2 := fun x y H Q => ∃ d e, Dp K H x d ∧ Dp K H y e ∧ Shal d ∧ Shal e ∧ Q (.bl (!PyData.eqv d e)) H
section
variable {X : Cx}
theorem op_eqP (hu : X.A.units + 64 < cLine) : OpR X (compareOp .Eq) (rEqP X.K) := by
  intro pins s σ H x y v u Q I rx ry h
  obtain ⟨d, e, hd, he, sd, se, q⟩ := h
  obtain ⟨as, r1⟩ := Dp.reads I d x v hd rx
  obtain ⟨bs, r2⟩ := Dp.reads I e y u he ry
  have := sd.d
  exact PySem.SeqAt.eq_plain r1 r2 sd.p se.p (by omega) ⟨.bl _, H, I, rfl, q⟩
theorem op_neP (hu : X.A.units + 64 < cLine) : OpR X (compareOp .NotEq) (rNeP X.K) := by
  intro pins s σ H x y v u Q I rx ry h
  obtain ⟨d, e, hd, he, sd, se, q⟩ := h
  obtain ⟨as, r1⟩ := Dp.reads I d x v hd rx
  obtain ⟨bs, r2⟩ := Dp.reads I e y u he ry
  have := sd.d
  exact PySem.SeqAt.ne_plain r1 r2 sd.p se.p (by omega) ⟨.bl _, H, I, rfl, q⟩
end
section
variable {K : PySem.W.Frag} {H : Hp} {x y : V} {d e : PyData} {Q : VK}
theorem k_eqSame (h1 : Dp K H x d) (h2 : Dp K H y d) (s : Shal d) (q : Q (.bl true) H) : rEqP K x y H Q := ⟨d, d, h1, h2, s, s, by rw [eqv_self d s.p]; exact q⟩
theorem k_neSame (h1 : Dp K H x d) (h2 : Dp K H y d) (s : Shal d) (q : Q (.bl false) H) : rNeP K x y H Q := ⟨d, d, h1, h2, s, s, by rw [eqv_self d s.p]; exact q⟩
theorem dp_all {α : Type} {f : α → V} {g : α → PyData} : ∀ {l : List α}, (∀ a ∈ l, Dp K H (f a) (g a)) → DpAll K H (l.map f) (l.map g)
  | [], _ => .nil
  | a :: l, h => .cons (h a List.mem_cons_self) (dp_all fun b hb => h b (List.mem_cons_of_mem _ hb))
theorem plain_all {α : Type} {g : α → PyData} : ∀ {l : List α}, (∀ a ∈ l, (g a).plain = true) → PyData.plainAll (l.map g) = true
  | [], _ => by simp [PyData.plainAll]
  | a :: l, h => by
    simp only [List.map_cons, PyData.plainAll, Bool.and_eq_true]
    exact ⟨h a List.mem_cons_self, plain_all fun b hb => h b (List.mem_cons_of_mem _ hb)⟩
theorem depth_all {α : Type} {g : α → PyData} {n : Nat} : ∀ {l : List α}, (∀ a ∈ l, (g a).depth ≤ n) → PyData.depthAll (l.map g) ≤ n
  | [], _ => by simp [PyData.depthAll]
  | a :: l, h => by
    simp only [List.map_cons, PyData.depthAll]
    exact Nat.max_le.mpr ⟨h a List.mem_cons_self, depth_all fun b hb => h b (List.mem_cons_of_mem _ hb)⟩
theorem shal_list {α : Type} {g : α → PyData} {l : List α} {n : Nat} (hn : n < 60) (h : ∀ a ∈ l, (g a).plain = true ∧ (g a).depth ≤ n) : Shal (.list (l.map g)) := by
  refine ⟨by simp only [PyData.plain]; exact plain_all fun a ha => (h a ha).1, ?_⟩
  have := depth_all (l := l) (g := g) (n := n) fun a ha => (h a ha).2
  simp only [PyData.depth]
  omega
theorem dp_ints {ns : List Int} : DpAll K H (ns.map V.int) (ns.map PyData.int) := dp_all fun _ _ => .int _
theorem shal_ints {ns : List Int} : Shal (.list (ns.map PyData.int)) := shal_list (n := 0) (by decide) fun _ _ => ⟨by simp [PyData.plain], by simp [PyData.depth]⟩
theorem dp_strs {ns : List Str} : DpAll K H (ns.map V.str) (ns.map PyData.str) := dp_all fun _ _ => .str _
theorem shal_strs {ns : List Str} : Shal (.list (ns.map PyData.str)) := shal_list (n := 0) (by decide) fun _ _ => ⟨by simp [PyData.plain], by simp [PyData.depth]⟩
theorem dp_lst {a : Addr} {xs : List V} {ds : List PyData} (h : H a = some (.lst xs)) (hd : DpAll K H xs ds) : Dp K H (.ref a) (.list ds) := .lst (.of h) hd
theorem dp_tup {a : Addr} {xs : List V} {ds : List PyData} (h : H a = some (.tup xs)) (hd : DpAll K H xs ds) : Dp K H (.ref a) (.tuple ds) := .tup (.of h) hd
end
end Sd


/-! A generator expression of any element, consumed by tuple(..) or list(..). -/
namespace Gx
open PySem PySem.Spec PyProof.Rows L2 GenW

/-- the genexp's own frame over the def's -/
abbrev gx (X : Cx) (A : Around) (s : Shared) (H : Hp) (cenv : Env) (fp : List Addr) (pn : List (Addr × Obj)) : Cx :=
  { X with A := A, s_0 := s, H_0 := H, env := cenv, outer := X.stack, stack := cenv :: X.stack, ex := fp, fn := fun _ => false, calm := true, pn := pn, xe := fun _ _ => False }

/-- the genexp's names: «.0» (none of N), its own (with their places in N), captured ones -/
structure GxOk (N : List Str) (sc scope : Scope) (own : List (Str × Nat)) : Prop where
  kind : scope.kind = .function
  co : scope.isCoroutine = false
  cell : ∀ y ∈ scope.names, y.2 ≠ .cell
  dot : scope.names.lookup (".0" : Str) = some NameKind.local
  uniq : ∀ y ∈ scope.names, scope.names.lookup y.1 = some y.2
  ix : ∀ p ∈ own, N[p.2]? = some p.1
  free : ∀ y ∈ scope.names, y.2 = .free → sc.names.lookup y.1 = some .cell ∨ sc.names.lookup y.1 = some .free
  own : ∀ y ∈ scope.names, y.2 = .local → y.1 ∈ own.map (·.1) ∨ y.1 ∉ N

def gxC (N : List Str) (sc scope : Scope) (own : List (Str × Nat)) : Bool :=
  (match scope.kind with | .function => true | _ => false) && !scope.isCoroutine && decide (scope.names.lookup (".0" : Str) = some NameKind.local) && (scope.names.all fun y => decide (scope.names.lookup y.1 = some y.2)) && (own.all fun p => decide (N[p.2]? = some p.1)) &&
    (scope.names.all fun y => match y.2 with
      | .free => (match sc.names.lookup y.1 with | some .cell => true | some .free => true | _ => false)
      | .local => decide (y.1 ∈ own.map (·.1)) || decide (y.1 ∉ N)
      | .cell => false
      | _ => true)
theorem gxOk_by {N : List Str} {sc scope : Scope} {own : List (Str × Nat)} (h : gxC N sc scope own = true) : GxOk N sc scope own := by
  unfold gxC at h
  simp only [Bool.and_eq_true, List.all_eq_true, decide_eq_true_eq, Bool.not_eq_true'] at h
  obtain ⟨⟨⟨⟨⟨h1, h0⟩, hd⟩, h2⟩, h3⟩, h4⟩ := h
  refine ⟨?_, h0, fun y hy e => ?_, hd, h2, h3, fun y hy e => ?_, fun y hy e => ?_⟩
  · split at h1
    · assumption
    · cases h1
  · have q := h4 y hy
    simp only [e] at q
    cases q
  · have q := h4 y hy
    simp only [e] at q
    split at q <;> first | exact .inl (by assumption) | exact .inr (by assumption) | cases q
  · have q := h4 y hy
    simp only [e, Bool.or_eq_true, decide_eq_true_eq] at q
    exact q

theorem gx_over {A : Around} {elt : Expr} {gens : List Comprehension} {scope : Scope} {pos : Pos} {it acc : Value} {env : Env} :
    A.over (.compLoop (.GeneratorExp elt gens scope pos) 0 it acc env) [] = A.deeper env := by
  first
    | rfl
    | (obtain ⟨hd, d, fr, gs, u⟩ := A; simp [Around.over, Around.deeper, marksOver, frameCount, unitsOf, envsOf, guardsOf, pushEnvs, pushGuards, Code.envs, Code.env?, Code.isFrame, Code.guards, Code.isGuard, Code.weight, Code.frames, Code.isCreation, Code.isCaller, Code.cUnits])

section
variable {X : Cx} {pins : List (Addr × Obj)} {σ : L2.St} {H : Hp} {s : Shared}
theorem gx_start {A : Around} {scope : Scope} {own : List (Str × Nat)} {fp : List Addr} {code : Value} {m : Str → Option Value} {s' : Shared} {pn : List (Addr × Obj)} (I : Inv X pins σ H s) (ok : GxOk X.N X.env.scope scope own) (hN : X.N.Nodup)
    (hfp : ∀ b ∈ fp, FpOk X pins H b ∧ b < s.heap.objs.size) (hA : A.handled = none)
    (hfr : A.frames = some (genEnv scope (cloFrom X.env.cells scope.names []) s.heap.objs.size code builtinsNs X.env :: X.stack))
    (kp : ∀ b o, s.heap.get? b = some o → s'.heap.get? b = some o) (hos : s'.os = s.os) (hb : AllBare s'.gens) (hns : s'.heap.Ns s.heap.objs.size m)
    (hpn : ∀ p ∈ pn, s'.heap.get? p.1 = some p.2 ∧ s.heap.objs.size < p.1 ∧ ∀ v, p.2.data ≠ .cell v) :
    Inv (gx X A s H (genEnv scope (cloFrom X.env.cells scope.names []) s.heap.objs.size code builtinsNs X.env) fp pn) [] (wipe σ (own.map (·.2))) H s' := by
  have hfree : ∀ y ∈ scope.names, y.2 = .free → ∃ c, X.env.cells.lookup y.1 = some c := fun y hy e => by
    rcases ok.free y hy e with k | k
    · exact I.ok.has _ (.inl k)
    · exact I.ok.has _ (.inr k)
  generalize hcenv : genEnv scope (cloFrom X.env.cells scope.names []) s.heap.objs.size code builtinsNs X.env = cenv at hfr ⊢
  have hL : cenv.locals = s.heap.objs.size := by rw [← hcenv]; rfl
  have hcl : cenv.cells = cloFrom X.env.cells scope.names [] := by rw [← hcenv]; rfl
  have hsc : cenv.scope = scope := by rw [← hcenv]; rfl
  have cm : ∀ {y c}, cenv.cells.lookup y = some c → X.env.cells.lookup y = some c ∧ c < s.heap.objs.size := fun {y c} hm => by
    rw [hcl] at hm
    rcases cloFrom_mem (PySem.mem_of_lookup hm) with hm | ⟨h1, rfl⟩
    · cases hm
    · obtain ⟨c, hc⟩ := hfree _ h1 rfl
      rw [hc]
      obtain ⟨w, z⟩ := I.cell _ _ hc
      exact ⟨rfl, z.lt⟩
  have look : ∀ {y}, scope.names.lookup y = some .free → ∃ c, cenv.cells.lookup y = some c ∧ X.env.cells.lookup y = some c := fun {y} hl => by
    have hy : (y, NameKind.free) ∈ scope.names := PySem.mem_of_lookup hl
    obtain ⟨c', e'⟩ := mem_lookup (cloFrom_has (cells := X.env.cells) (acc := []) hy)
    rw [← hcl] at e'
    exact ⟨c', e', (cm e').1⟩
  have okB : (gx X A s H cenv fp pn).Ok := by
    refine ⟨I.ok.mod, by show cenv.scope.kind = _; rw [hsc]; exact ok.kind, by show cenv.globals = _; rw [← hcenv]; exact I.ok.glob, by show cenv.builtins = _; rw [← hcenv]; rfl, by show s.heap.objs.size ≤ cenv.locals; rw [hL]; exact Nat.le_refl _,
      fun y z c e1 e2 => ?_, fun y hy => ?_, fun y c z e => ?_, fun _ => hA, hfr, .inr ⟨rfl, by show cenv.frame = some cenv.locals; rw [← hcenv]; rfl⟩, fun b hb => ⟨?_, fun y c e z => ?_⟩, I.bs, Nat.le_trans I.ok.bsz I.sz, fun b o e hb => ?_, fun b hb z => ?_, I.stack, I.stkFree⟩
    · exact I.ok.inj y z c (cm e1).1 (cm e2).1
    · show ∃ c, cenv.cells.lookup y = some c
      have hy' : cenv.scope.names.lookup y = some .cell ∨ cenv.scope.names.lookup y = some .free := hy
      rw [hsc] at hy'
      rcases hy' with hy' | hy'
      · exact absurd rfl (ok.cell _ (PySem.mem_of_lookup hy'))
      · obtain ⟨c, h1, _⟩ := look hy'
        exact ⟨c, h1⟩
    · exact absurd z (by simp)
    · show b ≠ cenv.locals
      rw [hL]; exact Nat.ne_of_lt (hfp b hb).2
    · exact (hfp b hb).1.2.2.2.2.1 y c (cm e).1 z
    · rcases (hfp b hb).1.2.2.2.1 with z | z
      · exact I.ok.noex b o e z
      · exact absurd (Nat.lt_of_lt_of_le (Heap.lt_size e) (Nat.le_trans I.ok.bsz z)) (Nat.lt_irrefl _)
    · rcases List.mem_cons.mp (I.stkSub b z) with z | z
      · exact (hfp b hb).1.2.1 z
      · exact (hfp b hb).1.2.2.1 z
  refine ⟨okB, hos, hb, Un.kept kp, ⟨m, ?_, fun i y av e1 e2 e3 => ?_⟩, fun y c e => ?_, ?_, fun y c e => ?_, fun p hp => ?_, I.hok.kept kp, by rw [wipe_length]; exact I.len⟩
  · show Heap.Ns _ cenv.locals _
    rw [hL]; exact hns
  · obtain ⟨e2, hne⟩ := wipe_some e2
    have e3 : Vis cenv.scope y := e3
    rw [hsc] at e3
    have hfr : scope.names.lookup y = some .free := by
      rcases e3 with e3 | e3 | e3
      · rcases ok.own _ (PySem.mem_of_lookup e3) rfl with e' | e'
        · obtain ⟨p, hp, hpy⟩ := List.mem_map.mp e'
          have e3 := ok.ix p hp
          have : p.1 = y := hpy
          rw [this] at e3
          exact absurd (List.mem_map.mpr ⟨p, hp, nodup_ix hN e3 e1⟩) hne
        · exact absurd (List.mem_of_getElem? e1) e'
      · exact absurd rfl (ok.cell _ (PySem.mem_of_lookup e3))
      · exact e3
    obtain ⟨m, hn, hl⟩ := I.loc
    have hvis : Vis X.env.scope y := (ok.free _ (PySem.mem_of_lookup hfr) rfl).elim (fun k => .inr (.inl k)) (fun k => .inr (.inr k))
    obtain ⟨w, r, q⟩ := hl i y av e1 e2 hvis
    refine ⟨w, r, .inr ⟨.inr ?_, ?_⟩⟩
    · show cenv.scope.names.lookup y = _
      rw [hsc]; exact hfr
    obtain ⟨c, h1, h2⟩ := look hfr
    rcases q with ⟨k, _⟩ | ⟨_, c', e', z⟩
    · have k : X.env.scope.names.lookup y = some .local := k
      rcases ok.free _ (PySem.mem_of_lookup hfr) rfl with k' | k' <;> rw [show X.env.scope.names.lookup y = _ from k'] at k <;> cases k
    · rw [h2] at e'; cases e'
      exact ⟨c, h1, z.keeps kp⟩
  · obtain ⟨w, z⟩ := I.cell y c (cm e).1
    exact ⟨w, z.keeps kp⟩
  · show H cenv.locals = none
    rw [hL]; exact I.hok.fresh (Nat.le_refl _)
  · exact I.freeC y c (cm e).1
  · have hp : p ∈ pn := by simpa using hp
    obtain ⟨q1, q2, q3⟩ := hpn p hp
    refine ⟨q1, I.hok.fresh (Nat.le_of_lt q2), ?_, fun z => ?_, q3⟩
    · show p.1 ≠ cenv.locals
      rw [hL]; exact Nat.ne_of_gt q2
    · rcases List.mem_cons.mp (I.stkSub p.1 z) with z | z
      · exact absurd (z ▸ I.lt) (Nat.not_lt_of_ge (Nat.le_of_lt q2))
      · exact I.nofs (Nat.le_of_lt q2) z

/-! ### the run -/
/-- the end: all handed out stands in S -/
def GEnd (X' : Cx) (S : Addr) (σ : L2.St) (Q : List V → Hp → Prop) : GenEnd := fun n _ r s => r = .ok .next ∧ ∃ ys H, n + ys.length = sizeLine ∧ GI X' S [] ys σ H s ∧ Q ys H

theorem seg_gx {A : Around} {S : Addr} {elt tg iter : Expr} {ifs : List Expr} {scope : Scope} {gpos : Pos} {g : TG} {tt : TT} {te : TE} {vs : List Nat} {J : It} {fp : List Addr} {it : Addr} {tn : Nat → Heap → Prop} {H0 : Hp} {s0 : Shared} {cenv : Env} {pn : List (Addr × Obj)}
    {W : Nat → Nat → List V → Hp → Prop} {Q : List V → Hp → Prop}
    (T : Turn X.prog X.w X.K tg J fp it tn) (hco : cenv.scope.isCoroutine = false)
    (pg : PG (gx X (A.deeper cenv) s0 H0 cenv fp pn) tg g) (pt : PTs (gx X (A.deeper cenv) s0 H0 cenv fp pn) ifs tt) (pe : PE (gx X (A.deeper cenv) s0 H0 cenv fp pn) elt te)
    (hpn : ∀ p ∈ pn, p.1 ≠ S ∧ p.1 ∉ fp) (hA : Apart (gx X (A.deeper cenv) s0 H0 cenv fp pn) S) (hS : S ∉ fp)
    (turn : ∀ i m ys H, W i m ys H → (J.stop i H ∧ Q ys H) ∨ (J.go i H ∧ ∃ Nx : List V → Hp → Prop, (∀ ys' H', Nx ys' H' → ∃ m', m' < m ∧ W (i + 1) m' ys' H') ∧ ∀ x H', J.yld i H x H' → g x (wipe σ vs) H' fun σ2 H2 => wipe σ2 vs = wipe σ vs ∧ tt σ2 H2 fun b H3 =>
      if b = true then te σ2 H3 fun y H4 => ys.length < sizeLine ∧ Nx (ys ++ [y]) H4 else Nx ys H3)) :
    ∀ (m n i : Nat) (ys : List V) (H : Hp) (s₀ s : Shared), n + ys.length = sizeLine → W i m ys H → GI (gx X (A.deeper cenv) s0 H0 cenv fp pn) S [] ys (wipe σ vs) H s → tn i s.heap → (∀ b ∈ fp, H b = none) →
      Seg (model X.prog X.w) A (GEnd (gx X (A.deeper cenv) s0 H0 cenv fp pn) S (wipe σ vs) Q) (GY (gx X (A.deeper cenv) s0 H0 cenv fp pn) S) n s₀ (.compLoop (.GeneratorExp elt [⟨tg, iter, ifs, 0⟩] scope gpos) 0 (.ref it) .none cenv)
        ((model X.prog X.w).den (.compLoop (.GeneratorExp elt [⟨tg, iter, ifs, 0⟩] scope gpos) 0 (.ref it) .none cenv)) [] s := by
  have stat : ∀ {σ' : L2.St} {H' : Hp} {s' : Shared} {acc : Array Value} {c : Nat}, Inv (gx X (A.deeper cenv) s0 H0 cenv fp pn) [(S, lstObj acc c)] σ' H' s' → (∀ b ∈ fp, H' b = none) → ∀ b ∈ fp, FpOk (gx X (A.deeper cenv) s0 H0 cenv fp pn) [(S, lstObj acc c)] H' b := fun {σ' H' s' acc c} I' hn b hb =>
    ⟨hn b hb, (I'.ok.exf b hb).1, I'.ok.exfs b hb, .inl hb, fun x c e => (I'.ok.exf b hb).2 x c e, fun p hp z => by
      rcases List.mem_append.mp hp with hp | hp
      · exact (hpn p hp).2 (z ▸ hb)
      · rw [List.mem_singleton.mp hp] at z
        have z : S = b := z
        exact hS (by rw [z]; exact hb)⟩
  intro m
  induction m using Nat.strongRecOn with
  | ind m ih =>
    intro n i ys H s₀ s hn w hI hst hfn
    show Seg _ A _ _ _ s₀ _ ((compTurn (.GeneratorExp elt [⟨tg, iter, ifs, 0⟩] scope gpos) 0 (.ref it) .none cenv).onRaise (leaving cenv)) [] s
    rw [compTurn_gen, Sem.onRaise_eq_wrap]
    refine seg_bind_wrap (wpAny_standAt ?_)
    obtain ⟨acc, cc, r, I⟩ := hI
    rcases turn i m ys H w with ⟨stop, q⟩ | ⟨go, Nx, hNx, step⟩
    · refine seg_bind_wrap ?_
      rw [gx_over]
      refine thnF (T.done (gx X (A.deeper cenv) s0 H0 cenv fp pn) rfl rfl rfl rfl i _ s _ H (fun _ _ => False) I (stat I hfn) hst stop) fun rr s1 ⟨hr, I1⟩ => ?_
      subst hr
      exact seg_end (.ok .next) ⟨rfl, ys, H, hn, ⟨acc, cc, r, I1⟩, q⟩
    · refine seg_bind_wrap ?_
      rw [gx_over]
      refine thnF (T.item (gx X (A.deeper cenv) s0 H0 cenv fp pn) rfl rfl rfl rfl i _ s _ H (fun _ _ => False) I (stat I hfn) hst go) fun rr s1 ⟨u, hr, h1⟩ => ?_
      subst hr
      refine seg_bind_wrap ?_
      rw [gx_over]
      refine thnF h1 fun _ s2 ⟨x, H2, I2, r2, y2, st2, n2⟩ => ?_
      have I2' := I2.pinned (stat I2 n2) (T.obj _ _ st2)
      refine seg_bind_wrap ?_
      rw [gx_over]
      refine thnF (pg.run _ s2 _ H2 x u _ I2' r2 (step x H2 y2)) fun _ s3 ⟨σ3, H3, I3, hw3, q3⟩ => ?_
      refine seg_bind_wrap ?_
      rw [gx_over]
      refine thnF (pt.run _ s3 σ3 H3 _ I3 q3) fun b s4 ⟨H4, I4, q4⟩ => ?_
      -- the turn's end
      have hl : ∀ {s' : Shared} {H' : Hp}, Inv (gx X (A.deeper cenv) s0 H0 cenv fp pn) ([(S, lstObj acc cc)] ++ pinsAt fp s2.heap) σ3 H' s' →
          Inv (gx X (A.deeper cenv) s0 H0 cenv fp pn) [(S, lstObj acc cc)] (wipe σ vs) H' s' ∧ tn (i + 1) s'.heap ∧ ∀ b ∈ fp, H' b = none := fun {s' H'} I' => by
        have pin' : ∀ b ∈ fp, ∀ o, s2.heap.get? b = some o → s'.heap.get? b = some o ∧ H' b = none := fun b hb o e =>
          let z := I'.pin (b, o) (List.mem_append_right _ (List.mem_append_right _ (mem_pinsAt hb e)))
          ⟨z.1, z.2.1⟩
        have hl : (wipe σ vs).length = σ3.length := by rw [← hw3, wipe_length]
        refine ⟨I'.unpinned.weak hl (fun j v e => ?_), T.keep _ _ _ st2 fun b hb o e => (pin' b hb o e).1, fun b hb => ?_⟩
        · rw [← hw3] at e
          exact (wipe_some e).1
        · obtain ⟨o, e, _⟩ := T.obj _ _ st2 b hb
          exact (pin' b hb o e).2
      cases b with
      | false =>
        simp only [Bool.false_eq_true, if_false] at q4 ⊢
        obtain ⟨m', hm, w'⟩ := hNx ys H4 q4
        obtain ⟨I5, st5, n5⟩ := hl I4
        exact seg_again rfl (ih m' hm n (i + 1) ys H4 s₀ s4 hn w' ⟨acc, cc, r, I5⟩ st5 n5)
      | true =>
        simp only [if_true] at q4 ⊢
        have hy : ∀ v, yieldOut cenv v = yieldValue v := fun v => by simp only [yieldOut, hco, Bool.false_eq_true, if_false]
        simp only [hy]
        rw [Sem.bind_eq_wrap', Sem.bind_eq_wrap', Sem.wrap_wrap, Sem.wrap_wrap]
        refine seg_wrap ?_
        rw [gx_over]
        refine thnF (pe.run _ s4 σ3 H4 _ I4 q4) fun v s5 ⟨yv, H5, I5', r5, hlt, nx⟩ => ?_
        obtain ⟨I5, st5, n5⟩ := hl I5'
        obtain ⟨n, rfl⟩ : ∃ k, n = k + 1 := ⟨n - 1, by omega⟩
        obtain ⟨m', hm, w'⟩ := hNx _ H5 nx
        refine seg_at (seg_yield rfl rfl rfl ⟨ys, yv, [], wipe σ vs, H5, hn, r5, ⟨acc, cc, r, I5⟩, fun s'' z => ?_⟩)
        refine seg_again rfl (ih m' hm n (i + 1) _ H5 s'' s'' (by rw [List.length_append, List.length_singleton]; omega) w' ?_ ?_ n5)
        · exact GI.woken (fun p hp => (hpn p hp).1) (fun p hp => absurd hp (by simp)) hA ⟨acc, cc, r, I5⟩ r5 z
        · exact T.keep _ _ _ st5 fun b hb o e => z.keep b o (fun y => hS (y ▸ hb)) e

theorem seg_gx0 {A : Around} {elt tg iter : Expr} {ifs : List Expr} {scope : Scope} {gpos : Pos} {J : It} {fp : List Addr} {it : Addr} {tn : Nat → Heap → Prop} {cenv : Env} {R : GenEnd} {Y : Protocol} {n : Nat} {s₀ s : Shared} {i : Nat}
    (T : Turn X.prog X.w X.K tg J fp it tn) (hst : tn i s.heap)
    (loop : Seg (model X.prog X.w) A R Y n s₀ (.compLoop (.GeneratorExp elt [⟨tg, iter, ifs, 0⟩] scope gpos) 0 (.ref it) .none cenv) ((model X.prog X.w).den (.compLoop (.GeneratorExp elt [⟨tg, iter, ifs, 0⟩] scope gpos) 0 (.ref it) .none cenv)) [] s) :
    Seg (model X.prog X.w) A R Y n s₀ (.compStart (.GeneratorExp elt [⟨tg, iter, ifs, 0⟩] scope gpos) 0 (.ref it) .none cenv) ((model X.prog X.w).den (.compStart (.GeneratorExp elt [⟨tg, iter, ifs, 0⟩] scope gpos) 0 (.ref it) .none cenv)) [] s := by
  show Seg _ A _ _ _ s₀ _ ((compStart (.GeneratorExp elt [⟨tg, iter, ifs, 0⟩] scope gpos) 0 (.ref it) .none cenv).onRaise (leaving cenv)) [] s
  unfold compStart
  rw [Sem.onRaise_eq_wrap]
  show Seg _ A _ _ _ s₀ _ ((ask >>= _).wrap _ _ _ _) [] s
  refine seg_bind_wrap (wpAny_askSetting ?_)
  split
  · exact seg_again rfl loop
  · first
      | exact seg_bind_wrap (wpAny_rule (seg_bind_wrap (wpAny_standAt (seg_bind_wrap (T.self _ i s _ _ hst (seg_again rfl loop))))))
      | (refine seg_bind_wrap (wpAny_rule ?_); show Seg _ A _ _ _ s₀ _ ((standAt iter.pos >>= _).wrap _ _ _ _) [] s; exact seg_bind_wrap (wpAny_standAt (seg_bind_wrap (T.self _ i s _ _ hst (seg_again rfl loop)))))

/-! ### the expression -/
def tGx (wi : TI) (g : TG) (tt : TT) (te : TE) (vs : List Nat) (P : Addr) : TGen := fun σ H cont => wi σ H fun J H1 => GxR.TabG H1 P ∧ ∀ H2, GxR.Tabbed P H1 H2 → ∃ W : Nat → Nat → List V → Hp → Prop, (∃ m, W 0 m [] H2) ∧ ∀ i m ys H, W i m ys H →
  (J.stop i H ∧ cont ys H) ∨ (J.go i H ∧ ∃ Nx : List V → Hp → Prop, (∀ ys' H', Nx ys' H' → ∃ m', m' < m ∧ W (i + 1) m' ys' H') ∧ ∀ x H', J.yld i H x H' → g x (wipe σ vs) H' fun σ2 H2 => wipe σ2 vs = wipe σ vs ∧ tt σ2 H2 fun b H3 =>
    if b = true then te σ2 H3 fun y H4 => ys.length < sizeLine ∧ Nx (ys ++ [y]) H4 else Nx ys H3)

theorem pgen_gx {c P : Addr} {k : Nat} {elt tg iter : Expr} {ifs : List Expr} {scope : Scope} {own : List (Str × Nat)} {gpos : Pos} {wi : TI} {g : TG} {tt : TT} {te : TE}
    (hr : Room (k + 1) X.A) (TB : GxR.TabB X.base X.mg c P) (hcode : X.env.code = .ref c) (hN : X.N.Nodup) (hi : PI X tg iter wi) (ok : GxOk X.N X.env.scope scope own)
    (hg : ∀ (A : Around) (s : Shared) (H : Hp) (C : Addr) (cl : List (Str × Addr)) (code : Value) (fp : List Addr) (pn : List (Addr × Obj)), Room k A → PG (gx X A s H (genEnv scope cl C code builtinsNs X.env) fp pn) tg g)
    (ht : ∀ (A : Around) (s : Shared) (H : Hp) (C : Addr) (cl : List (Str × Addr)) (code : Value) (fp : List Addr) (pn : List (Addr × Obj)), Room k A → PTs (gx X A s H (genEnv scope cl C code builtinsNs X.env) fp pn) ifs tt)
    (he : ∀ (A : Around) (s : Shared) (H : Hp) (C : Addr) (cl : List (Str × Addr)) (code : Value) (fp : List Addr) (pn : List (Addr × Obj)), Room k A → PE (gx X A s H (genEnv scope cl C code builtinsNs X.env) fp pn) elt te)
    (hs : ∀ v, genFold iter X.env v = pure v) : PGen X (k + 1) (.GeneratorExp elt [⟨tg, iter, ifs, 0⟩] scope gpos) (tGx wi g tt te (own.map (·.2)) P) (fun _ _ _ => False) := by
  refine ⟨fun pins s σ H cont I h => ?_⟩
  have hfree : ∀ y ∈ scope.names, y.2 = .free → ∃ c, X.env.cells.lookup y.1 = some c := fun y hy e => by
    rcases ok.free y hy e with k | k
    · exact I.ok.has _ (.inl k)
    · exact I.ok.has _ (.inr k)
  refine wpAny_GeneratorExp_make ok.co (closure_ok hfree) ok.cell ok.dot ok.kind (by have := hr.dp; omega) (thn (hi.run pins s σ H _ I h) fun xv s1 hx => thn hx fun itv s2 h2 => ?_) hs
  obtain ⟨it, fp, tn, J, H2, e, I2, T, st2, f2, hTab, q⟩ := h2
  subst e
  refine ⟨I2.nolimit, ?_⟩
  obtain ⟨ps, hP, htr⟩ := hTab
  have hPs : s2.heap.get? P = some { cls := .none, data := .fields ps } := I2.hok P _ hP
  have cd : PySem.W.CodeHd s2.heap c P := TB.code.keeps fun b u e => I2.bk b u e
  have nfpP : ∀ b ∈ fp, b ≠ P := fun b hb z => by
    have := (f2 b hb).1
    rw [z, hP] at this; cases this
  have cont' : ∀ (code : Value) (h3 : Heap) (tk : Nat) (ps' : Array Value), Heap.ExtBut P s2.heap h3 → s2.heap.objs.size ≤ h3.objs.size → h3.get? P = some { cls := .none, data := .fields ps' } → (∃ more, ps' = ps ++ more) → TriplesOk ps'.toList →
      wpAny (model X.prog X.w) X.A (builtinsFor X.env.globals X.env.builtins) (fun bi s₄ => ∀ h', h'.Ns s₄.heap.objs.size (fun y => if y = ".0" then some (.ref it) else none) → Heap.SameBut s₄.heap.objs.size (s₄.heap.push { cls := .type "frame", data := .dict #[] }) h' →
          (∃ H1 sc ex, Inv X pins σ H1 sc ∧ ExOk X pins ex ∧ GMade X.prog X.w (k + 1) X.stack H1 sc ex cont (fun _ _ _ => False) (.ref h'.objs.size) { s₄ with
            gens := s₄.gens.push (.fresh (.compStart (.GeneratorExp elt [⟨tg, iter, ifs, 0⟩] scope gpos) 0 (.ref it) .none (genEnv scope (cloFrom X.env.cells scope.names []) s₄.heap.objs.size code bi X.env))),
            toks := s₄.toks + 1 + 1 + 1,
            heap := h'.push { cls := .type "generator", data := .fields #[.int s₄.gens.size 0, .str "<genexpr>" (s₄.toks + 1), .str (X.env.qual ++ "<genexpr>") (s₄.toks + 1 + 1)] } })) X.xe { s2 with heap := h3, toks := tk } := by
    intro code h3 tk ps' hx hsz hP3 hmore ht3
    obtain ⟨bm, ob, e1, e2, e3, e4, e5, e6, e7, e8⟩ := TB.bm
    have keep3 : ∀ b u, b ≠ P → s2.heap.get? b = some u → h3.get? b = some u := fun b u hb e => hx b u hb e
    refine wpAny_builtinsFor (m := X.mg) (by rw [I2.ok.glob]; exact (I2.mod.glob.keeps I2.bk).extBut hx TB.gP) e1 e2 (keep3 _ _ e4 (I2.bk _ _ e5)) e6 e7 e8 ?_
    obtain ⟨more, em⟩ := hmore
    have I3 : Inv X pins σ (upd H2 P (.tbl (ps ++ more))) { s2 with heap := h3, gens := s2.gens, drawn := s2.drawn, toks := tk } := GxR.inv_tab I2 hP (fun b u hb e => hx b u hb e) (by rw [← em]; exact hP3) I2.bare
    generalize hs3 : ({ s2 with heap := h3, gens := s2.gens, drawn := s2.drawn, toks := tk } : Shared) = s3 at I3
    have e3h : s3.heap = h3 := by rw [← hs3]
    intro h' hn' hs'
    generalize hH3 : upd H2 P (.tbl (ps ++ more)) = H3 at I3
    have hTb : GxR.Tabbed P H2 H3 := by
      rw [← hH3]
      exact ⟨⟨ps ++ more, upd_same, by rw [← em]; exact ht3⟩, fun b hb => upd_ne hb⟩
    have f3 : ∀ b ∈ fp, FpOk X pins H3 b ∧ b < s3.heap.objs.size := fun b hb => by
      obtain ⟨o, e, _⟩ := T.obj _ _ st2 b hb
      refine ⟨⟨?_, (f2 b hb).2⟩, by rw [e3h]; exact Heap.lt_size (keep3 b o (nfpP b hb) e)⟩
      rw [hTb.2 b (nfpP b hb)]
      exact (f2 b hb).1
    have st3 : tn 0 s3.heap := T.keep _ _ _ st2 fun b hb o e => by rw [e3h]; exact keep3 b o (nfpP b hb) e
    obtain ⟨W, ⟨m0, w0⟩, turn⟩ := q H3 hTb
    have keep' : ∀ b o, s3.heap.get? b = some o → h'.get? b = some o := fun b o e => hs'.extBut b o (Nat.ne_of_lt (Heap.lt_size e)) (Heap.get?_push_of_some _ e)
    have hsz' : h'.objs.size = s3.heap.objs.size + 1 := by rw [hs'.1, Heap.size_push]
    refine ⟨H3, s3, fp, I3, fun b hb => ?_, ?_⟩
    · obtain ⟨z1, z2, z3, z4, z5, z6⟩ := (f3 b hb).1
      exact ⟨z4, z2, z5, z6⟩
    generalize hce : genEnv scope (cloFrom X.env.cells scope.names []) s3.heap.objs.size code builtinsNs X.env = cenv
    have cL : cenv.locals = s3.heap.objs.size := by rw [← hce]; rfl
    generalize hgo : ({ cls := .type "generator", data := .fields #[.int s3.gens.size 0, .str "<genexpr>" (s3.toks + 1), .str (X.env.qual ++ "<genexpr>") (s3.toks + 1 + 1)] } : Obj) = go
    have hgc : go.cls = .type "generator" ∧ go.data = .fields #[.int s3.gens.size 0, .str "<genexpr>" (s3.toks + 1), .str (X.env.qual ++ "<genexpr>") (s3.toks + 1 + 1)] ∧ go.slots = #[] := by
      rw [← hgo]; exact ⟨rfl, rfl, rfl⟩
    have hgen : ∀ h : Heap, h.get? h'.objs.size = some go → h.IsGen h'.objs.size s3.gens.size := fun h e => ⟨go, _, _, e, hgc.1, hgc.2.1, hgc.2.2⟩
    have hpushed : (h'.push go).get? h'.objs.size = some go := by
      rw [← hgo]; exact Heap.get?_push_size _ rfl
    refine ⟨h'.objs.size, s3.gens.size, _, rfl, by omega, ?_, hgen _ hpushed, Array.getElem?_push_size .., rfl, AllBare.push I3.bare rfl, I3.nolimit.keeps fun b o e => Heap.get?_push_of_some _ (keep' b o e), fun b o e => Heap.get?_push_of_some _ (keep' b o e), ?_⟩
    · show _ < (h'.push _).objs.size
      rw [Heap.size_push]; exact Nat.lt_succ_self _
    intro Aw S s4 hrw hfr hSx hk2 hSo hos hba
    have hSz : h'.objs.size < S := by
      have hSx' : (h'.push go).objs.size ≤ S := hSx
      rw [Heap.size_push] at hSx'
      exact hSx'
    have hS3 : s3.heap.objs.size < S := by omega
    obtain ⟨cS, heS⟩ := hSo
    have hea : s4.heap.get? h'.objs.size = some go := hk2 _ go hpushed
    have hgd : ∀ v, go.data ≠ .cell v := fun v z => by rw [hgc.2.1] at z; cases z
    have kp4 : ∀ b o, s3.heap.get? b = some o → s4.heap.get? b = some o := fun b o e => hk2 b o (Heap.get?_push_of_some _ (keep' b o e))
    have I5 := gx_start (A := Aw.deeper cenv) (code := code) (s' := s4) (m := fun y => if y = ".0" then some (.ref it) else none) (pn := [(h'.objs.size, go)]) I3 ok hN f3 hrw.hd (by rw [hce]; exact Around.frames_deeper hfr) kp4 hos hba
      (hn'.keeps fun b o e => hk2 b o (Heap.get?_push_of_some _ e)) (fun p hp => by
        rw [List.mem_singleton.mp hp]
        exact ⟨hea, by show s3.heap.objs.size < h'.objs.size; omega, hgd⟩)
    rw [hce] at I5
    have hSL : S ≠ cenv.locals := by rw [cL]; exact Nat.ne_of_gt hS3
    have hG : GI (gx X (Aw.deeper cenv) s3 H3 cenv fp [(h'.objs.size, go)]) S [] [] (wipe σ (own.map (·.2))) H3 s4 := by
      refine ⟨#[], cS, .nil, I5.pins_of fun p hp => ?_⟩
      rw [List.mem_singleton.mp hp]
      refine ⟨heS, I3.hok.fresh (Nat.le_of_lt hS3), hSL, fun z => ?_, fun v q => by cases q⟩
      rcases List.mem_cons.mp (I3.stkSub S z) with z | z
      · exact absurd (z ▸ I3.lt) (Nat.not_lt_of_ge (Nat.le_of_lt hS3))
      · exact I3.nofs (Nat.le_of_lt hS3) z
    have hSfp : S ∉ fp := fun hb => absurd (f3 S hb).2 (Nat.not_lt_of_ge (Nat.le_of_lt hS3))
    have hAp : Apart (gx X (Aw.deeper cenv) s3 H3 cenv fp [(h'.objs.size, go)]) S := by
      refine ⟨Nat.le_of_lt hS3, hSL, fun x c e z => ?_⟩
      obtain ⟨v, o, ho, _⟩ := I5.cell x c e
      have e : cenv.cells.lookup x = some c := e
      rw [← hce] at e
      rcases cloFrom_mem (PySem.mem_of_lookup e) with hm | ⟨h1, h2⟩
      · cases hm
      · obtain ⟨c2, hc2⟩ := hfree _ h1 rfl
        rw [hc2] at h2
        have h2 : c = c2 := h2
        obtain ⟨v2, o2, ho2, _⟩ := I3.cell x c2 hc2
        have := Heap.lt_size ho2
        rw [← h2, z] at this
        exact absurd this (Nat.not_lt_of_ge (Nat.le_of_lt hS3))
    have pinned : ∀ {ip : List (Addr × Obj)} {ys : List V} {s' : Shared} {σ' : L2.St} {H' : Hp}, GI (gx X (Aw.deeper cenv) s3 H3 cenv fp [(h'.objs.size, go)]) S ip ys σ' H' s' → s'.heap.IsGen h'.objs.size s3.gens.size := fun {ip ys s' σ' H'} hI => by
      obtain ⟨acc, cc, _, J⟩ := hI
      exact hgen _ (J.pin (h'.objs.size, go) (List.mem_append_left _ (List.mem_singleton.mpr rfl))).1
    have st4 : tn 0 s4.heap := T.keep _ _ _ st3 fun b _ o e => kp4 b o e
    have loop := seg_gx (A := Aw) (S := S) (elt := elt) (iter := iter) (scope := scope) (gpos := gpos) (vs := own.map (·.2)) (H0 := H3) (s0 := s3) (cenv := cenv) (pn := [(h'.objs.size, go)]) (W := W) (Q := cont) (σ := σ) T (by rw [← hce]; exact ok.co)
      (by rw [← hce]; exact hg _ _ _ _ _ _ _ _ (hrw.deeper _)) (by rw [← hce]; exact ht _ _ _ _ _ _ _ _ (hrw.deeper _)) (by rw [← hce]; exact he _ _ _ _ _ _ _ _ (hrw.deeper _))
      (fun p hp => by
        rw [List.mem_singleton.mp hp]
        exact ⟨Nat.ne_of_lt hSz, fun hb => absurd (f3 _ hb).2 (by show ¬ (h'.objs.size < s3.heap.objs.size); omega)⟩) hAp hSfp turn m0 sizeLine 0 [] H3 s4 s4 (Nat.add_zero _) w0 hG st4 (fun b hb => (f3 b hb).1.1)
    refine seg_imp (R := GEnd (gx X (Aw.deeper cenv) s3 H3 cenv fp [(h'.objs.size, go)]) S (wipe σ (own.map (·.2))) cont) (Y := GY (gx X (Aw.deeper cenv) s3 H3 cenv fp [(h'.objs.size, go)]) S) (fun n s₀ r s1' hR => ?_) (fun n s₀ v s1' kap kap' hkk hY => ?_) sizeLine (seg_gx0 T st4 loop)
    · obtain ⟨rfl, ys, H', hn, hI, hQ⟩ := hR
      obtain ⟨a1, _, _, acc, cc, ra, ea⟩ := hI.at
      obtain ⟨_, _, _, J⟩ := hI
      exact .inl ⟨.inr rfl, H', ys, acc, cc, J.os, J.bare, J.base, J.hok, a1, ea, ra, by omega, hQ⟩
    · obtain ⟨ys, xx, ip, σ', H', hn, h2, hI, h3⟩ := hY
      obtain ⟨_, _, _, acc, cc, ra, ea⟩ := hI.at
      have hg := pinned hI
      obtain ⟨_, _, _, J⟩ := hI
      have hsz : acc.size = ys.length := by
        have e1 := ra.length
        have e2 : acc.toList.length = acc.size := by simp
        omega
      exact ⟨J.os, J.bare, J.nolimit, hg, ⟨acc, cc, ea, by rw [hsz]; exact hn⟩, fun s' z => hkk _ _ (h3 s' z)⟩
  cases hf : codeAmong gpos ps.toList with
  | none =>
    refine wpAny_genexprCodeX hcode (cd.code hPs htr) (cd.tab hPs) hf fun c' h' tk hx hge hlt hco' _ htab' _ => ?_
    obtain ⟨o1, vs, f1, tf, fl, tg, inF, tx, tt, op, _, _, _, _, _, _, _, _, _, htr', _⟩ := hco'
    exact cont' _ h' tk _ hx (Nat.le_trans hge (Nat.le_of_lt hlt)) htab'.2 ⟨_, rfl⟩ htr'
  | some cv =>
    refine wpAny_genexprCode_hit hcode (cd.code hPs htr) hf ?_
    exact cont' cv s2.heap s2.toks ps (Heap.ExtBut.refl _ _) (Nat.le_refl _) hPs ⟨#[], by simp⟩ htr
end

/-! ### tuple(g) -/
section
variable {P : Program} {w : World} {outer : List Env} {H : Hp} {sc s : Shared} {ex : List Addr} {Q : List V → Hp → Prop} {A : Around} {k : Nat} {u : Value} {E : Value → Shared → Prop}
/-- what a run of the generator to its end leaves -/
def Drained (P : Program) (w : World) (outer : List Env) (H : Hp) (sc : Shared) (ex : List Addr) (Q : List V → Hp → Prop) (acc : Array Value) (s' : Shared) : Prop :=
  ∃ H' ys, Vals ys acc.toList ∧ ys.length ≤ sizeLine ∧ s'.os = sc.os ∧ AllBare s'.gens ∧ Un (frs outer) ex H H' sc.heap s'.heap ∧ HOk P w H' s'.heap ∧ Q ys H'
theorem collect_gx {Q' : List Value → Shared → Prop} (hr : Room (k + 2) A) (hfr : A.frames = some outer) (h : GMade P w k outer H sc ex Q (fun _ _ _ => False) u s)
    (hQ : ∀ acc s', Drained P w outer H sc ex Q acc s' → Q' acc.toList s') : wpAny (model P w) A (collect u) Q' E s := by
  obtain ⟨a, g, c, rfl, ha1, ha2, hg, hgs, hos, hb, hl, hkp, wake⟩ := h
  have hSa : s.heap.objs.size ≠ a := Nat.ne_of_gt ha2
  have hcl : cStatics < s.heap.objs.size := let ⟨_, hn, _⟩ := hl; hn.lt
  have hSc : s.heap.objs.size ≠ cStatics := Nat.ne_of_gt hcl
  unfold collect
  refine wpAny_bind (wpAny_runValue (codeAny_builtin F.entry_proto_collect ?_))
  rw [Around.under_plainId F.plain_proto_collect _]
  show wpAny _ A.in1 (newList [] >>= fun l => again (.builtin "list.__iadd__" ⟨[l, .ref a], []⟩)) _ _ s
  refine wpAny_bind (wpAny_newObj_type ?_)
  refine wpAny_pure ⟨plainId_quiet F.plain_list_iadd _, codeAny_builtin F.entry_list_iadd ?_⟩
  rw [Around.under_plainId F.plain_list_iadd _]
  show wpAny _ A.in1 (Builtin.List.listExtendWith (.ref s.heap.objs.size) (.ref a) (.ref s.heap.objs.size)) _ _ _
  unfold Builtin.List.listExtendWith
  have k1 : ∀ b o, s.heap.get? b = some o → (s.heap.push { cls := .type "list", data := .seq ([] : List Value).toArray }).get? b = some o := fun b o e => Heap.get?_push_of_some _ e
  have gty : ∀ {h : Heap}, (∀ b o, s.heap.get? b = some o → h.get? b = some o) → h.IsGen a g := fun {h} q => hg.keeps q
  refine wpAny_bind (wpAny_typeOf (Heap.IsGen.typeIs (s := { s with heap := _ }) (gty k1)) ?_)
  have h1 : Builtin.List.listSameRef (.ref s.heap.objs.size) (.ref a) = false := by simp [Builtin.List.listSameRef, hSa]
  have h2 : (Value.type "generator" == Value.type "list") = false := by decide
  have h3 : (Value.type "generator" == Value.type "tuple") = false := by decide
  simp only [h1, h2, h3, Bool.or_false, Bool.false_eq_true, if_false]
  refine wpAny_bind (wpAny_pyIter_gen (s := { s with heap := _ }) (gty k1) ?_)
  refine wpAny_bind (wpAny_holding ?_)
  unfold Builtin.List.listLengthHint
  refine wpAny_bind (wpAny_specialOf (Heap.IsGen.typeIs (s := { s with heap := _ }) (gty k1)) F.gen_no_len ?_)
  show wpAny _ A.in1 (specialOf (Value.ref a) (Str.ofString "__length_hint__") >>= _) _ _ _
  refine wpAny_bind (wpAny_specialOf (Heap.IsGen.typeIs (s := { s with heap := _ }) (gty k1)) F.gen_no_hint ?_)
  refine wpAny_pure ?_
  show wpAny _ A.in1 (rule "list.extend.makes-room" >>= fun _ => Builtin.List.listTouch (.ref s.heap.objs.size) >>= fun _ =>
    again (.builtin "list.extend.loop" ⟨[.ref s.heap.objs.size, .ref a, .ref s.heap.objs.size], []⟩)) _ _ _
  refine wpAny_bind (wpAny_rule ?_)
  have hS₁ : (s.heap.push { cls := .type "list", data := .seq ([] : List Value).toArray }).get? s.heap.objs.size = some { cls := .type "list", data := .seq ([] : List Value).toArray } := Heap.get?_push_size _ rfl
  refine wpAny_bind ?_
  show wpAny _ A.in1 (updateSeq s.heap.objs.size (·.push .none) >>= fun _ => updateSeq s.heap.objs.size (·.pop)) _ _ _
  refine wpAny_bind (wpAny_updateSeq hS₁ rfl ?_)
  have hS₂ := Heap.get?_update_self (Obj.mapSeq (·.push Value.none)) hS₁ rfl
  refine wpAny_updateSeq hS₂ rfl ?_
  have hS₃ := Heap.get?_update_self (Obj.mapSeq (·.pop)) hS₂ rfl
  have up : ∀ (h : Heap) (f : Obj → Obj), (∀ b o, s.heap.get? b = some o → h.get? b = some o) → ∀ b o, s.heap.get? b = some o → (h.update s.heap.objs.size f).get? b = some o := fun h f q b o e =>
    (Heap.get?_update_other _ _ (Ne.symm (Nat.ne_of_lt (Heap.lt_size e)))).trans (q b o e)
  have k4 := up _ (Obj.mapSeq (·.pop)) (up _ (Obj.mapSeq (·.push Value.none)) k1)
  refine wpAny_pure ⟨plainId_quiet F.plain_extend_loop _, ?_⟩
  refine drain (P := P) (w := w) (outer := outer) (H := H) (sc := sc) (ex := ex) (Q := Q) (EX := fun _ _ _ => False) (A := A) (g := g) hr.hd (by have := hr.dp; omega) hSa hSc
    (fun s' acc c H' ys q1 q2 q3 q4 q5 q6 q7 q8 q9 => ?_) (fun e s' hc => ?_) sizeLine _ (gty k4) (hl.keeps k4) ⟨_, hgs, rfl, ?_⟩
  · show wpAny _ A (load s.heap.objs.size >>= _) _ _ s'
    refine wpAny_bind (wpAny_load q1 ?_)
    exact wpAny_pure (hQ acc s' ⟨H', ys, q2, q3, q4, q5, q6, q7, q9⟩)
  · obtain ⟨_, _, _, _, _, _, _, _, _, _, _, _, hf⟩ := hc
    exact hf.elim
  · refine wake _ _ _ ⟨hr.hd, ?_, ?_⟩ hfr (Nat.le_refl _) k4 ⟨_, hS₃⟩ hos (allBare_setGen (s := { s with heap := _ }) hb rfl)
    · have := hr.dp
      show A.depth + 3 * k + 5 < _
      omega
    · have := hr.un
      show A.units + 1 + 1 + 16 * k + 200 < _
      omega

theorem call_tuple_gx {Q' : Value → Shared → Prop} (hr : Room (k + 3) A) (hfr : A.frames = some outer) (h : GMade P w k outer H sc ex Q (fun _ _ _ => False) u s)
    (hQ : ∀ acc s', Drained P w outer H sc ex Q acc s' → Q' (.ref s'.heap.objs.size) { s' with heap := s'.heap.push { cls := .type "tuple", data := .seq acc } }) :
    wpAny (model P w) A (call (.type "tuple") [u]) Q' E s := by
  obtain ⟨a, g, c, hu, ha1, ha2, hg, r⟩ := id h
  have hTI : s.TypeIs u "generator" := by rw [hu]; exact hg.typeIs
  have hsub := sub_tuple_self
  have hinit := init_tuple_lookup
  have hmh := madeHere_tuple
  have r2 : Room (k + 2) A.in1.in1 := ⟨hr.hd, by have := hr.dp; show A.depth + 3 * (k + 2) + 5 < _; omega, by have := hr.un; show A.units + 1 + 1 + 16 * (k + 2) + 200 < _; omega⟩
  refine callType_codes (Q₁ := fun obj s₁ => s₁.TypeIs obj "tuple" ∧ Q' obj s₁) F.called_tuple (F.typeCall_tuple_1 _) F.entry_object_init ?_ fun obj s₁ h₁ =>
    ⟨h₁.1, F.args_object_init_2 obj _, object_init_meets F.called_tuple.init.lookup F.called_tuple.made (by decide) P w A.in1 _ s₁ ⟨h₁.1, rfl, h₁.2⟩⟩
  refine codeAny_of_tree ?_
  show wpAny _ A.in1.in1 (do checkBuiltinCall "tuple.__new__" ⟨[.type "tuple", u], []⟩; again (.builtin "tuple.__new__" ⟨[.type "tuple", u], []⟩)) _ _ s
  refine wpAny_bind (wpAny_of_eq (F.newCall_tuple_1 _) (wpAny_pure ⟨plainId_quiet F.plain_tuple_new _, codeAny_builtin F.entry_tuple_new ?_⟩))
  rw [Around.under_plainId F.plain_tuple_new _]
  have col := fun (Q'' : List Value → Shared → Prop) (E' : Value → Shared → Prop) (hq : ∀ acc s', Drained P w outer H sc ex Q acc s' → Q'' acc.toList s') => collect_gx (A := A.in1.in1) (Q' := Q'') (E := E') r2 hfr h hq
  clear r h
  subst hu
  wp_walk using wpAny_typeOf hTI, col
  intro acc s' hd
  show wpAny _ _ (Builtin.Tuple.tupleExact acc.toList.toArray >>= fun v => ret v) _ _ _
  unfold Builtin.Tuple.tupleExact
  have hz : acc.size ≤ sizeLine := by
    obtain ⟨H', ys, q1, q2, _⟩ := hd
    have e1 := q1.length
    have e2 : acc.toList.length = acc.size := by simp
    omega
  refine wpAny_bind (wpAny_newObj_type ?_ (by show acc.toList.toArray.size ≤ sizeLine; simp only [Array.toArray_toList]; exact hz))
  refine wpAny_pure ?_
  have e : acc.toList.toArray = acc := by simp
  rw [e]
  exact ⟨⟨_, Heap.get?_push_size _ rfl, rfl⟩, hQ acc s' hd⟩
end

section
variable {X : Cx}
def tTupleG (tg : TGen) : TE := fun σ H Q => tg σ H fun out H2 => ∀ p, H2 p = none → Q (.ref p) (upd H2 p (.tup out))
/-- tuple(g) -/
theorem pe_tupleG {k : Nat} {e : Expr} {tg : TGen} {p pos : Pos} (h : PGen X k e tg (fun _ _ _ => False)) (hr : Room (k + 3) X.A) (hg : Gl X "tuple") (hmg : X.mg "tuple" = none)
    (he : starEach [e] X.env = (false, eval e X.env) :: starEach [] X.env := by rfl) : PE X (.Call (.Name "tuple" p) [e] [] pos) (tTupleG tg) := by
  refine ⟨fun pins s σ H Q I hq => ?_⟩
  refine wpAny_Call_Name_kw (ld_blt I hg hmg (u := .type "tuple") (by rfl) ?_ (by decide) (by decide))
  refine PyProof.Rows.callWith_type1 ?_ he rfl
  rw [he]
  show wpAny _ _ (spliced ((false, eval e X.env) :: backTo pos (starEach [] X.env))) _ _ s
  refine Calls.spliced_cons (thn (h.run pins s σ H _ I hq) fun u s1 ⟨H1, sc, ex, I1, hex, hG⟩ => ?_)
  refine Calls.spliced_nil ?_
  refine call_tuple_gx hr I1.ok.frames hG fun acc s' hd => ?_
  obtain ⟨H', ys, q1, q2, q3, q4, q5, q6, q7⟩ := hd
  have I2 : Inv X pins σ H' s' := I1.call' (ch := ex) q3 q5 q6 q4 hex
  refine ⟨.ref s'.heap.objs.size, _, I2.laid (t' := s'.toks) (fun b o e => Heap.get?_push_of_some _ e) (Nat.le_refl _) (o := .tup ys) ⟨q2, acc.toList, q1, ?_⟩, rfl, q7 _ (I2.hok.fresh (Nat.le_refl _))⟩
  exact ⟨_, Heap.get?_push_size _ rfl, rfl, 0, by simp⟩
end
/-- a genexp's turns over a walk -/
theorem gx_it {J : It} {n : Nat} {G : Hp → Prop} {Y : Nat → Hp → V → Hp → Prop} (w : Walk J n G Y) {g : TG} {tt : TT} {te : TE} {vs : List Nat} {σ : L2.St} {H1 : Hp} {cont : List V → Hp → Prop} (Pv : Nat → List V → Hp → Prop) (h0 : Pv 0 [] H1) (hG : ∀ i ys H, i ≤ n → Pv i ys H → G H)
    (hs : ∀ i x ys H H', i < n → Pv i ys H → Y i H x H' → g x (wipe σ vs) H' fun σ2 H2 => wipe σ2 vs = wipe σ vs ∧ tt σ2 H2 fun b H3 =>
      if b = true then te σ2 H3 fun y H4 => ys.length < sizeLine ∧ Pv (i + 1) (ys ++ [y]) H4 else Pv (i + 1) ys H3) (hd : ∀ ys H, Pv n ys H → cont ys H) :
    ∃ W : Nat → Nat → List V → Hp → Prop, (∃ m, W 0 m [] H1) ∧ ∀ i m ys H, W i m ys H →
      (J.stop i H ∧ cont ys H) ∨ (J.go i H ∧ ∃ Nx : List V → Hp → Prop, (∀ ys' H', Nx ys' H' → ∃ m', m' < m ∧ W (i + 1) m' ys' H') ∧ ∀ x H', J.yld i H x H' → g x (wipe σ vs) H' fun σ2 H2 => wipe σ2 vs = wipe σ vs ∧ tt σ2 H2 fun b H3 =>
        if b = true then te σ2 H3 fun y H4 => ys.length < sizeLine ∧ Nx (ys ++ [y]) H4 else Nx ys H3) := by
  refine ⟨fun i m ys H => m = n - i ∧ i ≤ n ∧ Pv i ys H, ⟨n, by simp, Nat.zero_le _, h0⟩, ?_⟩
  rintro i m ys H ⟨rfl, hi, p⟩
  have q := hG i ys H hi p
  by_cases hlt : i < n
  · refine .inr ⟨w.goes i H hlt q, Pv (i + 1), fun ys' H' p' => ⟨n - (i + 1), by omega, rfl, hlt, p'⟩, fun x H' y => hs i x ys H H' hlt p (w.yields i H x H' hlt q y)⟩
  · have e : i = n := by omega
    subst e
    exact .inl ⟨w.stops H q, hd ys H p⟩
end Gx


/-! ledgers by counting: what stands in one stands in another, in any order -/
namespace Sd
open PySem L2
open Classical in
noncomputable def one1 (a x : Addr × HO) : Nat := if x = a then 1 else 0
noncomputable def cnt (a : Addr × HO) : Lg → Nat
  | [] => 0
  | x :: r => one1 a x + cnt a r
theorem cnt_nil {a : Addr × HO} : cnt a [] = 0 := rfl
theorem cnt_cons {a x : Addr × HO} {r : Lg} : cnt a (x :: r) = one1 a x + cnt a r := rfl
theorem cnt_app {a : Addr × HO} : ∀ {A B : Lg}, cnt a (A ++ B) = cnt a A + cnt a B
  | [], B => by rw [List.nil_append, cnt_nil, Nat.zero_add]
  | x :: r, B => by rw [List.cons_append, cnt_cons, cnt_cons, cnt_app]; omega
theorem cnt_pos {a : Addr × HO} : ∀ {A : Lg}, 0 < cnt a A → a ∈ A
  | [], h => by rw [cnt_nil] at h; omega
  | x :: r, h => by
    by_cases e : x = a
    · rw [e]; exact List.mem_cons_self
    · rw [cnt_cons, one1, if_neg e, Nat.zero_add] at h
      exact List.mem_cons_of_mem _ (cnt_pos h)
theorem Led.le_aux {H : Hp} : ∀ (B C L : Lg), Led H (C ++ L) → (∀ a, cnt a B ≤ cnt a L) → Led H (C ++ B)
  | [], C, L, h, _ => by rw [List.append_nil]; exact h.left
  | x :: r, C, L, h, e => by
    have h1 := e x
    have o1 : one1 x x = 1 := by unfold one1; rw [if_pos rfl]
    rw [cnt_cons, o1] at h1
    obtain ⟨A, B, rfl⟩ := List.append_of_mem (cnt_pos (show 0 < cnt x L by omega))
    have h2 : Led H ((C ++ [x]) ++ (A ++ B)) := by
      refine h.perm ?_
      rw [List.append_assoc]
      exact List.perm_middle.append_left C
    have := Led.le_aux r (C ++ [x]) (A ++ B) h2 fun a => by
      have := e a
      rw [cnt_cons, cnt_app, cnt_cons] at this
      rw [cnt_app]; omega
    rw [List.append_assoc] at this
    exact this
theorem Led.le {H : Hp} {B L : Lg} (h : Led H L) (e : ∀ a, cnt a B ≤ cnt a L) : Led H B := Led.le_aux B [] L h e
section
variable {K : PySem.W.Frag} {H : Hp} {L : Lg} {l : Addr} {xs : List V}
theorem k_lenL2 {P : List V → Prop} (hL : Led H L) (e : At L l (.lst xs)) (q : P xs) : ∃ p ys, [V.ref l] = [.ref p] ∧ (SqL K H p ys ∨ SqT K H p ys) ∧ P ys := ⟨_, _, rfl, .inl (.of (hL.at e)), q⟩
theorem k_lenT2 {P : List V → Prop} (hL : Led H L) (e : At L l (.tup xs)) (q : P xs) : ∃ p ys, [V.ref l] = [.ref p] ∧ (SqL K H p ys ∨ SqT K H p ys) ∧ P ys := ⟨_, _, rfl, .inr (.of (hL.at e)), q⟩
end
/-! loops with the ends told by what they take -/
/-- the ends of a turn: what stands behind it, a return, a break -/
structure EndsA (N : L2.St → Hp → Prop) (D D' : Ends) : Prop where
  nx : ∀ σ H, N σ H → D'.nx σ H
  ct : ∀ σ H, N σ H → D'.ct σ H
  bk : ∀ σ H, D.nx σ H → D'.bk σ H
  rt : ∀ v H, D.rt v H → D'.rt v H
section
variable {K : PySem.W.Frag} {a : Addr} {xs : List V} {g : TG} {tb : TS} {D : Ends} {σ : L2.St} {H : Hp}
theorem for_listA (Pv : Nat → L2.St → Hp → Prop) (h0 : Pv 0 σ H) (hl : ∀ i σ H, i ≤ xs.length → Pv i σ H → SqL K H a xs)
    (hs : ∀ i x σ H (D' : Ends), xs[i]? = some x → Pv i σ H → EndsA (Pv (i + 1)) D D' → g x σ H fun σ2 H2 => tb D' σ2 H2) (hd : ∀ σ H, Pv xs.length σ H → D.nx σ H) :
    ∃ W : Nat → Nat → L2.St → Hp → Prop, (∃ m, W 0 m σ H) ∧ ∀ i m σ H, W i m σ H →
      ((Itl K a).stop i H ∧ D.nx σ H) ∨ ((Itl K a).go i H ∧ ∃ N : L2.St → Hp → Prop, (∀ σ' H', N σ' H' → ∃ m', m' < m ∧ W (i + 1) m' σ' H') ∧ ∀ x H', (Itl K a).yld i H x H' → g x σ H' fun σ2 H2 => tb { D with nx := N, ct := N, bk := D.nx } σ2 H2) :=
  for_list Pv h0 hl (fun i x σ H hi h => hs i x σ H _ hi h ⟨fun _ _ q => q, fun _ _ q => q, fun _ _ q => q, fun _ _ q => q⟩) hd
theorem for_tupA (Pv : Nat → L2.St → Hp → Prop) (h0 : Pv 0 σ H) (hl : ∀ i σ H, i ≤ xs.length → Pv i σ H → SqT K H a xs)
    (hs : ∀ i x σ H (D' : Ends), xs[i]? = some x → Pv i σ H → EndsA (Pv (i + 1)) D D' → g x σ H fun σ2 H2 => tb D' σ2 H2) (hd : ∀ σ H, Pv xs.length σ H → D.nx σ H) :
    ∃ W : Nat → Nat → L2.St → Hp → Prop, (∃ m, W 0 m σ H) ∧ ∀ i m σ H, W i m σ H →
      ((Itt K a).stop i H ∧ D.nx σ H) ∨ ((Itt K a).go i H ∧ ∃ N : L2.St → Hp → Prop, (∀ σ' H', N σ' H' → ∃ m', m' < m ∧ W (i + 1) m' σ' H') ∧ ∀ x H', (Itt K a).yld i H x H' → g x σ H' fun σ2 H2 => tb { D with nx := N, ct := N, bk := D.nx } σ2 H2) :=
  for_tup Pv h0 hl (fun i x σ H hi h => hs i x σ H _ hi h ⟨fun _ _ q => q, fun _ _ q => q, fun _ _ q => q, fun _ _ q => q⟩) hd
theorem for_rangeA {lo : Int} {n : Nat} (Pv : Nat → L2.St → Hp → Prop) (h0 : Pv 0 σ H)
    (hs : ∀ i σ H (D' : Ends), i < n → Pv i σ H → EndsA (Pv (i + 1)) D D' → g (.int (lo + i)) σ H fun σ2 H2 => tb D' σ2 H2) (hd : ∀ σ H, Pv n σ H → D.nx σ H) :
    ∃ W : Nat → Nat → L2.St → Hp → Prop, (∃ m, W 0 m σ H) ∧ ∀ i m σ H, W i m σ H →
      ((Itr lo n).stop i H ∧ D.nx σ H) ∨ ((Itr lo n).go i H ∧ ∃ N : L2.St → Hp → Prop, (∀ σ' H', N σ' H' → ∃ m', m' < m ∧ W (i + 1) m' σ' H') ∧ ∀ x H', (Itr lo n).yld i H x H' → g x σ H' fun σ2 H2 => tb { D with nx := N, ct := N, bk := D.nx } σ2 H2) :=
  for_range Pv h0 (fun i σ H hi h => hs i σ H _ hi h ⟨fun _ _ q => q, fun _ _ q => q, fun _ _ q => q, fun _ _ q => q⟩) hd
theorem for_itA {J : It} {n : Nat} {G : Hp → Prop} {Y : Nat → Hp → V → Hp → Prop} (w : Walk J n G Y) (Pv : Nat → L2.St → Hp → Prop) (h0 : Pv 0 σ H) (hG : ∀ i σ H, i ≤ n → Pv i σ H → G H)
    (hs : ∀ i x σ H H' (D' : Ends), i < n → Pv i σ H → Y i H x H' → EndsA (Pv (i + 1)) D D' → g x σ H' fun σ2 H2 => tb D' σ2 H2) (hd : ∀ σ H, Pv n σ H → D.nx σ H) :
    ∃ W : Nat → Nat → L2.St → Hp → Prop, (∃ m, W 0 m σ H) ∧ ∀ i m σ H, W i m σ H →
      (J.stop i H ∧ D.nx σ H) ∨ (J.go i H ∧ ∃ N : L2.St → Hp → Prop, (∀ σ' H', N σ' H' → ∃ m', m' < m ∧ W (i + 1) m' σ' H') ∧ ∀ x H', J.yld i H x H' → g x σ H' fun σ2 H2 => tb { D with nx := N, ct := N, bk := D.nx } σ2 H2) :=
  for_it w Pv h0 hG (fun i x σ H H' hi h hy => hs i x σ H H' _ hi h hy ⟨fun _ _ q => q, fun _ _ q => q, fun _ _ q => q, fun _ _ q => q⟩) hd
/-- the ends of what is done while d is locked -/
structure EndsL (d : Addr) (od : Obj) (u : HO) (D D' : Ends) : Prop where
  nx : ∀ σ H, H d = some (.frz od u) → D.nx σ (L2.upd H d u) → D'.nx σ H
  rt : ∀ v H, H d = some (.frz od u) → D.rt v (L2.upd H d u) → D'.rt v H
  bk : ∀ σ H, H d = some (.frz od u) → D.bk σ (L2.upd H d u) → D'.bk σ H
  ct : ∀ σ H, H d = some (.frz od u) → D.ct σ (L2.upd H d u) → D'.ct σ H
theorem lockA {t : TS} {d : Addr} {u : HO} (hd : H d = some u) (mu : Mut (some u)) (h : ∀ od (D' : Ends), EndsL d od u D D' → t D' σ (L2.upd H d (.frz od u))) : tLock t D σ H :=
  ⟨d, u, hd, mu, fun od => h od _ ⟨fun _ _ a b => ⟨a, b⟩, fun _ _ a b => ⟨a, b⟩, fun _ _ a b => ⟨a, b⟩, fun _ _ a b => ⟨a, b⟩⟩⟩
end
end Sd


/-! sorted lists of texts: one order only -/
namespace Sd
open PySem PySem.Spec PyProof.Rows L2
theorem str_ext {x y : Str} (h : x.cps.toList = y.cps.toList) : x = y := by
  cases x; cases y
  simp only [Str.mk.injEq]
  exact Array.toList_inj.mp h
theorem rising_pw : ∀ {l : List Str} {p : Str}, risingS p l = true → ((p :: l).map (·.cps.toList)).Pairwise (· ≤ ·)
  | [], p, _ => by simp
  | x :: r, p, h => by
    have h : (!ltCps x.cps.toList p.cps.toList && risingS x r) = true := h
    rw [Bool.and_eq_true] at h
    have ih := rising_pw h.2
    have h1 : p.cps.toList ≤ x.cps.toList := by
      have := h.1
      rw [ltCps_eq] at this
      simpa using this
    rw [List.map_cons]
    refine List.pairwise_cons.mpr ⟨fun y hy => ?_, ih⟩
    rw [List.map_cons] at hy
    rcases List.mem_cons.mp hy with e | hy
    · rw [e]; exact h1
    · exact Std.le_trans h1 ((List.pairwise_cons.mp ih).1 y hy)
theorem sorted_pw {l : List Str} (h : sortedS l = true) : (l.map (·.cps.toList)).Pairwise (· ≤ ·) := by
  cases l with
  | nil => simp
  | cons x r => exact rising_pw h
theorem sortedS_uniq {xs ys : List Str} (p : ys.Perm xs) (h1 : sortedS ys = true) (h2 : sortedS xs = true) : ys = xs := by
  have e : ys.map (·.cps.toList) = xs.map (·.cps.toList) := List.Perm.eq_of_pairwise (le := (· ≤ ·)) (fun a b _ _ h3 h4 => Std.le_antisymm h3 h4) (sorted_pw h1) (sorted_pw h2) (p.map _)
  exact List.map_inj_right (fun _ _ h => str_ext h) |>.mp e
end Sd


/-! rules within a comprehension (.blk) or a generator expression (.gx), told with the outer K; words for texts -/
namespace Sd
open PySem PySem.Spec PyProof.Rows L2
section
variable {X : Cx} {s : Shared} {H : Hp} {scope : Scope} {env : Env} {fp : List Addr} {e : Expr} {f : Str} {pos : Pos} {ta : TE}
theorem pe_fldB (he : PE (X.blk s H scope env fp) e ta) (hb : attributeBase e f env (eval e env) = eval e env) : PE (X.blk s H scope env fp) (.Attribute e f pos) (tFld X.K ta f) := pe_fld he hb
theorem ix_tupB : IxR (X.blk s H scope env fp) (rIxT X.K) := ix_tup
theorem ix_listB : IxR (X.blk s H scope env fp) (rIxL X.K) := ix_list
theorem pi_listB {tg e : Expr} {te : TE} (he : PE (X.blk s H scope env fp) e te) : PI (X.blk s H scope env fp) tg e (iList X.K te) := pi_list he
theorem call_dictPB (hcalm : X.calm = true) : CallR (X.blk s H scope env fp) (.type "dict") (fun xs H Q => ∃ (a : Addr) (ps : List Addr) (kvs : List (Key × V)), xs = [.ref a] ∧ SqL X.K H a (ps.map V.ref) ∧ Paired (fun p kv => SqT X.K H p [kV kv.1, kv.2]) ps kvs ∧ ∀ p, H p = none → Q (.ref p) (upd H p (.dK (mergeK [] kvs)))) := call_dictP hcalm
theorem op_in_seqB : OpR (X.blk s H scope env fp) (compareOp .In) (rIn X.K false) := op_in_seq
theorem op_notIn_seqB : OpR (X.blk s H scope env fp) (compareOp .NotIn) (rIn X.K true) := op_notIn_seq
theorem op_eqPB (hu : (X.blk s H scope env fp).A.units + 64 < cLine) : OpR (X.blk s H scope env fp) (compareOp .Eq) (rEqP X.K) := op_eqP hu
theorem op_nePB (hu : (X.blk s H scope env fp).A.units + 64 < cLine) : OpR (X.blk s H scope env fp) (compareOp .NotEq) (rNeP X.K) := op_neP hu
end
section
variable {X : Cx} {A : Around} {s : Shared} {H : Hp} {env : Env} {fp : List Addr} {pn : List (Addr × Obj)} {e : Expr} {f : Str} {pos : Pos} {ta : TE}
theorem pe_fldG (he : PE (Gx.gx X A s H env fp pn) e ta) (hb : attributeBase e f env (eval e env) = eval e env) : PE (Gx.gx X A s H env fp pn) (.Attribute e f pos) (tFld X.K ta f) := pe_fld he hb
theorem ix_tupG : IxR (Gx.gx X A s H env fp pn) (rIxT X.K) := ix_tup
theorem ix_listG : IxR (Gx.gx X A s H env fp pn) (rIxL X.K) := ix_list
theorem op_in_seqG : OpR (Gx.gx X A s H env fp pn) (compareOp .In) (rIn X.K false) := op_in_seq
theorem op_notIn_seqG : OpR (Gx.gx X A s H env fp pn) (compareOp .NotIn) (rIn X.K true) := op_notIn_seq
end
/-! texts in lists -/
theorem in_strs {x : Str} {ns : List Str} : inV (.str x) (ns.map .str) = decide (x ∈ ns) := by
  unfold inV
  induction ns with
  | nil => simp
  | cons y r ih =>
    rw [List.map_cons, List.any_cons, ih]
    show (y == x || _) = _
    by_cases e : y = x
    · subst e; simp
    · simp [e, Ne.symm e]
theorem flat_strs {ns : List Str} : (ns.map V.str).all flatV = true := by
  rw [List.all_map, List.all_eq_true]; exact fun _ _ => rfl
theorem eqvAll_strs : ∀ (a b : List Str), PyData.eqvAll (a.map PyData.str) (b.map PyData.str) = decide (a = b)
  | [], [] => by simp [PyData.eqvAll]
  | [], _ :: _ => by simp [PyData.eqvAll]
  | _ :: _, [] => by simp [PyData.eqvAll]
  | x :: r, y :: s => by
    rw [List.map_cons, List.map_cons, PyData.eqvAll, eqvAll_strs r s]
    by_cases e : x = y <;> simp [PyData.eqv, e]
theorem eqv_strs {a b : List Str} : PyData.eqv (.list (a.map PyData.str)) (.list (b.map PyData.str)) = decide (a = b) := by
  rw [PyData.eqv]; exact eqvAll_strs a b
section
variable {K : PySem.W.Frag} {H : Hp} {L : Lg} {p q : Addr} {a b : List Str} {Q : VK} {xs ys : List V}
theorem k_neStrs (hL : Led H L) (h1 : At L p (.lst xs)) (h2 : At L q (.lst ys)) (e1 : xs = a.map V.str) (e2 : ys = b.map V.str) (k : Q (.bl (!decide (a = b))) H) : rNeP K (.ref p) (.ref q) H Q :=
  ⟨_, _, dp_lst (e1 ▸ hL.at h1) dp_strs, dp_lst (e2 ▸ hL.at h2) dp_strs, shal_strs, shal_strs, by rw [eqv_strs]; exact k⟩
theorem k_eqStrs (hL : Led H L) (h1 : At L p (.lst xs)) (h2 : At L q (.lst ys)) (e1 : xs = a.map V.str) (e2 : ys = b.map V.str) (k : Q (.bl (decide (a = b))) H) : rEqP K (.ref p) (.ref q) H Q :=
  ⟨_, _, dp_lst (e1 ▸ hL.at h1) dp_strs, dp_lst (e2 ▸ hL.at h2) dp_strs, shal_strs, shal_strs, by rw [eqv_strs]; exact k⟩
theorem k_inS {x : Str} {ns : List Str} (hL : Led H L) (h1 : At L p (.lst (ns.map V.str))) (k : Q (.bl (decide (x ∈ ns))) H) : rIn K false (.str x) (.ref p) H Q :=
  ⟨_, _, rfl, .inl (.of (hL.at h1)), rfl, flat_strs, by rw [in_strs]; exact k⟩
theorem k_ninS {x : Str} {ns : List Str} (hL : Led H L) (h1 : At L p (.lst (ns.map V.str))) (k : Q (.bl (!decide (x ∈ ns))) H) : rIn K true (.str x) (.ref p) H Q :=
  ⟨_, _, rfl, .inl (.of (hL.at h1)), rfl, flat_strs, by rw [in_strs]; exact k⟩
end
theorem mergeK_dz {names : List Str} {vals : List V} (h : names.Nodup) (hl : names.length = vals.length) : mergeK [] (dz names vals) = dz names vals := by
  rw [mergeK_nd]
  · rfl
  · have : (dz names vals).map (·.1) = names.map (Sum.inr : Str → Key) := by
      unfold dz
      rw [← List.unzip_fst, List.unzip_zip (by simpa using hl)]
    rw [List.nil_append, this]
    exact List.pairwise_map.mpr (h.imp fun ne q => ne (Sum.inr.inj q))
theorem paired_map {α β γ : Type} {F : β → γ → Prop} {f : α → β} {g : α → γ} : ∀ {l : List α}, (∀ x ∈ l, F (f x) (g x)) → Paired F (l.map f) (l.map g)
  | [], _ => .nil
  | x :: r, h => .cons (h x List.mem_cons_self) (paired_map fun y hy => h y (.tail _ hy))
end Sd


/-! dicts with text keys, told by lists of (name, what) -/
namespace Sd
open PySem L2
def aget {α : Type} : List (Str × α) → Str → Option α
  | [], _ => none
  | x :: r, k => if x.1 = k then some x.2 else aget r k
def aput {α : Type} : List (Str × α) → Str → α → List (Str × α)
  | [], k, v => [(k, v)]
  | x :: r, k, v => if x.1 = k then (k, v) :: r else x :: aput r k v
def adel {α : Type} : List (Str × α) → Str → List (Str × α)
  | [], _ => []
  | x :: r, k => if x.1 = k then r else x :: adel r k
theorem aget_none {α : Type} {k : Str} : ∀ {l : List (Str × α)}, k ∉ l.map (·.1) → aget l k = none
  | [], _ => rfl
  | x :: r, h => by
    have h1 : ¬ x.1 = k := fun e => h (by rw [← e]; exact List.mem_cons_self)
    rw [aget, if_neg h1]
    exact aget_none fun m => h (List.mem_cons_of_mem _ m)
theorem aget_some {α : Type} {k : Str} {v : α} : ∀ {l : List (Str × α)}, aget l k = some v → k ∈ l.map (·.1)
  | x :: r, h => by
    by_cases e : x.1 = k
    · rw [← e]; exact List.mem_cons_self
    · rw [aget, if_neg e] at h
      exact List.mem_cons_of_mem _ (aget_some h)
theorem aget_in {α : Type} {k : Str} : ∀ {l : List (Str × α)}, k ∈ l.map (·.1) → ∃ v, aget l k = some v
  | x :: r, h => by
    by_cases e : x.1 = k
    · exact ⟨x.2, by rw [aget, if_pos e]⟩
    · rw [aget, if_neg e]
      refine aget_in ?_
      rcases List.mem_cons.mp h with z | z
      · exact absurd z.symm e
      · exact z
theorem aput_names_in {α : Type} {k : Str} {v : α} : ∀ {l : List (Str × α)}, k ∈ l.map (·.1) → (aput l k v).map (·.1) = l.map (·.1)
  | x :: r, h => by
    by_cases e : x.1 = k
    · rw [aput, if_pos e]; simp [e]
    · rw [aput, if_neg e]
      rw [List.map_cons, List.map_cons, aput_names_in]
      rcases List.mem_cons.mp h with z | z
      · exact absurd z.symm e
      · exact z
theorem aput_names_out {α : Type} {k : Str} {v : α} : ∀ {l : List (Str × α)}, k ∉ l.map (·.1) → aput l k v = l ++ [(k, v)]
  | [], _ => rfl
  | x :: r, h => by
    have h1 : ¬ x.1 = k := fun e => h (by rw [← e]; exact List.mem_cons_self)
    rw [aput, if_neg h1, aput_names_out fun m => h (List.mem_cons_of_mem _ m)]
    rfl
theorem aget_put {α : Type} {k j : Str} {v : α} : ∀ {l : List (Str × α)}, aget (aput l k v) j = if k = j then some v else aget l j
  | [] => by
    show aget [(k, v)] j = _
    unfold aget
    rfl
  | x :: r => by
    by_cases e : x.1 = k
    · rw [aput, if_pos e]
      by_cases e2 : k = j
      · rw [aget, if_pos e2, if_pos e2]
      · rw [aget, if_neg e2, if_neg e2]
        rw [aget, if_neg (by rw [e]; exact e2)]
    · rw [aput, if_neg e]
      by_cases e2 : x.1 = j
      · rw [aget, if_pos e2, aget, if_pos e2, if_neg (fun z => e (e2.trans z.symm))]
      · rw [aget, if_neg e2, aget_put, aget, if_neg e2]
theorem aget_del {α : Type} {k j : Str} : ∀ {l : List (Str × α)}, (l.map (·.1)).Nodup → aget (adel l k) j = if k = j then none else aget l j
  | [], _ => by simp [adel, aget]
  | x :: r, nd => by
    obtain ⟨n1, n2⟩ := List.nodup_cons.mp nd
    by_cases e : x.1 = k
    · rw [adel, if_pos e]
      by_cases e2 : k = j
      · rw [if_pos e2]
        exact aget_none (by rw [← e2, ← e]; exact n1)
      · rw [if_neg e2, aget, if_neg (by rw [e]; exact e2)]
    · rw [adel, if_neg e]
      by_cases e2 : x.1 = j
      · rw [aget, if_pos e2, aget, if_pos e2, if_neg (fun z => e (e2.trans z.symm))]
      · rw [aget, if_neg e2, aget_del n2, aget, if_neg e2]
theorem adel_names {α : Type} {k : Str} : ∀ {l : List (Str × α)}, ((adel l k).map (·.1)).Sublist (l.map (·.1))
  | [] => .refl _
  | x :: r => by
    by_cases e : x.1 = k
    · rw [adel, if_pos e]; exact List.sublist_cons_self _ _
    · rw [adel, if_neg e]; exact adel_names.cons_cons _
section
variable {α : Type} {vo : Str × α → V} {l : List (Str × α)} {k : Str}
def kk (vo : Str × α → V) (x : Str × α) : Key × V := (Sum.inr x.1, vo x)
theorem kk_val : valV (l.map (kk vo)) (.inr k) = (aget l k).map fun v => vo (k, v) := by
  induction l with
  | nil => rfl
  | cons x r ih =>
    by_cases e : x.1 = k
    · rw [List.map_cons, valV_pos (p := kk vo x) (by show Sum.inr x.1 = _; rw [e]), aget, if_pos e]
      show some (vo x) = some (vo (k, x.2))
      rw [← e]
    · rw [List.map_cons, valV_neg (p := kk vo x) (fun z => e (Sum.inr.inj z)), ih, aget, if_neg e]
theorem kk_any : ((l.map (kk vo)).any fun kv => decide (kv.1 = (Sum.inr k : Key))) = decide (k ∈ l.map (·.1)) := by
  induction l with
  | nil => rfl
  | cons x r ih =>
    rw [List.map_cons, List.any_cons, ih]
    have e1 : decide ((kk vo x).1 = (Sum.inr k : Key)) = decide (x.1 = k) := decide_eq_decide.mpr ⟨fun z => Sum.inr.inj z, fun z => by show Sum.inr x.1 = _; rw [z]⟩
    rw [e1]
    by_cases e : x.1 = k
    · simp [e]
    · have e' : ¬ k = x.1 := fun z => e z.symm
      simp [e, e']
theorem kk_put {v : α} (nd : (l.map (·.1)).Nodup) : putK (l.map (kk vo)) (.inr k) (vo (k, v)) = (aput l k v).map (kk vo) := by
  unfold putK
  rw [kk_any]
  by_cases h : k ∈ l.map (·.1)
  · rw [if_pos (decide_eq_true h)]
    induction l with
    | nil => simp at h
    | cons x r ih =>
      obtain ⟨n1, n2⟩ := List.nodup_cons.mp nd
      by_cases e : x.1 = k
      · rw [aput, if_pos e, List.map_cons, List.map_cons, List.map_cons, if_pos (by show Sum.inr x.1 = _; rw [e])]
        congr 1
        · show (Sum.inr x.1, _) = (Sum.inr k, _)
          rw [e]
        · refine (List.map_congr_left fun y hy => ?_).trans (List.map_id _)
          refine if_neg fun z => n1 ?_
          obtain ⟨q, hq, rfl⟩ := List.mem_map.mp hy
          have z : q.1 = k := Sum.inr.inj z
          exact List.mem_map.mpr ⟨q, hq, z.trans e.symm⟩
      · rw [aput, if_neg e, List.map_cons, List.map_cons, List.map_cons, if_neg (show ¬ (kk vo x).1 = (Sum.inr k : Key) from fun z => e (Sum.inr.inj z))]
        congr 1
        refine ih n2 ?_
        rcases List.mem_cons.mp h with z | z
        · exact absurd z.symm e
        · exact z
  · rw [if_neg (by rw [decide_eq_false h]; decide), aput_names_out h, List.map_append]
    rfl
theorem kk_drop (nd : (l.map (·.1)).Nodup) : dropK (l.map (kk vo)) (.inr k) = (adel l k).map (kk vo) := by
  unfold dropK
  induction l with
  | nil => rfl
  | cons x r ih =>
    obtain ⟨n1, n2⟩ := List.nodup_cons.mp nd
    by_cases e : x.1 = k
    · rw [adel, if_pos e, List.map_cons, List.filter_cons, if_neg (by simp [kk, e])]
      refine List.filter_eq_self.mpr fun y hy => ?_
      obtain ⟨q, hq, rfl⟩ := List.mem_map.mp hy
      have : ¬ q.1 = k := fun z => n1 (List.mem_map.mpr ⟨q, hq, z.trans e.symm⟩)
      simp [kk, this]
    · rw [adel, if_neg e, List.map_cons, List.filter_cons, if_pos (by simp [kk, e]), List.map_cons, ih n2]
theorem aput_map {α β : Type} {f : α → β} {k : Str} {v : α} : ∀ {l : List (Str × α)}, (aput l k v).map (fun x => (x.1, f x.2)) = aput (l.map fun x => (x.1, f x.2)) k (f v)
  | [] => rfl
  | x :: r => by
    by_cases e : x.1 = k
    · rw [aput, if_pos e, List.map_cons, List.map_cons, aput, if_pos e]
    · rw [aput, if_neg e, List.map_cons, List.map_cons, aput, if_neg e, aput_map]
theorem adel_map {α β : Type} {f : α → β} {k : Str} : ∀ {l : List (Str × α)}, (adel l k).map (fun x => (x.1, f x.2)) = adel (l.map fun x => (x.1, f x.2)) k
  | [] => rfl
  | x :: r => by
    by_cases e : x.1 = k
    · rw [adel, if_pos e, List.map_cons, adel, if_pos e]
    · rw [adel, if_neg e, List.map_cons, List.map_cons, adel, if_neg e, adel_map]
theorem aget_map {α β : Type} {f : α → β} {k : Str} : ∀ {l : List (Str × α)}, aget (l.map fun x => (x.1, f x.2)) k = (aget l k).map f
  | [] => rfl
  | x :: r => by
    by_cases e : x.1 = k
    · rw [List.map_cons, aget, if_pos e, aget, if_pos e]; rfl
    · rw [List.map_cons, aget, if_neg e, aget, if_neg e, aget_map]
end
theorem at_mem {L : Lg} {a : Addr} {o : HO} (h : (a, o) ∈ L) : At L a o := let ⟨i, hi, e⟩ := List.getElem_of_mem h; ⟨i, by rw [List.getElem?_eq_getElem hi, e]⟩
theorem nodup_len {α : Type} [DecidableEq α] : ∀ {l U : List α}, l.Nodup → (∀ k ∈ l, k ∈ U) → l.length ≤ U.length
  | [], _, _, _ => Nat.zero_le _
  | x :: r, U, nd, h => by
    obtain ⟨n1, n2⟩ := List.nodup_cons.mp nd
    have hx := h x List.mem_cons_self
    have := nodup_len (U := U.erase x) n2 fun k hk => (List.mem_erase_of_ne (fun e => n1 (by rw [← e]; exact hk))).mpr (h k (.tail _ hk))
    rw [List.length_erase_of_mem hx] at this
    have h0 : 0 < U.length := List.length_pos_of_mem hx
    rw [List.length_cons]
    omega
theorem kk_names {α : Type} {vo : Str × α → V} {l : List (Str × α)} : (l.map (kk vo)).map (·.1) = (l.map (·.1)).map Sum.inr := by
  rw [List.map_map, List.map_map]; rfl
theorem aput_nd {α : Type} {k : Str} {v : α} {l : List (Str × α)} (h : (l.map (·.1)).Nodup) : ((aput l k v).map (·.1)).Nodup := by
  by_cases hk : k ∈ l.map (·.1)
  · rw [aput_names_in hk]; exact h
  · rw [aput_names_out hk, List.map_append]
    exact List.nodup_append.mpr ⟨h, by simp, fun a ha b hb => by
      rw [List.map_cons, List.map_nil, List.mem_singleton] at hb
      rw [hb]
      exact fun e => hk ((show a = k from e) ▸ ha)⟩
theorem aput_mem {α : Type} {k j : Str} {v : α} {l : List (Str × α)} (h : j ∈ (aput l k v).map (·.1)) : j = k ∨ j ∈ l.map (·.1) := by
  by_cases hk : k ∈ l.map (·.1)
  · rw [aput_names_in hk] at h; exact .inr h
  · rw [aput_names_out hk, List.map_append] at h
    rcases List.mem_append.mp h with h | h
    · exact .inr h
    · exact .inl (by simpa using h)
theorem adel_mem {α : Type} {k j : Str} : ∀ {l : List (Str × α)}, j ∈ l.map (·.1) → j ≠ k → j ∈ (adel l k).map (·.1)
  | x :: r, h, ne => by
    by_cases e : x.1 = k
    · rw [adel, if_pos e]
      rcases List.mem_cons.mp h with z | z
      · exact absurd (z.trans e) ne
      · exact z
    · rw [adel, if_neg e]
      rcases List.mem_cons.mp h with z | z
      · rw [z]; exact List.mem_cons_self
      · exact List.mem_cons_of_mem _ (adel_mem z ne)
theorem aget_split {α : Type} {k : Str} {v : α} : ∀ {l : List (Str × α)}, aget l k = some v → ∃ B C, l = B ++ (k, v) :: C ∧ ∀ v', aput l k v' = B ++ (k, v') :: C
  | x :: r, h => by
    by_cases e : x.1 = k
    · rw [aget, if_pos e] at h
      obtain rfl := Option.some.inj h
      exact ⟨[], r, by rw [← e]; rfl, fun v' => by rw [aput, if_pos e]; rfl⟩
    · rw [aget, if_neg e] at h
      obtain ⟨B, C, e1, e2⟩ := aget_split h
      exact ⟨x :: B, C, by rw [e1]; rfl, fun v' => by rw [aput, if_neg e, e2 v']; rfl⟩
theorem aput_self {α : Type} {k : Str} {v : α} {l : List (Str × α)} (h : aget l k = some v) : aput l k v = l := by
  obtain ⟨B, C, e1, e2⟩ := aget_split h
  rw [e2, ← e1]
theorem k_dgetR {H : Hp} {a : Addr} {kvs : List (Key × V)} {v : V} {P : Addr → V → Prop} {x : Str} (r : Rd H a (.dK kvs)) (lk : valV kvs (.inr x) = some v) (q : P a v) : ∃ a' v', V.ref a = .ref a' ∧ DGet H a' (.str x) (some v') ∧ P a' v' :=
  ⟨_, _, rfl, .inl ⟨kvs, .inr x, r, rfl, lk.symm⟩, q⟩
theorem adel_none {α : Type} {k : Str} : ∀ {l : List (Str × α)}, aget l k = none → adel l k = l
  | [], _ => rfl
  | x :: r, h => by
    by_cases e : x.1 = k
    · rw [aget, if_pos e] at h; cases h
    · rw [aget, if_neg e] at h
      rw [adel, if_neg e, adel_none h]
theorem aput_nm {α : Type} {l : List (Str × α)} {k : Str} {v : α} {ns : List Str} (h : l.map (·.1) = ns) (hk : k ∈ ns) : (aput l k v).map (·.1) = ns := by
  rw [aput_names_in (by rw [h]; exact hk)]; exact h
theorem aget_const {α : Type} {v : α} {k : Str} : ∀ {ns : List Str}, k ∈ ns → aget (ns.map fun n => (n, v)) k = some v
  | x :: r, h => by
    by_cases z : x = k
    · rw [List.map_cons, aget, if_pos z]
    · rw [List.map_cons, aget, if_neg z]
      exact aget_const ((List.mem_cons.mp h).resolve_left fun y => z y.symm)
theorem aget_mem {α : Type} {k : Str} {v : α} {l : List (Str × α)} (h : aget l k = some v) : (k, v) ∈ l := by
  obtain ⟨B, C, e, _⟩ := aget_split h
  rw [e]; exact List.mem_append_right _ List.mem_cons_self
theorem mem_aget {α : Type} {k : Str} {v : α} {l : List (Str × α)} (nd : (l.map (·.1)).Nodup) (h : (k, v) ∈ l) : aget l k = some v := by
  induction l with
  | nil => cases h
  | cons x r ih =>
    obtain ⟨n1, n2⟩ := List.nodup_cons.mp nd
    rcases List.mem_cons.mp h with e | h
    · rw [← e, aget, if_pos rfl]
    · rw [aget, if_neg]
      · exact ih n2 h
      · intro e
        exact n1 (List.mem_map.mpr ⟨_, h, e.symm⟩)
theorem foldl_take {α β : Type} {f : β → α → β} {l : List α} {i : Nat} {x : α} {b : β} (h : l[i]? = some x) : (l.take (i + 1)).foldl f b = f ((l.take i).foldl f b) x := by
  rw [List.take_add_one, h, List.foldl_append]; rfl
theorem small60 {n : Nat} (h : n < 60) : n < sizeLine := Nat.lt_of_lt_of_le h (by decide)
theorem map_take {α β : Type} {f : α → β} {l : List α} {i : Nat} {x : α} (h : l[i]? = some x) : (l.take (i + 1)).map f = (l.take i).map f ++ [f x] := by
  rw [List.take_add_one, h, List.map_append]; rfl
theorem pss_imp {X : Cx} {sts : List Stmt} {t u : TS} (h : PSs X sts t) (k : ∀ D σ H, u D σ H → t D σ H) : PSs X sts u := ⟨fun pins s σ H D I q => h.run pins s σ H D I (k D σ H q)⟩
theorem ps_imp {X : Cx} {st : Stmt} {t u : TS} (h : PS X st t) (k : ∀ D σ H, u D σ H → t D σ H) : PS X st u := ⟨fun pins s σ H D I q => h.run pins s σ H D I (k D σ H q)⟩
end Sd


/-! data with a Lean type: == and != of it; min of a list of (number, text) -/
namespace Sd
open PySem PySem.W PySem.Spec PyProof.Rows L2
/-- a tuple of three -/
structure T3 (α β γ : Type) where
  a : α
  b : β
  c : γ
deriving DecidableEq
instance {α β γ : Type} [DecidableEq α] [DecidableEq β] [DecidableEq γ] [Datum α] [Datum β] [Datum γ] : Datum (T3 α β γ) where
  toD x := .tuple [Datum.toD x.a, Datum.toD x.b, Datum.toD x.c]
  plain x := by simp [PyData.plain, PyData.plainAll, Datum.plain]
  eqv x y := by
    obtain ⟨a, b, c⟩ := x
    obtain ⟨a', b', c'⟩ := y
    simp only [PyData.eqv, PyData.eqvAll, Datum.eqv, T3.mk.injEq, Bool.and_true]
    by_cases h1 : a = a' <;> by_cases h2 : b = b' <;> by_cases h3 : c = c' <;> simp [h1, h2, h3]
  depth := max (Datum.depth α) (max (Datum.depth β) (Datum.depth γ)) + 1
  depth_le x := by
    have h1 := Datum.depth_le x.a
    have h2 := Datum.depth_le x.b
    have h3 := Datum.depth_le x.c
    simp only [PyData.depth, PyData.depthAll]
    omega
/-- a value of the heap is a Lean value -/
def Dt {α : Type} [DecidableEq α] [Datum α] (K : PySem.W.Frag) (H : Hp) (v : V) (x : α) : Prop := Dp K H v (Datum.toD x)
section
variable {K : PySem.W.Frag} {H : Hp} {α β γ : Type} [DecidableEq α] [DecidableEq β] [DecidableEq γ] [Datum α] [Datum β] [Datum γ] {x y : V} {a b : α} {Q : VK}
theorem dt_shal (h : Datum.depth α ≤ 60) : Shal (Datum.toD a) := ⟨Datum.plain a, Nat.le_trans (Datum.depth_le a) h⟩
theorem k_neD (h : Datum.depth α ≤ 60) (h1 : Dt K H x a) (h2 : Dt K H y b) (k : Q (.bl (!decide (a = b))) H) : rNeP K x y H Q :=
  ⟨_, _, h1, h2, dt_shal h, dt_shal h, by rw [Datum.eqv]; exact k⟩
theorem k_eqD (h : Datum.depth α ≤ 60) (h1 : Dt K H x a) (h2 : Dt K H y b) (k : Q (.bl (decide (a = b))) H) : rEqP K x y H Q :=
  ⟨_, _, h1, h2, dt_shal h, dt_shal h, by rw [Datum.eqv]; exact k⟩
theorem dt_int {i : Int} : Dt K H (.int i) i := .int _
theorem dt_str {i : Str} : Dt K H (.str i) i := .str _
theorem dt_pair {p : Addr} {v w : V} {x : α} {y : β} (h : H p = some (.tup [v, w])) (h1 : Dt K H v x) (h2 : Dt K H w y) : Dt K H (.ref p) (x, y) := dp_tup h (.cons h1 (.cons h2 .nil))
theorem dt_t3 {p : Addr} {u v w : V} {x : α} {y : β} {z : γ} (h : H p = some (.tup [u, v, w])) (h1 : Dt K H u x) (h2 : Dt K H v y) (h3 : Dt K H w z) : Dt K H (.ref p) (T3.mk x y z) := dp_tup h (.cons h1 (.cons h2 (.cons h3 .nil)))
theorem dt_list {δ : Type} {p : Addr} {l : List δ} {f : δ → V} {g : δ → α} (h : H p = some (.lst (l.map f))) (hl : ∀ x ∈ l, Dt K H (f x) (g x)) : Dt K H (.ref p) (l.map g) := by
  show Dp K H (.ref p) (.list ((l.map g).map Datum.toD))
  rw [List.map_map]
  exact dp_lst h (dp_all hl)
theorem dt_nil {p : Addr} (h : H p = some (.lst [])) : Dt K H (.ref p) ([] : List α) := dp_lst h .nil
end
/-! min -/
theorem minOf_spec {α : Type} [DecidableEq α] [DatumOrd α] (tr : ∀ a b c : α, DatumOrd.lt b a = false → DatumOrd.lt c b = false → DatumOrd.lt c a = false) (rf : ∀ a : α, DatumOrd.lt a a = false) (as : ∀ a b : α, DatumOrd.lt a b = true → DatumOrd.lt b a = false) :
    ∀ (xs : List α) (x : α), minOf x xs ∈ x :: xs ∧ ∀ y ∈ x :: xs, DatumOrd.lt y (minOf x xs) = false
  | [], x => ⟨.head _, fun y hy => by rw [List.mem_singleton.mp hy]; exact rf x⟩
  | z :: r, x => by
    have e : minOf x (z :: r) = minOf (if DatumOrd.lt z x = true then z else x) r := rfl
    obtain ⟨h1, h2⟩ := minOf_spec tr rf as r (if DatumOrd.lt z x = true then z else x)
    rw [e]
    by_cases q : DatumOrd.lt z x = true
    · rw [if_pos q] at h1 h2 ⊢
      refine ⟨.tail _ h1, fun y hy => ?_⟩
      rcases List.mem_cons.mp hy with rfl | hy
      · exact tr _ _ _ (h2 z (.head _)) (as _ _ q)
      · exact h2 y hy
    · rw [if_neg q] at h1 h2 ⊢
      refine ⟨?_, fun y hy => ?_⟩
      · rcases List.mem_cons.mp h1 with e1 | e1
        · rw [e1]; exact .head _
        · exact .tail _ (.tail _ e1)
      · rcases List.mem_cons.mp hy with rfl | hy
        · exact h2 _ (.head _)
        · rcases List.mem_cons.mp hy with rfl | hy
          · have q' : DatumOrd.lt y x = false := by simpa using q
            exact tr _ _ _ (h2 x (.head _)) q'
          · exact h2 y (.tail _ hy)
abbrev IS := Int × Str
/-- at most, by number, then by text -/
def leP (a b : IS) : Prop := a.1 < b.1 ∨ a.1 = b.1 ∧ a.2.cps.toList ≤ b.2.cps.toList
theorem lt_leP {a b : IS} : DatumOrd.lt b a = false ↔ leP a b := by
  show (if b.1 = a.1 then decide (b.2.cps.toList < a.2.cps.toList) else decide (b.1 < a.1)) = false ↔ _
  unfold leP
  by_cases h : b.1 = a.1
  · rw [if_pos h, decide_eq_false_iff_not, Std.not_lt]
    constructor
    · exact fun q => .inr ⟨h.symm, q⟩
    · rintro (q | ⟨_, q⟩)
      · omega
      · exact q
  · rw [if_neg h, decide_eq_false_iff_not]
    constructor
    · exact fun q => .inl (by omega)
    · rintro (q | ⟨q, _⟩)
      · omega
      · omega
theorem leP_refl {a : IS} : leP a a := .inr ⟨rfl, Std.le_refl _⟩
theorem leP_trans {a b c : IS} (h1 : leP a b) (h2 : leP b c) : leP a c := by
  rcases h1 with h1 | ⟨h1, h1'⟩ <;> rcases h2 with h2 | ⟨h2, h2'⟩
  · exact .inl (by omega)
  · exact .inl (by omega)
  · exact .inl (by omega)
  · exact .inr ⟨h1.trans h2, Std.le_trans h1' h2'⟩
theorem leP_anti {a b : IS} (h1 : leP a b) (h2 : leP b a) : a = b := by
  rcases h1 with h1 | ⟨h1, h1'⟩ <;> rcases h2 with h2 | ⟨h2, h2'⟩
  · omega
  · omega
  · omega
  · exact Prod.ext h1 (str_ext (Std.le_antisymm h1' h2'))
theorem leP_total {a b : IS} (h : ¬ leP a b) : leP b a := by
  by_cases q : DatumOrd.lt a b = false
  · exact lt_leP.mp q
  · exfalso
    refine h (lt_leP.mp ?_)
    have q : (if a.1 = b.1 then decide (a.2.cps.toList < b.2.cps.toList) else decide (a.1 < b.1)) = true := (Bool.not_eq_false _).mp q
    show (if b.1 = a.1 then decide (b.2.cps.toList < a.2.cps.toList) else decide (b.1 < a.1)) = false
    by_cases e : a.1 = b.1
    · rw [if_pos e] at q
      rw [if_pos e.symm]
      exact decide_eq_false (Std.not_lt.mpr (Std.le_of_lt (of_decide_eq_true q)))
    · rw [if_neg e] at q
      rw [if_neg (fun z => e z.symm)]
      exact decide_eq_false (by have := of_decide_eq_true q; omega)
theorem minOf_leP (x : IS) (xs : List IS) : minOf x xs ∈ x :: xs ∧ ∀ y ∈ x :: xs, leP (minOf x xs) y := by
  obtain ⟨h1, h2⟩ := minOf_spec (α := IS) (fun a b c h1 h2 => lt_leP.mpr (leP_trans (lt_leP.mp h1) (lt_leP.mp h2))) (fun a => lt_leP.mpr leP_refl) (fun a b h => by
    refine lt_leP.mpr ?_
    by_cases q : leP a b
    · exact q
    · have q2 := leP_total q
      exact absurd (lt_leP.mpr q2) (by rw [h]; decide)) xs x
  exact ⟨h1, fun y hy => lt_leP.mp (h2 y hy)⟩
/-- min(rows): a row that is at most all of them -/
def rMinP (K : PySem.W.Frag) : List V → Hp → VK → Prop := fun vs H Q => ∃ (a : Addr) (l : List (Addr × IS)), vs = [.ref a] ∧ l ≠ [] ∧ SqL K H a (l.map fun x => V.ref x.1) ∧ (∀ x ∈ l, H x.1 = some (.tup [.int x.2.1, .str x.2.2])) ∧
  ∀ x ∈ l, (∀ y ∈ l, leP x.2 y.2) → Q (.ref x.1) H
theorem cr_minP {X : Cx} (hc : X.calm = true) (hu : X.A.units + 64 < cLine) : CallR X (.builtin "min") (rMinP X.K) := by
  intro pins s σ H vs us Q I r h
  obtain ⟨a, l, rfl, hne, hs, hall, q⟩ := h
  obtain ⟨its, rv, hl, _⟩ := I.list hs
  rw [Vals.ref1 r]
  have hd : DpAll X.K H (l.map fun x => V.ref x.1) (l.map fun x => Datum.toD x.2) := dp_all fun x hx => dp_tup (hall x hx) (.cons (.int _) (.cons (.str _) .nil))
  obtain ⟨as, ra⟩ := Dp.readsAll I _ _ _ hd rv
  cases l with
  | nil => exact absurd rfl hne
  | cons x xs =>
    have HA : HoldAll s.heap its.toArray.toList (x.2 :: xs.map (·.2)) := ⟨as, by simpa [Function.comp_def] using ra⟩
    refine min_list_datum (α := IS) (I.ok.hd hc) hl.isList HA (Nat.lt_of_le_of_lt (Nat.add_le_add_left (by decide : 1 + Datum.depth IS ≤ 64) X.A.units |> fun h => by omega) hu) fun i v h' tk hi hv hk => ?_
    obtain ⟨m1, m2⟩ := minOf_leP x.2 (xs.map (·.2))
    have hi2 : its[i]? = some v := by simpa using hi
    have hlen := rv.length
    have hil : i < (x :: xs).length := by
      have := (List.getElem?_eq_some_iff.mp hi2).1
      simp only [List.length_map] at hlen
      omega
    have hx : (x :: xs)[i]? = some (x :: xs)[i] := List.getElem?_eq_getElem hil
    generalize hy : (x :: xs)[i] = y at hx
    have hmem : y ∈ x :: xs := by rw [← hy]; exact List.getElem_mem hil
    obtain ⟨u, hu1, hu2⟩ := Vals.get (x := V.ref y.1) rv (by rw [List.getElem?_map, hx]; rfl)
    rw [hi2] at hu1
    cases hu1
    obtain rfl : v = Value.ref y.1 := hu2
    obtain ⟨as1, r1⟩ := Dp.reads I (Datum.toD y.2) (.ref y.1) (.ref y.1) (dp_tup (hall y hmem) (.cons (.int _) (.cons (.str _) .nil))) rfl
    obtain ⟨as2, r2⟩ := hv
    have e := reads_det (fun b o e _ => hk b o e) r1 r2
    have e2 : y.2 = minOf x.2 (xs.map (·.2)) := by
      have := Datum.eqv y.2 (minOf x.2 (xs.map (·.2)))
      rw [← e.1] at this
      rw [Datum.eqv] at this
      simpa using this
    refine ⟨.ref y.1, H, I.kept hk, rfl, q y hmem fun z hz => ?_⟩
    rw [e2]
    refine m2 z.2 ?_
    rcases List.mem_cons.mp hz with rfl | hz
    · exact .head _
    · exact .tail _ (List.mem_map.mpr ⟨z, hz, rfl⟩)
end Sd


/-! told(lambda): a lambda made, called by told, and it raises: the table of the law's own code lives on -/
namespace Sd
open PySem PySem.Spec PyProof.Rows L2 LamX NdefX
theorem led_more {H : Hp} : ∀ (as : List Addr) (R : Lg), Led H R → ∃ R2 : Lg, Led H R2 ∧ (∀ x ∈ R, x ∈ R2) ∧ ∀ a ∈ as, ∀ o, H a = some o → ∀ H', Led H' R2 → H' a = some o
  | [], R, h => ⟨R, h, fun _ h => h, fun _ h => nomatch h⟩
  | a :: as, R, h => by
    obtain ⟨R1, h1, i1, k1⟩ := led_more as R h
    by_cases e : ∃ o, (a, o) ∈ R1
    · obtain ⟨o, ho⟩ := e
      refine ⟨R1, h1, i1, fun b hb o' hb' H' h' => ?_⟩
      rcases List.mem_cons.mp hb with rfl | hb
      · have := h1.mem ho
        rw [hb'] at this
        cases this
        exact h'.mem ho
      · exact k1 b hb o' hb' H' h'
    · rcases ha : H a with _ | o
      · refine ⟨R1, h1, i1, fun b hb o' hb' H' h' => ?_⟩
        rcases List.mem_cons.mp hb with rfl | hb
        · rw [ha] at hb'; cases hb'
        · exact k1 b hb o' hb' H' h'
      · refine ⟨(a, o) :: R1, ⟨fun x hx => ?_, ?_⟩, fun x hx => .tail _ (i1 x hx), fun b hb o' hb' H' h' => ?_⟩
        · rcases List.mem_cons.mp hx with rfl | hx
          · exact ha
          · exact h1.1 x hx
        · rw [List.map_cons]
          refine List.nodup_cons.mpr ⟨fun hm => ?_, h1.2⟩
          obtain ⟨x, hx, ex⟩ := List.mem_map.mp hm
          exact e ⟨x.2, by
            have ex : x.1 = a := ex
            rw [← ex]; exact hx⟩
        · rcases List.mem_cons.mp hb with rfl | hb
          · rw [ha] at hb'; cases hb'
            exact h'.mem (.head _)
          · exact k1 b hb o' hb' H' h'.tail
/-- the table within a ledger -/
theorem tab_led {H : Hp} {P : Addr} {q : Str} (t : TabS H P q) : ∃ R : Lg, Led H R ∧ ∀ H', Led H' R → TabS H' P q := by
  obtain ⟨ps, h1, h2, h3⟩ := t
  obtain ⟨R, hR, _, k⟩ := led_more (P :: ps.toList.filterMap fun v => match v with | .ref c => some c | _ => none) [] Led.nil
  refine ⟨R, hR, fun H' h' => ⟨ps, k P (.head _) _ h1 H' h', h2, fun pos cv hc => ?_⟩⟩
  obtain ⟨c, rfl, hcc⟩ := h3 pos cv hc
  refine ⟨c, rfl, k c (.tail _ (List.mem_filterMap.mpr ⟨.ref c, ?_, rfl⟩)) _ hcc H' h'⟩
  clear h1 h2 h3 k hR hcc
  generalize ps.toList = l at hc
  fun_induction codeAmong pos l with
  | case1 line t1 col t2 c' rest hq =>
    cases hc
    exact .tail _ (.tail _ (.head _))
  | case2 line t1 col t2 c' rest hq ih => exact .tail _ (.tail _ (.tail _ (ih hc)))
  | case3 => cases hc
/-- a lambda that raises -/
def tlR (CE : Addr) : Hp → VK → XK → Prop := fun H _ E => ∃ R, Led H R ∧ ∀ H', Led H' R → E (.ref CE) none H'
theorem rd_told {P : Program} {w : World} {K : PySem.W.Frag} {mg : Str → Option Value} {base : Heap} {k : Nat} {CE PL : Addr} {e ret q : Str} {params : Arguments} {body : Expr} {scope : Scope} {σ : L2.St} {H : Hp} {Q : VK} (T : ExcT K mg e CE) (hT : TabS H PL q)
    (L : ∀ f c', LOk P w K mg base k f ⟨"<lambda>", q, params, [], scope, [], c'⟩ body (tlR CE)) (kq : ∀ H', TabS H' PL q → Q (.str ret) H') :
    tCall (spTold P w K mg base k CE ret) [] C8.E0 (tCons (tLamV PL q params body scope) tNil) σ H Q := by
  refine ⟨hT, fun f c' H1 eN T1 n0 hf hc => ?_⟩
  obtain ⟨R, hR, kR⟩ := tab_led T1
  exact ⟨f, _, _, _, rfl, hf, hc, L f c', R, hR, fun H' h' => ⟨true, T.em, fun _ => kq H' (kR H' h'), fun z => nomatch z⟩⟩
end Sd


/-! lambdas that capture names, kept as values, called by told -/
namespace Sd
open PySem PySem.Spec PyProof.Rows L2 LamX NdefX
structure LOkC (P : Program) (w : World) (K : PySem.W.Frag) (mg : Str → Option Value) (base : Heap) (k : Nat) (f : Addr) (F : NF) (b : Expr) (fr : List Str) (tl : List (Option V) → Hp → VK → XK → Prop) : Prop where
  run : ∀ (A : Around) (outer : List Env) (s : Shared) (H : Hp) (ws : List (Option V)) (Q : VK) (E : XK), Room k A → Env0 P w K mg base A outer s H → H f = some (LamO f F b) → H F.c = some (CodeO F.c F.qual) → CellsAt F.cl fr ws s.heap H → tl ws H Q E →
    codeAny (model P w) A (.call (.ref f) ⟨[], []⟩) (CR (L2.CX P w) outer P w H s Q E) s
section
variable {P : Program} {w : World} {K : PySem.W.Frag} {mg : Str → Option Value} {base : Heap} {F : NF} {f : Addr} {b : Expr} {k : Nat} {N fr : List Str} {tl : List (Option V) → Hp → VK → XK → Prop}
theorem lokC_of (S : NScope N [] fr F.scope) (hb : ∀ pm cv ctv : Value, bindArgs (PySem.W.kla_fn F.name F.qual F.params b F.scope F.cl pm cv ctv) ⟨[], []⟩ = pure [])
    (hbody : ∀ (A : Around) (outer : List Env) (s : Shared) (H : Hp) (ws : List (Option V)) (Q : VK) (E : XK), Room k (A.deeper (envF F f s.heap.objs.size)) → tl ws H Q E → ∃ t : TE, PE (ncx (L2.CX P w) P w K mg base N F f A outer s H E) b t ∧ t (startF N [] ws) H Q) :
    LOkC P w K mg base (k + 1) f F b fr tl := by
  refine ⟨fun A outer s H ws Q E hr e0 hf hc C h => ?_⟩
  have lim : s.heap.NoLimit := e0.mod.nolimit.keeps fun b o e => (e0.bs b o e).1
  obtain ⟨pm, ctv, ho⟩ := lamO_at e0.hok hf
  refine PySem.W.kla_callFunE hr.depth ho rfl S.co S.gen rfl (codeO_at e0.hok hc) ?_
  rw [hb]
  refine wpAny_pure (wpAny_newFunctionEnv S.nocell (fun y hy => absurd hy (by simp)) (fun h₁ hns hsb => ⟨lim.fresh _ hsb, ?_⟩) S.kind)
  show codeAny _ _ (.expr b (envF F f s.heap.objs.size)) _ _
  have kp : ∀ b o, s.heap.get? b = some o → h₁.get? b = some o := fun b o e => hsb.extBut b o (Nat.ne_of_lt (Heap.lt_size e)) (Heap.get?_push_of_some _ e)
  obtain ⟨t, ht, hq⟩ := hbody A outer s H ws Q E (hr.deeper _) h
  have I : Inv (ncx (L2.CX P w) P w K mg base N F f A outer s H E) [] (startF N [] ws) H { s with heap := h₁, toks := s.toks + ([] : List (Str × Value)).length } :=
    inv_startN (N := N) (ps := []) (fr := fr) (vs := []) (us := []) (ws := ws) S hr.hd e0 rfl .nil C hns kp
  refine PySem.W.kla_codeExpr (wpAny_mono (ht.run [] _ _ H Q I hq) (fun v s' hq => ?_) fun e s' hq => hq)
  obtain ⟨w', H', J', rv, q⟩ := hq
  exact ⟨w', H', J'.os, J'.bare, J'.base, J'.hok, rv, q⟩
end
theorem pe_lamcC {X : Cx} {W : WX} {i k : Nat} {x : Str} {p pos : Pos} {f : Addr} {F : NF} {b : Expr} {fr : List Str} {ws : List (Option V)} {tl : List (Option V) → Hp → VK → XK → Prop} (tk : Takes X W) (hr : Room k X.A) (hN : X.N[i]? = some x) (hv : Vis X.env.scope x)
    (C : CellsAt F.cl fr ws X.s_0.heap X.H_0) (nf : ∀ y c, F.cl.lookup y = some c → c ∉ X.fs) (hx : ∀ y c, F.cl.lookup y = some c → c ∉ X.ex) (L : LOkC X.prog X.w X.K X.mg X.base k f F b fr tl)
    (hd : (x == ("__debug__" : Str)) = false := by decide) (hcd : (x == ("__classdict__" : Str)) = false := by decide) :
    PE X (.Call (.Name x p) [] [] pos) (fun σ H Q => σ[i]? = some (some (.ref f)) ∧ H f = some (LamO f F b) ∧ H F.c = some (CodeO F.c F.qual) ∧ ∃ E : XK, (∀ cls d σ' H', E cls d H' → W cls d σ' H') ∧ tl ws H Q E) := by
  refine ⟨fun pins s σ H Q I h => ?_⟩
  obtain ⟨hs, hf, hc, E, hW, ht⟩ := h
  refine wpAny_Call_Name_kw (thn ((pe_var (pos := p) hN hv hd hcd).run pins s σ H (fun v H1 => v = .ref f ∧ H1 = H) I ⟨.ref f, hs, rfl, rfl⟩) fun u s1 ⟨v, H1, I1, r1, q1⟩ => ?_)
  obtain ⟨ev, eH⟩ := q1
  subst ev
  rw [eH] at I1
  obtain rfl : u = Value.ref f := r1
  obtain ⟨pm, ctv, ho⟩ := lamO_at I1.hok hf
  refine PySem.W.callWith_F0 (first := []) ⟨_, _, _, _, ho⟩ ?_
  show wpAny _ _ (call (.ref f) []) _ _ _
  refine wpAny_call (codeAny_mono (L.run X.A X.stack s1 H ws Q E hr I1.env0 hf hc (C.later nf hx I1) ht) fun r s' hq => ?_)
  cases r with
  | error e => exact passes_call tk hW pins σ H s1 e s' I1 hq
  | ok fl =>
    cases fl with
    | ret u => exact I1.after hq
    | next => exact False.elim hq
    | brk => exact False.elim hq
    | cont => exact False.elim hq
/-- told(y), y a name that holds a lambda -/
def tToldC (K : PySem.W.Frag) (P : Program) (w : World) (mg : Str → Option Value) (base : Heap) (k i : Nat) (cl : List (Str × Addr)) (fr : List Str) (ws : List (Option V)) (CS : Addr) (ret : Str) : TE := fun σ H Q => ∃ (f : Addr) (F : NF) (b : Expr) (tl : List (Option V) → Hp → VK → XK → Prop),
  σ[i]? = some (some (.ref f)) ∧ H f = some (LamO f F b) ∧ H F.c = some (CodeO F.c F.qual) ∧ F.cl = cl ∧ LOkC P w K mg base k f F b fr tl ∧ tl ws H Q (fun cls _ H' => ∃ b, PySem.W.exmOne K cls (.ref CS) = some b ∧ (b = true → Q (.str ret) H') ∧ (b = false → False))
theorem pe_toldC {X : Cx} {i k j : Nat} {x y a e ret : Str} {g CS : Addr} {st : Stmt} {fd : FuncData} {N : List Str} {p py pos p1 p2 p3 p4 p5 p6 p7 p8 : Pos} {cl : List (Str × Addr)} {fr : List Str} {ws : List (Option V)} (Fn : Fun X.K x x st g fd) (S : FnScope N [a] (defScope st))
    (hbd : defBody st = [.Try [.Return (some (.Call (.Name a p1) [] [] p2)) p3] [.ExceptHandler (some (.Name e p4)) none [.Return (some (.Constant (.str ret) j p5)) p6] p7] [] [] p8]) (hbi : Binds X.K fd [a] []) (hm : X.mg x = some (.ref g)) (hge : (defScope st).names.lookup e = some .globalImplicit) (hme : X.mg e = some (.ref CS))
    (hN : N[0]? = some a) (hv : Vis (defScope st) a) (h0 : ∀ f : Addr, (L2.start N [V.ref f])[0]? = some (some (V.ref f)))
    (hr : Room (k + 1) X.A) (hg : Gl X x) (hy : X.N[i]? = some y) (hvy : Vis X.env.scope y)
    (C : CellsAt cl fr ws X.s_0.heap X.H_0) (nf : ∀ y c, cl.lookup y = some c → c ∉ X.fs) (hx : ∀ y c, cl.lookup y = some c → c ∉ X.ex) (nf2 : ∀ y c, cl.lookup y = some c → c ∉ frs X.stack)
    (hdb : (x == ("__debug__" : Str)) = false := by decide) (hdy : (y == ("__debug__" : Str)) = false := by decide) (hcy : (y == ("__classdict__" : Str)) = false := by decide) (hde : (e == ("__debug__" : Str)) = false := by decide) (hd : (a == ("__debug__" : Str)) = false := by decide) (hcd : (a == ("__classdict__" : Str)) = false := by decide) :
    PE X (.Call (.Name x p) [.Name y py] [] pos) (tToldC X.K X.prog X.w X.mg X.base k i cl fr ws CS ret) := by
  refine ⟨fun pins s σ H Q I h => ?_⟩
  obtain ⟨f, F, b, tl, hs, hf, hc, rfl, L, ht⟩ := h
  refine wpAny_Call_Name_kw (ld_glob I hg hm ?_ hdb)
  refine PySem.W.callWith_K (h₀ := X.base) I.ok.mod.kin Fn.kp (thn ((pa_cons (pe_var (pos := py) hy hvy hdy hcy) pa_nil).run pos pins s σ H (fun vs H1 => vs = [.ref f] ∧ H1 = H) I ⟨.ref f, hs, rfl, rfl⟩) fun us s1 ⟨vs, H1, I1, r, q⟩ => ⟨I1.kIn, ?_⟩) (by rfl) (by rfl)
  obtain ⟨ev, eH⟩ := q
  subst ev
  rw [eH] at I1
  obtain ⟨u, rfl, ru⟩ := r.one
  obtain rfl : u = Value.ref f := ru
  obtain ⟨oc, od, kV, doc, pm, an, cdv, ct, osl, rfl, lk, hcd2⟩ := Fn.ex
  have C1 : CellsAt F.cl fr ws s1.heap H := C.later nf hx I1
  have rc : codeAny (model X.prog X.w) X.A (.call (.ref g) ⟨[.ref f], []⟩) (CR C8.CX0 X.stack X.prog X.w H s1 Q C8.E0) s1 := by
    refine run_ofS (N := N) (ps := [a]) (us := [.ref f]) (vs := [.ref f]) lk hcd2 S hr I1.env0 (hbi s1 [.ref f] I1.kIn rfl) (.cons rfl .nil) rfl fun hr' => ?_
    have hgl : Gl (cxOf C8.CX0 X.prog X.w X.K X.mg X.base N x (defScope st) g cdv X.A X.stack s1 H C8.E0).nox e := hge
    rw [hbd]
    have hps : PSs (cxOf C8.CX0 X.prog X.w X.K X.mg X.base N x (defScope st) g cdv X.A X.stack s1 H C8.E0).nox [.Try [.Return (some (.Call (.Name a p1) [] [] p2)) p3] [.ExceptHandler (some (.Name e p4)) none [.Return (some (.Constant (.str ret) j p5)) p6] p7] [] [] p8] _ :=
      pss_one (ps_try_only (c := .ref CS) (tb := fun W D σ H => σ[0]? = some (some (.ref f)) ∧ H f = some (LamO f F b) ∧ H F.c = some (CodeO F.c F.qual) ∧ ∃ E : XK, (∀ cls d σ' H', E cls d H' → W cls d σ' H') ∧ tl ws H D.rt E) rfl rfl ⟨hgl, hde, .inl hme⟩ L2.takes0
        (fun W pn xe tk _ => pss_one (ps_ret (pe_lamcC tk hr' hN hv C1 nf2 (fun _ _ _ z => nomatch z) L hd hcd))) (fun a oe cls d pn _ _ => pss_one (ps_ret pe_str)))
    refine ⟨_, hps.nox, h0 f, hf, hc, _, fun cls d σ' H' q => ?_, ht⟩
    obtain ⟨b, e1, e2, e3⟩ := q
    exact ⟨b, e1, fun hb a _ => e2 hb, fun hb => e3 hb⟩
  refine wpAny_call (codeAny_mono rc fun r s2 hq => ?_)
  cases r with
  | error e => exact (show False from hq).elim
  | ok fl =>
    cases fl with
    | ret u => exact I1.after hq
    | next => exact False.elim hq
    | brk => exact False.elim hq
    | cont => exact False.elim hq
end Sd


/-! [e for f in xs if t], t false each time and fit to call what captures names of the running frame -/
namespace Sd
open PySem PySem.Spec PyProof.Rows L2 LamX NdefX
theorem cell_nofrs {X : Cx} {pins : List (Addr × Obj)} {σ : L2.St} {H : Hp} {s : Shared} (I : Inv X pins σ H s) (hfn : ∀ x, X.fn x = true) : ∀ x c, X.env.cells.lookup x = some c → c ∉ frs X.stack := fun x c e hb => by
  rcases List.mem_cons.mp (I.stkSub c hb) with z | z
  · exact I.cne x c e z
  · obtain ⟨_, o, ho, _⟩ := I.ok.funs.mem z
    exact absurd (Nat.lt_of_lt_of_le (Heap.lt_size ho) (I.ok.cab x c (hfn x) e)) (Nat.lt_irrefl _)
/-- what the block's start tells of the captured cells -/
def GdC (X : Cx) (cl : List (Str × Addr)) (fr : List Str) (ws : List (Option V)) (s : Shared) (H : Hp) (fp : List Addr) : Prop := CellsAt cl fr ws s.heap H ∧ ∀ y c, cl.lookup y = some c → c ∉ frs X.stack ∧ c ∉ fp
theorem pe_lcF {X : Cx} {elt tg iter : Expr} {ifs : List Expr} {scope : Scope} {own : List (Str × Nat)} {pos : Pos} {wi : TI} {g : TG} {tt : TT} {fr : List Str} {js : List Nat} {ws : List (Option V)} {lsc : Scope} (hfn : ∀ x, X.fn x = true) (hc : X.calm = true) (hN : X.N.Nodup) (hi : PI X tg iter wi) (ok : BlkOk X.N X.env.scope scope own)
    (caps : ∀ pins σ H s, Inv X pins σ H s → Caps X (cloFrom X.env.cells lsc.names []) fr js)
    (hg : ∀ (s : Shared) (H : Hp) (C : Addr) (cl : List (Str × Addr)) (fp : List Addr), PG (X.blk s H scope (compEnvC scope cl C X.env) fp) tg g)
    (ht : ∀ (s : Shared) (H : Hp) (C : Addr) (cl : List (Str × Addr)) (fp : List Addr), GdC X (cloFrom X.env.cells lsc.names []) fr ws s H fp → PTs (X.blk s H scope (compEnvC scope cl C X.env) fp) ifs tt)
    (hs : ∀ x, foldedSetIterable iter X.env x = pure x := by intro _; rfl) :
    PE X (.ListComp elt [⟨tg, iter, ifs, 0⟩] scope pos) (fun σ H Q => js.map (slotAt σ) = ws ∧ tLc wi g tt (fun _ _ _ => False) (own.map (·.2)) σ H Q) := by
  refine ⟨fun pins s σ H Q I h => ?_⟩
  obtain ⟨hws, h⟩ := h
  rw [eval_ListComp]
  refine wpAny_comprehension_free (use := none) rfl hs (closure_ok fun y hy e => ?_) ok.kind (fun y hy e => by rw [ok.uniq y hy, e]) (thn (hi.run pins s σ H _ I h) fun xv s1 hx => thn hx fun itv s2 h2 => ?_)
  · rcases ok.free y hy e with k | k
    · exact I.ok.has _ (.inl k)
    · exact I.ok.has _ (.inr k)
  obtain ⟨it, fp, tn, J, H2, e, I2, T, st2, f2, q⟩ := h2
  subst e
  refine wpAny_newObj_type (newEnv_comp ?_) (by show 0 ≤ sizeLine; decide)
  have hD2 : H2 s2.heap.objs.size = none := I2.hok.fresh (Nat.le_refl _)
  obtain ⟨W, ⟨m0, w0⟩, turn⟩ := q _ hD2
  generalize hs3 : ({ s2 with heap := s2.heap.push { cls := .type "list", data := .seq ([] : List Value).toArray } } : Shared) = s3
  have h3 : s3.heap = s2.heap.push { cls := .type "list", data := .seq ([] : List Value).toArray } := by rw [← hs3]
  have I3 : Inv X pins σ (upd H2 s2.heap.objs.size (.lst [])) s3 := by
    rw [← hs3]
    exact I2.laid (t' := s2.toks) (fun b o e => Heap.get?_push_of_some _ e) (Nat.le_refl _) ⟨Nat.zero_le _, [], 0, .nil, Heap.get?_push_size _ rfl⟩
  generalize hDD : s2.heap.objs.size = D at I3 w0 turn hD2 ⊢
  have fOk : ∀ b ∈ fp, FpOk X pins (upd H2 D (.lst [])) b ∧ b < s3.heap.objs.size := fun b hb => by
    obtain ⟨o, e, _⟩ := T.obj _ _ st2 b hb
    have hlt := Heap.lt_size e
    refine ⟨⟨?_, (f2 b hb).2⟩, by rw [h3, Heap.size_push]; exact Nat.lt_succ_of_lt hlt⟩
    rw [upd_ne (by rw [← hDD]; exact Nat.ne_of_lt hlt)]
    exact (f2 b hb).1
  have gd : GdC X (cloFrom X.env.cells lsc.names []) fr ws s3 (upd H2 D (.lst [])) fp := by
    refine ⟨hws ▸ cells_of I3 (caps _ _ _ _ I3), fun y c e => ⟨cell_nofrs I3 hfn y c ((caps _ _ _ _ I3).sub y c e), fun hb => ?_⟩⟩
    exact (fOk c hb).1.2.2.2.2.1 y c ((caps _ _ _ _ I3).sub y c e) rfl
  have I4 := block_start I3 ok hN fOk
  have pg := hg s3 (upd H2 D (.lst [])) s3.heap.objs.size (cellsFrom (s3.heap.objs.size + 1) scope.names (cloFrom X.env.cells scope.names [])) fp
  have pt := ht s3 (upd H2 D (.lst [])) s3.heap.objs.size (cellsFrom (s3.heap.objs.size + 1) scope.names (cloFrom X.env.cells scope.names [])) fp gd
  have t3 : tn 0 s3.heap := T.keep _ _ _ st2 fun b _ o e => by rw [h3]; exact Heap.get?_push_of_some _ e
  have n3 : ∀ b ∈ fp, (upd H2 D (.lst [])) b = none := fun b hb => (fOk b hb).1.1
  generalize hBX : X.blk s3 (upd H2 D (.lst [])) scope (compEnvC scope (cellsFrom (s3.heap.objs.size + 1) scope.names (cloFrom X.env.cells scope.names [])) s3.heap.objs.size X.env) fp = BX at I4 pg pt
  have bP : BX.prog = X.prog ∧ BX.w = X.w ∧ BX.K = X.K ∧ BX.calm = X.calm ∧ BX.A = X.A ∧ BX.ex = fp ∧ BX.pn = [] ∧ BX.env.locals = s3.heap.objs.size := by rw [← hBX]; exact ⟨rfl, rfl, rfl, rfl, rfl, rfl, rfl, rfl⟩
  have fpB : ∀ {σ' : L2.St} {H' : Hp} {s' : Shared}, Inv BX [] σ' H' s' → (∀ b ∈ fp, H' b = none) → ∀ b ∈ fp, FpOk BX [] H' b := fun {σ' H' s'} I' hn b hb => by
    have hbx : b ∈ BX.ex := by rw [bP.2.2.2.2.2.1]; exact hb
    exact ⟨hn b hb, (I'.ok.exf b hbx).1, I'.ok.exfs b hbx, .inl hbx, fun x c e => (I'.ok.exf b hbx).2 x c e, fun p hp => by rw [bP.2.2.2.2.2.2.1] at hp; cases hp⟩
  generalize hs4 : ({ s3 with heap := pushCells (s3.heap.push { cls := .type "dict", data := .dict #[] }) scope.names } : Shared) = s4 at I4
  have t4 : tn 0 s4.heap := T.keep _ _ _ t3 fun b _ o e => by rw [← hs4]; exact pushCells_keeps _ _ _ _ (Heap.get?_push_of_some _ e)
  show codeAny _ _ (.compStart (.ListComp elt [⟨tg, iter, ifs, 0⟩] scope pos) 0 (.ref it) (.ref D) (compEnvC scope (cellsFrom (s3.heap.objs.size + 1) scope.names (cloFrom X.env.cells scope.names [])) s3.heap.objs.size X.env)) (compPost (model X.prog X.w) X.A X.xe none (EP X pins σ Q) (.ref D) s3.heap.objs.size) s4
  have loop : codeAny (model X.prog X.w) X.A (.compLoop (.ListComp elt [⟨tg, iter, ifs, 0⟩] scope pos) 0 (.ref it) (.ref D) (compEnvC scope (cellsFrom (s3.heap.objs.size + 1) scope.names (cloFrom X.env.cells scope.names [])) s3.heap.objs.size X.env)) (compPost (model X.prog X.w) X.A X.xe none (EP X pins σ Q) (.ref D) s3.heap.objs.size) s4 := by
    refine compLoop_any (fun n s' => ∃ i H', Inv BX [] (wipe σ (own.map (·.2))) H' s' ∧ tn i s'.heap ∧ (∀ b ∈ fp, H' b = none) ∧ W i n H') ?_ m0 ⟨0, _, I4, t4, n3, w0⟩
    rintro n s5 ⟨i, H5, I5, t5, n5, w5⟩
    rcases turn i n H5 w5 with ⟨stop, qq⟩ | ⟨go, Nx, hNx, step⟩
    · have td := T.done BX bP.1 bP.2.1 bP.2.2.1 (bP.2.2.2.1.trans hc) i [] s5 _ H5 (fun _ _ => False) I5 (fpB I5 n5) t5 stop
      rw [bP.2.2.2.2.1] at td
      refine thnF td fun r s6 ⟨hr, I6⟩ => ?_
      subst hr
      subst hBX
      have I7 : Inv X pins σ H5 s6 := I3.call' (ch := fp) I6.os I6.base I6.hok I6.bare fun b hb => ⟨(fOk b hb).1.2.2.2.1, (fOk b hb).1.2.1, (fOk b hb).1.2.2.2.2.1, (fOk b hb).1.2.2.2.2.2⟩
      obtain ⟨m, hn, _⟩ := I6.loc
      have nC : H5 s3.heap.objs.size = none := I6.free
      obtain ⟨f0, f1, f2', f3, f4, f5⟩ := I3.fpOk (H' := H5) (Nat.le_refl _) nC
      exact ⟨m, hn, fun h'' sb => ⟨.ref D, H5, I7.turned (t' := s6.toks) (fun b o hb e => (sb.2 b hb).trans e) f0 f1 f3 f4 f5, rfl, qq⟩⟩
    · have ti := T.item BX bP.1 bP.2.1 bP.2.2.1 (bP.2.2.2.1.trans hc) i [] s5 _ H5 (fun _ _ => False) I5 (fpB I5 n5) t5 go
      rw [bP.2.2.2.2.1] at ti
      refine thnF ti fun r s6 ⟨u, hr, h6⟩ => ?_
      subst hr
      refine thnF h6 fun _ s7 ⟨x, H7, I7, r7, y7, t7, n7⟩ => ?_
      have I7' := I7.pinned (fpB I7 n7) (T.obj _ _ t7)
      subst hBX
      refine thnF (pg.run _ s7 _ H7 x u _ I7' r7 (step x H7 y7)) fun _ s8 ⟨σ8, H8, I8, hw8, q8⟩ => ?_
      refine thnF (pt.run _ s8 σ8 H8 _ I8 q8) fun b s9 ⟨H9, I9, q9⟩ => ?_
      cases b with
      | true => exact False.elim q9
      | false =>
        obtain ⟨m', hm, w'⟩ := hNx H9 q9
        have pin' : ∀ b ∈ fp, ∀ o, s7.heap.get? b = some o → s9.heap.get? b = some o ∧ H9 b = none := fun b hb o e =>
          let z := I9.pin (b, o) (List.mem_append_right _ (List.mem_append_right _ (mem_pinsAt hb e)))
          ⟨z.1, z.2.1⟩
        refine ⟨m', hm, i + 1, H9, (I9.unpinned (pins := [])).weak (by rw [← hw8, wipe_length]) (fun j v e => ?_), T.keep _ _ _ t7 fun b hb o e => (pin' b hb o e).1, fun b hb => ?_, w'⟩
        · rw [← hw8] at e
          exact (wipe_some e).1
        · obtain ⟨o, e, _⟩ := T.obj _ _ t7 b hb
          exact (pin' b hb o e).2
  exact codeAny_compStart_list loop (T.self X.A 0 _ _ _ t4 loop)
theorem pe_lcE {X : Cx} {elt tg iter : Expr} {ifs : List Expr} {scope : Scope} {own : List (Str × Nat)} {pos : Pos} {wi : TI} {g : TG} {tt : List (Option V) → TT} {fr : List Str} {js : List Nat} {lsc : Scope} (hfn : ∀ x, X.fn x = true) (hc : X.calm = true) (hN : X.N.Nodup) (hi : PI X tg iter wi) (ok : BlkOk X.N X.env.scope scope own)
    (caps : ∀ pins σ H s, Inv X pins σ H s → Caps X (cloFrom X.env.cells lsc.names []) fr js)
    (hg : ∀ (s : Shared) (H : Hp) (C : Addr) (cl : List (Str × Addr)) (fp : List Addr), PG (X.blk s H scope (compEnvC scope cl C X.env) fp) tg g)
    (ht : ∀ (ws : List (Option V)) (s : Shared) (H : Hp) (C : Addr) (cl : List (Str × Addr)) (fp : List Addr), GdC X (cloFrom X.env.cells lsc.names []) fr ws s H fp → PTs (X.blk s H scope (compEnvC scope cl C X.env) fp) ifs (tt ws))
    (hs : ∀ x, foldedSetIterable iter X.env x = pure x := by intro _; rfl) :
    PE X (.ListComp elt [⟨tg, iter, ifs, 0⟩] scope pos) (fun σ H Q => tLc wi g (tt (js.map (slotAt σ))) (fun _ _ _ => False) (own.map (·.2)) σ H Q) :=
  ⟨fun pins s σ H Q I h => (pe_lcF hfn hc hN hi ok caps hg (ht (js.map (slotAt σ))) hs).run pins s σ H Q I ⟨rfl, h⟩⟩
theorem pe_toldB {X : Cx} {s : Shared} {H : Hp} {scope : Scope} {cenv : Env} {fp : List Addr} {i k j : Nat} {x y a e ret : Str} {g CS : Addr} {st : Stmt} {fd : FuncData} {N : List Str} {p py pos p1 p2 p3 p4 p5 p6 p7 p8 : Pos} {cl : List (Str × Addr)} {fr : List Str} {ws : List (Option V)} (Fn : Fun X.K x x st g fd) (S : FnScope N [a] (defScope st))
    (hbd : defBody st = [.Try [.Return (some (.Call (.Name a p1) [] [] p2)) p3] [.ExceptHandler (some (.Name e p4)) none [.Return (some (.Constant (.str ret) j p5)) p6] p7] [] [] p8]) (hbi : Binds X.K fd [a] []) (hm : X.mg x = some (.ref g)) (hge : (defScope st).names.lookup e = some .globalImplicit) (hme : X.mg e = some (.ref CS))
    (hN : N[0]? = some a) (hv : Vis (defScope st) a) (h0 : ∀ f : Addr, (L2.start N [V.ref f])[0]? = some (some (V.ref f)))
    (hr : Room (k + 1) X.A) (gd : GdC X cl fr ws s H fp) (hg : cenv.scope.names.lookup x = some .globalImplicit) (hy : X.N[i]? = some y) (hvy : Vis cenv.scope y)
    (hdb : (x == ("__debug__" : Str)) = false := by decide) (hdy : (y == ("__debug__" : Str)) = false := by decide) (hcy : (y == ("__classdict__" : Str)) = false := by decide) (hde : (e == ("__debug__" : Str)) = false := by decide) (hd : (a == ("__debug__" : Str)) = false := by decide) (hcd : (a == ("__classdict__" : Str)) = false := by decide) :
    PE (X.blk s H scope cenv fp) (.Call (.Name x p) [.Name y py] [] pos) (tToldC X.K X.prog X.w X.mg X.base k i cl fr ws CS ret) :=
  pe_toldC (X := X.blk s H scope cenv fp) Fn S hbd hbi hm hge hme hN hv h0 hr hg hy hvy gd.1 (fun y c e => (gd.2 y c e).1) (fun y c e => (gd.2 y c e).2) (fun y c e => (gd.2 y c e).1) hdb hdy hcy hde hd hcd
/-- lambda: body; names captured: those of the running frame's cells -/
def tLamVC (P : Addr) (q : Str) (params : Arguments) (body : Expr) (scope : Scope) (cl : List (Str × Addr)) : TE := fun _ H Q => TabS H P q ∧ ∀ (f c' : Addr) (H1 : Hp), ExtN H H1 → TabS H1 P q → H f = none → H1 f = some (LamO f ⟨"<lambda>", q, params, [], scope, cl, c'⟩ body) → H1 c' = some (CodeO c' q) → Q (.ref f) H1
theorem pe_lamvC {X : Cx} {q : Str} {c P : Addr} {params : Arguments} {body : Expr} {scope : Scope} {pos : Pos} (TB : TabB X.base X.mg c P) (hcode : X.env.code = .ref c) (hq : X.env.qual ++ "<lambda>" = q) (hdef : defaultsOf params X.env = ([], []))
    (hfree : ∀ y ∈ scope.names, y.2 = .free → X.env.scope.names.lookup y.1 = some .cell) : PE X (.Lambda params body scope pos) (tLamVC P q params body scope (cloFrom X.env.cells scope.names [])) := by
  refine ⟨fun pins s σ H Q I h => ?_⟩
  obtain ⟨hT, h⟩ := h
  refine lam_value I TB hcode hq hT hdef (fun y hy e => I.ok.has _ (.inl (hfree y hy e))) fun f c' H1 s' I1 eN T1 f0 f1 c1 => ?_
  exact ⟨.ref f, H1, I1, rfl, h f c' H1 eN T1 f0 f1 c1⟩
theorem led_ext {H H1 : Hp} {L : Lg} (hL : Led H L) (hn : ∀ x ∈ L, ∀ ps, x.2 ≠ .tbl ps) (e : ExtN H H1) : Led H1 L := ⟨fun x hx => e _ _ (hL.1 x hx) fun ps z => hn x hx ps z, hL.2⟩
theorem led_moreX {H : Hp} : ∀ (as : List Addr) (R : Lg), Led H R → ∃ Z : Lg, Led H (Z ++ R) ∧ ∀ a ∈ as, ∀ o, H a = some o → ∀ H', Led H' (Z ++ R) → H' a = some o
  | [], R, h => ⟨[], h, fun _ h => nomatch h⟩
  | a :: as, R, h => by
    obtain ⟨Z, h1, k1⟩ := led_moreX as R h
    by_cases e : ∃ o, (a, o) ∈ Z ++ R
    · obtain ⟨o, ho⟩ := e
      refine ⟨Z, h1, fun b hb o' hb' H' h' => ?_⟩
      rcases List.mem_cons.mp hb with rfl | hb
      · have := h1.mem ho
        rw [hb'] at this
        cases this
        exact h'.mem ho
      · exact k1 b hb o' hb' H' h'
    · rcases ha : H a with _ | o
      · refine ⟨Z, h1, fun b hb o' hb' H' h' => ?_⟩
        rcases List.mem_cons.mp hb with rfl | hb
        · rw [ha] at hb'; cases hb'
        · exact k1 b hb o' hb' H' h'
      · refine ⟨(a, o) :: Z, ⟨fun x hx => ?_, ?_⟩, fun b hb o' hb' H' h' => ?_⟩
        · rcases List.mem_cons.mp hx with rfl | hx
          · exact ha
          · exact h1.1 x hx
        · rw [List.cons_append, List.map_cons]
          refine List.nodup_cons.mpr ⟨fun hm => ?_, h1.2⟩
          obtain ⟨x, hx, ex⟩ := List.mem_map.mp hm
          exact e ⟨x.2, by
            have ex : x.1 = a := ex
            rw [← ex]; exact hx⟩
        · rcases List.mem_cons.mp hb with rfl | hb
          · rw [ha] at hb'; cases hb'
            exact h'.mem (.head _)
          · exact k1 b hb o' hb' H' h'.tail
end Sd


/-! the head's facts for the end of a law -/
namespace Sd
open PySem PySem.Spec PyProof.Rows L2
theorem fun_ofD {K : PySem.W.Frag} {x qual : Str} {st : Stmt} {f : Addr} {fd : FuncData} (F : FunD K x qual (defArgs st) (defBody st) (defScope st) [] [] f fd) : Fun K x qual st f fd := by
  obtain ⟨oc, od, dV, kV, doc, pm, an, cdv, ct, osl, e, lk, hcd, hD, hK⟩ := F.ex
  rcases hD with ⟨_, rfl⟩ | ⟨ne, _⟩
  · exact ⟨⟨oc, od, kV, doc, pm, an, cdv, ct, osl, e, lk, hcd⟩, F.kp⟩
  · exact absurd rfl ne
/-- a def whose own code is told -/
theorem fun_code {K : PySem.W.Frag} {x qual : Str} {st : Stmt} {p : He.Defn} {fd : FuncData} (F : Fun K x qual st (He.fAd K p) fd) :
    ∃ (oc : Value) (od : Option Addr) (kV doc pm : Value) (an : Option Addr) (ct : Value) (osl : Array (Option Value)),
      fd = PySem.W.fnOf x qual (defArgs st) (defBody st) (defScope st) .none kV doc pm an (.ref (He.cT K p).1) ct ∧ K.lookup (He.fAd K p) = some ⟨oc, od, .func fd, osl⟩ ∧ PySem.W.codeIn K (.ref (He.cT K p).1) qual = true := by
  obtain ⟨oc, od, kV, doc, pm, an, cdv, ct, osl, rfl, lk, hcd⟩ := F.ex
  obtain ⟨c, rfl⟩ := He.codeIn_ref hcd
  have e : (He.cT K p).1 = c := He.codeOf_eq lk rfl
  rw [e]
  exact ⟨oc, od, kV, doc, pm, an, ct, osl, rfl, lk, hcd⟩
theorem fun_codeD {K : PySem.W.Frag} {x qual : Str} {params : Arguments} {body : List Stmt} {scope : Scope} {dvs : List V} {p : He.Defn} {fd : FuncData} (F : FunD K x qual params body scope dvs [] (He.fAd K p) fd) :
    ∃ (oc : Value) (od : Option Addr) (dV kV doc pm : Value) (an : Option Addr) (ct : Value) (osl : Array (Option Value)),
      fd = PySem.W.fnOf x qual params body scope dV kV doc pm an (.ref (He.cT K p).1) ct ∧ K.lookup (He.fAd K p) = some ⟨oc, od, .func fd, osl⟩ ∧ PySem.W.codeIn K (.ref (He.cT K p).1) qual = true := by
  obtain ⟨oc, od, dV, kV, doc, pm, an, cdv, ct, osl, rfl, lk, hcd, hD, hK⟩ := F.ex
  obtain ⟨c, rfl⟩ := He.codeIn_ref hcd
  have e : (He.cT K p).1 = c := He.codeOf_eq lk rfl
  rw [e]
  exact ⟨oc, od, dV, kV, doc, pm, an, ct, osl, rfl, lk, hcd⟩
theorem led3 {H : Hp} {a b c : Addr} {o u v : HO} (h1 : H a = some o) (h2 : H b = some u) (h3 : H c = some v) (n1 : a ≠ b) (n2 : a ≠ c) (n3 : b ≠ c) : Led H [(a, o), (b, u), (c, v)] :=
  ⟨fun x hx => by
    simp only [List.mem_cons, List.not_mem_nil, or_false] at hx
    rcases hx with rfl | rfl | rfl
    · exact h1
    · exact h2
    · exact h3, by simp [n1, n2, n3]⟩
theorem exc_T {K : PySem.W.Frag} {h : Heap} {mg : Str → Option Value} {x : Str} (X : K.In h) (G : h.Ns mainGlobals mg) (c1 : (He.Fa.glo x).ok K = true) (c2 : (He.Fa.exc x).ok K = true) (c3 : PySem.W.isClsIn K (He.ga K x) = true) (c4 : PySem.W.subIn K (.ref (He.ga K x)) (.ref (He.ga K x)) = some true) : ExcT K mg x (He.ga K x) := by
  obtain ⟨e1, e2, e3, e4⟩ := He.exc_ok c2
  exact ⟨He.glo_ok X G c1, e1, e2, e3, e4, c3, c4⟩
end Sd


/-! == and != of data that are equal: lists, tuples and dicts, nested -/
namespace PySem.SeqAt
open AutoSeq1 (wpAny_loadPart')
open MeetsSeq MeetsSeq2 MeetsSeq3 SeqRoads2
theorem sd_tuple_neIn {prog : Program} {w : World} (l b : Addr) (items items2 : Array Value) (n n2 : Nat) (dd dd2 : Option Addr) (sl sl2 : Array (Option Value)) (e : Nat → Bool) :
    MeetsIn prog w (Builtin.«tuple.__ne__» ⟨[.ref l, .ref b], []⟩)
      (fun A R s => s.heap.get? l = some { cls := .type "tuple", dict := dd, data := .seq items n, slots := sl } ∧ s.heap.get? b = some { cls := .type "tuple", dict := dd2, data := .seq items2 n2, slots := sl2 } ∧
        (∀ j (h1 : j < items.size) (h2 : j < items2.size), EqIn prog w A.in1 s items[j] items2[j] (e j)) ∧
        R (.ok (.ret (.bool (!((List.range (min items.size items2.size)).all e && items.size == items2.size))))) s) :=
  .of_wp fun A R s h => by
    obtain ⟨hp, g, d, tk, os⟩ := s; obtain ⟨hl, hb, he, h⟩ := h
    have f2 := AutoSeq1.sub_tuple_tuple
    have hZ : (items.toList.zip items2.toList).length = min items.size items2.size := by simp
    wp_walk using wpAny_loadPart' hl, wpAny_loadPart' hb, wpAny_forIn_list _ (fun rest b s' => b.1 = none ∧ s' = ⟨hp, g, d, tk, os⟩ ∧ ∃ i, rest = (items.toList.zip items2.toList).drop i ∧
      R (.ok (.ret (.bool (!(((List.range (min items.size items2.size)).drop i).all e && items.size == items2.size))))) ⟨hp, g, d, tk, os⟩) _
    case turn =>
      rintro ⟨y, x⟩ rest b s' ⟨hb', rfl, i, hz, hR⟩
      have hlt : i < (items.toList.zip items2.toList).length := by
        rcases Nat.lt_or_ge i (items.toList.zip items2.toList).length with h' | h'
        · exact h'
        · rw [List.drop_of_length_le h'] at hz; cases hz
      have hm : i < min items.size items2.size := hZ ▸ hlt
      have h1 : i < items.size := Nat.lt_of_lt_of_le hm (Nat.min_le_left _ _)
      have h2 : i < items2.size := Nat.lt_of_lt_of_le hm (Nat.min_le_right _ _)
      rw [List.drop_eq_getElem_cons hlt] at hz
      injection hz with hyx hrest
      have hy : y = items[i] := by have := congrArg Prod.fst hyx; simpa using this
      have hx : x = items2[i] := by have := congrArg Prod.snd hyx; simpa using this
      subst hy hx
      have hd : (List.range (min items.size items2.size)).drop i = i :: (List.range (min items.size items2.size)).drop (i + 1) := by simp [List.drop_eq_getElem_cons, hm]
      rw [hd, List.all_cons] at hR
      refine wpAny_bind (he i h1 h2 _ _ ?_)
      cases hy : e i with
      | true =>
        rw [hy] at hR
        wp_walk
        exact ⟨rfl, rfl, i + 1, hrest, by simpa using hR⟩
      | false =>
        rw [hy] at hR
        wp_walk
        exact ⟨_, rfl, by simpa using hR⟩
    case fin =>
      rintro ⟨b1, b2⟩ s' ⟨hb', rfl, i, hz, hR⟩
      simp only at hb'
      subst hb'
      have hge : min items.size items2.size ≤ i := by
        rcases Nat.lt_or_ge i (items.toList.zip items2.toList).length with h' | h'
        · rw [List.drop_eq_getElem_cons h'] at hz; cases hz
        · exact hZ ▸ h'
      rw [List.drop_of_length_le (by simpa using hge)] at hR
      wp_walk
      exact ⟨_, rfl, by simpa [Builtin.Tuple.tupleCompareSizes, bne] using hR⟩
    case h =>
      exact ⟨rfl, rfl, 0, rfl, by simpa using h⟩
theorem sd_rcNeIn_tuples {prog : Program} {w : World} {A : Around} {s : Shared} {E : Value → Shared → Prop} {l b : Addr} {items items2 : Array Value} {e : Nat → Bool} {Q : Value → Shared → Prop} (hl : s.heap.IsTuple l items) (hb : s.heap.IsTuple b items2) (hu : A.units < cLine)
    (he : ∀ j (h1 : j < items.size) (h2 : j < items2.size), EqIn prog w A.in1 s items[j] items2[j] (e j)) (h : Q (.bool (!((List.range (min items.size items2.size)).all e && items.size == items2.size))) s) :
    wpAny (model prog w) A (richCompare .NotEq (.ref l) (.ref b)) Q E s := by
  obtain ⟨⟨cls, dd, data, sl⟩, ho, hc, n, hd⟩ := id hl
  obtain ⟨⟨cls2, dd2, data2, sl2⟩, ho2, hc2, n2, hd2⟩ := id hb
  simp only at hc hd hc2 hd2
  subst hc hd hc2 hd2
  exact wpAny_richCompare_same_room (T := "tuple") (op := .NotEq) ⟨_, ho, rfl⟩ ⟨_, ho2, rfl⟩ F.slot_tuple_ne (call_meetsIn F.slot_tuple_ne ⟨_, ho, rfl⟩ F.entry_tuple_ne (F.args_tuple_ne_2 _ _) (sd_tuple_neIn l b items items2 n n2 dd dd2 sl sl2 e)
    ⟨ho, ho2, he, show Value.bool (!((List.range (min items.size items2.size)).all e && items.size == items2.size)) ≠ Value.notImplemented ∧ Q (.bool (!((List.range (min items.size items2.size)).all e && items.size == items2.size))) s from ⟨(fun x => nomatch x), h⟩⟩) hu
end PySem.SeqAt
namespace Sd
open PySem PySem.Spec PyProof.Rows L2
def EwT (K : PySem.W.Frag) (H : Hp) (E : V → V → Prop) (x y : V) : Prop := ∃ a b xs ys, x = .ref a ∧ y = .ref b ∧ SqT K H a xs ∧ SqT K H b ys ∧ Paired E xs ys
/-- equal, of nesting below n -/
def Ew (K : PySem.W.Frag) (H : Hp) : Nat → V → V → Prop
  | 0 => fun _ _ => False
  | n + 1 => fun x y => (x = y ∧ flatB x = true) ∨ EqR K H (Ew K H n) x y ∨ EwT K H (Ew K H n) x y
section
variable {X : Cx} {pins : List (Addr × Obj)} {σ : L2.St} {H : Hp} {s : Shared}
theorem all_true (n : Nat) : ((List.range n).all fun _ => true) = true := List.all_eq_true.mpr fun _ _ => rfl
theorem ewT_run (I : Inv X pins σ H s) {A : Around} {F : V → V → Prop} (hu : A.units < cLine) (ih : ∀ x y v u, F x y → RelV x v → RelV y u → SeqAt.EqP X.prog X.w A.in1 s v u true) {x y : V} {v u : Value} (h : EwT X.K H F x y) (rx : RelV x v) (ry : RelV y u)
    (E Q : Value → Shared → Prop) (q : Q (.bool true) s) : wpAny (model X.prog X.w) A (richCompare .Eq v u) Q E s := by
  obtain ⟨a, b, xs, ys, rfl, rfl, ha, hb, hp⟩ := h
  cases (show v = Value.ref a from rx)
  cases (show u = Value.ref b from ry)
  obtain ⟨us, r1, p1, _⟩ := I.tuple ha
  obtain ⟨ws, r2, p2, _⟩ := I.tuple hb
  have hsz : us.toArray.size = ws.toArray.size := by
    rw [List.size_toArray, List.size_toArray, ← r1.length, ← r2.length]
    exact Paired.length hp
  refine SeqAt.rcIn_tuples (e := fun _ => true) p1 p2 hu (fun j h1 h2 => ?_) ?_
  · have k := items_run ih hp r1 r2 j (by simpa using h1) (by simpa using h2)
    have k2 : SeqAt.EqIn X.prog X.w A.in1 s _ _ true := k
    simpa using k2
  · rw [all_true, hsz]
    simpa using q
theorem ewT_ne (I : Inv X pins σ H s) {A : Around} {F : V → V → Prop} (hu : A.units < cLine) (ih : ∀ x y v u, F x y → RelV x v → RelV y u → SeqAt.EqP X.prog X.w A.in1 s v u true) {x y : V} {v u : Value} (h : EwT X.K H F x y) (rx : RelV x v) (ry : RelV y u)
    (E Q : Value → Shared → Prop) (q : Q (.bool false) s) : wpAny (model X.prog X.w) A (richCompare .NotEq v u) Q E s := by
  obtain ⟨a, b, xs, ys, rfl, rfl, ha, hb, hp⟩ := h
  cases (show v = Value.ref a from rx)
  cases (show u = Value.ref b from ry)
  obtain ⟨us, r1, p1, _⟩ := I.tuple ha
  obtain ⟨ws, r2, p2, _⟩ := I.tuple hb
  have hsz : us.toArray.size = ws.toArray.size := by
    rw [List.size_toArray, List.size_toArray, ← r1.length, ← r2.length]
    exact Paired.length hp
  refine SeqAt.sd_rcNeIn_tuples (e := fun _ => true) p1 p2 hu (fun j h1 h2 => ?_) ?_
  · have k := items_run ih hp r1 r2 j (by simpa using h1) (by simpa using h2)
    have k2 : SeqAt.EqIn X.prog X.w A.in1 s _ _ true := k
    simpa using k2
  · rw [all_true, hsz]
    simpa using q
theorem ew_run (I : Inv X pins σ H s) : ∀ (n : Nat) (A : Around), A.units + n < cLine → ∀ (x y : V) (v u : Value), Ew X.K H n x y → RelV x v → RelV y u → SeqAt.EqP X.prog X.w A s v u true
  | 0, _, _, _, _, _, _, h, _, _ => (show False from h).elim
  | n + 1, A, hu, x, y, v, u, h, rx, ry => by
    rcases h with ⟨rfl, f⟩ | h | h
    · exact (eqAt_same rx ry f).eqP
    · have step := eqR_run I (A := A) (by omega) (ew_run I n A.in1 (by show A.units + 1 + n < cLine; omega)) h rx ry
      obtain ⟨a, b, rfl, rfl⟩ : ∃ a b, x = .ref a ∧ y = .ref b := by
        rcases h with ⟨a, b, _, _, e1, e2, _⟩ | ⟨a, b, _, _, e1, e2, _⟩
        · exact ⟨a, b, e1, e2⟩
        · exact ⟨a, b, e1, e2⟩
      cases (show v = Value.ref a from rx)
      cases (show u = Value.ref b from ry)
      by_cases e : a = b
      · subst e
        exact (SeqAt.EqAt.same _).eqP
      · exact SeqAt.eqP_refs e step
    · have step := ewT_run I (A := A) (by omega) (ew_run I n A.in1 (by show A.units + 1 + n < cLine; omega)) h rx ry
      obtain ⟨a, b, _, _, rfl, rfl, _⟩ := h
      cases (show v = Value.ref a from rx)
      cases (show u = Value.ref b from ry)
      by_cases e : a = b
      · subst e
        exact (SeqAt.EqAt.same _).eqP
      · exact SeqAt.eqP_refs e step
end
section
variable {X : Cx}
/-- a == b, a != b: two tuples that are equal -/
def rEqW (K : PySem.W.Frag) : R2 := fun x y H Q => ∃ n, n ≤ 60 ∧ EwT K H (Ew K H n) x y ∧ Q (.bl true) H
def rNeW (K : PySem.W.Frag) : R2 := fun x y H Q => ∃ n, n ≤ 60 ∧ EwT K H (Ew K H n) x y ∧ Q (.bl false) H
theorem op_eqW (hu : X.A.units + 64 < cLine) : OpR X (compareOp .Eq) (rEqW X.K) := by
  intro pins s σ H x y v u Q I rx ry h
  obtain ⟨n, hn, h, q⟩ := h
  exact ewT_run I (A := X.A) (by omega) (ew_run I n X.A.in1 (by show X.A.units + 1 + n < cLine; omega)) h rx ry _ _ ⟨.bl true, H, I, rfl, q⟩
theorem op_neW (hu : X.A.units + 64 < cLine) : OpR X (compareOp .NotEq) (rNeW X.K) := by
  intro pins s σ H x y v u Q I rx ry h
  obtain ⟨n, hn, h, q⟩ := h
  exact ewT_ne I (A := X.A) (by omega) (ew_run I n X.A.in1 (by show X.A.units + 1 + n < cLine; omega)) h rx ry _ _ ⟨.bl false, H, I, rfl, q⟩
end
section
variable {K : PySem.W.Frag} {H : Hp} {a b : Addr} {n : Nat}
theorem ew_flat {x : V} (h : flatB x = true) : Ew K H (n + 1) x x := .inl ⟨rfl, h⟩
theorem ew_tup {xs ys : List V} (h1 : H a = some (.tup xs)) (h2 : H b = some (.tup ys)) (h : Paired (Ew K H n) xs ys) : Ew K H (n + 1) (.ref a) (.ref b) := .inr (.inr ⟨_, _, _, _, rfl, rfl, .of h1, .of h2, h⟩)
theorem ew_lst {xs ys : List V} (h1 : H a = some (.lst xs)) (h2 : H b = some (.lst ys)) (h : Paired (Ew K H n) xs ys) : Ew K H (n + 1) (.ref a) (.ref b) := .inr (.inl (.inl ⟨_, _, _, _, rfl, rfl, .of h1, .of h2, h⟩))
theorem ew_dct {ks ls : List (Key × V)} (h1 : H a = some (.dK ks)) (h2 : H b = some (.dK ls)) (hl : ks.length = ls.length) (h : ∀ p ∈ ks, ∃ u, valV ls p.1 = some u ∧ Ew K H n p.2 u) : Ew K H (n + 1) (.ref a) (.ref b) := .inr (.inl (.inr ⟨_, _, _, _, rfl, rfl, h1, h2, hl, h⟩))
theorem ew_flats {xs : List V} (h : ∀ x ∈ xs, flatB x = true) : Paired (Ew K H (n + 1)) xs xs := by
  induction xs with
  | nil => exact .nil
  | cons x xs ih => exact .cons (ew_flat (h x List.mem_cons_self)) (ih fun y hy => h y (List.mem_cons_of_mem _ hy))
end
section
variable {X : Cx}
/-- sorted(t): a tuple of texts, fewer than 64 -/
def rSortedST (K : PySem.W.Frag) : List V → Hp → VK → Prop := fun vs H Q => ∃ (a : Addr) (xs : List Str), vs = [V.ref a] ∧ SqT K H a (xs.map V.str) ∧ xs.length < 64 ∧ ∀ (ys : List Str) (p : Addr), ys.Perm xs → sortedS ys = true → H p = none → Q (.ref p) (upd H p (.lst (ys.map V.str)))
theorem cr_sortedST : CallR X (.builtin "sorted") (rSortedST X.K) := by
  intro pins s σ H vs us Q I r h
  obtain ⟨a, xs, rfl, hs, h64, q⟩ := h
  obtain ⟨its, rv, hl, _⟩ := I.tuple hs
  rw [Vals.ref1 r]
  have hlen0 := rv.length
  rw [List.length_map] at hlen0
  obtain ⟨o, ho, hc, n, hd⟩ := hl
  refine Calls.call_function_entry PyProof.Rows.kind_sorted PyProof.Rows.plain_sorted PyProof.Rows.entry_sorted (PyProof.Rows.args_sorted1 _) ?_
  unfold Builtin.«sorted»
  refine wpAny_bind (m := checkCount "sorted" 1 1 _) (wpAny_pure ?_)
  have h16 : its.length ≤ sizeLine := by rw [← hlen0, sizeLine_eq]; omega
  refine wpAny_bind (wpAny_collect_seq (A := X.A.in1) a (.inr rfl) ho hc hd (fun h' hk => ?_) (by simpa using h16))
  have hS : StrsAre its xs := rv.strs
  have I1 : Inv X pins σ H { s with heap := h' } := I.kept (t' := s.toks) hk
  refine wpAny_bind (wpAny_newList ?_ (by simpa using h16))
  have hoL : (h'.push (seqObj "list" its.toArray 0)).get? h'.objs.size = some (seqObj "list" its.toArray 0) := Heap.get?_push_size _ rfl
  show wpAny _ _ _ _ _ { s with heap := h'.push (seqObj "list" its.toArray 0) }
  refine wpAny_bind (wpAny_holding (wpAny_call_entry PyProof.Rows.slot_list_sort ⟨_, hoL, rfl⟩ PyProof.Rows.entry_list_sort
    (list_sort_treeK strKind_oneLt (s := { s with heap := h'.push (seqObj "list" its.toArray 0) }) hoL hS.keysOf (fun v₁ v₂ rest e => keyKind_strs (by rw [← e]; exact hS)) (by rw [← hlen0]; exact h64) fun st' hp hs => ⟨_, rfl, ?_⟩)
    (PyProof.Rows.args_list_sort _)))
  obtain ⟨ys, g1, g2, g3⟩ := sorted_out_str hS hp hs
  obtain ⟨e', he'⟩ := PyProof.Rows.sortedHeap_at (vs := its) (out := (arrOf st').map (·.2)) hoL
  have hlen : (ys.map V.str).length ≤ sizeLine := by
    rw [List.length_map, g2.length_eq]
    exact Nat.le_trans (Nat.le_of_lt h64) (by decide)
  refine wpAny_pure ⟨_, rfl, .ref h'.objs.size, upd H h'.objs.size (.lst (ys.map V.str)), I1.laid (t' := s.toks) (fun b u e => ?_) (Nat.le_refl _)
    (show ObjOk X.prog X.w _ _ _ (.lst (ys.map V.str)) from ⟨hlen, ((arrOf st').map (·.2)).toList, e', vals_of_strs g1, by rw [Array.toArray_toList]; exact he'⟩), rfl, q ys _ g2 g3 (I1.hok.fresh (Nat.le_refl _))⟩
  have hb : b < h'.objs.size := Heap.lt_size e
  rw [PyProof.Rows.sortedHeap_old (Nat.ne_of_lt hb) (by rw [size_push']; exact Nat.lt_succ_of_lt hb)]
  exact Heap.get?_push_of_some _ e
end
section
variable {X : Cx} {s : Shared} {H : Hp} {scope : Scope} {env : Env} {fp : List Addr}
theorem call_list_ofB : CallR (X.blk s H scope env fp) (.type "list") (fun xs H Q => ∃ p ys, xs = [.ref p] ∧ (SqL X.K H p ys ∨ SqT X.K H p ys) ∧ ∀ l, H l = none → Q (.ref l) (upd H l (.lst ys))) := call_list_of
theorem call_tuple_ofB : CallR (X.blk s H scope env fp) (.type "tuple") (fun xs H Q => ∃ p ys, xs = [.ref p] ∧ ((SqL X.K H p ys ∧ ∀ l, H l = none → Q (.ref l) (upd H l (.tup ys))) ∨ (SqT X.K H p ys ∧ Q (.ref p) H))) := call_tuple_of
theorem cr_sortedSB : CallR (X.blk s H scope env fp) (.builtin "sorted") (rSortedS X.K) := cr_sortedS
theorem cr_sortedSTB : CallR (X.blk s H scope env fp) (.builtin "sorted") (rSortedST X.K) := cr_sortedST
end
section
variable {X : Cx}
theorem op_ne_dictB (hu : X.A.units + 64 < cLine) : OpR X (compareOp .NotEq) rNeDA := op_ne_dictA (by omega)
end
section
variable {K : PySem.W.Frag} {H : Hp} {Q : VK}
theorem k_neW {a b : Addr} {xs ys : List V} (n : Nat) (hn : n ≤ 60) (h1 : H a = some (.tup xs)) (h2 : H b = some (.tup ys)) (h : Paired (Ew K H n) xs ys) (q : Q (.bl false) H) : rNeW K (.ref a) (.ref b) H Q := ⟨n, hn, ⟨_, _, _, _, rfl, rfl, .of h1, .of h2, h⟩, q⟩
theorem k_eqW {a b : Addr} {xs ys : List V} (n : Nat) (hn : n ≤ 60) (h1 : H a = some (.tup xs)) (h2 : H b = some (.tup ys)) (h : Paired (Ew K H n) xs ys) (q : Q (.bl true) H) : rEqW K (.ref a) (.ref b) H Q := ⟨n, hn, ⟨_, _, _, _, rfl, rfl, .of h1, .of h2, h⟩, q⟩
end
end Sd


/-! dict comprehensions: name = {..}; over any walk -/
namespace Sd
open PySem L2
section
variable {X : Cx}
theorem ps_setDc {i : Nat} {y : Str} {py : Pos} {kx vx tg iter : Expr} {ifs : List Expr} {scope : Scope} {own : List (Str × Nat)} {pos spos : Pos} {wi : TI} {g : TG} {tt : TT} {tk tv : L2.TE} (hc : X.calm = true) (hN : X.N.Nodup) (hy : X.N[i]? = some y) (hyl : X.env.scope.names.lookup y = some .local)
    (hsw : swapsWith (.DictComp kx vx [⟨tg, iter, ifs, 0⟩] scope pos) (some (.Name y py)) spos.line X.env = pure true) (hi : PI X tg iter wi) (ok : BlkOk X.N X.env.scope scope own)
    (hg : ∀ (s : Shared) (H : Hp) (C : Addr) (cl : List (Str × Addr)) (fp : List Addr), PG (X.blk s H scope (compEnvC scope cl C X.env) fp) tg g) (ht : ∀ (s : Shared) (H : Hp) (C : Addr) (cl : List (Str × Addr)) (fp : List Addr), PTs (X.blk s H scope (compEnvC scope cl C X.env) fp) ifs tt)
    (hk : ∀ (s : Shared) (H : Hp) (C : Addr) (cl : List (Str × Addr)) (fp : List Addr), PE (X.blk s H scope (compEnvC scope cl C X.env) fp) kx tk)
    (he : ∀ (s : Shared) (H : Hp) (C : Addr) (cl : List (Str × Addr)) (fp : List Addr), PE (X.blk s H scope (compEnvC scope cl C X.env) fp) vx tv) (hs : ∀ x, foldedSetIterable iter X.env x = pure x := by intro _; rfl) :
    PS X (.Assign [.Name y py] (.DictComp kx vx [⟨tg, iter, ifs, 0⟩] scope pos) spos) (tAsg (tDc wi g tt tk tv (own.map (·.2))) (gName i)) := by
  refine ⟨fun pins s σ H D I h => ?_⟩
  rw [exec_Assign_Name_used _ _ _ _ hsw]
  refine wpAny_bind (wpAny_standAt (wpAny_bind ?_))
  show wpAny _ X.A (do let _ ← comprehension (.DictComp kx vx [⟨tg, iter, ifs, 0⟩] scope pos) scope X.env (firstIterPos [⟨tg, iter, ifs, 0⟩] pos) newDict false (eval iter X.env) (some (assign (.Name y py) X.env))) _ _ s
  have h : tDc wi g tt tk tv (own.map (·.2)) σ H (fun x H1 => gName i x σ H1 D.nx) := h
  refine wpAny_bind (thn (dc_core (Qf := fun _ s' => SP X pins D .next s') hc hN I hi ok hg ht hk he hs h fun L C s' m H' I' q hn f => ?_) fun _ s' hq => wpAny_pure (wpAny_pure hq))
  show wpAny _ _ (assign (.Name y py) X.env (.ref L)) _ _ _
  refine wpAny_assign_Name (store_ok2 (v := V.ref L) I' hN hy (.inl hyl) rfl (fun s2 I2 ⟨a, sb, ha⟩ => ?_) (.inr hyl))
  obtain ⟨f0, f1, f2, f3, f4, f5⟩ := f
  have haC : C ≠ a := by
    rcases ha with z | z
    · rw [z]; exact f1
    · exact fun e => f4 y a z e.symm
  refine ⟨m, hn.sameBut sb haC, fun h3 sb3 => ?_⟩
  exact ⟨_, H', I2.turned (t' := s2.toks) (fun b o hb e => (sb3.2 b hb).trans e) f0 f1 f3 f4 f5, q⟩
end
theorem sw_trueD {kx vx : Expr} {gs : List Comprehension} {scope : Scope} {pos py : Pos} {y : Str} {l : Nat} {env : Env} (hk : env.scope.kind = .function) (hy : env.scope.names.lookup y = some .local) (hl : (py.line == pos.line) = true)
    (hn : (scope.names.any fun (n, k) => n == y && (k == .local || k == .cell)) = false) : swapsWith (.DictComp kx vx gs scope pos) (some (.Name y py)) l env = pure true := by
  have ky : env.kindOf y = some .local := hy
  have hb : env.blockKind = .function := by unfold Env.blockKind; rw [hk]; rfl
  unfold swapsWith
  simp only [hb, ky, hn, Expr.pos, hl]
  rfl
section
variable {J : It} {n : Nat} {G : Hp → Prop} {Y : Nat → Hp → V → Hp → Prop}
theorem dc_it (w : Walk J n G Y) {g : TG} {tt : TT} {tk tv : L2.TE} {vs : List Nat} {σ : L2.St} {H1 : Hp} {D : Addr} {Qd : Hp → Prop} (Pv : Nat → Hp → Prop) (h0 : Pv 0 (upd H1 D (.dK []))) (hG : ∀ i H, i ≤ n → Pv i H → G H)
    (hs : ∀ i x H H', i < n → Pv i H → Y i H x H' → g x (wipe σ vs) H' fun σ2 H2 => wipe σ2 vs = wipe σ vs ∧ tt σ2 H2 fun b H3 =>
      if b = true then tk σ2 H3 fun y H4 => tv σ2 H4 fun z H5 => ∃ kvs k, y = kV k ∧ H5 D = some (.dK kvs) ∧ kvs.length < sizeLine ∧ Pv (i + 1) (upd H5 D (.dK (putK kvs k z))) else Pv (i + 1) H3) (hd : ∀ H, Pv n H → Qd H) :
    ∃ W : Nat → Nat → Hp → Prop, (∃ m, W 0 m (upd H1 D (.dK []))) ∧ ∀ i m H, W i m H →
      (J.stop i H ∧ Qd H) ∨ (J.go i H ∧ ∃ Nx : Hp → Prop, (∀ H', Nx H' → ∃ m', m' < m ∧ W (i + 1) m' H') ∧ ∀ x H', J.yld i H x H' → g x (wipe σ vs) H' fun σ2 H2 => wipe σ2 vs = wipe σ vs ∧ tt σ2 H2 fun b H3 =>
        if b = true then tk σ2 H3 fun y H4 => tv σ2 H4 fun z H5 => ∃ kvs k, y = kV k ∧ H5 D = some (.dK kvs) ∧ kvs.length < sizeLine ∧ Nx (upd H5 D (.dK (putK kvs k z))) else Nx H3) := by
  refine ⟨fun i m H => m = n - i ∧ i ≤ n ∧ Pv i H, ⟨n, by simp, Nat.zero_le _, h0⟩, ?_⟩
  rintro i m H ⟨rfl, hi, p⟩
  have q := hG i H hi p
  by_cases hlt : i < n
  · refine .inr ⟨w.goes i H hlt q, Pv (i + 1), fun H' p' => ⟨n - (i + 1), by omega, rfl, hlt, p'⟩, fun x H' y => hs i x H H' hlt p (w.yields i H x H' hlt q y)⟩
  · have e : i = n := by omega
    subst e
    exact .inl ⟨w.stops H q, hd H p⟩
end
end Sd


/-! is True, is False; plain data in a ledger -/
namespace Sd
open PySem PySem.Spec PyProof.Rows L2
section
variable {X : Cx}
/-- x is True, x is False: x a None, a truth, a number, a text, or an object of the heap -/
def isBV (x : V) : Bool := match x with
  | .non | .bl _ | .int _ | .str _ | .ref _ => true
  | _ => false
def rIsB : R2 := fun x y H Q => ∃ b, y = .bl b ∧ isBV x = true ∧ Q (.bl (decide (x = .bl b))) H
theorem op_isB : OpR X (compareOp .Is) rIsB := by
  intro pins s σ H x y v u Q I rx ry h
  obtain ⟨b, rfl, hx, q⟩ := h
  cases (show u = Value.bool b from ry)
  cases x with
  | non => cases (show v = Value.none from rx); exact wpAny_is_other rfl (fun z => nomatch z) ⟨.bl false, H, I, rfl, by simpa using q⟩
  | bl c =>
    cases (show v = Value.bool c from rx)
    by_cases e : c = b
    · subst e; exact wpAny_is_self rfl ⟨.bl true, H, I, rfl, by simpa using q⟩
    · exact wpAny_is_other rfl (fun z => e (Value.bool.inj z)) ⟨.bl false, H, I, rfl, by simpa [e] using q⟩
  | int i => obtain ⟨t, rfl⟩ := (show ∃ t, v = Value.int i t from rx); exact wpAny_is_other rfl (fun z => nomatch z) ⟨.bl false, H, I, rfl, by simpa using q⟩
  | str i => obtain ⟨t, rfl⟩ := (show ∃ t, v = Value.str i t from rx); exact wpAny_is_other rfl (fun z => nomatch z) ⟨.bl false, H, I, rfl, by simpa using q⟩
  | ref a => cases (show v = Value.ref a from rx); exact wpAny_is_other rfl (fun z => nomatch z) ⟨.bl false, H, I, rfl, by simpa using q⟩
  | _ => cases hx
end
/-- plain data: None, truths, numbers, texts, rows -/
inductive Dv where
  | non
  | bl (b : Bool)
  | int (i : Int)
  | str (s : Str)
  | row (ds : List Dv)
mutual
/-- the value v of a ledger reads as d -/
inductive DL (L : Lg) : V → Dv → Prop
  | non : DL L .non .non
  | bl (b : Bool) : DL L (.bl b) (.bl b)
  | int (i : Int) : DL L (.int i) (.int i)
  | str (s : Str) : DL L (.str s) (.str s)
  | row {p : Addr} {xs : List V} {ds : List Dv} (h : (p, .tup xs) ∈ L) (h1 : DLs L xs ds) : DL L (.ref p) (.row ds)
inductive DLs (L : Lg) : List V → List Dv → Prop
  | nil : DLs L [] []
  | cons {x : V} {xs : List V} {d : Dv} {ds : List Dv} (h : DL L x d) (h1 : DLs L xs ds) : DLs L (x :: xs) (d :: ds)
end
mutual
theorem DL.mono {L L' : Lg} (s : ∀ a ∈ L, a ∈ L') : ∀ {v : V} {d : Dv}, DL L v d → DL L' v d
  | _, _, .non => .non
  | _, _, .bl b => .bl b
  | _, _, .int i => .int i
  | _, _, .str x => .str x
  | _, _, .row h h1 => .row (s _ h) (DLs.mono s h1)
theorem DLs.mono {L L' : Lg} (s : ∀ a ∈ L, a ∈ L') : ∀ {v : List V} {d : List Dv}, DLs L v d → DLs L' v d
  | _, _, .nil => .nil
  | _, _, .cons h h1 => .cons (h.mono s) (DLs.mono s h1)
end
theorem DLs.len {L : Lg} : ∀ {xs : List V} {ds : List Dv}, DLs L xs ds → xs.length = ds.length
  | _, _, .nil => rfl
  | _, _, .cons _ h => by rw [List.length_cons, List.length_cons, h.len]
theorem DLs.get {L : Lg} : ∀ {xs : List V} {ds : List Dv} {i : Nat} {x : V}, DLs L xs ds → xs[i]? = some x → ∃ d, ds[i]? = some d ∧ DL L x d
  | _, _, 0, _, .cons h _, e => by
    rw [List.getElem?_cons_zero] at e
    cases e
    exact ⟨_, rfl, h⟩
  | _, _, i + 1, _, .cons _ h, e => by
    rw [List.getElem?_cons_succ] at e
    obtain ⟨d, h1, h2⟩ := h.get e
    exact ⟨d, by rw [List.getElem?_cons_succ]; exact h1, h2⟩
theorem DL.isB {L : Lg} {v : V} {d : Dv} (h : DL L v d) : isBV v = true := by cases h <;> rfl
theorem DL.ty {K : PySem.W.Frag} {H : Hp} {L : Lg} {v : V} {d : Dv} (hL : Led H L) (h : DL L v d) : TyX K H v (match d with | .non => .type "NoneType" | .bl _ => .type "bool" | .int _ => .type "int" | .str _ => .type "str" | .row _ => .type "tuple") := by
  cases h with
  | non => exact .base .non
  | bl b => exact .base (.bl b)
  | int i => exact .base (.int i)
  | str s => exact .base (.str s)
  | row h h1 => exact .base (.tup (hL.mem h))
/-! ### t += u -/
theorem noI_tuple_add : typeLookup (.type "tuple") (dunderI "add") = pure none := by rw [typeLookup_type, builtinLookup_eq_fast]; kernel_rfl
section
variable {prog : Program} {w : World} {A : Around} {E : Value → Shared → Prop} {s : Shared}
theorem icat_tup {t b : Addr} {vs ws : List Value} {Q : Value → Shared → Prop} (ht : IsTup s.heap t vs.toArray) (hb : IsTup s.heap b ws.toArray)
    (h0 : vs = [] → Q (.ref b) s) (h1 : vs ≠ [] → ws = [] → Q (.ref t) s) (h2 : vs ≠ [] → ws ≠ [] → Q (.ref s.heap.objs.size) { s with heap := s.heap.push { cls := .type "tuple", data := .seq (vs ++ ws).toArray } })
    (hsz : vs.length + ws.length ≤ sizeLine) : wpAny (model prog w) A (inplaceOp .Add (.ref t) (.ref b)) Q E s := by
  obtain ⟨⟨cls, dd, data, sl⟩, ho, hc, n, hd⟩ := id ht
  obtain ⟨⟨cls2, dd2, data2, sl2⟩, ho2, hc2, n2, hd2⟩ := id hb
  simp only at hc hd hc2 hd2
  subst hc hd hc2 hd2
  have e : vs.toArray ++ ws.toArray = (vs ++ ws).toArray := by simp
  refine PySem.wpAny_inplaceOp_concat ⟨_, ho, rfl⟩ ⟨_, ho2, rfl⟩ noI_tuple_add noFill_tuple_add seq_tuple_add ?_
  by_cases hv : vs = []
  · exact call_meets PySem.F.slot_tuple_add ⟨_, ho, rfl⟩ PySem.F.entry_tuple_add (PySem.F.args_tuple_add_2 _ _)
      (tuple_addW0 t b vs.toArray ws.toArray n n2 dd dd2 sl sl2 (by simp [hv])) ⟨ho, ho2, h0 hv⟩
  · by_cases hw : ws = []
    · exact call_meets PySem.F.slot_tuple_add ⟨_, ho, rfl⟩ PySem.F.entry_tuple_add (PySem.F.args_tuple_add_2 _ _)
        (tuple_addW1 t b vs.toArray ws.toArray n n2 dd dd2 sl sl2 (by simpa using hv) (by simp [hw])) ⟨ho, ho2, h1 hv hw⟩
    · refine call_meets PySem.F.slot_tuple_add ⟨_, ho, rfl⟩ PySem.F.entry_tuple_add (PySem.F.args_tuple_add_2 _ _)
        (tuple_addW2 t b vs.toArray ws.toArray n n2 dd dd2 sl sl2 (by simpa using hv) (by simpa using hw) (by rw [List.size_toArray, List.size_toArray]; exact hsz)) ⟨ho, ho2, ?_⟩
      rw [e]
      exact h2 hv hw
end
section
variable {X : Cx}
theorem iop_catA : OpR X (inplaceOp .Add) (rCatA X.K) := by
  intro pins s σ H x y v u Q I rx ry h
  obtain ⟨a, b, xs, ys, rfl, rfl, ha, hb, hz, q0, q1, q2⟩ := h
  cases rx
  cases ry
  obtain ⟨its, r1, p1, _⟩ := I.tuple ha
  obtain ⟨its2, r2, p2, _⟩ := I.tuple hb
  refine icat_tup p1 p2 (fun z => ⟨.ref b, H, I, rfl, q0 (r1.nil_iff.mp z)⟩) (fun z1 z => ⟨.ref a, H, I, rfl, q1 (fun w => z1 (r1.nil_iff.mpr w)) (r2.nil_iff.mp z)⟩) (fun z1 z => ?_) (by rw [← r1.length, ← r2.length]; exact hz)
  refine ⟨.ref s.heap.objs.size, _, I.laid (t' := s.toks) (o := .tup (xs ++ ys)) (fun b ob q => Heap.get?_push_of_some _ q) (Nat.le_refl _) ?_, rfl, q2 (fun w => z1 (r1.nil_iff.mpr w)) (fun w => z (r2.nil_iff.mpr w)) _ (I.hok.fresh (Nat.le_refl _))⟩
  exact ⟨by rw [List.length_append]; exact hz, _, r1.append r2, IsTup.new _ _⟩
end
section
variable {K : PySem.W.Frag} {H : Hp} {L : Lg} {a b : Addr} {xs ys : List V} {Q : VK}
/-- t + u, t += u: both are given up for the sum -/
theorem k_catA (hL : Led H ((b, .tup ys) :: (a, .tup xs) :: L)) (hz : xs.length + ys.length ≤ sizeLine) (k : ∀ r H', Led H' ((r, .tup (xs ++ ys)) :: L) → Q (.ref r) H') : rCatA K (.ref a) (.ref b) H Q := by
  refine ⟨a, b, xs, ys, rfl, rfl, .of (hL.at ⟨1, rfl⟩), .of (hL.at ⟨0, rfl⟩), hz, fun e => ?_, fun _ e => ?_, fun _ _ _ hp => ?_⟩
  · subst e; exact k _ _ (hL.sub (.cons_cons _ (.cons _ (.refl _))))
  · subst e; rw [List.append_nil] at k; exact k _ _ hL.tail
  · exact k _ _ ((hL.new hp).sub (.cons_cons _ (.cons _ (.cons _ (.refl _)))))
/-- t + u, both not empty: a new one -/
theorem k_catN (hL : Led H L) (e1 : At L a (.tup xs)) (e2 : At L b (.tup ys)) (hx : xs ≠ []) (hy : ys ≠ []) (hz : xs.length + ys.length ≤ sizeLine) (k : ∀ r H', Led H' ((r, .tup (xs ++ ys)) :: L) → Q (.ref r) H') : rCatA K (.ref a) (.ref b) H Q :=
  ⟨a, b, xs, ys, rfl, rfl, .of (hL.at e1), .of (hL.at e2), hz, fun e => absurd e hx, fun _ e => absurd e hy, fun _ _ _ hp => k _ _ (hL.new hp)⟩
end
end Sd


namespace Sd
open PySem L2
open C8 (Cal Met Mak pe_c pe_mk pe_mt pe_mt0 tCut)
def top (i : Nat) : Stmt := PySem.Challenge.pw_shardstack_k24_steps_that_are_all_done_o.main.body.getD i (.Pass ⟨0, 0, 0, 0⟩)
abbrev sDice : Stmt := top 31
abbrev sRoll : Stmt := top 32
abbrev sRounds : Stmt := top 33

structure TxtL (mg : Str → Option Value) : Prop where
  abs : mg "abs" = none
  int : mg "int" = none
set_option linter.unusedSimpArgs false
set_option pp.deepTerms false
set_option pp.deepTerms.threshold 12
set_option hygiene false
local macro_rules | `(tactic| fail "nd") => `(tactic| first | assumption | decide +kernel)
local macro_rules | `(tactic| fail "ix") => `(tactic| first | exact ⟨0, rfl⟩ | exact ⟨1, rfl⟩ | exact ⟨2, rfl⟩ | exact ⟨3, rfl⟩ | exact ⟨4, rfl⟩ | exact ⟨5, rfl⟩ | exact ⟨6, rfl⟩ | exact ⟨7, rfl⟩ | exact ⟨8, rfl⟩ | exact ⟨9, rfl⟩ | exact ⟨10, rfl⟩ | exact ⟨11, rfl⟩ | exact ⟨12, rfl⟩ | exact ⟨13, rfl⟩ | exact ⟨14, rfl⟩ | exact ⟨15, rfl⟩ | exact ⟨16, rfl⟩ | exact ⟨17, rfl⟩ | exact ⟨18, rfl⟩ | assumption)
local macro_rules | `(tactic| fail "up") => `(tactic| first | exact ⟨0, rfl, rfl⟩ | exact ⟨1, rfl, rfl⟩ | exact ⟨2, rfl, rfl⟩ | exact ⟨3, rfl, rfl⟩ | exact ⟨4, rfl, rfl⟩ | exact ⟨5, rfl, rfl⟩ | exact ⟨6, rfl, rfl⟩ | exact ⟨7, rfl, rfl⟩ | exact ⟨8, rfl, rfl⟩ | exact ⟨9, rfl, rfl⟩ | exact ⟨10, rfl, rfl⟩ | exact ⟨11, rfl, rfl⟩ | exact ⟨12, rfl, rfl⟩ | exact ⟨13, rfl, rfl⟩ | exact ⟨14, rfl, rfl⟩ | exact ⟨15, rfl, rfl⟩ | exact ⟨16, rfl, rfl⟩ | assumption)
local macro_rules | `(tactic| fail "lkF") => `(tactic| first | assumption | exact fz_at 0 (by fail "nd") rfl rfl | exact fz_at 1 (by fail "nd") rfl rfl | exact fz_at 2 (by fail "nd") rfl rfl | exact fz_at 3 (by fail "nd") rfl rfl | exact fz_at 4 (by fail "nd") rfl rfl | exact fz_at 5 (by fail "nd") rfl rfl | exact fz_at 6 (by fail "nd") rfl rfl | exact fz_at 7 (by fail "nd") rfl rfl)
local macro_rules | `(tactic| fail "lkD") => `(tactic| first | assumption | exact dz_at 0 (by fail "nd") rfl rfl | exact dz_at 1 (by fail "nd") rfl rfl | exact dz_at 2 (by fail "nd") rfl rfl | exact dz_at 3 (by fail "nd") rfl rfl | exact dz_at 4 (by fail "nd") rfl rfl)
local macro_rules | `(tactic| fail "ptF") => `(tactic| first | assumption | exact fz_put 0 (by fail "nd") rfl (Nat.le_of_ble_eq_true rfl) | exact fz_put 1 (by fail "nd") rfl (Nat.le_of_ble_eq_true rfl) | exact fz_put 2 (by fail "nd") rfl (Nat.le_of_ble_eq_true rfl) | exact fz_put 3 (by fail "nd") rfl (Nat.le_of_ble_eq_true rfl) | exact fz_put 4 (by fail "nd") rfl (Nat.le_of_ble_eq_true rfl) | exact fz_put 5 (by fail "nd") rfl (Nat.le_of_ble_eq_true rfl) | exact fz_put 6 (by fail "nd") rfl (Nat.le_of_ble_eq_true rfl) | exact fz_put 7 (by fail "nd") rfl (Nat.le_of_ble_eq_true rfl) | exact fz_new (by decide +kernel) rfl)
local macro_rules | `(tactic| fail "ptD") => `(tactic| first | assumption | exact dz_put 0 (by fail "nd") rfl (Nat.le_of_ble_eq_true rfl) | exact dz_put 1 (by fail "nd") rfl (Nat.le_of_ble_eq_true rfl) | exact dz_put 2 (by fail "nd") rfl (Nat.le_of_ble_eq_true rfl) | exact dz_put 3 (by fail "nd") rfl (Nat.le_of_ble_eq_true rfl) | exact dz_put 4 (by fail "nd") rfl (Nat.le_of_ble_eq_true rfl))
local macro_rules | `(tactic| fail "sz") => `(tactic| first | assumption | exact (Nat.le_of_ble_eq_true rfl) | omega | decide)
local macro_rules | `(tactic| fail "sd") => `(tactic| first | rfl | assumption | decide | omega | (dsimp only; first | decide | omega) | exact .inr ⟨by decide, by decide⟩ | exact .inl ⟨by decide, by decide⟩ | exact ⟨by omega, by omega⟩ | exact .inl ⟨by omega, by omega⟩ | exact .inr ⟨by omega, by omega⟩ | exact ⟨by omega, by omega, by omega⟩)
local macro_rules | `(tactic| fail "cl") => `(tactic| (clear hH; dsimp only [List.set, List.cons_append, List.nil_append, List.append] at hL))
local macro_rules | `(tactic| fail "gn") => `(tactic| (intro p hp; generalize hH : upd H p _ = H; replace hL := Led.newH hL hp hH; clear hH hp))
local macro_rules | `(tactic| fail "gup") => `(tactic| (generalize hH : upd H _ _ = H; replace hL := Led.upU hL (by fail "up") hH; fail "cl"))
local macro_rules | `(tactic| fail "gmk") => `(tactic| (intro x dx hx hd ne; generalize hH : upd (upd H dx _) x _ = H; replace hL := Led.made hL hx hd ne hH; clear hH hx hd ne))
local macro_rules | `(tactic| fail "v") => `(tactic| refine ⟨_, rfl, ?_⟩)
local macro_rules | `(tactic| fail "i2") => `(tactic| refine ⟨_, _, rfl, rfl, ?_⟩)
local macro_rules | `(tactic| fail "go1") => `(tactic| first
  | refine ⟨_, rfl, ?_⟩
  | refine ⟨_, _, rfl, rfl, ?_⟩
  | refine ⟨_, _, rfl, ?_⟩
  | refine iteT ?_
  | refine iteF ?_
  | refine k_fld hL (by fail "ix") (by assumption) (by assumption) (by fail "lkF") ?_
  | refine k_dgetS hL (by fail "ix") (by fail "lkD") ?_
  | refine k_dgetI hL (by fail "ix") (by assumption) ?_
  | refine k_ixL hL (by fail "ix") (by first | rfl | assumption) ?_
  | refine k_ixT hL (by fail "ix") (by first | rfl | assumption) ?_
  | refine k_tyL hL (by fail "ix") ?_
  | refine k_isd hL (by fail "ix") ?_
  | (refine And.intro (by fail "sz") ?_; fail "gn")
  | refine And.intro (by fail "sd") ?_
  | fail "gn"
  | refine k_meth hL (by fail "ix") (by first | assumption | exact fz_no (by decide +kernel)) ?_
  | refine k_gtup hL (by fail "ix") rfl ?_
  | (refine k_popI hL (by fail "ix") (by assumption) ?_; fail "gup")
  | (refine k_listD hL (by fail "ix") ?_; fail "gn")
  | (refine ⟨_, _, _, _, rfl, rfl, hL.at (by fail "ix"), rfl, ?_⟩; fail "gup")
  | (refine ⟨_, _, _, rfl, rfl, hL.at (by fail "ix"), (by fail "sz"), ?_⟩; fail "gup")
  | (refine ⟨_, _, _, _, rfl, hL.at (by fail "ix"), by assumption, by assumption, Nat.lt_of_le_of_lt fz_len (by decide), ?_⟩; generalize hH : upd H _ _ = H; replace hL := Led.upF hL (by fail "up") (by fail "ptF") hH; fail "cl")
  | (refine ⟨_, _, hL.at (by fail "ix"), Nat.lt_of_le_of_lt fz_len (by decide), ?_⟩; generalize hH : upd H _ _ = H; replace hL := Led.upF hL (by fail "up") (by fail "ptF") hH; fail "cl")
  | (refine k_dputS hL (by fail "ix") (Nat.lt_of_le_of_lt dz_len (by decide)) (by fail "ptD") (by fail "up") ?_; clear hL; intro H hL; dsimp only [List.set, List.cons_append, List.nil_append, List.append] at hL)
  | refine k_lenL2 hL (by fail "ix") ?_
  | refine k_lenT2 hL (by fail "ix") ?_
  | refine .inl ⟨_, rfl, ?_⟩
  | refine .inr ⟨_, rfl, ?_⟩)
local macro_rules | `(tactic| fail "go") => `(tactic| repeat fail "go1")
local macro_rules | `(tactic| fail "pm") => `(tactic| (refine Led.le hL (fun a_ => ?_); simp only [cnt_nil, cnt_cons, cnt_app, List.map_append, List.map_cons, List.map_nil, List.flatMap_append, List.flatMap_cons, List.flatMap_nil, List.append_assoc, List.cons_append, List.nil_append]; omega))

def dD (a b c : Int) : HO := .lst [.int a, .int b, .int c]
def spDice : Sp := fun vs H Q _ => ∃ (c : Int) (L : Lg), vs = [.int c] ∧ Led H L ∧ ∀ (a b d : Int) (p : Addr) (H' : Hp), Led H' ((p, dD a b d) :: L) → Q (.ref p) H'
def spRoll : Sp := fun vs H Q _ => ∃ (l : Addr) (a b c m : Int) (R : Lg), vs = [.ref l, .int m] ∧ Led H ((l, dD a b c) :: R) ∧ 1 ≤ m ∧ m ≤ 100000000 ∧
  ∀ (r a' b' c' : Int) (H' : Hp), 0 ≤ r → r < m → Led H' ((l, dD a' b' c') :: R) → Q (.int r) H'
section
variable {P : Program} {w : World} {K : PySem.W.Frag} {mg : Str → Option Value} {base : Heap}
theorem scDice : FnScope ["cell"] ["cell"] (defScope sDice) := ⟨rfl, rfl, rfl, by decide +kernel, rfl, by decide +kernel, by decide +kernel⟩
theorem ok_dice {f : Addr} {fd : FuncData} (F : Fun K "_law_dice" "_law_dice" sDice f fd) (T : TxtL mg) : FnOk P w K mg base CX0 1 f fd ["cell"] spDice := by
  refine F.ok scDice (fun vs H Q E h => ?_) (fun cdv A outer s H vs Q E hr h => ?_)
  · obtain ⟨c, L, rfl, _⟩ := h
    rfl
  · obtain ⟨c, L, rfl, hL, k⟩ := h
    refine ⟨_, pss_cons (ps_if (pt_chain op_lt op_lt (pe_op op_sub pe_int pe_int) (pv 0) pe_int) (pss_one (ps_ret (pe_lst (pa_cons (pe_callB call_abs (by rfl) T.abs (by decide +kernel) (pa_cons (pv 0) pa_nil)) (pa_cons pe_int (pa_cons pe_int pa_nil)))))) pss_nil)
      (pss_one (ps_ret (pe_lst (pa_cons (pv 0) (pa_cons (pe_op op_add pe_int (pe_op op_mod (pe_callTy call_int1 (by rfl) T.int (by decide +kernel) (pa_cons (pv 0) pa_nil)) pe_int)) (pa_cons (pe_callTy call_int1 (by rfl) T.int (by decide +kernel) (pa_cons (pe_cmpR op_ge (pv 0) (pe_op op_pow pe_int pe_int) (nomark _)) pa_nil)) pa_nil)))))), ?_⟩
    fail "go"
    refine ite_d (fun h1 => ?_) (fun h1 => ?_)
    · fail "go"
      refine ite_d (fun h2 => ?_) (fun h2 => ?_)
      · fail "go"
        exact k _ _ _ _ _ hL
      · fail "go"
        exact k _ _ _ _ _ hL
    · fail "go"
      exact k _ _ _ _ _ hL
theorem scRoll : FnScope ["dice", "many", "found"] ["dice", "many"] (defScope sRoll) := ⟨rfl, rfl, rfl, by decide +kernel, rfl, by decide +kernel, by decide +kernel⟩
theorem ok_roll {f : Addr} {fd : FuncData} (F : Fun K "_law_roll" "_law_roll" sRoll f fd) (T : TxtL mg) : FnOk P w K mg base CX0 1 f fd ["dice", "many"] spRoll := by
  refine F.ok scRoll (fun vs H Q E h => ?_) (fun cdv A outer s H vs Q E hr h => ?_)
  · obtain ⟨l, a, b, c, m, R, rfl, _⟩ := h
    rfl
  · obtain ⟨l, a, b, c, m, R, rfl, hL, h1, h2, k⟩ := h
    refine ⟨_, pss_cons (ps_if (PW.pt (pw_or (pt_cmpR op_eq (pe_ix ix_list (pv 0) pe_int (fun _ _ => rfl)) pe_int (nomark _)) (pw_or1 (PW.pt (pw_and (pt_cmpR op_eq (pe_ix ix_list (pv 0) pe_int (fun _ _ => rfl)) pe_int (nomark _)) (pw_and1 (pt_cmpR op_gt (pe_ix ix_list (pv 0) pe_int (fun _ _ => rfl)) pe_int (nomark _))))))))
        (pss_cons (ps_set (i := 2) scRoll.nd rfl (Or.inl rfl) (pe_op op_mod (pe_callTy call_int1 (by rfl) T.int (by decide +kernel) (pa_cons (pe_ix ix_list (pv 0) pe_int (fun _ _ => rfl)) pa_nil)) (pv 1)))
          (pss_cons (ps_asg (pe_op op_fdiv (pe_ix ix_list (pv 0) pe_int (fun _ _ => rfl)) (pv 1)) (pg_sub (pv 0) pe_int set_list)) (pss_one (ps_ret (pv 2)))))
        pss_nil)
      (pss_cons (ps_asg pe_int (pg_sub (pv 0) pe_int set_list))
      (pss_cons (ps_if (pt_cmpR op_gt (pv 1) pe_int (nomark _)) pss_never pss_nil)
      (pss_cons (ps_asg (pe_op op_mod (pe_callTy call_int1 (by rfl) T.int (by decide +kernel) (pa_cons (pe_op op_add (pe_op op_add (pe_op op_mul (pe_ix ix_list (pv 0) pe_int (fun _ _ => rfl)) pe_int) (pe_op op_mul (pe_ix ix_list (pv 0) pe_int (fun _ _ => rfl)) pe_int)) pe_int) pa_nil)) pe_int) (pg_sub (pv 0) pe_int set_list))
      (pss_cons (ps_asg (pe_op op_add (pe_ix ix_list (pv 0) pe_int (fun _ _ => rfl)) pe_int) (pg_sub (pv 0) pe_int set_list))
      (pss_one (ps_ret (pe_op op_mod (pe_callTy call_int1 (by rfl) T.int (by decide +kernel) (pa_cons (pe_op op_fdiv (pe_ix ix_list (pv 0) pe_int (fun _ _ => rfl)) pe_int) pa_nil)) (pv 1)))))))), ?_⟩
    unfold dD at hL
    have hm : ∀ (x b c : Int) (H : Hp), Led H ((l, .lst [.int (x / m), .int b, .int c]) :: R) → Q (.int (x % m)) H := fun x b c H h => k _ _ _ _ _ (Int.emod_nonneg _ (by omega)) (Int.emod_lt_of_pos _ (by omega)) h
    have hd : ∀ (x a b c : Int) (H : Hp), Led H ((l, .lst [.int a, .int b, .int c]) :: R) → Q (.int (x % m)) H := fun x a b c H h => k _ _ _ _ _ (Int.emod_nonneg _ (by omega)) (Int.emod_lt_of_pos _ (by omega)) h
    fail "go"
    refine ite_d (fun q1 => ?_) (fun q1 => ?_)
    · fail "go"
      exact hm _ _ _ _ hL
    · fail "go"
      refine ite_d (fun q2 => ?_) (fun q2 => ?_)
      · fail "go"
        refine ite_d (fun q3 => ?_) (fun q3 => ?_)
        · fail "go"
          exact hm _ _ _ _ hL
        · fail "go"
          refine ite_d (fun q4 => absurd q4 (by omega)) (fun q4 => ?_)
          fail "go"
          exact hd _ _ _ _ _ hL
      · fail "go"
        refine ite_d (fun q4 => absurd q4 (by omega)) (fun q4 => ?_)
        fail "go"
        exact hd _ _ _ _ _ hL
end
/-- script[:1], or [0]: one dice -/
def spRounds (K : PySem.W.Frag) : Sp := fun vs H Q _ => ∃ (a : Addr) (ns : List Int) (L : Lg), vs = [.ref a, .int 1] ∧ SqL K H a (ns.map V.int) ∧ Led H L ∧ ∀ (p d : Addr) (x y z : Int) (H' : Hp), Led H' ((p, .lst [.ref d]) :: (d, dD x y z) :: L) → Q (.ref p) H'
section
variable {P : Program} {w : World} {K : PySem.W.Frag} {mg : Str → Option Value} {base : Heap}
theorem scRounds : FnScope ["script", "most", "cells", "cell"] ["script", "most"] (defScope sRounds) := ⟨rfl, rfl, rfl, by decide +kernel, rfl, by decide +kernel, by decide +kernel⟩
theorem cut_1 (ns : List Int) : cutV (ns.map V.int) none (some 1) = (ns.take 1).map V.int := by
  unfold cutV
  rw [show (some (1 : Int)) = some ((1 : Nat) : Int) from rfl, HT.sIx_nat, HT.sIx_none]
  cases ns <;> simp
theorem ok_rounds {f : Addr} {fd : FuncData} (F : Fun K "_law_rounds" "_law_rounds" sRounds f fd) (c__law_dice : Cal P w K mg base 1 "_law_dice" spDice []) :
    FnOk P w K mg base CX0 2 f fd ["script", "most"] (spRounds K) := by
  refine F.ok scRounds (fun vs H Q E h => ?_) (fun cdv A outer s H vs Q E hr h => ?_)
  · obtain ⟨a, ns, L, rfl, _⟩ := h
    rfl
  · obtain ⟨a, ns, L, rfl, hS, hL, k⟩ := h
    refine ⟨_, (pss_cons (ps_set (i := 2) scRounds.nd rfl (Or.inl rfl) (pe_slice sl_list (pv 0) po_none (po_some (pv 1))))
  (C8.pss_cut (ps_if (pt_cmpR (op_eqP hr.units) (pv 2) (pe_lst pa_nil) (nomark _))
  (pss_one (ps_set (i := 2) scRounds.nd rfl (Or.inl rfl) (pe_lst (pa_cons pe_int pa_nil))))
  pss_nil)
  (pss_one (ps_ret (pe_lc (own := [("cell", 3)]) (g := gName 3) (by rfl) scRounds.nd (pi_list (pv 2)) (blkOk_by (own := [("cell", 3)]) (N := ["script", "most", "cells", "cell"]) (sc := (defScope sRounds)) (by decide +kernel)) (fun _ _ _ _ _ => (pg_name (i := 3) scRounds.nd rfl (Or.inl rfl))) (fun _ _ _ _ _ => pts_nil) (fun _ _ _ _ _ => (pe_c c__law_dice hr (by decide) (by rfl) (pa_cons (pv 3) pa_nil)))))))), ?_⟩
    refine ⟨_, rfl, _, rfl, 1, rfl, a, _, rfl, hS, ?_⟩
    rw [cut_1]
    fail "gn"
    refine ⟨fun σ H => Hold (∃ (a p : Addr) (c : Int) (v3 : Option V), σ = [some (.ref a), some (.int 1), some (.ref p), v3] ∧ Led H ((p, .lst [.int c]) :: L)), ?_, ?_⟩
    · fail "go"
      refine ⟨_, _, dp_lst (hL.at ⟨1, rfl⟩) dp_ints, dp_lst (hL.at ⟨0, rfl⟩) .nil, shal_ints, shal_ints (ns := []), _, rfl, ?_⟩
      refine ite_b (fun h1 => ?_) (fun h1 => ?_)
      · fail "go"
        refine .mk ⟨a, _, 0, _, rfl, ?_⟩
        exact hL.sub (.cons_cons _ ((List.sublist_cons_self _ _).trans (List.sublist_cons_self _ _)))
      · cases ns with
        | nil => simp [PyData.eqv, PyData.eqvAll] at h1
        | cons n ns =>
          fail "go"
          exact .mk ⟨a, _, n, _, rfl, hL.tail⟩
    · intro σ H h
      obtain ⟨a, p, c, v3, rfl, hL⟩ := h.out
      clear h
      refine ⟨_, rfl, p, rfl, ⟨_, .of (hL.at ⟨0, rfl⟩)⟩, fun D hD => lc_list (K := K) (a := p) (xs := [.int c]) (fun i H => Hold ((i = 0 ∧ Led H ((D, .lst []) :: (p, .lst [.int c]) :: L)) ∨ (i = 1 ∧ ∃ (d : Addr) (x y z : Int), Led H ((D, .lst [.ref d]) :: (d, dD x y z) :: (p, .lst [.int c]) :: L)))) ?_ ?_ ?_ ?_⟩
      · exact .mk (.inl ⟨rfl, hL.new hD⟩)
      · intro i H _ h
        rcases h.out with ⟨_, hL⟩ | ⟨_, d, x, y, z, hL⟩
        · exact .of (hL.at ⟨1, rfl⟩)
        · exact .of (hL.at ⟨2, rfl⟩)
      · intro i y H hi h
        rcases h.out with ⟨rfl, hL⟩ | ⟨rfl, d, x, y, z, hL⟩
        · obtain rfl : V.int c = y := Option.some.inj hi
          clear h
          refine ⟨rfl, ?_⟩
          refine k_yes ?_
          refine ⟨_, rfl, c, _, rfl, hL, fun x y z d H hL => ⟨_, hL.at ⟨1, rfl⟩, by decide, ?_⟩⟩
          generalize hH : upd H _ _ = H
          refine .mk (.inr ⟨rfl, d, x, y, z, ?_⟩)
          exact (hL.upU (o' := .lst [.ref d]) ⟨1, rfl, rfl⟩ hH).perm (List.Perm.swap _ _ _)
        · cases hi
      · intro H h
        rcases h.out with ⟨q, _⟩ | ⟨_, d, x, y, z, hL⟩
        · cases q
        · refine k D d x y z _ (hL.sub ?_)
          exact .cons_cons _ (.cons_cons _ (List.sublist_cons_self _ _))
end
end Sd


/-! told(lambda: ..) at once, the lambda captures names of the running frame -/
namespace Sd
open PySem PySem.Spec PyProof.Rows L2 LamX NdefX
def tToldL (K : PySem.W.Frag) (P : Program) (w : World) (mg : Str → Option Value) (base : Heap) (k : Nat) (te : TE) (cl : List (Str × Addr)) (fr : List Str) (js : List Nat) (CS : Addr) (ret : Str) : TE := fun σ H Q => te σ H fun v H1 => ∃ (f : Addr) (F : NF) (b : Expr) (tl : List (Option V) → Hp → VK → XK → Prop),
  [v] = [.ref f] ∧ H1 f = some (LamO f F b) ∧ H1 F.c = some (CodeO F.c F.qual) ∧ F.cl = cl ∧ LOkC P w K mg base k f F b fr tl ∧ tl (js.map (slotAt σ)) H1 Q (fun cls _ H' => ∃ b, PySem.W.exmOne K cls (.ref CS) = some b ∧ (b = true → Q (.str ret) H') ∧ (b = false → False))
theorem pe_toldL {X : Cx} {k j : Nat} {x a e ret : Str} {e0 : Expr} {te : TE} {g CS : Addr} {st : Stmt} {fd : FuncData} {N : List Str} {p pos p1 p2 p3 p4 p5 p6 p7 p8 : Pos} {lsc : Scope} {fr : List Str} {js : List Nat} (Fn : Fun X.K x x st g fd) (S : FnScope N [a] (defScope st))
    (hbd : defBody st = [.Try [.Return (some (.Call (.Name a p1) [] [] p2)) p3] [.ExceptHandler (some (.Name e p4)) none [.Return (some (.Constant (.str ret) j p5)) p6] p7] [] [] p8]) (hbi : Binds X.K fd [a] []) (hm : X.mg x = some (.ref g)) (hge : (defScope st).names.lookup e = some .globalImplicit) (hme : X.mg e = some (.ref CS))
    (hN : N[0]? = some a) (hv : Vis (defScope st) a) (h0 : ∀ f : Addr, (L2.start N [V.ref f])[0]? = some (some (V.ref f)))
    (hr : Room (k + 1) X.A) (hg : Gl X x) (he : PE X e0 te) (hfn : ∀ x, X.fn x = true)
    (caps : ∀ pins σ H s, Inv X pins σ H s → Caps X (cloFrom X.env.cells lsc.names []) fr js)
    (hst : starEach [e0] X.env = (false, eval e0 X.env) :: starEach [] X.env := by rfl)
    (hdb : (x == ("__debug__" : Str)) = false := by decide) (hde : (e == ("__debug__" : Str)) = false := by decide) (hd : (a == ("__debug__" : Str)) = false := by decide) (hcd : (a == ("__classdict__" : Str)) = false := by decide) :
    PE X (.Call (.Name x p) [e0] [] pos) (tToldL X.K X.prog X.w X.mg X.base k te (cloFrom X.env.cells lsc.names []) fr js CS ret) := by
  refine ⟨fun pins s σ H Q I h => ?_⟩
  refine wpAny_Call_Name_kw (ld_glob I hg hm ?_ hdb)
  refine PySem.W.callWith_K (h₀ := X.base) I.ok.mod.kin Fn.kp (thn ((pa_cons he pa_nil hst).run pos pins s σ H (fun vs H1 => ∃ (f : Addr) (F : NF) (b : Expr) (tl : List (Option V) → Hp → VK → XK → Prop),
    vs = [.ref f] ∧ H1 f = some (LamO f F b) ∧ H1 F.c = some (CodeO F.c F.qual) ∧ F.cl = cloFrom X.env.cells lsc.names [] ∧ LOkC X.prog X.w X.K X.mg X.base k f F b fr tl ∧ tl (js.map (slotAt σ)) H1 Q (fun cls _ H' => ∃ b, PySem.W.exmOne X.K cls (.ref CS) = some b ∧ (b = true → Q (.str ret) H') ∧ (b = false → False))) I h) fun us s1 ⟨vs, H1, I1, r, q⟩ => ⟨I1.kIn, ?_⟩) hst (by rfl)
  obtain ⟨f, F, b, tl, rfl, hf, hc, hcl, L, ht⟩ := q
  obtain ⟨u, rfl, ru⟩ := r.one
  obtain rfl : u = Value.ref f := ru
  obtain ⟨oc, od, kV, doc, pm, an, cdv, ct, osl, rfl, lk, hcd2⟩ := Fn.ex
  have C1 : CellsAt F.cl fr (js.map (slotAt σ)) s1.heap H1 := by rw [hcl]; exact cells_of I1 (caps _ _ _ _ I1)
  have nf2 : ∀ y c, F.cl.lookup y = some c → c ∉ frs X.stack := fun y c z => cell_nofrs I1 hfn y c ((caps _ _ _ _ I1).sub y c (hcl ▸ z))
  generalize js.map (slotAt σ) = ws at C1 ht
  have rc : codeAny (model X.prog X.w) X.A (.call (.ref g) ⟨[.ref f], []⟩) (CR C8.CX0 X.stack X.prog X.w H1 s1 Q C8.E0) s1 := by
    refine run_ofS (N := N) (ps := [a]) (us := [.ref f]) (vs := [.ref f]) lk hcd2 S hr I1.env0 (hbi s1 [.ref f] I1.kIn rfl) (.cons rfl .nil) rfl fun hr' => ?_
    have hgl : Gl (cxOf C8.CX0 X.prog X.w X.K X.mg X.base N x (defScope st) g cdv X.A X.stack s1 H1 C8.E0).nox e := hge
    rw [hbd]
    have hps : PSs (cxOf C8.CX0 X.prog X.w X.K X.mg X.base N x (defScope st) g cdv X.A X.stack s1 H1 C8.E0).nox [.Try [.Return (some (.Call (.Name a p1) [] [] p2)) p3] [.ExceptHandler (some (.Name e p4)) none [.Return (some (.Constant (.str ret) j p5)) p6] p7] [] [] p8] _ :=
      pss_one (ps_try_only (c := .ref CS) (tb := fun W D σ H => σ[0]? = some (some (.ref f)) ∧ H f = some (LamO f F b) ∧ H F.c = some (CodeO F.c F.qual) ∧ ∃ E : XK, (∀ cls d σ' H', E cls d H' → W cls d σ' H') ∧ tl ws H D.rt E) rfl rfl ⟨hgl, hde, .inl hme⟩ L2.takes0
        (fun W pn xe tk _ => pss_one (ps_ret (pe_lamcC tk hr' hN hv C1 nf2 (fun _ _ _ z => nomatch z) L hd hcd))) (fun a oe cls d pn _ _ => pss_one (ps_ret pe_str)))
    refine ⟨_, hps.nox, h0 f, hf, hc, _, fun cls d σ' H' q => ?_, ht⟩
    obtain ⟨b, e1, e2, e3⟩ := q
    exact ⟨b, e1, fun hb a _ => e2 hb, fun hb => e3 hb⟩
  refine wpAny_call (codeAny_mono rc fun r s2 hq => ?_)
  cases r with
  | error e => exact (show False from hq).elim
  | ok fl =>
    cases fl with
    | ret u => exact I1.after hq
    | next => exact False.elim hq
    | brk => exact False.elim hq
    | cont => exact False.elim hq
end Sd


/-! the value of a lambda, told by ledgers: other tables beside the own one are kept -/
namespace Sd
open PySem PySem.Spec PyProof.Rows L2 LamX NdefX
/-- the own table's codes, in the ledger -/
def TabL (q : Str) (ps : Array Value) (L : Lg) : Prop := TriplesOk ps.toList ∧ ∀ (pos : Pos) (cv : Value), codeAmong pos ps.toList = some cv → ∃ c, cv = .ref c ∧ (c, CodeO c q) ∈ L
theorem TabL.nil {q : Str} {L : Lg} : TabL q #[] L := ⟨by simp [TriplesOk], fun pos cv h => by simp [codeAmong] at h⟩
theorem TabL.mono {q : Str} {ps : Array Value} {L L' : Lg} (h : TabL q ps L) (s : ∀ x ∈ L, x ∈ L') : TabL q ps L' := ⟨h.1, fun pos cv e => let ⟨c, e1, e2⟩ := h.2 pos cv e; ⟨c, e1, s _ e2⟩⟩
section
variable {X : Cx} {pins : List (Addr × Obj)} {σ : L2.St} {H : Hp} {s : Shared}
theorem lam_valueL {q : Str} {c P : Addr} {params : Arguments} {body : Expr} {scope : Scope} {pos : Pos} {E : Value → Shared → Prop} {Q : Value → Shared → Prop} {ps : Array Value} {L R : Lg} (I : Inv X pins σ H s) (TB : TabB X.base X.mg c P) (hcode : X.env.code = .ref c) (hq : X.env.qual ++ "<lambda>" = q)
    (hL : Led H ((P, .tbl ps) :: (L ++ R))) (hT : TabL q ps L) (hdef : defaultsOf params X.env = ([], [])) (hfree : ∀ y ∈ scope.names, y.2 = .free → ∃ c, X.env.cells.lookup y.1 = some c)
    (h : ∀ (f c' : Addr) (ps' : Array Value) (Z : Lg) (H1 : Hp) (s' : Shared), Inv X pins σ H1 s' → Led H1 ((f, LamO f ⟨"<lambda>", q, params, [], scope, cloFrom X.env.cells scope.names [], c'⟩ body) :: (P, .tbl ps') :: (Z ++ (L ++ R))) → TabL q ps' (Z ++ L) → (c', CodeO c' q) ∈ Z ++ L → Q (.ref f) s') :
    wpAny (model X.prog X.w) X.A (eval (.Lambda params body scope pos) X.env) Q E s := by
  subst hq
  obtain ⟨ht, ha⟩ := hT
  have hP : H P = some (.tbl ps) := hL.at ⟨0, rfl⟩
  have bP : s.heap.BuiltinsAt X.mg P := TB.bm.keeps I.bk
  have hP' : s.heap.get? P = some { cls := .none, data := .fields ps } := I.hok P _ hP
  refine PySem.W.kla_eval hdef ?_
  rcases hc : codeAmong pos ps.toList with _ | cv
  · refine PySem.W.kla_makeFunction (mg := X.mg) (c := c) (P := P) (ps := ps) (closure_ok hfree) I.ok.glob (I.mod.glob.keeps I.bk) hcode (TB.code.keeps I.bk) hP' ht hc TB.gP bP fun c' ctv h' tk hx hge hlt hrec htb => ?_
    obtain ⟨_, oc, vs, t, e2, hoc, hd, hv⟩ := hrec
    cases e2
    have nC : H c' = none := I.hok.fresh hge
    have I1 := inv_table (t' := tk) (more := #[rawInt pos.line, rawInt pos.col, .ref c']) (h' := h') I hP (fun b o hb e => hx b o hb e) htb hge ⟨oc, vs, t, hoc, hd, hv⟩
    have L1 : Led (upd (upd H P (.tbl (ps ++ #[rawInt pos.line, rawInt pos.col, .ref c']))) c' (CodeO c' (X.env.qual ++ "<lambda>"))) ((c', CodeO c' (X.env.qual ++ "<lambda>")) :: (P, .tbl (ps ++ #[rawInt pos.line, rawInt pos.col, .ref c'])) :: (L ++ R)) :=
      (hL.head).new (by rw [upd_ne (ne_of_none hP nC).symm]; exact nC)
    have nF := I1.hok.fresh (Nat.le_refl _)
    have I2 := inv_lam (F := ⟨"<lambda>", X.env.qual ++ "<lambda>", params, [], scope, cloFrom X.env.cells scope.names [], c'⟩) (b := body) (t' := tk) (pm := (X.mg "__name__").getD .none) (ctv := ctv) I1
    have eL : (ps ++ #[rawInt pos.line, rawInt pos.col, .ref c']).toList = ps.toList ++ [rawInt pos.line, rawInt pos.col, .ref c'] := by simp
    refine h h'.objs.size c' _ [(c', CodeO c' (X.env.qual ++ "<lambda>"))] _ _ I2 ((L1.new nF).perm (.cons _ (.swap _ _ _))) ⟨by rw [eL]; exact PySem.TriplesOk_snoc _ _ _ _ ht, fun p' cv hcv => ?_⟩ (.head _)
    rw [eL] at hcv
    rcases among_app _ ht hcv with z | z
    · obtain ⟨c0, e1, e2⟩ := ha p' cv z
      exact ⟨c0, e1, .tail _ e2⟩
    · exact ⟨c', z, .head _⟩
  · obtain ⟨c', e, hco⟩ := ha pos cv hc
    subst e
    refine PySem.W.kla_makeFunctionHit (mg := X.mg) (c := c) (P := P) (ps := ps) (closure_ok hfree) I.ok.glob (I.mod.glob.keeps I.bk) hcode (TB.code.keeps I.bk) hP' ht hc bP fun ctv h' tk hx hsz => ?_
    have I1 : Inv X pins σ H { s with heap := h', toks := tk } := I.kept hx
    have nF : H h'.objs.size = none := I1.hok.fresh (Nat.le_refl _)
    have I2 := inv_lam (F := ⟨"<lambda>", X.env.qual ++ "<lambda>", params, [], scope, cloFrom X.env.cells scope.names [], c'⟩) (b := body) (t' := tk) (pm := (X.mg "__name__").getD .none) (ctv := ctv) I1
    exact h h'.objs.size c' ps [] _ _ I2 (hL.new nF) ⟨ht, ha⟩ hco
end
/-- lambda: body, captured names; the own table and its codes in the ledger -/
def tLamVL (P : Addr) (q : Str) (params : Arguments) (body : Expr) (scope : Scope) (cl : List (Str × Addr)) : TE := fun _ H Q => ∃ (ps : Array Value) (L R : Lg), Led H ((P, .tbl ps) :: (L ++ R)) ∧ TabL q ps L ∧
  ∀ (f c' : Addr) (ps' : Array Value) (Z : Lg) (H1 : Hp), Led H1 ((f, LamO f ⟨"<lambda>", q, params, [], scope, cl, c'⟩ body) :: (P, .tbl ps') :: (Z ++ (L ++ R))) → TabL q ps' (Z ++ L) → (c', CodeO c' q) ∈ Z ++ L → Q (.ref f) H1
theorem pe_lamvL {X : Cx} {q : Str} {c P : Addr} {params : Arguments} {body : Expr} {scope : Scope} {pos : Pos} (TB : TabB X.base X.mg c P) (hcode : X.env.code = .ref c) (hq : X.env.qual ++ "<lambda>" = q) (hdef : defaultsOf params X.env = ([], []))
    (hfree : ∀ y ∈ scope.names, y.2 = .free → X.env.scope.names.lookup y.1 = some .cell) : PE X (.Lambda params body scope pos) (tLamVL P q params body scope (cloFrom X.env.cells scope.names [])) := by
  refine ⟨fun pins s σ H Q I h => ?_⟩
  obtain ⟨ps, L, R, hL, hT, h⟩ := h
  refine lam_valueL I TB hcode hq hL hT hdef (fun y hy e => I.ok.has _ (.inl (hfree y hy e))) fun f c' ps' Z H1 s' I1 h1 h2 h3 => ?_
  exact ⟨.ref f, H1, I1, rfl, h f c' ps' Z H1 h1 h2 h3⟩
section
variable {X : Cx} {s : Shared} {H : Hp} {scope : Scope} {env : Env} {fp : List Addr}
theorem sl_listB : SlR (X.blk s H scope env fp) (rSlL X.K) := sl_list
theorem call_len_seqB : CallR (X.blk s H scope env fp) (.builtin "len") (fun xs H Q => ∃ p ys, xs = [.ref p] ∧ (SqL X.K H p ys ∨ SqT X.K H p ys) ∧ Q (.int ys.length) H) := call_len_seq
end
end Sd


/-! any(..), all(..) of a generator expression of any truths -/
namespace Gx
open PySem PySem.Spec PyProof.Rows L2 GenW
/-- the heap of before stands in the heap of after -/
abbrev Kpt (s s' : Shared) : Prop := ∀ b o, s.heap.get? b = some o → s'.heap.get? b = some o
section
variable {X : Cx}
theorem inv_woken {ip : List (Addr × Obj)} {σ : L2.St} {H : Hp} {s s' : Shared} (I : Inv X ip σ H s) (os : s'.os = s.os) (hb : AllBare s'.gens) (kp : Kpt s s') : Inv X ip σ H s' := by
  obtain ⟨hh, g, d, t, o⟩ := s'
  have ho : o = s.os := os
  subst ho
  refine I.step (g' := g) (t' := t) (d' := d) (ch := []) (fun b hb => absurd hb (by simp)) (fun b ob _ _ _ q _ => kp b ob q) (fun b ob _ _ _ q _ => ⟨ob.slots, kp b ob q⟩) (fun _ _ _ _ n => n) (fun b ob _ q => ⟨ob, kp b ob q⟩)
    (fun _ _ q => q) (fun _ _ _ q => q) (fun b ps q => ⟨#[], by rw [q]; simp⟩) (fun m hm => ?_) (I.hok.kept kp) hb
  obtain ⟨ob, es, ep, ho, r⟩ := hm
  exact ⟨ob, es, ep, kp _ ob ho, r⟩
def GYB (X' : Cx) (stop : Bool) (Qy : Hp → Prop) : Protocol := fun _ _ v s kap => ∃ (b : Bool) (σ : L2.St) (H : Hp), v = .bool b ∧ Inv X' [] σ H s ∧ (b = stop → Qy H) ∧ (b ≠ stop → ∀ s', s'.os = s.os → AllBare s'.gens → Kpt s s' → kap (.send .none) s')
def GEB (X' : Cx) (σ : L2.St) (Qe : Hp → Prop) : GenEnd := fun _ _ r s => r = .ok .next ∧ ∃ H, Inv X' [] σ H s ∧ Qe H
theorem seg_gxb {A : Around} {elt tg iter : Expr} {ifs : List Expr} {scope : Scope} {gpos : Pos} {g : TG} {tt : TT} {te : TE} {vs : List Nat} {J : It} {fp : List Addr} {it : Addr} {tn : Nat → Heap → Prop} {H0 : Hp} {s0 : Shared} {cenv : Env} {pn : List (Addr × Obj)}
    {W : Nat → Nat → Hp → Prop} {stop : Bool} {Qy Qe : Hp → Prop}
    (T : Turn X.prog X.w X.K tg J fp it tn) (hco : cenv.scope.isCoroutine = false)
    (pg : PG (gx X (A.deeper cenv) s0 H0 cenv fp pn) tg g) (pt : PTs (gx X (A.deeper cenv) s0 H0 cenv fp pn) ifs tt) (pe : PE (gx X (A.deeper cenv) s0 H0 cenv fp pn) elt te)
    (hpn : ∀ p ∈ pn, p.1 ∉ fp)
    (turn : ∀ i m H, W i m H → (J.stop i H ∧ Qe H) ∨ (J.go i H ∧ ∃ Nx : Hp → Prop, (∀ H', Nx H' → ∃ m', m' < m ∧ W (i + 1) m' H') ∧ ∀ x H', J.yld i H x H' → g x (wipe σ vs) H' fun σ2 H2 => wipe σ2 vs = wipe σ vs ∧ tt σ2 H2 fun b H3 =>
      if b = true then te σ2 H3 fun y H4 => ∃ c, y = .bl c ∧ (c = stop → Qy H4) ∧ (c ≠ stop → Nx H4) else Nx H3)) :
    ∀ (m n i : Nat) (H : Hp) (s₀ s : Shared), m ≤ n → W i m H → Inv (gx X (A.deeper cenv) s0 H0 cenv fp pn) [] (wipe σ vs) H s → tn i s.heap → (∀ b ∈ fp, H b = none) →
      Seg (model X.prog X.w) A (GEB (gx X (A.deeper cenv) s0 H0 cenv fp pn) (wipe σ vs) Qe) (GYB (gx X (A.deeper cenv) s0 H0 cenv fp pn) stop Qy) (n + 1) s₀ (.compLoop (.GeneratorExp elt [⟨tg, iter, ifs, 0⟩] scope gpos) 0 (.ref it) .none cenv)
        ((model X.prog X.w).den (.compLoop (.GeneratorExp elt [⟨tg, iter, ifs, 0⟩] scope gpos) 0 (.ref it) .none cenv)) [] s := by
  have stat : ∀ {σ' : L2.St} {H' : Hp} {s' : Shared}, Inv (gx X (A.deeper cenv) s0 H0 cenv fp pn) [] σ' H' s' → (∀ b ∈ fp, H' b = none) → ∀ b ∈ fp, FpOk (gx X (A.deeper cenv) s0 H0 cenv fp pn) [] H' b := fun {σ' H' s'} I' hn b hb =>
    ⟨hn b hb, (I'.ok.exf b hb).1, I'.ok.exfs b hb, .inl hb, fun x c e => (I'.ok.exf b hb).2 x c e, fun p hp z => by
      rcases List.mem_append.mp hp with hp | hp
      · exact hpn p hp (z ▸ hb)
      · exact absurd hp (by simp)⟩
  intro m
  induction m using Nat.strongRecOn with
  | ind m ih =>
    intro n i H s₀ s hn w I hst hfn
    show Seg _ A _ _ _ s₀ _ ((compTurn (.GeneratorExp elt [⟨tg, iter, ifs, 0⟩] scope gpos) 0 (.ref it) .none cenv).onRaise (leaving cenv)) [] s
    rw [compTurn_gen, Sem.onRaise_eq_wrap]
    refine seg_bind_wrap (wpAny_standAt ?_)
    rcases turn i m H w with ⟨stop, q⟩ | ⟨go, Nx, hNx, step⟩
    · refine seg_bind_wrap ?_
      rw [gx_over]
      refine thnF (T.done (gx X (A.deeper cenv) s0 H0 cenv fp pn) rfl rfl rfl rfl i _ s _ H (fun _ _ => False) I (stat I hfn) hst stop) fun rr s1 ⟨hr, I1⟩ => ?_
      subst hr
      exact seg_end (.ok .next) ⟨rfl, H, I1, q⟩
    · refine seg_bind_wrap ?_
      rw [gx_over]
      refine thnF (T.item (gx X (A.deeper cenv) s0 H0 cenv fp pn) rfl rfl rfl rfl i _ s _ H (fun _ _ => False) I (stat I hfn) hst go) fun rr s1 ⟨u, hr, h1⟩ => ?_
      subst hr
      refine seg_bind_wrap ?_
      rw [gx_over]
      refine thnF h1 fun _ s2 ⟨x, H2, I2, r2, y2, st2, n2⟩ => ?_
      have I2' := I2.pinned (stat I2 n2) (T.obj _ _ st2)
      refine seg_bind_wrap ?_
      rw [gx_over]
      refine thnF (pg.run _ s2 _ H2 x u _ I2' r2 (step x H2 y2)) fun _ s3 ⟨σ3, H3, I3, hw3, q3⟩ => ?_
      refine seg_bind_wrap ?_
      rw [gx_over]
      refine thnF (pt.run _ s3 σ3 H3 _ I3 q3) fun b s4 ⟨H4, I4, q4⟩ => ?_
      have hl : ∀ {s' : Shared} {H' : Hp}, Inv (gx X (A.deeper cenv) s0 H0 cenv fp pn) ([] ++ pinsAt fp s2.heap) σ3 H' s' →
          Inv (gx X (A.deeper cenv) s0 H0 cenv fp pn) [] (wipe σ vs) H' s' ∧ tn (i + 1) s'.heap ∧ ∀ b ∈ fp, H' b = none := fun {s' H'} I' => by
        have pin' : ∀ b ∈ fp, ∀ o, s2.heap.get? b = some o → s'.heap.get? b = some o ∧ H' b = none := fun b hb o e =>
          let z := I'.pin (b, o) (List.mem_append_right _ (List.mem_append_right _ (mem_pinsAt hb e)))
          ⟨z.1, z.2.1⟩
        have hl : (wipe σ vs).length = σ3.length := by rw [← hw3, wipe_length]
        refine ⟨(I'.unpinned (pins := [])).weak hl (fun j v e => ?_), T.keep _ _ _ st2 fun b hb o e => (pin' b hb o e).1, fun b hb => ?_⟩
        · rw [← hw3] at e
          exact (wipe_some e).1
        · obtain ⟨o, e, _⟩ := T.obj _ _ st2 b hb
          exact (pin' b hb o e).2
      cases b with
      | false =>
        simp only [Bool.false_eq_true, if_false] at q4 ⊢
        obtain ⟨m', hm, w'⟩ := hNx H4 q4
        obtain ⟨I5, st5, n5⟩ := hl I4
        exact seg_again rfl (ih m' hm n (i + 1) H4 s₀ s4 (by omega) w' I5 st5 n5)
      | true =>
        simp only [if_true] at q4 ⊢
        have hy : ∀ v, yieldOut cenv v = yieldValue v := fun v => by simp only [yieldOut, hco, Bool.false_eq_true, if_false]
        simp only [hy]
        rw [Sem.bind_eq_wrap', Sem.bind_eq_wrap', Sem.wrap_wrap, Sem.wrap_wrap]
        refine seg_wrap ?_
        rw [gx_over]
        refine thnF (pe.run _ s4 σ3 H4 _ I4 q4) fun v s5 ⟨yv, H5, I5', r5, c, hc, qy, qn⟩ => ?_
        subst hc
        cases (show v = Value.bool c from r5)
        obtain ⟨I5, st5, n5⟩ := hl I5'
        refine seg_at (seg_yield rfl rfl rfl ⟨c, wipe σ vs, H5, rfl, I5, qy, fun hc s'' os hb kp => ?_⟩)
        obtain ⟨m', hm, w'⟩ := hNx _ (qn hc)
        obtain ⟨n, rfl⟩ : ∃ k, n = k + 1 := ⟨n - 1, by omega⟩
        exact seg_again rfl (ih m' hm n (i + 1) H5 s'' s'' (by omega) w' (inv_woken I5 os hb kp) (T.keep _ _ _ st5 fun b hb o e => kp b o e) n5)
/-! ### the expression -/
abbrev FinB (P : Program) (w : World) (outer : List Env) (H : Hp) (sc : Shared) (ex : List Addr) (Qe : Hp → Prop) : Nat → Shared → Shared → Prop := fun _ _ s1 => ∃ H', s1.os = sc.os ∧ AllBare s1.gens ∧ Un (frs outer) ex H H' sc.heap s1.heap ∧ HOk P w H' s1.heap ∧ Qe H'
abbrev REB (P : Program) (w : World) (outer : List Env) (H : Hp) (sc : Shared) (ex : List Addr) (Qe : Hp → Prop) : GenEnd := fun n s₀ r s₁ => ((r = .ok (.ret .none) ∨ r = .ok .next) ∧ FinB P w outer H sc ex Qe n s₀ s₁) ∨ ∃ e, r = .error e ∧ False
def YIB (P : Program) (w : World) (outer : List Env) (H : Hp) (s : Shared) (ex : List Addr) (a : Addr) (g : Nat) (stop : Bool) (Qy : Hp → Prop) : Protocol := fun _ _ v s1 kap =>
  s1.os = s.os ∧ AllBare s1.gens ∧ s1.heap.NoLimit ∧ s1.heap.IsGen a g ∧ ∃ b : Bool, v = .bool b ∧ (b = stop → ∃ H', Un (frs outer) ex H H' s.heap s1.heap ∧ HOk P w H' s1.heap ∧ Qy H') ∧ (b ≠ stop → ∀ s', s'.os = s1.os → AllBare s'.gens → Kpt s1 s' → kap (.send .none) s')
def GMadeB (P : Program) (w : World) (k : Nat) (outer : List Env) (H : Hp) (s : Shared) (ex : List Addr) (stop : Bool) (Qy Qe : Hp → Prop) (u : Value) (s' : Shared) : Prop :=
  ∃ (a : Addr) (g : Nat) (c : Code), u = .ref a ∧ s'.heap.IsGen a g ∧ s'.gens[g]? = some (.fresh c) ∧ s'.os = s.os ∧ AllBare s'.gens ∧ s'.heap.NoLimit ∧
    ∀ (A : Around) (s2 : Shared), Room k A → A.frames = some outer → Kpt s' s2 → s2.os = s.os → AllBare s2.gens → ∃ n, Seg (model P w) A (REB P w outer H s ex Qe) (YIB P w outer H s ex a g stop Qy) n s2 c ((model P w).den c) [] s2
abbrev TGB := L2.St → Hp → (Hp → Prop) → (Hp → Prop) → Prop
structure PGenB (X : Cx) (k : Nat) (e : Expr) (stop : Bool) (tg : TGB) : Prop where
  run : ∀ (pins : List (Addr × Obj)) (s : Shared) (σ : L2.St) (H : Hp) (Qy Qe : Hp → Prop), Inv X pins σ H s → tg σ H Qy Qe →
    wpAny (model X.prog X.w) X.A (eval e X.env) (fun u s' => ∃ H1 sc ex, Inv X pins σ H1 sc ∧ ExOk X pins ex ∧ GMadeB X.prog X.w k X.stack H1 sc ex stop Qy Qe u s') X.xe s
/-- the turns: Qy where an item is stop, Qe where none is -/
def tGxB (wi : TI) (g : TG) (tt : TT) (te : TE) (vs : List Nat) (P : Addr) (stop : Bool) : TGB := fun σ H Qy Qe => wi σ H fun J H1 => GxR.TabG H1 P ∧ ∀ H2, GxR.Tabbed P H1 H2 → ∃ W : Nat → Nat → Hp → Prop, (∃ m, W 0 m H2) ∧ ∀ i m H, W i m H →
  (J.stop i H ∧ Qe H) ∨ (J.go i H ∧ ∃ Nx : Hp → Prop, (∀ H', Nx H' → ∃ m', m' < m ∧ W (i + 1) m' H') ∧ ∀ x H', J.yld i H x H' → g x (wipe σ vs) H' fun σ2 H2 => wipe σ2 vs = wipe σ vs ∧ tt σ2 H2 fun b H3 =>
    if b = true then te σ2 H3 fun y H4 => ∃ c, y = .bl c ∧ (c = stop → Qy H4) ∧ (c ≠ stop → Nx H4) else Nx H3)
theorem pgen_gxb {c P : Addr} {k : Nat} {elt tg iter : Expr} {ifs : List Expr} {scope : Scope} {own : List (Str × Nat)} {gpos : Pos} {wi : TI} {g : TG} {tt : TT} {te : TE} {stop : Bool}
    (hr : Room (k + 1) X.A) (TB : GxR.TabB X.base X.mg c P) (hcode : X.env.code = .ref c) (hN : X.N.Nodup) (hi : PI X tg iter wi) (ok : GxOk X.N X.env.scope scope own)
    (hg : ∀ (A : Around) (s : Shared) (H : Hp) (C : Addr) (cl : List (Str × Addr)) (code : Value) (fp : List Addr) (pn : List (Addr × Obj)), Room k A → PG (gx X A s H (genEnv scope cl C code builtinsNs X.env) fp pn) tg g)
    (ht : ∀ (A : Around) (s : Shared) (H : Hp) (C : Addr) (cl : List (Str × Addr)) (code : Value) (fp : List Addr) (pn : List (Addr × Obj)), Room k A → PTs (gx X A s H (genEnv scope cl C code builtinsNs X.env) fp pn) ifs tt)
    (he : ∀ (A : Around) (s : Shared) (H : Hp) (C : Addr) (cl : List (Str × Addr)) (code : Value) (fp : List Addr) (pn : List (Addr × Obj)), Room k A → PE (gx X A s H (genEnv scope cl C code builtinsNs X.env) fp pn) elt te)
    (hs : ∀ v, genFold iter X.env v = pure v) : PGenB X (k + 1) (.GeneratorExp elt [⟨tg, iter, ifs, 0⟩] scope gpos) stop (tGxB wi g tt te (own.map (·.2)) P stop) := by
  refine ⟨fun pins s σ H Qy Qe I h => ?_⟩
  have hfree : ∀ y ∈ scope.names, y.2 = .free → ∃ c, X.env.cells.lookup y.1 = some c := fun y hy e => by
    rcases ok.free y hy e with k | k
    · exact I.ok.has _ (.inl k)
    · exact I.ok.has _ (.inr k)
  refine wpAny_GeneratorExp_make ok.co (closure_ok hfree) ok.cell ok.dot ok.kind (by have := hr.dp; omega) (thn (hi.run pins s σ H _ I h) fun xv s1 hx => thn hx fun itv s2 h2 => ?_) hs
  obtain ⟨it, fp, tn, J, H2, e, I2, T, st2, f2, hTab, q⟩ := h2
  subst e
  refine ⟨I2.nolimit, ?_⟩
  obtain ⟨ps, hP, htr⟩ := hTab
  have hPs : s2.heap.get? P = some { cls := .none, data := .fields ps } := I2.hok P _ hP
  have cd : PySem.W.CodeHd s2.heap c P := TB.code.keeps fun b u e => I2.bk b u e
  have nfpP : ∀ b ∈ fp, b ≠ P := fun b hb z => by
    have := (f2 b hb).1
    rw [z, hP] at this; cases this
  have cont' : ∀ (code : Value) (h3 : Heap) (tk : Nat) (ps' : Array Value), Heap.ExtBut P s2.heap h3 → s2.heap.objs.size ≤ h3.objs.size → h3.get? P = some { cls := .none, data := .fields ps' } → (∃ more, ps' = ps ++ more) → TriplesOk ps'.toList →
      wpAny (model X.prog X.w) X.A (builtinsFor X.env.globals X.env.builtins) (fun bi s₄ => ∀ h', h'.Ns s₄.heap.objs.size (fun y => if y = ".0" then some (.ref it) else none) → Heap.SameBut s₄.heap.objs.size (s₄.heap.push { cls := .type "frame", data := .dict #[] }) h' →
          (∃ H1 sc ex, Inv X pins σ H1 sc ∧ ExOk X pins ex ∧ GMadeB X.prog X.w (k + 1) X.stack H1 sc ex stop Qy Qe (.ref h'.objs.size) { s₄ with
            gens := s₄.gens.push (.fresh (.compStart (.GeneratorExp elt [⟨tg, iter, ifs, 0⟩] scope gpos) 0 (.ref it) .none (genEnv scope (cloFrom X.env.cells scope.names []) s₄.heap.objs.size code bi X.env))),
            toks := s₄.toks + 1 + 1 + 1,
            heap := h'.push { cls := .type "generator", data := .fields #[.int s₄.gens.size 0, .str "<genexpr>" (s₄.toks + 1), .str (X.env.qual ++ "<genexpr>") (s₄.toks + 1 + 1)] } })) X.xe { s2 with heap := h3, toks := tk } := by
    intro code h3 tk ps' hx hsz hP3 hmore ht3
    obtain ⟨bm, ob, e1, e2, e3, e4, e5, e6, e7, e8⟩ := TB.bm
    have keep3 : ∀ b u, b ≠ P → s2.heap.get? b = some u → h3.get? b = some u := fun b u hb e => hx b u hb e
    refine wpAny_builtinsFor (m := X.mg) (by rw [I2.ok.glob]; exact (I2.mod.glob.keeps I2.bk).extBut hx TB.gP) e1 e2 (keep3 _ _ e4 (I2.bk _ _ e5)) e6 e7 e8 ?_
    obtain ⟨more, em⟩ := hmore
    have I3 : Inv X pins σ (upd H2 P (.tbl (ps ++ more))) { s2 with heap := h3, gens := s2.gens, drawn := s2.drawn, toks := tk } := GxR.inv_tab I2 hP (fun b u hb e => hx b u hb e) (by rw [← em]; exact hP3) I2.bare
    generalize hs3 : ({ s2 with heap := h3, gens := s2.gens, drawn := s2.drawn, toks := tk } : Shared) = s3 at I3
    have e3h : s3.heap = h3 := by rw [← hs3]
    intro h' hn' hs'
    generalize hH3 : upd H2 P (.tbl (ps ++ more)) = H3 at I3
    have hTb : GxR.Tabbed P H2 H3 := by
      rw [← hH3]
      exact ⟨⟨ps ++ more, upd_same, by rw [← em]; exact ht3⟩, fun b hb => upd_ne hb⟩
    have f3 : ∀ b ∈ fp, FpOk X pins H3 b ∧ b < s3.heap.objs.size := fun b hb => by
      obtain ⟨o, e, _⟩ := T.obj _ _ st2 b hb
      refine ⟨⟨?_, (f2 b hb).2⟩, by rw [e3h]; exact Heap.lt_size (keep3 b o (nfpP b hb) e)⟩
      rw [hTb.2 b (nfpP b hb)]
      exact (f2 b hb).1
    have st3 : tn 0 s3.heap := T.keep _ _ _ st2 fun b hb o e => by rw [e3h]; exact keep3 b o (nfpP b hb) e
    obtain ⟨W, ⟨m0, w0⟩, turn⟩ := q H3 hTb
    have keep' : ∀ b o, s3.heap.get? b = some o → h'.get? b = some o := fun b o e => hs'.extBut b o (Nat.ne_of_lt (Heap.lt_size e)) (Heap.get?_push_of_some _ e)
    have hsz' : h'.objs.size = s3.heap.objs.size + 1 := by rw [hs'.1, Heap.size_push]
    refine ⟨H3, s3, fp, I3, fun b hb => ?_, ?_⟩
    · obtain ⟨z1, z2, z3, z4, z5, z6⟩ := (f3 b hb).1
      exact ⟨z4, z2, z5, z6⟩
    generalize hce : genEnv scope (cloFrom X.env.cells scope.names []) s3.heap.objs.size code builtinsNs X.env = cenv
    have cL : cenv.locals = s3.heap.objs.size := by rw [← hce]; rfl
    generalize hgo : ({ cls := .type "generator", data := .fields #[.int s3.gens.size 0, .str "<genexpr>" (s3.toks + 1), .str (X.env.qual ++ "<genexpr>") (s3.toks + 1 + 1)] } : Obj) = go
    have hgc : go.cls = .type "generator" ∧ go.data = .fields #[.int s3.gens.size 0, .str "<genexpr>" (s3.toks + 1), .str (X.env.qual ++ "<genexpr>") (s3.toks + 1 + 1)] ∧ go.slots = #[] := by
      rw [← hgo]; exact ⟨rfl, rfl, rfl⟩
    have hgen : ∀ h : Heap, h.get? h'.objs.size = some go → h.IsGen h'.objs.size s3.gens.size := fun h e => ⟨go, _, _, e, hgc.1, hgc.2.1, hgc.2.2⟩
    have hpushed : (h'.push go).get? h'.objs.size = some go := by
      rw [← hgo]; exact Heap.get?_push_size _ rfl
    refine ⟨h'.objs.size, s3.gens.size, _, rfl, hgen _ hpushed, Array.getElem?_push_size .., rfl, AllBare.push I3.bare rfl, I3.nolimit.keeps fun b o e => Heap.get?_push_of_some _ (keep' b o e), ?_⟩
    intro Aw s4 hrw hfr hk2 hos hba
    have hea : s4.heap.get? h'.objs.size = some go := hk2 _ go hpushed
    have hgd : ∀ v, go.data ≠ .cell v := fun v z => by rw [hgc.2.1] at z; cases z
    have kp4 : ∀ b o, s3.heap.get? b = some o → s4.heap.get? b = some o := fun b o e => hk2 b o (Heap.get?_push_of_some _ (keep' b o e))
    have I5 := gx_start (A := Aw.deeper cenv) (code := code) (s' := s4) (m := fun y => if y = ".0" then some (.ref it) else none) (pn := [(h'.objs.size, go)]) I3 ok hN f3 hrw.hd (by rw [hce]; exact Around.frames_deeper hfr) kp4 hos hba
      (hn'.keeps fun b o e => hk2 b o (Heap.get?_push_of_some _ e)) (fun p hp => by
        rw [List.mem_singleton.mp hp]
        exact ⟨hea, by show s3.heap.objs.size < h'.objs.size; omega, hgd⟩)
    rw [hce] at I5
    have pinned : ∀ {s' : Shared} {σ' : L2.St} {H' : Hp}, Inv (gx X (Aw.deeper cenv) s3 H3 cenv fp [(h'.objs.size, go)]) [] σ' H' s' → s'.heap.IsGen h'.objs.size s3.gens.size := fun {s' σ' H'} J =>
      hgen _ (J.pin (h'.objs.size, go) (List.mem_append_left _ (List.mem_singleton.mpr rfl))).1
    have st4 : tn 0 s4.heap := T.keep _ _ _ st3 fun b _ o e => kp4 b o e
    have loop := seg_gxb (A := Aw) (elt := elt) (iter := iter) (scope := scope) (gpos := gpos) (vs := own.map (·.2)) (H0 := H3) (s0 := s3) (cenv := cenv) (pn := [(h'.objs.size, go)]) (W := W) (stop := stop) (Qy := Qy) (Qe := Qe) (σ := σ) T (by rw [← hce]; exact ok.co)
      (by rw [← hce]; exact hg _ _ _ _ _ _ _ _ (hrw.deeper _)) (by rw [← hce]; exact ht _ _ _ _ _ _ _ _ (hrw.deeper _)) (by rw [← hce]; exact he _ _ _ _ _ _ _ _ (hrw.deeper _))
      (fun p hp => by
        rw [List.mem_singleton.mp hp]
        exact fun hb => absurd (f3 _ hb).2 (by show ¬ (h'.objs.size < s3.heap.objs.size); omega)) turn m0 m0 0 H3 s4 s4 (Nat.le_refl _) w0 I5 st4 (fun b hb => (f3 b hb).1.1)
    refine ⟨_, seg_imp (R := GEB (gx X (Aw.deeper cenv) s3 H3 cenv fp [(h'.objs.size, go)]) (wipe σ (own.map (·.2))) Qe) (Y := GYB (gx X (Aw.deeper cenv) s3 H3 cenv fp [(h'.objs.size, go)]) stop Qy) (fun n s₀ r s1' hR => ?_) (fun n s₀ v s1' kap kap' hkk hY => ?_) (m0 + 1) (seg_gx0 T st4 loop)⟩
    · obtain ⟨rfl, H', J, hQ⟩ := hR
      exact .inl ⟨.inr rfl, H', J.os, J.bare, J.base, J.hok, hQ⟩
    · obtain ⟨b, σ', H', hv, J, h2, h3⟩ := hY
      exact ⟨J.os, J.bare, J.nolimit, pinned J, b, hv, fun e => ⟨H', J.base, J.hok, h2 e⟩, fun e s' z1 z2 z3 => hkk _ _ (h3 e s' z1 z2 z3)⟩
  cases hf : codeAmong gpos ps.toList with
  | none =>
    refine wpAny_genexprCodeX hcode (cd.code hPs htr) (cd.tab hPs) hf fun c' h' tk hx hge hlt hco' _ htab' _ => ?_
    obtain ⟨o1, vs, f1, tf, fl, tg, inF, tx, tt, op, _, _, _, _, _, _, _, _, _, htr', _⟩ := hco'
    exact cont' _ h' tk _ hx (Nat.le_trans hge (Nat.le_of_lt hlt)) htab'.2 ⟨_, rfl⟩ htr'
  | some cv =>
    refine wpAny_genexprCode_hit hcode (cd.code hPs htr) hf ?_
    exact cont' cv s2.heap s2.toks ps (Heap.ExtBut.refl _ _) (Nat.le_refl _) hPs ⟨#[], by simp⟩ htr
end
/-! ### any(g), all(g) -/
section
variable {P : Program} {w : World} {outer : List Env} {H : Hp} {sc : Shared} {ex : List Addr} {Qy Qe : Hp → Prop} {A : Around} {a : Addr} {g : Nat} {R : Result → Shared → Prop}
/-- what a run of any or all leaves -/
def LeftB (P : Program) (w : World) (outer : List Env) (H : Hp) (sc : Shared) (ex : List Addr) (Q : Hp → Prop) (s' : Shared) : Prop :=
  ∃ H', s'.os = sc.os ∧ AllBare s'.gens ∧ Un (frs outer) ex H H' sc.heap s'.heap ∧ HOk P w H' s'.heap ∧ Q H'
theorem any_loop (hh : A.handled = none) (hd : A.depth < recursionLimit)
    (hyes : ∀ s', LeftB P w outer H sc ex Qy s' → R (.ok (.ret (.bool true))) s') (hend : ∀ s', LeftB P w outer H sc ex Qe s' → R (.ok (.ret (.bool false))) s') :
    ∀ (m : Nat) (s : Shared), s.heap.IsGen a g → s.heap.NoLimit →
      (∃ gs, s.gens[g]? = some gs ∧ gs.Goes (model P w) A.in1.in1 (REB P w outer H sc ex Qe) (YIB P w outer H sc ex a g true Qy) m (.send .none) (s.setGen g .running)) →
      codeAny (model P w) A (.builtin "any.loop" ⟨[.ref a], []⟩) R s := by
  intro m
  induction m with
  | zero =>
    intro s hg hl ⟨gs, hgs, hgo⟩
    refine codeAny_builtin F.entry_any_loop ?_
    rw [Around.under_plainId F.plain_any_loop _]
    show wpAny _ A.in1 (pyNext (.ref a) >>= _) _ _ s
    refine wpAny_bind (next_genG (A := A.in1) (Er := fun _ _ => False) hh hl hd hg hgs hgo (fun v s₁ gs' hbare hv => ?_) (fun s₁ hp h' hk => ?_) fun e s₁ he => he.elim)
    · obtain ⟨os1, hb1, _, _, b, rfl, qy, qn⟩ := hv
      refine wpAny_bind (wpAny_holding (wpAny_truthy_bool ?_))
      refine wpAny_bind (wpAny_letGo ?_)
      cases b with
      | true =>
        simp only [if_true]
        obtain ⟨H', un, hok, hq⟩ := qy rfl
        exact wpAny_bind (wpAny_rule (wpAny_pure (hyes _ ⟨H', os1, allBare_setGen hb1 hbare, un, hok, hq⟩)))
      | false => exact (qn (by decide) s₁ rfl hb1 fun _ _ e => e).elim
    · obtain ⟨H', os1, hb1, un, hok, hQ⟩ := hp
      exact wpAny_bind (wpAny_rule (wpAny_pure (hend _ ⟨H', os1, allBare_setGen hb1 rfl, un.trans (Un.kept hk), hok.kept hk, hQ⟩)))
  | succ m ih =>
    intro s hg hl ⟨gs, hgs, hgo⟩
    have hgl : g < s.gens.size := (Array.getElem?_eq_some_iff.mp hgs).1
    refine codeAny_builtin F.entry_any_loop ?_
    rw [Around.under_plainId F.plain_any_loop _]
    show wpAny _ A.in1 (pyNext (.ref a) >>= _) _ _ s
    refine wpAny_bind (wpAny_gsz (n := g + 1) hgl (next_genG (A := A.in1) (Er := fun _ _ => False) hh hl hd hg hgs hgo (fun v s₁ gs' hbare hv => ?_) (fun s₁ hp h' hk => ?_) fun e s₁ he => he.elim))
    · intro hsz
      obtain ⟨os1, hb1, hl1, hg1, b, rfl, qy, qn⟩ := hv
      refine wpAny_bind (wpAny_holding (wpAny_truthy_bool ?_))
      refine wpAny_bind (wpAny_letGo ?_)
      cases b with
      | true =>
        simp only [if_true]
        obtain ⟨H', un, hok, hq⟩ := qy rfl
        exact wpAny_bind (wpAny_rule (wpAny_pure (hyes _ ⟨H', os1, allBare_setGen hb1 hbare, un, hok, hq⟩)))
      | false =>
        simp only [Bool.false_eq_true, if_false]
        have hsz1 : g < s₁.gens.size := by
          have q : (s₁.setGen g gs').gens.size = s₁.gens.size := setGen_size _ _ _
          have hsz' : g + 1 ≤ (s₁.setGen g gs').gens.size := hsz
          omega
        refine wpAny_pure ⟨plainId_quiet F.plain_any_loop _, ih (s₁.setGen g gs') hg1 hl1 ⟨gs', setGen_at hsz1, ?_⟩⟩
        exact qn (by decide) _ rfl (allBare_setGen (s := s₁.setGen g gs') (allBare_setGen hb1 hbare) rfl) fun _ _ e => e
    · intro _
      obtain ⟨H', os1, hb1, un, hok, hQ⟩ := hp
      exact wpAny_bind (wpAny_rule (wpAny_pure (hend _ ⟨H', os1, allBare_setGen hb1 rfl, un.trans (Un.kept hk), hok.kept hk, hQ⟩)))
theorem all_loop (hh : A.handled = none) (hd : A.depth < recursionLimit)
    (hyes : ∀ s', LeftB P w outer H sc ex Qy s' → R (.ok (.ret (.bool false))) s') (hend : ∀ s', LeftB P w outer H sc ex Qe s' → R (.ok (.ret (.bool true))) s') :
    ∀ (m : Nat) (s : Shared), s.heap.IsGen a g → s.heap.NoLimit →
      (∃ gs, s.gens[g]? = some gs ∧ gs.Goes (model P w) A.in1.in1 (REB P w outer H sc ex Qe) (YIB P w outer H sc ex a g false Qy) m (.send .none) (s.setGen g .running)) →
      codeAny (model P w) A (.builtin "all.loop" ⟨[.ref a], []⟩) R s := by
  intro m
  induction m with
  | zero =>
    intro s hg hl ⟨gs, hgs, hgo⟩
    refine codeAny_builtin F.entry_all_loop ?_
    rw [Around.under_plainId F.plain_all_loop _]
    show wpAny _ A.in1 (pyNext (.ref a) >>= _) _ _ s
    refine wpAny_bind (next_genG (A := A.in1) (Er := fun _ _ => False) hh hl hd hg hgs hgo (fun v s₁ gs' hbare hv => ?_) (fun s₁ hp h' hk => ?_) fun e s₁ he => he.elim)
    · obtain ⟨os1, hb1, _, _, b, rfl, qy, qn⟩ := hv
      refine wpAny_bind (wpAny_holding (wpAny_truthy_bool ?_))
      refine wpAny_bind (wpAny_letGo ?_)
      cases b with
      | false =>
        simp only [Bool.false_eq_true, if_false]
        obtain ⟨H', un, hok, hq⟩ := qy rfl
        exact wpAny_bind (wpAny_rule (wpAny_pure (hyes _ ⟨H', os1, allBare_setGen hb1 hbare, un, hok, hq⟩)))
      | true => exact (qn (by decide) s₁ rfl hb1 fun _ _ e => e).elim
    · obtain ⟨H', os1, hb1, un, hok, hQ⟩ := hp
      exact wpAny_bind (wpAny_rule (wpAny_pure (hend _ ⟨H', os1, allBare_setGen hb1 rfl, un.trans (Un.kept hk), hok.kept hk, hQ⟩)))
  | succ m ih =>
    intro s hg hl ⟨gs, hgs, hgo⟩
    have hgl : g < s.gens.size := (Array.getElem?_eq_some_iff.mp hgs).1
    refine codeAny_builtin F.entry_all_loop ?_
    rw [Around.under_plainId F.plain_all_loop _]
    show wpAny _ A.in1 (pyNext (.ref a) >>= _) _ _ s
    refine wpAny_bind (wpAny_gsz (n := g + 1) hgl (next_genG (A := A.in1) (Er := fun _ _ => False) hh hl hd hg hgs hgo (fun v s₁ gs' hbare hv => ?_) (fun s₁ hp h' hk => ?_) fun e s₁ he => he.elim))
    · intro hsz
      obtain ⟨os1, hb1, hl1, hg1, b, rfl, qy, qn⟩ := hv
      refine wpAny_bind (wpAny_holding (wpAny_truthy_bool ?_))
      refine wpAny_bind (wpAny_letGo ?_)
      cases b with
      | false =>
        simp only [Bool.false_eq_true, if_false]
        obtain ⟨H', un, hok, hq⟩ := qy rfl
        exact wpAny_bind (wpAny_rule (wpAny_pure (hyes _ ⟨H', os1, allBare_setGen hb1 hbare, un, hok, hq⟩)))
      | true =>
        simp only [if_true]
        have hsz1 : g < s₁.gens.size := by
          have q : (s₁.setGen g gs').gens.size = s₁.gens.size := setGen_size _ _ _
          have hsz' : g + 1 ≤ (s₁.setGen g gs').gens.size := hsz
          omega
        refine wpAny_pure ⟨plainId_quiet F.plain_all_loop _, ih (s₁.setGen g gs') hg1 hl1 ⟨gs', setGen_at hsz1, ?_⟩⟩
        exact qn (by decide) _ rfl (allBare_setGen (s := s₁.setGen g gs') (allBare_setGen hb1 hbare) rfl) fun _ _ e => e
    · intro _
      obtain ⟨H', os1, hb1, un, hok, hQ⟩ := hp
      exact wpAny_bind (wpAny_rule (wpAny_pure (hend _ ⟨H', os1, allBare_setGen hb1 rfl, un.trans (Un.kept hk), hok.kept hk, hQ⟩)))
theorem call_any_gx {k : Nat} {u : Value} {s : Shared} {E : Value → Shared → Prop} {Q' : Value → Shared → Prop} (hr : Room (k + 2) A) (hfr : A.frames = some outer) (h : GMadeB P w k outer H sc ex true Qy Qe u s)
    (hy : ∀ s', LeftB P w outer H sc ex Qy s' → Q' (.bool true) s') (he : ∀ s', LeftB P w outer H sc ex Qe s' → Q' (.bool false) s') : wpAny (model P w) A (call (.builtin "any") [u]) Q' E s := by
  obtain ⟨a, g, c, rfl, hg, hgs, hos, hb, hl, wake⟩ := h
  refine call_function_tree F.kind_any F.plain_any F.entry_any (F.args_any1 _) ?_
  unfold Builtin.«any»
  refine wpAny_bind (m := oneArg "any" _) (wpAny_pure ?_)
  refine wpAny_bind (wpAny_pyIter_gen hg ?_)
  have hs2 := wake A.in1.in1 (s.setGen g .running) ⟨hr.hd, by have := hr.dp; show A.depth + 3 * k + 5 < _; omega, by have := hr.un; show A.units + 1 + 1 + 16 * k + 200 < _; omega⟩ hfr (fun _ _ e => e) hos (allBare_setGen hb rfl)
  obtain ⟨n, hs2⟩ := hs2
  exact wpAny_pure ⟨plainId_quiet F.plain_any_loop _, any_loop (A := A) hr.hd (by have := hr.dp; show A.depth < _; omega) hy he n s hg hl ⟨_, hgs, rfl, hs2⟩⟩
theorem call_all_gx {k : Nat} {u : Value} {s : Shared} {E : Value → Shared → Prop} {Q' : Value → Shared → Prop} (hr : Room (k + 2) A) (hfr : A.frames = some outer) (h : GMadeB P w k outer H sc ex false Qy Qe u s)
    (hy : ∀ s', LeftB P w outer H sc ex Qy s' → Q' (.bool false) s') (he : ∀ s', LeftB P w outer H sc ex Qe s' → Q' (.bool true) s') : wpAny (model P w) A (call (.builtin "all") [u]) Q' E s := by
  obtain ⟨a, g, c, rfl, hg, hgs, hos, hb, hl, wake⟩ := h
  refine call_function_tree F.kind_all F.plain_all F.entry_all (F.args_all1 _) ?_
  unfold Builtin.«all»
  refine wpAny_bind (m := oneArg "all" _) (wpAny_pure ?_)
  refine wpAny_bind (wpAny_pyIter_gen hg ?_)
  have hs2 := wake A.in1.in1 (s.setGen g .running) ⟨hr.hd, by have := hr.dp; show A.depth + 3 * k + 5 < _; omega, by have := hr.un; show A.units + 1 + 1 + 16 * k + 200 < _; omega⟩ hfr (fun _ _ e => e) hos (allBare_setGen hb rfl)
  obtain ⟨n, hs2⟩ := hs2
  exact wpAny_pure ⟨plainId_quiet F.plain_all_loop _, all_loop (A := A) hr.hd (by have := hr.dp; show A.depth < _; omega) hy he n s hg hl ⟨_, hgs, rfl, hs2⟩⟩
end
section
variable {X : Cx}
/-- any(g): some item is true; all(g): none is false -/
def tAnyG (tg : TGB) : TE := fun σ H Q => tg σ H (fun H' => Q (.bl true) H') fun H' => Q (.bl false) H'
def tAllG (tg : TGB) : TE := fun σ H Q => tg σ H (fun H' => Q (.bl false) H') fun H' => Q (.bl true) H'
theorem pe_anyG {k : Nat} {e : Expr} {tg : TGB} {p pos : Pos} (h : PGenB X k e true tg) (hr : Room (k + 3) X.A) (hg : Gl X "any") (hmg : X.mg "any" = none)
    (he : starEach [e] X.env = (false, eval e X.env) :: starEach [] X.env := by rfl) : PE X (.Call (.Name "any" p) [e] [] pos) (tAnyG tg) := by
  refine ⟨fun pins s σ H Q I hq => ?_⟩
  refine wpAny_Call_Name_kw (ld_blt I hg hmg boot_any ?_)
  refine PyProof.Rows.callWith_builtin1 ?_ he (by rfl)
  rw [he]
  show wpAny _ _ (spliced ((false, eval e X.env) :: backTo pos (starEach [] X.env))) _ _ s
  refine Calls.spliced_cons (thn (h.run pins s σ H _ _ I hq) fun u s1 ⟨H1, sc, ex, I1, hex, hG⟩ => ?_)
  refine Calls.spliced_nil ?_
  refine call_any_gx (hr.mono (by omega)) I1.ok.frames hG (fun s' hd => ?_) fun s' hd => ?_
  · obtain ⟨H', q3, q4, q5, q6, q7⟩ := hd
    exact ⟨.bl true, H', I1.call' (ch := ex) q3 q5 q6 q4 hex, rfl, q7⟩
  · obtain ⟨H', q3, q4, q5, q6, q7⟩ := hd
    exact ⟨.bl false, H', I1.call' (ch := ex) q3 q5 q6 q4 hex, rfl, q7⟩
theorem pe_allG {k : Nat} {e : Expr} {tg : TGB} {p pos : Pos} (h : PGenB X k e false tg) (hr : Room (k + 3) X.A) (hg : Gl X "all") (hmg : X.mg "all" = none) (hb : bootBuiltins "all" = some (.builtin "all") := by decide +kernel)
    (he : starEach [e] X.env = (false, eval e X.env) :: starEach [] X.env := by rfl) : PE X (.Call (.Name "all" p) [e] [] pos) (tAllG tg) := by
  refine ⟨fun pins s σ H Q I hq => ?_⟩
  refine wpAny_Call_Name_kw (ld_blt I hg hmg hb ?_)
  refine PyProof.Rows.callWith_builtin1 ?_ he (by rfl)
  rw [he]
  show wpAny _ _ (spliced ((false, eval e X.env) :: backTo pos (starEach [] X.env))) _ _ s
  refine Calls.spliced_cons (thn (h.run pins s σ H _ _ I hq) fun u s1 ⟨H1, sc, ex, I1, hex, hG⟩ => ?_)
  refine Calls.spliced_nil ?_
  refine call_all_gx (hr.mono (by omega)) I1.ok.frames hG (fun s' hd => ?_) fun s' hd => ?_
  · obtain ⟨H', q3, q4, q5, q6, q7⟩ := hd
    exact ⟨.bl false, H', I1.call' (ch := ex) q3 q5 q6 q4 hex, rfl, q7⟩
  · obtain ⟨H', q3, q4, q5, q6, q7⟩ := hd
    exact ⟨.bl true, H', I1.call' (ch := ex) q3 q5 q6 q4 hex, rfl, q7⟩
end
/-- the turns over a walk -/
theorem gxb_it {J : It} {n : Nat} {G : Hp → Prop} {Y : Nat → Hp → V → Hp → Prop} (w : Walk J n G Y) {g : TG} {tt : TT} {te : TE} {vs : List Nat} {σ : L2.St} {H1 : Hp} {stop : Bool} {Qy Qe : Hp → Prop} (Pv : Nat → Hp → Prop) (h0 : Pv 0 H1) (hG : ∀ i H, i ≤ n → Pv i H → G H)
    (hs : ∀ i x H H', i < n → Pv i H → Y i H x H' → g x (wipe σ vs) H' fun σ2 H2 => wipe σ2 vs = wipe σ vs ∧ tt σ2 H2 fun b H3 =>
      if b = true then te σ2 H3 fun y H4 => ∃ c, y = .bl c ∧ (c = stop → Qy H4) ∧ (c ≠ stop → Pv (i + 1) H4) else Pv (i + 1) H3) (hd : ∀ H, Pv n H → Qe H) :
    ∃ W : Nat → Nat → Hp → Prop, (∃ m, W 0 m H1) ∧ ∀ i m H, W i m H →
      (J.stop i H ∧ Qe H) ∨ (J.go i H ∧ ∃ Nx : Hp → Prop, (∀ H', Nx H' → ∃ m', m' < m ∧ W (i + 1) m' H') ∧ ∀ x H', J.yld i H x H' → g x (wipe σ vs) H' fun σ2 H2 => wipe σ2 vs = wipe σ vs ∧ tt σ2 H2 fun b H3 =>
        if b = true then te σ2 H3 fun y H4 => ∃ c, y = .bl c ∧ (c = stop → Qy H4) ∧ (c ≠ stop → Nx H4) else Nx H3) := by
  refine ⟨fun i m H => m = n - i ∧ i ≤ n ∧ Pv i H, ⟨n, by simp, Nat.zero_le _, h0⟩, ?_⟩
  rintro i m H ⟨rfl, hi, p⟩
  have q := hG i H hi p
  by_cases hlt : i < n
  · exact .inr ⟨w.goes i H hlt q, Pv (i + 1), fun H' p' => ⟨n - (i + 1), by omega, rfl, hlt, p'⟩, fun x H' y => hs i x H H' hlt p (w.yields i H x H' hlt q y)⟩
  · have e : i = n := by omega
    subst e
    exact .inl ⟨w.stops H q, hd H p⟩
end Gx


/-! e[::-1], e a list or a tuple -/
namespace Sd
open PySem PySem.Spec PyProof.Rows L2
section
variable {prog : Program} {w : World} {A : Around} {E : Value → Shared → Prop} {s : Shared}
theorem rv_applied {sl : Addr} {vs : Value} {n : Nat} {Q : Int × Int × Nat → Shared → Prop} (hs : s.heap.IsSliceOf sl .none .none vs) (ps : IsPart vs (some (-1))) (h : Q (((n : Int) - 1), -1, n) s) :
    wpAny (model prog w) A (Builtin.Slice.sliceApplied (.ref sl) (pure (n : Int))) Q E s := by
  obtain ⟨os, hos, hcs, hds⟩ := id hs
  unfold Builtin.Slice.sliceApplied Builtin.Slice.sliceFields
  refine wpAny_bind (wpAny_bind (wpAny_field hos hds (x := .none) rfl (wpAny_bind (wpAny_field hos hds (x := .none) rfl (wpAny_bind (wpAny_field hos hds (x := vs) rfl (wpAny_pure ?_)))))))
  refine wpAny_bind (HT.slicePart_ ps ?_)
  show wpAny _ _ (if ((-1 : Int) == 0) = true then _ else _) _ _ s
  rw [if_neg (by decide)]
  refine wpAny_bind (HT.slicePart_ .none (wpAny_bind (HT.slicePart_ .none (wpAny_bind (wpAny_pure ?_)))))
  show wpAny _ _ (pure (((n : Int) - 1), (-1 : Int), Builtin.Slice.slicePlaces ((n : Int) - 1) (-1) (-1))) _ _ s
  have e : Builtin.Slice.slicePlaces ((n : Int) - 1) (-1) (-1) = n := by
    unfold Builtin.Slice.slicePlaces
    rw [if_neg (by decide)]
    by_cases h : (n : Int) - 1 > -1
    · rw [if_pos h, show (- -1 : Int) = 1 by decide, Int.ediv_one]
      omega
    · rw [if_neg h]
      omega
  rw [e]
  exact wpAny_pure h
theorem fm_congr {α β : Type} {f g : α → Option β} : ∀ {l : List α}, (∀ m ∈ l, f m = g m) → l.filterMap f = l.filterMap g
  | [], _ => rfl
  | a :: l, h => by rw [List.filterMap_cons, List.filterMap_cons, h a (.head _), fm_congr fun m hm => h m (.tail _ hm)]
theorem rv_pick (xs : Array Value) : ((List.range xs.size).filterMap fun (m : Nat) => xs[(((xs.size : Int) - 1) + (m : Int) * -1).toNat]?) = xs.toList.reverse := by
  have e : ∀ m ∈ List.range xs.size, xs[(((xs.size : Int) - 1) + (m : Int) * -1).toNat]? = (fun k : Nat => xs[xs.size - 1 - k]?) m := fun m hm => by
    have := List.mem_range.mp hm
    have : (((xs.size : Int) - 1) + (m : Int) * -1).toNat = xs.size - 1 - m := by omega
    rw [this]
  rw [fm_congr e]
  have e2 : (List.range xs.size).filterMap (fun k : Nat => xs[xs.size - 1 - k]?) = ((List.range xs.size).map fun k => xs.size - 1 - k).filterMap (xs[·]?) := by
    rw [List.filterMap_map]; rfl
  rw [e2, PySem.W.krv_range, List.filterMap_reverse, PySem.W.krv_all]
theorem rv_tup {t sl : Addr} {items : Array Value} {vs : Value} {Q : Value → Shared → Prop} (ht : IsTup s.heap t items) (hs : s.heap.IsSliceOf sl .none .none vs) (ps : IsPart vs (some (-1)))
    (h : Q (.ref s.heap.objs.size) { s with heap := s.heap.push { cls := .type "tuple", data := .seq items.toList.reverse.toArray } }) (hsz : items.size ≤ sizeLine) : wpAny (model prog w) A (getItem (.ref t) (.ref sl)) Q E s := by
  have htake : sizeOk (.seq items.toList.reverse.toArray) := by
    show items.toList.reverse.toArray.size ≤ sizeLine
    rw [List.size_toArray, List.length_reverse, Array.length_toList]
    exact hsz
  obtain ⟨os, hos, hcs, hds⟩ := id hs
  have hTs : s.TypeIs (.ref sl) "slice" := ⟨os, hos, hcs⟩
  unfold getItem
  try with_reducible refine wpAny_holding ?_
  first | refine wpAny_bind (wpAny_pure ?_) | skip
  refine wpAny_bind (wpAny_sequenceKey ht.typeIs (by decide) ?_)
  refine wpAny_bind (wpAny_callSpecial?_slot (name := Str.ofString "__getitem__") ht.typeIs PyProof.Rows.slot_tuple_getitem
    (wpAny_call_entry PyProof.Rows.slot_tuple_getitem ht.typeIs entry_tuple_getitem ?_ (args_tuple_getitem _ _)))
  show wpAny _ _ (Builtin.Tuple.tupleItemsOf (.ref t) >>= _) _ _ s
  refine wpAny_bind (tupleItemsOf_ ht ?_)
  refine wpAny_bind (wpAny_typeOf hTs ?_)
  rw [if_pos (by decide)]
  refine wpAny_bind (rv_applied hs ps ?_)
  have hno : ¬ ((((items.size : Int) - 1) == 0 && (-1 : Int) == 1 && items.size == items.size) = true) := by simp
  show wpAny _ _ (if (((items.size : Int) - 1) == 0 && (-1 : Int) == 1 && items.size == items.size) = true then _ else _) _ _ s
  rw [if_neg hno, rv_pick]
  first
    | exact wpAny_bind (m := Builtin.Tuple.tupleExact _) (wpAny_newObj_type (wpAny_pure ⟨_, rfl, wpAny_pure h⟩) htake)
    | exact wpAny_bind (m := Builtin.Tuple.tupleExact _) (wpAny_newObj_type (wpAny_bind (wpAny_pure (wpAny_pure ⟨_, rfl, wpAny_pure h⟩))) htake)
    | exact wpAny_bind (wpAny_bind (m := Builtin.Tuple.tupleExact _) (wpAny_newObj_type (wpAny_pure (wpAny_pure ⟨_, rfl, wpAny_pure h⟩)) htake))
end
/-- what v[::-1] is -/
def RvR (X : Cx) (r : V → Hp → VK → Prop) : Prop :=
  ∀ (pins : List (Addr × Obj)) (s : Shared) (σ : L2.St) (H : Hp) (x : V) (v vs : Value) (sl : Addr) (Q : VK), Inv X pins σ H s → RelV x v → s.heap.IsSliceOf sl .none .none vs → IsPart vs (some (-1)) → r x H Q →
    ∃ T id, typeLookup (.type T) "__getitem__" = pure (some (.builtin id)) ∧ s.TypeIs v T ∧ wpAny (model X.prog X.w) X.A (getItem v (.ref sl)) (EP X pins σ Q) X.xe s
section
variable {X : Cx}
def tRev (r : V → Hp → VK → Prop) (te ts : TE) : TE := fun σ H Q => te σ H fun x H1 => ts σ H1 fun y H2 => y = .int (-1) ∧ r x H2 Q
theorem pe_rev {r : V → Hp → VK → Prop} {e st : Expr} {te ts : TE} {pos p2 : Pos} (hr : RvR X r) (he : PE X e te) (hs : PE X st ts) : PE X (.Subscript e (.Slice none none (some st) p2) pos) (tRev r te ts) := by
  refine ⟨fun pins s σ H Q I h => ?_⟩
  refine Subscript_ (thn (he.run pins s σ H _ I h) fun v s1 ⟨x, H1, I1, r1, q1⟩ => ?_)
  refine wpAny_Slice ?_
  rw [evalPart_none, evalPart_some]
  refine wpAny_pure (wpAny_pure (thn (hs.run pins s1 σ H1 _ I1 q1) fun vs s3 ⟨y, H3, I3, ry, ey, q3⟩ => ?_))
  subst ey
  obtain ⟨t, rfl⟩ := ry
  have I4 : Inv X pins σ H3 { s3 with heap := s3.heap.push { cls := .type "slice", data := .fields #[.none, .none, .int (-1) t] } } := I3.kept (t' := s3.toks) fun b ob q => Heap.get?_push_of_some _ q
  obtain ⟨T, id, hT, ht, hg⟩ := hr pins { s3 with heap := s3.heap.push { cls := .type "slice", data := .fields #[.none, .none, .int (-1) t] } } σ H3 x v (.int (-1) t) s3.heap.objs.size Q I4 r1 (Heap.IsSliceOf.new ..) (.int (-1) t) q3
  show wpAny (model X.prog X.w) X.A (subscriptTail e (.Slice none none (some st) p2) v (.ref s3.heap.objs.size)) (EP X pins σ Q) X.xe { s3 with heap := s3.heap.push { cls := .type "slice", data := .fields #[.none, .none, .int (-1) t] } }
  exact tail_any (ops := [v, .ref s3.heap.objs.size]) ht hT hg (by with_unfolding_all rfl)
def rRvL (K : PySem.W.Frag) : V → Hp → VK → Prop := fun x H Q => ∃ a xs, x = .ref a ∧ SqL K H a xs ∧ ∀ p, H p = none → Q (.ref p) (upd H p (.lst xs.reverse))
def rRvT (K : PySem.W.Frag) : V → Hp → VK → Prop := fun x H Q => ∃ a xs, x = .ref a ∧ SqT K H a xs ∧ ∀ p, H p = none → Q (.ref p) (upd H p (.tup xs.reverse))
theorem vals_rev : ∀ {xs : List V} {us : List Value}, Vals xs us → Vals xs.reverse us.reverse
  | _, _, .nil => .nil
  | _, _, .cons h r => by
    rw [List.reverse_cons, List.reverse_cons]
    exact (vals_rev r).append (.cons h .nil)
theorem rv_list : RvR X (rRvL X.K) := by
  intro pins s σ H x v vs sl Q I rx hs ps h
  obtain ⟨a, xs, rfl, hx, q⟩ := h
  cases rx
  obtain ⟨its, r, ht, hz⟩ := I.list hx
  have hlen := r.length
  refine ⟨"list", _, slot_list_getitem.lookup, ht.isList.typeIs, ?_⟩
  refine wpAny_getItem_list_slice ht.isList hs .none .none ps (by decide) ?_ (by rw [List.size_toArray] <;> omega)
  rw [PySem.W.krv_pick]
  refine ⟨.ref s.heap.objs.size, _, I.laid (t' := s.toks) (o := .lst xs.reverse) (fun b ob q => Heap.get?_push_of_some _ q) (Nat.le_refl _) ?_, rfl, q _ (I.hok.fresh (Nat.le_refl _))⟩
  exact ⟨by rw [List.length_reverse]; exact hz, its.reverse, 0, vals_rev r, Heap.get?_push_size _ rfl⟩
theorem rv_tuple : RvR X (rRvT X.K) := by
  intro pins s σ H x v vs sl Q I rx hs ps h
  obtain ⟨a, xs, rfl, hx, q⟩ := h
  cases rx
  obtain ⟨its, r, ht, hz⟩ := I.tuple hx
  have hlen : its.toArray.size = xs.length := by rw [List.size_toArray]; exact r.length.symm
  refine ⟨"tuple", _, PyProof.Rows.slot_tuple_getitem.lookup, ht.typeIs, ?_⟩
  refine rv_tup ht hs ps ?_ (by rw [hlen]; exact hz)
  refine ⟨.ref s.heap.objs.size, _, I.laid (t' := s.toks) (o := .tup xs.reverse) (fun b ob q => Heap.get?_push_of_some _ q) (Nat.le_refl _) ?_, rfl, q _ (I.hok.fresh (Nat.le_refl _))⟩
  exact ⟨by rw [List.length_reverse]; exact hz, its.reverse, vals_rev r, IsTup.new _ _⟩
end
end Sd


/-! promises that lean on the cells of an outer frame, at any depth; lambdas with parameters -/
namespace Sd
open PySem PySem.Spec PyProof.Rows L2 LamX NdefX
/-- cells of an outer frame, as a callee finds them -/
structure CellsO (cl : List (Str × Addr)) (fr : List Str) (ws : List (Option V)) (outer : List Env) (h : Heap) (H : Hp) : Prop where
  at_ : CellsAt cl fr ws h H
  nf : ∀ y c, cl.lookup y = some c → c ∉ frs outer
section
variable {X : Cx} {cl : List (Str × Addr)} {fr : List Str} {ws : List (Option V)} {js : List Nat} {pins : List (Addr × Obj)} {σ : L2.St} {H : Hp} {s : Shared}
theorem CellsO.st (C : CellsO cl fr ws X.outer X.s_0.heap X.H_0) (hx : X.ex = []) (I : Inv X pins σ H s) : CellsO cl fr ws X.stack s.heap H := by
  refine ⟨C.at_.later C.nf (fun y c e z => by rw [hx] at z; cases z) I, fun y c e hb => ?_⟩
  rcases List.mem_cons.mp (I.stkSub c hb) with z | z
  · obtain ⟨_, v, o, ho, _⟩ := C.at_.all y c e
    exact absurd (z ▸ Heap.lt_size ho) (Nat.not_lt_of_ge I.ok.above)
  · exact C.nf y c e z
/-- from the frame that makes them -/
theorem CellsO.made (hfn : ∀ x, X.fn x = true) (I : Inv X pins σ H s) (c : Caps X cl fr js) : CellsO cl fr (js.map (slotAt σ)) X.stack s.heap H :=
  ⟨cells_of I c, fun y a e => cell_nofrs I hfn y a (c.sub y a e)⟩
/-- from a frame that hands them through -/
theorem CellsO.thru {fr0 : List Str} {ws0 : List (Option V)} (C : CellsO X.env.cells fr0 ws0 X.outer X.s_0.heap X.H_0) (hx : X.ex = []) (I : Inv X pins σ H s) (c : Caps X cl fr js) : CellsO cl fr (js.map (slotAt σ)) X.stack s.heap H :=
  ⟨cells_of I c, fun y a e => (C.st hx I).nf y a (c.sub y a e)⟩
end
/-- what a promise asks of the outer frames, beside the heap that is told -/
abbrev GT := List Env → Heap → Hp → Prop
structure FnOkS (P : Program) (w : World) (K : PySem.W.Frag) (mg : Str → Option Value) (base : Heap) (k : Nat) (f : Addr) (fd : FuncData) (ps : List Str) (G : GT) (sp : Sp) : Prop where
  len : ∀ vs H Q E, sp vs H Q E → vs.length = ps.length
  run : ∀ (A : Around) (outer : List Env) (s : Shared) (H : Hp) (args : Args) (us : List Value) (vs : List V) (Q : VK) (E : XK), Room k A → Env0 P w K mg base A outer s H → BindsTo s fd args (ps.zip us) → Vals vs us → G outer s.heap H → sp vs H Q E →
    codeAny (model P w) A (.call (.ref f) args) (CR (L2.CX P w) outer P w H s Q E) s
section
variable {P : Program} {w : World} {K : PySem.W.Frag} {mg : Str → Option Value} {base : Heap}
theorem fun_okS {x qual : Str} {st : Stmt} {f : Addr} {fd : FuncData} {N ps : List Str} {k : Nat} {G : GT} {sp : Sp} (F : Fun K x qual st f fd) (S : FnScope N ps (defScope st)) (len : ∀ vs H Q E, sp vs H Q E → vs.length = ps.length)
    (hbody : ∀ (cdv : Value) (A : Around) (outer : List Env) (s : Shared) (H : Hp) (vs : List V) (Q : VK) (E : XK), Room k (A.deeper (envOfC qual (defScope st) s.heap.objs.size f cdv)) → G outer s.heap H → sp vs H Q E →
      ∃ t, PSs (cxOf (L2.CX P w) P w K mg base N qual (defScope st) f cdv A outer s H E) (defBody st) t ∧ t { nx := fun _ H' => Q .non H', rt := Q } (L2.start N vs) H) : FnOkS P w K mg base (k + 1) f fd ps G sp := by
  obtain ⟨oc, od, kV, doc, pm, an, cdv, ct, osl, rfl, lk, hcd⟩ := F.ex
  exact ⟨len, fun A outer s H args us vs Q E hr e0 hb r g h => run_ofS lk hcd S hr e0 hb r (len _ _ _ _ h) fun hr' => hbody _ A outer s H vs Q E hr' g h⟩
structure MetS (P : Program) (w : World) (K : PySem.W.Frag) (mg : Str → Option Value) (base : Heap) (k : Nat) (C : Addr) (m : Str) (G : GT) (sp : Sp) : Prop where
  ex : ∃ (f : Addr) (fd : FuncData) (ps : List Str), Cls K C ∧ Meth K C m f ∧ FnOkS P w K mg base k f fd ps G sp ∧ Binds K fd ps []
structure CalS (P : Program) (w : World) (K : PySem.W.Frag) (mg : Str → Option Value) (base : Heap) (k : Nat) (x : Str) (G : GT) (sp : Sp) : Prop where
  ex : ∃ (f : Addr) (fd : FuncData) (ps : List Str), FnOkS P w K mg base k f fd ps G sp ∧ mg x = some (.ref f) ∧ PySem.W.keepIn K (.ref f) = true ∧ Binds K fd ps []
end
section
variable {X : Cx} {k j : Nat} {C f : Addr} {fd : FuncData} {ps : List Str} {E : XK} {x m : Str} {p pos apos : Pos} {e o : Expr} {es : List Expr} {ta : TE} {t : TA} {ι : Type} {G : ι → GT} {sp : ι → Sp} {R : ι → L2.St → Prop}
theorem run_fnS {pins : List (Addr × Obj)} {σ : L2.St} {H : Hp} {s : Shared} {Q : VK} {us : List Value} {vs : List V} {g : GT} {sp : Sp} (F : FnOkS X.prog X.w X.K X.mg X.base k f fd ps g sp) (hr : Room k X.A) (hb : Binds X.K fd ps []) (tk : Takes X (fun cls d _ H => E cls d H))
    (I : Inv X pins σ H s) (hg : g X.stack s.heap H) (r : Vals vs us) (h : sp vs H Q E) : wpAny (model X.prog X.w) X.A (call (.ref f) us) (EP X pins σ Q) X.xe s := by
  have hl : (us ++ []).length = ps.length := by rw [List.append_nil, ← r.length]; exact F.len _ _ _ _ h
  have hb2 := hb s us I.kIn hl
  rw [List.append_nil] at hb2
  refine wpAny_call (codeAny_mono (F.run X.A X.stack s H ⟨us, []⟩ us vs Q E hr I.env0 hb2 r hg h) fun r s' hq => ?_)
  cases r with
  | error e => exact passes_call tk (fun _ _ _ _ h => h) pins σ H s e s' I hq
  | ok fl =>
    cases fl with
    | ret u => exact I.after hq
    | next => exact False.elim hq
    | brk => exact False.elim hq
    | cont => exact False.elim hq
/-- o.m(e, ..), the promise told by i -/
def tMethS (C : Addr) (m : Str) (sp : ι → Sp) (R : ι → L2.St → Prop) (E : XK) (ta : TE) (t : TA) : TE := fun σ H Q => ta σ H fun x H1 => ∃ a dx fs, x = .ref a ∧ H1 a = some (.ins C dx fs) ∧ fs.lookup m = none ∧
  t σ H1 fun vs H2 => ∃ i, R i σ ∧ sp i (x :: vs) H2 Q E
theorem pe_mtS {pl : Sem Bool} (c : ∀ i, MetS X.prog X.w X.K X.mg X.base k C m (G i) (sp i)) (hr : Room j X.A) (hk : k ≤ j) (hG : ∀ i pins σ H s, Inv X pins σ H s → R i σ → G i X.stack s.heap H) (tk : Takes X (fun cls d _ H => E cls d H)) (hc : Cls X.K C) {f : Addr} (hm : Meth X.K C m f) (he : PE X o ta) (ha : PA X (e :: es) t)
    (huq : ∀ g, Meth X.K C m g → g = f)
    (hst : starEach (e :: es) X.env = (false, eval e X.env) :: starEach es X.env := by rfl) (hpl : (backTo pos (starEach es X.env)).any (·.1) = false := by rfl)
    (ht : eval (.Call (.Attribute o m apos) (e :: es) [] pos) X.env = (do
      let ov ← eval o X.env
      standAt apos.atName
      let (f, first) ← holding [ov] (getMethod ov m pl)
      callWith pos f first (backTo pos (starEach (e :: es) X.env)) (backToKw pos (keywordEach [] X.env))) := by rfl) :
    PE X (.Call (.Attribute o m apos) (e :: es) [] pos) (tMethS C m sp R E ta t) := by
  refine ⟨fun pins s σ H Q I h => ?_⟩
  refine PySem.W.methodCall_KW (pl := pl) (thn (he.run pins s σ H _ I h) fun u s1 ⟨x, H1, I1, rx, a, dx, fs, ex, ea, l, q⟩ => ?_) ht
  subst ex
  obtain rfl : u = Value.ref a := rx
  refine getmeth_ok I1 ea hc hm l ?_
  refine PySem.W.callWith_K (first := [.ref a]) (h₀ := X.base) I.ok.mod.kin hm.kp (thn (ha.run pos pins s1 σ H1 _ I1 q) fun us s2 ⟨vs, H2, I2, r, i, hR, q2⟩ => ⟨I2.kIn, ?_⟩) hst hpl
  obtain ⟨g, fd, ps, _, hm2, F, b⟩ := (c i).ex
  obtain rfl := huq g hm2
  exact run_fnS (us := .ref a :: us) (vs := .ref a :: vs) F (hr.mono hk) b tk I2 (hG i _ _ _ _ I2 hR) (.cons rfl r) q2
/-- f(e, ..), the promise told by i -/
def tCallS (sp : ι → Sp) (R : ι → L2.St → Prop) (E : XK) (t : TA) : TE := fun σ H Q => t σ H fun vs H2 => ∃ i, R i σ ∧ sp i vs H2 Q E
theorem pe_cS (c : ∀ i, CalS X.prog X.w X.K X.mg X.base k x (G i) (sp i)) (hr : Room j X.A) (hk : k ≤ j) (hG : ∀ i pins σ H s, Inv X pins σ H s → R i σ → G i X.stack s.heap H) (hg : Gl X x) {f : Addr} (hm : X.mg x = some (.ref f)) (kp : PySem.W.keepIn X.K (.ref f) = true) (tk : Takes X (fun cls d _ H => E cls d H)) (ha : PA X (e :: es) t)
    (hdb : (x == ("__debug__" : Str)) = false := by decide) (he : starEach (e :: es) X.env = (false, eval e X.env) :: starEach es X.env := by rfl) (hpl : (backTo pos (starEach es X.env)).any (·.1) = false := by rfl) :
    PE X (.Call (.Name x p) (e :: es) [] pos) (tCallS sp R E t) := by
  refine ⟨fun pins s σ H Q I h => ?_⟩
  refine wpAny_Call_Name_kw (ld_glob I hg hm ?_ hdb)
  refine PySem.W.callWith_K (h₀ := X.base) I.ok.mod.kin kp (thn (ha.run pos pins s σ H _ I h) fun us s1 ⟨vs, H1, I1, r, i, hR, q⟩ => ⟨I1.kIn, ?_⟩) he hpl
  obtain ⟨g, fd, ps, F, hm2, _, b⟩ := (c i).ex
  obtain rfl : g = f := by rw [hm] at hm2; cases hm2; rfl
  exact run_fnS F (hr.mono hk) b tk I1 (hG i _ _ _ _ I1 hR) r q
end
/-- the code object's record at c bears the name q -/
def CdAt (P : Program) (w : World) (H : Hp) (c : Addr) (q : Str) : Prop := ∀ h, HOk P w H h → h.CodeRec (.ref c) q
theorem CdAt.of {P : Program} {w : World} {H : Hp} {c : Addr} {q : Str} (h : H c = some (CodeO c q)) : CdAt P w H c q := fun _ ok => codeO_at ok h
/-- a lambda with parameters, what it promises upon its cells -/
structure LOkS (P : Program) (w : World) (K : PySem.W.Frag) (mg : Str → Option Value) (base : Heap) (k : Nat) (f : Addr) (F : NF) (b : Expr) (fr : List Str) (tl : List V → List (Option V) → Hp → VK → XK → Prop) : Prop where
  run : ∀ (A : Around) (outer : List Env) (s : Shared) (H : Hp) (us : List Value) (vs : List V) (ws : List (Option V)) (Q : VK) (E : XK), Room k A → Env0 P w K mg base A outer s H → H f = some (LamO f F b) → CdAt P w H F.c F.qual → CellsO F.cl fr ws outer s.heap H → Vals vs us → tl vs ws H Q E →
    codeAny (model P w) A (.call (.ref f) ⟨us, []⟩) (CR (L2.CX P w) outer P w H s Q E) s
section
variable {P : Program} {w : World} {K : PySem.W.Frag} {mg : Str → Option Value} {base : Heap} {F : NF} {f : Addr} {b : Expr} {k : Nat} {N ps fr : List Str} {tl : List V → List (Option V) → Hp → VK → XK → Prop}
theorem lokS_of (S : NScope N ps fr F.scope) (hl : ∀ vs ws H Q E, tl vs ws H Q E → vs.length = ps.length) (hb : ∀ (pm cv ctv : Value) (us : List Value), us.length = ps.length → bindArgs (PySem.W.kla_fn F.name F.qual F.params b F.scope F.cl pm cv ctv) ⟨us, []⟩ = pure (ps.zip us))
    (hbody : ∀ (A : Around) (outer : List Env) (s : Shared) (H : Hp) (vs : List V) (ws : List (Option V)) (Q : VK) (E : XK), Room k (A.deeper (envF F f s.heap.objs.size)) → CellsO F.cl fr ws outer s.heap H → tl vs ws H Q E → ∃ t : TE, PE (ncx (L2.CX P w) P w K mg base N F f A outer s H E) b t ∧ t (startF N vs ws) H Q) :
    LOkS P w K mg base (k + 1) f F b fr tl := by
  refine ⟨fun A outer s H us vs ws Q E hr e0 hf hc C r h => ?_⟩
  have lim : s.heap.NoLimit := e0.mod.nolimit.keeps fun b o e => (e0.bs b o e).1
  obtain ⟨pm, ctv, ho⟩ := lamO_at e0.hok hf
  have hle := hl _ _ _ _ _ h
  refine PySem.W.kla_callFunE hr.depth ho rfl S.co S.gen rfl (hc _ e0.hok) ?_
  rw [hb _ _ _ us (by rw [← r.length]; exact hle)]
  refine wpAny_pure (wpAny_newFunctionEnv S.nocell (fun ⟨n, _⟩ hy => S.par n (List.of_mem_zip hy).1) (fun h₁ hns hsb => ⟨lim.fresh _ hsb, ?_⟩) S.kind)
  show codeAny _ _ (.expr b (envF F f s.heap.objs.size)) _ _
  have kp : ∀ b o, s.heap.get? b = some o → h₁.get? b = some o := fun b o e => hsb.extBut b o (Nat.ne_of_lt (Heap.lt_size e)) (Heap.get?_push_of_some _ e)
  obtain ⟨t, ht, hq⟩ := hbody A outer s H vs ws Q E (hr.deeper _) C h
  have I : Inv (ncx (L2.CX P w) P w K mg base N F f A outer s H E) [] (startF N vs ws) H { s with heap := h₁, toks := s.toks + (ps.zip us).length } :=
    inv_startN (N := N) (ps := ps) (fr := fr) (vs := vs) (us := us) (ws := ws) S hr.hd e0 hle r C.at_ hns kp
  refine PySem.W.kla_codeExpr (wpAny_mono (ht.run [] _ _ H Q I hq) (fun v s' hq => ?_) fun e s' hq => hq)
  obtain ⟨w', H', J', rv, q⟩ := hq
  exact ⟨w', H', J'.os, J'.bare, J'.base, J'.hok, rv, q⟩
end
/-- x(e, ..), x a name that holds a lambda; the cells stand in outer frames -/
def tLamS (i : Nat) (f : Addr) (F : NF) (b : Expr) (P : Program) (w : World) (ws : List (Option V)) (tl : List V → List (Option V) → Hp → VK → XK → Prop) (E : XK) (t : TA) : TE := fun σ H Q => σ[i]? = some (some (.ref f)) ∧ H f = some (LamO f F b) ∧ t σ H fun vs H1 => H1 f = some (LamO f F b) ∧ CdAt P w H1 F.c F.qual ∧ tl vs ws H1 Q E
theorem pe_lamS {X : Cx} {i k : Nat} {x : Str} {p pos : Pos} {f : Addr} {F : NF} {b : Expr} {fr : List Str} {ws : List (Option V)} {tl : List V → List (Option V) → Hp → VK → XK → Prop} {e : Expr} {es : List Expr} {t : TA} {E : XK} (tk : Takes X (fun cls d _ H => E cls d H)) (hr : Room k X.A) (hN : X.N[i]? = some x) (hv : Vis X.env.scope x)
    (C : CellsO F.cl fr ws X.outer X.s_0.heap X.H_0) (hx : X.ex = []) (L : LOkS X.prog X.w X.K X.mg X.base k f F b fr tl) (ha : PA X (e :: es) t)
    (hst : starEach (e :: es) X.env = (false, eval e X.env) :: starEach es X.env := by rfl) (hpl : (backTo pos (starEach es X.env)).any (·.1) = false := by rfl)
    (hd : (x == ("__debug__" : Str)) = false := by decide) (hcd : (x == ("__classdict__" : Str)) = false := by decide) :
    PE X (.Call (.Name x p) (e :: es) [] pos) (tLamS i f F b X.prog X.w ws tl E t) := by
  refine ⟨fun pins s σ H Q I h => ?_⟩
  obtain ⟨hs, hf0, h⟩ := h
  refine wpAny_Call_Name_kw (thn ((pe_var (pos := p) hN hv hd hcd).run pins s σ H (fun v H1 => v = .ref f ∧ H1 = H) I ⟨.ref f, hs, rfl, rfl⟩) fun u s1 ⟨v, H1, I1, r1, q1⟩ => ?_)
  obtain ⟨ev, eH⟩ := q1
  subst ev
  rw [eH] at I1
  obtain rfl : u = Value.ref f := r1
  obtain ⟨pm0, ctv0, ho0⟩ := lamO_at I1.hok hf0
  refine PySem.W.callWith_F (first := []) ⟨_, _, _, _, ho0⟩ (thn (ha.run pos pins s1 σ H _ I1 h) fun us s2 ⟨vs, H2, I2, r, hf, hc, ht⟩ => ?_) hst hpl
  obtain ⟨pm, ctv, ho⟩ := lamO_at I2.hok hf
  refine ⟨⟨_, _, _, _, ho⟩, ?_⟩
  refine wpAny_call (codeAny_mono (L.run X.A X.stack s2 H2 us vs ws Q E hr I2.env0 hf hc (C.st hx I2) r ht) fun r s' hq => ?_)
  cases r with
  | error e => exact passes_call tk (fun _ _ _ _ h => h) pins σ H2 s2 e s' I2 hq
  | ok fl =>
    cases fl with
    | ret u => exact I2.after hq
    | next => exact False.elim hq
    | brk => exact False.elim hq
    | cont => exact False.elim hq
/-- x(), the same -/
theorem pe_lamS0 {X : Cx} {W : WX} {i k : Nat} {x : Str} {p pos : Pos} {f : Addr} {F : NF} {b : Expr} {fr : List Str} {ws : List (Option V)} {tl : List V → List (Option V) → Hp → VK → XK → Prop} (tk : Takes X W) (hr : Room k X.A) (hN : X.N[i]? = some x) (hv : Vis X.env.scope x)
    (C : CellsO F.cl fr ws X.outer X.s_0.heap X.H_0) (hx : X.ex = []) (L : LOkS X.prog X.w X.K X.mg X.base k f F b fr tl)
    (hd : (x == ("__debug__" : Str)) = false := by decide) (hcd : (x == ("__classdict__" : Str)) = false := by decide) :
    PE X (.Call (.Name x p) [] [] pos) (fun σ H Q => σ[i]? = some (some (.ref f)) ∧ H f = some (LamO f F b) ∧ CdAt X.prog X.w H F.c F.qual ∧ ∃ E : XK, (∀ cls d σ' H', E cls d H' → W cls d σ' H') ∧ tl [] ws H Q E) := by
  refine ⟨fun pins s σ H Q I h => ?_⟩
  obtain ⟨hs, hf, hc, E, hW, ht⟩ := h
  refine wpAny_Call_Name_kw (thn ((pe_var (pos := p) hN hv hd hcd).run pins s σ H (fun v H1 => v = .ref f ∧ H1 = H) I ⟨.ref f, hs, rfl, rfl⟩) fun u s1 ⟨v, H1, I1, r1, q1⟩ => ?_)
  obtain ⟨ev, eH⟩ := q1
  subst ev
  rw [eH] at I1
  obtain rfl : u = Value.ref f := r1
  obtain ⟨pm, ctv, ho⟩ := lamO_at I1.hok hf
  refine PySem.W.callWith_F0 (first := []) ⟨_, _, _, _, ho⟩ ?_
  show wpAny _ _ (call (.ref f) []) _ _ _
  refine wpAny_call (codeAny_mono (L.run X.A X.stack s1 H [] [] ws Q E hr I1.env0 hf hc (C.st hx I1) .nil ht) fun r s' hq => ?_)
  cases r with
  | error e => exact passes_call tk hW pins σ H s1 e s' I1 hq
  | ok fl =>
    cases fl with
    | ret u => exact I1.after hq
    | next => exact False.elim hq
    | brk => exact False.elim hq
    | cont => exact False.elim hq
/-! ### told(what): return what(), and words for classes of exceptions -/
/-- what an exception of a lambda becomes: the words of the classes, in order -/
def wTold (K : PySem.W.Frag) (Q : VK) : List (Addr × Str) → Value → Hp → Prop
  | [], _, _ => False
  | (C, ret) :: r, cls, H => ∃ b, PySem.W.exmOne K cls (.ref C) = some b ∧ (b = true → Q (.str ret) H) ∧ (b = false → wTold K Q r cls H)
def spToldS (P : Program) (w : World) (K : PySem.W.Frag) (mg : Str → Option Value) (base : Heap) (k : Nat) (l : List (Addr × Str)) (F : NF) (fr : List Str) (ws : List (Option V)) : Sp := fun vs H Q _ => ∃ (f : Addr) (b : Expr) (tl : List V → List (Option V) → Hp → VK → XK → Prop),
  vs = [.ref f] ∧ H f = some (LamO f F b) ∧ CdAt P w H F.c F.qual ∧ LOkS P w K mg base k f F b fr tl ∧ tl [] ws H Q fun cls _ H' => wTold K Q l cls H'
def gTold (F : NF) (fr : List Str) (ws : List (Option V)) : GT := fun o h H => CellsO F.cl fr ws o h H
section
variable {P : Program} {w : World} {K : PySem.W.Frag} {mg : Str → Option Value} {base : Heap}
theorem ok_told2 {x a e1 e2 r1 r2 : Str} {st : Stmt} {f : Addr} {fd : FuncData} {N : List Str} {C1 C2 : Addr} {k : Nat} {p1 p2 p3 p4 p5 p6 p7 p8 p9 p10 p11 p12 : Pos} {j1 j2 : Nat} {F : NF} {fr : List Str} {ws : List (Option V)} (Fn : Fun K x x st f fd) (S : FnScope N [a] (defScope st))
    (hbd : defBody st = [.Try [.Return (some (.Call (.Name a p1) [] [] p2)) p3] [.ExceptHandler (some (.Name e1 p4)) none [.Return (some (.Constant (.str r1) j1 p5)) p6] p7, .ExceptHandler (some (.Name e2 p8)) none [.Return (some (.Constant (.str r2) j2 p9)) p10] p11] [] [] p12])
    (hg1 : (defScope st).names.lookup e1 = some .globalImplicit) (hm1 : mg e1 = some (.ref C1)) (hg2 : (defScope st).names.lookup e2 = some .globalImplicit) (hm2 : mg e2 = some (.ref C2)) (hN : N[0]? = some a) (hv : Vis (defScope st) a) (h0 : ∀ f : Addr, (L2.start N [V.ref f])[0]? = some (some (V.ref f)))
    (hd1 : (e1 == ("__debug__" : Str)) = false := by decide) (hd2 : (e2 == ("__debug__" : Str)) = false := by decide) (hd : (a == ("__debug__" : Str)) = false := by decide) (hcd : (a == ("__classdict__" : Str)) = false := by decide) :
    FnOkS P w K mg base (k + 1) f fd [a] (gTold F fr ws) (spToldS P w K mg base k [(C1, r1), (C2, r2)] F fr ws) := by
  refine fun_okS Fn S (fun vs H Q E h => ?_) fun cdv A outer s H vs Q E hr g h => ?_
  · obtain ⟨f, b, tl, rfl, _⟩ := h
    rfl
  · obtain ⟨f, b, tl, rfl, hf, hc, L, ht⟩ := h
    have g : CellsO F.cl fr ws outer s.heap H := g
    rw [hbd]
    have hgl1 : Gl (cxOf (L2.CX P w) P w K mg base N x (defScope st) (by assumption) cdv A outer s H E) e1 := hg1
    have hgl2 : Gl (cxOf (L2.CX P w) P w K mg base N x (defScope st) (by assumption) cdv A outer s H E) e2 := hg2
    refine ⟨_, pss_one (ps_try_many (l := [(.ref C1, _), (.ref C2, _)]) (tb := fun W D σ H => σ[0]? = some (some (.ref f)) ∧ H f = some (LamO f F b) ∧ CdAt P w H F.c F.qual ∧ ∃ E : XK, (∀ cls d σ' H', E cls d H' → W cls d σ' H') ∧ tl [] ws H D.rt E) rfl rfl L2.takes0
      (fun W pn xe tk _ => pss_one (ps_ret (pe_lamS0 tk hr hN hv g rfl L hd hcd))) (.cons ⟨hgl1, hd1, .inl hm1⟩ (fun a oe cls d pn _ _ => pss_one (ps_ret pe_str)) (.cons ⟨hgl2, hd2, .inl hm2⟩ (fun a oe cls d pn _ _ => pss_one (ps_ret pe_str)) .nil))), ?_⟩
    refine ⟨h0 f, hf, hc, _, fun cls d σ' H' q => ?_, ht⟩
    obtain ⟨b, q1, q2, q3⟩ := q
    refine ⟨b, q1, fun hb a _ => q2 hb, fun hb => ?_⟩
    obtain ⟨b, q1, q2, q3⟩ := q3 hb
    exact ⟨b, q1, fun hb a _ => q2 hb, fun hb => q3 hb⟩
end
end Sd


/-! a lambda made within a lambda's frame: code objects with tables of their own -/
namespace Sd
open PySem PySem.Spec PyProof.Rows L2 LamX NdefX
/-- a code object, its name, its table's place -/
def CodeT (c : Addr) (q : Str) (P : Addr) : HO := .ext fun h => PySem.W.CodeHd h c P ∧ ∃ (oc : Obj) (vs : Array Value) (t : Tok), h.get? c = some oc ∧ oc.data = .fields vs ∧ vs[1]? = some (.str q t)
theorem codeT_hd {P : Program} {w : World} {H : Hp} {h : Heap} {c Pc : Addr} {q : Str} (ok : HOk P w H h) (e : H c = some (CodeT c q Pc)) : PySem.W.CodeHd h c Pc := (ok c _ e).1.1
theorem CdAt.ofT {P : Program} {w : World} {H : Hp} {c Pc : Addr} {q : Str} (e : H c = some (CodeT c q Pc)) : CdAt P w H c q := fun _ ok => by
  obtain ⟨oc, vs, t, h1, h2, h3⟩ := (ok c _ e).1.2
  exact ⟨c, oc, vs, t, rfl, h1, h2, h3⟩
/-- the law's own table: each code with its own table, whose codes bear the name q2 -/
def TabT (q q2 : Str) (ps : Array Value) (L : Lg) : Prop := TriplesOk ps.toList ∧ ∀ (pos : Pos) (cv : Value), codeAmong pos ps.toList = some cv → ∃ (c P1 : Addr) (ps1 : Array Value), cv = .ref c ∧ (c, CodeT c q P1) ∈ L ∧ (P1, .tbl ps1) ∈ L ∧ TabL q2 ps1 L
theorem TabT.nil {q q2 : Str} {L : Lg} : TabT q q2 #[] L := ⟨by simp [TriplesOk], fun pos cv h => by simp [codeAmong] at h⟩
theorem TabT.mono {q q2 : Str} {ps : Array Value} {L L' : Lg} (h : TabT q q2 ps L) (s : ∀ x ∈ L, x ∈ L') : TabT q q2 ps L' :=
  ⟨h.1, fun pos cv e => let ⟨c, P1, ps1, e1, e2, e3, e4⟩ := h.2 pos cv e; ⟨c, P1, ps1, e1, s _ e2, s _ e3, e4.mono s⟩⟩
section
variable {M : Model} {A : Around} {E : Value → Shared → Prop} {s : Shared} {name qual : Str} {params : Arguments} {body : Expr} {scope : Scope} {env : Env} {c P : Addr} {ps : Array Value} {pos : Pos} {firstLine : Nat} {mg : Str → Option Value}
  {clos : List (Str × Addr)} {Q : Value → Shared → Prop}
/-- a new lambda whose code is new: the code's own header and table are told, too -/
theorem ln_make (hcl : closureFor scope env = pure clos) (hge0 : env.globals = mainGlobals) (hg : s.heap.Ns mainGlobals mg) (hcode : env.code = .ref c) (C : PySem.W.CodeHd s.heap c P) (hP : s.heap.get? P = some (PySem.W.tabObj ps)) (ht : TriplesOk ps.toList)
    (hnf : codeAmong pos ps.toList = none) (hgP : mainGlobals ≠ P) (hb : s.heap.BuiltinsAt mg P)
    (h : ∀ c' P' ctv h' tk, Heap.ExtBut P s.heap h' → s.heap.objs.size ≤ c' → c' < h'.objs.size → s.heap.objs.size ≤ P' → h'.CodeRec (.ref c') qual → h'.get? P = some (PySem.W.tabObj (ps ++ #[rawInt pos.line, rawInt pos.col, .ref c'])) → PySem.W.CodeHd h' c' P' → h'.get? P' = some (PySem.W.tabObj #[]) →
      Q (.ref h'.objs.size) { s with heap := h'.push (PySem.W.kla_obj name qual params body scope clos ((mg "__name__").getD .none) c' ctv), toks := tk }) :
    wpAny M A (makeFunction name qual params (.expr body) scope env [] [] [] pos firstLine) Q E s := by
  rw [makeFunction_eq]
  simp only [List.zip_nil_right, List.filterMap_nil, List.isEmpty_nil, if_true, pure_bind]
  show wpAny M A (makeTail name qual params (.expr body) scope env .none .none none pos firstLine) Q E s
  obtain ⟨bm, ob, hbm, hne0, _, hneP, hbo, hcls, hdict, hdata⟩ := hb
  have key : ∀ (hT : Heap) (ctv : Value), (∀ b o, s.heap.get? b = some o → hT.get? b = some o) → s.heap.objs.size ≤ hT.objs.size →
      wpAny M A (functionCode env pos firstLine name qual params scope (.expr body)) (fun cd s1 => wpAny M A (builtinsFor mainGlobals env.builtins) (fun bi s2 => wpAny M A (nsGet mainGlobals "__name__") (fun o s3 => bi = builtinsNs ∧
        ∃ c' h' tk, cd = .ref c' ∧ o = mg "__name__" ∧ s3 = { s with heap := h', toks := tk } ∧ Q (.ref h'.objs.size) { s with heap := h'.push (PySem.W.kla_obj name qual params body scope clos ((mg "__name__").getD .none) c' ctv), toks := tk }) E s2) E s1) E { s with heap := hT } := by
    intro hT ctv k1 k2
    refine wpAny_functionCodeX hcode ((C.keeps k1).code (k1 _ _ hP) ht) ((C.keeps k1).tab (k1 _ _ hP)) hnf fun c' h' tk hx hge hlt _ hrec htb ⟨P', hP', hic, hta⟩ => ?_
    have hx' : Heap.ExtBut P s.heap h' := fun b o hb' e => hx b o hb' (k1 b o e)
    have hg' := hg.extBut hx' hgP
    refine wpAny_builtinsFor hg' hbm hne0 (hx' _ _ hneP hbo) hcls hdict hdata (wpAny_nsGet hg' ⟨rfl, c', h', tk, rfl, rfl, rfl, ?_⟩)
    exact h c' P' ctv h' tk hx' (Nat.le_trans k2 hge) hlt (Nat.le_trans k2 hP') hrec htb.2 (PySem.W.CodeHd.of hic hta) hta.2
  unfold makeTail
  rw [hcl, hge0]
  refine wpAny_bind (wpAny_pure ?_)
  cases clos with
  | nil =>
    simp only [List.isEmpty_nil, if_true]
    refine wpAny_bind (wpAny_pure ?_)
    refine wpAny_bind (wpAny_mono (key s.heap .none (fun _ _ e => e) (Nat.le_refl _)) (fun cd s1 h1 => ?_) fun _ _ e => e)
    refine wpAny_bind (wpAny_mono h1 (fun bi s2 h2 => ?_) fun _ _ e => e)
    refine wpAny_bind (wpAny_mono h2 (fun o s3 h3 => ?_) fun _ _ e => e)
    obtain ⟨rfl, c', h', tk, rfl, rfl, rfl, hq⟩ := h3
    exact wpAny_bind (wpAny_pure (wpAny_newObj_type hq (by size_fits)))
  | cons q r =>
    simp only [List.isEmpty_cons, Bool.false_eq_true, if_false]
    refine wpAny_bind (wpAny_newTextTuple ?_)
    refine wpAny_bind (wpAny_mono (key _ (.ref s.heap.objs.size) (fun b o e => Heap.get?_push_of_some _ e) (by rw [Heap.size_push]; omega)) (fun cd s1 h1 => ?_) fun _ _ e => e)
    refine wpAny_bind (wpAny_mono h1 (fun bi s2 h2 => ?_) fun _ _ e => e)
    refine wpAny_bind (wpAny_mono h2 (fun o s3 h3 => ?_) fun _ _ e => e)
    obtain ⟨rfl, c', h', tk, rfl, rfl, rfl, hq⟩ := h3
    exact wpAny_bind (wpAny_pure (wpAny_newObj_type hq (by size_fits)))
end
section
variable {X : Cx} {pins : List (Addr × Obj)} {σ : L2.St} {H : Hp} {s : Shared}
/-- the table grows; the new code and its table are told -/
theorem inv_codeT {P c P' : Addr} {q : Str} {ps more : Array Value} {h' : Heap} {t' : Nat} (I : Inv X pins σ H s) (hP : H P = some (.tbl ps)) (k : ∀ b o, b ≠ P → s.heap.get? b = some o → h'.get? b = some o)
    (hm : h'.get? P = some { cls := .none, data := .fields (ps ++ more) }) (hc : s.heap.objs.size ≤ c) (hp : s.heap.objs.size ≤ P') (hne : c ≠ P') (hd : PySem.W.CodeHd h' c P') (hr : h'.CodeRec (.ref c) q) (ht : h'.get? P' = some (PySem.W.tabObj #[])) :
    Inv X pins σ (upd (upd (upd H P (.tbl (ps ++ more))) c (CodeT c q P')) P' (.tbl #[])) { s with heap := h', toks := t' } := by
  have I1 : Inv X pins σ (upd H P (.tbl (ps ++ more))) { s with heap := h', gens := s.gens, drawn := s.drawn, toks := t' } := GxR.inv_tab I hP k hm I.bare
  have nC : H c = none := I.hok.fresh hc
  have nP' : H P' = none := I.hok.fresh hp
  have nPc : c ≠ P := (ne_of_none hP nC).symm
  have nPP : P' ≠ P := (ne_of_none hP nP').symm
  have I2 := I1.take (h' := h') (t' := t') (it := c) (o := CodeT c q P') (fun b ob _ e => e) (I.fpOk hc (by rw [upd_ne nPc]; exact nC)) (by
    obtain ⟨c₂, oc, vs, t, e, h1, h2, h3⟩ := hr
    cases e
    refine ⟨⟨hd, oc, vs, t, h1, h2, h3⟩, ⟨oc, h1⟩, fun h1 h2 ⟨z1, oc, vs, t, a, b, d⟩ st => ⟨?_, oc, vs, t, st _ a, b, d⟩⟩
    obtain ⟨o, vs, file, tf, flags, tg, inF, text, tt, e, r⟩ := z1
    exact ⟨o, vs, file, tf, flags, tg, inF, text, tt, st _ e, r⟩)
  exact I2.take (h' := h') (t' := t') (it := P') (o := .tbl #[]) (fun b ob _ e => e) (I.fpOk hp (by rw [upd_ne hne.symm, upd_ne nPP]; exact nP')) ht
theorem codeHd_ne {h : Heap} {c P : Addr} (x : PySem.W.CodeHd h c P) : c ≠ P := let ⟨_, _, _, _, _, _, _, _, _, _, _, _, _, _, _, _, _, _, e⟩ := x; e
theorem lam_valueT {q q2 : Str} {c P : Addr} {params : Arguments} {body : Expr} {scope : Scope} {pos : Pos} {E : Value → Shared → Prop} {Q : Value → Shared → Prop} {ps : Array Value} {L R : Lg} (I : Inv X pins σ H s) (TB : TabB X.base X.mg c P) (hcode : X.env.code = .ref c) (hq : X.env.qual ++ "<lambda>" = q)
    (hL : Led H ((P, .tbl ps) :: (L ++ R))) (hT : TabT q q2 ps L) (hdef : defaultsOf params X.env = ([], [])) (hfree : ∀ y ∈ scope.names, y.2 = .free → ∃ c, X.env.cells.lookup y.1 = some c)
    (h : ∀ (f c' P1 : Addr) (ps1 ps' : Array Value) (Z : Lg) (H1 : Hp) (s' : Shared), Inv X pins σ H1 s' → Led H1 ((f, LamO f ⟨"<lambda>", q, params, [], scope, cloFrom X.env.cells scope.names [], c'⟩ body) :: (P, .tbl ps') :: (Z ++ (L ++ R))) → TabT q q2 ps' (Z ++ L) → (c', CodeT c' q P1) ∈ Z ++ L → (P1, .tbl ps1) ∈ Z ++ L → TabL q2 ps1 (Z ++ L) → Q (.ref f) s') :
    wpAny (model X.prog X.w) X.A (eval (.Lambda params body scope pos) X.env) Q E s := by
  subst hq
  obtain ⟨ht, ha⟩ := hT
  have hP : H P = some (.tbl ps) := hL.at ⟨0, rfl⟩
  have bP : s.heap.BuiltinsAt X.mg P := TB.bm.keeps I.bk
  have hP' : s.heap.get? P = some { cls := .none, data := .fields ps } := I.hok P _ hP
  refine PySem.W.kla_eval hdef ?_
  rcases hc : codeAmong pos ps.toList with _ | cv
  · refine ln_make (mg := X.mg) (c := c) (P := P) (ps := ps) (closure_ok hfree) I.ok.glob (I.mod.glob.keeps I.bk) hcode (TB.code.keeps I.bk) hP' ht hc TB.gP bP fun c' P1 ctv h' tk hx hge hlt hge1 hrec htb hhd ht1 => ?_
    have I1 := inv_codeT (t' := tk) (more := #[rawInt pos.line, rawInt pos.col, .ref c']) (h' := h') I hP (fun b o hb e => hx b o hb e) htb hge hge1 (codeHd_ne hhd) hhd hrec ht1
    have nC : H c' = none := I.hok.fresh hge
    have nP1 : H P1 = none := I.hok.fresh hge1
    have L1 : Led (upd (upd (upd H P (.tbl (ps ++ #[rawInt pos.line, rawInt pos.col, .ref c']))) c' (CodeT c' (X.env.qual ++ "<lambda>") P1)) P1 (.tbl #[])) ((P1, .tbl #[]) :: (c', CodeT c' (X.env.qual ++ "<lambda>") P1) :: (P, .tbl (ps ++ #[rawInt pos.line, rawInt pos.col, .ref c'])) :: (L ++ R)) :=
      ((hL.head).new (by rw [upd_ne (ne_of_none hP nC).symm]; exact nC)).new (by rw [upd_ne (codeHd_ne hhd).symm, upd_ne (ne_of_none hP nP1).symm]; exact nP1)
    have nF := I1.hok.fresh (Nat.le_refl _)
    have I2 := inv_lam (F := ⟨"<lambda>", X.env.qual ++ "<lambda>", params, [], scope, cloFrom X.env.cells scope.names [], c'⟩) (b := body) (t' := tk) (pm := (X.mg "__name__").getD .none) (ctv := ctv) I1
    have eL : (ps ++ #[rawInt pos.line, rawInt pos.col, .ref c']).toList = ps.toList ++ [rawInt pos.line, rawInt pos.col, .ref c'] := by simp
    refine h h'.objs.size c' P1 #[] _ [(P1, .tbl #[]), (c', CodeT c' (X.env.qual ++ "<lambda>") P1)] _ _ I2 ((L1.new nF).perm (.cons _ ((List.Perm.cons _ (.swap _ _ _)).trans (.swap _ _ _)))) ⟨by rw [eL]; exact PySem.TriplesOk_snoc _ _ _ _ ht, fun p' cv hcv => ?_⟩ (.tail _ (.head _)) (.head _) .nil
    rw [eL] at hcv
    rcases among_app _ ht hcv with z | z
    · obtain ⟨c0, P0, ps0, e1, e2, e3, e4⟩ := ha p' cv z
      exact ⟨c0, P0, ps0, e1, .tail _ (.tail _ e2), .tail _ (.tail _ e3), e4.mono fun x hx => .tail _ (.tail _ hx)⟩
    · exact ⟨c', P1, #[], z, .tail _ (.head _), .head _, .nil⟩
  · obtain ⟨c', P1, ps1, e, hco, hp1, ht1⟩ := ha pos cv hc
    subst e
    refine PySem.W.kla_makeFunctionHit (mg := X.mg) (c := c) (P := P) (ps := ps) (closure_ok hfree) I.ok.glob (I.mod.glob.keeps I.bk) hcode (TB.code.keeps I.bk) hP' ht hc bP fun ctv h' tk hx hsz => ?_
    have I1 : Inv X pins σ H { s with heap := h', toks := tk } := I.kept hx
    have nF : H h'.objs.size = none := I1.hok.fresh (Nat.le_refl _)
    have I2 := inv_lam (F := ⟨"<lambda>", X.env.qual ++ "<lambda>", params, [], scope, cloFrom X.env.cells scope.names [], c'⟩) (b := body) (t' := tk) (pm := (X.mg "__name__").getD .none) (ctv := ctv) I1
    exact h h'.objs.size c' P1 ps1 ps [] _ _ I2 (hL.new nF) ⟨ht, ha⟩ hco hp1 ht1
end
/-- lambda: body, at the law's level -/
def tLamVT (P : Addr) (q q2 : Str) (params : Arguments) (body : Expr) (scope : Scope) (cl : List (Str × Addr)) : TE := fun _ H Q => ∃ (ps : Array Value) (L R : Lg), Led H ((P, .tbl ps) :: (L ++ R)) ∧ TabT q q2 ps L ∧
  ∀ (f c' P1 : Addr) (ps1 ps' : Array Value) (Z : Lg) (H1 : Hp), Led H1 ((f, LamO f ⟨"<lambda>", q, params, [], scope, cl, c'⟩ body) :: (P, .tbl ps') :: (Z ++ (L ++ R))) → TabT q q2 ps' (Z ++ L) → (c', CodeT c' q P1) ∈ Z ++ L → (P1, .tbl ps1) ∈ Z ++ L → TabL q2 ps1 (Z ++ L) → Q (.ref f) H1
theorem pe_lamvT {X : Cx} {q q2 : Str} {c P : Addr} {params : Arguments} {body : Expr} {scope : Scope} {pos : Pos} (TB : TabB X.base X.mg c P) (hcode : X.env.code = .ref c) (hq : X.env.qual ++ "<lambda>" = q) (hdef : defaultsOf params X.env = ([], []))
    (hfree : ∀ y ∈ scope.names, y.2 = .free → X.env.scope.names.lookup y.1 = some .cell) : PE X (.Lambda params body scope pos) (tLamVT P q q2 params body scope (cloFrom X.env.cells scope.names [])) := by
  refine ⟨fun pins s σ H Q I h => ?_⟩
  obtain ⟨ps, L, R, hL, hT, h⟩ := h
  refine lam_valueT I TB hcode hq hL hT hdef (fun y hy e => I.ok.has _ (.inl (hfree y hy e))) fun f c' P1 ps1 ps' Z H1 s' I1 h1 h2 h3 h4 h5 => ?_
  exact ⟨.ref f, H1, I1, rfl, h f c' P1 ps1 ps' Z H1 h1 h2 h3 h4 h5⟩
/-- lambda: body, within a lambda's frame whose code object is c -/
def tLamVI (c : Addr) (q2 : Str) (params : Arguments) (body : Expr) (scope : Scope) (cl : List (Str × Addr)) : TE := fun _ H Q => ∃ (q : Str) (P1 : Addr) (ps : Array Value) (L R : Lg), Led H ((P1, .tbl ps) :: (L ++ R)) ∧ H c = some (CodeT c q P1) ∧ TabL q2 ps L ∧
  ∀ (f c' : Addr) (ps' : Array Value) (Z : Lg) (H1 : Hp), Led H1 ((f, LamO f ⟨"<lambda>", q2, params, [], scope, cl, c'⟩ body) :: (P1, .tbl ps') :: (Z ++ (L ++ R))) → TabL q2 ps' (Z ++ L) → (c', CodeO c' q2) ∈ Z ++ L → Q (.ref f) H1
theorem pe_lamvI {X : Cx} {q2 : Str} {c c0 P0 : Addr} {params : Arguments} {body : Expr} {scope : Scope} {pos : Pos} (TB : TabB X.base X.mg c0 P0) (hcode : X.env.code = .ref c) (hq : X.env.qual ++ "<lambda>" = q2) (hdef : defaultsOf params X.env = ([], []))
    (hfree : ∀ y ∈ scope.names, y.2 = .free → X.env.scope.names.lookup y.1 = some .free) : PE X (.Lambda params body scope pos) (tLamVI c q2 params body scope (cloFrom X.env.cells scope.names [])) := by
  refine ⟨fun pins s σ H Q I h => ?_⟩
  subst hq
  obtain ⟨q, P, ps, L, R, hL, hcT, ⟨ht, ha⟩, h⟩ := h
  have hP : H P = some (.tbl ps) := hL.at ⟨0, rfl⟩
  have hfr : ∀ y ∈ scope.names, y.2 = .free → ∃ c, X.env.cells.lookup y.1 = some c := fun y hy e => I.ok.has _ (.inr (hfree y hy e))
  have bP : s.heap.BuiltinsAt X.mg P := by
    obtain ⟨bm, o, e1, e2, e3, e4, e5, e6⟩ := TB.bm
    exact ⟨bm, o, e1, e2, e3, (fun z => by rw [z] at e5; rw [(I.bs _ _ e5).2] at hP; cases hP), I.bk _ _ e5, e6⟩
  have gP : mainGlobals ≠ P := fun z => by
    obtain ⟨o, es, ep, ho, _⟩ := I.mod.glob
    rw [z] at ho
    rw [(I.bs _ _ ho).2] at hP; cases hP
  have hP' : s.heap.get? P = some { cls := .none, data := .fields ps } := I.hok P _ hP
  have hhd : PySem.W.CodeHd s.heap c P := codeT_hd I.hok hcT
  refine PySem.W.kla_eval hdef ?_
  rcases hc : codeAmong pos ps.toList with _ | cv
  · refine PySem.W.kla_makeFunction (mg := X.mg) (c := c) (P := P) (ps := ps) (closure_ok hfr) I.ok.glob (I.mod.glob.keeps I.bk) hcode hhd hP' ht hc gP bP fun c' ctv h' tk hx hge hlt hrec htb => ?_
    obtain ⟨_, oc, vs, t, e2, hoc, hd, hv⟩ := hrec
    cases e2
    have nC : H c' = none := I.hok.fresh hge
    have I1 := inv_table (t' := tk) (more := #[rawInt pos.line, rawInt pos.col, .ref c']) (h' := h') I hP (fun b o hb e => hx b o hb e) htb hge ⟨oc, vs, t, hoc, hd, hv⟩
    have L1 : Led (upd (upd H P (.tbl (ps ++ #[rawInt pos.line, rawInt pos.col, .ref c']))) c' (CodeO c' (X.env.qual ++ "<lambda>"))) ((c', CodeO c' (X.env.qual ++ "<lambda>")) :: (P, .tbl (ps ++ #[rawInt pos.line, rawInt pos.col, .ref c'])) :: (L ++ R)) :=
      (hL.head).new (by rw [upd_ne (ne_of_none hP nC).symm]; exact nC)
    have nF := I1.hok.fresh (Nat.le_refl _)
    have I2 := inv_lam (F := ⟨"<lambda>", X.env.qual ++ "<lambda>", params, [], scope, cloFrom X.env.cells scope.names [], c'⟩) (b := body) (t' := tk) (pm := (X.mg "__name__").getD .none) (ctv := ctv) I1
    have eL : (ps ++ #[rawInt pos.line, rawInt pos.col, .ref c']).toList = ps.toList ++ [rawInt pos.line, rawInt pos.col, .ref c'] := by simp
    refine ⟨.ref h'.objs.size, _, I2, rfl, h h'.objs.size c' _ [(c', CodeO c' (X.env.qual ++ "<lambda>"))] _ ((L1.new nF).perm (.cons _ (.swap _ _ _))) ⟨by rw [eL]; exact PySem.TriplesOk_snoc _ _ _ _ ht, fun p' cv hcv => ?_⟩ (.head _)⟩
    rw [eL] at hcv
    rcases among_app _ ht hcv with z | z
    · obtain ⟨c0, e1, e2⟩ := ha p' cv z
      exact ⟨c0, e1, .tail _ e2⟩
    · exact ⟨c', z, .head _⟩
  · obtain ⟨c', e, hco⟩ := ha pos cv hc
    subst e
    refine PySem.W.kla_makeFunctionHit (mg := X.mg) (c := c) (P := P) (ps := ps) (closure_ok hfr) I.ok.glob (I.mod.glob.keeps I.bk) hcode hhd hP' ht hc bP fun ctv h' tk hx hsz => ?_
    have I1 : Inv X pins σ H { s with heap := h', toks := tk } := I.kept hx
    have nF : H h'.objs.size = none := I1.hok.fresh (Nat.le_refl _)
    have I2 := inv_lam (F := ⟨"<lambda>", X.env.qual ++ "<lambda>", params, [], scope, cloFrom X.env.cells scope.names [], c'⟩) (b := body) (t' := tk) (pm := (X.mg "__name__").getD .none) (ctv := ctv) I1
    exact ⟨.ref h'.objs.size, _, I2, rfl, h h'.objs.size c' ps [] _ (hL.new nF) ⟨ht, ha⟩ hco⟩
end Sd


/-! x in [texts], x an instance without an __eq__ of its own -/
namespace Sd
open PySem PySem.Spec PyProof.Rows L2
section
variable {M : Model} {prog : Program} {w : World} {A : Around} {E : Value → Shared → Prop} {s : Shared} {K : PySem.W.Frag} {x C : Addr} {ox : Obj} {od : Option Obj}
theorem objEq_str {z : Str} {t : Tok} {Q : Value → Shared → Prop} (X : K.In s.heap) (I : PySem.W.InstAt s.heap x ox C od) (hm : PySem.W.mroIn K C (.type "object") = some true) (hq : Q .notImplemented s) :
    wpAny (model prog w) A (call (.builtin "object.__eq__") [.ref x, .str z t]) Q E s := by
  refine wpAny_call (codeAny_call_builtin F.cmp_object.eq.plain F.cmpEntry_eq (PySem.W.check_slot F.cmpKind_eq F.cmpSplit_eq (I.type.andThen (PySem.W.looks_mroIn X hm)) (F.cmpArgs_eq _ _) ?_))
  unfold Builtin.«object.__eq__»
  have h1 : ∀ {R : Bool → Shared → Prop}, R false s → wpAny (model prog w) (A.under (.builtin "object.__eq__" ⟨[.ref x, .str z t], []⟩)) (isSame (.ref x) (.str z t)) R E s := fun h => wpAny_of_eq (rfl : isSame (.ref x) (.str z t) = pure false) h
  repeat (first | with_reducible refine wpAny_of_eq (rfl : isSame (.ref x) (.str z t) = pure false) ?_ | wp_step)
  exact hq
theorem asStr_inst {a : Addr} {o : Obj} {Q : Option Str → Shared → Prop} (ho : s.heap.get? a = some o) (hd : ∀ p, o.data ≠ .prim p) (h : Q none s) : wpAny M A (asStr? (.ref a)) Q E s := by
  unfold asStr?
  refine wpAny_bind (wpAny_load ho ?_)
  split
  · rename_i e
    exact absurd e (hd _)
  · exact wpAny_pure h
theorem rc_strI {z : Str} {t : Tok} (hu : A.units < cLine) (X : K.In s.heap) (I : PySem.W.InstAt s.heap x ox C od) (hp : ∀ p, ox.data ≠ .prim p) (hm : PySem.W.mroIn K C (.type "object") = some true) (hs : PySem.W.findIn K (.ref C) "__eq__" = some (some (.builtin "object.__eq__")))
    (hb : PySem.W.subIn K (.ref C) (.type "str") = some false) : SeqAt.RcAt A s (.str z t) (.ref x) false := fun prog w E Q h => by
  have one : wpAny (model prog w) A (tryCompare (.ref x) "__eq__" (.str z t)) (fun r s' => r = none ∧ s' = s) E s := by
    unfold tryCompare
    exact wpAny_bind (HN.ifBound_objEq X I hs (objEq_str X I hm (wpAny_pure ⟨rfl, rfl⟩)))
  have two : wpAny (model prog w) A (tryCompare (.str z t) "__eq__" (.ref x)) (fun r s' => r = none ∧ s' = s) E s := by
    refine wpAny_tryCompare_declines (typeIs_str s z t) F.slot_str_eq (wpAny_call_entry F.slot_str_eq (typeIs_str s z t) F.entry_str_eq ?_ (F.args_str_eq_2 _ _))
    unfold Builtin.«str.__eq__» Builtin.Str.strCompare Builtin.Str.strSlot
    repeat (first | with_reducible refine asStr_inst I.at_ hp ?_ | wp_step)
    refine wpAny_load I.at_ ?_
    split
    · rename_i e
      exact absurd e (hp _)
    refine wpAny_pure ?_
    repeat wp_step
    exact ⟨_, rfl, rfl, rfl, rfl⟩
  have hne : (Value.type "str" != Value.ref C) = true := by simp
  simp only [richCompare, cmpInfo_Eq, (typeIs_str s z t).oneThing_none]
  refine wpAny_holding (wpAny_bind (wpAny_cRoomFor hu ?_))
  refine wpAny_bind (wpAny_typeOf (typeIs_str s z t) ?_)
  refine wpAny_bind (I.type.here ?_)
  rw [if_pos hne]
  refine wpAny_bind ((PySem.W.looks_subIn X hb).here ?_)
  simp only [Bool.false_eq_true, if_false, Bool.not_false, if_true]
  refine wpAny_bind (m := tryCompare (.str z t) _ (.ref x)) (wpAny_mono two (fun r s1 z => ?_) fun _ _ e => e)
  obtain ⟨z1, z2⟩ := z
  subst z1
  subst z2
  refine wpAny_bind (m := tryCompare (.ref x) _ (.str z t)) (wpAny_mono one (fun r s2 z => ?_) fun _ _ e => e)
  obtain ⟨z1, z2⟩ := z
  subst z1
  subst z2
  exact wpAny_bind (wpAny_rule (wpAny_bind (wpAny_of_eq (rfl : isSame (.str z t) (.ref x) = pure false) (wpAny_pure h))))
theorem eqAt_strI {z : Str} {t : Tok} (hu : A.units < cLine) (X : K.In s.heap) (I : PySem.W.InstAt s.heap x ox C od) (hp : ∀ p, ox.data ≠ .prim p) (hm : PySem.W.mroIn K C (.type "object") = some true) (hs : PySem.W.findIn K (.ref C) "__eq__" = some (some (.builtin "object.__eq__")))
    (hb : PySem.W.subIn K (.ref C) (.type "str") = some false) : SeqAt.EqAt A s (.str z t) (.ref x) false := fun prog w E Q h => by
  unfold eqBool
  refine wpAny_holding ?_
  refine wpAny_ite_split (fun hab => absurd (eq_of_beq hab) nofun) (fun _ => ?_)
  exact wpAny_bind (rc_strI hu X I hp hm hs hb prog w E _ (wpAny_truthy_bool h))
end
/-- a class of instances that are no text, without an own == -/
structure NoEqC (K : PySem.W.Frag) (C : Addr) : Prop where
  m : PySem.W.mroIn K C (.type "object") = some true
  e : PySem.W.findIn K (.ref C) "__eq__" = some (some (.builtin "object.__eq__"))
  s : PySem.W.subIn K (.ref C) (.type "str") = some false
def rInI (K : PySem.W.Frag) : R2 := fun x y H Q => ∃ (a p C dx : Addr) (fs : List (Str × V)) (ns : List Str), x = .ref a ∧ y = .ref p ∧ H a = some (.ins C dx fs) ∧ NoEqC K C ∧ SqL K H p (ns.map V.str) ∧ Q (.bl false) H
theorem op_inI {X : Cx} (hu : X.A.units + 64 < cLine) : OpR X (compareOp .In) (rInI X.K) := by
  intro pins s σ H x y v u Q I rx ry h
  obtain ⟨a, p, C, dx, fs, ns, rfl, rfl, ha, hc, hq, q⟩ := h
  cases (show v = Value.ref a from rx)
  cases (show u = Value.ref p from ry)
  obtain ⟨its, rv, hl, _⟩ := I.list hq
  obtain ⟨mA, O, _⟩ := ins_get I.hok ha
  obtain ⟨od, J, _⟩ := O.look
  have hu1 : X.A.in1.units < cLine := by show X.A.units + 1 < cLine; omega
  have hall : ∀ w ∈ its, ∃ z t, w = Value.str z t := by
    clear hl hq
    induction ns generalizing its with
    | nil => cases rv; intro w hw; cases hw
    | cons n ns ih =>
      rw [List.map_cons] at rv
      cases rv with
      | cons r1 r2 =>
        intro w hw
        rcases List.mem_cons.mp hw with rfl | hw
        · obtain ⟨t, rfl⟩ := r1
          exact ⟨_, _, rfl⟩
        · exact ih _ r2 (by rename_i hz _ _ _; rw [List.length_map, List.length_cons] at hz; rw [List.length_map]; omega) w hw
  refine SeqAt.in_listAt (fun _ => false) hl.isList (fun w hw => ?_) ⟨.bl _, H, I, rfl, ?_⟩
  · obtain ⟨z, t, rfl⟩ := hall w (by simpa using hw)
    exact eqAt_strI (A := X.A.in1) hu1 I.kIn J (fun p e => by cases e) hc.m hc.e hc.s
  · have e : (its.toArray.any fun _ => false) = false := by simp
    rw [e]
    exact q
end Sd


set_option linter.unusedVariables false
namespace Sd
open PySem L2
open C8 (Cal Met Mak pe_c pe_mk pe_mt pe_mt0 pss_cut tCut)
set_option linter.unusedSimpArgs false
set_option pp.deepTerms false
set_option pp.deepTerms.threshold 12
set_option hygiene false
local macro_rules | `(tactic| fail "nd") => `(tactic| first | assumption | decide +kernel)
local macro_rules | `(tactic| fail "ix") => `(tactic| first | exact ⟨0, rfl⟩ | exact ⟨1, rfl⟩ | exact ⟨2, rfl⟩ | exact ⟨3, rfl⟩ | exact ⟨4, rfl⟩ | exact ⟨5, rfl⟩ | exact ⟨6, rfl⟩ | exact ⟨7, rfl⟩ | exact ⟨8, rfl⟩ | exact ⟨9, rfl⟩ | exact ⟨10, rfl⟩ | exact ⟨11, rfl⟩ | exact ⟨12, rfl⟩ | exact ⟨13, rfl⟩ | exact ⟨14, rfl⟩ | exact ⟨15, rfl⟩ | exact ⟨16, rfl⟩ | exact ⟨17, rfl⟩ | exact ⟨18, rfl⟩ | assumption)
local macro_rules | `(tactic| fail "up") => `(tactic| first | exact ⟨0, rfl, rfl⟩ | exact ⟨1, rfl, rfl⟩ | exact ⟨2, rfl, rfl⟩ | exact ⟨3, rfl, rfl⟩ | exact ⟨4, rfl, rfl⟩ | exact ⟨5, rfl, rfl⟩ | exact ⟨6, rfl, rfl⟩ | exact ⟨7, rfl, rfl⟩ | exact ⟨8, rfl, rfl⟩ | exact ⟨9, rfl, rfl⟩ | exact ⟨10, rfl, rfl⟩ | exact ⟨11, rfl, rfl⟩ | exact ⟨12, rfl, rfl⟩ | exact ⟨13, rfl, rfl⟩ | exact ⟨14, rfl, rfl⟩ | exact ⟨15, rfl, rfl⟩ | exact ⟨16, rfl, rfl⟩ | assumption)
local macro_rules | `(tactic| fail "lkF") => `(tactic| first | assumption | exact fz_at 0 (by fail "nd") rfl rfl | exact fz_at 1 (by fail "nd") rfl rfl | exact fz_at 2 (by fail "nd") rfl rfl | exact fz_at 3 (by fail "nd") rfl rfl | exact fz_at 4 (by fail "nd") rfl rfl | exact fz_at 5 (by fail "nd") rfl rfl | exact fz_at 6 (by fail "nd") rfl rfl | exact fz_at 7 (by fail "nd") rfl rfl)
local macro_rules | `(tactic| fail "lkD") => `(tactic| first | assumption | exact dz_at 0 (by fail "nd") rfl rfl | exact dz_at 1 (by fail "nd") rfl rfl | exact dz_at 2 (by fail "nd") rfl rfl | exact dz_at 3 (by fail "nd") rfl rfl | exact dz_at 4 (by fail "nd") rfl rfl)
local macro_rules | `(tactic| fail "ptF") => `(tactic| first | assumption | exact fz_put 0 (by fail "nd") rfl (Nat.le_of_ble_eq_true rfl) | exact fz_put 1 (by fail "nd") rfl (Nat.le_of_ble_eq_true rfl) | exact fz_put 2 (by fail "nd") rfl (Nat.le_of_ble_eq_true rfl) | exact fz_put 3 (by fail "nd") rfl (Nat.le_of_ble_eq_true rfl) | exact fz_put 4 (by fail "nd") rfl (Nat.le_of_ble_eq_true rfl) | exact fz_put 5 (by fail "nd") rfl (Nat.le_of_ble_eq_true rfl) | exact fz_put 6 (by fail "nd") rfl (Nat.le_of_ble_eq_true rfl) | exact fz_put 7 (by fail "nd") rfl (Nat.le_of_ble_eq_true rfl) | exact fz_new (by decide +kernel) rfl)
local macro_rules | `(tactic| fail "ptD") => `(tactic| first | assumption | exact dz_put 0 (by fail "nd") rfl (Nat.le_of_ble_eq_true rfl) | exact dz_put 1 (by fail "nd") rfl (Nat.le_of_ble_eq_true rfl) | exact dz_put 2 (by fail "nd") rfl (Nat.le_of_ble_eq_true rfl) | exact dz_put 3 (by fail "nd") rfl (Nat.le_of_ble_eq_true rfl) | exact dz_put 4 (by fail "nd") rfl (Nat.le_of_ble_eq_true rfl))
local macro_rules | `(tactic| fail "sz") => `(tactic| first | assumption | exact (Nat.le_of_ble_eq_true rfl) | omega | decide)
local macro_rules | `(tactic| fail "sd") => `(tactic| first | rfl | assumption | decide | omega | (dsimp only; first | decide | omega) | exact .inr ⟨by decide, by decide⟩ | exact .inl ⟨by decide, by decide⟩ | exact ⟨by omega, by omega⟩ | exact .inl ⟨by omega, by omega⟩ | exact .inr ⟨by omega, by omega⟩ | exact ⟨by omega, by omega, by omega⟩)
local macro_rules | `(tactic| fail "cl") => `(tactic| (clear hH; dsimp only [List.set, List.cons_append, List.nil_append, List.append] at hL))
local macro_rules | `(tactic| fail "gn") => `(tactic| (intro p hp; generalize hH : upd H p _ = H; replace hL := Led.newH hL hp hH; clear hH hp))
local macro_rules | `(tactic| fail "gup") => `(tactic| (generalize hH : upd H _ _ = H; replace hL := Led.upU hL (by fail "up") hH; fail "cl"))
local macro_rules | `(tactic| fail "gmk") => `(tactic| (intro x dx hx hd ne; generalize hH : upd (upd H dx _) x _ = H; replace hL := Led.made hL hx hd ne hH; clear hH hx hd ne))
local macro_rules | `(tactic| fail "v") => `(tactic| refine ⟨_, rfl, ?_⟩)
local macro_rules | `(tactic| fail "i2") => `(tactic| refine ⟨_, _, rfl, rfl, ?_⟩)
local macro_rules | `(tactic| fail "go1") => `(tactic| first
  | refine ⟨_, rfl, ?_⟩
  | refine ⟨_, _, rfl, rfl, ?_⟩
  | refine ⟨_, _, rfl, ?_⟩
  | refine iteT ?_
  | refine iteF ?_
  | refine k_fld hL (by fail "ix") (by assumption) (by assumption) (by fail "lkF") ?_
  | refine k_dgetS hL (by fail "ix") (by fail "lkD") ?_
  | refine k_dgetI hL (by fail "ix") (by assumption) ?_
  | refine k_ixL hL (by fail "ix") (by first | rfl | assumption) ?_
  | refine k_ixT hL (by fail "ix") (by first | rfl | assumption) ?_
  | refine k_tyL hL (by fail "ix") ?_
  | refine k_isd hL (by fail "ix") ?_
  | (refine And.intro (by fail "sz") ?_; fail "gn")
  | refine And.intro (by fail "sd") ?_
  | fail "gn"
  | refine k_meth hL (by fail "ix") (by first | assumption | exact fz_no (by decide +kernel)) ?_
  | refine k_gtup hL (by fail "ix") rfl ?_
  | (refine k_popI hL (by fail "ix") (by assumption) ?_; fail "gup")
  | (refine k_listD hL (by fail "ix") ?_; fail "gn")
  | (refine ⟨_, _, _, _, rfl, rfl, hL.at (by fail "ix"), rfl, ?_⟩; fail "gup")
  | (refine ⟨_, _, _, rfl, rfl, hL.at (by fail "ix"), (by fail "sz"), ?_⟩; fail "gup")
  | (refine ⟨_, _, _, _, rfl, hL.at (by fail "ix"), by assumption, by assumption, Nat.lt_of_le_of_lt fz_len (by decide), ?_⟩; generalize hH : upd H _ _ = H; replace hL := Led.upF hL (by fail "up") (by fail "ptF") hH; fail "cl")
  | (refine ⟨_, _, hL.at (by fail "ix"), Nat.lt_of_le_of_lt fz_len (by decide), ?_⟩; generalize hH : upd H _ _ = H; replace hL := Led.upF hL (by fail "up") (by fail "ptF") hH; fail "cl")
  | (refine k_dputS hL (by fail "ix") (Nat.lt_of_le_of_lt dz_len (by decide)) (by fail "ptD") (by fail "up") ?_; clear hL; intro H hL; dsimp only [List.set, List.cons_append, List.nil_append, List.append] at hL)
  | refine k_lenL2 hL (by fail "ix") ?_
  | refine k_lenT2 hL (by fail "ix") ?_
  | refine .inl ⟨_, rfl, ?_⟩
  | refine .inr ⟨_, rfl, ?_⟩)
local macro_rules | `(tactic| fail "go") => `(tactic| repeat fail "go1")
local macro_rules | `(tactic| fail "pm") => `(tactic| (refine Led.le hL (fun a_ => ?_); simp only [cnt_nil, cnt_cons, cnt_app, List.map_append, List.map_cons, List.map_nil, List.flatMap_append, List.flatMap_cons, List.flatMap_nil, List.append_assoc, List.cons_append, List.nil_append]; omega))

abbrev sNatural : Stmt := top 19
abbrev sPack : Stmt := top 20
abbrev sSignN : Stmt := top 21
abbrev sUnpack : Stmt := top 23
abbrev sSumB : Stmt := top 24
abbrev sFour : Stmt := top 25
abbrev sFrame : Stmt := top 26
abbrev sReadF : Stmt := top 27
/-- line end, and the printable ASCII signs without the percent sign -/
def SIGNS : Str := ⟨(10 :: ((List.range 95).map (· + 32)).filter (· != 37)).toArray⟩
structure TxtW (mg : Str → Option Value) : Prop where
  tuple : mg "tuple" = none
  len : mg "len" = none
  range : mg "range" = none
  isinstance : mg "isinstance" = none
  int : mg "int" = none
  str : mg "str" = none
  g_NONE : ∃ u, mg "NONE" = some u ∧ RelV (.int 1) u
  g_TRUE : ∃ u, mg "TRUE" = some u ∧ RelV (.int 2) u
  g_FALSE : ∃ u, mg "FALSE" = some u ∧ RelV (.int 3) u
  g_NUMBER : ∃ u, mg "NUMBER" = some u ∧ RelV (.int 4) u
  g_BELOW : ∃ u, mg "BELOW" = some u ∧ RelV (.int 5) u
  g_TEXT : ∃ u, mg "TEXT" = some u ∧ RelV (.int 6) u
  g_ROW : ∃ u, mg "ROW" = some u ∧ RelV (.int 7) u
  g_MOST_DEEP : ∃ u, mg "MOST_DEEP" = some u ∧ RelV (.int 30) u
  g_SIGNS : ∃ u, mg "SIGNS" = some u ∧ RelV (.str SIGNS) u
/-- a number's bytes -/
def natB (n : Nat) : List Int := if h : n < 128 then [(n : Int)] else ((128 + n % 128 : Nat) : Int) :: natB (n / 128)
termination_by n
decreasing_by omega
theorem natB_lo {n : Nat} (h : n < 128) : natB n = [(n : Int)] := by rw [natB, dif_pos h]
theorem natB_hi {n : Nat} (h : ¬ n < 128) : natB n = ((128 + n % 128 : Nat) : Int) :: natB (n / 128) := by rw [natB, dif_neg h]
theorem natB_ne {n : Nat} : natB n ≠ [] := by
  by_cases h : n < 128
  · rw [natB_lo h]; exact List.cons_ne_nil _ _
  · rw [natB_hi h]; exact List.cons_ne_nil _ _
/-- a tuple of numbers -/
abbrev tI (bs : List Int) : HO := .tup (bs.map V.int)
def spNatural : Sp := fun vs H Q _ => ∃ (n : Nat) (L : Lg), vs = [.int n] ∧ Led H L ∧ (natB n).length ≤ sizeLine ∧ ∀ r H', Led H' ((r, tI (natB n)) :: L) → Q (.ref r) H'
def spSignN : Sp := fun vs H Q _ => ∃ (c : Str), vs = [.str c] ∧ 0 ≤ Txt.find SIGNS c ∧ Q (.int (Txt.find SIGNS c)) H
def sumStep (ab : Int × Int) (b : Int) : Int × Int := ((ab.1 + b) % 65521, (ab.2 + (ab.1 + b) % 65521) % 65521)
def sumB (bs : List Int) : List Int := let ab := bs.foldl sumStep (1, 0); [ab.2 / 256, ab.2 % 256, ab.1 / 256, ab.1 % 256]
def spSumB : Sp := fun vs H Q _ => ∃ (a : Addr) (bs : List Int) (L : Lg), vs = [.ref a] ∧ Led H L ∧ At L a (tI bs) ∧ ∀ r H', Led H' ((r, tI (sumB bs)) :: L) → Q (.ref r) H'
def fourB (n : Int) : List Int := [n / 16777216 % 256, n / 65536 % 256, n / 256 % 256, n % 256]
def spFour : Sp := fun vs H Q _ => ∃ (n : Int) (L : Lg), vs = [.int n] ∧ Led H L ∧ ∀ r H', Led H' ((r, tI (fourB n)) :: L) → Q (.ref r) H'
section
variable {P : Program} {w : World} {K : PySem.W.Frag} {mg : Str → Option Value} {base : Heap}
theorem scFour : FnScope ["number"] ["number"] (defScope sFour) := ⟨rfl, rfl, rfl, by decide +kernel, rfl, by decide +kernel, by decide +kernel⟩
theorem ok_four {f : Addr} {fd : FuncData} (F : Fun K "four" "four" sFour f fd) : FnOk P w K mg base CX0 1 f fd ["number"] spFour := by
  refine F.ok scFour (fun vs H Q E h => ?_) (fun cdv A outer s H vs Q E hr h => ?_)
  · obtain ⟨n, L, rfl, _⟩ := h
    rfl
  · obtain ⟨n, L, rfl, hL, k⟩ := h
    refine ⟨_, (pss_one (ps_ret (pe_tup (pa_cons (pe_op op_mod (pe_op op_fdiv (pv 0) pe_int) pe_int) (pa_cons (pe_op op_mod (pe_op op_fdiv (pv 0) pe_int) pe_int) (pa_cons (pe_op op_mod (pe_op op_fdiv (pv 0) pe_int) pe_int) (pa_cons (pe_op op_mod (pv 0) pe_int) pa_nil))))))), ?_⟩
    fail "go"
    exact k _ _ hL
theorem scSignN : FnScope ["sign", "place"] ["sign"] (defScope sSignN) := ⟨rfl, rfl, rfl, by decide +kernel, rfl, by decide +kernel, by decide +kernel⟩
theorem ok_signN {f : Addr} {fd : FuncData} (F : Fun K "sign_number" "sign_number" sSignN f fd) (T : TxtW mg) : FnOk P w K mg base CX0 1 f fd ["sign"] spSignN := by
  refine F.ok scSignN (fun vs H Q E h => ?_) (fun cdv A outer s H vs Q E hr h => ?_)
  · obtain ⟨c, rfl, _⟩ := h
    rfl
  · obtain ⟨c, rfl, h0, k⟩ := h
    refine ⟨_, (pss_cons (ps_set (i := 1) scSignN.nd rfl (Or.inl rfl) (pe_bm PySem.F.plainAttrs_str PySem.F.slot_str_find PySem.F.type_str_find mt_find (C8.pe_gc (by rfl) T.g_SIGNS) (pa_cons (pv 0) pa_nil)))
  (pss_cons (ps_if (pt_cmpR op_lt (pv 1) pe_int (nomark _))
  pss_never
  pss_nil)
  (pss_one (ps_ret (pv 1))))), ?_⟩
    fail "go"
    refine ite_d (fun q => absurd q (by omega)) fun q => ?_
    fail "go"
    exact k
theorem scSumB : FnScope ["data", "first", "second", "one"] ["data"] (defScope sSumB) := ⟨rfl, rfl, rfl, by decide +kernel, rfl, by decide +kernel, by decide +kernel⟩
theorem ok_sumB {f : Addr} {fd : FuncData} (F : Fun K "sum_of_bytes" "sum_of_bytes" sSumB f fd) : FnOk P w K mg base CX0 1 f fd ["data"] spSumB := by
  refine F.ok scSumB (fun vs H Q E h => ?_) (fun cdv A outer s H vs Q E hr h => ?_)
  · obtain ⟨a, bs, L, rfl, _⟩ := h
    rfl
  · obtain ⟨a, bs, L, rfl, hL, ha, k⟩ := h
    refine ⟨_, (pss_cons (ps_asg (pe_tup (pa_cons pe_int (pa_cons pe_int pa_nil))) (pg_tup (by rfl) (pgs_cons (pg_name (i := 1) scSumB.nd rfl (Or.inl rfl)) (pgs_cons (pg_name (i := 2) scSumB.nd rfl (Or.inl rfl)) pgs_nil))))
  (pss_cons (ps_for PassesOwn.never rfl (pi_tup (pv 0)) (pg_name (i := 3) scSumB.nd rfl (Or.inl rfl))
  (pss_cons (ps_set (i := 1) scSumB.nd rfl (Or.inl rfl) (pe_op op_mod (pe_op op_add (pv 1) (pv 3)) pe_int))
  (pss_one (ps_set (i := 2) scSumB.nd rfl (Or.inl rfl) (pe_op op_mod (pe_op op_add (pv 2) (pv 1)) pe_int)))))
  (pss_one (ps_ret (pe_tup (pa_cons (pe_op op_fdiv (pv 2) pe_int) (pa_cons (pe_op op_mod (pv 2) pe_int) (pa_cons (pe_op op_fdiv (pv 1) pe_int) (pa_cons (pe_op op_mod (pv 1) pe_int) pa_nil))))))))), ?_⟩
    fail "go"
    refine ⟨⟨_, .of (hL.tail.at ha)⟩, ?_⟩
    refine for_tupA (xs := bs.map V.int) (fun i σ H => Hold (∃ v3, σ = [some (.ref a), some (.int ((bs.take i).foldl sumStep (1, 0)).1), some (.int ((bs.take i).foldl sumStep (1, 0)).2), v3] ∧ Led H L)) (.mk ⟨_, rfl, hL.tail⟩) (fun i σ H _ h => ?_) (fun i x σ H D' hi h hN => ?_) (fun σ H h => ?_)
    · obtain ⟨v3, rfl, hL⟩ := h.out
      exact .of (hL.at ha)
    · obtain ⟨v3, rfl, hL⟩ := h.out
      rw [List.getElem?_map] at hi
      obtain ⟨b, hb, rfl⟩ := Option.map_eq_some_iff.mp hi
      fail "go"
      refine hN.nx _ _ (.mk ⟨some (.int b), ?_, hL⟩)
      rw [List.take_add_one, hb, Option.toList_some, List.foldl_append]
      rfl
    · obtain ⟨v3, rfl, hL⟩ := h.out
      rw [List.length_map, List.take_length] at *
      fail "go"
      exact k _ _ hL
theorem scNatural : FnScope ["number", "found"] ["number"] (defScope sNatural) := ⟨rfl, rfl, rfl, by decide +kernel, rfl, by decide +kernel, by decide +kernel⟩
theorem ok_natural {f : Addr} {fd : FuncData} (F : Fun K "natural" "natural" sNatural f fd) (T : TxtW mg) : FnOk P w K mg base CX0 1 f fd ["number"] spNatural := by
  refine F.ok scNatural (fun vs H Q E h => ?_) (fun cdv A outer s H vs Q E hr h => ?_)
  · obtain ⟨n, L, rfl, _⟩ := h
    rfl
  · obtain ⟨n, L, rfl, hL, hz, k⟩ := h
    refine ⟨_, (pss_cons (ps_set (i := 1) scNatural.nd rfl (Or.inl rfl) (pe_lst pa_nil))
  (pss_cons (ps_while PassesOwn.never (pt_cmpR op_ge (pv 0) pe_int (nomark _))
  (pss_cons (ps_expr (pe_bm PySem.F.plainAttrs_list PySem.F.slot_list_append PySem.F.type_list_append mt_append (pv 1) (pa_cons (pe_op op_add pe_int (pe_op op_mod (pv 0) pe_int)) pa_nil)))
  (pss_one (ps_aug (i := 0) scNatural.nd rfl (Or.inl rfl) pe_int iop_fdiv))))
  (pss_one (ps_ret (pe_op (op_catA) (pe_callTy call_tuple_of (by rfl) T.tuple (by decide +kernel) (pa_cons (pv 1) pa_nil)) (pe_tup (pa_cons (pv 0) pa_nil))))))), ?_⟩
    fail "go"
    refine ⟨fun m σ H => Hold (∃ (acc : List Int), σ = [some (.int (m : Nat)), some (.ref p)] ∧ acc ++ natB m = natB n ∧ Led H ((p, .lst (acc.map .int)) :: L)), ⟨n, .mk ⟨[], rfl, rfl, hL⟩⟩, fun m σ H h => ?_⟩
    clear hL
    obtain ⟨acc, rfl, he, hL⟩ := h.out
    clear h
    fail "go"
    refine ite_d (fun q => ?_) fun q => ?_
    · have hn : ¬ m < 128 := by omega
      rw [natB_hi hn] at he
      refine ⟨fun σ' H' => Hold (∃ (acc : List Int), σ' = [some (.int (m / 128 : Nat)), some (.ref p)] ∧ acc ++ natB (m / 128) = natB n ∧ Led H' ((p, .lst (acc.map .int)) :: L)), fun σ' H' h => ⟨m / 128, by omega, h⟩, ?_⟩
      have hz2 : acc.length < sizeLine := by
        have := congrArg List.length he
        rw [List.length_append, List.length_cons] at this
        omega
      fail "go"
      refine ⟨_, _, _, rfl, rfl, hL.at ⟨0, rfl⟩, by rw [List.length_map]; exact hz2, ?_⟩
      fail "gup"
      fail "go"
      refine .mk ⟨acc ++ [((128 + m % 128 : Nat) : Int)], ?_, ?_, ?_⟩
      · rfl
      · rw [List.append_assoc]; exact he
      · rw [List.map_append]
        exact hL
    · have hn : m < 128 := by omega
      rw [natB_lo hn] at he
      fail "go"
      refine ⟨_, _, rfl, .inl ⟨.of (hL.at ⟨0, rfl⟩), ?_⟩⟩
      fail "gn"
      fail "go"
      have hz2 := congrArg List.length he
      rw [List.length_append, List.length_singleton] at hz2
      refine k_catA (L := L) (hL.sub (.cons_cons _ (.cons_cons _ (.cons _ (.refl _))))) (by rw [List.length_map, List.length_singleton]; omega) fun r H' hL => k _ _ ?_
      rw [← he]
      show Led H' ((r, .tup ((acc ++ [(m : Int)]).map V.int)) :: L)
      rw [List.map_append]
      exact hL
end
end Sd


set_option linter.unusedVariables false
namespace Sd
open PySem L2
open C8 (Cal Met Mak pe_c pe_mk pe_mt pe_mt0 pss_cut tCut)
set_option linter.unusedSimpArgs false
set_option pp.deepTerms false
set_option pp.deepTerms.threshold 12
set_option hygiene false
local macro_rules | `(tactic| fail "nd") => `(tactic| first | assumption | decide +kernel)
local macro_rules | `(tactic| fail "ix") => `(tactic| first | exact ⟨0, rfl⟩ | exact ⟨1, rfl⟩ | exact ⟨2, rfl⟩ | exact ⟨3, rfl⟩ | exact ⟨4, rfl⟩ | exact ⟨5, rfl⟩ | exact ⟨6, rfl⟩ | exact ⟨7, rfl⟩ | exact ⟨8, rfl⟩ | exact ⟨9, rfl⟩ | exact ⟨10, rfl⟩ | exact ⟨11, rfl⟩ | exact ⟨12, rfl⟩ | exact ⟨13, rfl⟩ | exact ⟨14, rfl⟩ | exact ⟨15, rfl⟩ | exact ⟨16, rfl⟩ | exact ⟨17, rfl⟩ | exact ⟨18, rfl⟩ | assumption)
local macro_rules | `(tactic| fail "up") => `(tactic| first | exact ⟨0, rfl, rfl⟩ | exact ⟨1, rfl, rfl⟩ | exact ⟨2, rfl, rfl⟩ | exact ⟨3, rfl, rfl⟩ | exact ⟨4, rfl, rfl⟩ | exact ⟨5, rfl, rfl⟩ | exact ⟨6, rfl, rfl⟩ | exact ⟨7, rfl, rfl⟩ | exact ⟨8, rfl, rfl⟩ | exact ⟨9, rfl, rfl⟩ | exact ⟨10, rfl, rfl⟩ | exact ⟨11, rfl, rfl⟩ | exact ⟨12, rfl, rfl⟩ | exact ⟨13, rfl, rfl⟩ | exact ⟨14, rfl, rfl⟩ | exact ⟨15, rfl, rfl⟩ | exact ⟨16, rfl, rfl⟩ | assumption)
local macro_rules | `(tactic| fail "lkF") => `(tactic| first | assumption | exact fz_at 0 (by fail "nd") rfl rfl | exact fz_at 1 (by fail "nd") rfl rfl | exact fz_at 2 (by fail "nd") rfl rfl | exact fz_at 3 (by fail "nd") rfl rfl | exact fz_at 4 (by fail "nd") rfl rfl | exact fz_at 5 (by fail "nd") rfl rfl | exact fz_at 6 (by fail "nd") rfl rfl | exact fz_at 7 (by fail "nd") rfl rfl)
local macro_rules | `(tactic| fail "lkD") => `(tactic| first | assumption | exact dz_at 0 (by fail "nd") rfl rfl | exact dz_at 1 (by fail "nd") rfl rfl | exact dz_at 2 (by fail "nd") rfl rfl | exact dz_at 3 (by fail "nd") rfl rfl | exact dz_at 4 (by fail "nd") rfl rfl)
local macro_rules | `(tactic| fail "ptF") => `(tactic| first | assumption | exact fz_put 0 (by fail "nd") rfl (Nat.le_of_ble_eq_true rfl) | exact fz_put 1 (by fail "nd") rfl (Nat.le_of_ble_eq_true rfl) | exact fz_put 2 (by fail "nd") rfl (Nat.le_of_ble_eq_true rfl) | exact fz_put 3 (by fail "nd") rfl (Nat.le_of_ble_eq_true rfl) | exact fz_put 4 (by fail "nd") rfl (Nat.le_of_ble_eq_true rfl) | exact fz_put 5 (by fail "nd") rfl (Nat.le_of_ble_eq_true rfl) | exact fz_put 6 (by fail "nd") rfl (Nat.le_of_ble_eq_true rfl) | exact fz_put 7 (by fail "nd") rfl (Nat.le_of_ble_eq_true rfl) | exact fz_new (by decide +kernel) rfl)
local macro_rules | `(tactic| fail "ptD") => `(tactic| first | assumption | exact dz_put 0 (by fail "nd") rfl (Nat.le_of_ble_eq_true rfl) | exact dz_put 1 (by fail "nd") rfl (Nat.le_of_ble_eq_true rfl) | exact dz_put 2 (by fail "nd") rfl (Nat.le_of_ble_eq_true rfl) | exact dz_put 3 (by fail "nd") rfl (Nat.le_of_ble_eq_true rfl) | exact dz_put 4 (by fail "nd") rfl (Nat.le_of_ble_eq_true rfl))
local macro_rules | `(tactic| fail "sz") => `(tactic| first | assumption | exact (Nat.le_of_ble_eq_true rfl) | omega | decide)
local macro_rules | `(tactic| fail "sd") => `(tactic| first | rfl | assumption | decide | omega | (dsimp only; first | decide | omega) | exact .inr ⟨by decide, by decide⟩ | exact .inl ⟨by decide, by decide⟩ | exact ⟨by omega, by omega⟩ | exact .inl ⟨by omega, by omega⟩ | exact .inr ⟨by omega, by omega⟩ | exact ⟨by omega, by omega, by omega⟩)
local macro_rules | `(tactic| fail "cl") => `(tactic| (clear hH; dsimp only [List.set, List.cons_append, List.nil_append, List.append] at hL))
local macro_rules | `(tactic| fail "gn") => `(tactic| (intro p hp; generalize hH : upd H p _ = H; replace hL := Led.newH hL hp hH; clear hH hp))
local macro_rules | `(tactic| fail "gup") => `(tactic| (generalize hH : upd H _ _ = H; replace hL := Led.upU hL (by fail "up") hH; fail "cl"))
local macro_rules | `(tactic| fail "gmk") => `(tactic| (intro x dx hx hd ne; generalize hH : upd (upd H dx _) x _ = H; replace hL := Led.made hL hx hd ne hH; clear hH hx hd ne))
local macro_rules | `(tactic| fail "v") => `(tactic| refine ⟨_, rfl, ?_⟩)
local macro_rules | `(tactic| fail "i2") => `(tactic| refine ⟨_, _, rfl, rfl, ?_⟩)
local macro_rules | `(tactic| fail "go1") => `(tactic| first
  | refine ⟨_, rfl, ?_⟩
  | refine ⟨_, _, rfl, rfl, ?_⟩
  | refine ⟨_, _, rfl, ?_⟩
  | refine iteT ?_
  | refine iteF ?_
  | refine k_fld hL (by fail "ix") (by assumption) (by assumption) (by fail "lkF") ?_
  | refine k_dgetS hL (by fail "ix") (by fail "lkD") ?_
  | refine k_dgetI hL (by fail "ix") (by assumption) ?_
  | refine k_ixL hL (by fail "ix") (by first | rfl | assumption) ?_
  | refine k_ixT hL (by fail "ix") (by first | rfl | assumption) ?_
  | refine k_tyL hL (by fail "ix") ?_
  | refine k_isd hL (by fail "ix") ?_
  | (refine And.intro (by fail "sz") ?_; fail "gn")
  | refine And.intro (by fail "sd") ?_
  | fail "gn"
  | refine k_meth hL (by fail "ix") (by first | assumption | exact fz_no (by decide +kernel)) ?_
  | refine k_gtup hL (by fail "ix") rfl ?_
  | (refine k_popI hL (by fail "ix") (by assumption) ?_; fail "gup")
  | (refine k_listD hL (by fail "ix") ?_; fail "gn")
  | (refine ⟨_, _, _, _, rfl, rfl, hL.at (by fail "ix"), rfl, ?_⟩; fail "gup")
  | (refine ⟨_, _, _, rfl, rfl, hL.at (by fail "ix"), (by fail "sz"), ?_⟩; fail "gup")
  | (refine ⟨_, _, _, _, rfl, hL.at (by fail "ix"), by assumption, by assumption, Nat.lt_of_le_of_lt fz_len (by decide), ?_⟩; generalize hH : upd H _ _ = H; replace hL := Led.upF hL (by fail "up") (by fail "ptF") hH; fail "cl")
  | (refine ⟨_, _, hL.at (by fail "ix"), Nat.lt_of_le_of_lt fz_len (by decide), ?_⟩; generalize hH : upd H _ _ = H; replace hL := Led.upF hL (by fail "up") (by fail "ptF") hH; fail "cl")
  | (refine k_dputS hL (by fail "ix") (Nat.lt_of_le_of_lt dz_len (by decide)) (by fail "ptD") (by fail "up") ?_; clear hL; intro H hL; dsimp only [List.set, List.cons_append, List.nil_append, List.append] at hL)
  | refine k_lenL2 hL (by fail "ix") ?_
  | refine k_lenT2 hL (by fail "ix") ?_
  | refine .inl ⟨_, rfl, ?_⟩
  | refine .inr ⟨_, rfl, ?_⟩)
local macro_rules | `(tactic| fail "go") => `(tactic| repeat fail "go1")
local macro_rules | `(tactic| fail "pm") => `(tactic| (refine Led.le hL (fun a_ => ?_); simp only [cnt_nil, cnt_cons, cnt_app, List.map_append, List.map_cons, List.map_nil, List.flatMap_append, List.flatMap_cons, List.flatMap_nil, List.append_assoc, List.cons_append, List.nil_append]; omega))

def signs (s : Str) : List Int := s.cps.toList.map fun c => Txt.find SIGNS ⟨#[c]⟩
mutual
/-- a value's bytes -/
def packB : Dv → List Int
  | .non => [1]
  | .bl b => [if b = true then 2 else 3]
  | .int i => if 0 ≤ i then 4 :: natB i.toNat else 5 :: natB (0 - i - 1).toNat
  | .str s => 6 :: (natB s.length ++ signs s)
  | .row ds => 7 :: (natB ds.length ++ packsB ds)
def packsB : List Dv → List Int
  | [] => []
  | d :: ds => packB d ++ packsB ds
end
mutual
def deep : Dv → Nat
  | .row ds => deeps ds + 1
  | _ => 0
def deeps : List Dv → Nat
  | [] => 0
  | d :: ds => max (deep d) (deeps ds)
end
/-- a sign of the wire -/
def goodS (c : Nat) : Prop := 0 ≤ Txt.find SIGNS ⟨#[c]⟩ ∧ SIGNS.cps[(Txt.find SIGNS ⟨#[c]⟩).toNat]? = some c
mutual
/-- what can be sent -/
def sendable : Dv → Prop
  | .str s => ∀ c ∈ s.cps.toList, goodS c
  | .row ds => sendables ds
  | _ => True
def sendables : List Dv → Prop
  | [] => True
  | d :: ds => sendable d ∧ sendables ds
end
theorem packB_ne {d : Dv} : packB d ≠ [] := by
  cases d with
  | int i => unfold packB; split <;> exact List.cons_ne_nil _ _
  | _ => unfold packB; exact List.cons_ne_nil _ _
theorem packsB_take {ds : List Dv} {i : Nat} {d : Dv} (h : ds[i]? = some d) : packsB (ds.take (i + 1)) = packsB (ds.take i) ++ packB d := by
  induction ds generalizing i with
  | nil => simp at h
  | cons e r ih =>
    cases i with
    | zero =>
      rw [List.getElem?_cons_zero] at h
      cases h
      simp [packsB]
    | succ i =>
      rw [List.getElem?_cons_succ] at h
      rw [List.take_succ_cons, List.take_succ_cons, packsB, packsB, ih h, List.append_assoc]
theorem packsB_le {ds : List Dv} {i : Nat} : (packsB (ds.take i)).length ≤ (packsB ds).length := by
  induction ds generalizing i with
  | nil => simp
  | cons e r ih =>
    cases i with
    | zero => simp [packsB]
    | succ i =>
      have := ih (i := i)
      rw [List.take_succ_cons, packsB, packsB, List.length_append, List.length_append]
      omega
theorem deeps_get {ds : List Dv} {i : Nat} {d : Dv} (h : ds[i]? = some d) : deep d ≤ deeps ds := by
  induction ds generalizing i with
  | nil => simp at h
  | cons e r ih =>
    rw [deeps]
    cases i with
    | zero =>
      rw [List.getElem?_cons_zero] at h
      cases h
      omega
    | succ i =>
      rw [List.getElem?_cons_succ] at h
      have := ih h
      omega
theorem send_get {ds : List Dv} {i : Nat} {d : Dv} (s : sendables ds) (h : ds[i]? = some d) : sendable d := by
  induction ds generalizing i with
  | nil => simp at h
  | cons e r ih =>
    rw [sendables] at s
    cases i with
    | zero =>
      rw [List.getElem?_cons_zero] at h
      cases h
      exact s.1
    | succ i =>
      rw [List.getElem?_cons_succ] at h
      exact ih s.2 h
def spPack (PN : Addr) (n : Nat) : Sp := fun vs H Q _ => ∃ (v : V) (c : Int) (d : Dv) (ps : Array Value) (L : Lg), vs = [v, .int c] ∧ Led H ((PN, .tbl ps) :: L) ∧ TriplesOk ps.toList ∧ DL L v d ∧ deep d < n ∧ 0 ≤ c ∧ c + deep d ≤ 30 ∧ sendable d ∧ (packB d).length ≤ sizeLine ∧
  ∀ (ps' : Array Value) r H', TriplesOk ps'.toList → Led H' ((r, tI (packB d)) :: (PN, .tbl ps') :: L) → Q (.ref r) H'
theorem Led.tabbed {H H2 : Hp} {P : Addr} {ps : Array Value} {A B : Lg} (h : Led H (A ++ (P, .tbl ps) :: B)) (t : GxR.Tabbed P H H2) : ∃ ps' : Array Value, TriplesOk ps'.toList ∧ Led H2 (A ++ (P, .tbl ps') :: B) := by
  obtain ⟨⟨ps', e, q⟩, k⟩ := t
  refine ⟨ps', q, ?_⟩
  have h1 := h.front.2
  have h2 : P ∉ (A ++ B).map (·.1) := (List.nodup_cons.mp h1).1
  refine Led.back ⟨fun x hx => ?_, h1⟩
  rcases List.mem_cons.mp hx with z | z
  · rw [z]; exact e
  · rw [k x.1 (fun y => h2 (by rw [← y]; exact List.mem_map.mpr ⟨x, z, rfl⟩))]
    exact h.front.1 x (.tail _ z)
section
variable {P : Program} {w : World} {K : PySem.W.Frag} {mg : Str → Option Value} {base : Heap}
theorem scPack : FnScope ["value", "depth", "sign", "found", "part"] ["value", "depth"] (defScope sPack) := ⟨rfl, rfl, rfl, by decide +kernel, rfl, by decide +kernel, by decide +kernel⟩
theorem no_ok {f : Addr} {fd : FuncData} {ps : List Str} {k : Nat} {sp : Sp} (h : ∀ vs H Q E, ¬ sp vs H Q E) : FnOk P w K mg base CX0 k f fd ps sp :=
  ⟨fun vs H Q E z => (h vs H Q E z).elim, fun _ _ _ H _ _ vs Q E _ _ _ _ z => (h vs H Q E z).elim⟩
theorem ok_pack {f c PN : Addr} {oc dV : Value} {od : Option Addr} {osl : Array (Option Value)} {kV doc pm ct : Value} {an : Option Addr} {ds : List Value}
    (lk : K.lookup f = some ⟨oc, od, .func (PySem.W.fnOf "pack" "pack" (defArgs sPack) (defBody sPack) (defScope sPack) dV kV doc pm an (.ref c) ct), osl⟩) (hcd : PySem.W.codeIn K (.ref c) "pack" = true) (TB : GxR.TabB base mg c PN) (T : TxtW mg)
    (hm : mg "pack" = some (.ref f)) (kp : PySem.W.keepIn K (.ref f) = true) (b : Binds K (PySem.W.fnOf "pack" "pack" (defArgs sPack) (defBody sPack) (defScope sPack) dV kV doc pm an (.ref c) ct) ["value", "depth"] [])
    (c_natural : Cal P w K mg base 1 "natural" spNatural []) (c_sign_number : Cal P w K mg base 1 "sign_number" spSignN []) (n : Nat) :
    FnOk P w K mg base CX0 (5 + n) f (PySem.W.fnOf "pack" "pack" (defArgs sPack) (defBody sPack) (defScope sPack) dV kV doc pm an (.ref c) ct) ["value", "depth"] (spPack PN n) := by
  induction n with
  | zero => exact no_ok fun vs H Q E ⟨_, _, _, _, _, _, _, _, _, h, _⟩ => absurd h (Nat.not_lt_zero _)
  | succ n ih =>
    have c_pack_all : Cal P w K mg base (5 + n) "pack" (spPack PN n) [] := ⟨_, _, _, [], ih, hm, kp, b, .nil⟩
    refine fn_of lk hcd scPack (fun vs H Q E h => ?_) fun A outer s H vs Q E hr h => ?_
    · obtain ⟨v, i, d, ps, L, rfl, _⟩ := h
      rfl
    · obtain ⟨v, i, d, ps, L, rfl, hL, ht, hd, hn, h0, h30, hs, hz, k⟩ := h
      replace hr : Room (5 + n) _ := hr
      have hr1 : Room 2 _ := hr.mono (by omega)
      have hr5 : Room 5 _ := hr.mono (by omega)
      refine ⟨_, ((pss_cons (ps_if (pt_cmpR op_gt (pv 1) (C8.pe_gc (by rfl) T.g_MOST_DEEP) (nomark _))
  pss_never
  pss_nil)
  (pss_cons (ps_if (pt_cmpR op_isN (pv 0) pe_non (nomark _))
  (pss_one (ps_ret (pe_tup (pa_cons (C8.pe_gc (by rfl) T.g_NONE) pa_nil))))
  pss_nil)
  (pss_cons (ps_if (PW.pt (pw_or (pt_cmpR op_isB (pv 0) pe_bl (nomark _)) (pw_or1 (pt_cmpR op_isB (pv 0) pe_bl (nomark _)))))
  (pss_one (ps_ret (pe_tup (pa_cons (pe_ifExp (pt_truth (pv 0) (by intro _; rfl)) (C8.pe_gc (by rfl) T.g_TRUE) (C8.pe_gc (by rfl) T.g_FALSE)) pa_nil))))
  pss_nil)
  (pss_cons (ps_if (pt_val (pe_callB call_isi (by rfl) T.isinstance (by decide +kernel) (pa_cons (pv 0) (pa_cons (pe_bltn (v := .ty "int") (by rfl) T.int (show bootBuiltins _ = some (.type "int") by decide +kernel) rfl) pa_nil))))
  (pss_one (ps_ret (pe_ifExp (pt_cmpR op_ge (pv 0) pe_int (nomark _)) (pe_op (op_catA) (pe_tup (pa_cons (C8.pe_gc (by rfl) T.g_NUMBER) pa_nil)) (pe_c c_natural hr (by omega) (by rfl) (pa_cons (pv 0) pa_nil))) (pe_op (op_catA) (pe_tup (pa_cons (C8.pe_gc (by rfl) T.g_BELOW) pa_nil)) (pe_c c_natural hr (by omega) (by rfl) (pa_cons (pe_op op_sub (pe_op op_sub pe_int (pv 0)) pe_int) pa_nil))))))
  pss_nil)
  (pss_cons (ps_if (pt_val (pe_callB call_isi (by rfl) T.isinstance (by decide +kernel) (pa_cons (pv 0) (pa_cons (pe_bltn (v := .ty "str") (by rfl) T.str (show bootBuiltins _ = some (.type "str") by decide +kernel) rfl) pa_nil))))
  (pss_one (ps_ret (pe_op (op_catA) (pe_op (op_catA) (pe_tup (pa_cons (C8.pe_gc (by rfl) T.g_TEXT) pa_nil)) (pe_c c_natural hr (by omega) (by rfl) (pa_cons (pe_callB call_len_str (by rfl) T.len (by decide +kernel) (pa_cons (pv 0) pa_nil)) pa_nil))) (Gx.pe_tupleG (Gx.pgen_gx (own := [("sign", 2)]) (g := gName 2) hr1 TB rfl scPack.nd (pi_str (pv 0)) (Gx.gxOk_by (own := [("sign", 2)]) (N := ["value", "depth", "sign", "found", "part"]) (sc := (defScope sPack)) (by decide +kernel)) (fun _ _ _ _ _ _ _ _ _ => (pg_name (i := 2) scPack.nd rfl (Or.inl rfl))) (fun _ _ _ _ _ _ _ _ hr => pts_nil) (fun _ _ _ _ _ _ _ _ hr => (pe_c c_sign_number hr (by omega) (by rfl) (pa_cons (pv 2) pa_nil))) (fun _ => rfl)) hr5 (by rfl) T.tuple))))
  pss_nil)
  (pss_cons (ps_if (pt_val (pe_callB call_isi (by rfl) T.isinstance (by decide +kernel) (pa_cons (pv 0) (pa_cons (pe_bltn (v := .ty "tuple") (by rfl) T.tuple (show bootBuiltins _ = some (.type "tuple") by decide +kernel) rfl) pa_nil))))
  (pss_cons (ps_set (i := 3) scPack.nd rfl (Or.inl rfl) (pe_op (op_catA) (pe_tup (pa_cons (C8.pe_gc (by rfl) T.g_ROW) pa_nil)) (pe_c c_natural hr (by omega) (by rfl) (pa_cons (pe_callB call_len_seq (by rfl) T.len (by decide +kernel) (pa_cons (pv 0) pa_nil)) pa_nil))))
  (pss_cons (ps_for PassesOwn.never rfl (pi_tup (pv 0)) (pg_name (i := 4) scPack.nd rfl (Or.inl rfl))
  (pss_one (ps_aug (i := 3) scPack.nd rfl (Or.inl rfl) (pe_c c_pack_all hr (by omega) (by rfl) (pa_cons (pv 4) (pa_cons (pe_op op_add (pv 1) pe_int) pa_nil))) iop_catA)))
  (pss_one (ps_ret (pv 3)))))
  pss_nil)
  pss_never))))))).nox, ?_⟩


      fail "go"
      refine ite_d (fun q => absurd q (by omega)) fun _ => ?_
      fail "go"
      cases hd with
      | non =>
        fail "go"
        exact k ps _ _ ht hL
      | bl bb =>
        cases bb with
        | true =>
          fail "go"
          exact k ps _ _ ht hL
        | false =>
          fail "go"
          exact k ps _ _ ht hL
      | int j =>
        fail "go"
        refine ⟨_, _, _, _, true, rfl, .ty _, .base (.int j), kit_ty (by decide +kernel), ?_⟩
        fail "go"
        unfold packB at hz
        refine ite_d (fun hj => ?_) fun hj => ?_
        · rw [if_pos hj] at hz
          fail "go"
          obtain ⟨m, rfl⟩ : ∃ m : Nat, j = m := ⟨j.toNat, by omega⟩
          refine ⟨m, _, rfl, hL, by simp only [List.length_cons, Int.toNat_natCast] at hz; omega, fun r H hL => ?_⟩
          refine k_catA (hL.sub (.refl _)) (by simp only [List.length_cons, List.length_map, Int.toNat_natCast, List.length_nil] at hz ⊢; omega) fun r H hL => k ps _ _ ht ?_
          unfold packB
          rw [if_pos hj]
          exact hL
        · rw [if_neg hj] at hz
          fail "go"
          obtain ⟨m, hm1⟩ : ∃ m : Nat, 0 - j - 1 = m := ⟨(0 - j - 1).toNat, by omega⟩
          rw [hm1] at hz
          refine ⟨m, _, congrArg (fun x => [V.int x]) hm1, hL, by simp only [List.length_cons, Int.toNat_natCast] at hz; omega, fun r H hL => ?_⟩
          refine k_catA (hL.sub (.refl _)) (by simp only [List.length_cons, List.length_map, Int.toNat_natCast, List.length_nil] at hz ⊢; omega) fun r H hL => k ps _ _ ht ?_
          unfold packB
          rw [if_neg hj, hm1]
          exact hL
      | str z =>
        fail "go"
        refine ⟨_, _, _, _, false, rfl, .ty _, .base (.str z), kit_ty (by decide +kernel), ?_⟩
        fail "go"
        refine ⟨_, _, _, _, true, rfl, .ty _, .base (.str z), kit_ty (by decide +kernel), ?_⟩
        fail "go"
        unfold packB at hz
        simp only [List.length_cons, List.length_append] at hz
        have hsz : (signs z).length = z.length := by unfold signs; rw [List.length_map, Array.length_toList]; rfl
        refine ⟨by omega, z.length, _, rfl, hL, by omega, fun r H hL => ?_⟩
        refine k_catA (hL.sub (.refl _)) (by simp only [List.length_cons, List.length_map, List.length_nil]; omega) fun r H hL => ?_
        refine ⟨.str z, rfl, z, rfl, ⟨ps, hL.at ⟨1, rfl⟩, ht⟩, fun H2 hT => ?_⟩
        obtain ⟨ps', ht', hL⟩ := Led.tabbed (A := [_]) hL hT
        dsimp only [List.cons_append, List.nil_append, List.append] at hL
        clear hT
        refine Gx.gx_it (walk_str (z := z)) (fun i out H => Hold (out = ((signs z).take i).map V.int ∧ Led H ((r, .tup ([V.int 6] ++ (natB z.length).map V.int)) :: (PN, .tbl ps') :: L))) (.mk ⟨rfl, hL⟩) (fun i out H _ h => True.intro) (fun i x out H H' hi h hy => ?_) (fun out H h => ?_)
        · obtain ⟨rfl, hL⟩ := h.out
          clear h
          obtain ⟨rfl, ch, hc, rfl⟩ := hy
          have hg : (signs z)[i]? = some (Txt.find SIGNS ⟨#[ch]⟩) := by
            unfold signs
            rw [List.getElem?_map, Array.getElem?_toList, hc]
            rfl
          refine ⟨rfl, k_yes ?_⟩
          refine ⟨_, rfl, ⟨#[ch]⟩, rfl, ?_, ?_⟩
          · unfold sendable at hs
            exact (hs ch (List.mem_of_getElem? (by rw [Array.getElem?_toList]; exact hc))).1
          · refine ⟨?_, .mk ⟨?_, hL⟩⟩
            · rw [List.length_map, List.length_take]
              have : z.cps.size = z.length := rfl
              omega
            · rw [List.take_add_one, hg, Option.toList_some, List.map_append]
              rfl
        · obtain ⟨rfl, hL⟩ := h.out
          clear h
          intro q hq
          generalize hH : upd H q _ = H
          replace hL := Led.newH hL hq hH
          have hall : (signs z).take z.cps.size = signs z := by
            rw [List.take_of_length_le]
            rw [hsz]
            exact Nat.le_refl _
          rw [hall] at hL
          refine k_catA (hL.sub (.refl _)) (by simp only [List.length_cons, List.length_map, List.length_nil, List.length_append]; omega) fun r H hL => k ps' _ _ ht' ?_
          unfold packB
          show Led H ((r, .tup (List.map V.int ((6 :: natB z.length) ++ signs z))) :: _)
          rw [List.map_append]
          exact hL
      | @row pr xs dl hp hxs =>
        fail "go"
        refine ⟨_, _, _, _, false, rfl, .ty _, .base (.tup (hL.mem (.tail _ hp))), kit_ty (by decide +kernel), ?_⟩
        fail "go"
        refine ⟨_, _, _, _, false, rfl, .ty _, .base (.tup (hL.mem (.tail _ hp))), kit_ty (by decide +kernel), ?_⟩
        fail "go"
        refine ⟨_, _, _, _, true, rfl, .ty _, .base (.tup (hL.mem (.tail _ hp))), kit_ty (by decide +kernel), ?_⟩
        fail "go"
        refine ⟨_, _, rfl, .inr (.of (hL.mem (.tail _ (.tail _ hp)))), ?_⟩
        have hln := hxs.len
        unfold packB at hz
        simp only [List.length_cons, List.length_append] at hz
        refine ⟨_, _, congrArg (fun x : Nat => [V.int x]) hln, hL, by omega, fun r H hL => ?_⟩
        refine k_catA (hL.sub (.refl _)) (by simp only [List.length_cons, List.length_map, List.length_nil]; omega) fun r H hL => ?_
        fail "go"
        refine ⟨⟨_, .of (hL.mem (.tail _ (.tail _ hp)))⟩, ?_⟩
        rw [deep] at hn h30
        rw [sendable] at hs
        refine for_tupA (xs := xs) (fun i' σ H => Hold (∃ (v2 v4 : Option V) (r : Addr) (ps : Array Value), σ = [some (.ref pr), some (.int i), v2, some (.ref r), v4] ∧ TriplesOk ps.toList ∧ Led H ((r, tI (7 :: (natB dl.length ++ packsB (dl.take i')))) :: (PN, .tbl ps) :: L))) (.mk ⟨_, _, r, ps, rfl, ht, ?_⟩)
          (fun i' σ H _ h => ?_) (fun i' x σ H D' hi h hN => ?_) (fun σ H h => ?_)
        · rw [List.take_zero, packsB, List.append_nil]
          exact hL
        · obtain ⟨v2, v4, r, ps, rfl, ht, hL⟩ := h.out
          exact .of (hL.mem (.tail _ (.tail _ hp)))
        · clear hL ht
          obtain ⟨v2, v4, r, ps, rfl, ht, hL⟩ := h.out
          clear h
          obtain ⟨d, hdi, hdx⟩ := hxs.get hi
          have q1 := deeps_get hdi
          have q2 := packsB_take hdi
          have q3 := packsB_le (ds := dl) (i := i' + 1)
          rw [q2, List.length_append] at q3
          refine ⟨_, rfl, ?_⟩
          fail "go"
          refine ⟨x, i + 1, d, ps, (r, tI (7 :: (natB dl.length ++ packsB (dl.take i')))) :: L, rfl, hL.perm (List.Perm.swap _ _ _), ht, hdx.mono (fun a h => .tail _ h), by omega, by omega, by omega, send_get hs hdi, by omega, fun ps r2 H ht hL => ?_⟩
          refine k_catA (L := (PN, .tbl ps) :: L) (hL.perm (.cons _ (.swap _ _ _))) (by simp only [List.length_cons, List.length_map, List.length_append]; omega) fun r H hL => ?_
          refine hN.nx _ _ (.mk ⟨v2, some x, r, ps, rfl, ht, ?_⟩)
          rw [q2]
          rw [← List.map_append] at hL
          simpa only [List.append_assoc, List.cons_append] using hL
        · obtain ⟨v2, v4, r, ps, rfl, ht, hL⟩ := h.out
          fail "go"
          refine k ps _ _ ht ?_
          rw [hln, List.take_length] at hL
          unfold packB
          exact hL
end
end Sd


set_option linter.unusedVariables false
namespace Sd
open PySem L2
open C8 (Cal Met Mak pe_c pe_mk pe_mt pe_mt0 pss_cut tCut)
set_option linter.unusedSimpArgs false
set_option pp.deepTerms false
set_option pp.deepTerms.threshold 12
set_option hygiene false
local macro_rules | `(tactic| fail "nd") => `(tactic| first | assumption | decide +kernel)
local macro_rules | `(tactic| fail "ix") => `(tactic| first | exact ⟨0, rfl⟩ | exact ⟨1, rfl⟩ | exact ⟨2, rfl⟩ | exact ⟨3, rfl⟩ | exact ⟨4, rfl⟩ | exact ⟨5, rfl⟩ | exact ⟨6, rfl⟩ | exact ⟨7, rfl⟩ | exact ⟨8, rfl⟩ | exact ⟨9, rfl⟩ | exact ⟨10, rfl⟩ | exact ⟨11, rfl⟩ | exact ⟨12, rfl⟩ | exact ⟨13, rfl⟩ | exact ⟨14, rfl⟩ | exact ⟨15, rfl⟩ | exact ⟨16, rfl⟩ | exact ⟨17, rfl⟩ | exact ⟨18, rfl⟩ | assumption)
local macro_rules | `(tactic| fail "up") => `(tactic| first | exact ⟨0, rfl, rfl⟩ | exact ⟨1, rfl, rfl⟩ | exact ⟨2, rfl, rfl⟩ | exact ⟨3, rfl, rfl⟩ | exact ⟨4, rfl, rfl⟩ | exact ⟨5, rfl, rfl⟩ | exact ⟨6, rfl, rfl⟩ | exact ⟨7, rfl, rfl⟩ | exact ⟨8, rfl, rfl⟩ | exact ⟨9, rfl, rfl⟩ | exact ⟨10, rfl, rfl⟩ | exact ⟨11, rfl, rfl⟩ | exact ⟨12, rfl, rfl⟩ | exact ⟨13, rfl, rfl⟩ | exact ⟨14, rfl, rfl⟩ | exact ⟨15, rfl, rfl⟩ | exact ⟨16, rfl, rfl⟩ | assumption)
local macro_rules | `(tactic| fail "lkF") => `(tactic| first | assumption | exact fz_at 0 (by fail "nd") rfl rfl | exact fz_at 1 (by fail "nd") rfl rfl | exact fz_at 2 (by fail "nd") rfl rfl | exact fz_at 3 (by fail "nd") rfl rfl | exact fz_at 4 (by fail "nd") rfl rfl | exact fz_at 5 (by fail "nd") rfl rfl | exact fz_at 6 (by fail "nd") rfl rfl | exact fz_at 7 (by fail "nd") rfl rfl)
local macro_rules | `(tactic| fail "lkD") => `(tactic| first | assumption | exact dz_at 0 (by fail "nd") rfl rfl | exact dz_at 1 (by fail "nd") rfl rfl | exact dz_at 2 (by fail "nd") rfl rfl | exact dz_at 3 (by fail "nd") rfl rfl | exact dz_at 4 (by fail "nd") rfl rfl)
local macro_rules | `(tactic| fail "ptF") => `(tactic| first | assumption | exact fz_put 0 (by fail "nd") rfl (Nat.le_of_ble_eq_true rfl) | exact fz_put 1 (by fail "nd") rfl (Nat.le_of_ble_eq_true rfl) | exact fz_put 2 (by fail "nd") rfl (Nat.le_of_ble_eq_true rfl) | exact fz_put 3 (by fail "nd") rfl (Nat.le_of_ble_eq_true rfl) | exact fz_put 4 (by fail "nd") rfl (Nat.le_of_ble_eq_true rfl) | exact fz_put 5 (by fail "nd") rfl (Nat.le_of_ble_eq_true rfl) | exact fz_put 6 (by fail "nd") rfl (Nat.le_of_ble_eq_true rfl) | exact fz_put 7 (by fail "nd") rfl (Nat.le_of_ble_eq_true rfl) | exact fz_new (by decide +kernel) rfl)
local macro_rules | `(tactic| fail "ptD") => `(tactic| first | assumption | exact dz_put 0 (by fail "nd") rfl (Nat.le_of_ble_eq_true rfl) | exact dz_put 1 (by fail "nd") rfl (Nat.le_of_ble_eq_true rfl) | exact dz_put 2 (by fail "nd") rfl (Nat.le_of_ble_eq_true rfl) | exact dz_put 3 (by fail "nd") rfl (Nat.le_of_ble_eq_true rfl) | exact dz_put 4 (by fail "nd") rfl (Nat.le_of_ble_eq_true rfl))
local macro_rules | `(tactic| fail "sz") => `(tactic| first | assumption | exact (Nat.le_of_ble_eq_true rfl) | omega | decide)
local macro_rules | `(tactic| fail "sd") => `(tactic| first | rfl | assumption | decide | omega | (dsimp only; first | decide | omega) | exact .inr ⟨by decide, by decide⟩ | exact .inl ⟨by decide, by decide⟩ | exact ⟨by omega, by omega⟩ | exact .inl ⟨by omega, by omega⟩ | exact .inr ⟨by omega, by omega⟩ | exact ⟨by omega, by omega, by omega⟩)
local macro_rules | `(tactic| fail "cl") => `(tactic| (clear hH; dsimp only [List.set, List.cons_append, List.nil_append, List.append] at hL))
local macro_rules | `(tactic| fail "gn") => `(tactic| (intro p hp; generalize hH : upd H p _ = H; replace hL := Led.newH hL hp hH; clear hH hp))
local macro_rules | `(tactic| fail "gup") => `(tactic| (generalize hH : upd H _ _ = H; replace hL := Led.upU hL (by fail "up") hH; fail "cl"))
local macro_rules | `(tactic| fail "gmk") => `(tactic| (intro x dx hx hd ne; generalize hH : upd (upd H dx _) x _ = H; replace hL := Led.made hL hx hd ne hH; clear hH hx hd ne))
local macro_rules | `(tactic| fail "v") => `(tactic| refine ⟨_, rfl, ?_⟩)
local macro_rules | `(tactic| fail "i2") => `(tactic| refine ⟨_, _, rfl, rfl, ?_⟩)
local macro_rules | `(tactic| fail "go1") => `(tactic| first
  | refine ⟨_, rfl, ?_⟩
  | refine ⟨_, _, rfl, rfl, ?_⟩
  | refine ⟨_, _, rfl, ?_⟩
  | refine iteT ?_
  | refine iteF ?_
  | refine k_fld hL (by fail "ix") (by assumption) (by assumption) (by fail "lkF") ?_
  | refine k_dgetS hL (by fail "ix") (by fail "lkD") ?_
  | refine k_dgetI hL (by fail "ix") (by assumption) ?_
  | refine k_ixL hL (by fail "ix") (by first | rfl | assumption) ?_
  | refine k_ixT hL (by fail "ix") (by first | rfl | assumption) ?_
  | refine k_tyL hL (by fail "ix") ?_
  | refine k_isd hL (by fail "ix") ?_
  | (refine And.intro (by fail "sz") ?_; fail "gn")
  | refine And.intro (by fail "sd") ?_
  | fail "gn"
  | refine k_meth hL (by fail "ix") (by first | assumption | exact fz_no (by decide +kernel)) ?_
  | refine k_gtup hL (by fail "ix") rfl ?_
  | (refine k_popI hL (by fail "ix") (by assumption) ?_; fail "gup")
  | (refine k_listD hL (by fail "ix") ?_; fail "gn")
  | (refine ⟨_, _, _, _, rfl, rfl, hL.at (by fail "ix"), rfl, ?_⟩; fail "gup")
  | (refine ⟨_, _, _, rfl, rfl, hL.at (by fail "ix"), (by fail "sz"), ?_⟩; fail "gup")
  | (refine ⟨_, _, _, _, rfl, hL.at (by fail "ix"), by assumption, by assumption, Nat.lt_of_le_of_lt fz_len (by decide), ?_⟩; generalize hH : upd H _ _ = H; replace hL := Led.upF hL (by fail "up") (by fail "ptF") hH; fail "cl")
  | (refine ⟨_, _, hL.at (by fail "ix"), Nat.lt_of_le_of_lt fz_len (by decide), ?_⟩; generalize hH : upd H _ _ = H; replace hL := Led.upF hL (by fail "up") (by fail "ptF") hH; fail "cl")
  | (refine k_dputS hL (by fail "ix") (Nat.lt_of_le_of_lt dz_len (by decide)) (by fail "ptD") (by fail "up") ?_; clear hL; intro H hL; dsimp only [List.set, List.cons_append, List.nil_append, List.append] at hL)
  | refine k_lenL2 hL (by fail "ix") ?_
  | refine k_lenT2 hL (by fail "ix") ?_
  | refine .inl ⟨_, rfl, ?_⟩
  | refine .inr ⟨_, rfl, ?_⟩)
local macro_rules | `(tactic| fail "go") => `(tactic| repeat fail "go1")
local macro_rules | `(tactic| fail "pm") => `(tactic| (refine Led.le hL (fun a_ => ?_); simp only [cnt_nil, cnt_cons, cnt_app, List.map_append, List.map_cons, List.map_nil, List.flatMap_append, List.flatMap_cons, List.flatMap_nil, List.append_assoc, List.cons_append, List.nil_append]; omega))

def inCls (st : Stmt) (i : Nat) : Stmt := (C8.clsBody st).getD i (.Pass ⟨0, 0, 0, 0⟩)
abbrev sUInit : Stmt := inCls (top 22) 0
abbrev sUByte : Stmt := inCls (top 22) 1
abbrev sUNat : Stmt := inCls (top 22) 2
abbrev sUVal : Stmt := inCls (top 22) 3
abbrev sUText : Stmt := inCls (top 22) 4
def frameB (bs : List Int) : List Int := fourB bs.length ++ bs ++ sumB bs
def spFrame (PN : Addr) (n : Nat) : Sp := fun vs H Q _ => ∃ (v : V) (d : Dv) (ps : Array Value) (L : Lg), vs = [v] ∧ Led H ((PN, .tbl ps) :: L) ∧ TriplesOk ps.toList ∧ DL L v d ∧ deep d < n ∧ deep d ≤ 30 ∧ sendable d ∧ (packB d).length + 8 ≤ sizeLine ∧
  ∀ (ps' : Array Value) r H', TriplesOk ps'.toList → Led H' ((r, tI (frameB (packB d))) :: (PN, .tbl ps') :: L) → Q (.ref r) H'
def nmU : List Str := ["data", "place", "nesting"]
/-- the unpacker over the bytes at D -/
def uO (CU u dx D : Addr) (i : Nat) (k : Int) : Addr × HO := (u, .ins CU dx (fz nmU [.ref D, .int i, .int k]))
structure TxtU (K : PySem.W.Frag) (mg : Str → Option Value) (CU : Addr) : Prop where
  cl : Cls K CU
  n : ∀ f ∈ nmU, NoAttr K CU f
def spUInit (CU : Addr) : Sp := fun vs H Q _ => ∃ (u dx D : Addr) (bs : List Int) (L : Lg), vs = [.ref u, .ref D] ∧ Led H ((u, .ins CU dx (fz [] [])) :: L) ∧ At L D (tI bs) ∧ ∀ H', Led H' (uO CU u dx D 0 0 :: L) → Q .non H'
def spUByte (CU : Addr) : Sp := fun vs H Q _ => ∃ (u dx D : Addr) (i : Nat) (k b : Int) (bs : List Int) (L : Lg), vs = [.ref u] ∧ Led H (uO CU u dx D i k :: L) ∧ (D, tI bs) ∈ L ∧ bs[i]? = some b ∧ ∀ H', Led H' (uO CU u dx D (i + 1) k :: L) → Q (.int b) H'
def spUNat (CU : Addr) : Sp := fun vs H Q _ => ∃ (u dx D : Addr) (i : Nat) (k : Int) (n : Nat) (bs rest : List Int) (L : Lg), vs = [.ref u] ∧ Led H (uO CU u dx D i k :: L) ∧ (D, tI bs) ∈ L ∧ bs.drop i = natB n ++ rest ∧
  ∀ H', Led H' (uO CU u dx D (i + (natB n).length) k :: L) → Q (.int n) H'
theorem drop_get {α : Type} {bs rest : List α} {i : Nat} {b : α} (h : bs.drop i = b :: rest) : bs[i]? = some b ∧ bs.drop (i + 1) = rest := by
  constructor
  · have := congrArg (fun l => l[0]?) h
    simpa using this
  · have := congrArg List.tail h
    rw [List.tail_drop] at this
    exact this
section
variable {P : Program} {w : World} {K : PySem.W.Frag} {mg : Str → Option Value} {base : Heap} {CU : Addr}
theorem scFrame : FnScope ["value", "data"] ["value"] (defScope sFrame) := ⟨rfl, rfl, rfl, by decide +kernel, rfl, by decide +kernel, by decide +kernel⟩
theorem ok_frame {f : Addr} {fd : FuncData} {PN : Addr} {n : Nat} (F : Fun K "frame" "frame" sFrame f fd) (T : TxtW mg) (c_pack : Cal P w K mg base (5 + n) "pack" (spPack PN n) [.int 0]) (c_four : Cal P w K mg base 1 "four" spFour []) (c_sum_of_bytes : Cal P w K mg base 1 "sum_of_bytes" spSumB []) :
    FnOk P w K mg base CX0 (6 + n) f fd ["value"] (spFrame PN n) := by
  have e6 : 6 + n = (5 + n) + 1 := by omega
  rw [e6]
  refine F.ok scFrame (fun vs H Q E h => ?_) (fun cdv A outer s H vs Q E hr h => ?_)
  · obtain ⟨v, d, ps, L, rfl, _⟩ := h
    rfl
  · obtain ⟨v, d, ps, L, rfl, hL, ht, hd, hn, h30, hs, hz, k⟩ := h
    refine ⟨_, (pss_cons (ps_set (i := 1) scFrame.nd rfl (Or.inl rfl) (pe_c c_pack hr (by omega) (by rfl) (pa_cons (pv 0) pa_nil)))
  (pss_one (ps_ret (pe_op (op_catA) (pe_op (op_catA) (pe_c c_four hr (by omega) (by rfl) (pa_cons (pe_callB call_len_seq (by rfl) T.len (by decide +kernel) (pa_cons (pv 1) pa_nil)) pa_nil)) (pv 1)) (pe_c c_sum_of_bytes hr (by omega) (by rfl) (pa_cons (pv 1) pa_nil)))))), ?_⟩
    fail "go"
    refine ⟨v, 0, d, ps, L, rfl, hL, ht, hd, hn, Int.le_refl _, by omega, hs, by omega, fun ps r H ht hL => ?_⟩
    fail "go"
    refine ⟨_, _, rfl, hL, fun r4 H hL => ?_⟩
    refine ⟨.ref r, rfl, ?_⟩
    refine k_catN hL ⟨0, rfl⟩ ⟨1, rfl⟩ (by exact List.cons_ne_nil _ _) (by simpa using packB_ne) (by simp only [List.length_map]; unfold fourB; simp only [List.length_cons, List.length_nil]; omega) fun rc H hL => ?_
    fail "go"
    refine ⟨r, packB d, _, rfl, hL, ⟨2, rfl⟩, fun rs H hL => ?_⟩
    refine k_catN hL ⟨1, rfl⟩ ⟨0, rfl⟩ (by simp [fourB]) (by exact List.cons_ne_nil _ _) (by simp only [List.length_map, List.length_append]; unfold fourB sumB; simp only [List.length_cons, List.length_nil]; omega) fun rf H hL => k ps _ _ ht ?_
    unfold frameB tI
    rw [List.map_append, List.map_append]
    rw [List.length_map] at hL
    exact hL.sub (.cons_cons _ (.cons _ (.cons _ (.cons _ (.cons _ (.refl _))))))
theorem scUInit : FnScope ["self", "data"] ["self", "data"] (defScope sUInit) := ⟨rfl, rfl, rfl, by decide +kernel, rfl, by decide +kernel, by decide +kernel⟩
theorem ok_UInit {f : Addr} {fd : FuncData} (F : Fun K "__init__" "Unpacker.__init__" sUInit f fd) (X : TxtU K mg CU) (T : TxtW mg) : FnOk P w K mg base CX0 1 f fd ["self", "data"] (spUInit CU) := by
  refine F.ok scUInit (fun vs H Q E h => ?_) (fun cdv A outer s H vs Q E hr h => ?_)
  · obtain ⟨u, dx, D, bs, L, rfl, _⟩ := h
    rfl
  · obtain ⟨u, dx, D, bs, L, rfl, hL, hD, k⟩ := h
    have c1 := X.cl
    have f1 := X.n "data" (by decide +kernel)
    have f2 := X.n "place" (by decide +kernel)
    have f3 := X.n "nesting" (by decide +kernel)
    refine ⟨_, (pss_cons (ps_fld (pv 0) (pe_callTy call_tuple_of (by rfl) T.tuple (by decide +kernel) (pa_cons (pv 1) pa_nil)) rfl)
  (pss_cons (ps_fld (pv 0) pe_int rfl)
  (pss_one (ps_fld (pv 0) pe_int rfl)))), ?_⟩
    fail "go"
    refine ⟨D, _, rfl, .inr ⟨.of (hL.tail.at hD), ?_⟩⟩
    fail "go"
    exact k _ hL
theorem scUByte : FnScope ["self"] ["self"] (defScope sUByte) := ⟨rfl, rfl, rfl, by decide +kernel, rfl, by decide +kernel, by decide +kernel⟩
theorem ok_UByte {f : Addr} {fd : FuncData} (F : Fun K "byte" "Unpacker.byte" sUByte f fd) (X : TxtU K mg CU) (T : TxtW mg) : FnOk P w K mg base CX0 1 f fd ["self"] (spUByte CU) := by
  refine F.ok scUByte (fun vs H Q E h => ?_) (fun cdv A outer s H vs Q E hr h => ?_)
  · obtain ⟨u, dx, D, i, k, b, bs, L, rfl, _⟩ := h
    rfl
  · obtain ⟨u, dx, D, i, kk, b, bs, L, rfl, hL, hD, hb, k⟩ := h
    have c1 := X.cl
    have f1 := X.n "data" (by decide +kernel)
    have f2 := X.n "place" (by decide +kernel)
    refine ⟨_, (pss_cons (ps_if (pt_cmpR op_ge (pe_fld (pv 0) rfl) (pe_callB call_len_seq (by rfl) T.len (by decide +kernel) (pa_cons (pe_fld (pv 0) rfl) pa_nil)) (nomark _))
  pss_never
  pss_nil)
  (pss_cons (ps_fldaug (pv 0) pe_int in_add)
  (pss_one (ps_ret (pe_ix ix_tup (pe_fld (pv 0) rfl) (pe_op op_sub (pe_fld (pv 0) rfl) pe_int) (fun _ _ => rfl)))))), ?_⟩
    dsimp only [uO] at hL
    fail "go"
    refine ⟨D, _, rfl, .inr (.of (hL.tail.mem hD)), ?_⟩
    fail "go"
    obtain ⟨hb1, hb2⟩ := List.getElem?_eq_some_iff.mp hb
    refine ite_d (fun q => absurd q (by rw [List.length_map]; omega)) fun _ => ?_
    fail "go"
    have e1 : ((i : Int) + 1) - 1 = i := by omega
    refine k_ixT hL (at_mem (.tail _ hD)) (v := .int b) (by rw [e1]; exact atI_nat (by rw [List.getElem?_map, hb]; rfl)) ?_
    fail "go"
    exact k _ hL
end
end Sd


set_option linter.unusedVariables false
namespace Sd
open PySem L2
open C8 (Cal Met Mak pe_c pe_mk pe_mt pe_mt0 pss_cut tCut)
set_option linter.unusedSimpArgs false
set_option pp.deepTerms false
set_option pp.deepTerms.threshold 12
set_option hygiene false
local macro_rules | `(tactic| fail "nd") => `(tactic| first | assumption | decide +kernel)
local macro_rules | `(tactic| fail "ix") => `(tactic| first | exact ⟨0, rfl⟩ | exact ⟨1, rfl⟩ | exact ⟨2, rfl⟩ | exact ⟨3, rfl⟩ | exact ⟨4, rfl⟩ | exact ⟨5, rfl⟩ | exact ⟨6, rfl⟩ | exact ⟨7, rfl⟩ | exact ⟨8, rfl⟩ | exact ⟨9, rfl⟩ | exact ⟨10, rfl⟩ | exact ⟨11, rfl⟩ | exact ⟨12, rfl⟩ | exact ⟨13, rfl⟩ | exact ⟨14, rfl⟩ | exact ⟨15, rfl⟩ | exact ⟨16, rfl⟩ | exact ⟨17, rfl⟩ | exact ⟨18, rfl⟩ | assumption)
local macro_rules | `(tactic| fail "up") => `(tactic| first | exact ⟨0, rfl, rfl⟩ | exact ⟨1, rfl, rfl⟩ | exact ⟨2, rfl, rfl⟩ | exact ⟨3, rfl, rfl⟩ | exact ⟨4, rfl, rfl⟩ | exact ⟨5, rfl, rfl⟩ | exact ⟨6, rfl, rfl⟩ | exact ⟨7, rfl, rfl⟩ | exact ⟨8, rfl, rfl⟩ | exact ⟨9, rfl, rfl⟩ | exact ⟨10, rfl, rfl⟩ | exact ⟨11, rfl, rfl⟩ | exact ⟨12, rfl, rfl⟩ | exact ⟨13, rfl, rfl⟩ | exact ⟨14, rfl, rfl⟩ | exact ⟨15, rfl, rfl⟩ | exact ⟨16, rfl, rfl⟩ | assumption)
local macro_rules | `(tactic| fail "lkF") => `(tactic| first | assumption | exact fz_at 0 (by fail "nd") rfl rfl | exact fz_at 1 (by fail "nd") rfl rfl | exact fz_at 2 (by fail "nd") rfl rfl | exact fz_at 3 (by fail "nd") rfl rfl | exact fz_at 4 (by fail "nd") rfl rfl | exact fz_at 5 (by fail "nd") rfl rfl | exact fz_at 6 (by fail "nd") rfl rfl | exact fz_at 7 (by fail "nd") rfl rfl)
local macro_rules | `(tactic| fail "lkD") => `(tactic| first | assumption | exact dz_at 0 (by fail "nd") rfl rfl | exact dz_at 1 (by fail "nd") rfl rfl | exact dz_at 2 (by fail "nd") rfl rfl | exact dz_at 3 (by fail "nd") rfl rfl | exact dz_at 4 (by fail "nd") rfl rfl)
local macro_rules | `(tactic| fail "ptF") => `(tactic| first | assumption | exact fz_put 0 (by fail "nd") rfl (Nat.le_of_ble_eq_true rfl) | exact fz_put 1 (by fail "nd") rfl (Nat.le_of_ble_eq_true rfl) | exact fz_put 2 (by fail "nd") rfl (Nat.le_of_ble_eq_true rfl) | exact fz_put 3 (by fail "nd") rfl (Nat.le_of_ble_eq_true rfl) | exact fz_put 4 (by fail "nd") rfl (Nat.le_of_ble_eq_true rfl) | exact fz_put 5 (by fail "nd") rfl (Nat.le_of_ble_eq_true rfl) | exact fz_put 6 (by fail "nd") rfl (Nat.le_of_ble_eq_true rfl) | exact fz_put 7 (by fail "nd") rfl (Nat.le_of_ble_eq_true rfl) | exact fz_new (by decide +kernel) rfl)
local macro_rules | `(tactic| fail "ptD") => `(tactic| first | assumption | exact dz_put 0 (by fail "nd") rfl (Nat.le_of_ble_eq_true rfl) | exact dz_put 1 (by fail "nd") rfl (Nat.le_of_ble_eq_true rfl) | exact dz_put 2 (by fail "nd") rfl (Nat.le_of_ble_eq_true rfl) | exact dz_put 3 (by fail "nd") rfl (Nat.le_of_ble_eq_true rfl) | exact dz_put 4 (by fail "nd") rfl (Nat.le_of_ble_eq_true rfl))
local macro_rules | `(tactic| fail "sz") => `(tactic| first | assumption | exact (Nat.le_of_ble_eq_true rfl) | omega | decide)
local macro_rules | `(tactic| fail "sd") => `(tactic| first | rfl | assumption | decide | omega | (dsimp only; first | decide | omega) | exact .inr ⟨by decide, by decide⟩ | exact .inl ⟨by decide, by decide⟩ | exact ⟨by omega, by omega⟩ | exact .inl ⟨by omega, by omega⟩ | exact .inr ⟨by omega, by omega⟩ | exact ⟨by omega, by omega, by omega⟩)
local macro_rules | `(tactic| fail "cl") => `(tactic| (clear hH; dsimp only [List.set, List.cons_append, List.nil_append, List.append] at hL))
local macro_rules | `(tactic| fail "gn") => `(tactic| (intro p hp; generalize hH : upd H p _ = H; replace hL := Led.newH hL hp hH; clear hH hp))
local macro_rules | `(tactic| fail "gup") => `(tactic| (generalize hH : upd H _ _ = H; replace hL := Led.upU hL (by fail "up") hH; fail "cl"))
local macro_rules | `(tactic| fail "gmk") => `(tactic| (intro x dx hx hd ne; generalize hH : upd (upd H dx _) x _ = H; replace hL := Led.made hL hx hd ne hH; clear hH hx hd ne))
local macro_rules | `(tactic| fail "v") => `(tactic| refine ⟨_, rfl, ?_⟩)
local macro_rules | `(tactic| fail "i2") => `(tactic| refine ⟨_, _, rfl, rfl, ?_⟩)
local macro_rules | `(tactic| fail "go1") => `(tactic| first
  | refine ⟨_, rfl, ?_⟩
  | refine ⟨_, _, rfl, rfl, ?_⟩
  | refine ⟨_, _, rfl, ?_⟩
  | refine iteT ?_
  | refine iteF ?_
  | refine k_fld hL (by fail "ix") (by assumption) (by assumption) (by fail "lkF") ?_
  | refine k_dgetS hL (by fail "ix") (by fail "lkD") ?_
  | refine k_dgetI hL (by fail "ix") (by assumption) ?_
  | refine k_ixL hL (by fail "ix") (by first | rfl | assumption) ?_
  | refine k_ixT hL (by fail "ix") (by first | rfl | assumption) ?_
  | refine k_tyL hL (by fail "ix") ?_
  | refine k_isd hL (by fail "ix") ?_
  | (refine And.intro (by fail "sz") ?_; fail "gn")
  | refine And.intro (by fail "sd") ?_
  | fail "gn"
  | refine k_meth hL (by fail "ix") (by first | assumption | exact fz_no (by decide +kernel)) ?_
  | refine k_gtup hL (by fail "ix") rfl ?_
  | (refine k_popI hL (by fail "ix") (by assumption) ?_; fail "gup")
  | (refine k_listD hL (by fail "ix") ?_; fail "gn")
  | (refine ⟨_, _, _, _, rfl, rfl, hL.at (by fail "ix"), rfl, ?_⟩; fail "gup")
  | (refine ⟨_, _, _, rfl, rfl, hL.at (by fail "ix"), (by fail "sz"), ?_⟩; fail "gup")
  | (refine ⟨_, _, _, _, rfl, hL.at (by fail "ix"), by assumption, by assumption, Nat.lt_of_le_of_lt fz_len (by decide), ?_⟩; generalize hH : upd H _ _ = H; replace hL := Led.upF hL (by fail "up") (by fail "ptF") hH; fail "cl")
  | (refine ⟨_, _, hL.at (by fail "ix"), Nat.lt_of_le_of_lt fz_len (by decide), ?_⟩; generalize hH : upd H _ _ = H; replace hL := Led.upF hL (by fail "up") (by fail "ptF") hH; fail "cl")
  | (refine k_dputS hL (by fail "ix") (Nat.lt_of_le_of_lt dz_len (by decide)) (by fail "ptD") (by fail "up") ?_; clear hL; intro H hL; dsimp only [List.set, List.cons_append, List.nil_append, List.append] at hL)
  | refine k_lenL2 hL (by fail "ix") ?_
  | refine k_lenT2 hL (by fail "ix") ?_
  | refine .inl ⟨_, rfl, ?_⟩
  | refine .inr ⟨_, rfl, ?_⟩)
local macro_rules | `(tactic| fail "go") => `(tactic| repeat fail "go1")
local macro_rules | `(tactic| fail "pm") => `(tactic| (refine Led.le hL (fun a_ => ?_); simp only [cnt_nil, cnt_cons, cnt_app, List.map_append, List.map_cons, List.map_nil, List.flatMap_append, List.flatMap_cons, List.flatMap_nil, List.append_assoc, List.cons_append, List.nil_append]; omega))

def spUText (CU : Addr) : Sp := fun vs H Q _ => ∃ (u dx D : Addr) (i : Nat) (k : Int) (z : Str) (bs rest : List Int) (L : Lg), vs = [.ref u] ∧ Led H (uO CU u dx D i k :: L) ∧ (D, tI bs) ∈ L ∧ bs.drop i = natB z.length ++ (signs z ++ rest) ∧ (∀ c ∈ z.cps.toList, goodS c) ∧ z.length ≤ sizeLine ∧
  ∀ H', Led H' (uO CU u dx D (i + ((natB z.length).length + (signs z).length)) k :: L) → Q (.str z) H'
section
variable {P : Program} {w : World} {K : PySem.W.Frag} {mg : Str → Option Value} {base : Heap} {CU : Addr}
theorem scUNat : FnScope ["self", "found", "weight", "one"] ["self"] (defScope sUNat) := ⟨rfl, rfl, rfl, by decide +kernel, rfl, by decide +kernel, by decide +kernel⟩
theorem ok_UNat {f : Addr} {fd : FuncData} (F : Fun K "read_natural" "Unpacker.read_natural" sUNat f fd) (X : TxtU K mg CU) (c_Unpacker_byte : Met P w K mg base 1 CU "byte" (spUByte CU) []) : FnOk P w K mg base CX0 2 f fd ["self"] (spUNat CU) := by
  refine F.ok scUNat (fun vs H Q E h => ?_) (fun cdv A outer s H vs Q E hr h => ?_)
  · obtain ⟨u, dx, D, i, k, n, bs, rest, L, rfl, _⟩ := h
    rfl
  · obtain ⟨u, dx, D, i, kk, n, bs, rest, L, rfl, hL, hD, hb, k⟩ := h
    have c1 := X.cl
    refine ⟨_, (pss_cons (ps_asg (pe_tup (pa_cons pe_int (pa_cons pe_int pa_nil))) (pg_tup (by rfl) (pgs_cons (pg_name (i := 1) scUNat.nd rfl (Or.inl rfl)) (pgs_cons (pg_name (i := 2) scUNat.nd rfl (Or.inl rfl)) pgs_nil))))
  (pss_one (ps_while PassesOwn.never (pt_val pe_bl)
  (pss_cons (ps_set (i := 3) scUNat.nd rfl (Or.inl rfl) (pe_mt0 c_Unpacker_byte hr (by decide) (pv 0)))
  (pss_cons (ps_aug (i := 1) scUNat.nd rfl (Or.inl rfl) (pe_op op_mul (pe_op op_mod (pv 3) pe_int) (pv 2)) ip_add)
  (pss_cons (ps_aug (i := 2) scUNat.nd rfl (Or.inl rfl) pe_int iop_mul)
  (pss_one (ps_if (pt_cmpR op_lt (pv 3) pe_int (nomark _))
  (pss_cons (ps_if (PW.pt (pw_and (pt_cmpR op_eq (pv 3) pe_int (nomark _)) (pw_and1 (pt_cmpR op_gt (pv 2) pe_int (nomark _)))))
  pss_never
  pss_nil)
  (pss_one (ps_ret (pv 1))))
  pss_nil)))))))), ?_⟩
    fail "go"
    replace hL := hL.tail
    refine ⟨fun m σ H => Hold (∃ (v3 : Option V) (a wt : Nat) (i' : Nat) , σ = [some (.ref u), some (.int a), some (.int wt), v3] ∧ a + wt * m = n ∧ (wt = 1 ∨ (128 ≤ wt ∧ 1 ≤ m)) ∧ bs.drop i' = natB m ++ rest ∧ i' + (natB m).length = i + (natB n).length ∧ Led H (uO CU u dx D i' kk :: L)), ⟨n, .mk ⟨none, 0, 1, i, rfl, by omega, .inl rfl, hb, rfl, hL⟩⟩, fun m σ H h => ?_⟩
    clear hL
    obtain ⟨v3, a, wt, i', rfl, ha, hw, hb, hi, hL⟩ := h.out
    clear h
    fail "go"
    refine ⟨fun σ' H' => Hold (128 ≤ m ∧ ∃ (v3 : Option V) (a wt : Nat) (i' : Nat) , σ' = [some (.ref u), some (.int a), some (.int wt), v3] ∧ a + wt * (m / 128) = n ∧ (wt = 1 ∨ (128 ≤ wt ∧ 1 ≤ m / 128)) ∧ bs.drop i' = natB (m / 128) ++ rest ∧ i' + (natB (m / 128)).length = i + (natB n).length ∧ Led H' (uO CU u dx D i' kk :: L)), fun σ' H' h => ⟨m / 128, by have := h.out.1; omega, .mk h.out.2⟩, ?_⟩
    refine ⟨_, rfl, u, dx, _, rfl, hL.at ⟨0, rfl⟩, fz_no (by decide +kernel), ?_⟩
    by_cases hm : m < 128
    · rw [natB_lo hm] at hb hi
      obtain ⟨hb1, hb2⟩ := drop_get hb
      refine ⟨u, dx, D, i', kk, m, bs, L, rfl, hL, hD, hb1, fun H hL => ?_⟩
      fail "go"
      refine ite_d (fun _ => ?_) (fun q => absurd q (by omega))
      fail "go"
      have e1 : (a : Int) + (m : Int) % 128 * (wt : Int) = n := by
        rw [Int.emod_eq_of_lt (by omega) (by omega), Int.mul_comm, ← ha]
        push_cast
        rfl
      have hfin : Led H (uO CU u dx D (i + (natB n).length) kk :: L) := by rw [← hi]; exact hL
      refine ite_d (fun q => ?_) (fun q => ?_)
      · have q := V.int.inj q
        have : wt = 1 := by omega
        subst this
        fail "go"
        rw [← e1] at k
        exact k _ hfin
      · fail "go"
        rw [← e1] at k
        exact k _ hfin
    · rw [natB_hi hm] at hb hi
      obtain ⟨hb1, hb2⟩ := drop_get hb
      refine ⟨u, dx, D, i', kk, _, bs, L, rfl, hL, hD, hb1, fun H hL => ?_⟩
      fail "go"
      refine ite_d (fun q => absurd q (by omega)) (fun q => ?_)
      fail "go"
      refine .mk ⟨by omega, some (.int ((128 + m % 128 : Nat) : Int)), a + m % 128 * wt, wt * 128, i' + 1, ?_, ?_, ?_, hb2, ?_, hL⟩
      · have e1 : (((128 + m % 128 : Nat) : Int)) % 128 = (m % 128 : Nat) := by omega
        dsimp only [List.set]
        rw [e1]
        rfl
      · have := Nat.div_add_mod m 128
        rw [← ha]
        calc a + m % 128 * wt + wt * 128 * (m / 128) = a + wt * (128 * (m / 128) + m % 128) := by rw [Nat.mul_add, ← Nat.mul_assoc, Nat.mul_comm (m % 128) wt]; omega
          _ = a + wt * m := by rw [this]
      · right
        omega
      · rw [List.length_cons] at hi; omega
theorem scUText : FnScope ["self", "many", "found", "step", "number"] ["self"] (defScope sUText) := ⟨rfl, rfl, rfl, by decide +kernel, rfl, by decide +kernel, by decide +kernel⟩
theorem ok_UText {f : Addr} {fd : FuncData} (F : Fun K "text" "Unpacker.text" sUText f fd) (X : TxtU K mg CU) (T : TxtW mg) (c_Unpacker_byte : Met P w K mg base 1 CU "byte" (spUByte CU) []) (c_Unpacker_read_natural : Met P w K mg base 2 CU "read_natural" (spUNat CU) []) : FnOk P w K mg base CX0 3 f fd ["self"] (spUText CU) := by
  refine F.ok scUText (fun vs H Q E h => ?_) (fun cdv A outer s H vs Q E hr h => ?_)
  · obtain ⟨u, dx, D, i, k, z, bs, rest, L, rfl, _⟩ := h
    rfl
  · obtain ⟨u, dx, D, i, kk, z, bs, rest, L, rfl, hL, hD, hb, hg, hz, k⟩ := h
    have c1 := X.cl
    have f1 := X.n "data" (by decide +kernel)
    refine ⟨_, (pss_cons (ps_set (i := 1) scUText.nd rfl (Or.inl rfl) (pe_mt0 c_Unpacker_read_natural hr (by decide) (pv 0)))
  (pss_cons (ps_if (pt_cmpR op_gt (pv 1) (pe_callB call_len_seq (by rfl) T.len (by decide +kernel) (pa_cons (pe_fld (pv 0) rfl) pa_nil)) (nomark _))
  pss_never
  pss_nil)
  (pss_cons (ps_set (i := 2) scUText.nd rfl (Or.inl rfl) pe_str)
  (pss_cons (ps_for PassesOwn.never rfl (pi_range1 (by rfl) T.range (pa_cons (pv 1) pa_nil)) (pg_name (i := 3) scUText.nd rfl (Or.inl rfl))
  (pss_cons (ps_set (i := 4) scUText.nd rfl (Or.inl rfl) (pe_mt0 c_Unpacker_byte hr (by decide) (pv 0)))
  (pss_cons (ps_if (pt_cmpR op_ge (pv 4) (pe_callB call_len_str (by rfl) T.len (by decide +kernel) (pa_cons (C8.pe_gc (by rfl) T.g_SIGNS) pa_nil)) (nomark _))
  pss_never
  pss_nil)
  (pss_one (ps_aug (i := 2) scUText.nd rfl (Or.inl rfl) (pe_ix ix_str (C8.pe_gc (by rfl) T.g_SIGNS) (pv 4) (fun _ _ => rfl)) iop_add_str)))))
  (pss_one (ps_ret (pv 2))))))), ?_⟩
    fail "go"
    have hsz : (signs z).length = z.length := by unfold signs; rw [List.length_map, Array.length_toList]; rfl
    refine ⟨u, dx, D, i, kk, z.length, bs, _, L, rfl, hL, hD, hb, fun H hL => ?_⟩
    fail "go"
    dsimp only [uO] at hL
    fail "go"
    refine ⟨D, _, rfl, .inr (.of (hL.tail.mem hD)), ?_⟩
    fail "go"
    have hlen := congrArg List.length hb
    rw [List.length_drop, List.length_append, List.length_append, hsz] at hlen
    refine ite_d (fun q => absurd q (by rw [List.length_map]; omega)) fun _ => ?_
    fail "go"
    refine ⟨Int.lt_of_le_of_lt (Int.ofNat_le.mpr hz) (by decide), ?_⟩
    refine for_rangeA (lo := 0) (n := (z.length : Int).toNat) (fun j σ H => Hold (∃ (v3 v4 : Option V), σ = [some (.ref u), some (.int z.length), some (.str ⟨(z.cps.toList.take j).toArray⟩), v3, v4] ∧ Led H (uO CU u dx D (i + (natB z.length).length + j) kk :: L))) (.mk ⟨_, _, rfl, hL⟩) (fun j σ H D1 hj h hD1 => ?_) (fun σ H h => ?_)
    · clear hL
      obtain ⟨v3, v4, rfl, hL⟩ := h.out
      clear h
      rw [Int.toNat_natCast] at hj
      have hzc : z.cps.size = z.length := rfl
      have hc : z.cps.toList[j]? = some z.cps[j] := by rw [Array.getElem?_toList]; exact Array.getElem?_eq_getElem (by omega)
      obtain ⟨g1, g2⟩ := hg _ (List.mem_of_getElem? hc)
      have hb2 : bs[i + (natB z.length).length + j]? = some (Txt.find SIGNS ⟨#[z.cps[j]]⟩) := by
        have : bs[i + (natB z.length).length + j]? = (bs.drop i)[(natB z.length).length + j]? := by rw [List.getElem?_drop, Nat.add_assoc]
        rw [this, hb, List.getElem?_append_right (by omega), Nat.add_sub_cancel_left, List.getElem?_append_left (by omega)]
        unfold signs
        rw [List.getElem?_map, hc]
        rfl
      refine ⟨_, rfl, u, dx, _, rfl, hL.at ⟨0, rfl⟩, fz_no (by decide +kernel), ?_⟩
      refine ⟨u, dx, D, _, kk, _, bs, L, rfl, hL, hD, hb2, fun H hL => ?_⟩
      fail "go"
      obtain ⟨g3, _⟩ := Array.getElem?_eq_some_iff.mp g2
      have g4 : SIGNS.cps.size = SIGNS.length := rfl
      refine ite_d (fun q => absurd q (by omega)) fun _ => ?_
      fail "go"
      refine ⟨SIGNS, _, z.cps[j], rfl, rfl, by decide, ?_, ?_⟩
      · obtain ⟨fn, hfn⟩ : ∃ fn : Nat, Txt.find SIGNS ⟨#[z.cps[j]]⟩ = fn := ⟨_, (Int.toNat_of_nonneg g1).symm⟩
        rw [hfn] at g2 ⊢
        exact atI_nat (by rw [Array.getElem?_toList]; exact g2)
      · refine ⟨_, _, rfl, rfl, ?_, hD1.nx _ _ (.mk ⟨some (.int (0 + j)), some (.int (Txt.find SIGNS ⟨#[z.cps[j]]⟩)), ?_, hL⟩)⟩
        · have h1 : (⟨(z.cps.toList.take j).toArray⟩ : Str).length = j := by
            show (z.cps.toList.take j).toArray.size = j
            rw [List.size_toArray, List.length_take, Array.length_toList]
            omega
          have h2 : (⟨#[z.cps[j]]⟩ : Str).length = 1 := rfl
          rw [h1, h2]
          omega
        · have h1 : (⟨(z.cps.toList.take j).toArray⟩ : Str) ++ (⟨#[z.cps[j]]⟩ : Str) = ⟨(z.cps.toList.take (j + 1)).toArray⟩ := by
            rw [List.take_add_one, hc]
            show (⟨(z.cps.toList.take j).toArray ++ #[z.cps[j]]⟩ : Str) = _
            simp
          rw [h1]
          rfl
    · obtain ⟨v3, v4, rfl, hL⟩ := h.out
      clear h
      rw [Int.toNat_natCast] at hL
      fail "go"
      have e1 : (⟨(z.cps.toList.take (z.length : Int).toNat).toArray⟩ : Str) = z := by
        rw [Int.toNat_natCast, List.take_of_length_le (by rw [Array.length_toList]; exact Nat.le_refl _), Array.toArray_toList]
      rw [e1]
      refine k _ ?_
      rw [hsz, ← Nat.add_assoc]
      exact hL
end
end Sd


set_option linter.unusedVariables false
namespace Sd
open PySem L2
open C8 (Cal Met Mak pe_c pe_mk pe_mt pe_mt0 pss_cut tCut)
set_option linter.unusedSimpArgs false
set_option pp.deepTerms false
set_option pp.deepTerms.threshold 12
set_option hygiene false
local macro_rules | `(tactic| fail "nd") => `(tactic| first | assumption | decide +kernel)
local macro_rules | `(tactic| fail "ix") => `(tactic| first | exact ⟨0, rfl⟩ | exact ⟨1, rfl⟩ | exact ⟨2, rfl⟩ | exact ⟨3, rfl⟩ | exact ⟨4, rfl⟩ | exact ⟨5, rfl⟩ | exact ⟨6, rfl⟩ | exact ⟨7, rfl⟩ | exact ⟨8, rfl⟩ | exact ⟨9, rfl⟩ | exact ⟨10, rfl⟩ | exact ⟨11, rfl⟩ | exact ⟨12, rfl⟩ | exact ⟨13, rfl⟩ | exact ⟨14, rfl⟩ | exact ⟨15, rfl⟩ | exact ⟨16, rfl⟩ | exact ⟨17, rfl⟩ | exact ⟨18, rfl⟩ | assumption)
local macro_rules | `(tactic| fail "up") => `(tactic| first | exact ⟨0, rfl, rfl⟩ | exact ⟨1, rfl, rfl⟩ | exact ⟨2, rfl, rfl⟩ | exact ⟨3, rfl, rfl⟩ | exact ⟨4, rfl, rfl⟩ | exact ⟨5, rfl, rfl⟩ | exact ⟨6, rfl, rfl⟩ | exact ⟨7, rfl, rfl⟩ | exact ⟨8, rfl, rfl⟩ | exact ⟨9, rfl, rfl⟩ | exact ⟨10, rfl, rfl⟩ | exact ⟨11, rfl, rfl⟩ | exact ⟨12, rfl, rfl⟩ | exact ⟨13, rfl, rfl⟩ | exact ⟨14, rfl, rfl⟩ | exact ⟨15, rfl, rfl⟩ | exact ⟨16, rfl, rfl⟩ | assumption)
local macro_rules | `(tactic| fail "lkF") => `(tactic| first | assumption | exact fz_at 0 (by fail "nd") rfl rfl | exact fz_at 1 (by fail "nd") rfl rfl | exact fz_at 2 (by fail "nd") rfl rfl | exact fz_at 3 (by fail "nd") rfl rfl | exact fz_at 4 (by fail "nd") rfl rfl | exact fz_at 5 (by fail "nd") rfl rfl | exact fz_at 6 (by fail "nd") rfl rfl | exact fz_at 7 (by fail "nd") rfl rfl)
local macro_rules | `(tactic| fail "lkD") => `(tactic| first | assumption | exact dz_at 0 (by fail "nd") rfl rfl | exact dz_at 1 (by fail "nd") rfl rfl | exact dz_at 2 (by fail "nd") rfl rfl | exact dz_at 3 (by fail "nd") rfl rfl | exact dz_at 4 (by fail "nd") rfl rfl)
local macro_rules | `(tactic| fail "ptF") => `(tactic| first | assumption | exact fz_put 0 (by fail "nd") rfl (Nat.le_of_ble_eq_true rfl) | exact fz_put 1 (by fail "nd") rfl (Nat.le_of_ble_eq_true rfl) | exact fz_put 2 (by fail "nd") rfl (Nat.le_of_ble_eq_true rfl) | exact fz_put 3 (by fail "nd") rfl (Nat.le_of_ble_eq_true rfl) | exact fz_put 4 (by fail "nd") rfl (Nat.le_of_ble_eq_true rfl) | exact fz_put 5 (by fail "nd") rfl (Nat.le_of_ble_eq_true rfl) | exact fz_put 6 (by fail "nd") rfl (Nat.le_of_ble_eq_true rfl) | exact fz_put 7 (by fail "nd") rfl (Nat.le_of_ble_eq_true rfl) | exact fz_new (by decide +kernel) rfl)
local macro_rules | `(tactic| fail "ptD") => `(tactic| first | assumption | exact dz_put 0 (by fail "nd") rfl (Nat.le_of_ble_eq_true rfl) | exact dz_put 1 (by fail "nd") rfl (Nat.le_of_ble_eq_true rfl) | exact dz_put 2 (by fail "nd") rfl (Nat.le_of_ble_eq_true rfl) | exact dz_put 3 (by fail "nd") rfl (Nat.le_of_ble_eq_true rfl) | exact dz_put 4 (by fail "nd") rfl (Nat.le_of_ble_eq_true rfl))
local macro_rules | `(tactic| fail "sz") => `(tactic| first | assumption | exact (Nat.le_of_ble_eq_true rfl) | omega | decide)
local macro_rules | `(tactic| fail "sd") => `(tactic| first | rfl | assumption | decide | omega | (dsimp only; first | decide | omega) | exact .inr ⟨by decide, by decide⟩ | exact .inl ⟨by decide, by decide⟩ | exact ⟨by omega, by omega⟩ | exact .inl ⟨by omega, by omega⟩ | exact .inr ⟨by omega, by omega⟩ | exact ⟨by omega, by omega, by omega⟩)
local macro_rules | `(tactic| fail "cl") => `(tactic| (clear hH; dsimp only [List.set, List.cons_append, List.nil_append, List.append] at hL))
local macro_rules | `(tactic| fail "gn") => `(tactic| (intro p hp; generalize hH : upd H p _ = H; replace hL := Led.newH hL hp hH; clear hH hp))
local macro_rules | `(tactic| fail "gup") => `(tactic| (generalize hH : upd H _ _ = H; replace hL := Led.upU hL (by fail "up") hH; fail "cl"))
local macro_rules | `(tactic| fail "gmk") => `(tactic| (intro x dx hx hd ne; generalize hH : upd (upd H dx _) x _ = H; replace hL := Led.made hL hx hd ne hH; clear hH hx hd ne))
local macro_rules | `(tactic| fail "v") => `(tactic| refine ⟨_, rfl, ?_⟩)
local macro_rules | `(tactic| fail "i2") => `(tactic| refine ⟨_, _, rfl, rfl, ?_⟩)
local macro_rules | `(tactic| fail "go1") => `(tactic| first
  | refine ⟨_, rfl, ?_⟩
  | refine ⟨_, _, rfl, rfl, ?_⟩
  | refine ⟨_, _, rfl, ?_⟩
  | refine iteT ?_
  | refine iteF ?_
  | refine k_fld hL (by fail "ix") (by assumption) (by assumption) (by fail "lkF") ?_
  | refine k_dgetS hL (by fail "ix") (by fail "lkD") ?_
  | refine k_dgetI hL (by fail "ix") (by assumption) ?_
  | refine k_ixL hL (by fail "ix") (by first | rfl | assumption) ?_
  | refine k_ixT hL (by fail "ix") (by first | rfl | assumption) ?_
  | refine k_tyL hL (by fail "ix") ?_
  | refine k_isd hL (by fail "ix") ?_
  | (refine And.intro (by fail "sz") ?_; fail "gn")
  | refine And.intro (by fail "sd") ?_
  | fail "gn"
  | refine k_meth hL (by fail "ix") (by first | assumption | exact fz_no (by decide +kernel)) ?_
  | refine k_gtup hL (by fail "ix") rfl ?_
  | (refine k_popI hL (by fail "ix") (by assumption) ?_; fail "gup")
  | (refine k_listD hL (by fail "ix") ?_; fail "gn")
  | (refine ⟨_, _, _, _, rfl, rfl, hL.at (by fail "ix"), rfl, ?_⟩; fail "gup")
  | (refine ⟨_, _, _, rfl, rfl, hL.at (by fail "ix"), (by fail "sz"), ?_⟩; fail "gup")
  | (refine ⟨_, _, _, _, rfl, hL.at (by fail "ix"), by assumption, by assumption, Nat.lt_of_le_of_lt fz_len (by decide), ?_⟩; generalize hH : upd H _ _ = H; replace hL := Led.upF hL (by fail "up") (by fail "ptF") hH; fail "cl")
  | (refine ⟨_, _, hL.at (by fail "ix"), Nat.lt_of_le_of_lt fz_len (by decide), ?_⟩; generalize hH : upd H _ _ = H; replace hL := Led.upF hL (by fail "up") (by fail "ptF") hH; fail "cl")
  | (refine k_dputS hL (by fail "ix") (Nat.lt_of_le_of_lt dz_len (by decide)) (by fail "ptD") (by fail "up") ?_; clear hL; intro H hL; dsimp only [List.set, List.cons_append, List.nil_append, List.append] at hL)
  | refine k_lenL2 hL (by fail "ix") ?_
  | refine k_lenT2 hL (by fail "ix") ?_
  | refine .inl ⟨_, rfl, ?_⟩
  | refine .inr ⟨_, rfl, ?_⟩)
local macro_rules | `(tactic| fail "go") => `(tactic| repeat fail "go1")
local macro_rules | `(tactic| fail "pm") => `(tactic| (refine Led.le hL (fun a_ => ?_); simp only [cnt_nil, cnt_cons, cnt_app, List.map_append, List.map_cons, List.map_nil, List.flatMap_append, List.flatMap_cons, List.flatMap_nil, List.append_assoc, List.cons_append, List.nil_append]; omega))

def spUVal (CU PU : Addr) (n : Nat) : Sp := fun vs H Q _ => ∃ (u dx D : Addr) (i : Nat) (k : Int) (d : Dv) (bs rest : List Int) (ps : Array Value) (L : Lg), vs = [.ref u] ∧ Led H (uO CU u dx D i k :: (PU, .tbl ps) :: L) ∧ TriplesOk ps.toList ∧ (D, tI bs) ∈ L ∧ bs.drop i = packB d ++ rest ∧
  deep d < n ∧ 0 ≤ k ∧ k + deep d ≤ 30 ∧ sendable d ∧ (packB d).length ≤ sizeLine ∧ ∀ (v : V) (Z : Lg) (ps' : Array Value) H', TriplesOk ps'.toList → DL Z v d → Led H' (uO CU u dx D (i + (packB d).length) k :: (PU, .tbl ps') :: (Z ++ L)) → Q v H'
theorem packsB_len {ds : List Dv} : ds.length ≤ (packsB ds).length := by
  induction ds with
  | nil => exact Nat.le_refl _
  | cons d r ih =>
    rw [packsB, List.length_cons, List.length_append]
    have := List.length_pos_iff.mpr (packB_ne (d := d))
    omega
theorem packsB_at {ds : List Dv} {i : Nat} {d : Dv} (h : ds[i]? = some d) : packsB ds = packsB (ds.take i) ++ (packB d ++ packsB (ds.drop (i + 1))) := by
  induction ds generalizing i with
  | nil => simp at h
  | cons e r ih =>
    cases i with
    | zero =>
      rw [List.getElem?_cons_zero] at h
      cases h
      simp [packsB]
    | succ i =>
      rw [List.getElem?_cons_succ] at h
      rw [List.take_succ_cons, List.drop_succ_cons, packsB, packsB, ih h, List.append_assoc]
theorem DLs.snoc {L : Lg} {v : V} {d : Dv} (h : DL L v d) : ∀ {xs : List V} {ds : List Dv}, DLs L xs ds → DLs L (xs ++ [v]) (ds ++ [d])
  | _, _, .nil => .cons h .nil
  | _, _, .cons a b => .cons a (b.snoc h)
section
variable {P : Program} {w : World} {K : PySem.W.Frag} {mg : Str → Option Value} {base : Heap} {CU : Addr}
theorem scUVal : FnScope ["self", "mark", "many", "found", "step"] ["self"] (defScope sUVal) := ⟨rfl, rfl, rfl, by decide +kernel, rfl, by decide +kernel, by decide +kernel⟩
theorem ok_UVal {f c PU : Addr} {oc dV : Value} {od : Option Addr} {osl : Array (Option Value)} {kV doc pm ct : Value} {an : Option Addr}
    (lk : K.lookup f = some ⟨oc, od, .func (PySem.W.fnOf "read_value" "Unpacker.read_value" (defArgs sUVal) (defBody sUVal) (defScope sUVal) dV kV doc pm an (.ref c) ct), osl⟩) (hcd : PySem.W.codeIn K (.ref c) "Unpacker.read_value" = true) (TB : GxR.TabB base mg c PU) (X : TxtU K mg CU) (T : TxtW mg)
    (me : Meth K CU "read_value" f) (b : Binds K (PySem.W.fnOf "read_value" "Unpacker.read_value" (defArgs sUVal) (defBody sUVal) (defScope sUVal) dV kV doc pm an (.ref c) ct) ["self"] [])
    (c_Unpacker_byte : Met P w K mg base 1 CU "byte" (spUByte CU) []) (c_Unpacker_read_natural : Met P w K mg base 2 CU "read_natural" (spUNat CU) []) (c_Unpacker_text : Met P w K mg base 3 CU "text" (spUText CU) []) (n : Nat) :
    FnOk P w K mg base CX0 (4 + 5 * n) f (PySem.W.fnOf "read_value" "Unpacker.read_value" (defArgs sUVal) (defBody sUVal) (defScope sUVal) dV kV doc pm an (.ref c) ct) ["self"] (spUVal CU PU n) := by
  induction n with
  | zero => exact no_ok fun vs H Q E ⟨_, _, _, _, _, _, _, _, _, _, _, _, _, _, _, h, _⟩ => absurd h (Nat.not_lt_zero _)
  | succ n ih =>
    have c_Unpacker_read_value : Met P w K mg base (4 + 5 * n) CU "read_value" (spUVal CU PU n) [] := ⟨_, _, _, [], X.cl, me, ih, b, .nil⟩
    have e9 : 4 + 5 * (n + 1) = (8 + 5 * n) + 1 := by omega
    rw [e9]
    refine fn_of lk hcd scUVal (fun vs H Q E h => ?_) fun A outer s H vs Q E hr h => ?_
    · obtain ⟨u, dx, D, i, k, d, bs, rest, ps, L, rfl, _⟩ := h
      rfl
    · obtain ⟨u, dx, D, i, kk, d, bs, rest, ps, L, rfl, hL, ht, hD, hb, hn, h0, h30, hs, hz, k⟩ := h
      have c1 := X.cl
      have f1 := X.n "data" (by decide +kernel)
      have f3 := X.n "nesting" (by decide +kernel)
      replace hr : Room (8 + 5 * n) _ := hr
      have hr1 : Room ((4 + 5 * n) + 1) _ := hr.mono (by omega)
      have hr5 : Room ((4 + 5 * n) + 1 + 3) _ := hr.mono (by omega)
      refine ⟨_, ((pss_cons (ps_set (i := 1) scUVal.nd rfl (Or.inl rfl) (pe_mt0 c_Unpacker_byte hr (by omega) (pv 0)))
  (pss_cons (ps_if (pt_cmpR op_gt (pe_fld (pv 0) rfl) (C8.pe_gc (by rfl) T.g_MOST_DEEP) (nomark _))
  pss_never
  pss_nil)
  (pss_cons (ps_if (pt_cmpR op_in_seq (pv 1) (pe_tup (pa_cons (C8.pe_gc (by rfl) T.g_NONE) (pa_cons (C8.pe_gc (by rfl) T.g_TRUE) (pa_cons (C8.pe_gc (by rfl) T.g_FALSE) pa_nil)))) (by rfl))
  (pss_one (ps_ret (pe_dget (hu_of hr) (pe_disp (pps_cons (C8.pe_gc (by rfl) T.g_NONE) pe_non (pps_cons (C8.pe_gc (by rfl) T.g_TRUE) pe_bl (pps_cons (C8.pe_gc (by rfl) T.g_FALSE) pe_bl pps_nil))) (by rfl) (by rfl) (fun z => by cases z) (by decide)) (pv 1) (fun _ _ => rfl))))
  pss_nil)
  (pss_cons (ps_if (pt_cmpR op_eq (pv 1) (C8.pe_gc (by rfl) T.g_NUMBER) (nomark _))
  (pss_one (ps_ret (pe_mt0 c_Unpacker_read_natural hr (by omega) (pv 0))))
  pss_nil)
  (pss_cons (ps_if (pt_cmpR op_eq (pv 1) (C8.pe_gc (by rfl) T.g_BELOW) (nomark _))
  (pss_one (ps_ret (pe_op op_sub (pe_op op_sub pe_int (pe_mt0 c_Unpacker_read_natural hr (by omega) (pv 0))) pe_int)))
  pss_nil)
  (pss_cons (ps_if (pt_cmpR op_eq (pv 1) (C8.pe_gc (by rfl) T.g_TEXT) (nomark _))
  (pss_one (ps_ret (pe_mt0 c_Unpacker_text hr (by omega) (pv 0))))
  pss_nil)
  (pss_cons (ps_if (pt_cmpR op_ne (pv 1) (C8.pe_gc (by rfl) T.g_ROW) (nomark _))
  pss_never
  pss_nil)
  (pss_cons (ps_fldaug (pv 0) pe_int in_add)
  (pss_cons (ps_set (i := 2) scUVal.nd rfl (Or.inl rfl) (pe_mt0 c_Unpacker_read_natural hr (by omega) (pv 0)))
  (pss_cons (ps_if (pt_cmpR op_gt (pv 2) (pe_callB call_len_seq (by rfl) T.len (by decide +kernel) (pa_cons (pe_fld (pv 0) rfl) pa_nil)) (nomark _))
  pss_never
  pss_nil)
  (pss_cons (ps_set (i := 3) scUVal.nd rfl (Or.inl rfl) (Gx.pe_tupleG (Gx.pgen_gx (own := [("step", 4)]) (g := gName 4) hr1 TB rfl scUVal.nd (pi_range1 (by rfl) T.range (pa_cons (pv 2) pa_nil)) (Gx.gxOk_by (own := [("step", 4)]) (N := ["self", "mark", "many", "found", "step"]) (sc := (defScope sUVal)) (by decide +kernel)) (fun _ _ _ _ _ _ _ _ _ => (pg_name (i := 4) scUVal.nd rfl (Or.inl rfl))) (fun _ _ _ _ _ _ _ _ hr => pts_nil) (fun _ _ _ _ _ _ _ _ hr => (pe_mt0 c_Unpacker_read_value hr (by omega) (pv 0))) (fun _ => rfl)) hr5 (by rfl) T.tuple))
  (pss_cons (ps_fldaug (pv 0) pe_int in_sub)
  (pss_one (ps_ret (pv 3)))))))))))))))).nox, ?_⟩
      fail "go"
      cases d with
      | non =>
        unfold packB at hb k
        obtain ⟨hb1, hb2⟩ := drop_get hb
        refine ⟨u, dx, D, i, kk, _, bs, _, rfl, hL, .tail _ hD, hb1, fun H hL => ?_⟩
        fail "go"
        dsimp only [uO] at hL
        fail "go"
        refine ite_d (fun q => absurd q (by omega)) fun _ => ?_
        fail "go"
        refine ⟨p, _, rfl, .inr (.of (hL.at ⟨0, rfl⟩)), rfl, rfl, ?_⟩
        refine ⟨true, by decide, ?_⟩
        fail "go"
        refine (show H p = some (.dK []) ∧ _ from ⟨hL.at ⟨0, rfl⟩, [(.inl 1, .non), (.inl 2, .bl true), (.inl 3, .bl false)], rfl, by decide, ?_⟩)
        generalize hH : upd H p _ = H
        replace hL := hL.upU (o' := .dK [(.inl 1, .non), (.inl 2, .bl true), (.inl 3, .bl false)]) ⟨0, rfl, rfl⟩ hH
        clear hH
        dsimp only [List.set] at hL
        refine ⟨_, rfl, ?_⟩
        refine k_dgetI (n := 1) hL ⟨0, rfl⟩ (v := .non) rfl ?_
        exact k _ [] ps _ ht .non (hL.sub (.cons _ (.cons _ (.refl _))))
      | bl bb =>
        cases bb with
        | true =>
          unfold packB at hb k
          obtain ⟨hb1, hb2⟩ := drop_get hb
          refine ⟨u, dx, D, i, kk, _, bs, _, rfl, hL, .tail _ hD, hb1, fun H hL => ?_⟩
          fail "go"
          dsimp only [uO] at hL
          fail "go"
          refine ite_d (fun q => absurd q (by omega)) fun _ => ?_
          fail "go"
          refine ⟨p, _, rfl, .inr (.of (hL.at ⟨0, rfl⟩)), rfl, rfl, ?_⟩
          refine ⟨true, by decide, ?_⟩
          fail "go"
          refine (show H p = some (.dK []) ∧ _ from ⟨hL.at ⟨0, rfl⟩, [(.inl 1, .non), (.inl 2, .bl true), (.inl 3, .bl false)], rfl, by decide, ?_⟩)
          generalize hH : upd H p _ = H
          replace hL := hL.upU (o' := .dK [(.inl 1, .non), (.inl 2, .bl true), (.inl 3, .bl false)]) ⟨0, rfl, rfl⟩ hH
          clear hH
          dsimp only [List.set] at hL
          refine ⟨_, rfl, ?_⟩
          refine k_dgetI (n := 2) hL ⟨0, rfl⟩ (v := .bl true) rfl ?_
          exact k _ [] ps _ ht (.bl true) (hL.sub (.cons _ (.cons _ (.refl _))))
        | false =>
          unfold packB at hb k
          obtain ⟨hb1, hb2⟩ := drop_get hb
          refine ⟨u, dx, D, i, kk, _, bs, _, rfl, hL, .tail _ hD, hb1, fun H hL => ?_⟩
          fail "go"
          dsimp only [uO] at hL
          fail "go"
          refine ite_d (fun q => absurd q (by omega)) fun _ => ?_
          fail "go"
          refine ⟨p, _, rfl, .inr (.of (hL.at ⟨0, rfl⟩)), rfl, rfl, ?_⟩
          refine ⟨true, by decide, ?_⟩
          fail "go"
          refine (show H p = some (.dK []) ∧ _ from ⟨hL.at ⟨0, rfl⟩, [(.inl 1, .non), (.inl 2, .bl true), (.inl 3, .bl false)], rfl, by decide, ?_⟩)
          generalize hH : upd H p _ = H
          replace hL := hL.upU (o' := .dK [(.inl 1, .non), (.inl 2, .bl true), (.inl 3, .bl false)]) ⟨0, rfl, rfl⟩ hH
          clear hH
          dsimp only [List.set] at hL
          refine ⟨_, rfl, ?_⟩
          refine k_dgetI (n := 3) hL ⟨0, rfl⟩ (v := .bl false) rfl ?_
          exact k _ [] ps _ ht (.bl false) (hL.sub (.cons _ (.cons _ (.refl _))))
      | int j =>
        unfold packB at hb k
        by_cases hj : 0 ≤ j
        · rw [if_pos hj] at hb
          rw [if_pos hj] at k
          obtain ⟨hb1, hb2⟩ := drop_get hb
          refine ⟨u, dx, D, i, kk, _, bs, _, rfl, hL, .tail _ hD, hb1, fun H hL => ?_⟩
          fail "go"
          dsimp only [uO] at hL
          fail "go"
          refine ite_d (fun q => absurd q (by omega)) fun _ => ?_
          fail "go"
          refine ⟨p, _, rfl, .inr (.of (hL.at ⟨0, rfl⟩)), rfl, rfl, ?_⟩
          refine ⟨false, by decide, ?_⟩
          fail "go"
          refine ⟨u, dx, D, i + 1, kk, j.toNat, bs, rest, _, rfl, hL.tail, .tail _ hD, hb2, fun H hL => ?_⟩
          have e1 : ((j.toNat : Nat) : Int) = j := Int.toNat_of_nonneg hj
          rw [e1]
          refine k _ [] ps _ ht (.int j) ?_
          rw [List.length_cons, Nat.add_comm _ 1, ← Nat.add_assoc]
          exact hL
        · rw [if_neg hj] at hb
          rw [if_neg hj] at k
          obtain ⟨hb1, hb2⟩ := drop_get hb
          refine ⟨u, dx, D, i, kk, _, bs, _, rfl, hL, .tail _ hD, hb1, fun H hL => ?_⟩
          fail "go"
          dsimp only [uO] at hL
          fail "go"
          refine ite_d (fun q => absurd q (by omega)) fun _ => ?_
          fail "go"
          refine ⟨p, _, rfl, .inr (.of (hL.at ⟨0, rfl⟩)), rfl, rfl, ?_⟩
          refine ⟨false, by decide, ?_⟩
          fail "go"
          refine ⟨u, dx, D, i + 1, kk, (0 - j - 1).toNat, bs, rest, _, rfl, hL.tail, .tail _ hD, hb2, fun H hL => ?_⟩
          fail "go"
          have e1 : 0 - (((0 - j - 1).toNat : Nat) : Int) - 1 = j := by omega
          have q : Q (.int (0 - (((0 - j - 1).toNat : Nat) : Int) - 1)) H := by
            rw [e1]
            refine k _ [] ps _ ht (.int j) ?_
            rw [List.length_cons, Nat.add_comm _ 1, ← Nat.add_assoc]
            exact hL
          exact q
      | str z =>
        have hsz : (signs z).length = z.length := by unfold signs; rw [List.length_map, Array.length_toList]; rfl
        unfold packB at hb k hz
        unfold sendable at hs
        obtain ⟨hb1, hb2⟩ := drop_get hb
        refine ⟨u, dx, D, i, kk, _, bs, _, rfl, hL, .tail _ hD, hb1, fun H hL => ?_⟩
        fail "go"
        dsimp only [uO] at hL
        fail "go"
        refine ite_d (fun q => absurd q (by omega)) fun _ => ?_
        fail "go"
        refine ⟨p, _, rfl, .inr (.of (hL.at ⟨0, rfl⟩)), rfl, rfl, ?_⟩
        refine ⟨false, by decide, ?_⟩
        fail "go"
        refine ⟨u, dx, D, i + 1, kk, z, bs, rest, _, rfl, hL.tail, .tail _ hD, (by rw [hb2, List.append_eq, List.append_assoc]), hs, (by rw [List.length_cons, List.length_append, hsz] at hz; omega), fun H hL => ?_⟩
        refine k _ [] ps _ ht (.str z) ?_
        rw [List.length_cons, Nat.add_comm _ 1, ← Nat.add_assoc, List.length_append]
        exact hL
      | row dl =>
        unfold packB at hb k hz
        rw [deep] at hn h30
        rw [sendable] at hs
        obtain ⟨hb1, hb2⟩ := drop_get hb
        refine ⟨u, dx, D, i, kk, _, bs, _, rfl, hL, .tail _ hD, hb1, fun H hL => ?_⟩
        fail "go"
        dsimp only [uO] at hL
        fail "go"
        refine ite_d (fun q => absurd q (by omega)) fun _ => ?_
        fail "go"
        refine ⟨p, _, rfl, .inr (.of (hL.at ⟨0, rfl⟩)), rfl, rfl, ?_⟩
        refine ⟨false, by decide, ?_⟩
        fail "go"
        refine ⟨u, dx, D, i + 1, kk + 1, dl.length, bs, packsB dl ++ rest, _, rfl, hL.tail, .tail _ hD, by rw [hb2, List.append_eq, List.append_assoc], fun H hL => ?_⟩
        fail "go"
        dsimp only [uO] at hL
        fail "go"
        refine ⟨D, _, rfl, .inr (.of (hL.mem (.tail _ (.tail _ hD)))), ?_⟩
        fail "go"
        have hlen := congrArg List.length hb2
        rw [List.length_drop, List.append_eq, List.length_append, List.length_append] at hlen
        have hpl := packsB_len (ds := dl)
        rw [List.length_cons, List.length_append] at hz
        refine ite_d (fun q => absurd q (by rw [List.length_map]; omega)) fun _ => ?_
        refine ⟨_, rfl, _, rfl, Int.le_trans (show (-(2 ^ 62) : Int) ≤ 0 by decide) (Int.natCast_nonneg _), Int.lt_of_le_of_lt (Int.ofNat_le.mpr (show dl.length ≤ sizeLine by omega)) (show (sizeLine : Int) < 2 ^ 62 by decide), ?_⟩
        refine ⟨⟨ps, hL.at ⟨1, rfl⟩, ht⟩, fun H2 hT => ?_⟩
        obtain ⟨ps1, ht1, hL⟩ := Led.tabbed (A := [_]) hL hT
        dsimp only [List.cons_append, List.nil_append, List.append] at hL
        clear hT ht
        rw [List.append_eq, List.append_assoc] at hb2
        have hb3 : bs.drop (i + 1 + (natB dl.length).length) = packsB dl ++ rest := by
          rw [← List.drop_drop, hb2, List.drop_left]
        refine Gx.gx_it (walk_range (lo := 0) (n := (dl.length : Int).toNat)) (fun j out H => Hold (∃ (Z : Lg) (ps : Array Value), TriplesOk ps.toList ∧ DLs Z out (dl.take j) ∧ out.length = j ∧ Led H (uO CU u dx D (i + 1 + (natB dl.length).length + (packsB (dl.take j)).length) (kk + 1) :: (PU, .tbl ps) :: (Z ++ L)))) (.mk ⟨[], ps1, ht1, .nil, rfl, hL⟩)
          (fun j out H _ h => True.intro) (fun j x out H H' hj h hy => ?_) (fun out H h => ?_)
        · clear hL
          obtain ⟨Z, ps, ht, hdl, hol, hL⟩ := h.out
          clear h
          rw [Int.toNat_natCast] at hj
          obtain ⟨rfl, rfl⟩ := hy
          have hd1 : dl[j]? = some dl[j] := List.getElem?_eq_getElem hj
          have q1 := deeps_get hd1
          have q2 := packsB_take hd1
          have q3 := packsB_le (ds := dl) (i := j + 1)
          rw [q2, List.length_append] at q3
          have hb4 : bs.drop (i + 1 + (natB dl.length).length + (packsB (dl.take j)).length) = packB dl[j] ++ (packsB (dl.drop (j + 1)) ++ rest) := by
            rw [← List.drop_drop, hb3, packsB_at hd1, List.append_assoc, List.append_assoc, List.drop_left]
          refine ⟨rfl, k_yes ?_⟩
          refine ⟨_, rfl, u, dx, _, rfl, hL.at ⟨0, rfl⟩, fz_no (by decide +kernel), ?_⟩
          refine ⟨u, dx, D, _, kk + 1, dl[j], bs, _, ps, Z ++ L, rfl, hL, ht, List.mem_append_right _ hD, hb4, by omega, by omega, by omega, send_get hs hd1, by omega, fun v Z2 ps2 H2 ht2 hv hL => ⟨by omega, .mk ⟨Z2 ++ Z, ps2, ht2, ?_, ?_, ?_⟩⟩⟩
          · rw [List.take_add_one, hd1]
            exact DLs.snoc (hv.mono (fun a h => List.mem_append_left _ h)) (hdl.mono (fun a h => List.mem_append_right _ h))
          · rw [List.length_append, hol]; rfl
          · rw [q2, List.length_append, ← Nat.add_assoc, List.append_assoc]
            exact hL
        · clear hL
          obtain ⟨Z, ps, ht, hdl, hol, hL⟩ := h.out
          clear h
          rw [Int.toNat_natCast, List.take_length] at hdl hL
          intro q hq
          generalize hH : upd H q _ = H
          replace hL := Led.newH hL hq hH
          clear hH hq
          dsimp only [uO] at hL
          fail "go"
          refine k (.ref q) ((q, .tup out) :: Z) ps _ ht (.row (.head _) (hdl.mono fun a h => .tail _ h)) ?_
          have e1 : kk + 1 - 1 = kk := by omega
          have e2 : i + (7 :: (natB dl.length ++ packsB dl)).length = i + 1 + (natB dl.length).length + (packsB dl).length := by
            rw [List.length_cons, List.length_append]; omega
          rw [e1] at hL
          rw [e2]
          exact hL.perm ((List.Perm.swap _ _ _).trans (.cons _ (.swap _ _ _)))
end
end Sd


set_option linter.unusedVariables false
namespace Sd
open PySem L2
open C8 (Cal Met Mak pe_c pe_mk pe_mt pe_mt0 pss_cut tCut)
set_option linter.unusedSimpArgs false
set_option pp.deepTerms false
set_option pp.deepTerms.threshold 12
set_option hygiene false
local macro_rules | `(tactic| fail "nd") => `(tactic| first | assumption | decide +kernel)
local macro_rules | `(tactic| fail "ix") => `(tactic| first | exact ⟨0, rfl⟩ | exact ⟨1, rfl⟩ | exact ⟨2, rfl⟩ | exact ⟨3, rfl⟩ | exact ⟨4, rfl⟩ | exact ⟨5, rfl⟩ | exact ⟨6, rfl⟩ | exact ⟨7, rfl⟩ | exact ⟨8, rfl⟩ | exact ⟨9, rfl⟩ | exact ⟨10, rfl⟩ | exact ⟨11, rfl⟩ | exact ⟨12, rfl⟩ | exact ⟨13, rfl⟩ | exact ⟨14, rfl⟩ | exact ⟨15, rfl⟩ | exact ⟨16, rfl⟩ | exact ⟨17, rfl⟩ | exact ⟨18, rfl⟩ | assumption)
local macro_rules | `(tactic| fail "up") => `(tactic| first | exact ⟨0, rfl, rfl⟩ | exact ⟨1, rfl, rfl⟩ | exact ⟨2, rfl, rfl⟩ | exact ⟨3, rfl, rfl⟩ | exact ⟨4, rfl, rfl⟩ | exact ⟨5, rfl, rfl⟩ | exact ⟨6, rfl, rfl⟩ | exact ⟨7, rfl, rfl⟩ | exact ⟨8, rfl, rfl⟩ | exact ⟨9, rfl, rfl⟩ | exact ⟨10, rfl, rfl⟩ | exact ⟨11, rfl, rfl⟩ | exact ⟨12, rfl, rfl⟩ | exact ⟨13, rfl, rfl⟩ | exact ⟨14, rfl, rfl⟩ | exact ⟨15, rfl, rfl⟩ | exact ⟨16, rfl, rfl⟩ | assumption)
local macro_rules | `(tactic| fail "lkF") => `(tactic| first | assumption | exact fz_at 0 (by fail "nd") rfl rfl | exact fz_at 1 (by fail "nd") rfl rfl | exact fz_at 2 (by fail "nd") rfl rfl | exact fz_at 3 (by fail "nd") rfl rfl | exact fz_at 4 (by fail "nd") rfl rfl | exact fz_at 5 (by fail "nd") rfl rfl | exact fz_at 6 (by fail "nd") rfl rfl | exact fz_at 7 (by fail "nd") rfl rfl)
local macro_rules | `(tactic| fail "lkD") => `(tactic| first | assumption | exact dz_at 0 (by fail "nd") rfl rfl | exact dz_at 1 (by fail "nd") rfl rfl | exact dz_at 2 (by fail "nd") rfl rfl | exact dz_at 3 (by fail "nd") rfl rfl | exact dz_at 4 (by fail "nd") rfl rfl)
local macro_rules | `(tactic| fail "ptF") => `(tactic| first | assumption | exact fz_put 0 (by fail "nd") rfl (Nat.le_of_ble_eq_true rfl) | exact fz_put 1 (by fail "nd") rfl (Nat.le_of_ble_eq_true rfl) | exact fz_put 2 (by fail "nd") rfl (Nat.le_of_ble_eq_true rfl) | exact fz_put 3 (by fail "nd") rfl (Nat.le_of_ble_eq_true rfl) | exact fz_put 4 (by fail "nd") rfl (Nat.le_of_ble_eq_true rfl) | exact fz_put 5 (by fail "nd") rfl (Nat.le_of_ble_eq_true rfl) | exact fz_put 6 (by fail "nd") rfl (Nat.le_of_ble_eq_true rfl) | exact fz_put 7 (by fail "nd") rfl (Nat.le_of_ble_eq_true rfl) | exact fz_new (by decide +kernel) rfl)
local macro_rules | `(tactic| fail "ptD") => `(tactic| first | assumption | exact dz_put 0 (by fail "nd") rfl (Nat.le_of_ble_eq_true rfl) | exact dz_put 1 (by fail "nd") rfl (Nat.le_of_ble_eq_true rfl) | exact dz_put 2 (by fail "nd") rfl (Nat.le_of_ble_eq_true rfl) | exact dz_put 3 (by fail "nd") rfl (Nat.le_of_ble_eq_true rfl) | exact dz_put 4 (by fail "nd") rfl (Nat.le_of_ble_eq_true rfl))
local macro_rules | `(tactic| fail "sz") => `(tactic| first | assumption | exact (Nat.le_of_ble_eq_true rfl) | omega | decide)
local macro_rules | `(tactic| fail "sd") => `(tactic| first | rfl | assumption | decide | omega | (dsimp only; first | decide | omega) | exact .inr ⟨by decide, by decide⟩ | exact .inl ⟨by decide, by decide⟩ | exact ⟨by omega, by omega⟩ | exact .inl ⟨by omega, by omega⟩ | exact .inr ⟨by omega, by omega⟩ | exact ⟨by omega, by omega, by omega⟩)
local macro_rules | `(tactic| fail "cl") => `(tactic| (clear hH; dsimp only [List.set, List.cons_append, List.nil_append, List.append] at hL))
local macro_rules | `(tactic| fail "gn") => `(tactic| (intro p hp; generalize hH : upd H p _ = H; replace hL := Led.newH hL hp hH; clear hH hp))
local macro_rules | `(tactic| fail "gup") => `(tactic| (generalize hH : upd H _ _ = H; replace hL := Led.upU hL (by fail "up") hH; fail "cl"))
local macro_rules | `(tactic| fail "gmk") => `(tactic| (intro x dx hx hd ne; generalize hH : upd (upd H dx _) x _ = H; replace hL := Led.made hL hx hd ne hH; clear hH hx hd ne))
local macro_rules | `(tactic| fail "v") => `(tactic| refine ⟨_, rfl, ?_⟩)
local macro_rules | `(tactic| fail "i2") => `(tactic| refine ⟨_, _, rfl, rfl, ?_⟩)
local macro_rules | `(tactic| fail "go1") => `(tactic| first
  | refine ⟨_, rfl, ?_⟩
  | refine ⟨_, _, rfl, rfl, ?_⟩
  | refine ⟨_, _, rfl, ?_⟩
  | refine iteT ?_
  | refine iteF ?_
  | refine k_fld hL (by fail "ix") (by assumption) (by assumption) (by fail "lkF") ?_
  | refine k_dgetS hL (by fail "ix") (by fail "lkD") ?_
  | refine k_dgetI hL (by fail "ix") (by assumption) ?_
  | refine k_ixL hL (by fail "ix") (by first | rfl | assumption) ?_
  | refine k_ixT hL (by fail "ix") (by first | rfl | assumption) ?_
  | refine k_tyL hL (by fail "ix") ?_
  | refine k_isd hL (by fail "ix") ?_
  | (refine And.intro (by fail "sz") ?_; fail "gn")
  | refine And.intro (by fail "sd") ?_
  | fail "gn"
  | refine k_meth hL (by fail "ix") (by first | assumption | exact fz_no (by decide +kernel)) ?_
  | refine k_gtup hL (by fail "ix") rfl ?_
  | (refine k_popI hL (by fail "ix") (by assumption) ?_; fail "gup")
  | (refine k_listD hL (by fail "ix") ?_; fail "gn")
  | (refine ⟨_, _, _, _, rfl, rfl, hL.at (by fail "ix"), rfl, ?_⟩; fail "gup")
  | (refine ⟨_, _, _, rfl, rfl, hL.at (by fail "ix"), (by fail "sz"), ?_⟩; fail "gup")
  | (refine ⟨_, _, _, _, rfl, hL.at (by fail "ix"), by assumption, by assumption, Nat.lt_of_le_of_lt fz_len (by decide), ?_⟩; generalize hH : upd H _ _ = H; replace hL := Led.upF hL (by fail "up") (by fail "ptF") hH; fail "cl")
  | (refine ⟨_, _, hL.at (by fail "ix"), Nat.lt_of_le_of_lt fz_len (by decide), ?_⟩; generalize hH : upd H _ _ = H; replace hL := Led.upF hL (by fail "up") (by fail "ptF") hH; fail "cl")
  | (refine k_dputS hL (by fail "ix") (Nat.lt_of_le_of_lt dz_len (by decide)) (by fail "ptD") (by fail "up") ?_; clear hL; intro H hL; dsimp only [List.set, List.cons_append, List.nil_append, List.append] at hL)
  | refine k_lenL2 hL (by fail "ix") ?_
  | refine k_lenT2 hL (by fail "ix") ?_
  | refine .inl ⟨_, rfl, ?_⟩
  | refine .inr ⟨_, rfl, ?_⟩)
local macro_rules | `(tactic| fail "go") => `(tactic| repeat fail "go1")
local macro_rules | `(tactic| fail "pm") => `(tactic| (refine Led.le hL (fun a_ => ?_); simp only [cnt_nil, cnt_cons, cnt_app, List.map_append, List.map_cons, List.map_nil, List.flatMap_append, List.flatMap_cons, List.flatMap_nil, List.append_assoc, List.cons_append, List.nil_append]; omega))

def spUnpack (CU PU : Addr) (n : Nat) : Sp := fun vs H Q _ => ∃ (D : Addr) (d : Dv) (ps : Array Value) (L : Lg), vs = [.ref D] ∧ Led H ((PU, .tbl ps) :: L) ∧ TriplesOk ps.toList ∧ (D, tI (packB d)) ∈ L ∧
  deep d < n ∧ deep d ≤ 30 ∧ sendable d ∧ (packB d).length ≤ sizeLine ∧ ∀ (v : V) (Z : Lg) (ps' : Array Value) H', TriplesOk ps'.toList → DL Z v d → Led H' ((PU, .tbl ps') :: (Z ++ L)) → Q v H'
def framesB (ds : List Dv) : List Int := ds.flatMap fun d => frameB (packB d)
def manyB (bs : List Int) : Int := bs.foldl (fun m b => m * 256 + b) 0
/-- what is left behind whole frames -/
def Cut (t : List Int) : Prop := t.length < 8 ∨ (t.length : Int) < 8 + manyB (t.take 4)
def spReadF (CU PU : Addr) (n : Nat) : Sp := fun vs H Q _ => ∃ (D : Addr) (ds : List Dv) (tail : List Int) (ps : Array Value) (L : Lg), vs = [.ref D] ∧ Led H ((PU, .tbl ps) :: L) ∧ TriplesOk ps.toList ∧ (D, tI (framesB ds ++ tail)) ∈ L ∧
  (∀ d ∈ ds, deep d < n ∧ deep d ≤ 30 ∧ sendable d ∧ (packB d).length + 8 ≤ sizeLine) ∧ ds.length < sizeLine ∧ Cut tail ∧
  ∀ (t l : Addr) (vs : List V) (Z : Lg) (ps' : Array Value) H', TriplesOk ps'.toList → DLs Z vs ds → Led H' ((t, .tup [.ref l, .int (framesB ds).length]) :: (l, .lst vs) :: (PU, .tbl ps') :: (Z ++ L)) → Q (.ref t) H'
theorem many_four {n : Int} (h0 : 0 ≤ n) (h1 : n < 4294967296) : manyB (fourB n) = n := by
  unfold manyB fourB
  simp only [List.foldl_cons, List.foldl_nil]
  omega
theorem frames_take {ds : List Dv} {i : Nat} {d : Dv} (h : ds[i]? = some d) : framesB (ds.take (i + 1)) = framesB (ds.take i) ++ frameB (packB d) := by
  unfold framesB
  rw [List.take_add_one, h, List.flatMap_append]
  simp
theorem frames_at {ds : List Dv} {i : Nat} {d : Dv} (h : ds[i]? = some d) : framesB ds = framesB (ds.take i) ++ (frameB (packB d) ++ framesB (ds.drop (i + 1))) := by
  obtain ⟨h1, h2⟩ := List.getElem?_eq_some_iff.mp h
  conv => lhs; rw [← List.take_append_drop i ds, List.drop_eq_getElem_cons h1, h2]
  unfold framesB
  rw [List.flatMap_append, List.flatMap_cons]
theorem frame_len {b : List Int} : (frameB b).length = b.length + 8 := by
  unfold frameB fourB sumB
  simp only [List.length_append, List.length_cons, List.length_nil]
  omega
theorem cut_map {bs : List Int} {a b : Nat} : cutV (bs.map V.int) (some (a : Int)) (some (b : Int)) = ((bs.drop (min a bs.length)).take (min b bs.length - min a bs.length)).map V.int := by
  unfold cutV
  rw [HT.sIx_nat, HT.sIx_nat, List.length_map, List.map_take, List.map_drop]
section
variable {K : PySem.W.Frag} {H : Hp} {L : Lg} {D : Addr} {Q : VK}
/-- t[a:b], not the whole -/
theorem k_cut {bs : List Int} {a b : Nat} (hL : Led H L) (hD : (D, tI bs) ∈ L) (hab : a ≤ b) (hb : b ≤ bs.length) (hn : ¬ (a = 0 ∧ b = bs.length)) (k : ∀ p H', Led H' ((p, tI ((bs.drop a).take (b - a))) :: L) → Q (.ref p) H') :
    rSlT K (.ref D) (some (a : Int)) (some (b : Int)) H Q := by
  refine ⟨D, _, rfl, .of (hL.mem hD), ?_, fun p hp => ?_⟩
  · rw [HT.sIx_nat, HT.sIx_nat, List.length_map]
    omega
  · rw [cut_map, Nat.min_eq_left hb, Nat.min_eq_left (Nat.le_trans hab hb)]
    exact k p _ (hL.new hp)
theorem k_cutE {bs : List Int} {a b : Nat} {x y : Int} (hL : Led H L) (hD : (D, tI bs) ∈ L) (hx : x = a) (hy : y = b) (hab : a ≤ b) (hb : b ≤ bs.length) (hn : ¬ (a = 0 ∧ b = bs.length)) (k : ∀ p H', Led H' ((p, tI ((bs.drop a).take (b - a))) :: L) → Q (.ref p) H') :
    rSlT K (.ref D) (some x) (some y) H Q := by
  subst hx hy
  exact k_cut hL hD hab hb hn k
end
theorem drop_mid {α : Type} {bs x y r : List α} {q : Nat} (h : bs.drop q = x ++ (y ++ r)) : (bs.drop (q + x.length)).take y.length = y := by
  rw [← List.drop_drop, h, List.drop_left, List.take_left]
section
variable {P : Program} {w : World} {K : PySem.W.Frag} {mg : Str → Option Value} {base : Heap} {CU PU : Addr}
theorem scUnpack : FnScope ["data", "unpacker", "found"] ["data"] (defScope sUnpack) := ⟨rfl, rfl, rfl, by decide +kernel, rfl, by decide +kernel, by decide +kernel⟩
theorem ok_unpack {f : Addr} {fd : FuncData} {n : Nat} (F : Fun K "unpack" "unpack" sUnpack f fd) (X : TxtU K mg CU) (T : TxtW mg) (c_Unpacker : Mak P w K mg base 1 "Unpacker" CU (spUInit CU) [])
    (c_Unpacker_read_value : Met P w K mg base (4 + 5 * n) CU "read_value" (spUVal CU PU n) []) : FnOk P w K mg base CX0 (5 + 5 * n) f fd ["data"] (spUnpack CU PU n) := by
  have e6 : 5 + 5 * n = (4 + 5 * n) + 1 := by omega
  rw [e6]
  refine F.ok scUnpack (fun vs H Q E h => ?_) (fun cdv A outer s H vs Q E hr h => ?_)
  · obtain ⟨D, d, ps, L, rfl, _⟩ := h
    rfl
  · obtain ⟨D, d, ps, L, rfl, hL, ht, hD, hn, h30, hs, hz, k⟩ := h
    have c1 := X.cl
    have f1 := X.n "data" (by decide +kernel)
    have f2 := X.n "place" (by decide +kernel)
    refine ⟨_, (pss_cons (ps_set (i := 1) scUnpack.nd rfl (Or.inl rfl) (pe_mk c_Unpacker hr (by omega) (by rfl) (pa_cons (pv 0) pa_nil)))
  (pss_cons (ps_set (i := 2) scUnpack.nd rfl (Or.inl rfl) (pe_mt0 c_Unpacker_read_value hr (by omega) (pv 1)))
  (pss_cons (ps_if (pt_cmpR op_ne (pe_fld (pv 1) rfl) (pe_callB call_len_seq (by rfl) T.len (by decide +kernel) (pa_cons (pe_fld (pv 1) rfl) pa_nil)) (nomark _))
  pss_never
  pss_nil)
  (pss_one (ps_ret (pv 2)))))), ?_⟩
    fail "go"
    fail "gmk"
    refine ⟨x, dx, D, _, _, rfl, hL, at_mem (.tail _ hD), fun H hL => ⟨rfl, ?_⟩⟩
    dsimp only [uO] at hL
    fail "go"
    refine ⟨x, dx, D, 0, 0, d, packB d, [], ps, L, rfl, hL, ht, hD, by simp, hn, Int.le_refl _, by omega, hs, hz, fun v Z ps H ht hv hL => ?_⟩
    dsimp only [uO] at hL
    fail "go"
    refine ⟨D, _, rfl, .inr (.of (hL.mem (.tail _ (.tail _ (List.mem_append_right _ hD))))), ?_⟩
    fail "go"
    refine ite_n (fun z => absurd (by rw [List.length_map, Nat.zero_add]) z) fun _ => ?_
    fail "go"
    exact k _ Z ps _ ht hv hL.tail
theorem scReadF : FnScope ["data", "found", "place", "many", "one", "end"] ["data"] (defScope sReadF) := ⟨rfl, rfl, rfl, by decide +kernel, rfl, by decide +kernel, by decide +kernel⟩
theorem ok_readF {f : Addr} {fd : FuncData} {n : Nat} (F : Fun K "read_frames" "read_frames" sReadF f fd) (T : TxtW mg) (c_unpack : Cal P w K mg base (5 + 5 * n) "unpack" (spUnpack CU PU n) []) (c_sum_of_bytes : Cal P w K mg base 1 "sum_of_bytes" spSumB []) :
    FnOk P w K mg base CX0 (6 + 5 * n) f fd ["data"] (spReadF CU PU n) := by
  have e6 : 6 + 5 * n = (5 + 5 * n) + 1 := by omega
  rw [e6]
  refine F.ok scReadF (fun vs H Q E h => ?_) (fun cdv A outer s H vs Q E hr h => ?_)
  · obtain ⟨D, ds, tail, ps, L, rfl, _⟩ := h
    rfl
  · obtain ⟨D, ds, tail, ps, L, rfl, hL, ht, hD, hds, hzl, hcut, k⟩ := h
    refine ⟨_, (pss_cons (ps_par (i := 1) (j := 2) (by rfl) scReadF.nd rfl rfl (by decide) rfl rfl (pa_cons (pe_lst pa_nil) (pa_cons pe_int pa_nil)) (by rfl))
  (pss_cons (ps_while PassesOwn.never (pt_cmpR op_le (pe_op op_add (pv 2) pe_int) (pe_callB call_len_seq (by rfl) T.len (by decide +kernel) (pa_cons (pv 0) pa_nil)) (nomark _))
  (pss_cons (ps_set (i := 3) scReadF.nd rfl (Or.inl rfl) pe_int)
  (pss_cons (ps_for PassesOwn.never rfl (pi_tup (pe_slice sl_tup (pv 0) (po_some (pv 2)) (po_some (pe_op op_add (pv 2) pe_int)))) (pg_name (i := 4) scReadF.nd rfl (Or.inl rfl))
  (pss_one (ps_set (i := 3) scReadF.nd rfl (Or.inl rfl) (pe_op op_add (pe_op op_mul (pv 3) pe_int) (pv 4)))))
  (pss_cons (ps_set (i := 5) scReadF.nd rfl (Or.inl rfl) (pe_op op_add (pe_op op_add (pe_op op_add (pv 2) pe_int) (pv 3)) pe_int))
  (pss_cons (ps_if (PW.pt (pw_or (pt_cmpR op_gt (pv 5) (pe_callB call_len_seq (by rfl) T.len (by decide +kernel) (pa_cons (pv 0) pa_nil)) (nomark _)) (pw_or1 (pt_cmpR (op_neW hr.units) (pe_c c_sum_of_bytes hr (by omega) (by rfl) (pa_cons (pe_slice sl_tup (pv 0) (po_some (pe_op op_add (pv 2) pe_int)) (po_some (pe_op op_sub (pv 5) pe_int))) pa_nil)) (pe_callTy call_tuple_of (by rfl) T.tuple (by decide +kernel) (pa_cons (pe_slice sl_tup (pv 0) (po_some (pe_op op_sub (pv 5) pe_int)) (po_some (pv 5))) pa_nil)) (nomark _)))))
  (pss_one ps_break)
  pss_nil)
  (pss_cons (ps_try_never (fun _ _ h => h) (pss_one (ps_expr (pe_bm PySem.F.plainAttrs_list PySem.F.slot_list_append PySem.F.type_list_append mt_append (pv 1) (pa_cons (pe_c c_unpack hr (by omega) (by rfl) (pa_cons (pe_slice sl_tup (pv 0) (po_some (pe_op op_add (pv 2) pe_int)) (po_some (pe_op op_sub (pv 5) pe_int))) pa_nil)) pa_nil)))) pss_nil)
  (pss_one (ps_set (i := 2) scReadF.nd rfl (Or.inl rfl) (pv 5)))))))))
  (pss_one (ps_ret (pe_tup (pa_cons (pv 1) (pa_cons (pv 2) pa_nil))))))), ?_⟩
    fail "go"
    refine ⟨fun m σ H => Hold (∃ (j : Nat) (l : Addr) (v3 v4 v5 : Option V) (vs : List V) (Z : Lg) (ps : Array Value), m = ds.length - j ∧ j ≤ ds.length ∧ σ = [some (.ref D), some (.ref l), some (.int (framesB (ds.take j)).length), v3, v4, v5] ∧ TriplesOk ps.toList ∧ DLs Z vs (ds.take j) ∧
      Led H ((l, .lst vs) :: (PU, .tbl ps) :: (Z ++ L))), ⟨_, .mk ⟨0, _, _, _, _, [], [], ps, rfl, Nat.zero_le _, rfl, ht, .nil, hL⟩⟩, fun m σ H h => ?_⟩
    clear hL ht
    obtain ⟨j, l, v3, v4, v5, vs, Z, ps, hm, hj, rfl, ht, hdl, hL⟩ := h.out
    clear h
    have hDm : (D, tI (framesB ds ++ tail)) ∈ (l, HO.lst vs) :: (PU, HO.tbl ps) :: (Z ++ L) := .tail _ (.tail _ (List.mem_append_right _ hD))
    fail "go"
    refine ⟨D, _, rfl, .inr (.of (hL.mem hDm)), ?_⟩
    fail "go"
    have hfin : (framesB (ds.take j)).length = (framesB ds).length → j = ds.length → Q (.ref p) H → Q (.ref p) H := fun _ _ h => h
    clear hfin
    have hlt : (framesB (ds.take j)).length ≤ (framesB ds ++ tail).length := by
      rw [List.length_append]
      have : (framesB (ds.take j)).length ≤ (framesB ds).length := by
        conv => rhs; rw [← List.take_append_drop j ds]
        unfold framesB
        rw [List.flatMap_append, List.length_append]
        exact Nat.le_add_right _ _
      omega
    have hdr : j = ds.length → (framesB ds ++ tail).drop (framesB (ds.take j)).length = tail := fun e => by rw [e, List.take_length, List.drop_left]
    refine ite_d (fun h8 => ?_) (fun h8 => ?_)
    · rw [List.length_map] at h8
      refine ⟨fun σ' H' => Hold (j < ds.length ∧ ∃ (v3 v4 v5 : Option V) (vs : List V) (Z : Lg) (ps : Array Value), σ' = [some (.ref D), some (.ref l), some (.int (framesB (ds.take (j + 1))).length), v3, v4, v5] ∧ TriplesOk ps.toList ∧ DLs Z vs (ds.take (j + 1)) ∧
        Led H' ((l, .lst vs) :: (PU, .tbl ps) :: (Z ++ L))), fun σ' H' h => ?_, ?_⟩
      · obtain ⟨q0, v3, v4, v5, vs, Z, ps, q1, q2, q3, q4⟩ := h.out
        exact ⟨ds.length - (j + 1), by omega, .mk ⟨j + 1, l, v3, v4, v5, vs, Z, ps, rfl, q0, q1, q2, q3, q4⟩⟩
      fail "go"
      refine k_cut (b := (framesB (ds.take j)).length + 4) hL hDm (Nat.le_add_right _ _) (by omega) (by omega) fun p4 H hL => ?_
      rw [Nat.add_sub_cancel_left] at hL
      refine ⟨p4, rfl, ⟨_, .of (hL.at ⟨0, rfl⟩)⟩, ?_⟩
      generalize hq : (framesB (ds.take j)).length = q at *
      generalize h4e : ((framesB ds ++ tail).drop q).take 4 = h4 at hL
      refine for_tupA (xs := h4.map V.int) (fun i σ H => Hold (∃ v4, σ = [some (.ref D), some (.ref l), some (.int q), some (.int (manyB (h4.take i))), v4, v5] ∧ Led H ((p4, tI h4) :: (l, .lst vs) :: (PU, .tbl ps) :: (Z ++ L)))) (.mk ⟨v4, rfl, hL⟩) (fun i σ H _ h => ?_) (fun i x σ H D1 hi h hN => ?_) (fun σ H h => ?_)
      · obtain ⟨v4, rfl, hL⟩ := h.out
        exact .of (hL.at ⟨0, rfl⟩)
      · clear hL
        obtain ⟨v4, rfl, hL⟩ := h.out
        rw [List.getElem?_map] at hi
        obtain ⟨b, hb, rfl⟩ := Option.map_eq_some_iff.mp hi
        fail "go"
        refine hN.nx _ _ (.mk ⟨some (.int b), ?_, hL⟩)
        have : manyB (h4.take (i + 1)) = manyB (h4.take i) * 256 + b := by
          rw [List.take_add_one, hb, Option.toList_some]
          unfold manyB
          rw [List.foldl_append]
          rfl
        rw [this]
        rfl
      · clear hL
        obtain ⟨v4, rfl, hL⟩ := h.out
        clear h
        rw [List.length_map, List.take_length]
        fail "go"
        replace hL := hL.tail
        rcases Nat.lt_or_ge j ds.length with hjl | hjl
        · have hd1 : ds[j]? = some ds[j] := List.getElem?_eq_getElem hjl
          generalize ds[j] = d at hd1
          obtain ⟨d1, d2, d3, d4⟩ := hds d (List.mem_of_getElem? hd1)
          have hat := frames_at hd1
          have hdq : (framesB ds ++ tail).drop q = fourB (packB d).length ++ (packB d ++ (sumB (packB d) ++ (framesB (ds.drop (j + 1)) ++ tail))) := by
            rw [hat, ← hq, List.append_assoc, List.append_assoc, List.drop_left]
            unfold frameB
            simp only [List.append_assoc]
          have h4f : h4 = fourB (packB d).length := by
            rw [← h4e, hdq]
            exact List.take_left' rfl
          have hmany : manyB h4 = (packB d).length := by
            rw [h4f]
            refine many_four (Int.natCast_nonneg _) ?_
            have : sizeLine < 4294967296 := by decide
            omega
          have hblen : (framesB ds ++ tail).length = q + ((packB d).length + 8 + ((framesB (ds.drop (j + 1))).length + tail.length)) := by
            have := congrArg List.length hdq
            rw [List.length_drop] at this
            simp only [List.length_append] at this
            simp only [fourB, sumB, List.length_cons, List.length_nil] at this
            simp only [List.length_append] at hlt ⊢
            omega
          rw [hmany]
          refine ⟨D, _, rfl, .inr (.of (hL.mem hDm)), ?_⟩
          fail "go"
          refine ite_d (fun z => absurd z (by rw [List.length_map]; omega)) fun _ => ?_
          have hs1 : ((framesB ds ++ tail).drop (q + 4)).take (packB d).length = packB d := drop_mid (x := fourB (packB d).length) hdq
          have hs2 : ((framesB ds ++ tail).drop (q + 4 + (packB d).length)).take 4 = sumB (packB d) := by
            refine drop_mid (x := packB d) (y := sumB (packB d)) (r := framesB (ds.drop (j + 1)) ++ tail) ?_
            rw [← List.drop_drop, hdq]
            exact List.drop_left' rfl
          fail "go"
          refine k_cutE (a := q + 4) (b := q + 4 + (packB d).length) hL hDm (by omega) (by push_cast; omega) (by omega) (by omega) (by omega) fun p5 H hL => ?_
          rw [Nat.add_sub_cancel_left, hs1] at hL
          fail "go"
          refine ⟨p5, packB d, _, rfl, hL, ⟨0, rfl⟩, fun r6 H hL => ?_⟩
          fail "go"
          refine k_cutE (a := q + 4 + (packB d).length) (b := q + 4 + (packB d).length + 4) hL (.tail _ (.tail _ hDm)) (by push_cast; omega) (by push_cast; omega) (by omega) (by omega) (by omega) fun p7 H hL => ?_
          rw [Nat.add_sub_cancel_left, hs2] at hL
          fail "go"
          refine ⟨p7, _, rfl, .inr ⟨.of (hL.at ⟨0, rfl⟩), ?_⟩⟩
          refine k_neW 1 (by decide) (hL.at ⟨1, rfl⟩) (hL.at ⟨0, rfl⟩) (ew_flats (n := 0) fun x hx => ?_) ?_
          · obtain ⟨i, _, rfl⟩ := List.mem_map.mp hx
            rfl
          fail "go"
          replace hL := hL.tail.tail.tail
          refine k_cutE (a := q + 4) (b := q + 4 + (packB d).length) hL hDm (by omega) (by push_cast; omega) (by omega) (by omega) (by omega) fun p8 H hL => ?_
          rw [Nat.add_sub_cancel_left, hs1] at hL
          fail "go"
          refine ⟨p8, d, ps, (p8, tI (packB d)) :: (l, .lst vs) :: (Z ++ L), rfl, hL.perm ((List.Perm.cons _ (.swap _ _ _)).trans (.swap _ _ _)), ht, .head _, d1, d2, d3, by omega, fun v Z2 ps2 H ht2 hv hL => ?_⟩
          have hL' : Led H ((l, .lst vs) :: (PU, .tbl ps2) :: ((Z2 ++ Z) ++ L)) := by fail "pm"
          clear hL
          have hL := hL'
          clear hL'
          fail "go"
          refine ⟨l, _, _, rfl, rfl, hL.at ⟨0, rfl⟩, ?_, ?_⟩
          · rw [hdl.len, List.length_take]; omega
          fail "gup"
          fail "go"
          have e9 : (((framesB (ds.take (j + 1))).length : Nat) : Int) = (q : Int) + 4 + (packB d).length + 4 := by
            rw [frames_take hd1, List.length_append, hq, frame_len]
            push_cast
            omega
          refine .mk ⟨hjl, some (.int (packB d).length), v4, some (.int ((q : Int) + 4 + (packB d).length + 4)), vs ++ [v], Z2 ++ Z, ps2, ?_, ht2, ?_, hL⟩
          · rw [e9]
            rfl
          · rw [List.take_add_one, hd1]
            exact DLs.snoc (hv.mono (fun a h => List.mem_append_left _ h)) (hdl.mono (fun a h => List.mem_append_right _ h))
        · have hjd : j = ds.length := by omega
          have hdt := hdr hjd
          rw [hdt] at h4e
          refine ⟨D, _, rfl, .inr (.of (hL.mem hDm)), ?_⟩
          fail "go"
          have hbl : (framesB ds ++ tail).length = q + tail.length := by
            have := congrArg List.length hdt
            rw [List.length_drop] at this
            omega
          refine ite_d (fun _ => ?_) (fun z => ?_)
          · fail "go"
            rw [hjd, List.take_length] at hdl hq
            rw [← hq] at hL
            exact k _ _ vs Z ps _ ht hdl hL
          · exfalso
            rw [List.length_map, hbl] at z
            rw [hbl] at h8
            rcases hcut with h | h
            · omega
            · rw [h4e] at h
              omega
    · rw [List.length_map] at h8
      have hjd : j = ds.length := by
        rcases Nat.lt_or_ge j ds.length with h | h
        · have := frames_at (List.getElem?_eq_getElem h)
          have := congrArg List.length this
          rw [List.length_append, List.length_append, frame_len] at this
          rw [List.length_append] at h8
          omega
        · omega
      rw [hjd, List.take_length] at hdl
      fail "go"
      rw [hjd, List.take_length] at hL
      exact k _ _ vs Z ps _ ht hdl hL
end
end Sd


set_option linter.unusedVariables false
namespace Sd
open PySem L2
open C8 (Cal Met Mak pe_c pe_mk pe_mt pe_mt0 pss_cut tCut)
set_option linter.unusedSimpArgs false
set_option pp.deepTerms false
set_option pp.deepTerms.threshold 12
set_option hygiene false
local macro_rules | `(tactic| fail "nd") => `(tactic| first | assumption | decide +kernel)
local macro_rules | `(tactic| fail "ix") => `(tactic| first | exact ⟨0, rfl⟩ | exact ⟨1, rfl⟩ | exact ⟨2, rfl⟩ | exact ⟨3, rfl⟩ | exact ⟨4, rfl⟩ | exact ⟨5, rfl⟩ | exact ⟨6, rfl⟩ | exact ⟨7, rfl⟩ | exact ⟨8, rfl⟩ | exact ⟨9, rfl⟩ | exact ⟨10, rfl⟩ | exact ⟨11, rfl⟩ | exact ⟨12, rfl⟩ | exact ⟨13, rfl⟩ | exact ⟨14, rfl⟩ | exact ⟨15, rfl⟩ | exact ⟨16, rfl⟩ | exact ⟨17, rfl⟩ | exact ⟨18, rfl⟩ | assumption)
local macro_rules | `(tactic| fail "up") => `(tactic| first | exact ⟨0, rfl, rfl⟩ | exact ⟨1, rfl, rfl⟩ | exact ⟨2, rfl, rfl⟩ | exact ⟨3, rfl, rfl⟩ | exact ⟨4, rfl, rfl⟩ | exact ⟨5, rfl, rfl⟩ | exact ⟨6, rfl, rfl⟩ | exact ⟨7, rfl, rfl⟩ | exact ⟨8, rfl, rfl⟩ | exact ⟨9, rfl, rfl⟩ | exact ⟨10, rfl, rfl⟩ | exact ⟨11, rfl, rfl⟩ | exact ⟨12, rfl, rfl⟩ | exact ⟨13, rfl, rfl⟩ | exact ⟨14, rfl, rfl⟩ | exact ⟨15, rfl, rfl⟩ | exact ⟨16, rfl, rfl⟩ | assumption)
local macro_rules | `(tactic| fail "lkF") => `(tactic| first | assumption | exact fz_at 0 (by fail "nd") rfl rfl | exact fz_at 1 (by fail "nd") rfl rfl | exact fz_at 2 (by fail "nd") rfl rfl | exact fz_at 3 (by fail "nd") rfl rfl | exact fz_at 4 (by fail "nd") rfl rfl | exact fz_at 5 (by fail "nd") rfl rfl | exact fz_at 6 (by fail "nd") rfl rfl | exact fz_at 7 (by fail "nd") rfl rfl)
local macro_rules | `(tactic| fail "lkD") => `(tactic| first | assumption | exact dz_at 0 (by fail "nd") rfl rfl | exact dz_at 1 (by fail "nd") rfl rfl | exact dz_at 2 (by fail "nd") rfl rfl | exact dz_at 3 (by fail "nd") rfl rfl | exact dz_at 4 (by fail "nd") rfl rfl)
local macro_rules | `(tactic| fail "ptF") => `(tactic| first | assumption | exact fz_put 0 (by fail "nd") rfl (Nat.le_of_ble_eq_true rfl) | exact fz_put 1 (by fail "nd") rfl (Nat.le_of_ble_eq_true rfl) | exact fz_put 2 (by fail "nd") rfl (Nat.le_of_ble_eq_true rfl) | exact fz_put 3 (by fail "nd") rfl (Nat.le_of_ble_eq_true rfl) | exact fz_put 4 (by fail "nd") rfl (Nat.le_of_ble_eq_true rfl) | exact fz_put 5 (by fail "nd") rfl (Nat.le_of_ble_eq_true rfl) | exact fz_put 6 (by fail "nd") rfl (Nat.le_of_ble_eq_true rfl) | exact fz_put 7 (by fail "nd") rfl (Nat.le_of_ble_eq_true rfl) | exact fz_new (by decide +kernel) rfl)
local macro_rules | `(tactic| fail "ptD") => `(tactic| first | assumption | exact dz_put 0 (by fail "nd") rfl (Nat.le_of_ble_eq_true rfl) | exact dz_put 1 (by fail "nd") rfl (Nat.le_of_ble_eq_true rfl) | exact dz_put 2 (by fail "nd") rfl (Nat.le_of_ble_eq_true rfl) | exact dz_put 3 (by fail "nd") rfl (Nat.le_of_ble_eq_true rfl) | exact dz_put 4 (by fail "nd") rfl (Nat.le_of_ble_eq_true rfl))
local macro_rules | `(tactic| fail "sz") => `(tactic| first | assumption | exact (Nat.le_of_ble_eq_true rfl) | omega | decide)
local macro_rules | `(tactic| fail "sd") => `(tactic| first | rfl | assumption | decide | omega | (dsimp only; first | decide | omega) | exact .inr ⟨by decide, by decide⟩ | exact .inl ⟨by decide, by decide⟩ | exact ⟨by omega, by omega⟩ | exact .inl ⟨by omega, by omega⟩ | exact .inr ⟨by omega, by omega⟩ | exact ⟨by omega, by omega, by omega⟩)
local macro_rules | `(tactic| fail "cl") => `(tactic| (clear hH; dsimp only [List.set, List.cons_append, List.nil_append, List.append] at hL))
local macro_rules | `(tactic| fail "gn") => `(tactic| (intro p hp; generalize hH : upd H p _ = H; replace hL := Led.newH hL hp hH; clear hH hp))
local macro_rules | `(tactic| fail "gup") => `(tactic| (generalize hH : upd H _ _ = H; replace hL := Led.upU hL (by fail "up") hH; fail "cl"))
local macro_rules | `(tactic| fail "gmk") => `(tactic| (intro x dx hx hd ne; generalize hH : upd (upd H dx _) x _ = H; replace hL := Led.made hL hx hd ne hH; clear hH hx hd ne))
local macro_rules | `(tactic| fail "v") => `(tactic| refine ⟨_, rfl, ?_⟩)
local macro_rules | `(tactic| fail "i2") => `(tactic| refine ⟨_, _, rfl, rfl, ?_⟩)
local macro_rules | `(tactic| fail "go1") => `(tactic| first
  | refine ⟨_, rfl, ?_⟩
  | refine ⟨_, _, rfl, rfl, ?_⟩
  | refine ⟨_, _, rfl, ?_⟩
  | refine iteT ?_
  | refine iteF ?_
  | refine k_fld hL (by fail "ix") (by assumption) (by assumption) (by fail "lkF") ?_
  | refine k_dgetS hL (by fail "ix") (by fail "lkD") ?_
  | refine k_dgetI hL (by fail "ix") (by assumption) ?_
  | refine k_ixL hL (by fail "ix") (by first | rfl | assumption) ?_
  | refine k_ixT hL (by fail "ix") (by first | rfl | assumption) ?_
  | refine k_tyL hL (by fail "ix") ?_
  | refine k_isd hL (by fail "ix") ?_
  | (refine And.intro (by fail "sz") ?_; fail "gn")
  | refine And.intro (by fail "sd") ?_
  | fail "gn"
  | refine k_meth hL (by fail "ix") (by first | assumption | exact fz_no (by decide +kernel)) ?_
  | refine k_gtup hL (by fail "ix") rfl ?_
  | (refine k_popI hL (by fail "ix") (by assumption) ?_; fail "gup")
  | (refine k_listD hL (by fail "ix") ?_; fail "gn")
  | (refine ⟨_, _, _, _, rfl, rfl, hL.at (by fail "ix"), rfl, ?_⟩; fail "gup")
  | (refine ⟨_, _, _, rfl, rfl, hL.at (by fail "ix"), (by fail "sz"), ?_⟩; fail "gup")
  | (refine ⟨_, _, _, _, rfl, hL.at (by fail "ix"), by assumption, by assumption, Nat.lt_of_le_of_lt fz_len (by decide), ?_⟩; generalize hH : upd H _ _ = H; replace hL := Led.upF hL (by fail "up") (by fail "ptF") hH; fail "cl")
  | (refine ⟨_, _, hL.at (by fail "ix"), Nat.lt_of_le_of_lt fz_len (by decide), ?_⟩; generalize hH : upd H _ _ = H; replace hL := Led.upF hL (by fail "up") (by fail "ptF") hH; fail "cl")
  | (refine k_dputS hL (by fail "ix") (Nat.lt_of_le_of_lt dz_len (by decide)) (by fail "ptD") (by fail "up") ?_; clear hL; intro H hL; dsimp only [List.set, List.cons_append, List.nil_append, List.append] at hL)
  | refine k_lenL2 hL (by fail "ix") ?_
  | refine k_lenT2 hL (by fail "ix") ?_
  | refine .inl ⟨_, rfl, ?_⟩
  | refine .inr ⟨_, rfl, ?_⟩)
local macro_rules | `(tactic| fail "go") => `(tactic| repeat fail "go1")
local macro_rules | `(tactic| fail "pm") => `(tactic| (refine Led.le hL (fun a_ => ?_); simp only [cnt_nil, cnt_cons, cnt_app, List.map_append, List.map_cons, List.map_nil, List.flatMap_append, List.flatMap_cons, List.flatMap_nil, List.append_assoc, List.cons_append, List.nil_append]; omega))

section
variable {X : Cx} {k j : Nat} {C : Addr} {m : Str} {sp : Sp} {dvs : List V} {pos apos : Pos} {o : Expr} {ta : TE} {E : XK}
theorem pe_mtX0 {pl : Sem Bool} (c : MetX X.prog X.w X.K X.mg X.base k C m sp dvs) (hr : Room j X.A) (hk : k ≤ j) (tk : Takes X (fun cls d _ H => E cls d H)) (he : PE X o ta)
    (ht : eval (.Call (.Attribute o m apos) [] [] pos) X.env = (do
      let ov ← eval o X.env
      standAt apos.atName
      let (f, first) ← holding [ov] (getMethod ov m pl)
      callWith pos f first (backTo pos (starEach [] X.env)) (backToKw pos (keywordEach [] X.env))) := by rfl) :
    PE X (.Call (.Attribute o m apos) [] [] pos) (tMeth C m sp dvs E ta tNil) := by
  obtain ⟨f, fd, ps, ds, hc, hm, F, b, d⟩ := c.ex
  exact pe_meth0 (pl := pl) he hc hm F (hr.mono hk) b d (passes_call tk fun _ _ _ _ h => h) ht
end
abbrev sDInit : Stmt := inCls (top 29) 0
abbrev sArm : Stmt := inCls (top 29) 1
abbrev sNeed : Stmt := inCls (top 29) 2
abbrev sDApp : Stmt := inCls (top 29) 3
abbrev sSync : Stmt := inCls (top 29) 4
abbrev sRecs : Stmt := inCls (top 29) 5
abbrev sRepl : Stmt := inCls (top 29) 6
abbrev sRFile : Stmt := inCls (top 29) 7
abbrev sCrash : Stmt := inCls (top 29) 8
abbrev sRest : Stmt := inCls (top 29) 9
def nmD : List Str := ["kept", "waiting", "files", "syncs", "fuse", "down"]
structure TxtDk (K : PySem.W.Frag) (CD : Addr) : Prop where
  cl : Cls K CD
  n : ∀ f ∈ nmD, NoAttr K CD f
/-- a file: its name, its place, its bytes -/
abbrev FilE := Str × (Addr × List Int)
def filV (e : FilE) : V := .ref e.2.1
def filO (e : FilE) : Addr × HO := (e.2.1, tI e.2.2)
/-- a disk -/
structure DkS where
  kb : List Int
  wb : List Int
  fs : List FilE
  sy : Int
  fu : Option Int
  dn : Bool
def fuV : Option Int → V
  | none => .non
  | some i => .int i
def dkO (CD x dx K W F : Addr) (s : DkS) : Addr × HO := (x, .ins CD dx (fz nmD [.ref K, .ref W, .ref F, .int s.sy, fuV s.fu, .bl s.dn]))
def dkL (CD x dx K W F : Addr) (s : DkS) : Lg := dkO CD x dx K W F s :: (K, tI s.kb) :: (W, tI s.wb) :: (F, .dK (s.fs.map (kk filV))) :: s.fs.map filO
/-- the disk does its step -/
def DkS.up (s : DkS) : Bool := !s.dn && !decide (s.fu = some 0)
def DkS.step (s : DkS) : DkS := { s with fu := s.fu.map (· - 1) }
def DkS.fall (s : DkS) : DkS := { s with dn := true }
def spDInit (CD : Addr) : Sp := fun vs H Q _ => ∃ (x dx : Addr) (L : Lg), vs = [.ref x] ∧ Led H ((x, .ins CD dx (fz [] [])) :: L) ∧ ∀ (K W F : Addr) H', Led H' (dkL CD x dx K W F ⟨[], [], [], 0, none, false⟩ ++ L) → Q .non H'
def spArm (CD : Addr) : Sp := fun vs H Q _ => ∃ (x dx K W F : Addr) (s : DkS) (i : Int) (L : Lg), vs = [.ref x, .int i] ∧ Led H (dkL CD x dx K W F s ++ L) ∧ ∀ H', Led H' (dkL CD x dx K W F { s with fu := some i } ++ L) → Q .non H'
def spNeed (CD CE : Addr) : Sp := fun vs H Q E => ∃ (x dx K W F : Addr) (s : DkS) (L : Lg), vs = [.ref x] ∧ Led H (dkL CD x dx K W F s ++ L) ∧ (s.up = true → ∀ H', Led H' (dkL CD x dx K W F s.step ++ L) → Q .non H') ∧
  (s.up = false → ∀ H', Led H' (dkL CD x dx K W F s.fall ++ L) → E (.ref CE) none H')
section
variable {P : Program} {w : World} {K : PySem.W.Frag} {mg : Str → Option Value} {base : Heap} {CD CE : Addr}
theorem scDInit : FnScope ["self"] ["self"] (defScope sDInit) := ⟨rfl, rfl, rfl, by decide +kernel, rfl, by decide +kernel, by decide +kernel⟩
theorem ok_DInit {f : Addr} {fd : FuncData} (F : Fun K "__init__" "Disk.__init__" sDInit f fd) (X : TxtDk K CD) : FnOk P w K mg base CX0 1 f fd ["self"] (spDInit CD) := by
  refine F.ok scDInit (fun vs H Q E h => ?_) (fun cdv A outer s H vs Q E hr h => ?_)
  · obtain ⟨x, dx, L, rfl, _⟩ := h
    rfl
  · obtain ⟨x, dx, L, rfl, hL, k⟩ := h
    have c1 := X.cl
    have f1 := X.n "kept" (by decide +kernel)
    have f2 := X.n "waiting" (by decide +kernel)
    have f3 := X.n "files" (by decide +kernel)
    have f4 := X.n "syncs" (by decide +kernel)
    have f5 := X.n "fuse" (by decide +kernel)
    have f6 := X.n "down" (by decide +kernel)
    refine ⟨_, (pss_cons (ps_fld (pv 0) (pe_tup pa_nil) rfl)
  (pss_cons (ps_fld (pv 0) (pe_tup pa_nil) rfl)
  (pss_cons (ps_fld (pv 0) pe_dnewK rfl)
  (pss_cons (ps_fld (pv 0) pe_int rfl)
  (pss_cons (ps_fld (pv 0) pe_non rfl)
  (pss_one (ps_fld (pv 0) pe_bl rfl))))))), ?_⟩
    fail "go"
    rename_i a1 _ _ a2 _ _ _ _ _ _
    refine k a1 a2 p H (hL.le (fun a_ => ?_))
    simp only [dkL, dkO, cnt_nil, cnt_cons, cnt_app, List.cons_append, List.nil_append, List.map_nil]
    have e1 : fuV none = .non := rfl
    have e2 : tI [] = .tup [] := rfl
    simp only [e1, e2, nmD]
    omega
theorem scArm : FnScope ["self", "steps"] ["self", "steps"] (defScope sArm) := ⟨rfl, rfl, rfl, by decide +kernel, rfl, by decide +kernel, by decide +kernel⟩
theorem ok_arm {f : Addr} {fd : FuncData} (F : Fun K "arm" "Disk.arm" sArm f fd) (X : TxtDk K CD) : FnOk P w K mg base CX0 1 f fd ["self", "steps"] (spArm CD) := by
  refine F.ok scArm (fun vs H Q E h => ?_) (fun cdv A outer s H vs Q E hr h => ?_)
  · obtain ⟨x, dx, K, W, F, s, i, L, rfl, _⟩ := h
    rfl
  · obtain ⟨x, dx, KK, W, F, s, i, L, rfl, hL, k⟩ := h
    have c1 := X.cl
    have f5 := X.n "fuse" (by decide +kernel)
    refine ⟨_, (pss_one (ps_fld (pv 0) (pv 1) rfl)), ?_⟩
    dsimp only [dkL, dkO, List.cons_append] at hL
    fail "go"
    exact k _ hL
theorem scNeed : FnScope ["self"] ["self"] (defScope sNeed) := ⟨rfl, rfl, rfl, by decide +kernel, rfl, by decide +kernel, by decide +kernel⟩
theorem ok_need {f : Addr} {fd : FuncData} (F : Fun K "need_up" "Disk.need_up" sNeed f fd) (X : TxtDk K CD) (TE : ExcT K mg "StoreError" CE) : FnOk P w K mg base (L2.CX P w) 1 f fd ["self"] (spNeed CD CE) := by
  refine F.okX scNeed (fun vs H Q E h => ?_) (fun cdv A outer s H vs Q E hr h => ?_)
  · obtain ⟨x, dx, K, W, F, s, L, rfl, _⟩ := h
    rfl
  · obtain ⟨x, dx, KK, W, F, s, L, rfl, hL, k1, k2⟩ := h
    have c1 := X.cl
    have f5 := X.n "fuse" (by decide +kernel)
    have f6 := X.n "down" (by decide +kernel)
    refine ⟨_, pss_cons (ps_if (pt_cmpR op_eq (pe_fld (pv 0) rfl) pe_int (nomark _)) (pss_one (ps_fld (pv 0) pe_bl rfl)) pss_nil)
      (pss_cons (ps_if (pt_val (pe_fld (pv 0) rfl)) (pss_one (ps_raiseT TE rfl (takes_of rfl rfl rfl (E := E) rfl) rfl)) pss_nil)
      (pss_one (ps_if (pt_cmpR op_notN (pe_fld (pv 0) rfl) pe_non (nomark _)) (pss_one (ps_fldaug (pv 0) pe_int in_sub)) pss_nil))), ?_⟩
    obtain ⟨kb, wb, fs, sy, fu, dn⟩ := s
    dsimp only [dkL, dkO, List.cons_append] at hL
    have hdown : ∀ H, Led H ((x, HO.ins CD dx (fz nmD [.ref KK, .ref W, .ref F, .int sy, fuV fu, .bl true])) :: (KK, tI kb) :: (W, tI wb) :: (F, .dK (fs.map (kk filV))) :: (fs.map filO ++ L)) → DkS.up ⟨kb, wb, fs, sy, fu, dn⟩ = false → E (.ref CE) none H := fun H hL hu => k2 hu H hL
    cases fu with
    | none =>
      dsimp only [fuV] at hL hdown
      cases dn with
      | true =>
        fail "go"
        exact hdown _ hL rfl
      | false =>
        fail "go"
        exact k1 rfl _ hL
    | some i =>
      dsimp only [fuV] at hL hdown
      fail "go"
      refine ite_d (fun q => ?_) fun q => ?_
      · obtain rfl := V.int.inj q
        fail "go"
        exact hdown _ hL (by unfold DkS.up; simp)
      · have hi : ¬ i = 0 := fun e => q (by rw [e])
        cases dn with
        | true =>
          fail "go"
          exact hdown _ hL rfl
        | false =>
          fail "go"
          exact k1 (by unfold DkS.up; simp [hi]) _ hL
end
end Sd


set_option linter.unusedVariables false
namespace Sd
open PySem L2
open C8 (Cal Met Mak pe_c pe_mk pe_mt pe_mt0 pss_cut tCut)
set_option linter.unusedSimpArgs false
set_option pp.deepTerms false
set_option pp.deepTerms.threshold 12
set_option hygiene false
local macro_rules | `(tactic| fail "nd") => `(tactic| first | assumption | decide +kernel)
local macro_rules | `(tactic| fail "ix") => `(tactic| first | exact ⟨0, rfl⟩ | exact ⟨1, rfl⟩ | exact ⟨2, rfl⟩ | exact ⟨3, rfl⟩ | exact ⟨4, rfl⟩ | exact ⟨5, rfl⟩ | exact ⟨6, rfl⟩ | exact ⟨7, rfl⟩ | exact ⟨8, rfl⟩ | exact ⟨9, rfl⟩ | exact ⟨10, rfl⟩ | exact ⟨11, rfl⟩ | exact ⟨12, rfl⟩ | exact ⟨13, rfl⟩ | exact ⟨14, rfl⟩ | exact ⟨15, rfl⟩ | exact ⟨16, rfl⟩ | exact ⟨17, rfl⟩ | exact ⟨18, rfl⟩ | assumption)
local macro_rules | `(tactic| fail "up") => `(tactic| first | exact ⟨0, rfl, rfl⟩ | exact ⟨1, rfl, rfl⟩ | exact ⟨2, rfl, rfl⟩ | exact ⟨3, rfl, rfl⟩ | exact ⟨4, rfl, rfl⟩ | exact ⟨5, rfl, rfl⟩ | exact ⟨6, rfl, rfl⟩ | exact ⟨7, rfl, rfl⟩ | exact ⟨8, rfl, rfl⟩ | exact ⟨9, rfl, rfl⟩ | exact ⟨10, rfl, rfl⟩ | exact ⟨11, rfl, rfl⟩ | exact ⟨12, rfl, rfl⟩ | exact ⟨13, rfl, rfl⟩ | exact ⟨14, rfl, rfl⟩ | exact ⟨15, rfl, rfl⟩ | exact ⟨16, rfl, rfl⟩ | assumption)
local macro_rules | `(tactic| fail "lkF") => `(tactic| first | assumption | exact fz_at 0 (by fail "nd") rfl rfl | exact fz_at 1 (by fail "nd") rfl rfl | exact fz_at 2 (by fail "nd") rfl rfl | exact fz_at 3 (by fail "nd") rfl rfl | exact fz_at 4 (by fail "nd") rfl rfl | exact fz_at 5 (by fail "nd") rfl rfl | exact fz_at 6 (by fail "nd") rfl rfl | exact fz_at 7 (by fail "nd") rfl rfl)
local macro_rules | `(tactic| fail "lkD") => `(tactic| first | assumption | exact dz_at 0 (by fail "nd") rfl rfl | exact dz_at 1 (by fail "nd") rfl rfl | exact dz_at 2 (by fail "nd") rfl rfl | exact dz_at 3 (by fail "nd") rfl rfl | exact dz_at 4 (by fail "nd") rfl rfl)
local macro_rules | `(tactic| fail "ptF") => `(tactic| first | assumption | exact fz_put 0 (by fail "nd") rfl (Nat.le_of_ble_eq_true rfl) | exact fz_put 1 (by fail "nd") rfl (Nat.le_of_ble_eq_true rfl) | exact fz_put 2 (by fail "nd") rfl (Nat.le_of_ble_eq_true rfl) | exact fz_put 3 (by fail "nd") rfl (Nat.le_of_ble_eq_true rfl) | exact fz_put 4 (by fail "nd") rfl (Nat.le_of_ble_eq_true rfl) | exact fz_put 5 (by fail "nd") rfl (Nat.le_of_ble_eq_true rfl) | exact fz_put 6 (by fail "nd") rfl (Nat.le_of_ble_eq_true rfl) | exact fz_put 7 (by fail "nd") rfl (Nat.le_of_ble_eq_true rfl) | exact fz_new (by decide +kernel) rfl)
local macro_rules | `(tactic| fail "ptD") => `(tactic| first | assumption | exact dz_put 0 (by fail "nd") rfl (Nat.le_of_ble_eq_true rfl) | exact dz_put 1 (by fail "nd") rfl (Nat.le_of_ble_eq_true rfl) | exact dz_put 2 (by fail "nd") rfl (Nat.le_of_ble_eq_true rfl) | exact dz_put 3 (by fail "nd") rfl (Nat.le_of_ble_eq_true rfl) | exact dz_put 4 (by fail "nd") rfl (Nat.le_of_ble_eq_true rfl))
local macro_rules | `(tactic| fail "sz") => `(tactic| first | assumption | exact (Nat.le_of_ble_eq_true rfl) | omega | decide)
local macro_rules | `(tactic| fail "sd") => `(tactic| first | rfl | assumption | decide | omega | (dsimp only; first | decide | omega) | exact .inr ⟨by decide, by decide⟩ | exact .inl ⟨by decide, by decide⟩ | exact ⟨by omega, by omega⟩ | exact .inl ⟨by omega, by omega⟩ | exact .inr ⟨by omega, by omega⟩ | exact ⟨by omega, by omega, by omega⟩)
local macro_rules | `(tactic| fail "cl") => `(tactic| (clear hH; dsimp only [List.set, List.cons_append, List.nil_append, List.append] at hL))
local macro_rules | `(tactic| fail "gn") => `(tactic| (intro p hp; generalize hH : upd H p _ = H; replace hL := Led.newH hL hp hH; clear hH hp))
local macro_rules | `(tactic| fail "gup") => `(tactic| (generalize hH : upd H _ _ = H; replace hL := Led.upU hL (by fail "up") hH; fail "cl"))
local macro_rules | `(tactic| fail "gmk") => `(tactic| (intro x dx hx hd ne; generalize hH : upd (upd H dx _) x _ = H; replace hL := Led.made hL hx hd ne hH; clear hH hx hd ne))
local macro_rules | `(tactic| fail "v") => `(tactic| refine ⟨_, rfl, ?_⟩)
local macro_rules | `(tactic| fail "i2") => `(tactic| refine ⟨_, _, rfl, rfl, ?_⟩)
local macro_rules | `(tactic| fail "go1") => `(tactic| first
  | refine ⟨_, rfl, ?_⟩
  | refine ⟨_, _, rfl, rfl, ?_⟩
  | refine ⟨_, _, rfl, ?_⟩
  | refine iteT ?_
  | refine iteF ?_
  | refine k_fld hL (by fail "ix") (by assumption) (by assumption) (by fail "lkF") ?_
  | refine k_dgetS hL (by fail "ix") (by fail "lkD") ?_
  | refine k_dgetI hL (by fail "ix") (by assumption) ?_
  | refine k_ixL hL (by fail "ix") (by first | rfl | assumption) ?_
  | refine k_ixT hL (by fail "ix") (by first | rfl | assumption) ?_
  | refine k_tyL hL (by fail "ix") ?_
  | refine k_isd hL (by fail "ix") ?_
  | (refine And.intro (by fail "sz") ?_; fail "gn")
  | refine And.intro (by fail "sd") ?_
  | fail "gn"
  | refine k_meth hL (by fail "ix") (by first | assumption | exact fz_no (by decide +kernel)) ?_
  | refine k_gtup hL (by fail "ix") rfl ?_
  | (refine k_popI hL (by fail "ix") (by assumption) ?_; fail "gup")
  | (refine k_listD hL (by fail "ix") ?_; fail "gn")
  | (refine ⟨_, _, _, _, rfl, rfl, hL.at (by fail "ix"), rfl, ?_⟩; fail "gup")
  | (refine ⟨_, _, _, rfl, rfl, hL.at (by fail "ix"), (by fail "sz"), ?_⟩; fail "gup")
  | (refine ⟨_, _, _, _, rfl, hL.at (by fail "ix"), by assumption, by assumption, Nat.lt_of_le_of_lt fz_len (by decide), ?_⟩; generalize hH : upd H _ _ = H; replace hL := Led.upF hL (by fail "up") (by fail "ptF") hH; fail "cl")
  | (refine ⟨_, _, hL.at (by fail "ix"), Nat.lt_of_le_of_lt fz_len (by decide), ?_⟩; generalize hH : upd H _ _ = H; replace hL := Led.upF hL (by fail "up") (by fail "ptF") hH; fail "cl")
  | (refine k_dputS hL (by fail "ix") (Nat.lt_of_le_of_lt dz_len (by decide)) (by fail "ptD") (by fail "up") ?_; clear hL; intro H hL; dsimp only [List.set, List.cons_append, List.nil_append, List.append] at hL)
  | refine k_lenL2 hL (by fail "ix") ?_
  | refine k_lenT2 hL (by fail "ix") ?_
  | refine .inl ⟨_, rfl, ?_⟩
  | refine .inr ⟨_, rfl, ?_⟩)
local macro_rules | `(tactic| fail "go") => `(tactic| repeat fail "go1")
local macro_rules | `(tactic| fail "pm") => `(tactic| (refine Led.le hL (fun a_ => ?_); simp only [cnt_nil, cnt_cons, cnt_app, List.map_append, List.map_cons, List.map_nil, List.flatMap_append, List.flatMap_cons, List.flatMap_nil, List.append_assoc, List.cons_append, List.nil_append]; omega))

local macro_rules | `(tactic| fail "pmt") => `(tactic| (try dsimp only [tI] at hL); (try dsimp only [tI]); (refine Led.le hL (fun a_ => ?_); simp only [cnt_nil, cnt_cons, cnt_app, List.map_append, List.map_cons, List.map_nil, List.flatMap_append, List.flatMap_cons, List.flatMap_nil, List.append_assoc, List.cons_append, List.nil_append]; omega))
/-- data that a frame takes -/
def Pk (n : Nat) (d : Dv) : Prop := deep d < n ∧ deep d ≤ 30 ∧ sendable d ∧ (packB d).length + 8 ≤ sizeLine
def spDApp (CD CE PN : Addr) (n : Nat) : Sp := fun vs H Q E => ∃ (x dx K W F : Addr) (s : DkS) (v : V) (d : Dv) (ps : Array Value) (L : Lg), vs = [.ref x, v] ∧ Led H ((PN, .tbl ps) :: (dkL CD x dx K W F s ++ L)) ∧ TriplesOk ps.toList ∧ DL L v d ∧ Pk n d ∧ s.wb.length + ((packB d).length + 8) ≤ sizeLine ∧
  (s.up = true → ∀ (W' : Addr) (ps' : Array Value) H', TriplesOk ps'.toList → Led H' ((PN, .tbl ps') :: (dkL CD x dx K W' F { s.step with wb := s.wb ++ frameB (packB d) } ++ L)) → Q .non H') ∧
  (s.up = false → ∀ (ps' : Array Value) H', TriplesOk ps'.toList → Led H' ((PN, .tbl ps') :: (dkL CD x dx K W F s.fall ++ L)) → E (.ref CE) none H')
def spSync (CD CE : Addr) : Sp := fun vs H Q E => ∃ (x dx K W F : Addr) (s : DkS) (L : Lg), vs = [.ref x] ∧ Led H (dkL CD x dx K W F s ++ L) ∧ s.kb.length + s.wb.length ≤ sizeLine ∧
  (s.up = true → ∀ (K' W' : Addr) H', Led H' (dkL CD x dx K' W' F { s.step with kb := s.kb ++ s.wb, wb := [], sy := s.sy + 1 } ++ L) → Q .non H') ∧
  (s.up = false → ∀ H', Led H' (dkL CD x dx K W F s.fall ++ L) → E (.ref CE) none H')
def spCrash (CD : Addr) : Sp := fun vs H Q E => ∃ (x dx K W F : Addr) (s : DkS) (m : Nat) (L : Lg), vs = [.ref x, .int m] ∧ Led H (dkL CD x dx K W F s ++ L) ∧ s.kb.length + s.wb.length ≤ sizeLine ∧
  ∀ (K' W' : Addr) H', Led H' (dkL CD x dx K' W' F { s with kb := s.kb ++ s.wb.take m, wb := [], dn := true } ++ L) → Q .non H'
section
variable {K : PySem.W.Frag} {H : Hp} {L : Lg} {D : Addr} {Q : VK}
/-- t[:m]: t is given up -/
theorem k_takeA {bs : List Int} {m : Nat} (hL : Led H ((D, tI bs) :: L)) (k : ∀ r H', Led H' ((r, tI (bs.take m)) :: L) → Q (.ref r) H') : rSlA K (.ref D) none (some (m : Int)) H Q := by
  refine ⟨D, _, rfl, .of (hL.at ⟨0, rfl⟩), fun e => ?_, fun _ p hp => ?_⟩
  · have e2 := e.2
    rw [HT.sIx_nat, List.length_map] at e2
    have : bs.take m = bs := List.take_of_length_le (by omega)
    rw [this] at k
    exact k _ _ hL
  · have e1 : cutV (bs.map V.int) none (some (m : Int)) = (bs.take m).map V.int := by
      unfold cutV
      rw [HT.sIx_none, HT.sIx_nat, List.drop_zero, Nat.sub_zero, List.length_map, ← List.map_take]
      congr 1
      rcases Nat.le_total m bs.length with h | h
      · rw [Nat.min_eq_left h]
      · rw [Nat.min_eq_right h, List.take_length, List.take_of_length_le h]
    rw [e1]
    exact k _ _ ((hL.new hp).sub (.cons_cons _ (.cons _ (.refl _))))
end
section
variable {P : Program} {w : World} {K : PySem.W.Frag} {mg : Str → Option Value} {base : Heap} {CD CE : Addr}
theorem scDApp : FnScope ["self", "value", "framed"] ["self", "value"] (defScope sDApp) := ⟨rfl, rfl, rfl, by decide +kernel, rfl, by decide +kernel, by decide +kernel⟩
theorem ok_DApp {f : Addr} {fd : FuncData} {PN : Addr} {n : Nat} (F : Fun K "append" "Disk.append" sDApp f fd) (X : TxtDk K CD) (c_frame : Cal P w K mg base (6 + n) "frame" (spFrame PN n) []) (c_Disk_need_up : MetX P w K mg base 1 CD "need_up" (spNeed CD CE) []) :
    FnOk P w K mg base (L2.CX P w) (7 + n) f fd ["self", "value"] (spDApp CD CE PN n) := by
  have e6 : 7 + n = (6 + n) + 1 := by omega
  rw [e6]
  refine F.okX scDApp (fun vs H Q E h => ?_) (fun cdv A outer s0 H vs Q E hr h => ?_)
  · obtain ⟨x, dx, K, W, F, s, v, d, ps, L, rfl, _⟩ := h
    rfl
  · obtain ⟨x, dx, KK, W, F, s, v, d, ps, L, rfl, hL, ht, hd, ⟨p1, p2, p3, p4⟩, hz, k1, k2⟩ := h
    have c1 := X.cl
    have f2 := X.n "waiting" (by decide +kernel)
    refine ⟨_, (pss_cons (ps_set (i := 2) scDApp.nd rfl (Or.inl rfl) (pe_c c_frame hr (by omega) (by rfl) (pa_cons (pv 1) pa_nil)))
  (pss_cons (ps_expr (pe_mtX0 c_Disk_need_up hr (by omega) (takes_of rfl rfl rfl (E := E) rfl) (pv 0)))
  (pss_one (ps_fldaug (pv 0) (pv 2) iop_catA)))), ?_⟩
    fail "go"
    refine ⟨v, d, ps, _, rfl, hL, ht, hd.mono (fun a h => List.mem_append_right _ h), p1, p2, p3, p4, fun ps r H ht hL => ?_⟩
    fail "go"
    have hL2 : Led H (dkL CD x dx KK W F s ++ ((r, tI (frameB (packB d))) :: (PN, .tbl ps) :: L)) := by fail "pm"
    clear hL
    refine ⟨x, dx, KK, W, F, s, _, rfl, hL2, fun hu H hL => ?_, fun hu H hL => ?_⟩
    · clear hL2
      obtain ⟨kb, wb, fs, sy, fu, dn⟩ := s
      dsimp only [DkS.step] at k1 hL hz
      dsimp only [dkL, dkO, List.cons_append] at hL
      fail "go"
      refine k_catA (L := (x, HO.ins CD dx (fz nmD [.ref KK, .ref W, .ref F, .int sy, fuV (fu.map (· - 1)), .bl dn])) :: (KK, tI kb) :: (F, .dK (fs.map (kk filV))) :: (PN, .tbl ps) :: (fs.map filO ++ L)) (b := r) (ys := (frameB (packB d)).map .int) (xs := wb.map .int) (by fail "pmt") (by rw [List.length_map, List.length_map, frame_len]; omega) fun rc H hL => ?_
      fail "go"
      refine k1 hu rc ps H ht ?_
      dsimp only [dkL, dkO]
      rw [← List.map_append] at hL
      fail "pmt"
    · exact k2 hu ps H ht (by fail "pm")
theorem scSync : FnScope ["self"] ["self"] (defScope sSync) := ⟨rfl, rfl, rfl, by decide +kernel, rfl, by decide +kernel, by decide +kernel⟩
theorem ok_sync {f : Addr} {fd : FuncData} (F : Fun K "sync" "Disk.sync" sSync f fd) (X : TxtDk K CD) (c_Disk_need_up : MetX P w K mg base 1 CD "need_up" (spNeed CD CE) []) :
    FnOk P w K mg base (L2.CX P w) 2 f fd ["self"] (spSync CD CE) := by
  refine F.okX scSync (fun vs H Q E h => ?_) (fun cdv A outer s0 H vs Q E hr h => ?_)
  · obtain ⟨x, dx, K, W, F, s, L, rfl, _⟩ := h
    rfl
  · obtain ⟨x, dx, KK, W, F, s, L, rfl, hL, hz, k1, k2⟩ := h
    have c1 := X.cl
    have f1 := X.n "kept" (by decide +kernel)
    have f2 := X.n "waiting" (by decide +kernel)
    have f4 := X.n "syncs" (by decide +kernel)
    refine ⟨_, (pss_cons (ps_expr (pe_mtX0 c_Disk_need_up hr (by decide) (takes_of rfl rfl rfl (E := E) rfl) (pv 0)))
  (pss_cons (ps_fldaug (pv 0) (pe_fld (pv 0) rfl) iop_catA)
  (pss_cons (ps_fld (pv 0) (pe_tup pa_nil) rfl)
  (pss_one (ps_fldaug (pv 0) pe_int in_add))))), ?_⟩
    fail "go"
    refine ⟨x, dx, KK, W, F, s, _, rfl, hL, fun hu H hL => ?_, fun hu H hL => ?_⟩
    · obtain ⟨kb, wb, fs, sy, fu, dn⟩ := s
      dsimp only [DkS.step] at k1 hL hz
      dsimp only [dkL, dkO, List.cons_append] at hL
      fail "go"
      refine k_catA (L := (x, HO.ins CD dx (fz nmD [.ref KK, .ref W, .ref F, .int sy, fuV (fu.map (· - 1)), .bl dn])) :: (F, .dK (fs.map (kk filV))) :: (fs.map filO ++ L)) (b := W) (ys := wb.map .int) (xs := kb.map .int) (by fail "pmt") (by rw [List.length_map, List.length_map]; omega) fun rc H hL => ?_
      fail "go"
      refine k1 hu rc p H ?_
      dsimp only [dkL, dkO]
      rw [← List.map_append] at hL
      fail "pmt"
    · exact k2 hu H hL
theorem scCrash : FnScope ["self", "many"] ["self", "many"] (defScope sCrash) := ⟨rfl, rfl, rfl, by decide +kernel, rfl, by decide +kernel, by decide +kernel⟩
theorem ok_crash {f : Addr} {fd : FuncData} (F : Fun K "crash" "Disk.crash" sCrash f fd) (X : TxtDk K CD) : FnOk P w K mg base CX0 1 f fd ["self", "many"] (spCrash CD) := by
  refine F.ok scCrash (fun vs H Q E h => ?_) (fun cdv A outer s0 H vs Q E hr h => ?_)
  · obtain ⟨x, dx, K, W, F, s, m, L, rfl, _⟩ := h
    rfl
  · obtain ⟨x, dx, KK, W, F, s, m, L, rfl, hL, hz, k⟩ := h
    have c1 := X.cl
    have f1 := X.n "kept" (by decide +kernel)
    have f2 := X.n "waiting" (by decide +kernel)
    have f6 := X.n "down" (by decide +kernel)
    refine ⟨_, (pss_cons (ps_fldaug (pv 0) (pe_slice sl_tupA (pe_fld (pv 0) rfl) po_none (po_some (pv 1))) iop_catA)
  (pss_cons (ps_fld (pv 0) (pe_tup pa_nil) rfl)
  (pss_one (ps_fld (pv 0) pe_bl rfl)))), ?_⟩
    obtain ⟨kb, wb, fs, sy, fu, dn⟩ := s
    dsimp only at k hz
    dsimp only [dkL, dkO, List.cons_append] at hL
    fail "go"
    refine k_takeA (D := W) (bs := wb) (L := (x, HO.ins CD dx (fz nmD [.ref KK, .ref W, .ref F, .int sy, fuV fu, .bl dn])) :: (KK, tI kb) :: (F, .dK (fs.map (kk filV))) :: (fs.map filO ++ L)) (by fail "pmt") fun r H hL => ?_
    refine k_catA (L := (x, HO.ins CD dx (fz nmD [.ref KK, .ref W, .ref F, .int sy, fuV fu, .bl dn])) :: (F, .dK (fs.map (kk filV))) :: (fs.map filO ++ L)) (b := r) (ys := (wb.take m).map .int) (xs := kb.map .int) (by fail "pmt") (by rw [List.length_map, List.length_map, List.length_take]; omega) fun rc H hL => ?_
    fail "go"
    refine k rc p H ?_
    dsimp only [dkL, dkO]
    rw [← List.map_append] at hL
    fail "pmt"
end
end Sd


set_option linter.unusedVariables false
namespace Sd
open PySem L2
open C8 (Cal Met Mak pe_c pe_mk pe_mt pe_mt0 pss_cut tCut)
set_option linter.unusedSimpArgs false
set_option pp.deepTerms false
set_option pp.deepTerms.threshold 12
set_option hygiene false
local macro_rules | `(tactic| fail "nd") => `(tactic| first | assumption | decide +kernel)
local macro_rules | `(tactic| fail "ix") => `(tactic| first | exact ⟨0, rfl⟩ | exact ⟨1, rfl⟩ | exact ⟨2, rfl⟩ | exact ⟨3, rfl⟩ | exact ⟨4, rfl⟩ | exact ⟨5, rfl⟩ | exact ⟨6, rfl⟩ | exact ⟨7, rfl⟩ | exact ⟨8, rfl⟩ | exact ⟨9, rfl⟩ | exact ⟨10, rfl⟩ | exact ⟨11, rfl⟩ | exact ⟨12, rfl⟩ | exact ⟨13, rfl⟩ | exact ⟨14, rfl⟩ | exact ⟨15, rfl⟩ | exact ⟨16, rfl⟩ | exact ⟨17, rfl⟩ | exact ⟨18, rfl⟩ | assumption)
local macro_rules | `(tactic| fail "up") => `(tactic| first | exact ⟨0, rfl, rfl⟩ | exact ⟨1, rfl, rfl⟩ | exact ⟨2, rfl, rfl⟩ | exact ⟨3, rfl, rfl⟩ | exact ⟨4, rfl, rfl⟩ | exact ⟨5, rfl, rfl⟩ | exact ⟨6, rfl, rfl⟩ | exact ⟨7, rfl, rfl⟩ | exact ⟨8, rfl, rfl⟩ | exact ⟨9, rfl, rfl⟩ | exact ⟨10, rfl, rfl⟩ | exact ⟨11, rfl, rfl⟩ | exact ⟨12, rfl, rfl⟩ | exact ⟨13, rfl, rfl⟩ | exact ⟨14, rfl, rfl⟩ | exact ⟨15, rfl, rfl⟩ | exact ⟨16, rfl, rfl⟩ | assumption)
local macro_rules | `(tactic| fail "lkF") => `(tactic| first | assumption | exact fz_at 0 (by fail "nd") rfl rfl | exact fz_at 1 (by fail "nd") rfl rfl | exact fz_at 2 (by fail "nd") rfl rfl | exact fz_at 3 (by fail "nd") rfl rfl | exact fz_at 4 (by fail "nd") rfl rfl | exact fz_at 5 (by fail "nd") rfl rfl | exact fz_at 6 (by fail "nd") rfl rfl | exact fz_at 7 (by fail "nd") rfl rfl)
local macro_rules | `(tactic| fail "lkD") => `(tactic| first | assumption | exact dz_at 0 (by fail "nd") rfl rfl | exact dz_at 1 (by fail "nd") rfl rfl | exact dz_at 2 (by fail "nd") rfl rfl | exact dz_at 3 (by fail "nd") rfl rfl | exact dz_at 4 (by fail "nd") rfl rfl)
local macro_rules | `(tactic| fail "ptF") => `(tactic| first | assumption | exact fz_put 0 (by fail "nd") rfl (Nat.le_of_ble_eq_true rfl) | exact fz_put 1 (by fail "nd") rfl (Nat.le_of_ble_eq_true rfl) | exact fz_put 2 (by fail "nd") rfl (Nat.le_of_ble_eq_true rfl) | exact fz_put 3 (by fail "nd") rfl (Nat.le_of_ble_eq_true rfl) | exact fz_put 4 (by fail "nd") rfl (Nat.le_of_ble_eq_true rfl) | exact fz_put 5 (by fail "nd") rfl (Nat.le_of_ble_eq_true rfl) | exact fz_put 6 (by fail "nd") rfl (Nat.le_of_ble_eq_true rfl) | exact fz_put 7 (by fail "nd") rfl (Nat.le_of_ble_eq_true rfl) | exact fz_new (by decide +kernel) rfl)
local macro_rules | `(tactic| fail "ptD") => `(tactic| first | assumption | exact dz_put 0 (by fail "nd") rfl (Nat.le_of_ble_eq_true rfl) | exact dz_put 1 (by fail "nd") rfl (Nat.le_of_ble_eq_true rfl) | exact dz_put 2 (by fail "nd") rfl (Nat.le_of_ble_eq_true rfl) | exact dz_put 3 (by fail "nd") rfl (Nat.le_of_ble_eq_true rfl) | exact dz_put 4 (by fail "nd") rfl (Nat.le_of_ble_eq_true rfl))
local macro_rules | `(tactic| fail "sz") => `(tactic| first | assumption | exact (Nat.le_of_ble_eq_true rfl) | omega | decide)
local macro_rules | `(tactic| fail "sd") => `(tactic| first | rfl | assumption | decide | omega | (dsimp only; first | decide | omega) | exact .inr ⟨by decide, by decide⟩ | exact .inl ⟨by decide, by decide⟩ | exact ⟨by omega, by omega⟩ | exact .inl ⟨by omega, by omega⟩ | exact .inr ⟨by omega, by omega⟩ | exact ⟨by omega, by omega, by omega⟩)
local macro_rules | `(tactic| fail "cl") => `(tactic| (clear hH; dsimp only [List.set, List.cons_append, List.nil_append, List.append] at hL))
local macro_rules | `(tactic| fail "gn") => `(tactic| (intro p hp; generalize hH : upd H p _ = H; replace hL := Led.newH hL hp hH; clear hH hp))
local macro_rules | `(tactic| fail "gup") => `(tactic| (generalize hH : upd H _ _ = H; replace hL := Led.upU hL (by fail "up") hH; fail "cl"))
local macro_rules | `(tactic| fail "gmk") => `(tactic| (intro x dx hx hd ne; generalize hH : upd (upd H dx _) x _ = H; replace hL := Led.made hL hx hd ne hH; clear hH hx hd ne))
local macro_rules | `(tactic| fail "v") => `(tactic| refine ⟨_, rfl, ?_⟩)
local macro_rules | `(tactic| fail "i2") => `(tactic| refine ⟨_, _, rfl, rfl, ?_⟩)
local macro_rules | `(tactic| fail "go1") => `(tactic| first
  | refine ⟨_, rfl, ?_⟩
  | refine ⟨_, _, rfl, rfl, ?_⟩
  | refine ⟨_, _, rfl, ?_⟩
  | refine iteT ?_
  | refine iteF ?_
  | refine k_fld hL (by fail "ix") (by assumption) (by assumption) (by fail "lkF") ?_
  | refine k_dgetS hL (by fail "ix") (by fail "lkD") ?_
  | refine k_dgetI hL (by fail "ix") (by assumption) ?_
  | refine k_ixL hL (by fail "ix") (by first | rfl | assumption) ?_
  | refine k_ixT hL (by fail "ix") (by first | rfl | assumption) ?_
  | refine k_tyL hL (by fail "ix") ?_
  | refine k_isd hL (by fail "ix") ?_
  | (refine And.intro (by fail "sz") ?_; fail "gn")
  | refine And.intro (by fail "sd") ?_
  | fail "gn"
  | refine k_meth hL (by fail "ix") (by first | assumption | exact fz_no (by decide +kernel)) ?_
  | refine k_gtup hL (by fail "ix") rfl ?_
  | (refine k_popI hL (by fail "ix") (by assumption) ?_; fail "gup")
  | (refine k_listD hL (by fail "ix") ?_; fail "gn")
  | (refine ⟨_, _, _, _, rfl, rfl, hL.at (by fail "ix"), rfl, ?_⟩; fail "gup")
  | (refine ⟨_, _, _, rfl, rfl, hL.at (by fail "ix"), (by fail "sz"), ?_⟩; fail "gup")
  | (refine ⟨_, _, _, _, rfl, hL.at (by fail "ix"), by assumption, by assumption, Nat.lt_of_le_of_lt fz_len (by decide), ?_⟩; generalize hH : upd H _ _ = H; replace hL := Led.upF hL (by fail "up") (by fail "ptF") hH; fail "cl")
  | (refine ⟨_, _, hL.at (by fail "ix"), Nat.lt_of_le_of_lt fz_len (by decide), ?_⟩; generalize hH : upd H _ _ = H; replace hL := Led.upF hL (by fail "up") (by fail "ptF") hH; fail "cl")
  | (refine k_dputS hL (by fail "ix") (Nat.lt_of_le_of_lt dz_len (by decide)) (by fail "ptD") (by fail "up") ?_; clear hL; intro H hL; dsimp only [List.set, List.cons_append, List.nil_append, List.append] at hL)
  | refine k_lenL2 hL (by fail "ix") ?_
  | refine k_lenT2 hL (by fail "ix") ?_
  | refine .inl ⟨_, rfl, ?_⟩
  | refine .inr ⟨_, rfl, ?_⟩)
local macro_rules | `(tactic| fail "go") => `(tactic| repeat fail "go1")
local macro_rules | `(tactic| fail "pm") => `(tactic| (refine Led.le hL (fun a_ => ?_); simp only [cnt_nil, cnt_cons, cnt_app, List.map_append, List.map_cons, List.map_nil, List.flatMap_append, List.flatMap_cons, List.flatMap_nil, List.append_assoc, List.cons_append, List.nil_append]; omega))

local macro_rules | `(tactic| fail "pmt") => `(tactic| (try dsimp only [tI] at hL); (try dsimp only [tI]); (refine Led.le hL (fun a_ => ?_); simp only [cnt_nil, cnt_cons, cnt_app, List.map_append, List.map_cons, List.map_nil, List.flatMap_append, List.flatMap_cons, List.flatMap_nil, List.append_assoc, List.cons_append, List.nil_append]; omega))
def spRecs (CD PU : Addr) (n : Nat) : Sp := fun vs H Q _ => ∃ (x dx K W F : Addr) (s : DkS) (ds : List Dv) (tail : List Int) (ps : Array Value) (L : Lg), vs = [.ref x] ∧ Led H ((PU, .tbl ps) :: (dkL CD x dx K W F s ++ L)) ∧ TriplesOk ps.toList ∧ s.kb ++ s.wb = framesB ds ++ tail ∧ s.kb.length + s.wb.length ≤ sizeLine ∧
  (∀ d ∈ ds, Pk n d) ∧ ds.length < sizeLine ∧ Cut tail ∧ ∀ (l : Addr) (vs : List V) (Z : Lg) (ps' : Array Value) H', TriplesOk ps'.toList → DLs Z vs ds → Led H' ((l, .lst vs) :: (PU, .tbl ps') :: (Z ++ (dkL CD x dx K W F s ++ L))) → Q (.ref l) H'
def spRest (CD PU : Addr) (n : Nat) : Sp := fun vs H Q _ => ∃ (x dx K W F : Addr) (s : DkS) (ds : List Dv) (tail : List Int) (ps : Array Value) (L : Lg), vs = [.ref x] ∧ Led H ((PU, .tbl ps) :: (dkL CD x dx K W F s ++ L)) ∧ TriplesOk ps.toList ∧ s.kb = framesB ds ++ tail ∧
  (∀ d ∈ ds, Pk n d) ∧ ds.length < sizeLine ∧ Cut tail ∧ ∀ (K' : Addr) (ps' : Array Value) H', TriplesOk ps'.toList → Led H' ((PU, .tbl ps') :: (dkL CD x dx K' W F { s with kb := framesB ds, fu := none, dn := false } ++ L)) → Q .non H'
section
variable {K : PySem.W.Frag} {H : Hp} {L : Lg} {a b : Addr} {xs ys : List V} {Q : VK}
/-- t + u, both are kept -/
theorem k_catK {T : Addr × HO} (hL : Led H (T :: L)) (h1 : (a, .tup xs) ∈ L) (h2 : (b, .tup ys) ∈ L) (hz : xs.length + ys.length ≤ sizeLine) (k : ∀ r H' Z, Led H' (T :: (Z ++ L)) → (r, .tup (xs ++ ys)) ∈ Z ++ L → Q (.ref r) H') : rCatA K (.ref a) (.ref b) H Q := by
  refine ⟨a, b, xs, ys, rfl, rfl, .of (hL.mem (.tail _ h1)), .of (hL.mem (.tail _ h2)), hz, fun e => ?_, fun _ e => ?_, fun _ _ p hp => ?_⟩
  · subst e; exact k _ _ [] hL h2
  · subst e; rw [List.append_nil] at k; exact k _ _ [] hL h1
  · exact k _ _ [(p, .tup (xs ++ ys))] ((hL.new hp).perm (.swap _ _ _)) (.head _)
end
section
variable {P : Program} {w : World} {K : PySem.W.Frag} {mg : Str → Option Value} {base : Heap} {CD CE PU : Addr}
theorem scRecs : FnScope ["self"] ["self"] (defScope sRecs) := ⟨rfl, rfl, rfl, by decide +kernel, rfl, by decide +kernel, by decide +kernel⟩
theorem ok_recs {f : Addr} {fd : FuncData} {n : Nat} (F : Fun K "records" "Disk.records" sRecs f fd) (X : TxtDk K CD) (c_read_frames : Cal P w K mg base (6 + 5 * n) "read_frames" (spReadF CU PU n) []) :
    FnOk P w K mg base CX0 (7 + 5 * n) f fd ["self"] (spRecs CD PU n) := by
  have e6 : 7 + 5 * n = (6 + 5 * n) + 1 := by omega
  rw [e6]
  refine F.ok scRecs (fun vs H Q E h => ?_) (fun cdv A outer s0 H vs Q E hr h => ?_)
  · obtain ⟨x, dx, K, W, F, s, ds, tail, ps, L, rfl, _⟩ := h
    rfl
  · obtain ⟨x, dx, KK, W, F, s, ds, tail, ps, L, rfl, hL, ht, hk, hz, hds, hl, hcut, k⟩ := h
    have c1 := X.cl
    have f1 := X.n "kept" (by decide +kernel)
    have f2 := X.n "waiting" (by decide +kernel)
    refine ⟨_, (pss_one (ps_ret (pe_ix ix_tup (pe_c c_read_frames hr (by omega) (by rfl) (pa_cons (pe_op (op_catA) (pe_fld (pv 0) rfl) (pe_fld (pv 0) rfl)) pa_nil)) pe_int (fun _ _ => rfl)))), ?_⟩
    have hL0 := hL
    dsimp only [dkL, dkO, List.cons_append] at hL
    fail "go"
    clear hL
    refine k_catK hL0 (a := KK) (b := W) (xs := s.kb.map .int) (ys := s.wb.map .int) (.tail _ (.head _)) (.tail _ (.tail _ (.head _))) (by rw [List.length_map, List.length_map]; exact hz) fun r H Z hL hr => ?_
    rw [← List.map_append, hk] at hr
    fail "go"
    refine ⟨r, ds, tail, ps, _, rfl, hL, ht, hr, hds, hl, hcut, fun t l vs Z2 ps2 H ht2 hv hL => ?_⟩
    fail "go"
    refine k l vs (Z2 ++ Z) ps2 H ht2 (hv.mono fun a h => List.mem_append_left _ h) ?_
    rw [List.append_assoc]
    exact hL.tail
theorem scRest : FnScope ["self"] ["self"] (defScope sRest) := ⟨rfl, rfl, rfl, by decide +kernel, rfl, by decide +kernel, by decide +kernel⟩
theorem ok_rest {f : Addr} {fd : FuncData} {n : Nat} (F : Fun K "restart" "Disk.restart" sRest f fd) (X : TxtDk K CD) (c_read_frames : Cal P w K mg base (6 + 5 * n) "read_frames" (spReadF CU PU n) []) :
    FnOk P w K mg base CX0 (7 + 5 * n) f fd ["self"] (spRest CD PU n) := by
  have e6 : 7 + 5 * n = (6 + 5 * n) + 1 := by omega
  rw [e6]
  refine F.ok scRest (fun vs H Q E h => ?_) (fun cdv A outer s0 H vs Q E hr h => ?_)
  · obtain ⟨x, dx, K, W, F, s, ds, tail, ps, L, rfl, _⟩ := h
    rfl
  · obtain ⟨x, dx, KK, W, F, s, ds, tail, ps, L, rfl, hL, ht, hk, hds, hl, hcut, k⟩ := h
    have c1 := X.cl
    have f1 := X.n "kept" (by decide +kernel)
    have f5 := X.n "fuse" (by decide +kernel)
    have f6 := X.n "down" (by decide +kernel)
    refine ⟨_, (pss_cons (ps_fld (pv 0) pe_bl rfl)
  (pss_cons (ps_fld (pv 0) pe_non rfl)
  (pss_one (ps_fld (pv 0) (pe_slice sl_tupA (pe_fld (pv 0) rfl) po_none (po_some (pe_ix ix_tup (pe_c c_read_frames hr (by omega) (by rfl) (pa_cons (pe_fld (pv 0) rfl) pa_nil)) pe_int (fun _ _ => rfl)))) rfl)))), ?_⟩
    obtain ⟨kb, wb, fs, sy, fu, dn⟩ := s
    dsimp only at k hk
    dsimp only [dkL, dkO, List.cons_append] at hL
    fail "go"
    refine ⟨KK, ds, tail, ps, _, rfl, hL, ht, by rw [← hk]; exact .tail _ (.head _), hds, hl, hcut, fun t l vs Z2 ps2 H ht2 hv hL => ?_⟩
    fail "go"
    refine k_takeA (D := KK) (bs := kb) (L := (PU, .tbl ps2) :: (x, HO.ins CD dx (fz nmD [.ref KK, .ref W, .ref F, .int sy, .non, .bl false])) :: (W, tI wb) :: (F, .dK (fs.map (kk filV))) :: (fs.map filO ++ L)) (by fail "pmt") fun r H hL => ?_
    have e1 : kb.take (framesB ds).length = framesB ds := by rw [hk, List.take_left]
    rw [e1] at hL
    fail "go"
    refine k r ps2 H ht2 ?_
    dsimp only [dkL, dkO, fuV]
    fail "pmt"
end
end Sd


/-! plain data of a ledger as the comparisons' data -/
namespace Sd
open PySem PySem.Spec PyProof.Rows L2
mutual
def pyD : Dv → PyData
  | .non => .none
  | .bl b => .bool b
  | .int i => .int i
  | .str s => .str s
  | .row ds => .tuple (pyDs ds)
def pyDs : List Dv → List PyData
  | [] => []
  | d :: r => pyD d :: pyDs r
end
theorem pyDs_map : ∀ {ds : List Dv}, pyDs ds = ds.map pyD
  | [] => by rw [pyDs, List.map_nil]
  | d :: r => by rw [pyDs, List.map_cons, pyDs_map]
mutual
theorem pyD_plain : ∀ d : Dv, (pyD d).plain = true
  | .non => by rw [pyD]; rfl
  | .bl b => by rw [pyD]; rfl
  | .int i => by rw [pyD]; rfl
  | .str s => by rw [pyD]; rfl
  | .row ds => by rw [pyD, PyData.plain]; exact pyDs_plain ds
theorem pyDs_plain : ∀ ds : List Dv, PyData.plainAll (pyDs ds) = true
  | [] => by rw [pyDs]; simp [PyData.plainAll]
  | d :: r => by rw [pyDs, PyData.plainAll, pyD_plain d, pyDs_plain r]; rfl
end
mutual
theorem pyD_depth : ∀ d : Dv, (pyD d).depth = deep d
  | .non => by simp [pyD, deep, PyData.depth]
  | .bl b => by simp [pyD, deep, PyData.depth]
  | .int i => by simp [pyD, deep, PyData.depth]
  | .str s => by simp [pyD, deep, PyData.depth]
  | .row ds => by rw [pyD, PyData.depth, deep, pyDs_depth ds]
theorem pyDs_depth : ∀ ds : List Dv, PyData.depthAll (pyDs ds) = deeps ds
  | [] => by rw [pyDs, deeps]; simp [PyData.depthAll]
  | d :: r => by rw [pyDs, deeps, PyData.depthAll, pyD_depth d, pyDs_depth r]
end
section
variable {K : PySem.W.Frag} {H : Hp} {L Z : Lg}
mutual
theorem DL.dp (hL : Led H L) (s : ∀ x ∈ Z, x ∈ L) : ∀ {v : V} {d : Dv}, DL Z v d → Dp K H v (pyD d)
  | _, _, .non => by rw [pyD]; exact .non
  | _, _, .bl b => by rw [pyD]; exact .bl b
  | _, _, .int i => by rw [pyD]; exact .int i
  | _, _, .str x => by rw [pyD]; exact .str x
  | _, _, .row h h1 => by rw [pyD]; exact .tup (.of (hL.mem (s _ h))) (DLs.dp hL s h1)
theorem DLs.dp (hL : Led H L) (s : ∀ x ∈ Z, x ∈ L) : ∀ {v : List V} {d : List Dv}, DLs Z v d → DpAll K H v (pyDs d)
  | _, _, .nil => by rw [pyDs]; exact .nil
  | _, _, .cons h h1 => by rw [pyDs]; exact .cons (DL.dp hL s h) (DLs.dp hL s h1)
end
end
theorem deeps_le {n : Nat} : ∀ {ds : List Dv}, (∀ d ∈ ds, deep d ≤ n) → deeps ds ≤ n
  | [], _ => by rw [deeps]; exact Nat.zero_le _
  | d :: r, h => by rw [deeps]; exact Nat.max_le.mpr ⟨h d (.head _), deeps_le fun d hd => h d (.tail _ hd)⟩
theorem shal_D {d : Dv} (h : deep d ≤ 60) : Shal (pyD d) := ⟨pyD_plain d, by rw [pyD_depth]; exact h⟩
theorem shal_Ds {ds : List Dv} (h : ∀ d ∈ ds, deep d ≤ 59) : Shal (.list (pyDs ds)) :=
  ⟨by rw [PyData.plain]; exact pyDs_plain ds, by rw [PyData.depth, pyDs_depth]; have := deeps_le h; omega⟩
theorem shal_Dt {ds : List Dv} (h : ∀ d ∈ ds, deep d ≤ 59) : Shal (.tuple (pyDs ds)) :=
  ⟨by rw [PyData.plain]; exact pyDs_plain ds, by rw [PyData.depth, pyDs_depth]; have := deeps_le h; omega⟩
theorem shal_tupI {ns : List Int} : Shal (.tuple (ns.map PyData.int)) := by
  have := shal_ints (ns := ns)
  exact ⟨by have := this.p; simpa [PyData.plain] using this, by have := this.d; simpa [PyData.depth] using this⟩
/-- a value, or None -/
def pyO : Option Dv → PyData
  | none => .none
  | some d => pyD d
theorem pe_mkN {X : Cx} {k j : Nat} {x : Str} {C : Addr} {sp : Sp} {dvs : List V} {p pos : Pos} (c : C8.Mak X.prog X.w X.K X.mg X.base k x C sp dvs) (hr : Room j X.A) (hk : k + 1 ≤ j) (hg : Gl X x) (hdb : (x == ("__debug__" : Str)) = false := by decide) : PE X (.Call (.Name x p) [] [] pos) (tMake C sp dvs C8.E0 tNil) := by
  obtain ⟨f, fd, ps, ds, M, F, hm, b, d⟩ := c.ex
  exact pe_make0 M F (hr.mono hk) hg hm b d C8.pass0 hdb
end Sd


set_option linter.unusedVariables false
/-! any, all over a list that is told by a ledger -/
namespace Sd
open PySem L2
section
variable {K : PySem.W.Frag} {a PE : Addr} {xs : List V} {ps : Array Value} {L : Lg} {H : Hp} {g : TG} {te : TE} {vs : List Nat} {σ : L2.St} {stop : Bool} {Qy Qe : Hp → Prop}
theorem k_gxl (f : Nat → Bool) (hL : Led H ((PE, .tbl ps) :: L)) (ht : TriplesOk ps.toList) (ha : (a, HO.lst xs) ∈ L)
    (hs : ∀ (i : Nat) (x : V) (ps : Array Value) (H : Hp) (R : VK), xs[i]? = some x → TriplesOk ps.toList → Led H ((PE, .tbl ps) :: L) → (∀ (ps' : Array Value) H', TriplesOk ps'.toList → Led H' ((PE, .tbl ps') :: L) → R (.bl (f i)) H') →
      g x (wipe σ vs) H fun σ2 H2 => wipe σ2 vs = wipe σ vs ∧ te σ2 H2 R)
    (hy : ∀ (ps' : Array Value) H' i, i < xs.length → f i = stop → TriplesOk ps'.toList → Led H' ((PE, .tbl ps') :: L) → Qy H') (hd : ∀ (ps' : Array Value) H', (∀ i, i < xs.length → f i ≠ stop) → TriplesOk ps'.toList → Led H' ((PE, .tbl ps') :: L) → Qe H') (hmono : ∀ (x : V) (σ : L2.St) (H : Hp) (A B : L2.St → Hp → Prop), (∀ σ H, A σ H → B σ H) → g x σ H A → g x σ H B := by intros; assumption) :
    GxR.TabG H PE ∧ ∀ H2, GxR.Tabbed PE H H2 → ∃ W : Nat → Nat → Hp → Prop, (∃ m, W 0 m H2) ∧ ∀ i m H, W i m H →
      ((Itl K a).stop i H ∧ Qe H) ∨ ((Itl K a).go i H ∧ ∃ Nx : Hp → Prop, (∀ H', Nx H' → ∃ m', m' < m ∧ W (i + 1) m' H') ∧ ∀ x H', (Itl K a).yld i H x H' → g x (wipe σ vs) H' fun σ2 H2 => wipe σ2 vs = wipe σ vs ∧ tYes σ2 H2 fun b H3 =>
        if b = true then te σ2 H3 fun y H4 => ∃ c, y = .bl c ∧ (c = stop → Qy H4) ∧ (c ≠ stop → Nx H4) else Nx H3) := by
  refine ⟨⟨ps, hL.at ⟨0, rfl⟩, ht⟩, fun H2 hT => ?_⟩
  obtain ⟨ps1, ht1, hL1⟩ := Led.tabbed (A := []) hL hT
  refine Gx.gxb_it (walk_list (xs := xs)) (fun i H => Hold (∃ ps : Array Value, TriplesOk ps.toList ∧ Led H ((PE, .tbl ps) :: L) ∧ ∀ j, j < i → f j ≠ stop)) (.mk ⟨ps1, ht1, hL1, fun j h => absurd h (Nat.not_lt_zero _)⟩) (fun i H _ h => ?_) (fun i x H H' hi h y => ?_) fun H h => ?_
  · obtain ⟨ps, _, hL, _⟩ := h.out
    exact .of (hL.mem (.tail _ ha))
  · obtain ⟨ps, ht, hL, hf⟩ := h.out
    obtain ⟨rfl, hx⟩ := y
    have q := hs i x ps _ (fun y H4 => ∃ c, y = .bl c ∧ (c = stop → Qy H4) ∧ (c ≠ stop → Hold (∃ ps : Array Value, TriplesOk ps.toList ∧ Led H4 ((PE, .tbl ps) :: L) ∧ ∀ j, j < i + 1 → f j ≠ stop))) hx ht hL fun ps' H' ht' hL' => ⟨f i, rfl, fun e => hy ps' H' i hi e ht' hL', fun e => .mk ⟨ps', ht', hL', fun j hj => ?_⟩⟩
    · exact hmono _ _ _ _ _ (fun σ2 H2 z => ⟨z.1, k_yes z.2⟩) q
    · rcases Nat.lt_succ_iff_lt_or_eq.mp hj with h | rfl
      · exact hf j h
      · exact e
  · obtain ⟨ps, ht, hL, hf⟩ := h.out
    exact hd ps H hf ht hL
theorem gmono_name {i : Nat} (x : V) (σ : L2.St) (H : Hp) (A B : L2.St → Hp → Prop) (h : ∀ σ H, A σ H → B σ H) (q : gName i x σ H A) : gName i x σ H B := h _ _ q
end
end Sd


set_option linter.unusedVariables false
namespace Sd
open PySem L2
open C8 (Cal Met Mak pe_c pe_mk pe_mt pe_mt0 pss_cut tCut)
set_option linter.unusedSimpArgs false
set_option pp.deepTerms false
set_option pp.deepTerms.threshold 12
set_option hygiene false
local macro_rules | `(tactic| fail "nd") => `(tactic| first | assumption | decide +kernel)
local macro_rules | `(tactic| fail "ix") => `(tactic| first | exact ⟨0, rfl⟩ | exact ⟨1, rfl⟩ | exact ⟨2, rfl⟩ | exact ⟨3, rfl⟩ | exact ⟨4, rfl⟩ | exact ⟨5, rfl⟩ | exact ⟨6, rfl⟩ | exact ⟨7, rfl⟩ | exact ⟨8, rfl⟩ | exact ⟨9, rfl⟩ | exact ⟨10, rfl⟩ | exact ⟨11, rfl⟩ | exact ⟨12, rfl⟩ | exact ⟨13, rfl⟩ | exact ⟨14, rfl⟩ | exact ⟨15, rfl⟩ | exact ⟨16, rfl⟩ | exact ⟨17, rfl⟩ | exact ⟨18, rfl⟩ | assumption)
local macro_rules | `(tactic| fail "up") => `(tactic| first | exact ⟨0, rfl, rfl⟩ | exact ⟨1, rfl, rfl⟩ | exact ⟨2, rfl, rfl⟩ | exact ⟨3, rfl, rfl⟩ | exact ⟨4, rfl, rfl⟩ | exact ⟨5, rfl, rfl⟩ | exact ⟨6, rfl, rfl⟩ | exact ⟨7, rfl, rfl⟩ | exact ⟨8, rfl, rfl⟩ | exact ⟨9, rfl, rfl⟩ | exact ⟨10, rfl, rfl⟩ | exact ⟨11, rfl, rfl⟩ | exact ⟨12, rfl, rfl⟩ | exact ⟨13, rfl, rfl⟩ | exact ⟨14, rfl, rfl⟩ | exact ⟨15, rfl, rfl⟩ | exact ⟨16, rfl, rfl⟩ | assumption)
local macro_rules | `(tactic| fail "lkF") => `(tactic| first | assumption | exact fz_at 0 (by fail "nd") rfl rfl | exact fz_at 1 (by fail "nd") rfl rfl | exact fz_at 2 (by fail "nd") rfl rfl | exact fz_at 3 (by fail "nd") rfl rfl | exact fz_at 4 (by fail "nd") rfl rfl | exact fz_at 5 (by fail "nd") rfl rfl | exact fz_at 6 (by fail "nd") rfl rfl | exact fz_at 7 (by fail "nd") rfl rfl)
local macro_rules | `(tactic| fail "lkD") => `(tactic| first | assumption | exact dz_at 0 (by fail "nd") rfl rfl | exact dz_at 1 (by fail "nd") rfl rfl | exact dz_at 2 (by fail "nd") rfl rfl | exact dz_at 3 (by fail "nd") rfl rfl | exact dz_at 4 (by fail "nd") rfl rfl)
local macro_rules | `(tactic| fail "ptF") => `(tactic| first | assumption | exact fz_put 0 (by fail "nd") rfl (Nat.le_of_ble_eq_true rfl) | exact fz_put 1 (by fail "nd") rfl (Nat.le_of_ble_eq_true rfl) | exact fz_put 2 (by fail "nd") rfl (Nat.le_of_ble_eq_true rfl) | exact fz_put 3 (by fail "nd") rfl (Nat.le_of_ble_eq_true rfl) | exact fz_put 4 (by fail "nd") rfl (Nat.le_of_ble_eq_true rfl) | exact fz_put 5 (by fail "nd") rfl (Nat.le_of_ble_eq_true rfl) | exact fz_put 6 (by fail "nd") rfl (Nat.le_of_ble_eq_true rfl) | exact fz_put 7 (by fail "nd") rfl (Nat.le_of_ble_eq_true rfl) | exact fz_new (by decide +kernel) rfl)
local macro_rules | `(tactic| fail "ptD") => `(tactic| first | assumption | exact dz_put 0 (by fail "nd") rfl (Nat.le_of_ble_eq_true rfl) | exact dz_put 1 (by fail "nd") rfl (Nat.le_of_ble_eq_true rfl) | exact dz_put 2 (by fail "nd") rfl (Nat.le_of_ble_eq_true rfl) | exact dz_put 3 (by fail "nd") rfl (Nat.le_of_ble_eq_true rfl) | exact dz_put 4 (by fail "nd") rfl (Nat.le_of_ble_eq_true rfl))
local macro_rules | `(tactic| fail "sz") => `(tactic| first | assumption | exact (Nat.le_of_ble_eq_true rfl) | omega | decide)
local macro_rules | `(tactic| fail "sd") => `(tactic| first | rfl | assumption | decide | omega | (dsimp only; first | decide | omega) | exact .inr ⟨by decide, by decide⟩ | exact .inl ⟨by decide, by decide⟩ | exact ⟨by omega, by omega⟩ | exact .inl ⟨by omega, by omega⟩ | exact .inr ⟨by omega, by omega⟩ | exact ⟨by omega, by omega, by omega⟩)
local macro_rules | `(tactic| fail "cl") => `(tactic| (clear hH; dsimp only [List.set, List.cons_append, List.nil_append, List.append] at hL))
local macro_rules | `(tactic| fail "gn") => `(tactic| (intro p hp; generalize hH : upd H p _ = H; replace hL := Led.newH hL hp hH; clear hH hp))
local macro_rules | `(tactic| fail "gup") => `(tactic| (generalize hH : upd H _ _ = H; replace hL := Led.upU hL (by fail "up") hH; fail "cl"))
local macro_rules | `(tactic| fail "gmk") => `(tactic| (intro x dx hx hd ne; generalize hH : upd (upd H dx _) x _ = H; replace hL := Led.made hL hx hd ne hH; clear hH hx hd ne))
local macro_rules | `(tactic| fail "v") => `(tactic| refine ⟨_, rfl, ?_⟩)
local macro_rules | `(tactic| fail "i2") => `(tactic| refine ⟨_, _, rfl, rfl, ?_⟩)
local macro_rules | `(tactic| fail "go1") => `(tactic| first
  | refine ⟨_, rfl, ?_⟩
  | refine ⟨_, _, rfl, rfl, ?_⟩
  | refine ⟨_, _, rfl, ?_⟩
  | refine iteT ?_
  | refine iteF ?_
  | refine k_fld hL (by fail "ix") (by assumption) (by assumption) (by fail "lkF") ?_
  | refine k_dgetS hL (by fail "ix") (by fail "lkD") ?_
  | refine k_dgetI hL (by fail "ix") (by assumption) ?_
  | refine k_ixL hL (by fail "ix") (by first | rfl | assumption) ?_
  | refine k_ixT hL (by fail "ix") (by first | rfl | assumption) ?_
  | refine k_tyL hL (by fail "ix") ?_
  | refine k_isd hL (by fail "ix") ?_
  | (refine And.intro (by fail "sz") ?_; fail "gn")
  | refine And.intro (by fail "sd") ?_
  | fail "gn"
  | refine k_meth hL (by fail "ix") (by first | assumption | exact fz_no (by decide +kernel)) ?_
  | refine k_gtup hL (by fail "ix") rfl ?_
  | (refine k_popI hL (by fail "ix") (by assumption) ?_; fail "gup")
  | (refine k_listD hL (by fail "ix") ?_; fail "gn")
  | (refine ⟨_, _, _, _, rfl, rfl, hL.at (by fail "ix"), rfl, ?_⟩; fail "gup")
  | (refine ⟨_, _, _, rfl, rfl, hL.at (by fail "ix"), (by fail "sz"), ?_⟩; fail "gup")
  | (refine ⟨_, _, _, _, rfl, hL.at (by fail "ix"), by assumption, by assumption, Nat.lt_of_le_of_lt fz_len (by decide), ?_⟩; generalize hH : upd H _ _ = H; replace hL := Led.upF hL (by fail "up") (by fail "ptF") hH; fail "cl")
  | (refine ⟨_, _, hL.at (by fail "ix"), Nat.lt_of_le_of_lt fz_len (by decide), ?_⟩; generalize hH : upd H _ _ = H; replace hL := Led.upF hL (by fail "up") (by fail "ptF") hH; fail "cl")
  | (refine k_dputS hL (by fail "ix") (Nat.lt_of_le_of_lt dz_len (by decide)) (by fail "ptD") (by fail "up") ?_; clear hL; intro H hL; dsimp only [List.set, List.cons_append, List.nil_append, List.append] at hL)
  | refine k_lenL2 hL (by fail "ix") ?_
  | refine k_lenT2 hL (by fail "ix") ?_
  | refine .inl ⟨_, rfl, ?_⟩
  | refine .inr ⟨_, rfl, ?_⟩)
local macro_rules | `(tactic| fail "go") => `(tactic| repeat fail "go1")
local macro_rules | `(tactic| fail "pm") => `(tactic| (refine Led.le hL (fun a_ => ?_); simp only [cnt_nil, cnt_cons, cnt_app, List.map_append, List.map_cons, List.map_nil, List.flatMap_append, List.flatMap_cons, List.flatMap_nil, List.append_assoc, List.cons_append, List.nil_append]; omega))

abbrev sWInit : Stmt := inCls (top 8) 0
abbrev sNote : Stmt := inCls (top 8) 1
abbrev sSof : Stmt := inCls (top 8) 2
abbrev sEnd : Stmt := inCls (top 8) 3
abbrev sGo : Stmt := inCls (top 8) 4
abbrev sDo : Stmt := inCls (top 8) 5
abbrev sTold : Stmt := top 34
abbrev sLDo : Stmt := top 35
abbrev sLUndo : Stmt := top 36
abbrev sLaw : Stmt := top 37
abbrev nmW : List Str := ["disk", "steps", "rows"]
structure TxtWf (K : PySem.W.Frag) (CW : Addr) : Prop where
  cl : Cls K CW
  n : ∀ f ∈ nmW, NoAttr K CW f
/-- a row: a word, a step -/
abbrev Rw := Str × Str
def rD (r : Rw) : Dv := .row [.str r.1, .str r.2]
theorem DL_rD {Z : Lg} {v : V} {r : Rw} (h : DL Z v (rD r)) : ∃ a, v = .ref a ∧ (a, HO.tup [.str r.1, .str r.2]) ∈ Z := by
  unfold rD at h
  cases h with
  | row h h1 =>
    cases h1 with
    | cons a h1 =>
      cases a
      cases h1 with
      | cons a h1 =>
        cases a
        cases h1
        exact ⟨_, rfl, h⟩
theorem DLs_rD {Z : Lg} {vs : List V} {rs : List Rw} {i : Nat} {v : V} (h : DLs Z vs (rs.map rD)) (hi : vs[i]? = some v) : ∃ (r : Rw) (a : Addr), rs[i]? = some r ∧ v = .ref a ∧ (a, HO.tup [.str r.1, .str r.2]) ∈ Z := by
  obtain ⟨d, hd, hv⟩ := h.get hi
  rw [List.getElem?_map] at hd
  obtain ⟨r, hr, rfl⟩ := Option.map_eq_some_iff.mp hd
  obtain ⟨a, e1, e2⟩ := DL_rD hv
  exact ⟨r, a, hr, e1, e2⟩
def wfO (CW x dx D T R : Addr) : Addr × HO := (x, .ins CW dx (fz nmW [.ref D, .ref T, .ref R]))
def wfL (CW x dx D T R : Addr) (ns : List Str) (rvs : List V) : Lg := wfO CW x dx D T R :: (T, .tup (ns.map .str)) :: (R, .lst rvs) :: []
/-- the last word of a step -/
def stOf (rs : List Rw) (s : Str) : Option Str := ((rs.filter fun r => decide (r.2 = s)).map (·.1)).getLast?
def stV : Option Str → V
  | none => .non
  | some w => .str w
def spSof (CW : Addr) : Sp := fun vs H Q _ => ∃ (x dx D T R : Addr) (ns : List Str) (rvs : List V) (rs : List Rw) (s : Str) (L : Lg), vs = [.ref x, .str s] ∧ Led H (wfL CW x dx D T R ns rvs ++ L) ∧ DLs L rvs (rs.map rD) ∧ rs.length ≤ 100 ∧
  ∀ H', Led H' (wfL CW x dx D T R ns rvs ++ L) → Q (stV (stOf rs s)) H'
theorem atI_last {α : Type} {f : α → V} {r : List α} {l : α} : atI ((r ++ [l]).map f) (-1) = some (f l) := by
  have e : ixN ((r ++ [l]).map f).length (-1) = some r.length := by
    unfold ixN
    rw [if_neg (by decide), if_pos (by simp only [List.length_map, List.length_append, List.length_cons, List.length_nil]; omega)]
    congr 1
    simp only [List.length_map, List.length_append, List.length_cons, List.length_nil]; omega
  unfold atI
  rw [e]
  simp
section
variable {P : Program} {w : World} {K : PySem.W.Frag} {mg : Str → Option Value} {base : Heap} {CW : Addr}
theorem scSof : FnScope ["self", "step", "words", "word", "name"] ["self", "step"] (defScope sSof) := ⟨rfl, rfl, rfl, by decide +kernel, rfl, by decide +kernel, by decide +kernel⟩
theorem ok_Sof {f : Addr} {fd : FuncData} (F : Fun K "state_of" "Workflow.state_of" sSof f fd) (X : TxtWf K CW) : FnOk P w K mg base CX0 1 f fd ["self", "step"] (spSof CW) := by
  refine F.ok scSof (fun vs H Q E h => ?_) (fun cdv A outer s H vs Q E hr h => ?_)
  · obtain ⟨x, dx, D, T, R, ns, rvs, rs, s, L, rfl, _⟩ := h
    rfl
  · obtain ⟨x, dx, D, T, R, ns, rvs, rs, st, L, rfl, hL, hz, hn, k⟩ := h
    have c1 := X.cl
    have f3 := X.n "rows" (by decide +kernel)
    refine ⟨_, (pss_cons (ps_setLc (i := 2) (own := [("word", 3), ("name", 4)]) (g := gTup K 2 (gCons (gName 3) (gCons (gName 4) gNil))) (by rfl) scSof.nd rfl rfl (sw_true rfl rfl rfl (by decide +kernel)) (pi_list (pe_fld (pv 0) rfl)) (blkOk_by (own := [("word", 3), ("name", 4)]) (N := ["self", "step", "words", "word", "name"]) (sc := (defScope sSof)) (by decide +kernel)) (fun _ _ _ _ _ => (pg_tup (by rfl) (pgs_cons (pg_name (i := 3) scSof.nd rfl (Or.inl rfl)) (pgs_cons (pg_name (i := 4) scSof.nd rfl (Or.inl rfl)) pgs_nil)))) (fun _ _ _ _ _ => (pts_one (pt_cmpR op_eq (pv 4) (pv 1) (nomark _)))) (fun _ _ _ _ _ => (pv 3)))
  (pss_one (ps_ret (pe_ifExp (pt_cmpR (op_neP hr.units) (pv 2) (pe_lst pa_nil) (nomark _)) (pe_ix ix_list (pv 2) (pe_un un_neg pe_int) (fun _ _ => rfl)) pe_non)))), ?_⟩
    dsimp only [wfL, wfO, List.cons_append, List.nil_append] at hL
    fail "go"
    have hlen := hz.len
    rw [List.length_map] at hlen
    refine ⟨⟨_, .of (hL.at ⟨2, rfl⟩)⟩, fun Dl hD => lc_list (K := K) (a := R) (xs := rvs) (fun i H => Hold (Led H ((Dl, .lst ((((rs.take i).filter fun r => decide (r.2 = st)).map (·.1)).map V.str)) :: (wfL CW x dx D T R ns rvs ++ L)))) (.mk (hL.new hD)) (fun i H _ h => ?_) (fun i v H hi h => ?_) (fun H h => ?_)⟩
    · exact .of (h.out.at ⟨3, rfl⟩)
    · clear hL hD
      have hL := h.out
      clear h
      obtain ⟨r, a, hr, rfl, ha⟩ := DLs_rD hz hi
      have hm := hL.mem (.tail _ (List.mem_append_right _ ha))
      have e1 : (((rs.take (i + 1)).filter fun r => decide (r.2 = st)).map (·.1)).map V.str = (((rs.take i).filter fun r => decide (r.2 = st)).map (·.1)).map V.str ++ (if r.2 = st then [V.str r.1] else []) := by
        rw [List.take_add_one, hr, List.filter_append, List.map_append, List.map_append]
        by_cases q : r.2 = st <;> simp [q]
      refine ⟨_, _, rfl, .of hm, rfl, ?_⟩
      fail "go"
      refine ite_d (fun q => ?_) fun q => ?_
      · have q := V.str.inj q
        refine ⟨_, rfl, _, hL.at ⟨0, rfl⟩, ?_, ?_⟩
        · rw [List.length_map, List.length_map]
          have h2 := List.length_filter_le (fun r : Rw => decide (r.2 = st)) (rs.take i)
          rw [List.length_take] at h2
          have h3 : 100 < sizeLine := by decide
          omega
        · rw [e1, if_pos q]
          exact .mk (hL.set 0 rfl)
      · have q : ¬ r.2 = st := fun e => q (by rw [e])
        rw [e1, if_neg q, List.append_nil]
        exact .mk hL
    · clear hL hD
      have hL := h.out
      clear h
      rw [show rs.take rvs.length = rs by rw [hlen, List.take_length]] at hL
      refine (show gName 2 (.ref Dl) _ _ _ from ?_)
      fail "go"
      have est : stOf rs st = ((rs.filter fun r => decide (r.2 = st)).map (·.1)).getLast? := rfl
      have hk := hL.tail
      generalize (rs.filter fun r => decide (r.2 = st)).map (·.1) = ws at est hL
      rw [est] at k
      refine k_neStrs hL ⟨1, rfl⟩ ⟨0, rfl⟩ rfl (b := []) rfl ?_
      refine ⟨_, rfl, ?_⟩
      rcases List.eq_nil_or_concat ws with rfl | ⟨r, l, rfl⟩
      · fail "go"
        exact k _ (hk.tail)
      · rw [List.concat_eq_append] at hL k ⊢
        rw [List.getLast?_concat] at k
        have e2 : (!decide (r ++ [l] = [])) = true := by simp
        rw [e2]
        have e3 : atI ((r ++ [l]).map V.str) (-1) = some (.str l) := atI_last
        fail "go"
        exact k _ hk.tail
end
end Sd


set_option linter.unusedVariables false
namespace Sd
open PySem L2
open C8 (Cal Met Mak pe_c pe_mk pe_mt pe_mt0 pss_cut tCut)
set_option linter.unusedSimpArgs false
set_option pp.deepTerms false
set_option pp.deepTerms.threshold 12
set_option hygiene false
local macro_rules | `(tactic| fail "nd") => `(tactic| first | assumption | decide +kernel)
local macro_rules | `(tactic| fail "ix") => `(tactic| first | exact ⟨0, rfl⟩ | exact ⟨1, rfl⟩ | exact ⟨2, rfl⟩ | exact ⟨3, rfl⟩ | exact ⟨4, rfl⟩ | exact ⟨5, rfl⟩ | exact ⟨6, rfl⟩ | exact ⟨7, rfl⟩ | exact ⟨8, rfl⟩ | exact ⟨9, rfl⟩ | exact ⟨10, rfl⟩ | exact ⟨11, rfl⟩ | exact ⟨12, rfl⟩ | exact ⟨13, rfl⟩ | exact ⟨14, rfl⟩ | exact ⟨15, rfl⟩ | exact ⟨16, rfl⟩ | exact ⟨17, rfl⟩ | exact ⟨18, rfl⟩ | assumption)
local macro_rules | `(tactic| fail "up") => `(tactic| first | exact ⟨0, rfl, rfl⟩ | exact ⟨1, rfl, rfl⟩ | exact ⟨2, rfl, rfl⟩ | exact ⟨3, rfl, rfl⟩ | exact ⟨4, rfl, rfl⟩ | exact ⟨5, rfl, rfl⟩ | exact ⟨6, rfl, rfl⟩ | exact ⟨7, rfl, rfl⟩ | exact ⟨8, rfl, rfl⟩ | exact ⟨9, rfl, rfl⟩ | exact ⟨10, rfl, rfl⟩ | exact ⟨11, rfl, rfl⟩ | exact ⟨12, rfl, rfl⟩ | exact ⟨13, rfl, rfl⟩ | exact ⟨14, rfl, rfl⟩ | exact ⟨15, rfl, rfl⟩ | exact ⟨16, rfl, rfl⟩ | assumption)
local macro_rules | `(tactic| fail "lkF") => `(tactic| first | assumption | exact fz_at 0 (by fail "nd") rfl rfl | exact fz_at 1 (by fail "nd") rfl rfl | exact fz_at 2 (by fail "nd") rfl rfl | exact fz_at 3 (by fail "nd") rfl rfl | exact fz_at 4 (by fail "nd") rfl rfl | exact fz_at 5 (by fail "nd") rfl rfl | exact fz_at 6 (by fail "nd") rfl rfl | exact fz_at 7 (by fail "nd") rfl rfl)
local macro_rules | `(tactic| fail "lkD") => `(tactic| first | assumption | exact dz_at 0 (by fail "nd") rfl rfl | exact dz_at 1 (by fail "nd") rfl rfl | exact dz_at 2 (by fail "nd") rfl rfl | exact dz_at 3 (by fail "nd") rfl rfl | exact dz_at 4 (by fail "nd") rfl rfl)
local macro_rules | `(tactic| fail "ptF") => `(tactic| first | assumption | exact fz_put 0 (by fail "nd") rfl (Nat.le_of_ble_eq_true rfl) | exact fz_put 1 (by fail "nd") rfl (Nat.le_of_ble_eq_true rfl) | exact fz_put 2 (by fail "nd") rfl (Nat.le_of_ble_eq_true rfl) | exact fz_put 3 (by fail "nd") rfl (Nat.le_of_ble_eq_true rfl) | exact fz_put 4 (by fail "nd") rfl (Nat.le_of_ble_eq_true rfl) | exact fz_put 5 (by fail "nd") rfl (Nat.le_of_ble_eq_true rfl) | exact fz_put 6 (by fail "nd") rfl (Nat.le_of_ble_eq_true rfl) | exact fz_put 7 (by fail "nd") rfl (Nat.le_of_ble_eq_true rfl) | exact fz_new (by decide +kernel) rfl)
local macro_rules | `(tactic| fail "ptD") => `(tactic| first | assumption | exact dz_put 0 (by fail "nd") rfl (Nat.le_of_ble_eq_true rfl) | exact dz_put 1 (by fail "nd") rfl (Nat.le_of_ble_eq_true rfl) | exact dz_put 2 (by fail "nd") rfl (Nat.le_of_ble_eq_true rfl) | exact dz_put 3 (by fail "nd") rfl (Nat.le_of_ble_eq_true rfl) | exact dz_put 4 (by fail "nd") rfl (Nat.le_of_ble_eq_true rfl))
local macro_rules | `(tactic| fail "sz") => `(tactic| first | assumption | exact (Nat.le_of_ble_eq_true rfl) | omega | decide)
local macro_rules | `(tactic| fail "sd") => `(tactic| first | rfl | assumption | decide | omega | (dsimp only; first | decide | omega) | exact .inr ⟨by decide, by decide⟩ | exact .inl ⟨by decide, by decide⟩ | exact ⟨by omega, by omega⟩ | exact .inl ⟨by omega, by omega⟩ | exact .inr ⟨by omega, by omega⟩ | exact ⟨by omega, by omega, by omega⟩)
local macro_rules | `(tactic| fail "cl") => `(tactic| (clear hH; dsimp only [List.set, List.cons_append, List.nil_append, List.append] at hL))
local macro_rules | `(tactic| fail "gn") => `(tactic| (intro p hp; generalize hH : upd H p _ = H; replace hL := Led.newH hL hp hH; clear hH hp))
local macro_rules | `(tactic| fail "gup") => `(tactic| (generalize hH : upd H _ _ = H; replace hL := Led.upU hL (by fail "up") hH; fail "cl"))
local macro_rules | `(tactic| fail "gmk") => `(tactic| (intro x dx hx hd ne; generalize hH : upd (upd H dx _) x _ = H; replace hL := Led.made hL hx hd ne hH; clear hH hx hd ne))
local macro_rules | `(tactic| fail "v") => `(tactic| refine ⟨_, rfl, ?_⟩)
local macro_rules | `(tactic| fail "i2") => `(tactic| refine ⟨_, _, rfl, rfl, ?_⟩)
local macro_rules | `(tactic| fail "go1") => `(tactic| first
  | refine ⟨_, rfl, ?_⟩
  | refine ⟨_, _, rfl, rfl, ?_⟩
  | refine ⟨_, _, rfl, ?_⟩
  | refine iteT ?_
  | refine iteF ?_
  | refine k_fld hL (by fail "ix") (by assumption) (by assumption) (by fail "lkF") ?_
  | refine k_dgetS hL (by fail "ix") (by fail "lkD") ?_
  | refine k_dgetI hL (by fail "ix") (by assumption) ?_
  | refine k_ixL hL (by fail "ix") (by first | rfl | assumption) ?_
  | refine k_ixT hL (by fail "ix") (by first | rfl | assumption) ?_
  | refine k_tyL hL (by fail "ix") ?_
  | refine k_isd hL (by fail "ix") ?_
  | (refine And.intro (by fail "sz") ?_; fail "gn")
  | refine And.intro (by fail "sd") ?_
  | fail "gn"
  | refine k_meth hL (by fail "ix") (by first | assumption | exact fz_no (by decide +kernel)) ?_
  | refine k_gtup hL (by fail "ix") rfl ?_
  | (refine k_popI hL (by fail "ix") (by assumption) ?_; fail "gup")
  | (refine k_listD hL (by fail "ix") ?_; fail "gn")
  | (refine ⟨_, _, _, _, rfl, rfl, hL.at (by fail "ix"), rfl, ?_⟩; fail "gup")
  | (refine ⟨_, _, _, rfl, rfl, hL.at (by fail "ix"), (by fail "sz"), ?_⟩; fail "gup")
  | (refine ⟨_, _, _, _, rfl, hL.at (by fail "ix"), by assumption, by assumption, Nat.lt_of_le_of_lt fz_len (by decide), ?_⟩; generalize hH : upd H _ _ = H; replace hL := Led.upF hL (by fail "up") (by fail "ptF") hH; fail "cl")
  | (refine ⟨_, _, hL.at (by fail "ix"), Nat.lt_of_le_of_lt fz_len (by decide), ?_⟩; generalize hH : upd H _ _ = H; replace hL := Led.upF hL (by fail "up") (by fail "ptF") hH; fail "cl")
  | (refine k_dputS hL (by fail "ix") (Nat.lt_of_le_of_lt dz_len (by decide)) (by fail "ptD") (by fail "up") ?_; clear hL; intro H hL; dsimp only [List.set, List.cons_append, List.nil_append, List.append] at hL)
  | refine k_lenL2 hL (by fail "ix") ?_
  | refine k_lenT2 hL (by fail "ix") ?_
  | refine .inl ⟨_, rfl, ?_⟩
  | refine .inr ⟨_, rfl, ?_⟩)
local macro_rules | `(tactic| fail "go") => `(tactic| repeat fail "go1")
local macro_rules | `(tactic| fail "pm") => `(tactic| (refine Led.le hL (fun a_ => ?_); simp only [cnt_nil, cnt_cons, cnt_app, List.map_append, List.map_cons, List.map_nil, List.flatMap_append, List.flatMap_cons, List.flatMap_nil, List.append_assoc, List.cons_append, List.nil_append]; omega))

/-- a disk that never fails -/
def calm (s : DkS) : Prop := s.fu = none ∧ s.dn = false
theorem calm.up {s : DkS} (h : calm s) : s.up = true := by
  unfold DkS.up
  rw [h.1, h.2]
  rfl
theorem calm.step {s : DkS} (h : calm s) : calm s.step := ⟨by show s.fu.map _ = none; rw [h.1]; rfl, h.2⟩
/-- the bytes of a row -/
abbrev rF (r : Rw) : List Int := frameB (packB (rD r))
def spNote (CW CD CE PN : Addr) : Sp := fun vs H Q E => ∃ (x dx D T R : Addr) (ns : List Str) (rvs : List V) (dd K W F : Addr) (s : DkS) (wd st : Str) (ps : Array Value) (L : Lg), vs = [.ref x, .str wd, .str st] ∧ Led H ((PN, .tbl ps) :: (wfL CW x dx D T R ns rvs ++ (dkL CD D dd K W F s ++ L))) ∧ TriplesOk ps.toList ∧ Pk 2 (rD (wd, st)) ∧ rvs.length < 200 ∧
  s.kb.length + (s.wb.length + ((packB (rD (wd, st))).length + 8)) ≤ sizeLine ∧
  (∀ (a K' W' : Addr) (s' : DkS) (ps' : Array Value) H', TriplesOk ps'.toList → s'.kb = s.kb ++ (s.wb ++ rF (wd, st)) → s'.wb = [] → s'.fs = s.fs → (calm s → calm s') → Led H' ((PN, .tbl ps') :: (wfL CW x dx D T R ns (rvs ++ [.ref a]) ++ (dkL CD D dd K' W' F s' ++ ((a, .tup [.str wd, .str st]) :: L)))) → Q .non H') ∧
  (¬ calm s → ∀ (K' W' : Addr) (s' : DkS) (ps' : Array Value) H', TriplesOk ps'.toList → s'.kb = s.kb → (s'.wb = s.wb ∨ s'.wb = s.wb ++ rF (wd, st)) → s'.fs = s.fs → Led H' ((PN, .tbl ps') :: (wfL CW x dx D T R ns rvs ++ (dkL CD D dd K' W' F s' ++ L))) → E (.ref CE) none H')
section
variable {P : Program} {w : World} {K : PySem.W.Frag} {mg : Str → Option Value} {base : Heap} {CW CD CE PN : Addr}
theorem scNote : FnScope ["self", "word", "step"] ["self", "word", "step"] (defScope sNote) := ⟨rfl, rfl, rfl, by decide +kernel, rfl, by decide +kernel, by decide +kernel⟩
theorem ok_note {f : Addr} {fd : FuncData} (F : Fun K "note" "Workflow.note" sNote f fd) (X : TxtWf K CW) (c_Disk_append : MetX P w K mg base 9 CD "append" (spDApp CD CE PN 2) []) (c_Disk_sync : MetX P w K mg base 2 CD "sync" (spSync CD CE) []) :
    FnOk P w K mg base (L2.CX P w) 10 f fd ["self", "word", "step"] (spNote CW CD CE PN) := by
  refine F.okX scNote (fun vs H Q E h => ?_) (fun cdv A outer s0 H vs Q E hr h => ?_)
  · obtain ⟨x, dx, D, T, R, ns, rvs, dd, KK, W, F, s, wd, st, ps, L, rfl, _⟩ := h
    rfl
  · obtain ⟨x, dx, D, T, R, ns, rvs, dd, KK, W, F, s, wd, st, ps, L, rfl, hL, ht, hp, hn, hz, k1, k2⟩ := h
    have c1 := X.cl
    have f1 := X.n "disk" (by decide +kernel)
    have f3 := X.n "rows" (by decide +kernel)
    have hn2 : rvs.length < sizeLine := Nat.lt_of_lt_of_le hn (by decide)
    refine ⟨_, (pss_cons (ps_expr (pe_mtX c_Disk_append hr (by decide) (takes_of rfl rfl rfl (E := E) rfl) (pe_fld (pv 0) rfl) (pa_cons (pe_tup (pa_cons (pv 1) (pa_cons (pv 2) pa_nil))) pa_nil)))
  (pss_cons (ps_expr (pe_mtX0 c_Disk_sync hr (by decide) (takes_of rfl rfl rfl (E := E) rfl) (pe_fld (pv 0) rfl)))
  (pss_one (ps_expr (pe_bm PySem.F.plainAttrs_list PySem.F.slot_list_append PySem.F.type_list_append mt_append (pe_fld (pv 0) rfl) (pa_cons (pe_tup (pa_cons (pv 1) (pa_cons (pv 2) pa_nil))) pa_nil)))))), ?_⟩
    dsimp only [wfL, wfO, List.cons_append, List.nil_append] at hL
    fail "go"
    have hL2 : Led H ((PN, .tbl ps) :: (dkL CD D dd KK W F s ++ ((p, .tup [.str wd, .str st]) :: (wfL CW x dx D T R ns rvs ++ L)))) := by
      dsimp only [wfL, wfO, List.cons_append, List.nil_append]
      fail "pm"
    clear hL
    refine ⟨D, dd, KK, W, F, s, .ref p, rD (wd, st), ps, _, rfl, hL2, ht, .row (.head _) (.cons (.str _) (.cons (.str _) .nil)), hp, by omega, fun hu W1 ps H ht hL => ?_, fun hu ps H ht hL => ?_⟩
    · clear hL2
      obtain ⟨s2, hs2⟩ : ∃ s2 : DkS, s2 = { s.step with wb := s.wb ++ frameB (packB (rD (wd, st))) } := ⟨_, rfl⟩
      rw [← hs2] at hL
      have hL2 : Led H (wfO CW x dx D T R :: (dkL CD D dd KK W1 F s2 ++ ((PN, .tbl ps) :: (T, .tup (ns.map .str)) :: (R, .lst rvs) :: L))) := by
        dsimp only [wfL, wfO, List.cons_append, List.nil_append] at hL ⊢
        fail "pm"
      clear hL
      have hL := hL2
      clear hL2
      have e1 : s2.kb = s.kb := by rw [hs2]; rfl
      have e2 : s2.wb = s.wb ++ rF (wd, st) := by rw [hs2]
      have e3 : s2.fs = s.fs := by rw [hs2]; rfl
      have e4 : calm s → calm s2 := fun h => by rw [hs2]; exact h.step
      dsimp only [wfO] at hL
      fail "go"
      refine ⟨D, dd, KK, W1, F, s2, (PN, .tbl ps) :: wfO CW x dx D T R :: (T, .tup (ns.map .str)) :: (R, .lst rvs) :: L, rfl, by dsimp only [wfO]; fail "pm", by rw [e1, e2, List.length_append, frame_len]; exact hz, fun hu2 K2 W2 H hL => ?_, fun hu2 H hL => ?_⟩
      · obtain ⟨s3, hs3⟩ : ∃ s3 : DkS, s3 = { s2.step with kb := s2.kb ++ s2.wb, wb := [], sy := s2.sy + 1 } := ⟨_, rfl⟩
        rw [← hs3] at hL
        have hL2 : Led H (wfO CW x dx D T R :: (R, .lst rvs) :: (dkL CD D dd K2 W2 F s3 ++ ((PN, .tbl ps) :: (T, .tup (ns.map .str)) :: L))) := by
          dsimp only [wfO] at hL ⊢
          fail "pm"
        clear hL
        have hL := hL2
        clear hL2
        dsimp only [wfO] at hL
        fail "go"
        refine k1 p K2 W2 s3 ps H ht (by rw [hs3, e1, e2]) (by rw [hs3]) (by rw [hs3, ← e3]; rfl) (fun h => by rw [hs3]; exact (e4 h).step) ?_
        dsimp only [wfL, wfO, List.cons_append, List.nil_append]
        fail "pm"
      · refine k2 (fun hc => by rw [(e4 hc).up] at hu2; cases hu2) KK W1 s2.fall ps H ht e1 (.inr e2) e3 ?_
        dsimp only [wfL, wfO, List.cons_append, List.nil_append] at hL ⊢
        fail "pm"
    · refine k2 (fun hc => by rw [hc.up] at hu; cases hu) KK W s.fall ps H ht rfl (.inl rfl) rfl ?_
      dsimp only [wfL, wfO, List.cons_append, List.nil_append] at hL ⊢
      fail "pm"
end
end Sd


set_option linter.unusedVariables false
namespace Sd
open PySem L2
open C8 (Cal Met Mak pe_c pe_mk pe_mt pe_mt0 pss_cut tCut)
set_option linter.unusedSimpArgs false
set_option pp.deepTerms false
set_option pp.deepTerms.threshold 12
set_option hygiene false
local macro_rules | `(tactic| fail "nd") => `(tactic| first | assumption | decide +kernel)
local macro_rules | `(tactic| fail "ix") => `(tactic| first | exact ⟨0, rfl⟩ | exact ⟨1, rfl⟩ | exact ⟨2, rfl⟩ | exact ⟨3, rfl⟩ | exact ⟨4, rfl⟩ | exact ⟨5, rfl⟩ | exact ⟨6, rfl⟩ | exact ⟨7, rfl⟩ | exact ⟨8, rfl⟩ | exact ⟨9, rfl⟩ | exact ⟨10, rfl⟩ | exact ⟨11, rfl⟩ | exact ⟨12, rfl⟩ | exact ⟨13, rfl⟩ | exact ⟨14, rfl⟩ | exact ⟨15, rfl⟩ | exact ⟨16, rfl⟩ | exact ⟨17, rfl⟩ | exact ⟨18, rfl⟩ | assumption)
local macro_rules | `(tactic| fail "up") => `(tactic| first | exact ⟨0, rfl, rfl⟩ | exact ⟨1, rfl, rfl⟩ | exact ⟨2, rfl, rfl⟩ | exact ⟨3, rfl, rfl⟩ | exact ⟨4, rfl, rfl⟩ | exact ⟨5, rfl, rfl⟩ | exact ⟨6, rfl, rfl⟩ | exact ⟨7, rfl, rfl⟩ | exact ⟨8, rfl, rfl⟩ | exact ⟨9, rfl, rfl⟩ | exact ⟨10, rfl, rfl⟩ | exact ⟨11, rfl, rfl⟩ | exact ⟨12, rfl, rfl⟩ | exact ⟨13, rfl, rfl⟩ | exact ⟨14, rfl, rfl⟩ | exact ⟨15, rfl, rfl⟩ | exact ⟨16, rfl, rfl⟩ | assumption)
local macro_rules | `(tactic| fail "lkF") => `(tactic| first | assumption | exact fz_at 0 (by fail "nd") rfl rfl | exact fz_at 1 (by fail "nd") rfl rfl | exact fz_at 2 (by fail "nd") rfl rfl | exact fz_at 3 (by fail "nd") rfl rfl | exact fz_at 4 (by fail "nd") rfl rfl | exact fz_at 5 (by fail "nd") rfl rfl | exact fz_at 6 (by fail "nd") rfl rfl | exact fz_at 7 (by fail "nd") rfl rfl)
local macro_rules | `(tactic| fail "lkD") => `(tactic| first | assumption | exact dz_at 0 (by fail "nd") rfl rfl | exact dz_at 1 (by fail "nd") rfl rfl | exact dz_at 2 (by fail "nd") rfl rfl | exact dz_at 3 (by fail "nd") rfl rfl | exact dz_at 4 (by fail "nd") rfl rfl)
local macro_rules | `(tactic| fail "ptF") => `(tactic| first | assumption | exact fz_put 0 (by fail "nd") rfl (Nat.le_of_ble_eq_true rfl) | exact fz_put 1 (by fail "nd") rfl (Nat.le_of_ble_eq_true rfl) | exact fz_put 2 (by fail "nd") rfl (Nat.le_of_ble_eq_true rfl) | exact fz_put 3 (by fail "nd") rfl (Nat.le_of_ble_eq_true rfl) | exact fz_put 4 (by fail "nd") rfl (Nat.le_of_ble_eq_true rfl) | exact fz_put 5 (by fail "nd") rfl (Nat.le_of_ble_eq_true rfl) | exact fz_put 6 (by fail "nd") rfl (Nat.le_of_ble_eq_true rfl) | exact fz_put 7 (by fail "nd") rfl (Nat.le_of_ble_eq_true rfl) | exact fz_new (by decide +kernel) rfl)
local macro_rules | `(tactic| fail "ptD") => `(tactic| first | assumption | exact dz_put 0 (by fail "nd") rfl (Nat.le_of_ble_eq_true rfl) | exact dz_put 1 (by fail "nd") rfl (Nat.le_of_ble_eq_true rfl) | exact dz_put 2 (by fail "nd") rfl (Nat.le_of_ble_eq_true rfl) | exact dz_put 3 (by fail "nd") rfl (Nat.le_of_ble_eq_true rfl) | exact dz_put 4 (by fail "nd") rfl (Nat.le_of_ble_eq_true rfl))
local macro_rules | `(tactic| fail "sz") => `(tactic| first | assumption | exact (Nat.le_of_ble_eq_true rfl) | omega | decide)
local macro_rules | `(tactic| fail "sd") => `(tactic| first | rfl | assumption | decide | omega | (dsimp only; first | decide | omega) | exact .inr ⟨by decide, by decide⟩ | exact .inl ⟨by decide, by decide⟩ | exact ⟨by omega, by omega⟩ | exact .inl ⟨by omega, by omega⟩ | exact .inr ⟨by omega, by omega⟩ | exact ⟨by omega, by omega, by omega⟩)
local macro_rules | `(tactic| fail "cl") => `(tactic| (clear hH; dsimp only [List.set, List.cons_append, List.nil_append, List.append] at hL))
local macro_rules | `(tactic| fail "gn") => `(tactic| (intro p hp; generalize hH : upd H p _ = H; replace hL := Led.newH hL hp hH; clear hH hp))
local macro_rules | `(tactic| fail "gup") => `(tactic| (generalize hH : upd H _ _ = H; replace hL := Led.upU hL (by fail "up") hH; fail "cl"))
local macro_rules | `(tactic| fail "gmk") => `(tactic| (intro x dx hx hd ne; generalize hH : upd (upd H dx _) x _ = H; replace hL := Led.made hL hx hd ne hH; clear hH hx hd ne))
local macro_rules | `(tactic| fail "v") => `(tactic| refine ⟨_, rfl, ?_⟩)
local macro_rules | `(tactic| fail "i2") => `(tactic| refine ⟨_, _, rfl, rfl, ?_⟩)
local macro_rules | `(tactic| fail "go1") => `(tactic| first
  | refine ⟨_, rfl, ?_⟩
  | refine ⟨_, _, rfl, rfl, ?_⟩
  | refine ⟨_, _, rfl, ?_⟩
  | refine iteT ?_
  | refine iteF ?_
  | refine k_fld hL (by fail "ix") (by assumption) (by assumption) (by fail "lkF") ?_
  | refine k_dgetS hL (by fail "ix") (by fail "lkD") ?_
  | refine k_dgetI hL (by fail "ix") (by assumption) ?_
  | refine k_ixL hL (by fail "ix") (by first | rfl | assumption) ?_
  | refine k_ixT hL (by fail "ix") (by first | rfl | assumption) ?_
  | refine k_tyL hL (by fail "ix") ?_
  | refine k_isd hL (by fail "ix") ?_
  | (refine And.intro (by fail "sz") ?_; fail "gn")
  | refine And.intro (by fail "sd") ?_
  | fail "gn"
  | refine k_meth hL (by fail "ix") (by first | assumption | exact fz_no (by decide +kernel)) ?_
  | refine k_gtup hL (by fail "ix") rfl ?_
  | (refine k_popI hL (by fail "ix") (by assumption) ?_; fail "gup")
  | (refine k_listD hL (by fail "ix") ?_; fail "gn")
  | (refine ⟨_, _, _, _, rfl, rfl, hL.at (by fail "ix"), rfl, ?_⟩; fail "gup")
  | (refine ⟨_, _, _, rfl, rfl, hL.at (by fail "ix"), (by fail "sz"), ?_⟩; fail "gup")
  | (refine ⟨_, _, _, _, rfl, hL.at (by fail "ix"), by assumption, by assumption, Nat.lt_of_le_of_lt fz_len (by decide), ?_⟩; generalize hH : upd H _ _ = H; replace hL := Led.upF hL (by fail "up") (by fail "ptF") hH; fail "cl")
  | (refine ⟨_, _, hL.at (by fail "ix"), Nat.lt_of_le_of_lt fz_len (by decide), ?_⟩; generalize hH : upd H _ _ = H; replace hL := Led.upF hL (by fail "up") (by fail "ptF") hH; fail "cl")
  | (refine k_dputS hL (by fail "ix") (Nat.lt_of_le_of_lt dz_len (by decide)) (by fail "ptD") (by fail "up") ?_; clear hL; intro H hL; dsimp only [List.set, List.cons_append, List.nil_append, List.append] at hL)
  | refine k_lenL2 hL (by fail "ix") ?_
  | refine k_lenT2 hL (by fail "ix") ?_
  | refine .inl ⟨_, rfl, ?_⟩
  | refine .inr ⟨_, rfl, ?_⟩)
local macro_rules | `(tactic| fail "go") => `(tactic| repeat fail "go1")
local macro_rules | `(tactic| fail "pm") => `(tactic| (refine Led.le hL (fun a_ => ?_); simp only [cnt_nil, cnt_cons, cnt_app, List.map_append, List.map_cons, List.map_nil, List.flatMap_append, List.flatMap_cons, List.flatMap_nil, List.append_assoc, List.cons_append, List.nil_append]; omega))

structure TxtN (K : PySem.W.Frag) (mg : Str → Option Value) (WD : Addr) : Prop where
  any : mg "any" = none
  all : mg "all" = none
  len : mg "len" = none
  tuple : mg "tuple" = none
  g_WORDS : ∃ u, mg "WORDS" = some u ∧ RelV (.ref WD) u
  words : ∀ H, SqT K H WD ((["begun", "done", "failed", "undone"] : List Str).map V.str)
/-- what a flow answers at its end -/
def doneA (ns : List Str) (rs : List Rw) : Bool := ns.all fun s => decide (stOf rs s = some ("done" : Str))
def undoneA (ns : List Str) (rs : List Rw) : Bool := ns.all fun s => decide (stOf rs s = none ∨ stOf rs s = some ("undone" : Str))
def failedA (rs : List Rw) : Bool := rs.any fun r => decide (r.1 = ("failed" : Str))
def endOf (ns : List Str) (rs : List Rw) : Option Str := if doneA ns rs = true then some ("done" : Str) else if failedA rs = true ∧ undoneA ns rs = true then some ("undone" : Str) else none
def spEnd (CW PE : Addr) : Sp := fun vs H Q _ => ∃ (x dx D T R : Addr) (ns : List Str) (rvs : List V) (rs : List Rw) (ps : Array Value) (L : Lg), vs = [.ref x] ∧ Led H ((PE, .tbl ps) :: (wfL CW x dx D T R ns rvs ++ L)) ∧ TriplesOk ps.toList ∧ DLs L rvs (rs.map rD) ∧ rs.length ≤ 100 ∧ ns.length ≤ 100 ∧
  ∀ (ps' : Array Value) H', TriplesOk ps'.toList → Led H' ((PE, .tbl ps') :: (wfL CW x dx D T R ns rvs ++ L)) → Q (stV (endOf ns rs)) H'
theorem all_idx {α : Type} {l : List α} {f : α → Bool} {g : Nat → Bool} (h : ∀ i x, l[i]? = some x → g i = f x) : (l.all f = true ↔ ∀ i, i < l.length → g i ≠ false) := by
  rw [List.all_eq_true]
  constructor
  · intro q i hi
    rw [h i l[i] (List.getElem?_eq_getElem hi), q _ (List.getElem_mem hi)]
    decide
  · intro q x hx
    obtain ⟨i, hi, rfl⟩ := List.mem_iff_getElem.mp hx
    have := q i hi
    rw [h i l[i] (List.getElem?_eq_getElem hi)] at this
    simpa using this
theorem any_idx {α : Type} {l : List α} {f : α → Bool} {g : Nat → Bool} (h : ∀ i x, l[i]? = some x → g i = f x) : (l.any f = false ↔ ∀ i, i < l.length → g i ≠ true) := by
  rw [List.any_eq_false]
  constructor
  · intro q i hi
    rw [h i l[i] (List.getElem?_eq_getElem hi)]
    exact q _ (List.getElem_mem hi)
  · intro q x hx
    obtain ⟨i, hi, rfl⟩ := List.mem_iff_getElem.mp hx
    have := q i hi
    rwa [h i l[i] (List.getElem?_eq_getElem hi)] at this
theorem scal_stV {o : Option Str} {z : Str} : scal (stV o) (.str z) = true := by cases o <;> rfl
theorem flat_stV {o : Option Str} : flatV (stV o) = true := by cases o <;> rfl
theorem inV_st {o : Option Str} {z : Str} : inV (stV o) [.non, .str z] = decide (o = none ∨ o = some z) := by
  cases o with
  | none => simp [stV, inV, eqV]
  | some a =>
    show (false || (z == a || false)) = _
    by_cases e : z = a
    · subst e; simp
    · simp [e, Ne.symm e]
theorem stV_str {o : Option Str} {z : Str} : decide (stV o = V.str z) = decide (o = some z) := by
  cases o with
  | none => simp [stV]
  | some a => simp [stV]
section
variable {P : Program} {w : World} {K : PySem.W.Frag} {mg : Str → Option Value} {base : Heap} {CW PE WD : Addr}
theorem scEnd : FnScope ["self", "words", "step", "word", "failed", "row"] ["self"] (defScope sEnd) := ⟨rfl, rfl, rfl, by decide +kernel, rfl, by decide +kernel, by decide +kernel⟩
theorem ok_end {f c : Addr} {oc dV : Value} {od : Option Addr} {osl : Array (Option Value)} {kV doc pm ct : Value} {an : Option Addr}
    (lk : K.lookup f = some ⟨oc, od, .func (PySem.W.fnOf "end" "Workflow.end" (defArgs sEnd) (defBody sEnd) (defScope sEnd) dV kV doc pm an (.ref c) ct), osl⟩) (hcd : PySem.W.codeIn K (.ref c) "Workflow.end" = true) (TB : GxR.TabB base mg c PE) (X : TxtWf K CW) (T : TxtN K mg WD)
    (c_Workflow_state_of : Met P w K mg base 1 CW "state_of" (spSof CW) []) :
    FnOk P w K mg base CX0 6 f (PySem.W.fnOf "end" "Workflow.end" (defArgs sEnd) (defBody sEnd) (defScope sEnd) dV kV doc pm an (.ref c) ct) ["self"] (spEnd CW PE) := by
  refine fn_of lk hcd scEnd (fun vs H Q E h => ?_) fun A outer s H vs Q E hr h => ?_
  · obtain ⟨x, dx, D, T, R, ns, rvs, rs, ps, L, rfl, _⟩ := h
    rfl
  · obtain ⟨x, dx, D, Tt, R, ns, rvs, rs, ps, L, rfl, hL, ht, hz, hn, hns, k⟩ := h
    have c1 := X.cl
    have f2 := X.n "steps" (by decide +kernel)
    have f3 := X.n "rows" (by decide +kernel)
    replace hr : Room 5 _ := hr
    have hr1 : Room (0 + 1) _ := hr.mono (by omega)
    have hr4 : Room (0 + 1 + 3) _ := hr.mono (by omega)
    refine ⟨_, ((pss_cons (ps_setLc (i := 1) (own := [("step", 2)]) (g := gName 2) (by rfl) scEnd.nd rfl rfl (sw_true rfl rfl rfl (by decide +kernel)) (pi_tup (pe_fld (pv 0) rfl)) (blkOk_by (own := [("step", 2)]) (N := ["self", "words", "step", "word", "failed", "row"]) (sc := (defScope sEnd)) (by decide +kernel)) (fun _ _ _ _ _ => (pg_name (i := 2) scEnd.nd rfl (Or.inl rfl))) (fun _ _ _ _ _ => pts_nil) (fun _ _ _ _ _ => (pe_mt c_Workflow_state_of hr (by decide) (pv 0) (pa_cons (pv 2) pa_nil))))
  (pss_cons (ps_if (pt_val (Gx.pe_allG (Gx.pgen_gxb (own := [("word", 3)]) (g := gName 3) hr1 TB rfl scEnd.nd (pi_list (pv 1)) (Gx.gxOk_by (own := [("word", 3)]) (N := ["self", "words", "step", "word", "failed", "row"]) (sc := (defScope sEnd)) (by decide +kernel)) (fun _ _ _ _ _ _ _ _ _ => (pg_name (i := 3) scEnd.nd rfl (Or.inl rfl))) (fun _ _ _ _ _ _ _ _ hr => pts_nil) (fun _ _ _ _ _ _ _ _ hr => (pe_cmpR op_eq (pv 3) pe_str (nomark _))) (fun _ => rfl)) hr4 (by rfl) T.all))
  (pss_one (ps_ret pe_str))
  pss_nil)
  (pss_cons (ps_set (i := 4) scEnd.nd rfl (Or.inl rfl) (Gx.pe_anyG (Gx.pgen_gxb (own := [("row", 5)]) (g := gName 5) hr1 TB rfl scEnd.nd (pi_list (pe_fld (pv 0) rfl)) (Gx.gxOk_by (own := [("row", 5)]) (N := ["self", "words", "step", "word", "failed", "row"]) (sc := (defScope sEnd)) (by decide +kernel)) (fun _ _ _ _ _ _ _ _ _ => (pg_name (i := 5) scEnd.nd rfl (Or.inl rfl))) (fun _ _ _ _ _ _ _ _ hr => pts_nil) (fun _ _ _ _ _ _ _ _ hr => (pe_cmpR op_eq (pe_ix ix_tupG (pv 5) pe_int (fun _ _ => rfl)) pe_str (nomark _))) (fun _ => rfl)) hr4 (by rfl) T.any))
  (pss_one (ps_ret (pe_ifExp (PW.pt (pw_and (pt_val (pv 4)) (pw_and1 (pt_val (Gx.pe_allG (Gx.pgen_gxb (own := [("word", 3)]) (g := gName 3) hr1 TB rfl scEnd.nd (pi_list (pv 1)) (Gx.gxOk_by (own := [("word", 3)]) (N := ["self", "words", "step", "word", "failed", "row"]) (sc := (defScope sEnd)) (by decide +kernel)) (fun _ _ _ _ _ _ _ _ _ => (pg_name (i := 3) scEnd.nd rfl (Or.inl rfl))) (fun _ _ _ _ _ _ _ _ hr => pts_nil) (fun _ _ _ _ _ _ _ _ hr => (pe_cmpR op_in_seqG (pv 3) (pe_tup (pa_cons pe_non (pa_cons pe_str pa_nil))) (by rfl))) (fun _ => rfl)) hr4 (by rfl) T.all))))) pe_str pe_non))))))).nox, ?_⟩
    dsimp only [wfL, wfO, List.cons_append, List.nil_append] at hL
    fail "go"
    refine ⟨⟨_, .of (hL.at ⟨2, rfl⟩)⟩, fun Dl hD => lc_it (walk_tup (xs := ns.map V.str)) (fun i H => Hold (Led H ((Dl, .lst ((ns.take i).map fun s => stV (stOf rs s))) :: (PE, .tbl ps) :: (wfL CW x dx D Tt R ns rvs ++ L)))) (.mk (hL.new hD)) (fun i H _ h => ?_) (fun i v H H' hi h y => ?_) (fun H h => ?_)⟩
    · exact .of (h.out.at ⟨3, rfl⟩)
    · clear hL hD
      have hL := h.out
      clear h
      obtain ⟨rfl, hv⟩ := y
      rw [List.getElem?_map] at hv
      obtain ⟨st, hst, rfl⟩ := Option.map_eq_some_iff.mp hv
      have e1 : ((ns.take (i + 1)).map fun s => stV (stOf rs s)) = ((ns.take i).map fun s => stV (stOf rs s)) ++ [stV (stOf rs st)] := by
        rw [List.take_add_one, hst, List.map_append]; rfl
      refine ⟨rfl, k_yes ?_⟩
      have hA : Led H' (wfL CW x dx D Tt R ns rvs ++ ((Dl, .lst ((ns.take i).map fun s => stV (stOf rs s))) :: (PE, .tbl ps) :: L)) := by fail "pm"
      refine ⟨_, rfl, x, dx, _, rfl, hA.at ⟨0, rfl⟩, fz_no (by decide +kernel), ?_⟩
      fail "go"
      refine ⟨x, dx, D, Tt, R, ns, rvs, rs, st, _, rfl, hA, hz.mono fun a h => .tail _ (.tail _ h), hn, fun H hL => ?_⟩
      have hB : Led H ((Dl, .lst ((ns.take i).map fun s => stV (stOf rs s))) :: (PE, .tbl ps) :: (wfL CW x dx D Tt R ns rvs ++ L)) := by fail "pm"
      refine ⟨_, hB.at ⟨0, rfl⟩, ?_, ?_⟩
      · rw [List.length_map, List.length_take]
        have h3 : 100 < sizeLine := by decide
        omega
      · rw [e1]
        exact .mk (hB.set 0 rfl)
    · clear hL hD
      have hL := h.out
      clear h
      rw [List.length_map, List.take_length] at hL
      refine (show gName 1 (.ref Dl) _ _ _ from ?_)
      fail "go"
      have hws : ∀ (i : Nat) (v : V), (ns.map fun s => stV (stOf rs s))[i]? = some v → ∃ st, ns[i]? = some st ∧ v = stV (stOf rs st) := fun i v h => by
        rw [List.getElem?_map] at h
        obtain ⟨st, a, b⟩ := Option.map_eq_some_iff.mp h
        exact ⟨st, a, b.symm⟩
      have hrw : ∀ (i : Nat) (v : V), rvs[i]? = some v → ∃ (r : Rw) (a : Addr), rs[i]? = some r ∧ v = .ref a ∧ (a, HO.tup [.str r.1, .str r.2]) ∈ L := fun i v h => DLs_rD hz h
      have hlr := hz.len
      rw [List.length_map] at hlr
      obtain ⟨R0, hR0⟩ : ∃ R0 : Lg, R0 = (Dl, HO.lst (ns.map fun s => stV (stOf rs s))) :: (wfL CW x dx D Tt R ns rvs ++ L) := ⟨_, rfl⟩
      have m1 : (Dl, HO.lst (ns.map fun s => stV (stOf rs s))) ∈ R0 := by rw [hR0]; exact .head _
      have m2 : (x, HO.ins CW dx (fz nmW [.ref D, .ref Tt, .ref R])) ∈ R0 := by rw [hR0]; exact .tail _ (.head _)
      have m3 : (R, HO.lst rvs) ∈ R0 := by rw [hR0]; exact .tail _ (.tail _ (.tail _ (.head _)))
      have m4 : ∀ a ∈ L, a ∈ R0 := fun a h => by rw [hR0]; exact .tail _ (List.mem_append_right _ h)
      have hA : Led H ((PE, .tbl ps) :: R0) := by rw [hR0]; fail "pm"
      have hK : ∀ (ps' : Array Value) (o : Option Str) H', TriplesOk ps'.toList → Led H' ((PE, .tbl ps') :: R0) → endOf ns rs = o → Q (stV o) H' := fun ps' o H' ht' hL e => e ▸ k ps' H' ht' (by rw [hR0] at hL; fail "pm")
      clear hL k hR0
      refine ⟨⟨_, .of (hA.mem (.tail _ m1))⟩, k_gxl (fun i => ((ns[i]?.map fun s => decide (stOf rs s = some ("done" : Str))).getD false)) hA ht m1 (fun i v ps H Rr hv ht hL hR => ?_) (fun ps H i hi hf ht hL => ?_) (fun ps H hf ht hL => ?_) gmono_name⟩
      · obtain ⟨st, hst, rfl⟩ := hws i v hv
        refine ⟨rfl, ?_⟩
        refine ⟨_, rfl, ?_⟩
        refine ⟨scal_stV, ?_⟩
        rw [stV_str, show decide (stOf rs st = some ("done" : Str)) = ((ns[i]?.map fun s => decide (stOf rs s = some ("done" : Str))).getD false) by rw [hst]; rfl]
        exact hR ps H ht hL
      · have e0 : doneA ns rs = false := Bool.eq_false_iff.mpr fun z => (all_idx (f := fun s => decide (stOf rs s = some ("done" : Str))) (g := fun i => ((ns[i]?.map fun s => decide (stOf rs s = some ("done" : Str))).getD false)) (fun i x h => by rw [h]; rfl)).mp z i (by rwa [List.length_map] at hi) hf
        clear hA
        fail "go"
        refine k_fld hL (at_mem (.tail _ m2)) (by assumption) (by assumption) (fz_at 2 (by decide +kernel) rfl rfl) ?_
        refine ⟨_, rfl, ?_⟩
        have hfr : ∀ (i : Nat) (x : Rw), rs[i]? = some x → ((rs[i]?.map fun r : Rw => decide (r.1 = ("failed" : Str))).getD false) = decide (x.1 = ("failed" : Str)) := fun i x h => by rw [h]; rfl
        have hun : ∀ (i : Nat) (x : Str), ns[i]? = some x → ((ns[i]?.map fun s => decide (stOf rs s = none ∨ stOf rs s = some ("undone" : Str))).getD false) = decide (stOf rs x = none ∨ stOf rs x = some ("undone" : Str)) := fun i x h => by rw [h]; rfl
        refine ⟨⟨_, .of (hL.mem (.tail _ m3))⟩, k_gxl (fun i => ((rs[i]?.map fun r : Rw => decide (r.1 = ("failed" : Str))).getD false)) hL ht m3 (fun i v ps H Rr hv ht hL hR => ?_) (fun ps H i hi hf ht hL => ?_) (fun ps H hf ht hL => ?_) gmono_name⟩
        · obtain ⟨r, a, hr1, rfl, ha⟩ := hrw i v hv
          refine ⟨rfl, ?_⟩
          refine ⟨_, rfl, ?_⟩
          refine k_ixT hL (at_mem (.tail _ (m4 _ ha))) (v := .str r.1) (atI_nat (j := 0) rfl) ?_
          refine ⟨rfl, ?_⟩
          rw [show decide (V.str r.1 = V.str ("failed" : Str)) = ((rs[i]?.map fun r : Rw => decide (r.1 = ("failed" : Str))).getD false) by rw [hfr i r hr1]; simp]
          exact hR ps H ht hL
        · have ef : failedA rs = true := by
            cases h : failedA rs with
            | true => rfl
            | false => exact absurd hf ((any_idx hfr).mp h i (by omega))
          fail "go"
          refine ⟨⟨_, .of (hL.mem (.tail _ m1))⟩, k_gxl (fun i => ((ns[i]?.map fun s => decide (stOf rs s = none ∨ stOf rs s = some ("undone" : Str))).getD false)) hL ht m1 (fun i v ps H Rr hv ht hL hR => ?_) (fun ps H i hi hf ht hL => ?_) (fun ps H hf ht hL => ?_) gmono_name⟩
          · obtain ⟨st, hst, rfl⟩ := hws i v hv
            refine ⟨rfl, ?_⟩
            fail "go"
            refine ⟨_, _, rfl, .inr (.of (hL.at ⟨0, rfl⟩)), flat_stV, rfl, ?_⟩
            rw [inV_st, ← hun i st hst]
            exact hR ps H ht hL.tail
          · have eu : undoneA ns rs = false := Bool.eq_false_iff.mpr fun z => (all_idx hun).mp z i (by rwa [List.length_map] at hi) hf
            fail "go"
            exact hK ps none H ht hL (by unfold endOf; rw [if_neg (by rw [e0]; decide), if_neg (fun z => by rw [eu] at z; exact absurd z.2 (by decide))])
          · have eu : undoneA ns rs = true := (all_idx hun).mpr fun i hi => hf i (by rwa [List.length_map])
            fail "go"
            exact hK ps (some "undone") H ht hL (by unfold endOf; rw [if_neg (by rw [e0]; decide), if_pos ⟨ef, eu⟩])
        · have ef : failedA rs = false := (any_idx hfr).mpr fun i hi => hf i (by omega)
          fail "go"
          exact hK ps none H ht hL (by unfold endOf; rw [if_neg (by rw [e0]; decide), if_neg (fun z => by rw [ef] at z; exact absurd z.1 (by decide))])
      · have e0 : doneA ns rs = true := (all_idx (f := fun s => decide (stOf rs s = some ("done" : Str))) (g := fun i => ((ns[i]?.map fun s => decide (stOf rs s = some ("done" : Str))).getD false)) (fun i x h => by rw [h]; rfl)).mpr fun i hi => hf i (by rwa [List.length_map])
        fail "go"
        exact hK ps (some "done") H ht hL (by unfold endOf; rw [if_pos e0])
end
end Sd


set_option linter.unusedVariables false
/-! the rows that a flow of n steps writes, the step f fails (f = n: none) -/
namespace Sd
open PySem L2
def RN (n f : Nat) : List (Nat × Nat) := ((List.range (min f n)).flatMap fun i => [(0, i), (1, i)]) ++ if f < n then (0, f) :: (2, f) :: ((List.range (f + 1)).reverse.map fun i => (3, i)) else []
def stN (rs : List (Nat × Nat)) (m : Nat) : Option Nat := ((rs.filter fun p => p.2 == m).map (·.1)).getLast?
def dN (n f j : Nat) : Nat := (((RN n f).take j).filter fun p => p.1 == 1).length
def uN (n f j : Nat) : Nat := (((RN n f).take j).filter fun p => p.1 == 3).length
def endN (n f j : Nat) : Option Nat := if f = n ∧ j = 2 * n then some 1 else if f < n ∧ j = 3 * f + 3 then some 3 else none
def lenN (n f : Nat) : Nat := if f < n then 3 * f + 3 else 2 * n
/-- all facts of a flow's rows, as numbers -/
def facts (n f j : Nat) : Bool :=
  (RN n f).length == lenN n f && ((RN n f).all fun p => decide (p.2 < n) && decide (p.1 < 4)) &&
  (((RN n f).take j).any fun p => p.1 == 2) == (decide (f < n) && decide (2 * f + 2 ≤ j)) &&
  ((List.range n).all fun i =>
    (!(decide (i ≤ f) && decide (2 * i ≤ j) && (decide (f = n) || decide (j ≤ 2 * f + 1))) || stN ((RN n f).take j) i == (if j = 2 * i then none else if j = 2 * i + 1 then some 0 else some 1)) &&
    (!decide (i ≤ f) || ((RN n f)[2 * i]? == some (0, i) && (RN n f)[2 * i + 1]? == some (if i = f then 2 else 1, i) && dN n f (2 * i) == i && dN n f (2 * i + 1) == i && (i == f || dN n f (2 * i + 2) == i + 1) && (i != f || dN n f (2 * i + 2) == i) && uN n f (2 * i + 1) == 0 && uN n f (2 * i + 2) == 0)) &&
    (!(decide (f < n) && decide (2 * f + 2 ≤ j)) || stN ((RN n f).take j) i == (if f < i then none else if 3 * f + 3 ≤ j + i then some 3 else if i = f then some 2 else some 1)) &&
    (!(decide (f < n) && decide (i ≤ f)) || ((RN n f)[3 * f + 2 - i]? == some (3, i) && uN n f (3 * f + 2 - i) == f - i && uN n f (3 * f + 3 - i) == f - i + 1 && dN n f (3 * f + 2 - i) == f && dN n f (3 * f + 3 - i) == f))) &&
  (((List.range n).all fun i => stN ((RN n f).take j) i == some 1) == decide (endN n f j = some 1)) &&
  (((((RN n f).take j).any fun p => p.1 == 2) && (List.range n).all fun i => stN ((RN n f).take j) i == none || stN ((RN n f).take j) i == some 3) == decide (endN n f j = some 3))
theorem facts_all : ((List.range 7).all fun n => n == 0 || (List.range (n + 1)).all fun f => (List.range (lenN n f + 1)).all fun j => facts n f j) = true := by decide +kernel
theorem imp_b {a b : Bool} (h : (!a || b) = true) (q : a = true) : b = true := by subst q; simpa using h
structure Fct (n f j : Nat) : Prop where
  len : (RN n f).length = lenN n f
  wf : ∀ p ∈ RN n f, p.2 < n ∧ p.1 < 4
  fail : (((RN n f).take j).any fun p => p.1 == 2) = (decide (f < n) && decide (2 * f + 2 ≤ j))
  st1 : ∀ i, i < n → i ≤ f → 2 * i ≤ j → (f = n ∨ j ≤ 2 * f + 1) → stN ((RN n f).take j) i = (if j = 2 * i then none else if j = 2 * i + 1 then some 0 else some 1)
  r : ∀ i, i < n → i ≤ f → (RN n f)[2 * i]? = some (0, i) ∧ (RN n f)[2 * i + 1]? = some (if i = f then 2 else 1, i) ∧ dN n f (2 * i) = i ∧ dN n f (2 * i + 1) = i ∧ dN n f (2 * i + 2) = (if i = f then i else i + 1) ∧ uN n f (2 * i + 1) = 0 ∧ uN n f (2 * i + 2) = 0
  st2 : ∀ i, i < n → f < n → 2 * f + 2 ≤ j → stN ((RN n f).take j) i = (if f < i then none else if 3 * f + 3 ≤ j + i then some 3 else if i = f then some 2 else some 1)
  u : ∀ i, i < n → f < n → i ≤ f → (RN n f)[3 * f + 2 - i]? = some (3, i) ∧ uN n f (3 * f + 2 - i) = f - i ∧ uN n f (3 * f + 3 - i) = f - i + 1 ∧ dN n f (3 * f + 2 - i) = f ∧ dN n f (3 * f + 3 - i) = f
  all1 : ((List.range n).all fun i => stN ((RN n f).take j) i == some 1) = decide (endN n f j = some 1)
  all3 : ((((RN n f).take j).any fun p => p.1 == 2) && (List.range n).all fun i => stN ((RN n f).take j) i == none || stN ((RN n f).take j) i == some 3) = decide (endN n f j = some 3)
theorem fct {n f j : Nat} (h0 : 0 < n) (h6 : n ≤ 6) (hf : f ≤ n) (hj : j ≤ lenN n f) : Fct n f j := by
  have h := facts_all
  rw [List.all_eq_true] at h
  have h := h n (List.mem_range.mpr (by omega))
  rw [Bool.or_eq_true] at h
  rcases h with h | h
  · rw [beq_iff_eq] at h; omega
  rw [List.all_eq_true] at h
  have h := h f (List.mem_range.mpr (by omega))
  rw [List.all_eq_true] at h
  have h := h j (List.mem_range.mpr (by omega))
  unfold facts at h
  rw [Bool.and_eq_true, Bool.and_eq_true, Bool.and_eq_true, Bool.and_eq_true, Bool.and_eq_true] at h
  obtain ⟨⟨⟨⟨⟨h1, h2⟩, h3⟩, h4⟩, h5⟩, h6⟩ := h
  rw [List.all_eq_true] at h4
  have h4 : ∀ i, i < n → _ := fun i hi => h4 i (List.mem_range.mpr hi)
  simp only [Bool.and_eq_true] at h4
  refine ⟨by rwa [beq_iff_eq] at h1, fun p hp => ?_, by rwa [beq_iff_eq] at h3, fun i hi a b c => ?_, fun i hi a => ?_, fun i hi a b => ?_, fun i hi a b => ?_, by rwa [beq_iff_eq] at h5, by rwa [beq_iff_eq] at h6⟩
  · rw [List.all_eq_true] at h2
    have := h2 p hp
    rwa [Bool.and_eq_true, decide_eq_true_eq, decide_eq_true_eq] at this
  · have q := imp_b (h4 i hi).1.1.1 (by simp only [Bool.and_eq_true, Bool.or_eq_true, decide_eq_true_eq]; exact ⟨⟨a, b⟩, c⟩)
    rwa [beq_iff_eq] at q
  · have q := imp_b (h4 i hi).1.1.2 (by rwa [decide_eq_true_eq])
    simp only [Bool.and_eq_true, beq_iff_eq, Bool.or_eq_true, bne_iff_ne, ne_eq] at q
    obtain ⟨⟨⟨⟨⟨⟨⟨q1, q2⟩, q3⟩, q4⟩, q5⟩, q6⟩, q7⟩, q8⟩ := q
    refine ⟨q1, q2, q3, q4, ?_, q7, q8⟩
    by_cases e : i = f
    · rw [if_pos e]; exact q6.resolve_left fun z => z e
    · rw [if_neg e]; exact q5.resolve_left e
  · have q := imp_b (h4 i hi).1.2 (by simp only [Bool.and_eq_true, decide_eq_true_eq]; exact ⟨a, b⟩)
    rwa [beq_iff_eq] at q
  · have q := imp_b (h4 i hi).2 (by simp only [Bool.and_eq_true, decide_eq_true_eq]; exact ⟨a, b⟩)
    simp only [Bool.and_eq_true, beq_iff_eq] at q
    obtain ⟨⟨⟨⟨q1, q2⟩, q3⟩, q4⟩, q5⟩ := q
    exact ⟨q1, q2, q3, q4, q5⟩
theorem facts_end : ((List.range 7).all fun n => (List.range (n + 1)).all fun f => dN n f (lenN n f) == f && dN n f (lenN n f + 1) == f && uN n f (lenN n f) == (if f < n then f + 1 else 0) && uN n f (lenN n f + 1) == (if f < n then f + 1 else 0)) = true := by decide +kernel
theorem fct_end {n f : Nat} (h6 : n ≤ 6) (hf : f ≤ n) : dN n f (lenN n f) = f ∧ dN n f (lenN n f + 1) = f ∧ uN n f (lenN n f) = (if f < n then f + 1 else 0) ∧ uN n f (lenN n f + 1) = (if f < n then f + 1 else 0) := by
  have h := facts_end
  rw [List.all_eq_true] at h
  have h := h n (List.mem_range.mpr (by omega))
  rw [List.all_eq_true] at h
  have h := h f (List.mem_range.mpr (by omega))
  simp only [Bool.and_eq_true, beq_iff_eq] at h
  exact ⟨h.1.1.1, h.1.1.2, h.1.2, h.2⟩
end Sd


set_option linter.unusedVariables false
namespace Sd
open PySem L2
def wdS : Nat → Str
  | 0 => "begun"
  | 1 => "done"
  | 2 => "failed"
  | _ => "undone"
def rN (ns : List Str) (p : Nat × Nat) : Rw := (wdS p.1, ns.getD p.2 "")
def RWs (ns : List Str) (f : Nat) : List Rw := (RN ns.length f).map (rN ns)
structure NsOk (ns : List Str) (f : Nat) : Prop where
  nd : ns.Nodup
  pos : 0 < ns.length
  z : ns.length ≤ 6
  f : f ≤ ns.length
  s : ∀ s ∈ ns, sendable (.str s) ∧ (signs s).length ≤ 10 ∧ s.length < 128
theorem wdS_done {k : Nat} (h : k < 4) : wdS k = ("done" : Str) ↔ k = 1 := by
  match k, h with
  | 0, _ => decide +kernel
  | 1, _ => decide +kernel
  | 2, _ => decide +kernel
  | 3, _ => decide +kernel
theorem wdS_undone {k : Nat} (h : k < 4) : wdS k = ("undone" : Str) ↔ k = 3 := by
  match k, h with
  | 0, _ => decide +kernel
  | 1, _ => decide +kernel
  | 2, _ => decide +kernel
  | 3, _ => decide +kernel
theorem wdS_failed {k : Nat} (h : k < 4) : wdS k = ("failed" : Str) ↔ k = 2 := by
  match k, h with
  | 0, _ => decide +kernel
  | 1, _ => decide +kernel
  | 2, _ => decide +kernel
  | 3, _ => decide +kernel
theorem getD_at {ns : List Str} {i : Nat} {s : Str} (h : ns[i]? = some s) : ns.getD i "" = s := by rw [List.getD_eq_getElem?_getD, h]; rfl
theorem stOf_map {ns : List Str} {rs : List (Nat × Nat)} {i : Nat} {st : Str} (hn : ns.Nodup) (hi : ns[i]? = some st) (hw : ∀ p ∈ rs, p.2 < ns.length) : stOf (rs.map (rN ns)) st = (stN rs i).map wdS := by
  unfold stOf stN
  rw [List.filter_map, List.map_map]
  have e : rs.filter ((fun r : Rw => decide (r.2 = st)) ∘ rN ns) = rs.filter (fun p => p.2 == i) := by
    refine List.filter_congr fun p hp => ?_
    have h2 := hw p hp
    show decide (ns.getD p.2 "" = st) = (p.2 == i)
    rw [getD_at (List.getElem?_eq_getElem h2)]
    by_cases q : p.2 = i
    · subst q
      rw [List.getElem?_eq_getElem h2] at hi
      simp [Option.some.inj hi]
    · have : ¬ ns[p.2] = st := fun z => q ((List.getElem?_inj h2 hn).mp (by rw [List.getElem?_eq_getElem h2, hi, z]))
      simp [q, this]
  rw [e, show ((fun r : Rw => r.1) ∘ rN ns) = wdS ∘ (fun p : Nat × Nat => p.1) from rfl, ← List.map_map, List.getLast?_map]
theorem stN_lt {rs : List (Nat × Nat)} {i k : Nat} (hw : ∀ p ∈ rs, p.1 < 4) (h : stN rs i = some k) : k < 4 := by
  unfold stN at h
  have := List.mem_of_getLast? h
  obtain ⟨p, hp, rfl⟩ := List.mem_map.mp this
  exact hw p (List.mem_filter.mp hp).1
section
variable {ns : List Str} {f j : Nat}
theorem NsOk.fct (h : NsOk ns f) (hj : j ≤ lenN ns.length f) : Fct ns.length f j := Sd.fct h.pos h.z h.f hj
theorem NsOk.wfT (h : NsOk ns f) (hj : j ≤ lenN ns.length f) : ∀ p ∈ (RN ns.length f).take j, p.2 < ns.length ∧ p.1 < 4 := fun p hp => (h.fct hj).wf p (List.mem_of_mem_take hp)
theorem NsOk.st (h : NsOk ns f) (hj : j ≤ lenN ns.length f) {i : Nat} {st : Str} (hi : ns[i]? = some st) : stOf ((RWs ns f).take j) st = (stN ((RN ns.length f).take j) i).map wdS := by
  unfold RWs
  rw [← List.map_take]
  exact stOf_map h.nd hi fun p hp => (h.wfT hj p hp).1
theorem NsOk.lenR (h : NsOk ns f) : (RWs ns f).length = lenN ns.length f := by
  unfold RWs
  rw [List.length_map]
  exact (h.fct (Nat.zero_le _)).len
theorem NsOk.lenZ (h : NsOk ns f) : lenN ns.length f ≤ 20 := by
  have := h.z
  have := h.f
  unfold lenN
  split <;> omega
theorem NsOk.endE (h : NsOk ns f) (hj : j ≤ lenN ns.length f) : endOf ns ((RWs ns f).take j) = (endN ns.length f j).map wdS := by
  have F := h.fct hj
  have W := h.wfT hj
  have e1 : doneA ns ((RWs ns f).take j) = decide (endN ns.length f j = some 1) := by
    rw [← F.all1]
    unfold doneA
    rw [Bool.eq_iff_iff, List.all_eq_true, List.all_eq_true]
    constructor
    · intro q i hi
      have hi := List.mem_range.mp hi
      have q := q ns[i] (List.getElem_mem hi)
      rw [h.st hj (List.getElem?_eq_getElem hi), decide_eq_true_eq] at q
      obtain ⟨k, hk, e⟩ := Option.map_eq_some_iff.mp q
      rw [hk, (wdS_done (stN_lt (fun p hp => (W p hp).2) hk)).mp e]
      rfl
    · intro q s hs
      obtain ⟨i, hi, rfl⟩ := List.mem_iff_getElem.mp hs
      have q := q i (List.mem_range.mpr hi)
      rw [beq_iff_eq] at q
      rw [h.st hj (List.getElem?_eq_getElem hi), q]
      decide +kernel
  have e2 : failedA ((RWs ns f).take j) = (((RN ns.length f).take j).any fun p => p.1 == 2) := by
    unfold failedA RWs
    rw [← List.map_take, List.any_map, Bool.eq_iff_iff, List.any_eq_true, List.any_eq_true]
    constructor
    · rintro ⟨p, hp, q⟩
      refine ⟨p, hp, ?_⟩
      have q : decide (wdS p.1 = ("failed" : Str)) = true := q
      rw [decide_eq_true_eq] at q
      rw [(wdS_failed (W p hp).2).mp q]
      rfl
    · rintro ⟨p, hp, q⟩
      refine ⟨p, hp, ?_⟩
      rw [beq_iff_eq] at q
      show decide (wdS p.1 = ("failed" : Str)) = true
      rw [q]
      decide +kernel
  have e3 : undoneA ns ((RWs ns f).take j) = ((List.range ns.length).all fun i => stN ((RN ns.length f).take j) i == none || stN ((RN ns.length f).take j) i == some 3) := by
    unfold undoneA
    rw [Bool.eq_iff_iff, List.all_eq_true, List.all_eq_true]
    constructor
    · intro q i hi
      have hi := List.mem_range.mp hi
      have q := q ns[i] (List.getElem_mem hi)
      rw [h.st hj (List.getElem?_eq_getElem hi), decide_eq_true_eq] at q
      rw [Bool.or_eq_true, beq_iff_eq, beq_iff_eq]
      rcases q with q | q
      · exact .inl (by simpa using q)
      · obtain ⟨k, hk, e⟩ := Option.map_eq_some_iff.mp q
        exact .inr (by rw [hk, (wdS_undone (stN_lt (fun p hp => (W p hp).2) hk)).mp e])
    · intro q s hs
      obtain ⟨i, hi, rfl⟩ := List.mem_iff_getElem.mp hs
      have q := q i (List.mem_range.mpr hi)
      rw [Bool.or_eq_true, beq_iff_eq, beq_iff_eq] at q
      rw [h.st hj (List.getElem?_eq_getElem hi)]
      rcases q with q | q
      · rw [q]; decide +kernel
      · rw [q]; decide +kernel
  unfold endOf
  rw [e1, e2, e3]
  have e4 := F.all3
  have e5 : endN ns.length f j = some 3 ↔ ((((RN ns.length f).take j).any fun p => p.1 == 2) = true ∧ ((List.range ns.length).all fun i => stN ((RN ns.length f).take j) i == none || stN ((RN ns.length f).take j) i == some 3) = true) := by
    rw [← Bool.and_eq_true, e4, decide_eq_true_eq]
  by_cases h1 : endN ns.length f j = some 1
  · rw [h1, if_pos (by decide)]; rfl
  · rw [if_neg (by rw [decide_eq_true_eq]; exact h1)]
    by_cases h3 : endN ns.length f j = some 3
    · rw [if_pos (e5.mp h3), h3]; rfl
    · rw [if_neg fun z => h3 (e5.mpr z)]
      have : endN ns.length f j = none := by
        unfold endN at h1 h3 ⊢
        split
        · rename_i q; rw [if_pos q] at h1; exact absurd rfl h1
        · rename_i q
          rw [if_neg q] at h3
          split
          · rename_i q2; rw [if_pos q2] at h3; exact absurd rfl h3
          · rfl
      rw [this]; rfl
end
instance goodS_dec (c : Nat) : Decidable (goodS c) := by unfold goodS; infer_instance
theorem wdS_send (k : Nat) : sendable (.str (wdS k)) ∧ (signs (wdS k)).length ≤ 10 ∧ (wdS k).length < 128 := by
  unfold sendable
  match k with
  | 0 => decide +kernel
  | 1 => decide +kernel
  | 2 => decide +kernel
  | k + 3 =>
    show (∀ c ∈ (Str.ofString "undone").cps.toList, goodS c) ∧ (signs (Str.ofString "undone")).length ≤ 10 ∧ (Str.ofString "undone").length < 128
    decide +kernel
theorem rD_pk {a b : Str} (ha : sendable (.str a) ∧ (signs a).length ≤ 10 ∧ a.length < 128) (hb : sendable (.str b) ∧ (signs b).length ≤ 10 ∧ b.length < 128) : Pk 2 (rD (a, b)) ∧ (packB (rD (a, b))).length ≤ 30 := by
  have h1 : (natB a.length).length = 1 := by rw [natB_lo ha.2.2]; rfl
  have h2 : (natB b.length).length = 1 := by rw [natB_lo hb.2.2]; rfl
  have h3 : (natB (List.length [Dv.str a, Dv.str b])).length = 1 := by rw [show List.length [Dv.str a, Dv.str b] = 2 from rfl, natB_lo (by decide)]; rfl
  have hz : (packB (rD (a, b))).length ≤ 30 := by
    unfold rD
    rw [packB, List.length_cons, List.length_append, h3]
    simp only [packsB, packB, List.length_append, List.length_cons, List.length_nil]
    rw [h1, h2]
    have := ha.2.1
    have := hb.2.1
    omega
  have hd : deep (rD (a, b)) = 1 := by simp [rD, deep, deeps]
  refine ⟨⟨by omega, by omega, ?_, by have : 100 ≤ sizeLine := by decide
                                      omega⟩, hz⟩
  unfold rD
  rw [sendable]
  exact ⟨ha.1, hb.1, True.intro⟩
section
variable {ns : List Str} {f j : Nat}
theorem NsOk.pk (h : NsOk ns f) {r : Rw} (hr : r ∈ RWs ns f) : Pk 2 (rD r) ∧ (packB (rD r)).length ≤ 30 := by
  obtain ⟨p, hp, rfl⟩ := List.mem_map.mp hr
  have := (h.fct (Nat.zero_le _)).wf p hp
  refine rD_pk (wdS_send p.1) ?_
  rw [getD_at (List.getElem?_eq_getElem this.1)]
  exact h.s _ (List.getElem_mem this.1)
theorem frames_len {ds : List Dv} (h : ∀ d ∈ ds, (packB d).length ≤ 30) : (framesB ds).length ≤ 38 * ds.length := by
  induction ds with
  | nil => simp [framesB]
  | cons d r ih =>
    have h1 := h d (.head _)
    have h2 := ih fun d hd => h d (.tail _ hd)
    have e : framesB (d :: r) = frameB (packB d) ++ framesB r := by unfold framesB; rw [List.flatMap_cons]
    rw [e, List.length_append, frame_len, List.length_cons]
    omega
theorem framesB_app {a b : List Dv} : framesB (a ++ b) = framesB a ++ framesB b := by unfold framesB; rw [List.flatMap_append]
theorem NsOk.bytes (h : NsOk ns f) : (framesB (((RWs ns f).take j).map rD)).length ≤ 760 := by
  have h1 : ∀ d ∈ ((RWs ns f).take j).map rD, (packB d).length ≤ 30 := fun d hd => by
    obtain ⟨r, hr, rfl⟩ := List.mem_map.mp hd
    exact (h.pk (List.mem_of_mem_take hr)).2
  have h2 := frames_len h1
  rw [List.length_map, List.length_take, h.lenR] at h2
  have := h.lenZ
  omega
/-- the row at j -/
theorem NsOk.row (h : NsOk ns f) {k i : Nat} {st : Str} (hr : (RN ns.length f)[j]? = some (k, i)) (hi : ns[i]? = some st) : (RWs ns f)[j]? = some (wdS k, st) := by
  unfold RWs
  rw [List.getElem?_map, hr]
  show some (wdS k, ns.getD i "") = _
  rw [getD_at hi]
theorem take_succ_at {α : Type} {l : List α} {j : Nat} {a : α} (h : l[j]? = some a) : l.take (j + 1) = l.take j ++ [a] := by rw [List.take_add_one, h]; rfl
end
/-- the world follows the rows -/
structure WOk (n f j d u : Nat) : Prop where
  d : d = dN n f j ∨ d = dN n f (j + 1)
  u : u = uN n f j ∨ u = uN n f (j + 1)
/-- the world stands ready for the row at j -/
structure Rdy (n f j d u : Nat) : Prop where
  d : d = dN n f (j + 1)
  u : u = uN n f (j + 1)
theorem Rdy.now {n f j d u : Nat} (h : Rdy n f j d u) : WOk n f j d u := ⟨.inr h.d, .inr h.u⟩
theorem Rdy.nxt {n f j d u : Nat} (h : Rdy n f j d u) : WOk n f (j + 1) d u := ⟨.inl h.d, .inl h.u⟩
end Sd


set_option linter.unusedVariables false
namespace Sd
open PySem L2
open C8 (Cal Met Mak pe_c pe_mk pe_mt pe_mt0 pss_cut tCut)
set_option linter.unusedSimpArgs false
set_option pp.deepTerms false
set_option pp.deepTerms.threshold 12
set_option hygiene false
local macro_rules | `(tactic| fail "nd") => `(tactic| first | assumption | decide +kernel)
local macro_rules | `(tactic| fail "ix") => `(tactic| first | exact ⟨0, rfl⟩ | exact ⟨1, rfl⟩ | exact ⟨2, rfl⟩ | exact ⟨3, rfl⟩ | exact ⟨4, rfl⟩ | exact ⟨5, rfl⟩ | exact ⟨6, rfl⟩ | exact ⟨7, rfl⟩ | exact ⟨8, rfl⟩ | exact ⟨9, rfl⟩ | exact ⟨10, rfl⟩ | exact ⟨11, rfl⟩ | exact ⟨12, rfl⟩ | exact ⟨13, rfl⟩ | exact ⟨14, rfl⟩ | exact ⟨15, rfl⟩ | exact ⟨16, rfl⟩ | exact ⟨17, rfl⟩ | exact ⟨18, rfl⟩ | assumption)
local macro_rules | `(tactic| fail "up") => `(tactic| first | exact ⟨0, rfl, rfl⟩ | exact ⟨1, rfl, rfl⟩ | exact ⟨2, rfl, rfl⟩ | exact ⟨3, rfl, rfl⟩ | exact ⟨4, rfl, rfl⟩ | exact ⟨5, rfl, rfl⟩ | exact ⟨6, rfl, rfl⟩ | exact ⟨7, rfl, rfl⟩ | exact ⟨8, rfl, rfl⟩ | exact ⟨9, rfl, rfl⟩ | exact ⟨10, rfl, rfl⟩ | exact ⟨11, rfl, rfl⟩ | exact ⟨12, rfl, rfl⟩ | exact ⟨13, rfl, rfl⟩ | exact ⟨14, rfl, rfl⟩ | exact ⟨15, rfl, rfl⟩ | exact ⟨16, rfl, rfl⟩ | assumption)
local macro_rules | `(tactic| fail "lkF") => `(tactic| first | assumption | exact fz_at 0 (by fail "nd") rfl rfl | exact fz_at 1 (by fail "nd") rfl rfl | exact fz_at 2 (by fail "nd") rfl rfl | exact fz_at 3 (by fail "nd") rfl rfl | exact fz_at 4 (by fail "nd") rfl rfl | exact fz_at 5 (by fail "nd") rfl rfl | exact fz_at 6 (by fail "nd") rfl rfl | exact fz_at 7 (by fail "nd") rfl rfl)
local macro_rules | `(tactic| fail "lkD") => `(tactic| first | assumption | exact dz_at 0 (by fail "nd") rfl rfl | exact dz_at 1 (by fail "nd") rfl rfl | exact dz_at 2 (by fail "nd") rfl rfl | exact dz_at 3 (by fail "nd") rfl rfl | exact dz_at 4 (by fail "nd") rfl rfl)
local macro_rules | `(tactic| fail "ptF") => `(tactic| first | assumption | exact fz_put 0 (by fail "nd") rfl (Nat.le_of_ble_eq_true rfl) | exact fz_put 1 (by fail "nd") rfl (Nat.le_of_ble_eq_true rfl) | exact fz_put 2 (by fail "nd") rfl (Nat.le_of_ble_eq_true rfl) | exact fz_put 3 (by fail "nd") rfl (Nat.le_of_ble_eq_true rfl) | exact fz_put 4 (by fail "nd") rfl (Nat.le_of_ble_eq_true rfl) | exact fz_put 5 (by fail "nd") rfl (Nat.le_of_ble_eq_true rfl) | exact fz_put 6 (by fail "nd") rfl (Nat.le_of_ble_eq_true rfl) | exact fz_put 7 (by fail "nd") rfl (Nat.le_of_ble_eq_true rfl) | exact fz_new (by decide +kernel) rfl)
local macro_rules | `(tactic| fail "ptD") => `(tactic| first | assumption | exact dz_put 0 (by fail "nd") rfl (Nat.le_of_ble_eq_true rfl) | exact dz_put 1 (by fail "nd") rfl (Nat.le_of_ble_eq_true rfl) | exact dz_put 2 (by fail "nd") rfl (Nat.le_of_ble_eq_true rfl) | exact dz_put 3 (by fail "nd") rfl (Nat.le_of_ble_eq_true rfl) | exact dz_put 4 (by fail "nd") rfl (Nat.le_of_ble_eq_true rfl))
local macro_rules | `(tactic| fail "sz") => `(tactic| first | assumption | exact (Nat.le_of_ble_eq_true rfl) | omega | decide)
local macro_rules | `(tactic| fail "sd") => `(tactic| first | rfl | assumption | decide | omega | (dsimp only; first | decide | omega) | exact .inr ⟨by decide, by decide⟩ | exact .inl ⟨by decide, by decide⟩ | exact ⟨by omega, by omega⟩ | exact .inl ⟨by omega, by omega⟩ | exact .inr ⟨by omega, by omega⟩ | exact ⟨by omega, by omega, by omega⟩)
local macro_rules | `(tactic| fail "cl") => `(tactic| (clear hH; dsimp only [List.set, List.cons_append, List.nil_append, List.append] at hL))
local macro_rules | `(tactic| fail "gn") => `(tactic| (intro p hp; generalize hH : upd H p _ = H; replace hL := Led.newH hL hp hH; clear hH hp))
local macro_rules | `(tactic| fail "gup") => `(tactic| (generalize hH : upd H _ _ = H; replace hL := Led.upU hL (by fail "up") hH; fail "cl"))
local macro_rules | `(tactic| fail "gmk") => `(tactic| (intro x dx hx hd ne; generalize hH : upd (upd H dx _) x _ = H; replace hL := Led.made hL hx hd ne hH; clear hH hx hd ne))
local macro_rules | `(tactic| fail "v") => `(tactic| refine ⟨_, rfl, ?_⟩)
local macro_rules | `(tactic| fail "i2") => `(tactic| refine ⟨_, _, rfl, rfl, ?_⟩)
local macro_rules | `(tactic| fail "go1") => `(tactic| first
  | refine ⟨_, rfl, ?_⟩
  | refine ⟨_, _, rfl, rfl, ?_⟩
  | refine ⟨_, _, rfl, ?_⟩
  | refine iteT ?_
  | refine iteF ?_
  | refine k_fld hL (by fail "ix") (by assumption) (by assumption) (by fail "lkF") ?_
  | refine k_dgetS hL (by fail "ix") (by fail "lkD") ?_
  | refine k_dgetI hL (by fail "ix") (by assumption) ?_
  | refine k_ixL hL (by fail "ix") (by first | rfl | assumption) ?_
  | refine k_ixT hL (by fail "ix") (by first | rfl | assumption) ?_
  | refine k_tyL hL (by fail "ix") ?_
  | refine k_isd hL (by fail "ix") ?_
  | (refine And.intro (by fail "sz") ?_; fail "gn")
  | refine And.intro (by fail "sd") ?_
  | fail "gn"
  | refine k_meth hL (by fail "ix") (by first | assumption | exact fz_no (by decide +kernel)) ?_
  | refine k_gtup hL (by fail "ix") rfl ?_
  | (refine k_popI hL (by fail "ix") (by assumption) ?_; fail "gup")
  | (refine k_listD hL (by fail "ix") ?_; fail "gn")
  | (refine ⟨_, _, _, _, rfl, rfl, hL.at (by fail "ix"), rfl, ?_⟩; fail "gup")
  | (refine ⟨_, _, _, rfl, rfl, hL.at (by fail "ix"), (by fail "sz"), ?_⟩; fail "gup")
  | (refine ⟨_, _, _, _, rfl, hL.at (by fail "ix"), by assumption, by assumption, Nat.lt_of_le_of_lt fz_len (by decide), ?_⟩; generalize hH : upd H _ _ = H; replace hL := Led.upF hL (by fail "up") (by fail "ptF") hH; fail "cl")
  | (refine ⟨_, _, hL.at (by fail "ix"), Nat.lt_of_le_of_lt fz_len (by decide), ?_⟩; generalize hH : upd H _ _ = H; replace hL := Led.upF hL (by fail "up") (by fail "ptF") hH; fail "cl")
  | (refine k_dputS hL (by fail "ix") (Nat.lt_of_le_of_lt dz_len (by decide)) (by fail "ptD") (by fail "up") ?_; clear hL; intro H hL; dsimp only [List.set, List.cons_append, List.nil_append, List.append] at hL)
  | refine k_lenL2 hL (by fail "ix") ?_
  | refine k_lenT2 hL (by fail "ix") ?_
  | refine .inl ⟨_, rfl, ?_⟩
  | refine .inr ⟨_, rfl, ?_⟩)
local macro_rules | `(tactic| fail "go") => `(tactic| repeat fail "go1")
local macro_rules | `(tactic| fail "pm") => `(tactic| (refine Led.le hL (fun a_ => ?_); simp only [cnt_nil, cnt_cons, cnt_app, List.map_append, List.map_cons, List.map_nil, List.flatMap_append, List.flatMap_cons, List.flatMap_nil, List.append_assoc, List.cons_append, List.nil_append]; omega))

abbrev nmWd : List Str := ["done", "undone", "early"]
def woL (w0 Dn Un : Addr) (ds us : List Str) : Lg := (w0, .dK (dz nmWd [.ref Dn, .ref Un, .bl false])) :: (Dn, .lst (ds.map .str)) :: (Un, .lst (us.map .str)) :: []
/-- a step more, once -/
def addS (l : List Str) (s : Str) : List Str := if s ∈ l then l else l ++ [s]
def spLDo (CW : Addr) : Sp := fun vs H Q _ => ∃ (w0 Dn Un : Addr) (ds us : List Str) (fv : V) (st : Str) (x dx D T R : Addr) (ns : List Str) (rvs : List V) (rs : List Rw) (L : Lg), vs = [.ref w0, fv, .str st, .ref x] ∧ Led H (woL w0 Dn Un ds us ++ (wfL CW x dx D T R ns rvs ++ L)) ∧ DLs L rvs (rs.map rD) ∧ rs.length ≤ 100 ∧ stOf rs st ≠ none ∧ ds.length ≤ 50 ∧ scal (.str st) fv = true ∧
  (fv = .str st → ∀ H', Led H' (woL w0 Dn Un ds us ++ (wfL CW x dx D T R ns rvs ++ L)) → Q (.bl false) H') ∧
  (fv ≠ .str st → ∀ (Dn' : Addr) H', Led H' (woL w0 Dn' Un (addS ds st) us ++ (wfL CW x dx D T R ns rvs ++ L)) → Q (.bl true) H')
def spLUndo : Sp := fun vs H Q _ => ∃ (w0 Dn Un : Addr) (ds us : List Str) (st : Str) (L : Lg), vs = [.ref w0, .str st] ∧ Led H (woL w0 Dn Un ds us ++ L) ∧ us.length ≤ 50 ∧ ∀ (Un' : Addr) H', Led H' (woL w0 Dn Un' ds (addS us st) ++ L) → Q .non H'
theorem rep1_len {ds : List Str} {b : Bool} {v : V} (h : ds.length ≤ 50) : (ds.map V.str).length + (if b = true then [v] else []).length ≤ sizeLine := by
  have : 100 ≤ sizeLine := by decide
  rw [List.length_map]
  cases b
  · rw [if_neg (by decide), List.length_nil]; omega
  · rw [if_pos rfl, List.length_cons, List.length_nil]; omega
theorem addS_rep {ds : List Str} {st : Str} : ds.map V.str ++ (if (!decide (st ∈ ds)) = true then [V.str st] else []) = (addS ds st).map V.str := by
  unfold addS
  by_cases h : st ∈ ds
  · rw [if_neg (by simp [h]), if_pos h, List.append_nil]
  · rw [if_pos (by simp [h]), if_neg h, List.map_append]; rfl
theorem k_rep1 {b : Bool} {l : Addr} {v : V} {H : Hp} {L : Lg} {Q : VK} (hL : Led H L) (e : At L l (.lst [v])) (q : ∀ p, H p = none → Q (.ref p) (L2.upd H p (.lst (if b = true then [v] else [])))) : rRep (.ref l) (.int (if b = true then 1 else 0)) H Q := by
  refine ⟨_, _, _, rfl, rfl, hL.at e, ?_, ?_, ?_, fun p hp => ?_⟩
  · cases b <;> decide
  · cases b <;> decide
  · cases b
    · exact Nat.zero_le _
    · exact (by decide : 1 ≤ sizeLine)
  · have h := q p hp
    cases b
    · exact h
    · exact h
section
variable {P : Program} {w : World} {K : PySem.W.Frag} {mg : Str → Option Value} {base : Heap} {CW : Addr}
theorem scLDo : FnScope ["world", "fails", "step", "flow", "done"] ["world", "fails", "step", "flow"] (defScope sLDo) := ⟨rfl, rfl, rfl, by decide +kernel, rfl, by decide +kernel, by decide +kernel⟩
theorem ok_ldo {f : Addr} {fd : FuncData} (F : Fun K "_law_do" "_law_do" sLDo f fd) (T : TxtL mg) (c_Workflow_state_of : Met P w K mg base 1 CW "state_of" (spSof CW) []) : FnOk P w K mg base CX0 2 f fd ["world", "fails", "step", "flow"] (spLDo CW) := by
  refine F.ok scLDo (fun vs H Q E h => ?_) (fun cdv A outer s0 H vs Q E hr h => ?_)
  · obtain ⟨w0, Dn, Un, ds, us, fv, st, x, dx, D, T, R, ns, rvs, rs, L, rfl, _⟩ := h
    rfl
  · obtain ⟨w0, Dn, Un, ds, us, fv, st, x, dx, D, Tt, R, ns, rvs, rs, L, rfl, hL, hz, hn, hst, hds, hsc, k1, k2⟩ := h
    refine ⟨_, (pss_cons (ps_dput (hu_of hr) (pv 0) pe_str (pe_or (pe_dget (hu_of hr) (pv 0) pe_str (fun _ _ => rfl)) (pe_one (pe_cmpR op_isN (pe_mt c_Workflow_state_of hr (by decide) (pv 3) (pa_cons (pv 2) pa_nil)) pe_non (nomark _)))) rfl)
  (pss_cons (ps_if (pt_cmpR op_eq (pv 2) (pv 1) (nomark _))
  (pss_one (ps_ret pe_bl))
  pss_nil)
  (pss_cons (ps_set (i := 4) scLDo.nd rfl (Or.inl rfl) (pe_dget (hu_of hr) (pv 0) pe_str (fun _ _ => rfl)))
  (pss_cons (ps_dput (hu_of hr) (pv 0) pe_str (pe_op op_cat (pv 4) (pe_op op_rep (pe_lst (pa_cons (pv 2) pa_nil)) (pe_callTy call_int1 (by rfl) T.int (by decide +kernel) (pa_cons (pe_cmpR op_notIn_seq (pv 2) (pv 4) (by rfl)) pa_nil)))) rfl)
  (pss_one (ps_ret pe_bl)))))), ?_⟩
    dsimp only [woL, List.cons_append, List.nil_append] at hL
    fail "go"
    have hA : Led H (wfL CW x dx D Tt R ns rvs ++ (woL w0 Dn Un ds us ++ L)) := by dsimp only [woL, List.cons_append, List.nil_append]; fail "pm"
    clear hL
    refine ⟨x, dx, D, Tt, R, ns, rvs, rs, st, _, rfl, hA, hz.mono fun a h => List.mem_append_right _ h, hn, fun H hL => ?_⟩
    clear hA
    have hB : Led H (woL w0 Dn Un ds us ++ (wfL CW x dx D Tt R ns rvs ++ L)) := by fail "pm"
    clear hL
    have hL := hB
    clear hB
    dsimp only [woL, List.cons_append, List.nil_append] at hL k1 k2
    obtain ⟨o, ho⟩ := Option.ne_none_iff_exists'.mp hst
    rw [ho]
    fail "go"
    rw [show decide (stV (some o) = V.non) = false by simp [stV]] at hL
    refine ite_d (fun q => ?_) fun q => ?_
    · fail "go"
      exact k1 q.symm _ hL
    · fail "go"
      refine ⟨_, _, rfl, .inl (.of (hL.at ⟨2, rfl⟩)), rfl, flat_strs, ?_⟩
      rw [if_pos rfl, in_strs]
      refine .inr ⟨_, rfl, ?_⟩
      refine k_rep1 hL ⟨0, rfl⟩ fun p2 hp => ?_
      generalize hH : upd H p2 _ = H
      replace hL := Led.newH hL hp hH
      clear hH hp
      refine k_cat hL ⟨3, rfl⟩ ⟨0, rfl⟩ (rep1_len hds) fun p3 hp => ?_
      generalize hH : upd H p3 _ = H
      replace hL := Led.newH hL hp hH
      clear hH hp
      rw [addS_rep] at hL
      fail "go"
      refine k2 (fun z => q z.symm) p3 H ?_
      fail "pm"
theorem scLUndo : FnScope ["world", "step", "undone"] ["world", "step"] (defScope sLUndo) := ⟨rfl, rfl, rfl, by decide +kernel, rfl, by decide +kernel, by decide +kernel⟩
theorem ok_lundo {f : Addr} {fd : FuncData} (F : Fun K "_law_undo" "_law_undo" sLUndo f fd) (T : TxtL mg) : FnOk P w K mg base CX0 1 f fd ["world", "step"] spLUndo := by
  refine F.ok scLUndo (fun vs H Q E h => ?_) (fun cdv A outer s0 H vs Q E hr h => ?_)
  · obtain ⟨w0, Dn, Un, ds, us, st, L, rfl, _⟩ := h
    rfl
  · obtain ⟨w0, Dn, Un, ds, us, st, L, rfl, hL, hds, k⟩ := h
    refine ⟨_, (pss_cons (ps_set (i := 2) scLUndo.nd rfl (Or.inl rfl) (pe_dget (hu_of hr) (pv 0) pe_str (fun _ _ => rfl)))
  (pss_one (ps_dput (hu_of hr) (pv 0) pe_str (pe_op op_cat (pv 2) (pe_op op_rep (pe_lst (pa_cons (pv 1) pa_nil)) (pe_callTy call_int1 (by rfl) T.int (by decide +kernel) (pa_cons (pe_cmpR op_notIn_seq (pv 1) (pv 2) (by rfl)) pa_nil)))) rfl))), ?_⟩
    dsimp only [woL, List.cons_append, List.nil_append] at hL k
    fail "go"
    refine ⟨_, _, rfl, .inl (.of (hL.at ⟨3, rfl⟩)), rfl, flat_strs, ?_⟩
    rw [if_pos rfl, in_strs]
    refine .inr ⟨_, rfl, ?_⟩
    refine k_rep1 hL ⟨0, rfl⟩ fun p2 hp => ?_
    generalize hH : upd H p2 _ = H
    replace hL := Led.newH hL hp hH
    clear hH hp
    refine k_cat hL ⟨4, rfl⟩ ⟨0, rfl⟩ (rep1_len hds) fun p3 hp => ?_
    generalize hH : upd H p3 _ = H
    replace hL := Led.newH hL hp hH
    clear hH hp
    rw [addS_rep] at hL
    fail "go"
    refine k p3 H ?_
    fail "pm"
end
end Sd


set_option linter.unusedVariables false
namespace Sd
open PySem L2 LamX
open C8 (Cal Met Mak pe_c pe_mk pe_mt pe_mt0 pss_cut tCut)
set_option linter.unusedSimpArgs false
set_option pp.deepTerms false
set_option pp.deepTerms.threshold 12
set_option hygiene false
local macro_rules | `(tactic| fail "nd") => `(tactic| first | assumption | decide +kernel)
local macro_rules | `(tactic| fail "ix") => `(tactic| first | exact ⟨0, rfl⟩ | exact ⟨1, rfl⟩ | exact ⟨2, rfl⟩ | exact ⟨3, rfl⟩ | exact ⟨4, rfl⟩ | exact ⟨5, rfl⟩ | exact ⟨6, rfl⟩ | exact ⟨7, rfl⟩ | exact ⟨8, rfl⟩ | exact ⟨9, rfl⟩ | exact ⟨10, rfl⟩ | exact ⟨11, rfl⟩ | exact ⟨12, rfl⟩ | exact ⟨13, rfl⟩ | exact ⟨14, rfl⟩ | exact ⟨15, rfl⟩ | exact ⟨16, rfl⟩ | exact ⟨17, rfl⟩ | exact ⟨18, rfl⟩ | assumption)
local macro_rules | `(tactic| fail "up") => `(tactic| first | exact ⟨0, rfl, rfl⟩ | exact ⟨1, rfl, rfl⟩ | exact ⟨2, rfl, rfl⟩ | exact ⟨3, rfl, rfl⟩ | exact ⟨4, rfl, rfl⟩ | exact ⟨5, rfl, rfl⟩ | exact ⟨6, rfl, rfl⟩ | exact ⟨7, rfl, rfl⟩ | exact ⟨8, rfl, rfl⟩ | exact ⟨9, rfl, rfl⟩ | exact ⟨10, rfl, rfl⟩ | exact ⟨11, rfl, rfl⟩ | exact ⟨12, rfl, rfl⟩ | exact ⟨13, rfl, rfl⟩ | exact ⟨14, rfl, rfl⟩ | exact ⟨15, rfl, rfl⟩ | exact ⟨16, rfl, rfl⟩ | assumption)
local macro_rules | `(tactic| fail "lkF") => `(tactic| first | assumption | exact fz_at 0 (by fail "nd") rfl rfl | exact fz_at 1 (by fail "nd") rfl rfl | exact fz_at 2 (by fail "nd") rfl rfl | exact fz_at 3 (by fail "nd") rfl rfl | exact fz_at 4 (by fail "nd") rfl rfl | exact fz_at 5 (by fail "nd") rfl rfl | exact fz_at 6 (by fail "nd") rfl rfl | exact fz_at 7 (by fail "nd") rfl rfl)
local macro_rules | `(tactic| fail "lkD") => `(tactic| first | assumption | exact dz_at 0 (by fail "nd") rfl rfl | exact dz_at 1 (by fail "nd") rfl rfl | exact dz_at 2 (by fail "nd") rfl rfl | exact dz_at 3 (by fail "nd") rfl rfl | exact dz_at 4 (by fail "nd") rfl rfl)
local macro_rules | `(tactic| fail "ptF") => `(tactic| first | assumption | exact fz_put 0 (by fail "nd") rfl (Nat.le_of_ble_eq_true rfl) | exact fz_put 1 (by fail "nd") rfl (Nat.le_of_ble_eq_true rfl) | exact fz_put 2 (by fail "nd") rfl (Nat.le_of_ble_eq_true rfl) | exact fz_put 3 (by fail "nd") rfl (Nat.le_of_ble_eq_true rfl) | exact fz_put 4 (by fail "nd") rfl (Nat.le_of_ble_eq_true rfl) | exact fz_put 5 (by fail "nd") rfl (Nat.le_of_ble_eq_true rfl) | exact fz_put 6 (by fail "nd") rfl (Nat.le_of_ble_eq_true rfl) | exact fz_put 7 (by fail "nd") rfl (Nat.le_of_ble_eq_true rfl) | exact fz_new (by decide +kernel) rfl)
local macro_rules | `(tactic| fail "ptD") => `(tactic| first | assumption | exact dz_put 0 (by fail "nd") rfl (Nat.le_of_ble_eq_true rfl) | exact dz_put 1 (by fail "nd") rfl (Nat.le_of_ble_eq_true rfl) | exact dz_put 2 (by fail "nd") rfl (Nat.le_of_ble_eq_true rfl) | exact dz_put 3 (by fail "nd") rfl (Nat.le_of_ble_eq_true rfl) | exact dz_put 4 (by fail "nd") rfl (Nat.le_of_ble_eq_true rfl))
local macro_rules | `(tactic| fail "sz") => `(tactic| first | assumption | exact (Nat.le_of_ble_eq_true rfl) | omega | decide)
local macro_rules | `(tactic| fail "sd") => `(tactic| first | rfl | assumption | decide | omega | (dsimp only; first | decide | omega) | exact .inr ⟨by decide, by decide⟩ | exact .inl ⟨by decide, by decide⟩ | exact ⟨by omega, by omega⟩ | exact .inl ⟨by omega, by omega⟩ | exact .inr ⟨by omega, by omega⟩ | exact ⟨by omega, by omega, by omega⟩)
local macro_rules | `(tactic| fail "cl") => `(tactic| (clear hH; dsimp only [List.set, List.cons_append, List.nil_append, List.append] at hL))
local macro_rules | `(tactic| fail "gn") => `(tactic| (intro p hp; generalize hH : upd H p _ = H; replace hL := Led.newH hL hp hH; clear hH hp))
local macro_rules | `(tactic| fail "gup") => `(tactic| (generalize hH : upd H _ _ = H; replace hL := Led.upU hL (by fail "up") hH; fail "cl"))
local macro_rules | `(tactic| fail "gmk") => `(tactic| (intro x dx hx hd ne; generalize hH : upd (upd H dx _) x _ = H; replace hL := Led.made hL hx hd ne hH; clear hH hx hd ne))
local macro_rules | `(tactic| fail "v") => `(tactic| refine ⟨_, rfl, ?_⟩)
local macro_rules | `(tactic| fail "i2") => `(tactic| refine ⟨_, _, rfl, rfl, ?_⟩)
local macro_rules | `(tactic| fail "go1") => `(tactic| first
  | refine ⟨_, rfl, ?_⟩
  | refine ⟨_, _, rfl, rfl, ?_⟩
  | refine ⟨_, _, rfl, ?_⟩
  | refine iteT ?_
  | refine iteF ?_
  | refine k_fld hL (by fail "ix") (by assumption) (by assumption) (by fail "lkF") ?_
  | refine k_dgetS hL (by fail "ix") (by fail "lkD") ?_
  | refine k_dgetI hL (by fail "ix") (by assumption) ?_
  | refine k_ixL hL (by fail "ix") (by first | rfl | assumption) ?_
  | refine k_ixT hL (by fail "ix") (by first | rfl | assumption) ?_
  | refine k_tyL hL (by fail "ix") ?_
  | refine k_isd hL (by fail "ix") ?_
  | (refine And.intro (by fail "sz") ?_; fail "gn")
  | refine And.intro (by fail "sd") ?_
  | fail "gn"
  | refine k_meth hL (by fail "ix") (by first | assumption | exact fz_no (by decide +kernel)) ?_
  | refine k_gtup hL (by fail "ix") rfl ?_
  | (refine k_popI hL (by fail "ix") (by assumption) ?_; fail "gup")
  | (refine k_listD hL (by fail "ix") ?_; fail "gn")
  | (refine ⟨_, _, _, _, rfl, rfl, hL.at (by fail "ix"), rfl, ?_⟩; fail "gup")
  | (refine ⟨_, _, _, rfl, rfl, hL.at (by fail "ix"), (by fail "sz"), ?_⟩; fail "gup")
  | (refine ⟨_, _, _, _, rfl, hL.at (by fail "ix"), by assumption, by assumption, Nat.lt_of_le_of_lt fz_len (by decide), ?_⟩; generalize hH : upd H _ _ = H; replace hL := Led.upF hL (by fail "up") (by fail "ptF") hH; fail "cl")
  | (refine ⟨_, _, hL.at (by fail "ix"), Nat.lt_of_le_of_lt fz_len (by decide), ?_⟩; generalize hH : upd H _ _ = H; replace hL := Led.upF hL (by fail "up") (by fail "ptF") hH; fail "cl")
  | (refine k_dputS hL (by fail "ix") (Nat.lt_of_le_of_lt dz_len (by decide)) (by fail "ptD") (by fail "up") ?_; clear hL; intro H hL; dsimp only [List.set, List.cons_append, List.nil_append, List.append] at hL)
  | refine k_lenL2 hL (by fail "ix") ?_
  | refine k_lenT2 hL (by fail "ix") ?_
  | refine .inl ⟨_, rfl, ?_⟩
  | refine .inr ⟨_, rfl, ?_⟩)
local macro_rules | `(tactic| fail "go") => `(tactic| repeat fail "go1")
local macro_rules | `(tactic| fail "pm") => `(tactic| (refine Led.le hL (fun a_ => ?_); simp only [cnt_nil, cnt_cons, cnt_app, List.map_append, List.map_cons, List.map_nil, List.flatMap_append, List.flatMap_cons, List.flatMap_nil, List.append_assoc, List.cons_append, List.nil_append]; omega))

def bodyF (st : Stmt) : List Stmt := match st with | .For _ _ b _ _ => b | .While _ b _ _ => b | _ => []
def thenS (st : Stmt) : List Stmt := match st with | .If _ b _ _ => b | _ => []
def elseS (st : Stmt) : List Stmt := match st with | .If _ _ b _ => b | _ => []
def nth (b : List Stmt) (i : Nat) : Stmt := b.getD i (.Pass ⟨0, 0, 0, 0⟩)
def noE : Expr := .Name "" ⟨0, 0, 0, 0⟩
def valE (st : Stmt) : Expr := match st with
  | .Assign _ e _ => e
  | .If e _ _ _ => e
  | _ => noE
def argE (e : Expr) (i : Nat) : Expr := match e with
  | .Call _ l _ _ => l.getD i noE
  | .BoolOp _ l _ => l.getD i noE
  | .Compare l _ _ _ => l
  | .List l _ => l.getD i noE
  | _ => noE
def lamBody (e : Expr) : Expr := match e with
  | .Lambda _ b _ _ => b
  | _ => e
def lamArgs (e : Expr) : Arguments := match e with
  | .Lambda a _ _ _ => a
  | _ => { posonlyargs := [], args := [], vararg := none, kwonlyargs := [], kw_defaults := [], kwarg := none, defaults := [] }
def lamScope (e : Expr) : Scope := match e with
  | .Lambda _ _ s _ => s
  | _ => { kind := .function, names := [], isGenerator := false, isCoroutine := false }
abbrev diceB : List Stmt := bodyF (nth (defBody sLaw) 0)
abbrev turnB : List Stmt := bodyF (nth diceB 3)
/-- lambda: Workflow(disk, steps); lambda: flow.go(..) and its two; the two behind the loop -/
abbrev lamW : Expr := argE (valE (nth turnB 2)) 0
abbrev lamG : Expr := argE (valE (nth turnB 5)) 0
abbrev lamD1 : Expr := argE (lamBody lamG) 0
abbrev lamU1 : Expr := argE (lamBody lamG) 1
abbrev lamD2 : Expr := argE (argE (argE (valE (nth diceB 5)) 3) 0) 0
abbrev lamU2 : Expr := argE (argE (argE (valE (nth diceB 5)) 3) 0) 1
abbrev NLd : List Str := ["world", "fails", "flow"]
abbrev NLu : List Str := ["world"]
def tlDo (CW : Addr) : List V → List (Option V) → Hp → VK → XK → Prop := fun vs ws H Q E => ∃ (st : Str) (w0 : Addr) (fv : V) (x : Addr), vs = [.str st] ∧ ws = [some (.ref w0), some fv, some (.ref x)] ∧ spLDo CW [.ref w0, fv, .str st, .ref x] H Q E
def tlUn : List V → List (Option V) → Hp → VK → XK → Prop := fun vs ws H Q E => ∃ (st : Str) (w0 : Addr), vs = [.str st] ∧ ws = [some (.ref w0)] ∧ spLUndo [.ref w0, .str st] H Q E
section
variable {P : Program} {w : World} {K : PySem.W.Frag} {mg : Str → Option Value} {base : Heap} {CW : Addr}
theorem nscD1 : NdefX.NScope ("step" :: NLd) ["step"] NLd (lamScope lamD1) := NdefX.nscope_by (by decide +kernel)
theorem nscD2 : NdefX.NScope ("step" :: NLd) ["step"] NLd (lamScope lamD2) := NdefX.nscope_by (by decide +kernel)
theorem nscU1 : NdefX.NScope ("step" :: NLu) ["step"] NLu (lamScope lamU1) := NdefX.nscope_by (by decide +kernel)
theorem nscU2 : NdefX.NScope ("step" :: NLu) ["step"] NLu (lamScope lamU2) := NdefX.nscope_by (by decide +kernel)
theorem lokD1 {f c' : Addr} {q : Str} {cl : List (Str × Addr)} (c__law_do : Cal P w K mg base 2 "_law_do" (spLDo CW) []) : LOkS P w K mg base 3 f ⟨"<lambda>", q, lamArgs lamD1, [], lamScope lamD1, cl, c'⟩ (lamBody lamD1) NLd (tlDo CW) := by
  refine lokS_of nscD1 (fun vs ws H Q E h => ?_) (fun _ _ _ us hl => match us, hl with | [_], _ => rfl) fun A outer s H vs ws Q E hr C h => ⟨_, pe_c c__law_do hr (by decide) (by rfl) (pa_cons (pv 1) (pa_cons (pv 2) (pa_cons (pv 0) (pa_cons (pv 3) pa_nil)))), ?_⟩
  · obtain ⟨st, w0, fv, x, rfl, _⟩ := h
    rfl
  · obtain ⟨st, w0, fv, x, rfl, rfl, h⟩ := h
    fail "go"
    exact h
theorem lokU1 {f c' : Addr} {q : Str} {cl : List (Str × Addr)} (c__law_undo : Cal P w K mg base 1 "_law_undo" spLUndo []) : LOkS P w K mg base 3 f ⟨"<lambda>", q, lamArgs lamU1, [], lamScope lamU1, cl, c'⟩ (lamBody lamU1) NLu tlUn := by
  refine lokS_of nscU1 (fun vs ws H Q E h => ?_) (fun _ _ _ us hl => match us, hl with | [_], _ => rfl) fun A outer s H vs ws Q E hr C h => ⟨_, pe_c c__law_undo hr (by decide) (by rfl) (pa_cons (pv 1) (pa_cons (pv 0) pa_nil)), ?_⟩
  · obtain ⟨st, w0, rfl, _⟩ := h
    rfl
  · obtain ⟨st, w0, rfl, rfl, h⟩ := h
    fail "go"
    exact h
theorem lokD2 {f c' : Addr} {q : Str} {cl : List (Str × Addr)} (c__law_do : Cal P w K mg base 2 "_law_do" (spLDo CW) []) : LOkS P w K mg base 3 f ⟨"<lambda>", q, lamArgs lamD2, [], lamScope lamD2, cl, c'⟩ (lamBody lamD2) NLd (tlDo CW) := by
  refine lokS_of nscD2 (fun vs ws H Q E h => ?_) (fun _ _ _ us hl => match us, hl with | [_], _ => rfl) fun A outer s H vs ws Q E hr C h => ⟨_, pe_c c__law_do hr (by decide) (by rfl) (pa_cons (pv 1) (pa_cons (pv 2) (pa_cons (pv 0) (pa_cons (pv 3) pa_nil)))), ?_⟩
  · obtain ⟨st, w0, fv, x, rfl, _⟩ := h
    rfl
  · obtain ⟨st, w0, fv, x, rfl, rfl, h⟩ := h
    fail "go"
    exact h
theorem lokU2 {f c' : Addr} {q : Str} {cl : List (Str × Addr)} (c__law_undo : Cal P w K mg base 1 "_law_undo" spLUndo []) : LOkS P w K mg base 3 f ⟨"<lambda>", q, lamArgs lamU2, [], lamScope lamU2, cl, c'⟩ (lamBody lamU2) NLu tlUn := by
  refine lokS_of nscU2 (fun vs ws H Q E h => ?_) (fun _ _ _ us hl => match us, hl with | [_], _ => rfl) fun A outer s H vs ws Q E hr C h => ⟨_, pe_c c__law_undo hr (by decide) (by rfl) (pa_cons (pv 1) (pa_cons (pv 0) pa_nil)), ?_⟩
  · obtain ⟨st, w0, rfl, _⟩ := h
    rfl
  · obtain ⟨st, w0, rfl, rfl, h⟩ := h
    fail "go"
    exact h
end
/-- a flow's places -/
structure FlA where
  x : Addr
  dx : Addr
  D : Addr
  T : Addr
  R : Addr
  dd : Addr
  F : Addr
  w0 : Addr
/-- a flow's state: j rows, d steps done, u undone -/
structure FlS where
  K : Addr
  W : Addr
  Dn : Addr
  Un : Addr
  dk : DkS
  rvs : List V
  j : Nat
  d : Nat
  u : Nat
/-- the steps in the order in which they are undone -/
def unO (ns : List Str) (f : Nat) : List Str := (ns.take (f + 1)).reverse
def flL (CW CD : Addr) (A : FlA) (ns : List Str) (f : Nat) (S : FlS) : Lg := wfL CW A.x A.dx A.D A.T A.R ns S.rvs ++ (dkL CD A.D A.dd S.K S.W A.F S.dk ++ woL A.w0 S.Dn S.Un (ns.take S.d) ((unO ns f).take S.u))
structure FlOk (ns : List Str) (f : Nat) (S : FlS) (L : Lg) : Prop where
  rv : DLs L S.rvs (((RWs ns f).take S.j).map rD)
  kb : S.dk.kb = framesB (((RWs ns f).take S.j).map rD)
  wb : S.dk.wb = []
  fs : S.dk.fs = []
  j : S.j ≤ lenN ns.length f
/-- behind an error -/
structure FlX (ns : List Str) (f : Nat) (S : FlS) : Prop where
  kb : S.dk.kb = framesB (((RWs ns f).take S.j).map rD)
  fs : S.dk.fs = []
  j : S.j ≤ lenN ns.length f
  w : (S.dk.wb = [] ∧ WOk ns.length f S.j S.d S.u) ∨ ∃ r, (RWs ns f)[S.j]? = some r ∧ S.dk.wb = rF r ∧ WOk ns.length f S.j S.d S.u ∧ WOk ns.length f (S.j + 1) S.d S.u
theorem FlOk.mono {ns : List Str} {f : Nat} {S : FlS} {L L' : Lg} (h : FlOk ns f S L) (s : ∀ a ∈ L, a ∈ L') : FlOk ns f S L' := ⟨h.rv.mono s, h.kb, h.wb, h.fs, h.j⟩
section
variable {CW CD CE PN : Addr} {ns : List Str} {f : Nat} {A : FlA} {S : FlS} {L : Lg} {H : Hp} {Q : VK} {E : XK} {ps : Array Value} {wd st : Str}
theorem k_note (hn : NsOk ns f) (hL : Led H ((PN, .tbl ps) :: (flL CW CD A ns f S ++ L))) (ok : FlOk ns f S L) (ht : TriplesOk ps.toList) (hr : (RWs ns f)[S.j]? = some (wd, st)) (hy : Rdy ns.length f S.j S.d S.u)
    (k1 : ∀ (S' : FlS) (ps' : Array Value) (a : Addr) H', TriplesOk ps'.toList → FlOk ns f S' ((a, .tup [.str wd, .str st]) :: L) → S'.j = S.j + 1 → S'.d = S.d → S'.u = S.u → (calm S.dk → calm S'.dk) → Led H' ((PN, .tbl ps') :: (flL CW CD A ns f S' ++ ((a, .tup [.str wd, .str st]) :: L))) → Q .non H')
    (k2 : ¬ calm S.dk → ∀ (S' : FlS) (ps' : Array Value) H', TriplesOk ps'.toList → FlX ns f S' → Led H' ((PN, .tbl ps') :: (flL CW CD A ns f S' ++ L)) → E (.ref CE) none H') : spNote CW CD CE PN [.ref A.x, .str wd, .str st] H Q E := by
  have hp := hn.pk (List.mem_of_getElem? hr)
  have hb := hn.bytes (j := S.j)
  have hlz := hn.lenZ
  have hjl : S.j < lenN ns.length f := by
    have := (List.getElem?_eq_some_iff.mp hr).1
    rwa [hn.lenR] at this
  have hrl := ok.rv.len
  rw [List.length_map, List.length_take] at hrl
  have hz : 3000 ≤ sizeLine := by decide
  have et : (RWs ns f).take (S.j + 1) = (RWs ns f).take S.j ++ [(wd, st)] := take_succ_at hr
  unfold flL at hL k1 k2
  refine ⟨A.x, A.dx, A.D, A.T, A.R, ns, S.rvs, A.dd, S.K, S.W, A.F, S.dk, wd, st, ps, woL A.w0 S.Dn S.Un (ns.take S.d) ((unO ns f).take S.u) ++ L, rfl, by fail "pm", ht, hp.1, by omega, by rw [ok.kb, ok.wb, List.length_nil]; omega, fun a K' W' s' ps' H' ht' e1 e2 e3 e4 hL => ?_, fun hc K' W' s' ps' H' ht' e1 e2 e3 hL => ?_⟩
  · refine k1 { S with K := K', W := W', dk := s', rvs := S.rvs ++ [.ref a], j := S.j + 1 } ps' a H' ht' ⟨?_, ?_, e2, by rw [e3]; exact ok.fs, hjl⟩ rfl rfl rfl e4 (by dsimp only; fail "pm")
    · dsimp only
      rw [et, List.map_append]
      exact (ok.rv.mono fun x h => .tail _ h).snoc (.row (.head _) (.cons (.str _) (.cons (.str _) .nil)))
    · dsimp only
      rw [et, List.map_append, framesB_app, e1, ok.kb, ok.wb, List.nil_append]
      congr 1
      unfold framesB
      simp
  · refine k2 hc { S with K := K', W := W', dk := s' } ps' H' ht' ⟨by rw [e1]; exact ok.kb, by rw [e3]; exact ok.fs, ok.j, ?_⟩ (by dsimp only; fail "pm")
    rcases e2 with e2 | e2
    · exact .inl ⟨by rw [e2]; exact ok.wb, hy.now⟩
    · refine .inr ⟨_, hr, ?_, hy.now, hy.nxt⟩
      rw [e2, ok.wb, List.nil_append]
theorem addS_take {l : List Str} {i d : Nat} (hl : l.Nodup) (hi : l[i]? = some st) (hd : d = i ∨ d = i + 1) : addS (l.take d) st = l.take (i + 1) := by
  have e : l.take (i + 1) = l.take i ++ [st] := take_succ_at hi
  unfold addS
  rcases hd with rfl | rfl
  · rw [if_neg, e]
    intro h
    obtain ⟨j, hj, z⟩ := List.mem_take_iff_getElem.mp h
    have h1 := (List.getElem?_inj (by omega) hl).mp (show l[j]? = l[d]? by rw [hi, List.getElem?_eq_getElem (by omega), z])
    omega
  · rw [if_pos]
    rw [e]
    exact List.mem_append_right _ (.head _)
end
end Sd


set_option linter.unusedVariables false
namespace Sd
open PySem L2 LamX NdefX
open C8 (Cal Met Mak pe_c pe_mk pe_mt pe_mt0 pss_cut tCut)
set_option linter.unusedSimpArgs false
set_option pp.deepTerms false
set_option pp.deepTerms.threshold 12
set_option hygiene false
local macro_rules | `(tactic| fail "nd") => `(tactic| first | assumption | decide +kernel)
local macro_rules | `(tactic| fail "ix") => `(tactic| first | exact ⟨0, rfl⟩ | exact ⟨1, rfl⟩ | exact ⟨2, rfl⟩ | exact ⟨3, rfl⟩ | exact ⟨4, rfl⟩ | exact ⟨5, rfl⟩ | exact ⟨6, rfl⟩ | exact ⟨7, rfl⟩ | exact ⟨8, rfl⟩ | exact ⟨9, rfl⟩ | exact ⟨10, rfl⟩ | exact ⟨11, rfl⟩ | exact ⟨12, rfl⟩ | exact ⟨13, rfl⟩ | exact ⟨14, rfl⟩ | exact ⟨15, rfl⟩ | exact ⟨16, rfl⟩ | exact ⟨17, rfl⟩ | exact ⟨18, rfl⟩ | assumption)
local macro_rules | `(tactic| fail "up") => `(tactic| first | exact ⟨0, rfl, rfl⟩ | exact ⟨1, rfl, rfl⟩ | exact ⟨2, rfl, rfl⟩ | exact ⟨3, rfl, rfl⟩ | exact ⟨4, rfl, rfl⟩ | exact ⟨5, rfl, rfl⟩ | exact ⟨6, rfl, rfl⟩ | exact ⟨7, rfl, rfl⟩ | exact ⟨8, rfl, rfl⟩ | exact ⟨9, rfl, rfl⟩ | exact ⟨10, rfl, rfl⟩ | exact ⟨11, rfl, rfl⟩ | exact ⟨12, rfl, rfl⟩ | exact ⟨13, rfl, rfl⟩ | exact ⟨14, rfl, rfl⟩ | exact ⟨15, rfl, rfl⟩ | exact ⟨16, rfl, rfl⟩ | assumption)
local macro_rules | `(tactic| fail "lkF") => `(tactic| first | assumption | exact fz_at 0 (by fail "nd") rfl rfl | exact fz_at 1 (by fail "nd") rfl rfl | exact fz_at 2 (by fail "nd") rfl rfl | exact fz_at 3 (by fail "nd") rfl rfl | exact fz_at 4 (by fail "nd") rfl rfl | exact fz_at 5 (by fail "nd") rfl rfl | exact fz_at 6 (by fail "nd") rfl rfl | exact fz_at 7 (by fail "nd") rfl rfl)
local macro_rules | `(tactic| fail "lkD") => `(tactic| first | assumption | exact dz_at 0 (by fail "nd") rfl rfl | exact dz_at 1 (by fail "nd") rfl rfl | exact dz_at 2 (by fail "nd") rfl rfl | exact dz_at 3 (by fail "nd") rfl rfl | exact dz_at 4 (by fail "nd") rfl rfl)
local macro_rules | `(tactic| fail "ptF") => `(tactic| first | assumption | exact fz_put 0 (by fail "nd") rfl (Nat.le_of_ble_eq_true rfl) | exact fz_put 1 (by fail "nd") rfl (Nat.le_of_ble_eq_true rfl) | exact fz_put 2 (by fail "nd") rfl (Nat.le_of_ble_eq_true rfl) | exact fz_put 3 (by fail "nd") rfl (Nat.le_of_ble_eq_true rfl) | exact fz_put 4 (by fail "nd") rfl (Nat.le_of_ble_eq_true rfl) | exact fz_put 5 (by fail "nd") rfl (Nat.le_of_ble_eq_true rfl) | exact fz_put 6 (by fail "nd") rfl (Nat.le_of_ble_eq_true rfl) | exact fz_put 7 (by fail "nd") rfl (Nat.le_of_ble_eq_true rfl) | exact fz_new (by decide +kernel) rfl)
local macro_rules | `(tactic| fail "ptD") => `(tactic| first | assumption | exact dz_put 0 (by fail "nd") rfl (Nat.le_of_ble_eq_true rfl) | exact dz_put 1 (by fail "nd") rfl (Nat.le_of_ble_eq_true rfl) | exact dz_put 2 (by fail "nd") rfl (Nat.le_of_ble_eq_true rfl) | exact dz_put 3 (by fail "nd") rfl (Nat.le_of_ble_eq_true rfl) | exact dz_put 4 (by fail "nd") rfl (Nat.le_of_ble_eq_true rfl))
local macro_rules | `(tactic| fail "sz") => `(tactic| first | assumption | exact (Nat.le_of_ble_eq_true rfl) | omega | decide)
local macro_rules | `(tactic| fail "sd") => `(tactic| first | rfl | assumption | decide | omega | (dsimp only; first | decide | omega) | exact .inr ⟨by decide, by decide⟩ | exact .inl ⟨by decide, by decide⟩ | exact ⟨by omega, by omega⟩ | exact .inl ⟨by omega, by omega⟩ | exact .inr ⟨by omega, by omega⟩ | exact ⟨by omega, by omega, by omega⟩)
local macro_rules | `(tactic| fail "cl") => `(tactic| (clear hH; dsimp only [List.set, List.cons_append, List.nil_append, List.append] at hL))
local macro_rules | `(tactic| fail "gn") => `(tactic| (intro p hp; generalize hH : upd H p _ = H; replace hL := Led.newH hL hp hH; clear hH hp))
local macro_rules | `(tactic| fail "gup") => `(tactic| (generalize hH : upd H _ _ = H; replace hL := Led.upU hL (by fail "up") hH; fail "cl"))
local macro_rules | `(tactic| fail "gmk") => `(tactic| (intro x dx hx hd ne; generalize hH : upd (upd H dx _) x _ = H; replace hL := Led.made hL hx hd ne hH; clear hH hx hd ne))
local macro_rules | `(tactic| fail "v") => `(tactic| refine ⟨_, rfl, ?_⟩)
local macro_rules | `(tactic| fail "i2") => `(tactic| refine ⟨_, _, rfl, rfl, ?_⟩)
local macro_rules | `(tactic| fail "go1") => `(tactic| first
  | refine ⟨_, rfl, ?_⟩
  | refine ⟨_, _, rfl, rfl, ?_⟩
  | refine ⟨_, _, rfl, ?_⟩
  | refine iteT ?_
  | refine iteF ?_
  | refine k_fld hL (by fail "ix") (by assumption) (by assumption) (by fail "lkF") ?_
  | refine k_dgetS hL (by fail "ix") (by fail "lkD") ?_
  | refine k_dgetI hL (by fail "ix") (by assumption) ?_
  | refine k_ixL hL (by fail "ix") (by first | rfl | assumption) ?_
  | refine k_ixT hL (by fail "ix") (by first | rfl | assumption) ?_
  | refine k_tyL hL (by fail "ix") ?_
  | refine k_isd hL (by fail "ix") ?_
  | (refine And.intro (by fail "sz") ?_; fail "gn")
  | refine And.intro (by fail "sd") ?_
  | fail "gn"
  | refine k_meth hL (by fail "ix") (by first | assumption | exact fz_no (by decide +kernel)) ?_
  | refine k_gtup hL (by fail "ix") rfl ?_
  | (refine k_popI hL (by fail "ix") (by assumption) ?_; fail "gup")
  | (refine k_listD hL (by fail "ix") ?_; fail "gn")
  | (refine ⟨_, _, _, _, rfl, rfl, hL.at (by fail "ix"), rfl, ?_⟩; fail "gup")
  | (refine ⟨_, _, _, rfl, rfl, hL.at (by fail "ix"), (by fail "sz"), ?_⟩; fail "gup")
  | (refine ⟨_, _, _, _, rfl, hL.at (by fail "ix"), by assumption, by assumption, Nat.lt_of_le_of_lt fz_len (by decide), ?_⟩; generalize hH : upd H _ _ = H; replace hL := Led.upF hL (by fail "up") (by fail "ptF") hH; fail "cl")
  | (refine ⟨_, _, hL.at (by fail "ix"), Nat.lt_of_le_of_lt fz_len (by decide), ?_⟩; generalize hH : upd H _ _ = H; replace hL := Led.upF hL (by fail "up") (by fail "ptF") hH; fail "cl")
  | (refine k_dputS hL (by fail "ix") (Nat.lt_of_le_of_lt dz_len (by decide)) (by fail "ptD") (by fail "up") ?_; clear hL; intro H hL; dsimp only [List.set, List.cons_append, List.nil_append, List.append] at hL)
  | refine k_lenL2 hL (by fail "ix") ?_
  | refine k_lenT2 hL (by fail "ix") ?_
  | refine .inl ⟨_, rfl, ?_⟩
  | refine .inr ⟨_, rfl, ?_⟩)
local macro_rules | `(tactic| fail "go") => `(tactic| repeat fail "go1")
local macro_rules | `(tactic| fail "pm") => `(tactic| (refine Led.le hL (fun a_ => ?_); simp only [cnt_nil, cnt_cons, cnt_app, List.map_append, List.map_cons, List.map_nil, List.flatMap_append, List.flatMap_cons, List.flatMap_nil, List.append_assoc, List.cons_append, List.nil_append]; omega))

/-- the lambda's code object is told -/
def cdM (F : NF) (L : Lg) : Prop := (F.c, CodeO F.c F.qual) ∈ L ∨ ∃ P1, (F.c, CodeT F.c F.qual P1) ∈ L
theorem cdM.mono {F : NF} {L L' : Lg} (h : cdM F L) (s : ∀ a ∈ L, a ∈ L') : cdM F L' := h.elim (fun h => .inl (s _ h)) fun ⟨p, h⟩ => .inr ⟨p, s _ h⟩
theorem cdM.at {F : NF} {L L' : Lg} {H : Hp} {P : Program} {w : World} (h : cdM F L) (hL : Led H L') (s : ∀ a ∈ L, a ∈ L') : CdAt P w H F.c F.qual := h.elim (fun h => .of (hL.mem (s _ h))) fun ⟨p, h⟩ => .ofT (hL.mem (s _ h))
/-- the step that fails, as the law's name holds it -/
def failV (ns : List Str) (f : Nat) : V := match ns[f]? with
  | some s => .str s
  | none => .non
theorem failV_eq {ns : List Str} {f i : Nat} {st : Str} (hn : ns.Nodup) (hi : ns[i]? = some st) : failV ns f = .str st ↔ i = f := by
  unfold failV
  cases hf : ns[f]? with
  | none =>
    simp only [reduceCtorEq, false_iff]
    rintro rfl
    rw [hi] at hf
    cases hf
  | some s =>
    constructor
    · intro z
      have z := V.str.inj z
      exact (List.getElem?_inj (List.getElem?_eq_some_iff.mp hi).1 hn).mp (by rw [hi, hf, z])
    · rintro rfl
      rw [hi] at hf
      cases hf
      rfl
theorem failV_scal {ns : List Str} {f : Nat} {st : Str} : scal (.str st) (failV ns f) = true := by
  unfold failV
  cases ns[f]? <;> rfl
theorem filt_mono {α : Type} (l : List α) (p : α → Bool) (j : Nat) : ((l.take j).filter p).length ≤ ((l.take (j + 1)).filter p).length := by
  rw [List.take_add_one, List.filter_append, List.length_append]
  omega
theorem uN_mono {n f j : Nat} : uN n f j ≤ uN n f (j + 1) := filt_mono _ _ _
theorem NsOk.rsz {ns : List Str} {f j : Nat} (hn : NsOk ns f) : ((RWs ns f).take j).length ≤ 100 := by
  have := hn.lenZ
  have := hn.lenR
  rw [List.length_take]
  omega
def spDo (P : Program) (w : World) (K : PySem.W.Frag) (mg : Str → Option Value) (base : Heap) (CW CD CE PN : Addr) (F : NF) (ws : List (Option V)) : Sp := fun vs H Q E => ∃ (A : FlA) (ns : List Str) (f : Nat) (S : FlS) (i : Nat) (st : Str) (g : Addr) (b : Expr) (ps : Array Value) (L : Lg), vs = [.ref A.x, .str st, .ref g] ∧ NsOk ns f ∧
  Led H ((PN, .tbl ps) :: (flL CW CD A ns f S ++ L)) ∧ FlOk ns f S L ∧ TriplesOk ps.toList ∧ WOk ns.length f S.j S.d S.u ∧ ns[i]? = some st ∧ i ≤ f ∧ (S.j = 2 * i ∨ S.j = 2 * i + 1) ∧ (g, LamO g F b) ∈ L ∧ cdM F L ∧ LOkS P w K mg base 3 g F b NLd (tlDo CW) ∧ ws = [some (.ref A.w0), some (failV ns f), some (.ref A.x)] ∧
  (∀ (S' : FlS) (ps' : Array Value) (Z : Lg) H', TriplesOk ps'.toList → FlOk ns f S' (Z ++ L) → WOk ns.length f S'.j S'.d S'.u → S'.j = 2 * i + 2 → (calm S.dk → calm S'.dk) → Led H' ((PN, .tbl ps') :: (flL CW CD A ns f S' ++ (Z ++ L))) → Q (.bl (decide (i ≠ f))) H') ∧
  (¬ calm S.dk → ∀ (S' : FlS) (ps' : Array Value) (Z : Lg) H', TriplesOk ps'.toList → FlX ns f S' → Led H' ((PN, .tbl ps') :: (flL CW CD A ns f S' ++ (Z ++ L))) → E (.ref CE) none H')
section
variable {P : Program} {w : World} {K : PySem.W.Frag} {mg : Str → Option Value} {base : Heap} {CW CD CE PN : Addr}
theorem scDo : FnScope ["self", "step", "doer", "good"] ["self", "step", "doer"] (defScope sDo) := ⟨rfl, rfl, rfl, by decide +kernel, rfl, by decide +kernel, by decide +kernel⟩
theorem ok_do {f : Addr} {fd : FuncData} (Fn : Fun K "do" "Workflow.do" sDo f fd) (X : TxtWf K CW) (c_Workflow_state_of : Met P w K mg base 1 CW "state_of" (spSof CW) []) (c_Workflow_note : MetX P w K mg base 10 CW "note" (spNote CW CD CE PN) []) (F : NF) (ws : List (Option V)) :
    FnOkS P w K mg base 11 f fd ["self", "step", "doer"] (gTold F NLd ws) (spDo P w K mg base CW CD CE PN F ws) := by
  refine fun_okS Fn scDo (fun vs H Q E h => ?_) fun cdv Ar outer s H vs Q E hr C_doer h => ?_
  · obtain ⟨A, ns, f, S, i, st, g, b, ps, L, rfl, _⟩ := h
    rfl
  · obtain ⟨A, ns, f, S, i, st, g, b, ps, L, rfl, hn, hL, ok, ht, hw, hi, hif, hj, hg, hcd, L_doer, hws, k1, k2⟩ := h
    have c1 := X.cl
    have C_doer : CellsO F.cl NLd ws outer s.heap H := C_doer
    refine ⟨_, (C8.pss_cut (ps_if (pt_cmpR op_isN (pe_mt c_Workflow_state_of hr (by decide) (pv 0) (pa_cons (pv 1) pa_nil)) pe_non (nomark _))
  (pss_one (ps_expr (pe_mtX c_Workflow_note hr (by decide) (takes_of rfl rfl rfl (E := E) rfl) (pv 0) (pa_cons pe_str (pa_cons (pv 1) pa_nil)))))
  pss_nil)
  (pss_cons (ps_set (i := 3) scDo.nd rfl (Or.inl rfl) (pe_lamS (i := 2) (takes_of rfl rfl rfl (E := E) rfl) (hr.mono (by decide)) rfl (Or.inl rfl) C_doer rfl L_doer (pa_cons (pv 1) pa_nil)))
  (pss_cons (ps_expr (pe_mtX c_Workflow_note hr (by decide) (takes_of rfl rfl rfl (E := E) rfl) (pv 0) (pa_cons (pe_ifExp (pt_val (pv 3)) pe_str pe_str) (pa_cons (pv 1) pa_nil))))
  (pss_one (ps_ret (pv 3)))))), ?_⟩
    have hin : i < ns.length := (List.getElem?_eq_some_iff.mp hi).1
    have Ft := hn.fct ok.j
    obtain ⟨r1, r2, r3, r4, r5, r6, r7⟩ := Ft.r i hin hif
    refine ⟨fun σ' H' => Hold (∃ (S' : FlS) (ps' : Array Value) (Z : Lg), σ' = L2.start ["self", "step", "doer", "good"] [.ref A.x, .str st, .ref g] ∧ TriplesOk ps'.toList ∧ FlOk ns f S' (Z ++ L) ∧ WOk ns.length f S'.j S'.d S'.u ∧ S'.j = 2 * i + 1 ∧ (calm S.dk → calm S'.dk) ∧ Led H' ((PN, .tbl ps') :: (flL CW CD A ns f S' ++ (Z ++ L)))), ?_, fun σ' H' h => ?_⟩
    · have hA : Led H (wfL CW A.x A.dx A.D A.T A.R ns S.rvs ++ ((PN, .tbl ps) :: (dkL CD A.D A.dd S.K S.W A.F S.dk ++ (woL A.w0 S.Dn S.Un (ns.take S.d) ((unO ns f).take S.u) ++ L)))) := by unfold flL at hL; fail "pm"
      fail "go"
      have hlz := hn.lenZ
      refine ⟨A.x, A.dx, A.D, A.T, A.R, ns, S.rvs, (RWs ns f).take S.j, st, _, rfl, hA, ok.rv.mono (fun a h => .tail _ (List.mem_append_right _ (List.mem_append_right _ h))), hn.rsz, fun H hL => ?_⟩
      have hB : Led H ((PN, .tbl ps) :: (flL CW CD A ns f S ++ L)) := by unfold flL; fail "pm"
      clear hL hA
      have hL := hB
      clear hB
      rw [hn.st ok.j hi, Ft.st1 i hin hif (by omega) (by omega)]
      rcases hj with hj | hj
      · rw [if_pos hj]
        fail "go"
        have hrw := hn.row (j := S.j) (k := 0) (by rw [hj]; exact r1) hi
        have hu1 := uN_mono (n := ns.length) (f := f) (j := 2 * i)
        dsimp only [tNil, List.cons_append, List.nil_append]
        refine k_note hn hL ok ht hrw ⟨by rw [hj, r4]; rcases hw.d with z | z <;> rw [hj] at z <;> omega, by rw [hj, r6]; rcases hw.u with z | z <;> rw [hj] at z <;> omega⟩ (fun S' ps' a H' ht' ok' e1 e2 e3 e4 hL => ?_) fun hc S' ps' H' ht' x' hL => k2 hc S' ps' [] H' ht' x' hL
        have hj2 : S'.j = 2 * i + 1 := by rw [e1, hj]
        refine .mk ⟨S', ps', [(a, .tup [.str "begun", .str st])], rfl, ht', ok', ⟨?_, ?_⟩, hj2, e4, hL⟩
        · rw [hj2, e2, r4]
          left
          rcases hw.d with z | z <;> rw [hj] at z <;> omega
        · rw [hj2, e3, r6]
          left
          rcases hw.u with z | z <;> rw [hj] at z <;> omega
      · rw [if_neg (by omega), if_pos hj]
        fail "go"
        exact .mk ⟨S, ps, [], rfl, ht, ok, hw, hj, fun h => h, hL⟩
    · clear hL ht ok hw hj
      obtain ⟨S1, ps, Z, rfl, ht, ok, hw, hj, hcm, hL⟩ := h.out
      clear h
      fail "go"
      refine ⟨hL.mem (.tail _ (List.mem_append_right _ (List.mem_append_right _ hg))), ?_⟩
      fail "go"
      refine ⟨hL.mem (.tail _ (List.mem_append_right _ (List.mem_append_right _ hg))), hcd.at hL fun a h => .tail _ (List.mem_append_right _ (List.mem_append_right _ h)), st, A.w0, failV ns f, A.x, rfl, hws, ?_⟩
      have hL2 : Led H' (woL A.w0 S1.Dn S1.Un (ns.take S1.d) ((unO ns f).take S1.u) ++ (wfL CW A.x A.dx A.D A.T A.R ns S1.rvs ++ ((PN, .tbl ps) :: (dkL CD A.D A.dd S1.K S1.W A.F S1.dk ++ (Z ++ L))))) := by unfold flL at hL; fail "pm"
      clear hL
      have hwd : S1.d = dN ns.length f (2 * i + 1) ∨ S1.d = dN ns.length f (2 * i + 2) := by have := hw.d; rwa [hj] at this
      have hwu : S1.u = uN ns.length f (2 * i + 1) ∨ S1.u = uN ns.length f (2 * i + 2) := by have := hw.u; rwa [hj] at this
      refine ⟨A.w0, S1.Dn, S1.Un, _, _, _, st, A.x, A.dx, A.D, A.T, A.R, ns, S1.rvs, (RWs ns f).take S1.j, _, rfl, hL2, ok.rv.mono (fun a h => .tail _ (List.mem_append_right _ h)), hn.rsz, ?_, ?_, failV_scal, fun hf H hL => ?_, fun hf Dn' H hL => ?_⟩
      · rw [hn.st ok.j hi, (hn.fct ok.j).st1 i hin hif (by omega) (by omega), if_neg (by omega), if_pos hj]
        exact fun z => by cases z
      · rw [List.length_take]
        have := hn.z
        omega
      · obtain hf := (failV_eq hn.nd hi).mp hf
        have hL2 : Led H ((PN, .tbl ps) :: (flL CW CD A ns f S1 ++ (Z ++ L))) := by unfold flL; fail "pm"
        clear hL
        have hL := hL2
        clear hL2
        fail "go"
        dsimp only [tNil, List.cons_append, List.nil_append]
        rw [if_pos hf] at r2 r5
        have hd : S1.d = dN ns.length f (S1.j + 1) := by rw [hj, r5]; rcases hwd with z | z <;> omega
        have hu : S1.u = uN ns.length f (S1.j + 1) := by rw [hj, r7]; rcases hwu with z | z <;> omega
        refine k_note hn hL ok ht (hn.row (j := S1.j) (k := 2) (by rw [hj]; exact r2) hi) ⟨hd, hu⟩ (fun S' ps' a H' ht' ok' e1 e2 e3 e4 hL => ?_) fun hc S' ps' H' ht' x' hL => k2 (fun z => hc (hcm z)) S' ps' Z H' ht' x' hL
        fail "go"
        have := k1 S' ps' ((a, .tup [.str (wdS 2), .str st]) :: Z) H' ht' ok' ⟨.inl (by rw [e2, e1]; exact hd), .inl (by rw [e3, e1]; exact hu)⟩ (by rw [e1, hj]) (fun z => e4 (hcm z)) hL
        rwa [show decide (i ≠ f) = false by simp [hf]] at this
      · have hf : ¬ i = f := fun z => hf ((failV_eq hn.nd hi).mpr z)
        rw [if_neg hf] at r2 r5
        have hd0 : S1.d = i ∨ S1.d = i + 1 := by rcases hwd with z | z <;> omega
        rw [addS_take hn.nd hi hd0] at hL
        have hL2 : Led H ((PN, .tbl ps) :: (flL CW CD A ns f { S1 with Dn := Dn', d := i + 1 } ++ (Z ++ L))) := by unfold flL; dsimp only; fail "pm"
        clear hL
        have hL := hL2
        clear hL2
        fail "go"
        dsimp only [tNil, List.cons_append, List.nil_append]
        have hd : i + 1 = dN ns.length f (S1.j + 1) := by rw [hj, r5]
        have hu : S1.u = uN ns.length f (S1.j + 1) := by rw [hj, r7]; rcases hwu with z | z <;> omega
        refine k_note hn hL ⟨ok.rv, ok.kb, ok.wb, ok.fs, ok.j⟩ ht (hn.row (j := S1.j) (k := 1) (by rw [hj]; exact r2) hi) ⟨hd, hu⟩ (fun S' ps' a H' ht' ok' e1 e2 e3 e4 hL => ?_) fun hc S' ps' H' ht' x' hL => k2 (fun z => hc (hcm z)) S' ps' Z H' ht' x' hL
        fail "go"
        have := k1 S' ps' ((a, .tup [.str (wdS 1), .str st]) :: Z) H' ht' ok' ⟨.inl (by rw [e2, e1]; exact hd), .inl (by rw [e3, e1]; exact hu)⟩ (by rw [e1, hj]) (fun z => e4 (hcm z)) hL
        rwa [show decide (i ≠ f) = true by simp [hf]] at this
end
end Sd


set_option linter.unusedVariables false
namespace Sd
open PySem L2 LamX NdefX PyProof.Rows
open C8 (Cal Met Mak pe_c pe_mk pe_mt pe_mt0 pss_cut tCut)
set_option linter.unusedSimpArgs false
set_option pp.deepTerms false
set_option pp.deepTerms.threshold 12
set_option hygiene false
local macro_rules | `(tactic| fail "nd") => `(tactic| first | assumption | decide +kernel)
local macro_rules | `(tactic| fail "ix") => `(tactic| first | exact ⟨0, rfl⟩ | exact ⟨1, rfl⟩ | exact ⟨2, rfl⟩ | exact ⟨3, rfl⟩ | exact ⟨4, rfl⟩ | exact ⟨5, rfl⟩ | exact ⟨6, rfl⟩ | exact ⟨7, rfl⟩ | exact ⟨8, rfl⟩ | exact ⟨9, rfl⟩ | exact ⟨10, rfl⟩ | exact ⟨11, rfl⟩ | exact ⟨12, rfl⟩ | exact ⟨13, rfl⟩ | exact ⟨14, rfl⟩ | exact ⟨15, rfl⟩ | exact ⟨16, rfl⟩ | exact ⟨17, rfl⟩ | exact ⟨18, rfl⟩ | assumption)
local macro_rules | `(tactic| fail "up") => `(tactic| first | exact ⟨0, rfl, rfl⟩ | exact ⟨1, rfl, rfl⟩ | exact ⟨2, rfl, rfl⟩ | exact ⟨3, rfl, rfl⟩ | exact ⟨4, rfl, rfl⟩ | exact ⟨5, rfl, rfl⟩ | exact ⟨6, rfl, rfl⟩ | exact ⟨7, rfl, rfl⟩ | exact ⟨8, rfl, rfl⟩ | exact ⟨9, rfl, rfl⟩ | exact ⟨10, rfl, rfl⟩ | exact ⟨11, rfl, rfl⟩ | exact ⟨12, rfl, rfl⟩ | exact ⟨13, rfl, rfl⟩ | exact ⟨14, rfl, rfl⟩ | exact ⟨15, rfl, rfl⟩ | exact ⟨16, rfl, rfl⟩ | assumption)
local macro_rules | `(tactic| fail "lkF") => `(tactic| first | assumption | exact fz_at 0 (by fail "nd") rfl rfl | exact fz_at 1 (by fail "nd") rfl rfl | exact fz_at 2 (by fail "nd") rfl rfl | exact fz_at 3 (by fail "nd") rfl rfl | exact fz_at 4 (by fail "nd") rfl rfl | exact fz_at 5 (by fail "nd") rfl rfl | exact fz_at 6 (by fail "nd") rfl rfl | exact fz_at 7 (by fail "nd") rfl rfl)
local macro_rules | `(tactic| fail "lkD") => `(tactic| first | assumption | exact dz_at 0 (by fail "nd") rfl rfl | exact dz_at 1 (by fail "nd") rfl rfl | exact dz_at 2 (by fail "nd") rfl rfl | exact dz_at 3 (by fail "nd") rfl rfl | exact dz_at 4 (by fail "nd") rfl rfl)
local macro_rules | `(tactic| fail "ptF") => `(tactic| first | assumption | exact fz_put 0 (by fail "nd") rfl (Nat.le_of_ble_eq_true rfl) | exact fz_put 1 (by fail "nd") rfl (Nat.le_of_ble_eq_true rfl) | exact fz_put 2 (by fail "nd") rfl (Nat.le_of_ble_eq_true rfl) | exact fz_put 3 (by fail "nd") rfl (Nat.le_of_ble_eq_true rfl) | exact fz_put 4 (by fail "nd") rfl (Nat.le_of_ble_eq_true rfl) | exact fz_put 5 (by fail "nd") rfl (Nat.le_of_ble_eq_true rfl) | exact fz_put 6 (by fail "nd") rfl (Nat.le_of_ble_eq_true rfl) | exact fz_put 7 (by fail "nd") rfl (Nat.le_of_ble_eq_true rfl) | exact fz_new (by decide +kernel) rfl)
local macro_rules | `(tactic| fail "ptD") => `(tactic| first | assumption | exact dz_put 0 (by fail "nd") rfl (Nat.le_of_ble_eq_true rfl) | exact dz_put 1 (by fail "nd") rfl (Nat.le_of_ble_eq_true rfl) | exact dz_put 2 (by fail "nd") rfl (Nat.le_of_ble_eq_true rfl) | exact dz_put 3 (by fail "nd") rfl (Nat.le_of_ble_eq_true rfl) | exact dz_put 4 (by fail "nd") rfl (Nat.le_of_ble_eq_true rfl))
local macro_rules | `(tactic| fail "sz") => `(tactic| first | assumption | exact (Nat.le_of_ble_eq_true rfl) | omega | decide)
local macro_rules | `(tactic| fail "sd") => `(tactic| first | rfl | assumption | decide | omega | (dsimp only; first | decide | omega) | exact .inr ⟨by decide, by decide⟩ | exact .inl ⟨by decide, by decide⟩ | exact ⟨by omega, by omega⟩ | exact .inl ⟨by omega, by omega⟩ | exact .inr ⟨by omega, by omega⟩ | exact ⟨by omega, by omega, by omega⟩)
local macro_rules | `(tactic| fail "cl") => `(tactic| (clear hH; dsimp only [List.set, List.cons_append, List.nil_append, List.append] at hL))
local macro_rules | `(tactic| fail "gn") => `(tactic| (intro p hp; generalize hH : upd H p _ = H; replace hL := Led.newH hL hp hH; clear hH hp))
local macro_rules | `(tactic| fail "gup") => `(tactic| (generalize hH : upd H _ _ = H; replace hL := Led.upU hL (by fail "up") hH; fail "cl"))
local macro_rules | `(tactic| fail "gmk") => `(tactic| (intro x dx hx hd ne; generalize hH : upd (upd H dx _) x _ = H; replace hL := Led.made hL hx hd ne hH; clear hH hx hd ne))
local macro_rules | `(tactic| fail "v") => `(tactic| refine ⟨_, rfl, ?_⟩)
local macro_rules | `(tactic| fail "i2") => `(tactic| refine ⟨_, _, rfl, rfl, ?_⟩)
local macro_rules | `(tactic| fail "go1") => `(tactic| first
  | refine ⟨_, rfl, ?_⟩
  | refine ⟨_, _, rfl, rfl, ?_⟩
  | refine ⟨_, _, rfl, ?_⟩
  | refine iteT ?_
  | refine iteF ?_
  | refine k_fld hL (by fail "ix") (by assumption) (by assumption) (by fail "lkF") ?_
  | refine k_dgetS hL (by fail "ix") (by fail "lkD") ?_
  | refine k_dgetI hL (by fail "ix") (by assumption) ?_
  | refine k_ixL hL (by fail "ix") (by first | rfl | assumption) ?_
  | refine k_ixT hL (by fail "ix") (by first | rfl | assumption) ?_
  | refine k_tyL hL (by fail "ix") ?_
  | refine k_isd hL (by fail "ix") ?_
  | (refine And.intro (by fail "sz") ?_; fail "gn")
  | refine And.intro (by fail "sd") ?_
  | fail "gn"
  | refine k_meth hL (by fail "ix") (by first | assumption | exact fz_no (by decide +kernel)) ?_
  | refine k_gtup hL (by fail "ix") rfl ?_
  | (refine k_popI hL (by fail "ix") (by assumption) ?_; fail "gup")
  | (refine k_listD hL (by fail "ix") ?_; fail "gn")
  | (refine ⟨_, _, _, _, rfl, rfl, hL.at (by fail "ix"), rfl, ?_⟩; fail "gup")
  | (refine ⟨_, _, _, rfl, rfl, hL.at (by fail "ix"), (by fail "sz"), ?_⟩; fail "gup")
  | (refine ⟨_, _, _, _, rfl, hL.at (by fail "ix"), by assumption, by assumption, Nat.lt_of_le_of_lt fz_len (by decide), ?_⟩; generalize hH : upd H _ _ = H; replace hL := Led.upF hL (by fail "up") (by fail "ptF") hH; fail "cl")
  | (refine ⟨_, _, hL.at (by fail "ix"), Nat.lt_of_le_of_lt fz_len (by decide), ?_⟩; generalize hH : upd H _ _ = H; replace hL := Led.upF hL (by fail "up") (by fail "ptF") hH; fail "cl")
  | (refine k_dputS hL (by fail "ix") (Nat.lt_of_le_of_lt dz_len (by decide)) (by fail "ptD") (by fail "up") ?_; clear hL; intro H hL; dsimp only [List.set, List.cons_append, List.nil_append, List.append] at hL)
  | refine k_lenL2 hL (by fail "ix") ?_
  | refine k_lenT2 hL (by fail "ix") ?_
  | refine .inl ⟨_, rfl, ?_⟩
  | refine .inr ⟨_, rfl, ?_⟩)
local macro_rules | `(tactic| fail "go") => `(tactic| repeat fail "go1")
local macro_rules | `(tactic| fail "pm") => `(tactic| (refine Led.le hL (fun a_ => ?_); simp only [cnt_nil, cnt_cons, cnt_app, List.map_append, List.map_cons, List.map_nil, List.flatMap_append, List.flatMap_cons, List.flatMap_nil, List.append_assoc, List.cons_append, List.nil_append]; omega))

theorem NsOk.failE {ns : List Str} {f j : Nat} (h : NsOk ns f) (hj : j ≤ lenN ns.length f) : failedA ((RWs ns f).take j) = (decide (f < ns.length) && decide (2 * f + 2 ≤ j)) := by
  rw [← (h.fct hj).fail]
  have W := h.wfT hj
  unfold failedA RWs
  rw [← List.map_take, List.any_map, Bool.eq_iff_iff, List.any_eq_true, List.any_eq_true]
  constructor
  · rintro ⟨p, hp, q⟩
    refine ⟨p, hp, ?_⟩
    have q : decide (wdS p.1 = ("failed" : Str)) = true := q
    rw [decide_eq_true_eq] at q
    rw [(wdS_failed (W p hp).2).mp q]
    rfl
  · rintro ⟨p, hp, q⟩
    refine ⟨p, hp, ?_⟩
    rw [beq_iff_eq] at q
    show decide (wdS p.1 = ("failed" : Str)) = true
    rw [q]
    decide +kernel
theorem _root_.L2.Meth.uniq {K : PySem.W.Frag} {C f g : Addr} {m : Str} (h : L2.Meth K C m f) (h2 : L2.Meth K C m g) : g = f := by
  have a := h.at_
  have b := h2.at_
  rw [a] at b
  exact (Value.ref.inj (Option.some.inj (Option.some.inj b))).symm
mutual
theorem DL.monoT {L L' : Lg} (s : ∀ a xs, (a, HO.tup xs) ∈ L → (a, HO.tup xs) ∈ L') : ∀ {v : V} {d : Dv}, DL L v d → DL L' v d
  | _, _, .non => .non
  | _, _, .bl b => .bl b
  | _, _, .int i => .int i
  | _, _, .str x => .str x
  | _, _, .row h h1 => .row (s _ _ h) (DLs.monoT s h1)
theorem DLs.monoT {L L' : Lg} (s : ∀ a xs, (a, HO.tup xs) ∈ L → (a, HO.tup xs) ∈ L') : ∀ {v : List V} {d : List Dv}, DLs L v d → DLs L' v d
  | _, _, .nil => .nil
  | _, _, .cons h h1 => .cons (DL.monoT s h) (DLs.monoT s h1)
end
theorem FlOk.monoT {ns : List Str} {f : Nat} {S : FlS} {L L' : Lg} (h : FlOk ns f S L) (s : ∀ a xs, (a, HO.tup xs) ∈ L → (a, HO.tup xs) ∈ L') : FlOk ns f S L' := ⟨h.rv.monoT s, h.kb, h.wb, h.fs, h.j⟩
/-- tables -/
structure Tb where
  n : Array Value
  e : Array Value
  g : Array Value
structure Tb.Ok (t : Tb) : Prop where
  n : TriplesOk t.n.toList
  e : TriplesOk t.e.toList
  g : TriplesOk t.g.toList
def tbL (PN PE PG : Addr) (t : Tb) : Lg := (PN, .tbl t.n) :: (PE, .tbl t.e) :: (PG, .tbl t.g) :: []
def endW (ns : List Str) (f : Nat) : Str := if f < ns.length then "undone" else "done"
/-- nothing can fail: the disk is calm, or all is written -/
def qt (ns : List Str) (f : Nat) (S : FlS) : Prop := calm S.dk ∨ S.j = lenN ns.length f
/-- a lambda that is told -/
structure LamT (P : Program) (w : World) (K : PySem.W.Frag) (mg : Str → Option Value) (base : Heap) (g : Addr) (F : NF) (b : Expr) (fr : List Str) (tl : List V → List (Option V) → Hp → VK → XK → Prop) (L : Lg) : Prop where
  m : (g, LamO g F b) ∈ L
  c : cdM F L
  l : LOkS P w K mg base 3 g F b fr tl
def spGo (P : Program) (w : World) (K : PySem.W.Frag) (mg : Str → Option Value) (base : Heap) (CW CD CE PN PE PG : Addr) (F1 F2 : NF) (ws1 ws2 : List (Option V)) : Sp := fun vs H Q E => ∃ (A : FlA) (ns : List Str) (f : Nat) (S : FlS) (g1 g2 : Addr) (b1 b2 : Expr) (t : Tb) (L : Lg), vs = [.ref A.x, .ref g1, .ref g2] ∧ NsOk ns f ∧
  Led H (tbL PN PE PG t ++ (flL CW CD A ns f S ++ L)) ∧ FlOk ns f S L ∧ t.Ok ∧ WOk ns.length f S.j S.d S.u ∧ LamT P w K mg base g1 F1 b1 NLd (tlDo CW) L ∧ LamT P w K mg base g2 F2 b2 NLu tlUn L ∧ ws1 = [some (.ref A.w0), some (failV ns f), some (.ref A.x)] ∧ ws2 = [some (.ref A.w0)] ∧
  (∀ (S' : FlS) (t' : Tb) (Z : Lg) H', t'.Ok → FlOk ns f S' (Z ++ L) → WOk ns.length f S'.j S'.d S'.u → S'.j = lenN ns.length f → (qt ns f S → qt ns f S') → Led H' (tbL PN PE PG t' ++ (flL CW CD A ns f S' ++ (Z ++ L))) → Q (.str (endW ns f)) H') ∧
  (¬ qt ns f S → ∀ (S' : FlS) (t' : Tb) (Z : Lg) H', t'.Ok → FlX ns f S' → Led H' (tbL PN PE PG t' ++ (flL CW CD A ns f S' ++ (Z ++ L))) → E (.ref CE) none H')
section
variable {P : Program} {w : World} {K : PySem.W.Frag} {mg : Str → Option Value} {base : Heap} {CW CD CE PN PE PG WD : Addr}
theorem fn_okT {x qual : Str} {st : Stmt} {f c : Addr} {oc dV : Value} {od : Option Addr} {osl : Array (Option Value)} {kV doc pm ct : Value} {an : Option Addr} {N ps : List Str} {k : Nat} {G : GT} {sp : Sp}
    (lk : K.lookup f = some ⟨oc, od, .func (PySem.W.fnOf x qual (defArgs st) (defBody st) (defScope st) dV kV doc pm an (.ref c) ct), osl⟩) (hcd : PySem.W.codeIn K (.ref c) qual = true) (S : FnScope N ps (defScope st)) (len : ∀ vs H Q E, sp vs H Q E → vs.length = ps.length)
    (hbody : ∀ (A : Around) (outer : List Env) (s : Shared) (H : Hp) (vs : List V) (Q : VK) (E : XK), Room k (A.deeper (envOfC qual (defScope st) s.heap.objs.size f (.ref c))) → G outer s.heap H → sp vs H Q E →
      ∃ t, PSs (cxOf (L2.CX P w) P w K mg base N qual (defScope st) f (.ref c) A outer s H E) (defBody st) t ∧ t { nx := fun _ H' => Q .non H', rt := Q } (L2.start N vs) H) : FnOkS P w K mg base (k + 1) f (PySem.W.fnOf x qual (defArgs st) (defBody st) (defScope st) dV kV doc pm an (.ref c) ct) ps G sp :=
  ⟨len, fun A outer s H args us vs Q E hr e0 hb r g h => run_ofS lk hcd S hr e0 hb r (len _ _ _ _ h) fun hr' => hbody A outer s H vs Q E hr' g h⟩
theorem k_anyF {x dx D Tt R PT : Addr} {rvs : List V} {rs : List Rw} {ps : Array Value} {R0 : Lg} {H : Hp} {Q : VK} {v1 v2 v3 v4 : Option V} (X : TxtWf K CW) (hL : Led H ((PT, .tbl ps) :: R0)) (ht : TriplesOk ps.toList) (m2 : (x, HO.ins CW dx (fz nmW [.ref D, .ref Tt, .ref R])) ∈ R0) (m3 : (R, HO.lst rvs) ∈ R0) (hz : DLs R0 rvs (rs.map rD))
    (k : ∀ (ps' : Array Value) H', TriplesOk ps'.toList → Led H' ((PT, .tbl ps') :: R0) → Q (.bl (failedA rs)) H') :
    Gx.tAnyG (Gx.tGxB (iList K (tFld K (tVar 0) "rows")) (gName 3) tYes (tOp rEq (tOp (rIxT K) (tVar 3) (tC (.int 0))) (tC (.str "failed"))) [3] PT true) [some (.ref x), v1, v2, v3, v4] H Q := by
  have c1 := X.cl
  have f3 := X.n "rows" (by decide +kernel)
  have hlr := hz.len
  rw [List.length_map] at hlr
  refine ⟨_, rfl, k_fld hL (at_mem (.tail _ m2)) c1 f3 (fz_at 2 (by decide +kernel) rfl rfl) ?_⟩
  have hfr : ∀ (i : Nat) (x : Rw), rs[i]? = some x → ((rs[i]?.map fun r : Rw => decide (r.1 = ("failed" : Str))).getD false) = decide (x.1 = ("failed" : Str)) := fun i x h => by rw [h]; rfl
  refine ⟨_, rfl, ⟨_, .of (hL.mem (.tail _ m3))⟩, k_gxl (fun i => ((rs[i]?.map fun r : Rw => decide (r.1 = ("failed" : Str))).getD false)) hL ht m3 (fun i v ps H Rr hv ht hL hR => ?_) (fun ps H i hi hf ht hL => ?_) (fun ps H hf ht hL => ?_) gmono_name⟩
  · obtain ⟨r, a, hr1, rfl, ha⟩ := DLs_rD hz hv
    refine ⟨rfl, ?_⟩
    refine ⟨_, rfl, ?_⟩
    refine k_ixT hL (at_mem (.tail _ ha)) (v := .str r.1) (atI_nat (j := 0) rfl) ?_
    refine ⟨rfl, ?_⟩
    rw [show decide (V.str r.1 = V.str ("failed" : Str)) = ((rs[i]?.map fun r : Rw => decide (r.1 = ("failed" : Str))).getD false) by rw [hfr i r hr1]; simp]
    exact hR ps H ht hL
  · have ef : failedA rs = true := by
      cases h : failedA rs with
      | true => rfl
      | false => exact absurd hf ((any_idx hfr).mp h i (by omega))
    exact ef ▸ k ps H ht hL
  · have ef : failedA rs = false := (any_idx hfr).mpr fun i hi => hf i (by omega)
    exact ef ▸ k ps H ht hL
theorem mem_noT {Z2 Z L : Lg} {a PE PG : Addr} {xs : List V} {e g : Array Value} (h : (a, HO.tup xs) ∈ Z2 ++ ((PE, HO.tbl e) :: (PG, HO.tbl g) :: (Z ++ L))) : (a, HO.tup xs) ∈ (Z2 ++ Z) ++ L := by
  rw [List.append_assoc]
  rcases List.mem_append.mp h with h | h
  · exact List.mem_append_left _ h
  · rcases List.mem_cons.mp h with h | h
    · cases h
    · rcases List.mem_cons.mp h with h | h
      · cases h
      · exact List.mem_append_right _ h
theorem unO_at {ns : List Str} {f i : Nat} {st : Str} (hi : ns[i]? = some st) (hif : i ≤ f) (hf : f < ns.length) : (unO ns f)[f - i]? = some st := by
  unfold unO
  have hin := (List.getElem?_eq_some_iff.mp hi).1
  have hlen : (ns.take (f + 1)).length = f + 1 := by rw [List.length_take]; omega
  rw [List.getElem?_reverse (by omega), hlen, show f + 1 - 1 - (f - i) = i by omega, List.getElem?_take, if_pos (by omega), hi]
theorem unO_nd {ns : List Str} {f : Nat} (h : ns.Nodup) : (unO ns f).Nodup := by
  unfold unO
  rw [List.Nodup, List.pairwise_reverse]
  exact List.Pairwise.imp (fun h => Ne.symm h) (h.sublist (List.take_sublist _ _))
/-- where go stands -/
def GoSt (CW CD PN PE PG : Addr) (A : FlA) (ns : List Str) (f : Nat) (S : FlS) (g1 g2 : Addr) (L : Lg) (cond : FlS → Lg → Prop) (σ : L2.St) (H : Hp) : Prop := ∃ (S1 : FlS) (t1 : Tb) (Z : Lg) (v3 v4 : Option V), σ = [some (.ref A.x), some (.ref g1), some (.ref g2), v3, v4] ∧ t1.Ok ∧ FlOk ns f S1 (Z ++ L) ∧ WOk ns.length f S1.j S1.d S1.u ∧ (qt ns f S → qt ns f S1) ∧
  Led H (tbL PN PE PG t1 ++ (flL CW CD A ns f S1 ++ (Z ++ L))) ∧ cond S1 Z
theorem scGo : FnScope ["self", "doer", "undoer", "row", "step"] ["self", "doer", "undoer"] (defScope sGo) := ⟨rfl, rfl, rfl, by decide +kernel, rfl, by decide +kernel, by decide +kernel⟩
theorem ok_go {f c : Addr} {oc dV : Value} {od : Option Addr} {osl : Array (Option Value)} {kV doc pm ct : Value} {an : Option Addr}
    (lk : K.lookup f = some ⟨oc, od, .func (PySem.W.fnOf "go" "Workflow.go" (defArgs sGo) (defBody sGo) (defScope sGo) dV kV doc pm an (.ref c) ct), osl⟩) (hcd : PySem.W.codeIn K (.ref c) "Workflow.go" = true) (TB : GxR.TabB base mg c PG) (X : TxtWf K CW) (T : TxtN K mg WD)
    (c_Workflow_state_of : Met P w K mg base 1 CW "state_of" (spSof CW) []) (c_Workflow_note : MetX P w K mg base 10 CW "note" (spNote CW CD CE PN) []) (c_Workflow_end : Met P w K mg base 6 CW "end" (spEnd CW PE) [])
    (F1 F2 : NF) (ws1 ws2 : List (Option V)) (c_Workflow_do : ∀ _ : Unit, MetS P w K mg base 11 CW "do" (gTold F1 NLd ws1) (spDo P w K mg base CW CD CE PN F1 ws1)) {fdo : Addr} (hm_Workflow_do : Meth K CW "do" fdo) :
    FnOkS P w K mg base 12 f (PySem.W.fnOf "go" "Workflow.go" (defArgs sGo) (defBody sGo) (defScope sGo) dV kV doc pm an (.ref c) ct) ["self", "doer", "undoer"] (fun o h H => CellsO F1.cl NLd ws1 o h H ∧ CellsO F2.cl NLu ws2 o h H) (spGo P w K mg base CW CD CE PN PE PG F1 F2 ws1 ws2) := by
  refine fn_okT lk hcd scGo (fun vs H Q E h => ?_) fun Ar outer s H vs Q E hr g h => ?_
  · obtain ⟨A, ns, f, S, g1, g2, b1, b2, t, L, rfl, _⟩ := h
    rfl
  · obtain ⟨A, ns, f, S, g1, g2, b1, b2, t, L, rfl, hn, hL, ok, ht, hw, hl1, hl2, hws1, hws2, k1, k2⟩ := h
    obtain ⟨C_doer, C_undoer⟩ := g
    have L_undoer := hl2.l
    have hc_Workflow := X.cl
    have c1 := X.cl
    have f2 := X.n "steps" (by decide +kernel)
    have f3 := X.n "rows" (by decide +kernel)
    have hu_Workflow_do : ∀ g, Meth K CW "do" g → g = fdo := fun g h => hm_Workflow_do.uniq h
    replace hr : Room 11 _ := hr
    have hr1 : Room (0 + 1) _ := hr.mono (by omega)
    have hr4 : Room (0 + 1 + 3) _ := hr.mono (by omega)
    refine ⟨_, (C8.pss_cut (ps_if (pt_not (pt_val (Gx.pe_anyG (Gx.pgen_gxb (own := [("row", 3)]) (g := gName 3) hr1 TB rfl scGo.nd (pi_list (pe_fld (pv 0) rfl)) (Gx.gxOk_by (own := [("row", 3)]) (N := ["self", "doer", "undoer", "row", "step"]) (sc := (defScope sGo)) (by decide +kernel)) (fun _ _ _ _ _ _ _ _ _ => (pg_name (i := 3) scGo.nd rfl (Or.inl rfl))) (fun _ _ _ _ _ _ _ _ hr => pts_nil) (fun _ _ _ _ _ _ _ _ hr => (pe_cmpR op_eq (pe_ix ix_tupG (pv 3) pe_int (fun _ _ => rfl)) pe_str (nomark _))) (fun _ => rfl)) hr4 (by rfl) T.any)))
  (pss_one (ps_for (passes_of rfl) rfl (pi_tup (pe_fld (pv 0) rfl)) (pg_name (i := 4) scGo.nd rfl (Or.inl rfl))
  (pss_one (ps_if (PW.pt (pw_and (pt_cmpR op_ne (pe_mt c_Workflow_state_of hr (by decide) (pv 0) (pa_cons (pv 4) pa_nil)) pe_str (nomark _)) (pw_and1 (pt_not (pt_val (pe_mtS (R := fun _ _ => True) c_Workflow_do hr (by decide) (fun _ _ _ _ _ I _ => C_doer.st rfl I) (takes_of rfl rfl rfl (E := E) rfl) hc_Workflow hm_Workflow_do (pv 0) (pa_cons (pv 4) (pa_cons (pv 1) pa_nil)) hu_Workflow_do))))))
  (pss_one ps_break)
  pss_nil))))
  pss_nil)
  (C8.pss_cut (ps_if (pt_val (Gx.pe_anyG (Gx.pgen_gxb (own := [("row", 3)]) (g := gName 3) hr1 TB rfl scGo.nd (pi_list (pe_fld (pv 0) rfl)) (Gx.gxOk_by (own := [("row", 3)]) (N := ["self", "doer", "undoer", "row", "step"]) (sc := (defScope sGo)) (by decide +kernel)) (fun _ _ _ _ _ _ _ _ _ => (pg_name (i := 3) scGo.nd rfl (Or.inl rfl))) (fun _ _ _ _ _ _ _ _ hr => pts_nil) (fun _ _ _ _ _ _ _ _ hr => (pe_cmpR op_eq (pe_ix ix_tupG (pv 3) pe_int (fun _ _ => rfl)) pe_str (nomark _))) (fun _ => rfl)) hr4 (by rfl) T.any))
  (pss_one (ps_for (passes_of rfl) rfl (pi_tup (pe_rev rv_tuple (pe_fld (pv 0) rfl) (pe_un un_neg pe_int))) (pg_name (i := 4) scGo.nd rfl (Or.inl rfl))
  (pss_one (ps_if (pt_cmpR op_notIn_seq (pe_mt c_Workflow_state_of hr (by decide) (pv 0) (pa_cons (pv 4) pa_nil)) (pe_tup (pa_cons pe_non (pa_cons pe_str pa_nil))) (by rfl))
  (pss_cons (ps_expr (pe_lamS (i := 2) (takes_of rfl rfl rfl (E := E) rfl) (hr.mono (by decide)) rfl (Or.inl rfl) C_undoer rfl L_undoer (pa_cons (pv 4) pa_nil)))
  (pss_one (ps_expr (pe_mtX c_Workflow_note hr (by decide) (takes_of rfl rfl rfl (E := E) rfl) (pv 0) (pa_cons pe_str (pa_cons (pv 4) pa_nil))))))
  pss_nil))))
  pss_nil)
  (pss_one (ps_ret (pe_mt0 c_Workflow_end hr (by decide) (pv 0)))))), ?_⟩
    have hns : ns.length ≤ 6 := hn.z
    have hnp := hn.pos
    have hnf := hn.f
    refine ⟨fun σ' H' => Hold (GoSt CW CD PN PE PG A ns f S g1 g2 L (fun S1 _ => (f = ns.length → S1.j = 2 * ns.length) ∧ (f < ns.length → 2 * f + 2 ≤ S1.j)) σ' H'), ?_, fun σ' H' h => ?_⟩
    · have hL1 : Led H ((PG, .tbl t.g) :: ((PN, .tbl t.n) :: (PE, .tbl t.e) :: (flL CW CD A ns f S ++ L))) := by unfold tbL at hL; fail "pm"
      dsimp only [tIfS, tNot, tB]
      refine k_anyF X hL1 ht.g (.tail _ (.tail _ (List.mem_append_left _ (.head _)))) (.tail _ (.tail _ (List.mem_append_left _ (.tail _ (.tail _ (.head _)))))) (ok.rv.mono fun a h => .tail _ (.tail _ (List.mem_append_right _ h))) fun pg H htg hL => ?_
      have hA : Led H (tbL PN PE PG { t with g := pg } ++ (flL CW CD A ns f S ++ L)) := by unfold tbL; dsimp only; fail "pm"
      clear hL hL1
      have hL := hA
      clear hA
      rw [hn.failE ok.j]
      refine ⟨_, rfl, ?_⟩
      by_cases hfa : f < ns.length ∧ 2 * f + 2 ≤ S.j
      · rw [show (decide (f < ns.length) && decide (2 * f + 2 ≤ S.j)) = true by simp [hfa.1, hfa.2]]
        refine iteF ?_
        exact .mk ⟨S, { t with g := pg }, [], _, _, rfl, ⟨ht.n, ht.e, htg⟩, ok, hw, fun h => h, hL, fun e => by omega, fun _ => hfa.2⟩
      · rw [show (decide (f < ns.length) && decide (2 * f + 2 ≤ S.j)) = false by rw [Bool.eq_false_iff]; intro z; rw [Bool.and_eq_true, decide_eq_true_eq, decide_eq_true_eq] at z; exact hfa z]
        refine iteT ?_
        fail "go"
        refine ⟨⟨_, .of (hL.at ⟨4, rfl⟩)⟩, ?_⟩
        refine for_tupA (xs := ns.map .str) (fun i σ' H' => Hold (GoSt CW CD PN PE PG A ns f S g1 g2 L (fun S1 _ => i ≤ f ∧ 2 * i ≤ S1.j ∧ (f = ns.length ∨ S1.j ≤ 2 * f + 1)) σ' H')) ?_ (fun i σ H _ h => ?_) (fun i v σ H D1 hi h hN => ?_) (fun σ H h => ?_)
        · exact .mk ⟨S, { t with g := pg }, [], _, _, rfl, ⟨ht.n, ht.e, htg⟩, ok, hw, fun h => h, hL, Nat.zero_le _, Nat.zero_le _, by omega⟩
        · obtain ⟨S1, t1, Z, v3, v4, rfl, ht1, ok1, hw1, hc1, hL, _⟩ := h.out
          exact .of (hL.at ⟨4, rfl⟩)
        · clear hL
          obtain ⟨S1, t1, Z, v3, v4, rfl, ht1, ok1, hw1, hc1, hL, hif, hij, hjf⟩ := h.out
          clear h
          rw [List.getElem?_map] at hi
          obtain ⟨st, hst, rfl⟩ := Option.map_eq_some_iff.mp hi
          clear hi
          have hin := (List.getElem?_eq_some_iff.mp hst).1
          refine (show gName 4 _ _ _ _ from ?_)
          have hA : Led H (wfL CW A.x A.dx A.D A.T A.R ns S1.rvs ++ (tbL PN PE PG t1 ++ (dkL CD A.D A.dd S1.K S1.W A.F S1.dk ++ (woL A.w0 S1.Dn S1.Un (ns.take S1.d) ((unO ns f).take S1.u) ++ (Z ++ L))))) := by unfold flL at hL; fail "pm"
          fail "go"
          refine ⟨A.x, A.dx, A.D, A.T, A.R, ns, S1.rvs, (RWs ns f).take S1.j, st, _, rfl, hA, ok1.rv.mono (fun a h => List.mem_append_right _ (List.mem_append_right _ (List.mem_append_right _ h))), hn.rsz, fun H hL => ?_⟩
          have hB : Led H (tbL PN PE PG t1 ++ (flL CW CD A ns f S1 ++ (Z ++ L))) := by unfold flL; fail "pm"
          clear hL hA
          have hL := hB
          clear hB
          rw [hn.st ok1.j hst, (hn.fct ok1.j).st1 i hin hif hij hjf]
          refine ⟨scal_stV, ?_⟩
          rw [stV_str]
          refine ⟨_, rfl, ?_⟩
          by_cases hj2 : 2 * i + 2 ≤ S1.j
          · rw [if_neg (by omega), if_neg (by omega)]
            rw [show (!decide (Option.map wdS (some 1) = some ("done" : Str))) = false by decide +kernel]
            refine iteF ?_
            refine iteF ?_
            exact hN.nx _ _ (.mk ⟨S1, t1, Z, _, _, rfl, ht1, ok1, hw1, hc1, hL, by omega, by omega, hjf⟩)
          · have hlt : S1.j < lenN ns.length f := by unfold lenN; split <;> omega
            have e1 : (!decide (Option.map wdS (if S1.j = 2 * i then none else if S1.j = 2 * i + 1 then some 0 else some 1) = some ("done" : Str))) = true := by
              rcases (show S1.j = 2 * i ∨ S1.j = 2 * i + 1 by omega) with e | e
              · rw [if_pos e]; rfl
              · rw [if_neg (by omega), if_pos e]; decide +kernel
            rw [e1]
            refine iteT ?_
            fail "go"
            dsimp only [tNil, List.cons_append, List.nil_append]
            refine ⟨(), True.intro, ?_⟩
            refine ⟨A, ns, f, S1, i, st, g1, b1, t1.n, (PE, .tbl t1.e) :: (PG, .tbl t1.g) :: (Z ++ L), rfl, hn, by unfold tbL at hL; fail "pm", ok1.mono (fun a h => .tail _ (.tail _ h)), ht1.n, hw1, hst, hif, by omega, .tail _ (.tail _ (List.mem_append_right _ hl1.m)), hl1.c.mono (fun a h => .tail _ (.tail _ (List.mem_append_right _ h))), hl1.l, hws1, fun S2 ps2 Z2 H ht2 ok2 hw2 hj3 hc2 hL => ?_, fun hc S2 ps2 Z2 H ht2 x2 hL => ?_⟩
            · have hB : Led H (tbL PN PE PG { t1 with n := ps2 } ++ (flL CW CD A ns f S2 ++ ((Z2 ++ Z) ++ L))) := by unfold tbL; dsimp only; fail "pm"
              have ok3 := ok2.monoT fun a xs h => mem_noT h
              refine ⟨_, rfl, ?_⟩
              by_cases e : i = f
              · rw [show decide (i ≠ f) = false by simp [e]]
                refine iteT ?_
                exact hN.bk _ _ (.mk ⟨S2, { t1 with n := ps2 }, Z2 ++ Z, _, _, rfl, ⟨ht2, ht1.e, ht1.g⟩, ok3, hw2, fun z => (hc1 z).elim (fun z => .inl (hc2 z)) fun z => absurd z (Nat.ne_of_lt hlt), hB, fun e => by omega, fun e => by omega⟩)
              · rw [show decide (i ≠ f) = true by simp [e]]
                refine iteF ?_
                exact hN.nx _ _ (.mk ⟨S2, { t1 with n := ps2 }, Z2 ++ Z, _, _, rfl, ⟨ht2, ht1.e, ht1.g⟩, ok3, hw2, fun z => (hc1 z).elim (fun z => .inl (hc2 z)) fun z => absurd z (Nat.ne_of_lt hlt), hB, by omega, by omega, by omega⟩)
            · exact k2 (fun z => (hc1 z).elim hc fun z => absurd z (Nat.ne_of_lt hlt)) S2 { t1 with n := ps2 } (Z2 ++ Z) H ⟨ht2, ht1.e, ht1.g⟩ x2 (by unfold tbL; dsimp only; fail "pm")
        · obtain ⟨S1, t1, Z, v3, v4, rfl, ht1, ok1, hw1, hc1, hL, hif, hij, hjf⟩ := h.out
          rw [List.length_map] at hif hij
          exact .mk ⟨S1, t1, Z, _, _, rfl, ht1, ok1, hw1, hc1, hL, fun e => by have := ok1.j; unfold lenN at this; rw [if_neg (by omega)] at this; omega, fun e => by omega⟩
    · clear hL ok ht hw
      refine ⟨fun σ' H' => Hold (GoSt CW CD PN PE PG A ns f S g1 g2 L (fun S1 _ => S1.j = lenN ns.length f) σ' H'), ?_, fun σ' H' h => ?_⟩
      · obtain ⟨S1, t1, Z, v3, v4, rfl, ht1, ok1, hw1, hc1, hL, hja, hjb⟩ := h.out
        clear h
        have hL1 : Led H' ((PG, .tbl t1.g) :: ((PN, .tbl t1.n) :: (PE, .tbl t1.e) :: (flL CW CD A ns f S1 ++ (Z ++ L)))) := by unfold tbL at hL; fail "pm"
        dsimp only [tIfS, tB]
        refine k_anyF X hL1 ht1.g (.tail _ (.tail _ (List.mem_append_left _ (.head _)))) (.tail _ (.tail _ (List.mem_append_left _ (.tail _ (.tail _ (.head _)))))) (ok1.rv.mono fun a h => .tail _ (.tail _ (List.mem_append_right _ h))) fun pg H htg hL => ?_
        have hA : Led H (tbL PN PE PG { t1 with g := pg } ++ (flL CW CD A ns f S1 ++ (Z ++ L))) := by unfold tbL; dsimp only; fail "pm"
        clear hL hL1
        have hL := hA
        clear hA
        have ht1 : Tb.Ok { t1 with g := pg } := ⟨ht1.n, ht1.e, htg⟩
        generalize ({ t1 with g := pg } : Tb) = t1 at hL ht1
        rw [hn.failE ok1.j]
        refine ⟨_, rfl, ?_⟩
        by_cases hfn : f < ns.length
        · have hj1 := hjb hfn
          rw [show (decide (f < ns.length) && decide (2 * f + 2 ≤ S1.j)) = true by simp [hfn, hj1]]
          refine iteT ?_
          fail "go"
          refine ⟨A.T, ns.map .str, rfl, .of (hL.at ⟨4, rfl⟩), fun p hp => ?_⟩
          generalize hH : upd H p _ = H
          replace hL := Led.newH hL hp hH
          clear hH hp
          rw [← List.map_reverse] at hL
          have hA : Led H (tbL PN PE PG t1 ++ (flL CW CD A ns f S1 ++ (((p, HO.tup (ns.reverse.map V.str)) :: Z) ++ L))) := by unfold tbL at hL ⊢; fail "pm"
          clear hL
          have hL := hA
          clear hA
          refine ⟨_, rfl, ⟨_, .of (hL.mem (List.mem_append_right _ (List.mem_append_right _ (.head _))))⟩, ?_⟩
          refine for_tupA (xs := ns.reverse.map .str) (fun i σ' H' => Hold (GoSt CW CD PN PE PG A ns f S g1 g2 L (fun S1 Z => 2 * f + 2 ≤ S1.j ∧ 3 * f + 3 ≤ S1.j + (ns.length - i) ∧ (p, HO.tup (ns.reverse.map V.str)) ∈ Z) σ' H')) ?_ (fun i σ H _ h => ?_) (fun i v σ H D1 hi h hN => ?_) (fun σ H h => ?_)
          · exact .mk ⟨S1, t1, _, _, _, rfl, ht1, ok1.mono (fun a h => .tail _ h), hw1, hc1, hL, hj1, by omega, .head _⟩
          · obtain ⟨S1, t1, Z, v3, v4, rfl, ht1, ok1, hw1, hc1, hL, _, _, hm⟩ := h.out
            exact .of (hL.mem (List.mem_append_right _ (List.mem_append_right _ (List.mem_append_left _ hm))))
          · clear hL ht1 ok1 hw1 hc1 hj1 hja hjb
            obtain ⟨S1, t1, Z, v3, v4, rfl, ht1, ok1, hw1, hc1, hL, hj1, hj2, hm⟩ := h.out
            clear h
            rw [List.getElem?_map] at hi
            obtain ⟨st, hst, rfl⟩ := Option.map_eq_some_iff.mp hi
            clear hi
            have hin : i < ns.length := by
              have := (List.getElem?_eq_some_iff.mp hst).1
              rwa [List.length_reverse] at this
            rw [List.getElem?_reverse hin] at hst
            obtain ⟨m, hm0⟩ : ∃ m, m = ns.length - 1 - i := ⟨_, rfl⟩
            rw [← hm0] at hst
            have hmn : m < ns.length := by omega
            refine (show gName 4 _ _ _ _ from ?_)
            have hA : Led H (wfL CW A.x A.dx A.D A.T A.R ns S1.rvs ++ (tbL PN PE PG t1 ++ (dkL CD A.D A.dd S1.K S1.W A.F S1.dk ++ (woL A.w0 S1.Dn S1.Un (ns.take S1.d) ((unO ns f).take S1.u) ++ (Z ++ L))))) := by unfold flL at hL; fail "pm"
            fail "go"
            refine ⟨A.x, A.dx, A.D, A.T, A.R, ns, S1.rvs, (RWs ns f).take S1.j, st, _, rfl, hA, ok1.rv.mono (fun a h => List.mem_append_right _ (List.mem_append_right _ (List.mem_append_right _ h))), hn.rsz, fun H hL => ?_⟩
            have hB : Led H (tbL PN PE PG t1 ++ (flL CW CD A ns f S1 ++ (Z ++ L))) := by unfold flL; fail "pm"
            clear hL hA
            have hL := hB
            clear hB
            have Ft := hn.fct ok1.j
            rw [hn.st ok1.j hst, Ft.st2 m hmn hfn hj1]
            fail "go"
            refine ⟨_, _, rfl, .inr (.of (hL.at ⟨0, rfl⟩)), flat_stV, rfl, ?_⟩
            replace hL := hL.tail
            rw [inV_st, if_pos rfl]
            refine ⟨_, rfl, ?_⟩
            by_cases hdo : m ≤ f ∧ S1.j + m < 3 * f + 3
            · obtain ⟨u1, u2, u3, u4, u5⟩ := Ft.u m hmn hfn hdo.1
              have hje : S1.j = 3 * f + 2 - m := by omega
              have hje1 : S1.j + 1 = 3 * f + 3 - m := by omega
              have hlt : S1.j < lenN ns.length f := by unfold lenN; rw [if_pos hfn]; omega
              rw [if_neg (show ¬ f < m by omega), if_neg (show ¬ 3 * f + 3 ≤ S1.j + m by omega)]
              rw [show (!decide (Option.map wdS (if m = f then some 2 else some 1) = none ∨ Option.map wdS (if m = f then some 2 else some 1) = some ("undone" : Str))) = true by by_cases e : m = f <;> simp only [e, if_true, if_false] <;> decide +kernel]
              refine iteT ?_
              have hm2 := hL.mem (List.mem_append_right _ (List.mem_append_right _ (List.mem_append_right _ hl2.m)))
              have hcd2 : CdAt P w H F2.c F2.qual := hl2.c.at hL fun a h => List.mem_append_right _ (List.mem_append_right _ (List.mem_append_right _ h))
              fail "go"
              refine ⟨st, A.w0, rfl, hws2, ?_⟩
              refine ⟨A.w0, S1.Dn, S1.Un, ns.take S1.d, (unO ns f).take S1.u, st, tbL PN PE PG t1 ++ (wfL CW A.x A.dx A.D A.T A.R ns S1.rvs ++ (dkL CD A.D A.dd S1.K S1.W A.F S1.dk ++ (Z ++ L))), rfl, by unfold flL at hL; fail "pm", by unfold unO; rw [List.length_take, List.length_reverse, List.length_take]; omega, fun Un' H hL => ?_⟩
              have hu0 : S1.u = f - m ∨ S1.u = f - m + 1 := by
                have := hw1.u
                rw [hje1, hje] at this
                omega
              have hd0 : S1.d = f := by
                have := hw1.d
                rw [hje1, hje] at this
                omega
              rw [addS_take (unO_nd hn.nd) (unO_at hst hdo.1 hfn) hu0] at hL
              have hB : Led H ((PN, .tbl t1.n) :: (flL CW CD A ns f { S1 with Un := Un', u := f - m + 1 } ++ ((PE, .tbl t1.e) :: (PG, .tbl t1.g) :: (Z ++ L)))) := by unfold tbL at hL; unfold flL; dsimp only; fail "pm"
              clear hL hm2 hcd2
              have hL := hB
              clear hB
              fail "go"
              dsimp only [tNil, List.cons_append, List.nil_append]
              refine k_note hn hL ⟨(ok1.rv.mono fun a h => .tail _ (.tail _ h)), ok1.kb, ok1.wb, ok1.fs, ok1.j⟩ ht1.n (hn.row (j := S1.j) (k := 3) (by rw [hje]; exact u1) hst) ⟨by dsimp only; rw [hje1, u5, hd0], by dsimp only; rw [hje1, u3]⟩ (fun S' ps' a H' ht' ok' e1 e2 e3 e4 hL => ?_) fun hc S' ps' H' ht' x' hL => k2 (fun z => (hc1 z).elim hc fun z => absurd z (Nat.ne_of_lt hlt)) S' { t1 with n := ps' } Z H' ⟨ht', ht1.e, ht1.g⟩ x' (by unfold tbL; dsimp only; fail "pm")
              dsimp only at e1 e2 e3 e4
              have hB : Led H' (tbL PN PE PG { t1 with n := ps' } ++ (flL CW CD A ns f S' ++ (((a, HO.tup [.str "undone", .str st]) :: Z) ++ L))) := by unfold tbL; dsimp only; fail "pm"
              refine hN.nx _ _ (.mk ⟨S', { t1 with n := ps' }, (a, HO.tup [.str "undone", .str st]) :: Z, _, _, rfl, ⟨ht', ht1.e, ht1.g⟩, ok'.monoT fun a xs h => mem_noT (Z2 := [_]) h, ⟨.inl ?_, .inl ?_⟩, fun z => (hc1 z).elim (fun z => .inl (e4 z)) fun z => absurd z (Nat.ne_of_lt hlt), hB, by omega, by omega, .tail _ hm⟩)
              · rw [e1, e2, hje1, u5, hd0]
              · rw [e1, e3, hje1, u3]
            · rw [show (!decide (Option.map wdS (if f < m then none else if 3 * f + 3 ≤ S1.j + m then some 3 else if m = f then some 2 else some 1) = none ∨ Option.map wdS (if f < m then none else if 3 * f + 3 ≤ S1.j + m then some 3 else if m = f then some 2 else some 1) = some ("undone" : Str))) = false by
                by_cases e : f < m
                · rw [if_pos e]; decide +kernel
                · rw [if_neg e, if_pos (by omega)]; decide +kernel]
              refine iteF ?_
              exact hN.nx _ _ (.mk ⟨S1, t1, Z, _, _, rfl, ht1, ok1, hw1, hc1, hL, hj1, by omega, hm⟩)
          · obtain ⟨S1, t1, Z, v3, v4, rfl, ht1, ok1, hw1, hc1, hL, hj1, hj2, hm⟩ := h.out
            rw [List.length_map, List.length_reverse] at hj2
            exact .mk ⟨S1, t1, Z, _, _, rfl, ht1, ok1, hw1, hc1, hL, by have := ok1.j; unfold lenN at this ⊢; rw [if_pos hfn] at this ⊢; omega⟩
        · rw [show (decide (f < ns.length) && decide (2 * f + 2 ≤ S1.j)) = false by simp [hfn]]
          refine iteF ?_
          have e : f = ns.length := by omega
          exact .mk ⟨S1, t1, Z, _, _, rfl, ht1, ok1, hw1, hc1, hL, by unfold lenN; rw [if_neg hfn]; exact hja e⟩
      · obtain ⟨S1, t1, Z, v3, v4, rfl, ht1, ok1, hw1, hc1, hL, hj⟩ := h.out
        clear h
        have hA : Led H' ((PE, .tbl t1.e) :: (wfL CW A.x A.dx A.D A.T A.R ns S1.rvs ++ ((PN, .tbl t1.n) :: (PG, .tbl t1.g) :: (dkL CD A.D A.dd S1.K S1.W A.F S1.dk ++ (woL A.w0 S1.Dn S1.Un (ns.take S1.d) ((unO ns f).take S1.u) ++ (Z ++ L)))))) := by unfold tbL flL at hL; fail "pm"
        fail "go"
        refine ⟨A.x, A.dx, A.D, A.T, A.R, ns, S1.rvs, (RWs ns f).take S1.j, t1.e, _, rfl, hA, ht1.e, ok1.rv.mono (fun a h => .tail _ (.tail _ (List.mem_append_right _ (List.mem_append_right _ h)))), hn.rsz, by omega, fun pe H hte hL => ?_⟩
        rw [hn.endE ok1.j]
        have e1 : stV ((endN ns.length f S1.j).map wdS) = .str (endW ns f) := by
          unfold endN endW
          rw [hj]
          unfold lenN
          by_cases q : f < ns.length
          · rw [if_pos q, if_neg (by omega), if_pos ⟨q, rfl⟩, if_pos q]; rfl
          · rw [if_neg q, if_pos ⟨by omega, rfl⟩, if_neg q]; rfl
        rw [e1]
        exact k1 S1 { t1 with e := pe } Z H ⟨ht1.n, hte, ht1.g⟩ ok1 hw1 hj hc1 (by unfold tbL flL; dsimp only; fail "pm")
end
end Sd


set_option linter.unusedVariables false
namespace Sd
open PySem L2 LamX NdefX PyProof.Rows
open C8 (Cal Met Mak pe_c pe_mk pe_mt pe_mt0 pss_cut tCut)
set_option linter.unusedSimpArgs false
set_option pp.deepTerms false
set_option pp.deepTerms.threshold 12
set_option hygiene false
local macro_rules | `(tactic| fail "nd") => `(tactic| first | assumption | decide +kernel)
local macro_rules | `(tactic| fail "ix") => `(tactic| first | exact ⟨0, rfl⟩ | exact ⟨1, rfl⟩ | exact ⟨2, rfl⟩ | exact ⟨3, rfl⟩ | exact ⟨4, rfl⟩ | exact ⟨5, rfl⟩ | exact ⟨6, rfl⟩ | exact ⟨7, rfl⟩ | exact ⟨8, rfl⟩ | exact ⟨9, rfl⟩ | exact ⟨10, rfl⟩ | exact ⟨11, rfl⟩ | exact ⟨12, rfl⟩ | exact ⟨13, rfl⟩ | exact ⟨14, rfl⟩ | exact ⟨15, rfl⟩ | exact ⟨16, rfl⟩ | exact ⟨17, rfl⟩ | exact ⟨18, rfl⟩ | assumption)
local macro_rules | `(tactic| fail "up") => `(tactic| first | exact ⟨0, rfl, rfl⟩ | exact ⟨1, rfl, rfl⟩ | exact ⟨2, rfl, rfl⟩ | exact ⟨3, rfl, rfl⟩ | exact ⟨4, rfl, rfl⟩ | exact ⟨5, rfl, rfl⟩ | exact ⟨6, rfl, rfl⟩ | exact ⟨7, rfl, rfl⟩ | exact ⟨8, rfl, rfl⟩ | exact ⟨9, rfl, rfl⟩ | exact ⟨10, rfl, rfl⟩ | exact ⟨11, rfl, rfl⟩ | exact ⟨12, rfl, rfl⟩ | exact ⟨13, rfl, rfl⟩ | exact ⟨14, rfl, rfl⟩ | exact ⟨15, rfl, rfl⟩ | exact ⟨16, rfl, rfl⟩ | assumption)
local macro_rules | `(tactic| fail "lkF") => `(tactic| first | assumption | exact fz_at 0 (by fail "nd") rfl rfl | exact fz_at 1 (by fail "nd") rfl rfl | exact fz_at 2 (by fail "nd") rfl rfl | exact fz_at 3 (by fail "nd") rfl rfl | exact fz_at 4 (by fail "nd") rfl rfl | exact fz_at 5 (by fail "nd") rfl rfl | exact fz_at 6 (by fail "nd") rfl rfl | exact fz_at 7 (by fail "nd") rfl rfl)
local macro_rules | `(tactic| fail "lkD") => `(tactic| first | assumption | exact dz_at 0 (by fail "nd") rfl rfl | exact dz_at 1 (by fail "nd") rfl rfl | exact dz_at 2 (by fail "nd") rfl rfl | exact dz_at 3 (by fail "nd") rfl rfl | exact dz_at 4 (by fail "nd") rfl rfl)
local macro_rules | `(tactic| fail "ptF") => `(tactic| first | assumption | exact fz_put 0 (by fail "nd") rfl (Nat.le_of_ble_eq_true rfl) | exact fz_put 1 (by fail "nd") rfl (Nat.le_of_ble_eq_true rfl) | exact fz_put 2 (by fail "nd") rfl (Nat.le_of_ble_eq_true rfl) | exact fz_put 3 (by fail "nd") rfl (Nat.le_of_ble_eq_true rfl) | exact fz_put 4 (by fail "nd") rfl (Nat.le_of_ble_eq_true rfl) | exact fz_put 5 (by fail "nd") rfl (Nat.le_of_ble_eq_true rfl) | exact fz_put 6 (by fail "nd") rfl (Nat.le_of_ble_eq_true rfl) | exact fz_put 7 (by fail "nd") rfl (Nat.le_of_ble_eq_true rfl) | exact fz_new (by decide +kernel) rfl)
local macro_rules | `(tactic| fail "ptD") => `(tactic| first | assumption | exact dz_put 0 (by fail "nd") rfl (Nat.le_of_ble_eq_true rfl) | exact dz_put 1 (by fail "nd") rfl (Nat.le_of_ble_eq_true rfl) | exact dz_put 2 (by fail "nd") rfl (Nat.le_of_ble_eq_true rfl) | exact dz_put 3 (by fail "nd") rfl (Nat.le_of_ble_eq_true rfl) | exact dz_put 4 (by fail "nd") rfl (Nat.le_of_ble_eq_true rfl))
local macro_rules | `(tactic| fail "sz") => `(tactic| first | assumption | exact (Nat.le_of_ble_eq_true rfl) | omega | decide)
local macro_rules | `(tactic| fail "sd") => `(tactic| first | rfl | assumption | decide | omega | (dsimp only; first | decide | omega) | exact .inr ⟨by decide, by decide⟩ | exact .inl ⟨by decide, by decide⟩ | exact ⟨by omega, by omega⟩ | exact .inl ⟨by omega, by omega⟩ | exact .inr ⟨by omega, by omega⟩ | exact ⟨by omega, by omega, by omega⟩)
local macro_rules | `(tactic| fail "cl") => `(tactic| (clear hH; dsimp only [List.set, List.cons_append, List.nil_append, List.append] at hL))
local macro_rules | `(tactic| fail "gn") => `(tactic| (intro p hp; generalize hH : upd H p _ = H; replace hL := Led.newH hL hp hH; clear hH hp))
local macro_rules | `(tactic| fail "gup") => `(tactic| (generalize hH : upd H _ _ = H; replace hL := Led.upU hL (by fail "up") hH; fail "cl"))
local macro_rules | `(tactic| fail "gmk") => `(tactic| (intro x dx hx hd ne; generalize hH : upd (upd H dx _) x _ = H; replace hL := Led.made hL hx hd ne hH; clear hH hx hd ne))
local macro_rules | `(tactic| fail "v") => `(tactic| refine ⟨_, rfl, ?_⟩)
local macro_rules | `(tactic| fail "i2") => `(tactic| refine ⟨_, _, rfl, rfl, ?_⟩)
local macro_rules | `(tactic| fail "go1") => `(tactic| first
  | refine ⟨_, rfl, ?_⟩
  | refine ⟨_, _, rfl, rfl, ?_⟩
  | refine ⟨_, _, rfl, ?_⟩
  | refine iteT ?_
  | refine iteF ?_
  | refine k_fld hL (by fail "ix") (by assumption) (by assumption) (by fail "lkF") ?_
  | refine k_dgetS hL (by fail "ix") (by fail "lkD") ?_
  | refine k_dgetI hL (by fail "ix") (by assumption) ?_
  | refine k_ixL hL (by fail "ix") (by first | rfl | assumption) ?_
  | refine k_ixT hL (by fail "ix") (by first | rfl | assumption) ?_
  | refine k_tyL hL (by fail "ix") ?_
  | refine k_isd hL (by fail "ix") ?_
  | (refine And.intro (by fail "sz") ?_; fail "gn")
  | refine And.intro (by fail "sd") ?_
  | fail "gn"
  | refine k_meth hL (by fail "ix") (by first | assumption | exact fz_no (by decide +kernel)) ?_
  | refine k_gtup hL (by fail "ix") rfl ?_
  | (refine k_popI hL (by fail "ix") (by assumption) ?_; fail "gup")
  | (refine k_listD hL (by fail "ix") ?_; fail "gn")
  | (refine ⟨_, _, _, _, rfl, rfl, hL.at (by fail "ix"), rfl, ?_⟩; fail "gup")
  | (refine ⟨_, _, _, rfl, rfl, hL.at (by fail "ix"), (by fail "sz"), ?_⟩; fail "gup")
  | (refine ⟨_, _, _, _, rfl, hL.at (by fail "ix"), by assumption, by assumption, Nat.lt_of_le_of_lt fz_len (by decide), ?_⟩; generalize hH : upd H _ _ = H; replace hL := Led.upF hL (by fail "up") (by fail "ptF") hH; fail "cl")
  | (refine ⟨_, _, hL.at (by fail "ix"), Nat.lt_of_le_of_lt fz_len (by decide), ?_⟩; generalize hH : upd H _ _ = H; replace hL := Led.upF hL (by fail "up") (by fail "ptF") hH; fail "cl")
  | (refine k_dputS hL (by fail "ix") (Nat.lt_of_le_of_lt dz_len (by decide)) (by fail "ptD") (by fail "up") ?_; clear hL; intro H hL; dsimp only [List.set, List.cons_append, List.nil_append, List.append] at hL)
  | refine k_lenL2 hL (by fail "ix") ?_
  | refine k_lenT2 hL (by fail "ix") ?_
  | refine .inl ⟨_, rfl, ?_⟩
  | refine .inr ⟨_, rfl, ?_⟩)
local macro_rules | `(tactic| fail "go") => `(tactic| repeat fail "go1")
local macro_rules | `(tactic| fail "pm") => `(tactic| (refine Led.le hL (fun a_ => ?_); simp only [cnt_nil, cnt_cons, cnt_app, List.map_append, List.map_cons, List.map_nil, List.flatMap_append, List.flatMap_cons, List.flatMap_nil, List.append_assoc, List.cons_append, List.nil_append]; omega))

/-- names, each once -/
def dd (ns : List Str) : List Str := ns.foldl addS []
theorem dd_snoc {ns : List Str} {s : Str} : dd (ns ++ [s]) = addS (dd ns) s := by unfold dd; rw [List.foldl_append]; rfl
theorem mem_addS {l : List Str} {s x : Str} : x ∈ addS l s ↔ x ∈ l ∨ x = s := by
  unfold addS
  by_cases h : s ∈ l
  · rw [if_pos h]
    constructor
    · exact .inl
    · rintro (z | rfl)
      · exact z
      · exact h
  · rw [if_neg h, List.mem_append, List.mem_singleton]
theorem dd_facts (ns : List Str) : (∀ x, x ∈ dd ns ↔ x ∈ ns) ∧ (dd ns).Nodup ∧ (dd ns).length ≤ ns.length ∧ ((dd ns).length = ns.length ↔ ns.Nodup) := by
  have H : ∀ (r : List Str), (fun ns => (∀ x, x ∈ dd ns ↔ x ∈ ns) ∧ (dd ns).Nodup ∧ (dd ns).length ≤ ns.length ∧ ((dd ns).length = ns.length ↔ ns.Nodup)) r.reverse := by
    intro r
    induction r with
    | nil => refine ⟨fun x => by simp [dd], by simp [dd], by simp [dd], by simp [dd]⟩
    | cons s r ih =>
      obtain ⟨h1, h2, h3, h4⟩ := ih
      rw [List.reverse_cons]
      generalize r.reverse = ns at h1 h2 h3 h4
      show (∀ x, x ∈ dd (ns ++ [s]) ↔ x ∈ ns ++ [s]) ∧ (dd (ns ++ [s])).Nodup ∧ (dd (ns ++ [s])).length ≤ (ns ++ [s]).length ∧ ((dd (ns ++ [s])).length = (ns ++ [s]).length ↔ (ns ++ [s]).Nodup)
      rw [dd_snoc, List.length_append, List.length_singleton]
      refine ⟨fun x => by rw [mem_addS, h1, List.mem_append, List.mem_singleton], ?_⟩
      unfold addS
      by_cases h : s ∈ dd ns
      · rw [if_pos h]
        refine ⟨h2, by omega, ?_⟩
        constructor
        · intro z; omega
        · intro z
          have := (List.nodup_append.mp z).2.2 s ((h1 s).mp h) s (.head _)
          exact absurd rfl this
      · rw [if_neg h, List.length_append, List.length_singleton]
        refine ⟨?_, by omega, ?_⟩
        · rw [List.nodup_append]
          exact ⟨h2, by simp, fun a ha b hb z => by rw [List.mem_singleton] at hb; subst z; exact h (hb ▸ ha)⟩
        · rw [show ((dd ns).length + 1 = ns.length + 1) ↔ (dd ns).length = ns.length by omega, h4, List.nodup_append]
          constructor
          · intro z
            exact ⟨z, by simp, fun a ha b hb e => by rw [List.mem_singleton] at hb; subst e; exact h ((h1 s).mpr (hb ▸ ha))⟩
          · exact fun z => z.1
  have := H ns.reverse
  rwa [List.reverse_reverse] at this
def oneV (e : Str × Unit) : V := .bl true
def ddK (ns : List Str) : List (Str × Unit) := ns.map fun s => (s, ())
theorem ddK_put {ns : List Str} {s : Str} : aput (ddK ns) s () = ddK (addS ns s) := by
  unfold ddK
  induction ns with
  | nil => simp [aput, addS]
  | cons x r ih =>
    rw [List.map_cons, aput]
    by_cases e : x = s
    · subst e
      rw [if_pos rfl]
      unfold addS
      rw [if_pos (.head _), List.map_cons]
    · rw [if_neg e, ih]
      unfold addS
      by_cases h : s ∈ r
      · rw [if_pos h, if_pos (.tail _ h), List.map_cons]
      · rw [if_neg h, if_neg (fun z => by rcases List.mem_cons.mp z with z | z; exact e z.symm; exact h z)]; rfl
theorem ddK_keys {ns : List Str} : (ddK ns).map (·.1) = ns := by unfold ddK; rw [List.map_map]; exact (List.map_congr_left fun _ _ => rfl).trans (List.map_id _)
abbrev W4 : List Str := ["begun", "done", "failed", "undone"]
def rowG (ns : List Str) (r : Rw) : Bool := decide (r.1 ∈ W4) && decide (r.2 ∈ ns)
def goodW (ns : List Str) (rs : List Rw) : Bool := decide (ns ≠ []) && decide (ns.Nodup) && rs.all (rowG ns)
def spWInit (CW CD CQ PU PI : Addr) : Sp := fun vs H Q E => ∃ (x dx D dd' K W F l : Addr) (dk : DkS) (ns : List Str) (rs : List Rw) (tail : List Int) (pu pi : Array Value) (L : Lg), vs = [.ref x, .ref D, .ref l] ∧ Led H ((x, .ins CW dx (fz [] [])) :: (PU, .tbl pu) :: (PI, .tbl pi) :: (dkL CD D dd' K W F dk ++ L)) ∧
  TriplesOk pu.toList ∧ TriplesOk pi.toList ∧ (l, HO.lst (ns.map .str)) ∈ L ∧ ns.length ≤ 20 ∧ dk.kb ++ dk.wb = framesB (rs.map rD) ++ tail ∧ dk.kb.length + dk.wb.length ≤ sizeLine ∧ (∀ r ∈ rs, Pk 2 (rD r)) ∧ rs.length ≤ 100 ∧ Cut tail ∧
  (goodW ns rs = true → ∀ (T R : Addr) (rvs : List V) (Z : Lg) (pu' pi' : Array Value) H', TriplesOk pu'.toList → TriplesOk pi'.toList → DLs Z rvs (rs.map rD) → Led H' ((PU, .tbl pu') :: (PI, .tbl pi') :: (wfL CW x dx D T R ns rvs ++ (dkL CD D dd' K W F dk ++ (Z ++ L)))) → Q .non H') ∧
  (goodW ns rs = false → ∀ (pu' pi' : Array Value) H', TriplesOk pu'.toList → TriplesOk pi'.toList → Led H' ((PU, .tbl pu') :: (PI, .tbl pi') :: (dkL CD D dd' K W F dk ++ L)) → E (.ref CQ) none H')
theorem shal_tupS {ns : List Str} : Shal (.tuple (ns.map PyData.str)) := by
  have := shal_strs (ns := ns)
  exact ⟨by have := this.p; simpa [PyData.plain] using this, by have := this.d; simpa [PyData.depth] using this⟩
theorem eqv_tupS {a b : List Str} : PyData.eqv (.tuple (a.map PyData.str)) (.tuple (b.map PyData.str)) = decide (a = b) := by
  rw [PyData.eqv]; exact eqvAll_strs a b
theorem call_len_seqG {X : Cx} {A : Around} {s : Shared} {H : Hp} {env : Env} {fp : List Addr} {pn : List (Addr × Obj)} : CallR (Gx.gx X A s H env fp pn) (.builtin "len") (fun xs H Q => ∃ p ys, xs = [.ref p] ∧ (SqL X.K H p ys ∨ SqT X.K H p ys) ∧ Q (.int ys.length) H) := call_len_seq
section
variable {P : Program} {w : World} {K : PySem.W.Frag} {mg : Str → Option Value} {base : Heap} {CW CD CQ PU PI WD : Addr}
theorem scWInit : FnScope ["self", "disk", "steps", "name", "row"] ["self", "disk", "steps"] (defScope sWInit) := ⟨rfl, rfl, rfl, by decide +kernel, rfl, by decide +kernel, by decide +kernel⟩
theorem ok_WInit {f c : Addr} {oc dV : Value} {od : Option Addr} {osl : Array (Option Value)} {kV doc pm ct : Value} {an : Option Addr}
    (lk : K.lookup f = some ⟨oc, od, .func (PySem.W.fnOf "__init__" "Workflow.__init__" (defArgs sWInit) (defBody sWInit) (defScope sWInit) dV kV doc pm an (.ref c) ct), osl⟩) (hcd : PySem.W.codeIn K (.ref c) "Workflow.__init__" = true) (TB : GxR.TabB base mg c PI) (X : TxtWf K CW) (T : TxtN K mg WD)
    (TE : ExcT K mg "QueueError" CQ) (c_Disk_records : Met P w K mg base 17 CD "records" (spRecs CD PU 2) []) :
    FnOk P w K mg base (L2.CX P w) 18 f (PySem.W.fnOf "__init__" "Workflow.__init__" (defArgs sWInit) (defBody sWInit) (defScope sWInit) dV kV doc pm an (.ref c) ct) ["self", "disk", "steps"] (spWInit CW CD CQ PU PI) := by
  refine fn_of lk hcd scWInit (fun vs H Q E h => ?_) fun A outer s H vs Q E hr h => ?_
  · obtain ⟨x, dx, D, dd', KK, W, F, l, dk, ns, rs, tail, pu, pi, L, rfl, _⟩ := h
    rfl
  · obtain ⟨x, dx, D, dd', KK, W, F, l, dk, ns, rs, tail, pu, pi, L, rfl, hL, htu, hti, hl, hns, hk, hz, hpk, hrs, hcut, k1, k2⟩ := h
    have c1 := X.cl
    have h100 : 100 < sizeLine := by decide
    have f1 := X.n "disk" (by decide +kernel)
    have f2 := X.n "steps" (by decide +kernel)
    have f3 := X.n "rows" (by decide +kernel)
    replace hr : Room 17 _ := hr
    have hr1 : Room (0 + 1) _ := hr.mono (by omega)
    have hr4 : Room (0 + 1 + 3) _ := hr.mono (by omega)
    refine ⟨_, (pss_cons (ps_fld (pv 0) (pv 1) rfl)
  (pss_cons (ps_fld (pv 0) (pe_callTy call_tuple_of (by rfl) T.tuple (by decide +kernel) (pa_cons (pv 2) pa_nil)) rfl)
  (pss_cons (ps_if (PW.pt (pw_or (pt_cmpR (op_eqP hr.units) (pe_fld (pv 0) rfl) (pe_tup pa_nil) (nomark _)) (pw_or1 (pt_cmpR op_ne (pe_callB call_lenD (by rfl) T.len (by decide +kernel) (pa_cons (pe_dc (own := [("name", 3)]) (g := gName 3) (by rfl) scWInit.nd (pi_tup (pe_fld (pv 0) rfl)) (blkOk_by (own := [("name", 3)]) (N := ["self", "disk", "steps", "name", "row"]) (sc := (defScope sWInit)) (by decide +kernel)) (fun _ _ _ _ _ => (pg_name (i := 3) scWInit.nd rfl (Or.inl rfl))) (fun _ _ _ _ _ => pts_nil) (fun _ _ _ _ _ => (pv 3)) (fun _ _ _ _ _ => pe_bl)) pa_nil)) (pe_callB call_len_seq (by rfl) T.len (by decide +kernel) (pa_cons (pe_fld (pv 0) rfl) pa_nil)) (nomark _)))))
  (pss_one (ps_raiseT TE rfl (takes_of rfl rfl rfl (E := E) rfl) rfl))
  pss_nil)
  (pss_cons (ps_fld (pv 0) (pe_lc (own := [("row", 4)]) (g := gName 4) (by rfl) scWInit.nd (pi_list (pe_mt0 c_Disk_records hr (by decide) (pv 1))) (blkOk_by (own := [("row", 4)]) (N := ["self", "disk", "steps", "name", "row"]) (sc := (defScope sWInit)) (by decide +kernel)) (fun _ _ _ _ _ => (pg_name (i := 4) scWInit.nd rfl (Or.inl rfl))) (fun _ _ _ _ _ => pts_nil) (fun _ _ _ _ _ => (pe_callTy call_tuple_ofB (by rfl) T.tuple (by decide +kernel) (pa_cons (pv 4) pa_nil)))) rfl)
  (pss_one (ps_if (pt_val (Gx.pe_anyG (Gx.pgen_gxb (own := [("row", 4)]) (g := gName 4) hr1 TB rfl scWInit.nd (pi_list (pe_fld (pv 0) rfl)) (Gx.gxOk_by (own := [("row", 4)]) (N := ["self", "disk", "steps", "name", "row"]) (sc := (defScope sWInit)) (by decide +kernel)) (fun _ _ _ _ _ _ _ _ _ => (pg_name (i := 4) scWInit.nd rfl (Or.inl rfl))) (fun _ _ _ _ _ _ _ _ hr => pts_nil) (fun _ _ _ _ _ _ _ _ hr => (pe_or (pe_cmpR op_ne (pe_callB call_len_seqG (by rfl) T.len (by decide +kernel) (pa_cons (pv 4) pa_nil)) pe_int (nomark _)) (pe_or (pe_cmpR op_notIn_seqG (pe_ix ix_tupG (pv 4) pe_int (fun _ _ => rfl)) (C8.pe_gc (by rfl) T.g_WORDS) (by rfl)) (pe_one (pe_cmpR op_notIn_seqG (pe_ix ix_tupG (pv 4) pe_int (fun _ _ => rfl)) (pe_fldG (pv 0) rfl) (by rfl)))))) (fun _ => rfl)) hr4 (by rfl) T.any))
  (pss_one (ps_raiseT TE rfl (takes_of rfl rfl rfl (E := E) rfl) rfl))
  pss_nil)))))), ?_⟩
    fail "go"
    refine ⟨l, ns.map .str, rfl, .inl ⟨.of (hL.mem (.tail _ (.tail _ (.tail _ (List.mem_append_right _ hl))))), fun q0 hp => ?_⟩⟩
    generalize hH : upd H q0 _ = H
    replace hL := Led.newH hL hp hH
    clear hH hp
    fail "go"
    have hraise : ∀ H, goodW ns rs = false → Led H ((q0, HO.tup (ns.map V.str)) :: (x, HO.ins CW dx (fz ["disk", "steps"] [.ref D, .ref q0])) :: (PU, .tbl pu) :: (PI, .tbl pi) :: (dkL CD D dd' KK W F dk ++ L)) → E (.ref CQ) none H := fun H q hL => k2 q pu pi H htu hti (by fail "pm")
    refine ⟨_, _, dp_tup (hL.at ⟨1, rfl⟩) dp_strs, dp_tup (hL.at ⟨0, rfl⟩) .nil, shal_tupS, shal_tupS (ns := []), ?_⟩
    rw [show PyData.eqv (.tuple (ns.map PyData.str)) (.tuple []) = decide (ns = []) from eqv_tupS (b := [])]
    refine ⟨_, rfl, ?_⟩
    replace hL := hL.tail
    by_cases hne : ns = []
    · rw [show decide (ns = []) = true by simp [hne]]
      refine iteT ?_
      refine iteT ?_
      fail "go"
      exact hraise _ (by unfold goodW; simp [hne]) hL
    · rw [show decide (ns = []) = false by simp [hne]]
      refine iteF ?_
      fail "go"
      obtain ⟨dq1, dq2, dq3, dq4⟩ := dd_facts ns
      refine ⟨⟨_, .of (hL.at ⟨0, rfl⟩)⟩, fun Dd hD => dc_it (walk_tup (xs := ns.map V.str)) (fun i H => Hold (Led H ((Dd, .dK ((ddK (dd (ns.take i))).map (kk oneV))) :: (q0, HO.tup (ns.map V.str)) :: (x, HO.ins CW dx (fz ["disk", "steps"] [.ref D, .ref q0])) :: (PU, .tbl pu) :: (PI, .tbl pi) :: (dkL CD D dd' KK W F dk ++ L)))) (.mk (hL.new hD)) (fun i H _ h => ?_) (fun i v H H' hi h y => ?_) (fun H h => ?_)⟩
      · exact .of (h.out.at ⟨1, rfl⟩)
      · clear hL hD
        have hL := h.out
        clear h
        obtain ⟨rfl, hv⟩ := y
        rw [List.getElem?_map] at hv
        obtain ⟨st, hst, rfl⟩ := Option.map_eq_some_iff.mp hv
        refine ⟨rfl, k_yes ?_⟩
        fail "go"
        have hln := (dd_facts (ns.take i)).2.2.1
        rw [List.length_take] at hln
        refine ⟨_, .inr st, rfl, hL.at ⟨0, rfl⟩, by rw [List.length_map]; unfold ddK; rw [List.length_map]; omega, ?_⟩
        have e1 : putK ((ddK (dd (ns.take i))).map (kk oneV)) (.inr st) (.bl true) = (ddK (dd (ns.take (i + 1)))).map (kk oneV) := by
          rw [show V.bl true = oneV (st, ()) from rfl, kk_put (by rw [ddK_keys]; exact (dd_facts _).2.1), ddK_put, take_succ_at hst, dd_snoc]
        rw [e1]
        exact .mk (hL.set 0 rfl)
      · clear hL hD
        have hL := h.out
        clear h
        rw [List.length_map, List.take_length] at hL
        fail "go"
        refine ⟨Dd, _, rfl, hL.at ⟨0, rfl⟩, ?_⟩
        have edl : ((ddK (dd ns)).map (kk oneV)).length = (dd ns).length := by unfold ddK; rw [List.length_map, List.length_map]
        rw [edl]
        replace hL := hL.tail
        fail "go"
        by_cases hnd : ns.Nodup
        · have e2 : (dd ns).length = ns.length := dq4.mpr hnd
          rw [show (!decide (V.int ((dd ns).length : Nat) = V.int ((ns.map V.str).length : Nat))) = false by rw [List.length_map, e2]; simp]
          refine iteF ?_
          fail "go"
          have hA : Led H ((PU, .tbl pu) :: (dkL CD D dd' KK W F dk ++ ((q0, HO.tup (ns.map V.str)) :: (x, HO.ins CW dx (fz ["disk", "steps"] [.ref D, .ref q0])) :: (PI, .tbl pi) :: L))) := by fail "pm"
          clear hL hraise
          refine ⟨D, dd', KK, W, F, dk, rs.map rD, tail, pu, _, rfl, hA, htu, hk, hz, fun d hd => ?_, by rw [List.length_map]; omega, hcut, fun lr rvs Z pu H htu hzz hL => ?_⟩
          · obtain ⟨r, hr, rfl⟩ := List.mem_map.mp hd
            exact hpk r hr
          clear hA
          have hlr := hzz.len
          rw [List.length_map] at hlr
          have hA : Led H ((x, HO.ins CW dx (fz ["disk", "steps"] [.ref D, .ref q0])) :: (q0, HO.tup (ns.map V.str)) :: (lr, .lst rvs) :: (PU, .tbl pu) :: (PI, .tbl pi) :: (Z ++ (dkL CD D dd' KK W F dk ++ L))) := by fail "pm"
          clear hL
          have hL := hA
          clear hA
          fail "go"
          refine ⟨⟨_, .of (hL.at ⟨2, rfl⟩)⟩, fun D2 hD => lc_list (K := K) (a := lr) (xs := rvs) (fun i H => Hold (Led H ((D2, .lst (rvs.take i)) :: (x, HO.ins CW dx (fz ["disk", "steps"] [.ref D, .ref q0])) :: (q0, HO.tup (ns.map V.str)) :: (lr, .lst rvs) :: (PU, .tbl pu) :: (PI, .tbl pi) :: (Z ++ (dkL CD D dd' KK W F dk ++ L))))) (.mk (hL.new hD)) (fun i H _ h => ?_) (fun i v H hi h => ?_) (fun H h => ?_)⟩
          · exact .of (h.out.at ⟨3, rfl⟩)
          · clear hL hD
            have hL := h.out
            clear h
            obtain ⟨r, a, hr1, rfl, ha⟩ := DLs_rD hzz hi
            refine ⟨rfl, k_yes ?_⟩
            fail "go"
            refine ⟨a, _, rfl, .inr ⟨.of (hL.mem (.tail _ (.tail _ (.tail _ (.tail _ (.tail _ (.tail _ (List.mem_append_left _ ha)))))))), ?_⟩⟩
            refine ⟨_, hL.at ⟨0, rfl⟩, by rw [List.length_take]; omega, ?_⟩
            rw [← take_succ_at hi]
            exact .mk (hL.set 0 rfl)
          · clear hL hD
            have hL := h.out
            clear h
            rw [List.take_length] at hL
            fail "go"
            have hk1 : ∀ (pi' : Array Value) H, goodW ns rs = true → TriplesOk pi'.toList → Led H ((PI, .tbl pi') :: (D2, HO.lst rvs) :: (x, HO.ins CW dx (fz ["disk", "steps", "rows"] [.ref D, .ref q0, .ref D2])) :: (q0, HO.tup (ns.map V.str)) :: (PU, HO.tbl pu) :: (Z ++ (dkL CD D dd' KK W F dk ++ L))) → Q .non H := fun pi' H q ht hL => k1 q q0 D2 rvs Z pu pi' H htu ht hzz (by dsimp only [wfL, wfO, nmW]; fail "pm")
            have hk2 : ∀ (pi' : Array Value) H, goodW ns rs = false → TriplesOk pi'.toList → Led H ((PI, .tbl pi') :: (D2, HO.lst rvs) :: (x, HO.ins CW dx (fz ["disk", "steps", "rows"] [.ref D, .ref q0, .ref D2])) :: (q0, HO.tup (ns.map V.str)) :: (PU, HO.tbl pu) :: (Z ++ (dkL CD D dd' KK W F dk ++ L))) → E (.ref CQ) none H := fun pi' H q ht hL => k2 q pu pi' H htu ht (by fail "pm")
            obtain ⟨R0, hR0⟩ : ∃ R0 : Lg, R0 = (D2, HO.lst rvs) :: (x, HO.ins CW dx (fz ["disk", "steps", "rows"] [.ref D, .ref q0, .ref D2])) :: (q0, HO.tup (ns.map V.str)) :: (PU, HO.tbl pu) :: (Z ++ (dkL CD D dd' KK W F dk ++ L)) := ⟨_, rfl⟩
            have m1 : (D2, HO.lst rvs) ∈ R0 := by rw [hR0]; exact .head _
            have m2 : (x, HO.ins CW dx (fz ["disk", "steps", "rows"] [.ref D, .ref q0, .ref D2])) ∈ R0 := by rw [hR0]; exact .tail _ (.head _)
            have m3 : (q0, HO.tup (ns.map V.str)) ∈ R0 := by rw [hR0]; exact .tail _ (.tail _ (.head _))
            have hzz : DLs R0 rvs (rs.map rD) := hzz.mono fun a h => by rw [hR0]; exact .tail _ (.tail _ (.tail _ (.tail _ (List.mem_append_left _ h))))
            have hA : Led H ((PI, .tbl pi) :: R0) := by rw [hR0]; fail "pm"
            rw [← hR0] at hk1 hk2
            clear hL hR0
            have hfr : ∀ (i : Nat) (r : Rw), rs[i]? = some r → ((rs[i]?.map fun r : Rw => !rowG ns r).getD false) = !rowG ns r := fun i x h => by rw [h]; rfl
            refine ⟨⟨_, .of (hA.mem (.tail _ m1))⟩, k_gxl (fun i => ((rs[i]?.map fun r : Rw => !rowG ns r).getD false)) hA hti m1 (fun i v ps H Rr hv ht hL hR => ?_) (fun ps H i hi hf ht hL => ?_) (fun ps H hf ht hL => ?_) gmono_name⟩
            · obtain ⟨r, a, hr1, rfl, ha⟩ := DLs_rD hzz hv
              have hR := hR ps H ht hL
              rw [hfr i r hr1] at hR
              refine ⟨rfl, ?_⟩
              fail "go"
              refine ⟨a, _, rfl, .inr (.of (hL.mem (.tail _ ha))), ?_⟩
              fail "go"
              refine k_ixT hL (at_mem (.tail _ ha)) (v := .str r.1) (atI_nat (j := 0) rfl) ?_
              fail "go"
              refine ⟨WD, _, rfl, .inr (T.words _), rfl, flat_strs, ?_⟩
              rw [if_pos rfl, in_strs]
              refine ⟨_, rfl, ?_⟩
              unfold rowG at hR
              by_cases hw : r.1 ∈ W4
              · rw [show (!decide (r.1 ∈ W4)) = false by simp [hw]]
                rw [show decide (r.1 ∈ W4) = true by simp [hw], Bool.true_and] at hR
                refine iteF ?_
                fail "go"
                refine k_ixT hL (at_mem (.tail _ ha)) (v := .str r.2) (atI_nat (j := 1) rfl) ?_
                fail "go"
                refine k_fld hL (at_mem (.tail _ m2)) c1 f2 (fz_at 1 (by decide +kernel) rfl rfl) ?_
                fail "go"
                refine ⟨q0, _, rfl, .inr (.of (hL.mem (.tail _ m3))), rfl, flat_strs, ?_⟩
                rw [if_pos rfl, in_strs]
                exact hR
              · rw [show (!decide (r.1 ∈ W4)) = true by simp [hw]]
                rw [show decide (r.1 ∈ W4) = false by simp [hw], Bool.false_and] at hR
                refine iteT ?_
                fail "go"
                exact hR
            · have eg : goodW ns rs = false := by
                have e1 := any_idx (f := fun r => !rowG ns r) hfr
                unfold goodW
                rw [Bool.and_eq_false_iff]
                right
                cases h : rs.all (rowG ns) with
                | false => rfl
                | true =>
                  refine absurd hf (e1.mp ?_ i (by omega))
                  rw [List.all_eq_true] at h
                  rw [List.any_eq_false]
                  intro r hr z
                  rw [h r hr] at z
                  cases z
              fail "go"
              exact hk2 ps _ eg ht hL
            · have eg : goodW ns rs = true := by
                have e1 := (any_idx (f := fun r => !rowG ns r) hfr).mpr fun i hi => hf i (by omega)
                unfold goodW
                rw [Bool.and_eq_true, Bool.and_eq_true]
                refine ⟨⟨by simp [hne], by simp [hnd]⟩, ?_⟩
                rw [List.all_eq_true]
                intro r hr
                have := List.any_eq_false.mp e1 r hr
                simpa using this
              fail "go"
              exact hk1 ps _ eg ht hL
        · have e2 : ¬ (dd ns).length = ns.length := fun z => hnd (dq4.mp z)
          rw [show (!decide (V.int ((dd ns).length : Nat) = V.int ((ns.map V.str).length : Nat))) = true by rw [List.length_map]; simp; omega]
          refine iteT ?_
          fail "go"
          exact hraise _ (by unfold goodW; simp [hnd]) hL
end
end Sd


set_option linter.unusedVariables false
namespace Sd
open PySem L2 LamX NdefX PyProof.Rows
open C8 (Cal Met Mak pe_c pe_mk pe_mt pe_mt0 pss_cut tCut)
set_option linter.unusedSimpArgs false
set_option pp.deepTerms false
set_option pp.deepTerms.threshold 12
set_option hygiene false
local macro_rules | `(tactic| fail "nd") => `(tactic| first | assumption | decide +kernel)
local macro_rules | `(tactic| fail "ix") => `(tactic| first | exact ⟨0, rfl⟩ | exact ⟨1, rfl⟩ | exact ⟨2, rfl⟩ | exact ⟨3, rfl⟩ | exact ⟨4, rfl⟩ | exact ⟨5, rfl⟩ | exact ⟨6, rfl⟩ | exact ⟨7, rfl⟩ | exact ⟨8, rfl⟩ | exact ⟨9, rfl⟩ | exact ⟨10, rfl⟩ | exact ⟨11, rfl⟩ | exact ⟨12, rfl⟩ | exact ⟨13, rfl⟩ | exact ⟨14, rfl⟩ | exact ⟨15, rfl⟩ | exact ⟨16, rfl⟩ | exact ⟨17, rfl⟩ | exact ⟨18, rfl⟩ | assumption)
local macro_rules | `(tactic| fail "up") => `(tactic| first | exact ⟨0, rfl, rfl⟩ | exact ⟨1, rfl, rfl⟩ | exact ⟨2, rfl, rfl⟩ | exact ⟨3, rfl, rfl⟩ | exact ⟨4, rfl, rfl⟩ | exact ⟨5, rfl, rfl⟩ | exact ⟨6, rfl, rfl⟩ | exact ⟨7, rfl, rfl⟩ | exact ⟨8, rfl, rfl⟩ | exact ⟨9, rfl, rfl⟩ | exact ⟨10, rfl, rfl⟩ | exact ⟨11, rfl, rfl⟩ | exact ⟨12, rfl, rfl⟩ | exact ⟨13, rfl, rfl⟩ | exact ⟨14, rfl, rfl⟩ | exact ⟨15, rfl, rfl⟩ | exact ⟨16, rfl, rfl⟩ | assumption)
local macro_rules | `(tactic| fail "lkF") => `(tactic| first | assumption | exact fz_at 0 (by fail "nd") rfl rfl | exact fz_at 1 (by fail "nd") rfl rfl | exact fz_at 2 (by fail "nd") rfl rfl | exact fz_at 3 (by fail "nd") rfl rfl | exact fz_at 4 (by fail "nd") rfl rfl | exact fz_at 5 (by fail "nd") rfl rfl | exact fz_at 6 (by fail "nd") rfl rfl | exact fz_at 7 (by fail "nd") rfl rfl)
local macro_rules | `(tactic| fail "lkD") => `(tactic| first | assumption | exact dz_at 0 (by fail "nd") rfl rfl | exact dz_at 1 (by fail "nd") rfl rfl | exact dz_at 2 (by fail "nd") rfl rfl | exact dz_at 3 (by fail "nd") rfl rfl | exact dz_at 4 (by fail "nd") rfl rfl)
local macro_rules | `(tactic| fail "ptF") => `(tactic| first | assumption | exact fz_put 0 (by fail "nd") rfl (Nat.le_of_ble_eq_true rfl) | exact fz_put 1 (by fail "nd") rfl (Nat.le_of_ble_eq_true rfl) | exact fz_put 2 (by fail "nd") rfl (Nat.le_of_ble_eq_true rfl) | exact fz_put 3 (by fail "nd") rfl (Nat.le_of_ble_eq_true rfl) | exact fz_put 4 (by fail "nd") rfl (Nat.le_of_ble_eq_true rfl) | exact fz_put 5 (by fail "nd") rfl (Nat.le_of_ble_eq_true rfl) | exact fz_put 6 (by fail "nd") rfl (Nat.le_of_ble_eq_true rfl) | exact fz_put 7 (by fail "nd") rfl (Nat.le_of_ble_eq_true rfl) | exact fz_new (by decide +kernel) rfl)
local macro_rules | `(tactic| fail "ptD") => `(tactic| first | assumption | exact dz_put 0 (by fail "nd") rfl (Nat.le_of_ble_eq_true rfl) | exact dz_put 1 (by fail "nd") rfl (Nat.le_of_ble_eq_true rfl) | exact dz_put 2 (by fail "nd") rfl (Nat.le_of_ble_eq_true rfl) | exact dz_put 3 (by fail "nd") rfl (Nat.le_of_ble_eq_true rfl) | exact dz_put 4 (by fail "nd") rfl (Nat.le_of_ble_eq_true rfl))
local macro_rules | `(tactic| fail "sz") => `(tactic| first | assumption | exact (Nat.le_of_ble_eq_true rfl) | omega | decide)
local macro_rules | `(tactic| fail "sd") => `(tactic| first | rfl | assumption | decide | omega | (dsimp only; first | decide | omega) | exact .inr ⟨by decide, by decide⟩ | exact .inl ⟨by decide, by decide⟩ | exact ⟨by omega, by omega⟩ | exact .inl ⟨by omega, by omega⟩ | exact .inr ⟨by omega, by omega⟩ | exact ⟨by omega, by omega, by omega⟩)
local macro_rules | `(tactic| fail "cl") => `(tactic| (clear hH; dsimp only [List.set, List.cons_append, List.nil_append, List.append] at hL))
local macro_rules | `(tactic| fail "gn") => `(tactic| (intro p hp; generalize hH : upd H p _ = H; replace hL := Led.newH hL hp hH; clear hH hp))
local macro_rules | `(tactic| fail "gup") => `(tactic| (generalize hH : upd H _ _ = H; replace hL := Led.upU hL (by fail "up") hH; fail "cl"))
local macro_rules | `(tactic| fail "gmk") => `(tactic| (intro x dx hx hd ne; generalize hH : upd (upd H dx _) x _ = H; replace hL := Led.made hL hx hd ne hH; clear hH hx hd ne))
local macro_rules | `(tactic| fail "v") => `(tactic| refine ⟨_, rfl, ?_⟩)
local macro_rules | `(tactic| fail "i2") => `(tactic| refine ⟨_, _, rfl, rfl, ?_⟩)
local macro_rules | `(tactic| fail "go1") => `(tactic| first
  | refine ⟨_, rfl, ?_⟩
  | refine ⟨_, _, rfl, rfl, ?_⟩
  | refine ⟨_, _, rfl, ?_⟩
  | refine iteT ?_
  | refine iteF ?_
  | refine k_fld hL (by fail "ix") (by assumption) (by assumption) (by fail "lkF") ?_
  | refine k_dgetS hL (by fail "ix") (by fail "lkD") ?_
  | refine k_dgetI hL (by fail "ix") (by assumption) ?_
  | refine k_ixL hL (by fail "ix") (by first | rfl | assumption) ?_
  | refine k_ixT hL (by fail "ix") (by first | rfl | assumption) ?_
  | refine k_tyL hL (by fail "ix") ?_
  | refine k_isd hL (by fail "ix") ?_
  | (refine And.intro (by fail "sz") ?_; fail "gn")
  | refine And.intro (by fail "sd") ?_
  | fail "gn"
  | refine k_meth hL (by fail "ix") (by first | assumption | exact fz_no (by decide +kernel)) ?_
  | refine k_gtup hL (by fail "ix") rfl ?_
  | (refine k_popI hL (by fail "ix") (by assumption) ?_; fail "gup")
  | (refine k_listD hL (by fail "ix") ?_; fail "gn")
  | (refine ⟨_, _, _, _, rfl, rfl, hL.at (by fail "ix"), rfl, ?_⟩; fail "gup")
  | (refine ⟨_, _, _, rfl, rfl, hL.at (by fail "ix"), (by fail "sz"), ?_⟩; fail "gup")
  | (refine ⟨_, _, _, _, rfl, hL.at (by fail "ix"), by assumption, by assumption, Nat.lt_of_le_of_lt fz_len (by decide), ?_⟩; generalize hH : upd H _ _ = H; replace hL := Led.upF hL (by fail "up") (by fail "ptF") hH; fail "cl")
  | (refine ⟨_, _, hL.at (by fail "ix"), Nat.lt_of_le_of_lt fz_len (by decide), ?_⟩; generalize hH : upd H _ _ = H; replace hL := Led.upF hL (by fail "up") (by fail "ptF") hH; fail "cl")
  | (refine k_dputS hL (by fail "ix") (Nat.lt_of_le_of_lt dz_len (by decide)) (by fail "ptD") (by fail "up") ?_; clear hL; intro H hL; dsimp only [List.set, List.cons_append, List.nil_append, List.append] at hL)
  | refine k_lenL2 hL (by fail "ix") ?_
  | refine k_lenT2 hL (by fail "ix") ?_
  | refine .inl ⟨_, rfl, ?_⟩
  | refine .inr ⟨_, rfl, ?_⟩)
local macro_rules | `(tactic| fail "go") => `(tactic| repeat fail "go1")
local macro_rules | `(tactic| fail "pm") => `(tactic| (refine Led.le hL (fun a_ => ?_); simp only [cnt_nil, cnt_cons, cnt_app, List.map_append, List.map_cons, List.map_nil, List.flatMap_append, List.flatMap_cons, List.flatMap_nil, List.append_assoc, List.cons_append, List.nil_append]; omega))

abbrev NLw : List Str := ["script", "dice", "steps", "k", "fails", "world", "disk", "end", "turns", "flow", "before", "due", "states", "step", "again", "spoilt", "bad", "fresh", "f"]
theorem scLaw : FnScope NLw ["script"] (defScope sLaw) := ⟨rfl, rfl, rfl, by decide +kernel, rfl, by decide +kernel, by decide +kernel⟩
abbrev LX (P : Program) (w : World) (K : PySem.W.Frag) (mg : Str → Option Value) (base : Heap) (f : Addr) (cdv : Value) (A : Around) (outer : List Env) (s : Shared) (H : Hp) (E : XK) : Cx := (cxOf CX0 P w K mg base NLw "law" (defScope sLaw) f cdv A outer s H E).nox
/-- Workflow(disk, steps): what it wants, what it gives -/
def spMkW (CW CD CQ PU PI : Addr) (D l : Addr) (H : Hp) (Q : VK) (E : XK) : Prop := ∃ (dd' K W F : Addr) (dk : DkS) (ns : List Str) (rs : List Rw) (tail : List Int) (pu pi : Array Value) (L : Lg), Led H ((PU, .tbl pu) :: (PI, .tbl pi) :: (dkL CD D dd' K W F dk ++ L)) ∧
  TriplesOk pu.toList ∧ TriplesOk pi.toList ∧ (l, HO.lst (ns.map .str)) ∈ L ∧ ns.length ≤ 20 ∧ dk.kb ++ dk.wb = framesB (rs.map rD) ++ tail ∧ dk.kb.length + dk.wb.length ≤ sizeLine ∧ (∀ r ∈ rs, Pk 2 (rD r)) ∧ rs.length ≤ 100 ∧ Cut tail ∧
  (goodW ns rs = true → ∀ (x dx T R : Addr) (rvs : List V) (Z : Lg) (pu' pi' : Array Value) H', TriplesOk pu'.toList → TriplesOk pi'.toList → DLs Z rvs (rs.map rD) → Led H' ((PU, .tbl pu') :: (PI, .tbl pi') :: (wfL CW x dx D T R ns rvs ++ (dkL CD D dd' K W F dk ++ (Z ++ L)))) → Q (.ref x) H') ∧
  (goodW ns rs = false → ∀ (pu' pi' : Array Value) H', TriplesOk pu'.toList → TriplesOk pi'.toList → Led H' ((PU, .tbl pu') :: (PI, .tbl pi') :: (dkL CD D dd' K W F dk ++ L)) → E (.ref CQ) none H')
theorem mkW {CW CD CQ PU PI D l : Addr} {H : Hp} {Q : VK} {E : XK} (h : spMkW CW CD CQ PU PI D l H Q E) (x dx : Addr) (h1 : H x = none) (h2 : H dx = none) (h3 : dx ≠ x) :
    spWInit CW CD CQ PU PI [.ref x, .ref D, .ref l] (L2.upd (L2.upd H dx (.own x)) x (.ins CW dx [])) (fun v H2 => v = .non ∧ Q (.ref x) H2) E := by
  obtain ⟨dd', K, W, F, dk, ns, rs, tail, pu, pi, L, hL, a1, a2, a3, a4, a5, a6, a7, a8, a9, k1, k2⟩ := h
  refine ⟨x, dx, D, dd', K, W, F, l, dk, ns, rs, tail, pu, pi, L, rfl, ?_, a1, a2, a3, a4, a5, a6, a7, a8, a9, fun q T R rvs Z pu' pi' H' t1 t2 hz hL => ⟨rfl, k1 q x dx T R rvs Z pu' pi' H' t1 t2 hz hL⟩, k2⟩
  generalize hH : L2.upd (L2.upd H dx _) x _ = H'
  exact Led.made hL h1 h2 h3 hH
def tlW (CW CD CQ PU PI : Addr) : List V → List (Option V) → Hp → VK → XK → Prop := fun vs ws H Q E => vs = [] ∧ ∃ (D l : Addr), ws = [some (.ref D), some (.ref l)] ∧ spMkW CW CD CQ PU PI D l H Q E
abbrev NLWf : List Str := ["disk", "steps"]
abbrev NLg : List Str := ["flow", "world", "fails"]
theorem nscW : NScope NLWf [] NLWf (lamScope lamW) := nscope_by (by decide +kernel)
theorem nscG : NScope NLg [] NLg (lamScope lamG) := nscope_by (by decide +kernel)
theorem hfD1 : ∀ y ∈ (lamScope lamD1).names, y.2 = .free → (lamScope lamG).names.lookup y.1 = some .free := by decide +kernel
theorem hfU1 : ∀ y ∈ (lamScope lamU1).names, y.2 = .free → (lamScope lamG).names.lookup y.1 = some .free := by decide +kernel
theorem hgD1 : ∀ y ∈ NLd, (y, NameKind.free) ∈ (lamScope lamD1).names := by decide +kernel
theorem hgU1 : ∀ y ∈ NLu, (y, NameKind.free) ∈ (lamScope lamU1).names := by decide +kernel
abbrev GoI : Type := (NF × List (Option V)) × (NF × List (Option V))
def gGo (i : GoI) : GT := fun o h H => CellsO i.1.1.cl NLd i.1.2 o h H ∧ CellsO i.2.1.cl NLu i.2.2 o h H
/-- lambda: flow.go(..), its code object is c -/
def tlG (CW CD CE PN PE PG : Addr) (c : Addr) (q q2 : Str) : List V → List (Option V) → Hp → VK → XK → Prop := fun vs ws H Q E => vs = [] ∧ ∃ (A : FlA) (ns : List Str) (f : Nat) (S : FlS) (t : Tb) (P1 : Addr) (ps1 : Array Value) (L : Lg), ws = [some (.ref A.x), some (.ref A.w0), some (failV ns f)] ∧ NsOk ns f ∧
  Led H ((P1, .tbl ps1) :: (L ++ (tbL PN PE PG t ++ flL CW CD A ns f S))) ∧ (c, CodeT c q P1) ∈ L ∧ TabL q2 ps1 L ∧ FlOk ns f S L ∧ t.Ok ∧ WOk ns.length f S.j S.d S.u ∧
  (∀ (S' : FlS) (t' : Tb) (ps1' : Array Value) (Z : Lg) H', t'.Ok → TabL q2 ps1' (Z ++ L) → FlOk ns f S' (Z ++ L) → WOk ns.length f S'.j S'.d S'.u → S'.j = lenN ns.length f → (qt ns f S → qt ns f S') → Led H' ((P1, .tbl ps1') :: (tbL PN PE PG t' ++ (flL CW CD A ns f S' ++ (Z ++ L)))) → Q (.str (endW ns f)) H') ∧
  (¬ qt ns f S → ∀ (S' : FlS) (t' : Tb) (ps1' : Array Value) (Z : Lg) H', t'.Ok → TabL q2 ps1' (Z ++ L) → FlX ns f S' → Led H' ((P1, .tbl ps1') :: (tbL PN PE PG t' ++ (flL CW CD A ns f S' ++ (Z ++ L)))) → E (.ref CE) none H')
theorem mem_noT1 {Z V2 L : Lg} {a P1 : Addr} {xs : List V} {e : Array Value} (h : (a, HO.tup xs) ∈ Z ++ ((P1, HO.tbl e) :: (V2 ++ L))) : (a, HO.tup xs) ∈ (Z ++ V2) ++ L := by
  rw [List.append_assoc]
  rcases List.mem_append.mp h with h | h
  · exact List.mem_append_left _ h
  · rcases List.mem_cons.mp h with h | h
    · cases h
    · exact List.mem_append_right _ h
section
variable {P : Program} {w : World} {K : PySem.W.Frag} {mg : Str → Option Value} {base : Heap} {CW CD CE CQ PN PU PI PE PG : Addr}
theorem lokW {f c' : Addr} {q : Str} {cl : List (Str × Addr)} (c_Workflow : MakX P w K mg base 18 "Workflow" CW (spWInit CW CD CQ PU PI) []) : LOkS P w K mg base 20 f ⟨"<lambda>", q, lamArgs lamW, [], lamScope lamW, cl, c'⟩ (lamBody lamW) NLWf (tlW CW CD CQ PU PI) := by
  refine lokS_of nscW (fun vs ws H Q E h => ?_) (fun _ _ _ us hl => match us, hl with | [], _ => rfl) fun A outer s H vs ws Q E hr C h => ⟨_, pe_mkX c_Workflow hr (by decide) (by rfl) (takes_of rfl rfl rfl (E := E) rfl) (pa_cons (pv 0) (pa_cons (pv 1) pa_nil)), ?_⟩
  · obtain ⟨rfl, _⟩ := h
    rfl
  · obtain ⟨rfl, D, l, rfl, h⟩ := h
    refine ⟨_, rfl, _, rfl, ?_⟩
    exact fun x dx a b c => mkW h x dx a b c
theorem lokG {f c : Addr} {q q2 : Str} {cl : List (Str × Addr)} {c0 P0 : Addr} (TB : LamX.TabB base mg c0 P0) (hq : (q ++ ".<locals>.") ++ "<lambda>" = q2) (X : TxtWf K CW) (c_Workflow_go : ∀ i : GoI, MetS P w K mg base 12 CW "go" (gGo i) (spGo P w K mg base CW CD CE PN PE PG i.1.1 i.2.1 i.1.2 i.2.2)) {fgo : Addr} (hm : Meth K CW "go" fgo)
    (c__law_do : Cal P w K mg base 2 "_law_do" (spLDo CW) []) (c__law_undo : Cal P w K mg base 1 "_law_undo" spLUndo []) : LOkS P w K mg base 13 f ⟨"<lambda>", q, lamArgs lamG, [], lamScope lamG, cl, c⟩ (lamBody lamG) NLg (tlG CW CD CE PN PE PG c q q2) := by
  refine lokS_of nscG (fun vs ws H Q E h => ?_) (fun _ _ _ us hl => match us, hl with | [], _ => rfl) fun A outer s H vs ws Q E hr C h => ⟨_, pe_mtS (R := fun i σ => (i.1.1.cl = cloFrom cl (lamScope lamD1).names [] ∧ i.1.2 = [1, 2, 0].map (slotAt σ)) ∧ (i.2.1.cl = cloFrom cl (lamScope lamU1).names [] ∧ i.2.2 = [1].map (slotAt σ))) c_Workflow_go hr (by decide)
    (fun i pins σ H s I hR => ⟨?_, ?_⟩) (takes_of rfl rfl rfl (E := E) rfl) X.cl hm (pv 0) (pa_cons (pe_lamvI TB rfl hq rfl hfD1) (pa_cons (pe_lamvI TB rfl hq rfl hfU1) pa_nil)) (fun g h => hm.uniq h), ?_⟩
  · obtain ⟨rfl, _⟩ := h
    rfl
  · rw [hR.1.1, hR.1.2]
    exact CellsO.thru C rfl I (Caps.made I.ok (fun y hy e => .inr (hfD1 y hy e)) hgD1 rfl)
  · rw [hR.2.1, hR.2.2]
    exact CellsO.thru C rfl I (Caps.made I.ok (fun y hy e => .inr (hfU1 y hy e)) hgU1 rfl)
  · obtain ⟨rfl, A, ns, f, S, t, P1, ps1, L, rfl, hn, hL, hc, hT, ok, ht, hw, k1, k2⟩ := h
    have hx := hL.mem (a := A.x) (o := HO.ins CW A.dx (fz nmW [.ref A.D, .ref A.T, .ref A.R])) (.tail _ (List.mem_append_right _ (List.mem_append_right _ (.head _))))
    fail "go"
    refine ⟨A.x, A.dx, _, rfl, hx, fz_no (by decide +kernel), ?_⟩
    clear hx
    refine ⟨q, P1, ps1, L, _, hL, hL.mem (.tail _ (List.mem_append_left _ hc)), hT, fun g1 d1 ps2 Z1 H hL hT2 hc1 => ?_⟩
    clear hT
    have hL : Led H ((g1, LamO g1 ⟨"<lambda>", q2, lamArgs lamD1, [], lamScope lamD1, cloFrom cl (lamScope lamD1).names [], d1⟩ (lamBody lamD1)) :: (P1, .tbl ps2) :: (Z1 ++ (L ++ (tbL PN PE PG t ++ flL CW CD A ns f S)))) := hL
    have hB : Led H ((P1, .tbl ps2) :: (((g1, LamO g1 ⟨"<lambda>", q2, lamArgs lamD1, [], lamScope lamD1, cloFrom cl (lamScope lamD1).names [], d1⟩ (lamBody lamD1)) :: (Z1 ++ L)) ++ (tbL PN PE PG t ++ flL CW CD A ns f S))) := hL.le (fun a_ => by simp only [cnt_cons, cnt_app, List.cons_append, List.append_assoc]; omega)
    clear hL
    refine ⟨q, P1, ps2, _, _, hB, hB.mem (.tail _ (List.mem_append_left _ (.tail _ (List.mem_append_right _ hc)))), hT2.mono fun a h => .tail _ h, fun g2 d2 ps3 Z2 H hL hT3 hc2 => ?_⟩
    clear hB
    have hL : Led H ((g2, LamO g2 ⟨"<lambda>", q2, lamArgs lamU1, [], lamScope lamU1, cloFrom cl (lamScope lamU1).names [], d2⟩ (lamBody lamU1)) :: (P1, .tbl ps3) :: (Z2 ++ (((g1, LamO g1 ⟨"<lambda>", q2, lamArgs lamD1, [], lamScope lamD1, cloFrom cl (lamScope lamD1).names [], d1⟩ (lamBody lamD1)) :: (Z1 ++ L)) ++ (tbL PN PE PG t ++ flL CW CD A ns f S)))) := hL
    refine ⟨((⟨"<lambda>", q2, lamArgs lamD1, [], lamScope lamD1, cloFrom cl (lamScope lamD1).names [], d1⟩, [some (.ref A.w0), some (failV ns f), some (.ref A.x)]), (⟨"<lambda>", q2, lamArgs lamU1, [], lamScope lamU1, cloFrom cl (lamScope lamU1).names [], d2⟩, [some (.ref A.w0)])), ⟨⟨rfl, rfl⟩, ⟨rfl, rfl⟩⟩, ?_⟩
    obtain ⟨W, hW⟩ : ∃ W : Lg, W = Z2 ++ ((g1, LamO g1 ⟨"<lambda>", q2, lamArgs lamD1, [], lamScope lamD1, cloFrom cl (lamScope lamD1).names [], d1⟩ (lamBody lamD1)) :: (Z1 ++ L)) := ⟨_, rfl⟩
    obtain ⟨V2, hV2⟩ : ∃ V2 : Lg, V2 = (g2, LamO g2 ⟨"<lambda>", q2, lamArgs lamU1, [], lamScope lamU1, cloFrom cl (lamScope lamU1).names [], d2⟩ (lamBody lamU1)) :: (Z2 ++ ((g1, LamO g1 ⟨"<lambda>", q2, lamArgs lamD1, [], lamScope lamD1, cloFrom cl (lamScope lamD1).names [], d1⟩ (lamBody lamD1)) :: Z1)) := ⟨_, rfl⟩
    have hVW : ∀ a ∈ W, a ∈ V2 ++ L := fun a h => by
      rw [hW] at h
      rw [hV2]
      rcases List.mem_append.mp h with h | h
      · exact List.mem_append_left _ (.tail _ (List.mem_append_left _ h))
      · rcases List.mem_cons.mp h with rfl | h
        · exact List.mem_append_left _ (.tail _ (List.mem_append_right _ (.head _)))
        · rcases List.mem_append.mp h with h | h
          · exact List.mem_append_left _ (.tail _ (List.mem_append_right _ (.tail _ h)))
          · exact List.mem_append_right _ h
    have hLV : ∀ a ∈ L, a ∈ V2 ++ L := fun a h => List.mem_append_right _ h
    have m1 : (g1, LamO g1 ⟨"<lambda>", q2, lamArgs lamD1, [], lamScope lamD1, cloFrom cl (lamScope lamD1).names [], d1⟩ (lamBody lamD1)) ∈ V2 := by rw [hV2]; exact .tail _ (List.mem_append_right _ (.head _))
    have m2 : (g2, LamO g2 ⟨"<lambda>", q2, lamArgs lamU1, [], lamScope lamU1, cloFrom cl (lamScope lamU1).names [], d2⟩ (lamBody lamU1)) ∈ V2 := by rw [hV2]; exact .head _
    have hB : Led H (tbL PN PE PG t ++ (flL CW CD A ns f S ++ ((P1, .tbl ps3) :: (V2 ++ L)))) := by
      rw [hV2]
      exact hL.le (fun a_ => by simp only [cnt_cons, cnt_app, List.cons_append, List.append_assoc]; omega)
    have hT4 : TabL q2 ps3 (V2 ++ L) := hT3.mono fun a h => hVW a (by rw [hW]; exact h)
    have mD : cdM ⟨"<lambda>", q2, lamArgs lamD1, [], lamScope lamD1, cloFrom cl (lamScope lamD1).names [], d1⟩ (V2 ++ L) := .inl (hVW _ (by
      rw [hW]
      exact List.mem_append_right _ (.tail _ hc1)))
    have mU : cdM ⟨"<lambda>", q2, lamArgs lamU1, [], lamScope lamU1, cloFrom cl (lamScope lamU1).names [], d2⟩ (V2 ++ L) := .inl (hVW _ (by
      rw [hW]
      exact hc2))
    clear hL hV2 hW hT3 hT2 hVW
    refine ⟨A, ns, f, S, g1, g2, _, _, t, (P1, .tbl ps3) :: (V2 ++ L), rfl, hn, hB, ok.mono fun a h => .tail _ (hLV a h), ht, hw, ⟨.tail _ (List.mem_append_left _ m1), mD.mono fun a h => .tail _ h, lokD1 c__law_do⟩, ⟨.tail _ (List.mem_append_left _ m2), mU.mono fun a h => .tail _ h, lokU1 c__law_undo⟩, rfl, rfl, fun S' t' Z H' ht' ok' hw' hj' hc' hL => ?_, fun hc S' t' Z H' ht' x' hL => ?_⟩
    · exact k1 S' t' ps3 (Z ++ V2) H' ht' (hT4.mono fun a h => by rw [List.append_assoc]; exact List.mem_append_right _ h) (ok'.monoT fun a xs h => mem_noT1 h) hw' hj' hc' (hL.le fun a_ => by simp only [cnt_cons, cnt_app, List.cons_append, List.append_assoc]; omega)
    · exact k2 hc S' t' ps3 (Z ++ V2) H' ht' (hT4.mono fun a h => by rw [List.append_assoc]; exact List.mem_append_right _ h) x' (hL.le fun a_ => by simp only [cnt_cons, cnt_app, List.cons_append, List.append_assoc]; omega)
end
end Sd


set_option linter.unusedVariables false
namespace Sd
open PySem L2 LamX NdefX PyProof.Rows
open C8 (Cal Met Mak pe_c pe_mk pe_mt pe_mt0 pss_cut tCut)
set_option linter.unusedSimpArgs false
set_option pp.deepTerms false
set_option pp.deepTerms.threshold 12
set_option hygiene false
local macro_rules | `(tactic| fail "nd") => `(tactic| first | assumption | decide +kernel)
local macro_rules | `(tactic| fail "ix") => `(tactic| first | exact ⟨0, rfl⟩ | exact ⟨1, rfl⟩ | exact ⟨2, rfl⟩ | exact ⟨3, rfl⟩ | exact ⟨4, rfl⟩ | exact ⟨5, rfl⟩ | exact ⟨6, rfl⟩ | exact ⟨7, rfl⟩ | exact ⟨8, rfl⟩ | exact ⟨9, rfl⟩ | exact ⟨10, rfl⟩ | exact ⟨11, rfl⟩ | exact ⟨12, rfl⟩ | exact ⟨13, rfl⟩ | exact ⟨14, rfl⟩ | exact ⟨15, rfl⟩ | exact ⟨16, rfl⟩ | exact ⟨17, rfl⟩ | exact ⟨18, rfl⟩ | assumption)
local macro_rules | `(tactic| fail "up") => `(tactic| first | exact ⟨0, rfl, rfl⟩ | exact ⟨1, rfl, rfl⟩ | exact ⟨2, rfl, rfl⟩ | exact ⟨3, rfl, rfl⟩ | exact ⟨4, rfl, rfl⟩ | exact ⟨5, rfl, rfl⟩ | exact ⟨6, rfl, rfl⟩ | exact ⟨7, rfl, rfl⟩ | exact ⟨8, rfl, rfl⟩ | exact ⟨9, rfl, rfl⟩ | exact ⟨10, rfl, rfl⟩ | exact ⟨11, rfl, rfl⟩ | exact ⟨12, rfl, rfl⟩ | exact ⟨13, rfl, rfl⟩ | exact ⟨14, rfl, rfl⟩ | exact ⟨15, rfl, rfl⟩ | exact ⟨16, rfl, rfl⟩ | assumption)
local macro_rules | `(tactic| fail "lkF") => `(tactic| first | assumption | exact fz_at 0 (by fail "nd") rfl rfl | exact fz_at 1 (by fail "nd") rfl rfl | exact fz_at 2 (by fail "nd") rfl rfl | exact fz_at 3 (by fail "nd") rfl rfl | exact fz_at 4 (by fail "nd") rfl rfl | exact fz_at 5 (by fail "nd") rfl rfl | exact fz_at 6 (by fail "nd") rfl rfl | exact fz_at 7 (by fail "nd") rfl rfl)
local macro_rules | `(tactic| fail "lkD") => `(tactic| first | assumption | exact dz_at 0 (by fail "nd") rfl rfl | exact dz_at 1 (by fail "nd") rfl rfl | exact dz_at 2 (by fail "nd") rfl rfl | exact dz_at 3 (by fail "nd") rfl rfl | exact dz_at 4 (by fail "nd") rfl rfl)
local macro_rules | `(tactic| fail "ptF") => `(tactic| first | assumption | exact fz_put 0 (by fail "nd") rfl (Nat.le_of_ble_eq_true rfl) | exact fz_put 1 (by fail "nd") rfl (Nat.le_of_ble_eq_true rfl) | exact fz_put 2 (by fail "nd") rfl (Nat.le_of_ble_eq_true rfl) | exact fz_put 3 (by fail "nd") rfl (Nat.le_of_ble_eq_true rfl) | exact fz_put 4 (by fail "nd") rfl (Nat.le_of_ble_eq_true rfl) | exact fz_put 5 (by fail "nd") rfl (Nat.le_of_ble_eq_true rfl) | exact fz_put 6 (by fail "nd") rfl (Nat.le_of_ble_eq_true rfl) | exact fz_put 7 (by fail "nd") rfl (Nat.le_of_ble_eq_true rfl) | exact fz_new (by decide +kernel) rfl)
local macro_rules | `(tactic| fail "ptD") => `(tactic| first | assumption | exact dz_put 0 (by fail "nd") rfl (Nat.le_of_ble_eq_true rfl) | exact dz_put 1 (by fail "nd") rfl (Nat.le_of_ble_eq_true rfl) | exact dz_put 2 (by fail "nd") rfl (Nat.le_of_ble_eq_true rfl) | exact dz_put 3 (by fail "nd") rfl (Nat.le_of_ble_eq_true rfl) | exact dz_put 4 (by fail "nd") rfl (Nat.le_of_ble_eq_true rfl))
local macro_rules | `(tactic| fail "sz") => `(tactic| first | assumption | exact (Nat.le_of_ble_eq_true rfl) | omega | decide)
local macro_rules | `(tactic| fail "sd") => `(tactic| first | rfl | assumption | decide | omega | (dsimp only; first | decide | omega) | exact .inr ⟨by decide, by decide⟩ | exact .inl ⟨by decide, by decide⟩ | exact ⟨by omega, by omega⟩ | exact .inl ⟨by omega, by omega⟩ | exact .inr ⟨by omega, by omega⟩ | exact ⟨by omega, by omega, by omega⟩)
local macro_rules | `(tactic| fail "cl") => `(tactic| (clear hH; dsimp only [List.set, List.cons_append, List.nil_append, List.append] at hL))
local macro_rules | `(tactic| fail "gn") => `(tactic| (intro p hp; generalize hH : upd H p _ = H; replace hL := Led.newH hL hp hH; clear hH hp))
local macro_rules | `(tactic| fail "gup") => `(tactic| (generalize hH : upd H _ _ = H; replace hL := Led.upU hL (by fail "up") hH; fail "cl"))
local macro_rules | `(tactic| fail "gmk") => `(tactic| (intro x dx hx hd ne; generalize hH : upd (upd H dx _) x _ = H; replace hL := Led.made hL hx hd ne hH; clear hH hx hd ne))
local macro_rules | `(tactic| fail "v") => `(tactic| refine ⟨_, rfl, ?_⟩)
local macro_rules | `(tactic| fail "i2") => `(tactic| refine ⟨_, _, rfl, rfl, ?_⟩)
local macro_rules | `(tactic| fail "go1") => `(tactic| first
  | refine ⟨_, rfl, ?_⟩
  | refine ⟨_, _, rfl, rfl, ?_⟩
  | refine ⟨_, _, rfl, ?_⟩
  | refine iteT ?_
  | refine iteF ?_
  | refine k_fld hL (by fail "ix") (by assumption) (by assumption) (by fail "lkF") ?_
  | refine k_dgetS hL (by fail "ix") (by fail "lkD") ?_
  | refine k_dgetI hL (by fail "ix") (by assumption) ?_
  | refine k_ixL hL (by fail "ix") (by first | rfl | assumption) ?_
  | refine k_ixT hL (by fail "ix") (by first | rfl | assumption) ?_
  | refine k_tyL hL (by fail "ix") ?_
  | refine k_isd hL (by fail "ix") ?_
  | (refine And.intro (by fail "sz") ?_; fail "gn")
  | refine And.intro (by fail "sd") ?_
  | fail "gn"
  | refine k_meth hL (by fail "ix") (by first | assumption | exact fz_no (by decide +kernel)) ?_
  | refine k_gtup hL (by fail "ix") rfl ?_
  | (refine k_popI hL (by fail "ix") (by assumption) ?_; fail "gup")
  | (refine k_listD hL (by fail "ix") ?_; fail "gn")
  | (refine ⟨_, _, _, _, rfl, rfl, hL.at (by fail "ix"), rfl, ?_⟩; fail "gup")
  | (refine ⟨_, _, _, rfl, rfl, hL.at (by fail "ix"), (by fail "sz"), ?_⟩; fail "gup")
  | (refine ⟨_, _, _, _, rfl, hL.at (by fail "ix"), by assumption, by assumption, Nat.lt_of_le_of_lt fz_len (by decide), ?_⟩; generalize hH : upd H _ _ = H; replace hL := Led.upF hL (by fail "up") (by fail "ptF") hH; fail "cl")
  | (refine ⟨_, _, hL.at (by fail "ix"), Nat.lt_of_le_of_lt fz_len (by decide), ?_⟩; generalize hH : upd H _ _ = H; replace hL := Led.upF hL (by fail "up") (by fail "ptF") hH; fail "cl")
  | (refine k_dputS hL (by fail "ix") (Nat.lt_of_le_of_lt dz_len (by decide)) (by fail "ptD") (by fail "up") ?_; clear hL; intro H hL; dsimp only [List.set, List.cons_append, List.nil_append, List.append] at hL)
  | refine k_lenL2 hL (by fail "ix") ?_
  | refine k_lenT2 hL (by fail "ix") ?_
  | refine .inl ⟨_, rfl, ?_⟩
  | refine .inr ⟨_, rfl, ?_⟩)
local macro_rules | `(tactic| fail "go") => `(tactic| repeat fail "go1")
local macro_rules | `(tactic| fail "pm") => `(tactic| (refine Led.le hL (fun a_ => ?_); simp only [cnt_nil, cnt_cons, cnt_app, List.map_append, List.map_cons, List.map_nil, List.flatMap_append, List.flatMap_cons, List.flatMap_nil, List.append_assoc, List.cons_append, List.nil_append]; omega))

/-- the tables -/
structure Tbs where
  n : Array Value
  u : Array Value
  i : Array Value
  e : Array Value
  g : Array Value
  l : Array Value
structure TbsOk (q q2 : Str) (t : Tbs) (Z : Lg) : Prop where
  n : TriplesOk t.n.toList
  u : TriplesOk t.u.toList
  i : TriplesOk t.i.toList
  e : TriplesOk t.e.toList
  g : TriplesOk t.g.toList
  l : TabT q q2 t.l Z
theorem TbsOk.mono {q q2 : Str} {t : Tbs} {Z Z' : Lg} (h : TbsOk q q2 t Z) (s : ∀ a ∈ Z, a ∈ Z') : TbsOk q q2 t Z' := ⟨h.n, h.u, h.i, h.e, h.g, h.l.mono s⟩
structure TbA where
  n : Addr
  u : Addr
  i : Addr
  e : Addr
  g : Addr
  l : Addr
  r : Addr
  d : Addr
def rlO (p : TbA) : Addr × HO := (p.r, .lst [.ref p.d])
def lwT (p : TbA) (t : Tbs) : Lg := (p.n, .tbl t.n) :: (p.u, .tbl t.u) :: (p.i, .tbl t.i) :: (p.e, .tbl t.e) :: (p.g, .tbl t.g) :: (p.l, .tbl t.l) :: rlO p :: []
/-- the law's dice, steps -/
def lwD (d l : Addr) (a b c : Int) (ns : List Str) : Lg := (d, dD a b c) :: (l, .lst (ns.map .str)) :: []
/-- without a flow -/
def hdL (CD : Addr) (A : FlA) (ns : List Str) (f : Nat) (S : FlS) : Lg := dkL CD A.D A.dd S.K S.W A.F S.dk ++ woL A.w0 S.Dn S.Un (ns.take S.d) ((unO ns f).take S.u)
theorem flL_hd {CW CD : Addr} {A : FlA} {ns : List Str} {f : Nat} {S : FlS} : flL CW CD A ns f S = wfL CW A.x A.dx A.D A.T A.R ns S.rvs ++ hdL CD A ns f S := rfl
structure HdOk (ns : List Str) (f : Nat) (S : FlS) : Prop where
  kb : S.dk.kb = framesB (((RWs ns f).take S.j).map rD)
  wb : S.dk.wb = []
  fs : S.dk.fs = []
  j : S.j ≤ lenN ns.length f
  w : WOk ns.length f S.j S.d S.u
def shL (d l : Addr) (fv : V) (w0 D : Addr) (e t v9 v10 : Option V) (σ : L2.St) : Prop := ∃ v0 v3 v11 v12 v13 v14 v15 v16 v17 v18, σ = [v0, some (.ref d), some (.ref l), v3, some fv, some (.ref w0), some (.ref D), e, t, v9, v10, v11, v12, v13, v14, v15, v16, v17, v18]
theorem NsOk.good {ns : List Str} {f j : Nat} (h : NsOk ns f) (hj : j ≤ lenN ns.length f) : goodW ns ((RWs ns f).take j) = true := by
  unfold goodW
  rw [Bool.and_eq_true, Bool.and_eq_true, decide_eq_true_eq, decide_eq_true_eq]
  refine ⟨⟨fun z => by have := h.pos; rw [z] at this; exact absurd this (by decide), h.nd⟩, ?_⟩
  rw [List.all_eq_true]
  intro r hr
  obtain ⟨p, hp, rfl⟩ := List.mem_map.mp (List.mem_of_mem_take hr)
  have hw := (h.fct (Nat.zero_le _)).wf p hp
  unfold rowG
  rw [Bool.and_eq_true, decide_eq_true_eq, decide_eq_true_eq]
  refine ⟨?_, ?_⟩
  · show wdS p.1 ∈ W4
    match p.1, hw.2 with
    | 0, _ => decide +kernel
    | 1, _ => decide +kernel
    | 2, _ => decide +kernel
    | 3, _ => decide +kernel
  · show ns.getD p.2 "" ∈ ns
    rw [getD_at (List.getElem?_eq_getElem hw.1)]
    exact List.getElem_mem hw.1
theorem cut_nil : Cut [] := .inl (by decide)
/-- flow = told(lambda: Workflow(disk, steps)) -/
def tFlow (CW CD : Addr) (p : TbA) (q q2 : Str) : TS := fun D σ H => ∃ (A : FlA) (ns : List Str) (f : Nat) (S : FlS) (d l : Addr) (a b c : Int) (t : Tbs) (Z : Lg) (e tn v9 v10 : Option V), shL d l (failV ns f) A.w0 A.D e tn v9 v10 σ ∧ NsOk ns f ∧ HdOk ns f S ∧ TbsOk q q2 t Z ∧
  Led H (lwT p t ++ (lwD d l a b c ns ++ (hdL CD A ns f S ++ Z))) ∧
  ∀ (A' : FlA) (S' : FlS) (t' : Tbs) (Z' : Lg) H', A'.D = A.D → A'.w0 = A.w0 → S'.dk = S.dk → FlOk ns f S' (Z' ++ Z) → WOk ns.length f S'.j S'.d S'.u → S'.j = S.j → TbsOk q q2 t' (Z' ++ Z) → Led H' (lwT p t' ++ (lwD d l a b c ns ++ (flL CW CD A' ns f S' ++ (Z' ++ Z)))) → D.nx (σ.set 9 (some (.ref A'.x))) H'
theorem hfW : ∀ y ∈ (lamScope lamW).names, y.2 = .free → (defScope sLaw).names.lookup y.1 = some .cell := by decide +kernel
theorem hgW : ∀ y ∈ NLWf, (y, NameKind.free) ∈ (lamScope lamW).names := by decide +kernel
theorem hfG : ∀ y ∈ (lamScope lamG).names, y.2 = .free → (defScope sLaw).names.lookup y.1 = some .cell := by decide +kernel
theorem hgG : ∀ y ∈ NLg, (y, NameKind.free) ∈ (lamScope lamG).names := by decide +kernel
abbrev ToI : Type := NF × List (Option V)
section
variable {P : Program} {w : World} {K : PySem.W.Frag} {mg : Str → Option Value} {base : Heap} {CW CD CE CQ : Addr} {p : TbA} {f cL : Addr} {A : Around} {outer : List Env} {s0 : Shared} {H0 : Hp} {E : XK}
theorem st_flow (hr : Room 22 (LX P w K mg base f (.ref cL) A outer s0 H0 E).A) (TB : LamX.TabB base mg cL p.l) {gT : Addr} {l2 : List (Addr × Str)} (c_told : ∀ i : ToI, CalS P w K mg base 21 "_law_told" (gTold i.1 NLWf i.2) (spToldS P w K mg base 20 l2 i.1 NLWf i.2)) (hmT : mg "_law_told" = some (.ref gT)) (kpT : PySem.W.keepIn K (.ref gT) = true)
    (c_Workflow : MakX P w K mg base 18 "Workflow" CW (spWInit CW CD CQ p.u p.i) []) :
    PS (LX P w K mg base f (.ref cL) A outer s0 H0 E) (nth turnB 2) (tFlow CW CD p ((LX P w K mg base f (.ref cL) A outer s0 H0 E).env.qual ++ "<lambda>") ((((LX P w K mg base f (.ref cL) A outer s0 H0 E).env.qual ++ "<lambda>") ++ ".<locals>.") ++ "<lambda>")) := by
  refine ps_imp (t := _) (ps_set (i := 9) scLaw.nd rfl (Or.inr rfl) (pe_cS (R := fun i σ => i.1.cl = cloFrom (LX P w K mg base f (.ref cL) A outer s0 H0 E).env.cells (lamScope lamW).names [] ∧ i.2 = [6, 2].map (slotAt σ)) c_told hr (by decide) (fun i pins σ H s I hR => ?_) rfl hmT kpT L2.takes0 (pa_cons (pe_lamvT (q2 := (((LX P w K mg base f (.ref cL) A outer s0 H0 E).env.qual ++ "<lambda>") ++ ".<locals>.") ++ "<lambda>") TB rfl rfl rfl hfW) pa_nil))) ?_
  · show CellsO i.1.cl NLWf i.2 _ _ _
    rw [hR.1, hR.2]
    exact CellsO.made (fun _ => rfl) I (Caps.made I.ok (fun y hy e => .inl (hfW y hy e)) hgW rfl)
  rintro D σ H ⟨A1, ns, f1, S, d, l, a, b, c, t, Z, e, tn, v9, v10, ⟨v0, v3, v11, v12, v13, v14, v15, v16, v17, v18, rfl⟩, hn, ok, ht, hL, k⟩
  refine ⟨t.l, Z, (p.n, .tbl t.n) :: (p.u, .tbl t.u) :: (p.i, .tbl t.i) :: (p.e, .tbl t.e) :: (p.g, .tbl t.g) :: rlO p :: (lwD d l a b c ns ++ hdL CD A1 ns f1 S), by unfold lwT at hL; fail "pm", ht.l, fun g c' P1 ps1 pl' Z2 H hL hT hc h4 h5 => ?_⟩
  have hmD : cdM ⟨"<lambda>", (LX P w K mg base f (.ref cL) A outer s0 H0 E).env.qual ++ "<lambda>", lamArgs lamW, [], lamScope lamW, cloFrom (LX P w K mg base f (.ref cL) A outer s0 H0 E).env.cells (lamScope lamW).names [], c'⟩ (Z2 ++ Z) := .inr ⟨P1, hc⟩
  refine ⟨(⟨"<lambda>", (LX P w K mg base f (.ref cL) A outer s0 H0 E).env.qual ++ "<lambda>", lamArgs lamW, [], lamScope lamW, cloFrom (LX P w K mg base f (.ref cL) A outer s0 H0 E).env.cells (lamScope lamW).names [], c'⟩, [some (.ref A1.D), some (.ref l)]), ⟨rfl, rfl⟩, g, lamBody lamW, tlW CW CD CQ p.u p.i, rfl, hL.at ⟨0, rfl⟩, hmD.at hL (fun a h => .tail _ (.tail _ (by rw [← List.append_assoc]; exact List.mem_append_left _ h))), lokW c_Workflow, rfl, A1.D, l, rfl, ?_⟩
  clear hmD
  have hz1 := hn.bytes (j := S.j)
  have hz3 : 3000 ≤ sizeLine := by decide
  have hnz := hn.z
  have hA : Led H ((p.u, .tbl t.u) :: (p.i, .tbl t.i) :: (dkL CD A1.D A1.dd S.K S.W A1.F S.dk ++ (lwD d l a b c ns ++ (woL A1.w0 S.Dn S.Un (ns.take S.d) ((unO ns f1).take S.u) ++ ((p.n, .tbl t.n) :: (p.e, .tbl t.e) :: (p.g, .tbl t.g) :: (p.l, .tbl pl') :: rlO p :: (Z2 ++ Z)))))) := by
    unfold hdL at hL
    exact hL.tail.le (fun a_ => by simp only [cnt_cons, cnt_app, List.cons_append, List.append_assoc]; omega)
  clear hL
  refine ⟨A1.dd, S.K, S.W, A1.F, S.dk, ns, (RWs ns f1).take S.j, [], t.u, t.i, _, hA, ht.u, ht.i, List.mem_append_left _ (.tail _ (.head _)), by omega, by rw [ok.kb, ok.wb], by rw [ok.kb, ok.wb, List.length_nil]; omega, fun r hr => (hn.pk (List.mem_of_mem_take hr)).1, hn.rsz, cut_nil, fun hg x dx T R rvs Zr pu pi H tu ti hz hL => ?_, fun hg => ?_⟩
  · refine k { A1 with x := x, dx := dx, T := T, R := R } { S with rvs := rvs } { t with u := pu, i := pi, l := pl' } (Zr ++ Z2) H rfl rfl rfl ⟨hz.mono fun a h => List.mem_append_left _ (List.mem_append_left _ h), ok.kb, ok.wb, ok.fs, ok.j⟩ ok.w rfl ⟨ht.n, tu, ti, ht.e, ht.g, hT.mono fun a h => by rw [List.append_assoc]; exact List.mem_append_right _ h⟩ ?_
    unfold lwT flL
    dsimp only
    exact hL.le (fun a_ => by simp only [cnt_cons, cnt_nil, cnt_app, List.cons_append, List.append_assoc, List.nil_append]; omega)
  · rw [hn.good ok.j] at hg
    cases hg
end
end Sd


set_option linter.unusedVariables false
namespace Sd
open PySem L2 LamX NdefX PyProof.Rows
open C8 (Cal Met Mak pe_c pe_mk pe_mt pe_mt0 pss_cut tCut)
set_option linter.unusedSimpArgs false
set_option pp.deepTerms false
set_option pp.deepTerms.threshold 12
set_option hygiene false
local macro_rules | `(tactic| fail "nd") => `(tactic| first | assumption | decide +kernel)
local macro_rules | `(tactic| fail "ix") => `(tactic| first | exact ⟨0, rfl⟩ | exact ⟨1, rfl⟩ | exact ⟨2, rfl⟩ | exact ⟨3, rfl⟩ | exact ⟨4, rfl⟩ | exact ⟨5, rfl⟩ | exact ⟨6, rfl⟩ | exact ⟨7, rfl⟩ | exact ⟨8, rfl⟩ | exact ⟨9, rfl⟩ | exact ⟨10, rfl⟩ | exact ⟨11, rfl⟩ | exact ⟨12, rfl⟩ | exact ⟨13, rfl⟩ | exact ⟨14, rfl⟩ | exact ⟨15, rfl⟩ | exact ⟨16, rfl⟩ | exact ⟨17, rfl⟩ | exact ⟨18, rfl⟩ | assumption)
local macro_rules | `(tactic| fail "up") => `(tactic| first | exact ⟨0, rfl, rfl⟩ | exact ⟨1, rfl, rfl⟩ | exact ⟨2, rfl, rfl⟩ | exact ⟨3, rfl, rfl⟩ | exact ⟨4, rfl, rfl⟩ | exact ⟨5, rfl, rfl⟩ | exact ⟨6, rfl, rfl⟩ | exact ⟨7, rfl, rfl⟩ | exact ⟨8, rfl, rfl⟩ | exact ⟨9, rfl, rfl⟩ | exact ⟨10, rfl, rfl⟩ | exact ⟨11, rfl, rfl⟩ | exact ⟨12, rfl, rfl⟩ | exact ⟨13, rfl, rfl⟩ | exact ⟨14, rfl, rfl⟩ | exact ⟨15, rfl, rfl⟩ | exact ⟨16, rfl, rfl⟩ | assumption)
local macro_rules | `(tactic| fail "lkF") => `(tactic| first | assumption | exact fz_at 0 (by fail "nd") rfl rfl | exact fz_at 1 (by fail "nd") rfl rfl | exact fz_at 2 (by fail "nd") rfl rfl | exact fz_at 3 (by fail "nd") rfl rfl | exact fz_at 4 (by fail "nd") rfl rfl | exact fz_at 5 (by fail "nd") rfl rfl | exact fz_at 6 (by fail "nd") rfl rfl | exact fz_at 7 (by fail "nd") rfl rfl)
local macro_rules | `(tactic| fail "lkD") => `(tactic| first | assumption | exact dz_at 0 (by fail "nd") rfl rfl | exact dz_at 1 (by fail "nd") rfl rfl | exact dz_at 2 (by fail "nd") rfl rfl | exact dz_at 3 (by fail "nd") rfl rfl | exact dz_at 4 (by fail "nd") rfl rfl)
local macro_rules | `(tactic| fail "ptF") => `(tactic| first | assumption | exact fz_put 0 (by fail "nd") rfl (Nat.le_of_ble_eq_true rfl) | exact fz_put 1 (by fail "nd") rfl (Nat.le_of_ble_eq_true rfl) | exact fz_put 2 (by fail "nd") rfl (Nat.le_of_ble_eq_true rfl) | exact fz_put 3 (by fail "nd") rfl (Nat.le_of_ble_eq_true rfl) | exact fz_put 4 (by fail "nd") rfl (Nat.le_of_ble_eq_true rfl) | exact fz_put 5 (by fail "nd") rfl (Nat.le_of_ble_eq_true rfl) | exact fz_put 6 (by fail "nd") rfl (Nat.le_of_ble_eq_true rfl) | exact fz_put 7 (by fail "nd") rfl (Nat.le_of_ble_eq_true rfl) | exact fz_new (by decide +kernel) rfl)
local macro_rules | `(tactic| fail "ptD") => `(tactic| first | assumption | exact dz_put 0 (by fail "nd") rfl (Nat.le_of_ble_eq_true rfl) | exact dz_put 1 (by fail "nd") rfl (Nat.le_of_ble_eq_true rfl) | exact dz_put 2 (by fail "nd") rfl (Nat.le_of_ble_eq_true rfl) | exact dz_put 3 (by fail "nd") rfl (Nat.le_of_ble_eq_true rfl) | exact dz_put 4 (by fail "nd") rfl (Nat.le_of_ble_eq_true rfl))
local macro_rules | `(tactic| fail "sz") => `(tactic| first | assumption | exact (Nat.le_of_ble_eq_true rfl) | omega | decide)
local macro_rules | `(tactic| fail "sd") => `(tactic| first | rfl | assumption | decide | omega | (dsimp only; first | decide | omega) | exact .inr ⟨by decide, by decide⟩ | exact .inl ⟨by decide, by decide⟩ | exact ⟨by omega, by omega⟩ | exact .inl ⟨by omega, by omega⟩ | exact .inr ⟨by omega, by omega⟩ | exact ⟨by omega, by omega, by omega⟩)
local macro_rules | `(tactic| fail "cl") => `(tactic| (clear hH; dsimp only [List.set, List.cons_append, List.nil_append, List.append] at hL))
local macro_rules | `(tactic| fail "gn") => `(tactic| (intro p hp; generalize hH : upd H p _ = H; replace hL := Led.newH hL hp hH; clear hH hp))
local macro_rules | `(tactic| fail "gup") => `(tactic| (generalize hH : upd H _ _ = H; replace hL := Led.upU hL (by fail "up") hH; fail "cl"))
local macro_rules | `(tactic| fail "gmk") => `(tactic| (intro x dx hx hd ne; generalize hH : upd (upd H dx _) x _ = H; replace hL := Led.made hL hx hd ne hH; clear hH hx hd ne))
local macro_rules | `(tactic| fail "v") => `(tactic| refine ⟨_, rfl, ?_⟩)
local macro_rules | `(tactic| fail "i2") => `(tactic| refine ⟨_, _, rfl, rfl, ?_⟩)
local macro_rules | `(tactic| fail "go1") => `(tactic| first
  | refine ⟨_, rfl, ?_⟩
  | refine ⟨_, _, rfl, rfl, ?_⟩
  | refine ⟨_, _, rfl, ?_⟩
  | refine iteT ?_
  | refine iteF ?_
  | refine k_fld hL (by fail "ix") (by assumption) (by assumption) (by fail "lkF") ?_
  | refine k_dgetS hL (by fail "ix") (by fail "lkD") ?_
  | refine k_dgetI hL (by fail "ix") (by assumption) ?_
  | refine k_ixL hL (by fail "ix") (by first | rfl | assumption) ?_
  | refine k_ixT hL (by fail "ix") (by first | rfl | assumption) ?_
  | refine k_tyL hL (by fail "ix") ?_
  | refine k_isd hL (by fail "ix") ?_
  | (refine And.intro (by fail "sz") ?_; fail "gn")
  | refine And.intro (by fail "sd") ?_
  | fail "gn"
  | refine k_meth hL (by fail "ix") (by first | assumption | exact fz_no (by decide +kernel)) ?_
  | refine k_gtup hL (by fail "ix") rfl ?_
  | (refine k_popI hL (by fail "ix") (by assumption) ?_; fail "gup")
  | (refine k_listD hL (by fail "ix") ?_; fail "gn")
  | (refine ⟨_, _, _, _, rfl, rfl, hL.at (by fail "ix"), rfl, ?_⟩; fail "gup")
  | (refine ⟨_, _, _, rfl, rfl, hL.at (by fail "ix"), (by fail "sz"), ?_⟩; fail "gup")
  | (refine ⟨_, _, _, _, rfl, hL.at (by fail "ix"), by assumption, by assumption, Nat.lt_of_le_of_lt fz_len (by decide), ?_⟩; generalize hH : upd H _ _ = H; replace hL := Led.upF hL (by fail "up") (by fail "ptF") hH; fail "cl")
  | (refine ⟨_, _, hL.at (by fail "ix"), Nat.lt_of_le_of_lt fz_len (by decide), ?_⟩; generalize hH : upd H _ _ = H; replace hL := Led.upF hL (by fail "up") (by fail "ptF") hH; fail "cl")
  | (refine k_dputS hL (by fail "ix") (Nat.lt_of_le_of_lt dz_len (by decide)) (by fail "ptD") (by fail "up") ?_; clear hL; intro H hL; dsimp only [List.set, List.cons_append, List.nil_append, List.append] at hL)
  | refine k_lenL2 hL (by fail "ix") ?_
  | refine k_lenT2 hL (by fail "ix") ?_
  | refine .inl ⟨_, rfl, ?_⟩
  | refine .inr ⟨_, rfl, ?_⟩)
local macro_rules | `(tactic| fail "go") => `(tactic| repeat fail "go1")
local macro_rules | `(tactic| fail "pm") => `(tactic| (refine Led.le hL (fun a_ => ?_); simp only [cnt_nil, cnt_cons, cnt_app, List.map_append, List.map_cons, List.map_nil, List.flatMap_append, List.flatMap_cons, List.flatMap_nil, List.append_assoc, List.cons_append, List.nil_append]; omega))

theorem mem_out {W s t : Lg} {P1 a : Addr} {o o1 : HO} (e : W = s ++ (P1, o1) :: t) (h : (a, o) ∈ W) (hn : o ≠ o1) : (a, o) ∈ s ++ t := by
  rw [e] at h
  rcases List.mem_append.mp h with h | h
  · exact List.mem_append_left _ h
  · rcases List.mem_cons.mp h with h | h
    · exact absurd (congrArg Prod.snd h) hn
    · exact List.mem_append_right _ h
theorem codeT_tbl {c P1 : Addr} {q : Str} {x : Array Value} : CodeT c q P1 ≠ .tbl x := fun e => by unfold CodeT at e; cases e
theorem codeO_tbl {c : Addr} {q : Str} {x : Array Value} : CodeO c q ≠ .tbl x := fun e => by unfold CodeO at e; cases e
theorem codeO_lst {c : Addr} {q : Str} {x : List V} : CodeO c q ≠ .lst x := fun e => by unfold CodeO at e; cases e
theorem TabL.monoX {q : Str} {ps : Array Value} {L L' : Lg} (h : TabL q ps L) (s : ∀ c, (c, CodeO c q) ∈ L → (c, CodeO c q) ∈ L') : TabL q ps L' := ⟨h.1, fun pos cv e => let ⟨c, e1, e2⟩ := h.2 pos cv e; ⟨c, e1, s _ e2⟩⟩
/-- the table of one code grows -/
theorem TabT.upd {q q2 : Str} {pl ps1 ps1' : Array Value} {W s t Zn : Lg} {P1 : Addr} (h : TabT q q2 pl W) (e : W = s ++ (P1, .tbl ps1) :: t) (h2 : TabL q2 ps1' (Zn ++ (s ++ t))) : TabT q q2 pl ((P1, .tbl ps1') :: (Zn ++ (s ++ t))) := by
  refine ⟨h.1, fun pos cv hc => ?_⟩
  obtain ⟨c, P2, ps2, e1, e2, e3, e4⟩ := h.2 pos cv hc
  have m := mem_out e e2 codeT_tbl
  by_cases hp : P2 = P1
  · subst hp
    exact ⟨c, P2, ps1', e1, .tail _ (List.mem_append_right _ m), .head _, h2.mono fun a h => .tail _ h⟩
  · have e3' : (P2, HO.tbl ps2) ∈ s ++ t := by
      rw [e] at e3
      rcases List.mem_append.mp e3 with h | h
      · exact List.mem_append_left _ h
      · rcases List.mem_cons.mp h with h | h
        · exact absurd (congrArg Prod.fst h) hp
        · exact List.mem_append_right _ h
    exact ⟨c, P2, ps2, e1, .tail _ (List.mem_append_right _ m), .tail _ (List.mem_append_right _ e3'), e4.monoX fun c h => .tail _ (List.mem_append_right _ (mem_out e h codeO_tbl))⟩
/-- what stands beside -/
def besL (p : TbA) (pu pi pl : Array Value) (d l : Addr) (a b c : Int) (ns : List Str) : Lg := (p.u, .tbl pu) :: (p.i, .tbl pi) :: (p.l, .tbl pl) :: rlO p :: lwD d l a b c ns
theorem mem_bes {p : TbA} {pu pi pl : Array Value} {d l : Addr} {a b c : Int} {ns : List Str} {x : Addr} {o : HO} {Zn L0 : Lg} (h1 : ∀ x, o ≠ .tbl x) (h2 : ∀ x, o ≠ .lst x) (h : (x, o) ∈ Zn ++ (L0 ++ besL p pu pi pl d l a b c ns)) : (x, o) ∈ Zn ++ L0 := by
  rw [← List.append_assoc] at h
  rcases List.mem_append.mp h with h | h
  · exact h
  · exfalso
    unfold besL lwD rlO at h
    rcases List.mem_cons.mp h with h | h
    · exact h1 _ (congrArg Prod.snd h)
    rcases List.mem_cons.mp h with h | h
    · exact h1 _ (congrArg Prod.snd h)
    rcases List.mem_cons.mp h with h | h
    · exact h1 _ (congrArg Prod.snd h)
    rcases List.mem_cons.mp h with h | h
    · exact h2 _ (congrArg Prod.snd h)
    rcases List.mem_cons.mp h with h | h
    · exact h2 _ (congrArg Prod.snd h)
    rcases List.mem_cons.mp h with h | h
    · exact h2 _ (congrArg Prod.snd h)
    · cases h
def tGoS (CW CD : Addr) (p : TbA) (q q2 : Str) : TS := fun D σ H => ∃ (A : FlA) (ns : List Str) (f : Nat) (S : FlS) (d l : Addr) (a b c : Int) (t : Tbs) (Z : Lg) (e tn v10 : Option V), shL d l (failV ns f) A.w0 A.D e tn (some (.ref A.x)) v10 σ ∧ NsOk ns f ∧ FlOk ns f S Z ∧ WOk ns.length f S.j S.d S.u ∧ TbsOk q q2 t Z ∧
  Led H (lwT p t ++ (lwD d l a b c ns ++ (flL CW CD A ns f S ++ Z))) ∧
  (∀ (S' : FlS) (t' : Tbs) (Z' : Lg) H', FlOk ns f S' Z' → WOk ns.length f S'.j S'.d S'.u → S'.j = lenN ns.length f → TbsOk q q2 t' Z' → Led H' (lwT p t' ++ (lwD d l a b c ns ++ (flL CW CD A ns f S' ++ Z'))) → D.nx (σ.set 7 (some (.str (endW ns f)))) H') ∧
  (¬ calm S.dk → ∀ (S' : FlS) (t' : Tbs) (Z' : Lg) H', FlX ns f S' → TbsOk q q2 t' Z' → Led H' (lwT p t' ++ (lwD d l a b c ns ++ (flL CW CD A ns f S' ++ Z'))) → D.nx (σ.set 7 (some (.str "StoreError"))) H')
section
variable {P : Program} {w : World} {K : PySem.W.Frag} {mg : Str → Option Value} {base : Heap} {CW CD CE CQ : Addr} {p : TbA} {f cL : Addr} {A : Around} {outer : List Env} {s0 : Shared} {H0 : Hp} {E : XK}
theorem st_go (hr : Room 22 (LX P w K mg base f (.ref cL) A outer s0 H0 E).A) (TB : LamX.TabB base mg cL p.l) {gT : Addr} (c_told : ∀ i : ToI, CalS P w K mg base 14 "_law_told" (gTold i.1 NLg i.2) (spToldS P w K mg base 13 [(CQ, "QueueError"), (CE, "StoreError")] i.1 NLg i.2)) (hmT : mg "_law_told" = some (.ref gT)) (kpT : PySem.W.keepIn K (.ref gT) = true)
    (X : TxtWf K CW) (c_Workflow_go : ∀ i : GoI, MetS P w K mg base 12 CW "go" (gGo i) (spGo P w K mg base CW CD CE p.n p.e p.g i.1.1 i.2.1 i.1.2 i.2.2)) {fgo : Addr} (hm : Meth K CW "go" fgo)
    (c__law_do : Cal P w K mg base 2 "_law_do" (spLDo CW) []) (c__law_undo : Cal P w K mg base 1 "_law_undo" spLUndo []) (TE : ExcT K mg "StoreError" CE) (hEQ : PySem.W.exmOne K (.ref CE) (.ref CQ) = some false) :
    PS (LX P w K mg base f (.ref cL) A outer s0 H0 E) (nth turnB 5) (tGoS CW CD p ((LX P w K mg base f (.ref cL) A outer s0 H0 E).env.qual ++ "<lambda>") ((((LX P w K mg base f (.ref cL) A outer s0 H0 E).env.qual ++ "<lambda>") ++ ".<locals>.") ++ "<lambda>")) := by
  refine ps_imp (t := _) (ps_set (i := 7) scLaw.nd rfl (Or.inl rfl) (pe_cS (R := fun i σ => i.1.cl = cloFrom (LX P w K mg base f (.ref cL) A outer s0 H0 E).env.cells (lamScope lamG).names [] ∧ i.2 = [9, 5, 4].map (slotAt σ)) c_told hr (by decide) (fun i pins σ H s I hR => ?_) rfl hmT kpT L2.takes0 (pa_cons (pe_lamvT (q2 := (((LX P w K mg base f (.ref cL) A outer s0 H0 E).env.qual ++ "<lambda>") ++ ".<locals>.") ++ "<lambda>") TB rfl rfl rfl hfG) pa_nil))) ?_
  · show CellsO i.1.cl NLg i.2 _ _ _
    rw [hR.1, hR.2]
    exact CellsO.made (fun _ => rfl) I (Caps.made I.ok (fun y hy e => .inl (hfG y hy e)) hgG rfl)
  rintro D σ H ⟨A1, ns, f1, S, d, l, a, b, c, t, Z, e, tn, v10, ⟨v0, v3, v11, v12, v13, v14, v15, v16, v17, v18, rfl⟩, hn, ok, hw, ht, hL, k1, k2⟩
  refine ⟨t.l, Z, (p.n, .tbl t.n) :: (p.u, .tbl t.u) :: (p.i, .tbl t.i) :: (p.e, .tbl t.e) :: (p.g, .tbl t.g) :: rlO p :: (lwD d l a b c ns ++ flL CW CD A1 ns f1 S), by unfold lwT at hL; fail "pm", ht.l, fun g c' P1 ps1 pl' Z2 H hL hT hc h4 h5 => ?_⟩
  obtain ⟨q, hq⟩ : ∃ q : Str, q = (LX P w K mg base f (.ref cL) A outer s0 H0 E).env.qual ++ "<lambda>" := ⟨_, rfl⟩
  have hmD : cdM ⟨"<lambda>", (LX P w K mg base f (.ref cL) A outer s0 H0 E).env.qual ++ "<lambda>", lamArgs lamG, [], lamScope lamG, cloFrom (LX P w K mg base f (.ref cL) A outer s0 H0 E).env.cells (lamScope lamG).names [], c'⟩ (Z2 ++ Z) := .inr ⟨P1, hc⟩
  refine ⟨(⟨"<lambda>", (LX P w K mg base f (.ref cL) A outer s0 H0 E).env.qual ++ "<lambda>", lamArgs lamG, [], lamScope lamG, cloFrom (LX P w K mg base f (.ref cL) A outer s0 H0 E).env.cells (lamScope lamG).names [], c'⟩, [some (.ref A1.x), some (.ref A1.w0), some (failV ns f1)]), ⟨rfl, rfl⟩, g, lamBody lamG, tlG CW CD CE p.n p.e p.g c' ((LX P w K mg base f (.ref cL) A outer s0 H0 E).env.qual ++ "<lambda>") ((((LX P w K mg base f (.ref cL) A outer s0 H0 E).env.qual ++ "<lambda>") ++ ".<locals>.") ++ "<lambda>"), rfl, hL.at ⟨0, rfl⟩, hmD.at hL (fun a h => .tail _ (.tail _ (by rw [← List.append_assoc]; exact List.mem_append_left _ h))), lokG TB rfl X c_Workflow_go hm c__law_do c__law_undo, rfl, ?_⟩
  clear hmD
  generalize (LX P w K mg base f (.ref cL) A outer s0 H0 E).env.qual ++ "<lambda>" = q at *
  generalize (q ++ ".<locals>.") ++ "<lambda>" = q2 at *
  obtain ⟨s, r, hs⟩ := List.append_of_mem h4
  have hcs : ∀ a_, cnt a_ Z2 + cnt a_ Z = cnt a_ s + (one1 a_ (P1, .tbl ps1) + cnt a_ r) := fun a_ => by
    have := congrArg (cnt a_) hs
    simpa only [cnt_app, cnt_cons] using this
  have hA : Led H ((P1, .tbl ps1) :: (((s ++ r) ++ besL p t.u t.i pl' d l a b c ns) ++ (tbL p.n p.e p.g ⟨t.n, t.e, t.g⟩ ++ flL CW CD A1 ns f1 S))) := by
    unfold besL tbL
    exact hL.tail.le (fun a_ => by have := hcs a_; simp only [cnt_cons, cnt_nil, cnt_app, List.cons_append, List.append_assoc, List.nil_append]; omega)
  clear hL
  refine ⟨A1, ns, f1, S, ⟨t.n, t.e, t.g⟩, P1, ps1, (s ++ r) ++ besL p t.u t.i pl' d l a b c ns, rfl, hn, hA, List.mem_append_left _ (mem_out hs hc codeT_tbl), h5.monoX fun c h => List.mem_append_left _ (mem_out hs h codeO_tbl), ok.monoT fun a xs h => List.mem_append_left _ (mem_out hs (List.mem_append_right _ h) (by nofun)), ⟨ht.n, ht.e, ht.g⟩, hw, fun S' t' ps1' Zn H' ht' hT' ok' hw' hj' hc' hL => ?_, fun hcm S' t' ps1' Zn H' ht' hT' x' hL => ?_⟩
  · have hTL : TabL q2 ps1' (Zn ++ (s ++ r)) := hT'.monoX fun c h => mem_bes (fun _ => codeO_tbl) (fun _ => codeO_lst) h
    refine k1 S' { t with n := t'.n, e := t'.e, g := t'.g, l := pl' } ((P1, .tbl ps1') :: (Zn ++ (s ++ r))) H' (ok'.monoT fun a xs h => .tail _ (mem_bes (by nofun) (by nofun) h)) hw' hj' ⟨ht'.n, ht.u, ht.i, ht'.e, ht'.g, hT.upd hs hTL⟩ ?_
    unfold besL tbL at hL
    unfold lwT
    dsimp only
    exact hL.le (fun a_ => by simp only [cnt_cons, cnt_nil, cnt_app, List.cons_append, List.append_assoc, List.nil_append]; omega)
  · have hTL : TabL q2 ps1' (Zn ++ (s ++ r)) := hT'.monoX fun c h => mem_bes (fun _ => codeO_tbl) (fun _ => codeO_lst) h
    refine ⟨false, hEQ, fun h => (nomatch h), fun _ => ⟨true, TE.em, fun _ => ?_, fun h => (nomatch h)⟩⟩
    refine k2 (fun z => hcm (.inl z)) S' { t with n := t'.n, e := t'.e, g := t'.g, l := pl' } ((P1, .tbl ps1') :: (Zn ++ (s ++ r))) H' x' ⟨ht'.n, ht.u, ht.i, ht'.e, ht'.g, hT.upd hs hTL⟩ ?_
    unfold besL tbL at hL
    unfold lwT
    dsimp only
    exact hL.le (fun a_ => by simp only [cnt_cons, cnt_nil, cnt_app, List.cons_append, List.append_assoc, List.nil_append]; omega)
end
end Sd


set_option linter.unusedVariables false
namespace Sd
open PySem L2 LamX NdefX PyProof.Rows
open C8 (Cal Met Mak pe_c pe_mk pe_mt pe_mt0 pss_cut tCut)
set_option linter.unusedSimpArgs false
set_option pp.deepTerms false
set_option pp.deepTerms.threshold 12
set_option hygiene false
local macro_rules | `(tactic| fail "nd") => `(tactic| first | assumption | decide +kernel)
local macro_rules | `(tactic| fail "ix") => `(tactic| first | exact ⟨0, rfl⟩ | exact ⟨1, rfl⟩ | exact ⟨2, rfl⟩ | exact ⟨3, rfl⟩ | exact ⟨4, rfl⟩ | exact ⟨5, rfl⟩ | exact ⟨6, rfl⟩ | exact ⟨7, rfl⟩ | exact ⟨8, rfl⟩ | exact ⟨9, rfl⟩ | exact ⟨10, rfl⟩ | exact ⟨11, rfl⟩ | exact ⟨12, rfl⟩ | exact ⟨13, rfl⟩ | exact ⟨14, rfl⟩ | exact ⟨15, rfl⟩ | exact ⟨16, rfl⟩ | exact ⟨17, rfl⟩ | exact ⟨18, rfl⟩ | assumption)
local macro_rules | `(tactic| fail "up") => `(tactic| first | exact ⟨0, rfl, rfl⟩ | exact ⟨1, rfl, rfl⟩ | exact ⟨2, rfl, rfl⟩ | exact ⟨3, rfl, rfl⟩ | exact ⟨4, rfl, rfl⟩ | exact ⟨5, rfl, rfl⟩ | exact ⟨6, rfl, rfl⟩ | exact ⟨7, rfl, rfl⟩ | exact ⟨8, rfl, rfl⟩ | exact ⟨9, rfl, rfl⟩ | exact ⟨10, rfl, rfl⟩ | exact ⟨11, rfl, rfl⟩ | exact ⟨12, rfl, rfl⟩ | exact ⟨13, rfl, rfl⟩ | exact ⟨14, rfl, rfl⟩ | exact ⟨15, rfl, rfl⟩ | exact ⟨16, rfl, rfl⟩ | assumption)
local macro_rules | `(tactic| fail "lkF") => `(tactic| first | assumption | exact fz_at 0 (by fail "nd") rfl rfl | exact fz_at 1 (by fail "nd") rfl rfl | exact fz_at 2 (by fail "nd") rfl rfl | exact fz_at 3 (by fail "nd") rfl rfl | exact fz_at 4 (by fail "nd") rfl rfl | exact fz_at 5 (by fail "nd") rfl rfl | exact fz_at 6 (by fail "nd") rfl rfl | exact fz_at 7 (by fail "nd") rfl rfl)
local macro_rules | `(tactic| fail "lkD") => `(tactic| first | assumption | exact dz_at 0 (by fail "nd") rfl rfl | exact dz_at 1 (by fail "nd") rfl rfl | exact dz_at 2 (by fail "nd") rfl rfl | exact dz_at 3 (by fail "nd") rfl rfl | exact dz_at 4 (by fail "nd") rfl rfl)
local macro_rules | `(tactic| fail "ptF") => `(tactic| first | assumption | exact fz_put 0 (by fail "nd") rfl (Nat.le_of_ble_eq_true rfl) | exact fz_put 1 (by fail "nd") rfl (Nat.le_of_ble_eq_true rfl) | exact fz_put 2 (by fail "nd") rfl (Nat.le_of_ble_eq_true rfl) | exact fz_put 3 (by fail "nd") rfl (Nat.le_of_ble_eq_true rfl) | exact fz_put 4 (by fail "nd") rfl (Nat.le_of_ble_eq_true rfl) | exact fz_put 5 (by fail "nd") rfl (Nat.le_of_ble_eq_true rfl) | exact fz_put 6 (by fail "nd") rfl (Nat.le_of_ble_eq_true rfl) | exact fz_put 7 (by fail "nd") rfl (Nat.le_of_ble_eq_true rfl) | exact fz_new (by decide +kernel) rfl)
local macro_rules | `(tactic| fail "ptD") => `(tactic| first | assumption | exact dz_put 0 (by fail "nd") rfl (Nat.le_of_ble_eq_true rfl) | exact dz_put 1 (by fail "nd") rfl (Nat.le_of_ble_eq_true rfl) | exact dz_put 2 (by fail "nd") rfl (Nat.le_of_ble_eq_true rfl) | exact dz_put 3 (by fail "nd") rfl (Nat.le_of_ble_eq_true rfl) | exact dz_put 4 (by fail "nd") rfl (Nat.le_of_ble_eq_true rfl))
local macro_rules | `(tactic| fail "sz") => `(tactic| first | assumption | exact (Nat.le_of_ble_eq_true rfl) | omega | decide)
local macro_rules | `(tactic| fail "sd") => `(tactic| first | rfl | assumption | decide | omega | (dsimp only; first | decide | omega) | exact .inr ⟨by decide, by decide⟩ | exact .inl ⟨by decide, by decide⟩ | exact ⟨by omega, by omega⟩ | exact .inl ⟨by omega, by omega⟩ | exact .inr ⟨by omega, by omega⟩ | exact ⟨by omega, by omega, by omega⟩)
local macro_rules | `(tactic| fail "cl") => `(tactic| (clear hH; dsimp only [List.set, List.cons_append, List.nil_append, List.append] at hL))
local macro_rules | `(tactic| fail "gn") => `(tactic| (intro p hp; generalize hH : upd H p _ = H; replace hL := Led.newH hL hp hH; clear hH hp))
local macro_rules | `(tactic| fail "gup") => `(tactic| (generalize hH : upd H _ _ = H; replace hL := Led.upU hL (by fail "up") hH; fail "cl"))
local macro_rules | `(tactic| fail "gmk") => `(tactic| (intro x dx hx hd ne; generalize hH : upd (upd H dx _) x _ = H; replace hL := Led.made hL hx hd ne hH; clear hH hx hd ne))
local macro_rules | `(tactic| fail "v") => `(tactic| refine ⟨_, rfl, ?_⟩)
local macro_rules | `(tactic| fail "i2") => `(tactic| refine ⟨_, _, rfl, rfl, ?_⟩)
local macro_rules | `(tactic| fail "go1") => `(tactic| first
  | refine ⟨_, rfl, ?_⟩
  | refine ⟨_, _, rfl, rfl, ?_⟩
  | refine ⟨_, _, rfl, ?_⟩
  | refine iteT ?_
  | refine iteF ?_
  | refine k_fld hL (by fail "ix") (by assumption) (by assumption) (by fail "lkF") ?_
  | refine k_dgetS hL (by fail "ix") (by fail "lkD") ?_
  | refine k_dgetI hL (by fail "ix") (by assumption) ?_
  | refine k_ixL hL (by fail "ix") (by first | rfl | assumption) ?_
  | refine k_ixT hL (by fail "ix") (by first | rfl | assumption) ?_
  | refine k_tyL hL (by fail "ix") ?_
  | refine k_isd hL (by fail "ix") ?_
  | (refine And.intro (by fail "sz") ?_; fail "gn")
  | refine And.intro (by fail "sd") ?_
  | fail "gn"
  | refine k_meth hL (by fail "ix") (by first | assumption | exact fz_no (by decide +kernel)) ?_
  | refine k_gtup hL (by fail "ix") rfl ?_
  | (refine k_popI hL (by fail "ix") (by assumption) ?_; fail "gup")
  | (refine k_listD hL (by fail "ix") ?_; fail "gn")
  | (refine ⟨_, _, _, _, rfl, rfl, hL.at (by fail "ix"), rfl, ?_⟩; fail "gup")
  | (refine ⟨_, _, _, rfl, rfl, hL.at (by fail "ix"), (by fail "sz"), ?_⟩; fail "gup")
  | (refine ⟨_, _, _, _, rfl, hL.at (by fail "ix"), by assumption, by assumption, Nat.lt_of_le_of_lt fz_len (by decide), ?_⟩; generalize hH : upd H _ _ = H; replace hL := Led.upF hL (by fail "up") (by fail "ptF") hH; fail "cl")
  | (refine ⟨_, _, hL.at (by fail "ix"), Nat.lt_of_le_of_lt fz_len (by decide), ?_⟩; generalize hH : upd H _ _ = H; replace hL := Led.upF hL (by fail "up") (by fail "ptF") hH; fail "cl")
  | (refine k_dputS hL (by fail "ix") (Nat.lt_of_le_of_lt dz_len (by decide)) (by fail "ptD") (by fail "up") ?_; clear hL; intro H hL; dsimp only [List.set, List.cons_append, List.nil_append, List.append] at hL)
  | refine k_lenL2 hL (by fail "ix") ?_
  | refine k_lenT2 hL (by fail "ix") ?_
  | refine .inl ⟨_, rfl, ?_⟩
  | refine .inr ⟨_, rfl, ?_⟩)
local macro_rules | `(tactic| fail "go") => `(tactic| repeat fail "go1")
local macro_rules | `(tactic| fail "pm") => `(tactic| (refine Led.le hL (fun a_ => ?_); simp only [cnt_nil, cnt_cons, cnt_app, List.map_append, List.map_cons, List.map_nil, List.flatMap_append, List.flatMap_cons, List.flatMap_nil, List.append_assoc, List.cons_append, List.nil_append]; omega))

theorem cut_part {b : List Int} {m : Nat} (hd : b.length ≤ 30) (h : m < (frameB b).length) : Cut ((frameB b).take m) := by
  have hl := frame_len (b := b)
  by_cases h8 : m < 8
  · left
    rw [List.length_take]; omega
  · right
    have h4 : ((frameB b).take m).take 4 = fourB b.length := by
      rw [List.take_take, Nat.min_eq_left (by omega)]
      unfold frameB
      rw [List.append_assoc]
      exact List.take_left' rfl
    rw [h4, many_four (Int.natCast_nonneg _) (by omega), List.length_take]
    omega
theorem frames_one {d : Dv} : framesB [d] = frameB (packB d) := by unfold framesB; simp
/-- what a crash leaves -/
theorem fall_rows {ns : List Str} {f : Nat} {S : FlS} (hn : NsOk ns f) (x : FlX ns f S) (m : Nat) : ∃ (j' : Nat) (tail : List Int), S.dk.kb ++ S.dk.wb.take m = framesB (((RWs ns f).take j').map rD) ++ tail ∧ Cut tail ∧ j' ≤ lenN ns.length f ∧ WOk ns.length f j' S.d S.u ∧ S.dk.kb.length + S.dk.wb.length ≤ 1000 := by
  have hz := hn.bytes (j := S.j)
  rcases x.w with ⟨e, hw⟩ | ⟨r, hr, e, hw, hw2⟩
  · exact ⟨S.j, [], by rw [x.kb, e, List.take_nil], cut_nil, x.j, hw, by rw [x.kb, e, List.length_nil]; omega⟩
  · have hp := (hn.pk (List.mem_of_getElem? hr)).2
    have hl : (rF r).length = (packB (rD r)).length + 8 := by rw [frame_len]
    have hle : S.dk.kb.length + S.dk.wb.length ≤ 1000 := by rw [x.kb, e]; omega
    have hjl : S.j < lenN ns.length f := by
      have := (List.getElem?_eq_some_iff.mp hr).1
      rwa [hn.lenR] at this
    by_cases hm : (rF r).length ≤ m
    · refine ⟨S.j + 1, [], ?_, cut_nil, hjl, hw2, hle⟩
      rw [x.kb, e, List.take_of_length_le hm, take_succ_at hr, List.map_append, framesB_app, List.append_nil]
      congr 1
      exact frames_one.symm
    · exact ⟨S.j, (rF r).take m, by rw [x.kb, e], cut_part hp (show m < (rF r).length by omega), x.j, hw, hle⟩
def tTurn (CW CD : Addr) (p : TbA) (q q2 : Str) : TS := fun D σ H => ∃ (A : FlA) (ns : List Str) (f : Nat) (S : FlS) (d l : Addr) (a b c : Int) (t : Tbs) (Z : Lg) (tn : Int) (v9 v10 : Option V), shL d l (failV ns f) A.w0 A.D (some (.str "StoreError")) (some (.int tn)) v9 v10 σ ∧ 0 ≤ tn ∧ tn ≤ 11 ∧ NsOk ns f ∧ HdOk ns f S ∧ calm S.dk ∧ TbsOk q q2 t Z ∧
  Led H (lwT p t ++ (lwD d l a b c ns ++ (hdL CD A ns f S ++ Z))) ∧
  (∀ (A' : FlA) (S' : FlS) (a b c : Int) (t' : Tbs) (Z' : Lg) (tn : Int) (v10 : Option V) σ' H', A'.D = A.D → A'.w0 = A.w0 → shL d l (failV ns f) A'.w0 A'.D (some (.str (endW ns f))) (some (.int tn)) (some (.ref A'.x)) v10 σ' → FlOk ns f S' Z' → WOk ns.length f S'.j S'.d S'.u → S'.j = lenN ns.length f → TbsOk q q2 t' Z' → Led H' (lwT p t' ++ (lwD d l a b c ns ++ (flL CW CD A' ns f S' ++ Z'))) → D.nx σ' H') ∧
  (∀ (A' : FlA) (S' : FlS) (a b c : Int) (t' : Tbs) (Z' : Lg) (v9 v10 : Option V) σ' H', A'.D = A.D → A'.w0 = A.w0 → shL d l (failV ns f) A'.w0 A'.D (some (.str "StoreError")) (some (.int (tn + 1))) v9 v10 σ' → tn + 1 ≤ 11 → HdOk ns f S' → calm S'.dk → TbsOk q q2 t' Z' → Led H' (lwT p t' ++ (lwD d l a b c ns ++ (hdL CD A' ns f S' ++ Z'))) → D.nx σ' H')
section
variable {P : Program} {w : World} {K : PySem.W.Frag} {mg : Str → Option Value} {base : Heap} {CW CD CE CQ : Addr} {pa : TbA} {f cL : Addr} {A : Around} {outer : List Env} {s0 : Shared} {H0 : Hp} {E : XK} {q q2 : Str}
theorem st_turn (hr : Room 22 (LX P w K mg base f (.ref cL) A outer s0 H0 E).A) (hne : NoEqC K CW) (c__law_roll : Cal P w K mg base 1 "_law_roll" spRoll []) (c_Disk_arm : Met P w K mg base 1 CD "arm" (spArm CD) []) (c_Disk_crash : Met P w K mg base 1 CD "crash" (spCrash CD) []) (c_Disk_restart : Met P w K mg base 17 CD "restart" (spRest CD pa.u 2) [])
    (c_Workflow_end : Met P w K mg base 6 CW "end" (spEnd CW pa.e) []) (h_flow : PS (LX P w K mg base f (.ref cL) A outer s0 H0 E) (nth turnB 2) (tFlow CW CD pa q q2)) (h_go : PS (LX P w K mg base f (.ref cL) A outer s0 H0 E) (nth turnB 5) (tGoS CW CD pa q q2)) :
    PSs (LX P w K mg base f (.ref cL) A outer s0 H0 E) turnB (tTurn CW CD pa q q2) := by
  refine pss_imp (t := _) (pss_cons (ps_set (i := 8) scLaw.nd rfl (Or.inl rfl) (pe_op op_add (pv 8) pe_int))
  (C8.pss_cut (ps_if (pt_cmpR op_lt (pv 8) pe_int (nomark _))
  (pss_one (ps_expr (pe_mt c_Disk_arm hr (by decide) (pv 6) (pa_cons (pe_c c__law_roll hr (by decide) (by rfl) (pa_cons (pv 1) (pa_cons pe_int pa_nil))) pa_nil))))
  pss_nil)
  (pss_cons h_flow
  (pss_cons (ps_if (pt_cmpR (op_inI hr.units) (pv 9) (pe_lst (pa_cons pe_str (pa_cons pe_str pa_nil))) (by rfl))
  (pss_one (ps_ret pe_bl))
  pss_nil)
  (pss_cons (ps_set (i := 10) scLaw.nd rfl (Or.inl rfl) (pe_mt0 c_Workflow_end hr (by decide) (pv 9)))
  (pss_cons h_go
  (pss_one (ps_if (pt_cmpR op_eq (pv 7) pe_str (nomark _))
  (pss_cons (ps_expr (pe_mt c_Disk_crash hr (by decide) (pv 6) (pa_cons (pe_c c__law_roll hr (by decide) (by rfl) (pa_cons (pv 1) (pa_cons pe_int pa_nil))) pa_nil)))
  (pss_one (ps_expr (pe_mt0 c_Disk_restart hr (by decide) (pv 6)))))
  (pss_one (ps_if (PW.pt (pw_and (pt_cmpR op_notN (pv 10) pe_non (nomark _)) (pw_and1 (pt_cmpR op_ne (pv 10) (pv 7) (nomark _)))))
  (pss_one (ps_ret pe_bl))
  pss_nil)))))))))) ?_
  rintro D σ H ⟨A1, ns, f1, S, d, l, a, b, c, t, Z, tn, v9, v10, ⟨v0, v3, v11, v12, v13, v14, v15, v16, v17, v18, rfl⟩, htn, htn2, hn, ok, hcm, ht, hL, k1, k2⟩
  fail "go"
  refine ⟨fun σ' H' => Hold (∃ (S' : FlS) (a b c : Int), σ' = [v0, some (.ref d), some (.ref l), v3, some (failV ns f1), some (.ref A1.w0), some (.ref A1.D), some (.str "StoreError"), some (.int (tn + 1)), v9, v10, v11, v12, v13, v14, v15, v16, v17, v18] ∧ HdOk ns f1 S' ∧ (calm S'.dk ∨ tn + 1 ≤ 11) ∧ Led H' (lwT pa t ++ (lwD d l a b c ns ++ (hdL CD A1 ns f1 S' ++ Z)))), ?_, fun σ' H' h => ?_⟩
  · fail "go"
    refine ite_d (fun q => ?_) fun q => ?_
    · fail "go"
      have hB : Led H ((d, dD a b c) :: (l, .lst (ns.map .str)) :: (lwT pa t ++ (hdL CD A1 ns f1 S ++ Z))) := by unfold lwD at hL; fail "pm"
      refine ⟨d, a, b, c, 12, _, rfl, hB, by decide, by decide, fun r a b c H h0 h1 hL => ?_⟩
      clear hB
      fail "go"
      dsimp only [tNil, List.cons_append, List.nil_append]
      have hB : Led H (dkL CD A1.D A1.dd S.K S.W A1.F S.dk ++ (lwT pa t ++ (lwD d l a b c ns ++ (woL A1.w0 S.Dn S.Un (ns.take S.d) ((unO ns f1).take S.u) ++ Z)))) := by unfold hdL at hL; unfold lwD; fail "pm"
      clear hL
      refine ⟨A1.D, A1.dd, S.K, S.W, A1.F, S.dk, r, _, rfl, hB, fun H hL => ?_⟩
      clear hB
      obtain ⟨dk2, hdk⟩ : ∃ dk2 : DkS, dk2 = { S.dk with fu := some r } := ⟨_, rfl⟩
      rw [← hdk] at hL
      refine .mk ⟨{ S with dk := dk2 }, a, b, c, rfl, ⟨by rw [hdk]; exact ok.kb, by rw [hdk]; exact ok.wb, by rw [hdk]; exact ok.fs, ok.j, ok.w⟩, .inr (by omega), ?_⟩
      unfold hdL
      dsimp only
      fail "pm"
    · fail "go"
      exact .mk ⟨S, a, b, c, rfl, ok, .inl hcm, hL⟩
  · clear hL ok hcm
    obtain ⟨S1, a, b, c, rfl, ok, hcm, hL⟩ := h.out
    clear h
    refine ⟨A1, ns, f1, S1, d, l, a, b, c, t, Z, _, _, _, _, ⟨_, _, _, _, _, _, _, _, _, _, rfl⟩, hn, ok, ht, hL, fun A2 S2 t2 Z2 H eD ew edk ok2 hw2 ej2 ht2 hL => ?_⟩
    clear ht
    fail "go"
    have hx : H A2.x = some (HO.ins CW A2.dx (fz nmW [.ref A2.D, .ref A2.T, .ref A2.R])) := hL.mem (.tail _ (List.mem_append_right _ (List.mem_append_right _ (List.mem_append_left _ (.head _)))))
    refine ⟨A2.x, _, CW, A2.dx, _, ["QueueError", "StoreError"], rfl, rfl, hx, hne, .of (hL.at ⟨0, rfl⟩), ?_⟩
    clear hx
    replace hL := hL.tail
    refine ⟨_, rfl, ?_⟩
    refine iteF ?_
    fail "go"
    have hB : Led H ((pa.e, .tbl t2.e) :: (wfL CW A2.x A2.dx A2.D A2.T A2.R ns S2.rvs ++ ((pa.n, .tbl t2.n) :: (pa.u, .tbl t2.u) :: (pa.i, .tbl t2.i) :: (pa.g, .tbl t2.g) :: (pa.l, .tbl t2.l) :: rlO pa :: (lwD d l a b c ns ++ (hdL CD A2 ns f1 S2 ++ (Z2 ++ Z)))))) := by unfold lwT at hL; rw [flL_hd] at hL; fail "pm"
    clear hL
    have hnz := hn.z
    refine ⟨A2.x, A2.dx, A2.D, A2.T, A2.R, ns, S2.rvs, (RWs ns f1).take S2.j, t2.e, _, rfl, hB, ht2.e, ok2.rv.mono (fun a h => .tail _ (.tail _ (.tail _ (.tail _ (.tail _ (.tail _ (List.mem_append_right _ (List.mem_append_right _ h)))))))), hn.rsz, by omega, fun te H hte hL => ?_⟩
    clear hB
    have ht3 : TbsOk q q2 { t2 with e := te } (Z2 ++ Z) := ⟨ht2.n, ht2.u, ht2.i, hte, ht2.g, ht2.l⟩
    have hB : Led H (lwT pa { t2 with e := te } ++ (lwD d l a b c ns ++ (flL CW CD A2 ns f1 S2 ++ (Z2 ++ Z)))) := by unfold lwT; rw [flL_hd]; dsimp only; fail "pm"
    clear hL ht2
    generalize ({ t2 with e := te } : Tbs) = t3 at hB ht3
    rw [hn.endE ok2.j]
    refine ⟨A2, ns, f1, S2, d, l, a, b, c, t3, Z2 ++ Z, _, _, _, ⟨_, _, _, _, _, _, _, _, _, _, by rw [ew, eD]; rfl⟩, hn, ok2, hw2, ht3, hB, fun S3 t4 Z3 H ok3 hw3 hj3 ht4 hL => ?_, fun hnc S3 t4 Z3 H x3 ht4 hL => ?_⟩
    · clear hB
      have hend : ∀ k, endN ns.length f1 S2.j = some k → wdS k = endW ns f1 := fun k h => by
        have := hn.f
        unfold endN at h
        unfold endW
        by_cases h1 : f1 = ns.length ∧ S2.j = 2 * ns.length
        · rw [if_pos h1] at h
          cases h
          rw [if_neg (by omega)]
          rfl
        · rw [if_neg h1] at h
          by_cases h3 : f1 < ns.length ∧ S2.j = 3 * f1 + 3
          · rw [if_pos h3] at h
            cases h
            rw [if_pos h3.1]
            rfl
          · rw [if_neg h3] at h
            cases h
      fail "go"
      rw [show decide (V.str (endW ns f1) = V.str (Str.ofString "StoreError")) = false by unfold endW; split <;> decide +kernel]
      refine iteF ?_
      cases he : endN ns.length f1 S2.j with
      | none =>
        fail "go"
        exact k1 A2 S3 a b c t4 Z3 _ _ _ H eD ew ⟨_, _, _, _, _, _, _, _, _, _, by rw [ew, eD]; rfl⟩ ok3 hw3 hj3 ht4 hL
      | some k =>
        have e1 := hend k he
        fail "go"
        rw [show (!decide (stV (Option.map wdS (some k)) = V.str (endW ns f1))) = false by rw [Option.map_some, e1]; simp [stV]]
        refine iteF ?_
        exact k1 A2 S3 a b c t4 Z3 _ _ _ H eD ew ⟨_, _, _, _, _, _, _, _, _, _, by rw [ew, eD]; rfl⟩ ok3 hw3 hj3 ht4 hL
    · clear hB
      rw [← eD]
      fail "go"
      have hB : Led H ((d, dD a b c) :: (l, .lst (ns.map .str)) :: (lwT pa t4 ++ (hdL CD A2 ns f1 S3 ++ Z3))) := by
        unfold lwD at hL
        rw [flL_hd] at hL
        unfold wfL at hL
        exact hL.le (fun a_ => by simp only [cnt_cons, cnt_nil, cnt_app, List.cons_append, List.append_assoc, List.nil_append]; omega)
      clear hL
      refine ⟨d, a, b, c, 40, _, rfl, hB, by decide, by decide, fun r a b c H h0 h1 hL => ?_⟩
      clear hB
      obtain ⟨m, rfl⟩ : ∃ m : Nat, r = m := ⟨r.toNat, by omega⟩
      obtain ⟨j', tail, f1e, f2e, f3e, f4e, f5e⟩ := fall_rows hn x3 m
      have hz3 : 3000 ≤ sizeLine := by decide
      have hB : Led H (dkL CD A2.D A2.dd S3.K S3.W A2.F S3.dk ++ (lwT pa t4 ++ (lwD d l a b c ns ++ (woL A2.w0 S3.Dn S3.Un (ns.take S3.d) ((unO ns f1).take S3.u) ++ Z3)))) := by unfold hdL at hL; unfold lwD; fail "pm"
      clear hL
      fail "go"
      dsimp only [tNil, List.cons_append, List.nil_append]
      refine ⟨A2.D, A2.dd, S3.K, S3.W, A2.F, S3.dk, m, _, rfl, hB, by omega, fun K2 W2 H hL => ?_⟩
      clear hB
      obtain ⟨dk2, hdk⟩ : ∃ dk2 : DkS, dk2 = { S3.dk with kb := S3.dk.kb ++ S3.dk.wb.take m, wb := [], dn := true } := ⟨_, rfl⟩
      rw [← hdk] at hL
      have hB : Led H ((pa.u, .tbl t4.u) :: (dkL CD A2.D A2.dd K2 W2 A2.F dk2 ++ ((pa.n, .tbl t4.n) :: (pa.i, .tbl t4.i) :: (pa.e, .tbl t4.e) :: (pa.g, .tbl t4.g) :: (pa.l, .tbl t4.l) :: rlO pa :: (lwD d l a b c ns ++ (woL A2.w0 S3.Dn S3.Un (ns.take S3.d) ((unO ns f1).take S3.u) ++ Z3))))) := by unfold lwT at hL; fail "pm"
      clear hL
      have hL := hB
      fail "go"
      clear hL
      dsimp only [tNil, List.cons_append, List.nil_append]
      have hrs := hn.rsz (j := j')
      refine ⟨A2.D, A2.dd, K2, W2, A2.F, dk2, ((RWs ns f1).take j').map rD, tail, t4.u, _, rfl, hB, ht4.u, by rw [hdk]; exact f1e, fun dv hd => ?_, by rw [List.length_map]; omega, f2e, fun K3 pu H htu hL => ?_⟩
      · obtain ⟨r, hr2, rfl⟩ := List.mem_map.mp hd
        exact (hn.pk (List.mem_of_mem_take hr2)).1
      clear hB
      obtain ⟨dk3, hdk3⟩ : ∃ dk3 : DkS, dk3 = { dk2 with kb := framesB (((RWs ns f1).take j').map rD), fu := none, dn := false } := ⟨_, rfl⟩
      rw [← hdk3] at hL
      refine k2 A2 { S3 with K := K3, W := W2, dk := dk3, j := j' } a b c { t4 with u := pu } Z3 _ _ _ H eD ew ⟨_, _, _, _, _, _, _, _, _, _, by rw [ew]; rfl⟩ ?_ ⟨by rw [hdk3], by rw [hdk3, hdk], by rw [hdk3, hdk]; exact x3.fs, f3e, f4e⟩ ⟨by rw [hdk3], by rw [hdk3]⟩ ⟨ht4.n, htu, ht4.i, ht4.e, ht4.g, ht4.l⟩ ?_
      · rcases hcm with h | h
        · exact absurd (by rw [edk]; exact h) hnc
        · exact h
      · unfold lwT hdL
        dsimp only
        fail "pm"
end
end Sd


set_option linter.unusedVariables false
namespace Sd
open PySem L2 LamX NdefX PyProof.Rows
open C8 (Cal Met Mak pe_c pe_mk pe_mt pe_mt0 pss_cut tCut)
set_option linter.unusedSimpArgs false
set_option pp.deepTerms false
set_option pp.deepTerms.threshold 12
set_option hygiene false
local macro_rules | `(tactic| fail "nd") => `(tactic| first | assumption | decide +kernel)
local macro_rules | `(tactic| fail "ix") => `(tactic| first | exact ⟨0, rfl⟩ | exact ⟨1, rfl⟩ | exact ⟨2, rfl⟩ | exact ⟨3, rfl⟩ | exact ⟨4, rfl⟩ | exact ⟨5, rfl⟩ | exact ⟨6, rfl⟩ | exact ⟨7, rfl⟩ | exact ⟨8, rfl⟩ | exact ⟨9, rfl⟩ | exact ⟨10, rfl⟩ | exact ⟨11, rfl⟩ | exact ⟨12, rfl⟩ | exact ⟨13, rfl⟩ | exact ⟨14, rfl⟩ | exact ⟨15, rfl⟩ | exact ⟨16, rfl⟩ | exact ⟨17, rfl⟩ | exact ⟨18, rfl⟩ | assumption)
local macro_rules | `(tactic| fail "up") => `(tactic| first | exact ⟨0, rfl, rfl⟩ | exact ⟨1, rfl, rfl⟩ | exact ⟨2, rfl, rfl⟩ | exact ⟨3, rfl, rfl⟩ | exact ⟨4, rfl, rfl⟩ | exact ⟨5, rfl, rfl⟩ | exact ⟨6, rfl, rfl⟩ | exact ⟨7, rfl, rfl⟩ | exact ⟨8, rfl, rfl⟩ | exact ⟨9, rfl, rfl⟩ | exact ⟨10, rfl, rfl⟩ | exact ⟨11, rfl, rfl⟩ | exact ⟨12, rfl, rfl⟩ | exact ⟨13, rfl, rfl⟩ | exact ⟨14, rfl, rfl⟩ | exact ⟨15, rfl, rfl⟩ | exact ⟨16, rfl, rfl⟩ | assumption)
local macro_rules | `(tactic| fail "lkF") => `(tactic| first | assumption | exact fz_at 0 (by fail "nd") rfl rfl | exact fz_at 1 (by fail "nd") rfl rfl | exact fz_at 2 (by fail "nd") rfl rfl | exact fz_at 3 (by fail "nd") rfl rfl | exact fz_at 4 (by fail "nd") rfl rfl | exact fz_at 5 (by fail "nd") rfl rfl | exact fz_at 6 (by fail "nd") rfl rfl | exact fz_at 7 (by fail "nd") rfl rfl)
local macro_rules | `(tactic| fail "lkD") => `(tactic| first | assumption | exact dz_at 0 (by fail "nd") rfl rfl | exact dz_at 1 (by fail "nd") rfl rfl | exact dz_at 2 (by fail "nd") rfl rfl | exact dz_at 3 (by fail "nd") rfl rfl | exact dz_at 4 (by fail "nd") rfl rfl)
local macro_rules | `(tactic| fail "ptF") => `(tactic| first | assumption | exact fz_put 0 (by fail "nd") rfl (Nat.le_of_ble_eq_true rfl) | exact fz_put 1 (by fail "nd") rfl (Nat.le_of_ble_eq_true rfl) | exact fz_put 2 (by fail "nd") rfl (Nat.le_of_ble_eq_true rfl) | exact fz_put 3 (by fail "nd") rfl (Nat.le_of_ble_eq_true rfl) | exact fz_put 4 (by fail "nd") rfl (Nat.le_of_ble_eq_true rfl) | exact fz_put 5 (by fail "nd") rfl (Nat.le_of_ble_eq_true rfl) | exact fz_put 6 (by fail "nd") rfl (Nat.le_of_ble_eq_true rfl) | exact fz_put 7 (by fail "nd") rfl (Nat.le_of_ble_eq_true rfl) | exact fz_new (by decide +kernel) rfl)
local macro_rules | `(tactic| fail "ptD") => `(tactic| first | assumption | exact dz_put 0 (by fail "nd") rfl (Nat.le_of_ble_eq_true rfl) | exact dz_put 1 (by fail "nd") rfl (Nat.le_of_ble_eq_true rfl) | exact dz_put 2 (by fail "nd") rfl (Nat.le_of_ble_eq_true rfl) | exact dz_put 3 (by fail "nd") rfl (Nat.le_of_ble_eq_true rfl) | exact dz_put 4 (by fail "nd") rfl (Nat.le_of_ble_eq_true rfl))
local macro_rules | `(tactic| fail "sz") => `(tactic| first | assumption | exact (Nat.le_of_ble_eq_true rfl) | omega | decide)
local macro_rules | `(tactic| fail "sd") => `(tactic| first | rfl | assumption | decide | omega | (dsimp only; first | decide | omega) | exact .inr ⟨by decide, by decide⟩ | exact .inl ⟨by decide, by decide⟩ | exact ⟨by omega, by omega⟩ | exact .inl ⟨by omega, by omega⟩ | exact .inr ⟨by omega, by omega⟩ | exact ⟨by omega, by omega, by omega⟩)
local macro_rules | `(tactic| fail "cl") => `(tactic| (clear hH; dsimp only [List.set, List.cons_append, List.nil_append, List.append] at hL))
local macro_rules | `(tactic| fail "gn") => `(tactic| (intro p hp; generalize hH : upd H p _ = H; replace hL := Led.newH hL hp hH; clear hH hp))
local macro_rules | `(tactic| fail "gup") => `(tactic| (generalize hH : upd H _ _ = H; replace hL := Led.upU hL (by fail "up") hH; fail "cl"))
local macro_rules | `(tactic| fail "gmk") => `(tactic| (intro x dx hx hd ne; generalize hH : upd (upd H dx _) x _ = H; replace hL := Led.made hL hx hd ne hH; clear hH hx hd ne))
local macro_rules | `(tactic| fail "v") => `(tactic| refine ⟨_, rfl, ?_⟩)
local macro_rules | `(tactic| fail "i2") => `(tactic| refine ⟨_, _, rfl, rfl, ?_⟩)
local macro_rules | `(tactic| fail "go1") => `(tactic| first
  | refine ⟨_, rfl, ?_⟩
  | refine ⟨_, _, rfl, rfl, ?_⟩
  | refine ⟨_, _, rfl, ?_⟩
  | refine iteT ?_
  | refine iteF ?_
  | refine k_fld hL (by fail "ix") (by assumption) (by assumption) (by fail "lkF") ?_
  | refine k_dgetS hL (by fail "ix") (by fail "lkD") ?_
  | refine k_dgetI hL (by fail "ix") (by assumption) ?_
  | refine k_ixL hL (by fail "ix") (by first | rfl | assumption) ?_
  | refine k_ixT hL (by fail "ix") (by first | rfl | assumption) ?_
  | refine k_tyL hL (by fail "ix") ?_
  | refine k_isd hL (by fail "ix") ?_
  | (refine And.intro (by fail "sz") ?_; fail "gn")
  | refine And.intro (by fail "sd") ?_
  | fail "gn"
  | refine k_meth hL (by fail "ix") (by first | assumption | exact fz_no (by decide +kernel)) ?_
  | refine k_gtup hL (by fail "ix") rfl ?_
  | (refine k_popI hL (by fail "ix") (by assumption) ?_; fail "gup")
  | (refine k_listD hL (by fail "ix") ?_; fail "gn")
  | (refine ⟨_, _, _, _, rfl, rfl, hL.at (by fail "ix"), rfl, ?_⟩; fail "gup")
  | (refine ⟨_, _, _, rfl, rfl, hL.at (by fail "ix"), (by fail "sz"), ?_⟩; fail "gup")
  | (refine ⟨_, _, _, _, rfl, hL.at (by fail "ix"), by assumption, by assumption, Nat.lt_of_le_of_lt fz_len (by decide), ?_⟩; generalize hH : upd H _ _ = H; replace hL := Led.upF hL (by fail "up") (by fail "ptF") hH; fail "cl")
  | (refine ⟨_, _, hL.at (by fail "ix"), Nat.lt_of_le_of_lt fz_len (by decide), ?_⟩; generalize hH : upd H _ _ = H; replace hL := Led.upF hL (by fail "up") (by fail "ptF") hH; fail "cl")
  | (refine k_dputS hL (by fail "ix") (Nat.lt_of_le_of_lt dz_len (by decide)) (by fail "ptD") (by fail "up") ?_; clear hL; intro H hL; dsimp only [List.set, List.cons_append, List.nil_append, List.append] at hL)
  | refine k_lenL2 hL (by fail "ix") ?_
  | refine k_lenT2 hL (by fail "ix") ?_
  | refine .inl ⟨_, rfl, ?_⟩
  | refine .inr ⟨_, rfl, ?_⟩)
local macro_rules | `(tactic| fail "go") => `(tactic| repeat fail "go1")
local macro_rules | `(tactic| fail "pm") => `(tactic| (refine Led.le hL (fun a_ => ?_); simp only [cnt_nil, cnt_cons, cnt_app, List.map_append, List.map_cons, List.map_nil, List.flatMap_append, List.flatMap_cons, List.flatMap_nil, List.append_assoc, List.cons_append, List.nil_append]; omega))

def tLoop (CW CD : Addr) (p : TbA) (q q2 : Str) : TS := fun D σ H => ∃ (A : FlA) (ns : List Str) (f : Nat) (S : FlS) (d l : Addr) (a b c : Int) (t : Tbs) (Z : Lg) (v9 v10 : Option V), shL d l (failV ns f) A.w0 A.D (some (.str "StoreError")) (some (.int 0)) v9 v10 σ ∧ NsOk ns f ∧ HdOk ns f S ∧ calm S.dk ∧ TbsOk q q2 t Z ∧
  Led H (lwT p t ++ (lwD d l a b c ns ++ (hdL CD A ns f S ++ Z))) ∧
  (∀ (A' : FlA) (S' : FlS) (a b c : Int) (t' : Tbs) (Z' : Lg) (tn : Int) (v10 : Option V) σ' H', shL d l (failV ns f) A'.w0 A'.D (some (.str (endW ns f))) (some (.int tn)) (some (.ref A'.x)) v10 σ' → FlOk ns f S' Z' → WOk ns.length f S'.j S'.d S'.u → S'.j = lenN ns.length f → TbsOk q q2 t' Z' → Led H' (lwT p t' ++ (lwD d l a b c ns ++ (flL CW CD A' ns f S' ++ Z'))) → D.nx σ' H')
section
variable {P : Program} {w : World} {K : PySem.W.Frag} {mg : Str → Option Value} {base : Heap} {CW CD CE CQ : Addr} {pa : TbA} {f cL : Addr} {A : Around} {outer : List Env} {s0 : Shared} {H0 : Hp} {E : XK} {q q2 : Str}
theorem st_loop (h_turn : PSs (LX P w K mg base f (.ref cL) A outer s0 H0 E) turnB (tTurn CW CD pa q q2)) : PS (LX P w K mg base f (.ref cL) A outer s0 H0 E) (nth diceB 3) (tLoop CW CD pa q q2) := by
  refine ps_imp (t := _) (ps_while PassesOwn.never (pt_cmpR op_eq (pv 7) pe_str (nomark _))
  h_turn) ?_
  rintro D σ H ⟨A1, ns, f1, S, d, l, a, b, c, t, Z, v9, v10, hs, hn, ok, hcm, ht, hL, k⟩
  refine ⟨fun m σ' H' => Hold ((∃ (A' : FlA) (S' : FlS) (a b c : Int) (t' : Tbs) (Z' : Lg) (tn : Int) (v9 v10 : Option V), shL d l (failV ns f1) A'.w0 A'.D (some (.str "StoreError")) (some (.int tn)) v9 v10 σ' ∧ 0 ≤ tn ∧ tn ≤ 11 ∧ m = (13 - tn).toNat ∧ HdOk ns f1 S' ∧ calm S'.dk ∧ TbsOk q q2 t' Z' ∧ Led H' (lwT pa t' ++ (lwD d l a b c ns ++ (hdL CD A' ns f1 S' ++ Z')))) ∨
    (m = 0 ∧ ∃ (A' : FlA) (S' : FlS) (a b c : Int) (t' : Tbs) (Z' : Lg) (tn : Int) (v10 : Option V), shL d l (failV ns f1) A'.w0 A'.D (some (.str (endW ns f1))) (some (.int tn)) (some (.ref A'.x)) v10 σ' ∧ FlOk ns f1 S' Z' ∧ WOk ns.length f1 S'.j S'.d S'.u ∧ S'.j = lenN ns.length f1 ∧ TbsOk q q2 t' Z' ∧ Led H' (lwT pa t' ++ (lwD d l a b c ns ++ (flL CW CD A' ns f1 S' ++ Z'))))), ⟨13, .mk (.inl ⟨A1, S, a, b, c, t, Z, 0, v9, v10, hs, by decide, by decide, by decide, ok, hcm, ht, hL⟩)⟩, fun m σ' H' h => ?_⟩
  clear hs ok hcm ht hL
  rcases h.out with h1 | ⟨rfl, A2, S2, a, b, c, t2, Z2, tn, v10, hs, ok2, hw2, hj2, ht2, hL⟩
  · clear h
    obtain ⟨A2, S2, a, b, c, t2, Z2, tn, v9, v10, hs, h0, h11, rfl, ok2, hc2, ht2, hL⟩ := h1
    obtain ⟨v0, v3, v11, v12, v13, v14, v15, v16, v17, v18, rfl⟩ := hs
    fail "go"
    refine ⟨_, fun σ' H' h => h, A2, ns, f1, S2, d, l, a, b, c, t2, Z2, tn, _, _, ⟨_, _, _, _, _, _, _, _, _, _, rfl⟩, h0, h11, hn, ok2, hc2, ht2, hL, fun A3 S3 a b c t3 Z3 tn3 w10 σ' H' eD ew hs ok3 hw3 hj3 ht3 hL => ?_, fun A3 S3 a b c t3 Z3 w9 w10 σ' H' eD ew hs htn ok3 hc3 ht3 hL => ?_⟩
    · exact ⟨0, by omega, .mk (.inr ⟨rfl, A3, S3, a, b, c, t3, Z3, tn3, w10, hs, ok3, hw3, hj3, ht3, hL⟩)⟩
    · exact ⟨(13 - (tn + 1)).toNat, by omega, .mk (.inl ⟨A3, S3, a, b, c, t3, Z3, tn + 1, w9, w10, hs, by omega, htn, rfl, ok3, hc3, ht3, hL⟩)⟩
  · clear h
    have hs2 := hs
    obtain ⟨v0, v3, v11, v12, v13, v14, v15, v16, v17, v18, rfl⟩ := hs2
    fail "go"
    rw [show decide (V.str (endW ns f1) = V.str (Str.ofString "StoreError")) = false by unfold endW; split <;> decide +kernel]
    refine iteF ?_
    exact k A2 S2 a b c t2 Z2 tn v10 _ _ hs ok2 hw2 hj2 ht2 hL
end
end Sd


set_option linter.unusedVariables false
namespace Sd
open PySem L2 LamX NdefX PyProof.Rows
open C8 (Cal Met Mak pe_c pe_mk pe_mt pe_mt0 pss_cut tCut)
set_option linter.unusedSimpArgs false
set_option pp.deepTerms false
set_option pp.deepTerms.threshold 12
set_option hygiene false
local macro_rules | `(tactic| fail "nd") => `(tactic| first | assumption | decide +kernel)
local macro_rules | `(tactic| fail "ix") => `(tactic| first | exact ⟨0, rfl⟩ | exact ⟨1, rfl⟩ | exact ⟨2, rfl⟩ | exact ⟨3, rfl⟩ | exact ⟨4, rfl⟩ | exact ⟨5, rfl⟩ | exact ⟨6, rfl⟩ | exact ⟨7, rfl⟩ | exact ⟨8, rfl⟩ | exact ⟨9, rfl⟩ | exact ⟨10, rfl⟩ | exact ⟨11, rfl⟩ | exact ⟨12, rfl⟩ | exact ⟨13, rfl⟩ | exact ⟨14, rfl⟩ | exact ⟨15, rfl⟩ | exact ⟨16, rfl⟩ | exact ⟨17, rfl⟩ | exact ⟨18, rfl⟩ | assumption)
local macro_rules | `(tactic| fail "up") => `(tactic| first | exact ⟨0, rfl, rfl⟩ | exact ⟨1, rfl, rfl⟩ | exact ⟨2, rfl, rfl⟩ | exact ⟨3, rfl, rfl⟩ | exact ⟨4, rfl, rfl⟩ | exact ⟨5, rfl, rfl⟩ | exact ⟨6, rfl, rfl⟩ | exact ⟨7, rfl, rfl⟩ | exact ⟨8, rfl, rfl⟩ | exact ⟨9, rfl, rfl⟩ | exact ⟨10, rfl, rfl⟩ | exact ⟨11, rfl, rfl⟩ | exact ⟨12, rfl, rfl⟩ | exact ⟨13, rfl, rfl⟩ | exact ⟨14, rfl, rfl⟩ | exact ⟨15, rfl, rfl⟩ | exact ⟨16, rfl, rfl⟩ | assumption)
local macro_rules | `(tactic| fail "lkF") => `(tactic| first | assumption | exact fz_at 0 (by fail "nd") rfl rfl | exact fz_at 1 (by fail "nd") rfl rfl | exact fz_at 2 (by fail "nd") rfl rfl | exact fz_at 3 (by fail "nd") rfl rfl | exact fz_at 4 (by fail "nd") rfl rfl | exact fz_at 5 (by fail "nd") rfl rfl | exact fz_at 6 (by fail "nd") rfl rfl | exact fz_at 7 (by fail "nd") rfl rfl)
local macro_rules | `(tactic| fail "lkD") => `(tactic| first | assumption | exact dz_at 0 (by fail "nd") rfl rfl | exact dz_at 1 (by fail "nd") rfl rfl | exact dz_at 2 (by fail "nd") rfl rfl | exact dz_at 3 (by fail "nd") rfl rfl | exact dz_at 4 (by fail "nd") rfl rfl)
local macro_rules | `(tactic| fail "ptF") => `(tactic| first | assumption | exact fz_put 0 (by fail "nd") rfl (Nat.le_of_ble_eq_true rfl) | exact fz_put 1 (by fail "nd") rfl (Nat.le_of_ble_eq_true rfl) | exact fz_put 2 (by fail "nd") rfl (Nat.le_of_ble_eq_true rfl) | exact fz_put 3 (by fail "nd") rfl (Nat.le_of_ble_eq_true rfl) | exact fz_put 4 (by fail "nd") rfl (Nat.le_of_ble_eq_true rfl) | exact fz_put 5 (by fail "nd") rfl (Nat.le_of_ble_eq_true rfl) | exact fz_put 6 (by fail "nd") rfl (Nat.le_of_ble_eq_true rfl) | exact fz_put 7 (by fail "nd") rfl (Nat.le_of_ble_eq_true rfl) | exact fz_new (by decide +kernel) rfl)
local macro_rules | `(tactic| fail "ptD") => `(tactic| first | assumption | exact dz_put 0 (by fail "nd") rfl (Nat.le_of_ble_eq_true rfl) | exact dz_put 1 (by fail "nd") rfl (Nat.le_of_ble_eq_true rfl) | exact dz_put 2 (by fail "nd") rfl (Nat.le_of_ble_eq_true rfl) | exact dz_put 3 (by fail "nd") rfl (Nat.le_of_ble_eq_true rfl) | exact dz_put 4 (by fail "nd") rfl (Nat.le_of_ble_eq_true rfl))
local macro_rules | `(tactic| fail "sz") => `(tactic| first | assumption | exact (Nat.le_of_ble_eq_true rfl) | omega | decide)
local macro_rules | `(tactic| fail "sd") => `(tactic| first | rfl | assumption | decide | omega | (dsimp only; first | decide | omega) | exact .inr ⟨by decide, by decide⟩ | exact .inl ⟨by decide, by decide⟩ | exact ⟨by omega, by omega⟩ | exact .inl ⟨by omega, by omega⟩ | exact .inr ⟨by omega, by omega⟩ | exact ⟨by omega, by omega, by omega⟩)
local macro_rules | `(tactic| fail "cl") => `(tactic| (clear hH; dsimp only [List.set, List.cons_append, List.nil_append, List.append] at hL))
local macro_rules | `(tactic| fail "gn") => `(tactic| (intro p hp; generalize hH : upd H p _ = H; replace hL := Led.newH hL hp hH; clear hH hp))
local macro_rules | `(tactic| fail "gup") => `(tactic| (generalize hH : upd H _ _ = H; replace hL := Led.upU hL (by fail "up") hH; fail "cl"))
local macro_rules | `(tactic| fail "gmk") => `(tactic| (intro x dx hx hd ne; generalize hH : upd (upd H dx _) x _ = H; replace hL := Led.made hL hx hd ne hH; clear hH hx hd ne))
local macro_rules | `(tactic| fail "v") => `(tactic| refine ⟨_, rfl, ?_⟩)
local macro_rules | `(tactic| fail "i2") => `(tactic| refine ⟨_, _, rfl, rfl, ?_⟩)
local macro_rules | `(tactic| fail "go1") => `(tactic| first
  | refine ⟨_, rfl, ?_⟩
  | refine ⟨_, _, rfl, rfl, ?_⟩
  | refine ⟨_, _, rfl, ?_⟩
  | refine iteT ?_
  | refine iteF ?_
  | refine k_fld hL (by fail "ix") (by assumption) (by assumption) (by fail "lkF") ?_
  | refine k_dgetS hL (by fail "ix") (by fail "lkD") ?_
  | refine k_dgetI hL (by fail "ix") (by assumption) ?_
  | refine k_ixL hL (by fail "ix") (by first | rfl | assumption) ?_
  | refine k_ixT hL (by fail "ix") (by first | rfl | assumption) ?_
  | refine k_tyL hL (by fail "ix") ?_
  | refine k_isd hL (by fail "ix") ?_
  | (refine And.intro (by fail "sz") ?_; fail "gn")
  | refine And.intro (by fail "sd") ?_
  | fail "gn"
  | refine k_meth hL (by fail "ix") (by first | assumption | exact fz_no (by decide +kernel)) ?_
  | refine k_gtup hL (by fail "ix") rfl ?_
  | (refine k_popI hL (by fail "ix") (by assumption) ?_; fail "gup")
  | (refine k_listD hL (by fail "ix") ?_; fail "gn")
  | (refine ⟨_, _, _, _, rfl, rfl, hL.at (by fail "ix"), rfl, ?_⟩; fail "gup")
  | (refine ⟨_, _, _, rfl, rfl, hL.at (by fail "ix"), (by fail "sz"), ?_⟩; fail "gup")
  | (refine ⟨_, _, _, _, rfl, hL.at (by fail "ix"), by assumption, by assumption, Nat.lt_of_le_of_lt fz_len (by decide), ?_⟩; generalize hH : upd H _ _ = H; replace hL := Led.upF hL (by fail "up") (by fail "ptF") hH; fail "cl")
  | (refine ⟨_, _, hL.at (by fail "ix"), Nat.lt_of_le_of_lt fz_len (by decide), ?_⟩; generalize hH : upd H _ _ = H; replace hL := Led.upF hL (by fail "up") (by fail "ptF") hH; fail "cl")
  | (refine k_dputS hL (by fail "ix") (Nat.lt_of_le_of_lt dz_len (by decide)) (by fail "ptD") (by fail "up") ?_; clear hL; intro H hL; dsimp only [List.set, List.cons_append, List.nil_append, List.append] at hL)
  | refine k_lenL2 hL (by fail "ix") ?_
  | refine k_lenT2 hL (by fail "ix") ?_
  | refine .inl ⟨_, rfl, ?_⟩
  | refine .inr ⟨_, rfl, ?_⟩)
local macro_rules | `(tactic| fail "go") => `(tactic| repeat fail "go1")
local macro_rules | `(tactic| fail "pm") => `(tactic| (refine Led.le hL (fun a_ => ?_); simp only [cnt_nil, cnt_cons, cnt_app, List.map_append, List.map_cons, List.map_nil, List.flatMap_append, List.flatMap_cons, List.flatMap_nil, List.append_assoc, List.cons_append, List.nil_append]; omega))

theorem pe_imp {X : Cx} {e : Expr} {t u : L2.TE} (h : PE X e t) (k : ∀ σ H Q, u σ H Q → t σ H Q) : PE X e u := ⟨fun pins s σ H Q I q => h.run pins s σ H Q I (k σ H Q q)⟩
abbrev goE : Expr := argE (argE (valE (nth diceB 5)) 3) 0
theorem hfD2 : ∀ y ∈ (lamScope lamD2).names, y.2 = .free → (defScope sLaw).names.lookup y.1 = some .cell := by decide +kernel
theorem hgD2 : ∀ y ∈ NLd, (y, NameKind.free) ∈ (lamScope lamD2).names := by decide +kernel
theorem hfU2 : ∀ y ∈ (lamScope lamU2).names, y.2 = .free → (defScope sLaw).names.lookup y.1 = some .cell := by decide +kernel
theorem hgU2 : ∀ y ∈ NLu, (y, NameKind.free) ∈ (lamScope lamU2).names := by decide +kernel
/-- flow.go(..) behind the loop -/
def tGoE (CW CD : Addr) (p : TbA) (q q2 : Str) : L2.TE := fun σ H Q => ∃ (A : FlA) (ns : List Str) (f : Nat) (S : FlS) (d l : Addr) (a b c : Int) (t : Tbs) (Z : Lg), σ[4]? = some (some (failV ns f)) ∧ σ[5]? = some (some (.ref A.w0)) ∧ σ[9]? = some (some (.ref A.x)) ∧ NsOk ns f ∧ FlOk ns f S Z ∧ WOk ns.length f S.j S.d S.u ∧ S.j = lenN ns.length f ∧ TbsOk q q2 t Z ∧
  Led H (lwT p t ++ (lwD d l a b c ns ++ (flL CW CD A ns f S ++ Z))) ∧
  (∀ (S' : FlS) (t' : Tbs) (Zn : Lg) H', FlOk ns f S' (Zn ++ Z) → WOk ns.length f S'.j S'.d S'.u → S'.j = lenN ns.length f → TbsOk q q2 t' (Zn ++ Z) → Led H' (lwT p t' ++ (lwD d l a b c ns ++ (flL CW CD A ns f S' ++ (Zn ++ Z)))) → Q (.str (endW ns f)) H')
section
variable {P : Program} {w : World} {K : PySem.W.Frag} {mg : Str → Option Value} {base : Heap} {CW CD CE CQ : Addr} {p : TbA} {f cL : Addr} {A : Around} {outer : List Env} {s0 : Shared} {H0 : Hp} {E : XK}
theorem st_goE (hr : Room 22 (LX P w K mg base f (.ref cL) A outer s0 H0 E).A) (TB : LamX.TabB base mg cL p.l) (X : TxtWf K CW) (c_Workflow_go : ∀ i : GoI, MetS P w K mg base 12 CW "go" (gGo i) (spGo P w K mg base CW CD CE p.n p.e p.g i.1.1 i.2.1 i.1.2 i.2.2)) {fgo : Addr} (hm : Meth K CW "go" fgo)
    (c__law_do : Cal P w K mg base 2 "_law_do" (spLDo CW) []) (c__law_undo : Cal P w K mg base 1 "_law_undo" spLUndo []) :
    PE (LX P w K mg base f (.ref cL) A outer s0 H0 E) goE (tGoE CW CD p ((LX P w K mg base f (.ref cL) A outer s0 H0 E).env.qual ++ "<lambda>") ((((LX P w K mg base f (.ref cL) A outer s0 H0 E).env.qual ++ "<lambda>") ++ ".<locals>.") ++ "<lambda>")) := by
  refine pe_imp (t := _) (pe_mtS (R := fun i σ => (i.1.1.cl = cloFrom (LX P w K mg base f (.ref cL) A outer s0 H0 E).env.cells (lamScope lamD2).names [] ∧ i.1.2 = [5, 4, 9].map (slotAt σ)) ∧ (i.2.1.cl = cloFrom (LX P w K mg base f (.ref cL) A outer s0 H0 E).env.cells (lamScope lamU2).names [] ∧ i.2.2 = [5].map (slotAt σ))) c_Workflow_go hr (by decide)
    (fun i pins σ H s I hR => ⟨?_, ?_⟩) L2.takes0 X.cl hm (pv 9) (pa_cons (pe_lamvT (q2 := (((LX P w K mg base f (.ref cL) A outer s0 H0 E).env.qual ++ "<lambda>") ++ ".<locals>.") ++ "<lambda>") TB rfl rfl rfl hfD2) (pa_cons (pe_lamvT (q2 := (((LX P w K mg base f (.ref cL) A outer s0 H0 E).env.qual ++ "<lambda>") ++ ".<locals>.") ++ "<lambda>") TB rfl rfl rfl hfU2) pa_nil)) (fun g h => hm.uniq h)) ?_
  · rw [hR.1.1, hR.1.2]
    exact CellsO.made (fun _ => rfl) I (Caps.made I.ok (fun y hy e => .inl (hfD2 y hy e)) hgD2 rfl)
  · rw [hR.2.1, hR.2.2]
    exact CellsO.made (fun _ => rfl) I (Caps.made I.ok (fun y hy e => .inl (hfU2 y hy e)) hgU2 rfl)
  rintro σ H Q ⟨A1, ns, f1, S, d, l, a, b, c, t, Z, hs4, hs5, hs9, hn, ok, hw, hj, ht, hL, k⟩
  have hx : H A1.x = some (HO.ins CW A1.dx (fz nmW [.ref A1.D, .ref A1.T, .ref A1.R])) := hL.mem (List.mem_append_right _ (List.mem_append_right _ (List.mem_append_left _ (.head _))))
  refine ⟨_, hs9, A1.x, A1.dx, _, rfl, hx, fz_no (by decide +kernel), ?_⟩
  clear hx
  refine ⟨t.l, Z, (p.n, .tbl t.n) :: (p.u, .tbl t.u) :: (p.i, .tbl t.i) :: (p.e, .tbl t.e) :: (p.g, .tbl t.g) :: rlO p :: (lwD d l a b c ns ++ flL CW CD A1 ns f1 S), by unfold lwT at hL; fail "pm", ht.l, fun g1 d1 P1 ps1 pl1 Z1 H hL hT1 hc1 _ _ => ?_⟩
  have hL : Led H ((g1, LamO g1 ⟨"<lambda>", (LX P w K mg base f (.ref cL) A outer s0 H0 E).env.qual ++ "<lambda>", lamArgs lamD2, [], lamScope lamD2, cloFrom (LX P w K mg base f (.ref cL) A outer s0 H0 E).env.cells (lamScope lamD2).names [], d1⟩ (lamBody lamD2)) :: (p.l, .tbl pl1) :: (Z1 ++ (Z ++ ((p.n, .tbl t.n) :: (p.u, .tbl t.u) :: (p.i, .tbl t.i) :: (p.e, .tbl t.e) :: (p.g, .tbl t.g) :: rlO p :: (lwD d l a b c ns ++ flL CW CD A1 ns f1 S))))) := hL
  have hB : Led H ((p.l, .tbl pl1) :: ((Z1 ++ Z) ++ ((g1, LamO g1 ⟨"<lambda>", (LX P w K mg base f (.ref cL) A outer s0 H0 E).env.qual ++ "<lambda>", lamArgs lamD2, [], lamScope lamD2, cloFrom (LX P w K mg base f (.ref cL) A outer s0 H0 E).env.cells (lamScope lamD2).names [], d1⟩ (lamBody lamD2)) :: (p.n, .tbl t.n) :: (p.u, .tbl t.u) :: (p.i, .tbl t.i) :: (p.e, .tbl t.e) :: (p.g, .tbl t.g) :: rlO p :: (lwD d l a b c ns ++ flL CW CD A1 ns f1 S)))) := by fail "pm"
  clear hL
  refine ⟨pl1, Z1 ++ Z, _, hB, hT1, fun g2 d2 P2 ps2 pl2 Z2 H hL hT2 hc2 _ _ => ?_⟩
  clear hB hT1
  have hL : Led H ((g2, LamO g2 ⟨"<lambda>", (LX P w K mg base f (.ref cL) A outer s0 H0 E).env.qual ++ "<lambda>", lamArgs lamU2, [], lamScope lamU2, cloFrom (LX P w K mg base f (.ref cL) A outer s0 H0 E).env.cells (lamScope lamU2).names [], d2⟩ (lamBody lamU2)) :: (p.l, .tbl pl2) :: (Z2 ++ ((Z1 ++ Z) ++ ((g1, LamO g1 ⟨"<lambda>", (LX P w K mg base f (.ref cL) A outer s0 H0 E).env.qual ++ "<lambda>", lamArgs lamD2, [], lamScope lamD2, cloFrom (LX P w K mg base f (.ref cL) A outer s0 H0 E).env.cells (lamScope lamD2).names [], d1⟩ (lamBody lamD2)) :: (p.n, .tbl t.n) :: (p.u, .tbl t.u) :: (p.i, .tbl t.i) :: (p.e, .tbl t.e) :: (p.g, .tbl t.g) :: rlO p :: (lwD d l a b c ns ++ flL CW CD A1 ns f1 S))))) := hL
  refine ⟨((⟨"<lambda>", (LX P w K mg base f (.ref cL) A outer s0 H0 E).env.qual ++ "<lambda>", lamArgs lamD2, [], lamScope lamD2, cloFrom (LX P w K mg base f (.ref cL) A outer s0 H0 E).env.cells (lamScope lamD2).names [], d1⟩, [some (.ref A1.w0), some (failV ns f1), some (.ref A1.x)]), (⟨"<lambda>", (LX P w K mg base f (.ref cL) A outer s0 H0 E).env.qual ++ "<lambda>", lamArgs lamU2, [], lamScope lamU2, cloFrom (LX P w K mg base f (.ref cL) A outer s0 H0 E).env.cells (lamScope lamU2).names [], d2⟩, [some (.ref A1.w0)])), ⟨⟨rfl, ?_⟩, ⟨rfl, ?_⟩⟩, ?_⟩
  · show _ = [NdefX.slotAt σ 5, NdefX.slotAt σ 4, NdefX.slotAt σ 9]
    unfold NdefX.slotAt
    rw [hs4, hs5, hs9]
  · show _ = [NdefX.slotAt σ 5]
    unfold NdefX.slotAt
    rw [hs5]
  obtain ⟨W, hW⟩ : ∃ W : Lg, W = Z2 ++ (Z1 ++ Z) := ⟨_, rfl⟩
  have mD : cdM ⟨"<lambda>", (LX P w K mg base f (.ref cL) A outer s0 H0 E).env.qual ++ "<lambda>", lamArgs lamD2, [], lamScope lamD2, cloFrom (LX P w K mg base f (.ref cL) A outer s0 H0 E).env.cells (lamScope lamD2).names [], d1⟩ W := .inr ⟨P1, by rw [hW]; exact List.mem_append_right _ hc1⟩
  have mU : cdM ⟨"<lambda>", (LX P w K mg base f (.ref cL) A outer s0 H0 E).env.qual ++ "<lambda>", lamArgs lamU2, [], lamScope lamU2, cloFrom (LX P w K mg base f (.ref cL) A outer s0 H0 E).env.cells (lamScope lamU2).names [], d2⟩ W := .inr ⟨P2, by rw [hW]; exact hc2⟩
  have okW : FlOk ns f1 S W := ok.mono fun a h => by rw [hW]; exact List.mem_append_right _ (List.mem_append_right _ h)
  have hTW : TabT ((LX P w K mg base f (.ref cL) A outer s0 H0 E).env.qual ++ "<lambda>") ((((LX P w K mg base f (.ref cL) A outer s0 H0 E).env.qual ++ "<lambda>") ++ ".<locals>.") ++ "<lambda>") pl2 W := by rw [hW]; exact hT2
  have hB : Led H (tbL p.n p.e p.g ⟨t.n, t.e, t.g⟩ ++ (flL CW CD A1 ns f1 S ++ (((g1, LamO g1 ⟨"<lambda>", (LX P w K mg base f (.ref cL) A outer s0 H0 E).env.qual ++ "<lambda>", lamArgs lamD2, [], lamScope lamD2, cloFrom (LX P w K mg base f (.ref cL) A outer s0 H0 E).env.cells (lamScope lamD2).names [], d1⟩ (lamBody lamD2)) :: (g2, LamO g2 ⟨"<lambda>", (LX P w K mg base f (.ref cL) A outer s0 H0 E).env.qual ++ "<lambda>", lamArgs lamU2, [], lamScope lamU2, cloFrom (LX P w K mg base f (.ref cL) A outer s0 H0 E).env.cells (lamScope lamU2).names [], d2⟩ (lamBody lamU2)) :: []) ++ (W ++ besL p t.u t.i pl2 d l a b c ns)))) := by
    unfold tbL besL
    rw [hW]
    exact hL.le (fun a_ => by simp only [cnt_cons, cnt_nil, cnt_app, List.cons_append, List.append_assoc, List.nil_append]; omega)
  clear hL hT2 hc1 hc2
  obtain ⟨V2, hV2⟩ : ∃ V2 : Lg, V2 = (g1, LamO g1 ⟨"<lambda>", (LX P w K mg base f (.ref cL) A outer s0 H0 E).env.qual ++ "<lambda>", lamArgs lamD2, [], lamScope lamD2, cloFrom (LX P w K mg base f (.ref cL) A outer s0 H0 E).env.cells (lamScope lamD2).names [], d1⟩ (lamBody lamD2)) :: (g2, LamO g2 ⟨"<lambda>", (LX P w K mg base f (.ref cL) A outer s0 H0 E).env.qual ++ "<lambda>", lamArgs lamU2, [], lamScope lamU2, cloFrom (LX P w K mg base f (.ref cL) A outer s0 H0 E).env.cells (lamScope lamU2).names [], d2⟩ (lamBody lamU2)) :: [] := ⟨_, rfl⟩
  rw [← hV2] at hB
  have m1 : (g1, LamO g1 ⟨"<lambda>", (LX P w K mg base f (.ref cL) A outer s0 H0 E).env.qual ++ "<lambda>", lamArgs lamD2, [], lamScope lamD2, cloFrom (LX P w K mg base f (.ref cL) A outer s0 H0 E).env.cells (lamScope lamD2).names [], d1⟩ (lamBody lamD2)) ∈ V2 := by rw [hV2]; exact .head _
  have m2 : (g2, LamO g2 ⟨"<lambda>", (LX P w K mg base f (.ref cL) A outer s0 H0 E).env.qual ++ "<lambda>", lamArgs lamU2, [], lamScope lamU2, cloFrom (LX P w K mg base f (.ref cL) A outer s0 H0 E).env.cells (lamScope lamU2).names [], d2⟩ (lamBody lamU2)) ∈ V2 := by rw [hV2]; exact .tail _ (.head _)
  clear hV2
  have sW : ∀ z ∈ W, z ∈ V2 ++ (W ++ besL p t.u t.i pl2 d l a b c ns) := fun z h => List.mem_append_right _ (List.mem_append_left _ h)
  have sZ : ∀ (Zn : Lg) (x : Addr × HO), x ∈ (Zn ++ V2) ++ W → x ∈ (Zn ++ (V2 ++ (Z2 ++ Z1))) ++ Z := fun Zn x h => by
    rw [hW] at h
    simp only [List.mem_append] at h ⊢
    rcases h with (h | h) | h | h | h
    · exact .inl (.inl h)
    · exact .inl (.inr (.inl h))
    · exact .inl (.inr (.inr (.inl h)))
    · exact .inl (.inr (.inr (.inr h)))
    · exact .inr h
  refine ⟨A1, ns, f1, S, g1, g2, _, _, ⟨t.n, t.e, t.g⟩, V2 ++ (W ++ besL p t.u t.i pl2 d l a b c ns), rfl, hn, hB, okW.mono sW, ⟨ht.n, ht.e, ht.g⟩, hw, ⟨List.mem_append_left _ m1, mD.mono sW, lokD2 c__law_do⟩, ⟨List.mem_append_left _ m2, mU.mono sW, lokU2 c__law_undo⟩, rfl, rfl, fun S' t' Zn H' ht' ok' hw' hj' _ hL => ?_, fun hq => absurd (.inr hj) hq⟩
  refine k S' { t with n := t'.n, e := t'.e, g := t'.g, l := pl2 } (Zn ++ (V2 ++ (Z2 ++ Z1))) H' (ok'.monoT fun a xs h => sZ Zn _ (mem_bes (p := p) (by nofun) (by nofun) (by rw [List.append_assoc]; exact h))) hw' hj' ⟨ht'.n, ht.u, ht.i, ht'.e, ht'.g, hTW.mono fun a h => sZ Zn a (List.mem_append_right _ h)⟩ ?_
  unfold tbL besL at hL
  rw [hW] at hL
  unfold lwT
  dsimp only
  exact hL.le (fun a_ => by simp only [cnt_cons, cnt_nil, cnt_app, List.cons_append, List.append_assoc, List.nil_append]; omega)
end
end Sd


set_option linter.unusedVariables false
namespace Sd
open PySem L2 LamX NdefX PyProof.Rows
open C8 (Cal Met Mak pe_c pe_mk pe_mt pe_mt0 pss_cut tCut)
set_option linter.unusedSimpArgs false
set_option pp.deepTerms false
set_option pp.deepTerms.threshold 12
set_option hygiene false
local macro_rules | `(tactic| fail "nd") => `(tactic| first | assumption | decide +kernel)
local macro_rules | `(tactic| fail "ix") => `(tactic| first | exact ⟨0, rfl⟩ | exact ⟨1, rfl⟩ | exact ⟨2, rfl⟩ | exact ⟨3, rfl⟩ | exact ⟨4, rfl⟩ | exact ⟨5, rfl⟩ | exact ⟨6, rfl⟩ | exact ⟨7, rfl⟩ | exact ⟨8, rfl⟩ | exact ⟨9, rfl⟩ | exact ⟨10, rfl⟩ | exact ⟨11, rfl⟩ | exact ⟨12, rfl⟩ | exact ⟨13, rfl⟩ | exact ⟨14, rfl⟩ | exact ⟨15, rfl⟩ | exact ⟨16, rfl⟩ | exact ⟨17, rfl⟩ | exact ⟨18, rfl⟩ | assumption)
local macro_rules | `(tactic| fail "up") => `(tactic| first | exact ⟨0, rfl, rfl⟩ | exact ⟨1, rfl, rfl⟩ | exact ⟨2, rfl, rfl⟩ | exact ⟨3, rfl, rfl⟩ | exact ⟨4, rfl, rfl⟩ | exact ⟨5, rfl, rfl⟩ | exact ⟨6, rfl, rfl⟩ | exact ⟨7, rfl, rfl⟩ | exact ⟨8, rfl, rfl⟩ | exact ⟨9, rfl, rfl⟩ | exact ⟨10, rfl, rfl⟩ | exact ⟨11, rfl, rfl⟩ | exact ⟨12, rfl, rfl⟩ | exact ⟨13, rfl, rfl⟩ | exact ⟨14, rfl, rfl⟩ | exact ⟨15, rfl, rfl⟩ | exact ⟨16, rfl, rfl⟩ | assumption)
local macro_rules | `(tactic| fail "lkF") => `(tactic| first | assumption | exact fz_at 0 (by fail "nd") rfl rfl | exact fz_at 1 (by fail "nd") rfl rfl | exact fz_at 2 (by fail "nd") rfl rfl | exact fz_at 3 (by fail "nd") rfl rfl | exact fz_at 4 (by fail "nd") rfl rfl | exact fz_at 5 (by fail "nd") rfl rfl | exact fz_at 6 (by fail "nd") rfl rfl | exact fz_at 7 (by fail "nd") rfl rfl)
local macro_rules | `(tactic| fail "lkD") => `(tactic| first | assumption | exact dz_at 0 (by fail "nd") rfl rfl | exact dz_at 1 (by fail "nd") rfl rfl | exact dz_at 2 (by fail "nd") rfl rfl | exact dz_at 3 (by fail "nd") rfl rfl | exact dz_at 4 (by fail "nd") rfl rfl)
local macro_rules | `(tactic| fail "ptF") => `(tactic| first | assumption | exact fz_put 0 (by fail "nd") rfl (Nat.le_of_ble_eq_true rfl) | exact fz_put 1 (by fail "nd") rfl (Nat.le_of_ble_eq_true rfl) | exact fz_put 2 (by fail "nd") rfl (Nat.le_of_ble_eq_true rfl) | exact fz_put 3 (by fail "nd") rfl (Nat.le_of_ble_eq_true rfl) | exact fz_put 4 (by fail "nd") rfl (Nat.le_of_ble_eq_true rfl) | exact fz_put 5 (by fail "nd") rfl (Nat.le_of_ble_eq_true rfl) | exact fz_put 6 (by fail "nd") rfl (Nat.le_of_ble_eq_true rfl) | exact fz_put 7 (by fail "nd") rfl (Nat.le_of_ble_eq_true rfl) | exact fz_new (by decide +kernel) rfl)
local macro_rules | `(tactic| fail "ptD") => `(tactic| first | assumption | exact dz_put 0 (by fail "nd") rfl (Nat.le_of_ble_eq_true rfl) | exact dz_put 1 (by fail "nd") rfl (Nat.le_of_ble_eq_true rfl) | exact dz_put 2 (by fail "nd") rfl (Nat.le_of_ble_eq_true rfl) | exact dz_put 3 (by fail "nd") rfl (Nat.le_of_ble_eq_true rfl) | exact dz_put 4 (by fail "nd") rfl (Nat.le_of_ble_eq_true rfl))
local macro_rules | `(tactic| fail "sz") => `(tactic| first | assumption | exact (Nat.le_of_ble_eq_true rfl) | omega | decide)
local macro_rules | `(tactic| fail "sd") => `(tactic| first | rfl | assumption | decide | omega | (dsimp only; first | decide | omega) | exact .inr ⟨by decide, by decide⟩ | exact .inl ⟨by decide, by decide⟩ | exact ⟨by omega, by omega⟩ | exact .inl ⟨by omega, by omega⟩ | exact .inr ⟨by omega, by omega⟩ | exact ⟨by omega, by omega, by omega⟩)
local macro_rules | `(tactic| fail "cl") => `(tactic| (clear hH; dsimp only [List.set, List.cons_append, List.nil_append, List.append] at hL))
local macro_rules | `(tactic| fail "gn") => `(tactic| (intro p hp; generalize hH : upd H p _ = H; replace hL := Led.newH hL hp hH; clear hH hp))
local macro_rules | `(tactic| fail "gup") => `(tactic| (generalize hH : upd H _ _ = H; replace hL := Led.upU hL (by fail "up") hH; fail "cl"))
local macro_rules | `(tactic| fail "gmk") => `(tactic| (intro x dx hx hd ne; generalize hH : upd (upd H dx _) x _ = H; replace hL := Led.made hL hx hd ne hH; clear hH hx hd ne))
local macro_rules | `(tactic| fail "v") => `(tactic| refine ⟨_, rfl, ?_⟩)
local macro_rules | `(tactic| fail "i2") => `(tactic| refine ⟨_, _, rfl, rfl, ?_⟩)
local macro_rules | `(tactic| fail "go1") => `(tactic| first
  | refine ⟨_, rfl, ?_⟩
  | refine ⟨_, _, rfl, rfl, ?_⟩
  | refine ⟨_, _, rfl, ?_⟩
  | refine iteT ?_
  | refine iteF ?_
  | refine k_fld hL (by fail "ix") (by assumption) (by assumption) (by fail "lkF") ?_
  | refine k_dgetS hL (by fail "ix") (by fail "lkD") ?_
  | refine k_dgetI hL (by fail "ix") (by assumption) ?_
  | refine k_ixL hL (by fail "ix") (by first | rfl | assumption) ?_
  | refine k_ixT hL (by fail "ix") (by first | rfl | assumption) ?_
  | refine k_tyL hL (by fail "ix") ?_
  | refine k_isd hL (by fail "ix") ?_
  | (refine And.intro (by fail "sz") ?_; fail "gn")
  | refine And.intro (by fail "sd") ?_
  | fail "gn"
  | refine k_meth hL (by fail "ix") (by first | assumption | exact fz_no (by decide +kernel)) ?_
  | refine k_gtup hL (by fail "ix") rfl ?_
  | (refine k_popI hL (by fail "ix") (by assumption) ?_; fail "gup")
  | (refine k_listD hL (by fail "ix") ?_; fail "gn")
  | (refine ⟨_, _, _, _, rfl, rfl, hL.at (by fail "ix"), rfl, ?_⟩; fail "gup")
  | (refine ⟨_, _, _, rfl, rfl, hL.at (by fail "ix"), (by fail "sz"), ?_⟩; fail "gup")
  | (refine ⟨_, _, _, _, rfl, hL.at (by fail "ix"), by assumption, by assumption, Nat.lt_of_le_of_lt fz_len (by decide), ?_⟩; generalize hH : upd H _ _ = H; replace hL := Led.upF hL (by fail "up") (by fail "ptF") hH; fail "cl")
  | (refine ⟨_, _, hL.at (by fail "ix"), Nat.lt_of_le_of_lt fz_len (by decide), ?_⟩; generalize hH : upd H _ _ = H; replace hL := Led.upF hL (by fail "up") (by fail "ptF") hH; fail "cl")
  | (refine k_dputS hL (by fail "ix") (Nat.lt_of_le_of_lt dz_len (by decide)) (by fail "ptD") (by fail "up") ?_; clear hL; intro H hL; dsimp only [List.set, List.cons_append, List.nil_append, List.append] at hL)
  | refine k_lenL2 hL (by fail "ix") ?_
  | refine k_lenT2 hL (by fail "ix") ?_
  | refine .inl ⟨_, rfl, ?_⟩
  | refine .inr ⟨_, rfl, ?_⟩)
local macro_rules | `(tactic| fail "go") => `(tactic| repeat fail "go1")
local macro_rules | `(tactic| fail "pm") => `(tactic| (refine Led.le hL (fun a_ => ?_); simp only [cnt_nil, cnt_cons, cnt_app, List.map_append, List.map_cons, List.map_nil, List.flatMap_append, List.flatMap_cons, List.flatMap_nil, List.append_assoc, List.cons_append, List.nil_append]; omega))

structure TxtG (mg : Str → Option Value) : Prop where
  len : mg "len" = none
  range : mg "range" = none
  str : mg "str" = none
theorem cutT {α : List V} {n : Nat} (h : n ≤ α.length) : cutV α none (some (n : Int)) = α.take n := by
  unfold cutV
  rw [HT.sIx_none, HT.sIx_nat, List.drop_zero, Nat.sub_zero, Nat.min_eq_left h]
theorem failV_none {ns : List Str} {f : Nat} (hn : NsOk ns f) (h : ¬ f < ns.length) : failV ns f = .non := by
  unfold failV
  rw [List.getElem?_eq_none (by omega)]
theorem failV_some {ns : List Str} {f : Nat} (h : f < ns.length) : failV ns f = .str ns[f] := by
  unfold failV
  rw [List.getElem?_eq_getElem h]
/-- due = .. -/
def tDue (CW CD : Addr) (p : TbA) (q q2 : Str) : TS := fun D σ H => ∃ (A : FlA) (ns : List Str) (f : Nat) (S : FlS) (d l : Addr) (a b c : Int) (t : Tbs) (Z : Lg), σ[2]? = some (some (.ref l)) ∧ σ[4]? = some (some (failV ns f)) ∧ σ.length = 19 ∧ NsOk ns f ∧
  Led H (lwT p t ++ (lwD d l a b c ns ++ (flL CW CD A ns f S ++ Z))) ∧
  (∀ (u : Addr) (Zn : Lg) H', (u, HO.lst ((ns.take f).map .str)) ∈ lwD d l a b c ns ++ (Zn ++ Z) → Led H' (lwT p t ++ (lwD d l a b c ns ++ (flL CW CD A ns f S ++ (Zn ++ Z)))) → D.nx (σ.set 11 (some (.ref u))) H')
section
variable {P : Program} {w : World} {K : PySem.W.Frag} {mg : Str → Option Value} {base : Heap} {CW CD CE CQ : Addr} {pa : TbA} {f cL : Addr} {A : Around} {outer : List Env} {s0 : Shared} {H0 : Hp} {E : XK} {q q2 : Str}
theorem st_due (hr : Room 22 (LX P w K mg base f (.ref cL) A outer s0 H0 E).A) : PS (LX P w K mg base f (.ref cL) A outer s0 H0 E) (nth diceB 4) (tDue CW CD pa q q2) := by
  refine ps_imp (t := _) (ps_set (i := 11) scLaw.nd rfl (Or.inl rfl) (pe_ifExp (pt_cmpR op_isN (pv 4) pe_non (nomark _)) (pv 2) (pe_slice sl_list (pv 2) po_none (po_some (pe_bm PySem.F.plainAttrs_list PySem.F.slot_list_index PySem.F.type_list_index mt_index (pv 2) (pa_cons (pv 4) pa_nil)))))) ?_
  rintro D σ H ⟨A1, ns, f1, S, d, l, a, b, c, t, Z, hs2, hs4, hsl, hn, hL, k⟩
  have hl : (l, HO.lst (ns.map .str)) ∈ lwT pa t ++ (lwD d l a b c ns ++ (flL CW CD A1 ns f1 S ++ Z)) := List.mem_append_right _ (List.mem_append_left _ (.tail _ (.head _)))
  refine ⟨_, hs4, ?_⟩
  by_cases hf : f1 < ns.length
  · rw [failV_some hf]
    rw [failV_some hf] at hs4
    fail "go"
    refine ⟨_, hs2, ?_⟩
    fail "go"
    refine ⟨_, hs2, ?_⟩
    fail "go"
    refine ⟨_, hs4, ?_⟩
    fail "go"
    have hnd := hn.nd
    refine ⟨l, ns.map .str, _, f1, .str ns[f1], rfl, rfl, .of (hL.mem hl), rfl, flat_strs, by rw [List.getElem?_map, List.getElem?_eq_getElem hf]; rfl, by show (ns[f1] == ns[f1]) = true; simp, fun m z hm hz => ?_, ?_⟩
    · rw [List.getElem?_map, List.getElem?_eq_getElem (by omega)] at hz
      cases hz
      show (ns[m] == ns[f1]) = false
      have : ¬ ns[m] = ns[f1] := fun e => by
        have := (List.getElem?_inj (i := m) (j := f1) (by omega) hnd).mp (by rw [List.getElem?_eq_getElem (by omega), List.getElem?_eq_getElem hf, e])
        omega
      simp [this]
    · refine ⟨_, rfl, l, _, rfl, .of (hL.mem hl), fun u hu => ?_⟩
      rw [cutT (show f1 ≤ (ns.map V.str).length by rw [List.length_map]; omega), ← List.map_take]
      generalize hH : upd H u _ = H
      replace hL := Led.newH hL hu hH
      clear hH hu
      exact k u [(u, .lst ((ns.take f1).map .str))] H (List.mem_append_right _ (.head _)) (by fail "pm")
  · rw [failV_none hn hf]
    fail "go"
    refine ⟨_, hs2, ?_⟩
    refine k l [] H ?_ hL
    rw [show ns.take f1 = ns from List.take_of_length_le (by omega)]
    exact List.mem_append_left _ (.tail _ (.head _))
end
end Sd


set_option linter.unusedVariables false
namespace Sd
open PySem L2 LamX NdefX PyProof.Rows
open C8 (Cal Met Mak pe_c pe_mk pe_mt pe_mt0 pss_cut tCut)
set_option linter.unusedSimpArgs false
set_option pp.deepTerms false
set_option pp.deepTerms.threshold 12
set_option hygiene false
local macro_rules | `(tactic| fail "nd") => `(tactic| first | assumption | decide +kernel)
local macro_rules | `(tactic| fail "ix") => `(tactic| first | exact ⟨0, rfl⟩ | exact ⟨1, rfl⟩ | exact ⟨2, rfl⟩ | exact ⟨3, rfl⟩ | exact ⟨4, rfl⟩ | exact ⟨5, rfl⟩ | exact ⟨6, rfl⟩ | exact ⟨7, rfl⟩ | exact ⟨8, rfl⟩ | exact ⟨9, rfl⟩ | exact ⟨10, rfl⟩ | exact ⟨11, rfl⟩ | exact ⟨12, rfl⟩ | exact ⟨13, rfl⟩ | exact ⟨14, rfl⟩ | exact ⟨15, rfl⟩ | exact ⟨16, rfl⟩ | exact ⟨17, rfl⟩ | exact ⟨18, rfl⟩ | assumption)
local macro_rules | `(tactic| fail "up") => `(tactic| first | exact ⟨0, rfl, rfl⟩ | exact ⟨1, rfl, rfl⟩ | exact ⟨2, rfl, rfl⟩ | exact ⟨3, rfl, rfl⟩ | exact ⟨4, rfl, rfl⟩ | exact ⟨5, rfl, rfl⟩ | exact ⟨6, rfl, rfl⟩ | exact ⟨7, rfl, rfl⟩ | exact ⟨8, rfl, rfl⟩ | exact ⟨9, rfl, rfl⟩ | exact ⟨10, rfl, rfl⟩ | exact ⟨11, rfl, rfl⟩ | exact ⟨12, rfl, rfl⟩ | exact ⟨13, rfl, rfl⟩ | exact ⟨14, rfl, rfl⟩ | exact ⟨15, rfl, rfl⟩ | exact ⟨16, rfl, rfl⟩ | assumption)
local macro_rules | `(tactic| fail "lkF") => `(tactic| first | assumption | exact fz_at 0 (by fail "nd") rfl rfl | exact fz_at 1 (by fail "nd") rfl rfl | exact fz_at 2 (by fail "nd") rfl rfl | exact fz_at 3 (by fail "nd") rfl rfl | exact fz_at 4 (by fail "nd") rfl rfl | exact fz_at 5 (by fail "nd") rfl rfl | exact fz_at 6 (by fail "nd") rfl rfl | exact fz_at 7 (by fail "nd") rfl rfl)
local macro_rules | `(tactic| fail "lkD") => `(tactic| first | assumption | exact dz_at 0 (by fail "nd") rfl rfl | exact dz_at 1 (by fail "nd") rfl rfl | exact dz_at 2 (by fail "nd") rfl rfl | exact dz_at 3 (by fail "nd") rfl rfl | exact dz_at 4 (by fail "nd") rfl rfl)
local macro_rules | `(tactic| fail "ptF") => `(tactic| first | assumption | exact fz_put 0 (by fail "nd") rfl (Nat.le_of_ble_eq_true rfl) | exact fz_put 1 (by fail "nd") rfl (Nat.le_of_ble_eq_true rfl) | exact fz_put 2 (by fail "nd") rfl (Nat.le_of_ble_eq_true rfl) | exact fz_put 3 (by fail "nd") rfl (Nat.le_of_ble_eq_true rfl) | exact fz_put 4 (by fail "nd") rfl (Nat.le_of_ble_eq_true rfl) | exact fz_put 5 (by fail "nd") rfl (Nat.le_of_ble_eq_true rfl) | exact fz_put 6 (by fail "nd") rfl (Nat.le_of_ble_eq_true rfl) | exact fz_put 7 (by fail "nd") rfl (Nat.le_of_ble_eq_true rfl) | exact fz_new (by decide +kernel) rfl)
local macro_rules | `(tactic| fail "ptD") => `(tactic| first | assumption | exact dz_put 0 (by fail "nd") rfl (Nat.le_of_ble_eq_true rfl) | exact dz_put 1 (by fail "nd") rfl (Nat.le_of_ble_eq_true rfl) | exact dz_put 2 (by fail "nd") rfl (Nat.le_of_ble_eq_true rfl) | exact dz_put 3 (by fail "nd") rfl (Nat.le_of_ble_eq_true rfl) | exact dz_put 4 (by fail "nd") rfl (Nat.le_of_ble_eq_true rfl))
local macro_rules | `(tactic| fail "sz") => `(tactic| first | assumption | exact (Nat.le_of_ble_eq_true rfl) | omega | decide)
local macro_rules | `(tactic| fail "sd") => `(tactic| first | rfl | assumption | decide | omega | (dsimp only; first | decide | omega) | exact .inr ⟨by decide, by decide⟩ | exact .inl ⟨by decide, by decide⟩ | exact ⟨by omega, by omega⟩ | exact .inl ⟨by omega, by omega⟩ | exact .inr ⟨by omega, by omega⟩ | exact ⟨by omega, by omega, by omega⟩)
local macro_rules | `(tactic| fail "cl") => `(tactic| (clear hH; dsimp only [List.set, List.cons_append, List.nil_append, List.append] at hL))
local macro_rules | `(tactic| fail "gn") => `(tactic| (intro p hp; generalize hH : upd H p _ = H; replace hL := Led.newH hL hp hH; clear hH hp))
local macro_rules | `(tactic| fail "gup") => `(tactic| (generalize hH : upd H _ _ = H; replace hL := Led.upU hL (by fail "up") hH; fail "cl"))
local macro_rules | `(tactic| fail "gmk") => `(tactic| (intro x dx hx hd ne; generalize hH : upd (upd H dx _) x _ = H; replace hL := Led.made hL hx hd ne hH; clear hH hx hd ne))
local macro_rules | `(tactic| fail "v") => `(tactic| refine ⟨_, rfl, ?_⟩)
local macro_rules | `(tactic| fail "i2") => `(tactic| refine ⟨_, _, rfl, rfl, ?_⟩)
local macro_rules | `(tactic| fail "go1") => `(tactic| first
  | refine ⟨_, rfl, ?_⟩
  | refine ⟨_, _, rfl, rfl, ?_⟩
  | refine ⟨_, _, rfl, ?_⟩
  | refine iteT ?_
  | refine iteF ?_
  | refine k_fld hL (by fail "ix") (by assumption) (by assumption) (by fail "lkF") ?_
  | refine k_dgetS hL (by fail "ix") (by fail "lkD") ?_
  | refine k_dgetI hL (by fail "ix") (by assumption) ?_
  | refine k_ixL hL (by fail "ix") (by first | rfl | assumption) ?_
  | refine k_ixT hL (by fail "ix") (by first | rfl | assumption) ?_
  | refine k_tyL hL (by fail "ix") ?_
  | refine k_isd hL (by fail "ix") ?_
  | (refine And.intro (by fail "sz") ?_; fail "gn")
  | refine And.intro (by fail "sd") ?_
  | fail "gn"
  | refine k_meth hL (by fail "ix") (by first | assumption | exact fz_no (by decide +kernel)) ?_
  | refine k_gtup hL (by fail "ix") rfl ?_
  | (refine k_popI hL (by fail "ix") (by assumption) ?_; fail "gup")
  | (refine k_listD hL (by fail "ix") ?_; fail "gn")
  | (refine ⟨_, _, _, _, rfl, rfl, hL.at (by fail "ix"), rfl, ?_⟩; fail "gup")
  | (refine ⟨_, _, _, rfl, rfl, hL.at (by fail "ix"), (by fail "sz"), ?_⟩; fail "gup")
  | (refine ⟨_, _, _, _, rfl, hL.at (by fail "ix"), by assumption, by assumption, Nat.lt_of_le_of_lt fz_len (by decide), ?_⟩; generalize hH : upd H _ _ = H; replace hL := Led.upF hL (by fail "up") (by fail "ptF") hH; fail "cl")
  | (refine ⟨_, _, hL.at (by fail "ix"), Nat.lt_of_le_of_lt fz_len (by decide), ?_⟩; generalize hH : upd H _ _ = H; replace hL := Led.upF hL (by fail "up") (by fail "ptF") hH; fail "cl")
  | (refine k_dputS hL (by fail "ix") (Nat.lt_of_le_of_lt dz_len (by decide)) (by fail "ptD") (by fail "up") ?_; clear hL; intro H hL; dsimp only [List.set, List.cons_append, List.nil_append, List.append] at hL)
  | refine k_lenL2 hL (by fail "ix") ?_
  | refine k_lenT2 hL (by fail "ix") ?_
  | refine .inl ⟨_, rfl, ?_⟩
  | refine .inr ⟨_, rfl, ?_⟩)
local macro_rules | `(tactic| fail "go") => `(tactic| repeat fail "go1")
local macro_rules | `(tactic| fail "pm") => `(tactic| (refine Led.le hL (fun a_ => ?_); simp only [cnt_nil, cnt_cons, cnt_app, List.map_append, List.map_cons, List.map_nil, List.flatMap_append, List.flatMap_cons, List.flatMap_nil, List.append_assoc, List.cons_append, List.nil_append]; omega))

theorem end_du {ns : List Str} {f : Nat} {S : FlS} (hn : NsOk ns f) (hw : WOk ns.length f S.j S.d S.u) (hj : S.j = lenN ns.length f) : S.d = f ∧ S.u = (if f < ns.length then f + 1 else 0) := by
  obtain ⟨e1, e2, e3, e4⟩ := fct_end hn.z hn.f
  have h1 := hw.d
  have h2 := hw.u
  rw [hj, e1, e2] at h1
  rw [hj, e3, e4] at h2
  exact ⟨h1.elim id id, h2.elim id id⟩
/-- the names behind the loop -/
structure EnS (σ : L2.St) (l : Addr) (fv : V) (w0 D : Addr) (e : Str) (x u : Addr) : Prop where
  s2 : σ[2]? = some (some (.ref l))
  s4 : σ[4]? = some (some fv)
  s5 : σ[5]? = some (some (.ref w0))
  s6 : σ[6]? = some (some (.ref D))
  s7 : σ[7]? = some (some (.str e))
  s9 : σ[9]? = some (some (.ref x))
  s11 : σ[11]? = some (some (.ref u))
  z : σ.length = 19
/-- a check behind the loop -/
def tChk (CW CD : Addr) (p : TbA) (q q2 : Str) : TS := fun D σ H => ∃ (A : FlA) (ns : List Str) (f : Nat) (S : FlS) (d l : Addr) (a b c : Int) (t : Tbs) (Z : Lg) (u : Addr), EnS σ l (failV ns f) A.w0 A.D (endW ns f) A.x u ∧ NsOk ns f ∧ FlOk ns f S Z ∧ WOk ns.length f S.j S.d S.u ∧ S.j = lenN ns.length f ∧ TbsOk q q2 t Z ∧ (u, HO.lst ((ns.take f).map .str)) ∈ lwD d l a b c ns ++ Z ∧
  Led H (lwT p t ++ (lwD d l a b c ns ++ (flL CW CD A ns f S ++ Z))) ∧
  (∀ (S' : FlS) (t' : Tbs) (Zn : Lg) H', FlOk ns f S' (Zn ++ Z) → WOk ns.length f S'.j S'.d S'.u → S'.j = lenN ns.length f → TbsOk q q2 t' (Zn ++ Z) → Led H' (lwT p t' ++ (lwD d l a b c ns ++ (flL CW CD A ns f S' ++ (Zn ++ Z)))) → D.nx σ H')
theorem u_mem {p : TbA} {t : Tbs} {d l : Addr} {a b c : Int} {ns : List Str} {X Z : Lg} {x : Addr × HO} (h : x ∈ lwD d l a b c ns ++ Z) : x ∈ lwT p t ++ (lwD d l a b c ns ++ (X ++ Z)) := by
  rcases List.mem_append.mp h with h | h
  · exact List.mem_append_right _ (List.mem_append_left _ h)
  · exact List.mem_append_right _ (List.mem_append_right _ (List.mem_append_right _ h))
theorem wo_mem {CW CD : Addr} {p : TbA} {t : Tbs} {A : FlA} {ns : List Str} {f : Nat} {S : FlS} {d l : Addr} {a b c : Int} {Z : Lg} {x : Addr × HO} (h : x ∈ woL A.w0 S.Dn S.Un (ns.take S.d) ((unO ns f).take S.u)) : x ∈ lwT p t ++ (lwD d l a b c ns ++ (flL CW CD A ns f S ++ Z)) :=
  List.mem_append_right _ (List.mem_append_right _ (List.mem_append_left _ (List.mem_append_right _ (List.mem_append_right _ h))))
section
variable {P : Program} {w : World} {K : PySem.W.Frag} {mg : Str → Option Value} {base : Heap} {CW CD CE CQ : Addr} {pa : TbA} {f cL : Addr} {A : Around} {outer : List Env} {s0 : Shared} {H0 : Hp} {E : XK} {q q2 : Str}
theorem st_chk5 (hr : Room 22 (LX P w K mg base f (.ref cL) A outer s0 H0 E).A) (c_Workflow_end : Met P w K mg base 6 CW "end" (spEnd CW pa.e) []) (h_goE : PE (LX P w K mg base f (.ref cL) A outer s0 H0 E) goE (tGoE CW CD pa q q2)) : PS (LX P w K mg base f (.ref cL) A outer s0 H0 E) (nth diceB 5) (tChk CW CD pa q q2) := by
  refine ps_imp (t := _) (ps_if (PW.pt (pw_or (pt_cmpR op_ne (pv 7) (pe_ifExp (pt_cmpR op_isN (pv 4) pe_non (nomark _)) pe_str pe_str) (nomark _)) (pw_or (pt_cmpR (op_neP hr.units) (pe_dget (hu_of hr) (pv 5) pe_str (fun _ _ => rfl)) (pv 11) (nomark _)) (pw_or (pt_cmpR op_ne (pe_mt0 c_Workflow_end hr (by decide) (pv 9)) (pv 7) (nomark _)) (pw_or1 (pt_cmpR op_ne h_goE (pv 7) (nomark _)))))))
  (pss_one (ps_ret pe_bl))
  pss_nil) ?_
  rintro D σ H ⟨A1, ns, f1, S, d, l, a, b, c, t, Z, u, hs, hn, ok, hw, hj, ht, hu, hL, k⟩
  obtain ⟨ed, eu⟩ := end_du hn hw hj
  have hs7 := hs.s7
  have hs4 := hs.s4
  have hu2 := u_mem (p := pa) (t := t) (X := flL CW CD A1 ns f1 S) hu
  have hw0 : (A1.w0, HO.dK (dz nmWd [.ref S.Dn, .ref S.Un, .bl false])) ∈ lwT pa t ++ (lwD d l a b c ns ++ (flL CW CD A1 ns f1 S ++ Z)) := wo_mem (.head _)
  have hDn : (S.Dn, HO.lst ((ns.take f1).map .str)) ∈ lwT pa t ++ (lwD d l a b c ns ++ (flL CW CD A1 ns f1 S ++ Z)) := wo_mem (by rw [ed]; exact .tail _ (.head _))
  have go2 : ∀ (Qr : VK), (∀ (S' : FlS) (t' : Tbs) (Zn : Lg) H', FlOk ns f1 S' (Zn ++ Z) → WOk ns.length f1 S'.j S'.d S'.u → S'.j = lenN ns.length f1 → TbsOk q q2 t' (Zn ++ Z) → Led H' (lwT pa t' ++ (lwD d l a b c ns ++ (flL CW CD A1 ns f1 S' ++ (Zn ++ Z)))) → Qr (.str (endW ns f1)) H') → ∀ (te : Array Value) H, TriplesOk te.toList → Led H (lwT pa { t with e := te } ++ (lwD d l a b c ns ++ (flL CW CD A1 ns f1 S ++ Z))) → tGoE CW CD pa q q2 σ H Qr := fun Qr hq te H hte hL =>
    ⟨A1, ns, f1, S, d, l, a, b, c, { t with e := te }, Z, hs4, hs.s5, hs.s9, hn, ok, hw, hj, ⟨ht.n, ht.u, ht.i, hte, ht.g, ht.l⟩, hL, hq⟩
  have end2 : ∀ (Qr : VK), (∀ (te : Array Value) H', TriplesOk te.toList → Led H' (lwT pa { t with e := te } ++ (lwD d l a b c ns ++ (flL CW CD A1 ns f1 S ++ Z))) → Qr (.str (endW ns f1)) H') → spEnd CW pa.e [.ref A1.x] H Qr C8.E0 := fun Qr hq => by
    have hB : Led H ((pa.e, .tbl t.e) :: (wfL CW A1.x A1.dx A1.D A1.T A1.R ns S.rvs ++ ((pa.n, .tbl t.n) :: (pa.u, .tbl t.u) :: (pa.i, .tbl t.i) :: (pa.g, .tbl t.g) :: (pa.l, .tbl t.l) :: rlO pa :: (lwD d l a b c ns ++ (hdL CD A1 ns f1 S ++ Z))))) := by unfold lwT at hL; rw [flL_hd] at hL; fail "pm"
    have hnz := hn.z
    have hnf := hn.f
    refine ⟨A1.x, A1.dx, A1.D, A1.T, A1.R, ns, S.rvs, (RWs ns f1).take S.j, t.e, _, rfl, hB, ht.e, ok.rv.mono (fun a h => .tail _ (.tail _ (.tail _ (.tail _ (.tail _ (.tail _ (List.mem_append_right _ (List.mem_append_right _ h)))))))), hn.rsz, by omega, fun te H hte hL => ?_⟩
    rw [hn.endE ok.j]
    have e1 : stV ((endN ns.length f1 S.j).map wdS) = .str (endW ns f1) := by
      unfold endN endW
      rw [hj]
      unfold lenN
      by_cases q : f1 < ns.length
      · rw [if_pos q, if_neg (by omega), if_pos ⟨q, rfl⟩, if_pos q]; rfl
      · rw [if_neg q, if_pos ⟨by omega, rfl⟩, if_neg q]; rfl
    rw [e1]
    exact hq te H hte (by unfold lwT; rw [flL_hd]; dsimp only; fail "pm")
  have hx : H A1.x = some (HO.ins CW A1.dx (fz nmW [.ref A1.D, .ref A1.T, .ref A1.R])) := hL.mem (List.mem_append_right _ (List.mem_append_right _ (List.mem_append_left _ (.head _))))
  refine ⟨_, hs7, ?_⟩
  refine ⟨_, hs4, ?_⟩
  have rest : ∀ (R : Bool → Hp → Prop), (∀ (S' : FlS) (t' : Tbs) (Zn : Lg) H', FlOk ns f1 S' (Zn ++ Z) → WOk ns.length f1 S'.j S'.d S'.u → S'.j = lenN ns.length f1 → TbsOk q q2 t' (Zn ++ Z) → Led H' (lwT pa t' ++ (lwD d l a b c ns ++ (flL CW CD A1 ns f1 S' ++ (Zn ++ Z)))) → R false H') →
      L2.tOr (tTest (tOp (rNeP K) (tDGet (tVar 5) (tC (.str "done"))) (tVar 11))) (L2.tOr (tTest (tOp rNe (tMeth CW "end" (spEnd CW pa.e) [] C8.E0 (tVar 9) tNil) (tVar 7))) (tTest (tOp rNe (tGoE CW CD pa q q2) (tVar 7)))) σ H R := fun R hR => by
    have es : (!decide (V.str (endW ns f1) = V.str (endW ns f1))) = false := by simp
    refine ⟨_, hs.s5, ?_⟩
    refine k_dgetS hL (at_mem hw0) (dz_at 0 (by decide +kernel) rfl rfl) ?_
    refine ⟨_, hs.s11, ?_⟩
    refine k_neStrs hL (at_mem hDn) (at_mem hu2) rfl rfl ?_
    rw [show (!decide (ns.take f1 = ns.take f1)) = false by simp]
    refine ⟨_, rfl, ?_⟩
    refine iteF ?_
    refine ⟨_, hs.s9, A1.x, A1.dx, _, rfl, hx, fz_no (by decide +kernel), ?_⟩
    dsimp only [tNil, List.nil_append, List.append_nil]
    refine end2 _ fun te H hte hL => ?_
    refine ⟨_, hs7, rfl, ?_⟩
    rw [es]
    refine ⟨_, rfl, ?_⟩
    refine iteF ?_
    dsimp only [tTest, tOp]
    refine go2 _ (fun S' t' Zn H' o1 o2 o3 o4 hL => ?_) te H hte hL
    refine ⟨_, hs7, rfl, ?_⟩
    rw [es]
    exact ⟨_, rfl, hR S' t' Zn H' o1 o2 o3 o4 hL⟩
  have he : (!decide (V.str (endW ns f1) = V.str (if f1 < ns.length then ("undone" : Str) else "done"))) = false := by unfold endW; simp
  by_cases hf : f1 < ns.length
  · rw [if_pos hf] at he
    rw [failV_some hf]
    fail "go"
    rw [he]
    refine iteF ?_
    exact rest _ fun S' t' Zn H' o1 o2 o3 o4 hL => k S' t' Zn H' o1 o2 o3 o4 hL
  · rw [if_neg hf] at he
    rw [failV_none hn hf]
    fail "go"
    rw [he]
    refine iteF ?_
    exact rest _ fun S' t' Zn H' o1 o2 o3 o4 hL => k S' t' Zn H' o1 o2 o3 o4 hL
end
end Sd


set_option linter.unusedVariables false
namespace Sd
open PySem L2 LamX NdefX PyProof.Rows
open C8 (Cal Met Mak pe_c pe_mk pe_mt pe_mt0 pss_cut tCut)
set_option linter.unusedSimpArgs false
set_option pp.deepTerms false
set_option pp.deepTerms.threshold 12
set_option hygiene false
local macro_rules | `(tactic| fail "nd") => `(tactic| first | assumption | decide +kernel)
local macro_rules | `(tactic| fail "ix") => `(tactic| first | exact ⟨0, rfl⟩ | exact ⟨1, rfl⟩ | exact ⟨2, rfl⟩ | exact ⟨3, rfl⟩ | exact ⟨4, rfl⟩ | exact ⟨5, rfl⟩ | exact ⟨6, rfl⟩ | exact ⟨7, rfl⟩ | exact ⟨8, rfl⟩ | exact ⟨9, rfl⟩ | exact ⟨10, rfl⟩ | exact ⟨11, rfl⟩ | exact ⟨12, rfl⟩ | exact ⟨13, rfl⟩ | exact ⟨14, rfl⟩ | exact ⟨15, rfl⟩ | exact ⟨16, rfl⟩ | exact ⟨17, rfl⟩ | exact ⟨18, rfl⟩ | assumption)
local macro_rules | `(tactic| fail "up") => `(tactic| first | exact ⟨0, rfl, rfl⟩ | exact ⟨1, rfl, rfl⟩ | exact ⟨2, rfl, rfl⟩ | exact ⟨3, rfl, rfl⟩ | exact ⟨4, rfl, rfl⟩ | exact ⟨5, rfl, rfl⟩ | exact ⟨6, rfl, rfl⟩ | exact ⟨7, rfl, rfl⟩ | exact ⟨8, rfl, rfl⟩ | exact ⟨9, rfl, rfl⟩ | exact ⟨10, rfl, rfl⟩ | exact ⟨11, rfl, rfl⟩ | exact ⟨12, rfl, rfl⟩ | exact ⟨13, rfl, rfl⟩ | exact ⟨14, rfl, rfl⟩ | exact ⟨15, rfl, rfl⟩ | exact ⟨16, rfl, rfl⟩ | assumption)
local macro_rules | `(tactic| fail "lkF") => `(tactic| first | assumption | exact fz_at 0 (by fail "nd") rfl rfl | exact fz_at 1 (by fail "nd") rfl rfl | exact fz_at 2 (by fail "nd") rfl rfl | exact fz_at 3 (by fail "nd") rfl rfl | exact fz_at 4 (by fail "nd") rfl rfl | exact fz_at 5 (by fail "nd") rfl rfl | exact fz_at 6 (by fail "nd") rfl rfl | exact fz_at 7 (by fail "nd") rfl rfl)
local macro_rules | `(tactic| fail "lkD") => `(tactic| first | assumption | exact dz_at 0 (by fail "nd") rfl rfl | exact dz_at 1 (by fail "nd") rfl rfl | exact dz_at 2 (by fail "nd") rfl rfl | exact dz_at 3 (by fail "nd") rfl rfl | exact dz_at 4 (by fail "nd") rfl rfl)
local macro_rules | `(tactic| fail "ptF") => `(tactic| first | assumption | exact fz_put 0 (by fail "nd") rfl (Nat.le_of_ble_eq_true rfl) | exact fz_put 1 (by fail "nd") rfl (Nat.le_of_ble_eq_true rfl) | exact fz_put 2 (by fail "nd") rfl (Nat.le_of_ble_eq_true rfl) | exact fz_put 3 (by fail "nd") rfl (Nat.le_of_ble_eq_true rfl) | exact fz_put 4 (by fail "nd") rfl (Nat.le_of_ble_eq_true rfl) | exact fz_put 5 (by fail "nd") rfl (Nat.le_of_ble_eq_true rfl) | exact fz_put 6 (by fail "nd") rfl (Nat.le_of_ble_eq_true rfl) | exact fz_put 7 (by fail "nd") rfl (Nat.le_of_ble_eq_true rfl) | exact fz_new (by decide +kernel) rfl)
local macro_rules | `(tactic| fail "ptD") => `(tactic| first | assumption | exact dz_put 0 (by fail "nd") rfl (Nat.le_of_ble_eq_true rfl) | exact dz_put 1 (by fail "nd") rfl (Nat.le_of_ble_eq_true rfl) | exact dz_put 2 (by fail "nd") rfl (Nat.le_of_ble_eq_true rfl) | exact dz_put 3 (by fail "nd") rfl (Nat.le_of_ble_eq_true rfl) | exact dz_put 4 (by fail "nd") rfl (Nat.le_of_ble_eq_true rfl))
local macro_rules | `(tactic| fail "sz") => `(tactic| first | assumption | exact (Nat.le_of_ble_eq_true rfl) | omega | decide)
local macro_rules | `(tactic| fail "sd") => `(tactic| first | rfl | assumption | decide | omega | (dsimp only; first | decide | omega) | exact .inr ⟨by decide, by decide⟩ | exact .inl ⟨by decide, by decide⟩ | exact ⟨by omega, by omega⟩ | exact .inl ⟨by omega, by omega⟩ | exact .inr ⟨by omega, by omega⟩ | exact ⟨by omega, by omega, by omega⟩)
local macro_rules | `(tactic| fail "cl") => `(tactic| (clear hH; dsimp only [List.set, List.cons_append, List.nil_append, List.append] at hL))
local macro_rules | `(tactic| fail "gn") => `(tactic| (intro p hp; generalize hH : upd H p _ = H; replace hL := Led.newH hL hp hH; clear hH hp))
local macro_rules | `(tactic| fail "gup") => `(tactic| (generalize hH : upd H _ _ = H; replace hL := Led.upU hL (by fail "up") hH; fail "cl"))
local macro_rules | `(tactic| fail "gmk") => `(tactic| (intro x dx hx hd ne; generalize hH : upd (upd H dx _) x _ = H; replace hL := Led.made hL hx hd ne hH; clear hH hx hd ne))
local macro_rules | `(tactic| fail "v") => `(tactic| refine ⟨_, rfl, ?_⟩)
local macro_rules | `(tactic| fail "i2") => `(tactic| refine ⟨_, _, rfl, rfl, ?_⟩)
local macro_rules | `(tactic| fail "go1") => `(tactic| first
  | refine ⟨_, rfl, ?_⟩
  | refine ⟨_, _, rfl, rfl, ?_⟩
  | refine ⟨_, _, rfl, ?_⟩
  | refine iteT ?_
  | refine iteF ?_
  | refine k_fld hL (by fail "ix") (by assumption) (by assumption) (by fail "lkF") ?_
  | refine k_dgetS hL (by fail "ix") (by fail "lkD") ?_
  | refine k_dgetI hL (by fail "ix") (by assumption) ?_
  | refine k_ixL hL (by fail "ix") (by first | rfl | assumption) ?_
  | refine k_ixT hL (by fail "ix") (by first | rfl | assumption) ?_
  | refine k_tyL hL (by fail "ix") ?_
  | refine k_isd hL (by fail "ix") ?_
  | (refine And.intro (by fail "sz") ?_; fail "gn")
  | refine And.intro (by fail "sd") ?_
  | fail "gn"
  | refine k_meth hL (by fail "ix") (by first | assumption | exact fz_no (by decide +kernel)) ?_
  | refine k_gtup hL (by fail "ix") rfl ?_
  | (refine k_popI hL (by fail "ix") (by assumption) ?_; fail "gup")
  | (refine k_listD hL (by fail "ix") ?_; fail "gn")
  | (refine ⟨_, _, _, _, rfl, rfl, hL.at (by fail "ix"), rfl, ?_⟩; fail "gup")
  | (refine ⟨_, _, _, rfl, rfl, hL.at (by fail "ix"), (by fail "sz"), ?_⟩; fail "gup")
  | (refine ⟨_, _, _, _, rfl, hL.at (by fail "ix"), by assumption, by assumption, Nat.lt_of_le_of_lt fz_len (by decide), ?_⟩; generalize hH : upd H _ _ = H; replace hL := Led.upF hL (by fail "up") (by fail "ptF") hH; fail "cl")
  | (refine ⟨_, _, hL.at (by fail "ix"), Nat.lt_of_le_of_lt fz_len (by decide), ?_⟩; generalize hH : upd H _ _ = H; replace hL := Led.upF hL (by fail "up") (by fail "ptF") hH; fail "cl")
  | (refine k_dputS hL (by fail "ix") (Nat.lt_of_le_of_lt dz_len (by decide)) (by fail "ptD") (by fail "up") ?_; clear hL; intro H hL; dsimp only [List.set, List.cons_append, List.nil_append, List.append] at hL)
  | refine k_lenL2 hL (by fail "ix") ?_
  | refine k_lenT2 hL (by fail "ix") ?_
  | refine .inl ⟨_, rfl, ?_⟩
  | refine .inr ⟨_, rfl, ?_⟩)
local macro_rules | `(tactic| fail "go") => `(tactic| repeat fail "go1")
local macro_rules | `(tactic| fail "pm") => `(tactic| (refine Led.le hL (fun a_ => ?_); simp only [cnt_nil, cnt_cons, cnt_app, List.map_append, List.map_cons, List.map_nil, List.flatMap_append, List.flatMap_cons, List.flatMap_nil, List.append_assoc, List.cons_append, List.nil_append]; omega))

theorem unO_all {ns : List Str} {f : Nat} (hf : f < ns.length) : (unO ns f).take (f + 1) = [ns[f]] ++ (ns.take f).reverse := by
  unfold unO
  rw [List.take_of_length_le (by rw [List.length_reverse, List.length_take]; omega), take_succ_at (List.getElem?_eq_getElem hf), List.reverse_append]
  rfl
section
variable {P : Program} {w : World} {K : PySem.W.Frag} {mg : Str → Option Value} {base : Heap} {CW CD CE CQ : Addr} {pa : TbA} {f cL : Addr} {A : Around} {outer : List Env} {s0 : Shared} {H0 : Hp} {E : XK} {q q2 : Str}
theorem st_chk6 (hr : Room 22 (LX P w K mg base f (.ref cL) A outer s0 H0 E).A) : PS (LX P w K mg base f (.ref cL) A outer s0 H0 E) (nth diceB 6) (tChk CW CD pa q q2) := by
  refine ps_imp (t := _) (ps_if (PW.pt (pw_or (pt_cmpR (op_neP hr.units) (pe_dget (hu_of hr) (pv 5) pe_str (fun _ _ => rfl)) (pe_ifExp (pt_cmpR op_isN (pv 4) pe_non (nomark _)) (pe_lst pa_nil) (pe_op op_cat (pe_lst (pa_cons (pv 4) pa_nil)) (pe_rev rv_list (pv 11) (pe_un un_neg pe_int)))) (nomark _)) (pw_or1 (pt_val (pe_dget (hu_of hr) (pv 5) pe_str (fun _ _ => rfl))))))
  (pss_one (ps_ret pe_bl))
  pss_nil) ?_
  rintro D σ H ⟨A1, ns, f1, S, d, l, a, b, c, t, Z, u, hs, hn, ok, hw, hj, ht, hu, hL, k⟩
  obtain ⟨ed, eu⟩ := end_du hn hw hj
  have hs4 := hs.s4
  have hu2 := u_mem (p := pa) (t := t) (X := flL CW CD A1 ns f1 S) hu
  have hw0 : (A1.w0, HO.dK (dz nmWd [.ref S.Dn, .ref S.Un, .bl false])) ∈ lwT pa t ++ (lwD d l a b c ns ++ (flL CW CD A1 ns f1 S ++ Z)) := wo_mem (.head _)
  have hUn : (S.Un, HO.lst (((unO ns f1).take S.u).map .str)) ∈ lwT pa t ++ (lwD d l a b c ns ++ (flL CW CD A1 ns f1 S ++ Z)) := wo_mem (.tail _ (.tail _ (.head _)))
  rw [eu] at hUn
  have hnz := hn.z
  have hz3 : 100 ≤ sizeLine := by decide
  have hk : ∀ H, Led H (lwT pa t ++ (lwD d l a b c ns ++ (flL CW CD A1 ns f1 S ++ Z))) → D.nx σ H := fun H hL => k S t [] H ok hw hj ht hL
  obtain ⟨L0, hL0⟩ : ∃ L0 : Lg, L0 = lwT pa t ++ (lwD d l a b c ns ++ (flL CW CD A1 ns f1 S ++ Z)) := ⟨_, rfl⟩
  rw [← hL0] at hL hk hu2 hw0 hUn
  refine ⟨_, hs.s5, ?_⟩
  refine k_dgetS hL (at_mem hw0) (dz_at 1 (by decide +kernel) rfl rfl) ?_
  refine ⟨_, hs4, ?_⟩
  by_cases hf : f1 < ns.length
  · rw [failV_some hf] at hs4 ⊢
    rw [if_pos hf, unO_all hf] at hUn
    fail "go"
    refine ⟨_, hs4, ?_⟩
    fail "go"
    refine ⟨_, hs.s11, ?_⟩
    fail "go"
    refine ⟨u, _, rfl, .of (hL.mem (.tail _ hu2)), fun p2 hp => ?_⟩
    generalize hH : upd H p2 _ = H
    replace hL := Led.newH hL hp hH
    clear hH hp
    rw [← List.map_reverse] at hL
    refine k_cat hL ⟨1, rfl⟩ ⟨0, rfl⟩ (by rw [List.length_map, List.length_reverse, List.length_take, List.length_cons, List.length_nil]; omega) fun p3 hp => ?_
    generalize hH : upd H p3 _ = H
    replace hL := Led.newH hL hp hH
    clear hH hp
    refine k_neStrs hL (at_mem (.tail _ (.tail _ (.tail _ hUn)))) ⟨0, rfl⟩ rfl (b := [ns[f1]] ++ (ns.take f1).reverse) (by rw [List.map_append]; rfl) ?_
    rw [show (!decide ([ns[f1]] ++ (ns.take f1).reverse = [ns[f1]] ++ (ns.take f1).reverse)) = false by simp]
    refine ⟨_, rfl, ?_⟩
    refine iteF ?_
    refine ⟨_, hs.s5, ?_⟩
    refine k_dgetS hL (at_mem (.tail _ (.tail _ (.tail _ hw0)))) (dz_at 2 (by decide +kernel) rfl rfl) ?_
    refine ⟨_, rfl, ?_⟩
    refine iteF ?_
    exact hk _ hL.tail.tail.tail
  · rw [failV_none hn hf] at hs4 ⊢
    rw [if_neg hf, List.take_zero] at hUn
    fail "go"
    refine k_neStrs hL (at_mem (.tail _ hUn)) ⟨0, rfl⟩ rfl (b := []) rfl ?_
    refine ⟨_, rfl, ?_⟩
    refine iteF ?_
    refine ⟨_, hs.s5, ?_⟩
    refine k_dgetS hL (at_mem (.tail _ hw0)) (dz_at 2 (by decide +kernel) rfl rfl) ?_
    refine ⟨_, rfl, ?_⟩
    refine iteF ?_
    exact hk _ hL.tail
end
end Sd


set_option linter.unusedVariables false
namespace Sd
open PySem L2 LamX NdefX PyProof.Rows
open C8 (Cal Met Mak pe_c pe_mk pe_mt pe_mt0 pss_cut tCut)
set_option linter.unusedSimpArgs false
set_option pp.deepTerms false
set_option pp.deepTerms.threshold 12
set_option hygiene false
local macro_rules | `(tactic| fail "nd") => `(tactic| first | assumption | decide +kernel)
local macro_rules | `(tactic| fail "ix") => `(tactic| first | exact ⟨0, rfl⟩ | exact ⟨1, rfl⟩ | exact ⟨2, rfl⟩ | exact ⟨3, rfl⟩ | exact ⟨4, rfl⟩ | exact ⟨5, rfl⟩ | exact ⟨6, rfl⟩ | exact ⟨7, rfl⟩ | exact ⟨8, rfl⟩ | exact ⟨9, rfl⟩ | exact ⟨10, rfl⟩ | exact ⟨11, rfl⟩ | exact ⟨12, rfl⟩ | exact ⟨13, rfl⟩ | exact ⟨14, rfl⟩ | exact ⟨15, rfl⟩ | exact ⟨16, rfl⟩ | exact ⟨17, rfl⟩ | exact ⟨18, rfl⟩ | assumption)
local macro_rules | `(tactic| fail "up") => `(tactic| first | exact ⟨0, rfl, rfl⟩ | exact ⟨1, rfl, rfl⟩ | exact ⟨2, rfl, rfl⟩ | exact ⟨3, rfl, rfl⟩ | exact ⟨4, rfl, rfl⟩ | exact ⟨5, rfl, rfl⟩ | exact ⟨6, rfl, rfl⟩ | exact ⟨7, rfl, rfl⟩ | exact ⟨8, rfl, rfl⟩ | exact ⟨9, rfl, rfl⟩ | exact ⟨10, rfl, rfl⟩ | exact ⟨11, rfl, rfl⟩ | exact ⟨12, rfl, rfl⟩ | exact ⟨13, rfl, rfl⟩ | exact ⟨14, rfl, rfl⟩ | exact ⟨15, rfl, rfl⟩ | exact ⟨16, rfl, rfl⟩ | assumption)
local macro_rules | `(tactic| fail "lkF") => `(tactic| first | assumption | exact fz_at 0 (by fail "nd") rfl rfl | exact fz_at 1 (by fail "nd") rfl rfl | exact fz_at 2 (by fail "nd") rfl rfl | exact fz_at 3 (by fail "nd") rfl rfl | exact fz_at 4 (by fail "nd") rfl rfl | exact fz_at 5 (by fail "nd") rfl rfl | exact fz_at 6 (by fail "nd") rfl rfl | exact fz_at 7 (by fail "nd") rfl rfl)
local macro_rules | `(tactic| fail "lkD") => `(tactic| first | assumption | exact dz_at 0 (by fail "nd") rfl rfl | exact dz_at 1 (by fail "nd") rfl rfl | exact dz_at 2 (by fail "nd") rfl rfl | exact dz_at 3 (by fail "nd") rfl rfl | exact dz_at 4 (by fail "nd") rfl rfl)
local macro_rules | `(tactic| fail "ptF") => `(tactic| first | assumption | exact fz_put 0 (by fail "nd") rfl (Nat.le_of_ble_eq_true rfl) | exact fz_put 1 (by fail "nd") rfl (Nat.le_of_ble_eq_true rfl) | exact fz_put 2 (by fail "nd") rfl (Nat.le_of_ble_eq_true rfl) | exact fz_put 3 (by fail "nd") rfl (Nat.le_of_ble_eq_true rfl) | exact fz_put 4 (by fail "nd") rfl (Nat.le_of_ble_eq_true rfl) | exact fz_put 5 (by fail "nd") rfl (Nat.le_of_ble_eq_true rfl) | exact fz_put 6 (by fail "nd") rfl (Nat.le_of_ble_eq_true rfl) | exact fz_put 7 (by fail "nd") rfl (Nat.le_of_ble_eq_true rfl) | exact fz_new (by decide +kernel) rfl)
local macro_rules | `(tactic| fail "ptD") => `(tactic| first | assumption | exact dz_put 0 (by fail "nd") rfl (Nat.le_of_ble_eq_true rfl) | exact dz_put 1 (by fail "nd") rfl (Nat.le_of_ble_eq_true rfl) | exact dz_put 2 (by fail "nd") rfl (Nat.le_of_ble_eq_true rfl) | exact dz_put 3 (by fail "nd") rfl (Nat.le_of_ble_eq_true rfl) | exact dz_put 4 (by fail "nd") rfl (Nat.le_of_ble_eq_true rfl))
local macro_rules | `(tactic| fail "sz") => `(tactic| first | assumption | exact (Nat.le_of_ble_eq_true rfl) | omega | decide)
local macro_rules | `(tactic| fail "sd") => `(tactic| first | rfl | assumption | decide | omega | (dsimp only; first | decide | omega) | exact .inr ⟨by decide, by decide⟩ | exact .inl ⟨by decide, by decide⟩ | exact ⟨by omega, by omega⟩ | exact .inl ⟨by omega, by omega⟩ | exact .inr ⟨by omega, by omega⟩ | exact ⟨by omega, by omega, by omega⟩)
local macro_rules | `(tactic| fail "cl") => `(tactic| (clear hH; dsimp only [List.set, List.cons_append, List.nil_append, List.append] at hL))
local macro_rules | `(tactic| fail "gn") => `(tactic| (intro p hp; generalize hH : upd H p _ = H; replace hL := Led.newH hL hp hH; clear hH hp))
local macro_rules | `(tactic| fail "gup") => `(tactic| (generalize hH : upd H _ _ = H; replace hL := Led.upU hL (by fail "up") hH; fail "cl"))
local macro_rules | `(tactic| fail "gmk") => `(tactic| (intro x dx hx hd ne; generalize hH : upd (upd H dx _) x _ = H; replace hL := Led.made hL hx hd ne hH; clear hH hx hd ne))
local macro_rules | `(tactic| fail "v") => `(tactic| refine ⟨_, rfl, ?_⟩)
local macro_rules | `(tactic| fail "i2") => `(tactic| refine ⟨_, _, rfl, rfl, ?_⟩)
local macro_rules | `(tactic| fail "go1") => `(tactic| first
  | refine ⟨_, rfl, ?_⟩
  | refine ⟨_, _, rfl, rfl, ?_⟩
  | refine ⟨_, _, rfl, ?_⟩
  | refine iteT ?_
  | refine iteF ?_
  | refine k_fld hL (by fail "ix") (by assumption) (by assumption) (by fail "lkF") ?_
  | refine k_dgetS hL (by fail "ix") (by fail "lkD") ?_
  | refine k_dgetI hL (by fail "ix") (by assumption) ?_
  | refine k_ixL hL (by fail "ix") (by first | rfl | assumption) ?_
  | refine k_ixT hL (by fail "ix") (by first | rfl | assumption) ?_
  | refine k_tyL hL (by fail "ix") ?_
  | refine k_isd hL (by fail "ix") ?_
  | (refine And.intro (by fail "sz") ?_; fail "gn")
  | refine And.intro (by fail "sd") ?_
  | fail "gn"
  | refine k_meth hL (by fail "ix") (by first | assumption | exact fz_no (by decide +kernel)) ?_
  | refine k_gtup hL (by fail "ix") rfl ?_
  | (refine k_popI hL (by fail "ix") (by assumption) ?_; fail "gup")
  | (refine k_listD hL (by fail "ix") ?_; fail "gn")
  | (refine ⟨_, _, _, _, rfl, rfl, hL.at (by fail "ix"), rfl, ?_⟩; fail "gup")
  | (refine ⟨_, _, _, rfl, rfl, hL.at (by fail "ix"), (by fail "sz"), ?_⟩; fail "gup")
  | (refine ⟨_, _, _, _, rfl, hL.at (by fail "ix"), by assumption, by assumption, Nat.lt_of_le_of_lt fz_len (by decide), ?_⟩; generalize hH : upd H _ _ = H; replace hL := Led.upF hL (by fail "up") (by fail "ptF") hH; fail "cl")
  | (refine ⟨_, _, hL.at (by fail "ix"), Nat.lt_of_le_of_lt fz_len (by decide), ?_⟩; generalize hH : upd H _ _ = H; replace hL := Led.upF hL (by fail "up") (by fail "ptF") hH; fail "cl")
  | (refine k_dputS hL (by fail "ix") (Nat.lt_of_le_of_lt dz_len (by decide)) (by fail "ptD") (by fail "up") ?_; clear hL; intro H hL; dsimp only [List.set, List.cons_append, List.nil_append, List.append] at hL)
  | refine k_lenL2 hL (by fail "ix") ?_
  | refine k_lenT2 hL (by fail "ix") ?_
  | refine .inl ⟨_, rfl, ?_⟩
  | refine .inr ⟨_, rfl, ?_⟩)
local macro_rules | `(tactic| fail "go") => `(tactic| repeat fail "go1")
local macro_rules | `(tactic| fail "pm") => `(tactic| (refine Led.le hL (fun a_ => ?_); simp only [cnt_nil, cnt_cons, cnt_app, List.map_append, List.map_cons, List.map_nil, List.flatMap_append, List.flatMap_cons, List.flatMap_nil, List.append_assoc, List.cons_append, List.nil_append]; omega))

/-- the states at the end -/
def stE (n f : Nat) : List (Option Str) := if f < n then List.replicate (f + 1) (some ("undone" : Str)) ++ List.replicate (n - f - 1) (none : Option Str) else List.replicate n (some ("done" : Str))
theorem stE_eq {ns : List Str} {f : Nat} (hn : NsOk ns f) : (ns.map fun s => stOf ((RWs ns f).take (lenN ns.length f)) s) = stE ns.length f := by
  have F := hn.fct (Nat.le_refl (lenN ns.length f))
  have hf := hn.f
  apply List.ext_getElem?
  intro i
  rw [List.getElem?_map]
  by_cases hi : i < ns.length
  · rw [List.getElem?_eq_getElem hi, Option.map_some, hn.st (Nat.le_refl _) (List.getElem?_eq_getElem hi)]
    unfold stE
    by_cases q : f < ns.length
    · rw [if_pos q, F.st2 i hi q (by unfold lenN; rw [if_pos q]; omega)]
      by_cases e : f < i
      · rw [if_pos e, List.getElem?_append_right (by rw [List.length_replicate]; omega), List.length_replicate, List.getElem?_replicate, if_pos (by omega)]
        rfl
      · rw [if_neg e, if_pos (by unfold lenN; rw [if_pos q]; omega), List.getElem?_append_left (by rw [List.length_replicate]; omega), List.getElem?_replicate, if_pos (by omega)]
        rfl
    · rw [if_neg q, F.st1 i hi (by omega) (by unfold lenN; rw [if_neg q]; omega) (by omega), if_neg (by unfold lenN; rw [if_neg q]; omega), if_neg (by unfold lenN; rw [if_neg q]; omega), List.getElem?_replicate, if_pos hi]
      rfl
  · rw [List.getElem?_eq_none (by omega), Option.map_none, List.getElem?_eq_none]
    unfold stE
    split
    · rw [List.length_append, List.length_replicate, List.length_replicate]; omega
    · rw [List.length_replicate]; omega
def pyS : Option Str → PyData
  | none => .none
  | some s => .str s
theorem dp_st {K : PySem.W.Frag} {H : Hp} {os : List (Option Str)} : DpAll K H (os.map stV) (os.map pyS) := dp_all fun o _ => by
  cases o with
  | none => exact .non
  | some s => exact .str s
theorem shal_st {os : List (Option Str)} : Shal (.list (os.map pyS)) := shal_list (n := 0) (by decide) fun o _ => by
  cases o with
  | none => exact ⟨by simp [pyS, PyData.plain], by simp [pyS, PyData.depth]⟩
  | some s => exact ⟨by simp [pyS, PyData.plain], by simp [pyS, PyData.depth]⟩
theorem rep_flat {v : V} : ∀ k : Nat, (List.replicate k [v]).flatten = List.replicate k v
  | 0 => rfl
  | k + 1 => by rw [List.replicate_succ, List.flatten_cons, rep_flat k, List.replicate_succ]; rfl
theorem k_repN {k : Nat} {l : Addr} {v : V} {H : Hp} {L : Lg} {Q : VK} {i : Int} (hL : Led H L) (e : At L l (.lst [v])) (hi : i = (k : Int)) (hk : k ≤ 100) (q : ∀ p, H p = none → Q (.ref p) (L2.upd H p (.lst (List.replicate k v)))) : rRep (.ref l) (.int i) H Q := by
  subst hi
  refine ⟨_, _, _, rfl, rfl, hL.at e, by omega, by omega, ?_, fun p hp => ?_⟩
  · rw [Int.toNat_natCast, List.length_cons, List.length_nil]
    have : 100 ≤ sizeLine := by decide
    omega
  · rw [Int.toNat_natCast, rep_flat]
    exact q p hp
theorem EnS.ex {σ : L2.St} {l w0 D x u : Addr} {fv : V} {e : Str} (h : EnS σ l fv w0 D e x u) : ∃ v0 v1 v3 v8 v10 v12 v13 v14 v15 v16 v17 v18, σ = [v0, v1, some (.ref l), v3, some fv, some (.ref w0), some (.ref D), some (.str e), v8, some (.ref x), v10, some (.ref u), v12, v13, v14, v15, v16, v17, v18] := by
  match σ, h with
  | [a0, a1, a2, a3, a4, a5, a6, a7, a8, a9, a10, a11, a12, a13, a14, a15, a16, a17, a18], h =>
    obtain ⟨h2, h4, h5, h6, h7, h9, h11, _⟩ := h
    cases h2; cases h4; cases h5; cases h6; cases h7; cases h9; cases h11
    exact ⟨_, _, _, _, _, _, _, _, _, _, _, _, rfl⟩
section
variable {P : Program} {w : World} {K : PySem.W.Frag} {mg : Str → Option Value} {base : Heap} {CW CD CE CQ : Addr} {pa : TbA} {f cL : Addr} {A : Around} {outer : List Env} {s0 : Shared} {H0 : Hp} {E : XK} {q q2 : Str}
def tChk7 (CW CD : Addr) (p : TbA) (q q2 : Str) : TS := fun D σ H => ∃ (A : FlA) (ns : List Str) (f : Nat) (S : FlS) (d l : Addr) (a b c : Int) (t : Tbs) (Z : Lg) (u : Addr), EnS σ l (failV ns f) A.w0 A.D (endW ns f) A.x u ∧ NsOk ns f ∧ FlOk ns f S Z ∧ S.j = lenN ns.length f ∧ (u, HO.lst ((ns.take f).map .str)) ∈ lwD d l a b c ns ++ Z ∧
  Led H (lwT p t ++ (lwD d l a b c ns ++ (flL CW CD A ns f S ++ Z))) ∧
  (∀ (v : Option V) H', Led H' (lwT p t ++ (lwD d l a b c ns ++ (flL CW CD A ns f S ++ Z))) → D.nx (σ.set 12 v) H')
theorem st_chk7 (hr : Room 22 (LX P w K mg base f (.ref cL) A outer s0 H0 E).A) (T : TxtG mg) (c_Workflow_state_of : Met P w K mg base 1 CW "state_of" (spSof CW) []) {rest : List Stmt} {ur : TS} (h_r : PSs (LX P w K mg base f (.ref cL) A outer s0 H0 E) rest ur) : PSs (LX P w K mg base f (.ref cL) A outer s0 H0 E) (nth diceB 7 :: nth diceB 8 :: rest) (fun D σ H => tChk7 CW CD pa q q2 { D with nx := ur D } σ H) := by
  refine pss_imp (t := _) (pss_cons (ps_setLc (i := 12) (own := [("step", 13)]) (g := gName 13) (by rfl) scLaw.nd rfl rfl (sw_true rfl rfl rfl (by decide +kernel)) (pi_list (pv 2)) (blkOk_by (own := [("step", 13)]) (N := ["script", "dice", "steps", "k", "fails", "world", "disk", "end", "turns", "flow", "before", "due", "states", "step", "again", "spoilt", "bad", "fresh", "f"]) (sc := (defScope sLaw)) (by decide +kernel)) (fun _ _ _ _ _ => (pg_name (i := 13) scLaw.nd rfl (Or.inl rfl))) (fun _ _ _ _ _ => pts_nil) (fun _ _ _ _ _ => (pe_mt c_Workflow_state_of hr (by decide) (pv 9) (pa_cons (pv 13) pa_nil)))) (pss_cons (ps_if (pt_cmpR (op_neP hr.units) (pv 12) (pe_ifExp (pt_cmpR op_isN (pv 4) pe_non (nomark _)) (pe_op op_rep (pe_lst (pa_cons pe_str pa_nil)) (pe_callB call_len_seq (by rfl) T.len (by decide +kernel) (pa_cons (pv 2) pa_nil))) (pe_op op_cat (pe_op op_rep (pe_lst (pa_cons pe_str pa_nil)) (pe_op op_add (pe_callB call_len_seq (by rfl) T.len (by decide +kernel) (pa_cons (pv 11) pa_nil)) pe_int)) (pe_op op_rep (pe_lst (pa_cons pe_non pa_nil)) (pe_op op_sub (pe_op op_sub (pe_callB call_len_seq (by rfl) T.len (by decide +kernel) (pa_cons (pv 2) pa_nil)) (pe_callB call_len_seq (by rfl) T.len (by decide +kernel) (pa_cons (pv 11) pa_nil))) pe_int)))) (nomark _))
  (pss_one (ps_ret pe_bl))
  pss_nil) h_r)) ?_
  rintro D σ H ⟨A1, ns, f1, S, d, l, a, b, c, t, Z, u, hs, hn, ok, hj, hu, hL, k⟩
  obtain ⟨v0, v1, v3, v8, v10, v12, v13, v14, v15, v16, v17, v18, rfl⟩ := hs.ex
  have hu2 := u_mem (p := pa) (t := t) (X := flL CW CD A1 ns f1 S) hu
  have hl : (l, HO.lst (ns.map .str)) ∈ lwT pa t ++ (lwD d l a b c ns ++ (flL CW CD A1 ns f1 S ++ Z)) := List.mem_append_right _ (List.mem_append_left _ (.tail _ (.head _)))
  have hx : (A1.x, HO.ins CW A1.dx (fz nmW [.ref A1.D, .ref A1.T, .ref A1.R])) ∈ lwT pa t ++ (lwD d l a b c ns ++ (flL CW CD A1 ns f1 S ++ Z)) := List.mem_append_right _ (List.mem_append_right _ (List.mem_append_left _ (.head _)))
  have hnz := hn.z
  have hz3 : 100 < sizeLine := by decide
  obtain ⟨L0, hL0⟩ : ∃ L0 : Lg, L0 = lwT pa t ++ (lwD d l a b c ns ++ (flL CW CD A1 ns f1 S ++ Z)) := ⟨_, rfl⟩
  have hcnt : ∀ a_, cnt a_ (wfL CW A1.x A1.dx A1.D A1.T A1.R ns S.rvs) + (cnt a_ (lwT pa t) + cnt a_ (lwD d l a b c ns) + cnt a_ (hdL CD A1 ns f1 S) + cnt a_ Z) = cnt a_ L0 := fun a_ => by
    rw [hL0, flL_hd]
    simp only [cnt_app]
    omega
  rw [← hL0] at hL hl hx hu2 k
  refine ⟨_, rfl, ?_⟩
  refine ⟨_, rfl, ⟨_, .of (hL.mem hl)⟩, fun Dl hD => lc_list (K := K) (a := l) (xs := ns.map V.str) (fun i H => Hold (Led H ((Dl, .lst (((ns.take i).map fun s => stOf ((RWs ns f1).take S.j) s).map stV)) :: L0))) (.mk (hL.new hD)) (fun i H _ h => ?_) (fun i v H hi h => ?_) (fun H h => ?_)⟩
  · exact .of (h.out.mem (.tail _ hl))
  · clear hL hD
    have hL := h.out
    clear h
    rw [List.getElem?_map] at hi
    obtain ⟨st, hst, rfl⟩ := Option.map_eq_some_iff.mp hi
    refine ⟨rfl, k_yes ?_⟩
    have e1 : ((ns.take (i + 1)).map fun s => stOf ((RWs ns f1).take S.j) s).map stV = ((ns.take i).map fun s => stOf ((RWs ns f1).take S.j) s).map stV ++ [stV (stOf ((RWs ns f1).take S.j) st)] := by
      rw [take_succ_at hst, List.map_append, List.map_append]
      rfl
    refine ⟨_, rfl, A1.x, A1.dx, _, rfl, hL.mem (.tail _ hx), fz_no (by decide +kernel), ?_⟩
    fail "go"
    have hB : Led H (wfL CW A1.x A1.dx A1.D A1.T A1.R ns S.rvs ++ ((Dl, .lst (((ns.take i).map fun s => stOf ((RWs ns f1).take S.j) s).map stV)) :: (lwT pa t ++ (lwD d l a b c ns ++ (hdL CD A1 ns f1 S ++ Z))))) := hL.le (fun a_ => by have := hcnt a_; simp only [cnt_cons, cnt_app]; omega)
    clear hL
    refine ⟨A1.x, A1.dx, A1.D, A1.T, A1.R, ns, S.rvs, (RWs ns f1).take S.j, st, _, rfl, hB, ok.rv.mono (fun a h => .tail _ (List.mem_append_right _ (List.mem_append_right _ (List.mem_append_right _ h)))), hn.rsz, fun H hL => ?_⟩
    clear hB
    have hL : Led H ((Dl, .lst (((ns.take i).map fun s => stOf ((RWs ns f1).take S.j) s).map stV)) :: L0) := hL.le (fun a_ => by have := hcnt a_; simp only [cnt_cons, cnt_app]; omega)
    refine ⟨_, hL.at ⟨0, rfl⟩, ?_, ?_⟩
    · rw [List.length_map, List.length_map, List.length_take]
      omega
    · rw [e1]
      exact .mk (hL.set 0 rfl)
  · clear hL hD
    have hL := h.out
    clear h
    rw [List.length_map, List.take_length, hj, stE_eq hn] at hL
    refine (show gName 12 (.ref Dl) _ _ _ from ?_)
    have hk : ∀ H, Led H L0 → ur D ([v0, v1, some (.ref l), v3, some (failV ns f1), some (.ref A1.w0), some (.ref A1.D), some (.str (endW ns f1)), v8, some (.ref A1.x), v10, some (.ref u), v12, v13, v14, v15, v16, v17, v18].set 12 (some (.ref Dl))) H := fun H hL => k _ H hL
    clear k
    by_cases hf : f1 < ns.length
    · rw [failV_some hf] at hk ⊢
      unfold stE at hL
      rw [if_pos hf] at hL
      have hul : ((ns.take f1).map V.str).length = f1 := by rw [List.length_map, List.length_take]; omega
      fail "go"
      refine ⟨u, _, rfl, .inl (.of (hL.mem (.tail _ (.tail _ hu2)))), ?_⟩
      refine ⟨_, _, rfl, rfl, ?_⟩
      refine k_repN (k := f1 + 1) hL ⟨0, rfl⟩ (by rw [hul]; omega) (by omega) fun p2 hp => ?_
      generalize hH : upd H p2 _ = H
      replace hL := Led.newH hL hp hH
      clear hH hp
      fail "go"
      refine ⟨l, _, rfl, .inl (.of (hL.mem (.tail _ (.tail _ (.tail _ (.tail _ hl)))))), ?_⟩
      refine ⟨_, rfl, ?_⟩
      refine ⟨u, _, rfl, .inl (.of (hL.mem (.tail _ (.tail _ (.tail _ (.tail _ hu2)))))), ?_⟩
      refine ⟨_, _, rfl, rfl, ?_⟩
      refine ⟨_, _, rfl, rfl, ?_⟩
      refine k_repN (k := ns.length - f1 - 1) hL ⟨0, rfl⟩ (by rw [hul, List.length_map]; omega) (by omega) fun p4 hp => ?_
      generalize hH : upd H p4 _ = H
      replace hL := Led.newH hL hp hH
      clear hH hp
      refine k_cat hL ⟨2, rfl⟩ ⟨0, rfl⟩ (by rw [List.length_replicate, List.length_replicate]; omega) fun p5 hp => ?_
      generalize hH : upd H p5 _ = H
      replace hL := Led.newH hL hp hH
      clear hH hp
      refine k_neSame (dp_lst (hL.at ⟨5, rfl⟩) dp_st) (dp_lst (hL.at ⟨0, rfl⟩) (by
        have := dp_st (K := K) (H := H) (os := List.replicate (f1 + 1) (some ("undone" : Str)) ++ List.replicate (ns.length - f1 - 1) (none : Option Str))
        rw [List.map_append, List.map_replicate, List.map_replicate] at this
        exact this)) shal_st ?_
      refine ⟨_, rfl, ?_⟩
      refine iteF ?_
      exact hk _ hL.tail.tail.tail.tail.tail.tail
    · rw [failV_none hn hf] at hk ⊢
      unfold stE at hL
      rw [if_neg hf] at hL
      fail "go"
      refine ⟨l, _, rfl, .inl (.of (hL.mem (.tail _ (.tail _ hl)))), ?_⟩
      refine k_repN (k := ns.length) hL ⟨0, rfl⟩ (by rw [List.length_map]) (by omega) fun p2 hp => ?_
      generalize hH : upd H p2 _ = H
      replace hL := Led.newH hL hp hH
      clear hH hp
      refine k_neSame (dp_lst (hL.at ⟨2, rfl⟩) dp_st) (dp_lst (hL.at ⟨0, rfl⟩) (by
        have := dp_st (K := K) (H := H) (os := List.replicate ns.length (some ("done" : Str)))
        rw [List.map_replicate] at this
        exact this)) shal_st ?_
      refine ⟨_, rfl, ?_⟩
      refine iteF ?_
      exact hk _ hL.tail.tail.tail
end
end Sd


set_option linter.unusedVariables false
namespace Sd
open PySem L2 LamX NdefX PyProof.Rows
open C8 (Cal Met Mak pe_c pe_mk pe_mt pe_mt0 pss_cut tCut)
set_option linter.unusedSimpArgs false
set_option pp.deepTerms false
set_option pp.deepTerms.threshold 12
set_option hygiene false
local macro_rules | `(tactic| fail "nd") => `(tactic| first | assumption | decide +kernel)
local macro_rules | `(tactic| fail "ix") => `(tactic| first | exact ⟨0, rfl⟩ | exact ⟨1, rfl⟩ | exact ⟨2, rfl⟩ | exact ⟨3, rfl⟩ | exact ⟨4, rfl⟩ | exact ⟨5, rfl⟩ | exact ⟨6, rfl⟩ | exact ⟨7, rfl⟩ | exact ⟨8, rfl⟩ | exact ⟨9, rfl⟩ | exact ⟨10, rfl⟩ | exact ⟨11, rfl⟩ | exact ⟨12, rfl⟩ | exact ⟨13, rfl⟩ | exact ⟨14, rfl⟩ | exact ⟨15, rfl⟩ | exact ⟨16, rfl⟩ | exact ⟨17, rfl⟩ | exact ⟨18, rfl⟩ | assumption)
local macro_rules | `(tactic| fail "up") => `(tactic| first | exact ⟨0, rfl, rfl⟩ | exact ⟨1, rfl, rfl⟩ | exact ⟨2, rfl, rfl⟩ | exact ⟨3, rfl, rfl⟩ | exact ⟨4, rfl, rfl⟩ | exact ⟨5, rfl, rfl⟩ | exact ⟨6, rfl, rfl⟩ | exact ⟨7, rfl, rfl⟩ | exact ⟨8, rfl, rfl⟩ | exact ⟨9, rfl, rfl⟩ | exact ⟨10, rfl, rfl⟩ | exact ⟨11, rfl, rfl⟩ | exact ⟨12, rfl, rfl⟩ | exact ⟨13, rfl, rfl⟩ | exact ⟨14, rfl, rfl⟩ | exact ⟨15, rfl, rfl⟩ | exact ⟨16, rfl, rfl⟩ | assumption)
local macro_rules | `(tactic| fail "lkF") => `(tactic| first | assumption | exact fz_at 0 (by fail "nd") rfl rfl | exact fz_at 1 (by fail "nd") rfl rfl | exact fz_at 2 (by fail "nd") rfl rfl | exact fz_at 3 (by fail "nd") rfl rfl | exact fz_at 4 (by fail "nd") rfl rfl | exact fz_at 5 (by fail "nd") rfl rfl | exact fz_at 6 (by fail "nd") rfl rfl | exact fz_at 7 (by fail "nd") rfl rfl)
local macro_rules | `(tactic| fail "lkD") => `(tactic| first | assumption | exact dz_at 0 (by fail "nd") rfl rfl | exact dz_at 1 (by fail "nd") rfl rfl | exact dz_at 2 (by fail "nd") rfl rfl | exact dz_at 3 (by fail "nd") rfl rfl | exact dz_at 4 (by fail "nd") rfl rfl)
local macro_rules | `(tactic| fail "ptF") => `(tactic| first | assumption | exact fz_put 0 (by fail "nd") rfl (Nat.le_of_ble_eq_true rfl) | exact fz_put 1 (by fail "nd") rfl (Nat.le_of_ble_eq_true rfl) | exact fz_put 2 (by fail "nd") rfl (Nat.le_of_ble_eq_true rfl) | exact fz_put 3 (by fail "nd") rfl (Nat.le_of_ble_eq_true rfl) | exact fz_put 4 (by fail "nd") rfl (Nat.le_of_ble_eq_true rfl) | exact fz_put 5 (by fail "nd") rfl (Nat.le_of_ble_eq_true rfl) | exact fz_put 6 (by fail "nd") rfl (Nat.le_of_ble_eq_true rfl) | exact fz_put 7 (by fail "nd") rfl (Nat.le_of_ble_eq_true rfl) | exact fz_new (by decide +kernel) rfl)
local macro_rules | `(tactic| fail "ptD") => `(tactic| first | assumption | exact dz_put 0 (by fail "nd") rfl (Nat.le_of_ble_eq_true rfl) | exact dz_put 1 (by fail "nd") rfl (Nat.le_of_ble_eq_true rfl) | exact dz_put 2 (by fail "nd") rfl (Nat.le_of_ble_eq_true rfl) | exact dz_put 3 (by fail "nd") rfl (Nat.le_of_ble_eq_true rfl) | exact dz_put 4 (by fail "nd") rfl (Nat.le_of_ble_eq_true rfl))
local macro_rules | `(tactic| fail "sz") => `(tactic| first | assumption | exact (Nat.le_of_ble_eq_true rfl) | omega | decide)
local macro_rules | `(tactic| fail "sd") => `(tactic| first | rfl | assumption | decide | omega | (dsimp only; first | decide | omega) | exact .inr ⟨by decide, by decide⟩ | exact .inl ⟨by decide, by decide⟩ | exact ⟨by omega, by omega⟩ | exact .inl ⟨by omega, by omega⟩ | exact .inr ⟨by omega, by omega⟩ | exact ⟨by omega, by omega, by omega⟩)
local macro_rules | `(tactic| fail "cl") => `(tactic| (clear hH; dsimp only [List.set, List.cons_append, List.nil_append, List.append] at hL))
local macro_rules | `(tactic| fail "gn") => `(tactic| (intro p hp; generalize hH : upd H p _ = H; replace hL := Led.newH hL hp hH; clear hH hp))
local macro_rules | `(tactic| fail "gup") => `(tactic| (generalize hH : upd H _ _ = H; replace hL := Led.upU hL (by fail "up") hH; fail "cl"))
local macro_rules | `(tactic| fail "gmk") => `(tactic| (intro x dx hx hd ne; generalize hH : upd (upd H dx _) x _ = H; replace hL := Led.made hL hx hd ne hH; clear hH hx hd ne))
local macro_rules | `(tactic| fail "v") => `(tactic| refine ⟨_, rfl, ?_⟩)
local macro_rules | `(tactic| fail "i2") => `(tactic| refine ⟨_, _, rfl, rfl, ?_⟩)
local macro_rules | `(tactic| fail "go1") => `(tactic| first
  | refine ⟨_, rfl, ?_⟩
  | refine ⟨_, _, rfl, rfl, ?_⟩
  | refine ⟨_, _, rfl, ?_⟩
  | refine iteT ?_
  | refine iteF ?_
  | refine k_fld hL (by fail "ix") (by assumption) (by assumption) (by fail "lkF") ?_
  | refine k_dgetS hL (by fail "ix") (by fail "lkD") ?_
  | refine k_dgetI hL (by fail "ix") (by assumption) ?_
  | refine k_ixL hL (by fail "ix") (by first | rfl | assumption) ?_
  | refine k_ixT hL (by fail "ix") (by first | rfl | assumption) ?_
  | refine k_tyL hL (by fail "ix") ?_
  | refine k_isd hL (by fail "ix") ?_
  | (refine And.intro (by fail "sz") ?_; fail "gn")
  | refine And.intro (by fail "sd") ?_
  | fail "gn"
  | refine k_meth hL (by fail "ix") (by first | assumption | exact fz_no (by decide +kernel)) ?_
  | refine k_gtup hL (by fail "ix") rfl ?_
  | (refine k_popI hL (by fail "ix") (by assumption) ?_; fail "gup")
  | (refine k_listD hL (by fail "ix") ?_; fail "gn")
  | (refine ⟨_, _, _, _, rfl, rfl, hL.at (by fail "ix"), rfl, ?_⟩; fail "gup")
  | (refine ⟨_, _, _, rfl, rfl, hL.at (by fail "ix"), (by fail "sz"), ?_⟩; fail "gup")
  | (refine ⟨_, _, _, _, rfl, hL.at (by fail "ix"), by assumption, by assumption, Nat.lt_of_le_of_lt fz_len (by decide), ?_⟩; generalize hH : upd H _ _ = H; replace hL := Led.upF hL (by fail "up") (by fail "ptF") hH; fail "cl")
  | (refine ⟨_, _, hL.at (by fail "ix"), Nat.lt_of_le_of_lt fz_len (by decide), ?_⟩; generalize hH : upd H _ _ = H; replace hL := Led.upF hL (by fail "up") (by fail "ptF") hH; fail "cl")
  | (refine k_dputS hL (by fail "ix") (Nat.lt_of_le_of_lt dz_len (by decide)) (by fail "ptD") (by fail "up") ?_; clear hL; intro H hL; dsimp only [List.set, List.cons_append, List.nil_append, List.append] at hL)
  | refine k_lenL2 hL (by fail "ix") ?_
  | refine k_lenT2 hL (by fail "ix") ?_
  | refine .inl ⟨_, rfl, ?_⟩
  | refine .inr ⟨_, rfl, ?_⟩)
local macro_rules | `(tactic| fail "go") => `(tactic| repeat fail "go1")
local macro_rules | `(tactic| fail "pm") => `(tactic| (refine Led.le hL (fun a_ => ?_); simp only [cnt_nil, cnt_cons, cnt_app, List.map_append, List.map_cons, List.map_nil, List.flatMap_append, List.flatMap_cons, List.flatMap_nil, List.append_assoc, List.cons_append, List.nil_append]; omega))

def tChk9 (CW CD : Addr) (p : TbA) (q q2 : Str) : TS := fun D σ H => ∃ (A : FlA) (ns : List Str) (f : Nat) (S : FlS) (d l : Addr) (a b c : Int) (t : Tbs) (Z : Lg) (u : Addr), EnS σ l (failV ns f) A.w0 A.D (endW ns f) A.x u ∧ NsOk ns f ∧ FlOk ns f S Z ∧ S.j = lenN ns.length f ∧ TbsOk q q2 t Z ∧
  Led H (lwT p t ++ (lwD d l a b c ns ++ (flL CW CD A ns f S ++ Z))) ∧
  (∀ (v : Option V) (t' : Tbs) (Z' : Lg) H', TbsOk q q2 t' Z' → Led H' (lwT p t' ++ Z') → D.nx (σ.set 14 v) H')
section
variable {P : Program} {w : World} {K : PySem.W.Frag} {mg : Str → Option Value} {base : Heap} {CW CD CE CQ : Addr} {pa : TbA} {f cL : Addr} {A : Around} {outer : List Env} {s0 : Shared} {H0 : Hp} {E : XK} {q q2 : Str}
theorem st_chk9 (hr : Room 22 (LX P w K mg base f (.ref cL) A outer s0 H0 E).A) (X : TxtWf K CW) (c_Disk_crash : Met P w K mg base 1 CD "crash" (spCrash CD) []) (c_Disk_restart : Met P w K mg base 17 CD "restart" (spRest CD pa.u 2) []) (c_Workflow : MakX P w K mg base 18 "Workflow" CW (spWInit CW CD CQ pa.u pa.i) [])
    (c_Workflow_end : Met P w K mg base 6 CW "end" (spEnd CW pa.e) []) {rest : List Stmt} {ur : TS} (h_r : PSs (LX P w K mg base f (.ref cL) A outer s0 H0 E) rest ur) : PSs (LX P w K mg base f (.ref cL) A outer s0 H0 E) (nth diceB 9 :: nth diceB 10 :: nth diceB 11 :: nth diceB 12 :: rest) (fun D σ H => tChk9 CW CD pa q q2 { D with nx := ur D } σ H) := by
  refine pss_imp (t := _) (pss_cons (ps_expr (pe_mt c_Disk_crash hr (by decide) (pv 6) (pa_cons pe_int pa_nil))) (pss_cons (ps_expr (pe_mt0 c_Disk_restart hr (by decide) (pv 6))) (pss_cons (ps_set (i := 14) scLaw.nd rfl (Or.inl rfl) (pe_mkX c_Workflow hr (by decide) (by rfl) L2.takes0 (pa_cons (pv 6) (pa_cons (pv 2) pa_nil)))) (pss_cons (ps_if (PW.pt (pw_or (pt_cmpR (op_neP hr.units) (pe_fld (pv 14) rfl) (pe_fld (pv 9) rfl) (nomark _)) (pw_or1 (pt_cmpR op_ne (pe_mt0 c_Workflow_end hr (by decide) (pv 14)) (pv 7) (nomark _)))))
  (pss_one (ps_ret pe_bl))
  pss_nil) h_r)))) ?_
  rintro D σ H ⟨A1, ns, f1, S, d, l, a, b, c, t, Z, u, hs, hn, ok, hj, ht, hL, k⟩
  obtain ⟨v0, v1, v3, v8, v10, v12, v13, v14, v15, v16, v17, v18, rfl⟩ := hs.ex
  have c1 := X.cl
  have f3 := X.n "rows" (by decide +kernel)
  have hnz := hn.z
  have hbz := hn.bytes (j := S.j)
  have hz3 : 3000 ≤ sizeLine := by decide
  have hrs := hn.rsz (j := S.j)
  fail "go"
  dsimp only [tNil, List.cons_append, List.nil_append]
  have hB : Led H (dkL CD A1.D A1.dd S.K S.W A1.F S.dk ++ (lwT pa t ++ (lwD d l a b c ns ++ (wfL CW A1.x A1.dx A1.D A1.T A1.R ns S.rvs ++ (woL A1.w0 S.Dn S.Un (ns.take S.d) ((unO ns f1).take S.u) ++ Z))))) := by unfold flL at hL; fail "pm"
  clear hL
  refine ⟨A1.D, A1.dd, S.K, S.W, A1.F, S.dk, 0, _, rfl, hB, by rw [ok.kb, ok.wb, List.length_nil]; omega, fun K2 W2 H hL => ?_⟩
  clear hB
  obtain ⟨dk2, hdk⟩ : ∃ dk2 : DkS, dk2 = { S.dk with kb := S.dk.kb ++ S.dk.wb.take 0, wb := [], dn := true } := ⟨_, rfl⟩
  rw [← hdk] at hL
  have hB : Led H ((pa.u, .tbl t.u) :: (dkL CD A1.D A1.dd K2 W2 A1.F dk2 ++ ((pa.n, .tbl t.n) :: (pa.i, .tbl t.i) :: (pa.e, .tbl t.e) :: (pa.g, .tbl t.g) :: (pa.l, .tbl t.l) :: rlO pa :: (lwD d l a b c ns ++ (wfL CW A1.x A1.dx A1.D A1.T A1.R ns S.rvs ++ (woL A1.w0 S.Dn S.Un (ns.take S.d) ((unO ns f1).take S.u) ++ Z)))))) := by unfold lwT at hL; fail "pm"
  clear hL
  have hL := hB
  fail "go"
  clear hL
  dsimp only [tNil, List.cons_append, List.nil_append]
  refine ⟨A1.D, A1.dd, K2, W2, A1.F, dk2, ((RWs ns f1).take S.j).map rD, [], t.u, _, rfl, hB, ht.u, by rw [hdk]; dsimp only; rw [ok.kb, List.take_zero], fun dv hd => ?_, by rw [List.length_map]; omega, cut_nil, fun K3 pu H htu hL => ?_⟩
  · obtain ⟨r, hr2, rfl⟩ := List.mem_map.mp hd
    exact (hn.pk (List.mem_of_mem_take hr2)).1
  clear hB
  obtain ⟨dk3, hdk3⟩ : ∃ dk3 : DkS, dk3 = { dk2 with kb := framesB (((RWs ns f1).take S.j).map rD), fu := none, dn := false } := ⟨_, rfl⟩
  rw [← hdk3] at hL
  fail "go"
  dsimp only [tNil, List.cons_append, List.nil_append]
  have hB : Led H ((pa.u, .tbl pu) :: (pa.i, .tbl t.i) :: (dkL CD A1.D A1.dd K3 W2 A1.F dk3 ++ (lwD d l a b c ns ++ ((pa.n, .tbl t.n) :: (pa.e, .tbl t.e) :: (pa.g, .tbl t.g) :: (pa.l, .tbl t.l) :: rlO pa :: (wfL CW A1.x A1.dx A1.D A1.T A1.R ns S.rvs ++ (woL A1.w0 S.Dn S.Un (ns.take S.d) ((unO ns f1).take S.u) ++ Z)))))) := by fail "pm"
  clear hL
  refine (fun (h : spMkW CW CD CQ pa.u pa.i A1.D l H (fun v H2 => gName 14 v [v0, v1, some (.ref l), v3, some (failV ns f1), some (.ref A1.w0), some (.ref A1.D), some (.str (endW ns f1)), v8, some (.ref A1.x), v10, some (.ref u), v12, v13, v14, v15, v16, v17, v18] H2 _) (fun _ _ _ => False)) x dx a b c => mkW h x dx a b c) ?_
  refine ⟨A1.dd, K3, W2, A1.F, dk3, ns, (RWs ns f1).take S.j, [], pu, t.i, _, hB, htu, ht.i, List.mem_append_left _ (.tail _ (.head _)), by omega, by rw [hdk3, hdk], by rw [hdk3, hdk]; dsimp only; rw [List.length_nil]; omega, fun r hr => (hn.pk (List.mem_of_mem_take hr)).1, hrs, cut_nil, fun hg x2 dx2 T2 R2 rvs2 Z2 pu2 pi2 H tu ti hz hL => ?_, fun hg => by rw [hn.good ok.j] at hg; cases hg⟩
  clear hB
  have hT3 : TbsOk q q2 { t with u := pu2, i := pi2 } (Z2 ++ Z) := ⟨ht.n, tu, ti, ht.e, ht.g, ht.l.mono fun a h => List.mem_append_right _ h⟩
  obtain ⟨RR, hRR⟩ : ∃ RR : Lg, RR = dkL CD A1.D A1.dd K3 W2 A1.F dk3 ++ (lwD d l a b c ns ++ ((pa.n, .tbl t.n) :: (pa.u, .tbl pu2) :: (pa.i, .tbl pi2) :: (pa.g, .tbl t.g) :: (pa.l, .tbl t.l) :: rlO pa :: (woL A1.w0 S.Dn S.Un (ns.take S.d) ((unO ns f1).take S.u) ++ (Z2 ++ Z)))) := ⟨_, rfl⟩
  have sZ2 : ∀ x ∈ Z2, x ∈ RR := fun x h => by rw [hRR]; exact List.mem_append_right _ (List.mem_append_right _ (.tail _ (.tail _ (.tail _ (.tail _ (.tail _ (.tail _ (List.mem_append_right _ (List.mem_append_left _ h)))))))))
  have sZ : ∀ x ∈ Z, x ∈ RR := fun x h => by rw [hRR]; exact List.mem_append_right _ (List.mem_append_right _ (.tail _ (.tail _ (.tail _ (.tail _ (.tail _ (.tail _ (List.mem_append_right _ (List.mem_append_right _ h)))))))))
  have hB : Led H ((pa.e, .tbl t.e) :: (wfL CW x2 dx2 A1.D T2 R2 ns rvs2 ++ (wfL CW A1.x A1.dx A1.D A1.T A1.R ns S.rvs ++ RR))) := by rw [hRR]; fail "pm"
  clear hL
  have hk : ∀ (te : Array Value) H, TriplesOk te.toList → Led H ((pa.e, .tbl te) :: (wfL CW x2 dx2 A1.D T2 R2 ns rvs2 ++ (wfL CW A1.x A1.dx A1.D A1.T A1.R ns S.rvs ++ RR))) → ur D ([v0, v1, some (.ref l), v3, some (failV ns f1), some (.ref A1.w0), some (.ref A1.D), some (.str (endW ns f1)), v8, some (.ref A1.x), v10, some (.ref u), v12, v13, v14, v15, v16, v17, v18].set 14 (some (.ref x2))) H := fun te H hte hL => by
    refine k (some (.ref x2)) { t with u := pu2, i := pi2, e := te } (Z2 ++ Z) H ⟨ht.n, tu, ti, hte, ht.g, hT3.l⟩ ?_
    rw [hRR] at hL
    unfold lwT
    dsimp only
    exact hL.le (fun a_ => by simp only [cnt_cons, cnt_nil, cnt_app, List.cons_append, List.append_assoc, List.nil_append]; omega)
  clear hRR
  have hL := hB
  fail "go"
  have sA : ∀ x ∈ RR, x ∈ (pa.e, HO.tbl t.e) :: (wfL CW x2 dx2 A1.D T2 R2 ns rvs2 ++ (wfL CW A1.x A1.dx A1.D A1.T A1.R ns S.rvs ++ RR)) := fun x h => .tail _ (List.mem_append_right _ (List.mem_append_right _ h))
  refine k_neSame (dp_lst (hL.at ⟨3, rfl⟩) (hz.dp hL fun x h => sA x (sZ2 x h))) (dp_lst (hL.at ⟨6, rfl⟩) (ok.rv.dp hL fun x h => sA x (sZ x h))) (shal_Ds fun dv hd => ?_) ?_
  · obtain ⟨r, hr2, rfl⟩ := List.mem_map.mp hd
    have := (hn.pk (List.mem_of_mem_take hr2)).1.1
    omega
  refine ⟨_, rfl, ?_⟩
  refine iteF ?_
  refine ⟨_, rfl, x2, dx2, _, rfl, hL.at ⟨1, rfl⟩, fz_no (by decide +kernel), ?_⟩
  dsimp only [tNil, List.cons_append, List.nil_append, List.append_nil]
  have hnf := hn.f
  refine ⟨x2, dx2, A1.D, T2, R2, ns, rvs2, (RWs ns f1).take S.j, t.e, _, rfl, hB, ht.e, hz.mono (fun x h => List.mem_append_right _ (sZ2 x h)), hrs, by omega, fun te H hte hL => ?_⟩
  rw [hn.endE ok.j]
  have e1 : stV ((endN ns.length f1 S.j).map wdS) = .str (endW ns f1) := by
    unfold endN endW
    rw [hj]
    unfold lenN
    by_cases q : f1 < ns.length
    · rw [if_pos q, if_neg (by omega), if_pos ⟨q, rfl⟩, if_pos q]; rfl
    · rw [if_neg q, if_pos ⟨by omega, rfl⟩, if_neg q]; rfl
  rw [e1]
  refine ⟨_, rfl, rfl, ?_⟩
  rw [show (!decide (V.str (endW ns f1) = V.str (endW ns f1))) = false by simp]
  refine ⟨_, rfl, ?_⟩
  refine iteF ?_
  exact hk te H hte hL
end
end Sd


set_option linter.unusedVariables false
namespace Sd
open PySem L2 LamX NdefX PyProof.Rows
open C8 (Cal Met Mak pe_c pe_mk pe_mt pe_mt0 pss_cut tCut)
set_option linter.unusedSimpArgs false
set_option pp.deepTerms false
set_option pp.deepTerms.threshold 12
set_option hygiene false
local macro_rules | `(tactic| fail "nd") => `(tactic| first | assumption | decide +kernel)
local macro_rules | `(tactic| fail "ix") => `(tactic| first | exact ⟨0, rfl⟩ | exact ⟨1, rfl⟩ | exact ⟨2, rfl⟩ | exact ⟨3, rfl⟩ | exact ⟨4, rfl⟩ | exact ⟨5, rfl⟩ | exact ⟨6, rfl⟩ | exact ⟨7, rfl⟩ | exact ⟨8, rfl⟩ | exact ⟨9, rfl⟩ | exact ⟨10, rfl⟩ | exact ⟨11, rfl⟩ | exact ⟨12, rfl⟩ | exact ⟨13, rfl⟩ | exact ⟨14, rfl⟩ | exact ⟨15, rfl⟩ | exact ⟨16, rfl⟩ | exact ⟨17, rfl⟩ | exact ⟨18, rfl⟩ | assumption)
local macro_rules | `(tactic| fail "up") => `(tactic| first | exact ⟨0, rfl, rfl⟩ | exact ⟨1, rfl, rfl⟩ | exact ⟨2, rfl, rfl⟩ | exact ⟨3, rfl, rfl⟩ | exact ⟨4, rfl, rfl⟩ | exact ⟨5, rfl, rfl⟩ | exact ⟨6, rfl, rfl⟩ | exact ⟨7, rfl, rfl⟩ | exact ⟨8, rfl, rfl⟩ | exact ⟨9, rfl, rfl⟩ | exact ⟨10, rfl, rfl⟩ | exact ⟨11, rfl, rfl⟩ | exact ⟨12, rfl, rfl⟩ | exact ⟨13, rfl, rfl⟩ | exact ⟨14, rfl, rfl⟩ | exact ⟨15, rfl, rfl⟩ | exact ⟨16, rfl, rfl⟩ | assumption)
local macro_rules | `(tactic| fail "lkF") => `(tactic| first | assumption | exact fz_at 0 (by fail "nd") rfl rfl | exact fz_at 1 (by fail "nd") rfl rfl | exact fz_at 2 (by fail "nd") rfl rfl | exact fz_at 3 (by fail "nd") rfl rfl | exact fz_at 4 (by fail "nd") rfl rfl | exact fz_at 5 (by fail "nd") rfl rfl | exact fz_at 6 (by fail "nd") rfl rfl | exact fz_at 7 (by fail "nd") rfl rfl)
local macro_rules | `(tactic| fail "lkD") => `(tactic| first | assumption | exact dz_at 0 (by fail "nd") rfl rfl | exact dz_at 1 (by fail "nd") rfl rfl | exact dz_at 2 (by fail "nd") rfl rfl | exact dz_at 3 (by fail "nd") rfl rfl | exact dz_at 4 (by fail "nd") rfl rfl)
local macro_rules | `(tactic| fail "ptF") => `(tactic| first | assumption | exact fz_put 0 (by fail "nd") rfl (Nat.le_of_ble_eq_true rfl) | exact fz_put 1 (by fail "nd") rfl (Nat.le_of_ble_eq_true rfl) | exact fz_put 2 (by fail "nd") rfl (Nat.le_of_ble_eq_true rfl) | exact fz_put 3 (by fail "nd") rfl (Nat.le_of_ble_eq_true rfl) | exact fz_put 4 (by fail "nd") rfl (Nat.le_of_ble_eq_true rfl) | exact fz_put 5 (by fail "nd") rfl (Nat.le_of_ble_eq_true rfl) | exact fz_put 6 (by fail "nd") rfl (Nat.le_of_ble_eq_true rfl) | exact fz_put 7 (by fail "nd") rfl (Nat.le_of_ble_eq_true rfl) | exact fz_new (by decide +kernel) rfl)
local macro_rules | `(tactic| fail "ptD") => `(tactic| first | assumption | exact dz_put 0 (by fail "nd") rfl (Nat.le_of_ble_eq_true rfl) | exact dz_put 1 (by fail "nd") rfl (Nat.le_of_ble_eq_true rfl) | exact dz_put 2 (by fail "nd") rfl (Nat.le_of_ble_eq_true rfl) | exact dz_put 3 (by fail "nd") rfl (Nat.le_of_ble_eq_true rfl) | exact dz_put 4 (by fail "nd") rfl (Nat.le_of_ble_eq_true rfl))
local macro_rules | `(tactic| fail "sz") => `(tactic| first | assumption | exact (Nat.le_of_ble_eq_true rfl) | omega | decide)
local macro_rules | `(tactic| fail "sd") => `(tactic| first | rfl | assumption | decide | omega | (dsimp only; first | decide | omega) | exact .inr ⟨by decide, by decide⟩ | exact .inl ⟨by decide, by decide⟩ | exact ⟨by omega, by omega⟩ | exact .inl ⟨by omega, by omega⟩ | exact .inr ⟨by omega, by omega⟩ | exact ⟨by omega, by omega, by omega⟩)
local macro_rules | `(tactic| fail "cl") => `(tactic| (clear hH; dsimp only [List.set, List.cons_append, List.nil_append, List.append] at hL))
local macro_rules | `(tactic| fail "gn") => `(tactic| (intro p hp; generalize hH : upd H p _ = H; replace hL := Led.newH hL hp hH; clear hH hp))
local macro_rules | `(tactic| fail "gup") => `(tactic| (generalize hH : upd H _ _ = H; replace hL := Led.upU hL (by fail "up") hH; fail "cl"))
local macro_rules | `(tactic| fail "gmk") => `(tactic| (intro x dx hx hd ne; generalize hH : upd (upd H dx _) x _ = H; replace hL := Led.made hL hx hd ne hH; clear hH hx hd ne))
local macro_rules | `(tactic| fail "v") => `(tactic| refine ⟨_, rfl, ?_⟩)
local macro_rules | `(tactic| fail "i2") => `(tactic| refine ⟨_, _, rfl, rfl, ?_⟩)
local macro_rules | `(tactic| fail "go1") => `(tactic| first
  | refine ⟨_, rfl, ?_⟩
  | refine ⟨_, _, rfl, rfl, ?_⟩
  | refine ⟨_, _, rfl, ?_⟩
  | refine iteT ?_
  | refine iteF ?_
  | refine k_fld hL (by fail "ix") (by assumption) (by assumption) (by fail "lkF") ?_
  | refine k_dgetS hL (by fail "ix") (by fail "lkD") ?_
  | refine k_dgetI hL (by fail "ix") (by assumption) ?_
  | refine k_ixL hL (by fail "ix") (by first | rfl | assumption) ?_
  | refine k_ixT hL (by fail "ix") (by first | rfl | assumption) ?_
  | refine k_tyL hL (by fail "ix") ?_
  | refine k_isd hL (by fail "ix") ?_
  | (refine And.intro (by fail "sz") ?_; fail "gn")
  | refine And.intro (by fail "sd") ?_
  | fail "gn"
  | refine k_meth hL (by fail "ix") (by first | assumption | exact fz_no (by decide +kernel)) ?_
  | refine k_gtup hL (by fail "ix") rfl ?_
  | (refine k_popI hL (by fail "ix") (by assumption) ?_; fail "gup")
  | (refine k_listD hL (by fail "ix") ?_; fail "gn")
  | (refine ⟨_, _, _, _, rfl, rfl, hL.at (by fail "ix"), rfl, ?_⟩; fail "gup")
  | (refine ⟨_, _, _, rfl, rfl, hL.at (by fail "ix"), (by fail "sz"), ?_⟩; fail "gup")
  | (refine ⟨_, _, _, _, rfl, hL.at (by fail "ix"), by assumption, by assumption, Nat.lt_of_le_of_lt fz_len (by decide), ?_⟩; generalize hH : upd H _ _ = H; replace hL := Led.upF hL (by fail "up") (by fail "ptF") hH; fail "cl")
  | (refine ⟨_, _, hL.at (by fail "ix"), Nat.lt_of_le_of_lt fz_len (by decide), ?_⟩; generalize hH : upd H _ _ = H; replace hL := Led.upF hL (by fail "up") (by fail "ptF") hH; fail "cl")
  | (refine k_dputS hL (by fail "ix") (Nat.lt_of_le_of_lt dz_len (by decide)) (by fail "ptD") (by fail "up") ?_; clear hL; intro H hL; dsimp only [List.set, List.cons_append, List.nil_append, List.append] at hL)
  | refine k_lenL2 hL (by fail "ix") ?_
  | refine k_lenT2 hL (by fail "ix") ?_
  | refine .inl ⟨_, rfl, ?_⟩
  | refine .inr ⟨_, rfl, ?_⟩)
local macro_rules | `(tactic| fail "go") => `(tactic| repeat fail "go1")
local macro_rules | `(tactic| fail "pm") => `(tactic| (refine Led.le hL (fun a_ => ?_); simp only [cnt_nil, cnt_cons, cnt_app, List.map_append, List.map_cons, List.map_nil, List.flatMap_append, List.flatMap_cons, List.flatMap_nil, List.append_assoc, List.cons_append, List.nil_append]; omega))

def sNm (k : Nat) : Str := ("s" : Str) ++ (toString (k : Int) : Str)
def nsN (n : Nat) : List Str := (List.range n).map sNm
theorem nsN_facts : ((List.range 7).all fun n => decide (nsN n).Nodup && (nsN n).all fun s => decide (∀ c ∈ s.cps.toList, goodS c) && decide ((signs s).length ≤ 10) && decide (s.length < 128)) = true := by decide +kernel
theorem nsN_ok {n f : Nat} (h0 : 0 < n) (h6 : n ≤ 6) (hf : f ≤ n) : NsOk (nsN n) f := by
  have h := nsN_facts
  rw [List.all_eq_true] at h
  have h := h n (List.mem_range.mpr (by omega))
  rw [Bool.and_eq_true, decide_eq_true_eq, List.all_eq_true] at h
  have hl : (nsN n).length = n := by unfold nsN; rw [List.length_map, List.length_range]
  refine ⟨h.1, by omega, by omega, by omega, fun s hs => ?_⟩
  have := h.2 s hs
  rw [Bool.and_eq_true, Bool.and_eq_true, decide_eq_true_eq, decide_eq_true_eq, decide_eq_true_eq] at this
  refine ⟨?_, this.1.2, this.2⟩
  rw [sendable]
  exact this.1.1
theorem nm_ok : ∀ i : Nat, i < 6 → ((i : Int)).natAbs.log2 < 1920 ∧ ("s" : Str).length + (toString (i : Int) : Str).length ≤ 100 := by decide +kernel
def tHead (CD : Addr) (p : TbA) (q q2 : Str) : TS := fun D σ H => ∃ (d : Addr) (a b c : Int) (t : Tbs) (Z : Lg), σ[1]? = some (some (.ref d)) ∧ σ.length = 19 ∧ TbsOk q q2 t Z ∧ Led H (lwT p t ++ ((d, dD a b c) :: Z)) ∧
  (∀ (A : FlA) (ns : List Str) (f : Nat) (S : FlS) (l : Addr) (a b c : Int) (t : Tbs) (Z : Lg) (v9 v10 : Option V) σ' H', shL d l (failV ns f) A.w0 A.D (some (.str "StoreError")) (some (.int 0)) v9 v10 σ' → NsOk ns f → HdOk ns f S → calm S.dk → TbsOk q q2 t Z → Led H' (lwT p t ++ (lwD d l a b c ns ++ (hdL CD A ns f S ++ Z))) → D.nx σ' H')
section
variable {P : Program} {w : World} {K : PySem.W.Frag} {mg : Str → Option Value} {base : Heap} {CW CD CE CQ : Addr} {pa : TbA} {f cL : Addr} {A : Around} {outer : List Env} {s0 : Shared} {H0 : Hp} {E : XK} {q q2 : Str}
theorem st_head (hr : Room 22 (LX P w K mg base f (.ref cL) A outer s0 H0 E).A) (T : TxtG mg) (c__law_roll : Cal P w K mg base 1 "_law_roll" spRoll []) (c_Disk : Mak P w K mg base 1 "Disk" CD (spDInit CD) []) {rest : List Stmt} {ur : TS} (h_r : PSs (LX P w K mg base f (.ref cL) A outer s0 H0 E) rest ur) : PSs (LX P w K mg base f (.ref cL) A outer s0 H0 E) (nth diceB 0 :: nth diceB 1 :: nth diceB 2 :: rest) (fun D σ H => tHead CD pa q q2 { D with nx := ur D } σ H) := by
  refine pss_imp (t := _) (pss_cons (ps_set (i := 2) scLaw.nd rfl (Or.inr rfl) (pe_lc (own := [("k", 3)]) (g := gName 3) (by rfl) scLaw.nd (pi_range1 (by rfl) T.range (pa_cons (pe_op op_add pe_int (pe_c c__law_roll hr (by decide) (by rfl) (pa_cons (pv 1) (pa_cons pe_int pa_nil)))) pa_nil)) (blkOk_by (own := [("k", 3)]) (N := ["script", "dice", "steps", "k", "fails", "world", "disk", "end", "turns", "flow", "before", "due", "states", "step", "again", "spoilt", "bad", "fresh", "f"]) (sc := (defScope sLaw)) (by decide +kernel)) (fun _ _ _ _ _ => (pg_name (i := 3) scLaw.nd rfl (Or.inl rfl))) (fun _ _ _ _ _ => pts_nil) (fun _ _ _ _ _ => (pe_op op_add_str pe_str (pe_callTy call_str_int (by rfl) T.str (by decide +kernel) (pa_cons (pv 3) pa_nil)))))) (pss_cons (ps_set (i := 4) scLaw.nd rfl (Or.inr rfl) (pe_ifExp (pt_cmpR op_eq (pe_c c__law_roll hr (by decide) (by rfl) (pa_cons (pv 1) (pa_cons pe_int pa_nil))) pe_int (nomark _)) (pe_ix ix_list (pv 2) (pe_c c__law_roll hr (by decide) (by rfl) (pa_cons (pv 1) (pa_cons (pe_callB call_len_seq (by rfl) T.len (by decide +kernel) (pa_cons (pv 2) pa_nil)) pa_nil))) (fun _ _ => rfl)) pe_non)) (pss_cons (ps_asg (pe_tup (pa_cons (pe_disp (pps_cons pe_str (pe_lst pa_nil) (pps_cons pe_str (pe_lst pa_nil) (pps_cons pe_str pe_bl pps_nil))) (by rfl) (by rfl) (fun z => by cases z) (by decide)) (pa_cons (pe_mkN c_Disk hr (by decide) (by rfl)) (pa_cons pe_str (pa_cons pe_int pa_nil))))) (pg_tup (by rfl) (pgs_cons (pg_name (i := 5) scLaw.nd rfl (Or.inr rfl)) (pgs_cons (pg_name (i := 6) scLaw.nd rfl (Or.inr rfl)) (pgs_cons (pg_name (i := 7) scLaw.nd rfl (Or.inl rfl)) (pgs_cons (pg_name (i := 8) scLaw.nd rfl (Or.inl rfl)) pgs_nil)))))) h_r))) ?_
  rintro D σ H ⟨d, a, b, c, t, Z, hs, hsl, ht, hL, k⟩
  match σ, hs, hsl with
  | [v0, v1, v2, v3, v4, v5, v6, v7, v8, v9, v10, v11, v12, v13, v14, v15, v16, v17, v18], hs, _ =>
  cases hs
  fail "go"
  have hB : Led H ((d, dD a b c) :: (lwT pa t ++ Z)) := by fail "pm"
  clear hL
  refine ⟨d, a, b, c, 6, _, rfl, hB, by decide, by decide, fun r a b c H h0 h1 hL => ?_⟩
  clear hB
  obtain ⟨n, rfl⟩ : ∃ n : Nat, r = (n : Int) - 1 := ⟨(r + 1).toNat, by omega⟩
  refine ⟨_, _, rfl, rfl, ?_⟩
  refine ⟨_, rfl, by omega, by omega, fun Dl hD => ?_⟩
  have en : (1 + ((n : Int) - 1)).toNat = n := by omega
  rw [en]
  have hz3 : 100 < sizeLine := by decide
  obtain ⟨L0, hL0⟩ : ∃ L0 : Lg, L0 = (d, dD a b c) :: (lwT pa t ++ Z) := ⟨_, rfl⟩
  rw [← hL0] at hL
  refine lc_range (lo := 0) (n := n) (fun i H => Hold (Led H ((Dl, .lst ((nsN i).map V.str)) :: L0))) (.mk (hL.new hD)) (fun i H hi h => ?_) (fun H h => ?_)
  · clear hL hD
    have hL := h.out
    clear h
    refine ⟨rfl, ?_⟩
    obtain ⟨o1, o2⟩ := nm_ok i (by omega)
    rw [Int.zero_add]
    fail "go"
    refine ⟨_, hL.at ⟨0, rfl⟩, ?_, ?_⟩
    · rw [List.length_map]
      unfold nsN
      rw [List.length_map, List.length_range]
      omega
    · have e1 : (nsN (i + 1)).map V.str = (nsN i).map V.str ++ [.str (sNm i)] := by
        unfold nsN
        rw [List.range_succ, List.map_append, List.map_append]
        rfl
      rw [e1]
      exact .mk (hL.set 0 rfl)
  · clear hL hD
    have hL := h.out
    clear h
    have hnl : (nsN n).length = n := by unfold nsN; rw [List.length_map, List.length_range]
    refine (show gName 2 (.ref Dl) _ _ _ from ?_)
    fail "go"
    rw [hL0] at hL
    have hB : Led H ((d, dD a b c) :: (Dl, .lst ((nsN n).map V.str)) :: (lwT pa t ++ Z)) := by fail "pm"
    clear hL hL0
    refine ⟨d, a, b, c, 2, _, rfl, hB, by decide, by decide, fun r a b c H h2 h3 hL => ?_⟩
    clear hB
    have fin : ∀ (fz : Nat) (a b c : Int) H, fz ≤ n → Led H ((d, dD a b c) :: (Dl, .lst ((nsN n).map V.str)) :: (lwT pa t ++ Z)) → tAsg (tTup (tCons (tDisp [(tC (.str "done"), tLst tNil), (tC (.str "undone"), tLst tNil), (tC (.str "early"), tC (.bl false))]) (tCons (tMake CD (spDInit CD) [] C8.E0 tNil) (tCons (tC (.str "StoreError")) (tCons (tC (.int 0)) tNil))))) (gTup K 4 (gCons (gName 5) (gCons (gName 6) (gCons (gName 7) (gCons (gName 8) gNil))))) { D with nx := ur D } [v0, some (.ref d), some (.ref Dl), v3, some (failV (nsN n) fz), v5, v6, v7, v8, v9, v10, v11, v12, v13, v14, v15, v16, v17, v18] H := fun fz a b c H hfz hL => by
      intro w1 hp
      generalize hH : upd H w1 _ = H
      replace hL := Led.newH hL hp hH
      clear hH hp
      refine ⟨Nat.zero_le _, fun Dn hp => ?_⟩
      generalize hH : upd H Dn _ = H
      replace hL := Led.newH hL hp hH
      clear hH hp
      refine ⟨Nat.zero_le _, fun Un hp => ?_⟩
      generalize hH : upd H Un _ = H
      replace hL := Led.newH hL hp hH
      clear hH hp
      refine (show H w1 = some (.dK []) ∧ _ from ⟨hL.at ⟨2, rfl⟩, [(.inr "done", .ref Dn), (.inr "undone", .ref Un), (.inr "early", .bl false)], rfl, Nat.le_of_ble_eq_true rfl, ?_⟩)
      generalize hH : upd H w1 _ = H
      replace hL := hL.upU (o' := .dK [(.inr "done", .ref Dn), (.inr "undone", .ref Un), (.inr "early", .bl false)]) ⟨2, rfl, rfl⟩ hH
      clear hH
      dsimp only [List.set] at hL
      intro x dx h1 h2 h3
      generalize hH : upd (upd H dx _) x _ = H'
      replace hL := Led.made hL h1 h2 h3 hH
      clear hH h1 h2 h3
      refine ⟨x, dx, _, rfl, hL, fun K1 W1 F1 H hL => ⟨rfl, ?_⟩⟩
      refine ⟨Nat.le_of_ble_eq_true rfl, fun p4 hp => ?_⟩
      generalize hH : upd H p4 _ = H
      replace hL := Led.newH hL hp hH
      clear hH hp
      refine k_gtup hL ⟨0, rfl⟩ rfl ?_
      fail "go"
      have hn := nsN_ok (n := n) (f := fz) (by omega) (by omega) hfz
      refine k ⟨x, dx, x, x, x, dx, F1, w1⟩ (nsN n) fz ⟨K1, W1, Dn, Un, ⟨[], [], [], 0, none, false⟩, [], 0, 0, 0⟩ Dl a b c t Z v9 v10 _ H ⟨_, _, _, _, _, _, _, _, _, _, rfl⟩ hn ⟨by simp [framesB], rfl, rfl, Nat.zero_le _, .inl rfl, .inl rfl⟩ ⟨rfl, rfl⟩ ht ?_
      have e : woL w1 Dn Un ((nsN n).take 0) ((unO (nsN n) fz).take 0) = (w1, HO.dK [(.inr "done", .ref Dn), (.inr "undone", .ref Un), (.inr "early", .bl false)]) :: (Dn, .lst []) :: (Un, .lst []) :: [] := rfl
      unfold hdL lwD
      dsimp only
      rw [e]
      fail "pm"
    refine ⟨rfl, ?_⟩
    by_cases hr0 : r = 0
    · rw [hr0, show decide (V.int 0 = V.int 0) = true by simp]
      refine ⟨_, rfl, ?_⟩
      refine iteT ?_
      refine ⟨_, rfl, ?_⟩
      refine ⟨_, rfl, ?_⟩
      refine ⟨_, rfl, ?_⟩
      refine ⟨Dl, _, rfl, .inl (.of (hL.at ⟨1, rfl⟩)), ?_⟩
      dsimp only [tNil, List.cons_append, List.nil_append]
      refine ⟨d, a, b, c, _, _, rfl, hL, by rw [List.length_map, hnl]; omega, by rw [List.length_map, hnl]; omega, fun r a b c H h4 h5 hL => ?_⟩
      rw [List.length_map, hnl] at h5
      obtain ⟨fz, rfl⟩ : ∃ fz : Nat, r = fz := ⟨r.toNat, by omega⟩
      have hfz : fz < (nsN n).length := by omega
      refine k_ixL hL ⟨1, rfl⟩ (v := .str (nsN n)[fz]) (atI_nat (by rw [List.getElem?_map, List.getElem?_eq_getElem hfz]; rfl)) ?_
      have := fin fz a b c H (by omega) hL
      rw [failV_some hfz] at this
      exact this
    · rw [show decide (V.int r = V.int 0) = false by simp [hr0]]
      refine ⟨_, rfl, ?_⟩
      refine iteF ?_
      have := fin n a b c H (Nat.le_refl _) hL
      rw [failV_none (nsN_ok (by omega) (by omega) (Nat.le_refl _)) (by omega)] at this
      exact this
end
end Sd


set_option linter.unusedVariables false
namespace Sd
open PySem L2 LamX NdefX PyProof.Rows
open C8 (Cal Met Mak pe_c pe_mk pe_mt pe_mt0 pss_cut tCut)
set_option linter.unusedSimpArgs false
set_option pp.deepTerms false
set_option pp.deepTerms.threshold 12
set_option hygiene false
local macro_rules | `(tactic| fail "nd") => `(tactic| first | assumption | decide +kernel)
local macro_rules | `(tactic| fail "ix") => `(tactic| first | exact ⟨0, rfl⟩ | exact ⟨1, rfl⟩ | exact ⟨2, rfl⟩ | exact ⟨3, rfl⟩ | exact ⟨4, rfl⟩ | exact ⟨5, rfl⟩ | exact ⟨6, rfl⟩ | exact ⟨7, rfl⟩ | exact ⟨8, rfl⟩ | exact ⟨9, rfl⟩ | exact ⟨10, rfl⟩ | exact ⟨11, rfl⟩ | exact ⟨12, rfl⟩ | exact ⟨13, rfl⟩ | exact ⟨14, rfl⟩ | exact ⟨15, rfl⟩ | exact ⟨16, rfl⟩ | exact ⟨17, rfl⟩ | exact ⟨18, rfl⟩ | assumption)
local macro_rules | `(tactic| fail "up") => `(tactic| first | exact ⟨0, rfl, rfl⟩ | exact ⟨1, rfl, rfl⟩ | exact ⟨2, rfl, rfl⟩ | exact ⟨3, rfl, rfl⟩ | exact ⟨4, rfl, rfl⟩ | exact ⟨5, rfl, rfl⟩ | exact ⟨6, rfl, rfl⟩ | exact ⟨7, rfl, rfl⟩ | exact ⟨8, rfl, rfl⟩ | exact ⟨9, rfl, rfl⟩ | exact ⟨10, rfl, rfl⟩ | exact ⟨11, rfl, rfl⟩ | exact ⟨12, rfl, rfl⟩ | exact ⟨13, rfl, rfl⟩ | exact ⟨14, rfl, rfl⟩ | exact ⟨15, rfl, rfl⟩ | exact ⟨16, rfl, rfl⟩ | assumption)
local macro_rules | `(tactic| fail "lkF") => `(tactic| first | assumption | exact fz_at 0 (by fail "nd") rfl rfl | exact fz_at 1 (by fail "nd") rfl rfl | exact fz_at 2 (by fail "nd") rfl rfl | exact fz_at 3 (by fail "nd") rfl rfl | exact fz_at 4 (by fail "nd") rfl rfl | exact fz_at 5 (by fail "nd") rfl rfl | exact fz_at 6 (by fail "nd") rfl rfl | exact fz_at 7 (by fail "nd") rfl rfl)
local macro_rules | `(tactic| fail "lkD") => `(tactic| first | assumption | exact dz_at 0 (by fail "nd") rfl rfl | exact dz_at 1 (by fail "nd") rfl rfl | exact dz_at 2 (by fail "nd") rfl rfl | exact dz_at 3 (by fail "nd") rfl rfl | exact dz_at 4 (by fail "nd") rfl rfl)
local macro_rules | `(tactic| fail "ptF") => `(tactic| first | assumption | exact fz_put 0 (by fail "nd") rfl (Nat.le_of_ble_eq_true rfl) | exact fz_put 1 (by fail "nd") rfl (Nat.le_of_ble_eq_true rfl) | exact fz_put 2 (by fail "nd") rfl (Nat.le_of_ble_eq_true rfl) | exact fz_put 3 (by fail "nd") rfl (Nat.le_of_ble_eq_true rfl) | exact fz_put 4 (by fail "nd") rfl (Nat.le_of_ble_eq_true rfl) | exact fz_put 5 (by fail "nd") rfl (Nat.le_of_ble_eq_true rfl) | exact fz_put 6 (by fail "nd") rfl (Nat.le_of_ble_eq_true rfl) | exact fz_put 7 (by fail "nd") rfl (Nat.le_of_ble_eq_true rfl) | exact fz_new (by decide +kernel) rfl)
local macro_rules | `(tactic| fail "ptD") => `(tactic| first | assumption | exact dz_put 0 (by fail "nd") rfl (Nat.le_of_ble_eq_true rfl) | exact dz_put 1 (by fail "nd") rfl (Nat.le_of_ble_eq_true rfl) | exact dz_put 2 (by fail "nd") rfl (Nat.le_of_ble_eq_true rfl) | exact dz_put 3 (by fail "nd") rfl (Nat.le_of_ble_eq_true rfl) | exact dz_put 4 (by fail "nd") rfl (Nat.le_of_ble_eq_true rfl))
local macro_rules | `(tactic| fail "sz") => `(tactic| first | assumption | exact (Nat.le_of_ble_eq_true rfl) | omega | decide)
local macro_rules | `(tactic| fail "sd") => `(tactic| first | rfl | assumption | decide | omega | (dsimp only; first | decide | omega) | exact .inr ⟨by decide, by decide⟩ | exact .inl ⟨by decide, by decide⟩ | exact ⟨by omega, by omega⟩ | exact .inl ⟨by omega, by omega⟩ | exact .inr ⟨by omega, by omega⟩ | exact ⟨by omega, by omega, by omega⟩)
local macro_rules | `(tactic| fail "cl") => `(tactic| (clear hH; dsimp only [List.set, List.cons_append, List.nil_append, List.append] at hL))
local macro_rules | `(tactic| fail "gn") => `(tactic| (intro p hp; generalize hH : upd H p _ = H; replace hL := Led.newH hL hp hH; clear hH hp))
local macro_rules | `(tactic| fail "gup") => `(tactic| (generalize hH : upd H _ _ = H; replace hL := Led.upU hL (by fail "up") hH; fail "cl"))
local macro_rules | `(tactic| fail "gmk") => `(tactic| (intro x dx hx hd ne; generalize hH : upd (upd H dx _) x _ = H; replace hL := Led.made hL hx hd ne hH; clear hH hx hd ne))
local macro_rules | `(tactic| fail "v") => `(tactic| refine ⟨_, rfl, ?_⟩)
local macro_rules | `(tactic| fail "i2") => `(tactic| refine ⟨_, _, rfl, rfl, ?_⟩)
local macro_rules | `(tactic| fail "go1") => `(tactic| first
  | refine ⟨_, rfl, ?_⟩
  | refine ⟨_, _, rfl, rfl, ?_⟩
  | refine ⟨_, _, rfl, ?_⟩
  | refine iteT ?_
  | refine iteF ?_
  | refine k_fld hL (by fail "ix") (by assumption) (by assumption) (by fail "lkF") ?_
  | refine k_dgetS hL (by fail "ix") (by fail "lkD") ?_
  | refine k_dgetI hL (by fail "ix") (by assumption) ?_
  | refine k_ixL hL (by fail "ix") (by first | rfl | assumption) ?_
  | refine k_ixT hL (by fail "ix") (by first | rfl | assumption) ?_
  | refine k_tyL hL (by fail "ix") ?_
  | refine k_isd hL (by fail "ix") ?_
  | (refine And.intro (by fail "sz") ?_; fail "gn")
  | refine And.intro (by fail "sd") ?_
  | fail "gn"
  | refine k_meth hL (by fail "ix") (by first | assumption | exact fz_no (by decide +kernel)) ?_
  | refine k_gtup hL (by fail "ix") rfl ?_
  | (refine k_popI hL (by fail "ix") (by assumption) ?_; fail "gup")
  | (refine k_listD hL (by fail "ix") ?_; fail "gn")
  | (refine ⟨_, _, _, _, rfl, rfl, hL.at (by fail "ix"), rfl, ?_⟩; fail "gup")
  | (refine ⟨_, _, _, rfl, rfl, hL.at (by fail "ix"), (by fail "sz"), ?_⟩; fail "gup")
  | (refine ⟨_, _, _, _, rfl, hL.at (by fail "ix"), by assumption, by assumption, Nat.lt_of_le_of_lt fz_len (by decide), ?_⟩; generalize hH : upd H _ _ = H; replace hL := Led.upF hL (by fail "up") (by fail "ptF") hH; fail "cl")
  | (refine ⟨_, _, hL.at (by fail "ix"), Nat.lt_of_le_of_lt fz_len (by decide), ?_⟩; generalize hH : upd H _ _ = H; replace hL := Led.upF hL (by fail "up") (by fail "ptF") hH; fail "cl")
  | (refine k_dputS hL (by fail "ix") (Nat.lt_of_le_of_lt dz_len (by decide)) (by fail "ptD") (by fail "up") ?_; clear hL; intro H hL; dsimp only [List.set, List.cons_append, List.nil_append, List.append] at hL)
  | refine k_lenL2 hL (by fail "ix") ?_
  | refine k_lenT2 hL (by fail "ix") ?_
  | refine .inl ⟨_, rfl, ?_⟩
  | refine .inr ⟨_, rfl, ?_⟩)
local macro_rules | `(tactic| fail "go") => `(tactic| repeat fail "go1")
local macro_rules | `(tactic| fail "pm") => `(tactic| (refine Led.le hL (fun a_ => ?_); simp only [cnt_nil, cnt_cons, cnt_app, List.map_append, List.map_cons, List.map_nil, List.flatMap_append, List.flatMap_cons, List.flatMap_nil, List.append_assoc, List.cons_append, List.nil_append]; omega))

theorem pss_end {X : Cx} {st : List Stmt} {t : TS} (h : PSs X st t) : PSs X st t := h
/-- the dice loop's body -/
def tDice (p : TbA) (q q2 : Str) : TS := fun D σ H => ∃ (a b c : Int) (t : Tbs) (Z : Lg), σ[1]? = some (some (.ref p.d)) ∧ σ.length = 19 ∧ TbsOk q q2 t Z ∧ Led H (lwT p t ++ ((p.d, dD a b c) :: Z)) ∧
  (∀ (t' : Tbs) (Z' : Lg) σ' H', σ'.length = 19 → TbsOk q q2 t' Z' → Led H' (lwT p t' ++ Z') → D.nx σ' H')
section
variable {P : Program} {w : World} {K : PySem.W.Frag} {mg : Str → Option Value} {base : Heap} {CW CD CE CQ : Addr} {pa : TbA} {f cL : Addr} {A : Around} {outer : List Env} {s0 : Shared} {H0 : Hp} {E : XK} {q q2 : Str}
theorem st_dice (h0 : ∀ {rest : List Stmt} {ur : TS}, PSs (LX P w K mg base f (.ref cL) A outer s0 H0 E) rest ur → PSs (LX P w K mg base f (.ref cL) A outer s0 H0 E) (nth diceB 0 :: nth diceB 1 :: nth diceB 2 :: rest) (fun D σ H => tHead CD pa q q2 { D with nx := ur D } σ H))
    (h3 : PS (LX P w K mg base f (.ref cL) A outer s0 H0 E) (nth diceB 3) (tLoop CW CD pa q q2)) (h4 : PS (LX P w K mg base f (.ref cL) A outer s0 H0 E) (nth diceB 4) (tDue CW CD pa q q2)) (h5 : PS (LX P w K mg base f (.ref cL) A outer s0 H0 E) (nth diceB 5) (tChk CW CD pa q q2)) (h6 : PS (LX P w K mg base f (.ref cL) A outer s0 H0 E) (nth diceB 6) (tChk CW CD pa q q2))
    (h7 : ∀ {rest : List Stmt} {ur : TS}, PSs (LX P w K mg base f (.ref cL) A outer s0 H0 E) rest ur → PSs (LX P w K mg base f (.ref cL) A outer s0 H0 E) (nth diceB 7 :: nth diceB 8 :: rest) (fun D σ H => tChk7 CW CD pa q q2 { D with nx := ur D } σ H))
    (h9 : ∀ {rest : List Stmt} {ur : TS}, PSs (LX P w K mg base f (.ref cL) A outer s0 H0 E) rest ur → PSs (LX P w K mg base f (.ref cL) A outer s0 H0 E) (nth diceB 9 :: nth diceB 10 :: nth diceB 11 :: nth diceB 12 :: rest) (fun D σ H => tChk9 CW CD pa q q2 { D with nx := ur D } σ H)) :
    PSs (LX P w K mg base f (.ref cL) A outer s0 H0 E) diceB (tDice pa q q2) := by
  have all := h0 (pss_cons h3 (pss_cons h4 (pss_cons h5 (pss_cons h6 (h7 (h9 pss_nil))))))
  refine pss_imp (t := _) (show PSs _ diceB _ from all) ?_
  rintro D σ H ⟨a, b, c, t, Z, hs, hsl, ht, hL, k⟩
  refine ⟨pa.d, a, b, c, t, Z, hs, hsl, ht, hL, fun A1 ns f1 S l a b c t Z v9 v10 σ' H' hs hn ok hcm ht hL => ?_⟩
  refine ⟨A1, ns, f1, S, pa.d, l, a, b, c, t, Z, v9, v10, hs, hn, ok, hcm, ht, hL, fun A2 S2 a b c t2 Z2 tn v10 σ2 H2 hs2 ok2 hw2 hj2 ht2 hL2 => ?_⟩
  obtain ⟨v0, v3, v11, v12, v13, v14, v15, v16, v17, v18, rfl⟩ := hs2
  refine ⟨A2, ns, f1, S2, pa.d, l, a, b, c, t2, Z2, rfl, rfl, rfl, hn, hL2, fun u Zn H3 hu hL3 => ?_⟩
  have hE : EnS ([v0, some (.ref pa.d), some (.ref l), v3, some (failV ns f1), some (.ref A2.w0), some (.ref A2.D), some (.str (endW ns f1)), some (.int tn), some (.ref A2.x), v10, v11, v12, v13, v14, v15, v16, v17, v18].set 11 (some (.ref u))) l (failV ns f1) A2.w0 A2.D (endW ns f1) A2.x u := ⟨rfl, rfl, rfl, rfl, rfl, rfl, rfl, rfl⟩
  refine ⟨A2, ns, f1, S2, pa.d, l, a, b, c, t2, Zn ++ Z2, u, hE, hn, ok2.mono (fun x h => List.mem_append_right _ h), hw2, hj2, ht2.mono (fun x h => List.mem_append_right _ h), hu, hL3, fun S3 t3 Zn3 H4 ok3 hw3 hj3 ht3 hL4 => ?_⟩
  have mv : ∀ {Za Zb : Lg} {x : Addr × HO}, x ∈ lwD pa.d l a b c ns ++ Zb → x ∈ lwD pa.d l a b c ns ++ (Za ++ Zb) := fun {Za Zb x} h => (List.mem_append.mp h).elim (fun h => List.mem_append_left _ h) fun h => List.mem_append_right _ (List.mem_append_right _ h)
  refine ⟨A2, ns, f1, S3, pa.d, l, a, b, c, t3, Zn3 ++ (Zn ++ Z2), u, hE, hn, ok3, hw3, hj3, ht3, mv hu, hL4, fun S4 t4 Zn4 H5 ok4 hw4 hj4 ht4 hL5 => ?_⟩
  refine ⟨A2, ns, f1, S4, pa.d, l, a, b, c, t4, Zn4 ++ (Zn3 ++ (Zn ++ Z2)), u, hE, hn, ok4, hj4, mv (mv hu), hL5, fun v H6 hL6 => ?_⟩
  refine ⟨A2, ns, f1, S4, pa.d, l, a, b, c, t4, Zn4 ++ (Zn3 ++ (Zn ++ Z2)), u, ⟨rfl, rfl, rfl, rfl, rfl, rfl, rfl, rfl⟩, hn, ok4, hj4, ht4, hL6, fun v t5 Z5 H7 ht5 hL7 => ?_⟩
  exact k t5 Z5 _ H7 rfl ht5 hL7
end
end Sd


set_option linter.unusedVariables false
namespace Sd
open PySem L2 LamX NdefX PyProof.Rows
open C8 (Cal Met Mak pe_c pe_mk pe_mt pe_mt0 pss_cut tCut)
set_option linter.unusedSimpArgs false
set_option pp.deepTerms false
set_option pp.deepTerms.threshold 12
set_option hygiene false
local macro_rules | `(tactic| fail "nd") => `(tactic| first | assumption | decide +kernel)
local macro_rules | `(tactic| fail "ix") => `(tactic| first | exact ⟨0, rfl⟩ | exact ⟨1, rfl⟩ | exact ⟨2, rfl⟩ | exact ⟨3, rfl⟩ | exact ⟨4, rfl⟩ | exact ⟨5, rfl⟩ | exact ⟨6, rfl⟩ | exact ⟨7, rfl⟩ | exact ⟨8, rfl⟩ | exact ⟨9, rfl⟩ | exact ⟨10, rfl⟩ | exact ⟨11, rfl⟩ | exact ⟨12, rfl⟩ | exact ⟨13, rfl⟩ | exact ⟨14, rfl⟩ | exact ⟨15, rfl⟩ | exact ⟨16, rfl⟩ | exact ⟨17, rfl⟩ | exact ⟨18, rfl⟩ | assumption)
local macro_rules | `(tactic| fail "up") => `(tactic| first | exact ⟨0, rfl, rfl⟩ | exact ⟨1, rfl, rfl⟩ | exact ⟨2, rfl, rfl⟩ | exact ⟨3, rfl, rfl⟩ | exact ⟨4, rfl, rfl⟩ | exact ⟨5, rfl, rfl⟩ | exact ⟨6, rfl, rfl⟩ | exact ⟨7, rfl, rfl⟩ | exact ⟨8, rfl, rfl⟩ | exact ⟨9, rfl, rfl⟩ | exact ⟨10, rfl, rfl⟩ | exact ⟨11, rfl, rfl⟩ | exact ⟨12, rfl, rfl⟩ | exact ⟨13, rfl, rfl⟩ | exact ⟨14, rfl, rfl⟩ | exact ⟨15, rfl, rfl⟩ | exact ⟨16, rfl, rfl⟩ | assumption)
local macro_rules | `(tactic| fail "lkF") => `(tactic| first | assumption | exact fz_at 0 (by fail "nd") rfl rfl | exact fz_at 1 (by fail "nd") rfl rfl | exact fz_at 2 (by fail "nd") rfl rfl | exact fz_at 3 (by fail "nd") rfl rfl | exact fz_at 4 (by fail "nd") rfl rfl | exact fz_at 5 (by fail "nd") rfl rfl | exact fz_at 6 (by fail "nd") rfl rfl | exact fz_at 7 (by fail "nd") rfl rfl)
local macro_rules | `(tactic| fail "lkD") => `(tactic| first | assumption | exact dz_at 0 (by fail "nd") rfl rfl | exact dz_at 1 (by fail "nd") rfl rfl | exact dz_at 2 (by fail "nd") rfl rfl | exact dz_at 3 (by fail "nd") rfl rfl | exact dz_at 4 (by fail "nd") rfl rfl)
local macro_rules | `(tactic| fail "ptF") => `(tactic| first | assumption | exact fz_put 0 (by fail "nd") rfl (Nat.le_of_ble_eq_true rfl) | exact fz_put 1 (by fail "nd") rfl (Nat.le_of_ble_eq_true rfl) | exact fz_put 2 (by fail "nd") rfl (Nat.le_of_ble_eq_true rfl) | exact fz_put 3 (by fail "nd") rfl (Nat.le_of_ble_eq_true rfl) | exact fz_put 4 (by fail "nd") rfl (Nat.le_of_ble_eq_true rfl) | exact fz_put 5 (by fail "nd") rfl (Nat.le_of_ble_eq_true rfl) | exact fz_put 6 (by fail "nd") rfl (Nat.le_of_ble_eq_true rfl) | exact fz_put 7 (by fail "nd") rfl (Nat.le_of_ble_eq_true rfl) | exact fz_new (by decide +kernel) rfl)
local macro_rules | `(tactic| fail "ptD") => `(tactic| first | assumption | exact dz_put 0 (by fail "nd") rfl (Nat.le_of_ble_eq_true rfl) | exact dz_put 1 (by fail "nd") rfl (Nat.le_of_ble_eq_true rfl) | exact dz_put 2 (by fail "nd") rfl (Nat.le_of_ble_eq_true rfl) | exact dz_put 3 (by fail "nd") rfl (Nat.le_of_ble_eq_true rfl) | exact dz_put 4 (by fail "nd") rfl (Nat.le_of_ble_eq_true rfl))
local macro_rules | `(tactic| fail "sz") => `(tactic| first | assumption | exact (Nat.le_of_ble_eq_true rfl) | omega | decide)
local macro_rules | `(tactic| fail "sd") => `(tactic| first | rfl | assumption | decide | omega | (dsimp only; first | decide | omega) | exact .inr ⟨by decide, by decide⟩ | exact .inl ⟨by decide, by decide⟩ | exact ⟨by omega, by omega⟩ | exact .inl ⟨by omega, by omega⟩ | exact .inr ⟨by omega, by omega⟩ | exact ⟨by omega, by omega, by omega⟩)
local macro_rules | `(tactic| fail "cl") => `(tactic| (clear hH; dsimp only [List.set, List.cons_append, List.nil_append, List.append] at hL))
local macro_rules | `(tactic| fail "gn") => `(tactic| (intro p hp; generalize hH : upd H p _ = H; replace hL := Led.newH hL hp hH; clear hH hp))
local macro_rules | `(tactic| fail "gup") => `(tactic| (generalize hH : upd H _ _ = H; replace hL := Led.upU hL (by fail "up") hH; fail "cl"))
local macro_rules | `(tactic| fail "gmk") => `(tactic| (intro x dx hx hd ne; generalize hH : upd (upd H dx _) x _ = H; replace hL := Led.made hL hx hd ne hH; clear hH hx hd ne))
local macro_rules | `(tactic| fail "v") => `(tactic| refine ⟨_, rfl, ?_⟩)
local macro_rules | `(tactic| fail "i2") => `(tactic| refine ⟨_, _, rfl, rfl, ?_⟩)
local macro_rules | `(tactic| fail "go1") => `(tactic| first
  | refine ⟨_, rfl, ?_⟩
  | refine ⟨_, _, rfl, rfl, ?_⟩
  | refine ⟨_, _, rfl, ?_⟩
  | refine iteT ?_
  | refine iteF ?_
  | refine k_fld hL (by fail "ix") (by assumption) (by assumption) (by fail "lkF") ?_
  | refine k_dgetS hL (by fail "ix") (by fail "lkD") ?_
  | refine k_dgetI hL (by fail "ix") (by assumption) ?_
  | refine k_ixL hL (by fail "ix") (by first | rfl | assumption) ?_
  | refine k_ixT hL (by fail "ix") (by first | rfl | assumption) ?_
  | refine k_tyL hL (by fail "ix") ?_
  | refine k_isd hL (by fail "ix") ?_
  | (refine And.intro (by fail "sz") ?_; fail "gn")
  | refine And.intro (by fail "sd") ?_
  | fail "gn"
  | refine k_meth hL (by fail "ix") (by first | assumption | exact fz_no (by decide +kernel)) ?_
  | refine k_gtup hL (by fail "ix") rfl ?_
  | (refine k_popI hL (by fail "ix") (by assumption) ?_; fail "gup")
  | (refine k_listD hL (by fail "ix") ?_; fail "gn")
  | (refine ⟨_, _, _, _, rfl, rfl, hL.at (by fail "ix"), rfl, ?_⟩; fail "gup")
  | (refine ⟨_, _, _, rfl, rfl, hL.at (by fail "ix"), (by fail "sz"), ?_⟩; fail "gup")
  | (refine ⟨_, _, _, _, rfl, hL.at (by fail "ix"), by assumption, by assumption, Nat.lt_of_le_of_lt fz_len (by decide), ?_⟩; generalize hH : upd H _ _ = H; replace hL := Led.upF hL (by fail "up") (by fail "ptF") hH; fail "cl")
  | (refine ⟨_, _, hL.at (by fail "ix"), Nat.lt_of_le_of_lt fz_len (by decide), ?_⟩; generalize hH : upd H _ _ = H; replace hL := Led.upF hL (by fail "up") (by fail "ptF") hH; fail "cl")
  | (refine k_dputS hL (by fail "ix") (Nat.lt_of_le_of_lt dz_len (by decide)) (by fail "ptD") (by fail "up") ?_; clear hL; intro H hL; dsimp only [List.set, List.cons_append, List.nil_append, List.append] at hL)
  | refine k_lenL2 hL (by fail "ix") ?_
  | refine k_lenT2 hL (by fail "ix") ?_
  | refine .inl ⟨_, rfl, ?_⟩
  | refine .inr ⟨_, rfl, ?_⟩)
local macro_rules | `(tactic| fail "go") => `(tactic| repeat fail "go1")
local macro_rules | `(tactic| fail "pm") => `(tactic| (refine Led.le hL (fun a_ => ?_); simp only [cnt_nil, cnt_cons, cnt_app, List.map_append, List.map_cons, List.map_nil, List.flatMap_append, List.flatMap_cons, List.flatMap_nil, List.append_assoc, List.cons_append, List.nil_append]; omega))

/-- the cells within a comprehension's block -/
theorem GdC.st {X : Cx} {cl : List (Str × Addr)} {fr : List Str} {ws : List (Option V)} {s s' : Shared} {H H' : Hp} {scope : Scope} {cenv : Env} {fp : List Addr} {pins : List (Addr × Obj)} {σ : L2.St} (gd : GdC X cl fr ws s H fp) (I : L2.Inv (X.blk s H scope cenv fp) pins σ H' s') : CellsO cl fr ws (X.blk s H scope cenv fp).stack s'.heap H' := by
  refine ⟨gd.1.later (X := X.blk s H scope cenv fp) (fun y c e => (gd.2 y c e).1) (fun y c e z => (gd.2 y c e).2 z) I, fun y c e hb => ?_⟩
  exact (gd.2 y c e).1 hb
abbrev lamB1 : Expr := argE (valE (nth (defBody sLaw) 3)) 0
abbrev lamB2 : Expr := argE (valE (nth (defBody sLaw) 3)) 1
abbrev lamB3 : Expr := argE (valE (nth (defBody sLaw) 3)) 2
theorem nscB1 : NScope [] [] [] (lamScope lamB1) := nscope_by (by decide +kernel)
theorem nscB2 : NScope [] [] [] (lamScope lamB2) := nscope_by (by decide +kernel)
theorem nscB3 : NScope ["spoilt"] [] ["spoilt"] (lamScope lamB3) := nscope_by (by decide +kernel)
/-- lambdas that raise QueueError -/
def tlB (CQ PU PI : Addr) : List V → List (Option V) → Hp → VK → XK → Prop := fun vs ws H Q E => vs = [] ∧ ws = [] ∧ ∃ (pu pi : Array Value) (L : Lg), Led H ((PU, .tbl pu) :: (PI, .tbl pi) :: L) ∧ TriplesOk pu.toList ∧ TriplesOk pi.toList ∧
  ∀ (pu' pi' : Array Value) H', TriplesOk pu'.toList → TriplesOk pi'.toList → Led H' ((PU, .tbl pu') :: (PI, .tbl pi') :: L) → E (.ref CQ) none H'
def flyR : Rw := ("fly", "a")
def tlB3 (CD CQ PU PI : Addr) : List V → List (Option V) → Hp → VK → XK → Prop := fun vs ws H Q E => vs = [] ∧ ∃ (sp dd' K W F : Addr) (dk : DkS) (pu pi : Array Value) (L : Lg), ws = [some (.ref sp)] ∧ dk.kb ++ dk.wb = framesB [rD flyR] ∧ Led H ((PU, .tbl pu) :: (PI, .tbl pi) :: (dkL CD sp dd' K W F dk ++ L)) ∧ TriplesOk pu.toList ∧ TriplesOk pi.toList ∧
  ∀ (pu' pi' : Array Value) H', TriplesOk pu'.toList → TriplesOk pi'.toList → Led H' ((PU, .tbl pu') :: (PI, .tbl pi') :: (dkL CD sp dd' K W F dk ++ L)) → E (.ref CQ) none H'
theorem a_ok : sendable (.str "a") ∧ (signs "a").length ≤ 10 ∧ ("a" : Str).length < 128 := by unfold sendable; decide +kernel
theorem fly_ok : sendable (.str "fly") ∧ (signs "fly").length ≤ 10 ∧ ("fly" : Str).length < 128 := by unfold sendable; decide +kernel
section
variable {P : Program} {w : World} {K : PySem.W.Frag} {mg : Str → Option Value} {base : Heap} {CW CD CE CQ PU PI : Addr}
theorem lokB1 {f c' : Addr} {q : Str} {cl : List (Str × Addr)} (c_Disk : Mak P w K mg base 1 "Disk" CD (spDInit CD) []) (c_Workflow : MakX P w K mg base 18 "Workflow" CW (spWInit CW CD CQ PU PI) []) : LOkS P w K mg base 20 f ⟨"<lambda>", q, lamArgs lamB1, [], lamScope lamB1, cl, c'⟩ (lamBody lamB1) [] (tlB CQ PU PI) := by
  refine lokS_of nscB1 (fun vs ws H Q E h => ?_) (fun _ _ _ us hl => match us, hl with | [], _ => rfl) fun A outer s H vs ws Q E hr C h => ⟨_, pe_mkX c_Workflow hr (by decide) (by rfl) (takes_of rfl rfl rfl (E := E) rfl) (pa_cons (pe_mkN c_Disk hr (by decide) (by rfl)) (pa_cons (pe_lst pa_nil) pa_nil)), ?_⟩
  · obtain ⟨rfl, _⟩ := h
    rfl
  · obtain ⟨rfl, rfl, pu, pi, L, hL, htu, hti, k⟩ := h
    intro x dx h1 h2 h3
    generalize hH : upd (upd H dx _) x _ = H'
    replace hL := Led.made hL h1 h2 h3 hH
    clear hH h1 h2 h3
    refine ⟨x, dx, _, rfl, hL, fun K1 W1 F1 H hL => ⟨rfl, ?_⟩⟩
    refine ⟨Nat.zero_le _, fun l hp => ?_⟩
    generalize hH : upd H l _ = H
    replace hL := Led.newH hL hp hH
    clear hH hp
    refine fun x2 dx2 a b c => mkW (Q := Q) ⟨dx, K1, W1, F1, ⟨[], [], [], 0, none, false⟩, [], [], [], pu, pi, (l, .lst []) :: L, by fail "pm", htu, hti, .head _, by decide, by simp [framesB], Nat.zero_le _, by simp, Nat.zero_le _, cut_nil, (fun hg => absurd hg (by decide)), fun _ pu' pi' H' t1 t2 hL => ?_⟩ x2 dx2 a b c
    exact k pu' pi' H' t1 t2 (by fail "pm")
theorem lokB2 {f c' : Addr} {q : Str} {cl : List (Str × Addr)} (c_Disk : Mak P w K mg base 1 "Disk" CD (spDInit CD) []) (c_Workflow : MakX P w K mg base 18 "Workflow" CW (spWInit CW CD CQ PU PI) []) : LOkS P w K mg base 20 f ⟨"<lambda>", q, lamArgs lamB2, [], lamScope lamB2, cl, c'⟩ (lamBody lamB2) [] (tlB CQ PU PI) := by
  refine lokS_of nscB2 (fun vs ws H Q E h => ?_) (fun _ _ _ us hl => match us, hl with | [], _ => rfl) fun A outer s H vs ws Q E hr C h => ⟨_, pe_mkX c_Workflow hr (by decide) (by rfl) (takes_of rfl rfl rfl (E := E) rfl) (pa_cons (pe_mkN c_Disk hr (by decide) (by rfl)) (pa_cons (pe_lst (pa_cons pe_str (pa_cons pe_str pa_nil))) pa_nil)), ?_⟩
  · obtain ⟨rfl, _⟩ := h
    rfl
  · obtain ⟨rfl, rfl, pu, pi, L, hL, htu, hti, k⟩ := h
    intro x dx h1 h2 h3
    generalize hH : upd (upd H dx _) x _ = H'
    replace hL := Led.made hL h1 h2 h3 hH
    clear hH h1 h2 h3
    refine ⟨x, dx, _, rfl, hL, fun K1 W1 F1 H hL => ⟨rfl, ?_⟩⟩
    refine ⟨Nat.le_of_ble_eq_true rfl, fun l hp => ?_⟩
    generalize hH : upd H l _ = H
    replace hL := Led.newH hL hp hH
    clear hH hp
    refine fun x2 dx2 a b c => mkW (Q := Q) ⟨dx, K1, W1, F1, ⟨[], [], [], 0, none, false⟩, ["a", "a"], [], [], pu, pi, (l, .lst [.str "a", .str "a"]) :: L, by fail "pm", htu, hti, .head _, by decide, by simp [framesB], Nat.zero_le _, by simp, Nat.zero_le _, cut_nil, (fun hg => absurd hg (by decide +kernel)), fun _ pu' pi' H' t1 t2 hL => ?_⟩ x2 dx2 a b c
    exact k pu' pi' H' t1 t2 (by fail "pm")
theorem lokB3 {f c' : Addr} {q : Str} {cl : List (Str × Addr)} (c_Workflow : MakX P w K mg base 18 "Workflow" CW (spWInit CW CD CQ PU PI) []) : LOkS P w K mg base 20 f ⟨"<lambda>", q, lamArgs lamB3, [], lamScope lamB3, cl, c'⟩ (lamBody lamB3) ["spoilt"] (tlB3 CD CQ PU PI) := by
  refine lokS_of nscB3 (fun vs ws H Q E h => ?_) (fun _ _ _ us hl => match us, hl with | [], _ => rfl) fun A outer s H vs ws Q E hr C h => ⟨_, pe_mkX c_Workflow hr (by decide) (by rfl) (takes_of rfl rfl rfl (E := E) rfl) (pa_cons (pv 0) (pa_cons (pe_lst (pa_cons pe_str pa_nil)) pa_nil)), ?_⟩
  · obtain ⟨rfl, _⟩ := h
    rfl
  · obtain ⟨rfl, sp, dd', KK, W, F, dk, pu, pi, L, rfl, hkb, hL, htu, hti, k⟩ := h
    have hpk := rD_pk fly_ok a_ok
    have hlen := congrArg List.length hkb
    rw [List.length_append, frames_one, frame_len] at hlen
    have hz3 : 3000 ≤ sizeLine := by decide
    refine ⟨_, rfl, ?_⟩
    refine ⟨Nat.le_of_ble_eq_true rfl, fun l hp => ?_⟩
    generalize hH : upd H l _ = H
    replace hL := Led.newH hL hp hH
    clear hH hp
    refine fun x2 dx2 a b c => mkW (Q := Q) ⟨dd', KK, W, F, dk, ["a"], [flyR], [], pu, pi, (l, .lst [.str "a"]) :: L, by fail "pm", htu, hti, .head _, by decide, by rw [hkb, List.append_nil]; rfl, ?_, fun r hr => by rw [List.mem_singleton] at hr; rw [hr]; exact hpk.1, by decide, cut_nil, (fun hg => absurd hg (by decide +kernel)), fun _ pu' pi' H' t1 t2 hL => ?_⟩ x2 dx2 a b c
    · have := hpk.2
      have e : (packB (rD flyR)).length = (packB (rD ("fly", "a"))).length := rfl
      omega
    · exact k pu' pi' H' t1 t2 (by fail "pm")
end
end Sd


set_option linter.unusedVariables false
namespace Sd
open PySem L2 LamX NdefX PyProof.Rows
open C8 (Cal Met Mak pe_c pe_mk pe_mt pe_mt0 pss_cut tCut)
set_option linter.unusedSimpArgs false
set_option pp.deepTerms false
set_option pp.deepTerms.threshold 12
set_option hygiene false
local macro_rules | `(tactic| fail "nd") => `(tactic| first | assumption | decide +kernel)
local macro_rules | `(tactic| fail "ix") => `(tactic| first | exact ⟨0, rfl⟩ | exact ⟨1, rfl⟩ | exact ⟨2, rfl⟩ | exact ⟨3, rfl⟩ | exact ⟨4, rfl⟩ | exact ⟨5, rfl⟩ | exact ⟨6, rfl⟩ | exact ⟨7, rfl⟩ | exact ⟨8, rfl⟩ | exact ⟨9, rfl⟩ | exact ⟨10, rfl⟩ | exact ⟨11, rfl⟩ | exact ⟨12, rfl⟩ | exact ⟨13, rfl⟩ | exact ⟨14, rfl⟩ | exact ⟨15, rfl⟩ | exact ⟨16, rfl⟩ | exact ⟨17, rfl⟩ | exact ⟨18, rfl⟩ | assumption)
local macro_rules | `(tactic| fail "up") => `(tactic| first | exact ⟨0, rfl, rfl⟩ | exact ⟨1, rfl, rfl⟩ | exact ⟨2, rfl, rfl⟩ | exact ⟨3, rfl, rfl⟩ | exact ⟨4, rfl, rfl⟩ | exact ⟨5, rfl, rfl⟩ | exact ⟨6, rfl, rfl⟩ | exact ⟨7, rfl, rfl⟩ | exact ⟨8, rfl, rfl⟩ | exact ⟨9, rfl, rfl⟩ | exact ⟨10, rfl, rfl⟩ | exact ⟨11, rfl, rfl⟩ | exact ⟨12, rfl, rfl⟩ | exact ⟨13, rfl, rfl⟩ | exact ⟨14, rfl, rfl⟩ | exact ⟨15, rfl, rfl⟩ | exact ⟨16, rfl, rfl⟩ | assumption)
local macro_rules | `(tactic| fail "lkF") => `(tactic| first | assumption | exact fz_at 0 (by fail "nd") rfl rfl | exact fz_at 1 (by fail "nd") rfl rfl | exact fz_at 2 (by fail "nd") rfl rfl | exact fz_at 3 (by fail "nd") rfl rfl | exact fz_at 4 (by fail "nd") rfl rfl | exact fz_at 5 (by fail "nd") rfl rfl | exact fz_at 6 (by fail "nd") rfl rfl | exact fz_at 7 (by fail "nd") rfl rfl)
local macro_rules | `(tactic| fail "lkD") => `(tactic| first | assumption | exact dz_at 0 (by fail "nd") rfl rfl | exact dz_at 1 (by fail "nd") rfl rfl | exact dz_at 2 (by fail "nd") rfl rfl | exact dz_at 3 (by fail "nd") rfl rfl | exact dz_at 4 (by fail "nd") rfl rfl)
local macro_rules | `(tactic| fail "ptF") => `(tactic| first | assumption | exact fz_put 0 (by fail "nd") rfl (Nat.le_of_ble_eq_true rfl) | exact fz_put 1 (by fail "nd") rfl (Nat.le_of_ble_eq_true rfl) | exact fz_put 2 (by fail "nd") rfl (Nat.le_of_ble_eq_true rfl) | exact fz_put 3 (by fail "nd") rfl (Nat.le_of_ble_eq_true rfl) | exact fz_put 4 (by fail "nd") rfl (Nat.le_of_ble_eq_true rfl) | exact fz_put 5 (by fail "nd") rfl (Nat.le_of_ble_eq_true rfl) | exact fz_put 6 (by fail "nd") rfl (Nat.le_of_ble_eq_true rfl) | exact fz_put 7 (by fail "nd") rfl (Nat.le_of_ble_eq_true rfl) | exact fz_new (by decide +kernel) rfl)
local macro_rules | `(tactic| fail "ptD") => `(tactic| first | assumption | exact dz_put 0 (by fail "nd") rfl (Nat.le_of_ble_eq_true rfl) | exact dz_put 1 (by fail "nd") rfl (Nat.le_of_ble_eq_true rfl) | exact dz_put 2 (by fail "nd") rfl (Nat.le_of_ble_eq_true rfl) | exact dz_put 3 (by fail "nd") rfl (Nat.le_of_ble_eq_true rfl) | exact dz_put 4 (by fail "nd") rfl (Nat.le_of_ble_eq_true rfl))
local macro_rules | `(tactic| fail "sz") => `(tactic| first | assumption | exact (Nat.le_of_ble_eq_true rfl) | omega | decide)
local macro_rules | `(tactic| fail "sd") => `(tactic| first | rfl | assumption | decide | omega | (dsimp only; first | decide | omega) | exact .inr ⟨by decide, by decide⟩ | exact .inl ⟨by decide, by decide⟩ | exact ⟨by omega, by omega⟩ | exact .inl ⟨by omega, by omega⟩ | exact .inr ⟨by omega, by omega⟩ | exact ⟨by omega, by omega, by omega⟩)
local macro_rules | `(tactic| fail "cl") => `(tactic| (clear hH; dsimp only [List.set, List.cons_append, List.nil_append, List.append] at hL))
local macro_rules | `(tactic| fail "gn") => `(tactic| (intro p hp; generalize hH : upd H p _ = H; replace hL := Led.newH hL hp hH; clear hH hp))
local macro_rules | `(tactic| fail "gup") => `(tactic| (generalize hH : upd H _ _ = H; replace hL := Led.upU hL (by fail "up") hH; fail "cl"))
local macro_rules | `(tactic| fail "gmk") => `(tactic| (intro x dx hx hd ne; generalize hH : upd (upd H dx _) x _ = H; replace hL := Led.made hL hx hd ne hH; clear hH hx hd ne))
local macro_rules | `(tactic| fail "v") => `(tactic| refine ⟨_, rfl, ?_⟩)
local macro_rules | `(tactic| fail "i2") => `(tactic| refine ⟨_, _, rfl, rfl, ?_⟩)
local macro_rules | `(tactic| fail "go1") => `(tactic| first
  | refine ⟨_, rfl, ?_⟩
  | refine ⟨_, _, rfl, rfl, ?_⟩
  | refine ⟨_, _, rfl, ?_⟩
  | refine iteT ?_
  | refine iteF ?_
  | refine k_fld hL (by fail "ix") (by assumption) (by assumption) (by fail "lkF") ?_
  | refine k_dgetS hL (by fail "ix") (by fail "lkD") ?_
  | refine k_dgetI hL (by fail "ix") (by assumption) ?_
  | refine k_ixL hL (by fail "ix") (by first | rfl | assumption) ?_
  | refine k_ixT hL (by fail "ix") (by first | rfl | assumption) ?_
  | refine k_tyL hL (by fail "ix") ?_
  | refine k_isd hL (by fail "ix") ?_
  | (refine And.intro (by fail "sz") ?_; fail "gn")
  | refine And.intro (by fail "sd") ?_
  | fail "gn"
  | refine k_meth hL (by fail "ix") (by first | assumption | exact fz_no (by decide +kernel)) ?_
  | refine k_gtup hL (by fail "ix") rfl ?_
  | (refine k_popI hL (by fail "ix") (by assumption) ?_; fail "gup")
  | (refine k_listD hL (by fail "ix") ?_; fail "gn")
  | (refine ⟨_, _, _, _, rfl, rfl, hL.at (by fail "ix"), rfl, ?_⟩; fail "gup")
  | (refine ⟨_, _, _, rfl, rfl, hL.at (by fail "ix"), (by fail "sz"), ?_⟩; fail "gup")
  | (refine ⟨_, _, _, _, rfl, hL.at (by fail "ix"), by assumption, by assumption, Nat.lt_of_le_of_lt fz_len (by decide), ?_⟩; generalize hH : upd H _ _ = H; replace hL := Led.upF hL (by fail "up") (by fail "ptF") hH; fail "cl")
  | (refine ⟨_, _, hL.at (by fail "ix"), Nat.lt_of_le_of_lt fz_len (by decide), ?_⟩; generalize hH : upd H _ _ = H; replace hL := Led.upF hL (by fail "up") (by fail "ptF") hH; fail "cl")
  | (refine k_dputS hL (by fail "ix") (Nat.lt_of_le_of_lt dz_len (by decide)) (by fail "ptD") (by fail "up") ?_; clear hL; intro H hL; dsimp only [List.set, List.cons_append, List.nil_append, List.append] at hL)
  | refine k_lenL2 hL (by fail "ix") ?_
  | refine k_lenT2 hL (by fail "ix") ?_
  | refine .inl ⟨_, rfl, ?_⟩
  | refine .inr ⟨_, rfl, ?_⟩)
local macro_rules | `(tactic| fail "go") => `(tactic| repeat fail "go1")
local macro_rules | `(tactic| fail "pm") => `(tactic| (refine Led.le hL (fun a_ => ?_); simp only [cnt_nil, cnt_cons, cnt_app, List.map_append, List.map_cons, List.map_nil, List.flatMap_append, List.flatMap_cons, List.flatMap_nil, List.append_assoc, List.cons_append, List.nil_append]; omega))

theorem hfB1 : ∀ y ∈ (lamScope lamB1).names, y.2 = .free → (defScope sLaw).names.lookup y.1 = some .cell := by decide +kernel
theorem hfB2 : ∀ y ∈ (lamScope lamB2).names, y.2 = .free → (defScope sLaw).names.lookup y.1 = some .cell := by decide +kernel
theorem hfB3 : ∀ y ∈ (lamScope lamB3).names, y.2 = .free → (defScope sLaw).names.lookup y.1 = some .cell := by decide +kernel
theorem hgB3 : ∀ y ∈ (["spoilt"] : List Str), (y, NameKind.free) ∈ (lamScope lamB3).names := by decide +kernel
abbrev tailB : List Stmt := [nth (defBody sLaw) 1, nth (defBody sLaw) 2, nth (defBody sLaw) 3, nth (defBody sLaw) 4, nth (defBody sLaw) 5, nth (defBody sLaw) 6]
abbrev ToF : Type := List Str × ToI
theorem cells0 {outer : List Env} {h : Heap} {H : Hp} : CellsO [] [] [] outer h H := by
  refine ⟨⟨rfl, fun y c e => ?_, fun x y c e => ?_, fun i y e => ?_⟩, fun y c e => ?_⟩
  · cases e
  · cases e
  · rw [List.getElem?_nil] at e; cases e
  · cases e
theorem hG_bad {X : Cx} {s s' : Shared} {H H' : Hp} {scope : Scope} {cenv : Env} {fp : List Addr} {cl : List (Str × Addr)} {ws : List (Option V)} {pins : List (Addr × Obj)} {σ : L2.St} (gd : GdC X cl (["spoilt"] : List Str) ws s H fp) (i : ToF) (I : L2.Inv (X.blk s H scope cenv fp) pins σ H' s')
    (hR : (i.1 = [] ∧ i.2.1.cl = [] ∧ i.2.2 = []) ∨ (i.1 = (["spoilt"] : List Str) ∧ i.2.1.cl = cl ∧ i.2.2 = ws)) : gTold i.2.1 i.1 i.2.2 (X.blk s H scope cenv fp).stack s'.heap H' := by
  rcases hR with ⟨e1, e2, e3⟩ | ⟨e1, e2, e3⟩
  · show CellsO i.2.1.cl i.1 i.2.2 _ _ _
    rw [e1, e2, e3]
    exact cells0
  · show CellsO i.2.1.cl i.1 i.2.2 _ _ _
    rw [e1, e2, e3]
    exact gd.st I
theorem pe_cSB {X : Cx} {s : Shared} {H : Hp} {scope : Scope} {cenv : Env} {fp : List Addr} {k j : Nat} {x : Str} {p pos : Pos} {e : Expr} {es : List Expr} {t : L2.TA} {ι : Type} {G : ι → GT} {sp : ι → Sp} {R : ι → L2.St → Prop} (c : ∀ i, CalS X.prog X.w X.K X.mg X.base k x (G i) (sp i)) (hr : Room j X.A) (hk : k ≤ j)
    (hG : ∀ i pins σ H' s', L2.Inv (X.blk s H scope cenv fp) pins σ H' s' → R i σ → G i (X.blk s H scope cenv fp).stack s'.heap H') (hg : Gl (X.blk s H scope cenv fp) x) {f : Addr} (hm : X.mg x = some (.ref f)) (kp : PySem.W.keepIn X.K (.ref f) = true) (ha : PA (X.blk s H scope cenv fp) (e :: es) t)
    (hdb : (x == ("__debug__" : Str)) = false := by decide) (he : starEach (e :: es) cenv = (false, eval e cenv) :: starEach es cenv := by rfl) (hpl : (backTo pos (starEach es cenv)).any (·.1) = false := by rfl) :
    PE (X.blk s H scope cenv fp) (.Call (.Name x p) (e :: es) [] pos) (tCallS sp R (fun _ _ _ => False) t) := pe_cS (X := X.blk s H scope cenv fp) c hr hk hG hg hm kp L2.takes0 ha hdb he hpl
def lbF (q : Str) (cs : List (Str × Addr)) (e : Expr) (d : Addr) : NF := ⟨"<lambda>", q, lamArgs e, [], lamScope e, cloFrom cs (lamScope e).names [], d⟩
def lbO (q : Str) (cs : List (Str × Addr)) (e : Expr) (f d : Addr) : Addr × HO := (f, LamO f (lbF q cs e d) (lamBody e))
def tTail (p : TbA) (q q2 : Str) : TS := fun D σ H => ∃ (t : Tbs) (Z : Lg), σ.length = 19 ∧ TbsOk q q2 t Z ∧ Led H (lwT p t ++ Z) ∧ ∀ H', D.rt (.bl true) H'
section
variable {P : Program} {w : World} {K : PySem.W.Frag} {mg : Str → Option Value} {base : Heap} {CW CD CE CQ : Addr} {pa : TbA} {f cL : Addr} {A : Around} {outer : List Env} {s0 : Shared} {H0 : Hp} {E : XK}
theorem st_tail (hr : Room 22 (LX P w K mg base f (.ref cL) A outer s0 H0 E).A) (TB : LamX.TabB base mg cL pa.l) (X : TxtWf K CW) {gT : Addr} (c_told : ∀ i : ToF, CalS P w K mg base 21 "_law_told" (gTold i.2.1 i.1 i.2.2) (spToldS P w K mg base 20 [(CQ, "QueueError"), (CE, "StoreError")] i.2.1 i.1 i.2.2)) (hmT : mg "_law_told" = some (.ref gT)) (kpT : PySem.W.keepIn K (.ref gT) = true)
    (TQ : ExcT K mg "QueueError" CQ) (c_Disk : Mak P w K mg base 1 "Disk" CD (spDInit CD) []) (c_Disk_append : MetX P w K mg base 9 CD "append" (spDApp CD CE pa.n 2) []) (c_Workflow : MakX P w K mg base 18 "Workflow" CW (spWInit CW CD CQ pa.u pa.i) []) (c_Workflow_note : MetX P w K mg base 10 CW "note" (spNote CW CD CE pa.n) [])
    (c_Workflow_state_of : Met P w K mg base 1 CW "state_of" (spSof CW) []) (c_Workflow_end : Met P w K mg base 6 CW "end" (spEnd CW pa.e) []) :
    PSs (LX P w K mg base f (.ref cL) A outer s0 H0 E) tailB (tTail pa ((LX P w K mg base f (.ref cL) A outer s0 H0 E).env.qual ++ "<lambda>") ((((LX P w K mg base f (.ref cL) A outer s0 H0 E).env.qual ++ "<lambda>") ++ ".<locals>.") ++ "<lambda>")) := by
  refine pss_imp (t := _) (pss_cons (ps_set (i := 15) scLaw.nd rfl (Or.inr rfl) (pe_mkN c_Disk hr (by decide) (by rfl))) (pss_cons (ps_expr (pe_mtX c_Disk_append hr (by decide) L2.takes0 (pv 15) (pa_cons (pe_tup (pa_cons pe_str (pa_cons pe_str pa_nil))) pa_nil))) (pss_cons (ps_set (i := 16) scLaw.nd rfl (Or.inl rfl) (pe_lst (pa_cons (pe_lamvT (q2 := (((LX P w K mg base f (.ref cL) A outer s0 H0 E).env.qual ++ "<lambda>") ++ ".<locals>.") ++ "<lambda>") TB rfl rfl rfl hfB1) (pa_cons (pe_lamvT (q2 := (((LX P w K mg base f (.ref cL) A outer s0 H0 E).env.qual ++ "<lambda>") ++ ".<locals>.") ++ "<lambda>") TB rfl rfl rfl hfB2) (pa_cons (pe_lamvT (q2 := (((LX P w K mg base f (.ref cL) A outer s0 H0 E).env.qual ++ "<lambda>") ++ ".<locals>.") ++ "<lambda>") TB rfl rfl rfl hfB3) pa_nil)))))
    (pss_cons (ps_set (i := 17) scLaw.nd rfl (Or.inl rfl) (pe_mkX c_Workflow hr (by decide) (by rfl) L2.takes0 (pa_cons (pe_mkN c_Disk hr (by decide) (by rfl)) (pa_cons (pe_lst (pa_cons pe_str (pa_cons pe_str pa_nil))) pa_nil)))) (pss_cons (ps_expr (pe_mtX c_Workflow_note hr (by decide) L2.takes0 (pv 17) (pa_cons pe_str (pa_cons pe_str pa_nil)))) (pss_one (ps_ret (pe_and (pe_cmpR (op_eqP hr.units) (pe_lcE (own := [("f", 18)]) (g := gName 18) (fr := ["spoilt"]) (js := [15]) (lsc := lamScope lamB3) (fun _ => rfl) (by rfl) scLaw.nd (pi_list (pv 16)) (blkOk_by (own := [("f", 18)]) (N := NLw) (sc := defScope sLaw) (by decide +kernel))
      (fun _ _ _ _ I => Caps.made I.ok (fun y hy e => .inl (hfB3 y hy e)) hgB3 rfl) (fun _ _ _ _ _ => pg_name (i := 18) scLaw.nd rfl (Or.inl rfl))
      (fun ws s H C cl fp gd => pts_one (pt_cmpR op_ne (pe_cSB (R := fun i σ => (i.1 = [] ∧ i.2.1.cl = [] ∧ i.2.2 = []) ∨ (i.1 = (["spoilt"] : List Str) ∧ i.2.1.cl = cloFrom (LX P w K mg base f (.ref cL) A outer s0 H0 E).env.cells (lamScope lamB3).names [] ∧ i.2.2 = ws)) c_told hr (by decide) (fun i pins σ H' s' I hR => hG_bad gd i I hR) (by rfl) hmT kpT (pa_cons (pv 18) pa_nil)) pe_str (nomark _)))) (pe_lst pa_nil) (nomark _))
      (pe_and (pe_cmpR op_isN (pe_mt0 c_Workflow_end hr (by decide) (pv 17)) pe_non (nomark _)) (pe_and (pe_cmpR op_isN (pe_mt c_Workflow_state_of hr (by decide) (pv 17) (pa_cons pe_str pa_nil)) pe_non (nomark _)) (pe_one (pe_cmpR (op_eqP hr.units) (pe_fld (pv 17) rfl) (pe_lst (pa_cons (pe_tup (pa_cons pe_str (pa_cons pe_str pa_nil))) pa_nil)) (nomark _))))))))))))) ?_
  rintro D σ H ⟨t, Z, hsl, ht, hL, k⟩
  match σ, hsl with
  | [v0, v1, v2, v3, v4, v5, v6, v7, v8, v9, v10, v11, v12, v13, v14, v15, v16, v17, v18], _ =>
  clear hsl
  have c1 := X.cl
  have f3 := X.n "rows" (by decide +kernel)
  have hz3 : 3000 ≤ sizeLine := by decide
  have hpk := rD_pk fly_ok a_ok
  intro sp sd h1 h2 h3
  generalize hH : upd (upd H sd _) sp _ = H'
  replace hL := Led.made hL h1 h2 h3 hH
  clear hH h1 h2 h3
  refine ⟨sp, sd, _, rfl, hL, fun K1 W1 F1 H hL => ⟨rfl, ?_⟩⟩
  refine ⟨_, rfl, sp, sd, _, rfl, hL.at ⟨0, rfl⟩, fz_no (by decide +kernel), ?_⟩
  refine ⟨Nat.le_of_ble_eq_true rfl, fun tp hp => ?_⟩
  generalize hH : upd H tp _ = H
  replace hL := Led.newH hL hp hH
  clear hH hp
  dsimp only [tNil, List.cons_append, List.nil_append]
  have hB : Led H ((pa.n, .tbl t.n) :: (dkL CD sp sd K1 W1 F1 ⟨[], [], [], 0, none, false⟩ ++ ((tp, .tup [.str "fly", .str "a"]) :: (pa.u, .tbl t.u) :: (pa.i, .tbl t.i) :: (pa.e, .tbl t.e) :: (pa.g, .tbl t.g) :: (pa.l, .tbl t.l) :: rlO pa :: Z))) := by unfold lwT at hL; fail "pm"
  clear hL
  refine ⟨sp, sd, K1, W1, F1, ⟨[], [], [], 0, none, false⟩, .ref tp, rD flyR, t.n, _, rfl, hB, ht.n, .row (.head _) (.cons (.str _) (.cons (.str _) .nil)), hpk.1, by dsimp only [List.length_nil]; have := hpk.1.2.2.2; unfold flyR; omega, fun hu W2 pn H htn hL => ?_, fun hu => by cases hu⟩
  clear hB
  obtain ⟨dk, hdk⟩ : ∃ dk : DkS, dk = { (⟨[], [], [], 0, none, false⟩ : DkS).step with wb := [] ++ frameB (packB (rD flyR)) } := ⟨_, rfl⟩
  rw [← hdk] at hL
  have hkb : dk.kb ++ dk.wb = framesB [rD flyR] := by rw [hdk, frames_one]; rfl
  clear hdk
  obtain ⟨R0, hR0⟩ : ∃ R0 : Lg, R0 = dkL CD sp sd K1 W2 F1 dk ++ ((pa.n, .tbl pn) :: (pa.u, .tbl t.u) :: (pa.i, .tbl t.i) :: (pa.e, .tbl t.e) :: (pa.g, .tbl t.g) :: []) := ⟨_, rfl⟩
  have hB : Led H ((pa.l, .tbl t.l) :: (Z ++ R0)) := by rw [hR0]; fail "pm"
  clear hL
  refine ⟨t.l, Z, R0, hB, ht.l, fun f1 d1 P1 ps1 pl1 Z1 H hL hT1 hc1 _ _ => ?_⟩
  clear hB
  have hL : Led H (lbO ((LX P w K mg base f (.ref cL) A outer s0 H0 E).env.qual ++ "<lambda>") (LX P w K mg base f (.ref cL) A outer s0 H0 E).env.cells lamB1 f1 d1 :: (pa.l, .tbl pl1) :: (Z1 ++ (Z ++ R0))) := hL
  have hB : Led H ((pa.l, .tbl pl1) :: ((Z1 ++ Z) ++ (lbO ((LX P w K mg base f (.ref cL) A outer s0 H0 E).env.qual ++ "<lambda>") (LX P w K mg base f (.ref cL) A outer s0 H0 E).env.cells lamB1 f1 d1 :: R0))) := by fail "pm"
  clear hL
  refine ⟨pl1, Z1 ++ Z, _, hB, hT1, fun f2 d2 P2 ps2 pl2 Z2 H hL hT2 hc2 _ _ => ?_⟩
  clear hB hT1
  have hL : Led H (lbO ((LX P w K mg base f (.ref cL) A outer s0 H0 E).env.qual ++ "<lambda>") (LX P w K mg base f (.ref cL) A outer s0 H0 E).env.cells lamB2 f2 d2 :: (pa.l, .tbl pl2) :: (Z2 ++ ((Z1 ++ Z) ++ (lbO ((LX P w K mg base f (.ref cL) A outer s0 H0 E).env.qual ++ "<lambda>") (LX P w K mg base f (.ref cL) A outer s0 H0 E).env.cells lamB1 f1 d1 :: R0)))) := hL
  have hB : Led H ((pa.l, .tbl pl2) :: ((Z2 ++ (Z1 ++ Z)) ++ (lbO ((LX P w K mg base f (.ref cL) A outer s0 H0 E).env.qual ++ "<lambda>") (LX P w K mg base f (.ref cL) A outer s0 H0 E).env.cells lamB2 f2 d2 :: lbO ((LX P w K mg base f (.ref cL) A outer s0 H0 E).env.qual ++ "<lambda>") (LX P w K mg base f (.ref cL) A outer s0 H0 E).env.cells lamB1 f1 d1 :: R0))) := by fail "pm"
  clear hL
  refine ⟨pl2, Z2 ++ (Z1 ++ Z), _, hB, hT2, fun f3' d3 P3 ps3 pl3 Z3 H hL hT3 hc3 _ _ => ?_⟩
  clear hB hT2
  have hL : Led H (lbO ((LX P w K mg base f (.ref cL) A outer s0 H0 E).env.qual ++ "<lambda>") (LX P w K mg base f (.ref cL) A outer s0 H0 E).env.cells lamB3 f3' d3 :: (pa.l, .tbl pl3) :: (Z3 ++ ((Z2 ++ (Z1 ++ Z)) ++ (lbO ((LX P w K mg base f (.ref cL) A outer s0 H0 E).env.qual ++ "<lambda>") (LX P w K mg base f (.ref cL) A outer s0 H0 E).env.cells lamB2 f2 d2 :: lbO ((LX P w K mg base f (.ref cL) A outer s0 H0 E).env.qual ++ "<lambda>") (LX P w K mg base f (.ref cL) A outer s0 H0 E).env.cells lamB1 f1 d1 :: R0)))) := hL
  refine ⟨Nat.le_of_ble_eq_true rfl, fun bl hp => ?_⟩
  generalize hH : upd H bl _ = H
  replace hL := Led.newH hL hp hH
  clear hH hp
  obtain ⟨W, hW⟩ : ∃ W : Lg, W = Z3 ++ (Z2 ++ (Z1 ++ Z)) := ⟨_, rfl⟩
  have mc1 : (d1, CodeT d1 ((LX P w K mg base f (.ref cL) A outer s0 H0 E).env.qual ++ "<lambda>") P1) ∈ W := by rw [hW]; exact List.mem_append_right _ (List.mem_append_right _ hc1)
  have mc2 : (d2, CodeT d2 ((LX P w K mg base f (.ref cL) A outer s0 H0 E).env.qual ++ "<lambda>") P2) ∈ W := by rw [hW]; exact List.mem_append_right _ hc2
  have mc3 : (d3, CodeT d3 ((LX P w K mg base f (.ref cL) A outer s0 H0 E).env.qual ++ "<lambda>") P3) ∈ W := by rw [hW]; exact hc3
  have hB : Led H ((bl, .lst [.ref f1, .ref f2, .ref f3']) :: lbO ((LX P w K mg base f (.ref cL) A outer s0 H0 E).env.qual ++ "<lambda>") (LX P w K mg base f (.ref cL) A outer s0 H0 E).env.cells lamB1 f1 d1 :: lbO ((LX P w K mg base f (.ref cL) A outer s0 H0 E).env.qual ++ "<lambda>") (LX P w K mg base f (.ref cL) A outer s0 H0 E).env.cells lamB2 f2 d2 :: lbO ((LX P w K mg base f (.ref cL) A outer s0 H0 E).env.qual ++ "<lambda>") (LX P w K mg base f (.ref cL) A outer s0 H0 E).env.cells lamB3 f3' d3 :: (pa.n, .tbl pn) :: (pa.u, .tbl t.u) :: (pa.i, .tbl t.i) :: (pa.e, .tbl t.e) :: (dkL CD sp sd K1 W2 F1 dk ++ W)) := by rw [hW]; rw [hR0] at hL; fail "pm"
  clear hL hW hR0 hT3 hc1 hc2 hc3
  have hL := hB
  clear hB
  intro fd fdx h1 h2 h3
  generalize hH : upd (upd H fdx _) fd _ = H'
  replace hL := Led.made hL h1 h2 h3 hH
  clear hH h1 h2 h3
  refine ⟨fd, fdx, _, rfl, hL, fun K3 W3 F3 H hL => ⟨rfl, ?_⟩⟩
  refine ⟨Nat.le_of_ble_eq_true rfl, fun fl hp => ?_⟩
  generalize hH : upd H fl _ = H
  replace hL := Led.newH hL hp hH
  clear hH hp
  dsimp only [tNil, List.cons_append, List.nil_append]
  obtain ⟨B, hBq⟩ : ∃ B : Lg, B = (bl, HO.lst [.ref f1, .ref f2, .ref f3']) :: lbO ((LX P w K mg base f (.ref cL) A outer s0 H0 E).env.qual ++ "<lambda>") (LX P w K mg base f (.ref cL) A outer s0 H0 E).env.cells lamB1 f1 d1 :: lbO ((LX P w K mg base f (.ref cL) A outer s0 H0 E).env.qual ++ "<lambda>") (LX P w K mg base f (.ref cL) A outer s0 H0 E).env.cells lamB2 f2 d2 :: lbO ((LX P w K mg base f (.ref cL) A outer s0 H0 E).env.qual ++ "<lambda>") (LX P w K mg base f (.ref cL) A outer s0 H0 E).env.cells lamB3 f3' d3 :: W := ⟨_, rfl⟩
  have mbl : (bl, HO.lst [.ref f1, .ref f2, .ref f3']) ∈ B := by rw [hBq]; exact .head _
  have ml1 : lbO ((LX P w K mg base f (.ref cL) A outer s0 H0 E).env.qual ++ "<lambda>") (LX P w K mg base f (.ref cL) A outer s0 H0 E).env.cells lamB1 f1 d1 ∈ B := by rw [hBq]; exact .tail _ (.head _)
  have ml2 : lbO ((LX P w K mg base f (.ref cL) A outer s0 H0 E).env.qual ++ "<lambda>") (LX P w K mg base f (.ref cL) A outer s0 H0 E).env.cells lamB2 f2 d2 ∈ B := by rw [hBq]; exact .tail _ (.tail _ (.head _))
  have ml3 : lbO ((LX P w K mg base f (.ref cL) A outer s0 H0 E).env.qual ++ "<lambda>") (LX P w K mg base f (.ref cL) A outer s0 H0 E).env.cells lamB3 f3' d3 ∈ B := by rw [hBq]; exact .tail _ (.tail _ (.tail _ (.head _)))
  have mW : ∀ y ∈ W, y ∈ B := fun y h => by rw [hBq]; exact .tail _ (.tail _ (.tail _ (.tail _ h)))
  have hB : Led H ((pa.u, .tbl t.u) :: (pa.i, .tbl t.i) :: (dkL CD fd fdx K3 W3 F3 ⟨[], [], [], 0, none, false⟩ ++ ((fl, .lst [.str "a", .str "b"]) :: (pa.n, .tbl pn) :: (pa.e, .tbl t.e) :: (dkL CD sp sd K1 W2 F1 dk ++ B)))) := by rw [hBq]; fail "pm"
  clear hL hBq
  replace mc1 := mW _ mc1
  replace mc2 := mW _ mc2
  replace mc3 := mW _ mc3
  clear mW
  refine (fun (h : spMkW CW CD CQ pa.u pa.i fd fl H (fun v H2 => gName 17 v [v0, v1, v2, v3, v4, v5, v6, v7, v8, v9, v10, v11, v12, v13, v14, some (.ref sp), some (.ref bl), v17, v18] H2 _) (fun _ _ _ => False)) x dx a b c => mkW h x dx a b c) ?_
  refine ⟨fdx, K3, W3, F3, ⟨[], [], [], 0, none, false⟩, ["a", "b"], [], [], t.u, t.i, _, hB, ht.u, ht.i, .head _, by decide, by simp [framesB], Nat.zero_le _, by simp, Nat.zero_le _, cut_nil, fun hg x2 dx2 T2 R2 rvs2 Z4 pu2 pi2 H tu ti hz hL => ?_, fun hg => absurd hg (by decide +kernel)⟩
  clear hB
  have hrv : rvs2 = [] := by
    have := hz.len
    exact List.length_eq_zero_iff.mp this
  subst hrv
  clear hz
  refine ⟨_, rfl, x2, dx2, _, rfl, hL.at ⟨2, rfl⟩, fz_no (by decide +kernel), ?_⟩
  dsimp only [tNil, List.cons_append, List.nil_append]
  have hpb := rD_pk (wdS_send 0) a_ok
  have hB : Led H ((pa.n, .tbl pn) :: (wfL CW x2 dx2 fd T2 R2 ["a", "b"] [] ++ (dkL CD fd fdx K3 W3 F3 ⟨[], [], [], 0, none, false⟩ ++ ((pa.u, .tbl pu2) :: (pa.i, .tbl pi2) :: (pa.e, .tbl t.e) :: (dkL CD sp sd K1 W2 F1 dk ++ B))))) := by fail "pm"
  clear hL
  refine ⟨x2, dx2, fd, T2, R2, ["a", "b"], [], fdx, K3, W3, F3, ⟨[], [], [], 0, none, false⟩, "begun", "a", pn, _, rfl, hB, htn, hpb.1, by decide, ?_, fun ra K4 W4 dk4 pn4 H htn4 _ _ _ _ hL => ?_, fun hc => absurd ⟨rfl, rfl⟩ hc⟩
  · have := hpb.1.2.2.2
    simp only [List.length_nil]
    have e : (packB (rD (wdS 0, "a"))).length = (packB (rD ("begun", "a"))).length := rfl
    omega
  clear hB
  obtain ⟨L1, hL1⟩ : ∃ L1 : Lg, L1 = (pa.n, HO.tbl pn4) :: (wfL CW x2 dx2 fd T2 R2 ["a", "b"] ([] ++ [.ref ra]) ++ (dkL CD fd fdx K4 W4 F3 dk4 ++ ((ra, .tup [.str "begun", .str "a"]) :: (pa.e, .tbl t.e) :: B))) := ⟨_, rfl⟩
  obtain ⟨L2, hL1q⟩ : ∃ L2 : Lg, L2 = dkL CD sp sd K1 W2 F1 dk ++ L1 := ⟨_, rfl⟩
  have hsB : ∀ y ∈ B, y ∈ L2 := fun y h => by rw [hL1q, hL1]; exact List.mem_append_right _ (.tail _ (List.mem_append_right _ (List.mem_append_right _ (.tail _ (.tail _ h)))))
  have hB : Led H ((pa.u, .tbl pu2) :: (pa.i, .tbl pi2) :: L2) := by rw [hL1q, hL1]; fail "pm"
  clear hL
  refine ⟨_, rfl, ?_⟩
  refine ⟨_, rfl, ⟨_, .of (hB.mem (.tail _ (.tail _ (hsB _ mbl))))⟩, fun Dl hD => lc_list (K := K) (te := fun _ _ _ => False) (g := gName 18) (vs := [18]) (a := bl) (xs := [.ref f1, .ref f2, .ref f3']) (fun i H => Hold (∃ (pu pi : Array Value), TriplesOk pu.toList ∧ TriplesOk pi.toList ∧ Led H ((pa.u, .tbl pu) :: (pa.i, .tbl pi) :: (Dl, .lst []) :: L2))) (.mk ⟨pu2, pi2, tu, ti, (hB.new hD).le (fun a_ => by simp only [cnt_cons]; omega)⟩) (fun i H _ h => ?_) (fun i v H hi h => ?_) (fun H h => ?_)⟩
  · obtain ⟨pu, pi, _, _, hL⟩ := h.out
    exact .of (hL.mem (.tail _ (.tail _ (.tail _ (hsB _ mbl)))))
  · clear hB hD tu ti
    obtain ⟨pu, pi, tu, ti, hL⟩ := h.out
    clear h
    match i, hi with
    | 0, hi =>
      cases hi
      refine ⟨rfl, ?_⟩
      refine ⟨_, rfl, ([], (lbF ((LX P w K mg base f (.ref cL) A outer s0 H0 E).env.qual ++ "<lambda>") (LX P w K mg base f (.ref cL) A outer s0 H0 E).env.cells lamB1 d1, [])), .inl ⟨rfl, rfl, rfl⟩, f1, lamBody lamB1, tlB CQ pa.u pa.i, rfl, hL.mem (.tail _ (.tail _ (.tail _ (hsB _ ml1)))), .ofT (hL.mem (.tail _ (.tail _ (.tail _ (hsB _ mc1))))), lokB1 c_Disk c_Workflow, rfl, rfl, pu, pi, _, hL, tu, ti, fun pu' pi' H' t1 t2 hL => ?_⟩
      refine ⟨true, TQ.em, fun _ => ?_, fun h => (nomatch h)⟩
      refine ⟨rfl, ?_⟩
      rw [show (!decide (V.str ("QueueError" : Str) = V.str ("QueueError" : Str))) = false by simp]
      refine ⟨_, rfl, ?_⟩
      refine .mk ⟨pu', pi', t1, t2, ?_⟩
      fail "pm"
    | 1, hi =>
      cases hi
      refine ⟨rfl, ?_⟩
      refine ⟨_, rfl, ([], (lbF ((LX P w K mg base f (.ref cL) A outer s0 H0 E).env.qual ++ "<lambda>") (LX P w K mg base f (.ref cL) A outer s0 H0 E).env.cells lamB2 d2, [])), .inl ⟨rfl, rfl, rfl⟩, f2, lamBody lamB2, tlB CQ pa.u pa.i, rfl, hL.mem (.tail _ (.tail _ (.tail _ (hsB _ ml2)))), .ofT (hL.mem (.tail _ (.tail _ (.tail _ (hsB _ mc2))))), lokB2 c_Disk c_Workflow, rfl, rfl, pu, pi, _, hL, tu, ti, fun pu' pi' H' t1 t2 hL => ?_⟩
      refine ⟨true, TQ.em, fun _ => ?_, fun h => (nomatch h)⟩
      refine ⟨rfl, ?_⟩
      rw [show (!decide (V.str ("QueueError" : Str) = V.str ("QueueError" : Str))) = false by simp]
      refine ⟨_, rfl, ?_⟩
      refine .mk ⟨pu', pi', t1, t2, ?_⟩
      fail "pm"
    | 2, hi =>
      cases hi
      refine ⟨rfl, ?_⟩
      refine ⟨_, rfl, ((["spoilt"] : List Str), (lbF ((LX P w K mg base f (.ref cL) A outer s0 H0 E).env.qual ++ "<lambda>") (LX P w K mg base f (.ref cL) A outer s0 H0 E).env.cells lamB3 d3, [some (.ref sp)])), .inr ⟨rfl, rfl, rfl⟩, f3', lamBody lamB3, tlB3 CD CQ pa.u pa.i, rfl, hL.mem (.tail _ (.tail _ (.tail _ (hsB _ ml3)))), .ofT (hL.mem (.tail _ (.tail _ (.tail _ (hsB _ mc3))))), lokB3 c_Workflow, rfl, sp, sd, K1, W2, F1, dk, pu, pi, (Dl, .lst []) :: L1, rfl, hkb, by rw [hL1q] at hL; fail "pm", tu, ti, fun pu' pi' H' t1 t2 hL => ?_⟩
      refine ⟨true, TQ.em, fun _ => ?_, fun h => (nomatch h)⟩
      refine ⟨rfl, ?_⟩
      rw [show (!decide (V.str ("QueueError" : Str) = V.str ("QueueError" : Str))) = false by simp]
      refine ⟨_, rfl, ?_⟩
      refine .mk ⟨pu', pi', t1, t2, ?_⟩
      rw [hL1q]
      fail "pm"
  · clear hB hD tu ti
    obtain ⟨pu, pi, tu, ti, hL⟩ := h.out
    clear h
    refine ⟨Nat.zero_le _, fun el hp => ?_⟩
    generalize hH : upd H el _ = H
    replace hL := Led.newH hL hp hH
    clear hH hp
    refine k_eqStrs hL ⟨3, rfl⟩ ⟨0, rfl⟩ (a := []) (b := []) rfl rfl ?_
    rw [show decide (([] : List Str) = []) = true by simp]
    refine ⟨_, rfl, ?_⟩
    refine iteT ?_
    have hB : Led H ((pa.e, .tbl t.e) :: (wfL CW x2 dx2 fd T2 R2 ["a", "b"] [.ref ra] ++ ((ra, .tup [.str "begun", .str "a"]) :: B))) := by rw [hL1q, hL1] at hL; dsimp only [List.nil_append] at hL; fail "pm"
    clear hL
    have hdl : DLs ((ra, HO.tup [.str "begun", .str "a"]) :: B) [.ref ra] ([(("begun", "a") : Rw)].map rD) := .cons (.row (.head _) (.cons (.str _) (.cons (.str _) .nil))) .nil
    refine ⟨_, rfl, x2, dx2, _, rfl, hB.at ⟨1, rfl⟩, fz_no (by decide +kernel), ?_⟩
    dsimp only [tNil, List.cons_append, List.nil_append, List.append_nil]
    refine ⟨x2, dx2, fd, T2, R2, ["a", "b"], [.ref ra], [("begun", "a")], t.e, _, rfl, hB, ht.e, hdl, by decide, by decide, fun te H hte hL => ?_⟩
    clear hB
    rw [show endOf ["a", "b"] [("begun", "a")] = none by decide +kernel]
    refine ⟨rfl, ?_⟩
    rw [show decide (stV none = V.non) = true from rfl]
    refine ⟨_, rfl, ?_⟩
    refine iteT ?_
    have hB : Led H (wfL CW x2 dx2 fd T2 R2 ["a", "b"] [.ref ra] ++ ((ra, .tup [.str "begun", .str "a"]) :: (pa.e, .tbl te) :: B)) := by fail "pm"
    clear hL
    refine ⟨_, rfl, x2, dx2, _, rfl, hB.at ⟨0, rfl⟩, fz_no (by decide +kernel), ?_⟩
    dsimp only [tNil, List.cons_append, List.nil_append, List.append_nil]
    refine ⟨x2, dx2, fd, T2, R2, ["a", "b"], [.ref ra], [("begun", "a")], "b", _, rfl, hB, hdl.mono (fun y h => by rcases List.mem_cons.mp h with rfl | h; exact .head _; exact .tail _ (.tail _ h)), by decide, fun H hL => ?_⟩
    clear hB
    rw [show stOf [("begun", "a")] "b" = none by decide +kernel]
    refine ⟨rfl, ?_⟩
    rw [show decide (stV none = V.non) = true from rfl]
    refine ⟨_, rfl, ?_⟩
    refine iteT ?_
    dsimp only [wfL, wfO, List.cons_append, List.nil_append] at hL
    fail "go"
    have hd1 := DLs.dp (K := K) (v := [.ref ra]) (d := [rD ("begun", "a")]) hL (fun _ h => h) (.cons (.row (.tail _ (.tail _ (.tail _ (.tail _ (.tail _ (.head _)))))) (.cons (.str _) (.cons (.str _) .nil))) .nil)
    have hd2 := DLs.dp (K := K) (d := [rD ("begun", "a")]) hL (fun _ h => h) (.cons (.row (.tail _ (.head _)) (.cons (.str _) (.cons (.str _) .nil))) .nil)
    refine k_eqSame (dp_lst (hL.at ⟨4, rfl⟩) hd1) (dp_lst (hL.at ⟨0, rfl⟩) hd2) (shal_Ds fun dv h => ?_) (k H)
    rw [List.mem_singleton] at h
    rw [h]
    decide +kernel
end
end Sd


set_option linter.unusedVariables false
namespace Sd
open PySem L2 LamX NdefX PyProof.Rows
open C8 (Cal Met Mak pe_c pe_mk pe_mt pe_mt0 pss_cut tCut)
set_option linter.unusedSimpArgs false
set_option pp.deepTerms false
set_option pp.deepTerms.threshold 12
set_option hygiene false
local macro_rules | `(tactic| fail "nd") => `(tactic| first | assumption | decide +kernel)
local macro_rules | `(tactic| fail "ix") => `(tactic| first | exact ⟨0, rfl⟩ | exact ⟨1, rfl⟩ | exact ⟨2, rfl⟩ | exact ⟨3, rfl⟩ | exact ⟨4, rfl⟩ | exact ⟨5, rfl⟩ | exact ⟨6, rfl⟩ | exact ⟨7, rfl⟩ | exact ⟨8, rfl⟩ | exact ⟨9, rfl⟩ | exact ⟨10, rfl⟩ | exact ⟨11, rfl⟩ | exact ⟨12, rfl⟩ | exact ⟨13, rfl⟩ | exact ⟨14, rfl⟩ | exact ⟨15, rfl⟩ | exact ⟨16, rfl⟩ | exact ⟨17, rfl⟩ | exact ⟨18, rfl⟩ | assumption)
local macro_rules | `(tactic| fail "up") => `(tactic| first | exact ⟨0, rfl, rfl⟩ | exact ⟨1, rfl, rfl⟩ | exact ⟨2, rfl, rfl⟩ | exact ⟨3, rfl, rfl⟩ | exact ⟨4, rfl, rfl⟩ | exact ⟨5, rfl, rfl⟩ | exact ⟨6, rfl, rfl⟩ | exact ⟨7, rfl, rfl⟩ | exact ⟨8, rfl, rfl⟩ | exact ⟨9, rfl, rfl⟩ | exact ⟨10, rfl, rfl⟩ | exact ⟨11, rfl, rfl⟩ | exact ⟨12, rfl, rfl⟩ | exact ⟨13, rfl, rfl⟩ | exact ⟨14, rfl, rfl⟩ | exact ⟨15, rfl, rfl⟩ | exact ⟨16, rfl, rfl⟩ | assumption)
local macro_rules | `(tactic| fail "lkF") => `(tactic| first | assumption | exact fz_at 0 (by fail "nd") rfl rfl | exact fz_at 1 (by fail "nd") rfl rfl | exact fz_at 2 (by fail "nd") rfl rfl | exact fz_at 3 (by fail "nd") rfl rfl | exact fz_at 4 (by fail "nd") rfl rfl | exact fz_at 5 (by fail "nd") rfl rfl | exact fz_at 6 (by fail "nd") rfl rfl | exact fz_at 7 (by fail "nd") rfl rfl)
local macro_rules | `(tactic| fail "lkD") => `(tactic| first | assumption | exact dz_at 0 (by fail "nd") rfl rfl | exact dz_at 1 (by fail "nd") rfl rfl | exact dz_at 2 (by fail "nd") rfl rfl | exact dz_at 3 (by fail "nd") rfl rfl | exact dz_at 4 (by fail "nd") rfl rfl)
local macro_rules | `(tactic| fail "ptF") => `(tactic| first | assumption | exact fz_put 0 (by fail "nd") rfl (Nat.le_of_ble_eq_true rfl) | exact fz_put 1 (by fail "nd") rfl (Nat.le_of_ble_eq_true rfl) | exact fz_put 2 (by fail "nd") rfl (Nat.le_of_ble_eq_true rfl) | exact fz_put 3 (by fail "nd") rfl (Nat.le_of_ble_eq_true rfl) | exact fz_put 4 (by fail "nd") rfl (Nat.le_of_ble_eq_true rfl) | exact fz_put 5 (by fail "nd") rfl (Nat.le_of_ble_eq_true rfl) | exact fz_put 6 (by fail "nd") rfl (Nat.le_of_ble_eq_true rfl) | exact fz_put 7 (by fail "nd") rfl (Nat.le_of_ble_eq_true rfl) | exact fz_new (by decide +kernel) rfl)
local macro_rules | `(tactic| fail "ptD") => `(tactic| first | assumption | exact dz_put 0 (by fail "nd") rfl (Nat.le_of_ble_eq_true rfl) | exact dz_put 1 (by fail "nd") rfl (Nat.le_of_ble_eq_true rfl) | exact dz_put 2 (by fail "nd") rfl (Nat.le_of_ble_eq_true rfl) | exact dz_put 3 (by fail "nd") rfl (Nat.le_of_ble_eq_true rfl) | exact dz_put 4 (by fail "nd") rfl (Nat.le_of_ble_eq_true rfl))
local macro_rules | `(tactic| fail "sz") => `(tactic| first | assumption | exact (Nat.le_of_ble_eq_true rfl) | omega | decide)
local macro_rules | `(tactic| fail "sd") => `(tactic| first | rfl | assumption | decide | omega | (dsimp only; first | decide | omega) | exact .inr ⟨by decide, by decide⟩ | exact .inl ⟨by decide, by decide⟩ | exact ⟨by omega, by omega⟩ | exact .inl ⟨by omega, by omega⟩ | exact .inr ⟨by omega, by omega⟩ | exact ⟨by omega, by omega, by omega⟩)
local macro_rules | `(tactic| fail "cl") => `(tactic| (clear hH; dsimp only [List.set, List.cons_append, List.nil_append, List.append] at hL))
local macro_rules | `(tactic| fail "gn") => `(tactic| (intro p hp; generalize hH : upd H p _ = H; replace hL := Led.newH hL hp hH; clear hH hp))
local macro_rules | `(tactic| fail "gup") => `(tactic| (generalize hH : upd H _ _ = H; replace hL := Led.upU hL (by fail "up") hH; fail "cl"))
local macro_rules | `(tactic| fail "gmk") => `(tactic| (intro x dx hx hd ne; generalize hH : upd (upd H dx _) x _ = H; replace hL := Led.made hL hx hd ne hH; clear hH hx hd ne))
local macro_rules | `(tactic| fail "v") => `(tactic| refine ⟨_, rfl, ?_⟩)
local macro_rules | `(tactic| fail "i2") => `(tactic| refine ⟨_, _, rfl, rfl, ?_⟩)
local macro_rules | `(tactic| fail "go1") => `(tactic| first
  | refine ⟨_, rfl, ?_⟩
  | refine ⟨_, _, rfl, rfl, ?_⟩
  | refine ⟨_, _, rfl, ?_⟩
  | refine iteT ?_
  | refine iteF ?_
  | refine k_fld hL (by fail "ix") (by assumption) (by assumption) (by fail "lkF") ?_
  | refine k_dgetS hL (by fail "ix") (by fail "lkD") ?_
  | refine k_dgetI hL (by fail "ix") (by assumption) ?_
  | refine k_ixL hL (by fail "ix") (by first | rfl | assumption) ?_
  | refine k_ixT hL (by fail "ix") (by first | rfl | assumption) ?_
  | refine k_tyL hL (by fail "ix") ?_
  | refine k_isd hL (by fail "ix") ?_
  | (refine And.intro (by fail "sz") ?_; fail "gn")
  | refine And.intro (by fail "sd") ?_
  | fail "gn"
  | refine k_meth hL (by fail "ix") (by first | assumption | exact fz_no (by decide +kernel)) ?_
  | refine k_gtup hL (by fail "ix") rfl ?_
  | (refine k_popI hL (by fail "ix") (by assumption) ?_; fail "gup")
  | (refine k_listD hL (by fail "ix") ?_; fail "gn")
  | (refine ⟨_, _, _, _, rfl, rfl, hL.at (by fail "ix"), rfl, ?_⟩; fail "gup")
  | (refine ⟨_, _, _, rfl, rfl, hL.at (by fail "ix"), (by fail "sz"), ?_⟩; fail "gup")
  | (refine ⟨_, _, _, _, rfl, hL.at (by fail "ix"), by assumption, by assumption, Nat.lt_of_le_of_lt fz_len (by decide), ?_⟩; generalize hH : upd H _ _ = H; replace hL := Led.upF hL (by fail "up") (by fail "ptF") hH; fail "cl")
  | (refine ⟨_, _, hL.at (by fail "ix"), Nat.lt_of_le_of_lt fz_len (by decide), ?_⟩; generalize hH : upd H _ _ = H; replace hL := Led.upF hL (by fail "up") (by fail "ptF") hH; fail "cl")
  | (refine k_dputS hL (by fail "ix") (Nat.lt_of_le_of_lt dz_len (by decide)) (by fail "ptD") (by fail "up") ?_; clear hL; intro H hL; dsimp only [List.set, List.cons_append, List.nil_append, List.append] at hL)
  | refine k_lenL2 hL (by fail "ix") ?_
  | refine k_lenT2 hL (by fail "ix") ?_
  | refine .inl ⟨_, rfl, ?_⟩
  | refine .inr ⟨_, rfl, ?_⟩)
local macro_rules | `(tactic| fail "go") => `(tactic| repeat fail "go1")
local macro_rules | `(tactic| fail "pm") => `(tactic| (refine Led.le hL (fun a_ => ?_); simp only [cnt_nil, cnt_cons, cnt_app, List.map_append, List.map_cons, List.map_nil, List.flatMap_append, List.flatMap_cons, List.flatMap_nil, List.append_assoc, List.cons_append, List.nil_append]; omega))

theorem pss_ex {X : Cx} {st : List Stmt} {ι : Type} {t : ι → TS} (h : ∀ i, PSs X st (t i)) : PSs X st (fun D σ H => ∃ i, t i D σ H) := ⟨fun pins s σ H D I ⟨i, q⟩ => (h i).run pins s σ H D I q⟩
def spLaw (K : PySem.W.Frag) (PL PN PU PI PE PG : Addr) : Sp := fun vs H Q _ => ∃ (a : Addr) (ns : List Int), vs = [.ref a] ∧ SqL K H a (ns.map V.int) ∧ ns.length ≤ 63 ∧ Led H [(PL, .tbl #[]), (PN, .tbl #[]), (PU, .tbl #[]), (PI, .tbl #[]), (PE, .tbl #[]), (PG, .tbl #[])] ∧ ∀ H', Q (.bl true) H'
section
variable {P : Program} {w : World} {K : PySem.W.Frag} {mg : Str → Option Value} {base : Heap} {PN PU PI PE PG PL : Addr} {f cL : Addr} {A : Around} {outer : List Env} {s0 : Shared} {H0 : Hp} {E : XK} {q q2 : Str}
theorem law_body (hr : Room 22 (LX P w K mg base f (.ref cL) A outer s0 H0 E).A) (c__law_rounds : Cal P w K mg base 2 "_law_rounds" (spRounds K) [])
    (h_dice : ∀ rd : Addr × Addr, PSs (LX P w K mg base f (.ref cL) A outer s0 H0 E) diceB (tDice ⟨PN, PU, PI, PE, PG, PL, rd.1, rd.2⟩ q q2)) (h_tail : ∀ rd : Addr × Addr, PSs (LX P w K mg base f (.ref cL) A outer s0 H0 E) tailB (tTail ⟨PN, PU, PI, PE, PG, PL, rd.1, rd.2⟩ q q2))
    {vs : List V} {H : Hp} {Q : VK} (h : spLaw K PL PN PU PI PE PG vs H Q E) : ∃ t, PSs (LX P w K mg base f (.ref cL) A outer s0 H0 E) (defBody sLaw) t ∧ t { nx := fun _ H' => Q .non H', rt := Q } (L2.start NLw vs) H := by
  obtain ⟨a, ns0, rfl, hS, hlen, hL, k⟩ := h
  have hd := pss_ex h_dice
  have ht := pss_ex h_tail
  refine ⟨_, (show PSs _ (defBody sLaw) _ from pss_cons (ps_for PassesOwn.never rfl (pi_list (pe_c c__law_rounds hr (by decide) (by rfl) (pa_cons (pv 0) (pa_cons pe_int pa_nil)))) (pg_name (i := 1) scLaw.nd rfl (Or.inl rfl))
  hd) ht), ?_⟩
  fail "go"
  refine ⟨a, ns0, _, rfl, hS, hL, fun pr d x1 y1 z1 H hL => ?_⟩
  fail "go"
  refine ⟨⟨_, .of (hL.at ⟨0, rfl⟩)⟩, for_listA (K := K) (g := gName 1) (tb := fun D σ H => ∃ rd : Addr × Addr, tDice ⟨PN, PU, PI, PE, PG, PL, rd.1, rd.2⟩ q q2 D σ H) (a := pr) (xs := [.ref d]) (fun i σ H => Hold ((i = 0 ∧ σ = L2.start NLw [.ref a] ∧ Led H ((pr, .lst [.ref d]) :: (d, dD x1 y1 z1) :: [(PL, .tbl #[]), (PN, .tbl #[]), (PU, .tbl #[]), (PI, .tbl #[]), (PE, .tbl #[]), (PG, .tbl #[])])) ∨
    (i = 1 ∧ σ.length = 19 ∧ ∃ (t : Tbs) (Z : Lg), TbsOk q q2 t Z ∧ Led H (lwT ⟨PN, PU, PI, PE, PG, PL, pr, d⟩ t ++ Z)))) ?_ ?_ ?_ ?_⟩
  · exact .mk (.inl ⟨rfl, rfl, hL⟩)
  · intro i σ H _ h
    rcases h.out with ⟨_, _, hL⟩ | ⟨_, _, t, Z, _, hL⟩
    · exact .of (hL.at ⟨0, rfl⟩)
    · exact .of (hL.at ⟨6, rfl⟩)
  · clear hL
    intro i y0 σ H D' hy h hD'
    rcases h.out with ⟨rfl, rfl, hL⟩ | ⟨rfl, _⟩
    · obtain rfl : V.ref d = y0 := Option.some.inj hy
      clear h hy
      refine (show gName 1 (.ref d) _ _ _ from ?_)
      have t0 : TriplesOk (#[] : Array Value).toList := by simp [TriplesOk]
      refine ⟨(pr, d), x1, y1, z1, ⟨#[], #[], #[], #[], #[], #[]⟩, [], rfl, rfl, ⟨t0, t0, t0, t0, t0, .nil⟩, by unfold lwT rlO; dsimp only; fail "pm", fun t' Z' σ' H' hl' ht' hL' => hD'.nx _ _ (.mk (.inr ⟨rfl, hl', t', Z', ht', hL'⟩))⟩
    · cases hy
  · intro σ H h
    rcases h.out with ⟨q, _⟩ | ⟨_, hl, t, Z, ht', hL⟩
    · cases q
    · exact ⟨(pr, d), t, Z, hl, ht', hL, k⟩
end
/-- the tuple of the words, in the program's own objects -/
def strAt (v : Value) (s : Str) : Bool := match v with
  | .str z _ => decide (z = s)
  | _ => false
theorem strAt_ok {v : Value} {s : Str} (h : strAt v s = true) : L2.RelV (.str s) v := by
  unfold strAt at h
  split at h
  · rename_i z t
    rw [decide_eq_true_eq] at h
    subst h
    exact ⟨t, rfl⟩
  · cases h
def wordsB (K : PySem.W.Frag) (a : Addr) : Bool := match K.lookup a with
  | some o => decide (o.cls = .type "tuple") && (match o.data with
    | .seq its _ => (match its.toList with
      | [x, y, z, u] => strAt x "begun" && (strAt y "done" && (strAt z "failed" && strAt u "undone"))
      | _ => false)
    | _ => false)
  | none => false
theorem words_ok {K : PySem.W.Frag} {a : Addr} (h : wordsB K a = true) (H : Hp) : SqT K H a (W4.map V.str) := by
  unfold wordsB at h
  split at h
  · rename_i o ho
    rw [Bool.and_eq_true, decide_eq_true_eq] at h
    obtain ⟨hc, h⟩ := h
    split at h
    · rename_i its n hd
      split at h
      · rename_i x y z u hl
        rw [Bool.and_eq_true, Bool.and_eq_true, Bool.and_eq_true] at h
        obtain ⟨h1, h2, h3, h4⟩ := h
        refine .inr ⟨o, its, n, ho, hc, hd, ?_, ?_⟩
        · have : its.size = 4 := by rw [← Array.length_toList, hl]; rfl
          rw [this]; decide
        · rw [hl]
          exact .cons (strAt_ok h1) (.cons (strAt_ok h2) (.cons (strAt_ok h3) (.cons (strAt_ok h4) .nil)))
      · cases h
    · cases h
  · cases h
theorem scTold : FnScope ["what"] ["what"] (defScope sTold) := ⟨rfl, rfl, rfl, by decide +kernel, rfl, by decide +kernel, by decide +kernel⟩
theorem led6 {H : Hp} {a b c d e f : Addr} {o1 o2 o3 o4 o5 o6 : HO} (h1 : H a = some o1) (h2 : H b = some o2) (h3 : H c = some o3) (h4 : H d = some o4) (h5 : H e = some o5) (h6 : H f = some o6) (n1 : a ≠ b) (n2 : a ≠ c) (n3 : a ≠ d) (n4 : a ≠ e) (n5 : a ≠ f) (n6 : b ≠ c) (n7 : b ≠ d) (n8 : b ≠ e) (n9 : b ≠ f) (m1 : c ≠ d) (m2 : c ≠ e) (m3 : c ≠ f) (m4 : d ≠ e) (m5 : d ≠ f) (m6 : e ≠ f) :
    Led H [(a, o1), (b, o2), (c, o3), (d, o4), (e, o5), (f, o6)] := by
  refine ⟨fun x hx => ?_, ?_⟩
  · simp only [List.mem_cons, List.not_mem_nil, or_false] at hx
    rcases hx with rfl | rfl | rfl | rfl | rfl | rfl <;> assumption
  · simp [n1, n2, n3, n4, n5, n6, n7, n8, n9, m1, m2, m3, m4, m5, m6]
end Sd


set_option linter.unusedVariables false
namespace Sd
open PySem PySem.Spec PyProof.Rows L2
open C8 (Cal Met Mak)
/-! ### the head -/
def dfs1 : He.DefD := ⟨("Disk", some "__init__"), "__init__", "Disk.__init__", defArgs sDInit, defBody sDInit, defScope sDInit, [], []⟩
def dfs2 : He.DefD := ⟨("Disk", some "arm"), "arm", "Disk.arm", defArgs sArm, defBody sArm, defScope sArm, [], []⟩
def dfs3 : He.DefD := ⟨("Disk", some "need_up"), "need_up", "Disk.need_up", defArgs sNeed, defBody sNeed, defScope sNeed, [], []⟩
def dfs4 : He.DefD := ⟨("Disk", some "append"), "append", "Disk.append", defArgs sDApp, defBody sDApp, defScope sDApp, [], []⟩
def dfs5 : He.DefD := ⟨("Disk", some "sync"), "sync", "Disk.sync", defArgs sSync, defBody sSync, defScope sSync, [], []⟩
def dfs6 : He.DefD := ⟨("Disk", some "records"), "records", "Disk.records", defArgs sRecs, defBody sRecs, defScope sRecs, [], []⟩
def dfs7 : He.DefD := ⟨("Disk", some "replace"), "replace", "Disk.replace", defArgs sRepl, defBody sRepl, defScope sRepl, [], []⟩
def dfs8 : He.DefD := ⟨("Disk", some "read_file"), "read_file", "Disk.read_file", defArgs sRFile, defBody sRFile, defScope sRFile, [], []⟩
def dfs9 : He.DefD := ⟨("Disk", some "crash"), "crash", "Disk.crash", defArgs sCrash, defBody sCrash, defScope sCrash, [], []⟩
def dfs10 : He.DefD := ⟨("Disk", some "restart"), "restart", "Disk.restart", defArgs sRest, defBody sRest, defScope sRest, [], []⟩
def dfs11 : He.DefD := ⟨("Unpacker", some "__init__"), "__init__", "Unpacker.__init__", defArgs sUInit, defBody sUInit, defScope sUInit, [], []⟩
def dfs12 : He.DefD := ⟨("Unpacker", some "byte"), "byte", "Unpacker.byte", defArgs sUByte, defBody sUByte, defScope sUByte, [], []⟩
def dfs13 : He.DefD := ⟨("Unpacker", some "read_natural"), "read_natural", "Unpacker.read_natural", defArgs sUNat, defBody sUNat, defScope sUNat, [], []⟩
def dfs14 : He.DefD := ⟨("Unpacker", some "read_value"), "read_value", "Unpacker.read_value", defArgs sUVal, defBody sUVal, defScope sUVal, [], []⟩
def dfs15 : He.DefD := ⟨("Unpacker", some "text"), "text", "Unpacker.text", defArgs sUText, defBody sUText, defScope sUText, [], []⟩
def dfs16 : He.DefD := ⟨("Workflow", some "__init__"), "__init__", "Workflow.__init__", defArgs sWInit, defBody sWInit, defScope sWInit, [], []⟩
def dfs17 : He.DefD := ⟨("Workflow", some "note"), "note", "Workflow.note", defArgs sNote, defBody sNote, defScope sNote, [], []⟩
def dfs18 : He.DefD := ⟨("Workflow", some "state_of"), "state_of", "Workflow.state_of", defArgs sSof, defBody sSof, defScope sSof, [], []⟩
def dfs19 : He.DefD := ⟨("Workflow", some "end"), "end", "Workflow.end", defArgs sEnd, defBody sEnd, defScope sEnd, [], []⟩
def dfs20 : He.DefD := ⟨("Workflow", some "go"), "go", "Workflow.go", defArgs sGo, defBody sGo, defScope sGo, [], []⟩
def dfs21 : He.DefD := ⟨("Workflow", some "do"), "do", "Workflow.do", defArgs sDo, defBody sDo, defScope sDo, [], []⟩
def dfs22 : He.DefD := ⟨("natural", none), "natural", "natural", defArgs sNatural, defBody sNatural, defScope sNatural, [], []⟩
def dfs23 : He.DefD := ⟨("pack", none), "pack", "pack", defArgs sPack, defBody sPack, defScope sPack, [.int 0], []⟩
def dfs24 : He.DefD := ⟨("sign_number", none), "sign_number", "sign_number", defArgs sSignN, defBody sSignN, defScope sSignN, [], []⟩
def dfs25 : He.DefD := ⟨("sum_of_bytes", none), "sum_of_bytes", "sum_of_bytes", defArgs sSumB, defBody sSumB, defScope sSumB, [], []⟩
def dfs26 : He.DefD := ⟨("four", none), "four", "four", defArgs sFour, defBody sFour, defScope sFour, [], []⟩
def dfs27 : He.DefD := ⟨("frame", none), "frame", "frame", defArgs sFrame, defBody sFrame, defScope sFrame, [], []⟩
def dfs28 : He.DefD := ⟨("unpack", none), "unpack", "unpack", defArgs sUnpack, defBody sUnpack, defScope sUnpack, [], []⟩
def dfs29 : He.DefD := ⟨("read_frames", none), "read_frames", "read_frames", defArgs sReadF, defBody sReadF, defScope sReadF, [], []⟩
def dfs30 : He.DefD := ⟨("_law_dice", none), "_law_dice", "_law_dice", defArgs sDice, defBody sDice, defScope sDice, [], []⟩
def dfs31 : He.DefD := ⟨("_law_roll", none), "_law_roll", "_law_roll", defArgs sRoll, defBody sRoll, defScope sRoll, [], []⟩
def dfs32 : He.DefD := ⟨("_law_rounds", none), "_law_rounds", "_law_rounds", defArgs sRounds, defBody sRounds, defScope sRounds, [], []⟩
def dfs33 : He.DefD := ⟨("_law_told", none), "_law_told", "_law_told", defArgs sTold, defBody sTold, defScope sTold, [], []⟩
def dfs34 : He.DefD := ⟨("_law_do", none), "_law_do", "_law_do", defArgs sLDo, defBody sLDo, defScope sLDo, [], []⟩
def dfs35 : He.DefD := ⟨("_law_undo", none), "_law_undo", "_law_undo", defArgs sLUndo, defBody sLUndo, defScope sLUndo, [], []⟩
def dfs36 : He.DefD := ⟨("law", none), "law", "law", defArgs sLaw, defBody sLaw, defScope sLaw, [], []⟩
def hfn : List He.DefD := [dfs1, dfs2, dfs3, dfs4, dfs5, dfs6, dfs7, dfs8, dfs9, dfs10, dfs11, dfs12, dfs13, dfs14, dfs15, dfs16, dfs17, dfs18, dfs19, dfs20, dfs21, dfs22, dfs23, dfs24, dfs25, dfs26, dfs27, dfs28, dfs29, dfs30, dfs31, dfs32, dfs33, dfs34, dfs35, dfs36]
def hfa : List He.Fa := [
  .glo "Disk",
  .cls "Disk",
  .noat "Disk" "kept",
  .noat "Disk" "waiting",
  .noat "Disk" "files",
  .noat "Disk" "syncs",
  .noat "Disk" "fuse",
  .noat "Disk" "down",
  .mkr "Disk",
  .meth "Disk" "arm",
  .meth "Disk" "need_up",
  .meth "Disk" "append",
  .meth "Disk" "sync",
  .meth "Disk" "records",
  .meth "Disk" "replace",
  .meth "Disk" "read_file",
  .meth "Disk" "crash",
  .meth "Disk" "restart",
  .glo "Unpacker",
  .cls "Unpacker",
  .noat "Unpacker" "data",
  .noat "Unpacker" "place",
  .noat "Unpacker" "nesting",
  .mkr "Unpacker",
  .meth "Unpacker" "byte",
  .meth "Unpacker" "read_natural",
  .meth "Unpacker" "read_value",
  .meth "Unpacker" "text",
  .glo "Workflow",
  .cls "Workflow",
  .noat "Workflow" "disk",
  .noat "Workflow" "steps",
  .noat "Workflow" "rows",
  .mkr "Workflow",
  .meth "Workflow" "note",
  .meth "Workflow" "state_of",
  .meth "Workflow" "end",
  .meth "Workflow" "go",
  .meth "Workflow" "do",
  .glo "natural",
  .glo "pack",
  .glo "sign_number",
  .glo "sum_of_bytes",
  .glo "four",
  .glo "frame",
  .glo "unpack",
  .glo "read_frames",
  .glo "_law_dice",
  .glo "_law_roll",
  .glo "_law_rounds",
  .glo "_law_told",
  .glo "_law_do",
  .glo "_law_undo",
  .glo "law",
  .glo "QueueError",
  .exc "QueueError",
  .glo "StoreError",
  .exc "StoreError",
  .free "tuple",
  .free "len",
  .free "range",
  .free "isinstance",
  .free "int",
  .free "str",
  .free "abs",
  .free "list",
  .free "any",
  .free "all",
  .int "NONE" 1,
  .int "TRUE" 2,
  .int "FALSE" 3,
  .int "NUMBER" 4,
  .int "BELOW" 5,
  .int "TEXT" 6,
  .int "ROW" 7,
  .int "MOST_DEEP" 30,
  .str "SIGNS" SIGNS]
def htf : List He.Defn := [("law", none), ("pack", none), ("Unpacker", some "read_value"), ("Workflow", some "__init__"), ("Workflow", some "end"), ("Workflow", some "go")]
def hex (K : PySem.W.Frag) : Bool := (PySem.W.isClsIn K (He.ga K "QueueError") && (decide (PySem.W.subIn K (.ref (He.ga K "QueueError")) (.ref (He.ga K "QueueError")) = some true) && (PySem.W.isClsIn K (He.ga K "StoreError") && (decide (PySem.W.subIn K (.ref (He.ga K "StoreError")) (.ref (He.ga K "StoreError")) = some true) && (decide ((He.cT K ("law", none)).2 ≠ (He.cT K ("pack", none)).2) && (decide ((He.cT K ("law", none)).2 ≠ (He.cT K ("Unpacker", some "read_value")).2) && (decide ((He.cT K ("law", none)).2 ≠ (He.cT K ("Workflow", some "__init__")).2) && (decide ((He.cT K ("law", none)).2 ≠ (He.cT K ("Workflow", some "end")).2) && (decide ((He.cT K ("law", none)).2 ≠ (He.cT K ("Workflow", some "go")).2) && (decide ((He.cT K ("pack", none)).2 ≠ (He.cT K ("Unpacker", some "read_value")).2) && (decide ((He.cT K ("pack", none)).2 ≠ (He.cT K ("Workflow", some "__init__")).2) && (decide ((He.cT K ("pack", none)).2 ≠ (He.cT K ("Workflow", some "end")).2) && (decide ((He.cT K ("pack", none)).2 ≠ (He.cT K ("Workflow", some "go")).2) && (decide ((He.cT K ("Unpacker", some "read_value")).2 ≠ (He.cT K ("Workflow", some "__init__")).2) && (decide ((He.cT K ("Unpacker", some "read_value")).2 ≠ (He.cT K ("Workflow", some "end")).2) && (decide ((He.cT K ("Unpacker", some "read_value")).2 ≠ (He.cT K ("Workflow", some "go")).2) && (decide ((He.cT K ("Workflow", some "__init__")).2 ≠ (He.cT K ("Workflow", some "end")).2) && (decide ((He.cT K ("Workflow", some "__init__")).2 ≠ (He.cT K ("Workflow", some "go")).2) && (decide ((He.cT K ("Workflow", some "end")).2 ≠ (He.cT K ("Workflow", some "go")).2) && (decide (PySem.W.mroIn K (He.ga K "Workflow") (.type "object") = some true) && (decide (PySem.W.findIn K (.ref (He.ga K "Workflow")) "__eq__" = some (some (.builtin "object.__eq__"))) && (decide (PySem.W.subIn K (.ref (He.ga K "Workflow")) (.type "str") = some false) && (decide (PySem.W.exmOne K (.ref (He.ga K "StoreError")) (.ref (He.ga K "QueueError")) = some false) && (wordsB K (He.ga K "WORDS") && (decide (PySem.W.nsIn K mainGlobals "WORDS" = some (some (.ref (He.ga K "WORDS")))) && true)))))))))))))))))))))))))
abbrev HR : PySem.W.OpenRow := PySem.W.OpenLaw.row PySem.Challenge.rw_shardstack_k24_steps_that_are_all_done_o
abbrev hk : PySem.W.Hook := He.hookX 7 hfa hfn [] htf hex
def hob (s : PySem.W.SharedT) : He.AlX := He.obsX 7 hfa hfn [] htf hex (HandSHeadRun.getT s)
theorem hob_eq (s : PySem.W.SharedT) : hob s = hk.obs s.abs := He.obsX_eq (HandSHeadRun.getT_eq s)
def hloose : List Str := ((["_wall", "ShardError", "WireError", "StoreError", "QueueError", "WORDS", "Workflow", "NONE", "TRUE", "FALSE", "NUMBER", "BELOW", "TEXT", "ROW", "MOST_DEEP", "SIGNS", "natural", "pack", "sign_number", "Unpacker", "unpack", "sum_of_bytes", "four", "frame", "read_frames", "Disk", "_law_dice", "_law_roll", "_law_rounds", "_law_told"] : List Str) ++ (["_law_do", "_law_undo"] : List Str))
theorem hrun (w : World) : HandSHeadRun.RunEq HR (PySem.W.view HR.prog [37]) hk hob 8000 hloose w := by
  intro os
  kernel_rfl
theorem exB {K : PySem.W.Frag} (h : hex K = true) : (PySem.W.isClsIn K (He.ga K "QueueError") = true) ∧ ((PySem.W.subIn K (.ref (He.ga K "QueueError")) (.ref (He.ga K "QueueError")) = some true)) ∧ (PySem.W.isClsIn K (He.ga K "StoreError") = true) ∧ ((PySem.W.subIn K (.ref (He.ga K "StoreError")) (.ref (He.ga K "StoreError")) = some true)) ∧ (((He.cT K ("law", none)).2 ≠ (He.cT K ("pack", none)).2)) ∧ (((He.cT K ("law", none)).2 ≠ (He.cT K ("Unpacker", some "read_value")).2)) ∧ (((He.cT K ("law", none)).2 ≠ (He.cT K ("Workflow", some "__init__")).2)) ∧ (((He.cT K ("law", none)).2 ≠ (He.cT K ("Workflow", some "end")).2)) ∧ (((He.cT K ("law", none)).2 ≠ (He.cT K ("Workflow", some "go")).2)) ∧ (((He.cT K ("pack", none)).2 ≠ (He.cT K ("Unpacker", some "read_value")).2)) ∧ (((He.cT K ("pack", none)).2 ≠ (He.cT K ("Workflow", some "__init__")).2)) ∧ (((He.cT K ("pack", none)).2 ≠ (He.cT K ("Workflow", some "end")).2)) ∧ (((He.cT K ("pack", none)).2 ≠ (He.cT K ("Workflow", some "go")).2)) ∧ (((He.cT K ("Unpacker", some "read_value")).2 ≠ (He.cT K ("Workflow", some "__init__")).2)) ∧ (((He.cT K ("Unpacker", some "read_value")).2 ≠ (He.cT K ("Workflow", some "end")).2)) ∧ (((He.cT K ("Unpacker", some "read_value")).2 ≠ (He.cT K ("Workflow", some "go")).2)) ∧ (((He.cT K ("Workflow", some "__init__")).2 ≠ (He.cT K ("Workflow", some "end")).2)) ∧ (((He.cT K ("Workflow", some "__init__")).2 ≠ (He.cT K ("Workflow", some "go")).2)) ∧ (((He.cT K ("Workflow", some "end")).2 ≠ (He.cT K ("Workflow", some "go")).2)) ∧ ((PySem.W.mroIn K (He.ga K "Workflow") (.type "object") = some true)) ∧ ((PySem.W.findIn K (.ref (He.ga K "Workflow")) "__eq__" = some (some (.builtin "object.__eq__")))) ∧ ((PySem.W.subIn K (.ref (He.ga K "Workflow")) (.type "str") = some false)) ∧ ((PySem.W.exmOne K (.ref (He.ga K "StoreError")) (.ref (He.ga K "QueueError")) = some false)) ∧ (wordsB K (He.ga K "WORDS") = true) ∧ ((PySem.W.nsIn K mainGlobals "WORDS" = some (some (.ref (He.ga K "WORDS"))))) ∧ True := by
  unfold hex at h
  simp only [Bool.and_eq_true, decide_eq_true_eq] at h
  simpa [and_assoc] using h
theorem all_mk {l : PySem.W.OpenLaw} {w : World} {K : PySem.W.Frag} {h : Heap} {mg : Str → Option Value} {fa : Addr} (X : K.In h) (G : h.Ns mainGlobals mg) (hfa0 : mg "law" = some (.ref fa)) (c : He.SaysX hfa hfn [] htf hex w h K) : LamX.LawAtS l w K CX0 23 63 "script" mg fa h := by
  have exs := exB c.more
  have gl36 : mg "law" = some (.ref (He.fAd K ("law", none))) := He.glo_ok X G (c.t.d.fact 53 (f := .glo "law") rfl)
  have gl_Disk : mg "Disk" = some (.ref (He.ga K "Disk")) := He.glo_ok X G (c.t.d.fact 0 (f := .glo "Disk") rfl)
  have cl_Disk : Cls K (He.ga K "Disk") := He.cls_ok (c.t.d.fact 1 (f := .cls "Disk") rfl)
  have no_Disk_kept : NoAttr K (He.ga K "Disk") "kept" := He.noat_ok (c.t.d.fact 2 (f := .noat "Disk" "kept") rfl)
  have no_Disk_waiting : NoAttr K (He.ga K "Disk") "waiting" := He.noat_ok (c.t.d.fact 3 (f := .noat "Disk" "waiting") rfl)
  have no_Disk_files : NoAttr K (He.ga K "Disk") "files" := He.noat_ok (c.t.d.fact 4 (f := .noat "Disk" "files") rfl)
  have no_Disk_syncs : NoAttr K (He.ga K "Disk") "syncs" := He.noat_ok (c.t.d.fact 5 (f := .noat "Disk" "syncs") rfl)
  have no_Disk_fuse : NoAttr K (He.ga K "Disk") "fuse" := He.noat_ok (c.t.d.fact 6 (f := .noat "Disk" "fuse") rfl)
  have no_Disk_down : NoAttr K (He.ga K "Disk") "down" := He.noat_ok (c.t.d.fact 7 (f := .noat "Disk" "down") rfl)
  have mk_Disk : Mk K (He.ga K "Disk") (He.fAd K ("Disk", some "__init__")) := He.mkr_ok (c.t.d.fact 8 (f := .mkr "Disk") rfl)
  have me2 : Meth K (He.ga K "Disk") "arm" (He.fAd K ("Disk", some "arm")) := He.meth_ok (c.t.d.fact 9 (f := .meth "Disk" "arm") rfl)
  have me3 : Meth K (He.ga K "Disk") "need_up" (He.fAd K ("Disk", some "need_up")) := He.meth_ok (c.t.d.fact 10 (f := .meth "Disk" "need_up") rfl)
  have me4 : Meth K (He.ga K "Disk") "append" (He.fAd K ("Disk", some "append")) := He.meth_ok (c.t.d.fact 11 (f := .meth "Disk" "append") rfl)
  have me5 : Meth K (He.ga K "Disk") "sync" (He.fAd K ("Disk", some "sync")) := He.meth_ok (c.t.d.fact 12 (f := .meth "Disk" "sync") rfl)
  have me6 : Meth K (He.ga K "Disk") "records" (He.fAd K ("Disk", some "records")) := He.meth_ok (c.t.d.fact 13 (f := .meth "Disk" "records") rfl)
  have me7 : Meth K (He.ga K "Disk") "replace" (He.fAd K ("Disk", some "replace")) := He.meth_ok (c.t.d.fact 14 (f := .meth "Disk" "replace") rfl)
  have me8 : Meth K (He.ga K "Disk") "read_file" (He.fAd K ("Disk", some "read_file")) := He.meth_ok (c.t.d.fact 15 (f := .meth "Disk" "read_file") rfl)
  have me9 : Meth K (He.ga K "Disk") "crash" (He.fAd K ("Disk", some "crash")) := He.meth_ok (c.t.d.fact 16 (f := .meth "Disk" "crash") rfl)
  have me10 : Meth K (He.ga K "Disk") "restart" (He.fAd K ("Disk", some "restart")) := He.meth_ok (c.t.d.fact 17 (f := .meth "Disk" "restart") rfl)
  have gl_Unpacker : mg "Unpacker" = some (.ref (He.ga K "Unpacker")) := He.glo_ok X G (c.t.d.fact 18 (f := .glo "Unpacker") rfl)
  have cl_Unpacker : Cls K (He.ga K "Unpacker") := He.cls_ok (c.t.d.fact 19 (f := .cls "Unpacker") rfl)
  have no_Unpacker_data : NoAttr K (He.ga K "Unpacker") "data" := He.noat_ok (c.t.d.fact 20 (f := .noat "Unpacker" "data") rfl)
  have no_Unpacker_place : NoAttr K (He.ga K "Unpacker") "place" := He.noat_ok (c.t.d.fact 21 (f := .noat "Unpacker" "place") rfl)
  have no_Unpacker_nesting : NoAttr K (He.ga K "Unpacker") "nesting" := He.noat_ok (c.t.d.fact 22 (f := .noat "Unpacker" "nesting") rfl)
  have mk_Unpacker : Mk K (He.ga K "Unpacker") (He.fAd K ("Unpacker", some "__init__")) := He.mkr_ok (c.t.d.fact 23 (f := .mkr "Unpacker") rfl)
  have me12 : Meth K (He.ga K "Unpacker") "byte" (He.fAd K ("Unpacker", some "byte")) := He.meth_ok (c.t.d.fact 24 (f := .meth "Unpacker" "byte") rfl)
  have me13 : Meth K (He.ga K "Unpacker") "read_natural" (He.fAd K ("Unpacker", some "read_natural")) := He.meth_ok (c.t.d.fact 25 (f := .meth "Unpacker" "read_natural") rfl)
  have me14 : Meth K (He.ga K "Unpacker") "read_value" (He.fAd K ("Unpacker", some "read_value")) := He.meth_ok (c.t.d.fact 26 (f := .meth "Unpacker" "read_value") rfl)
  have me15 : Meth K (He.ga K "Unpacker") "text" (He.fAd K ("Unpacker", some "text")) := He.meth_ok (c.t.d.fact 27 (f := .meth "Unpacker" "text") rfl)
  have gl_Workflow : mg "Workflow" = some (.ref (He.ga K "Workflow")) := He.glo_ok X G (c.t.d.fact 28 (f := .glo "Workflow") rfl)
  have cl_Workflow : Cls K (He.ga K "Workflow") := He.cls_ok (c.t.d.fact 29 (f := .cls "Workflow") rfl)
  have no_Workflow_disk : NoAttr K (He.ga K "Workflow") "disk" := He.noat_ok (c.t.d.fact 30 (f := .noat "Workflow" "disk") rfl)
  have no_Workflow_steps : NoAttr K (He.ga K "Workflow") "steps" := He.noat_ok (c.t.d.fact 31 (f := .noat "Workflow" "steps") rfl)
  have no_Workflow_rows : NoAttr K (He.ga K "Workflow") "rows" := He.noat_ok (c.t.d.fact 32 (f := .noat "Workflow" "rows") rfl)
  have mk_Workflow : Mk K (He.ga K "Workflow") (He.fAd K ("Workflow", some "__init__")) := He.mkr_ok (c.t.d.fact 33 (f := .mkr "Workflow") rfl)
  have me17 : Meth K (He.ga K "Workflow") "note" (He.fAd K ("Workflow", some "note")) := He.meth_ok (c.t.d.fact 34 (f := .meth "Workflow" "note") rfl)
  have me18 : Meth K (He.ga K "Workflow") "state_of" (He.fAd K ("Workflow", some "state_of")) := He.meth_ok (c.t.d.fact 35 (f := .meth "Workflow" "state_of") rfl)
  have me19 : Meth K (He.ga K "Workflow") "end" (He.fAd K ("Workflow", some "end")) := He.meth_ok (c.t.d.fact 36 (f := .meth "Workflow" "end") rfl)
  have me20 : Meth K (He.ga K "Workflow") "go" (He.fAd K ("Workflow", some "go")) := He.meth_ok (c.t.d.fact 37 (f := .meth "Workflow" "go") rfl)
  have me21 : Meth K (He.ga K "Workflow") "do" (He.fAd K ("Workflow", some "do")) := He.meth_ok (c.t.d.fact 38 (f := .meth "Workflow" "do") rfl)
  have gl22 : mg "natural" = some (.ref (He.fAd K ("natural", none))) := He.glo_ok X G (c.t.d.fact 39 (f := .glo "natural") rfl)
  have gl23 : mg "pack" = some (.ref (He.fAd K ("pack", none))) := He.glo_ok X G (c.t.d.fact 40 (f := .glo "pack") rfl)
  have gl24 : mg "sign_number" = some (.ref (He.fAd K ("sign_number", none))) := He.glo_ok X G (c.t.d.fact 41 (f := .glo "sign_number") rfl)
  have gl25 : mg "sum_of_bytes" = some (.ref (He.fAd K ("sum_of_bytes", none))) := He.glo_ok X G (c.t.d.fact 42 (f := .glo "sum_of_bytes") rfl)
  have gl26 : mg "four" = some (.ref (He.fAd K ("four", none))) := He.glo_ok X G (c.t.d.fact 43 (f := .glo "four") rfl)
  have gl27 : mg "frame" = some (.ref (He.fAd K ("frame", none))) := He.glo_ok X G (c.t.d.fact 44 (f := .glo "frame") rfl)
  have gl28 : mg "unpack" = some (.ref (He.fAd K ("unpack", none))) := He.glo_ok X G (c.t.d.fact 45 (f := .glo "unpack") rfl)
  have gl29 : mg "read_frames" = some (.ref (He.fAd K ("read_frames", none))) := He.glo_ok X G (c.t.d.fact 46 (f := .glo "read_frames") rfl)
  have gl30 : mg "_law_dice" = some (.ref (He.fAd K ("_law_dice", none))) := He.glo_ok X G (c.t.d.fact 47 (f := .glo "_law_dice") rfl)
  have gl31 : mg "_law_roll" = some (.ref (He.fAd K ("_law_roll", none))) := He.glo_ok X G (c.t.d.fact 48 (f := .glo "_law_roll") rfl)
  have gl32 : mg "_law_rounds" = some (.ref (He.fAd K ("_law_rounds", none))) := He.glo_ok X G (c.t.d.fact 49 (f := .glo "_law_rounds") rfl)
  have gl33 : mg "_law_told" = some (.ref (He.fAd K ("_law_told", none))) := He.glo_ok X G (c.t.d.fact 50 (f := .glo "_law_told") rfl)
  have gl34 : mg "_law_do" = some (.ref (He.fAd K ("_law_do", none))) := He.glo_ok X G (c.t.d.fact 51 (f := .glo "_law_do") rfl)
  have gl35 : mg "_law_undo" = some (.ref (He.fAd K ("_law_undo", none))) := He.glo_ok X G (c.t.d.fact 52 (f := .glo "_law_undo") rfl)
  have gl_QueueError : mg "QueueError" = some (.ref (He.ga K "QueueError")) := He.glo_ok X G (c.t.d.fact 54 (f := .glo "QueueError") rfl)
  have TE_QueueError : ExcT K mg "QueueError" (He.ga K "QueueError") := exc_T X G (c.t.d.fact 54 (f := .glo "QueueError") rfl) (c.t.d.fact 55 (f := .exc "QueueError") rfl) (exB c.more).1 (exB c.more).2.1
  have gl_StoreError : mg "StoreError" = some (.ref (He.ga K "StoreError")) := He.glo_ok X G (c.t.d.fact 56 (f := .glo "StoreError") rfl)
  have TE_StoreError : ExcT K mg "StoreError" (He.ga K "StoreError") := exc_T X G (c.t.d.fact 56 (f := .glo "StoreError") rfl) (c.t.d.fact 57 (f := .exc "StoreError") rfl) (exB c.more).2.2.1 (exB c.more).2.2.2.1
  have fr_tuple : mg "tuple" = none := He.free_ok X G (c.t.d.fact 58 (f := .free "tuple") rfl)
  have fr_len : mg "len" = none := He.free_ok X G (c.t.d.fact 59 (f := .free "len") rfl)
  have fr_range : mg "range" = none := He.free_ok X G (c.t.d.fact 60 (f := .free "range") rfl)
  have fr_isinstance : mg "isinstance" = none := He.free_ok X G (c.t.d.fact 61 (f := .free "isinstance") rfl)
  have fr_int : mg "int" = none := He.free_ok X G (c.t.d.fact 62 (f := .free "int") rfl)
  have fr_str : mg "str" = none := He.free_ok X G (c.t.d.fact 63 (f := .free "str") rfl)
  have fr_abs : mg "abs" = none := He.free_ok X G (c.t.d.fact 64 (f := .free "abs") rfl)
  have fr_list : mg "list" = none := He.free_ok X G (c.t.d.fact 65 (f := .free "list") rfl)
  have fr_any : mg "any" = none := He.free_ok X G (c.t.d.fact 66 (f := .free "any") rfl)
  have fr_all : mg "all" = none := He.free_ok X G (c.t.d.fact 67 (f := .free "all") rfl)
  have con_NONE : ∃ u, mg "NONE" = some u ∧ RelV (.int 1) u := let ⟨t, e⟩ := He.int_ok X G (c.t.d.fact 68 (f := .int "NONE" 1) rfl); ⟨_, e, ⟨t, rfl⟩⟩
  have con_TRUE : ∃ u, mg "TRUE" = some u ∧ RelV (.int 2) u := let ⟨t, e⟩ := He.int_ok X G (c.t.d.fact 69 (f := .int "TRUE" 2) rfl); ⟨_, e, ⟨t, rfl⟩⟩
  have con_FALSE : ∃ u, mg "FALSE" = some u ∧ RelV (.int 3) u := let ⟨t, e⟩ := He.int_ok X G (c.t.d.fact 70 (f := .int "FALSE" 3) rfl); ⟨_, e, ⟨t, rfl⟩⟩
  have con_NUMBER : ∃ u, mg "NUMBER" = some u ∧ RelV (.int 4) u := let ⟨t, e⟩ := He.int_ok X G (c.t.d.fact 71 (f := .int "NUMBER" 4) rfl); ⟨_, e, ⟨t, rfl⟩⟩
  have con_BELOW : ∃ u, mg "BELOW" = some u ∧ RelV (.int 5) u := let ⟨t, e⟩ := He.int_ok X G (c.t.d.fact 72 (f := .int "BELOW" 5) rfl); ⟨_, e, ⟨t, rfl⟩⟩
  have con_TEXT : ∃ u, mg "TEXT" = some u ∧ RelV (.int 6) u := let ⟨t, e⟩ := He.int_ok X G (c.t.d.fact 73 (f := .int "TEXT" 6) rfl); ⟨_, e, ⟨t, rfl⟩⟩
  have con_ROW : ∃ u, mg "ROW" = some u ∧ RelV (.int 7) u := let ⟨t, e⟩ := He.int_ok X G (c.t.d.fact 74 (f := .int "ROW" 7) rfl); ⟨_, e, ⟨t, rfl⟩⟩
  have con_MOST_DEEP : ∃ u, mg "MOST_DEEP" = some u ∧ RelV (.int 30) u := let ⟨t, e⟩ := He.int_ok X G (c.t.d.fact 75 (f := .int "MOST_DEEP" 30) rfl); ⟨_, e, ⟨t, rfl⟩⟩
  have con_SIGNS : ∃ u, mg "SIGNS" = some u ∧ RelV (.str SIGNS) u := let ⟨t, e⟩ := He.str_ok X G (c.t.d.fact 76 (f := .str "SIGNS" SIGNS) rfl); ⟨_, e, ⟨t, rfl⟩⟩
  obtain ⟨fd1, D1⟩ := c.t.d.def_ 0 (d := dfs1) rfl
  have F1 : Fun K "__init__" "Disk.__init__" sDInit (He.fAd K ("Disk", some "__init__")) fd1 := fun_ofD D1
  have b1 := F1.binds (ps := ["self"]) fun _ _ _ _ _ _ us hl => match us, hl with | [_], _ => rfl
  obtain ⟨fd2, D2⟩ := c.t.d.def_ 1 (d := dfs2) rfl
  have F2 : Fun K "arm" "Disk.arm" sArm (He.fAd K ("Disk", some "arm")) fd2 := fun_ofD D2
  have b2 := F2.binds (ps := ["self", "steps"]) fun _ _ _ _ _ _ us hl => match us, hl with | [_, _], _ => rfl
  obtain ⟨fd3, D3⟩ := c.t.d.def_ 2 (d := dfs3) rfl
  have F3 : Fun K "need_up" "Disk.need_up" sNeed (He.fAd K ("Disk", some "need_up")) fd3 := fun_ofD D3
  have b3 := F3.binds (ps := ["self"]) fun _ _ _ _ _ _ us hl => match us, hl with | [_], _ => rfl
  obtain ⟨fd4, D4⟩ := c.t.d.def_ 3 (d := dfs4) rfl
  have F4 : Fun K "append" "Disk.append" sDApp (He.fAd K ("Disk", some "append")) fd4 := fun_ofD D4
  have b4 := F4.binds (ps := ["self", "value"]) fun _ _ _ _ _ _ us hl => match us, hl with | [_, _], _ => rfl
  obtain ⟨fd5, D5⟩ := c.t.d.def_ 4 (d := dfs5) rfl
  have F5 : Fun K "sync" "Disk.sync" sSync (He.fAd K ("Disk", some "sync")) fd5 := fun_ofD D5
  have b5 := F5.binds (ps := ["self"]) fun _ _ _ _ _ _ us hl => match us, hl with | [_], _ => rfl
  obtain ⟨fd6, D6⟩ := c.t.d.def_ 5 (d := dfs6) rfl
  have F6 : Fun K "records" "Disk.records" sRecs (He.fAd K ("Disk", some "records")) fd6 := fun_ofD D6
  have b6 := F6.binds (ps := ["self"]) fun _ _ _ _ _ _ us hl => match us, hl with | [_], _ => rfl
  obtain ⟨fd7, D7⟩ := c.t.d.def_ 6 (d := dfs7) rfl
  have F7 : Fun K "replace" "Disk.replace" sRepl (He.fAd K ("Disk", some "replace")) fd7 := fun_ofD D7
  have b7 := F7.binds (ps := ["self", "name", "value", "records"]) fun _ _ _ _ _ _ us hl => match us, hl with | [_, _, _, _], _ => rfl
  obtain ⟨fd8, D8⟩ := c.t.d.def_ 7 (d := dfs8) rfl
  have F8 : Fun K "read_file" "Disk.read_file" sRFile (He.fAd K ("Disk", some "read_file")) fd8 := fun_ofD D8
  have b8 := F8.binds (ps := ["self", "name"]) fun _ _ _ _ _ _ us hl => match us, hl with | [_, _], _ => rfl
  obtain ⟨fd9, D9⟩ := c.t.d.def_ 8 (d := dfs9) rfl
  have F9 : Fun K "crash" "Disk.crash" sCrash (He.fAd K ("Disk", some "crash")) fd9 := fun_ofD D9
  have b9 := F9.binds (ps := ["self", "many"]) fun _ _ _ _ _ _ us hl => match us, hl with | [_, _], _ => rfl
  obtain ⟨fd10, D10⟩ := c.t.d.def_ 9 (d := dfs10) rfl
  have F10 : Fun K "restart" "Disk.restart" sRest (He.fAd K ("Disk", some "restart")) fd10 := fun_ofD D10
  have b10 := F10.binds (ps := ["self"]) fun _ _ _ _ _ _ us hl => match us, hl with | [_], _ => rfl
  obtain ⟨fd11, D11⟩ := c.t.d.def_ 10 (d := dfs11) rfl
  have F11 : Fun K "__init__" "Unpacker.__init__" sUInit (He.fAd K ("Unpacker", some "__init__")) fd11 := fun_ofD D11
  have b11 := F11.binds (ps := ["self", "data"]) fun _ _ _ _ _ _ us hl => match us, hl with | [_, _], _ => rfl
  obtain ⟨fd12, D12⟩ := c.t.d.def_ 11 (d := dfs12) rfl
  have F12 : Fun K "byte" "Unpacker.byte" sUByte (He.fAd K ("Unpacker", some "byte")) fd12 := fun_ofD D12
  have b12 := F12.binds (ps := ["self"]) fun _ _ _ _ _ _ us hl => match us, hl with | [_], _ => rfl
  obtain ⟨fd13, D13⟩ := c.t.d.def_ 12 (d := dfs13) rfl
  have F13 : Fun K "read_natural" "Unpacker.read_natural" sUNat (He.fAd K ("Unpacker", some "read_natural")) fd13 := fun_ofD D13
  have b13 := F13.binds (ps := ["self"]) fun _ _ _ _ _ _ us hl => match us, hl with | [_], _ => rfl
  obtain ⟨fd14, D14⟩ := c.t.d.def_ 13 (d := dfs14) rfl
  have F14 : Fun K "read_value" "Unpacker.read_value" sUVal (He.fAd K ("Unpacker", some "read_value")) fd14 := fun_ofD D14
  have b14 := F14.binds (ps := ["self"]) fun _ _ _ _ _ _ us hl => match us, hl with | [_], _ => rfl
  obtain ⟨fd15, D15⟩ := c.t.d.def_ 14 (d := dfs15) rfl
  have F15 : Fun K "text" "Unpacker.text" sUText (He.fAd K ("Unpacker", some "text")) fd15 := fun_ofD D15
  have b15 := F15.binds (ps := ["self"]) fun _ _ _ _ _ _ us hl => match us, hl with | [_], _ => rfl
  obtain ⟨fd16, D16⟩ := c.t.d.def_ 15 (d := dfs16) rfl
  have F16 : Fun K "__init__" "Workflow.__init__" sWInit (He.fAd K ("Workflow", some "__init__")) fd16 := fun_ofD D16
  have b16 := F16.binds (ps := ["self", "disk", "steps"]) fun _ _ _ _ _ _ us hl => match us, hl with | [_, _, _], _ => rfl
  obtain ⟨fd17, D17⟩ := c.t.d.def_ 16 (d := dfs17) rfl
  have F17 : Fun K "note" "Workflow.note" sNote (He.fAd K ("Workflow", some "note")) fd17 := fun_ofD D17
  have b17 := F17.binds (ps := ["self", "word", "step"]) fun _ _ _ _ _ _ us hl => match us, hl with | [_, _, _], _ => rfl
  obtain ⟨fd18, D18⟩ := c.t.d.def_ 17 (d := dfs18) rfl
  have F18 : Fun K "state_of" "Workflow.state_of" sSof (He.fAd K ("Workflow", some "state_of")) fd18 := fun_ofD D18
  have b18 := F18.binds (ps := ["self", "step"]) fun _ _ _ _ _ _ us hl => match us, hl with | [_, _], _ => rfl
  obtain ⟨fd19, D19⟩ := c.t.d.def_ 18 (d := dfs19) rfl
  have F19 : Fun K "end" "Workflow.end" sEnd (He.fAd K ("Workflow", some "end")) fd19 := fun_ofD D19
  have b19 := F19.binds (ps := ["self"]) fun _ _ _ _ _ _ us hl => match us, hl with | [_], _ => rfl
  obtain ⟨fd20, D20⟩ := c.t.d.def_ 19 (d := dfs20) rfl
  have F20 : Fun K "go" "Workflow.go" sGo (He.fAd K ("Workflow", some "go")) fd20 := fun_ofD D20
  have b20 := F20.binds (ps := ["self", "doer", "undoer"]) fun _ _ _ _ _ _ us hl => match us, hl with | [_, _, _], _ => rfl
  obtain ⟨fd21, D21⟩ := c.t.d.def_ 20 (d := dfs21) rfl
  have F21 : Fun K "do" "Workflow.do" sDo (He.fAd K ("Workflow", some "do")) fd21 := fun_ofD D21
  have b21 := F21.binds (ps := ["self", "step", "doer"]) fun _ _ _ _ _ _ us hl => match us, hl with | [_, _, _], _ => rfl
  obtain ⟨fd22, D22⟩ := c.t.d.def_ 21 (d := dfs22) rfl
  have F22 : Fun K "natural" "natural" sNatural (He.fAd K ("natural", none)) fd22 := fun_ofD D22
  have b22 := F22.binds (ps := ["number"]) fun _ _ _ _ _ _ us hl => match us, hl with | [_], _ => rfl
  obtain ⟨fd23, D23⟩ := c.t.d.def_ 22 (d := dfs23) rfl
  have F23 : FunD K "pack" "pack" (defArgs sPack) (defBody sPack) (defScope sPack) [.int 0] [] (He.fAd K ("pack", none)) fd23 := D23
  obtain ⟨ds23_0, vds23_0, b23_0⟩ := F23.binds1 (ps := ["value", "depth"]) 1 0 (by simp) rfl fun _ _ _ _ _ _ _ us its h1 h2 => match us, its, h1, h2 with | [_], [_], _, _ => ⟨_, rfl, rfl⟩
  obtain ⟨ds23_1, vds23_1, b23_1⟩ := F23.binds1 (ps := ["value", "depth"]) 2 1 (by simp) rfl fun _ _ _ _ _ _ _ us its h1 h2 => match us, its, h1, h2 with | [_, _], [_], _, _ => ⟨_, rfl, rfl⟩
  obtain ⟨fd24, D24⟩ := c.t.d.def_ 23 (d := dfs24) rfl
  have F24 : Fun K "sign_number" "sign_number" sSignN (He.fAd K ("sign_number", none)) fd24 := fun_ofD D24
  have b24 := F24.binds (ps := ["sign"]) fun _ _ _ _ _ _ us hl => match us, hl with | [_], _ => rfl
  obtain ⟨fd25, D25⟩ := c.t.d.def_ 24 (d := dfs25) rfl
  have F25 : Fun K "sum_of_bytes" "sum_of_bytes" sSumB (He.fAd K ("sum_of_bytes", none)) fd25 := fun_ofD D25
  have b25 := F25.binds (ps := ["data"]) fun _ _ _ _ _ _ us hl => match us, hl with | [_], _ => rfl
  obtain ⟨fd26, D26⟩ := c.t.d.def_ 25 (d := dfs26) rfl
  have F26 : Fun K "four" "four" sFour (He.fAd K ("four", none)) fd26 := fun_ofD D26
  have b26 := F26.binds (ps := ["number"]) fun _ _ _ _ _ _ us hl => match us, hl with | [_], _ => rfl
  obtain ⟨fd27, D27⟩ := c.t.d.def_ 26 (d := dfs27) rfl
  have F27 : Fun K "frame" "frame" sFrame (He.fAd K ("frame", none)) fd27 := fun_ofD D27
  have b27 := F27.binds (ps := ["value"]) fun _ _ _ _ _ _ us hl => match us, hl with | [_], _ => rfl
  obtain ⟨fd28, D28⟩ := c.t.d.def_ 27 (d := dfs28) rfl
  have F28 : Fun K "unpack" "unpack" sUnpack (He.fAd K ("unpack", none)) fd28 := fun_ofD D28
  have b28 := F28.binds (ps := ["data"]) fun _ _ _ _ _ _ us hl => match us, hl with | [_], _ => rfl
  obtain ⟨fd29, D29⟩ := c.t.d.def_ 28 (d := dfs29) rfl
  have F29 : Fun K "read_frames" "read_frames" sReadF (He.fAd K ("read_frames", none)) fd29 := fun_ofD D29
  have b29 := F29.binds (ps := ["data"]) fun _ _ _ _ _ _ us hl => match us, hl with | [_], _ => rfl
  obtain ⟨fd30, D30⟩ := c.t.d.def_ 29 (d := dfs30) rfl
  have F30 : Fun K "_law_dice" "_law_dice" sDice (He.fAd K ("_law_dice", none)) fd30 := fun_ofD D30
  have b30 := F30.binds (ps := ["cell"]) fun _ _ _ _ _ _ us hl => match us, hl with | [_], _ => rfl
  obtain ⟨fd31, D31⟩ := c.t.d.def_ 30 (d := dfs31) rfl
  have F31 : Fun K "_law_roll" "_law_roll" sRoll (He.fAd K ("_law_roll", none)) fd31 := fun_ofD D31
  have b31 := F31.binds (ps := ["dice", "many"]) fun _ _ _ _ _ _ us hl => match us, hl with | [_, _], _ => rfl
  obtain ⟨fd32, D32⟩ := c.t.d.def_ 31 (d := dfs32) rfl
  have F32 : Fun K "_law_rounds" "_law_rounds" sRounds (He.fAd K ("_law_rounds", none)) fd32 := fun_ofD D32
  have b32 := F32.binds (ps := ["script", "most"]) fun _ _ _ _ _ _ us hl => match us, hl with | [_, _], _ => rfl
  obtain ⟨fd33, D33⟩ := c.t.d.def_ 32 (d := dfs33) rfl
  have F33 : Fun K "_law_told" "_law_told" sTold (He.fAd K ("_law_told", none)) fd33 := fun_ofD D33
  have b33 := F33.binds (ps := ["what"]) fun _ _ _ _ _ _ us hl => match us, hl with | [_], _ => rfl
  obtain ⟨fd34, D34⟩ := c.t.d.def_ 33 (d := dfs34) rfl
  have F34 : Fun K "_law_do" "_law_do" sLDo (He.fAd K ("_law_do", none)) fd34 := fun_ofD D34
  have b34 := F34.binds (ps := ["world", "fails", "step", "flow"]) fun _ _ _ _ _ _ us hl => match us, hl with | [_, _, _, _], _ => rfl
  obtain ⟨fd35, D35⟩ := c.t.d.def_ 34 (d := dfs35) rfl
  have F35 : Fun K "_law_undo" "_law_undo" sLUndo (He.fAd K ("_law_undo", none)) fd35 := fun_ofD D35
  have b35 := F35.binds (ps := ["world", "step"]) fun _ _ _ _ _ _ us hl => match us, hl with | [_, _], _ => rfl
  obtain ⟨fd36, D36⟩ := c.t.d.def_ 35 (d := dfs36) rfl
  have F36 : Fun K "law" "law" sLaw (He.fAd K ("law", none)) fd36 := fun_ofD D36
  have e := hfa0.symm.trans gl36
  cases e
  have TE := TE_StoreError
  have TQ := TE_QueueError
  have TL : TxtL mg := ⟨fr_abs, fr_int⟩
  have TG : TxtG mg := ⟨fr_len, fr_range, fr_str⟩
  have XD : TxtDk K (He.ga K "Disk") := ⟨cl_Disk, (fun f hf => by
    simp only [nmD, List.mem_cons, List.not_mem_nil, or_false] at hf
    rcases hf with rfl | rfl | rfl | rfl | rfl | rfl
    · exact no_Disk_kept
    · exact no_Disk_waiting
    · exact no_Disk_files
    · exact no_Disk_syncs
    · exact no_Disk_fuse
    · exact no_Disk_down)⟩
  have XU : TxtU K mg (He.ga K "Unpacker") := ⟨cl_Unpacker, (fun f hf => by
    simp only [nmU, List.mem_cons, List.not_mem_nil, or_false] at hf
    rcases hf with rfl | rfl | rfl
    · exact no_Unpacker_data
    · exact no_Unpacker_place
    · exact no_Unpacker_nesting)⟩
  have TW : TxtW mg := ⟨fr_tuple, fr_len, fr_range, fr_isinstance, fr_int, fr_str, con_NONE, con_TRUE, con_FALSE, con_NUMBER, con_BELOW, con_TEXT, con_ROW, con_MOST_DEEP, con_SIGNS⟩
  have XW : TxtWf K (He.ga K "Workflow") := ⟨cl_Workflow, (fun f hf => by
    simp only [nmW, List.mem_cons, List.not_mem_nil, or_false] at hf
    rcases hf with rfl | rfl | rfl
    · exact no_Workflow_disk
    · exact no_Workflow_steps
    · exact no_Workflow_rows)⟩
  have TN : TxtN K mg (He.ga K "WORDS") := ⟨fr_any, fr_all, fr_len, fr_tuple, ⟨_, PySem.W.mg_of X G (exB c.more).2.2.2.2.2.2.2.2.2.2.2.2.2.2.2.2.2.2.2.2.2.2.2.2.1, rfl⟩, fun H => words_ok (exB c.more).2.2.2.2.2.2.2.2.2.2.2.2.2.2.2.2.2.2.2.2.2.2.2.1 H⟩
  have hne : NoEqC K (He.ga K "Workflow") := ⟨(exB c.more).2.2.2.2.2.2.2.2.2.2.2.2.2.2.2.2.2.2.2.1, (exB c.more).2.2.2.2.2.2.2.2.2.2.2.2.2.2.2.2.2.2.2.2.1, (exB c.more).2.2.2.2.2.2.2.2.2.2.2.2.2.2.2.2.2.2.2.2.2.1⟩
  obtain ⟨ocL, odL, kVL, dcL, pmL, anL, ctL, oslL, rfl, lkL, cdL⟩ := fun_code (p := ("law", none)) F36
  obtain ⟨ocG0, odG0, dVG0, kVG0, dcG0, pmG0, anG0, ctG0, oslG0, rfl, lkG0, cdG0⟩ := fun_codeD (p := ("pack", none)) F23
  obtain ⟨ocG1, odG1, kVG1, dcG1, pmG1, anG1, ctG1, oslG1, rfl, lkG1, cdG1⟩ := fun_code (p := ("Unpacker", some "read_value")) F14
  obtain ⟨ocG2, odG2, kVG2, dcG2, pmG2, anG2, ctG2, oslG2, rfl, lkG2, cdG2⟩ := fun_code (p := ("Workflow", some "__init__")) F16
  obtain ⟨ocG3, odG3, kVG3, dcG3, pmG3, anG3, ctG3, oslG3, rfl, lkG3, cdG3⟩ := fun_code (p := ("Workflow", some "end")) F19
  obtain ⟨ocG4, odG4, kVG4, dcG4, pmG4, anG4, ctG4, oslG4, rfl, lkG4, cdG4⟩ := fun_code (p := ("Workflow", some "go")) F20
  refine ⟨PySem.W.fnOf "law" "law" (defArgs sLaw) (defBody sLaw) (defScope sLaw) .none kVL dcL pmL anL (.ref (He.cT K ("law", none)).1) ctL, htf.map (He.cT K), spLaw K (He.cT K ("law", none)).2 (He.cT K ("pack", none)).2 (He.cT K ("Unpacker", some "read_value")).2 (He.cT K ("Workflow", some "__init__")).2 (He.cT K ("Workflow", some "end")).2 (He.cT K ("Workflow", some "go")).2, fun p hp => ?_, fun p hp => ?_, fun p hp => ?_, fun s v => .of_eq rfl, fun H a ns hlen _ hH hS => ⟨a, ns, rfl, hS, hlen, led6 (hH _ (List.mem_map.mpr ⟨_, (.head _), rfl⟩)) (hH _ (List.mem_map.mpr ⟨_, (.tail _ (.head _)), rfl⟩)) (hH _ (List.mem_map.mpr ⟨_, (.tail _ (.tail _ (.head _))), rfl⟩)) (hH _ (List.mem_map.mpr ⟨_, (.tail _ (.tail _ (.tail _ (.head _)))), rfl⟩)) (hH _ (List.mem_map.mpr ⟨_, (.tail _ (.tail _ (.tail _ (.tail _ (.head _))))), rfl⟩)) (hH _ (List.mem_map.mpr ⟨_, (.tail _ (.tail _ (.tail _ (.tail _ (.tail _ (.head _)))))), rfl⟩)) exs.2.2.2.2.1 exs.2.2.2.2.2.1 exs.2.2.2.2.2.2.1 exs.2.2.2.2.2.2.2.1 exs.2.2.2.2.2.2.2.2.1 exs.2.2.2.2.2.2.2.2.2.1 exs.2.2.2.2.2.2.2.2.2.2.1 exs.2.2.2.2.2.2.2.2.2.2.2.1 exs.2.2.2.2.2.2.2.2.2.2.2.2.1 exs.2.2.2.2.2.2.2.2.2.2.2.2.2.1 exs.2.2.2.2.2.2.2.2.2.2.2.2.2.2.1 exs.2.2.2.2.2.2.2.2.2.2.2.2.2.2.2.1 exs.2.2.2.2.2.2.2.2.2.2.2.2.2.2.2.2.1 exs.2.2.2.2.2.2.2.2.2.2.2.2.2.2.2.2.2.1 exs.2.2.2.2.2.2.2.2.2.2.2.2.2.2.2.2.2.2.1, fun _ => rfl⟩, fun base _ _ htb => ?_⟩
  · obtain ⟨x, hx, rfl⟩ := List.mem_map.mp hp
    exact c.empty x hx
  · obtain ⟨x, hx, rfl⟩ := List.mem_map.mp hp
    exact c.out x hx
  · obtain ⟨x, hx, rfl⟩ := List.mem_map.mp hp
    exact PySem.W.codeHd_of_K X (c.hd x hx)
  have hTBL := htb (He.cT K ("law", none)) (List.mem_map.mpr ⟨("law", none), (.head _), rfl⟩)
  have hTB0 := htb (He.cT K ("pack", none)) (List.mem_map.mpr ⟨("pack", none), (.tail _ (.head _)), rfl⟩)
  have hTB1 := htb (He.cT K ("Unpacker", some "read_value")) (List.mem_map.mpr ⟨("Unpacker", some "read_value"), (.tail _ (.tail _ (.head _))), rfl⟩)
  have hTB2 := htb (He.cT K ("Workflow", some "__init__")) (List.mem_map.mpr ⟨("Workflow", some "__init__"), (.tail _ (.tail _ (.tail _ (.head _)))), rfl⟩)
  have hTB3 := htb (He.cT K ("Workflow", some "end")) (List.mem_map.mpr ⟨("Workflow", some "end"), (.tail _ (.tail _ (.tail _ (.tail _ (.head _))))), rfl⟩)
  have hTB4 := htb (He.cT K ("Workflow", some "go")) (List.mem_map.mpr ⟨("Workflow", some "go"), (.tail _ (.tail _ (.tail _ (.tail _ (.tail _ (.head _)))))), rfl⟩)
  cases vds23_1
  have Wnat : Cal l.prog w K mg base (1) "natural" spNatural [] := ⟨_, _, _, [], ok_natural F22 TW, gl22, F22.kp, b22, .nil⟩
  have Wsgn : Cal l.prog w K mg base (1) "sign_number" spSignN [] := ⟨_, _, _, [], ok_signN F24 TW, gl24, F24.kp, b24, .nil⟩
  have Wpack : Cal l.prog w K mg base (5 + 2) "pack" (spPack (He.cT K ("pack", none)).2 2) [.int 0] := ⟨_, _, _, _, ok_pack (ds := []) lkG0 cdG0 ⟨hTB0.code, hTB0.bm, hTB0.gP⟩ TW gl23 F23.kp b23_1 Wnat Wsgn 2, gl23, F23.kp, b23_0, vds23_0⟩
  have Wsum : Cal l.prog w K mg base (1) "sum_of_bytes" spSumB [] := ⟨_, _, _, [], ok_sumB F25, gl25, F25.kp, b25, .nil⟩
  have Wfour : Cal l.prog w K mg base (1) "four" spFour [] := ⟨_, _, _, [], ok_four F26, gl26, F26.kp, b26, .nil⟩
  have Wframe : Cal l.prog w K mg base (6 + 2) "frame" (spFrame (He.cT K ("pack", none)).2 2) [] := ⟨_, _, _, [], ok_frame F27 TW Wpack Wfour Wsum, gl27, F27.kp, b27, .nil⟩
  have Wunp : Mak l.prog w K mg base 1 "Unpacker" (He.ga K "Unpacker") (spUInit (He.ga K "Unpacker")) [] := ⟨_, _, _, [], mk_Unpacker, ok_UInit F11 XU TW, gl_Unpacker, b11, .nil⟩
  have Wbyte : Met l.prog w K mg base (1) (He.ga K "Unpacker") "byte" (spUByte (He.ga K "Unpacker")) [] := ⟨_, _, _, [], cl_Unpacker, me12, ok_UByte F12 XU TW, b12, .nil⟩
  have Wrnat : Met l.prog w K mg base (2) (He.ga K "Unpacker") "read_natural" (spUNat (He.ga K "Unpacker")) [] := ⟨_, _, _, [], cl_Unpacker, me13, ok_UNat F13 XU Wbyte, b13, .nil⟩
  have Wtext : Met l.prog w K mg base (3) (He.ga K "Unpacker") "text" (spUText (He.ga K "Unpacker")) [] := ⟨_, _, _, [], cl_Unpacker, me15, ok_UText F15 XU TW Wbyte Wrnat, b15, .nil⟩
  have Wval : Met l.prog w K mg base (4 + 5 * 2) (He.ga K "Unpacker") "read_value" (spUVal (He.ga K "Unpacker") (He.cT K ("Unpacker", some "read_value")).2 2) [] := ⟨_, _, _, [], cl_Unpacker, me14, ok_UVal lkG1 cdG1 ⟨hTB1.code, hTB1.bm, hTB1.gP⟩ XU TW me14 b14 Wbyte Wrnat Wtext 2, b14, .nil⟩
  have Wunpack : Cal l.prog w K mg base (5 + 5 * 2) "unpack" (spUnpack (He.ga K "Unpacker") (He.cT K ("Unpacker", some "read_value")).2 2) [] := ⟨_, _, _, [], ok_unpack F28 XU TW Wunp Wval, gl28, F28.kp, b28, .nil⟩
  have Wread : Cal l.prog w K mg base (6 + 5 * 2) "read_frames" (spReadF (He.ga K "Unpacker") (He.cT K ("Unpacker", some "read_value")).2 2) [] := ⟨_, _, _, [], ok_readF F29 TW Wunpack Wsum, gl29, F29.kp, b29, .nil⟩
  have Dmk : Mak l.prog w K mg base 1 "Disk" (He.ga K "Disk") (spDInit (He.ga K "Disk")) [] := ⟨_, _, _, [], mk_Disk, ok_DInit F1 XD, gl_Disk, b1, .nil⟩
  have Darm : Met l.prog w K mg base (1) (He.ga K "Disk") "arm" (spArm (He.ga K "Disk")) [] := ⟨_, _, _, [], cl_Disk, me2, ok_arm F2 XD, b2, .nil⟩
  have Dneed : MetX l.prog w K mg base (1) (He.ga K "Disk") "need_up" (spNeed (He.ga K "Disk") (He.ga K "StoreError")) [] := ⟨_, _, _, [], cl_Disk, me3, ok_need F3 XD TE, b3, .nil⟩
  have Dapp : MetX l.prog w K mg base (7 + 2) (He.ga K "Disk") "append" (spDApp (He.ga K "Disk") (He.ga K "StoreError") (He.cT K ("pack", none)).2 2) [] := ⟨_, _, _, [], cl_Disk, me4, ok_DApp F4 XD Wframe Dneed, b4, .nil⟩
  have Dsync : MetX l.prog w K mg base (2) (He.ga K "Disk") "sync" (spSync (He.ga K "Disk") (He.ga K "StoreError")) [] := ⟨_, _, _, [], cl_Disk, me5, ok_sync F5 XD Dneed, b5, .nil⟩
  have Drecs : Met l.prog w K mg base (7 + 5 * 2) (He.ga K "Disk") "records" (spRecs (He.ga K "Disk") (He.cT K ("Unpacker", some "read_value")).2 2) [] := ⟨_, _, _, [], cl_Disk, me6, ok_recs F6 XD Wread, b6, .nil⟩
  have Dcrash : Met l.prog w K mg base (1) (He.ga K "Disk") "crash" (spCrash (He.ga K "Disk")) [] := ⟨_, _, _, [], cl_Disk, me9, ok_crash F9 XD, b9, .nil⟩
  have Drest : Met l.prog w K mg base (7 + 5 * 2) (He.ga K "Disk") "restart" (spRest (He.ga K "Disk") (He.cT K ("Unpacker", some "read_value")).2 2) [] := ⟨_, _, _, [], cl_Disk, me10, ok_rest F10 XD Wread, b10, .nil⟩
  have Ldice : Cal l.prog w K mg base 1 "_law_dice" spDice [] := ⟨_, _, _, [], ok_dice F30 TL, gl30, F30.kp, b30, .nil⟩
  have Lroll : Cal l.prog w K mg base 1 "_law_roll" spRoll [] := ⟨_, _, _, [], ok_roll F31 TL, gl31, F31.kp, b31, .nil⟩
  have Lround : Cal l.prog w K mg base 2 "_law_rounds" (spRounds K) [] := ⟨_, _, _, [], ok_rounds F32 Ldice, gl32, F32.kp, b32, .nil⟩
  have Wsof : Met l.prog w K mg base 1 (He.ga K "Workflow") "state_of" (spSof (He.ga K "Workflow")) [] := ⟨_, _, _, [], cl_Workflow, me18, ok_Sof F18 XW, b18, .nil⟩
  have Wnote : MetX l.prog w K mg base 10 (He.ga K "Workflow") "note" (spNote (He.ga K "Workflow") (He.ga K "Disk") (He.ga K "StoreError") (He.cT K ("pack", none)).2) [] := ⟨_, _, _, [], cl_Workflow, me17, ok_note F17 XW Dapp Dsync, b17, .nil⟩
  have Wend : Met l.prog w K mg base 6 (He.ga K "Workflow") "end" (spEnd (He.ga K "Workflow") (He.cT K ("Workflow", some "end")).2) [] := ⟨_, _, _, [], cl_Workflow, me19, ok_end lkG3 cdG3 ⟨hTB3.code, hTB3.bm, hTB3.gP⟩ XW TN Wsof, b19, .nil⟩
  have Winit : MakX l.prog w K mg base 18 "Workflow" (He.ga K "Workflow") (spWInit (He.ga K "Workflow") (He.ga K "Disk") (He.ga K "QueueError") (He.cT K ("Unpacker", some "read_value")).2 (He.cT K ("Workflow", some "__init__")).2) [] := ⟨_, _, _, [], mk_Workflow, ok_WInit lkG2 cdG2 ⟨hTB2.code, hTB2.bm, hTB2.gP⟩ XW TN TQ Drecs, gl_Workflow, b16, .nil⟩
  have Ldo : Cal l.prog w K mg base 2 "_law_do" (spLDo (He.ga K "Workflow")) [] := ⟨_, _, _, [], ok_ldo F34 TL Wsof, gl34, F34.kp, b34, .nil⟩
  have Lundo : Cal l.prog w K mg base 1 "_law_undo" spLUndo [] := ⟨_, _, _, [], ok_lundo F35 TL, gl35, F35.kp, b35, .nil⟩
  have Wdo : ∀ (F : NdefX.NF) (ws : List (Option V)), MetS l.prog w K mg base 11 (He.ga K "Workflow") "do" (gTold F NLd ws) (spDo l.prog w K mg base (He.ga K "Workflow") (He.ga K "Disk") (He.ga K "StoreError") (He.cT K ("pack", none)).2 F ws) := fun F ws => ⟨_, _, _, cl_Workflow, me21, ok_do F21 XW Wsof Wnote F ws, b21⟩
  have Wgo : ∀ i : GoI, MetS l.prog w K mg base 12 (He.ga K "Workflow") "go" (gGo i) (spGo l.prog w K mg base (He.ga K "Workflow") (He.ga K "Disk") (He.ga K "StoreError") (He.cT K ("pack", none)).2 (He.cT K ("Workflow", some "end")).2 (He.cT K ("Workflow", some "go")).2 i.1.1 i.2.1 i.1.2 i.2.2) := fun i => ⟨_, _, _, cl_Workflow, me20, ok_go lkG4 cdG4 ⟨hTB4.code, hTB4.bm, hTB4.gP⟩ XW TN Wsof Wnote Wend i.1.1 i.2.1 i.1.2 i.2.2 (fun _ => Wdo i.1.1 i.1.2) me21, b20⟩
  have told : ∀ (k : Nat) (fr : List Str) (i : ToI), CalS l.prog w K mg base (k + 1) "_law_told" (gTold i.1 fr i.2) (spToldS l.prog w K mg base k [((He.ga K "QueueError"), "QueueError"), ((He.ga K "StoreError"), "StoreError")] i.1 fr i.2) := fun k fr i => ⟨_, _, _, ok_told2 F33 scTold (by rfl) rfl TQ.g rfl TE.g rfl (Or.inl rfl) (fun _ => rfl), gl33, F33.kp, b33⟩
  refine fn_of lkL cdL scLaw (fun vs H Q E h => ?_) fun A outer s H vs Q E hr hsp => ?_
  · obtain ⟨a, ns, rfl, _⟩ := h
    rfl
  obtain ⟨t, ht, hq⟩ := law_body (f := He.fAd K ("law", none)) (cL := (He.cT K ("law", none)).1) (PL := (He.cT K ("law", none)).2) (A := A) (outer := outer) (s0 := s) (H0 := H) (E := E) hr Lround
    (fun rd => st_dice (fun h => st_head hr TG Lroll Dmk h) (st_loop (st_turn hr hne Lroll Darm Dcrash Drest Wend (st_flow hr hTBL (fun i => told 20 NLWf i) gl33 F33.kp Winit) (st_go hr hTBL (fun i => told 13 NLg i) gl33 F33.kp XW Wgo me20 Ldo Lundo TE (exB c.more).2.2.2.2.2.2.2.2.2.2.2.2.2.2.2.2.2.2.2.2.2.2.1))) (st_due hr) (st_chk5 hr Wend (st_goE hr hTBL XW Wgo me20 Ldo Lundo)) (st_chk6 hr) (fun h => st_chk7 hr TG Wsof h) (fun h => st_chk9 hr XW Dcrash Drest Winit Wend h))
    (fun rd => st_tail hr hTBL XW (fun i => told 20 i.1 i.2) gl33 F33.kp TQ Dmk Dapp Winit Wnote Wsof Wend) hsp
  exact ⟨t, ht.nox, hq⟩
end Sd
open PySem PySem.W PySem.Calls PyProof.Rows
set_option maxRecDepth 100000 in
set_option maxHeartbeats 0 in
theorem PySem.Challenge.cw_shardstack_k24_steps_that_are_all_done_o_holds : PySem.Challenge.rw_shardstack_k24_steps_that_are_all_done_o.Holds := by
  w_on; o_law
  refine HandSHeadRun.head_any (r := OpenLaw.row PySem.Challenge.rw_shardstack_k24_steps_that_are_all_done_o) (q := view (OpenLaw.row PySem.Challenge.rw_shardstack_k24_steps_that_are_all_done_o).prog [37]) (H := Sd.hk) (ob := Sd.hob) (M := 8000) (loose := Sd.hloose) (d := HandSHeadRun.topDef (OpenLaw.row PySem.Challenge.rw_shardstack_k24_steps_that_are_all_done_o).prog 37) (kwd := []) Sd.hob_eq
    (by kernel_rfl) (fun s => by kernel_rfl) Sd.hrun (by kernel_rfl) (by kernel_rfl) (by kernel_rfl) (by rfl) (by first | assumption | decide +kernel) (by decide +kernel) ⟨rfl, rfl, rfl, rfl, rfl, by decide +kernel⟩ ?hw ?hc
  case hw => w_witness2
  case hc =>
    refine LamX.walk_ofTsE (l := PySem.Challenge.rw_shardstack_k24_steps_that_are_all_done_o) (n := 63) (k := 23) (x := "script") (CX := fun _ => L2.CX0) rfl (by decide) (by kernel_rfl) ⟨rfl, by decide, by decide⟩ ?F (fun _ _ _ _ _ z => z)
    intro w mg fa h Y G hmg0
    obtain ⟨K, KX, c⟩ := Y
    have hmg : mg ("law" : PySem.Str) = some (.ref fa) := by
      have e : (HandSHeadRun.topDef (OpenLaw.row PySem.Challenge.rw_shardstack_k24_steps_that_are_all_done_o).prog 37).name = ("law" : PySem.Str) := by kernel_rfl
      rw [← e]
      exact hmg0
    exact ⟨K, KX, Sd.all_mk KX G hmg c⟩
#print axioms PySem.Challenge.cw_shardstack_k24_steps_that_are_all_done_o_holds

