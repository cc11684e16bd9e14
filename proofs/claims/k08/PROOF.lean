import PyProof.Rows.All
import Wide.All
import OpenK.AllK
import Wide.FinOn
import HandS.ForMost
import HandS.Flow
import HandS.Style
import HandS.Codes
import HandS.SortInts
import HandS.Conv
import HandS.Nested
import HandS.TryOnly
import HandS.ExcOwn
import HandS.WordsExc
import HandS.Small
import HandS.EndOwn
import HandS.Defaults
import KE.DataEq
import HandS.GenList
import HandS.AnyAll
import HandS.JoinGen
import PyProof.TupleOfGen
import HandS.Walk
import HandS.HeadHook4
import HandS.HeadWalk
import HandS.Head2
import HandS.HeadEnd
import PySem.Challenge.RW_shardstack_k08_who_hears_of_whom
import HandS.More
import KE.KExcLine
set_option Elab.async false
set_option maxRecDepth 100000
set_option maxHeartbeats 4000000
namespace Sd
open PySem L2

/-! ### the ledger: objects of the heap, all at different places -/
abbrev Lg := List (Addr × HO)
def Led (H : Hp) (L : Lg) : Prop := (∀ x ∈ L, H x.1 = some x.2) ∧ (L.map (·.1)).Nodup
/-- the object at a is known -/
def At (L : Lg) (a : Addr) (o : HO) : Prop := ∃ i : Nat, L[i]? = some (a, o)
section
variable {H H' : Hp} {L A B C R : Lg} {a p : Addr} {o o' : HO}
theorem Led.mem (h : Led H L) (m : (a, o) ∈ L) : H a = some o := h.1 _ m
theorem Led.at (h : Led H L) (e : At L a o) : H a = some o := let ⟨_, q⟩ := e; h.1 _ (List.mem_of_getElem? q)
theorem Led.ne (h : Led H L) (e : At L a o) (hp : H p = none) : a ≠ p := ne_of_none (h.at e) hp
theorem Led.nin (h : Led H L) (hp : H p = none) : p ∉ L.map (·.1) := fun m => by
  obtain ⟨x, hx, e⟩ := List.mem_map.mp m
  have := h.1 x hx
  rw [e, hp] at this
  cases this
theorem Led.new (h : Led H L) (hp : H p = none) : Led (upd H p o) ((p, o) :: L) := by
  refine ⟨fun x hx => ?_, ?_⟩
  · rcases List.mem_cons.mp hx with e | hx
    · rw [e]; exact upd_same
    · have := h.1 x hx
      rw [upd_ne (ne_of_none this hp)]; exact this
  · rw [List.map_cons]
    exact List.nodup_cons.mpr ⟨h.nin hp, h.2⟩
theorem Led.skip (h : Led H L) (hp : H p = none) : Led (upd H p o) L :=
  let q := h.new (o := o) hp
  ⟨fun x hx => q.1 x (List.mem_cons_of_mem _ hx), h.2⟩
theorem Led.perm (h : Led H L) (q : L.Perm B) : Led H B := ⟨fun x hx => h.1 x (q.mem_iff.mpr hx), (q.map _).nodup_iff.mp h.2⟩
theorem Led.head (h : Led H ((a, o) :: B)) : Led (upd H a o') ((a, o') :: B) := by
  have n : a ∉ B.map (·.1) := (List.nodup_cons.mp h.2).1
  refine ⟨fun x hx => ?_, h.2⟩
  rcases List.mem_cons.mp hx with e | hx
  · rw [e]; exact upd_same
  · rw [upd_ne (fun e => n (List.mem_map.mpr ⟨x, hx, e⟩))]
    exact h.1 x (List.mem_cons_of_mem _ hx)
theorem Led.mid (h : Led H (A ++ (a, o) :: B)) : Led (upd H a o') (A ++ (a, o') :: B) :=
  (((h.perm List.perm_middle).head (o' := o')).perm List.perm_middle.symm)
theorem Led.set (i : Nat) (h : Led H L) (e : L[i]? = some (a, o)) : Led (upd H a o') (L.set i (a, o')) := by
  obtain ⟨hi, e⟩ := List.getElem?_eq_some_iff.mp e
  have s1 : L = L.take i ++ (a, o) :: L.drop (i + 1) := by
    rw [← e, List.getElem_cons_drop, List.take_append_drop]
  rw [s1] at h
  have q := h.mid (o' := o')
  rw [List.set_eq_take_append_cons_drop, if_pos hi]
  exact q
theorem Led.swap (h : Led H (A ++ (B ++ C))) : Led H (B ++ (A ++ C)) := by
  refine h.perm ?_
  rw [← List.append_assoc, ← List.append_assoc]
  exact List.perm_append_comm.append_right _
theorem Led.sub (h : Led H L) (q : B.Sublist L) : Led H B := ⟨fun x hx => h.1 x (q.subset hx), h.2.sublist (q.map _)⟩
theorem Led.drop (h : Led H (A ++ B)) : Led H B := h.sub (List.sublist_append_right _ _)
theorem Led.left (h : Led H (A ++ B)) : Led H A := h.sub (List.sublist_append_left _ _)
theorem Led.tail (h : Led H ((a, o) :: B)) : Led H B := h.sub (List.sublist_cons_self _ _)
theorem Led.nil : Led H [] := ⟨fun _ hx => (nomatch hx), List.nodup_nil⟩
theorem Led.mono (h : Led H L) (e : ∀ x ∈ L, H' x.1 = some x.2) : Led H' L := ⟨e, h.2⟩
end

/-! ### an instance's attributes, a dict with written keys: names and values -/
def fz (names : List Str) (vals : List V) : List (Str × V) := names.zip vals
def dz (names : List Str) (vals : List V) : List (Key × V) := (names.map Sum.inr).zip vals
theorem fz_at {f : Str} {v : V} : ∀ (i : Nat) {names : List Str} {vals : List V}, names.Nodup → names[i]? = some f → vals[i]? = some v → (fz names vals).lookup f = some v
  | 0, n :: ns, w :: ws, _, h1, h2 => by
    simp only [List.getElem?_cons_zero, Option.some.injEq] at h1 h2
    subst h1 h2
    simp [fz]
  | i + 1, n :: ns, w :: ws, nd, h1, h2 => by
    rw [List.getElem?_cons_succ] at h1 h2
    obtain ⟨n1, n2⟩ := List.nodup_cons.mp nd
    have ne : ¬ f = n := fun e => n1 (e ▸ List.mem_of_getElem? h1)
    have ih := fz_at i n2 h1 h2
    unfold fz at ih ⊢
    rw [List.zip_cons_cons, List.lookup_cons, beq_eq_false_iff_ne.mpr ne]
    exact ih
  | _, [], _, _, h1, _ => by simp at h1
  | _, _ :: _, [], _, _, h2 => by simp at h2
theorem fz_no {f : Str} : ∀ {names : List Str} {vals : List V}, f ∉ names → (fz names vals).lookup f = none
  | [], _, _ => by simp [fz]
  | _ :: _, [], _ => by simp [fz]
  | n :: ns, w :: ws, h => by
    have ne : ¬ f = n := fun e => h (by rw [e]; exact List.mem_cons_self)
    have ih := fz_no (f := f) (names := ns) (vals := ws) fun m => h (List.mem_cons_of_mem _ m)
    unfold fz at ih ⊢
    rw [List.zip_cons_cons, List.lookup_cons, beq_eq_false_iff_ne.mpr ne]
    exact ih
theorem fz_put {f : Str} {v : V} : ∀ (i : Nat) {names : List Str} {vals : List V}, names.Nodup → names[i]? = some f → i < vals.length → putF f v (fz names vals) = fz names (vals.set i v)
  | 0, n :: ns, w :: ws, _, h1, _ => by
    simp only [List.getElem?_cons_zero, Option.some.injEq] at h1
    subst h1
    unfold fz
    rw [List.zip_cons_cons, putF, if_pos rfl]
    rfl
  | i + 1, n :: ns, w :: ws, nd, h1, h2 => by
    rw [List.getElem?_cons_succ] at h1
    obtain ⟨n1, n2⟩ := List.nodup_cons.mp nd
    have ne : ¬ n = f := fun e => n1 (e.symm ▸ List.mem_of_getElem? h1)
    have ih := fz_put (v := v) i (vals := ws) n2 h1 (by simpa using h2)
    unfold fz at ih ⊢
    rw [List.zip_cons_cons, putF, if_neg ne, ih]
    rfl
  | _, [], _, _, h1, _ => by simp at h1
  | _, _ :: _, [], _, _, h2 => by simp at h2
theorem fz_new {f : Str} {v : V} : ∀ {names : List Str} {vals : List V}, f ∉ names → names.length = vals.length → putF f v (fz names vals) = fz (names ++ [f]) (vals ++ [v])
  | [], [], _, _ => rfl
  | [], _ :: _, _, h => by simp at h
  | _ :: _, [], _, h => by simp at h
  | n :: ns, w :: ws, h, hl => by
    have ne : ¬ n = f := fun e => h (by rw [e]; exact List.mem_cons_self)
    have ih := fz_new (f := f) (v := v) (names := ns) (vals := ws) (fun m => h (List.mem_cons_of_mem _ m)) (by simpa using hl)
    unfold fz at ih ⊢
    rw [List.zip_cons_cons, putF, if_neg ne, ih]
    rfl
theorem fz_len {names : List Str} {vals : List V} : (fz names vals).length ≤ names.length := by
  unfold fz
  rw [List.length_zip]
  exact Nat.min_le_left _ _
theorem fz_nil : ([] : List (Str × V)) = fz [] [] := rfl
theorem dz_at {f : Str} {v : V} : ∀ (i : Nat) {names : List Str} {vals : List V}, names.Nodup → names[i]? = some f → vals[i]? = some v → valV (dz names vals) (Sum.inr f) = some v
  | 0, n :: ns, w :: ws, _, h1, h2 => by
    simp only [List.getElem?_cons_zero, Option.some.injEq] at h1 h2
    subst h1 h2
    exact valV_pos (p := (Sum.inr n, w)) rfl
  | i + 1, n :: ns, w :: ws, nd, h1, h2 => by
    rw [List.getElem?_cons_succ] at h1 h2
    obtain ⟨n1, n2⟩ := List.nodup_cons.mp nd
    have ne : ¬ (Sum.inr n : Key) = Sum.inr f := fun e => n1 ((Sum.inr.inj e).symm ▸ List.mem_of_getElem? h1)
    have ih := dz_at i n2 h1 h2
    show valV ((Sum.inr n, w) :: dz ns ws) (Sum.inr f) = some v
    rw [valV_neg ne]
    exact ih
  | _, [], _, _, h1, _ => by simp at h1
  | _, _ :: _, [], _, _, h2 => by simp at h2
theorem dz_put {f : Str} {v : V} (i : Nat) {names : List Str} {vals : List V} (nd : names.Nodup) (h1 : names[i]? = some f) (h2 : i < vals.length) : putK (dz names vals) (Sum.inr f) v = dz names (vals.set i v) := by
  have e1 : vals[i]? = some vals[i] := List.getElem?_eq_getElem h2
  have hs : valV (dz names vals) (Sum.inr f) = some vals[i] := dz_at i nd h1 e1
  unfold putK
  rw [valV_any, hs]
  rw [if_pos (by rfl)]
  clear hs e1
  induction names generalizing vals i with
  | nil => simp at h1
  | cons n ns ih =>
    cases vals with
    | nil => simp at h2
    | cons w ws =>
      obtain ⟨n1, n2⟩ := List.nodup_cons.mp nd
      cases i with
      | zero =>
        simp only [List.getElem?_cons_zero, Option.some.injEq] at h1
        subst h1
        show (if (Sum.inr n : Key) = Sum.inr n then ((Sum.inr n : Key), v) else (Sum.inr n, w)) :: (dz ns ws).map _ = (Sum.inr n, v) :: dz ns ws
        rw [if_pos rfl]
        congr 1
        have : ∀ kv ∈ dz ns ws, (fun kv : Key × V => if kv.1 = Sum.inr n then (kv.1, v) else kv) kv = id kv := fun kv hk => by
          have m : kv.1 ∈ ns.map (Sum.inr : Str → Key) := (List.of_mem_zip hk).1
          obtain ⟨z, hz, e⟩ := List.mem_map.mp m
          have ne : ¬ kv.1 = Sum.inr n := fun q => n1 (by rw [← e] at q; exact (Sum.inr.inj q) ▸ hz)
          simp [ne]
        rw [List.map_congr_left this, List.map_id]
      | succ i =>
        rw [List.getElem?_cons_succ] at h1
        have ne : ¬ (Sum.inr n : Key) = Sum.inr f := fun e => n1 ((Sum.inr.inj e).symm ▸ List.mem_of_getElem? h1)
        show (if (Sum.inr n : Key) = Sum.inr f then ((Sum.inr n : Key), v) else (Sum.inr n, w)) :: (dz ns ws).map _ = (Sum.inr n, w) :: dz ns (ws.set i v)
        rw [if_neg ne, ih i n2 h1 (by simpa using h2)]
theorem mergeK_nd : ∀ (more kvs : List (Key × V)), ((kvs ++ more).map (·.1)).Nodup → mergeK kvs more = kvs ++ more
  | [], kvs, _ => by rw [List.append_nil]; rfl
  | p :: r, kvs, h => by
    have hp : valV kvs p.1 = none := by
      cases e : valV kvs p.1 with
      | none => rfl
      | some v =>
        have m := valV_in e
        rw [List.map_append, List.map_cons] at h
        have := (List.nodup_append.mp h).2.2 _ m _ List.mem_cons_self
        exact absurd rfl this
    have e : mergeK kvs (p :: r) = mergeK (putK kvs p.1 p.2) r := rfl
    rw [e, putK_new _ hp, mergeK_nd r (kvs ++ [(p.1, p.2)]) (by rw [List.append_assoc]; exact h), List.append_assoc]
    rfl
end Sd


namespace Sd
open PySem L2
/-- a word that the walk does not open -/
inductive Hold (p : Prop) : Prop where
  | mk (h : p)
  | mk' (h : p)
theorem Hold.out {p : Prop} (h : Hold p) : p := by cases h <;> assumption

section
variable {K : PySem.W.Frag} {H H1 : Hp} {L : Lg} {a b l p q : Addr} {o : HO} {P : V → Prop} {f : Str} {C dx : Addr} {fs : List (Str × V)} {v y : V} {xs ys : List V} {kvs : List (Key × V)} {names : List Str} {vals : List V}
theorem k_fld {P : Addr → Addr → V → Prop} (hL : Led H L) (e : At L a (.ins C dx fs)) (c : Cls K C) (n : NoAttr K C f) (lk : fs.lookup f = some v) (q : P a C v) :
    ∃ a' C' dx' fs' v', V.ref a = .ref a' ∧ H a' = some (.ins C' dx' fs') ∧ Cls K C' ∧ NoAttr K C' f ∧ fs'.lookup f = some v' ∧ P a' C' v' := ⟨_, _, _, _, _, rfl, hL.at e, c, n, lk, q⟩
/-- the ledger behind a change at a -/
def Upd (L : Lg) (a : Addr) (o o' : HO) (L' : Lg) : Prop := ∃ i : Nat, L[i]? = some (a, o) ∧ L' = L.set i (a, o')
theorem Upd.at {o' : HO} {L' : Lg} (u : Upd L a o o' L') : At L a o := let ⟨i, e, _⟩ := u; ⟨i, e⟩
theorem Led.upU {o' : HO} {L' : Lg} (hL : Led H L) (u : Upd L a o o' L') (hH : L2.upd H a o' = H1) : Led H1 L' := by
  obtain ⟨i, e, rfl⟩ := u
  rw [← hH]; exact hL.set i e
theorem Led.upF {fs' : List (Str × V)} {L' : Lg} (hL : Led H L) (u : Upd L a (.ins C dx fs) (.ins C dx fs') L') (e : putF f v fs = fs') (hH : L2.upd H a (.ins C dx (putF f v fs)) = H1) : Led H1 L' := by
  rw [e] at hH; exact hL.upU u hH
theorem Led.newH (hL : Led H L) (hp : H p = none) (hH : L2.upd H p o = H1) : Led H1 ((p, o) :: L) := by
  rw [← hH]; exact hL.new hp
theorem Led.made {x : Addr} (hL : Led H L) (hx : H x = none) (hd : H dx = none) (ne : dx ≠ x) (hH : L2.upd (L2.upd H dx (.own x)) x (.ins C dx []) = H1) : Led H1 ((x, .ins C dx (fz [] [])) :: L) := by
  rw [← hH]; exact (hL.skip hd).new (by rw [upd_ne ne.symm]; exact hx)
theorem Led.last {A R : Lg} {x : Addr × HO} (h : Led H (x :: (A ++ R))) : Led H ((A ++ [x]) ++ R) := by
  refine h.perm ?_
  rw [List.append_assoc]
  exact List.perm_middle.symm
/-- o.m(..): the object -/
theorem k_meth {P : Prop} (hL : Led H L) (e : At L a (.ins C dx fs)) (lk : fs.lookup f = none) (q : P) :
    ∃ a' dx' fs', V.ref a = .ref a' ∧ H a' = some (.ins C dx' fs') ∧ fs'.lookup f = none ∧ P := ⟨_, _, _, rfl, hL.at e, lk, q⟩
theorem k_dgetS {P : Addr → V → Prop} {x : Str} (hL : Led H L) (e : At L a (.dK kvs)) (lk : valV kvs (.inr x) = some v) (q : P a v) : ∃ a' v', V.ref a = .ref a' ∧ DGet H a' (.str x) (some v') ∧ P a' v' :=
  ⟨_, _, rfl, lk ▸ (DGet.k (k := .inr x) (hL.at e)), q⟩
theorem k_dgetI {P : Addr → V → Prop} {n : Int} (hL : Led H L) (e : At L a (.dK kvs)) (lk : valV kvs (.inl n) = some v) (q : P a v) : ∃ a' v', V.ref a = .ref a' ∧ DGet H a' (.int n) (some v') ∧ P a' v' :=
  ⟨_, _, rfl, lk ▸ (DGet.k (k := .inl n) (hL.at e)), q⟩
theorem k_dinS {P : Option V → Prop} {x : Str} (hL : Led H L) (e : At L a (.dK kvs)) (q : P (valV kvs (.inr x))) : ∃ a' o', V.ref a = .ref a' ∧ DGet H a' (.str x) o' ∧ P o' :=
  ⟨_, _, rfl, DGet.k (k := .inr x) (hL.at e), q⟩
theorem k_dinI {P : Option V → Prop} {n : Int} (hL : Led H L) (e : At L a (.dK kvs)) (q : P (valV kvs (.inl n))) : ∃ a' o', V.ref a = .ref a' ∧ DGet H a' (.int n) o' ∧ P o' :=
  ⟨_, _, rfl, DGet.k (k := .inl n) (hL.at e), q⟩
/-- d.get(k): the dict, then the answer -/
theorem k_isd {P : Prop} (hL : Led H L) (e : At L a (.dK kvs)) (q : P) : IsD H a ∧ P := ⟨.inl ⟨_, .inl (hL.at e)⟩, q⟩
theorem k_lenL' {P : Prop} (hL : Led H L) (e : At L l (.lst xs)) (q : P) : (SqL K H l xs ∨ SqT K H l xs) ∧ P := ⟨.inl (.of (hL.at e)), q⟩
theorem k_getI {P : Option V → Prop} {n : Int} (hL : Led H L) (e : At L a (.dK kvs)) (q : P (valV kvs (.inl n))) : ∃ o', DGet H a (.int n) o' ∧ P o' := ⟨_, DGet.k (k := .inl n) (hL.at e), q⟩
theorem k_getS {P : Option V → Prop} {x : Str} (hL : Led H L) (e : At L a (.dK kvs)) (q : P (valV kvs (.inr x))) : ∃ o', DGet H a (.str x) o' ∧ P o' := ⟨_, DGet.k (k := .inr x) (hL.at e), q⟩
theorem k_popI {P : List (Key × V) → Key → V → Prop} {n : Int} (hL : Led H L) (e : At L a (.dK kvs)) (lk : valV kvs (.inl n) = some v) (q : P kvs (.inl n) v) :
    ∃ kvs' k' v', H a = some (.dK kvs') ∧ V.int n = kV k' ∧ valV kvs' k' = some v' ∧ P kvs' k' v' := ⟨_, .inl n, _, hL.at e, rfl, lk, q⟩
theorem k_listD {P : List (Key × V) → Prop} (hL : Led H L) (e : At L a (.dK kvs)) (q : P kvs) : ∃ p kvs', [V.ref a] = [.ref p] ∧ H p = some (.dK kvs') ∧ P kvs' := ⟨_, _, rfl, hL.at e, q⟩
theorem Led.front {A B : Lg} {x : Addr × HO} (h : Led H (A ++ x :: B)) : Led H (x :: (A ++ B)) := h.perm List.perm_middle
theorem Led.back {A B : Lg} {x : Addr × HO} (h : Led H (x :: (A ++ B))) : Led H (A ++ x :: B) := h.perm List.perm_middle.symm
theorem k_dputS {P : Hp → Prop} {x : Str} {kvs' : List (Key × V)} {L' : Lg} (hL : Led H L) (e : At L a (.dK kvs)) (hz : kvs.length < sizeLine) (ep : putK kvs (.inr x) v = kvs') (u : Upd L a (.dK kvs) (.dK kvs') L')
    (q : ∀ H1, Led H1 L' → P H1) : ∃ a' H4, V.ref a = .ref a' ∧ DPut H a' (.str x) v H4 ∧ P H4 :=
  ⟨_, _, rfl, DPut.k (k := .inr x) (hL.at e) hz, q _ (hL.upU (ep ▸ u) rfl)⟩
theorem k_dputI {P : Hp → Prop} {n : Int} {kvs' : List (Key × V)} {L' : Lg} (hL : Led H L) (e : At L a (.dK kvs)) (hz : kvs.length < sizeLine) (ep : putK kvs (.inl n) v = kvs') (u : Upd L a (.dK kvs) (.dK kvs') L')
    (q : ∀ H1, Led H1 L' → P H1) : ∃ a' H4, V.ref a = .ref a' ∧ DPut H a' (.int n) v H4 ∧ P H4 :=
  ⟨_, _, rfl, DPut.k (k := .inl n) (hL.at e) hz, q _ (hL.upU (ep ▸ u) rfl)⟩
theorem dz_len : (dz names vals).length ≤ names.length := by unfold dz; rw [List.length_zip, List.length_map]; exact Nat.min_le_left _ _
theorem k_ixL {n : Int} (hL : Led H L) (e : At L l (.lst xs)) (lk : atI xs n = some v) (q : P v) : ∃ p xs' i v', V.ref l = .ref p ∧ V.int n = .int i ∧ SqL K H p xs' ∧ atI xs' i = some v' ∧ P v' :=
  ⟨_, _, _, _, rfl, rfl, .of (hL.at e), lk, q⟩
theorem k_ixT {n : Int} (hL : Led H L) (e : At L l (.tup xs)) (lk : atI xs n = some v) (q : P v) : ∃ p xs' i v', V.ref l = .ref p ∧ V.int n = .int i ∧ SqT K H p xs' ∧ atI xs' i = some v' ∧ P v' :=
  ⟨_, _, _, _, rfl, rfl, .of (hL.at e), lk, q⟩
theorem k_tyL {P : Prop} (hL : Led H L) (e : At L l (.lst xs)) (q : P) : tyV K "list" (.ref l) H ∧ P := ⟨.inl ⟨rfl, _, .of (hL.at e)⟩, q⟩
theorem k_lenL {P : Nat → Prop} (hL : Led H L) (e : At L l (.lst xs)) (q : P xs.length) : ∃ p ys, [V.ref l] = [.ref p] ∧ (SqL K H p ys ∨ SqT K H p ys) ∧ P ys.length := ⟨_, _, rfl, .inl (.of (hL.at e)), q⟩
theorem k_lenT {P : Nat → Prop} (hL : Led H L) (e : At L l (.tup xs)) (q : P xs.length) : ∃ p ys, [V.ref l] = [.ref p] ∧ (SqL K H p ys ∨ SqT K H p ys) ∧ P ys.length := ⟨_, _, rfl, .inr (.of (hL.at e)), q⟩
theorem k_gtup {P : List V → Prop} {n : Nat} (hL : Led H L) (e : At L a (.tup xs)) (hn : xs.length = n) (q : P xs) : ∃ a' xs', V.ref a = .ref a' ∧ SqT K H a' xs' ∧ xs'.length = n ∧ P xs' := ⟨_, _, rfl, .of (hL.at e), hn, q⟩
theorem k_cat {Q : VK} (hL : Led H L) (e1 : At L l (.lst xs)) (e2 : At L b (.lst ys)) (hz : xs.length + ys.length ≤ sizeLine) (q : ∀ p, H p = none → Q (.ref p) (L2.upd H p (.lst (xs ++ ys)))) : rCat (.ref l) (.ref b) H Q :=
  ⟨_, _, _, _, rfl, rfl, hL.at e1, hL.at e2, hz, q⟩
theorem k_yes {σ : L2.St} {A B : Hp → Prop} (h : A H) : tYes σ H fun b H3 => if b = true then A H3 else B H3 := by
  show (if true = true then A H else B H)
  rw [if_pos rfl]
  exact h
theorem ite_d {c A B : Prop} [Decidable c] (a : c → A) (b : ¬ c → B) : if decide c = true then A else B := by
  by_cases h : c
  · rw [if_pos (decide_eq_true h)]; exact a h
  · rw [if_neg (by rw [decide_eq_false h]; decide)]; exact b h
theorem ite_n {c A B : Prop} [Decidable c] (a : ¬ c → A) (b : c → B) : if (!decide c) = true then A else B := by
  by_cases h : c
  · rw [decide_eq_true h]; exact b h
  · rw [decide_eq_false h]; exact a h
theorem ite_b {b : Bool} {A B : Prop} (h1 : b = true → A) (h2 : b = false → B) : if b = true then A else B := by
  cases b with
  | true => exact h1 rfl
  | false => exact h2 rfl
theorem ite_t {b : Bool} {A B : Prop} (e : b = true) (h : A) : if b = true then A else B := by rw [if_pos e]; exact h
theorem ite_f {b : Bool} {A B : Prop} (e : b = false) (h : B) : if b = true then A else B := by rw [e]; exact h
end
end Sd


/-! A lambda without parameters as a value: made, kept, called by another def; what told makes of it. -/
namespace Sd
open PySem PySem.Spec PyProof.Rows L2 LamX NdefX
/-- the object at f is the lambda whose words F tells, its body b -/
def LamO (f : Addr) (F : NF) (b : Expr) : HO := .ext fun h => ∃ pm ctv : Value, h.get? f = some (PySem.W.kla_obj F.name F.qual F.params b F.scope F.cl pm F.c ctv)
theorem lamO_at {P : Program} {w : World} {H : Hp} {h : Heap} {f : Addr} {F : NF} {b : Expr} (hok : HOk P w H h) (e : H f = some (LamO f F b)) : ∃ pm ctv : Value, h.get? f = some (PySem.W.kla_obj F.name F.qual F.params b F.scope F.cl pm F.c ctv) :=
  (hok f _ e).1
section
variable {X : Cx} {pins : List (Addr × Obj)} {σ : L2.St} {H : Hp} {s : Shared}
theorem inv_lam {F : NF} {b : Expr} {t' : Nat} {pm ctv : Value} (I : Inv X pins σ H s) :
    Inv X pins σ (upd H s.heap.objs.size (LamO s.heap.objs.size F b)) { s with heap := s.heap.push (PySem.W.kla_obj F.name F.qual F.params b F.scope F.cl pm F.c ctv), toks := t' } := by
  have e : (s.heap.push (PySem.W.kla_obj F.name F.qual F.params b F.scope F.cl pm F.c ctv)).get? s.heap.objs.size = some (PySem.W.kla_obj F.name F.qual F.params b F.scope F.cl pm F.c ctv) := Heap.get?_push_size _ rfl
  exact I.laid (fun b u e => Heap.get?_push_of_some _ e) (Nat.le_refl _) ⟨⟨pm, ctv, e⟩, ⟨_, e⟩, fun h1 h2 ⟨p, t, z⟩ st => ⟨p, t, st _ z⟩⟩
theorem lam_value {q : Str} {c P : Addr} {params : Arguments} {body : Expr} {scope : Scope} {pos : Pos} {E : Value → Shared → Prop} {Q : Value → Shared → Prop} (I : Inv X pins σ H s) (TB : TabB X.base X.mg c P) (hcode : X.env.code = .ref c) (hq : X.env.qual ++ "<lambda>" = q)
    (hT : TabS H P q) (hdef : defaultsOf params X.env = ([], [])) (hfree : ∀ y ∈ scope.names, y.2 = .free → ∃ c, X.env.cells.lookup y.1 = some c)
    (h : ∀ (f c' : Addr) (H1 : Hp) (s' : Shared), Inv X pins σ H1 s' → ExtN H H1 → TabS H1 P q → H f = none → H1 f = some (LamO f ⟨"<lambda>", q, params, [], scope, cloFrom X.env.cells scope.names [], c'⟩ body) → H1 c' = some (CodeO c' q) → Q (.ref f) s') :
    wpAny (model X.prog X.w) X.A (eval (.Lambda params body scope pos) X.env) Q E s := by
  subst hq
  obtain ⟨ps, hP, ht, ha⟩ := hT
  have bP : s.heap.BuiltinsAt X.mg P := TB.bm.keeps I.bk
  have hP' : s.heap.get? P = some { cls := .none, data := .fields ps } := I.hok P _ hP
  refine PySem.W.kla_eval hdef ?_
  rcases hc : codeAmong pos ps.toList with _ | cv
  · refine PySem.W.kla_makeFunction (mg := X.mg) (c := c) (P := P) (ps := ps) (closure_ok hfree) I.ok.glob (I.mod.glob.keeps I.bk) hcode (TB.code.keeps I.bk) hP' ht hc TB.gP bP fun c' ctv h' tk hx hge hlt hrec htb => ?_
    obtain ⟨_, oc, vs, t, e2, hoc, hd, hv⟩ := hrec
    cases e2
    have nC : H c' = none := I.hok.fresh hge
    have I1 := inv_table (t' := tk) (more := #[rawInt pos.line, rawInt pos.col, .ref c']) (h' := h') I hP (fun b o hb e => hx b o hb e) htb hge ⟨oc, vs, t, hoc, hd, hv⟩
    have eN : ExtN H (upd (upd H P (.tbl (ps ++ #[rawInt pos.line, rawInt pos.col, .ref c']))) c' (CodeO c' (X.env.qual ++ "<lambda>"))) := fun b o e n => by
      rw [upd_ne (ne_of_none e nC), upd_ne (fun z => n ps (Option.some.inj (e.symm.trans (by rw [z]; exact hP))))]
      exact e
    have nF := I1.hok.fresh (Nat.le_refl _)
    have I2 := inv_lam (F := ⟨"<lambda>", X.env.qual ++ "<lambda>", params, [], scope, cloFrom X.env.cells scope.names [], c'⟩) (b := body) (t' := tk) (pm := (X.mg "__name__").getD .none) (ctv := ctv) I1
    have T1 : TabS (upd (upd H P (.tbl (ps ++ #[rawInt pos.line, rawInt pos.col, .ref c']))) c' (CodeO c' (X.env.qual ++ "<lambda>"))) P (X.env.qual ++ "<lambda>") := by
      have eL : (ps ++ #[rawInt pos.line, rawInt pos.col, .ref c']).toList = ps.toList ++ [rawInt pos.line, rawInt pos.col, .ref c'] := by simp
      refine ⟨_, by rw [upd_ne (ne_of_none hP nC), upd_same], by rw [eL]; exact PySem.TriplesOk_snoc _ _ _ _ ht, fun p' cv hcv => ?_⟩
      rw [eL] at hcv
      rcases among_app _ ht hcv with z | z
      · obtain ⟨c0, e1, e2⟩ := ha p' cv z
        exact ⟨c0, e1, eN _ _ e2 codeO_ne⟩
      · exact ⟨c', z, upd_same⟩
    refine h h'.objs.size c' _ _ I2 (fun b o e n => ?_) (T1.ext fun b o e => ?_) (I.hok.fresh (Nat.le_trans hge (Nat.le_of_lt hlt))) upd_same ?_
    · have e1 := eN b o e n
      exact (upd_ne (ne_of_none e1 nF)).trans e1
    · exact (upd_ne (ne_of_none e nF)).trans e
    · exact (upd_ne (Nat.ne_of_lt hlt)).trans upd_same
  · obtain ⟨c', e, hco⟩ := ha pos cv hc
    subst e
    refine PySem.W.kla_makeFunctionHit (mg := X.mg) (c := c) (P := P) (ps := ps) (closure_ok hfree) I.ok.glob (I.mod.glob.keeps I.bk) hcode (TB.code.keeps I.bk) hP' ht hc bP fun ctv h' tk hx hsz => ?_
    have I1 : Inv X pins σ H { s with heap := h', toks := tk } := I.kept hx
    have nF : H h'.objs.size = none := I1.hok.fresh (Nat.le_refl _)
    have I2 := inv_lam (F := ⟨"<lambda>", X.env.qual ++ "<lambda>", params, [], scope, cloFrom X.env.cells scope.names [], c'⟩) (b := body) (t' := tk) (pm := (X.mg "__name__").getD .none) (ctv := ctv) I1
    refine h h'.objs.size c' _ _ I2 (fun b o e n => ?_) (TabS.ext ⟨ps, hP, ht, ha⟩ fun b o e => ?_) nF upd_same ?_
    · exact (upd_ne (ne_of_none e nF)).trans e
    · exact (upd_ne (ne_of_none e nF)).trans e
    · exact (upd_ne (ne_of_none hco nF)).trans hco
end
/-- lambda: body; the names that it captures: none -/
def tLamV (P : Addr) (q : Str) (params : Arguments) (body : Expr) (scope : Scope) : TE := fun _ H Q => TabS H P q ∧ ∀ (f c' : Addr) (H1 : Hp), ExtN H H1 → TabS H1 P q → H f = none → H1 f = some (LamO f ⟨"<lambda>", q, params, [], scope, [], c'⟩ body) → H1 c' = some (CodeO c' q) → Q (.ref f) H1
theorem clo_nil {cells : List (Str × Addr)} : ∀ {names : List (Str × NameKind)}, (∀ y ∈ names, y.2 ≠ .free) → cloFrom cells names [] = []
  | [], _ => rfl
  | (x, k) :: r, h => by
    have ih := clo_nil (cells := cells) (names := r) fun y hy => h y (List.mem_cons_of_mem _ hy)
    have hk := h (x, k) List.mem_cons_self
    cases k <;> first | exact absurd rfl hk | (simp only [cloFrom]; first | exact ih | (rw [ih]) | simpa using ih)
theorem pe_lamv {X : Cx} {q : Str} {c P : Addr} {params : Arguments} {body : Expr} {scope : Scope} {pos : Pos} (TB : TabB X.base X.mg c P) (hcode : X.env.code = .ref c) (hq : X.env.qual ++ "<lambda>" = q) (hdef : defaultsOf params X.env = ([], []))
    (hfree : ∀ y ∈ scope.names, y.2 ≠ .free) : PE X (.Lambda params body scope pos) (tLamV P q params body scope) := by
  refine ⟨fun pins s σ H Q I h => ?_⟩
  obtain ⟨hT, h⟩ := h
  refine lam_value I TB hcode hq hT hdef (fun y hy e => absurd e (hfree y hy)) fun f c' H1 s' I1 eN T1 f0 f1 c1 => ?_
  rw [clo_nil hfree] at f1
  exact ⟨.ref f, H1, I1, rfl, h f c' H1 eN T1 f0 f1 c1⟩
/-! ### what it promises -/
structure LOk (P : Program) (w : World) (K : PySem.W.Frag) (mg : Str → Option Value) (base : Heap) (k : Nat) (f : Addr) (F : NF) (b : Expr) (tl : Hp → VK → XK → Prop) : Prop where
  run : ∀ (A : Around) (outer : List Env) (s : Shared) (H : Hp) (Q : VK) (E : XK), Room k A → Env0 P w K mg base A outer s H → H f = some (LamO f F b) → H F.c = some (CodeO F.c F.qual) → tl H Q E →
    codeAny (model P w) A (.call (.ref f) ⟨[], []⟩) (CR (L2.CX P w) outer P w H s Q E) s
section
variable {P : Program} {w : World} {K : PySem.W.Frag} {mg : Str → Option Value} {base : Heap} {F : NF} {f : Addr} {b : Expr} {k j : Nat} {tl : Hp → VK → XK → Prop}
theorem lok_of (S : NScope [] [] [] F.scope) (hcl : F.cl = []) (hb : ∀ pm cv ctv : Value, bindArgs (PySem.W.kla_fn F.name F.qual F.params b F.scope F.cl pm cv ctv) ⟨[], []⟩ = pure [])
    (hbody : ∀ (A : Around) (outer : List Env) (s : Shared) (H : Hp) (Q : VK) (E : XK), Room k (A.deeper (envF F f s.heap.objs.size)) → tl H Q E → ∃ t : TE, PE (ncx (L2.CX P w) P w K mg base [] F f A outer s H E) b t ∧ t [] H Q) :
    LOk P w K mg base (k + 1) f F b tl := by
  refine ⟨fun A outer s H Q E hr e0 hf hc h => ?_⟩
  have lim : s.heap.NoLimit := e0.mod.nolimit.keeps fun b o e => (e0.bs b o e).1
  obtain ⟨pm, ctv, ho⟩ := lamO_at e0.hok hf
  refine PySem.W.kla_callFunE hr.depth ho rfl S.co S.gen rfl (codeO_at e0.hok hc) ?_
  rw [hb]
  refine wpAny_pure (wpAny_newFunctionEnv S.nocell (fun y hy => absurd hy (by simp)) (fun h₁ hns hsb => ⟨lim.fresh _ hsb, ?_⟩) S.kind)
  show codeAny _ _ (.expr b (envF F f s.heap.objs.size)) _ _
  have kp : ∀ b o, s.heap.get? b = some o → h₁.get? b = some o := fun b o e => hsb.extBut b o (Nat.ne_of_lt (Heap.lt_size e)) (Heap.get?_push_of_some _ e)
  obtain ⟨t, ht, hq⟩ := hbody A outer s H Q E (hr.deeper _) h
  have C : CellsAt F.cl [] [] s.heap H := by
    rw [hcl]
    exact ⟨rfl, (fun y c e => by cases e), (fun x y c e => by cases e), (fun i y e => by simp at e)⟩
  have I : Inv (ncx (L2.CX P w) P w K mg base [] F f A outer s H E) [] (startF [] [] []) H { s with heap := h₁, toks := s.toks + ([] : List (Str × Value)).length } :=
    inv_startN (N := []) (ps := []) (fr := []) (vs := []) (us := []) (ws := []) S hr.hd e0 rfl .nil C hns kp
  refine PySem.W.kla_codeExpr (wpAny_mono (ht.run [] _ [] H Q I hq) (fun v s' hq => ?_) fun e s' hq => hq)
  obtain ⟨w', H', J', rv, q⟩ := hq
  exact ⟨w', H', J'.os, J'.bare, J'.base, J'.hok, rv, q⟩
end
/-- x(), x a name that holds a lambda -/
def tLamC (P : Program) (w : World) (K : PySem.W.Frag) (mg : Str → Option Value) (base : Heap) (k i : Nat) (W : WX) : TE := fun σ H Q => ∃ (f : Addr) (F : NF) (b : Expr) (tl : Hp → VK → XK → Prop) (E : XK), (∀ cls d σ' H', E cls d H' → W cls d σ' H') ∧
  σ[i]? = some (some (.ref f)) ∧ H f = some (LamO f F b) ∧ H F.c = some (CodeO F.c F.qual) ∧ LOk P w K mg base k f F b tl ∧ tl H Q E
theorem pe_lamc {X : Cx} {W : WX} {i k : Nat} {x : Str} {p pos : Pos} (tk : Takes X W) (hr : Room k X.A) (hN : X.N[i]? = some x) (hv : Vis X.env.scope x) (hd : (x == ("__debug__" : Str)) = false := by decide) (hcd : (x == ("__classdict__" : Str)) = false := by decide) :
    PE X (.Call (.Name x p) [] [] pos) (tLamC X.prog X.w X.K X.mg X.base k i W) := by
  refine ⟨fun pins s σ H Q I h => ?_⟩
  obtain ⟨f, F, b, tl, E, hW, hs, hf, hc, L, ht⟩ := h
  refine wpAny_Call_Name_kw (thn ((pe_var (pos := p) hN hv hd hcd).run pins s σ H (fun v H1 => v = .ref f ∧ H1 = H) I ⟨.ref f, hs, rfl, rfl⟩) fun u s1 ⟨v, H1, I1, r1, q1⟩ => ?_)
  obtain ⟨ev, eH⟩ := q1
  subst ev
  rw [eH] at I1
  obtain rfl : u = Value.ref f := r1
  obtain ⟨pm, ctv, ho⟩ := lamO_at I1.hok hf
  refine PySem.W.callWith_F0 (first := []) ⟨_, _, _, _, ho⟩ ?_
  show wpAny _ _ (call (.ref f) []) _ _ _
  refine wpAny_call (codeAny_mono (L.run X.A X.stack s1 H Q E hr I1.env0 hf hc ht) fun r s' hq => ?_)
  cases r with
  | error e => exact passes_call tk hW pins σ H s1 e s' I1 hq
  | ok fl =>
    cases fl with
    | ret u => exact I1.after hq
    | next => exact False.elim hq
    | brk => exact False.elim hq
    | cont => exact False.elim hq
/-- def told(what): try: return what() / except X: return ret -/
def spTold (P : Program) (w : World) (K : PySem.W.Frag) (mg : Str → Option Value) (base : Heap) (k : Nat) (CS : Addr) (ret : Str) : Sp := fun vs H Q _ => ∃ (f : Addr) (F : NF) (b : Expr) (tl : Hp → VK → XK → Prop), vs = [.ref f] ∧
  H f = some (LamO f F b) ∧ H F.c = some (CodeO F.c F.qual) ∧ LOk P w K mg base k f F b tl ∧ tl H Q (fun cls _ H' => ∃ b, PySem.W.exmOne K cls (.ref CS) = some b ∧ (b = true → Q (.str ret) H') ∧ (b = false → False))
theorem ps_told {P : Program} {w : World} {K : PySem.W.Frag} {mg : Str → Option Value} {base : Heap} {N : List Str} {q : Str} {sc : Scope} {g : Addr} {cdv : Value} {A : Around} {outer : List Env} {s : Shared} {H : Hp} {E : XK} {ret e a : Str} {CS : Addr} {k j : Nat} {p1 p2 p3 p4 p5 p6 p7 p8 : Pos} {Q : VK} {vs : List V}
    (hge : sc.names.lookup e = some .globalImplicit) (hme : mg e = some (.ref CS)) (hN : N[0]? = some a) (hv : Vis sc a) (h0 : ∀ f : Addr, (L2.start N [V.ref f])[0]? = some (some (V.ref f))) (hr : Room k (A.deeper (envOfC q sc s.heap.objs.size g cdv)))
    (h : spTold P w K mg base k CS ret vs H Q E) (hde : (e == ("__debug__" : Str)) = false := by decide) (hd : (a == ("__debug__" : Str)) = false := by decide) (hcd : (a == ("__classdict__" : Str)) = false := by decide) :
    ∃ t, PSs (cxOf C8.CX0 P w K mg base N q sc g cdv A outer s H E).nox [.Try [.Return (some (.Call (.Name a p1) [] [] p2)) p3] [.ExceptHandler (some (.Name e p4)) none [.Return (some (.Constant (.str ret) j p5)) p6] p7] [] [] p8] t ∧
      t { nx := fun _ H' => Q .non H', rt := Q } (L2.start N vs) H := by
  obtain ⟨f, F, b, tl, rfl, hf, hc, L, ht⟩ := h
  have hgl : Gl (cxOf C8.CX0 P w K mg base N q sc g cdv A outer s H E).nox e := hge
  refine ⟨_, pss_one (ps_try_only (c := .ref CS) (tb := fun W D σ H => tLamC P w K mg base k 0 W σ H D.rt) rfl rfl ⟨hgl, hde, .inl hme⟩ L2.takes0 (fun W pn xe tk _ => pss_one (ps_ret (pe_lamc tk hr hN hv hd hcd))) (fun a oe cls d pn _ _ => pss_one (ps_ret pe_str))), ?_⟩
  refine ⟨f, F, b, tl, _, fun cls d σ' H' q => ?_, h0 f, hf, hc, L, ht⟩
  obtain ⟨b, e1, e2, e3⟩ := q
  exact ⟨b, e1, fun hb a _ => e2 hb, fun hb => e3 hb⟩
/-! ### defs that may raise -/
structure MakX (P : Program) (w : World) (K : PySem.W.Frag) (mg : Str → Option Value) (base : Heap) (k : Nat) (x : Str) (C : Addr) (sp : Sp) (dvs : List V) : Prop where
  ex : ∃ (f : Addr) (fd : FuncData) (ps : List Str) (ds : List Value), Mk K C f ∧ FnOk P w K mg base (L2.CX P w) k f fd ps sp ∧ mg x = some (.ref C) ∧ Binds K fd ps ds ∧ Vals dvs ds
structure MetX (P : Program) (w : World) (K : PySem.W.Frag) (mg : Str → Option Value) (base : Heap) (k : Nat) (C : Addr) (m : Str) (sp : Sp) (dvs : List V) : Prop where
  ex : ∃ (f : Addr) (fd : FuncData) (ps : List Str) (ds : List Value), Cls K C ∧ Meth K C m f ∧ FnOk P w K mg base (L2.CX P w) k f fd ps sp ∧ Binds K fd ps ds ∧ Vals dvs ds
structure CalX (P : Program) (w : World) (K : PySem.W.Frag) (mg : Str → Option Value) (base : Heap) (k : Nat) (x : Str) (sp : Sp) (dvs : List V) : Prop where
  ex : ∃ (f : Addr) (fd : FuncData) (ps : List Str) (ds : List Value), FnOk P w K mg base (L2.CX P w) k f fd ps sp ∧ mg x = some (.ref f) ∧ PySem.W.keepIn K (.ref f) = true ∧ Binds K fd ps ds ∧ Vals dvs ds
section
variable {X : Cx} {k j : Nat} {C : Addr} {x m : Str} {sp : Sp} {dvs : List V} {p pos apos : Pos} {e o : Expr} {es : List Expr} {ta : TE} {t : TA} {E : XK}
theorem pe_cX (c : CalX X.prog X.w X.K X.mg X.base k x sp dvs) (hr : Room j X.A) (hk : k ≤ j) (hg : Gl X x) (tk : Takes X (fun cls d _ H => E cls d H)) (ha : PA X (e :: es) t)
    (hdb : (x == ("__debug__" : Str)) = false := by decide) (he : starEach (e :: es) X.env = (false, eval e X.env) :: starEach es X.env := by rfl) (hpl : (backTo pos (starEach es X.env)).any (·.1) = false := by rfl) :
    PE X (.Call (.Name x p) (e :: es) [] pos) (tCall sp dvs E t) := by
  obtain ⟨f, fd, ps, ds, F, hm, kp, b, d⟩ := c.ex
  exact pe_call F (hr.mono hk) hg hm kp b d (passes_call tk fun _ _ _ _ h => h) ha hdb he hpl
theorem pe_mkX (c : MakX X.prog X.w X.K X.mg X.base k x C sp dvs) (hr : Room j X.A) (hk : k + 1 ≤ j) (hg : Gl X x) (tk : Takes X (fun cls d _ H => E cls d H)) (ha : PA X (e :: es) t)
    (hdb : (x == ("__debug__" : Str)) = false := by decide) (he : starEach (e :: es) X.env = (false, eval e X.env) :: starEach es X.env := by rfl) (hpl : (backTo pos (starEach es X.env)).any (·.1) = false := by rfl) :
    PE X (.Call (.Name x p) (e :: es) [] pos) (tMake C sp dvs E t) := by
  obtain ⟨f, fd, ps, ds, M, F, hm, b, d⟩ := c.ex
  exact pe_make M F (hr.mono hk) hg hm b d (passes_call tk fun _ _ _ _ h => h) ha hdb he hpl
theorem pe_mtX {pl : Sem Bool} (c : MetX X.prog X.w X.K X.mg X.base k C m sp dvs) (hr : Room j X.A) (hk : k ≤ j) (tk : Takes X (fun cls d _ H => E cls d H)) (he : PE X o ta) (ha : PA X (e :: es) t)
    (hst : starEach (e :: es) X.env = (false, eval e X.env) :: starEach es X.env := by rfl) (hpl : (backTo pos (starEach es X.env)).any (·.1) = false := by rfl)
    (ht : eval (.Call (.Attribute o m apos) (e :: es) [] pos) X.env = (do
      let ov ← eval o X.env
      standAt apos.atName
      let (f, first) ← holding [ov] (getMethod ov m pl)
      callWith pos f first (backTo pos (starEach (e :: es) X.env)) (backToKw pos (keywordEach [] X.env))) := by rfl) :
    PE X (.Call (.Attribute o m apos) (e :: es) [] pos) (tMeth C m sp dvs E ta t) := by
  obtain ⟨f, fd, ps, ds, hc, hm, F, b, d⟩ := c.ex
  exact pe_meth (pl := pl) he hc hm F (hr.mono hk) b d (passes_call tk fun _ _ _ _ h => h) ha hst hpl ht
end
/-- an own error class below ValueError, without __init__ -/
structure ExcT (K : PySem.W.Frag) (mg : Str → Option Value) (x : Str) (C : Addr) : Prop where
  g : mg x = some (.ref C)
  ex : PySem.W.excIn K C [.type "ValueError", .type "Exception", .type "BaseException", .type "object"] "ValueError.__new__" = true
  kp : PySem.W.keepIn K (.ref C) = true
  sb : PySem.W.subIn K (.ref C) (.type "BaseException") = some true
  ty : PySem.W.typeIn K (.ref C) = some (.type "type")
  ic : PySem.W.isClsIn K C = true
  ss : PySem.W.subIn K (.ref C) (.ref C) = some true
theorem ExcT.em {K : PySem.W.Frag} {mg : Str → Option Value} {x : Str} {C : Addr} (T : ExcT K mg x C) : PySem.W.exmOne K (.ref C) (.ref C) = some true := by
  have ic : (PySem.W.clsIn K C).isSome = true := T.ic
  simp [PySem.W.exmOne, PySem.W.kitCls, T.sb, ic, T.ty, T.ss]
theorem ps_raiseT {X : Cx} {W : WX} {x m : Str} {C : Addr} {j : Nat} {p p2 pos pos2 : Pos} (T : ExcT X.K X.mg x C) (hc : X.calm = true) (tk : Takes X W) (hg : Gl X x) (hdb : (x == ("__debug__" : Str)) = false := by decide) :
    PS X (.Raise (some (.Call (.Name x p) [.Constant (.str m) j p2] [] pos)) none pos2) (fun _ σ H => W (.ref C) none σ H) :=
  ps_raise hc tk (pmk_own PySem.F.excBase_ValueError T.ex T.g T.kp (raises_own T.sb T.ty) hg hdb)
/-- Fun.ok for a def with defaults -/
theorem funD_ok0 {P : Program} {w : World} {K : PySem.W.Frag} {mg : Str → Option Value} {base : Heap} {x qual : Str} {params : Arguments} {body : List Stmt} {scope : Scope} {dvs : List V} {kws : List (Str × V)} {f : Addr} {fd : FuncData}
    {N ps : List Str} {k : Nat} {sp : Sp} (F : FunD K x qual params body scope dvs kws f fd) (S : FnScope N ps scope) (len : ∀ vs H Q E, sp vs H Q E → vs.length = ps.length)
    (hbody : ∀ (cdv : Value) (A : Around) (outer : List Env) (s : Shared) (H : Hp) (vs : List V) (Q : VK) (E : XK), Room k (A.deeper (envOfC qual scope s.heap.objs.size f cdv)) → sp vs H Q E →
      ∃ t, PSs (cxOf L2.CX0 P w K mg base N qual scope f cdv A outer s H E).nox body t ∧ t { nx := fun _ H' => Q .non H', rt := Q } (start N vs) H) : FnOk P w K mg base L2.CX0 (k + 1) f fd ps sp :=
  F.ok S len fun cdv A outer s H vs Q E hr hsp => let ⟨t, h, q⟩ := hbody cdv A outer s H vs Q E hr hsp; ⟨t, h.nox, q⟩
end Sd


/-! == and != of data without dicts: what the law compares. -/
namespace Sd
open PySem PySem.Spec PyProof.Rows L2
mutual
theorem eqv_self : ∀ d : PyData, d.plain = true → PyData.eqv d d = true
  | .none, _ => rfl
  | .bool b, _ => by simp [PyData.eqv]
  | .int i, _ => by simp [PyData.eqv]
  | .str x, _ => by simp [PyData.eqv]
  | .list xs, h => by
    simp only [PyData.eqv]
    exact eqv_selfAll xs (by simpa [PyData.plain] using h)
  | .tuple xs, h => by
    simp only [PyData.eqv]
    exact eqv_selfAll xs (by simpa [PyData.plain] using h)
  | .dict _, h => by simp [PyData.plain] at h
theorem eqv_selfAll : ∀ xs : List PyData, PyData.plainAll xs = true → PyData.eqvAll xs xs = true
  | [], _ => by simp [PyData.eqvAll]
  | x :: xs, h => by
    simp only [PyData.plainAll, Bool.and_eq_true] at h
    simp only [PyData.eqvAll, Bool.and_eq_true]
    exact ⟨eqv_self x h.1, eqv_selfAll xs h.2⟩
end
/-- data that may be compared: no dict, not deep -/
structure Shal (d : PyData) : Prop where
  p : d.plain = true
  d : d.depth ≤ 60
def rEqP (K : PySem.W.Frag) : R2 := fun x y H Q => ∃ d e, Dp K H x d ∧ Dp K H y e ∧ Shal d ∧ Shal e ∧ Q (.bl (PyData.eqv d e)) H
def rNeP (K : PySem.W.Frag) : R2 := fun x y H Q => ∃ d e, Dp K H x d ∧ Dp K H y e ∧ Shal d ∧ Shal e ∧ Q (.bl (!PyData.eqv d e)) H
section
variable {X : Cx}
theorem op_eqP (hu : X.A.units + 64 < cLine) : OpR X (compareOp .Eq) (rEqP X.K) := by
  intro pins s σ H x y v u Q I rx ry h
  obtain ⟨d, e, hd, he, sd, se, q⟩ := h
  obtain ⟨as, r1⟩ := Dp.reads I d x v hd rx
  obtain ⟨bs, r2⟩ := Dp.reads I e y u he ry
  have := sd.d
  exact PySem.SeqAt.eq_plain r1 r2 sd.p se.p (by omega) ⟨.bl _, H, I, rfl, q⟩
theorem op_neP (hu : X.A.units + 64 < cLine) : OpR X (compareOp .NotEq) (rNeP X.K) := by
  intro pins s σ H x y v u Q I rx ry h
  obtain ⟨d, e, hd, he, sd, se, q⟩ := h
  obtain ⟨as, r1⟩ := Dp.reads I d x v hd rx
  obtain ⟨bs, r2⟩ := Dp.reads I e y u he ry
  have := sd.d
  exact PySem.SeqAt.ne_plain r1 r2 sd.p se.p (by omega) ⟨.bl _, H, I, rfl, q⟩
end
section
variable {K : PySem.W.Frag} {H : Hp} {x y : V} {d e : PyData} {Q : VK}
theorem k_eqSame (h1 : Dp K H x d) (h2 : Dp K H y d) (s : Shal d) (q : Q (.bl true) H) : rEqP K x y H Q := ⟨d, d, h1, h2, s, s, by rw [eqv_self d s.p]; exact q⟩
theorem k_neSame (h1 : Dp K H x d) (h2 : Dp K H y d) (s : Shal d) (q : Q (.bl false) H) : rNeP K x y H Q := ⟨d, d, h1, h2, s, s, by rw [eqv_self d s.p]; exact q⟩
theorem dp_all {α : Type} {f : α → V} {g : α → PyData} : ∀ {l : List α}, (∀ a ∈ l, Dp K H (f a) (g a)) → DpAll K H (l.map f) (l.map g)
  | [], _ => .nil
  | a :: l, h => .cons (h a List.mem_cons_self) (dp_all fun b hb => h b (List.mem_cons_of_mem _ hb))
theorem plain_all {α : Type} {g : α → PyData} : ∀ {l : List α}, (∀ a ∈ l, (g a).plain = true) → PyData.plainAll (l.map g) = true
  | [], _ => by simp [PyData.plainAll]
  | a :: l, h => by
    simp only [List.map_cons, PyData.plainAll, Bool.and_eq_true]
    exact ⟨h a List.mem_cons_self, plain_all fun b hb => h b (List.mem_cons_of_mem _ hb)⟩
theorem depth_all {α : Type} {g : α → PyData} {n : Nat} : ∀ {l : List α}, (∀ a ∈ l, (g a).depth ≤ n) → PyData.depthAll (l.map g) ≤ n
  | [], _ => by simp [PyData.depthAll]
  | a :: l, h => by
    simp only [List.map_cons, PyData.depthAll]
    exact Nat.max_le.mpr ⟨h a List.mem_cons_self, depth_all fun b hb => h b (List.mem_cons_of_mem _ hb)⟩
theorem shal_list {α : Type} {g : α → PyData} {l : List α} {n : Nat} (hn : n < 60) (h : ∀ a ∈ l, (g a).plain = true ∧ (g a).depth ≤ n) : Shal (.list (l.map g)) := by
  refine ⟨by simp only [PyData.plain]; exact plain_all fun a ha => (h a ha).1, ?_⟩
  have := depth_all (l := l) (g := g) (n := n) fun a ha => (h a ha).2
  simp only [PyData.depth]
  omega
theorem dp_ints {ns : List Int} : DpAll K H (ns.map V.int) (ns.map PyData.int) := dp_all fun _ _ => .int _
theorem shal_ints {ns : List Int} : Shal (.list (ns.map PyData.int)) := shal_list (n := 0) (by decide) fun _ _ => ⟨by simp [PyData.plain], by simp [PyData.depth]⟩
theorem dp_strs {ns : List Str} : DpAll K H (ns.map V.str) (ns.map PyData.str) := dp_all fun _ _ => .str _
theorem shal_strs {ns : List Str} : Shal (.list (ns.map PyData.str)) := shal_list (n := 0) (by decide) fun _ _ => ⟨by simp [PyData.plain], by simp [PyData.depth]⟩
theorem dp_lst {a : Addr} {xs : List V} {ds : List PyData} (h : H a = some (.lst xs)) (hd : DpAll K H xs ds) : Dp K H (.ref a) (.list ds) := .lst (.of h) hd
theorem dp_tup {a : Addr} {xs : List V} {ds : List PyData} (h : H a = some (.tup xs)) (hd : DpAll K H xs ds) : Dp K H (.ref a) (.tuple ds) := .tup (.of h) hd
end
end Sd


/-! A generator expression of any element, consumed by tuple(..) or list(..). -/
namespace Gx
open PySem PySem.Spec PyProof.Rows L2 GenW

/-- the genexp's own frame over the def's -/
abbrev gx (X : Cx) (A : Around) (s : Shared) (H : Hp) (cenv : Env) (fp : List Addr) (pn : List (Addr × Obj)) : Cx :=
  { X with A := A, s_0 := s, H_0 := H, env := cenv, outer := X.stack, stack := cenv :: X.stack, ex := fp, fn := fun _ => false, calm := true, pn := pn, xe := fun _ _ => False }

/-- the genexp's names: «.0» (none of N), its own (with their places in N), captured ones -/
structure GxOk (N : List Str) (sc scope : Scope) (own : List (Str × Nat)) : Prop where
  kind : scope.kind = .function
  co : scope.isCoroutine = false
  cell : ∀ y ∈ scope.names, y.2 ≠ .cell
  dot : scope.names.lookup (".0" : Str) = some NameKind.local
  uniq : ∀ y ∈ scope.names, scope.names.lookup y.1 = some y.2
  ix : ∀ p ∈ own, N[p.2]? = some p.1
  free : ∀ y ∈ scope.names, y.2 = .free → sc.names.lookup y.1 = some .cell ∨ sc.names.lookup y.1 = some .free
  own : ∀ y ∈ scope.names, y.2 = .local → y.1 ∈ own.map (·.1) ∨ y.1 ∉ N

def gxC (N : List Str) (sc scope : Scope) (own : List (Str × Nat)) : Bool :=
  (match scope.kind with | .function => true | _ => false) && !scope.isCoroutine && decide (scope.names.lookup (".0" : Str) = some NameKind.local) && (scope.names.all fun y => decide (scope.names.lookup y.1 = some y.2)) && (own.all fun p => decide (N[p.2]? = some p.1)) &&
    (scope.names.all fun y => match y.2 with
      | .free => (match sc.names.lookup y.1 with | some .cell => true | some .free => true | _ => false)
      | .local => decide (y.1 ∈ own.map (·.1)) || decide (y.1 ∉ N)
      | .cell => false
      | _ => true)
theorem gxOk_by {N : List Str} {sc scope : Scope} {own : List (Str × Nat)} (h : gxC N sc scope own = true) : GxOk N sc scope own := by
  unfold gxC at h
  simp only [Bool.and_eq_true, List.all_eq_true, decide_eq_true_eq, Bool.not_eq_true'] at h
  obtain ⟨⟨⟨⟨⟨h1, h0⟩, hd⟩, h2⟩, h3⟩, h4⟩ := h
  refine ⟨?_, h0, fun y hy e => ?_, hd, h2, h3, fun y hy e => ?_, fun y hy e => ?_⟩
  · split at h1
    · assumption
    · cases h1
  · have q := h4 y hy
    simp only [e] at q
    cases q
  · have q := h4 y hy
    simp only [e] at q
    split at q <;> first | exact .inl (by assumption) | exact .inr (by assumption) | cases q
  · have q := h4 y hy
    simp only [e, Bool.or_eq_true, decide_eq_true_eq] at q
    exact q

theorem gx_over {A : Around} {elt : Expr} {gens : List Comprehension} {scope : Scope} {pos : Pos} {it acc : Value} {env : Env} :
    A.over (.compLoop (.GeneratorExp elt gens scope pos) 0 it acc env) [] = A.deeper env := by
  first
    | rfl
    | (obtain ⟨hd, d, fr, gs, u⟩ := A; simp [Around.over, Around.deeper, marksOver, frameCount, unitsOf, envsOf, guardsOf, pushEnvs, pushGuards, Code.envs, Code.env?, Code.isFrame, Code.guards, Code.isGuard, Code.weight, Code.frames, Code.isCreation, Code.isCaller, Code.cUnits])

section
variable {X : Cx} {pins : List (Addr × Obj)} {σ : L2.St} {H : Hp} {s : Shared}
theorem gx_start {A : Around} {scope : Scope} {own : List (Str × Nat)} {fp : List Addr} {code : Value} {m : Str → Option Value} {s' : Shared} {pn : List (Addr × Obj)} (I : Inv X pins σ H s) (ok : GxOk X.N X.env.scope scope own) (hN : X.N.Nodup)
    (hfp : ∀ b ∈ fp, FpOk X pins H b ∧ b < s.heap.objs.size) (hA : A.handled = none)
    (hfr : A.frames = some (genEnv scope (cloFrom X.env.cells scope.names []) s.heap.objs.size code builtinsNs X.env :: X.stack))
    (kp : ∀ b o, s.heap.get? b = some o → s'.heap.get? b = some o) (hos : s'.os = s.os) (hb : AllBare s'.gens) (hns : s'.heap.Ns s.heap.objs.size m)
    (hpn : ∀ p ∈ pn, s'.heap.get? p.1 = some p.2 ∧ s.heap.objs.size < p.1 ∧ ∀ v, p.2.data ≠ .cell v) :
    Inv (gx X A s H (genEnv scope (cloFrom X.env.cells scope.names []) s.heap.objs.size code builtinsNs X.env) fp pn) [] (wipe σ (own.map (·.2))) H s' := by
  have hfree : ∀ y ∈ scope.names, y.2 = .free → ∃ c, X.env.cells.lookup y.1 = some c := fun y hy e => by
    rcases ok.free y hy e with k | k
    · exact I.ok.has _ (.inl k)
    · exact I.ok.has _ (.inr k)
  generalize hcenv : genEnv scope (cloFrom X.env.cells scope.names []) s.heap.objs.size code builtinsNs X.env = cenv at hfr ⊢
  have hL : cenv.locals = s.heap.objs.size := by rw [← hcenv]; rfl
  have hcl : cenv.cells = cloFrom X.env.cells scope.names [] := by rw [← hcenv]; rfl
  have hsc : cenv.scope = scope := by rw [← hcenv]; rfl
  have cm : ∀ {y c}, cenv.cells.lookup y = some c → X.env.cells.lookup y = some c ∧ c < s.heap.objs.size := fun {y c} hm => by
    rw [hcl] at hm
    rcases cloFrom_mem (PySem.mem_of_lookup hm) with hm | ⟨h1, rfl⟩
    · cases hm
    · obtain ⟨c, hc⟩ := hfree _ h1 rfl
      rw [hc]
      obtain ⟨w, z⟩ := I.cell _ _ hc
      exact ⟨rfl, z.lt⟩
  have look : ∀ {y}, scope.names.lookup y = some .free → ∃ c, cenv.cells.lookup y = some c ∧ X.env.cells.lookup y = some c := fun {y} hl => by
    have hy : (y, NameKind.free) ∈ scope.names := PySem.mem_of_lookup hl
    obtain ⟨c', e'⟩ := mem_lookup (cloFrom_has (cells := X.env.cells) (acc := []) hy)
    rw [← hcl] at e'
    exact ⟨c', e', (cm e').1⟩
  have okB : (gx X A s H cenv fp pn).Ok := by
    refine ⟨I.ok.mod, by show cenv.scope.kind = _; rw [hsc]; exact ok.kind, by show cenv.globals = _; rw [← hcenv]; exact I.ok.glob, by show cenv.builtins = _; rw [← hcenv]; rfl, by show s.heap.objs.size ≤ cenv.locals; rw [hL]; exact Nat.le_refl _,
      fun y z c e1 e2 => ?_, fun y hy => ?_, fun y c z e => ?_, fun _ => hA, hfr, .inr ⟨rfl, by show cenv.frame = some cenv.locals; rw [← hcenv]; rfl⟩, fun b hb => ⟨?_, fun y c e z => ?_⟩, I.bs, Nat.le_trans I.ok.bsz I.sz, fun b o e hb => ?_, fun b hb z => ?_, I.stack, I.stkFree⟩
    · exact I.ok.inj y z c (cm e1).1 (cm e2).1
    · show ∃ c, cenv.cells.lookup y = some c
      have hy' : cenv.scope.names.lookup y = some .cell ∨ cenv.scope.names.lookup y = some .free := hy
      rw [hsc] at hy'
      rcases hy' with hy' | hy'
      · exact absurd rfl (ok.cell _ (PySem.mem_of_lookup hy'))
      · obtain ⟨c, h1, _⟩ := look hy'
        exact ⟨c, h1⟩
    · exact absurd z (by simp)
    · show b ≠ cenv.locals
      rw [hL]; exact Nat.ne_of_lt (hfp b hb).2
    · exact (hfp b hb).1.2.2.2.2.1 y c (cm e).1 z
    · rcases (hfp b hb).1.2.2.2.1 with z | z
      · exact I.ok.noex b o e z
      · exact absurd (Nat.lt_of_lt_of_le (Heap.lt_size e) (Nat.le_trans I.ok.bsz z)) (Nat.lt_irrefl _)
    · rcases List.mem_cons.mp (I.stkSub b z) with z | z
      · exact (hfp b hb).1.2.1 z
      · exact (hfp b hb).1.2.2.1 z
  refine ⟨okB, hos, hb, Un.kept kp, ⟨m, ?_, fun i y av e1 e2 e3 => ?_⟩, fun y c e => ?_, ?_, fun y c e => ?_, fun p hp => ?_, I.hok.kept kp, by rw [wipe_length]; exact I.len⟩
  · show Heap.Ns _ cenv.locals _
    rw [hL]; exact hns
  · obtain ⟨e2, hne⟩ := wipe_some e2
    have e3 : Vis cenv.scope y := e3
    rw [hsc] at e3
    have hfr : scope.names.lookup y = some .free := by
      rcases e3 with e3 | e3 | e3
      · rcases ok.own _ (PySem.mem_of_lookup e3) rfl with e' | e'
        · obtain ⟨p, hp, hpy⟩ := List.mem_map.mp e'
          have e3 := ok.ix p hp
          have : p.1 = y := hpy
          rw [this] at e3
          exact absurd (List.mem_map.mpr ⟨p, hp, nodup_ix hN e3 e1⟩) hne
        · exact absurd (List.mem_of_getElem? e1) e'
      · exact absurd rfl (ok.cell _ (PySem.mem_of_lookup e3))
      · exact e3
    obtain ⟨m, hn, hl⟩ := I.loc
    have hvis : Vis X.env.scope y := (ok.free _ (PySem.mem_of_lookup hfr) rfl).elim (fun k => .inr (.inl k)) (fun k => .inr (.inr k))
    obtain ⟨w, r, q⟩ := hl i y av e1 e2 hvis
    refine ⟨w, r, .inr ⟨.inr ?_, ?_⟩⟩
    · show cenv.scope.names.lookup y = _
      rw [hsc]; exact hfr
    obtain ⟨c, h1, h2⟩ := look hfr
    rcases q with ⟨k, _⟩ | ⟨_, c', e', z⟩
    · have k : X.env.scope.names.lookup y = some .local := k
      rcases ok.free _ (PySem.mem_of_lookup hfr) rfl with k' | k' <;> rw [show X.env.scope.names.lookup y = _ from k'] at k <;> cases k
    · rw [h2] at e'; cases e'
      exact ⟨c, h1, z.keeps kp⟩
  · obtain ⟨w, z⟩ := I.cell y c (cm e).1
    exact ⟨w, z.keeps kp⟩
  · show H cenv.locals = none
    rw [hL]; exact I.hok.fresh (Nat.le_refl _)
  · exact I.freeC y c (cm e).1
  · have hp : p ∈ pn := by simpa using hp
    obtain ⟨q1, q2, q3⟩ := hpn p hp
    refine ⟨q1, I.hok.fresh (Nat.le_of_lt q2), ?_, fun z => ?_, q3⟩
    · show p.1 ≠ cenv.locals
      rw [hL]; exact Nat.ne_of_gt q2
    · rcases List.mem_cons.mp (I.stkSub p.1 z) with z | z
      · exact absurd (z ▸ I.lt) (Nat.not_lt_of_ge (Nat.le_of_lt q2))
      · exact I.nofs (Nat.le_of_lt q2) z

/-! ### the run -/
/-- the end: all handed out stands in S -/
def GEnd (X' : Cx) (S : Addr) (σ : L2.St) (Q : List V → Hp → Prop) : GenEnd := fun n _ r s => r = .ok .next ∧ ∃ ys H, n + ys.length = sizeLine ∧ GI X' S [] ys σ H s ∧ Q ys H

theorem seg_gx {A : Around} {S : Addr} {elt tg iter : Expr} {ifs : List Expr} {scope : Scope} {gpos : Pos} {g : TG} {tt : TT} {te : TE} {vs : List Nat} {J : It} {fp : List Addr} {it : Addr} {tn : Nat → Heap → Prop} {H0 : Hp} {s0 : Shared} {cenv : Env} {pn : List (Addr × Obj)}
    {W : Nat → Nat → List V → Hp → Prop} {Q : List V → Hp → Prop}
    (T : Turn X.prog X.w X.K tg J fp it tn) (hco : cenv.scope.isCoroutine = false)
    (pg : PG (gx X (A.deeper cenv) s0 H0 cenv fp pn) tg g) (pt : PTs (gx X (A.deeper cenv) s0 H0 cenv fp pn) ifs tt) (pe : PE (gx X (A.deeper cenv) s0 H0 cenv fp pn) elt te)
    (hpn : ∀ p ∈ pn, p.1 ≠ S ∧ p.1 ∉ fp) (hA : Apart (gx X (A.deeper cenv) s0 H0 cenv fp pn) S) (hS : S ∉ fp)
    (turn : ∀ i m ys H, W i m ys H → (J.stop i H ∧ Q ys H) ∨ (J.go i H ∧ ∃ Nx : List V → Hp → Prop, (∀ ys' H', Nx ys' H' → ∃ m', m' < m ∧ W (i + 1) m' ys' H') ∧ ∀ x H', J.yld i H x H' → g x (wipe σ vs) H' fun σ2 H2 => wipe σ2 vs = wipe σ vs ∧ tt σ2 H2 fun b H3 =>
      if b = true then te σ2 H3 fun y H4 => ys.length < sizeLine ∧ Nx (ys ++ [y]) H4 else Nx ys H3)) :
    ∀ (m n i : Nat) (ys : List V) (H : Hp) (s₀ s : Shared), n + ys.length = sizeLine → W i m ys H → GI (gx X (A.deeper cenv) s0 H0 cenv fp pn) S [] ys (wipe σ vs) H s → tn i s.heap → (∀ b ∈ fp, H b = none) →
      Seg (model X.prog X.w) A (GEnd (gx X (A.deeper cenv) s0 H0 cenv fp pn) S (wipe σ vs) Q) (GY (gx X (A.deeper cenv) s0 H0 cenv fp pn) S) n s₀ (.compLoop (.GeneratorExp elt [⟨tg, iter, ifs, 0⟩] scope gpos) 0 (.ref it) .none cenv)
        ((model X.prog X.w).den (.compLoop (.GeneratorExp elt [⟨tg, iter, ifs, 0⟩] scope gpos) 0 (.ref it) .none cenv)) [] s := by
  have stat : ∀ {σ' : L2.St} {H' : Hp} {s' : Shared} {acc : Array Value} {c : Nat}, Inv (gx X (A.deeper cenv) s0 H0 cenv fp pn) [(S, lstObj acc c)] σ' H' s' → (∀ b ∈ fp, H' b = none) → ∀ b ∈ fp, FpOk (gx X (A.deeper cenv) s0 H0 cenv fp pn) [(S, lstObj acc c)] H' b := fun {σ' H' s' acc c} I' hn b hb =>
    ⟨hn b hb, (I'.ok.exf b hb).1, I'.ok.exfs b hb, .inl hb, fun x c e => (I'.ok.exf b hb).2 x c e, fun p hp z => by
      rcases List.mem_append.mp hp with hp | hp
      · exact (hpn p hp).2 (z ▸ hb)
      · rw [List.mem_singleton.mp hp] at z
        have z : S = b := z
        exact hS (by rw [z]; exact hb)⟩
  intro m
  induction m using Nat.strongRecOn with
  | ind m ih =>
    intro n i ys H s₀ s hn w hI hst hfn
    show Seg _ A _ _ _ s₀ _ ((compTurn (.GeneratorExp elt [⟨tg, iter, ifs, 0⟩] scope gpos) 0 (.ref it) .none cenv).onRaise (leaving cenv)) [] s
    rw [compTurn_gen, Sem.onRaise_eq_wrap]
    refine seg_bind_wrap (wpAny_standAt ?_)
    obtain ⟨acc, cc, r, I⟩ := hI
    rcases turn i m ys H w with ⟨stop, q⟩ | ⟨go, Nx, hNx, step⟩
    · refine seg_bind_wrap ?_
      rw [gx_over]
      refine thnF (T.done (gx X (A.deeper cenv) s0 H0 cenv fp pn) rfl rfl rfl rfl i _ s _ H (fun _ _ => False) I (stat I hfn) hst stop) fun rr s1 ⟨hr, I1⟩ => ?_
      subst hr
      exact seg_end (.ok .next) ⟨rfl, ys, H, hn, ⟨acc, cc, r, I1⟩, q⟩
    · refine seg_bind_wrap ?_
      rw [gx_over]
      refine thnF (T.item (gx X (A.deeper cenv) s0 H0 cenv fp pn) rfl rfl rfl rfl i _ s _ H (fun _ _ => False) I (stat I hfn) hst go) fun rr s1 ⟨u, hr, h1⟩ => ?_
      subst hr
      refine seg_bind_wrap ?_
      rw [gx_over]
      refine thnF h1 fun _ s2 ⟨x, H2, I2, r2, y2, st2, n2⟩ => ?_
      have I2' := I2.pinned (stat I2 n2) (T.obj _ _ st2)
      refine seg_bind_wrap ?_
      rw [gx_over]
      refine thnF (pg.run _ s2 _ H2 x u _ I2' r2 (step x H2 y2)) fun _ s3 ⟨σ3, H3, I3, hw3, q3⟩ => ?_
      refine seg_bind_wrap ?_
      rw [gx_over]
      refine thnF (pt.run _ s3 σ3 H3 _ I3 q3) fun b s4 ⟨H4, I4, q4⟩ => ?_
      -- the turn's end
      have hl : ∀ {s' : Shared} {H' : Hp}, Inv (gx X (A.deeper cenv) s0 H0 cenv fp pn) ([(S, lstObj acc cc)] ++ pinsAt fp s2.heap) σ3 H' s' →
          Inv (gx X (A.deeper cenv) s0 H0 cenv fp pn) [(S, lstObj acc cc)] (wipe σ vs) H' s' ∧ tn (i + 1) s'.heap ∧ ∀ b ∈ fp, H' b = none := fun {s' H'} I' => by
        have pin' : ∀ b ∈ fp, ∀ o, s2.heap.get? b = some o → s'.heap.get? b = some o ∧ H' b = none := fun b hb o e =>
          let z := I'.pin (b, o) (List.mem_append_right _ (List.mem_append_right _ (mem_pinsAt hb e)))
          ⟨z.1, z.2.1⟩
        have hl : (wipe σ vs).length = σ3.length := by rw [← hw3, wipe_length]
        refine ⟨I'.unpinned.weak hl (fun j v e => ?_), T.keep _ _ _ st2 fun b hb o e => (pin' b hb o e).1, fun b hb => ?_⟩
        · rw [← hw3] at e
          exact (wipe_some e).1
        · obtain ⟨o, e, _⟩ := T.obj _ _ st2 b hb
          exact (pin' b hb o e).2
      cases b with
      | false =>
        simp only [Bool.false_eq_true, if_false] at q4 ⊢
        obtain ⟨m', hm, w'⟩ := hNx ys H4 q4
        obtain ⟨I5, st5, n5⟩ := hl I4
        exact seg_again rfl (ih m' hm n (i + 1) ys H4 s₀ s4 hn w' ⟨acc, cc, r, I5⟩ st5 n5)
      | true =>
        simp only [if_true] at q4 ⊢
        have hy : ∀ v, yieldOut cenv v = yieldValue v := fun v => by simp only [yieldOut, hco, Bool.false_eq_true, if_false]
        simp only [hy]
        rw [Sem.bind_eq_wrap', Sem.bind_eq_wrap', Sem.wrap_wrap, Sem.wrap_wrap]
        refine seg_wrap ?_
        rw [gx_over]
        refine thnF (pe.run _ s4 σ3 H4 _ I4 q4) fun v s5 ⟨yv, H5, I5', r5, hlt, nx⟩ => ?_
        obtain ⟨I5, st5, n5⟩ := hl I5'
        obtain ⟨n, rfl⟩ : ∃ k, n = k + 1 := ⟨n - 1, by omega⟩
        obtain ⟨m', hm, w'⟩ := hNx _ H5 nx
        refine seg_at (seg_yield rfl rfl rfl ⟨ys, yv, [], wipe σ vs, H5, hn, r5, ⟨acc, cc, r, I5⟩, fun s'' z => ?_⟩)
        refine seg_again rfl (ih m' hm n (i + 1) _ H5 s'' s'' (by rw [List.length_append, List.length_singleton]; omega) w' ?_ ?_ n5)
        · exact GI.woken (fun p hp => (hpn p hp).1) (fun p hp => absurd hp (by simp)) hA ⟨acc, cc, r, I5⟩ r5 z
        · exact T.keep _ _ _ st5 fun b hb o e => z.keep b o (fun y => hS (y ▸ hb)) e

theorem seg_gx0 {A : Around} {elt tg iter : Expr} {ifs : List Expr} {scope : Scope} {gpos : Pos} {J : It} {fp : List Addr} {it : Addr} {tn : Nat → Heap → Prop} {cenv : Env} {R : GenEnd} {Y : Protocol} {n : Nat} {s₀ s : Shared} {i : Nat}
    (T : Turn X.prog X.w X.K tg J fp it tn) (hst : tn i s.heap)
    (loop : Seg (model X.prog X.w) A R Y n s₀ (.compLoop (.GeneratorExp elt [⟨tg, iter, ifs, 0⟩] scope gpos) 0 (.ref it) .none cenv) ((model X.prog X.w).den (.compLoop (.GeneratorExp elt [⟨tg, iter, ifs, 0⟩] scope gpos) 0 (.ref it) .none cenv)) [] s) :
    Seg (model X.prog X.w) A R Y n s₀ (.compStart (.GeneratorExp elt [⟨tg, iter, ifs, 0⟩] scope gpos) 0 (.ref it) .none cenv) ((model X.prog X.w).den (.compStart (.GeneratorExp elt [⟨tg, iter, ifs, 0⟩] scope gpos) 0 (.ref it) .none cenv)) [] s := by
  show Seg _ A _ _ _ s₀ _ ((compStart (.GeneratorExp elt [⟨tg, iter, ifs, 0⟩] scope gpos) 0 (.ref it) .none cenv).onRaise (leaving cenv)) [] s
  unfold compStart
  rw [Sem.onRaise_eq_wrap]
  show Seg _ A _ _ _ s₀ _ ((ask >>= _).wrap _ _ _ _) [] s
  refine seg_bind_wrap (wpAny_askSetting ?_)
  split
  · exact seg_again rfl loop
  · first
      | exact seg_bind_wrap (wpAny_rule (seg_bind_wrap (wpAny_standAt (seg_bind_wrap (T.self _ i s _ _ hst (seg_again rfl loop))))))
      | (refine seg_bind_wrap (wpAny_rule ?_); show Seg _ A _ _ _ s₀ _ ((standAt iter.pos >>= _).wrap _ _ _ _) [] s; exact seg_bind_wrap (wpAny_standAt (seg_bind_wrap (T.self _ i s _ _ hst (seg_again rfl loop)))))

/-! ### the expression -/
def tGx (wi : TI) (g : TG) (tt : TT) (te : TE) (vs : List Nat) (P : Addr) : TGen := fun σ H cont => wi σ H fun J H1 => GxR.TabG H1 P ∧ ∀ H2, GxR.Tabbed P H1 H2 → ∃ W : Nat → Nat → List V → Hp → Prop, (∃ m, W 0 m [] H2) ∧ ∀ i m ys H, W i m ys H →
  (J.stop i H ∧ cont ys H) ∨ (J.go i H ∧ ∃ Nx : List V → Hp → Prop, (∀ ys' H', Nx ys' H' → ∃ m', m' < m ∧ W (i + 1) m' ys' H') ∧ ∀ x H', J.yld i H x H' → g x (wipe σ vs) H' fun σ2 H2 => wipe σ2 vs = wipe σ vs ∧ tt σ2 H2 fun b H3 =>
    if b = true then te σ2 H3 fun y H4 => ys.length < sizeLine ∧ Nx (ys ++ [y]) H4 else Nx ys H3)

theorem pgen_gx {c P : Addr} {k : Nat} {elt tg iter : Expr} {ifs : List Expr} {scope : Scope} {own : List (Str × Nat)} {gpos : Pos} {wi : TI} {g : TG} {tt : TT} {te : TE}
    (hr : Room (k + 1) X.A) (TB : GxR.TabB X.base X.mg c P) (hcode : X.env.code = .ref c) (hN : X.N.Nodup) (hi : PI X tg iter wi) (ok : GxOk X.N X.env.scope scope own)
    (hg : ∀ (A : Around) (s : Shared) (H : Hp) (C : Addr) (cl : List (Str × Addr)) (code : Value) (fp : List Addr) (pn : List (Addr × Obj)), Room k A → PG (gx X A s H (genEnv scope cl C code builtinsNs X.env) fp pn) tg g)
    (ht : ∀ (A : Around) (s : Shared) (H : Hp) (C : Addr) (cl : List (Str × Addr)) (code : Value) (fp : List Addr) (pn : List (Addr × Obj)), Room k A → PTs (gx X A s H (genEnv scope cl C code builtinsNs X.env) fp pn) ifs tt)
    (he : ∀ (A : Around) (s : Shared) (H : Hp) (C : Addr) (cl : List (Str × Addr)) (code : Value) (fp : List Addr) (pn : List (Addr × Obj)), Room k A → PE (gx X A s H (genEnv scope cl C code builtinsNs X.env) fp pn) elt te)
    (hs : ∀ v, genFold iter X.env v = pure v) : PGen X (k + 1) (.GeneratorExp elt [⟨tg, iter, ifs, 0⟩] scope gpos) (tGx wi g tt te (own.map (·.2)) P) (fun _ _ _ => False) := by
  refine ⟨fun pins s σ H cont I h => ?_⟩
  have hfree : ∀ y ∈ scope.names, y.2 = .free → ∃ c, X.env.cells.lookup y.1 = some c := fun y hy e => by
    rcases ok.free y hy e with k | k
    · exact I.ok.has _ (.inl k)
    · exact I.ok.has _ (.inr k)
  refine wpAny_GeneratorExp_make ok.co (closure_ok hfree) ok.cell ok.dot ok.kind (by have := hr.dp; omega) (thn (hi.run pins s σ H _ I h) fun xv s1 hx => thn hx fun itv s2 h2 => ?_) hs
  obtain ⟨it, fp, tn, J, H2, e, I2, T, st2, f2, hTab, q⟩ := h2
  subst e
  refine ⟨I2.nolimit, ?_⟩
  obtain ⟨ps, hP, htr⟩ := hTab
  have hPs : s2.heap.get? P = some { cls := .none, data := .fields ps } := I2.hok P _ hP
  have cd : PySem.W.CodeHd s2.heap c P := TB.code.keeps fun b u e => I2.bk b u e
  have nfpP : ∀ b ∈ fp, b ≠ P := fun b hb z => by
    have := (f2 b hb).1
    rw [z, hP] at this; cases this
  have cont' : ∀ (code : Value) (h3 : Heap) (tk : Nat) (ps' : Array Value), Heap.ExtBut P s2.heap h3 → s2.heap.objs.size ≤ h3.objs.size → h3.get? P = some { cls := .none, data := .fields ps' } → (∃ more, ps' = ps ++ more) → TriplesOk ps'.toList →
      wpAny (model X.prog X.w) X.A (builtinsFor X.env.globals X.env.builtins) (fun bi s₄ => ∀ h', h'.Ns s₄.heap.objs.size (fun y => if y = ".0" then some (.ref it) else none) → Heap.SameBut s₄.heap.objs.size (s₄.heap.push { cls := .type "frame", data := .dict #[] }) h' →
          (∃ H1 sc ex, Inv X pins σ H1 sc ∧ ExOk X pins ex ∧ GMade X.prog X.w (k + 1) X.stack H1 sc ex cont (fun _ _ _ => False) (.ref h'.objs.size) { s₄ with
            gens := s₄.gens.push (.fresh (.compStart (.GeneratorExp elt [⟨tg, iter, ifs, 0⟩] scope gpos) 0 (.ref it) .none (genEnv scope (cloFrom X.env.cells scope.names []) s₄.heap.objs.size code bi X.env))),
            toks := s₄.toks + 1 + 1 + 1,
            heap := h'.push { cls := .type "generator", data := .fields #[.int s₄.gens.size 0, .str "<genexpr>" (s₄.toks + 1), .str (X.env.qual ++ "<genexpr>") (s₄.toks + 1 + 1)] } })) X.xe { s2 with heap := h3, toks := tk } := by
    intro code h3 tk ps' hx hsz hP3 hmore ht3
    obtain ⟨bm, ob, e1, e2, e3, e4, e5, e6, e7, e8⟩ := TB.bm
    have keep3 : ∀ b u, b ≠ P → s2.heap.get? b = some u → h3.get? b = some u := fun b u hb e => hx b u hb e
    refine wpAny_builtinsFor (m := X.mg) (by rw [I2.ok.glob]; exact (I2.mod.glob.keeps I2.bk).extBut hx TB.gP) e1 e2 (keep3 _ _ e4 (I2.bk _ _ e5)) e6 e7 e8 ?_
    obtain ⟨more, em⟩ := hmore
    have I3 : Inv X pins σ (upd H2 P (.tbl (ps ++ more))) { s2 with heap := h3, gens := s2.gens, drawn := s2.drawn, toks := tk } := GxR.inv_tab I2 hP (fun b u hb e => hx b u hb e) (by rw [← em]; exact hP3) I2.bare
    generalize hs3 : ({ s2 with heap := h3, gens := s2.gens, drawn := s2.drawn, toks := tk } : Shared) = s3 at I3
    have e3h : s3.heap = h3 := by rw [← hs3]
    intro h' hn' hs'
    generalize hH3 : upd H2 P (.tbl (ps ++ more)) = H3 at I3
    have hTb : GxR.Tabbed P H2 H3 := by
      rw [← hH3]
      exact ⟨⟨ps ++ more, upd_same, by rw [← em]; exact ht3⟩, fun b hb => upd_ne hb⟩
    have f3 : ∀ b ∈ fp, FpOk X pins H3 b ∧ b < s3.heap.objs.size := fun b hb => by
      obtain ⟨o, e, _⟩ := T.obj _ _ st2 b hb
      refine ⟨⟨?_, (f2 b hb).2⟩, by rw [e3h]; exact Heap.lt_size (keep3 b o (nfpP b hb) e)⟩
      rw [hTb.2 b (nfpP b hb)]
      exact (f2 b hb).1
    have st3 : tn 0 s3.heap := T.keep _ _ _ st2 fun b hb o e => by rw [e3h]; exact keep3 b o (nfpP b hb) e
    obtain ⟨W, ⟨m0, w0⟩, turn⟩ := q H3 hTb
    have keep' : ∀ b o, s3.heap.get? b = some o → h'.get? b = some o := fun b o e => hs'.extBut b o (Nat.ne_of_lt (Heap.lt_size e)) (Heap.get?_push_of_some _ e)
    have hsz' : h'.objs.size = s3.heap.objs.size + 1 := by rw [hs'.1, Heap.size_push]
    refine ⟨H3, s3, fp, I3, fun b hb => ?_, ?_⟩
    · obtain ⟨z1, z2, z3, z4, z5, z6⟩ := (f3 b hb).1
      exact ⟨z4, z2, z5, z6⟩
    generalize hce : genEnv scope (cloFrom X.env.cells scope.names []) s3.heap.objs.size code builtinsNs X.env = cenv
    have cL : cenv.locals = s3.heap.objs.size := by rw [← hce]; rfl
    generalize hgo : ({ cls := .type "generator", data := .fields #[.int s3.gens.size 0, .str "<genexpr>" (s3.toks + 1), .str (X.env.qual ++ "<genexpr>") (s3.toks + 1 + 1)] } : Obj) = go
    have hgc : go.cls = .type "generator" ∧ go.data = .fields #[.int s3.gens.size 0, .str "<genexpr>" (s3.toks + 1), .str (X.env.qual ++ "<genexpr>") (s3.toks + 1 + 1)] ∧ go.slots = #[] := by
      rw [← hgo]; exact ⟨rfl, rfl, rfl⟩
    have hgen : ∀ h : Heap, h.get? h'.objs.size = some go → h.IsGen h'.objs.size s3.gens.size := fun h e => ⟨go, _, _, e, hgc.1, hgc.2.1, hgc.2.2⟩
    have hpushed : (h'.push go).get? h'.objs.size = some go := by
      rw [← hgo]; exact Heap.get?_push_size _ rfl
    refine ⟨h'.objs.size, s3.gens.size, _, rfl, by omega, ?_, hgen _ hpushed, Array.getElem?_push_size .., rfl, AllBare.push I3.bare rfl, I3.nolimit.keeps fun b o e => Heap.get?_push_of_some _ (keep' b o e), fun b o e => Heap.get?_push_of_some _ (keep' b o e), ?_⟩
    · show _ < (h'.push _).objs.size
      rw [Heap.size_push]; exact Nat.lt_succ_self _
    intro Aw S s4 hrw hfr hSx hk2 hSo hos hba
    have hSz : h'.objs.size < S := by
      have hSx' : (h'.push go).objs.size ≤ S := hSx
      rw [Heap.size_push] at hSx'
      exact hSx'
    have hS3 : s3.heap.objs.size < S := by omega
    obtain ⟨cS, heS⟩ := hSo
    have hea : s4.heap.get? h'.objs.size = some go := hk2 _ go hpushed
    have hgd : ∀ v, go.data ≠ .cell v := fun v z => by rw [hgc.2.1] at z; cases z
    have kp4 : ∀ b o, s3.heap.get? b = some o → s4.heap.get? b = some o := fun b o e => hk2 b o (Heap.get?_push_of_some _ (keep' b o e))
    have I5 := gx_start (A := Aw.deeper cenv) (code := code) (s' := s4) (m := fun y => if y = ".0" then some (.ref it) else none) (pn := [(h'.objs.size, go)]) I3 ok hN f3 hrw.hd (by rw [hce]; exact Around.frames_deeper hfr) kp4 hos hba
      (hn'.keeps fun b o e => hk2 b o (Heap.get?_push_of_some _ e)) (fun p hp => by
        rw [List.mem_singleton.mp hp]
        exact ⟨hea, by show s3.heap.objs.size < h'.objs.size; omega, hgd⟩)
    rw [hce] at I5
    have hSL : S ≠ cenv.locals := by rw [cL]; exact Nat.ne_of_gt hS3
    have hG : GI (gx X (Aw.deeper cenv) s3 H3 cenv fp [(h'.objs.size, go)]) S [] [] (wipe σ (own.map (·.2))) H3 s4 := by
      refine ⟨#[], cS, .nil, I5.pins_of fun p hp => ?_⟩
      rw [List.mem_singleton.mp hp]
      refine ⟨heS, I3.hok.fresh (Nat.le_of_lt hS3), hSL, fun z => ?_, fun v q => by cases q⟩
      rcases List.mem_cons.mp (I3.stkSub S z) with z | z
      · exact absurd (z ▸ I3.lt) (Nat.not_lt_of_ge (Nat.le_of_lt hS3))
      · exact I3.nofs (Nat.le_of_lt hS3) z
    have hSfp : S ∉ fp := fun hb => absurd (f3 S hb).2 (Nat.not_lt_of_ge (Nat.le_of_lt hS3))
    have hAp : Apart (gx X (Aw.deeper cenv) s3 H3 cenv fp [(h'.objs.size, go)]) S := by
      refine ⟨Nat.le_of_lt hS3, hSL, fun x c e z => ?_⟩
      obtain ⟨v, o, ho, _⟩ := I5.cell x c e
      have e : cenv.cells.lookup x = some c := e
      rw [← hce] at e
      rcases cloFrom_mem (PySem.mem_of_lookup e) with hm | ⟨h1, h2⟩
      · cases hm
      · obtain ⟨c2, hc2⟩ := hfree _ h1 rfl
        rw [hc2] at h2
        have h2 : c = c2 := h2
        obtain ⟨v2, o2, ho2, _⟩ := I3.cell x c2 hc2
        have := Heap.lt_size ho2
        rw [← h2, z] at this
        exact absurd this (Nat.not_lt_of_ge (Nat.le_of_lt hS3))
    have pinned : ∀ {ip : List (Addr × Obj)} {ys : List V} {s' : Shared} {σ' : L2.St} {H' : Hp}, GI (gx X (Aw.deeper cenv) s3 H3 cenv fp [(h'.objs.size, go)]) S ip ys σ' H' s' → s'.heap.IsGen h'.objs.size s3.gens.size := fun {ip ys s' σ' H'} hI => by
      obtain ⟨acc, cc, _, J⟩ := hI
      exact hgen _ (J.pin (h'.objs.size, go) (List.mem_append_left _ (List.mem_singleton.mpr rfl))).1
    have st4 : tn 0 s4.heap := T.keep _ _ _ st3 fun b _ o e => kp4 b o e
    have loop := seg_gx (A := Aw) (S := S) (elt := elt) (iter := iter) (scope := scope) (gpos := gpos) (vs := own.map (·.2)) (H0 := H3) (s0 := s3) (cenv := cenv) (pn := [(h'.objs.size, go)]) (W := W) (Q := cont) (σ := σ) T (by rw [← hce]; exact ok.co)
      (by rw [← hce]; exact hg _ _ _ _ _ _ _ _ (hrw.deeper _)) (by rw [← hce]; exact ht _ _ _ _ _ _ _ _ (hrw.deeper _)) (by rw [← hce]; exact he _ _ _ _ _ _ _ _ (hrw.deeper _))
      (fun p hp => by
        rw [List.mem_singleton.mp hp]
        exact ⟨Nat.ne_of_lt hSz, fun hb => absurd (f3 _ hb).2 (by show ¬ (h'.objs.size < s3.heap.objs.size); omega)⟩) hAp hSfp turn m0 sizeLine 0 [] H3 s4 s4 (Nat.add_zero _) w0 hG st4 (fun b hb => (f3 b hb).1.1)
    refine seg_imp (R := GEnd (gx X (Aw.deeper cenv) s3 H3 cenv fp [(h'.objs.size, go)]) S (wipe σ (own.map (·.2))) cont) (Y := GY (gx X (Aw.deeper cenv) s3 H3 cenv fp [(h'.objs.size, go)]) S) (fun n s₀ r s1' hR => ?_) (fun n s₀ v s1' kap kap' hkk hY => ?_) sizeLine (seg_gx0 T st4 loop)
    · obtain ⟨rfl, ys, H', hn, hI, hQ⟩ := hR
      obtain ⟨a1, _, _, acc, cc, ra, ea⟩ := hI.at
      obtain ⟨_, _, _, J⟩ := hI
      exact .inl ⟨.inr rfl, H', ys, acc, cc, J.os, J.bare, J.base, J.hok, a1, ea, ra, by omega, hQ⟩
    · obtain ⟨ys, xx, ip, σ', H', hn, h2, hI, h3⟩ := hY
      obtain ⟨_, _, _, acc, cc, ra, ea⟩ := hI.at
      have hg := pinned hI
      obtain ⟨_, _, _, J⟩ := hI
      have hsz : acc.size = ys.length := by
        have e1 := ra.length
        have e2 : acc.toList.length = acc.size := by simp
        omega
      exact ⟨J.os, J.bare, J.nolimit, hg, ⟨acc, cc, ea, by rw [hsz]; exact hn⟩, fun s' z => hkk _ _ (h3 s' z)⟩
  cases hf : codeAmong gpos ps.toList with
  | none =>
    refine wpAny_genexprCodeX hcode (cd.code hPs htr) (cd.tab hPs) hf fun c' h' tk hx hge hlt hco' _ htab' _ => ?_
    obtain ⟨o1, vs, f1, tf, fl, tg, inF, tx, tt, op, _, _, _, _, _, _, _, _, _, htr', _⟩ := hco'
    exact cont' _ h' tk _ hx (Nat.le_trans hge (Nat.le_of_lt hlt)) htab'.2 ⟨_, rfl⟩ htr'
  | some cv =>
    refine wpAny_genexprCode_hit hcode (cd.code hPs htr) hf ?_
    exact cont' cv s2.heap s2.toks ps (Heap.ExtBut.refl _ _) (Nat.le_refl _) hPs ⟨#[], by simp⟩ htr
end

/-! ### tuple(g) -/
section
variable {P : Program} {w : World} {outer : List Env} {H : Hp} {sc s : Shared} {ex : List Addr} {Q : List V → Hp → Prop} {A : Around} {k : Nat} {u : Value} {E : Value → Shared → Prop}
/-- what a run of the generator to its end leaves -/
def Drained (P : Program) (w : World) (outer : List Env) (H : Hp) (sc : Shared) (ex : List Addr) (Q : List V → Hp → Prop) (acc : Array Value) (s' : Shared) : Prop :=
  ∃ H' ys, Vals ys acc.toList ∧ ys.length ≤ sizeLine ∧ s'.os = sc.os ∧ AllBare s'.gens ∧ Un (frs outer) ex H H' sc.heap s'.heap ∧ HOk P w H' s'.heap ∧ Q ys H'
theorem collect_gx {Q' : List Value → Shared → Prop} (hr : Room (k + 2) A) (hfr : A.frames = some outer) (h : GMade P w k outer H sc ex Q (fun _ _ _ => False) u s)
    (hQ : ∀ acc s', Drained P w outer H sc ex Q acc s' → Q' acc.toList s') : wpAny (model P w) A (collect u) Q' E s := by
  obtain ⟨a, g, c, rfl, ha1, ha2, hg, hgs, hos, hb, hl, hkp, wake⟩ := h
  have hSa : s.heap.objs.size ≠ a := Nat.ne_of_gt ha2
  have hcl : cStatics < s.heap.objs.size := let ⟨_, hn, _⟩ := hl; hn.lt
  have hSc : s.heap.objs.size ≠ cStatics := Nat.ne_of_gt hcl
  unfold collect
  refine wpAny_bind (wpAny_runValue (codeAny_builtin F.entry_proto_collect ?_))
  rw [Around.under_plainId F.plain_proto_collect _]
  show wpAny _ A.in1 (newList [] >>= fun l => again (.builtin "list.__iadd__" ⟨[l, .ref a], []⟩)) _ _ s
  refine wpAny_bind (wpAny_newObj_type ?_)
  refine wpAny_pure ⟨plainId_quiet F.plain_list_iadd _, codeAny_builtin F.entry_list_iadd ?_⟩
  rw [Around.under_plainId F.plain_list_iadd _]
  show wpAny _ A.in1 (Builtin.List.listExtendWith (.ref s.heap.objs.size) (.ref a) (.ref s.heap.objs.size)) _ _ _
  unfold Builtin.List.listExtendWith
  have k1 : ∀ b o, s.heap.get? b = some o → (s.heap.push { cls := .type "list", data := .seq ([] : List Value).toArray }).get? b = some o := fun b o e => Heap.get?_push_of_some _ e
  have gty : ∀ {h : Heap}, (∀ b o, s.heap.get? b = some o → h.get? b = some o) → h.IsGen a g := fun {h} q => hg.keeps q
  refine wpAny_bind (wpAny_typeOf (Heap.IsGen.typeIs (s := { s with heap := _ }) (gty k1)) ?_)
  have h1 : Builtin.List.listSameRef (.ref s.heap.objs.size) (.ref a) = false := by simp [Builtin.List.listSameRef, hSa]
  have h2 : (Value.type "generator" == Value.type "list") = false := by decide
  have h3 : (Value.type "generator" == Value.type "tuple") = false := by decide
  simp only [h1, h2, h3, Bool.or_false, Bool.false_eq_true, if_false]
  refine wpAny_bind (wpAny_pyIter_gen (s := { s with heap := _ }) (gty k1) ?_)
  refine wpAny_bind (wpAny_holding ?_)
  unfold Builtin.List.listLengthHint
  refine wpAny_bind (wpAny_specialOf (Heap.IsGen.typeIs (s := { s with heap := _ }) (gty k1)) F.gen_no_len ?_)
  show wpAny _ A.in1 (specialOf (Value.ref a) (Str.ofString "__length_hint__") >>= _) _ _ _
  refine wpAny_bind (wpAny_specialOf (Heap.IsGen.typeIs (s := { s with heap := _ }) (gty k1)) F.gen_no_hint ?_)
  refine wpAny_pure ?_
  show wpAny _ A.in1 (rule "list.extend.makes-room" >>= fun _ => Builtin.List.listTouch (.ref s.heap.objs.size) >>= fun _ =>
    again (.builtin "list.extend.loop" ⟨[.ref s.heap.objs.size, .ref a, .ref s.heap.objs.size], []⟩)) _ _ _
  refine wpAny_bind (wpAny_rule ?_)
  have hS₁ : (s.heap.push { cls := .type "list", data := .seq ([] : List Value).toArray }).get? s.heap.objs.size = some { cls := .type "list", data := .seq ([] : List Value).toArray } := Heap.get?_push_size _ rfl
  refine wpAny_bind ?_
  show wpAny _ A.in1 (updateSeq s.heap.objs.size (·.push .none) >>= fun _ => updateSeq s.heap.objs.size (·.pop)) _ _ _
  refine wpAny_bind (wpAny_updateSeq hS₁ rfl ?_)
  have hS₂ := Heap.get?_update_self (Obj.mapSeq (·.push Value.none)) hS₁ rfl
  refine wpAny_updateSeq hS₂ rfl ?_
  have hS₃ := Heap.get?_update_self (Obj.mapSeq (·.pop)) hS₂ rfl
  have up : ∀ (h : Heap) (f : Obj → Obj), (∀ b o, s.heap.get? b = some o → h.get? b = some o) → ∀ b o, s.heap.get? b = some o → (h.update s.heap.objs.size f).get? b = some o := fun h f q b o e =>
    (Heap.get?_update_other _ _ (Ne.symm (Nat.ne_of_lt (Heap.lt_size e)))).trans (q b o e)
  have k4 := up _ (Obj.mapSeq (·.pop)) (up _ (Obj.mapSeq (·.push Value.none)) k1)
  refine wpAny_pure ⟨plainId_quiet F.plain_extend_loop _, ?_⟩
  refine drain (P := P) (w := w) (outer := outer) (H := H) (sc := sc) (ex := ex) (Q := Q) (EX := fun _ _ _ => False) (A := A) (g := g) hr.hd (by have := hr.dp; omega) hSa hSc
    (fun s' acc c H' ys q1 q2 q3 q4 q5 q6 q7 q8 q9 => ?_) (fun e s' hc => ?_) sizeLine _ (gty k4) (hl.keeps k4) ⟨_, hgs, rfl, ?_⟩
  · show wpAny _ A (load s.heap.objs.size >>= _) _ _ s'
    refine wpAny_bind (wpAny_load q1 ?_)
    exact wpAny_pure (hQ acc s' ⟨H', ys, q2, q3, q4, q5, q6, q7, q9⟩)
  · obtain ⟨_, _, _, _, _, _, _, _, _, _, _, _, hf⟩ := hc
    exact hf.elim
  · refine wake _ _ _ ⟨hr.hd, ?_, ?_⟩ hfr (Nat.le_refl _) k4 ⟨_, hS₃⟩ hos (allBare_setGen (s := { s with heap := _ }) hb rfl)
    · have := hr.dp
      show A.depth + 3 * k + 5 < _
      omega
    · have := hr.un
      show A.units + 1 + 1 + 16 * k + 200 < _
      omega

theorem call_tuple_gx {Q' : Value → Shared → Prop} (hr : Room (k + 3) A) (hfr : A.frames = some outer) (h : GMade P w k outer H sc ex Q (fun _ _ _ => False) u s)
    (hQ : ∀ acc s', Drained P w outer H sc ex Q acc s' → Q' (.ref s'.heap.objs.size) { s' with heap := s'.heap.push { cls := .type "tuple", data := .seq acc } }) :
    wpAny (model P w) A (call (.type "tuple") [u]) Q' E s := by
  obtain ⟨a, g, c, hu, ha1, ha2, hg, r⟩ := id h
  have hTI : s.TypeIs u "generator" := by rw [hu]; exact hg.typeIs
  have hsub := sub_tuple_self
  have hinit := init_tuple_lookup
  have hmh := madeHere_tuple
  have r2 : Room (k + 2) A.in1.in1 := ⟨hr.hd, by have := hr.dp; show A.depth + 3 * (k + 2) + 5 < _; omega, by have := hr.un; show A.units + 1 + 1 + 16 * (k + 2) + 200 < _; omega⟩
  refine callType_codes (Q₁ := fun obj s₁ => s₁.TypeIs obj "tuple" ∧ Q' obj s₁) F.called_tuple (F.typeCall_tuple_1 _) F.entry_object_init ?_ fun obj s₁ h₁ =>
    ⟨h₁.1, F.args_object_init_2 obj _, object_init_meets F.called_tuple.init.lookup F.called_tuple.made (by decide) P w A.in1 _ s₁ ⟨h₁.1, rfl, h₁.2⟩⟩
  refine codeAny_of_tree ?_
  show wpAny _ A.in1.in1 (do checkBuiltinCall "tuple.__new__" ⟨[.type "tuple", u], []⟩; again (.builtin "tuple.__new__" ⟨[.type "tuple", u], []⟩)) _ _ s
  refine wpAny_bind (wpAny_of_eq (F.newCall_tuple_1 _) (wpAny_pure ⟨plainId_quiet F.plain_tuple_new _, codeAny_builtin F.entry_tuple_new ?_⟩))
  rw [Around.under_plainId F.plain_tuple_new _]
  have col := fun (Q'' : List Value → Shared → Prop) (E' : Value → Shared → Prop) (hq : ∀ acc s', Drained P w outer H sc ex Q acc s' → Q'' acc.toList s') => collect_gx (A := A.in1.in1) (Q' := Q'') (E := E') r2 hfr h hq
  clear r h
  subst hu
  wp_walk using wpAny_typeOf hTI, col
  intro acc s' hd
  show wpAny _ _ (Builtin.Tuple.tupleExact acc.toList.toArray >>= fun v => ret v) _ _ _
  unfold Builtin.Tuple.tupleExact
  have hz : acc.size ≤ sizeLine := by
    obtain ⟨H', ys, q1, q2, _⟩ := hd
    have e1 := q1.length
    have e2 : acc.toList.length = acc.size := by simp
    omega
  refine wpAny_bind (wpAny_newObj_type ?_ (by show acc.toList.toArray.size ≤ sizeLine; simp only [Array.toArray_toList]; exact hz))
  refine wpAny_pure ?_
  have e : acc.toList.toArray = acc := by simp
  rw [e]
  exact ⟨⟨_, Heap.get?_push_size _ rfl, rfl⟩, hQ acc s' hd⟩
end

section
variable {X : Cx}
def tTupleG (tg : TGen) : TE := fun σ H Q => tg σ H fun out H2 => ∀ p, H2 p = none → Q (.ref p) (upd H2 p (.tup out))
/-- tuple(g) -/
theorem pe_tupleG {k : Nat} {e : Expr} {tg : TGen} {p pos : Pos} (h : PGen X k e tg (fun _ _ _ => False)) (hr : Room (k + 3) X.A) (hg : Gl X "tuple") (hmg : X.mg "tuple" = none)
    (he : starEach [e] X.env = (false, eval e X.env) :: starEach [] X.env := by rfl) : PE X (.Call (.Name "tuple" p) [e] [] pos) (tTupleG tg) := by
  refine ⟨fun pins s σ H Q I hq => ?_⟩
  refine wpAny_Call_Name_kw (ld_blt I hg hmg (u := .type "tuple") (by rfl) ?_ (by decide) (by decide))
  refine PyProof.Rows.callWith_type1 ?_ he rfl
  rw [he]
  show wpAny _ _ (spliced ((false, eval e X.env) :: backTo pos (starEach [] X.env))) _ _ s
  refine Calls.spliced_cons (thn (h.run pins s σ H _ I hq) fun u s1 ⟨H1, sc, ex, I1, hex, hG⟩ => ?_)
  refine Calls.spliced_nil ?_
  refine call_tuple_gx hr I1.ok.frames hG fun acc s' hd => ?_
  obtain ⟨H', ys, q1, q2, q3, q4, q5, q6, q7⟩ := hd
  have I2 : Inv X pins σ H' s' := I1.call' (ch := ex) q3 q5 q6 q4 hex
  refine ⟨.ref s'.heap.objs.size, _, I2.laid (t' := s'.toks) (fun b o e => Heap.get?_push_of_some _ e) (Nat.le_refl _) (o := .tup ys) ⟨q2, acc.toList, q1, ?_⟩, rfl, q7 _ (I2.hok.fresh (Nat.le_refl _))⟩
  exact ⟨_, Heap.get?_push_size _ rfl, rfl, 0, by simp⟩
end
/-- a genexp's turns over a walk -/
theorem gx_it {J : It} {n : Nat} {G : Hp → Prop} {Y : Nat → Hp → V → Hp → Prop} (w : Walk J n G Y) {g : TG} {tt : TT} {te : TE} {vs : List Nat} {σ : L2.St} {H1 : Hp} {cont : List V → Hp → Prop} (Pv : Nat → List V → Hp → Prop) (h0 : Pv 0 [] H1) (hG : ∀ i ys H, i ≤ n → Pv i ys H → G H)
    (hs : ∀ i x ys H H', i < n → Pv i ys H → Y i H x H' → g x (wipe σ vs) H' fun σ2 H2 => wipe σ2 vs = wipe σ vs ∧ tt σ2 H2 fun b H3 =>
      if b = true then te σ2 H3 fun y H4 => ys.length < sizeLine ∧ Pv (i + 1) (ys ++ [y]) H4 else Pv (i + 1) ys H3) (hd : ∀ ys H, Pv n ys H → cont ys H) :
    ∃ W : Nat → Nat → List V → Hp → Prop, (∃ m, W 0 m [] H1) ∧ ∀ i m ys H, W i m ys H →
      (J.stop i H ∧ cont ys H) ∨ (J.go i H ∧ ∃ Nx : List V → Hp → Prop, (∀ ys' H', Nx ys' H' → ∃ m', m' < m ∧ W (i + 1) m' ys' H') ∧ ∀ x H', J.yld i H x H' → g x (wipe σ vs) H' fun σ2 H2 => wipe σ2 vs = wipe σ vs ∧ tt σ2 H2 fun b H3 =>
        if b = true then te σ2 H3 fun y H4 => ys.length < sizeLine ∧ Nx (ys ++ [y]) H4 else Nx ys H3) := by
  refine ⟨fun i m ys H => m = n - i ∧ i ≤ n ∧ Pv i ys H, ⟨n, by simp, Nat.zero_le _, h0⟩, ?_⟩
  rintro i m ys H ⟨rfl, hi, p⟩
  have q := hG i ys H hi p
  by_cases hlt : i < n
  · refine .inr ⟨w.goes i H hlt q, Pv (i + 1), fun ys' H' p' => ⟨n - (i + 1), by omega, rfl, hlt, p'⟩, fun x H' y => hs i x ys H H' hlt p (w.yields i H x H' hlt q y)⟩
  · have e : i = n := by omega
    subst e
    exact .inl ⟨w.stops H q, hd ys H p⟩
end Gx


/-! ledgers by counting: what stands in one stands in another, in any order -/
namespace Sd
open PySem L2
open Classical in
noncomputable def one1 (a x : Addr × HO) : Nat := if x = a then 1 else 0
noncomputable def cnt (a : Addr × HO) : Lg → Nat
  | [] => 0
  | x :: r => one1 a x + cnt a r
theorem cnt_nil {a : Addr × HO} : cnt a [] = 0 := rfl
theorem cnt_cons {a x : Addr × HO} {r : Lg} : cnt a (x :: r) = one1 a x + cnt a r := rfl
theorem cnt_app {a : Addr × HO} : ∀ {A B : Lg}, cnt a (A ++ B) = cnt a A + cnt a B
  | [], B => by rw [List.nil_append, cnt_nil, Nat.zero_add]
  | x :: r, B => by rw [List.cons_append, cnt_cons, cnt_cons, cnt_app]; omega
theorem cnt_pos {a : Addr × HO} : ∀ {A : Lg}, 0 < cnt a A → a ∈ A
  | [], h => by rw [cnt_nil] at h; omega
  | x :: r, h => by
    by_cases e : x = a
    · rw [e]; exact List.mem_cons_self
    · rw [cnt_cons, one1, if_neg e, Nat.zero_add] at h
      exact List.mem_cons_of_mem _ (cnt_pos h)
theorem Led.le_aux {H : Hp} : ∀ (B C L : Lg), Led H (C ++ L) → (∀ a, cnt a B ≤ cnt a L) → Led H (C ++ B)
  | [], C, L, h, _ => by rw [List.append_nil]; exact h.left
  | x :: r, C, L, h, e => by
    have h1 := e x
    have o1 : one1 x x = 1 := by unfold one1; rw [if_pos rfl]
    rw [cnt_cons, o1] at h1
    obtain ⟨A, B, rfl⟩ := List.append_of_mem (cnt_pos (show 0 < cnt x L by omega))
    have h2 : Led H ((C ++ [x]) ++ (A ++ B)) := by
      refine h.perm ?_
      rw [List.append_assoc]
      exact List.perm_middle.append_left C
    have := Led.le_aux r (C ++ [x]) (A ++ B) h2 fun a => by
      have := e a
      rw [cnt_cons, cnt_app, cnt_cons] at this
      rw [cnt_app]; omega
    rw [List.append_assoc] at this
    exact this
theorem Led.le {H : Hp} {B L : Lg} (h : Led H L) (e : ∀ a, cnt a B ≤ cnt a L) : Led H B := Led.le_aux B [] L h e
section
variable {K : PySem.W.Frag} {H : Hp} {L : Lg} {l : Addr} {xs : List V}
theorem k_lenL2 {P : List V → Prop} (hL : Led H L) (e : At L l (.lst xs)) (q : P xs) : ∃ p ys, [V.ref l] = [.ref p] ∧ (SqL K H p ys ∨ SqT K H p ys) ∧ P ys := ⟨_, _, rfl, .inl (.of (hL.at e)), q⟩
theorem k_lenT2 {P : List V → Prop} (hL : Led H L) (e : At L l (.tup xs)) (q : P xs) : ∃ p ys, [V.ref l] = [.ref p] ∧ (SqL K H p ys ∨ SqT K H p ys) ∧ P ys := ⟨_, _, rfl, .inr (.of (hL.at e)), q⟩
end
/-! loops with the ends told by what they take -/
/-- the ends of a turn: what stands behind it, a return, a break -/
structure EndsA (N : L2.St → Hp → Prop) (D D' : Ends) : Prop where
  nx : ∀ σ H, N σ H → D'.nx σ H
  ct : ∀ σ H, N σ H → D'.ct σ H
  bk : ∀ σ H, D.nx σ H → D'.bk σ H
  rt : ∀ v H, D.rt v H → D'.rt v H
section
variable {K : PySem.W.Frag} {a : Addr} {xs : List V} {g : TG} {tb : TS} {D : Ends} {σ : L2.St} {H : Hp}
theorem for_listA (Pv : Nat → L2.St → Hp → Prop) (h0 : Pv 0 σ H) (hl : ∀ i σ H, i ≤ xs.length → Pv i σ H → SqL K H a xs)
    (hs : ∀ i x σ H (D' : Ends), xs[i]? = some x → Pv i σ H → EndsA (Pv (i + 1)) D D' → g x σ H fun σ2 H2 => tb D' σ2 H2) (hd : ∀ σ H, Pv xs.length σ H → D.nx σ H) :
    ∃ W : Nat → Nat → L2.St → Hp → Prop, (∃ m, W 0 m σ H) ∧ ∀ i m σ H, W i m σ H →
      ((Itl K a).stop i H ∧ D.nx σ H) ∨ ((Itl K a).go i H ∧ ∃ N : L2.St → Hp → Prop, (∀ σ' H', N σ' H' → ∃ m', m' < m ∧ W (i + 1) m' σ' H') ∧ ∀ x H', (Itl K a).yld i H x H' → g x σ H' fun σ2 H2 => tb { D with nx := N, ct := N, bk := D.nx } σ2 H2) :=
  for_list Pv h0 hl (fun i x σ H hi h => hs i x σ H _ hi h ⟨fun _ _ q => q, fun _ _ q => q, fun _ _ q => q, fun _ _ q => q⟩) hd
theorem for_tupA (Pv : Nat → L2.St → Hp → Prop) (h0 : Pv 0 σ H) (hl : ∀ i σ H, i ≤ xs.length → Pv i σ H → SqT K H a xs)
    (hs : ∀ i x σ H (D' : Ends), xs[i]? = some x → Pv i σ H → EndsA (Pv (i + 1)) D D' → g x σ H fun σ2 H2 => tb D' σ2 H2) (hd : ∀ σ H, Pv xs.length σ H → D.nx σ H) :
    ∃ W : Nat → Nat → L2.St → Hp → Prop, (∃ m, W 0 m σ H) ∧ ∀ i m σ H, W i m σ H →
      ((Itt K a).stop i H ∧ D.nx σ H) ∨ ((Itt K a).go i H ∧ ∃ N : L2.St → Hp → Prop, (∀ σ' H', N σ' H' → ∃ m', m' < m ∧ W (i + 1) m' σ' H') ∧ ∀ x H', (Itt K a).yld i H x H' → g x σ H' fun σ2 H2 => tb { D with nx := N, ct := N, bk := D.nx } σ2 H2) :=
  for_tup Pv h0 hl (fun i x σ H hi h => hs i x σ H _ hi h ⟨fun _ _ q => q, fun _ _ q => q, fun _ _ q => q, fun _ _ q => q⟩) hd
theorem for_rangeA {lo : Int} {n : Nat} (Pv : Nat → L2.St → Hp → Prop) (h0 : Pv 0 σ H)
    (hs : ∀ i σ H (D' : Ends), i < n → Pv i σ H → EndsA (Pv (i + 1)) D D' → g (.int (lo + i)) σ H fun σ2 H2 => tb D' σ2 H2) (hd : ∀ σ H, Pv n σ H → D.nx σ H) :
    ∃ W : Nat → Nat → L2.St → Hp → Prop, (∃ m, W 0 m σ H) ∧ ∀ i m σ H, W i m σ H →
      ((Itr lo n).stop i H ∧ D.nx σ H) ∨ ((Itr lo n).go i H ∧ ∃ N : L2.St → Hp → Prop, (∀ σ' H', N σ' H' → ∃ m', m' < m ∧ W (i + 1) m' σ' H') ∧ ∀ x H', (Itr lo n).yld i H x H' → g x σ H' fun σ2 H2 => tb { D with nx := N, ct := N, bk := D.nx } σ2 H2) :=
  for_range Pv h0 (fun i σ H hi h => hs i σ H _ hi h ⟨fun _ _ q => q, fun _ _ q => q, fun _ _ q => q, fun _ _ q => q⟩) hd
theorem for_itA {J : It} {n : Nat} {G : Hp → Prop} {Y : Nat → Hp → V → Hp → Prop} (w : Walk J n G Y) (Pv : Nat → L2.St → Hp → Prop) (h0 : Pv 0 σ H) (hG : ∀ i σ H, i ≤ n → Pv i σ H → G H)
    (hs : ∀ i x σ H H' (D' : Ends), i < n → Pv i σ H → Y i H x H' → EndsA (Pv (i + 1)) D D' → g x σ H' fun σ2 H2 => tb D' σ2 H2) (hd : ∀ σ H, Pv n σ H → D.nx σ H) :
    ∃ W : Nat → Nat → L2.St → Hp → Prop, (∃ m, W 0 m σ H) ∧ ∀ i m σ H, W i m σ H →
      (J.stop i H ∧ D.nx σ H) ∨ (J.go i H ∧ ∃ N : L2.St → Hp → Prop, (∀ σ' H', N σ' H' → ∃ m', m' < m ∧ W (i + 1) m' σ' H') ∧ ∀ x H', J.yld i H x H' → g x σ H' fun σ2 H2 => tb { D with nx := N, ct := N, bk := D.nx } σ2 H2) :=
  for_it w Pv h0 hG (fun i x σ H H' hi h hy => hs i x σ H H' _ hi h hy ⟨fun _ _ q => q, fun _ _ q => q, fun _ _ q => q, fun _ _ q => q⟩) hd
/-- the ends of what is done while d is locked -/
structure EndsL (d : Addr) (od : Obj) (u : HO) (D D' : Ends) : Prop where
  nx : ∀ σ H, H d = some (.frz od u) → D.nx σ (L2.upd H d u) → D'.nx σ H
  rt : ∀ v H, H d = some (.frz od u) → D.rt v (L2.upd H d u) → D'.rt v H
  bk : ∀ σ H, H d = some (.frz od u) → D.bk σ (L2.upd H d u) → D'.bk σ H
  ct : ∀ σ H, H d = some (.frz od u) → D.ct σ (L2.upd H d u) → D'.ct σ H
theorem lockA {t : TS} {d : Addr} {u : HO} (hd : H d = some u) (mu : Mut (some u)) (h : ∀ od (D' : Ends), EndsL d od u D D' → t D' σ (L2.upd H d (.frz od u))) : tLock t D σ H :=
  ⟨d, u, hd, mu, fun od => h od _ ⟨fun _ _ a b => ⟨a, b⟩, fun _ _ a b => ⟨a, b⟩, fun _ _ a b => ⟨a, b⟩, fun _ _ a b => ⟨a, b⟩⟩⟩
end
end Sd


/-! sorted lists of texts: one order only -/
namespace Sd
open PySem PySem.Spec PyProof.Rows L2
theorem str_ext {x y : Str} (h : x.cps.toList = y.cps.toList) : x = y := by
  cases x; cases y
  simp only [Str.mk.injEq]
  exact Array.toList_inj.mp h
theorem rising_pw : ∀ {l : List Str} {p : Str}, risingS p l = true → ((p :: l).map (·.cps.toList)).Pairwise (· ≤ ·)
  | [], p, _ => by simp
  | x :: r, p, h => by
    have h : (!ltCps x.cps.toList p.cps.toList && risingS x r) = true := h
    rw [Bool.and_eq_true] at h
    have ih := rising_pw h.2
    have h1 : p.cps.toList ≤ x.cps.toList := by
      have := h.1
      rw [ltCps_eq] at this
      simpa using this
    rw [List.map_cons]
    refine List.pairwise_cons.mpr ⟨fun y hy => ?_, ih⟩
    rw [List.map_cons] at hy
    rcases List.mem_cons.mp hy with e | hy
    · rw [e]; exact h1
    · exact Std.le_trans h1 ((List.pairwise_cons.mp ih).1 y hy)
theorem sorted_pw {l : List Str} (h : sortedS l = true) : (l.map (·.cps.toList)).Pairwise (· ≤ ·) := by
  cases l with
  | nil => simp
  | cons x r => exact rising_pw h
theorem sortedS_uniq {xs ys : List Str} (p : ys.Perm xs) (h1 : sortedS ys = true) (h2 : sortedS xs = true) : ys = xs := by
  have e : ys.map (·.cps.toList) = xs.map (·.cps.toList) := List.Perm.eq_of_pairwise (le := (· ≤ ·)) (fun a b _ _ h3 h4 => Std.le_antisymm h3 h4) (sorted_pw h1) (sorted_pw h2) (p.map _)
  exact List.map_inj_right (fun _ _ h => str_ext h) |>.mp e
end Sd


/-! rules within a comprehension (.blk) or a generator expression (.gx), told with the outer K; words for texts -/
namespace Sd
open PySem PySem.Spec PyProof.Rows L2
section
variable {X : Cx} {s : Shared} {H : Hp} {scope : Scope} {env : Env} {fp : List Addr} {e : Expr} {f : Str} {pos : Pos} {ta : TE}
theorem pe_fldB (he : PE (X.blk s H scope env fp) e ta) (hb : attributeBase e f env (eval e env) = eval e env) : PE (X.blk s H scope env fp) (.Attribute e f pos) (tFld X.K ta f) := pe_fld he hb
theorem ix_tupB : IxR (X.blk s H scope env fp) (rIxT X.K) := ix_tup
theorem ix_listB : IxR (X.blk s H scope env fp) (rIxL X.K) := ix_list
theorem pi_listB {tg e : Expr} {te : TE} (he : PE (X.blk s H scope env fp) e te) : PI (X.blk s H scope env fp) tg e (iList X.K te) := pi_list he
theorem call_dictPB (hcalm : X.calm = true) : CallR (X.blk s H scope env fp) (.type "dict") (fun xs H Q => ∃ (a : Addr) (ps : List Addr) (kvs : List (Key × V)), xs = [.ref a] ∧ SqL X.K H a (ps.map V.ref) ∧ Paired (fun p kv => SqT X.K H p [kV kv.1, kv.2]) ps kvs ∧ ∀ p, H p = none → Q (.ref p) (upd H p (.dK (mergeK [] kvs)))) := call_dictP hcalm
theorem op_in_seqB : OpR (X.blk s H scope env fp) (compareOp .In) (rIn X.K false) := op_in_seq
theorem op_notIn_seqB : OpR (X.blk s H scope env fp) (compareOp .NotIn) (rIn X.K true) := op_notIn_seq
theorem op_eqPB (hu : (X.blk s H scope env fp).A.units + 64 < cLine) : OpR (X.blk s H scope env fp) (compareOp .Eq) (rEqP X.K) := op_eqP hu
theorem op_nePB (hu : (X.blk s H scope env fp).A.units + 64 < cLine) : OpR (X.blk s H scope env fp) (compareOp .NotEq) (rNeP X.K) := op_neP hu
end
section
variable {X : Cx} {A : Around} {s : Shared} {H : Hp} {env : Env} {fp : List Addr} {pn : List (Addr × Obj)} {e : Expr} {f : Str} {pos : Pos} {ta : TE}
theorem pe_fldG (he : PE (Gx.gx X A s H env fp pn) e ta) (hb : attributeBase e f env (eval e env) = eval e env) : PE (Gx.gx X A s H env fp pn) (.Attribute e f pos) (tFld X.K ta f) := pe_fld he hb
theorem ix_tupG : IxR (Gx.gx X A s H env fp pn) (rIxT X.K) := ix_tup
theorem ix_listG : IxR (Gx.gx X A s H env fp pn) (rIxL X.K) := ix_list
theorem op_in_seqG : OpR (Gx.gx X A s H env fp pn) (compareOp .In) (rIn X.K false) := op_in_seq
theorem op_notIn_seqG : OpR (Gx.gx X A s H env fp pn) (compareOp .NotIn) (rIn X.K true) := op_notIn_seq
end
/-! texts in lists -/
theorem in_strs {x : Str} {ns : List Str} : inV (.str x) (ns.map .str) = decide (x ∈ ns) := by
  unfold inV
  induction ns with
  | nil => simp
  | cons y r ih =>
    rw [List.map_cons, List.any_cons, ih]
    show (y == x || _) = _
    by_cases e : y = x
    · subst e; simp
    · simp [e, Ne.symm e]
theorem flat_strs {ns : List Str} : (ns.map V.str).all flatV = true := by
  rw [List.all_map, List.all_eq_true]; exact fun _ _ => rfl
theorem eqvAll_strs : ∀ (a b : List Str), PyData.eqvAll (a.map PyData.str) (b.map PyData.str) = decide (a = b)
  | [], [] => by simp [PyData.eqvAll]
  | [], _ :: _ => by simp [PyData.eqvAll]
  | _ :: _, [] => by simp [PyData.eqvAll]
  | x :: r, y :: s => by
    rw [List.map_cons, List.map_cons, PyData.eqvAll, eqvAll_strs r s]
    by_cases e : x = y <;> simp [PyData.eqv, e]
theorem eqv_strs {a b : List Str} : PyData.eqv (.list (a.map PyData.str)) (.list (b.map PyData.str)) = decide (a = b) := by
  rw [PyData.eqv]; exact eqvAll_strs a b
section
variable {K : PySem.W.Frag} {H : Hp} {L : Lg} {p q : Addr} {a b : List Str} {Q : VK} {xs ys : List V}
theorem k_neStrs (hL : Led H L) (h1 : At L p (.lst xs)) (h2 : At L q (.lst ys)) (e1 : xs = a.map V.str) (e2 : ys = b.map V.str) (k : Q (.bl (!decide (a = b))) H) : rNeP K (.ref p) (.ref q) H Q :=
  ⟨_, _, dp_lst (e1 ▸ hL.at h1) dp_strs, dp_lst (e2 ▸ hL.at h2) dp_strs, shal_strs, shal_strs, by rw [eqv_strs]; exact k⟩
theorem k_eqStrs (hL : Led H L) (h1 : At L p (.lst xs)) (h2 : At L q (.lst ys)) (e1 : xs = a.map V.str) (e2 : ys = b.map V.str) (k : Q (.bl (decide (a = b))) H) : rEqP K (.ref p) (.ref q) H Q :=
  ⟨_, _, dp_lst (e1 ▸ hL.at h1) dp_strs, dp_lst (e2 ▸ hL.at h2) dp_strs, shal_strs, shal_strs, by rw [eqv_strs]; exact k⟩
theorem k_inS {x : Str} {ns : List Str} (hL : Led H L) (h1 : At L p (.lst (ns.map V.str))) (k : Q (.bl (decide (x ∈ ns))) H) : rIn K false (.str x) (.ref p) H Q :=
  ⟨_, _, rfl, .inl (.of (hL.at h1)), rfl, flat_strs, by rw [in_strs]; exact k⟩
theorem k_ninS {x : Str} {ns : List Str} (hL : Led H L) (h1 : At L p (.lst (ns.map V.str))) (k : Q (.bl (!decide (x ∈ ns))) H) : rIn K true (.str x) (.ref p) H Q :=
  ⟨_, _, rfl, .inl (.of (hL.at h1)), rfl, flat_strs, by rw [in_strs]; exact k⟩
end
theorem mergeK_dz {names : List Str} {vals : List V} (h : names.Nodup) (hl : names.length = vals.length) : mergeK [] (dz names vals) = dz names vals := by
  rw [mergeK_nd]
  · rfl
  · have : (dz names vals).map (·.1) = names.map (Sum.inr : Str → Key) := by
      unfold dz
      rw [← List.unzip_fst, List.unzip_zip (by simpa using hl)]
    rw [List.nil_append, this]
    exact List.pairwise_map.mpr (h.imp fun ne q => ne (Sum.inr.inj q))
theorem paired_map {α β γ : Type} {F : β → γ → Prop} {f : α → β} {g : α → γ} : ∀ {l : List α}, (∀ x ∈ l, F (f x) (g x)) → Paired F (l.map f) (l.map g)
  | [], _ => .nil
  | x :: r, h => .cons (h x List.mem_cons_self) (paired_map fun y hy => h y (.tail _ hy))
end Sd


/-! told(lambda): a lambda made, called by told, and it raises: the table of the law's own code lives on -/
namespace Sd
open PySem PySem.Spec PyProof.Rows L2 LamX NdefX
theorem led_more {H : Hp} : ∀ (as : List Addr) (R : Lg), Led H R → ∃ R2 : Lg, Led H R2 ∧ (∀ x ∈ R, x ∈ R2) ∧ ∀ a ∈ as, ∀ o, H a = some o → ∀ H', Led H' R2 → H' a = some o
  | [], R, h => ⟨R, h, fun _ h => h, fun _ h => nomatch h⟩
  | a :: as, R, h => by
    obtain ⟨R1, h1, i1, k1⟩ := led_more as R h
    by_cases e : ∃ o, (a, o) ∈ R1
    · obtain ⟨o, ho⟩ := e
      refine ⟨R1, h1, i1, fun b hb o' hb' H' h' => ?_⟩
      rcases List.mem_cons.mp hb with rfl | hb
      · have := h1.mem ho
        rw [hb'] at this
        cases this
        exact h'.mem ho
      · exact k1 b hb o' hb' H' h'
    · rcases ha : H a with _ | o
      · refine ⟨R1, h1, i1, fun b hb o' hb' H' h' => ?_⟩
        rcases List.mem_cons.mp hb with rfl | hb
        · rw [ha] at hb'; cases hb'
        · exact k1 b hb o' hb' H' h'
      · refine ⟨(a, o) :: R1, ⟨fun x hx => ?_, ?_⟩, fun x hx => .tail _ (i1 x hx), fun b hb o' hb' H' h' => ?_⟩
        · rcases List.mem_cons.mp hx with rfl | hx
          · exact ha
          · exact h1.1 x hx
        · rw [List.map_cons]
          refine List.nodup_cons.mpr ⟨fun hm => ?_, h1.2⟩
          obtain ⟨x, hx, ex⟩ := List.mem_map.mp hm
          exact e ⟨x.2, by
            have ex : x.1 = a := ex
            rw [← ex]; exact hx⟩
        · rcases List.mem_cons.mp hb with rfl | hb
          · rw [ha] at hb'; cases hb'
            exact h'.mem (.head _)
          · exact k1 b hb o' hb' H' h'.tail
/-- the table within a ledger -/
theorem tab_led {H : Hp} {P : Addr} {q : Str} (t : TabS H P q) : ∃ R : Lg, Led H R ∧ ∀ H', Led H' R → TabS H' P q := by
  obtain ⟨ps, h1, h2, h3⟩ := t
  obtain ⟨R, hR, _, k⟩ := led_more (P :: ps.toList.filterMap fun v => match v with | .ref c => some c | _ => none) [] Led.nil
  refine ⟨R, hR, fun H' h' => ⟨ps, k P (.head _) _ h1 H' h', h2, fun pos cv hc => ?_⟩⟩
  obtain ⟨c, rfl, hcc⟩ := h3 pos cv hc
  refine ⟨c, rfl, k c (.tail _ (List.mem_filterMap.mpr ⟨.ref c, ?_, rfl⟩)) _ hcc H' h'⟩
  clear h1 h2 h3 k hR hcc
  generalize ps.toList = l at hc
  fun_induction codeAmong pos l with
  | case1 line t1 col t2 c' rest hq =>
    cases hc
    exact .tail _ (.tail _ (.head _))
  | case2 line t1 col t2 c' rest hq ih => exact .tail _ (.tail _ (.tail _ (ih hc)))
  | case3 => cases hc
/-- a lambda that raises -/
def tlR (CE : Addr) : Hp → VK → XK → Prop := fun H _ E => ∃ R, Led H R ∧ ∀ H', Led H' R → E (.ref CE) none H'
theorem rd_told {P : Program} {w : World} {K : PySem.W.Frag} {mg : Str → Option Value} {base : Heap} {k : Nat} {CE PL : Addr} {e ret q : Str} {params : Arguments} {body : Expr} {scope : Scope} {σ : L2.St} {H : Hp} {Q : VK} (T : ExcT K mg e CE) (hT : TabS H PL q)
    (L : ∀ f c', LOk P w K mg base k f ⟨"<lambda>", q, params, [], scope, [], c'⟩ body (tlR CE)) (kq : ∀ H', TabS H' PL q → Q (.str ret) H') :
    tCall (spTold P w K mg base k CE ret) [] C8.E0 (tCons (tLamV PL q params body scope) tNil) σ H Q := by
  refine ⟨hT, fun f c' H1 eN T1 n0 hf hc => ?_⟩
  obtain ⟨R, hR, kR⟩ := tab_led T1
  exact ⟨f, _, _, _, rfl, hf, hc, L f c', R, hR, fun H' h' => ⟨true, T.em, fun _ => kq H' (kR H' h'), fun z => nomatch z⟩⟩
end Sd


/-! the head's facts for the end of a law -/
namespace Sd
open PySem PySem.Spec PyProof.Rows L2
theorem fun_ofD {K : PySem.W.Frag} {x qual : Str} {st : Stmt} {f : Addr} {fd : FuncData} (F : FunD K x qual (defArgs st) (defBody st) (defScope st) [] [] f fd) : Fun K x qual st f fd := by
  obtain ⟨oc, od, dV, kV, doc, pm, an, cdv, ct, osl, e, lk, hcd, hD, hK⟩ := F.ex
  rcases hD with ⟨_, rfl⟩ | ⟨ne, _⟩
  · exact ⟨⟨oc, od, kV, doc, pm, an, cdv, ct, osl, e, lk, hcd⟩, F.kp⟩
  · exact absurd rfl ne
/-- a def whose own code is told -/
theorem fun_code {K : PySem.W.Frag} {x qual : Str} {st : Stmt} {p : He.Defn} {fd : FuncData} (F : Fun K x qual st (He.fAd K p) fd) :
    ∃ (oc : Value) (od : Option Addr) (kV doc pm : Value) (an : Option Addr) (ct : Value) (osl : Array (Option Value)),
      fd = PySem.W.fnOf x qual (defArgs st) (defBody st) (defScope st) .none kV doc pm an (.ref (He.cT K p).1) ct ∧ K.lookup (He.fAd K p) = some ⟨oc, od, .func fd, osl⟩ ∧ PySem.W.codeIn K (.ref (He.cT K p).1) qual = true := by
  obtain ⟨oc, od, kV, doc, pm, an, cdv, ct, osl, rfl, lk, hcd⟩ := F.ex
  obtain ⟨c, rfl⟩ := He.codeIn_ref hcd
  have e : (He.cT K p).1 = c := He.codeOf_eq lk rfl
  rw [e]
  exact ⟨oc, od, kV, doc, pm, an, ct, osl, rfl, lk, hcd⟩
theorem exc_T {K : PySem.W.Frag} {h : Heap} {mg : Str → Option Value} {x : Str} (X : K.In h) (G : h.Ns mainGlobals mg) (c1 : (He.Fa.glo x).ok K = true) (c2 : (He.Fa.exc x).ok K = true) (c3 : PySem.W.isClsIn K (He.ga K x) = true) (c4 : PySem.W.subIn K (.ref (He.ga K x)) (.ref (He.ga K x)) = some true) : ExcT K mg x (He.ga K x) := by
  obtain ⟨e1, e2, e3, e4⟩ := He.exc_ok c2
  exact ⟨He.glo_ok X G c1, e1, e2, e3, e4, c3, c4⟩
end Sd


namespace Sd
open PySem L2
open C8 (Cal Met Mak pe_c pe_mk pe_mt pe_mt0 tCut)
def top (i : Nat) : Stmt := PySem.Challenge.pw_shardstack_k08_who_hears_of_whom.main.body.getD i (.Pass ⟨0, 0, 0, 0⟩)
abbrev sDice : Stmt := top 9
abbrev sRoll : Stmt := top 10
abbrev sTold : Stmt := top 12
abbrev sRounds : Stmt := top 11

structure TxtL (mg : Str → Option Value) : Prop where
  abs : mg "abs" = none
  int : mg "int" = none
set_option hygiene false
local macro_rules | `(tactic| fail "nd") => `(tactic| first | assumption | decide +kernel)
local macro_rules | `(tactic| fail "ix") => `(tactic| first | exact ⟨0, rfl⟩ | exact ⟨1, rfl⟩ | exact ⟨2, rfl⟩ | exact ⟨3, rfl⟩ | exact ⟨4, rfl⟩ | exact ⟨5, rfl⟩ | exact ⟨6, rfl⟩ | exact ⟨7, rfl⟩ | exact ⟨8, rfl⟩ | exact ⟨9, rfl⟩ | exact ⟨10, rfl⟩ | exact ⟨11, rfl⟩ | exact ⟨12, rfl⟩ | assumption)
local macro_rules | `(tactic| fail "up") => `(tactic| first | exact ⟨0, rfl, rfl⟩ | exact ⟨1, rfl, rfl⟩ | exact ⟨2, rfl, rfl⟩ | exact ⟨3, rfl, rfl⟩ | exact ⟨4, rfl, rfl⟩ | exact ⟨5, rfl, rfl⟩ | exact ⟨6, rfl, rfl⟩ | exact ⟨7, rfl, rfl⟩ | exact ⟨8, rfl, rfl⟩ | exact ⟨9, rfl, rfl⟩ | exact ⟨10, rfl, rfl⟩ | exact ⟨11, rfl, rfl⟩ | exact ⟨12, rfl, rfl⟩ | assumption)
local macro_rules | `(tactic| fail "lkF") => `(tactic| first | assumption | exact fz_at 0 (by fail "nd") rfl rfl | exact fz_at 1 (by fail "nd") rfl rfl | exact fz_at 2 (by fail "nd") rfl rfl | exact fz_at 3 (by fail "nd") rfl rfl | exact fz_at 4 (by fail "nd") rfl rfl | exact fz_at 5 (by fail "nd") rfl rfl | exact fz_at 6 (by fail "nd") rfl rfl | exact fz_at 7 (by fail "nd") rfl rfl)
local macro_rules | `(tactic| fail "lkD") => `(tactic| first | assumption | exact dz_at 0 (by fail "nd") rfl rfl | exact dz_at 1 (by fail "nd") rfl rfl | exact dz_at 2 (by fail "nd") rfl rfl | exact dz_at 3 (by fail "nd") rfl rfl | exact dz_at 4 (by fail "nd") rfl rfl)
local macro_rules | `(tactic| fail "ptF") => `(tactic| first | assumption | exact fz_put 0 (by fail "nd") rfl (Nat.le_of_ble_eq_true rfl) | exact fz_put 1 (by fail "nd") rfl (Nat.le_of_ble_eq_true rfl) | exact fz_put 2 (by fail "nd") rfl (Nat.le_of_ble_eq_true rfl) | exact fz_put 3 (by fail "nd") rfl (Nat.le_of_ble_eq_true rfl) | exact fz_put 4 (by fail "nd") rfl (Nat.le_of_ble_eq_true rfl) | exact fz_put 5 (by fail "nd") rfl (Nat.le_of_ble_eq_true rfl) | exact fz_put 6 (by fail "nd") rfl (Nat.le_of_ble_eq_true rfl) | exact fz_put 7 (by fail "nd") rfl (Nat.le_of_ble_eq_true rfl) | exact fz_new (by decide +kernel) rfl)
local macro_rules | `(tactic| fail "ptD") => `(tactic| first | assumption | exact dz_put 0 (by fail "nd") rfl (Nat.le_of_ble_eq_true rfl) | exact dz_put 1 (by fail "nd") rfl (Nat.le_of_ble_eq_true rfl) | exact dz_put 2 (by fail "nd") rfl (Nat.le_of_ble_eq_true rfl) | exact dz_put 3 (by fail "nd") rfl (Nat.le_of_ble_eq_true rfl) | exact dz_put 4 (by fail "nd") rfl (Nat.le_of_ble_eq_true rfl))
local macro_rules | `(tactic| fail "sz") => `(tactic| first | assumption | exact (Nat.le_of_ble_eq_true rfl) | omega | decide)
local macro_rules | `(tactic| fail "sd") => `(tactic| first | rfl | assumption | decide | omega | (dsimp only; first | decide | omega) | exact .inr ⟨by decide, by decide⟩ | exact .inl ⟨by decide, by decide⟩ | exact ⟨by omega, by omega⟩ | exact .inl ⟨by omega, by omega⟩ | exact .inr ⟨by omega, by omega⟩ | exact ⟨by omega, by omega, by omega⟩)
local macro_rules | `(tactic| fail "cl") => `(tactic| (clear hH; dsimp only [List.set, List.cons_append, List.nil_append, List.append] at hL))
local macro_rules | `(tactic| fail "gn") => `(tactic| (intro p hp; generalize hH : upd H p _ = H; replace hL := Led.newH hL hp hH; clear hH hp))
local macro_rules | `(tactic| fail "gup") => `(tactic| (generalize hH : upd H _ _ = H; replace hL := Led.upU hL (by fail "up") hH; fail "cl"))
local macro_rules | `(tactic| fail "gmk") => `(tactic| (intro x dx hx hd ne; generalize hH : upd (upd H dx _) x _ = H; replace hL := Led.made hL hx hd ne hH; clear hH hx hd ne))
local macro_rules | `(tactic| fail "v") => `(tactic| refine ⟨_, rfl, ?_⟩)
local macro_rules | `(tactic| fail "i2") => `(tactic| refine ⟨_, _, rfl, rfl, ?_⟩)
local macro_rules | `(tactic| fail "go1") => `(tactic| first
  | refine ⟨_, rfl, ?_⟩
  | refine ⟨_, _, rfl, rfl, ?_⟩
  | refine ⟨_, _, rfl, ?_⟩
  | refine iteT ?_
  | refine iteF ?_
  | refine k_fld hL (by fail "ix") (by assumption) (by assumption) (by fail "lkF") ?_
  | refine k_dgetS hL (by fail "ix") (by fail "lkD") ?_
  | refine k_dgetI hL (by fail "ix") (by assumption) ?_
  | refine k_ixL hL (by fail "ix") (by first | rfl | assumption) ?_
  | refine k_ixT hL (by fail "ix") (by first | rfl | assumption) ?_
  | refine k_tyL hL (by fail "ix") ?_
  | refine k_isd hL (by fail "ix") ?_
  | (refine And.intro (by fail "sz") ?_; fail "gn")
  | refine And.intro (by fail "sd") ?_
  | fail "gn"
  | refine k_meth hL (by fail "ix") (by first | assumption | exact fz_no (by decide +kernel)) ?_
  | refine k_gtup hL (by fail "ix") rfl ?_
  | (refine k_popI hL (by fail "ix") (by assumption) ?_; fail "gup")
  | (refine k_listD hL (by fail "ix") ?_; fail "gn")
  | (refine ⟨_, _, _, _, rfl, rfl, hL.at (by fail "ix"), rfl, ?_⟩; fail "gup")
  | (refine ⟨_, _, _, rfl, rfl, hL.at (by fail "ix"), (by fail "sz"), ?_⟩; fail "gup")
  | (refine ⟨_, _, _, _, rfl, hL.at (by fail "ix"), by assumption, by assumption, Nat.lt_of_le_of_lt fz_len (by decide), ?_⟩; generalize hH : upd H _ _ = H; replace hL := Led.upF hL (by fail "up") (by fail "ptF") hH; fail "cl")
  | (refine ⟨_, _, hL.at (by fail "ix"), Nat.lt_of_le_of_lt fz_len (by decide), ?_⟩; generalize hH : upd H _ _ = H; replace hL := Led.upF hL (by fail "up") (by fail "ptF") hH; fail "cl")
  | (refine k_dputS hL (by fail "ix") (Nat.lt_of_le_of_lt dz_len (by decide)) (by fail "ptD") (by fail "up") ?_; clear hL; intro H hL; dsimp only [List.set, List.cons_append, List.nil_append, List.append] at hL)
  | refine .inl ⟨_, rfl, ?_⟩
  | refine .inr ⟨_, rfl, ?_⟩)
local macro_rules | `(tactic| fail "go") => `(tactic| repeat fail "go1")

def dD (a b c : Int) : HO := .lst [.int a, .int b, .int c]
def spDice : Sp := fun vs H Q _ => ∃ (c : Int) (L : Lg), vs = [.int c] ∧ Led H L ∧ ∀ (a b d : Int) (p : Addr) (H' : Hp), Led H' ((p, dD a b d) :: L) → Q (.ref p) H'
def spRoll : Sp := fun vs H Q _ => ∃ (l : Addr) (a b c m : Int) (R : Lg), vs = [.ref l, .int m] ∧ Led H ((l, dD a b c) :: R) ∧ 1 ≤ m ∧ m ≤ 100000000 ∧
  ∀ (r a' b' c' : Int) (H' : Hp), 0 ≤ r → r < m → Led H' ((l, dD a' b' c') :: R) → Q (.int r) H'
section
variable {P : Program} {w : World} {K : PySem.W.Frag} {mg : Str → Option Value} {base : Heap}
theorem scDice : FnScope ["cell"] ["cell"] (defScope sDice) := ⟨rfl, rfl, rfl, by decide +kernel, rfl, by decide +kernel, by decide +kernel⟩
theorem ok_dice {f : Addr} {fd : FuncData} (F : Fun K "_law_dice" "_law_dice" sDice f fd) (T : TxtL mg) : FnOk P w K mg base CX0 1 f fd ["cell"] spDice := by
  refine F.ok scDice (fun vs H Q E h => ?_) (fun cdv A outer s H vs Q E hr h => ?_)
  · obtain ⟨c, L, rfl, _⟩ := h
    rfl
  · obtain ⟨c, L, rfl, hL, k⟩ := h
    refine ⟨_, pss_cons (ps_if (pt_chain op_lt op_lt (pe_op op_sub pe_int pe_int) (pv 0) pe_int) (pss_one (ps_ret (pe_lst (pa_cons (pe_callB call_abs (by rfl) T.abs (by decide +kernel) (pa_cons (pv 0) pa_nil)) (pa_cons pe_int (pa_cons pe_int pa_nil)))))) pss_nil)
      (pss_one (ps_ret (pe_lst (pa_cons (pv 0) (pa_cons (pe_op op_add pe_int (pe_op op_mod (pe_callTy call_int1 (by rfl) T.int (by decide +kernel) (pa_cons (pv 0) pa_nil)) pe_int)) (pa_cons (pe_callTy call_int1 (by rfl) T.int (by decide +kernel) (pa_cons (pe_cmpR op_ge (pv 0) (pe_op op_pow pe_int pe_int) (nomark _)) pa_nil)) pa_nil)))))), ?_⟩
    fail "go"
    refine ite_d (fun h1 => ?_) (fun h1 => ?_)
    · fail "go"
      refine ite_d (fun h2 => ?_) (fun h2 => ?_)
      · fail "go"
        exact k _ _ _ _ _ hL
      · fail "go"
        exact k _ _ _ _ _ hL
    · fail "go"
      exact k _ _ _ _ _ hL
theorem scRoll : FnScope ["dice", "many", "found"] ["dice", "many"] (defScope sRoll) := ⟨rfl, rfl, rfl, by decide +kernel, rfl, by decide +kernel, by decide +kernel⟩
theorem ok_roll {f : Addr} {fd : FuncData} (F : Fun K "_law_roll" "_law_roll" sRoll f fd) (T : TxtL mg) : FnOk P w K mg base CX0 1 f fd ["dice", "many"] spRoll := by
  refine F.ok scRoll (fun vs H Q E h => ?_) (fun cdv A outer s H vs Q E hr h => ?_)
  · obtain ⟨l, a, b, c, m, R, rfl, _⟩ := h
    rfl
  · obtain ⟨l, a, b, c, m, R, rfl, hL, h1, h2, k⟩ := h
    refine ⟨_, pss_cons (ps_if (PW.pt (pw_or (pt_cmpR op_eq (pe_ix ix_list (pv 0) pe_int (fun _ _ => rfl)) pe_int (nomark _)) (pw_or1 (PW.pt (pw_and (pt_cmpR op_eq (pe_ix ix_list (pv 0) pe_int (fun _ _ => rfl)) pe_int (nomark _)) (pw_and1 (pt_cmpR op_gt (pe_ix ix_list (pv 0) pe_int (fun _ _ => rfl)) pe_int (nomark _))))))))
        (pss_cons (ps_set (i := 2) scRoll.nd rfl (Or.inl rfl) (pe_op op_mod (pe_callTy call_int1 (by rfl) T.int (by decide +kernel) (pa_cons (pe_ix ix_list (pv 0) pe_int (fun _ _ => rfl)) pa_nil)) (pv 1)))
          (pss_cons (ps_asg (pe_op op_fdiv (pe_ix ix_list (pv 0) pe_int (fun _ _ => rfl)) (pv 1)) (pg_sub (pv 0) pe_int set_list)) (pss_one (ps_ret (pv 2)))))
        pss_nil)
      (pss_cons (ps_asg pe_int (pg_sub (pv 0) pe_int set_list))
      (pss_cons (ps_if (pt_cmpR op_gt (pv 1) pe_int (nomark _)) pss_never pss_nil)
      (pss_cons (ps_asg (pe_op op_mod (pe_callTy call_int1 (by rfl) T.int (by decide +kernel) (pa_cons (pe_op op_add (pe_op op_add (pe_op op_mul (pe_ix ix_list (pv 0) pe_int (fun _ _ => rfl)) pe_int) (pe_op op_mul (pe_ix ix_list (pv 0) pe_int (fun _ _ => rfl)) pe_int)) pe_int) pa_nil)) pe_int) (pg_sub (pv 0) pe_int set_list))
      (pss_cons (ps_asg (pe_op op_add (pe_ix ix_list (pv 0) pe_int (fun _ _ => rfl)) pe_int) (pg_sub (pv 0) pe_int set_list))
      (pss_one (ps_ret (pe_op op_mod (pe_callTy call_int1 (by rfl) T.int (by decide +kernel) (pa_cons (pe_op op_fdiv (pe_ix ix_list (pv 0) pe_int (fun _ _ => rfl)) pe_int) pa_nil)) (pv 1)))))))), ?_⟩
    unfold dD at hL
    have hm : ∀ (x b c : Int) (H : Hp), Led H ((l, .lst [.int (x / m), .int b, .int c]) :: R) → Q (.int (x % m)) H := fun x b c H h => k _ _ _ _ _ (Int.emod_nonneg _ (by omega)) (Int.emod_lt_of_pos _ (by omega)) h
    have hd : ∀ (x a b c : Int) (H : Hp), Led H ((l, .lst [.int a, .int b, .int c]) :: R) → Q (.int (x % m)) H := fun x a b c H h => k _ _ _ _ _ (Int.emod_nonneg _ (by omega)) (Int.emod_lt_of_pos _ (by omega)) h
    fail "go"
    refine ite_d (fun q1 => ?_) (fun q1 => ?_)
    · fail "go"
      exact hm _ _ _ _ hL
    · fail "go"
      refine ite_d (fun q2 => ?_) (fun q2 => ?_)
      · fail "go"
        refine ite_d (fun q3 => ?_) (fun q3 => ?_)
        · fail "go"
          exact hm _ _ _ _ hL
        · fail "go"
          refine ite_d (fun q4 => absurd q4 (by omega)) (fun q4 => ?_)
          fail "go"
          exact hd _ _ _ _ _ hL
      · fail "go"
        refine ite_d (fun q4 => absurd q4 (by omega)) (fun q4 => ?_)
        fail "go"
        exact hd _ _ _ _ _ hL
end
/-- script[:1], or [0]: one dice -/
def spRounds (K : PySem.W.Frag) : Sp := fun vs H Q _ => ∃ (a : Addr) (ns : List Int) (L : Lg), vs = [.ref a, .int 1] ∧ SqL K H a (ns.map V.int) ∧ Led H L ∧ ∀ (p d : Addr) (x y z : Int) (H' : Hp), Led H' ((p, .lst [.ref d]) :: (d, dD x y z) :: L) → Q (.ref p) H'
section
variable {P : Program} {w : World} {K : PySem.W.Frag} {mg : Str → Option Value} {base : Heap}
theorem scRounds : FnScope ["script", "most", "cells", "cell"] ["script", "most"] (defScope sRounds) := ⟨rfl, rfl, rfl, by decide +kernel, rfl, by decide +kernel, by decide +kernel⟩
theorem cut_1 (ns : List Int) : cutV (ns.map V.int) none (some 1) = (ns.take 1).map V.int := by
  unfold cutV
  rw [show (some (1 : Int)) = some ((1 : Nat) : Int) from rfl, HT.sIx_nat, HT.sIx_none]
  cases ns <;> simp
theorem ok_rounds {f : Addr} {fd : FuncData} (F : Fun K "_law_rounds" "_law_rounds" sRounds f fd) (c__law_dice : Cal P w K mg base 1 "_law_dice" spDice []) :
    FnOk P w K mg base CX0 2 f fd ["script", "most"] (spRounds K) := by
  refine F.ok scRounds (fun vs H Q E h => ?_) (fun cdv A outer s H vs Q E hr h => ?_)
  · obtain ⟨a, ns, L, rfl, _⟩ := h
    rfl
  · obtain ⟨a, ns, L, rfl, hS, hL, k⟩ := h
    refine ⟨_, (pss_cons (ps_set (i := 2) scRounds.nd rfl (Or.inl rfl) (pe_slice sl_list (pv 0) po_none (po_some (pv 1))))
  (C8.pss_cut (ps_if (pt_cmpR (op_eqP hr.units) (pv 2) (pe_lst pa_nil) (nomark _))
  (pss_one (ps_set (i := 2) scRounds.nd rfl (Or.inl rfl) (pe_lst (pa_cons pe_int pa_nil))))
  pss_nil)
  (pss_one (ps_ret (pe_lc (own := [("cell", 3)]) (g := gName 3) (by rfl) scRounds.nd (pi_list (pv 2)) (blkOk_by (own := [("cell", 3)]) (N := ["script", "most", "cells", "cell"]) (sc := (defScope sRounds)) (by decide +kernel)) (fun _ _ _ _ _ => (pg_name (i := 3) scRounds.nd rfl (Or.inl rfl))) (fun _ _ _ _ _ => pts_nil) (fun _ _ _ _ _ => (pe_c c__law_dice hr (by decide) (by rfl) (pa_cons (pv 3) pa_nil)))))))), ?_⟩
    refine ⟨_, rfl, _, rfl, 1, rfl, a, _, rfl, hS, ?_⟩
    rw [cut_1]
    fail "gn"
    refine ⟨fun σ H => Hold (∃ (a p : Addr) (c : Int) (v3 : Option V), σ = [some (.ref a), some (.int 1), some (.ref p), v3] ∧ Led H ((p, .lst [.int c]) :: L)), ?_, ?_⟩
    · fail "go"
      refine ⟨_, _, dp_lst (hL.at ⟨1, rfl⟩) dp_ints, dp_lst (hL.at ⟨0, rfl⟩) .nil, shal_ints, shal_ints (ns := []), _, rfl, ?_⟩
      refine ite_b (fun h1 => ?_) (fun h1 => ?_)
      · fail "go"
        refine .mk ⟨a, _, 0, _, rfl, ?_⟩
        exact hL.sub (.cons_cons _ ((List.sublist_cons_self _ _).trans (List.sublist_cons_self _ _)))
      · cases ns with
        | nil => simp [PyData.eqv, PyData.eqvAll] at h1
        | cons n ns =>
          fail "go"
          exact .mk ⟨a, _, n, _, rfl, hL.tail⟩
    · intro σ H h
      obtain ⟨a, p, c, v3, rfl, hL⟩ := h.out
      clear h
      refine ⟨_, rfl, p, rfl, ⟨_, .of (hL.at ⟨0, rfl⟩)⟩, fun D hD => lc_list (K := K) (a := p) (xs := [.int c]) (fun i H => Hold ((i = 0 ∧ Led H ((D, .lst []) :: (p, .lst [.int c]) :: L)) ∨ (i = 1 ∧ ∃ (d : Addr) (x y z : Int), Led H ((D, .lst [.ref d]) :: (d, dD x y z) :: (p, .lst [.int c]) :: L)))) ?_ ?_ ?_ ?_⟩
      · exact .mk (.inl ⟨rfl, hL.new hD⟩)
      · intro i H _ h
        rcases h.out with ⟨_, hL⟩ | ⟨_, d, x, y, z, hL⟩
        · exact .of (hL.at ⟨1, rfl⟩)
        · exact .of (hL.at ⟨2, rfl⟩)
      · intro i y H hi h
        rcases h.out with ⟨rfl, hL⟩ | ⟨rfl, d, x, y, z, hL⟩
        · obtain rfl : V.int c = y := Option.some.inj hi
          clear h
          refine ⟨rfl, ?_⟩
          refine k_yes ?_
          refine ⟨_, rfl, c, _, rfl, hL, fun x y z d H hL => ⟨_, hL.at ⟨1, rfl⟩, by decide, ?_⟩⟩
          generalize hH : upd H _ _ = H
          refine .mk (.inr ⟨rfl, d, x, y, z, ?_⟩)
          exact (hL.upU (o' := .lst [.ref d]) ⟨1, rfl, rfl⟩ hH).perm (List.Perm.swap _ _ _)
        · cases hi
      · intro H h
        rcases h.out with ⟨q, _⟩ | ⟨_, d, x, y, z, hL⟩
        · cases q
        · refine k D d x y z _ (hL.sub ?_)
          exact .cons_cons _ (.cons_cons _ (List.sublist_cons_self _ _))
theorem scTold : FnScope ["what"] ["what"] (defScope sTold) := ⟨rfl, rfl, rfl, by decide +kernel, rfl, by decide +kernel, by decide +kernel⟩
theorem ok_told {CE : Addr} {f : Addr} {fd : FuncData} (F : Fun K "_law_told" "_law_told" sTold f fd) (T : ExcT K mg "MachineError" CE) : FnOk P w K mg base CX0 7 f fd ["what"] (spTold P w K mg base 6 CE "MachineError") := by
  refine F.ok scTold (fun vs H Q E h => ?_) (fun cdv A outer s H vs Q E hr h => ?_)
  · obtain ⟨f, F, b, tl, rfl, _⟩ := h
    rfl
  · exact ps_told (by rfl) T.g rfl (Or.inl rfl) (fun _ => rfl) hr h
end
end Sd


namespace Sd
open PySem L2
open C8 (Cal Met Mak pe_c pe_mk pe_mt pe_mt0 pss_cut tCut)
set_option linter.unusedSimpArgs false
set_option pp.deepTerms false
set_option pp.deepTerms.threshold 12
set_option hygiene false
local macro_rules | `(tactic| fail "nd") => `(tactic| first | assumption | decide +kernel)
local macro_rules | `(tactic| fail "ix") => `(tactic| first | exact ⟨0, rfl⟩ | exact ⟨1, rfl⟩ | exact ⟨2, rfl⟩ | exact ⟨3, rfl⟩ | exact ⟨4, rfl⟩ | exact ⟨5, rfl⟩ | exact ⟨6, rfl⟩ | exact ⟨7, rfl⟩ | exact ⟨8, rfl⟩ | exact ⟨9, rfl⟩ | exact ⟨10, rfl⟩ | exact ⟨11, rfl⟩ | exact ⟨12, rfl⟩ | exact ⟨13, rfl⟩ | exact ⟨14, rfl⟩ | exact ⟨15, rfl⟩ | exact ⟨16, rfl⟩ | exact ⟨17, rfl⟩ | exact ⟨18, rfl⟩ | assumption)
local macro_rules | `(tactic| fail "up") => `(tactic| first | exact ⟨0, rfl, rfl⟩ | exact ⟨1, rfl, rfl⟩ | exact ⟨2, rfl, rfl⟩ | exact ⟨3, rfl, rfl⟩ | exact ⟨4, rfl, rfl⟩ | exact ⟨5, rfl, rfl⟩ | exact ⟨6, rfl, rfl⟩ | exact ⟨7, rfl, rfl⟩ | exact ⟨8, rfl, rfl⟩ | exact ⟨9, rfl, rfl⟩ | exact ⟨10, rfl, rfl⟩ | exact ⟨11, rfl, rfl⟩ | exact ⟨12, rfl, rfl⟩ | exact ⟨13, rfl, rfl⟩ | exact ⟨14, rfl, rfl⟩ | exact ⟨15, rfl, rfl⟩ | exact ⟨16, rfl, rfl⟩ | assumption)
local macro_rules | `(tactic| fail "lkF") => `(tactic| first | assumption | exact fz_at 0 (by fail "nd") rfl rfl | exact fz_at 1 (by fail "nd") rfl rfl | exact fz_at 2 (by fail "nd") rfl rfl | exact fz_at 3 (by fail "nd") rfl rfl | exact fz_at 4 (by fail "nd") rfl rfl | exact fz_at 5 (by fail "nd") rfl rfl | exact fz_at 6 (by fail "nd") rfl rfl | exact fz_at 7 (by fail "nd") rfl rfl)
local macro_rules | `(tactic| fail "lkD") => `(tactic| first | assumption | exact dz_at 0 (by fail "nd") rfl rfl | exact dz_at 1 (by fail "nd") rfl rfl | exact dz_at 2 (by fail "nd") rfl rfl | exact dz_at 3 (by fail "nd") rfl rfl | exact dz_at 4 (by fail "nd") rfl rfl)
local macro_rules | `(tactic| fail "ptF") => `(tactic| first | assumption | exact fz_put 0 (by fail "nd") rfl (Nat.le_of_ble_eq_true rfl) | exact fz_put 1 (by fail "nd") rfl (Nat.le_of_ble_eq_true rfl) | exact fz_put 2 (by fail "nd") rfl (Nat.le_of_ble_eq_true rfl) | exact fz_put 3 (by fail "nd") rfl (Nat.le_of_ble_eq_true rfl) | exact fz_put 4 (by fail "nd") rfl (Nat.le_of_ble_eq_true rfl) | exact fz_put 5 (by fail "nd") rfl (Nat.le_of_ble_eq_true rfl) | exact fz_put 6 (by fail "nd") rfl (Nat.le_of_ble_eq_true rfl) | exact fz_put 7 (by fail "nd") rfl (Nat.le_of_ble_eq_true rfl) | exact fz_new (by decide +kernel) rfl)
local macro_rules | `(tactic| fail "ptD") => `(tactic| first | assumption | exact dz_put 0 (by fail "nd") rfl (Nat.le_of_ble_eq_true rfl) | exact dz_put 1 (by fail "nd") rfl (Nat.le_of_ble_eq_true rfl) | exact dz_put 2 (by fail "nd") rfl (Nat.le_of_ble_eq_true rfl) | exact dz_put 3 (by fail "nd") rfl (Nat.le_of_ble_eq_true rfl) | exact dz_put 4 (by fail "nd") rfl (Nat.le_of_ble_eq_true rfl))
local macro_rules | `(tactic| fail "sz") => `(tactic| first | assumption | exact (Nat.le_of_ble_eq_true rfl) | omega | decide)
local macro_rules | `(tactic| fail "sd") => `(tactic| first | rfl | assumption | decide | omega | (dsimp only; first | decide | omega) | exact .inr ⟨by decide, by decide⟩ | exact .inl ⟨by decide, by decide⟩ | exact ⟨by omega, by omega⟩ | exact .inl ⟨by omega, by omega⟩ | exact .inr ⟨by omega, by omega⟩ | exact ⟨by omega, by omega, by omega⟩)
local macro_rules | `(tactic| fail "cl") => `(tactic| (clear hH; dsimp only [List.set, List.cons_append, List.nil_append, List.append] at hL))
local macro_rules | `(tactic| fail "gn") => `(tactic| (intro p hp; generalize hH : upd H p _ = H; replace hL := Led.newH hL hp hH; clear hH hp))
local macro_rules | `(tactic| fail "gup") => `(tactic| (generalize hH : upd H _ _ = H; replace hL := Led.upU hL (by fail "up") hH; fail "cl"))
local macro_rules | `(tactic| fail "gmk") => `(tactic| (intro x dx hx hd ne; generalize hH : upd (upd H dx _) x _ = H; replace hL := Led.made hL hx hd ne hH; clear hH hx hd ne))
local macro_rules | `(tactic| fail "v") => `(tactic| refine ⟨_, rfl, ?_⟩)
local macro_rules | `(tactic| fail "i2") => `(tactic| refine ⟨_, _, rfl, rfl, ?_⟩)
local macro_rules | `(tactic| fail "go1") => `(tactic| first
  | refine ⟨_, rfl, ?_⟩
  | refine ⟨_, _, rfl, rfl, ?_⟩
  | refine ⟨_, _, rfl, ?_⟩
  | refine iteT ?_
  | refine iteF ?_
  | refine k_fld hL (by fail "ix") (by assumption) (by assumption) (by fail "lkF") ?_
  | refine k_dgetS hL (by fail "ix") (by fail "lkD") ?_
  | refine k_dgetI hL (by fail "ix") (by assumption) ?_
  | refine k_ixL hL (by fail "ix") (by first | rfl | assumption) ?_
  | refine k_ixT hL (by fail "ix") (by first | rfl | assumption) ?_
  | refine k_tyL hL (by fail "ix") ?_
  | refine k_isd hL (by fail "ix") ?_
  | (refine And.intro (by fail "sz") ?_; fail "gn")
  | refine And.intro (by fail "sd") ?_
  | fail "gn"
  | refine k_meth hL (by fail "ix") (by first | assumption | exact fz_no (by decide +kernel)) ?_
  | refine k_gtup hL (by fail "ix") rfl ?_
  | (refine k_popI hL (by fail "ix") (by assumption) ?_; fail "gup")
  | (refine k_listD hL (by fail "ix") ?_; fail "gn")
  | (refine ⟨_, _, _, _, rfl, rfl, hL.at (by fail "ix"), rfl, ?_⟩; fail "gup")
  | (refine ⟨_, _, _, rfl, rfl, hL.at (by fail "ix"), (by fail "sz"), ?_⟩; fail "gup")
  | (refine ⟨_, _, _, _, rfl, hL.at (by fail "ix"), by assumption, by assumption, Nat.lt_of_le_of_lt fz_len (by decide), ?_⟩; generalize hH : upd H _ _ = H; replace hL := Led.upF hL (by fail "up") (by fail "ptF") hH; fail "cl")
  | (refine ⟨_, _, hL.at (by fail "ix"), Nat.lt_of_le_of_lt fz_len (by decide), ?_⟩; generalize hH : upd H _ _ = H; replace hL := Led.upF hL (by fail "up") (by fail "ptF") hH; fail "cl")
  | (refine k_dputS hL (by fail "ix") (Nat.lt_of_le_of_lt dz_len (by decide)) (by fail "ptD") (by fail "up") ?_; clear hL; intro H hL; dsimp only [List.set, List.cons_append, List.nil_append, List.append] at hL)
  | refine k_lenL2 hL (by fail "ix") ?_
  | refine k_lenT2 hL (by fail "ix") ?_
  | refine .inl ⟨_, rfl, ?_⟩
  | refine .inr ⟨_, rfl, ?_⟩)
local macro_rules | `(tactic| fail "go") => `(tactic| repeat fail "go1")
local macro_rules | `(tactic| fail "pm") => `(tactic| (refine Led.le hL (fun a_ => ?_); simp only [cnt_nil, cnt_cons, cnt_app, List.map_append, List.map_cons, List.map_nil, List.flatMap_append, List.flatMap_cons, List.flatMap_nil, List.append_assoc, List.cons_append, List.nil_append]; omega))

/-! ### a dict of text keys, told by a list of rows -/
/-- a row: the name, the tuple's place, count and time -/
abbrev Rw := Str × Addr × Int × Int
def rowV (r : Rw) : V := .ref r.2.1
def rowO (r : Rw) : Addr × HO := (r.2.1, .tup [.int r.2.2.1, .int r.2.2.2])
def goneV (x : Str × Int) : V := .int x.2
/-- plain: what a view knows -/
abbrev Pr := List (Str × Int × Int)
structure Pl where
  time : Int
  rows : Pr
  gone : List (Str × Int)
def aget {α : Type} : List (Str × α) → Str → Option α
  | [], _ => none
  | x :: r, k => if x.1 = k then some x.2 else aget r k
def aput {α : Type} : List (Str × α) → Str → α → List (Str × α)
  | [], k, v => [(k, v)]
  | x :: r, k, v => if x.1 = k then (k, v) :: r else x :: aput r k v
def adel {α : Type} : List (Str × α) → Str → List (Str × α)
  | [], _ => []
  | x :: r, k => if x.1 = k then r else x :: adel r k
theorem aget_none {α : Type} {k : Str} : ∀ {l : List (Str × α)}, k ∉ l.map (·.1) → aget l k = none
  | [], _ => rfl
  | x :: r, h => by
    have h1 : ¬ x.1 = k := fun e => h (by rw [← e]; exact List.mem_cons_self)
    rw [aget, if_neg h1]
    exact aget_none fun m => h (List.mem_cons_of_mem _ m)
theorem aget_some {α : Type} {k : Str} {v : α} : ∀ {l : List (Str × α)}, aget l k = some v → k ∈ l.map (·.1)
  | x :: r, h => by
    by_cases e : x.1 = k
    · rw [← e]; exact List.mem_cons_self
    · rw [aget, if_neg e] at h
      exact List.mem_cons_of_mem _ (aget_some h)
theorem aget_in {α : Type} {k : Str} : ∀ {l : List (Str × α)}, k ∈ l.map (·.1) → ∃ v, aget l k = some v
  | x :: r, h => by
    by_cases e : x.1 = k
    · exact ⟨x.2, by rw [aget, if_pos e]⟩
    · rw [aget, if_neg e]
      refine aget_in ?_
      rcases List.mem_cons.mp h with z | z
      · exact absurd z.symm e
      · exact z
theorem aput_names_in {α : Type} {k : Str} {v : α} : ∀ {l : List (Str × α)}, k ∈ l.map (·.1) → (aput l k v).map (·.1) = l.map (·.1)
  | x :: r, h => by
    by_cases e : x.1 = k
    · rw [aput, if_pos e]; simp [e]
    · rw [aput, if_neg e]
      rw [List.map_cons, List.map_cons, aput_names_in]
      rcases List.mem_cons.mp h with z | z
      · exact absurd z.symm e
      · exact z
theorem aput_names_out {α : Type} {k : Str} {v : α} : ∀ {l : List (Str × α)}, k ∉ l.map (·.1) → aput l k v = l ++ [(k, v)]
  | [], _ => rfl
  | x :: r, h => by
    have h1 : ¬ x.1 = k := fun e => h (by rw [← e]; exact List.mem_cons_self)
    rw [aput, if_neg h1, aput_names_out fun m => h (List.mem_cons_of_mem _ m)]
    rfl
theorem aget_put {α : Type} {k j : Str} {v : α} : ∀ {l : List (Str × α)}, aget (aput l k v) j = if k = j then some v else aget l j
  | [] => by
    show aget [(k, v)] j = _
    unfold aget
    rfl
  | x :: r => by
    by_cases e : x.1 = k
    · rw [aput, if_pos e]
      by_cases e2 : k = j
      · rw [aget, if_pos e2, if_pos e2]
      · rw [aget, if_neg e2, if_neg e2]
        rw [aget, if_neg (by rw [e]; exact e2)]
    · rw [aput, if_neg e]
      by_cases e2 : x.1 = j
      · rw [aget, if_pos e2, aget, if_pos e2, if_neg (fun z => e (e2.trans z.symm))]
      · rw [aget, if_neg e2, aget_put, aget, if_neg e2]
theorem aget_del {α : Type} {k j : Str} : ∀ {l : List (Str × α)}, (l.map (·.1)).Nodup → aget (adel l k) j = if k = j then none else aget l j
  | [], _ => by simp [adel, aget]
  | x :: r, nd => by
    obtain ⟨n1, n2⟩ := List.nodup_cons.mp nd
    by_cases e : x.1 = k
    · rw [adel, if_pos e]
      by_cases e2 : k = j
      · rw [if_pos e2]
        exact aget_none (by rw [← e2, ← e]; exact n1)
      · rw [if_neg e2, aget, if_neg (by rw [e]; exact e2)]
    · rw [adel, if_neg e]
      by_cases e2 : x.1 = j
      · rw [aget, if_pos e2, aget, if_pos e2, if_neg (fun z => e (e2.trans z.symm))]
      · rw [aget, if_neg e2, aget_del n2, aget, if_neg e2]
theorem adel_names {α : Type} {k : Str} : ∀ {l : List (Str × α)}, ((adel l k).map (·.1)).Sublist (l.map (·.1))
  | [] => .refl _
  | x :: r => by
    by_cases e : x.1 = k
    · rw [adel, if_pos e]; exact List.sublist_cons_self _ _
    · rw [adel, if_neg e]; exact adel_names.cons_cons _
/-! the dict's words for a list of (name, what) -/
section
variable {α : Type} {vo : Str × α → V} {l : List (Str × α)} {k : Str}
def kk (vo : Str × α → V) (x : Str × α) : Key × V := (Sum.inr x.1, vo x)
theorem kk_val : valV (l.map (kk vo)) (.inr k) = (aget l k).map fun v => vo (k, v) := by
  induction l with
  | nil => rfl
  | cons x r ih =>
    by_cases e : x.1 = k
    · rw [List.map_cons, valV_pos (p := kk vo x) (by show Sum.inr x.1 = _; rw [e]), aget, if_pos e]
      show some (vo x) = some (vo (k, x.2))
      rw [← e]
    · rw [List.map_cons, valV_neg (p := kk vo x) (fun z => e (Sum.inr.inj z)), ih, aget, if_neg e]
theorem kk_any : ((l.map (kk vo)).any fun kv => decide (kv.1 = (Sum.inr k : Key))) = decide (k ∈ l.map (·.1)) := by
  induction l with
  | nil => rfl
  | cons x r ih =>
    rw [List.map_cons, List.any_cons, ih]
    have e1 : decide ((kk vo x).1 = (Sum.inr k : Key)) = decide (x.1 = k) := decide_eq_decide.mpr ⟨fun z => Sum.inr.inj z, fun z => by show Sum.inr x.1 = _; rw [z]⟩
    rw [e1]
    by_cases e : x.1 = k
    · simp [e]
    · have e' : ¬ k = x.1 := fun z => e z.symm
      simp [e, e']
theorem kk_put {v : α} (nd : (l.map (·.1)).Nodup) : putK (l.map (kk vo)) (.inr k) (vo (k, v)) = (aput l k v).map (kk vo) := by
  unfold putK
  rw [kk_any]
  by_cases h : k ∈ l.map (·.1)
  · rw [if_pos (decide_eq_true h)]
    induction l with
    | nil => simp at h
    | cons x r ih =>
      obtain ⟨n1, n2⟩ := List.nodup_cons.mp nd
      by_cases e : x.1 = k
      · rw [aput, if_pos e, List.map_cons, List.map_cons, List.map_cons, if_pos (by show Sum.inr x.1 = _; rw [e])]
        congr 1
        · show (Sum.inr x.1, _) = (Sum.inr k, _)
          rw [e]
        · refine (List.map_congr_left fun y hy => ?_).trans (List.map_id _)
          refine if_neg fun z => n1 ?_
          obtain ⟨q, hq, rfl⟩ := List.mem_map.mp hy
          have z : q.1 = k := Sum.inr.inj z
          exact List.mem_map.mpr ⟨q, hq, z.trans e.symm⟩
      · rw [aput, if_neg e, List.map_cons, List.map_cons, List.map_cons, if_neg (show ¬ (kk vo x).1 = (Sum.inr k : Key) from fun z => e (Sum.inr.inj z))]
        congr 1
        refine ih n2 ?_
        rcases List.mem_cons.mp h with z | z
        · exact absurd z.symm e
        · exact z
  · rw [if_neg (by rw [decide_eq_false h]; decide), aput_names_out h, List.map_append]
    rfl
theorem kk_drop (nd : (l.map (·.1)).Nodup) : dropK (l.map (kk vo)) (.inr k) = (adel l k).map (kk vo) := by
  unfold dropK
  induction l with
  | nil => rfl
  | cons x r ih =>
    obtain ⟨n1, n2⟩ := List.nodup_cons.mp nd
    by_cases e : x.1 = k
    · rw [adel, if_pos e, List.map_cons, List.filter_cons, if_neg (by simp [kk, e])]
      refine List.filter_eq_self.mpr fun y hy => ?_
      obtain ⟨q, hq, rfl⟩ := List.mem_map.mp hy
      have : ¬ q.1 = k := fun z => n1 (List.mem_map.mpr ⟨q, hq, z.trans e.symm⟩)
      simp [kk, this]
    · rw [adel, if_neg e, List.map_cons, List.filter_cons, if_pos (by simp [kk, e]), List.map_cons, ih n2]
theorem aput_map {α β : Type} {f : α → β} {k : Str} {v : α} : ∀ {l : List (Str × α)}, (aput l k v).map (fun x => (x.1, f x.2)) = aput (l.map fun x => (x.1, f x.2)) k (f v)
  | [] => rfl
  | x :: r => by
    by_cases e : x.1 = k
    · rw [aput, if_pos e, List.map_cons, List.map_cons, aput, if_pos e]
    · rw [aput, if_neg e, List.map_cons, List.map_cons, aput, if_neg e, aput_map]
theorem adel_map {α β : Type} {f : α → β} {k : Str} : ∀ {l : List (Str × α)}, (adel l k).map (fun x => (x.1, f x.2)) = adel (l.map fun x => (x.1, f x.2)) k
  | [] => rfl
  | x :: r => by
    by_cases e : x.1 = k
    · rw [adel, if_pos e, List.map_cons, adel, if_pos e]
    · rw [adel, if_neg e, List.map_cons, List.map_cons, adel, if_neg e, adel_map]
theorem aget_map {α β : Type} {f : α → β} {k : Str} : ∀ {l : List (Str × α)}, aget (l.map fun x => (x.1, f x.2)) k = (aget l k).map f
  | [] => rfl
  | x :: r => by
    by_cases e : x.1 = k
    · rw [List.map_cons, aget, if_pos e, aget, if_pos e]; rfl
    · rw [List.map_cons, aget, if_neg e, aget, if_neg e, aget_map]
/-- a row put in place of the one before, or behind all -/
theorem Led.rput {H : Hp} {A R : Lg} {k : Str} {v : Addr × Int × Int} : ∀ {l : List Rw}, Led H (rowO (k, v) :: (A ++ (l.map rowO ++ R))) → Led H (A ++ ((aput l k v).map rowO ++ R))
  | [], h => by
    have := Led.back (x := rowO (k, v)) (A := A) (B := R) (by simpa using h)
    simpa [aput] using this
  | x :: r, h => by
    by_cases e : x.1 = k
    · rw [aput, if_pos e]
      have h2 : Led H (rowO (k, v) :: (A ++ (r.map rowO ++ R))) := h.sub (List.Sublist.cons_cons _ (List.Sublist.append_left (List.sublist_cons_self _ _) _))
      have := Led.back h2
      simpa using this
    · rw [aput, if_neg e]
      have h2 : Led H (rowO (k, v) :: ((A ++ [rowO x]) ++ (r.map rowO ++ R))) := by simpa using h
      have := Led.rput h2
      simpa using this
theorem Led.rdel {H : Hp} {A R : Lg} {k : Str} {l : List Rw} (h : Led H (A ++ (l.map rowO ++ R))) : Led H (A ++ ((adel l k).map rowO ++ R)) := by
  refine h.sub (List.Sublist.append_left (List.Sublist.append_right (List.Sublist.map _ ?_) _) _)
  induction l with
  | nil => exact .refl _
  | cons x r ih =>
    by_cases e : x.1 = k
    · rw [adel, if_pos e]; exact List.sublist_cons_self _ _
    · rw [adel, if_neg e]
      refine .cons_cons _ (ih ?_)
      exact h.sub (List.Sublist.append_left (List.sublist_cons_self _ _) _)
theorem row_mem {l : List Rw} {k : Str} {v : Addr × Int × Int} (h : aget l k = some v) : rowO (k, v) ∈ l.map rowO := by
  induction l with
  | nil => cases h
  | cons x r ih =>
    by_cases e : x.1 = k
    · rw [aget, if_pos e] at h
      have : x = (k, v) := by
        rw [← e, ← Option.some.inj h]
      rw [this]
      exact List.mem_cons_self
    · rw [aget, if_neg e] at h
      exact List.mem_cons_of_mem _ (ih h)
end
end Sd


namespace Sd
open PySem L2
open C8 (Cal Met Mak pe_c pe_mk pe_mt pe_mt0 pss_cut tCut)
def inClass (st : Stmt) (i : Nat) : Stmt := (C8.clsBody st).getD i (.Pass ⟨0, 0, 0, 0⟩)
abbrev sVInit : Stmt := inClass (top 6) 0
abbrev sTick : Stmt := inClass (top 6) 1
abbrev sNews : Stmt := inClass (top 6) 2
abbrev sHear : Stmt := inClass (top 6) 3
abbrev sState : Stmt := inClass (top 6) 4
abbrev sNamesIn : Stmt := inClass (top 6) 5
abbrev sForget : Stmt := inClass (top 6) 6
set_option linter.unusedSimpArgs false
set_option pp.deepTerms false
set_option pp.deepTerms.threshold 12
set_option hygiene false
local macro_rules | `(tactic| fail "nd") => `(tactic| first | assumption | decide +kernel)
local macro_rules | `(tactic| fail "ix") => `(tactic| first | exact ⟨0, rfl⟩ | exact ⟨1, rfl⟩ | exact ⟨2, rfl⟩ | exact ⟨3, rfl⟩ | exact ⟨4, rfl⟩ | exact ⟨5, rfl⟩ | exact ⟨6, rfl⟩ | exact ⟨7, rfl⟩ | exact ⟨8, rfl⟩ | exact ⟨9, rfl⟩ | exact ⟨10, rfl⟩ | exact ⟨11, rfl⟩ | exact ⟨12, rfl⟩ | exact ⟨13, rfl⟩ | exact ⟨14, rfl⟩ | exact ⟨15, rfl⟩ | exact ⟨16, rfl⟩ | exact ⟨17, rfl⟩ | exact ⟨18, rfl⟩ | assumption)
local macro_rules | `(tactic| fail "up") => `(tactic| first | exact ⟨0, rfl, rfl⟩ | exact ⟨1, rfl, rfl⟩ | exact ⟨2, rfl, rfl⟩ | exact ⟨3, rfl, rfl⟩ | exact ⟨4, rfl, rfl⟩ | exact ⟨5, rfl, rfl⟩ | exact ⟨6, rfl, rfl⟩ | exact ⟨7, rfl, rfl⟩ | exact ⟨8, rfl, rfl⟩ | exact ⟨9, rfl, rfl⟩ | exact ⟨10, rfl, rfl⟩ | exact ⟨11, rfl, rfl⟩ | exact ⟨12, rfl, rfl⟩ | exact ⟨13, rfl, rfl⟩ | exact ⟨14, rfl, rfl⟩ | exact ⟨15, rfl, rfl⟩ | exact ⟨16, rfl, rfl⟩ | assumption)
local macro_rules | `(tactic| fail "lkF") => `(tactic| first | assumption | exact fz_at 0 (by fail "nd") rfl rfl | exact fz_at 1 (by fail "nd") rfl rfl | exact fz_at 2 (by fail "nd") rfl rfl | exact fz_at 3 (by fail "nd") rfl rfl | exact fz_at 4 (by fail "nd") rfl rfl | exact fz_at 5 (by fail "nd") rfl rfl | exact fz_at 6 (by fail "nd") rfl rfl | exact fz_at 7 (by fail "nd") rfl rfl)
local macro_rules | `(tactic| fail "lkD") => `(tactic| first | assumption | exact dz_at 0 (by fail "nd") rfl rfl | exact dz_at 1 (by fail "nd") rfl rfl | exact dz_at 2 (by fail "nd") rfl rfl | exact dz_at 3 (by fail "nd") rfl rfl | exact dz_at 4 (by fail "nd") rfl rfl)
local macro_rules | `(tactic| fail "ptF") => `(tactic| first | assumption | exact fz_put 0 (by fail "nd") rfl (Nat.le_of_ble_eq_true rfl) | exact fz_put 1 (by fail "nd") rfl (Nat.le_of_ble_eq_true rfl) | exact fz_put 2 (by fail "nd") rfl (Nat.le_of_ble_eq_true rfl) | exact fz_put 3 (by fail "nd") rfl (Nat.le_of_ble_eq_true rfl) | exact fz_put 4 (by fail "nd") rfl (Nat.le_of_ble_eq_true rfl) | exact fz_put 5 (by fail "nd") rfl (Nat.le_of_ble_eq_true rfl) | exact fz_put 6 (by fail "nd") rfl (Nat.le_of_ble_eq_true rfl) | exact fz_put 7 (by fail "nd") rfl (Nat.le_of_ble_eq_true rfl) | exact fz_new (by decide +kernel) rfl)
local macro_rules | `(tactic| fail "ptD") => `(tactic| first | assumption | exact dz_put 0 (by fail "nd") rfl (Nat.le_of_ble_eq_true rfl) | exact dz_put 1 (by fail "nd") rfl (Nat.le_of_ble_eq_true rfl) | exact dz_put 2 (by fail "nd") rfl (Nat.le_of_ble_eq_true rfl) | exact dz_put 3 (by fail "nd") rfl (Nat.le_of_ble_eq_true rfl) | exact dz_put 4 (by fail "nd") rfl (Nat.le_of_ble_eq_true rfl))
local macro_rules | `(tactic| fail "sz") => `(tactic| first | assumption | exact (Nat.le_of_ble_eq_true rfl) | omega | decide)
local macro_rules | `(tactic| fail "sd") => `(tactic| first | rfl | assumption | decide | omega | (dsimp only; first | decide | omega) | exact .inr ⟨by decide, by decide⟩ | exact .inl ⟨by decide, by decide⟩ | exact ⟨by omega, by omega⟩ | exact .inl ⟨by omega, by omega⟩ | exact .inr ⟨by omega, by omega⟩ | exact ⟨by omega, by omega, by omega⟩)
local macro_rules | `(tactic| fail "cl") => `(tactic| (clear hH; dsimp only [List.set, List.cons_append, List.nil_append, List.append] at hL))
local macro_rules | `(tactic| fail "gn") => `(tactic| (intro p hp; generalize hH : upd H p _ = H; replace hL := Led.newH hL hp hH; clear hH hp))
local macro_rules | `(tactic| fail "gup") => `(tactic| (generalize hH : upd H _ _ = H; replace hL := Led.upU hL (by fail "up") hH; fail "cl"))
local macro_rules | `(tactic| fail "gmk") => `(tactic| (intro x dx hx hd ne; generalize hH : upd (upd H dx _) x _ = H; replace hL := Led.made hL hx hd ne hH; clear hH hx hd ne))
local macro_rules | `(tactic| fail "v") => `(tactic| refine ⟨_, rfl, ?_⟩)
local macro_rules | `(tactic| fail "i2") => `(tactic| refine ⟨_, _, rfl, rfl, ?_⟩)
local macro_rules | `(tactic| fail "go1") => `(tactic| first
  | refine ⟨_, rfl, ?_⟩
  | refine ⟨_, _, rfl, rfl, ?_⟩
  | refine ⟨_, _, rfl, ?_⟩
  | refine iteT ?_
  | refine iteF ?_
  | refine k_fld hL (by fail "ix") (by assumption) (by assumption) (by fail "lkF") ?_
  | refine k_dgetS hL (by fail "ix") (by fail "lkD") ?_
  | refine k_dgetI hL (by fail "ix") (by assumption) ?_
  | refine k_ixL hL (by fail "ix") (by first | rfl | assumption) ?_
  | refine k_ixT hL (by fail "ix") (by first | rfl | assumption) ?_
  | refine k_tyL hL (by fail "ix") ?_
  | refine k_isd hL (by fail "ix") ?_
  | (refine And.intro (by fail "sz") ?_; fail "gn")
  | refine And.intro (by fail "sd") ?_
  | fail "gn"
  | refine k_meth hL (by fail "ix") (by first | assumption | exact fz_no (by decide +kernel)) ?_
  | refine k_gtup hL (by fail "ix") rfl ?_
  | (refine k_popI hL (by fail "ix") (by assumption) ?_; fail "gup")
  | (refine k_listD hL (by fail "ix") ?_; fail "gn")
  | (refine ⟨_, _, _, _, rfl, rfl, hL.at (by fail "ix"), rfl, ?_⟩; fail "gup")
  | (refine ⟨_, _, _, rfl, rfl, hL.at (by fail "ix"), (by fail "sz"), ?_⟩; fail "gup")
  | (refine ⟨_, _, _, _, rfl, hL.at (by fail "ix"), by assumption, by assumption, Nat.lt_of_le_of_lt fz_len (by decide), ?_⟩; generalize hH : upd H _ _ = H; replace hL := Led.upF hL (by fail "up") (by fail "ptF") hH; fail "cl")
  | (refine ⟨_, _, hL.at (by fail "ix"), Nat.lt_of_le_of_lt fz_len (by decide), ?_⟩; generalize hH : upd H _ _ = H; replace hL := Led.upF hL (by fail "up") (by fail "ptF") hH; fail "cl")
  | (refine k_dputS hL (by fail "ix") (Nat.lt_of_le_of_lt dz_len (by decide)) (by fail "ptD") (by fail "up") ?_; clear hL; intro H hL; dsimp only [List.set, List.cons_append, List.nil_append, List.append] at hL)
  | refine k_lenL2 hL (by fail "ix") ?_
  | refine k_lenT2 hL (by fail "ix") ?_
  | refine .inl ⟨_, rfl, ?_⟩
  | refine .inr ⟨_, rfl, ?_⟩)
local macro_rules | `(tactic| fail "go") => `(tactic| repeat fail "go1")
local macro_rules | `(tactic| fail "pm") => `(tactic| (refine Led.le hL (fun a_ => ?_); simp only [cnt_nil, cnt_cons, cnt_app, List.map_append, List.map_cons, List.map_nil, List.flatMap_append, List.flatMap_cons, List.flatMap_nil, List.append_assoc, List.cons_append, List.nil_append]; omega))

theorem at_mem {L : Lg} {a : Addr} {o : HO} (h : (a, o) ∈ L) : At L a o := let ⟨i, hi, e⟩ := List.getElem_of_mem h; ⟨i, by rw [List.getElem?_eq_getElem hi, e]⟩
structure VS where
  time : Int
  rows : List Rw
  gone : List (Str × Int)
def VS.pl (s : VS) : Pl := ⟨s.time, s.rows.map fun x => (x.1, x.2.2), s.gone⟩
def nmV : List Str := ["name", "time", "rows", "gone"]
def VL (CV v dv rd gd : Addr) (nm : Str) (s : VS) : Lg :=
  (v, .ins CV dv (fz nmV [.str nm, .int s.time, .ref rd, .ref gd])) :: (rd, .dK (s.rows.map (kk rowV))) :: (gd, .dK (s.gone.map (kk goneV))) :: s.rows.map rowO
structure TxtC (K : PySem.W.Frag) (mg : Str → Option Value) (CV : Addr) : Prop where
  cl : Cls K CV
  n : ∀ f ∈ nmV, NoAttr K CV f
/-- rows of different names, not many -/
structure VOk (s : VS) : Prop where
  nd : (s.rows.map (·.1)).Nodup
  gd : (s.gone.map (·.1)).Nodup
  sub : ∃ U : List Str, U.length < 60 ∧ (∀ k ∈ s.rows.map (·.1), k ∈ U) ∧ ∀ k ∈ s.gone.map (·.1), k ∈ U
theorem nodup_len {α : Type} [DecidableEq α] : ∀ {l U : List α}, l.Nodup → (∀ k ∈ l, k ∈ U) → l.length ≤ U.length
  | [], _, _, _ => Nat.zero_le _
  | x :: r, U, nd, h => by
    obtain ⟨n1, n2⟩ := List.nodup_cons.mp nd
    have hx := h x List.mem_cons_self
    have := nodup_len (U := U.erase x) n2 fun k hk => (List.mem_erase_of_ne (fun e => n1 (by rw [← e]; exact hk))).mpr (h k (.tail _ hk))
    rw [List.length_erase_of_mem hx] at this
    have h0 : 0 < U.length := List.length_pos_of_mem hx
    rw [List.length_cons]
    omega
theorem VOk.sz {s : VS} (h : VOk s) : s.rows.length < 60 := by
  obtain ⟨U, hU, h1, _⟩ := h.sub
  have := nodup_len h.nd h1
  rw [List.length_map] at this
  omega
theorem VOk.gz {s : VS} (h : VOk s) : s.gone.length < 60 := by
  obtain ⟨U, hU, _, h2⟩ := h.sub
  have := nodup_len h.gd h2
  rw [List.length_map] at this
  omega
theorem row_at {CV v dv rd gd : Addr} {nm k : Str} {s : VS} {a : Addr} {c t : Int} {R : Lg} (h : aget s.rows k = some (a, c, t)) : At (VL CV v dv rd gd nm s ++ R) a (.tup [.int c, .int t]) :=
  at_mem (List.mem_append_left _ (.tail _ (.tail _ (.tail _ (row_mem (v := (a, c, t)) h)))))
def spTick (CV : Addr) : Sp := fun vs H Q _ => ∃ (v dv rd gd : Addr) (nm : Str) (s : VS) (a : Addr) (c t : Int) (R : Lg), vs = [.ref v] ∧ Led H (VL CV v dv rd gd nm s ++ R) ∧ VOk s ∧ aget s.rows nm = some (a, c, t) ∧
  ∀ (p : Addr) (H' : Hp), Led H' (VL CV v dv rd gd nm ⟨s.time + 1, aput s.rows nm (p, c + 1, s.time + 1), s.gone⟩ ++ R) → Q .non H'
section
variable {P : Program} {w : World} {K : PySem.W.Frag} {mg : Str → Option Value} {base : Heap} {CV : Addr}
theorem scTick : FnScope ["self"] ["self"] (defScope sTick) := ⟨rfl, rfl, rfl, by decide +kernel, rfl, by decide +kernel, by decide +kernel⟩
theorem ok_tick {f : Addr} {fd : FuncData} (F : Fun K "tick" "View.tick" sTick f fd) (X : TxtC K mg CV) : FnOk P w K mg base CX0 1 f fd ["self"] (spTick CV) := by
  refine F.ok scTick (fun vs H Q E h => ?_) (fun cdv A outer s H vs Q E hr h => ?_)
  · obtain ⟨v, dv, rd, gd, nm, s, a, c, t, R, rfl, _⟩ := h
    rfl
  · obtain ⟨v, dv, rd, gd, nm, s, a, c, t, R, rfl, hL, ok, hrow, k⟩ := h
    have c1 := X.cl
    have f1 := X.n "name" (by decide +kernel)
    have f2 := X.n "time" (by decide +kernel)
    have f3 := X.n "rows" (by decide +kernel)
    refine ⟨_, (pss_cons (ps_fldaug (pv 0) pe_int in_add)
  (pss_one (ps_dput (hu_of hr) (pe_fld (pv 0) rfl) (pe_fld (pv 0) rfl) (pe_tup (pa_cons (pe_op op_add (pe_ix ix_tup (pe_dget (hu_of hr) (pe_fld (pv 0) rfl) (pe_fld (pv 0) rfl) (fun _ _ => rfl)) pe_int (fun _ _ => rfl)) pe_int) (pa_cons (pe_fld (pv 0) rfl) pa_nil))) rfl))), ?_⟩
    have lk : valV (s.rows.map (kk rowV)) (Sum.inr nm) = some (.ref a) := by rw [kk_val, hrow]; rfl
    have hz := ok.sz
    dsimp only [VL] at hL
    fail "go"
    refine k_ixT hL (at_mem (.tail _ (.tail _ (.tail _ (List.mem_append_left _ (row_mem hrow)))))) rfl ?_
    fail "go"
    refine k_dputS hL (by fail "ix") (by rw [List.length_map]; exact Nat.lt_of_lt_of_le hz (by decide)) (kk_put (vo := rowV) (v := (p, c + 1, s.time + 1)) ok.nd) (by fail "up") fun H hL => ?_
    dsimp only [List.set, List.cons_append, List.nil_append, List.append] at hL
    exact k _ _ (Led.rput (A := [_, _, _]) (k := nm) (v := (p, c + 1, s.time + 1)) hL)
end
end Sd


namespace Sd
open PySem L2
open C8 (Cal Met Mak pe_c pe_mk pe_mt pe_mt0 pss_cut tCut)
set_option linter.unusedSimpArgs false
set_option pp.deepTerms false
set_option pp.deepTerms.threshold 12
set_option hygiene false
local macro_rules | `(tactic| fail "nd") => `(tactic| first | assumption | decide +kernel)
local macro_rules | `(tactic| fail "ix") => `(tactic| first | exact ⟨0, rfl⟩ | exact ⟨1, rfl⟩ | exact ⟨2, rfl⟩ | exact ⟨3, rfl⟩ | exact ⟨4, rfl⟩ | exact ⟨5, rfl⟩ | exact ⟨6, rfl⟩ | exact ⟨7, rfl⟩ | exact ⟨8, rfl⟩ | exact ⟨9, rfl⟩ | exact ⟨10, rfl⟩ | exact ⟨11, rfl⟩ | exact ⟨12, rfl⟩ | exact ⟨13, rfl⟩ | exact ⟨14, rfl⟩ | exact ⟨15, rfl⟩ | exact ⟨16, rfl⟩ | exact ⟨17, rfl⟩ | exact ⟨18, rfl⟩ | assumption)
local macro_rules | `(tactic| fail "up") => `(tactic| first | exact ⟨0, rfl, rfl⟩ | exact ⟨1, rfl, rfl⟩ | exact ⟨2, rfl, rfl⟩ | exact ⟨3, rfl, rfl⟩ | exact ⟨4, rfl, rfl⟩ | exact ⟨5, rfl, rfl⟩ | exact ⟨6, rfl, rfl⟩ | exact ⟨7, rfl, rfl⟩ | exact ⟨8, rfl, rfl⟩ | exact ⟨9, rfl, rfl⟩ | exact ⟨10, rfl, rfl⟩ | exact ⟨11, rfl, rfl⟩ | exact ⟨12, rfl, rfl⟩ | exact ⟨13, rfl, rfl⟩ | exact ⟨14, rfl, rfl⟩ | exact ⟨15, rfl, rfl⟩ | exact ⟨16, rfl, rfl⟩ | assumption)
local macro_rules | `(tactic| fail "lkF") => `(tactic| first | assumption | exact fz_at 0 (by fail "nd") rfl rfl | exact fz_at 1 (by fail "nd") rfl rfl | exact fz_at 2 (by fail "nd") rfl rfl | exact fz_at 3 (by fail "nd") rfl rfl | exact fz_at 4 (by fail "nd") rfl rfl | exact fz_at 5 (by fail "nd") rfl rfl | exact fz_at 6 (by fail "nd") rfl rfl | exact fz_at 7 (by fail "nd") rfl rfl)
local macro_rules | `(tactic| fail "lkD") => `(tactic| first | assumption | exact dz_at 0 (by fail "nd") rfl rfl | exact dz_at 1 (by fail "nd") rfl rfl | exact dz_at 2 (by fail "nd") rfl rfl | exact dz_at 3 (by fail "nd") rfl rfl | exact dz_at 4 (by fail "nd") rfl rfl)
local macro_rules | `(tactic| fail "ptF") => `(tactic| first | assumption | exact fz_put 0 (by fail "nd") rfl (Nat.le_of_ble_eq_true rfl) | exact fz_put 1 (by fail "nd") rfl (Nat.le_of_ble_eq_true rfl) | exact fz_put 2 (by fail "nd") rfl (Nat.le_of_ble_eq_true rfl) | exact fz_put 3 (by fail "nd") rfl (Nat.le_of_ble_eq_true rfl) | exact fz_put 4 (by fail "nd") rfl (Nat.le_of_ble_eq_true rfl) | exact fz_put 5 (by fail "nd") rfl (Nat.le_of_ble_eq_true rfl) | exact fz_put 6 (by fail "nd") rfl (Nat.le_of_ble_eq_true rfl) | exact fz_put 7 (by fail "nd") rfl (Nat.le_of_ble_eq_true rfl) | exact fz_new (by decide +kernel) rfl)
local macro_rules | `(tactic| fail "ptD") => `(tactic| first | assumption | exact dz_put 0 (by fail "nd") rfl (Nat.le_of_ble_eq_true rfl) | exact dz_put 1 (by fail "nd") rfl (Nat.le_of_ble_eq_true rfl) | exact dz_put 2 (by fail "nd") rfl (Nat.le_of_ble_eq_true rfl) | exact dz_put 3 (by fail "nd") rfl (Nat.le_of_ble_eq_true rfl) | exact dz_put 4 (by fail "nd") rfl (Nat.le_of_ble_eq_true rfl))
local macro_rules | `(tactic| fail "sz") => `(tactic| first | assumption | exact (Nat.le_of_ble_eq_true rfl) | omega | decide)
local macro_rules | `(tactic| fail "sd") => `(tactic| first | rfl | assumption | decide | omega | (dsimp only; first | decide | omega) | exact .inr ⟨by decide, by decide⟩ | exact .inl ⟨by decide, by decide⟩ | exact ⟨by omega, by omega⟩ | exact .inl ⟨by omega, by omega⟩ | exact .inr ⟨by omega, by omega⟩ | exact ⟨by omega, by omega, by omega⟩)
local macro_rules | `(tactic| fail "cl") => `(tactic| (clear hH; dsimp only [List.set, List.cons_append, List.nil_append, List.append] at hL))
local macro_rules | `(tactic| fail "gn") => `(tactic| (intro p hp; generalize hH : upd H p _ = H; replace hL := Led.newH hL hp hH; clear hH hp))
local macro_rules | `(tactic| fail "gup") => `(tactic| (generalize hH : upd H _ _ = H; replace hL := Led.upU hL (by fail "up") hH; fail "cl"))
local macro_rules | `(tactic| fail "gmk") => `(tactic| (intro x dx hx hd ne; generalize hH : upd (upd H dx _) x _ = H; replace hL := Led.made hL hx hd ne hH; clear hH hx hd ne))
local macro_rules | `(tactic| fail "v") => `(tactic| refine ⟨_, rfl, ?_⟩)
local macro_rules | `(tactic| fail "i2") => `(tactic| refine ⟨_, _, rfl, rfl, ?_⟩)
local macro_rules | `(tactic| fail "go1") => `(tactic| first
  | refine ⟨_, rfl, ?_⟩
  | refine ⟨_, _, rfl, rfl, ?_⟩
  | refine ⟨_, _, rfl, ?_⟩
  | refine iteT ?_
  | refine iteF ?_
  | refine k_fld hL (by fail "ix") (by assumption) (by assumption) (by fail "lkF") ?_
  | refine k_dgetS hL (by fail "ix") (by fail "lkD") ?_
  | refine k_dgetI hL (by fail "ix") (by assumption) ?_
  | refine k_ixL hL (by fail "ix") (by first | rfl | assumption) ?_
  | refine k_ixT hL (by fail "ix") (by first | rfl | assumption) ?_
  | refine k_tyL hL (by fail "ix") ?_
  | refine k_isd hL (by fail "ix") ?_
  | (refine And.intro (by fail "sz") ?_; fail "gn")
  | refine And.intro (by fail "sd") ?_
  | fail "gn"
  | refine k_meth hL (by fail "ix") (by first | assumption | exact fz_no (by decide +kernel)) ?_
  | refine k_gtup hL (by fail "ix") rfl ?_
  | (refine k_popI hL (by fail "ix") (by assumption) ?_; fail "gup")
  | (refine k_listD hL (by fail "ix") ?_; fail "gn")
  | (refine ⟨_, _, _, _, rfl, rfl, hL.at (by fail "ix"), rfl, ?_⟩; fail "gup")
  | (refine ⟨_, _, _, rfl, rfl, hL.at (by fail "ix"), (by fail "sz"), ?_⟩; fail "gup")
  | (refine ⟨_, _, _, _, rfl, hL.at (by fail "ix"), by assumption, by assumption, Nat.lt_of_le_of_lt fz_len (by decide), ?_⟩; generalize hH : upd H _ _ = H; replace hL := Led.upF hL (by fail "up") (by fail "ptF") hH; fail "cl")
  | (refine ⟨_, _, hL.at (by fail "ix"), Nat.lt_of_le_of_lt fz_len (by decide), ?_⟩; generalize hH : upd H _ _ = H; replace hL := Led.upF hL (by fail "up") (by fail "ptF") hH; fail "cl")
  | (refine k_dputS hL (by fail "ix") (Nat.lt_of_le_of_lt dz_len (by decide)) (by fail "ptD") (by fail "up") ?_; clear hL; intro H hL; dsimp only [List.set, List.cons_append, List.nil_append, List.append] at hL)
  | refine k_lenL2 hL (by fail "ix") ?_
  | refine k_lenT2 hL (by fail "ix") ?_
  | refine .inl ⟨_, rfl, ?_⟩
  | refine .inr ⟨_, rfl, ?_⟩)
local macro_rules | `(tactic| fail "go") => `(tactic| repeat fail "go1")
local macro_rules | `(tactic| fail "pm") => `(tactic| (refine Led.le hL (fun a_ => ?_); simp only [cnt_nil, cnt_cons, cnt_app, List.map_append, List.map_cons, List.map_nil, List.flatMap_append, List.flatMap_cons, List.flatMap_nil, List.append_assoc, List.cons_append, List.nil_append]; omega))

abbrev Nw := Addr × Str × Int
def newsO (x : Nw) : Addr × HO := (x.1, .tup [.str x.2.1, .int x.2.2])
def newsV (x : Nw) : V := .ref x.1
def cntOf (rows : List Rw) (k : Str) : Int := match aget rows k with
  | some (_, c, _) => c
  | none => 0
structure TxtS (mg : Str → Option Value) : Prop where
  sorted : mg "sorted" = none
  tuple : mg "tuple" = none
def spNews (CV PN : Addr) : Sp := fun vs H Q _ => ∃ (v dv rd gd : Addr) (nm : Str) (s : VS) (ps : Array Value) (R : Lg), vs = [.ref v] ∧ Led H ((PN, .tbl ps) :: (VL CV v dv rd gd nm s ++ R)) ∧ TriplesOk ps.toList ∧ VOk s ∧
  ∀ (ys : List Str) (p : Addr) (ns : List Nw) (ps' : Array Value) (H' : Hp), ys.Perm (s.rows.map (·.1)) → PyProof.Rows.sortedS ys = true → ns.map (·.2) = ys.map (fun y => (y, cntOf s.rows y)) → TriplesOk ps'.toList →
    Led H' ((p, .tup (ns.map newsV)) :: (ns.map newsO ++ ((PN, .tbl ps') :: (VL CV v dv rd gd nm s ++ R)))) → Q (.ref p) H'
theorem Led.tabbed {H H2 : Hp} {P : Addr} {ps : Array Value} {A B : Lg} (h : Led H (A ++ (P, .tbl ps) :: B)) (t : GxR.Tabbed P H H2) : ∃ ps' : Array Value, TriplesOk ps'.toList ∧ Led H2 (A ++ (P, .tbl ps') :: B) := by
  obtain ⟨⟨ps', e, q⟩, k⟩ := t
  refine ⟨ps', q, ?_⟩
  have h1 := h.front.2
  have h2 : P ∉ (A ++ B).map (·.1) := (List.nodup_cons.mp h1).1
  refine Led.back ⟨fun x hx => ?_, h1⟩
  rcases List.mem_cons.mp hx with z | z
  · rw [z]; exact e
  · rw [k x.1 (fun y => h2 (by rw [← y]; exact List.mem_map.mpr ⟨x, z, rfl⟩))]
    exact h.front.1 x (.tail _ z)
theorem kk_names {α : Type} {vo : Str × α → V} {l : List (Str × α)} : (l.map (kk vo)).map (·.1) = (l.map (·.1)).map Sum.inr := by
  rw [List.map_map, List.map_map]; rfl
section
variable {P : Program} {w : World} {K : PySem.W.Frag} {mg : Str → Option Value} {base : Heap} {CV : Addr}
theorem scNews : FnScope ["self", "name"] ["self"] (defScope sNews) := ⟨rfl, rfl, rfl, by decide +kernel, rfl, by decide +kernel, by decide +kernel⟩
theorem ok_news {f c PN : Addr} {oc : Value} {od : Option Addr} {osl : Array (Option Value)} {kV doc pm ct : Value} {an : Option Addr}
    (lk : K.lookup f = some ⟨oc, od, .func (PySem.W.fnOf "news" "View.news" (defArgs sNews) (defBody sNews) (defScope sNews) .none kV doc pm an (.ref c) ct), osl⟩) (hcd : PySem.W.codeIn K (.ref c) "View.news" = true) (TB : GxR.TabB base mg c PN) (X : TxtC K mg CV) (T : TxtS mg) :
    FnOk P w K mg base CX0 5 f (PySem.W.fnOf "news" "View.news" (defArgs sNews) (defBody sNews) (defScope sNews) .none kV doc pm an (.ref c) ct) ["self"] (spNews CV PN) := by
  refine fn_of lk hcd scNews (fun vs H Q E h => ?_) fun A outer s H vs Q E hr h => ?_
  · obtain ⟨v, dv, rd, gd, nm, s, ps, R, rfl, _⟩ := h
    rfl
  · obtain ⟨v, dv, rd, gd, nm, s, ps, R, rfl, hL, ht, ok, k⟩ := h
    have c1 := X.cl
    have f1 := X.n "rows" (by decide +kernel)
    have hr1 : Room 1 _ := hr.mono (by decide)
    refine ⟨_, ((pss_one (ps_ret (Gx.pe_tupleG (Gx.pgen_gx (own := [("name", 1)]) (g := gName 1) hr1 TB rfl scNews.nd (pi_list (pe_callB (call_sortedD rfl) (by rfl) T.sorted (by decide +kernel) (pa_cons (pe_fld (pv 0) rfl) pa_nil))) (Gx.gxOk_by (own := [("name", 1)]) (N := ["self", "name"]) (sc := (defScope sNews)) (by decide +kernel)) (fun _ _ _ _ _ _ _ _ _ => (pg_name (i := 1) scNews.nd rfl (Or.inl rfl))) (fun _ _ _ _ _ _ _ _ hr => pts_nil) (fun _ _ _ _ _ _ _ _ hr => (pe_tup (pa_cons (pv 1) (pa_cons (pe_ix ix_tupG (pe_dget (hu_of hr) (pe_fldG (pv 0) rfl) (pv 1) (fun _ _ => rfl)) pe_int (fun _ _ => rfl)) pa_nil)))) (fun _ => rfl)) hr (by rfl) T.tuple)))).nox, ?_⟩
    dsimp only [VL] at hL
    fail "go"
    refine ⟨_, _, s.rows.map (·.1), rfl, .inl (hL.at (by fail "ix")), kk_names, by rw [List.length_map]; exact Nat.lt_trans ok.sz (by decide), fun ys p hp hs hf => ?_⟩
    generalize hH : upd H p _ = H
    replace hL := Led.newH hL hf hH
    clear hH hf
    refine ⟨_, rfl, ⟨_, .of (hL.at ⟨0, rfl⟩)⟩, ⟨ps, hL.at ⟨1, rfl⟩, ht⟩, fun H2 hT => ?_⟩
    obtain ⟨ps', ht', hL⟩ := Led.tabbed (A := [_]) hL hT
    dsimp only [List.cons_append, List.nil_append, List.append] at hL
    clear hT
    have hyl : ys.length < 60 := by
      have := hp.length_eq
      rw [List.length_map] at this
      rw [this]; exact ok.sz
    refine Gx.gx_it (walk_list (K := K) (a := p) (xs := ys.map V.str)) (fun i out H => Hold (∃ ns : List Nw, out = ns.map newsV ∧ ns.map (·.2) = (ys.take i).map (fun y => (y, cntOf s.rows y)) ∧
      Led H (ns.map newsO ++ ((p, .lst (ys.map V.str)) :: (PN, .tbl ps') :: (VL CV v dv rd gd nm s ++ R))))) (.mk ⟨[], rfl, rfl, hL⟩) (fun i out H _ h => ?_) (fun i x out H H' hi h hy => ?_) (fun out H h => ?_)
    · obtain ⟨ns, rfl, hn, hL⟩ := h.out
      exact .of (hL.at (at_mem (List.mem_append_right _ List.mem_cons_self)))
    · obtain ⟨ns, rfl, hn, hL⟩ := h.out
      clear h
      obtain ⟨rfl, hx⟩ := hy
      rw [List.length_map] at hi
      rw [List.getElem?_map, List.getElem?_eq_getElem hi] at hx
      obtain rfl := (Option.some.inj hx).symm
      obtain ⟨⟨a, cc, t⟩, hrow⟩ := aget_in (hp.mem_iff.mp (List.getElem_mem hi))
      have lkd : valV (s.rows.map (kk rowV)) (Sum.inr ys[i]) = some (.ref a) := by rw [kk_val, hrow]; rfl
      have m (x) (h : x ∈ VL CV v dv rd gd nm s ++ R) : x ∈ ns.map newsO ++ ((p, .lst (ys.map V.str)) :: (PN, .tbl ps') :: (VL CV v dv rd gd nm s ++ R)) := List.mem_append_right _ (.tail _ (.tail _ h))
      refine ⟨rfl, k_yes ?_⟩
      fail "go"
      refine k_fld hL (at_mem (m _ (.head _))) c1 f1 (fz_at 2 (by decide +kernel) rfl rfl) ?_
      fail "go"
      refine k_dgetS hL (at_mem (m _ (.tail _ (.head _)))) lkd ?_
      fail "go"
      refine k_ixT hL (at_mem (m _ (List.mem_append_left _ (.tail _ (.tail _ (.tail _ (row_mem hrow))))))) rfl ?_
      refine ⟨(by show 2 ≤ sizeLine; decide), fun q hq => ?_⟩
      generalize hH : upd H' q _ = H
      replace hL := Led.newH hL hq hH
      refine ⟨?_, .mk ⟨ns ++ [(q, ys[i], cc)], ?_, ?_, ?_⟩⟩
      · rw [List.length_map]
        have := congrArg List.length hn
        rw [List.length_map, List.length_map, List.length_take] at this
        have h2 : 60 ≤ sizeLine := by decide
        omega
      · simp [newsV]
      · rw [List.map_append, hn, List.take_add_one, List.getElem?_eq_getElem hi, List.map_append]
        simp [cntOf, hrow]
      · rw [List.map_append, List.append_assoc]
        exact Led.back hL
    · obtain ⟨ns, rfl, hn, hL⟩ := h.out
      intro q hq
      generalize hH : upd H q _ = H
      replace hL := Led.newH hL hq hH
      refine k ys q ns ps' _ hp hs ?_ ht' (hL.sub ?_)
      · rw [hn, List.length_map, List.take_length]
      · exact .cons_cons _ (List.Sublist.append_left (List.sublist_cons_self _ _) _)
end
end Sd


namespace Sd
open PySem L2
open C8 (Cal Met Mak pe_c pe_mk pe_mt pe_mt0 pss_cut tCut)
set_option linter.unusedSimpArgs false
set_option pp.deepTerms false
set_option pp.deepTerms.threshold 12
set_option hygiene false
local macro_rules | `(tactic| fail "nd") => `(tactic| first | assumption | decide +kernel)
local macro_rules | `(tactic| fail "ix") => `(tactic| first | exact ⟨0, rfl⟩ | exact ⟨1, rfl⟩ | exact ⟨2, rfl⟩ | exact ⟨3, rfl⟩ | exact ⟨4, rfl⟩ | exact ⟨5, rfl⟩ | exact ⟨6, rfl⟩ | exact ⟨7, rfl⟩ | exact ⟨8, rfl⟩ | exact ⟨9, rfl⟩ | exact ⟨10, rfl⟩ | exact ⟨11, rfl⟩ | exact ⟨12, rfl⟩ | exact ⟨13, rfl⟩ | exact ⟨14, rfl⟩ | exact ⟨15, rfl⟩ | exact ⟨16, rfl⟩ | exact ⟨17, rfl⟩ | exact ⟨18, rfl⟩ | assumption)
local macro_rules | `(tactic| fail "up") => `(tactic| first | exact ⟨0, rfl, rfl⟩ | exact ⟨1, rfl, rfl⟩ | exact ⟨2, rfl, rfl⟩ | exact ⟨3, rfl, rfl⟩ | exact ⟨4, rfl, rfl⟩ | exact ⟨5, rfl, rfl⟩ | exact ⟨6, rfl, rfl⟩ | exact ⟨7, rfl, rfl⟩ | exact ⟨8, rfl, rfl⟩ | exact ⟨9, rfl, rfl⟩ | exact ⟨10, rfl, rfl⟩ | exact ⟨11, rfl, rfl⟩ | exact ⟨12, rfl, rfl⟩ | exact ⟨13, rfl, rfl⟩ | exact ⟨14, rfl, rfl⟩ | exact ⟨15, rfl, rfl⟩ | exact ⟨16, rfl, rfl⟩ | assumption)
local macro_rules | `(tactic| fail "lkF") => `(tactic| first | assumption | exact fz_at 0 (by fail "nd") rfl rfl | exact fz_at 1 (by fail "nd") rfl rfl | exact fz_at 2 (by fail "nd") rfl rfl | exact fz_at 3 (by fail "nd") rfl rfl | exact fz_at 4 (by fail "nd") rfl rfl | exact fz_at 5 (by fail "nd") rfl rfl | exact fz_at 6 (by fail "nd") rfl rfl | exact fz_at 7 (by fail "nd") rfl rfl)
local macro_rules | `(tactic| fail "lkD") => `(tactic| first | assumption | exact dz_at 0 (by fail "nd") rfl rfl | exact dz_at 1 (by fail "nd") rfl rfl | exact dz_at 2 (by fail "nd") rfl rfl | exact dz_at 3 (by fail "nd") rfl rfl | exact dz_at 4 (by fail "nd") rfl rfl)
local macro_rules | `(tactic| fail "ptF") => `(tactic| first | assumption | exact fz_put 0 (by fail "nd") rfl (Nat.le_of_ble_eq_true rfl) | exact fz_put 1 (by fail "nd") rfl (Nat.le_of_ble_eq_true rfl) | exact fz_put 2 (by fail "nd") rfl (Nat.le_of_ble_eq_true rfl) | exact fz_put 3 (by fail "nd") rfl (Nat.le_of_ble_eq_true rfl) | exact fz_put 4 (by fail "nd") rfl (Nat.le_of_ble_eq_true rfl) | exact fz_put 5 (by fail "nd") rfl (Nat.le_of_ble_eq_true rfl) | exact fz_put 6 (by fail "nd") rfl (Nat.le_of_ble_eq_true rfl) | exact fz_put 7 (by fail "nd") rfl (Nat.le_of_ble_eq_true rfl) | exact fz_new (by decide +kernel) rfl)
local macro_rules | `(tactic| fail "ptD") => `(tactic| first | assumption | exact dz_put 0 (by fail "nd") rfl (Nat.le_of_ble_eq_true rfl) | exact dz_put 1 (by fail "nd") rfl (Nat.le_of_ble_eq_true rfl) | exact dz_put 2 (by fail "nd") rfl (Nat.le_of_ble_eq_true rfl) | exact dz_put 3 (by fail "nd") rfl (Nat.le_of_ble_eq_true rfl) | exact dz_put 4 (by fail "nd") rfl (Nat.le_of_ble_eq_true rfl))
local macro_rules | `(tactic| fail "sz") => `(tactic| first | assumption | exact (Nat.le_of_ble_eq_true rfl) | omega | decide)
local macro_rules | `(tactic| fail "sd") => `(tactic| first | rfl | assumption | decide | omega | (dsimp only; first | decide | omega) | exact .inr ⟨by decide, by decide⟩ | exact .inl ⟨by decide, by decide⟩ | exact ⟨by omega, by omega⟩ | exact .inl ⟨by omega, by omega⟩ | exact .inr ⟨by omega, by omega⟩ | exact ⟨by omega, by omega, by omega⟩)
local macro_rules | `(tactic| fail "cl") => `(tactic| (clear hH; dsimp only [List.set, List.cons_append, List.nil_append, List.append] at hL))
local macro_rules | `(tactic| fail "gn") => `(tactic| (intro p hp; generalize hH : upd H p _ = H; replace hL := Led.newH hL hp hH; clear hH hp))
local macro_rules | `(tactic| fail "gup") => `(tactic| (generalize hH : upd H _ _ = H; replace hL := Led.upU hL (by fail "up") hH; fail "cl"))
local macro_rules | `(tactic| fail "gmk") => `(tactic| (intro x dx hx hd ne; generalize hH : upd (upd H dx _) x _ = H; replace hL := Led.made hL hx hd ne hH; clear hH hx hd ne))
local macro_rules | `(tactic| fail "v") => `(tactic| refine ⟨_, rfl, ?_⟩)
local macro_rules | `(tactic| fail "i2") => `(tactic| refine ⟨_, _, rfl, rfl, ?_⟩)
local macro_rules | `(tactic| fail "go1") => `(tactic| first
  | refine ⟨_, rfl, ?_⟩
  | refine ⟨_, _, rfl, rfl, ?_⟩
  | refine ⟨_, _, rfl, ?_⟩
  | refine iteT ?_
  | refine iteF ?_
  | refine k_fld hL (by fail "ix") (by assumption) (by assumption) (by fail "lkF") ?_
  | refine k_dgetS hL (by fail "ix") (by fail "lkD") ?_
  | refine k_dgetI hL (by fail "ix") (by assumption) ?_
  | refine k_ixL hL (by fail "ix") (by first | rfl | assumption) ?_
  | refine k_ixT hL (by fail "ix") (by first | rfl | assumption) ?_
  | refine k_tyL hL (by fail "ix") ?_
  | refine k_isd hL (by fail "ix") ?_
  | (refine And.intro (by fail "sz") ?_; fail "gn")
  | refine And.intro (by fail "sd") ?_
  | fail "gn"
  | refine k_meth hL (by fail "ix") (by first | assumption | exact fz_no (by decide +kernel)) ?_
  | refine k_gtup hL (by fail "ix") rfl ?_
  | (refine k_popI hL (by fail "ix") (by assumption) ?_; fail "gup")
  | (refine k_listD hL (by fail "ix") ?_; fail "gn")
  | (refine ⟨_, _, _, _, rfl, rfl, hL.at (by fail "ix"), rfl, ?_⟩; fail "gup")
  | (refine ⟨_, _, _, rfl, rfl, hL.at (by fail "ix"), (by fail "sz"), ?_⟩; fail "gup")
  | (refine ⟨_, _, _, _, rfl, hL.at (by fail "ix"), by assumption, by assumption, Nat.lt_of_le_of_lt fz_len (by decide), ?_⟩; generalize hH : upd H _ _ = H; replace hL := Led.upF hL (by fail "up") (by fail "ptF") hH; fail "cl")
  | (refine ⟨_, _, hL.at (by fail "ix"), Nat.lt_of_le_of_lt fz_len (by decide), ?_⟩; generalize hH : upd H _ _ = H; replace hL := Led.upF hL (by fail "up") (by fail "ptF") hH; fail "cl")
  | (refine k_dputS hL (by fail "ix") (Nat.lt_of_le_of_lt dz_len (by decide)) (by fail "ptD") (by fail "up") ?_; clear hL; intro H hL; dsimp only [List.set, List.cons_append, List.nil_append, List.append] at hL)
  | refine k_lenL2 hL (by fail "ix") ?_
  | refine k_lenT2 hL (by fail "ix") ?_
  | refine .inl ⟨_, rfl, ?_⟩
  | refine .inr ⟨_, rfl, ?_⟩)
local macro_rules | `(tactic| fail "go") => `(tactic| repeat fail "go1")
local macro_rules | `(tactic| fail "pm") => `(tactic| (refine Led.le hL (fun a_ => ?_); simp only [cnt_nil, cnt_cons, cnt_app, List.map_append, List.map_cons, List.map_nil, List.flatMap_append, List.flatMap_cons, List.flatMap_nil, List.append_assoc, List.cons_append, List.nil_append]; omega))

def knownP (p : Pl) (k : Str) : Int := match aget p.rows k with
  | some (c, _) => c
  | none => (aget p.gone k).getD (-1)
def hear1 (p : Pl) (x : Str × Int) : Pl := if knownP p x.1 < x.2 then { p with rows := aput p.rows x.1 (x.2, p.time) } else p
def hearP (p : Pl) (news : List (Str × Int)) : Pl := news.foldl hear1 p
structure HOk2 (U : List Str) (s : VS) : Prop where
  nd : (s.rows.map (·.1)).Nodup
  gd : (s.gone.map (·.1)).Nodup
  u1 : ∀ k ∈ s.rows.map (·.1), k ∈ U
  u2 : ∀ k ∈ s.gone.map (·.1), k ∈ U
theorem HOk2.ok {U : List Str} {s : VS} (h : HOk2 U s) (hU : U.length < 60) : VOk s := ⟨h.nd, h.gd, U, hU, h.u1, h.u2⟩
theorem aput_nd {α : Type} {k : Str} {v : α} {l : List (Str × α)} (h : (l.map (·.1)).Nodup) : ((aput l k v).map (·.1)).Nodup := by
  by_cases hk : k ∈ l.map (·.1)
  · rw [aput_names_in hk]; exact h
  · rw [aput_names_out hk, List.map_append]
    exact List.nodup_append.mpr ⟨h, by simp, fun a ha b hb => by
      rw [List.map_cons, List.map_nil, List.mem_singleton] at hb
      rw [hb]
      exact fun e => hk ((show a = k from e) ▸ ha)⟩
theorem aput_mem {α : Type} {k j : Str} {v : α} {l : List (Str × α)} (h : j ∈ (aput l k v).map (·.1)) : j = k ∨ j ∈ l.map (·.1) := by
  by_cases hk : k ∈ l.map (·.1)
  · rw [aput_names_in hk] at h; exact .inr h
  · rw [aput_names_out hk, List.map_append] at h
    rcases List.mem_append.mp h with h | h
    · exact .inr h
    · exact .inl (by simpa using h)
theorem HOk2.put {U : List Str} {s : VS} {k : Str} {v : Addr × Int × Int} {t : Int} (h : HOk2 U s) (hk : k ∈ U) : HOk2 U ⟨t, aput s.rows k v, s.gone⟩ :=
  ⟨aput_nd h.nd, h.gd, fun j hj => (aput_mem hj).elim (fun e => by rw [e]; exact hk) (h.u1 j), h.u2⟩
theorem pl_get {s : VS} {k : Str} : aget s.pl.rows k = (aget s.rows k).map (·.2) := aget_map (f := fun x : Addr × Int × Int => x.2)
theorem known_some {s : VS} {k : Str} {a : Addr} {c t : Int} (h : aget s.rows k = some (a, c, t)) : knownP s.pl k = c := by
  unfold knownP
  rw [pl_get, h]; rfl
theorem known_none {s : VS} {k : Str} (h : aget s.rows k = none) : knownP s.pl k = (aget s.gone k).getD (-1) := by
  unfold knownP
  rw [pl_get, h]; rfl
theorem pl_put {s : VS} {k : Str} {a : Addr} {c t : Int} : (⟨s.time, aput s.rows k (a, c, t), s.gone⟩ : VS).pl = { s.pl with rows := aput s.pl.rows k (c, t) } := by
  unfold VS.pl
  dsimp only
  rw [aput_map (f := fun x : Addr × Int × Int => x.2)]
def spHear (CV : Addr) : Sp := fun vs H Q _ => ∃ (v dv rd gd np : Addr) (nm : Str) (s : VS) (ns : List Nw) (U : List Str) (R : Lg), vs = [.ref v, .ref np] ∧ Led H (VL CV v dv rd gd nm s ++ R) ∧ VOk s ∧ (np, .tup (ns.map newsV)) ∈ R ∧ (∀ n ∈ ns, newsO n ∈ R) ∧
  U.length < 60 ∧ (∀ k ∈ s.rows.map (·.1), k ∈ U) ∧ (∀ k ∈ s.gone.map (·.1), k ∈ U) ∧ (∀ n ∈ ns, n.2.1 ∈ U) ∧
  ∀ (s' : VS) (H' : Hp), s'.pl = hearP s.pl (ns.map (·.2)) → VOk s' → Led H' (VL CV v dv rd gd nm s' ++ R) → Q .non H'
section
variable {P : Program} {w : World} {K : PySem.W.Frag} {mg : Str → Option Value} {base : Heap} {CV : Addr}
theorem scHear : FnScope ["self", "news", "name", "count", "known"] ["self", "news"] (defScope sHear) := ⟨rfl, rfl, rfl, by decide +kernel, rfl, by decide +kernel, by decide +kernel⟩
theorem ok_hear {f : Addr} {fd : FuncData} (F : Fun K "hear" "View.hear" sHear f fd) (X : TxtC K mg CV) : FnOk P w K mg base CX0 1 f fd ["self", "news"] (spHear CV) := by
  refine F.ok scHear (fun vs H Q E h => ?_) (fun cdv A outer s H vs Q E hr h => ?_)
  · obtain ⟨v, dv, rd, gd, np, nm, s, ns, U, R, rfl, _⟩ := h
    rfl
  · obtain ⟨v, dv, rd, gd, np, nm, s, ns, U, R, rfl, hL, ok, hnp, hns, hU, u1, u2, u3, k⟩ := h
    have c1 := X.cl
    have f2 := X.n "time" (by decide +kernel)
    have f3 := X.n "rows" (by decide +kernel)
    have f4 := X.n "gone" (by decide +kernel)
    refine ⟨_, (pss_one (ps_for PassesOwn.never rfl (pi_tup (pv 1)) (pg_tup (by rfl) (pgs_cons (pg_name (i := 2) scHear.nd rfl (Or.inl rfl)) (pgs_cons (pg_name (i := 3) scHear.nd rfl (Or.inl rfl)) pgs_nil)))
  (pss_cons (ps_set (i := 4) scHear.nd rfl (Or.inl rfl) (pe_ifExp (pt_cmp (pc_din (hu_of hr) (pv 2) (pe_fld (pv 0) rfl))) (pe_ix ix_tup (pe_dget (hu_of hr) (pe_fld (pv 0) rfl) (pv 2) (fun _ _ => rfl)) pe_int (fun _ _ => rfl)) (pe_dget2 (hu_of hr) (pe_fld (pv 0) rfl) (pv 2) (pe_op op_sub pe_int pe_int) ⟨rfl, rfl, rfl, rfl⟩)))
  (pss_one (ps_if (pt_cmpR op_gt (pv 3) (pv 4) (nomark _))
  (pss_one (ps_dput (hu_of hr) (pe_fld (pv 0) rfl) (pv 2) (pe_tup (pa_cons (pv 3) (pa_cons (pe_fld (pv 0) rfl) pa_nil))) rfl))
  pss_nil))))), ?_⟩
    fail "go"
    refine ⟨⟨_, .of (hL.at (at_mem (List.mem_append_right _ hnp)))⟩, for_tup (K := K) (a := np) (xs := ns.map newsV) (fun i σ H => Hold (∃ (s' : VS) (v2 v3 v4 : Option V), σ = [some (.ref v), some (.ref np), v2, v3, v4] ∧ s'.pl = hearP s.pl ((ns.take i).map (·.2)) ∧
      HOk2 U s' ∧ Led H (VL CV v dv rd gd nm s' ++ R))) (.mk ⟨s, none, none, none, rfl, rfl, ⟨ok.nd, ok.gd, u1, u2⟩, hL⟩) (fun i σ H _ h => ?_) (fun i x σ H hi h => ?_) (fun σ H h => ?_)⟩
    · obtain ⟨s', v2, v3, v4, rfl, e, o2, hL⟩ := h.out
      exact .of (hL.at (at_mem (List.mem_append_right _ hnp)))
    · obtain ⟨s', v2, v3, v4, rfl, e, o2, hL⟩ := h.out
      clear h
      rw [List.getElem?_map] at hi
      obtain ⟨n, hn, rfl⟩ := Option.map_eq_some_iff.mp hi
      have hm := List.mem_of_getElem? hn
      have e2 : hearP s.pl ((ns.take (i + 1)).map (·.2)) = hear1 s'.pl n.2 := by
        rw [List.take_add_one, hn, List.map_append]
        show List.foldl hear1 s.pl (_ ++ [n.2]) = _
        rw [List.foldl_append]
        show hear1 (hearP s.pl _) n.2 = _
        rw [← e]
      have hu := u3 n hm
      refine k_gtup hL (at_mem (List.mem_append_right _ (hns n hm))) rfl ?_
      have hsz : s'.rows.length < 60 := (o2.ok hU).sz
      have lkr : valV (s'.rows.map (kk rowV)) (Sum.inr n.2.1) = (aget s'.rows n.2.1).map fun x => .ref x.1 := by rw [kk_val]; rfl
      have lkg : valV (s'.gone.map (kk goneV)) (Sum.inr n.2.1) = (aget s'.gone n.2.1).map .int := by rw [kk_val]; rfl
      dsimp only [VL] at hL
      fail "go"
      refine k_dinS hL (by fail "ix") ?_
      rw [lkr]
      fail "go"
      cases hr : aget s'.rows n.2.1 with
      | some r =>
        obtain ⟨a, c, t⟩ := r
        rw [hr] at lkr
        refine ite_t (by rfl) ?_
        fail "go"
        refine k_ixT hL (at_mem (.tail _ (.tail _ (.tail _ (List.mem_append_left _ (row_mem hr)))))) rfl ?_
        fail "go"
        refine ite_d (fun h1 => ?_) (fun h1 => ?_)
        · fail "go"
          refine k_dputS hL (by fail "ix") (by rw [List.length_map]; exact Nat.lt_of_lt_of_le hsz (by decide)) (kk_put (vo := rowV) (v := (p, n.2.2, s'.time)) o2.nd) (by fail "up") fun H hL => ?_
          dsimp only [List.set, List.cons_append, List.nil_append, List.append] at hL
          refine .mk ⟨⟨s'.time, aput s'.rows n.2.1 (p, n.2.2, s'.time), s'.gone⟩, _, _, _, rfl, ?_, o2.put hu, Led.rput (A := [_, _, _]) (k := n.2.1) (v := (p, n.2.2, s'.time)) hL⟩
          rw [e2, hear1, if_pos, pl_put]
          · rfl
          · rw [known_some hr]; exact h1
        · refine .mk ⟨s', _, _, _, rfl, ?_, o2, hL⟩
          rw [e2, hear1, if_neg]
          rw [known_some hr]; exact h1
      | none =>
        rw [hr] at lkr
        refine ite_f (by rfl) ?_
        fail "go"
        refine k_getS hL (by fail "ix") ?_
        rw [lkg]
        have hk := known_none hr
        generalize hg : (aget s'.gone n.2.1).getD (-1) = g0 at hk
        have hv : ((aget s'.gone n.2.1).map V.int).getD (.int (0 - 1)) = .int g0 := by
          rw [← hg]; cases aget s'.gone n.2.1 <;> rfl
        rw [hv]
        fail "go"
        refine ite_d (fun h1 => ?_) (fun h1 => ?_)
        · fail "go"
          refine k_dputS hL (by fail "ix") (by rw [List.length_map]; exact Nat.lt_of_lt_of_le hsz (by decide)) (kk_put (vo := rowV) (v := (p, n.2.2, s'.time)) o2.nd) (by fail "up") fun H hL => ?_
          dsimp only [List.set, List.cons_append, List.nil_append, List.append] at hL
          refine .mk ⟨⟨s'.time, aput s'.rows n.2.1 (p, n.2.2, s'.time), s'.gone⟩, _, _, _, rfl, ?_, o2.put hu, Led.rput (A := [_, _, _]) (k := n.2.1) (v := (p, n.2.2, s'.time)) hL⟩
          rw [e2, hear1, if_pos, pl_put]
          · rfl
          · rw [hk]; exact h1
        · refine .mk ⟨s', _, _, _, rfl, ?_, o2, hL⟩
          rw [e2, hear1, if_neg]
          rw [hk]; exact h1
    · obtain ⟨s', v2, v3, v4, rfl, e, o2, hL⟩ := h.out
      refine k s' _ ?_ (o2.ok hU) hL
      rw [e, List.length_map, List.take_length]
end
end Sd


namespace Sd
open PySem L2
open C8 (Cal Met Mak pe_c pe_mk pe_mt pe_mt0 pss_cut tCut)
set_option linter.unusedSimpArgs false
set_option pp.deepTerms false
set_option pp.deepTerms.threshold 12
set_option hygiene false
local macro_rules | `(tactic| fail "nd") => `(tactic| first | assumption | decide +kernel)
local macro_rules | `(tactic| fail "ix") => `(tactic| first | exact ⟨0, rfl⟩ | exact ⟨1, rfl⟩ | exact ⟨2, rfl⟩ | exact ⟨3, rfl⟩ | exact ⟨4, rfl⟩ | exact ⟨5, rfl⟩ | exact ⟨6, rfl⟩ | exact ⟨7, rfl⟩ | exact ⟨8, rfl⟩ | exact ⟨9, rfl⟩ | exact ⟨10, rfl⟩ | exact ⟨11, rfl⟩ | exact ⟨12, rfl⟩ | exact ⟨13, rfl⟩ | exact ⟨14, rfl⟩ | exact ⟨15, rfl⟩ | exact ⟨16, rfl⟩ | exact ⟨17, rfl⟩ | exact ⟨18, rfl⟩ | assumption)
local macro_rules | `(tactic| fail "up") => `(tactic| first | exact ⟨0, rfl, rfl⟩ | exact ⟨1, rfl, rfl⟩ | exact ⟨2, rfl, rfl⟩ | exact ⟨3, rfl, rfl⟩ | exact ⟨4, rfl, rfl⟩ | exact ⟨5, rfl, rfl⟩ | exact ⟨6, rfl, rfl⟩ | exact ⟨7, rfl, rfl⟩ | exact ⟨8, rfl, rfl⟩ | exact ⟨9, rfl, rfl⟩ | exact ⟨10, rfl, rfl⟩ | exact ⟨11, rfl, rfl⟩ | exact ⟨12, rfl, rfl⟩ | exact ⟨13, rfl, rfl⟩ | exact ⟨14, rfl, rfl⟩ | exact ⟨15, rfl, rfl⟩ | exact ⟨16, rfl, rfl⟩ | assumption)
local macro_rules | `(tactic| fail "lkF") => `(tactic| first | assumption | exact fz_at 0 (by fail "nd") rfl rfl | exact fz_at 1 (by fail "nd") rfl rfl | exact fz_at 2 (by fail "nd") rfl rfl | exact fz_at 3 (by fail "nd") rfl rfl | exact fz_at 4 (by fail "nd") rfl rfl | exact fz_at 5 (by fail "nd") rfl rfl | exact fz_at 6 (by fail "nd") rfl rfl | exact fz_at 7 (by fail "nd") rfl rfl)
local macro_rules | `(tactic| fail "lkD") => `(tactic| first | assumption | exact dz_at 0 (by fail "nd") rfl rfl | exact dz_at 1 (by fail "nd") rfl rfl | exact dz_at 2 (by fail "nd") rfl rfl | exact dz_at 3 (by fail "nd") rfl rfl | exact dz_at 4 (by fail "nd") rfl rfl)
local macro_rules | `(tactic| fail "ptF") => `(tactic| first | assumption | exact fz_put 0 (by fail "nd") rfl (Nat.le_of_ble_eq_true rfl) | exact fz_put 1 (by fail "nd") rfl (Nat.le_of_ble_eq_true rfl) | exact fz_put 2 (by fail "nd") rfl (Nat.le_of_ble_eq_true rfl) | exact fz_put 3 (by fail "nd") rfl (Nat.le_of_ble_eq_true rfl) | exact fz_put 4 (by fail "nd") rfl (Nat.le_of_ble_eq_true rfl) | exact fz_put 5 (by fail "nd") rfl (Nat.le_of_ble_eq_true rfl) | exact fz_put 6 (by fail "nd") rfl (Nat.le_of_ble_eq_true rfl) | exact fz_put 7 (by fail "nd") rfl (Nat.le_of_ble_eq_true rfl) | exact fz_new (by decide +kernel) rfl)
local macro_rules | `(tactic| fail "ptD") => `(tactic| first | assumption | exact dz_put 0 (by fail "nd") rfl (Nat.le_of_ble_eq_true rfl) | exact dz_put 1 (by fail "nd") rfl (Nat.le_of_ble_eq_true rfl) | exact dz_put 2 (by fail "nd") rfl (Nat.le_of_ble_eq_true rfl) | exact dz_put 3 (by fail "nd") rfl (Nat.le_of_ble_eq_true rfl) | exact dz_put 4 (by fail "nd") rfl (Nat.le_of_ble_eq_true rfl))
local macro_rules | `(tactic| fail "sz") => `(tactic| first | assumption | exact (Nat.le_of_ble_eq_true rfl) | omega | decide)
local macro_rules | `(tactic| fail "sd") => `(tactic| first | rfl | assumption | decide | omega | (dsimp only; first | decide | omega) | exact .inr ⟨by decide, by decide⟩ | exact .inl ⟨by decide, by decide⟩ | exact ⟨by omega, by omega⟩ | exact .inl ⟨by omega, by omega⟩ | exact .inr ⟨by omega, by omega⟩ | exact ⟨by omega, by omega, by omega⟩)
local macro_rules | `(tactic| fail "cl") => `(tactic| (clear hH; dsimp only [List.set, List.cons_append, List.nil_append, List.append] at hL))
local macro_rules | `(tactic| fail "gn") => `(tactic| (intro p hp; generalize hH : upd H p _ = H; replace hL := Led.newH hL hp hH; clear hH hp))
local macro_rules | `(tactic| fail "gup") => `(tactic| (generalize hH : upd H _ _ = H; replace hL := Led.upU hL (by fail "up") hH; fail "cl"))
local macro_rules | `(tactic| fail "gmk") => `(tactic| (intro x dx hx hd ne; generalize hH : upd (upd H dx _) x _ = H; replace hL := Led.made hL hx hd ne hH; clear hH hx hd ne))
local macro_rules | `(tactic| fail "v") => `(tactic| refine ⟨_, rfl, ?_⟩)
local macro_rules | `(tactic| fail "i2") => `(tactic| refine ⟨_, _, rfl, rfl, ?_⟩)
local macro_rules | `(tactic| fail "go1") => `(tactic| first
  | refine ⟨_, rfl, ?_⟩
  | refine ⟨_, _, rfl, rfl, ?_⟩
  | refine ⟨_, _, rfl, ?_⟩
  | refine iteT ?_
  | refine iteF ?_
  | refine k_fld hL (by fail "ix") (by assumption) (by assumption) (by fail "lkF") ?_
  | refine k_dgetS hL (by fail "ix") (by fail "lkD") ?_
  | refine k_dgetI hL (by fail "ix") (by assumption) ?_
  | refine k_ixL hL (by fail "ix") (by first | rfl | assumption) ?_
  | refine k_ixT hL (by fail "ix") (by first | rfl | assumption) ?_
  | refine k_tyL hL (by fail "ix") ?_
  | refine k_isd hL (by fail "ix") ?_
  | (refine And.intro (by fail "sz") ?_; fail "gn")
  | refine And.intro (by fail "sd") ?_
  | fail "gn"
  | refine k_meth hL (by fail "ix") (by first | assumption | exact fz_no (by decide +kernel)) ?_
  | refine k_gtup hL (by fail "ix") rfl ?_
  | (refine k_popI hL (by fail "ix") (by assumption) ?_; fail "gup")
  | (refine k_listD hL (by fail "ix") ?_; fail "gn")
  | (refine ⟨_, _, _, _, rfl, rfl, hL.at (by fail "ix"), rfl, ?_⟩; fail "gup")
  | (refine ⟨_, _, _, rfl, rfl, hL.at (by fail "ix"), (by fail "sz"), ?_⟩; fail "gup")
  | (refine ⟨_, _, _, _, rfl, hL.at (by fail "ix"), by assumption, by assumption, Nat.lt_of_le_of_lt fz_len (by decide), ?_⟩; generalize hH : upd H _ _ = H; replace hL := Led.upF hL (by fail "up") (by fail "ptF") hH; fail "cl")
  | (refine ⟨_, _, hL.at (by fail "ix"), Nat.lt_of_le_of_lt fz_len (by decide), ?_⟩; generalize hH : upd H _ _ = H; replace hL := Led.upF hL (by fail "up") (by fail "ptF") hH; fail "cl")
  | (refine k_dputS hL (by fail "ix") (Nat.lt_of_le_of_lt dz_len (by decide)) (by fail "ptD") (by fail "up") ?_; clear hL; intro H hL; dsimp only [List.set, List.cons_append, List.nil_append, List.append] at hL)
  | refine k_lenL2 hL (by fail "ix") ?_
  | refine k_lenT2 hL (by fail "ix") ?_
  | refine .inl ⟨_, rfl, ?_⟩
  | refine .inr ⟨_, rfl, ?_⟩)
local macro_rules | `(tactic| fail "go") => `(tactic| repeat fail "go1")
local macro_rules | `(tactic| fail "pm") => `(tactic| (refine Led.le hL (fun a_ => ?_); simp only [cnt_nil, cnt_cons, cnt_app, List.map_append, List.map_cons, List.map_nil, List.flatMap_append, List.flatMap_cons, List.flatMap_nil, List.append_assoc, List.cons_append, List.nil_append]; omega))

/-- what a view tells of a name -/
def stateP (p : Pl) (mine k : Str) : Str := if k = mine then "alive" else
  match aget p.rows k with
  | some (_, t) => if p.time - t < 6 then "alive" else if p.time - t < 15 then "suspect" else "dead"
  | none => "dead"
structure TxtG (mg : Str → Option Value) : Prop where
  g_SUSPECT : ∃ u, mg "SUSPECT" = some u ∧ RelV (.int 6) u
  g_DEAD : ∃ u, mg "DEAD" = some u ∧ RelV (.int 15) u
def spState (CV : Addr) : Sp := fun vs H Q _ => ∃ (v dv rd gd : Addr) (nm k : Str) (s : VS) (R : Lg), vs = [.ref v, .str k] ∧ Led H (VL CV v dv rd gd nm s ++ R) ∧ k ∈ s.rows.map (·.1) ∧
  ∀ H', Led H' (VL CV v dv rd gd nm s ++ R) → Q (.str (stateP s.pl nm k)) H'
section
variable {P : Program} {w : World} {K : PySem.W.Frag} {mg : Str → Option Value} {base : Heap} {CV : Addr}
theorem scState : FnScope ["self", "name", "silence"] ["self", "name"] (defScope sState) := ⟨rfl, rfl, rfl, by decide +kernel, rfl, by decide +kernel, by decide +kernel⟩
theorem ok_state {f : Addr} {fd : FuncData} (F : Fun K "state_of" "View.state_of" sState f fd) (X : TxtC K mg CV) (T : TxtG mg) : FnOk P w K mg base CX0 1 f fd ["self", "name"] (spState CV) := by
  refine F.ok scState (fun vs H Q E h => ?_) (fun cdv A outer s H vs Q E hr h => ?_)
  · obtain ⟨v, dv, rd, gd, nm, k, s, R, rfl, _⟩ := h
    rfl
  · obtain ⟨v, dv, rd, gd, nm, k, s, R, rfl, hL, hk, q⟩ := h
    have c1 := X.cl
    have f1 := X.n "name" (by decide +kernel)
    have f2 := X.n "time" (by decide +kernel)
    have f3 := X.n "rows" (by decide +kernel)
    obtain ⟨⟨a, c, t⟩, hrow⟩ := aget_in hk
    have lk : valV (s.rows.map (kk rowV)) (Sum.inr k) = some (.ref a) := by rw [kk_val, hrow]; rfl
    have hst : ¬ k = nm → stateP s.pl nm k = if s.time - t < 6 then Str.ofString "alive" else if s.time - t < 15 then Str.ofString "suspect" else Str.ofString "dead" := fun h => by
      unfold stateP
      rw [if_neg h, pl_get, hrow]
      rfl
    refine ⟨_, (pss_cons (ps_if (pt_cmp (pc_dnotin (hu_of hr) (pv 1) (pe_fld (pv 0) rfl)))
  pss_never
  pss_nil)
  (pss_cons (ps_if (pt_cmpR op_eq (pv 1) (pe_fld (pv 0) rfl) (nomark _))
  (pss_one (ps_ret pe_str))
  pss_nil)
  (pss_cons (ps_set (i := 2) scState.nd rfl (Or.inl rfl) (pe_op op_sub (pe_fld (pv 0) rfl) (pe_ix ix_tup (pe_dget (hu_of hr) (pe_fld (pv 0) rfl) (pv 1) (fun _ _ => rfl)) pe_int (fun _ _ => rfl))))
  (pss_one (ps_ret (pe_ifExp (pt_cmpR op_lt (pv 2) (C8.pe_gc (by rfl) T.g_SUSPECT) (nomark _)) pe_str (pe_ifExp (pt_cmpR op_lt (pv 2) (C8.pe_gc (by rfl) T.g_DEAD) (nomark _)) pe_str pe_str))))))), ?_⟩
    dsimp only [VL] at hL
    fail "go"
    refine k_dinS hL (by fail "ix") ?_
    rw [lk]
    fail "go"
    refine ite_d (fun h1 => ?_) (fun h1 => ?_)
    · fail "go"
      have e : stateP s.pl nm k = "alive" := by unfold stateP; rw [if_pos (V.str.inj h1)]
      rw [e] at q
      exact q _ hL
    · have hst := hst fun e => h1 (by rw [e])
      fail "go"
      refine k_ixT hL (at_mem (.tail _ (.tail _ (.tail _ (List.mem_append_left _ (row_mem hrow)))))) rfl ?_
      fail "go"
      refine ite_d (fun h2 => ?_) (fun h2 => ?_)
      · fail "go"
        rw [hst, if_pos h2] at q
        exact q _ hL
      · fail "go"
        rw [hst, if_neg h2] at q
        refine ite_d (fun h3 => ?_) (fun h3 => ?_)
        · fail "go"
          rw [if_pos h3] at q
          exact q _ hL
        · fail "go"
          rw [if_neg h3] at q
          exact q _ hL
end
end Sd


namespace Sd
open PySem L2
open C8 (Cal Met Mak pe_c pe_mk pe_mt pe_mt0 pss_cut tCut)
set_option linter.unusedSimpArgs false
set_option pp.deepTerms false
set_option pp.deepTerms.threshold 12
set_option hygiene false
local macro_rules | `(tactic| fail "nd") => `(tactic| first | assumption | decide +kernel)
local macro_rules | `(tactic| fail "ix") => `(tactic| first | exact ⟨0, rfl⟩ | exact ⟨1, rfl⟩ | exact ⟨2, rfl⟩ | exact ⟨3, rfl⟩ | exact ⟨4, rfl⟩ | exact ⟨5, rfl⟩ | exact ⟨6, rfl⟩ | exact ⟨7, rfl⟩ | exact ⟨8, rfl⟩ | exact ⟨9, rfl⟩ | exact ⟨10, rfl⟩ | exact ⟨11, rfl⟩ | exact ⟨12, rfl⟩ | exact ⟨13, rfl⟩ | exact ⟨14, rfl⟩ | exact ⟨15, rfl⟩ | exact ⟨16, rfl⟩ | exact ⟨17, rfl⟩ | exact ⟨18, rfl⟩ | assumption)
local macro_rules | `(tactic| fail "up") => `(tactic| first | exact ⟨0, rfl, rfl⟩ | exact ⟨1, rfl, rfl⟩ | exact ⟨2, rfl, rfl⟩ | exact ⟨3, rfl, rfl⟩ | exact ⟨4, rfl, rfl⟩ | exact ⟨5, rfl, rfl⟩ | exact ⟨6, rfl, rfl⟩ | exact ⟨7, rfl, rfl⟩ | exact ⟨8, rfl, rfl⟩ | exact ⟨9, rfl, rfl⟩ | exact ⟨10, rfl, rfl⟩ | exact ⟨11, rfl, rfl⟩ | exact ⟨12, rfl, rfl⟩ | exact ⟨13, rfl, rfl⟩ | exact ⟨14, rfl, rfl⟩ | exact ⟨15, rfl, rfl⟩ | exact ⟨16, rfl, rfl⟩ | assumption)
local macro_rules | `(tactic| fail "lkF") => `(tactic| first | assumption | exact fz_at 0 (by fail "nd") rfl rfl | exact fz_at 1 (by fail "nd") rfl rfl | exact fz_at 2 (by fail "nd") rfl rfl | exact fz_at 3 (by fail "nd") rfl rfl | exact fz_at 4 (by fail "nd") rfl rfl | exact fz_at 5 (by fail "nd") rfl rfl | exact fz_at 6 (by fail "nd") rfl rfl | exact fz_at 7 (by fail "nd") rfl rfl)
local macro_rules | `(tactic| fail "lkD") => `(tactic| first | assumption | exact dz_at 0 (by fail "nd") rfl rfl | exact dz_at 1 (by fail "nd") rfl rfl | exact dz_at 2 (by fail "nd") rfl rfl | exact dz_at 3 (by fail "nd") rfl rfl | exact dz_at 4 (by fail "nd") rfl rfl)
local macro_rules | `(tactic| fail "ptF") => `(tactic| first | assumption | exact fz_put 0 (by fail "nd") rfl (Nat.le_of_ble_eq_true rfl) | exact fz_put 1 (by fail "nd") rfl (Nat.le_of_ble_eq_true rfl) | exact fz_put 2 (by fail "nd") rfl (Nat.le_of_ble_eq_true rfl) | exact fz_put 3 (by fail "nd") rfl (Nat.le_of_ble_eq_true rfl) | exact fz_put 4 (by fail "nd") rfl (Nat.le_of_ble_eq_true rfl) | exact fz_put 5 (by fail "nd") rfl (Nat.le_of_ble_eq_true rfl) | exact fz_put 6 (by fail "nd") rfl (Nat.le_of_ble_eq_true rfl) | exact fz_put 7 (by fail "nd") rfl (Nat.le_of_ble_eq_true rfl) | exact fz_new (by decide +kernel) rfl)
local macro_rules | `(tactic| fail "ptD") => `(tactic| first | assumption | exact dz_put 0 (by fail "nd") rfl (Nat.le_of_ble_eq_true rfl) | exact dz_put 1 (by fail "nd") rfl (Nat.le_of_ble_eq_true rfl) | exact dz_put 2 (by fail "nd") rfl (Nat.le_of_ble_eq_true rfl) | exact dz_put 3 (by fail "nd") rfl (Nat.le_of_ble_eq_true rfl) | exact dz_put 4 (by fail "nd") rfl (Nat.le_of_ble_eq_true rfl))
local macro_rules | `(tactic| fail "sz") => `(tactic| first | assumption | exact (Nat.le_of_ble_eq_true rfl) | omega | decide)
local macro_rules | `(tactic| fail "sd") => `(tactic| first | rfl | assumption | decide | omega | (dsimp only; first | decide | omega) | exact .inr ⟨by decide, by decide⟩ | exact .inl ⟨by decide, by decide⟩ | exact ⟨by omega, by omega⟩ | exact .inl ⟨by omega, by omega⟩ | exact .inr ⟨by omega, by omega⟩ | exact ⟨by omega, by omega, by omega⟩)
local macro_rules | `(tactic| fail "cl") => `(tactic| (clear hH; dsimp only [List.set, List.cons_append, List.nil_append, List.append] at hL))
local macro_rules | `(tactic| fail "gn") => `(tactic| (intro p hp; generalize hH : upd H p _ = H; replace hL := Led.newH hL hp hH; clear hH hp))
local macro_rules | `(tactic| fail "gup") => `(tactic| (generalize hH : upd H _ _ = H; replace hL := Led.upU hL (by fail "up") hH; fail "cl"))
local macro_rules | `(tactic| fail "gmk") => `(tactic| (intro x dx hx hd ne; generalize hH : upd (upd H dx _) x _ = H; replace hL := Led.made hL hx hd ne hH; clear hH hx hd ne))
local macro_rules | `(tactic| fail "v") => `(tactic| refine ⟨_, rfl, ?_⟩)
local macro_rules | `(tactic| fail "i2") => `(tactic| refine ⟨_, _, rfl, rfl, ?_⟩)
local macro_rules | `(tactic| fail "go1") => `(tactic| first
  | refine ⟨_, rfl, ?_⟩
  | refine ⟨_, _, rfl, rfl, ?_⟩
  | refine ⟨_, _, rfl, ?_⟩
  | refine iteT ?_
  | refine iteF ?_
  | refine k_fld hL (by fail "ix") (by assumption) (by assumption) (by fail "lkF") ?_
  | refine k_dgetS hL (by fail "ix") (by fail "lkD") ?_
  | refine k_dgetI hL (by fail "ix") (by assumption) ?_
  | refine k_ixL hL (by fail "ix") (by first | rfl | assumption) ?_
  | refine k_ixT hL (by fail "ix") (by first | rfl | assumption) ?_
  | refine k_tyL hL (by fail "ix") ?_
  | refine k_isd hL (by fail "ix") ?_
  | (refine And.intro (by fail "sz") ?_; fail "gn")
  | refine And.intro (by fail "sd") ?_
  | fail "gn"
  | refine k_meth hL (by fail "ix") (by first | assumption | exact fz_no (by decide +kernel)) ?_
  | refine k_gtup hL (by fail "ix") rfl ?_
  | (refine k_popI hL (by fail "ix") (by assumption) ?_; fail "gup")
  | (refine k_listD hL (by fail "ix") ?_; fail "gn")
  | (refine ⟨_, _, _, _, rfl, rfl, hL.at (by fail "ix"), rfl, ?_⟩; fail "gup")
  | (refine ⟨_, _, _, rfl, rfl, hL.at (by fail "ix"), (by fail "sz"), ?_⟩; fail "gup")
  | (refine ⟨_, _, _, _, rfl, hL.at (by fail "ix"), by assumption, by assumption, Nat.lt_of_le_of_lt fz_len (by decide), ?_⟩; generalize hH : upd H _ _ = H; replace hL := Led.upF hL (by fail "up") (by fail "ptF") hH; fail "cl")
  | (refine ⟨_, _, hL.at (by fail "ix"), Nat.lt_of_le_of_lt fz_len (by decide), ?_⟩; generalize hH : upd H _ _ = H; replace hL := Led.upF hL (by fail "up") (by fail "ptF") hH; fail "cl")
  | (refine k_dputS hL (by fail "ix") (Nat.lt_of_le_of_lt dz_len (by decide)) (by fail "ptD") (by fail "up") ?_; clear hL; intro H hL; dsimp only [List.set, List.cons_append, List.nil_append, List.append] at hL)
  | refine k_lenL2 hL (by fail "ix") ?_
  | refine k_lenT2 hL (by fail "ix") ?_
  | refine .inl ⟨_, rfl, ?_⟩
  | refine .inr ⟨_, rfl, ?_⟩)
local macro_rules | `(tactic| fail "go") => `(tactic| repeat fail "go1")
local macro_rules | `(tactic| fail "pm") => `(tactic| (refine Led.le hL (fun a_ => ?_); simp only [cnt_nil, cnt_cons, cnt_app, List.map_append, List.map_cons, List.map_nil, List.flatMap_append, List.flatMap_cons, List.flatMap_nil, List.append_assoc, List.cons_append, List.nil_append]; omega))

/-- the names in a state: of the sorted ones -/
def inState (p : Pl) (mine st : Str) (ys : List Str) : List Str := ys.filter fun k => decide (stateP p mine k = st)
def spNamesIn (CV : Addr) : Sp := fun vs H Q _ => ∃ (v dv rd gd : Addr) (nm st : Str) (s : VS) (R : Lg), vs = [.ref v, .str st] ∧ Led H (VL CV v dv rd gd nm s ++ R) ∧ VOk s ∧
  ∀ (ys : List Str) (p : Addr) (H' : Hp), ys.Perm (s.rows.map (·.1)) → PyProof.Rows.sortedS ys = true → Led H' ((p, .lst ((inState s.pl nm st ys).map .str)) :: (VL CV v dv rd gd nm s ++ R)) → Q (.ref p) H'
section
variable {P : Program} {w : World} {K : PySem.W.Frag} {mg : Str → Option Value} {base : Heap} {CV : Addr}
theorem scNamesIn : FnScope ["self", "state", "name"] ["self", "state"] (defScope sNamesIn) := ⟨rfl, rfl, rfl, by decide +kernel, rfl, by decide +kernel, by decide +kernel⟩
theorem ok_namesIn {f : Addr} {fd : FuncData} (F : Fun K "names_in" "View.names_in" sNamesIn f fd) (X : TxtC K mg CV) (T : TxtS mg) (c_View_state_of : Met P w K mg base 1 CV "state_of" (spState CV) []) : FnOk P w K mg base CX0 2 f fd ["self", "state"] (spNamesIn CV) := by
  refine F.ok scNamesIn (fun vs H Q E h => ?_) (fun cdv A outer s H vs Q E hr h => ?_)
  · obtain ⟨v, dv, rd, gd, nm, st, s, R, rfl, _⟩ := h
    rfl
  · obtain ⟨v, dv, rd, gd, nm, st, s, R, rfl, hL, ok, k⟩ := h
    have c1 := X.cl
    have f3 := X.n "rows" (by decide +kernel)
    refine ⟨_, (pss_one (ps_ret (pe_lc (own := [("name", 2)]) (g := gName 2) (by rfl) scNamesIn.nd (pi_list (pe_callB (call_sortedD rfl) (by rfl) T.sorted (by decide +kernel) (pa_cons (pe_fld (pv 0) rfl) pa_nil))) (blkOk_by (own := [("name", 2)]) (N := ["self", "state", "name"]) (sc := (defScope sNamesIn)) (by decide +kernel)) (fun _ _ _ _ _ => (pg_name (i := 2) scNamesIn.nd rfl (Or.inl rfl))) (fun _ _ _ _ _ => (pts_one (pt_cmpR op_eq (pe_mt c_View_state_of hr (by decide) (pv 0) (pa_cons (pv 2) pa_nil)) (pv 1) (nomark _)))) (fun _ _ _ _ _ => (pv 2))))), ?_⟩
    dsimp only [VL] at hL
    fail "go"
    refine ⟨_, _, s.rows.map (·.1), rfl, .inl (hL.at (by fail "ix")), kk_names, by rw [List.length_map]; exact Nat.lt_trans ok.sz (by decide), fun ys p hp hs hf => ?_⟩
    generalize hH : upd H p _ = H
    replace hL := Led.newH hL hf hH
    clear hH hf
    have hyl : ys.length < 60 := by
      have := hp.length_eq
      rw [List.length_map] at this
      rw [this]; exact ok.sz
    refine ⟨_, rfl, ⟨_, .of (hL.at ⟨0, rfl⟩)⟩, fun D hD => lc_list (K := K) (a := p) (xs := ys.map V.str) (fun i H => Hold (Led H ((D, .lst ((inState s.pl nm st (ys.take i)).map .str)) :: (p, .lst (ys.map V.str)) :: (VL CV v dv rd gd nm s ++ R)))) (.mk (hL.new hD)) (fun i H _ h => ?_) (fun i x H hi h => ?_) (fun H h => ?_)⟩
    · exact .of (h.out.at ⟨1, rfl⟩)
    · have hL := h.out
      clear h
      rw [List.getElem?_map] at hi
      obtain ⟨y, hy, rfl⟩ := Option.map_eq_some_iff.mp hi
      have hm : y ∈ s.rows.map (·.1) := hp.mem_iff.mp (List.mem_of_getElem? hy)
      have e1 : inState s.pl nm st (ys.take (i + 1)) = inState s.pl nm st (ys.take i) ++ (if stateP s.pl nm y = st then [y] else []) := by
        unfold inState
        rw [List.take_add_one, hy, List.filter_append]
        by_cases h : stateP s.pl nm y = st <;> simp [h]
      have hS := Led.swap (A := [_, _]) (B := VL CV v dv rd gd nm s) (C := R) hL
      refine ⟨rfl, ?_⟩
      fail "go"
      refine ⟨v, dv, rd, gd, nm, y, s, _, rfl, hS, hm, fun H hS => ?_⟩
      replace hL := Led.swap (A := VL CV v dv rd gd nm s) (B := [_, _]) (C := R) hS
      fail "go"
      refine ite_d (fun h1 => ?_) (fun h1 => ?_)
      · have h1 := V.str.inj h1
        refine ⟨_, rfl, _, hL.at ⟨0, rfl⟩, ?_, ?_⟩
        · rw [List.length_map]
          have h2 : (inState s.pl nm st (ys.take i)).length ≤ (ys.take i).length := List.length_filter_le _ _
          rw [List.length_take] at h2
          have h3 : 60 ≤ sizeLine := by decide
          omega
        · rw [e1, if_pos h1, List.map_append]
          exact .mk (hL.set 0 rfl)
      · have h1 : ¬ stateP s.pl nm y = st := fun e => h1 (by rw [e])
        rw [e1, if_neg h1, List.append_nil]
        exact .mk hL
    · have hL := h.out
      refine k ys D _ hp hs (hL.sub ?_)
      rw [List.length_map, List.take_length]
      exact .cons_cons _ (List.sublist_cons_self _ _)
end
end Sd


namespace Sd
open PySem L2
open C8 (Cal Met Mak pe_c pe_mk pe_mt pe_mt0 pss_cut tCut)
set_option linter.unusedSimpArgs false
set_option pp.deepTerms false
set_option pp.deepTerms.threshold 12
set_option hygiene false
local macro_rules | `(tactic| fail "nd") => `(tactic| first | assumption | decide +kernel)
local macro_rules | `(tactic| fail "ix") => `(tactic| first | exact ⟨0, rfl⟩ | exact ⟨1, rfl⟩ | exact ⟨2, rfl⟩ | exact ⟨3, rfl⟩ | exact ⟨4, rfl⟩ | exact ⟨5, rfl⟩ | exact ⟨6, rfl⟩ | exact ⟨7, rfl⟩ | exact ⟨8, rfl⟩ | exact ⟨9, rfl⟩ | exact ⟨10, rfl⟩ | exact ⟨11, rfl⟩ | exact ⟨12, rfl⟩ | exact ⟨13, rfl⟩ | exact ⟨14, rfl⟩ | exact ⟨15, rfl⟩ | exact ⟨16, rfl⟩ | exact ⟨17, rfl⟩ | exact ⟨18, rfl⟩ | assumption)
local macro_rules | `(tactic| fail "up") => `(tactic| first | exact ⟨0, rfl, rfl⟩ | exact ⟨1, rfl, rfl⟩ | exact ⟨2, rfl, rfl⟩ | exact ⟨3, rfl, rfl⟩ | exact ⟨4, rfl, rfl⟩ | exact ⟨5, rfl, rfl⟩ | exact ⟨6, rfl, rfl⟩ | exact ⟨7, rfl, rfl⟩ | exact ⟨8, rfl, rfl⟩ | exact ⟨9, rfl, rfl⟩ | exact ⟨10, rfl, rfl⟩ | exact ⟨11, rfl, rfl⟩ | exact ⟨12, rfl, rfl⟩ | exact ⟨13, rfl, rfl⟩ | exact ⟨14, rfl, rfl⟩ | exact ⟨15, rfl, rfl⟩ | exact ⟨16, rfl, rfl⟩ | assumption)
local macro_rules | `(tactic| fail "lkF") => `(tactic| first | assumption | exact fz_at 0 (by fail "nd") rfl rfl | exact fz_at 1 (by fail "nd") rfl rfl | exact fz_at 2 (by fail "nd") rfl rfl | exact fz_at 3 (by fail "nd") rfl rfl | exact fz_at 4 (by fail "nd") rfl rfl | exact fz_at 5 (by fail "nd") rfl rfl | exact fz_at 6 (by fail "nd") rfl rfl | exact fz_at 7 (by fail "nd") rfl rfl)
local macro_rules | `(tactic| fail "lkD") => `(tactic| first | assumption | exact dz_at 0 (by fail "nd") rfl rfl | exact dz_at 1 (by fail "nd") rfl rfl | exact dz_at 2 (by fail "nd") rfl rfl | exact dz_at 3 (by fail "nd") rfl rfl | exact dz_at 4 (by fail "nd") rfl rfl)
local macro_rules | `(tactic| fail "ptF") => `(tactic| first | assumption | exact fz_put 0 (by fail "nd") rfl (Nat.le_of_ble_eq_true rfl) | exact fz_put 1 (by fail "nd") rfl (Nat.le_of_ble_eq_true rfl) | exact fz_put 2 (by fail "nd") rfl (Nat.le_of_ble_eq_true rfl) | exact fz_put 3 (by fail "nd") rfl (Nat.le_of_ble_eq_true rfl) | exact fz_put 4 (by fail "nd") rfl (Nat.le_of_ble_eq_true rfl) | exact fz_put 5 (by fail "nd") rfl (Nat.le_of_ble_eq_true rfl) | exact fz_put 6 (by fail "nd") rfl (Nat.le_of_ble_eq_true rfl) | exact fz_put 7 (by fail "nd") rfl (Nat.le_of_ble_eq_true rfl) | exact fz_new (by decide +kernel) rfl)
local macro_rules | `(tactic| fail "ptD") => `(tactic| first | assumption | exact dz_put 0 (by fail "nd") rfl (Nat.le_of_ble_eq_true rfl) | exact dz_put 1 (by fail "nd") rfl (Nat.le_of_ble_eq_true rfl) | exact dz_put 2 (by fail "nd") rfl (Nat.le_of_ble_eq_true rfl) | exact dz_put 3 (by fail "nd") rfl (Nat.le_of_ble_eq_true rfl) | exact dz_put 4 (by fail "nd") rfl (Nat.le_of_ble_eq_true rfl))
local macro_rules | `(tactic| fail "sz") => `(tactic| first | assumption | exact (Nat.le_of_ble_eq_true rfl) | omega | decide)
local macro_rules | `(tactic| fail "sd") => `(tactic| first | rfl | assumption | decide | omega | (dsimp only; first | decide | omega) | exact .inr ⟨by decide, by decide⟩ | exact .inl ⟨by decide, by decide⟩ | exact ⟨by omega, by omega⟩ | exact .inl ⟨by omega, by omega⟩ | exact .inr ⟨by omega, by omega⟩ | exact ⟨by omega, by omega, by omega⟩)
local macro_rules | `(tactic| fail "cl") => `(tactic| (clear hH; dsimp only [List.set, List.cons_append, List.nil_append, List.append] at hL))
local macro_rules | `(tactic| fail "gn") => `(tactic| (intro p hp; generalize hH : upd H p _ = H; replace hL := Led.newH hL hp hH; clear hH hp))
local macro_rules | `(tactic| fail "gup") => `(tactic| (generalize hH : upd H _ _ = H; replace hL := Led.upU hL (by fail "up") hH; fail "cl"))
local macro_rules | `(tactic| fail "gmk") => `(tactic| (intro x dx hx hd ne; generalize hH : upd (upd H dx _) x _ = H; replace hL := Led.made hL hx hd ne hH; clear hH hx hd ne))
local macro_rules | `(tactic| fail "v") => `(tactic| refine ⟨_, rfl, ?_⟩)
local macro_rules | `(tactic| fail "i2") => `(tactic| refine ⟨_, _, rfl, rfl, ?_⟩)
local macro_rules | `(tactic| fail "go1") => `(tactic| first
  | refine ⟨_, rfl, ?_⟩
  | refine ⟨_, _, rfl, rfl, ?_⟩
  | refine ⟨_, _, rfl, ?_⟩
  | refine iteT ?_
  | refine iteF ?_
  | refine k_fld hL (by fail "ix") (by assumption) (by assumption) (by fail "lkF") ?_
  | refine k_dgetS hL (by fail "ix") (by fail "lkD") ?_
  | refine k_dgetI hL (by fail "ix") (by assumption) ?_
  | refine k_ixL hL (by fail "ix") (by first | rfl | assumption) ?_
  | refine k_ixT hL (by fail "ix") (by first | rfl | assumption) ?_
  | refine k_tyL hL (by fail "ix") ?_
  | refine k_isd hL (by fail "ix") ?_
  | (refine And.intro (by fail "sz") ?_; fail "gn")
  | refine And.intro (by fail "sd") ?_
  | fail "gn"
  | refine k_meth hL (by fail "ix") (by first | assumption | exact fz_no (by decide +kernel)) ?_
  | refine k_gtup hL (by fail "ix") rfl ?_
  | (refine k_popI hL (by fail "ix") (by assumption) ?_; fail "gup")
  | (refine k_listD hL (by fail "ix") ?_; fail "gn")
  | (refine ⟨_, _, _, _, rfl, rfl, hL.at (by fail "ix"), rfl, ?_⟩; fail "gup")
  | (refine ⟨_, _, _, rfl, rfl, hL.at (by fail "ix"), (by fail "sz"), ?_⟩; fail "gup")
  | (refine ⟨_, _, _, _, rfl, hL.at (by fail "ix"), by assumption, by assumption, Nat.lt_of_le_of_lt fz_len (by decide), ?_⟩; generalize hH : upd H _ _ = H; replace hL := Led.upF hL (by fail "up") (by fail "ptF") hH; fail "cl")
  | (refine ⟨_, _, hL.at (by fail "ix"), Nat.lt_of_le_of_lt fz_len (by decide), ?_⟩; generalize hH : upd H _ _ = H; replace hL := Led.upF hL (by fail "up") (by fail "ptF") hH; fail "cl")
  | (refine k_dputS hL (by fail "ix") (Nat.lt_of_le_of_lt dz_len (by decide)) (by fail "ptD") (by fail "up") ?_; clear hL; intro H hL; dsimp only [List.set, List.cons_append, List.nil_append, List.append] at hL)
  | refine k_lenL2 hL (by fail "ix") ?_
  | refine k_lenT2 hL (by fail "ix") ?_
  | refine .inl ⟨_, rfl, ?_⟩
  | refine .inr ⟨_, rfl, ?_⟩)
local macro_rules | `(tactic| fail "go") => `(tactic| repeat fail "go1")
local macro_rules | `(tactic| fail "pm") => `(tactic| (refine Led.le hL (fun a_ => ?_); simp only [cnt_nil, cnt_cons, cnt_app, List.map_append, List.map_cons, List.map_nil, List.flatMap_append, List.flatMap_cons, List.flatMap_nil, List.append_assoc, List.cons_append, List.nil_append]; omega))

/-- the names ks moved from the rows to the gone -/
def forget1 (p : Pl) (k : Str) : Pl := { p with rows := adel p.rows k, gone := aput p.gone k (match aget p.rows k with | some (c, _) => c | none => 0) }
theorem adel_mem {α : Type} {k j : Str} : ∀ {l : List (Str × α)}, j ∈ l.map (·.1) → j ≠ k → j ∈ (adel l k).map (·.1)
  | x :: r, h, ne => by
    by_cases e : x.1 = k
    · rw [adel, if_pos e]
      rcases List.mem_cons.mp h with z | z
      · exact absurd (z.trans e) ne
      · exact z
    · rw [adel, if_neg e]
      rcases List.mem_cons.mp h with z | z
      · rw [z]; exact List.mem_cons_self
      · exact List.mem_cons_of_mem _ (adel_mem z ne)
def spForget (CV : Addr) : Sp := fun vs H Q _ => ∃ (v dv rd gd : Addr) (nm : Str) (s : VS) (U : List Str) (R : Lg), vs = [.ref v] ∧ Led H (VL CV v dv rd gd nm s ++ R) ∧ HOk2 U s ∧ U.length < 60 ∧
  ∀ (ys : List Str) (s' : VS) (p : Addr) (H' : Hp), ys.Perm (s.rows.map (·.1)) → PyProof.Rows.sortedS ys = true → s'.pl = (inState s.pl nm "dead" ys).foldl forget1 s.pl → HOk2 U s' →
    Led H' ((p, .lst ((inState s.pl nm "dead" ys).map .str)) :: (VL CV v dv rd gd nm s' ++ R)) → Q (.ref p) H'
section
variable {P : Program} {w : World} {K : PySem.W.Frag} {mg : Str → Option Value} {base : Heap} {CV : Addr}
theorem scForget : FnScope ["self", "gone", "name"] ["self"] (defScope sForget) := ⟨rfl, rfl, rfl, by decide +kernel, rfl, by decide +kernel, by decide +kernel⟩
theorem ok_forget {f : Addr} {fd : FuncData} (F : Fun K "forget_dead" "View.forget_dead" sForget f fd) (X : TxtC K mg CV) (c_View_names_in : Met P w K mg base 2 CV "names_in" (spNamesIn CV) []) : FnOk P w K mg base CX0 3 f fd ["self"] (spForget CV) := by
  refine F.ok scForget (fun vs H Q E h => ?_) (fun cdv A outer s H vs Q E hr h => ?_)
  · obtain ⟨v, dv, rd, gd, nm, s, U, R, rfl, _⟩ := h
    rfl
  · obtain ⟨v, dv, rd, gd, nm, s, U, R, rfl, hL, ok, hU, k⟩ := h
    have c1 := X.cl
    have f3 := X.n "rows" (by decide +kernel)
    have f4 := X.n "gone" (by decide +kernel)
    refine ⟨_, (pss_cons (ps_set (i := 1) scForget.nd rfl (Or.inl rfl) (pe_mt c_View_names_in hr (by decide) (pv 0) (pa_cons pe_str pa_nil)))
  (pss_cons (ps_for PassesOwn.never rfl (pi_list (pv 1)) (pg_name (i := 2) scForget.nd rfl (Or.inl rfl))
  (pss_one (ps_dput (hu_of hr) (pe_fld (pv 0) rfl) (pv 2) (pe_ix ix_tup (pe_dpop1 (pe_fld (pv 0) rfl) (pv 2) ⟨rfl, rfl, rfl, rfl⟩) pe_int (fun _ _ => rfl)) rfl)))
  (pss_one (ps_ret (pv 1))))), ?_⟩
    fail "go"
    refine ⟨v, dv, rd, gd, nm, "dead", s, R, rfl, hL, ok.ok hU, fun ys p H hp hs hL => ?_⟩
    fail "go"
    generalize hgs : inState s.pl nm "dead" ys = gs at hL
    have gnd : gs.Nodup := by
      rw [← hgs]
      exact (hp.nodup_iff.mpr ok.nd).sublist List.filter_sublist
    have gin : ∀ k ∈ gs, k ∈ s.rows.map (·.1) := fun k hk => by
      rw [← hgs] at hk
      exact hp.mem_iff.mp ((List.mem_filter.mp hk).1)
    refine ⟨⟨_, .of (hL.at ⟨0, rfl⟩)⟩, for_list (K := K) (a := p) (xs := gs.map V.str) (fun i σ H => Hold (∃ (s' : VS) (v2 : Option V), σ = [some (.ref v), some (.ref p), v2] ∧ s'.pl = (gs.take i).foldl forget1 s.pl ∧ HOk2 U s' ∧ (∀ k ∈ gs.drop i, k ∈ s'.rows.map (·.1)) ∧
      Led H ((p, .lst (gs.map V.str)) :: (VL CV v dv rd gd nm s' ++ R)))) (.mk ⟨s, none, rfl, rfl, ok, fun k hk => gin k hk, hL⟩) (fun i σ H _ h => ?_) (fun i x σ H hi h => ?_) (fun σ H h => ?_)⟩
    · obtain ⟨s', v2, rfl, e, o2, hd, hL⟩ := h.out
      exact .of (hL.at ⟨0, rfl⟩)
    · obtain ⟨s', v2, rfl, e, o2, hd, hL⟩ := h.out
      clear h
      rw [List.getElem?_map] at hi
      obtain ⟨y, hy, rfl⟩ := Option.map_eq_some_iff.mp hi
      obtain ⟨hil, hyi⟩ := List.getElem?_eq_some_iff.mp hy
      have hdr : gs.drop i = y :: gs.drop (i + 1) := by rw [← hyi]; exact List.drop_eq_getElem_cons hil
      rw [hdr] at hd
      obtain ⟨⟨a, c, t⟩, hrow⟩ := aget_in (hd y List.mem_cons_self)
      have lk : valV (s'.rows.map (kk rowV)) (Sum.inr y) = some (.ref a) := by rw [kk_val, hrow]; rfl
      have hgz := (o2.ok hU).gz
      dsimp only [VL] at hL
      fail "go"
      refine ⟨_, .inr y, _, hL.at (by fail "ix"), rfl, lk, ?_⟩
      rw [kk_drop o2.nd]
      fail "gup"
      refine k_ixT hL (at_mem (.tail _ (.tail _ (.tail _ (.tail _ (List.mem_append_left _ (row_mem hrow))))))) rfl ?_
      fail "go"
      refine k_dputS hL (by fail "ix") (by rw [List.length_map]; exact Nat.lt_of_lt_of_le hgz (by decide)) (kk_put (vo := goneV) (v := c) o2.gd) (by fail "up") fun H hL => ?_
      dsimp only [List.set, List.cons_append, List.nil_append, List.append] at hL
      refine .mk ⟨⟨s'.time, adel s'.rows y, aput s'.gone y c⟩, _, rfl, ?_, ⟨o2.nd.sublist adel_names, aput_nd o2.gd, fun j hj => o2.u1 j (adel_names.subset hj), fun j hj => (aput_mem hj).elim (fun e => by rw [e]; exact o2.u1 y (hd y List.mem_cons_self)) (o2.u2 j)⟩, fun j hj => ?_,
        Led.rdel (A := [_, _, _, _]) (k := y) (l := s'.rows) hL⟩
      · rw [List.take_add_one, hy, List.foldl_append, ← e]
        show _ = forget1 s'.pl y
        unfold forget1
        rw [pl_get, hrow]
        unfold VS.pl
        dsimp only [Option.map]
        rw [adel_map (f := fun x : Addr × Int × Int => x.2)]
      · refine adel_mem (hd j (.tail _ hj)) fun e => ?_
        have h2 : (y :: gs.drop (i + 1)).Nodup := by rw [← hdr]; exact gnd.sublist (List.drop_sublist _ _)
        exact (List.nodup_cons.mp h2).1 (by rw [← e]; exact hj)
    · obtain ⟨s', v2, rfl, e, o2, hd, hL⟩ := h.out
      refine ⟨_, rfl, ?_⟩
      rw [List.length_map, List.take_length] at e
      rw [← hgs] at e hL
      exact k ys s' p _ hp hs e o2 hL
end
end Sd


namespace Sd
open PySem L2
open C8 (Cal Met Mak pe_c pe_mk pe_mt pe_mt0 pss_cut tCut)
set_option linter.unusedSimpArgs false
set_option pp.deepTerms false
set_option pp.deepTerms.threshold 12
set_option hygiene false
local macro_rules | `(tactic| fail "nd") => `(tactic| first | assumption | decide +kernel)
local macro_rules | `(tactic| fail "ix") => `(tactic| first | exact ⟨0, rfl⟩ | exact ⟨1, rfl⟩ | exact ⟨2, rfl⟩ | exact ⟨3, rfl⟩ | exact ⟨4, rfl⟩ | exact ⟨5, rfl⟩ | exact ⟨6, rfl⟩ | exact ⟨7, rfl⟩ | exact ⟨8, rfl⟩ | exact ⟨9, rfl⟩ | exact ⟨10, rfl⟩ | exact ⟨11, rfl⟩ | exact ⟨12, rfl⟩ | exact ⟨13, rfl⟩ | exact ⟨14, rfl⟩ | exact ⟨15, rfl⟩ | exact ⟨16, rfl⟩ | exact ⟨17, rfl⟩ | exact ⟨18, rfl⟩ | assumption)
local macro_rules | `(tactic| fail "up") => `(tactic| first | exact ⟨0, rfl, rfl⟩ | exact ⟨1, rfl, rfl⟩ | exact ⟨2, rfl, rfl⟩ | exact ⟨3, rfl, rfl⟩ | exact ⟨4, rfl, rfl⟩ | exact ⟨5, rfl, rfl⟩ | exact ⟨6, rfl, rfl⟩ | exact ⟨7, rfl, rfl⟩ | exact ⟨8, rfl, rfl⟩ | exact ⟨9, rfl, rfl⟩ | exact ⟨10, rfl, rfl⟩ | exact ⟨11, rfl, rfl⟩ | exact ⟨12, rfl, rfl⟩ | exact ⟨13, rfl, rfl⟩ | exact ⟨14, rfl, rfl⟩ | exact ⟨15, rfl, rfl⟩ | exact ⟨16, rfl, rfl⟩ | assumption)
local macro_rules | `(tactic| fail "lkF") => `(tactic| first | assumption | exact fz_at 0 (by fail "nd") rfl rfl | exact fz_at 1 (by fail "nd") rfl rfl | exact fz_at 2 (by fail "nd") rfl rfl | exact fz_at 3 (by fail "nd") rfl rfl | exact fz_at 4 (by fail "nd") rfl rfl | exact fz_at 5 (by fail "nd") rfl rfl | exact fz_at 6 (by fail "nd") rfl rfl | exact fz_at 7 (by fail "nd") rfl rfl)
local macro_rules | `(tactic| fail "lkD") => `(tactic| first | assumption | exact dz_at 0 (by fail "nd") rfl rfl | exact dz_at 1 (by fail "nd") rfl rfl | exact dz_at 2 (by fail "nd") rfl rfl | exact dz_at 3 (by fail "nd") rfl rfl | exact dz_at 4 (by fail "nd") rfl rfl)
local macro_rules | `(tactic| fail "ptF") => `(tactic| first | assumption | exact fz_put 0 (by fail "nd") rfl (Nat.le_of_ble_eq_true rfl) | exact fz_put 1 (by fail "nd") rfl (Nat.le_of_ble_eq_true rfl) | exact fz_put 2 (by fail "nd") rfl (Nat.le_of_ble_eq_true rfl) | exact fz_put 3 (by fail "nd") rfl (Nat.le_of_ble_eq_true rfl) | exact fz_put 4 (by fail "nd") rfl (Nat.le_of_ble_eq_true rfl) | exact fz_put 5 (by fail "nd") rfl (Nat.le_of_ble_eq_true rfl) | exact fz_put 6 (by fail "nd") rfl (Nat.le_of_ble_eq_true rfl) | exact fz_put 7 (by fail "nd") rfl (Nat.le_of_ble_eq_true rfl) | exact fz_new (by decide +kernel) rfl)
local macro_rules | `(tactic| fail "ptD") => `(tactic| first | assumption | exact dz_put 0 (by fail "nd") rfl (Nat.le_of_ble_eq_true rfl) | exact dz_put 1 (by fail "nd") rfl (Nat.le_of_ble_eq_true rfl) | exact dz_put 2 (by fail "nd") rfl (Nat.le_of_ble_eq_true rfl) | exact dz_put 3 (by fail "nd") rfl (Nat.le_of_ble_eq_true rfl) | exact dz_put 4 (by fail "nd") rfl (Nat.le_of_ble_eq_true rfl))
local macro_rules | `(tactic| fail "sz") => `(tactic| first | assumption | exact (Nat.le_of_ble_eq_true rfl) | omega | decide)
local macro_rules | `(tactic| fail "sd") => `(tactic| first | rfl | assumption | decide | omega | (dsimp only; first | decide | omega) | exact .inr ⟨by decide, by decide⟩ | exact .inl ⟨by decide, by decide⟩ | exact ⟨by omega, by omega⟩ | exact .inl ⟨by omega, by omega⟩ | exact .inr ⟨by omega, by omega⟩ | exact ⟨by omega, by omega, by omega⟩)
local macro_rules | `(tactic| fail "cl") => `(tactic| (clear hH; dsimp only [List.set, List.cons_append, List.nil_append, List.append] at hL))
local macro_rules | `(tactic| fail "gn") => `(tactic| (intro p hp; generalize hH : upd H p _ = H; replace hL := Led.newH hL hp hH; clear hH hp))
local macro_rules | `(tactic| fail "gup") => `(tactic| (generalize hH : upd H _ _ = H; replace hL := Led.upU hL (by fail "up") hH; fail "cl"))
local macro_rules | `(tactic| fail "gmk") => `(tactic| (intro x dx hx hd ne; generalize hH : upd (upd H dx _) x _ = H; replace hL := Led.made hL hx hd ne hH; clear hH hx hd ne))
local macro_rules | `(tactic| fail "v") => `(tactic| refine ⟨_, rfl, ?_⟩)
local macro_rules | `(tactic| fail "i2") => `(tactic| refine ⟨_, _, rfl, rfl, ?_⟩)
local macro_rules | `(tactic| fail "go1") => `(tactic| first
  | refine ⟨_, rfl, ?_⟩
  | refine ⟨_, _, rfl, rfl, ?_⟩
  | refine ⟨_, _, rfl, ?_⟩
  | refine iteT ?_
  | refine iteF ?_
  | refine k_fld hL (by fail "ix") (by assumption) (by assumption) (by fail "lkF") ?_
  | refine k_dgetS hL (by fail "ix") (by fail "lkD") ?_
  | refine k_dgetI hL (by fail "ix") (by assumption) ?_
  | refine k_ixL hL (by fail "ix") (by first | rfl | assumption) ?_
  | refine k_ixT hL (by fail "ix") (by first | rfl | assumption) ?_
  | refine k_tyL hL (by fail "ix") ?_
  | refine k_isd hL (by fail "ix") ?_
  | (refine And.intro (by fail "sz") ?_; fail "gn")
  | refine And.intro (by fail "sd") ?_
  | fail "gn"
  | refine k_meth hL (by fail "ix") (by first | assumption | exact fz_no (by decide +kernel)) ?_
  | refine k_gtup hL (by fail "ix") rfl ?_
  | (refine k_popI hL (by fail "ix") (by assumption) ?_; fail "gup")
  | (refine k_listD hL (by fail "ix") ?_; fail "gn")
  | (refine ⟨_, _, _, _, rfl, rfl, hL.at (by fail "ix"), rfl, ?_⟩; fail "gup")
  | (refine ⟨_, _, _, rfl, rfl, hL.at (by fail "ix"), (by fail "sz"), ?_⟩; fail "gup")
  | (refine ⟨_, _, _, _, rfl, hL.at (by fail "ix"), by assumption, by assumption, Nat.lt_of_le_of_lt fz_len (by decide), ?_⟩; generalize hH : upd H _ _ = H; replace hL := Led.upF hL (by fail "up") (by fail "ptF") hH; fail "cl")
  | (refine ⟨_, _, hL.at (by fail "ix"), Nat.lt_of_le_of_lt fz_len (by decide), ?_⟩; generalize hH : upd H _ _ = H; replace hL := Led.upF hL (by fail "up") (by fail "ptF") hH; fail "cl")
  | (refine k_dputS hL (by fail "ix") (Nat.lt_of_le_of_lt dz_len (by decide)) (by fail "ptD") (by fail "up") ?_; clear hL; intro H hL; dsimp only [List.set, List.cons_append, List.nil_append, List.append] at hL)
  | refine k_lenL2 hL (by fail "ix") ?_
  | refine k_lenT2 hL (by fail "ix") ?_
  | refine .inl ⟨_, rfl, ?_⟩
  | refine .inr ⟨_, rfl, ?_⟩)
local macro_rules | `(tactic| fail "go") => `(tactic| repeat fail "go1")
local macro_rules | `(tactic| fail "pm") => `(tactic| (refine Led.le hL (fun a_ => ?_); simp only [cnt_nil, cnt_cons, cnt_app, List.map_append, List.map_cons, List.map_nil, List.flatMap_append, List.flatMap_cons, List.flatMap_nil, List.append_assoc, List.cons_append, List.nil_append]; omega))

def initP (ns : List Str) : Pl := ⟨0, ns.map fun n => (n, 0, 0), []⟩
theorem pl_names {s : VS} : s.pl.rows.map (·.1) = s.rows.map (·.1) := by
  show (s.rows.map fun x => (x.1, x.2.2)).map (·.1) = _
  rw [List.map_map]; rfl
def spVInit (CV : Addr) : Sp := fun vs H Q _ => ∃ (x dx na : Addr) (nm : Str) (ns : List Str) (R : Lg), vs = [.ref x, .str nm, .ref na] ∧ Led H ((x, .ins CV dx (fz [] [])) :: R) ∧ (na, .lst (ns.map .str)) ∈ R ∧ nm ∈ ns ∧ ns.Nodup ∧ ns.length < 60 ∧ PyProof.Rows.sortedS ns = true ∧
  ∀ (s : VS) (rd gd : Addr) (H' : Hp), s.pl = initP ns → Led H' (VL CV x dx rd gd nm s ++ R) → Q .non H'
def spVInitX (CE : Addr) : Sp := fun vs H _ E => ∃ (x na : Addr) (nm : Str) (ns : List Str), vs = [.ref x, .str nm, .ref na] ∧ H na = some (.lst (ns.map .str)) ∧ nm ∉ ns ∧ E (.ref CE) none H
def spStateX (CV CE : Addr) : Sp := fun vs H _ E => ∃ (v dv rd gd : Addr) (nm k : Str) (s : VS) (R : Lg), vs = [.ref v, .str k] ∧ Led H (VL CV v dv rd gd nm s ++ R) ∧ k ∉ s.rows.map (·.1) ∧ E (.ref CE) none H
section
variable {P : Program} {w : World} {K : PySem.W.Frag} {mg : Str → Option Value} {base : Heap} {CV CE : Addr}
theorem scVInit : FnScope ["self", "name", "names", "one"] ["self", "name", "names"] (defScope sVInit) := ⟨rfl, rfl, rfl, by decide +kernel, rfl, by decide +kernel, by decide +kernel⟩
theorem ok_VInit {f : Addr} {fd : FuncData} (F : Fun K "__init__" "View.__init__" sVInit f fd) (X : TxtC K mg CV) (T : TxtS mg) : FnOk P w K mg base CX0 1 f fd ["self", "name", "names"] (spVInit CV) := by
  refine F.ok scVInit (fun vs H Q E h => ?_) (fun cdv A outer s H vs Q E hr h => ?_)
  · obtain ⟨x, dx, na, nm, ns, R, rfl, _⟩ := h
    rfl
  · obtain ⟨x, dx, na, nm, ns, R, rfl, hL, hna, hnm, nd, hz, hs, k⟩ := h
    have c1 := X.cl
    have f1 := X.n "name" (by decide +kernel)
    have f2 := X.n "time" (by decide +kernel)
    have f3 := X.n "rows" (by decide +kernel)
    have f4 := X.n "gone" (by decide +kernel)
    refine ⟨_, (pss_cons (ps_if (pt_cmpR op_notIn_seq (pv 1) (pv 2) (by rfl))
  pss_never
  pss_nil)
  (pss_cons (ps_fld (pv 0) (pv 1) rfl)
  (pss_cons (ps_fld (pv 0) pe_int rfl)
  (pss_cons (ps_fld (pv 0) pe_dnewK rfl)
  (pss_cons (ps_fld (pv 0) pe_dnewK rfl)
  (pss_one (ps_for PassesOwn.never rfl (pi_list (pe_callB cr_sortedS (by rfl) T.sorted (by decide +kernel) (pa_cons (pv 2) pa_nil))) (pg_name (i := 3) scVInit.nd rfl (Or.inl rfl))
  (pss_one (ps_dput (hu_of hr) (pe_fld (pv 0) rfl) (pv 3) (pe_tup (pa_cons pe_int (pa_cons pe_int pa_nil))) rfl))))))))), ?_⟩
    fail "go"
    refine ⟨_, _, rfl, .inl (.of (hL.at (at_mem (.tail _ hna)))), rfl, flat_strs, _, rfl, ?_⟩
    rw [in_strs, decide_eq_true hnm]
    refine ite_f (by rfl) ?_
    fail "go"
    refine ⟨na, ns, rfl, .of (hL.at (at_mem (.tail _ (.tail _ (.tail _ hna))))), Nat.lt_trans hz (by decide), fun ys q hp hys hq => ?_⟩
    obtain rfl := sortedS_uniq hp hys hs
    generalize hH : upd H q _ = H
    replace hL := Led.newH hL hq hH
    clear hH hq hp hys
    replace hL : ∃ rd gd : Addr, Led H ((q, .lst (ys.map V.str)) :: (gd, HO.dK []) :: (rd, HO.dK []) :: (x, HO.ins CV dx (fz nmV [.str nm, .int 0, .ref rd, .ref gd])) :: R) := ⟨_, _, hL⟩
    obtain ⟨rd, gd, hL⟩ := hL
    refine ⟨_, rfl, ⟨_, .of (hL.at ⟨0, rfl⟩)⟩, for_list (K := K) (a := q) (xs := ys.map V.str) (fun i σ H => Hold (∃ (s' : VS) (rd gd : Addr) (v3 : Option V), σ = [some (.ref x), some (.str nm), some (.ref na), v3] ∧ s'.pl = ⟨0, (ys.take i).map fun n => (n, 0, 0), []⟩ ∧
      Led H ((q, .lst (ys.map V.str)) :: (VL CV x dx rd gd nm s' ++ R)))) (.mk ⟨⟨0, [], []⟩, rd, gd, none, rfl, rfl, ?_⟩) (fun i σ H _ h => ?_) (fun i y σ H hi h => ?_) (fun σ H h => ?_)⟩
    · dsimp only [VL, List.map_nil]
      fail "pm"
    · obtain ⟨s', rd, gd, v3, rfl, e, hL⟩ := h.out
      exact .of (hL.at ⟨0, rfl⟩)
    · obtain ⟨s', rd, gd, v3, rfl, e, hL⟩ := h.out
      clear h
      rw [List.getElem?_map] at hi
      obtain ⟨n, hn, rfl⟩ := Option.map_eq_some_iff.mp hi
      have hnm2 : s'.rows.map (·.1) = ys.take i := by
        rw [← pl_names, e]; simp [Function.comp_def]
      have hnin : n ∉ s'.rows.map (·.1) := by
        rw [hnm2]
        intro hm
        obtain ⟨hi', e'⟩ := List.getElem?_eq_some_iff.mp hn
        obtain ⟨j, hj, ej⟩ := List.getElem_of_mem hm
        rw [List.getElem_take] at ej
        rw [List.length_take] at hj
        have := (List.getElem_inj nd).mp (ej.trans e'.symm)
        omega
      have hsz : s'.rows.length < 60 := by
        have := congrArg List.length hnm2
        rw [List.length_map, List.length_take] at this
        omega
      dsimp only [VL] at hL
      fail "go"
      refine k_dputS hL (by fail "ix") (by rw [List.length_map]; exact Nat.lt_of_lt_of_le hsz (by decide)) (kk_put (vo := rowV) (v := (_, 0, 0)) (by rw [hnm2]; exact nd.sublist (List.take_sublist _ _))) (by fail "up") fun H hL => ?_
      dsimp only [List.set, List.cons_append, List.nil_append, List.append] at hL
      refine .mk ⟨⟨s'.time, aput s'.rows n (p, 0, 0), s'.gone⟩, rd, gd, _, rfl, ?_, ?_⟩
      · rw [pl_put, e]
        dsimp only
        rw [aput_names_out, List.take_add_one, hn, List.map_append]
        · rfl
        · rw [← pl_names, e] at hnin; exact hnin
      · dsimp only [VL]
        rw [aput_names_out hnin]
        rw [aput_names_out hnin] at hL
        (refine Led.le hL (fun a_ => ?_); simp only [cnt_nil, cnt_cons, cnt_app, List.map_append, List.map_cons, List.map_nil, List.flatMap_append, List.flatMap_cons, List.flatMap_nil, List.append_assoc, List.cons_append, List.nil_append, rowO]; omega)
    · obtain ⟨s', rd, gd, v3, rfl, e, hL⟩ := h.out
      refine k s' rd gd _ ?_ hL.tail
      rw [e, List.length_map, List.take_length]
      rfl
theorem ok_VInitX {f : Addr} {fd : FuncData} (F : Fun K "__init__" "View.__init__" sVInit f fd) (T : ExcT K mg "MachineError" CE) : FnOk P w K mg base (L2.CX P w) 1 f fd ["self", "name", "names"] (spVInitX CE) := by
  refine F.okX scVInit (fun vs H Q E h => ?_) (fun cdv A outer s H vs Q E hr h => ?_)
  · obtain ⟨x, na, nm, ns, rfl, _⟩ := h
    rfl
  · obtain ⟨x, na, nm, ns, rfl, hna, hn, k⟩ := h
    refine ⟨_, pss_cons (ps_if (pt_cmpR op_notIn_seq (pv 1) (pv 2) (by rfl)) (pss_one (ps_raiseT T rfl (takes_of rfl rfl rfl (E := E) rfl) rfl)) pss_nil) pss_never, ?_⟩
    fail "go"
    refine ⟨_, _, rfl, .inl (.of hna), rfl, flat_strs, _, rfl, ?_⟩
    rw [in_strs, decide_eq_false hn]
    refine ite_t (B := True) (by rfl) ?_
    exact k
theorem ok_stateX {f : Addr} {fd : FuncData} (F : Fun K "state_of" "View.state_of" sState f fd) (X : TxtC K mg CV) (T : ExcT K mg "MachineError" CE) : FnOk P w K mg base (L2.CX P w) 1 f fd ["self", "name"] (spStateX CV CE) := by
  refine F.okX scState (fun vs H Q E h => ?_) (fun cdv A outer s H vs Q E hr h => ?_)
  · obtain ⟨v, dv, rd, gd, nm, k, s, R, rfl, _⟩ := h
    rfl
  · obtain ⟨v, dv, rd, gd, nm, k, s, R, rfl, hL, hk, q⟩ := h
    have c1 := X.cl
    have f3 := X.n "rows" (by decide +kernel)
    have lk : valV (s.rows.map (kk rowV)) (Sum.inr k) = none := by rw [kk_val, aget_none hk]; rfl
    refine ⟨_, pss_cons (ps_if (pt_cmp (pc_dnotin (hu_of hr) (pv 1) (pe_fld (pv 0) rfl))) (pss_one (ps_raiseT T rfl (takes_of rfl rfl rfl (E := E) rfl) rfl)) pss_nil) pss_never, ?_⟩
    dsimp only [VL] at hL
    fail "go"
    refine k_dinS hL (by fail "ix") ?_
    rw [lk]
    fail "go"
    refine ite_t (B := True) (by rfl) ?_
    exact q
end
end Sd


namespace Sd
open PySem L2
open C8 (Cal Met Mak pe_c pe_mk pe_mt pe_mt0 pss_cut tCut)
abbrev sLState : Stmt := top 13
abbrev sLHear : Stmt := top 14
abbrev sLNews : Stmt := top 15
set_option linter.unusedSimpArgs false
set_option pp.deepTerms false
set_option pp.deepTerms.threshold 12
set_option hygiene false
local macro_rules | `(tactic| fail "nd") => `(tactic| first | assumption | decide +kernel)
local macro_rules | `(tactic| fail "ix") => `(tactic| first | exact ⟨0, rfl⟩ | exact ⟨1, rfl⟩ | exact ⟨2, rfl⟩ | exact ⟨3, rfl⟩ | exact ⟨4, rfl⟩ | exact ⟨5, rfl⟩ | exact ⟨6, rfl⟩ | exact ⟨7, rfl⟩ | exact ⟨8, rfl⟩ | exact ⟨9, rfl⟩ | exact ⟨10, rfl⟩ | exact ⟨11, rfl⟩ | exact ⟨12, rfl⟩ | exact ⟨13, rfl⟩ | exact ⟨14, rfl⟩ | exact ⟨15, rfl⟩ | exact ⟨16, rfl⟩ | exact ⟨17, rfl⟩ | exact ⟨18, rfl⟩ | assumption)
local macro_rules | `(tactic| fail "up") => `(tactic| first | exact ⟨0, rfl, rfl⟩ | exact ⟨1, rfl, rfl⟩ | exact ⟨2, rfl, rfl⟩ | exact ⟨3, rfl, rfl⟩ | exact ⟨4, rfl, rfl⟩ | exact ⟨5, rfl, rfl⟩ | exact ⟨6, rfl, rfl⟩ | exact ⟨7, rfl, rfl⟩ | exact ⟨8, rfl, rfl⟩ | exact ⟨9, rfl, rfl⟩ | exact ⟨10, rfl, rfl⟩ | exact ⟨11, rfl, rfl⟩ | exact ⟨12, rfl, rfl⟩ | exact ⟨13, rfl, rfl⟩ | exact ⟨14, rfl, rfl⟩ | exact ⟨15, rfl, rfl⟩ | exact ⟨16, rfl, rfl⟩ | assumption)
local macro_rules | `(tactic| fail "lkF") => `(tactic| first | assumption | exact fz_at 0 (by fail "nd") rfl rfl | exact fz_at 1 (by fail "nd") rfl rfl | exact fz_at 2 (by fail "nd") rfl rfl | exact fz_at 3 (by fail "nd") rfl rfl | exact fz_at 4 (by fail "nd") rfl rfl | exact fz_at 5 (by fail "nd") rfl rfl | exact fz_at 6 (by fail "nd") rfl rfl | exact fz_at 7 (by fail "nd") rfl rfl)
local macro_rules | `(tactic| fail "lkD") => `(tactic| first | assumption | exact dz_at 0 (by fail "nd") rfl rfl | exact dz_at 1 (by fail "nd") rfl rfl | exact dz_at 2 (by fail "nd") rfl rfl | exact dz_at 3 (by fail "nd") rfl rfl | exact dz_at 4 (by fail "nd") rfl rfl)
local macro_rules | `(tactic| fail "ptF") => `(tactic| first | assumption | exact fz_put 0 (by fail "nd") rfl (Nat.le_of_ble_eq_true rfl) | exact fz_put 1 (by fail "nd") rfl (Nat.le_of_ble_eq_true rfl) | exact fz_put 2 (by fail "nd") rfl (Nat.le_of_ble_eq_true rfl) | exact fz_put 3 (by fail "nd") rfl (Nat.le_of_ble_eq_true rfl) | exact fz_put 4 (by fail "nd") rfl (Nat.le_of_ble_eq_true rfl) | exact fz_put 5 (by fail "nd") rfl (Nat.le_of_ble_eq_true rfl) | exact fz_put 6 (by fail "nd") rfl (Nat.le_of_ble_eq_true rfl) | exact fz_put 7 (by fail "nd") rfl (Nat.le_of_ble_eq_true rfl) | exact fz_new (by decide +kernel) rfl)
local macro_rules | `(tactic| fail "ptD") => `(tactic| first | assumption | exact dz_put 0 (by fail "nd") rfl (Nat.le_of_ble_eq_true rfl) | exact dz_put 1 (by fail "nd") rfl (Nat.le_of_ble_eq_true rfl) | exact dz_put 2 (by fail "nd") rfl (Nat.le_of_ble_eq_true rfl) | exact dz_put 3 (by fail "nd") rfl (Nat.le_of_ble_eq_true rfl) | exact dz_put 4 (by fail "nd") rfl (Nat.le_of_ble_eq_true rfl))
local macro_rules | `(tactic| fail "sz") => `(tactic| first | assumption | exact (Nat.le_of_ble_eq_true rfl) | omega | decide)
local macro_rules | `(tactic| fail "sd") => `(tactic| first | rfl | assumption | decide | omega | (dsimp only; first | decide | omega) | exact .inr ⟨by decide, by decide⟩ | exact .inl ⟨by decide, by decide⟩ | exact ⟨by omega, by omega⟩ | exact .inl ⟨by omega, by omega⟩ | exact .inr ⟨by omega, by omega⟩ | exact ⟨by omega, by omega, by omega⟩)
local macro_rules | `(tactic| fail "cl") => `(tactic| (clear hH; dsimp only [List.set, List.cons_append, List.nil_append, List.append] at hL))
local macro_rules | `(tactic| fail "gn") => `(tactic| (intro p hp; generalize hH : upd H p _ = H; replace hL := Led.newH hL hp hH; clear hH hp))
local macro_rules | `(tactic| fail "gup") => `(tactic| (generalize hH : upd H _ _ = H; replace hL := Led.upU hL (by fail "up") hH; fail "cl"))
local macro_rules | `(tactic| fail "gmk") => `(tactic| (intro x dx hx hd ne; generalize hH : upd (upd H dx _) x _ = H; replace hL := Led.made hL hx hd ne hH; clear hH hx hd ne))
local macro_rules | `(tactic| fail "v") => `(tactic| refine ⟨_, rfl, ?_⟩)
local macro_rules | `(tactic| fail "i2") => `(tactic| refine ⟨_, _, rfl, rfl, ?_⟩)
local macro_rules | `(tactic| fail "go1") => `(tactic| first
  | refine ⟨_, rfl, ?_⟩
  | refine ⟨_, _, rfl, rfl, ?_⟩
  | refine ⟨_, _, rfl, ?_⟩
  | refine iteT ?_
  | refine iteF ?_
  | refine k_fld hL (by fail "ix") (by assumption) (by assumption) (by fail "lkF") ?_
  | refine k_dgetS hL (by fail "ix") (by fail "lkD") ?_
  | refine k_dgetI hL (by fail "ix") (by assumption) ?_
  | refine k_ixL hL (by fail "ix") (by first | rfl | assumption) ?_
  | refine k_ixT hL (by fail "ix") (by first | rfl | assumption) ?_
  | refine k_tyL hL (by fail "ix") ?_
  | refine k_isd hL (by fail "ix") ?_
  | (refine And.intro (by fail "sz") ?_; fail "gn")
  | refine And.intro (by fail "sd") ?_
  | fail "gn"
  | refine k_meth hL (by fail "ix") (by first | assumption | exact fz_no (by decide +kernel)) ?_
  | refine k_gtup hL (by fail "ix") rfl ?_
  | (refine k_popI hL (by fail "ix") (by assumption) ?_; fail "gup")
  | (refine k_listD hL (by fail "ix") ?_; fail "gn")
  | (refine ⟨_, _, _, _, rfl, rfl, hL.at (by fail "ix"), rfl, ?_⟩; fail "gup")
  | (refine ⟨_, _, _, rfl, rfl, hL.at (by fail "ix"), (by fail "sz"), ?_⟩; fail "gup")
  | (refine ⟨_, _, _, _, rfl, hL.at (by fail "ix"), by assumption, by assumption, Nat.lt_of_le_of_lt fz_len (by decide), ?_⟩; generalize hH : upd H _ _ = H; replace hL := Led.upF hL (by fail "up") (by fail "ptF") hH; fail "cl")
  | (refine ⟨_, _, hL.at (by fail "ix"), Nat.lt_of_le_of_lt fz_len (by decide), ?_⟩; generalize hH : upd H _ _ = H; replace hL := Led.upF hL (by fail "up") (by fail "ptF") hH; fail "cl")
  | (refine k_dputS hL (by fail "ix") (Nat.lt_of_le_of_lt dz_len (by decide)) (by fail "ptD") (by fail "up") ?_; clear hL; intro H hL; dsimp only [List.set, List.cons_append, List.nil_append, List.append] at hL)
  | refine k_lenL2 hL (by fail "ix") ?_
  | refine k_lenT2 hL (by fail "ix") ?_
  | refine .inl ⟨_, rfl, ?_⟩
  | refine .inr ⟨_, rfl, ?_⟩)
local macro_rules | `(tactic| fail "go") => `(tactic| repeat fail "go1")
local macro_rules | `(tactic| fail "pm") => `(tactic| (refine Led.le hL (fun a_ => ?_); simp only [cnt_nil, cnt_cons, cnt_app, List.map_append, List.map_cons, List.map_nil, List.flatMap_append, List.flatMap_cons, List.flatMap_nil, List.append_assoc, List.cons_append, List.nil_append]; omega))

/-! the law's own views -/
def nmL : List Str := ["time", "gone", "rows"]
def OV (o rd gd : Addr) (s : VS) : Lg := (o, .dK (dz nmL [.int s.time, .ref gd, .ref rd])) :: (rd, .dK (s.rows.map (kk rowV))) :: (gd, .dK (s.gone.map (kk goneV))) :: s.rows.map rowO
def spLState : Sp := fun vs H Q _ => ∃ (o rd gd : Addr) (nm k : Str) (s : VS) (R : Lg), vs = [.ref o, .str k, .str nm] ∧ Led H (OV o rd gd s ++ R) ∧ k ∈ s.rows.map (·.1) ∧
  ∀ H', Led H' (OV o rd gd s ++ R) → Q (.str (stateP s.pl nm k)) H'
def spLHear : Sp := fun vs H Q _ => ∃ (o rd gd np : Addr) (s : VS) (ns : List Nw) (U : List Str) (R : Lg), vs = [.ref o, .ref np] ∧ Led H (OV o rd gd s ++ R) ∧ HOk2 U s ∧ (np, .lst (ns.map newsV)) ∈ R ∧ (∀ n ∈ ns, newsO n ∈ R) ∧
  U.length < 60 ∧ (∀ n ∈ ns, n.2.1 ∈ U) ∧
  ∀ (s' : VS) (H' : Hp), s'.pl = hearP s.pl (ns.map (·.2)) → HOk2 U s' → Led H' (OV o rd gd s' ++ R) → Q .non H'
def spLNews : Sp := fun vs H Q _ => ∃ (o rd gd : Addr) (s : VS) (R : Lg), vs = [.ref o] ∧ Led H (OV o rd gd s ++ R) ∧ VOk s ∧
  ∀ (ys : List Str) (p : Addr) (ns : List Nw) (H' : Hp), ys.Perm (s.rows.map (·.1)) → PyProof.Rows.sortedS ys = true → ns.map (·.2) = ys.map (fun y => (y, cntOf s.rows y)) →
    Led H' ((p, .lst (ns.map newsV)) :: (ns.map newsO ++ (OV o rd gd s ++ R))) → Q (.ref p) H'
section
variable {P : Program} {w : World} {K : PySem.W.Frag} {mg : Str → Option Value} {base : Heap}
theorem scLState : FnScope ["view", "name", "mine", "silence"] ["view", "name", "mine"] (defScope sLState) := ⟨rfl, rfl, rfl, by decide +kernel, rfl, by decide +kernel, by decide +kernel⟩
theorem ok_lstate {f : Addr} {fd : FuncData} (F : Fun K "_law_state" "_law_state" sLState f fd) : FnOk P w K mg base CX0 1 f fd ["view", "name", "mine"] spLState := by
  refine F.ok scLState (fun vs H Q E h => ?_) (fun cdv A outer s H vs Q E hr h => ?_)
  · obtain ⟨o, rd, gd, nm, k, s, R, rfl, _⟩ := h
    rfl
  · obtain ⟨o, rd, gd, nm, k, s, R, rfl, hL, hk, q⟩ := h
    obtain ⟨⟨a, c, t⟩, hrow⟩ := aget_in hk
    have lk : valV (s.rows.map (kk rowV)) (Sum.inr k) = some (.ref a) := by rw [kk_val, hrow]; rfl
    have hst : ¬ k = nm → stateP s.pl nm k = if s.time - t < 6 then Str.ofString "alive" else if s.time - t < 15 then Str.ofString "suspect" else Str.ofString "dead" := fun h => by
      unfold stateP
      rw [if_neg h, pl_get, hrow]
      rfl
    refine ⟨_, (pss_cons (ps_if (pt_cmpR op_eq (pv 1) (pv 2) (nomark _))
  (pss_one (ps_ret pe_str))
  pss_nil)
  (pss_cons (ps_set (i := 3) scLState.nd rfl (Or.inl rfl) (pe_op op_sub (pe_dget (hu_of hr) (pv 0) pe_str (fun _ _ => rfl)) (pe_ix ix_tup (pe_dget (hu_of hr) (pe_dget (hu_of hr) (pv 0) pe_str (fun _ _ => rfl)) (pv 1) (fun _ _ => rfl)) pe_int (fun _ _ => rfl))))
  (pss_one (ps_ret (pe_ifExp (pt_cmpR op_lt (pv 3) pe_int (nomark _)) pe_str (pe_ifExp (pt_cmpR op_lt (pv 3) pe_int (nomark _)) pe_str pe_str)))))), ?_⟩
    dsimp only [OV] at hL
    fail "go"
    refine ite_d (fun h1 => ?_) (fun h1 => ?_)
    · fail "go"
      have e : stateP s.pl nm k = "alive" := by unfold stateP; rw [if_pos (V.str.inj h1)]
      rw [e] at q
      exact q _ hL
    · have hst := hst fun e => h1 (by rw [e])
      fail "go"
      refine k_ixT hL (at_mem (.tail _ (.tail _ (.tail _ (List.mem_append_left _ (row_mem hrow)))))) rfl ?_
      fail "go"
      refine ite_d (fun h2 => ?_) (fun h2 => ?_)
      · fail "go"
        rw [hst, if_pos h2] at q
        exact q _ hL
      · fail "go"
        rw [hst, if_neg h2] at q
        refine ite_d (fun h3 => ?_) (fun h3 => ?_)
        · fail "go"
          rw [if_pos h3] at q
          exact q _ hL
        · fail "go"
          rw [if_neg h3] at q
          exact q _ hL
theorem scLHear : FnScope ["view", "news", "rows", "name", "count"] ["view", "news"] (defScope sLHear) := ⟨rfl, rfl, rfl, by decide +kernel, rfl, by decide +kernel, by decide +kernel⟩
theorem ok_lhear {f : Addr} {fd : FuncData} (F : Fun K "_law_hear" "_law_hear" sLHear f fd) : FnOk P w K mg base CX0 1 f fd ["view", "news"] spLHear := by
  refine F.ok scLHear (fun vs H Q E h => ?_) (fun cdv A outer s H vs Q E hr h => ?_)
  · obtain ⟨o, rd, gd, np, s, ns, U, R, rfl, _⟩ := h
    rfl
  · obtain ⟨o, rd, gd, np, s, ns, U, R, rfl, hL, ok, hnp, hns, hU, u3, k⟩ := h
    refine ⟨_, (pss_cons (ps_set (i := 2) scLHear.nd rfl (Or.inl rfl) (pe_dget (hu_of hr) (pv 0) pe_str (fun _ _ => rfl)))
  (pss_one (ps_for PassesOwn.never rfl (pi_list (pv 1)) (pg_tup (by rfl) (pgs_cons (pg_name (i := 3) scLHear.nd rfl (Or.inl rfl)) (pgs_cons (pg_name (i := 4) scLHear.nd rfl (Or.inl rfl)) pgs_nil)))
  (pss_one (ps_if (PW.pt (pw_or (PW.pt (pw_and (pt_cmp (pc_din (hu_of hr) (pv 3) (pv 2))) (pw_and1 (pt_cmpR op_gt (pv 4) (pe_ix ix_tup (pe_dget (hu_of hr) (pv 2) (pv 3) (fun _ _ => rfl)) pe_int (fun _ _ => rfl)) (nomark _))))) (pw_or1 (PW.pt (pw_and (pt_cmp (pc_dnotin (hu_of hr) (pv 3) (pv 2))) (pw_and1 (pt_cmpR op_gt (pv 4) (pe_dget2 (hu_of hr) (pe_dget (hu_of hr) (pv 0) pe_str (fun _ _ => rfl)) (pv 3) (pe_op op_sub pe_int pe_int) ⟨rfl, rfl, rfl, rfl⟩) (nomark _))))))))
  (pss_one (ps_dput (hu_of hr) (pv 2) (pv 3) (pe_tup (pa_cons (pv 4) (pa_cons (pe_dget (hu_of hr) (pv 0) pe_str (fun _ _ => rfl)) pa_nil))) rfl))
  pss_nil))))), ?_⟩
    dsimp only [OV] at hL
    fail "go"
    refine ⟨⟨_, .of (hL.at (at_mem (.tail _ (.tail _ (.tail _ (List.mem_append_right _ hnp))))))⟩, for_list (K := K) (a := np) (xs := ns.map newsV) (fun i σ H => Hold (∃ (s' : VS) (v3 v4 : Option V), σ = [some (.ref o), some (.ref np), some (.ref rd), v3, v4] ∧ s'.pl = hearP s.pl ((ns.take i).map (·.2)) ∧
      HOk2 U s' ∧ Led H (OV o rd gd s' ++ R))) (.mk ⟨s, none, none, rfl, rfl, ok, hL⟩) (fun i σ H _ h => ?_) (fun i x σ H hi h => ?_) (fun σ H h => ?_)⟩
    · obtain ⟨s', v3, v4, rfl, e, o2, hL⟩ := h.out
      exact .of (hL.at (at_mem (List.mem_append_right _ hnp)))
    · obtain ⟨s', v3, v4, rfl, e, o2, hL⟩ := h.out
      clear h
      rw [List.getElem?_map] at hi
      obtain ⟨n, hn, rfl⟩ := Option.map_eq_some_iff.mp hi
      have hm := List.mem_of_getElem? hn
      have e2 : hearP s.pl ((ns.take (i + 1)).map (·.2)) = hear1 s'.pl n.2 := by
        rw [List.take_add_one, hn, List.map_append]
        show List.foldl hear1 s.pl (_ ++ [n.2]) = _
        rw [List.foldl_append]
        show hear1 (hearP s.pl _) n.2 = _
        rw [← e]
      have hu := u3 n hm
      refine k_gtup hL (at_mem (List.mem_append_right _ (hns n hm))) rfl ?_
      have hsz : s'.rows.length < 60 := (o2.ok hU).sz
      have lkr : valV (s'.rows.map (kk rowV)) (Sum.inr n.2.1) = (aget s'.rows n.2.1).map fun x => .ref x.1 := by rw [kk_val]; rfl
      have lkg : valV (s'.gone.map (kk goneV)) (Sum.inr n.2.1) = (aget s'.gone n.2.1).map .int := by rw [kk_val]; rfl
      dsimp only [OV] at hL
      fail "go"
      refine k_dinS hL (by fail "ix") ?_
      rw [lkr]
      fail "go"
      cases hr : aget s'.rows n.2.1 with
      | some r =>
        obtain ⟨a, c, t⟩ := r
        rw [hr] at lkr
        refine ite_t (by rfl) ?_
        fail "go"
        refine k_ixT hL (at_mem (.tail _ (.tail _ (.tail _ (List.mem_append_left _ (row_mem hr)))))) rfl ?_
        fail "go"
        refine ite_d (fun h1 => ?_) (fun h1 => ?_)
        · fail "go"
          refine k_dputS hL (by fail "ix") (by rw [List.length_map]; exact Nat.lt_of_lt_of_le hsz (by decide)) (kk_put (vo := rowV) (v := (p, n.2.2, s'.time)) o2.nd) (by fail "up") fun H hL => ?_
          dsimp only [List.set, List.cons_append, List.nil_append, List.append] at hL
          refine .mk ⟨⟨s'.time, aput s'.rows n.2.1 (p, n.2.2, s'.time), s'.gone⟩, _, _, rfl, ?_, o2.put hu, Led.rput (A := [_, _, _]) (k := n.2.1) (v := (p, n.2.2, s'.time)) hL⟩
          rw [e2, hear1, if_pos, pl_put]
          · rfl
          · rw [known_some hr]; exact h1
        · fail "go"
          refine k_dinS hL (by fail "ix") ?_
          rw [lkr]
          fail "go"
          refine .mk ⟨s', _, _, rfl, ?_, o2, hL⟩
          rw [e2, hear1, if_neg]
          rw [known_some hr]; exact h1
      | none =>
        rw [hr] at lkr
        refine ite_f (by rfl) ?_
        fail "go"
        refine k_dinS hL (by fail "ix") ?_
        rw [lkr]
        fail "go"
        refine k_getS hL (by fail "ix") ?_
        rw [lkg]
        have hk := known_none hr
        generalize hg : (aget s'.gone n.2.1).getD (-1) = g0 at hk
        have hv : ((aget s'.gone n.2.1).map V.int).getD (.int (0 - 1)) = .int g0 := by
          rw [← hg]; cases aget s'.gone n.2.1 <;> rfl
        rw [hv]
        fail "go"
        refine ite_d (fun h1 => ?_) (fun h1 => ?_)
        · fail "go"
          refine k_dputS hL (by fail "ix") (by rw [List.length_map]; exact Nat.lt_of_lt_of_le hsz (by decide)) (kk_put (vo := rowV) (v := (p, n.2.2, s'.time)) o2.nd) (by fail "up") fun H hL => ?_
          dsimp only [List.set, List.cons_append, List.nil_append, List.append] at hL
          refine .mk ⟨⟨s'.time, aput s'.rows n.2.1 (p, n.2.2, s'.time), s'.gone⟩, _, _, rfl, ?_, o2.put hu, Led.rput (A := [_, _, _]) (k := n.2.1) (v := (p, n.2.2, s'.time)) hL⟩
          rw [e2, hear1, if_pos, pl_put]
          · rfl
          · rw [hk]; exact h1
        · refine .mk ⟨s', _, _, rfl, ?_, o2, hL⟩
          rw [e2, hear1, if_neg]
          rw [hk]; exact h1
    · obtain ⟨s', v3, v4, rfl, e, o2, hL⟩ := h.out
      refine k s' _ ?_ o2 hL
      rw [e, List.length_map, List.take_length]
theorem scLNews : FnScope ["view", "name"] ["view"] (defScope sLNews) := ⟨rfl, rfl, rfl, by decide +kernel, rfl, by decide +kernel, by decide +kernel⟩
theorem ok_lnews {f : Addr} {fd : FuncData} (F : Fun K "_law_news" "_law_news" sLNews f fd) (T : TxtS mg) : FnOk P w K mg base CX0 1 f fd ["view"] spLNews := by
  refine F.ok scLNews (fun vs H Q E h => ?_) (fun cdv A outer s H vs Q E hr h => ?_)
  · obtain ⟨o, rd, gd, s, R, rfl, _⟩ := h
    rfl
  · obtain ⟨o, rd, gd, s, R, rfl, hL, ok, k⟩ := h
    refine ⟨_, (pss_one (ps_ret (pe_lc (own := [("name", 1)]) (g := gName 1) (by rfl) scLNews.nd (pi_list (pe_callB (call_sortedD rfl) (by rfl) T.sorted (by decide +kernel) (pa_cons (pe_dget (hu_of hr) (pv 0) pe_str (fun _ _ => rfl)) pa_nil))) (blkOk_by (own := [("name", 1)]) (N := ["view", "name"]) (sc := (defScope sLNews)) (by decide +kernel)) (fun _ _ _ _ _ => (pg_name (i := 1) scLNews.nd rfl (Or.inl rfl))) (fun _ _ _ _ _ => pts_nil) (fun _ _ _ _ _ => (pe_tup (pa_cons (pv 1) (pa_cons (pe_ix ix_tupB (pe_dget (hu_of hr) (pe_dget (hu_of hr) (pv 0) pe_str (fun _ _ => rfl)) (pv 1) (fun _ _ => rfl)) pe_int (fun _ _ => rfl)) pa_nil))))))), ?_⟩
    dsimp only [OV] at hL
    fail "go"
    refine ⟨_, _, s.rows.map (·.1), rfl, .inl (hL.at (by fail "ix")), kk_names, by rw [List.length_map]; exact Nat.lt_trans ok.sz (by decide), fun ys p hp hs hf => ?_⟩
    generalize hH : upd H p _ = H
    replace hL := Led.newH hL hf hH
    clear hH hf
    have hyl : ys.length < 60 := by
      have := hp.length_eq
      rw [List.length_map] at this
      rw [this]; exact ok.sz
    refine ⟨_, rfl, ⟨_, .of (hL.at ⟨0, rfl⟩)⟩, fun D hD => lc_list (K := K) (a := p) (xs := ys.map V.str) (fun i H => Hold (∃ ns : List Nw, ns.map (·.2) = (ys.take i).map (fun y => (y, cntOf s.rows y)) ∧ Led H ((D, .lst (ns.map newsV)) :: (ns.map newsO ++ ((p, .lst (ys.map V.str)) :: (OV o rd gd s ++ R)))))) (.mk ⟨[], rfl, hL.new hD⟩) (fun i H _ h => ?_) (fun i x H hi h => ?_) (fun H h => ?_)⟩
    · obtain ⟨ns, hn, hL⟩ := h.out
      exact .of (hL.at (at_mem (.tail _ (List.mem_append_right _ List.mem_cons_self))))
    · obtain ⟨ns, hn, hL⟩ := h.out
      clear h
      rw [List.getElem?_map] at hi
      obtain ⟨y, hy, rfl⟩ := Option.map_eq_some_iff.mp hi
      obtain ⟨⟨a, cc, t⟩, hrow⟩ := aget_in (hp.mem_iff.mp (List.mem_of_getElem? hy))
      have lkd : valV (s.rows.map (kk rowV)) (Sum.inr y) = some (.ref a) := by rw [kk_val, hrow]; rfl
      have m (x) (h : x ∈ OV o rd gd s ++ R) : x ∈ (D, HO.lst (ns.map newsV)) :: (ns.map newsO ++ ((p, .lst (ys.map V.str)) :: (OV o rd gd s ++ R))) := .tail _ (List.mem_append_right _ (.tail _ h))
      refine ⟨rfl, k_yes ?_⟩
      fail "go"
      refine k_dgetS hL (at_mem (m _ (.head _))) (by fail "lkD") ?_
      fail "go"
      refine k_dgetS hL (at_mem (m _ (.tail _ (.head _)))) lkd ?_
      refine k_ixT hL (at_mem (m _ (List.mem_append_left _ (.tail _ (.tail _ (.tail _ (row_mem hrow))))))) rfl ?_
      refine ⟨(by show 2 ≤ sizeLine; decide), fun q hq => ?_⟩
      generalize hH : upd H q _ = H
      replace hL := Led.newH hL hq hH
      refine ⟨_, hL.at ⟨1, rfl⟩, ?_, ?_⟩
      · rw [List.length_map]
        have := congrArg List.length hn
        rw [List.length_map, List.length_map, List.length_take] at this
        have h2 : 60 ≤ sizeLine := by decide
        omega
      · refine .mk ⟨ns ++ [(q, y, cc)], ?_, ?_⟩
        · rw [List.map_append, hn, List.take_add_one, hy, List.map_append]
          simp [cntOf, hrow]
        · have h2 := Led.set (o' := .lst ((ns ++ [(q, y, cc)]).map newsV)) 1 hL rfl
          rw [List.map_append] at h2
          rw [List.map_append, List.map_append, List.append_assoc]
          exact Led.back (A := (D, _) :: ns.map newsO) h2
    · obtain ⟨ns, hn, hL⟩ := h.out
      refine k ys D ns _ hp hs ?_ (hL.sub ?_)
      · rw [hn, List.length_map, List.take_length]
      · exact .cons_cons _ (List.Sublist.append_left (List.sublist_cons_self _ _) _)
end
end Sd


namespace Sd
open PySem L2
open C8 (Cal Met Mak pe_c pe_mk pe_mt pe_mt0 pss_cut tCut)
abbrev sCInit : Stmt := inClass (top 7) 0
abbrev sPartner : Stmt := inClass (top 7) 1
abbrev sRound : Stmt := inClass (top 7) 2
abbrev sDown : Stmt := inClass (top 7) 3
abbrev sAgree : Stmt := inClass (top 7) 4
set_option linter.unusedSimpArgs false
set_option pp.deepTerms false
set_option pp.deepTerms.threshold 12
set_option hygiene false
local macro_rules | `(tactic| fail "nd") => `(tactic| first | assumption | decide +kernel)
local macro_rules | `(tactic| fail "ix") => `(tactic| first | exact ⟨0, rfl⟩ | exact ⟨1, rfl⟩ | exact ⟨2, rfl⟩ | exact ⟨3, rfl⟩ | exact ⟨4, rfl⟩ | exact ⟨5, rfl⟩ | exact ⟨6, rfl⟩ | exact ⟨7, rfl⟩ | exact ⟨8, rfl⟩ | exact ⟨9, rfl⟩ | exact ⟨10, rfl⟩ | exact ⟨11, rfl⟩ | exact ⟨12, rfl⟩ | exact ⟨13, rfl⟩ | exact ⟨14, rfl⟩ | exact ⟨15, rfl⟩ | exact ⟨16, rfl⟩ | exact ⟨17, rfl⟩ | exact ⟨18, rfl⟩ | assumption)
local macro_rules | `(tactic| fail "up") => `(tactic| first | exact ⟨0, rfl, rfl⟩ | exact ⟨1, rfl, rfl⟩ | exact ⟨2, rfl, rfl⟩ | exact ⟨3, rfl, rfl⟩ | exact ⟨4, rfl, rfl⟩ | exact ⟨5, rfl, rfl⟩ | exact ⟨6, rfl, rfl⟩ | exact ⟨7, rfl, rfl⟩ | exact ⟨8, rfl, rfl⟩ | exact ⟨9, rfl, rfl⟩ | exact ⟨10, rfl, rfl⟩ | exact ⟨11, rfl, rfl⟩ | exact ⟨12, rfl, rfl⟩ | exact ⟨13, rfl, rfl⟩ | exact ⟨14, rfl, rfl⟩ | exact ⟨15, rfl, rfl⟩ | exact ⟨16, rfl, rfl⟩ | assumption)
local macro_rules | `(tactic| fail "lkF") => `(tactic| first | assumption | exact fz_at 0 (by fail "nd") rfl rfl | exact fz_at 1 (by fail "nd") rfl rfl | exact fz_at 2 (by fail "nd") rfl rfl | exact fz_at 3 (by fail "nd") rfl rfl | exact fz_at 4 (by fail "nd") rfl rfl | exact fz_at 5 (by fail "nd") rfl rfl | exact fz_at 6 (by fail "nd") rfl rfl | exact fz_at 7 (by fail "nd") rfl rfl)
local macro_rules | `(tactic| fail "lkD") => `(tactic| first | assumption | exact dz_at 0 (by fail "nd") rfl rfl | exact dz_at 1 (by fail "nd") rfl rfl | exact dz_at 2 (by fail "nd") rfl rfl | exact dz_at 3 (by fail "nd") rfl rfl | exact dz_at 4 (by fail "nd") rfl rfl)
local macro_rules | `(tactic| fail "ptF") => `(tactic| first | assumption | exact fz_put 0 (by fail "nd") rfl (Nat.le_of_ble_eq_true rfl) | exact fz_put 1 (by fail "nd") rfl (Nat.le_of_ble_eq_true rfl) | exact fz_put 2 (by fail "nd") rfl (Nat.le_of_ble_eq_true rfl) | exact fz_put 3 (by fail "nd") rfl (Nat.le_of_ble_eq_true rfl) | exact fz_put 4 (by fail "nd") rfl (Nat.le_of_ble_eq_true rfl) | exact fz_put 5 (by fail "nd") rfl (Nat.le_of_ble_eq_true rfl) | exact fz_put 6 (by fail "nd") rfl (Nat.le_of_ble_eq_true rfl) | exact fz_put 7 (by fail "nd") rfl (Nat.le_of_ble_eq_true rfl) | exact fz_new (by decide +kernel) rfl)
local macro_rules | `(tactic| fail "ptD") => `(tactic| first | assumption | exact dz_put 0 (by fail "nd") rfl (Nat.le_of_ble_eq_true rfl) | exact dz_put 1 (by fail "nd") rfl (Nat.le_of_ble_eq_true rfl) | exact dz_put 2 (by fail "nd") rfl (Nat.le_of_ble_eq_true rfl) | exact dz_put 3 (by fail "nd") rfl (Nat.le_of_ble_eq_true rfl) | exact dz_put 4 (by fail "nd") rfl (Nat.le_of_ble_eq_true rfl))
local macro_rules | `(tactic| fail "sz") => `(tactic| first | assumption | exact (Nat.le_of_ble_eq_true rfl) | omega | decide)
local macro_rules | `(tactic| fail "sd") => `(tactic| first | rfl | assumption | decide | omega | (dsimp only; first | decide | omega) | exact .inr ⟨by decide, by decide⟩ | exact .inl ⟨by decide, by decide⟩ | exact ⟨by omega, by omega⟩ | exact .inl ⟨by omega, by omega⟩ | exact .inr ⟨by omega, by omega⟩ | exact ⟨by omega, by omega, by omega⟩)
local macro_rules | `(tactic| fail "cl") => `(tactic| (clear hH; dsimp only [List.set, List.cons_append, List.nil_append, List.append] at hL))
local macro_rules | `(tactic| fail "gn") => `(tactic| (intro p hp; generalize hH : upd H p _ = H; replace hL := Led.newH hL hp hH; clear hH hp))
local macro_rules | `(tactic| fail "gup") => `(tactic| (generalize hH : upd H _ _ = H; replace hL := Led.upU hL (by fail "up") hH; fail "cl"))
local macro_rules | `(tactic| fail "gmk") => `(tactic| (intro x dx hx hd ne; generalize hH : upd (upd H dx _) x _ = H; replace hL := Led.made hL hx hd ne hH; clear hH hx hd ne))
local macro_rules | `(tactic| fail "v") => `(tactic| refine ⟨_, rfl, ?_⟩)
local macro_rules | `(tactic| fail "i2") => `(tactic| refine ⟨_, _, rfl, rfl, ?_⟩)
local macro_rules | `(tactic| fail "go1") => `(tactic| first
  | refine ⟨_, rfl, ?_⟩
  | refine ⟨_, _, rfl, rfl, ?_⟩
  | refine ⟨_, _, rfl, ?_⟩
  | refine iteT ?_
  | refine iteF ?_
  | refine k_fld hL (by fail "ix") (by assumption) (by assumption) (by fail "lkF") ?_
  | refine k_dgetS hL (by fail "ix") (by fail "lkD") ?_
  | refine k_dgetI hL (by fail "ix") (by assumption) ?_
  | refine k_ixL hL (by fail "ix") (by first | rfl | assumption) ?_
  | refine k_ixT hL (by fail "ix") (by first | rfl | assumption) ?_
  | refine k_tyL hL (by fail "ix") ?_
  | refine k_isd hL (by fail "ix") ?_
  | (refine And.intro (by fail "sz") ?_; fail "gn")
  | refine And.intro (by fail "sd") ?_
  | fail "gn"
  | refine k_meth hL (by fail "ix") (by first | assumption | exact fz_no (by decide +kernel)) ?_
  | refine k_gtup hL (by fail "ix") rfl ?_
  | (refine k_popI hL (by fail "ix") (by assumption) ?_; fail "gup")
  | (refine k_listD hL (by fail "ix") ?_; fail "gn")
  | (refine ⟨_, _, _, _, rfl, rfl, hL.at (by fail "ix"), rfl, ?_⟩; fail "gup")
  | (refine ⟨_, _, _, rfl, rfl, hL.at (by fail "ix"), (by fail "sz"), ?_⟩; fail "gup")
  | (refine ⟨_, _, _, _, rfl, hL.at (by fail "ix"), by assumption, by assumption, Nat.lt_of_le_of_lt fz_len (by decide), ?_⟩; generalize hH : upd H _ _ = H; replace hL := Led.upF hL (by fail "up") (by fail "ptF") hH; fail "cl")
  | (refine ⟨_, _, hL.at (by fail "ix"), Nat.lt_of_le_of_lt fz_len (by decide), ?_⟩; generalize hH : upd H _ _ = H; replace hL := Led.upF hL (by fail "up") (by fail "ptF") hH; fail "cl")
  | (refine k_dputS hL (by fail "ix") (Nat.lt_of_le_of_lt dz_len (by decide)) (by fail "ptD") (by fail "up") ?_; clear hL; intro H hL; dsimp only [List.set, List.cons_append, List.nil_append, List.append] at hL)
  | refine k_lenL2 hL (by fail "ix") ?_
  | refine k_lenT2 hL (by fail "ix") ?_
  | refine .inl ⟨_, rfl, ?_⟩
  | refine .inr ⟨_, rfl, ?_⟩)
local macro_rules | `(tactic| fail "go") => `(tactic| repeat fail "go1")
local macro_rules | `(tactic| fail "pm") => `(tactic| (refine Led.le hL (fun a_ => ?_); simp only [cnt_nil, cnt_cons, cnt_app, List.map_append, List.map_cons, List.map_nil, List.flatMap_append, List.flatMap_cons, List.flatMap_nil, List.append_assoc, List.cons_append, List.nil_append]; omega))

structure VD where
  v : Addr
  dv : Addr
  rd : Addr
  gd : Addr
  s : VS
abbrev VE := Str × VD
def veL (CV : Addr) (e : VE) : Lg := VL CV e.2.v e.2.dv e.2.rd e.2.gd e.1 e.2.s
def vsL (CV : Addr) (vs : List VE) : Lg := vs.flatMap (veL CV)
def veV (e : VE) : V := .ref e.2.v
def dnV (_ : Str × Unit) : V := .bl true
def nmC : List Str := ["views", "down", "turn"]
def CrL (CC CV cr dc vd dd : Addr) (vs : List VE) (dn : List (Str × Unit)) (t : Int) : Lg :=
  (cr, .ins CC dc (fz nmC [.ref vd, .ref dd, .int t])) :: (vd, .dK (vs.map (kk veV))) :: (dd, .dK (dn.map (kk dnV))) :: vsL CV vs
/-- the plain views -/
def plsOf (vs : List VE) : List (Str × Pl) := vs.map fun e => (e.1, e.2.s.pl)
structure TxtCr (K : PySem.W.Frag) (mg : Str → Option Value) (CC : Addr) : Prop where
  cl : Cls K CC
  n : ∀ f ∈ nmC, NoAttr K CC f
theorem aget_split {α : Type} {k : Str} {v : α} : ∀ {l : List (Str × α)}, aget l k = some v → ∃ B C, l = B ++ (k, v) :: C ∧ ∀ v', aput l k v' = B ++ (k, v') :: C
  | x :: r, h => by
    by_cases e : x.1 = k
    · rw [aget, if_pos e] at h
      obtain rfl := Option.some.inj h
      exact ⟨[], r, by rw [← e]; rfl, fun v' => by rw [aput, if_pos e]; rfl⟩
    · rw [aget, if_neg e] at h
      obtain ⟨B, C, e1, e2⟩ := aget_split h
      exact ⟨x :: B, C, by rw [e1]; rfl, fun v' => by rw [aput, if_neg e, e2 v']; rfl⟩
theorem aput_self {α : Type} {k : Str} {v : α} {l : List (Str × α)} (h : aget l k = some v) : aput l k v = l := by
  obtain ⟨B, C, e1, e2⟩ := aget_split h
  rw [e2, ← e1]
/-- one view ahead of all -/
theorem vs_out {CV : Addr} {A R : Lg} {vs : List VE} {k : Str} {d : VD} (g : aget vs k = some d) : ∃ R' : Lg, (∀ x, x ∈ A ∨ x ∈ R → x ∈ R') ∧ ∀ (H : Hp) (d' : VD), Led H (A ++ (vsL CV (aput vs k d') ++ R)) ↔ Led H (veL CV (k, d') ++ R') := by
  obtain ⟨B, C, e1, e2⟩ := aget_split g
  refine ⟨A ++ (vsL CV B ++ (vsL CV C ++ R)), fun x hx => ?_, fun H d' => ?_⟩
  · rcases hx with h | h
    · exact List.mem_append_left _ h
    · exact List.mem_append_right _ (List.mem_append_right _ (List.mem_append_right _ h))
  · rw [e2]
    have p : List.Perm (A ++ (vsL CV (B ++ (k, d') :: C) ++ R)) (veL CV (k, d') ++ (A ++ (vsL CV B ++ (vsL CV C ++ R)))) := by
      have e : A ++ (vsL CV (B ++ (k, d') :: C) ++ R) = (A ++ vsL CV B) ++ (veL CV (k, d') ++ (vsL CV C ++ R)) := by
        unfold vsL
        simp [List.append_assoc]
      rw [e]
      have := List.perm_append_comm_assoc (A ++ vsL CV B) (veL CV (k, d')) (vsL CV C ++ R)
      simpa [List.append_assoc] using this
    exact ⟨fun h => h.perm p, fun h => h.perm p.symm⟩
theorem vs_out1 {CV : Addr} {A R : Lg} {vs : List VE} {k : Str} {d : VD} (g : aget vs k = some d) {H : Hp} (hL : Led H (A ++ (vsL CV vs ++ R))) :
    ∃ R' : Lg, (∀ x, x ∈ A ∨ x ∈ R → x ∈ R') ∧ Led H (veL CV (k, d) ++ R') ∧ ∀ (H : Hp) (d' : VD), Led H (veL CV (k, d') ++ R') → Led H (A ++ (vsL CV (aput vs k d') ++ R)) := by
  obtain ⟨R', h1, h2⟩ := vs_out (CV := CV) (A := A) (R := R) g
  exact ⟨R', h1, (h2 H d).mp (by rw [aput_self g]; exact hL), fun H d' h => (h2 H d').mpr h⟩
theorem pls_get {vs : List VE} {k : Str} : aget (plsOf vs) k = (aget vs k).map fun d => d.s.pl := aget_map (f := fun d : VD => d.s.pl)
theorem pls_put {vs : List VE} {k : Str} {d : VD} : plsOf (aput vs k d) = aput (plsOf vs) k d.s.pl := aput_map (f := fun d : VD => d.s.pl)
theorem pls_names {vs : List VE} : (plsOf vs).map (·.1) = vs.map (·.1) := by
  unfold plsOf; rw [List.map_map]; rfl
theorem k_dgetR {H : Hp} {a : Addr} {kvs : List (Key × V)} {v : V} {P : Addr → V → Prop} {x : Str} (r : Rd H a (.dK kvs)) (lk : valV kvs (.inr x) = some v) (q : P a v) : ∃ a' v', V.ref a = .ref a' ∧ DGet H a' (.str x) (some v') ∧ P a' v' :=
  ⟨_, _, rfl, .inl ⟨kvs, .inr x, r, rfl, lk.symm⟩, q⟩
def spCInit (CC CV : Addr) : Sp := fun vs H Q _ => ∃ (x dx na : Addr) (ns : List Str) (t : Int) (R : Lg), vs = [.ref x, .ref na, .int t] ∧ Led H ((x, .ins CC dx (fz [] [])) :: R) ∧ (na, .lst (ns.map .str)) ∈ R ∧ ns.Nodup ∧ ns.length < 60 ∧ PyProof.Rows.sortedS ns = true ∧
  ∀ (vs : List VE) (vd dd : Addr) (H' : Hp), plsOf vs = ns.map (fun n => (n, initP ns)) → Led H' (CrL CC CV x dx vd dd vs [] t ++ R) → Q .non H'
def othersP (ns : List Str) (nm : Str) : List Str := ns.filter fun k => decide (k ≠ nm)
def partnerP (ns : List Str) (nm : Str) (t : Int) : Str := ((othersP ns nm)[(t % ((othersP ns nm).length : Int)).toNat]?).getD ""
structure TxtSN (mg : Str → Option Value) : Prop where
  len : mg "len" = none
  sorted : mg "sorted" = none
structure NOk (ns : List Str) : Prop where
  nd : ns.Nodup
  z : ns.length < 60
  s : PyProof.Rows.sortedS ns = true
def spPartner (CC CV : Addr) : Sp := fun vs H Q _ => ∃ (cr dc vd dd : Addr) (ws : List VE) (dn : List (Str × Unit)) (t : Int) (nm : Str) (R : Lg), vs = [.ref cr, .str nm] ∧ Led H (CrL CC CV cr dc vd dd ws dn t ++ R) ∧ NOk (ws.map (·.1)) ∧ nm ∈ ws.map (·.1) ∧ 2 ≤ ws.length ∧
  ∀ H', Led H' (CrL CC CV cr dc vd dd ws dn t ++ R) → Q (.str (partnerP (ws.map (·.1)) nm t)) H'
theorem others_mem {ns : List Str} {nm k : Str} : k ∈ othersP ns nm ↔ k ∈ ns ∧ k ≠ nm := by unfold othersP; simp
theorem others_len : ∀ {ns : List Str} {nm : Str}, ns.Nodup → nm ∈ ns → (othersP ns nm).length + 1 = ns.length
  | x :: r, nm, nd, h => by
    obtain ⟨n1, n2⟩ := List.nodup_cons.mp nd
    unfold othersP
    by_cases e : x = nm
    · subst e
      rw [List.filter_cons, if_neg (by simp), List.filter_eq_self.mpr fun y hy => by simp; exact fun z => n1 (z ▸ hy)]
      rfl
    · rw [List.filter_cons, if_pos (by simp [e])]
      have hm : nm ∈ r := (List.mem_cons.mp h).resolve_left fun z => e z.symm
      have := others_len n2 hm
      unfold othersP at this
      rw [List.length_cons, List.length_cons]
      omega
section
variable {P : Program} {w : World} {K : PySem.W.Frag} {mg : Str → Option Value} {base : Heap} {CV CC CE : Addr}
theorem scCInit : FnScope ["self", "names", "seed", "name"] ["self", "names", "seed"] (defScope sCInit) := ⟨rfl, rfl, rfl, by decide +kernel, rfl, by decide +kernel, by decide +kernel⟩
theorem ok_CInit {f : Addr} {fd : FuncData} (F : FunD K "__init__" "Crowd.__init__" (defArgs sCInit) (defBody sCInit) (defScope sCInit) [.int 1] [] f fd) (X : TxtCr K mg CC) (T : TxtS mg) (c_View : Mak P w K mg base 1 "View" CV (spVInit CV) []) : FnOk P w K mg base CX0 3 f fd ["self", "names", "seed"] (spCInit CC CV) := by
  refine funD_ok0 F scCInit (fun vs H Q E h => ?_) (fun cdv A outer s H vs Q E hr h => ?_)
  · obtain ⟨x, dx, na, ns, t, R, rfl, _⟩ := h
    rfl
  · obtain ⟨x, dx, na, ns, t, R, rfl, hL, hna, nd, hz, hs, k⟩ := h
    have c1 := X.cl
    have f1 := X.n "views" (by decide +kernel)
    have f2 := X.n "down" (by decide +kernel)
    have f3 := X.n "turn" (by decide +kernel)
    refine ⟨_, (pss_cons (ps_fld (pv 0) pe_dnewK rfl)
  (pss_cons (ps_for PassesOwn.never rfl (pi_list (pe_callB cr_sortedS (by rfl) T.sorted (by decide +kernel) (pa_cons (pv 1) pa_nil))) (pg_name (i := 3) scCInit.nd rfl (Or.inl rfl))
  (pss_one (ps_dput (hu_of hr) (pe_fld (pv 0) rfl) (pv 3) (pe_mk c_View hr (by decide) (by rfl) (pa_cons (pv 3) (pa_cons (pv 1) pa_nil))) rfl)))
  (pss_cons (ps_fld (pv 0) pe_dnewK rfl)
  (pss_one (ps_fld (pv 0) (pv 2) rfl))))), ?_⟩
    fail "go"
    refine ⟨na, ns, rfl, .of (hL.at (at_mem (.tail _ (.tail _ hna)))), Nat.lt_trans hz (by decide), fun ys q hp hys hq => ?_⟩
    obtain rfl := sortedS_uniq hp hys hs
    generalize hH : upd H q _ = H
    replace hL := Led.newH hL hq hH
    clear hH hq hp hys
    replace hL : ∃ vd : Addr, Led H ((q, .lst (ys.map V.str)) :: (vd, HO.dK []) :: (x, HO.ins CC dx (fz [Str.ofString "views"] [.ref vd])) :: R) := ⟨_, hL⟩
    obtain ⟨vd, hL⟩ := hL
    refine ⟨_, rfl, ⟨_, .of (hL.at ⟨0, rfl⟩)⟩, for_list (K := K) (a := q) (xs := ys.map V.str) (fun i σ H => Hold (∃ (ws : List VE) (v3 : Option V), σ = [some (.ref x), some (.ref na), some (.int t), v3] ∧ plsOf ws = (ys.take i).map (fun n => (n, initP ys)) ∧
      Led H ((q, .lst (ys.map V.str)) :: (vd, HO.dK (ws.map (kk veV))) :: (x, HO.ins CC dx (fz [Str.ofString "views"] [.ref vd])) :: (vsL CV ws ++ R)))) (.mk ⟨[], none, rfl, rfl, hL⟩) (fun i σ H _ h => ?_) (fun i y σ H hi h => ?_) (fun σ H h => ?_)⟩
    · obtain ⟨ws, v3, rfl, e, hL⟩ := h.out
      exact .of (hL.at ⟨0, rfl⟩)
    · obtain ⟨ws, v3, rfl, e, hL⟩ := h.out
      clear h
      rw [List.getElem?_map] at hi
      obtain ⟨n, hn, rfl⟩ := Option.map_eq_some_iff.mp hi
      have hnm2 : ws.map (·.1) = ys.take i := by
        rw [← pls_names, e]; simp [Function.comp_def]
      have hnin : n ∉ ws.map (·.1) := by
        rw [hnm2]
        intro hm
        obtain ⟨hi', e'⟩ := List.getElem?_eq_some_iff.mp hn
        obtain ⟨j, hj, ej⟩ := List.getElem_of_mem hm
        rw [List.getElem_take] at ej
        rw [List.length_take] at hj
        have := (List.getElem_inj nd).mp (ej.trans e'.symm)
        omega
      have hsz : ws.length < 60 := by
        have := congrArg List.length hnm2
        rw [List.length_map, List.length_take] at this
        omega
      fail "go"
      intro v dv hv hdv ne
      generalize hH : upd (upd H dv _) v _ = H
      replace hL := Led.made hL hv hdv ne hH
      clear hH hv hdv ne
      refine ⟨v, dv, na, n, ys, _, rfl, hL, .tail _ (.tail _ (.tail _ (List.mem_append_right _ hna))), List.mem_of_getElem? hn, nd, hz, hs, fun s rd gd H e2 hL => ⟨rfl, ?_⟩⟩
      replace hL : Led H ((q, .lst (ys.map V.str)) :: (vd, HO.dK (ws.map (kk veV))) :: (x, HO.ins CC dx (fz [Str.ofString "views"] [.ref vd])) :: (vsL CV (ws ++ [(n, (⟨v, dv, rd, gd, s⟩ : VD))]) ++ R)) := by
        (refine Led.le hL (fun a_ => ?_); simp only [cnt_nil, cnt_cons, cnt_app, List.map_append, List.map_cons, List.map_nil, List.flatMap_append, List.flatMap_cons, List.flatMap_nil, List.append_assoc, List.cons_append, List.nil_append, vsL, veL]; omega)
      fail "go"
      refine k_dputS hL (by fail "ix") (by rw [List.length_map]; exact Nat.lt_of_lt_of_le hsz (by decide)) (kk_put (vo := veV) (v := (⟨v, dv, rd, gd, s⟩ : VD)) (by rw [hnm2]; exact nd.sublist (List.take_sublist _ _))) (by fail "up") fun H hL => ?_
      dsimp only [List.set, List.cons_append, List.nil_append, List.append] at hL
      rw [aput_names_out hnin] at hL
      refine .mk ⟨ws ++ [(n, ⟨v, dv, rd, gd, s⟩)], _, rfl, ?_, hL⟩
      rw [List.take_add_one, hn, List.map_append, ← e]
      unfold plsOf
      rw [List.map_append]
      simp [e2]
    · obtain ⟨ws, v3, rfl, e, hL⟩ := h.out
      clear h
      rw [List.length_map, List.take_length] at e
      fail "go"
      refine k ws vd p _ e ?_
      unfold CrL nmC
      (refine Led.le hL (fun a_ => ?_); simp only [cnt_nil, cnt_cons, cnt_app, List.map_append, List.map_cons, List.map_nil, List.flatMap_append, List.flatMap_cons, List.flatMap_nil, List.append_assoc, List.cons_append, List.nil_append, List.map_nil]; omega)
theorem scPartner : FnScope ["self", "name", "others", "one"] ["self", "name"] (defScope sPartner) := ⟨rfl, rfl, rfl, by decide +kernel, rfl, by decide +kernel, by decide +kernel⟩
theorem ok_partner {f : Addr} {fd : FuncData} (F : Fun K "partner" "Crowd.partner" sPartner f fd) (X : TxtCr K mg CC) (T : TxtSN mg) : FnOk P w K mg base CX0 1 f fd ["self", "name"] (spPartner CC CV) := by
  refine F.ok scPartner (fun vs H Q E h => ?_) (fun cdv A outer s H vs Q E hr h => ?_)
  · obtain ⟨cr, dc, vd, dd, ws, dn, t, nm, R, rfl, _⟩ := h
    rfl
  · obtain ⟨cr, dc, vd, dd, ws, dn, t, nm, R, rfl, hL, ok, hnm, hz2, k⟩ := h
    have c1 := X.cl
    have f1 := X.n "views" (by decide +kernel)
    have f3 := X.n "turn" (by decide +kernel)
    refine ⟨_, (pss_cons (ps_setLc (i := 2) (own := [("one", 3)]) (g := gName 3) (by rfl) scPartner.nd rfl rfl (sw_true rfl rfl rfl (by decide +kernel)) (pi_list (pe_callB (call_sortedD rfl) (by rfl) T.sorted (by decide +kernel) (pa_cons (pe_fld (pv 0) rfl) pa_nil))) (blkOk_by (own := [("one", 3)]) (N := ["self", "name", "others", "one"]) (sc := (defScope sPartner)) (by decide +kernel)) (fun _ _ _ _ _ => (pg_name (i := 3) scPartner.nd rfl (Or.inl rfl))) (fun _ _ _ _ _ => (pts_one (pt_cmpR op_ne (pv 3) (pv 1) (nomark _)))) (fun _ _ _ _ _ => (pv 3)))
  (pss_one (ps_ret (pe_ix ix_list (pv 2) (pe_op op_mod (pe_fld (pv 0) rfl) (pe_callB call_len_seq (by rfl) T.len (by decide +kernel) (pa_cons (pv 2) pa_nil))) (fun _ _ => rfl))))), ?_⟩
    dsimp only [CrL] at hL
    have hz := ok.z
    rw [List.length_map] at hz
    fail "go"
    refine ⟨_, _, ws.map (·.1), rfl, .inl (hL.at (by fail "ix")), kk_names, Nat.lt_trans ok.z (by decide), fun ys p hp hys hf => ?_⟩
    obtain rfl := sortedS_uniq hp hys ok.s
    generalize hH : upd H p _ = H
    replace hL := Led.newH hL hf hH
    clear hH hf
    generalize hns : ws.map (·.1) = ns at hL
    refine ⟨_, rfl, ⟨_, .of (hL.at ⟨0, rfl⟩)⟩, fun D hD => lc_list (K := K) (a := p) (xs := ns.map V.str) (fun i H => Hold (Led H ((D, .lst ((othersP (ns.take i) nm).map .str)) :: (p, .lst (ns.map V.str)) :: (CrL CC CV cr dc vd dd ws dn t ++ R)))) (.mk (hL.new hD)) (fun i H _ h => ?_) (fun i x H hi h => ?_) (fun H h => ?_)⟩
    · exact .of (h.out.at ⟨1, rfl⟩)
    · have hL := h.out
      clear h
      rw [List.getElem?_map] at hi
      obtain ⟨y, hy, rfl⟩ := Option.map_eq_some_iff.mp hi
      have e1 : othersP (ns.take (i + 1)) nm = othersP (ns.take i) nm ++ (if y = nm then [] else [y]) := by
        unfold othersP
        rw [List.take_add_one, hy, List.filter_append]
        by_cases h : y = nm <;> simp [h]
      refine ⟨rfl, ?_⟩
      fail "go"
      refine ite_n (fun h1 => ?_) (fun h1 => ?_)
      · have h1 : ¬ y = nm := fun e => h1 (by rw [e])
        refine ⟨_, rfl, _, hL.at ⟨0, rfl⟩, ?_, ?_⟩
        · rw [List.length_map]
          have h2 : (othersP (ns.take i) nm).length ≤ (ns.take i).length := List.length_filter_le _ _
          rw [List.length_take] at h2
          have h3 : 60 ≤ sizeLine := by decide
          have h4 := ok.z
          rw [hns] at h4
          omega
        · rw [e1, if_neg h1, List.map_append]
          exact .mk (hL.set 0 rfl)
      · have h1 := V.str.inj h1
        rw [e1, if_pos h1, List.append_nil]
        exact .mk hL
    · have hL := h.out
      clear h
      rw [List.length_map, List.take_length] at hL
      have hlen := others_len ok.nd hnm
      rw [List.length_map] at hlen
      dsimp only [CrL] at hL
      rw [hns] at hlen
      fail "go"
      rw [List.length_map]
      have hm : 0 < ((othersP ns nm).length : Int) := by omega
      have h0 := Int.emod_nonneg t (Int.ne_of_gt hm)
      have h1 := Int.emod_lt_of_pos t hm
      have lk : atI ((othersP ns nm).map V.str) (t % ((othersP ns nm).length : Int)) = some (.str (partnerP ns nm t)) := by
        have e1 : (t % ((othersP ns nm).length : Int)) = (((t % ((othersP ns nm).length : Int)).toNat : Nat) : Int) := by omega
        unfold partnerP
        generalize (t % ((othersP ns nm).length : Int)).toNat = j at e1
        rw [e1]
        refine atI_nat ?_
        rw [List.getElem?_map]
        have hj : j < (othersP ns nm).length := by omega
        rw [List.getElem?_eq_getElem hj]
        rfl
      refine ⟨hm, ?_⟩
      refine k_ixL hL (by fail "ix") lk ?_
      rw [hns] at k
      refine k _ ?_
      dsimp only [CrL]
      exact hL.tail.tail
def spDown (CC CV : Addr) : Sp := fun vs H Q _ => ∃ (cr dc vd dd : Addr) (ws : List VE) (dn : List (Str × Unit)) (t : Int) (nm : Str) (b : Bool) (R : Lg), vs = [.ref cr, .str nm, .bl b] ∧ Led H (CrL CC CV cr dc vd dd ws dn t ++ R) ∧ nm ∈ ws.map (·.1) ∧ (dn.map (·.1)).Nodup ∧ dn.length < 60 ∧
  ∀ H', Led H' (CrL CC CV cr dc vd dd ws (if b = true then aput dn nm () else adel dn nm) t ++ R) → Q .non H'
def spDownX (CC CV CE : Addr) : Sp := fun vs H _ E => ∃ (cr dc vd dd : Addr) (ws : List VE) (dn : List (Str × Unit)) (t : Int) (nm : Str) (b : Bool) (R : Lg), vs = [.ref cr, .str nm, .bl b] ∧ Led H (CrL CC CV cr dc vd dd ws dn t ++ R) ∧ nm ∉ ws.map (·.1) ∧ E (.ref CE) none H
theorem scDown : FnScope ["self", "name", "down"] ["self", "name", "down"] (defScope sDown) := ⟨rfl, rfl, rfl, by decide +kernel, rfl, by decide +kernel, by decide +kernel⟩
theorem adel_none {α : Type} {k : Str} : ∀ {l : List (Str × α)}, aget l k = none → adel l k = l
  | [], _ => rfl
  | x :: r, h => by
    by_cases e : x.1 = k
    · rw [aget, if_pos e] at h; cases h
    · rw [aget, if_neg e] at h
      rw [adel, if_neg e, adel_none h]
theorem ws_val {ws : List VE} {k : Str} : valV (ws.map (kk veV)) (Sum.inr k) = (aget ws k).map fun d => V.ref d.v := by rw [kk_val]; rfl
theorem ok_down {f : Addr} {fd : FuncData} (F : Fun K "set_down" "Crowd.set_down" sDown f fd) (X : TxtCr K mg CC) : FnOk P w K mg base CX0 1 f fd ["self", "name", "down"] (spDown CC CV) := by
  refine F.ok scDown (fun vs H Q E h => ?_) (fun cdv A outer s H vs Q E hr h => ?_)
  · obtain ⟨cr, dc, vd, dd, ws, dn, t, nm, b, R, rfl, _⟩ := h
    rfl
  · obtain ⟨cr, dc, vd, dd, ws, dn, t, nm, b, R, rfl, hL, hnm, nd, hz, k⟩ := h
    have c1 := X.cl
    have f1 := X.n "views" (by decide +kernel)
    have f2 := X.n "down" (by decide +kernel)
    refine ⟨_, (pss_cons (ps_if (pt_cmp (pc_dnotin (hu_of hr) (pv 1) (pe_fld (pv 0) rfl)))
  pss_never
  pss_nil)
  (pss_one (ps_if (pt_val (pv 2))
  (pss_one (ps_dput (hu_of hr) (pe_fld (pv 0) rfl) (pv 1) pe_bl rfl))
  (pss_one (ps_expr (pe_dpop2 (pe_fld (pv 0) rfl) (pv 1) pe_non ⟨rfl, rfl, rfl, rfl⟩)))))), ?_⟩
    obtain ⟨d, hd⟩ := aget_in hnm
    dsimp only [CrL] at hL
    fail "go"
    refine k_dinS hL (by fail "ix") ?_
    rw [ws_val, hd]
    fail "go"
    cases b with
    | true =>
      fail "go"
      refine k_dputS hL (by fail "ix") (by rw [List.length_map]; exact Nat.lt_of_lt_of_le hz (by decide)) (kk_put (vo := dnV) (v := ()) nd) (by fail "up") fun H hL => ?_
      exact k _ hL
    | false =>
      fail "go"
      refine ⟨_, .inr nm, hL.at (by fail "ix"), rfl, fun v hv => ?_, fun hn => ?_⟩
      · rw [kk_drop nd]
        fail "gup"
        exact k _ hL
      · rw [kk_val] at hn
        refine k _ ?_
        rw [if_neg (by decide), adel_none (by cases h : aget dn nm with | none => rfl | some _ => rw [h] at hn; cases hn)]
        exact hL
theorem ok_downX {f : Addr} {fd : FuncData} (F : Fun K "set_down" "Crowd.set_down" sDown f fd) (X : TxtCr K mg CC) (T : ExcT K mg "MachineError" CE) : FnOk P w K mg base (L2.CX P w) 1 f fd ["self", "name", "down"] (spDownX CC CV CE) := by
  refine F.okX scDown (fun vs H Q E h => ?_) (fun cdv A outer s H vs Q E hr h => ?_)
  · obtain ⟨cr, dc, vd, dd, ws, dn, t, nm, b, R, rfl, _⟩ := h
    rfl
  · obtain ⟨cr, dc, vd, dd, ws, dn, t, nm, b, R, rfl, hL, hnm, k⟩ := h
    have c1 := X.cl
    have f1 := X.n "views" (by decide +kernel)
    refine ⟨_, pss_cons (ps_if (pt_cmp (pc_dnotin (hu_of hr) (pv 1) (pe_fld (pv 0) rfl))) (pss_one (ps_raiseT T rfl (takes_of rfl rfl rfl (E := E) rfl) rfl)) pss_nil) pss_never, ?_⟩
    dsimp only [CrL] at hL
    fail "go"
    refine k_dinS hL (by fail "ix") ?_
    rw [ws_val, aget_none hnm]
    fail "go"
    refine ite_t (B := True) (by rfl) ?_
    exact k
end
end Sd


namespace Sd
open PySem L2
/-! ### gossip, plain -/
def cntP (p : Pl) (k : Str) : Int := match aget p.rows k with
  | some (c, _) => c
  | none => 0
def tickP (nm : Str) (p : Pl) : Pl := { p with time := p.time + 1, rows := aput p.rows nm (cntP p nm + 1, p.time + 1) }
def newsP (ns : List Str) (p : Pl) : List (Str × Int) := ns.map fun y => (y, cntP p y)
def getP (vs : List (Str × Pl)) (k : Str) : Pl := (aget vs k).getD ⟨0, [], []⟩
def meet1 (ns : List Str) (vs : List (Str × Pl)) (a b : Str) : List (Str × Pl) := aput vs b (hearP (getP vs b) (newsP ns (getP vs a)))
def tick1 (v : List (Str × Pl)) (n : Str) : List (Str × Pl) := aput v n (tickP n (getP v n))
def tell1 (ns dn : List Str) (t : Int) (v : List (Str × Pl)) (n : Str) : List (Str × Pl) := if partnerP ns n t ∈ dn then v else meet1 ns (meet1 ns v n (partnerP ns n t)) (partnerP ns n t) n
def upOf (ns dn : List Str) : List Str := ns.filter fun k => decide (k ∉ dn)
def tellP (ns dn : List Str) (vs : List (Str × Pl)) (t : Int) : List (Str × Pl) := 
  if 1 < ns.length then (upOf ns dn).foldl (tell1 ns dn t) ((upOf ns dn).foldl tick1 vs) else (upOf ns dn).foldl tick1 vs
def roundsP (ns dn : List Str) (vs : List (Str × Pl)) (t : Int) : Nat → List (Str × Pl)
  | 0 => vs
  | n + 1 => tellP ns dn (roundsP ns dn vs t n) (t + (n + 1 : Nat))
theorem get_put_same {vs : List (Str × Pl)} {k : Str} {p : Pl} : getP (aput vs k p) k = p := by unfold getP; rw [aget_put, if_pos rfl]; rfl
theorem get_put_ne {vs : List (Str × Pl)} {k j : Str} {p : Pl} (h : k ≠ j) : getP (aput vs k p) j = getP vs j := by unfold getP; rw [aget_put, if_neg h]
structure VI (ns dn : List Str) (k : Str) (T : Int) (L : Str → Int) (p : Pl) : Prop where
  nm : p.rows.map (·.1) = ns
  gn : p.gone = []
  tm : p.time = T
  row : ∀ j ∈ ns, ∃ c s, aget p.rows j = some (c, s) ∧ 0 ≤ c ∧ c ≤ s ∧ s ≤ T ∧ (j ∈ dn → c = 0 ∧ s = 0) ∧ (j = k → c = T ∧ s = T) ∧ L j ≤ s
section
variable {ns dn : List Str} {k : Str} {T : Int} {L : Str → Int} {p : Pl}
theorem VI.mono {L' : Str → Int} (h : VI ns dn k T L p) (e : ∀ j, L' j ≤ L j) : VI ns dn k T L' p := ⟨h.nm, h.gn, h.tm, fun j hj => by
  obtain ⟨c, s, h1, h2, h3, h4, h5, h6, h7⟩ := h.row j hj
  exact ⟨c, s, h1, h2, h3, h4, h5, h6, Int.le_trans (e j) h7⟩⟩
theorem VI.tick (h : VI ns dn k T L p) (hk : k ∈ ns) (hd : k ∉ dn) (h0 : 0 ≤ T) (hl : ∀ j, L j ≤ T) : VI ns dn k (T + 1) L (tickP k p) := by
  obtain ⟨c0, s0, g1, g2, g3, g4, g5, g6, g7⟩ := h.row k hk
  obtain ⟨gc, gs⟩ := g6 rfl
  have e : cntP p k = T := by unfold cntP; rw [g1]; exact gc
  refine ⟨?_, h.gn, by unfold tickP; rw [h.tm], fun j hj => ?_⟩
  · show (aput p.rows k _).map (·.1) = ns
    rw [aput_names_in (by rw [h.nm]; exact hk)]; exact h.nm
  · show ∃ c s, aget (aput p.rows k (cntP p k + 1, p.time + 1)) j = some (c, s) ∧ _
    rw [aget_put, e, h.tm]
    by_cases q : k = j
    · subst q
      rw [if_pos rfl]
      exact ⟨_, _, rfl, by omega, by omega, by omega, fun z => absurd z hd, fun _ => ⟨rfl, rfl⟩, by have := hl k; omega⟩
    · rw [if_neg q]
      obtain ⟨c, s, h1, h2, h3, h4, h5, h6, h7⟩ := h.row j hj
      exact ⟨c, s, h1, h2, h3, by omega, h5, fun z => absurd z.symm q, h7⟩
theorem VI.hear1 {j : Str} {c' : Int} (h : VI ns dn k T L p) (hj : j ∈ ns) (h0 : 0 ≤ c') (h1 : c' ≤ T) (hd : j ∈ dn → c' = 0) : VI ns dn k T (fun i => if i = j ∧ c' = T then T else L i) (Sd.hear1 p (j, c')) := by
  obtain ⟨c, s, e1, e2, e3, e4, e5, e6, e7⟩ := h.row j hj
  have ek : knownP p j = c := by unfold knownP; rw [e1]
  unfold Sd.hear1
  show VI ns dn k T _ (if knownP p j < c' then _ else _)
  rw [ek]
  by_cases q : c < c'
  · rw [if_pos q]
    refine ⟨?_, h.gn, h.tm, fun i hi => ?_⟩
    · show (aput p.rows j _).map (·.1) = ns
      rw [aput_names_in (by rw [h.nm]; exact hj)]; exact h.nm
    · show ∃ c s, aget (aput p.rows j (c', p.time)) i = some (c, s) ∧ _
      rw [aget_put, h.tm]
      by_cases z : j = i
      · subst z
        rw [if_pos rfl]
        refine ⟨_, _, rfl, h0, h1, Int.le_refl _, fun y => ?_, fun y => ?_, ?_⟩
        · have := hd y; omega
        · have := (e6 y).1; omega
        · show (if j = j ∧ c' = T then T else L j) ≤ T
          split
          · exact Int.le_refl _
          · omega
      · rw [if_neg z]
        obtain ⟨c2, s2, g1, g2, g3, g4, g5, g6, g7⟩ := h.row i hi
        refine ⟨c2, s2, g1, g2, g3, g4, g5, g6, ?_⟩
        rw [if_neg (fun y => z y.1.symm)]; exact g7
  · rw [if_neg q]
    refine ⟨h.nm, h.gn, h.tm, fun i hi => ?_⟩
    obtain ⟨c2, s2, g1, g2, g3, g4, g5, g6, g7⟩ := h.row i hi
    refine ⟨c2, s2, g1, g2, g3, g4, g5, g6, ?_⟩
    split
    · rename_i y
      obtain ⟨y1, y2⟩ := y
      subst y1
      rw [e1] at g1
      cases g1
      omega
    · exact g7
theorem VI.hear {news : List (Str × Int)} (h : VI ns dn k T L p) (hn : ∀ x ∈ news, x.1 ∈ ns ∧ 0 ≤ x.2 ∧ x.2 ≤ T ∧ (x.1 ∈ dn → x.2 = 0)) : VI ns dn k T (fun i => if (i, T) ∈ news then T else L i) (hearP p news) := by
  unfold hearP
  induction news generalizing p L with
  | nil => exact h.mono fun j => by simp
  | cons x r ih =>
    obtain ⟨a1, a2, a3, a4⟩ := hn x List.mem_cons_self
    have := ih (h.hear1 a1 a2 a3 a4) fun y hy => hn y (.tail _ hy)
    refine this.mono fun j => ?_
    by_cases z : (j, T) ∈ r
    · rw [if_pos z, if_pos (.tail _ z)]; exact Int.le_refl _
    · rw [if_neg z]
      by_cases y : (j, T) ∈ x :: r
      · rw [if_pos y]
        rcases List.mem_cons.mp y with e | e
        · rw [if_pos]
          · exact Int.le_refl _
          · rw [← e]; exact ⟨rfl, rfl⟩
        · exact absurd e z
      · rw [if_neg y, if_neg]
        · exact Int.le_refl _
        · rintro ⟨e1, e2⟩
          exact y (by rw [e1, ← e2]; exact List.mem_cons_self)
theorem VI.news (h : VI ns dn k T L p) (hk : k ∈ ns) : (∀ x ∈ newsP ns p, x.1 ∈ ns ∧ 0 ≤ x.2 ∧ x.2 ≤ T ∧ (x.1 ∈ dn → x.2 = 0)) ∧ (k, T) ∈ newsP ns p := by
  refine ⟨fun x hx => ?_, ?_⟩
  · obtain ⟨j, hj, rfl⟩ := List.mem_map.mp hx
    obtain ⟨c, s, h1, h2, h3, h4, h5, h6, h7⟩ := h.row j hj
    have : cntP p j = c := by unfold cntP; rw [h1]
    dsimp only
    rw [this]
    exact ⟨hj, h2, by omega, fun z => (h5 z).1⟩
  · obtain ⟨c, s, h1, h2, h3, h4, h5, h6, h7⟩ := h.row k hk
    refine List.mem_map.mpr ⟨k, hk, ?_⟩
    have : cntP p k = c := by unfold cntP; rw [h1]
    rw [this, (h6 rfl).1]
end
/-- all views -/
structure GI (ns dn : List Str) (T : Int) (M : Str → Str → Int) (vs : List (Str × Pl)) : Prop where
  nm : vs.map (·.1) = ns
  up : ∀ k ∈ ns, k ∉ dn → VI ns dn k T (M k) (getP vs k)
  dn : ∀ k ∈ ns, k ∈ dn → getP vs k = initP ns
section
variable {ns dn : List Str} {T : Int} {M : Str → Str → Int} {vs : List (Str × Pl)}
theorem GI.meet1 {a b : Str} (h : GI ns dn T M vs) (ha : a ∈ ns) (hb : b ∈ ns) (ha2 : a ∉ dn) (hb2 : b ∉ dn) : GI ns dn T (fun k j => if k = b ∧ j = a then T else M k j) (Sd.meet1 ns vs a b) := by
  obtain ⟨n1, n2⟩ := (h.up a ha ha2).news ha
  refine ⟨?_, fun k hk hk2 => ?_, fun k hk hk2 => ?_⟩
  · show (aput vs b _).map (·.1) = ns
    rw [aput_names_in (by rw [h.nm]; exact hb)]; exact h.nm
  · unfold Sd.meet1
    by_cases e : b = k
    · subst e
      rw [get_put_same]
      refine ((h.up b hb hb2).hear n1).mono fun j => ?_
      by_cases z : j = a
      · subst z
        rw [if_pos ⟨rfl, rfl⟩, if_pos n2]; exact Int.le_refl _
      · rw [if_neg (fun y => z y.2)]
        split
        · obtain ⟨c, s, h1, h2, h3, h4, h5, h6, h7⟩ := (h.up b hb hb2).row j (by
            rename_i y
            exact (n1 _ y).1)
          omega
        · exact Int.le_refl _
    · rw [get_put_ne e]
      refine (h.up k hk hk2).mono fun j => ?_
      rw [if_neg (fun y => e y.1.symm)]; exact Int.le_refl _
  · unfold Sd.meet1
    rw [get_put_ne (fun e => hb2 (by rw [e]; exact hk2))]
    exact h.dn k hk hk2
theorem GI.mono {M' : Str → Str → Int} (h : GI ns dn T M vs) (e : ∀ k j, M' k j ≤ M k j) : GI ns dn T M' vs := ⟨h.nm, fun k hk h2 => (h.up k hk h2).mono (e k), h.dn⟩
theorem GI.le {k j : Str} (h : GI ns dn T M vs) (hk : k ∈ ns) (h2 : k ∉ dn) (hj : j ∈ ns) : M k j ≤ T := by
  obtain ⟨c, s, e1, e2, e3, e4, e5, e6, e7⟩ := (h.up k hk h2).row j hj
  omega
theorem aput_nm {α : Type} {l : List (Str × α)} {k : Str} {v : α} {ns : List Str} (h : l.map (·.1) = ns) (hk : k ∈ ns) : (aput l k v).map (·.1) = ns := by
  rw [aput_names_in (by rw [h]; exact hk)]; exact h
/-- the ticks of a round -/
theorem tick_fold : ∀ (l : List Str) (vs : List (Str × Pl)), l.Nodup → (∀ k ∈ l, k ∈ ns) → vs.map (·.1) = ns →
    (l.foldl tick1 vs).map (·.1) = ns ∧ ∀ k, getP (l.foldl tick1 vs) k = if k ∈ l then tickP k (getP vs k) else getP vs k
  | [], vs, _, _, h => ⟨h, fun k => by simp⟩
  | x :: r, vs, nd, hl, h => by
    obtain ⟨n1, n2⟩ := List.nodup_cons.mp nd
    obtain ⟨h1, h2⟩ := tick_fold r (tick1 vs x) n2 (fun k hk => hl k (.tail _ hk)) (aput_nm h (hl x List.mem_cons_self))
    refine ⟨h1, fun k => ?_⟩
    rw [List.foldl_cons, h2]
    by_cases e : k = x
    · subst e
      rw [if_neg n1, if_pos List.mem_cons_self]
      exact get_put_same
    · have e2 : getP (tick1 vs x) k = getP vs k := get_put_ne fun z => e z.symm
      rw [e2]
      by_cases hk : k ∈ r
      · rw [if_pos hk, if_pos (.tail _ hk)]
      · rw [if_neg hk, if_neg (fun z => (List.mem_cons.mp z).elim e hk)]
theorem up_mem {k : Str} : k ∈ upOf ns dn ↔ k ∈ ns ∧ k ∉ dn := by unfold upOf; simp
theorem GI.tick (nd : ns.Nodup) (h0 : 0 ≤ T) (h : GI ns dn T M vs) (hM : ∀ k j, M k j ≤ T) : GI ns dn (T + 1) M ((upOf ns dn).foldl tick1 vs) := by
  obtain ⟨h1, h2⟩ := tick_fold (ns := ns) (upOf ns dn) vs (nd.sublist List.filter_sublist) (fun k hk => (up_mem.mp hk).1) h.nm
  refine ⟨h1, fun k hk hd => ?_, fun k hk hd => ?_⟩
  · rw [h2, if_pos (up_mem.mpr ⟨hk, hd⟩)]
    exact (h.up k hk hd).tick hk hd h0 (hM k)
  · rw [h2, if_neg (fun z => (up_mem.mp z).2 hd)]
    exact h.dn k hk hd
theorem partner_mem {nm : Str} {t : Int} (nd : ns.Nodup) (h : nm ∈ ns) (hz : 1 < ns.length) : partnerP ns nm t ∈ ns ∧ partnerP ns nm t ≠ nm := by
  have hl := others_len nd h
  have hm : 0 < ((othersP ns nm).length : Int) := by omega
  have a0 := Int.emod_nonneg t (Int.ne_of_gt hm)
  have a1 := Int.emod_lt_of_pos t hm
  refine others_mem.mp ?_
  unfold partnerP
  have hj : (t % ((othersP ns nm).length : Int)).toNat < (othersP ns nm).length := by omega
  rw [List.getElem?_eq_getElem hj]
  exact List.getElem_mem hj
theorem GI.tell {t : Int} (nd : ns.Nodup) (hz : 1 < ns.length) : ∀ (l : List Str) (M : Str → Str → Int) (vs : List (Str × Pl)), (∀ k ∈ l, k ∈ ns ∧ k ∉ dn) → GI ns dn T M vs →
    GI ns dn T (fun k j => if k ∈ l ∧ partnerP ns k t = j ∧ j ∉ dn then T else M k j) (l.foldl (tell1 ns dn t) vs)
  | [], M, vs, _, h => h.mono fun k j => by simp
  | x :: r, M, vs, hl, h => by
    obtain ⟨hx, hxd⟩ := hl x List.mem_cons_self
    obtain ⟨p1, p2⟩ := partner_mem (t := t) nd hx hz
    rw [List.foldl_cons]
    have hr : ∀ k ∈ r, k ∈ ns ∧ k ∉ dn := fun k hk => hl k (.tail _ hk)
    unfold tell1
    by_cases q : partnerP ns x t ∈ dn
    · rw [if_pos q]
      refine (GI.tell nd hz r M vs hr h).mono fun k j => ?_
      by_cases z : k ∈ r ∧ partnerP ns k t = j ∧ j ∉ dn
      · rw [if_pos z, if_pos ⟨.tail _ z.1, z.2⟩]; exact Int.le_refl _
      · rw [if_neg z]
        by_cases y : k ∈ x :: r ∧ partnerP ns k t = j ∧ j ∉ dn
        · obtain ⟨y1, y2, y3⟩ := y
          rcases List.mem_cons.mp y1 with e | e
          · subst e; subst y2; exact absurd q y3
          · exact absurd ⟨e, y2, y3⟩ z
        · rw [if_neg y]; exact Int.le_refl _
    · rw [if_neg q]
      have g1 := h.meet1 hx p1 hxd q
      have g2 := g1.meet1 p1 hx q hxd
      refine (GI.tell nd hz r _ _ hr g2).mono fun k j => ?_
      by_cases z : k ∈ r ∧ partnerP ns k t = j ∧ j ∉ dn
      · rw [if_pos z]
        split
        · exact Int.le_refl _
        · rename_i y
          exact absurd ⟨.tail _ z.1, z.2⟩ y
      · rw [if_neg z]
        by_cases y : k ∈ x :: r ∧ partnerP ns k t = j ∧ j ∉ dn
        · obtain ⟨y1, y2, y3⟩ := y
          rcases List.mem_cons.mp y1 with e | e
          · subst e; subst y2
            rw [if_pos ⟨hl k List.mem_cons_self |>.1 |> fun _ => List.mem_cons_self, rfl, y3⟩, if_pos ⟨rfl, rfl⟩]; exact Int.le_refl _
          · exact absurd ⟨e, y2, y3⟩ z
        · rw [if_neg y]
          split
          · rename_i w
            obtain ⟨w1, w2⟩ := w
            rw [w1, w2]
            exact h.le hx hxd p1
          · split
            · rename_i w
              obtain ⟨w1, w2⟩ := w
              rw [w1, w2]
              exact h.le p1 q hx
            · exact Int.le_refl _
end
theorem aget_const {α : Type} {v : α} {k : Str} : ∀ {ns : List Str}, k ∈ ns → aget (ns.map fun n => (n, v)) k = some v
  | x :: r, h => by
    by_cases z : x = k
    · rw [List.map_cons, aget, if_pos z]
    · rw [List.map_cons, aget, if_neg z]
      exact aget_const ((List.mem_cons.mp h).resolve_left fun y => z y.symm)
/-- the rounds: who was whose partner -/
structure RI (ns dn : List Str) (t0 : Int) (r : Nat) (vs : List (Str × Pl)) : Prop where
  ex : ∃ M : Str → Str → Int, GI ns dn r M vs ∧ (∀ k j, M k j ≤ r) ∧ ∀ (k j : Str) (q : Nat), 1 ≤ q → q ≤ r → k ∈ ns → k ∉ dn → 1 < ns.length → partnerP ns k (t0 + q) = j → j ∉ dn → (q : Int) ≤ M k j
theorem rounds_RI {ns dn : List Str} {t0 : Int} {vs : List (Str × Pl)} (nd : ns.Nodup) (h0 : vs = ns.map fun n => (n, initP ns)) : ∀ r, RI ns dn t0 r (roundsP ns dn vs t0 r)
  | 0 => by
    have e : ∀ k ∈ ns, getP vs k = initP ns := fun k hk => by
      unfold getP
      have : aget vs k = some (initP ns) := by rw [h0]; exact aget_const hk
      rw [this]; rfl
    refine ⟨fun _ _ => 0, ⟨by rw [roundsP, h0]; simp [Function.comp_def], fun k hk hd => ?_, fun k hk hd => e k hk⟩, fun _ _ => Int.le_refl _, fun k j q h1 h2 => by omega⟩
    show VI ns dn k 0 _ (getP vs k)
    rw [e k hk]
    refine ⟨by simp [initP, Function.comp_def], rfl, rfl, fun j hj => ⟨0, 0, ?_, by omega, by omega, by omega, fun _ => ⟨rfl, rfl⟩, fun _ => ⟨rfl, rfl⟩, by omega⟩⟩
    exact aget_const (v := ((0 : Int), (0 : Int))) hj
  | r + 1 => by
    obtain ⟨M, g, hM, hq⟩ := (rounds_RI (dn := dn) (t0 := t0) nd h0 r).ex
    have g1 := g.tick nd (by omega) hM
    rw [roundsP]
    unfold tellP
    by_cases hz : 1 < ns.length
    · rw [if_pos hz]
      have g2 := GI.tell (t := t0 + (r + 1 : Nat)) nd hz (upOf ns dn) M _ (fun k hk => up_mem.mp hk) g1
      have e1 : ((r : Int) + 1) = ((r + 1 : Nat) : Int) := by omega
      rw [e1] at g2
      refine ⟨_, g2, fun k j => ?_, fun k j q h1 h2 hk hd _ hp hj => ?_⟩
      · split
        · exact Int.le_refl _
        · have := hM k j; omega
      · by_cases z : q = r + 1
        · subst z
          rw [if_pos ⟨up_mem.mpr ⟨hk, hd⟩, hp, hj⟩]; exact Int.le_refl _
        · have := hq k j q h1 (by omega) hk hd hz hp hj
          split
          · omega
          · exact this
    · rw [if_neg hz]
      refine ⟨M, g1, fun k j => by have := hM k j; omega, fun k j q h1 h2 hk hd h3 => absurd h3 hz⟩
theorem mod_meet {t : Int} {m i : Nat} (h1 : m ≤ 5) (h2 : i < m) : ∃ q : Nat, 116 ≤ q ∧ q ≤ 120 ∧ ((t + q) % (m : Int)).toNat = i := by
  rcases (by omega : m = 1 ∨ m = 2 ∨ m = 3 ∨ m = 4 ∨ m = 5) with rfl | rfl | rfl | rfl | rfl
  · exact ⟨120, by omega, by omega, by omega⟩
  · refine ⟨(120 - (t + 120 - i) % 2).toNat, by omega, by omega, by omega⟩
  · refine ⟨(120 - (t + 120 - i) % 3).toNat, by omega, by omega, by omega⟩
  · refine ⟨(120 - (t + 120 - i) % 4).toNat, by omega, by omega, by omega⟩
  · refine ⟨(120 - (t + 120 - i) % 5).toNat, by omega, by omega, by omega⟩
theorem partner_hits {ns : List Str} {k j : Str} {t : Int} (nd : ns.Nodup) (hk : k ∈ ns) (hj : j ∈ ns) (ne : j ≠ k) (hz : ns.length ≤ 6) : ∃ q : Nat, 116 ≤ q ∧ q ≤ 120 ∧ partnerP ns k (t + q) = j := by
  have hl := others_len nd hk
  have hm := others_mem.mpr ⟨hj, ne⟩
  obtain ⟨i, hi, e⟩ := List.getElem_of_mem hm
  obtain ⟨q, q1, q2, q3⟩ := mod_meet (t := t) (m := (othersP ns k).length) (i := i) (by omega) hi
  refine ⟨q, q1, q2, ?_⟩
  unfold partnerP
  rw [q3, List.getElem?_eq_getElem hi, e]
  rfl
theorem gossip_end {ns dn : List Str} {t0 : Int} {vs : List (Str × Pl)} (nd : ns.Nodup) (hz : ns.length ≤ 6) (R : RI ns dn t0 120 vs) {k j : Str} (hk : k ∈ ns) (hkd : k ∉ dn) (hj : j ∈ ns) :
    stateP (getP vs k) k j = if j ∈ dn then Str.ofString "dead" else Str.ofString "alive" := by
  obtain ⟨M, g, hM, hq⟩ := R.ex
  have v := g.up k hk hkd
  obtain ⟨c, s, e1, e2, e3, e4, e5, e6, e7⟩ := v.row j hj
  unfold stateP
  by_cases z : j = k
  · rw [if_pos z, if_neg (by rw [z]; exact hkd)]
  · rw [if_neg z, e1]
    show (if (getP vs k).time - s < 6 then _ else _) = _
    rw [v.tm]
    by_cases w : j ∈ dn
    · have := (e5 w).2
      rw [if_pos w, if_neg (by omega), if_neg (by omega)]
    · rw [if_neg w]
      have hlen : 1 < ns.length := by
        have := others_len nd hk
        have h2 := List.length_pos_of_mem (others_mem.mpr ⟨hj, z⟩)
        omega
      obtain ⟨q, q1, q2, q3⟩ := partner_hits (t := t0) nd hk hj z hz
      have := hq k j q (by omega) q2 hk hkd hlen q3 w
      rw [if_pos (by omega)]
/-- time goes on for those that are up -/
theorem hear_time {p : Pl} : ∀ {news : List (Str × Int)}, (hearP p news).time = p.time := by
  intro news
  unfold hearP
  induction news generalizing p with
  | nil => rfl
  | cons x r ih =>
    rw [List.foldl_cons, ih]
    unfold hear1
    split <;> rfl
theorem meet_time {ns : List Str} {vs : List (Str × Pl)} {a b k : Str} : (getP (meet1 ns vs a b) k).time = (getP vs k).time := by
  unfold meet1
  by_cases e : b = k
  · subst e
    rw [get_put_same, hear_time]
  · rw [get_put_ne e]
theorem tell_time {ns dn : List Str} {t : Int} {k : Str} : ∀ (l : List Str) (vs : List (Str × Pl)), (getP (l.foldl (tell1 ns dn t) vs) k).time = (getP vs k).time
  | [], _ => rfl
  | x :: r, vs => by
    rw [List.foldl_cons, tell_time r]
    unfold tell1
    split
    · rfl
    · rw [meet_time, meet_time]
theorem round_time {ns dn : List Str} {t : Int} {vs : List (Str × Pl)} {k : Str} (nd : ns.Nodup) (hn : vs.map (·.1) = ns) (hk : k ∈ ns) (hd : k ∉ dn) : (getP (tellP ns dn vs t) k).time = (getP vs k).time + 1 := by
  obtain ⟨h1, h2⟩ := tick_fold (ns := ns) (upOf ns dn) vs (nd.sublist List.filter_sublist) (fun k hk => (up_mem.mp hk).1) hn
  have e : (getP ((upOf ns dn).foldl tick1 vs) k).time = (getP vs k).time + 1 := by
    rw [h2, if_pos (up_mem.mpr ⟨hk, hd⟩)]; rfl
  unfold tellP
  split
  · rw [tell_time]; exact e
  · exact e
end Sd


set_option linter.unusedVariables false
namespace Sd
open PySem L2
open C8 (Cal Met Mak pe_c pe_mk pe_mt pe_mt0 pss_cut tCut)
set_option linter.unusedSimpArgs false
set_option pp.deepTerms false
set_option pp.deepTerms.threshold 12
set_option hygiene false
local macro_rules | `(tactic| fail "nd") => `(tactic| first | assumption | decide +kernel)
local macro_rules | `(tactic| fail "ix") => `(tactic| first | exact ⟨0, rfl⟩ | exact ⟨1, rfl⟩ | exact ⟨2, rfl⟩ | exact ⟨3, rfl⟩ | exact ⟨4, rfl⟩ | exact ⟨5, rfl⟩ | exact ⟨6, rfl⟩ | exact ⟨7, rfl⟩ | exact ⟨8, rfl⟩ | exact ⟨9, rfl⟩ | exact ⟨10, rfl⟩ | exact ⟨11, rfl⟩ | exact ⟨12, rfl⟩ | exact ⟨13, rfl⟩ | exact ⟨14, rfl⟩ | exact ⟨15, rfl⟩ | exact ⟨16, rfl⟩ | exact ⟨17, rfl⟩ | exact ⟨18, rfl⟩ | assumption)
local macro_rules | `(tactic| fail "up") => `(tactic| first | exact ⟨0, rfl, rfl⟩ | exact ⟨1, rfl, rfl⟩ | exact ⟨2, rfl, rfl⟩ | exact ⟨3, rfl, rfl⟩ | exact ⟨4, rfl, rfl⟩ | exact ⟨5, rfl, rfl⟩ | exact ⟨6, rfl, rfl⟩ | exact ⟨7, rfl, rfl⟩ | exact ⟨8, rfl, rfl⟩ | exact ⟨9, rfl, rfl⟩ | exact ⟨10, rfl, rfl⟩ | exact ⟨11, rfl, rfl⟩ | exact ⟨12, rfl, rfl⟩ | exact ⟨13, rfl, rfl⟩ | exact ⟨14, rfl, rfl⟩ | exact ⟨15, rfl, rfl⟩ | exact ⟨16, rfl, rfl⟩ | assumption)
local macro_rules | `(tactic| fail "lkF") => `(tactic| first | assumption | exact fz_at 0 (by fail "nd") rfl rfl | exact fz_at 1 (by fail "nd") rfl rfl | exact fz_at 2 (by fail "nd") rfl rfl | exact fz_at 3 (by fail "nd") rfl rfl | exact fz_at 4 (by fail "nd") rfl rfl | exact fz_at 5 (by fail "nd") rfl rfl | exact fz_at 6 (by fail "nd") rfl rfl | exact fz_at 7 (by fail "nd") rfl rfl)
local macro_rules | `(tactic| fail "lkD") => `(tactic| first | assumption | exact dz_at 0 (by fail "nd") rfl rfl | exact dz_at 1 (by fail "nd") rfl rfl | exact dz_at 2 (by fail "nd") rfl rfl | exact dz_at 3 (by fail "nd") rfl rfl | exact dz_at 4 (by fail "nd") rfl rfl)
local macro_rules | `(tactic| fail "ptF") => `(tactic| first | assumption | exact fz_put 0 (by fail "nd") rfl (Nat.le_of_ble_eq_true rfl) | exact fz_put 1 (by fail "nd") rfl (Nat.le_of_ble_eq_true rfl) | exact fz_put 2 (by fail "nd") rfl (Nat.le_of_ble_eq_true rfl) | exact fz_put 3 (by fail "nd") rfl (Nat.le_of_ble_eq_true rfl) | exact fz_put 4 (by fail "nd") rfl (Nat.le_of_ble_eq_true rfl) | exact fz_put 5 (by fail "nd") rfl (Nat.le_of_ble_eq_true rfl) | exact fz_put 6 (by fail "nd") rfl (Nat.le_of_ble_eq_true rfl) | exact fz_put 7 (by fail "nd") rfl (Nat.le_of_ble_eq_true rfl) | exact fz_new (by decide +kernel) rfl)
local macro_rules | `(tactic| fail "ptD") => `(tactic| first | assumption | exact dz_put 0 (by fail "nd") rfl (Nat.le_of_ble_eq_true rfl) | exact dz_put 1 (by fail "nd") rfl (Nat.le_of_ble_eq_true rfl) | exact dz_put 2 (by fail "nd") rfl (Nat.le_of_ble_eq_true rfl) | exact dz_put 3 (by fail "nd") rfl (Nat.le_of_ble_eq_true rfl) | exact dz_put 4 (by fail "nd") rfl (Nat.le_of_ble_eq_true rfl))
local macro_rules | `(tactic| fail "sz") => `(tactic| first | assumption | exact (Nat.le_of_ble_eq_true rfl) | omega | decide)
local macro_rules | `(tactic| fail "sd") => `(tactic| first | rfl | assumption | decide | omega | (dsimp only; first | decide | omega) | exact .inr ⟨by decide, by decide⟩ | exact .inl ⟨by decide, by decide⟩ | exact ⟨by omega, by omega⟩ | exact .inl ⟨by omega, by omega⟩ | exact .inr ⟨by omega, by omega⟩ | exact ⟨by omega, by omega, by omega⟩)
local macro_rules | `(tactic| fail "cl") => `(tactic| (clear hH; dsimp only [List.set, List.cons_append, List.nil_append, List.append] at hL))
local macro_rules | `(tactic| fail "gn") => `(tactic| (intro p hp; generalize hH : upd H p _ = H; replace hL := Led.newH hL hp hH; clear hH hp))
local macro_rules | `(tactic| fail "gup") => `(tactic| (generalize hH : upd H _ _ = H; replace hL := Led.upU hL (by fail "up") hH; fail "cl"))
local macro_rules | `(tactic| fail "gmk") => `(tactic| (intro x dx hx hd ne; generalize hH : upd (upd H dx _) x _ = H; replace hL := Led.made hL hx hd ne hH; clear hH hx hd ne))
local macro_rules | `(tactic| fail "v") => `(tactic| refine ⟨_, rfl, ?_⟩)
local macro_rules | `(tactic| fail "i2") => `(tactic| refine ⟨_, _, rfl, rfl, ?_⟩)
local macro_rules | `(tactic| fail "go1") => `(tactic| first
  | refine ⟨_, rfl, ?_⟩
  | refine ⟨_, _, rfl, rfl, ?_⟩
  | refine ⟨_, _, rfl, ?_⟩
  | refine iteT ?_
  | refine iteF ?_
  | refine k_fld hL (by fail "ix") (by assumption) (by assumption) (by fail "lkF") ?_
  | refine k_dgetS hL (by fail "ix") (by fail "lkD") ?_
  | refine k_dgetI hL (by fail "ix") (by assumption) ?_
  | refine k_ixL hL (by fail "ix") (by first | rfl | assumption) ?_
  | refine k_ixT hL (by fail "ix") (by first | rfl | assumption) ?_
  | refine k_tyL hL (by fail "ix") ?_
  | refine k_isd hL (by fail "ix") ?_
  | (refine And.intro (by fail "sz") ?_; fail "gn")
  | refine And.intro (by fail "sd") ?_
  | fail "gn"
  | refine k_meth hL (by fail "ix") (by first | assumption | exact fz_no (by decide +kernel)) ?_
  | refine k_gtup hL (by fail "ix") rfl ?_
  | (refine k_popI hL (by fail "ix") (by assumption) ?_; fail "gup")
  | (refine k_listD hL (by fail "ix") ?_; fail "gn")
  | (refine ⟨_, _, _, _, rfl, rfl, hL.at (by fail "ix"), rfl, ?_⟩; fail "gup")
  | (refine ⟨_, _, _, rfl, rfl, hL.at (by fail "ix"), (by fail "sz"), ?_⟩; fail "gup")
  | (refine ⟨_, _, _, _, rfl, hL.at (by fail "ix"), by assumption, by assumption, Nat.lt_of_le_of_lt fz_len (by decide), ?_⟩; generalize hH : upd H _ _ = H; replace hL := Led.upF hL (by fail "up") (by fail "ptF") hH; fail "cl")
  | (refine ⟨_, _, hL.at (by fail "ix"), Nat.lt_of_le_of_lt fz_len (by decide), ?_⟩; generalize hH : upd H _ _ = H; replace hL := Led.upF hL (by fail "up") (by fail "ptF") hH; fail "cl")
  | (refine k_dputS hL (by fail "ix") (Nat.lt_of_le_of_lt dz_len (by decide)) (by fail "ptD") (by fail "up") ?_; clear hL; intro H hL; dsimp only [List.set, List.cons_append, List.nil_append, List.append] at hL)
  | refine k_lenL2 hL (by fail "ix") ?_
  | refine k_lenT2 hL (by fail "ix") ?_
  | refine .inl ⟨_, rfl, ?_⟩
  | refine .inr ⟨_, rfl, ?_⟩)
local macro_rules | `(tactic| fail "go") => `(tactic| repeat fail "go1")
local macro_rules | `(tactic| fail "pm") => `(tactic| (refine Led.le hL (fun a_ => ?_); simp only [cnt_nil, cnt_cons, cnt_app, List.map_append, List.map_cons, List.map_nil, List.flatMap_append, List.flatMap_cons, List.flatMap_nil, List.append_assoc, List.cons_append, List.nil_append]; omega))

structure WOk (ns : List Str) (ws : List VE) : Prop where
  nm : ws.map (·.1) = ns
  ok : NOk ns
  rows : ∀ k d, aget ws k = some d → d.s.rows.map (·.1) = ns ∧ d.s.gone = []
theorem aget_mem {α : Type} {k : Str} {v : α} {l : List (Str × α)} (h : aget l k = some v) : (k, v) ∈ l := by
  obtain ⟨B, C, e, _⟩ := aget_split h
  rw [e]; exact List.mem_append_right _ List.mem_cons_self
theorem mem_aget {α : Type} {k : Str} {v : α} {l : List (Str × α)} (nd : (l.map (·.1)).Nodup) (h : (k, v) ∈ l) : aget l k = some v := by
  induction l with
  | nil => cases h
  | cons x r ih =>
    obtain ⟨n1, n2⟩ := List.nodup_cons.mp nd
    rcases List.mem_cons.mp h with e | h
    · rw [← e, aget, if_pos rfl]
    · rw [aget, if_neg]
      · exact ih n2 h
      · intro e
        exact n1 (List.mem_map.mpr ⟨_, h, e.symm⟩)
theorem ve_mem {CV : Addr} {ws : List VE} {k : Str} {d : VD} {x : Addr × HO} (h : aget ws k = some d) (hx : x ∈ veL CV (k, d)) : x ∈ vsL CV ws := by
  obtain ⟨B, C, e, _⟩ := aget_split h
  rw [e]
  unfold vsL
  rw [List.flatMap_append, List.flatMap_cons]
  exact List.mem_append_right _ (List.mem_append_left _ hx)
def spAgree (CC CV : Addr) : Sp := fun vs H Q _ => ∃ (cr dc vd dd : Addr) (ws : List VE) (dn : List (Str × Unit)) (t : Int) (nm : Str) (ns : List Str) (R : Lg), vs = [.ref cr, .str nm] ∧ Led H (CrL CC CV cr dc vd dd ws dn t ++ R) ∧ WOk ns ws ∧ nm ∈ ns ∧
  ∀ (ys : List Str) (p : Addr) (H' : Hp), ys.Nodup → (∀ st, st ∈ ys ↔ ∃ k d, aget ws k = some d ∧ k ∉ dn.map (·.1) ∧ stateP d.s.pl k nm = st) → Led H' ((p, .lst (ys.map .str)) :: (CrL CC CV cr dc vd dd ws dn t ++ R)) → Q (.ref p) H'
section
variable {P : Program} {w : World} {K : PySem.W.Frag} {mg : Str → Option Value} {base : Heap} {CV CC CE : Addr}
theorem scAgree : FnScope ["self", "name", "found", "one"] ["self", "name"] (defScope sAgree) := ⟨rfl, rfl, rfl, by decide +kernel, rfl, by decide +kernel, by decide +kernel⟩
theorem ok_agree {f : Addr} {fd : FuncData} (F : Fun K "agree_on" "Crowd.agree_on" sAgree f fd) (X : TxtCr K mg CC) (XV : TxtC K mg CV) (T : TxtSN mg) (c_View_state_of : Met P w K mg base 1 CV "state_of" (spState CV) []) : FnOk P w K mg base CX0 2 f fd ["self", "name"] (spAgree CC CV) := by
  refine F.ok scAgree (fun vs H Q E h => ?_) (fun cdv A outer s H vs Q E hr h => ?_)
  · obtain ⟨cr, dc, vd, dd, ws, dn, t, nm, ns, R, rfl, _⟩ := h
    rfl
  · obtain ⟨cr, dc, vd, dd, ws, dn, t, nm, ns, R, rfl, hL, ok, hnm, k⟩ := h
    have c1 := X.cl
    have f1 := X.n "views" (by decide +kernel)
    have f2 := X.n "down" (by decide +kernel)
    have c2 := XV.cl
    have f3 := XV.n "rows" (by decide +kernel)
    have hz : ws.length < 60 := by
      have := ok.ok.z
      rw [← ok.nm, List.length_map] at this
      exact this
    refine ⟨_, (pss_cons (ps_set (i := 2) scAgree.nd rfl (Or.inl rfl) pe_dnewK)
  (pss_cons (ps_lock (ps_for PassesOwn.never rfl (pi_keys (pe_fld (pv 0) rfl)) (pg_name (i := 3) scAgree.nd rfl (Or.inl rfl))
  (pss_one (ps_if (PW.pt (pw_and (pt_cmp (pc_dnotin (hu_of hr) (pv 3) (pe_fld (pv 0) rfl))) (pw_and1 (pt_cmp (pc_din (hu_of hr) (pv 1) (pe_fld (pe_dget (hu_of hr) (pe_fld (pv 0) rfl) (pv 3) (fun _ _ => rfl)) rfl))))))
  (pss_one (ps_dput (hu_of hr) (pv 2) (pe_mt c_View_state_of hr (by decide) (pe_dget (hu_of hr) (pe_fld (pv 0) rfl) (pv 3) (fun _ _ => rfl)) (pa_cons (pv 1) pa_nil)) pe_bl rfl))
  pss_nil))))
  (pss_one (ps_ret (pe_callB (call_sortedD rfl) (by rfl) T.sorted (by decide +kernel) (pa_cons (pv 2) pa_nil)))))), ?_⟩
    dsimp only [CrL] at hL
    fail "go"
    refine lockA (hL.at ⟨2, rfl⟩) trivial fun od D hD => ?_
    generalize hH : upd H vd _ = H
    replace hL := Led.upU hL (o' := .frz od (.dK (ws.map (kk veV)))) (by fail "up") hH
    dsimp only [List.set, List.cons_append, List.nil_append, List.append] at hL
    clear hH
    fail "go"
    refine ⟨vd, od, rfl, .inl ⟨_, hL.at ⟨2, rfl⟩, ?_⟩⟩
    refine for_itA (walk_keys (d := vd) (o := od) (kvs := ws.map (kk veV))) (fun i σ H => Hold (∃ (fs : List (Str × Unit)) (v3 : Option V), σ = [some (.ref cr), some (.str nm), some (.ref p), v3] ∧ (fs.map (·.1)).Nodup ∧ fs.length ≤ i ∧
      (∀ st, st ∈ fs.map (·.1) ↔ ∃ e ∈ ws.take i, e.1 ∉ dn.map (·.1) ∧ stateP e.2.s.pl e.1 nm = st) ∧
      Led H ((p, HO.dK (fs.map (kk dnV))) :: (cr, HO.ins CC dc (fz nmC [.ref vd, .ref dd, .int t])) :: (vd, HO.frz od (HO.dK (ws.map (kk veV)))) :: (dd, HO.dK (dn.map (kk dnV))) :: (vsL CV ws ++ R))))
      (.mk ⟨[], none, rfl, by simp, Nat.le_refl _, fun st => by simp, hL⟩) (fun i σ H _ h => ?_) (fun i x σ H H' D' hi h hy hD' => ?_) (fun σ H h => ?_)
    · obtain ⟨fs, v3, rfl, nd, hfl, hf, hL⟩ := h.out
      exact hL.at ⟨2, rfl⟩
    · obtain ⟨fs, v3, rfl, nd, hfl, hf, hL⟩ := h.out
      clear h
      obtain ⟨rfl, kx, vx, hk, rfl⟩ := hy
      rw [List.getElem?_map] at hk
      obtain ⟨e, he, hk⟩ := Option.map_eq_some_iff.mp hk
      obtain ⟨rfl, rfl⟩ := Prod.mk.inj hk
      obtain ⟨ke, de⟩ := e
      have ge : aget ws ke = some de := mem_aget (by rw [ok.nm]; exact ok.ok.nd) (List.mem_of_getElem? he)
      have ht : ws.take (i + 1) = ws.take i ++ [(ke, de)] := by rw [List.take_add_one, he]; rfl
      show gName 3 (.str ke) _ _ _
      fail "go"
      refine k_dinS hL (by fail "ix") ?_
      rw [kk_val]
      cases hdn : aget dn ke with
      | some u =>
        fail "go"
        refine hD'.nx _ _ (.mk ⟨fs, _, rfl, nd, by omega, fun st => ?_, hL⟩)
        rw [hf, ht]
        refine ⟨fun ⟨e, he, h⟩ => ⟨e, List.mem_append_left _ he, h⟩, fun ⟨e, he, h1, h2⟩ => ?_⟩
        rcases List.mem_append.mp he with he | he
        · exact ⟨e, he, h1, h2⟩
        · obtain rfl := List.mem_singleton.mp he
          exact absurd (aget_some hdn) h1
      | none =>
        have hnd : ke ∉ dn.map (·.1) := fun z => by obtain ⟨v, hv⟩ := aget_in z; rw [hdn] at hv; cases hv
        obtain ⟨hr1, hg1⟩ := ok.rows _ _ ge
        have hrow : nm ∈ de.s.rows.map (·.1) := by rw [hr1]; exact hnm
        have m : ∀ x, x ∈ veL CV (ke, de) → At ((p, HO.dK (fs.map (kk dnV))) :: (cr, HO.ins CC dc (fz nmC [.ref vd, .ref dd, .int t])) :: (vd, HO.frz od (HO.dK (ws.map (kk veV)))) :: (dd, HO.dK (dn.map (kk dnV))) :: (vsL CV ws ++ R)) x.1 x.2 := fun x hx =>
          at_mem (.tail _ (.tail _ (.tail _ (.tail _ (List.mem_append_left _ (ve_mem ge hx))))))
        fail "go"
        refine k_dgetR (.inr ⟨od, hL.at ⟨2, rfl⟩⟩) (by rw [ws_val, ge]; rfl) ?_
        refine k_fld hL (m _ (.head _)) c2 f3 (by fail "lkF") ?_
        refine k_dinS hL (m _ (.tail _ (.head _))) ?_
        obtain ⟨rw0, hrw⟩ := aget_in hrow
        rw [kk_val, hrw]
        fail "go"
        refine k_dgetR (.inr ⟨od, hL.at ⟨2, rfl⟩⟩) (by rw [ws_val, ge]; rfl) ?_
        refine k_meth hL (m _ (.head _)) (fz_no (by decide +kernel)) ?_
        fail "go"
        obtain ⟨R', hR, hL2, hb⟩ := vs_out1 (A := [(p, _), (cr, _), (vd, _), (dd, _)]) ge hL
        refine ⟨de.v, de.dv, de.rd, de.gd, ke, nm, de.s, R', rfl, hL2, hrow, fun H hL3 => ?_⟩
        replace hL := hb H de hL3
        rw [aput_self ge] at hL
        dsimp only [List.cons_append, List.nil_append, List.append] at hL
        clear hb hL2 hL3
        generalize hst : stateP de.s.pl ke nm = st0
        refine k_dputS hL (by fail "ix") (by rw [List.length_map]; exact Nat.lt_of_le_of_lt hfl (Nat.lt_of_lt_of_le (by rw [List.length_map] at hi; omega : i < 60) (by decide))) (kk_put (vo := dnV) (v := ()) nd) (by fail "up") fun H hL => ?_
        refine hD'.nx _ _ (.mk ⟨aput fs st0 (), _, rfl, aput_nd nd, ?_, fun st => ?_, hL⟩)
        · by_cases h : st0 ∈ fs.map (·.1)
          · have := congrArg List.length (aput_names_in (v := ()) h)
            rw [List.length_map, List.length_map] at this
            omega
          · rw [aput_names_out h, List.length_append]
            exact Nat.succ_le_succ hfl
        · rw [ht]
          refine ⟨fun h => ?_, fun ⟨e, he, h1, h2⟩ => ?_⟩
          · rcases aput_mem h with rfl | h
            · exact ⟨_, List.mem_append_right _ (List.mem_singleton.mpr rfl), hnd, hst⟩
            · obtain ⟨e, he, h1, h2⟩ := (hf st).mp h
              exact ⟨e, List.mem_append_left _ he, h1, h2⟩
          · have hput : ∀ x, x = st0 ∨ x ∈ fs.map (·.1) → x ∈ (aput fs st0 ()).map (·.1) := fun x hx => by
              by_cases h : st0 ∈ fs.map (·.1)
              · rw [aput_names_in h]
                exact hx.elim (fun e => by rw [e]; exact h) id
              · rw [aput_names_out h, List.map_append]
                exact hx.elim (fun e => List.mem_append_right _ (by rw [e]; exact List.mem_cons_self)) (List.mem_append_left _)
            rcases List.mem_append.mp he with he | he
            · exact hput _ (.inr ((hf st).mpr ⟨e, he, h1, h2⟩))
            · obtain rfl := List.mem_singleton.mp he
              exact hput _ (.inl (h2.symm.trans hst))
    · obtain ⟨fs, v3, rfl, nd, hfl, hf, hL⟩ := h.out
      clear h
      refine hD.nx _ _ (hL.at ⟨2, rfl⟩) ?_
      generalize hH : upd H vd _ = H
      replace hL := Led.upU hL (o' := .dK (ws.map (kk veV))) (by fail "up") hH
      dsimp only [List.set, List.cons_append, List.nil_append, List.append] at hL
      clear hH
      fail "go"
      refine ⟨_, _, fs.map (·.1), rfl, .inl (hL.at (by fail "ix")), kk_names, by rw [List.length_map]; rw [List.length_map] at hfl; omega, fun ys q hp hys hq => ?_⟩
      generalize hH : upd H q _ = H
      replace hL := Led.newH hL hq hH
      refine k ys q _ (hp.nodup_iff.mpr nd) (fun st => ?_) ?_
      · rw [hp.mem_iff, hf, List.length_map, List.take_length]
        refine ⟨fun ⟨e, he, h1, h2⟩ => ⟨e.1, e.2, mem_aget (by rw [ok.nm]; exact ok.ok.nd) he, h1, h2⟩, fun ⟨k, d, h0, h1, h2⟩ => ⟨(k, d), aget_mem h0, h1, h2⟩⟩
      · unfold CrL
        (refine Led.le hL (fun a_ => ?_); simp only [cnt_nil, cnt_cons, cnt_app, List.map_append, List.map_cons, List.map_nil, List.flatMap_append, List.flatMap_cons, List.flatMap_nil, List.append_assoc, List.cons_append, List.nil_append]; omega)
end
/-! the rounds -/
theorem vs_cnt {CV : Addr} {vs : List VE} {k : Str} {d : VD} (g : aget vs k = some d) : ∃ R1 : Lg, ∀ (d' : VD) a, cnt a (vsL CV (aput vs k d')) = cnt a (VL CV d'.v d'.dv d'.rd d'.gd k d'.s) + cnt a R1 := by
  obtain ⟨B, C, e1, e2⟩ := aget_split g
  refine ⟨vsL CV B ++ vsL CV C, fun d' a => ?_⟩
  rw [e2]
  unfold vsL
  simp only [cnt_app, List.flatMap_append, List.flatMap_cons]
  show _ + (cnt a (VL CV d'.v d'.dv d'.rd d'.gd k d'.s) + _) = _
  omega
theorem vsd_put {vs : List VE} {k : Str} {d d' : VD} (g : aget vs k = some d) (h : d'.v = d.v) : (aput vs k d').map (kk veV) = vs.map (kk veV) := by
  obtain ⟨B, C, e1, e2⟩ := aget_split g
  rw [e2, e1, List.map_append, List.map_append, List.map_cons, List.map_cons]
  show _ ++ (Sum.inr k, V.ref d'.v) :: _ = _ ++ (Sum.inr k, V.ref d.v) :: _
  rw [h]
theorem WOk.nm2 {ns : List Str} {ws : List VE} (h : WOk ns ws) {k : Str} (hk : k ∈ ns) : ∃ d, aget ws k = some d := aget_in (by rw [h.nm]; exact hk)
theorem WOk.vok {ns : List Str} {ws : List VE} (h : WOk ns ws) {k : Str} {d : VD} (hd : aget ws k = some d) : HOk2 ns d.s := by
  obtain ⟨h1, h2⟩ := h.rows k d hd
  exact ⟨by rw [h1]; exact h.ok.nd, by rw [h2]; exact List.nodup_nil, fun k hk => by rw [← h1]; exact hk, fun k hk => by rw [h2] at hk; cases hk⟩
theorem WOk.put {ns : List Str} {ws : List VE} (h : WOk ns ws) {k : Str} {d : VD} (hk : k ∈ ns) (h1 : d.s.rows.map (·.1) = ns) (h2 : d.s.gone = []) : WOk ns (aput ws k d) := by
  refine ⟨aput_nm h.nm hk, h.ok, fun j e he => ?_⟩
  rw [aget_put] at he
  by_cases z : k = j
  · rw [if_pos z] at he
    cases he
    exact ⟨h1, h2⟩
  · rw [if_neg z] at he
    exact h.rows j e he
theorem getP_ws {ws : List VE} {k : Str} {d : VD} (h : aget ws k = some d) : getP (plsOf ws) k = d.s.pl := by unfold getP; rw [pls_get, h]; rfl
theorem cnt_pl {s : VS} {k : Str} : cntP s.pl k = cntOf s.rows k := by
  unfold cntP cntOf
  rw [pl_get]
  cases aget s.rows k <;> rfl
theorem hear_names {p : Pl} {ns : List Str} (hp : p.rows.map (·.1) = ns) : ∀ {news : List (Str × Int)}, (∀ x ∈ news, x.1 ∈ ns) → (hearP p news).rows.map (·.1) = ns ∧ (hearP p news).gone = p.gone := by
  intro news
  unfold hearP
  induction news generalizing p with
  | nil => exact fun _ => ⟨hp, rfl⟩
  | cons x r ih =>
    intro h
    rw [List.foldl_cons]
    have h1 : (hear1 p x).rows.map (·.1) = ns ∧ (hear1 p x).gone = p.gone := by
      unfold hear1
      split
      · exact ⟨aput_nm hp (h x List.mem_cons_self), rfl⟩
      · exact ⟨hp, rfl⟩
    obtain ⟨h2, h3⟩ := ih h1.1 fun y hy => h y (.tail _ hy)
    exact ⟨h2, h3.trans h1.2⟩
def spRound (CC CV PN : Addr) : Sp := fun vs H Q _ => ∃ (cr dc vd dd : Addr) (ws : List VE) (dn : List (Str × Unit)) (t : Int) (ns : List Str) (ps : Array Value) (R : Lg), vs = [.ref cr] ∧ Led H ((PN, .tbl ps) :: (CrL CC CV cr dc vd dd ws dn t ++ R)) ∧ TriplesOk ps.toList ∧ WOk ns ws ∧
  ∀ (ws' : List VE) (ps' : Array Value) (H' : Hp), plsOf ws' = tellP ns (dn.map (·.1)) (plsOf ws) (t + 1) → WOk ns ws' → TriplesOk ps'.toList → Led H' ((PN, .tbl ps') :: (CrL CC CV cr dc vd dd ws' dn (t + 1) ++ R)) → Q .non H'
section
variable {P : Program} {w : World} {K : PySem.W.Frag} {mg : Str → Option Value} {base : Heap} {CV CC CE PN : Addr}
/-- views[b].hear(views[a].news()) -/
theorem rd_meet {D : Ends} {σ : L2.St} {H : Hp} {m i j : Nat} {cr dc vd dd : Addr} {ws : List VE} {dn : List (Str × Unit)} {t : Int} {ns : List Str} {ps : Array Value} {R : Lg} {a b : Str} (X : TxtCr K mg CC) (XV : TxtC K mg CV)
    (h0 : σ[m]? = some (some (.ref cr))) (hb : σ[i]? = some (some (.str b))) (ha : σ[j]? = some (some (.str a))) (ok : WOk ns ws) (a1 : a ∈ ns) (b1 : b ∈ ns) (ht : TriplesOk ps.toList)
    (hL : Led H ((PN, HO.tbl ps) :: (CrL CC CV cr dc vd dd ws dn t ++ R)))
    (k : ∀ (ws' : List VE) (ps' : Array Value) (H' : Hp), plsOf ws' = meet1 ns (plsOf ws) a b → WOk ns ws' → TriplesOk ps'.toList → Led H' ((PN, HO.tbl ps') :: (CrL CC CV cr dc vd dd ws' dn t ++ R)) → D.nx σ H') :
    tDrop (tMeth CV "hear" (spHear CV) [] C8.E0 (tDGet (tFld K (tVar m) "views") (tVar i)) (tCons (tMeth CV "news" (spNews CV PN) [] C8.E0 (tDGet (tFld K (tVar m) "views") (tVar j)) tNil) tNil)) D σ H := by
  have c1 := X.cl
  have f1 := X.n "views" (by decide +kernel)
  have hzn := ok.ok.z
  obtain ⟨da, hda⟩ := ok.nm2 a1
  obtain ⟨db, hdb⟩ := ok.nm2 b1
  have lka : valV (ws.map (kk veV)) (Sum.inr a) = some (.ref da.v) := by rw [ws_val, hda]; rfl
  have lkb : valV (ws.map (kk veV)) (Sum.inr b) = some (.ref db.v) := by rw [ws_val, hdb]; rfl
  obtain ⟨Ra, hca⟩ := vs_cnt (CV := CV) hda
  obtain ⟨Rb, hcb⟩ := vs_cnt (CV := CV) hdb
  have va := ok.vok hda
  have vb := ok.vok hdb
  obtain ⟨ra1, ra2⟩ := ok.rows a da hda
  obtain ⟨rb1, rb2⟩ := ok.rows b db hdb
  dsimp only [CrL] at hL
  refine ⟨_, h0, ?_⟩
  refine k_fld hL (by fail "ix") c1 f1 (by fail "lkF") ?_
  refine ⟨_, hb, ?_⟩
  refine k_dgetS hL (by fail "ix") lkb ?_
  refine k_meth hL (at_mem (.tail _ (.tail _ (.tail _ (.tail _ (List.mem_append_left _ (ve_mem hdb (.head _)))))))) (fz_no (by decide +kernel)) ?_
  refine ⟨_, h0, ?_⟩
  refine k_fld hL (by fail "ix") c1 f1 (by fail "lkF") ?_
  refine ⟨_, ha, ?_⟩
  refine k_dgetS hL (by fail "ix") lka ?_
  refine k_meth hL (at_mem (.tail _ (.tail _ (.tail _ (.tail _ (List.mem_append_left _ (ve_mem hda (.head _)))))))) (fz_no (by decide +kernel)) ?_
  refine ⟨da.v, da.dv, da.rd, da.gd, a, da.s, ps, (cr, .ins CC dc (fz nmC [.ref vd, .ref dd, .int t])) :: (vd, .dK (ws.map (kk veV))) :: (dd, .dK (dn.map (kk dnV))) :: (Ra ++ R), rfl, ?_, ht, va.ok hzn, fun ys p nw ps' H hp hys hnw ht' hL => ?_⟩
  · have h0 := hca da
    rw [aput_self hda] at h0
    (refine Led.le hL (fun a_ => ?_); have q0_ := h0 a_; (try dsimp only at q0_); (try simp only [cnt_nil, cnt_cons, cnt_app, List.map_append, List.map_cons, List.map_nil, List.flatMap_append, List.flatMap_cons, List.flatMap_nil, List.append_assoc, List.cons_append, List.nil_append] at q0_); simp only [cnt_nil, cnt_cons, cnt_app, List.map_append, List.map_cons, List.map_nil, List.flatMap_append, List.flatMap_cons, List.flatMap_nil, List.append_assoc, List.cons_append, List.nil_append]; omega)
  · have e := sortedS_uniq hp hys (by rw [ra1]; exact ok.ok.s)
    rw [ra1] at e
    have enw : nw.map (·.2) = newsP ns da.s.pl := by
      rw [hnw, e]
      unfold newsP
      exact List.map_congr_left fun y _ => by rw [cnt_pl]
    have hnm : ∀ n ∈ nw, n.2.1 ∈ ns := fun n hn => by
      have : n.2 ∈ newsP ns da.s.pl := by rw [← enw]; exact List.mem_map.mpr ⟨n, hn, rfl⟩
      obtain ⟨y, hy, e2⟩ := List.mem_map.mp this
      rw [← e2]; exact hy
    refine ⟨db.v, db.dv, db.rd, db.gd, p, b, db.s, nw, ns, (p, .tup (nw.map newsV)) :: (nw.map newsO ++ ((PN, .tbl ps') :: (cr, .ins CC dc (fz nmC [.ref vd, .ref dd, .int t])) :: (vd, .dK (ws.map (kk veV))) :: (dd, .dK (dn.map (kk dnV))) :: (Rb ++ R))), rfl, ?_, vb.ok hzn, .head _, fun n hn => .tail _ (List.mem_append_left _ (List.mem_map.mpr ⟨n, hn, rfl⟩)), hzn, vb.u1, vb.u2, hnm, fun s' H he vok hL => ?_⟩
    · have h1 := hca da
      rw [aput_self hda] at h1
      have h2 := hcb db
      rw [aput_self hdb] at h2
      (refine Led.le hL (fun a_ => ?_); have q0_ := h1 a_; (try dsimp only at q0_); (try simp only [cnt_nil, cnt_cons, cnt_app, List.map_append, List.map_cons, List.map_nil, List.flatMap_append, List.flatMap_cons, List.flatMap_nil, List.append_assoc, List.cons_append, List.nil_append] at q0_); have q1_ := h2 a_; (try dsimp only at q1_); (try simp only [cnt_nil, cnt_cons, cnt_app, List.map_append, List.map_cons, List.map_nil, List.flatMap_append, List.flatMap_cons, List.flatMap_nil, List.append_assoc, List.cons_append, List.nil_append] at q1_); simp only [cnt_nil, cnt_cons, cnt_app, List.map_append, List.map_cons, List.map_nil, List.flatMap_append, List.flatMap_cons, List.flatMap_nil, List.append_assoc, List.cons_append, List.nil_append]; omega)
    · have hnn := hear_names (ns := ns) (p := db.s.pl) (by rw [pl_names]; exact rb1) (news := nw.map (·.2)) (fun x hx => by
        obtain ⟨n, hn, rfl⟩ := List.mem_map.mp hx
        exact hnm n hn)
      rw [← he] at hnn
      refine k (aput ws b ⟨db.v, db.dv, db.rd, db.gd, s'⟩) ps' _ ?_ (ok.put b1 ?_ ?_) ht' ?_
      · rw [pls_put]
        unfold meet1
        rw [getP_ws hda, getP_ws hdb, ← enw, ← he]
      · rw [← pl_names]; exact hnn.1
      · exact hnn.2.trans rb2
      · unfold CrL
        rw [vsd_put hdb (d' := ⟨db.v, db.dv, db.rd, db.gd, s'⟩) rfl]
        (refine Led.le hL (fun a_ => ?_); have q0_ := hcb ⟨db.v, db.dv, db.rd, db.gd, s'⟩ a_; (try dsimp only at q0_); (try simp only [cnt_nil, cnt_cons, cnt_app, List.map_append, List.map_cons, List.map_nil, List.flatMap_append, List.flatMap_cons, List.flatMap_nil, List.append_assoc, List.cons_append, List.nil_append] at q0_); simp only [cnt_nil, cnt_cons, cnt_app, List.map_append, List.map_cons, List.map_nil, List.flatMap_append, List.flatMap_cons, List.flatMap_nil, List.append_assoc, List.cons_append, List.nil_append]; omega)
theorem scRound : FnScope ["self", "up", "name", "other"] ["self"] (defScope sRound) := ⟨rfl, rfl, rfl, by decide +kernel, rfl, by decide +kernel, by decide +kernel⟩
theorem ok_round {f : Addr} {fd : FuncData} (F : Fun K "tell_round" "Crowd.tell_round" sRound f fd) (X : TxtCr K mg CC) (XV : TxtC K mg CV) (T : TxtSN mg) (c_View_tick : Met P w K mg base 1 CV "tick" (spTick CV) []) (c_View_hear : Met P w K mg base 1 CV "hear" (spHear CV) []) (c_View_news : Met P w K mg base 5 CV "news" (spNews CV PN) [])
    (c_Crowd_partner : Met P w K mg base 1 CC "partner" (spPartner CC CV) []) : FnOk P w K mg base CX0 6 f fd ["self"] (spRound CC CV PN) := by
  refine F.ok scRound (fun vs H Q E h => ?_) (fun cdv A outer s H vs Q E hr h => ?_)
  · obtain ⟨cr, dc, vd, dd, ws, dn, t, ns, ps, R, rfl, _⟩ := h
    rfl
  · obtain ⟨cr, dc, vd, dd, ws, dn, t, ns, ps, R, rfl, hL, ht, ok, k⟩ := h
    have c1 := X.cl
    have f1 := X.n "views" (by decide +kernel)
    have f2 := X.n "down" (by decide +kernel)
    have f3 := X.n "turn" (by decide +kernel)
    have c2 := XV.cl
    refine ⟨_, (pss_cons (ps_fldaug (pv 0) pe_int in_add)
  (pss_cons (ps_setLc (i := 1) (own := [("name", 2)]) (g := gName 2) (by rfl) scRound.nd rfl rfl (sw_true rfl rfl rfl (by decide +kernel)) (pi_list (pe_callB (call_sortedD rfl) (by rfl) T.sorted (by decide +kernel) (pa_cons (pe_fld (pv 0) rfl) pa_nil))) (blkOk_by (own := [("name", 2)]) (N := ["self", "up", "name", "other"]) (sc := (defScope sRound)) (by decide +kernel)) (fun _ _ _ _ _ => (pg_name (i := 2) scRound.nd rfl (Or.inl rfl))) (fun _ _ _ _ _ => (pts_one (pt_cmp (pc_dnotin (hu_of hr) (pv 2) (pe_fldB (pv 0) rfl))))) (fun _ _ _ _ _ => (pv 2)))
  (pss_cons (ps_for PassesOwn.never rfl (pi_list (pv 1)) (pg_name (i := 2) scRound.nd rfl (Or.inl rfl))
  (pss_one (ps_expr (pe_mt0 c_View_tick hr (by decide) (pe_dget (hu_of hr) (pe_fld (pv 0) rfl) (pv 2) (fun _ _ => rfl))))))
  (pss_one (ps_for PassesOwn.never rfl (pi_list (pv 1)) (pg_name (i := 2) scRound.nd rfl (Or.inl rfl))
  (pss_one (ps_if (pt_cmpR op_gt (pe_callB call_lenD (by rfl) T.len (by decide +kernel) (pa_cons (pe_fld (pv 0) rfl) pa_nil)) pe_int (nomark _))
  (pss_cons (ps_set (i := 3) scRound.nd rfl (Or.inl rfl) (pe_mt c_Crowd_partner hr (by decide) (pv 0) (pa_cons (pv 2) pa_nil)))
  (pss_one (ps_if (pt_cmp (pc_dnotin (hu_of hr) (pv 3) (pe_fld (pv 0) rfl)))
  (pss_cons (ps_expr (pe_mt c_View_hear hr (by decide) (pe_dget (hu_of hr) (pe_fld (pv 0) rfl) (pv 3) (fun _ _ => rfl)) (pa_cons (pe_mt0 c_View_news hr (by decide) (pe_dget (hu_of hr) (pe_fld (pv 0) rfl) (pv 2) (fun _ _ => rfl))) pa_nil)))
  (pss_one (ps_expr (pe_mt c_View_hear hr (by decide) (pe_dget (hu_of hr) (pe_fld (pv 0) rfl) (pv 2) (fun _ _ => rfl)) (pa_cons (pe_mt0 c_View_news hr (by decide) (pe_dget (hu_of hr) (pe_fld (pv 0) rfl) (pv 3) (fun _ _ => rfl))) pa_nil)))))
  pss_nil)))
  pss_nil))))))), ?_⟩
    dsimp only [CrL] at hL
    have hzn := ok.ok.z
    fail "go"
    refine ⟨_, _, ws.map (·.1), rfl, .inl (hL.at (by fail "ix")), kk_names, Nat.lt_trans (by rw [ok.nm]; exact ok.ok.z) (by decide), fun ys p hp hys hf => ?_⟩
    have e := sortedS_uniq hp hys (by rw [ok.nm]; exact ok.ok.s)
    rw [ok.nm] at e
    generalize hH : upd H p _ = H
    replace hL := Led.newH hL hf hH
    rw [e] at hL
    clear hH hf hp hys e
    refine ⟨_, rfl, ⟨_, .of (hL.at ⟨0, rfl⟩)⟩, fun D hD => lc_list (K := K) (a := p) (xs := ns.map V.str) (fun i H => Hold (Led H ((D, .lst ((upOf (ns.take i) (dn.map (·.1))).map .str)) :: (p, .lst (ns.map V.str)) :: (PN, HO.tbl ps) :: (CrL CC CV cr dc vd dd ws dn (t + 1) ++ R)))) (.mk (hL.new hD)) (fun i H _ h => ?_) (fun i x H hi h => ?_) (fun H h => ?_)⟩
    · exact .of (h.out.at ⟨1, rfl⟩)
    · have hL := h.out
      clear h
      rw [List.getElem?_map] at hi
      obtain ⟨y, hy, rfl⟩ := Option.map_eq_some_iff.mp hi
      have e1 : upOf (ns.take (i + 1)) (dn.map (·.1)) = upOf (ns.take i) (dn.map (·.1)) ++ (if y ∈ dn.map (·.1) then [] else [y]) := by
        unfold upOf
        rw [List.take_add_one, hy, List.filter_append]
        by_cases h : y ∈ dn.map (·.1) <;> simp [h]
      refine ⟨rfl, ?_⟩
      dsimp only [CrL] at hL
      fail "go"
      refine k_dinS hL (by fail "ix") ?_
      rw [kk_val]
      cases hdn : aget dn y with
      | some u =>
        fail "go"
        rw [e1, if_pos (aget_some hdn), List.append_nil]
        exact .mk hL
      | none =>
        fail "go"
        refine ⟨_, hL.at ⟨0, rfl⟩, ?_, ?_⟩
        · rw [List.length_map]
          have h2 : (upOf (ns.take i) (dn.map (·.1))).length ≤ (ns.take i).length := List.length_filter_le _ _
          rw [List.length_take] at h2
          have h3 : 60 ≤ sizeLine := by decide
          omega
        · rw [e1, if_neg (fun z => by obtain ⟨v, hv⟩ := aget_in z; rw [hdn] at hv; cases hv), List.map_append]
          exact .mk (hL.set 0 rfl)
    · have hL := h.out
      clear h
      rw [List.length_map, List.take_length] at hL
      dsimp only [CrL] at hL
      generalize hup : upOf ns (dn.map (·.1)) = ups at hL
      have hups : ∀ k ∈ ups, k ∈ ns ∧ k ∉ dn.map (·.1) := fun k hk => up_mem.mp (by rw [hup]; exact hk)
      fail "go"
      refine ⟨⟨_, .of (hL.at ⟨0, rfl⟩)⟩, ?_⟩
      refine for_listA (K := K) (a := D) (xs := ups.map V.str) (fun i σ H => Hold (∃ (ws' : List VE) (v2 v3 : Option V), σ = [some (.ref cr), some (.ref D), v2, v3] ∧ plsOf ws' = (ups.take i).foldl tick1 (plsOf ws) ∧ WOk ns ws' ∧
        Led H ((D, .lst (ups.map V.str)) :: (PN, HO.tbl ps) :: (cr, .ins CC dc (fz nmC [.ref vd, .ref dd, .int (t + 1)])) :: (vd, .dK (ws'.map (kk veV))) :: (dd, .dK (dn.map (kk dnV))) :: (vsL CV ws' ++ R))))
        (.mk ⟨ws, _, _, rfl, rfl, ok, ?_⟩) (fun i σ H _ h => ?_) (fun i x σ H D' hi h hD' => ?_) (fun σ H h => ?_)
      · fail "pm"
      · obtain ⟨ws', v2, v3, rfl, e, ok', hL⟩ := h.out
        exact .of (hL.at ⟨0, rfl⟩)
      · obtain ⟨ws', v2, v3, rfl, e, ok', hL⟩ := h.out
        clear h
        rw [List.getElem?_map] at hi
        obtain ⟨n, hn, rfl⟩ := Option.map_eq_some_iff.mp hi
        obtain ⟨hn1, hn2⟩ := hups n (List.mem_of_getElem? hn)
        obtain ⟨d, hd⟩ := ok'.nm2 hn1
        have lkv : valV (ws'.map (kk veV)) (Sum.inr n) = some (.ref d.v) := by rw [ws_val, hd]; rfl
        obtain ⟨hr1, hr2⟩ := ok'.rows n d hd
        obtain ⟨⟨a, c, tt⟩, hrow⟩ := aget_in (l := d.s.rows) (k := n) (by rw [hr1]; exact hn1)
        obtain ⟨R1, hc⟩ := vs_cnt (CV := CV) hd
        fail "go"
        refine k_meth hL (at_mem (.tail _ (.tail _ (.tail _ (.tail _ (.tail _ (List.mem_append_left _ (ve_mem hd (.head _))))))))) (fz_no (by decide +kernel)) ?_
        refine ⟨d.v, d.dv, d.rd, d.gd, n, d.s, a, c, tt, (D, .lst (ups.map V.str)) :: (PN, HO.tbl ps) :: (cr, .ins CC dc (fz nmC [.ref vd, .ref dd, .int (t + 1)])) :: (vd, .dK (ws'.map (kk veV))) :: (dd, .dK (dn.map (kk dnV))) :: (R1 ++ R), rfl, ?_, (ok'.vok hd).ok hzn, hrow, fun p H hL => ?_⟩
        · have h0 := hc d
          rw [aput_self hd] at h0
          (refine Led.le hL (fun a_ => ?_); have q0_ := h0 a_; (try dsimp only at q0_); (try simp only [cnt_nil, cnt_cons, cnt_app, List.map_append, List.map_cons, List.map_nil, List.flatMap_append, List.flatMap_cons, List.flatMap_nil, List.append_assoc, List.cons_append, List.nil_append] at q0_); simp only [cnt_nil, cnt_cons, cnt_app, List.map_append, List.map_cons, List.map_nil, List.flatMap_append, List.flatMap_cons, List.flatMap_nil, List.append_assoc, List.cons_append, List.nil_append]; omega)
        · refine hD'.nx _ _ (.mk ⟨aput ws' n { d with s := ⟨d.s.time + 1, aput d.s.rows n (p, c + 1, d.s.time + 1), d.s.gone⟩ }, _, _, rfl, ?_, ok'.put hn1 ?_ hr2, ?_⟩)
          · rw [pls_put, List.take_add_one, hn, List.foldl_append, ← e]
            show _ = tick1 (plsOf ws') n
            unfold tick1 tickP
            have : cntOf d.s.rows n = c := by unfold cntOf; rw [hrow]
            rw [getP_ws hd, cnt_pl, this]
            exact congrArg _ (pl_put (s := ⟨d.s.time + 1, d.s.rows, d.s.gone⟩))
          · exact aput_nm hr1 hn1
          · rw [vsd_put hd (d' := ⟨d.v, d.dv, d.rd, d.gd, ⟨d.s.time + 1, aput d.s.rows n (p, c + 1, d.s.time + 1), d.s.gone⟩⟩) rfl]
            (refine Led.le hL (fun a_ => ?_); have q0_ := hc ⟨d.v, d.dv, d.rd, d.gd, ⟨d.s.time + 1, aput d.s.rows n (p, c + 1, d.s.time + 1), d.s.gone⟩⟩ a_; (try dsimp only at q0_); (try simp only [cnt_nil, cnt_cons, cnt_app, List.map_append, List.map_cons, List.map_nil, List.flatMap_append, List.flatMap_cons, List.flatMap_nil, List.append_assoc, List.cons_append, List.nil_append] at q0_); simp only [cnt_nil, cnt_cons, cnt_app, List.map_append, List.map_cons, List.map_nil, List.flatMap_append, List.flatMap_cons, List.flatMap_nil, List.append_assoc, List.cons_append, List.nil_append]; omega)
      · obtain ⟨ws1, v2, v3, rfl, e, ok1, hL⟩ := h.out
        clear h
        rw [List.length_map, List.take_length] at e
        fail "go"
        refine ⟨⟨_, .of (hL.at ⟨0, rfl⟩)⟩, ?_⟩
        refine for_listA (K := K) (a := D) (xs := ups.map V.str) (fun i σ H => Hold (∃ (ws' : List VE) (ps' : Array Value) (v2 v3 : Option V), σ = [some (.ref cr), some (.ref D), v2, v3] ∧ plsOf ws' = (if 1 < ns.length then (ups.take i).foldl (tell1 ns (dn.map (·.1)) (t + 1)) (plsOf ws1) else plsOf ws1) ∧ WOk ns ws' ∧ TriplesOk ps'.toList ∧
          Led H ((D, .lst (ups.map V.str)) :: (PN, HO.tbl ps') :: (cr, .ins CC dc (fz nmC [.ref vd, .ref dd, .int (t + 1)])) :: (vd, .dK (ws'.map (kk veV))) :: (dd, .dK (dn.map (kk dnV))) :: (vsL CV ws' ++ R))))
          (.mk ⟨ws1, ps, _, _, rfl, by split <;> rfl, ok1, ht, hL⟩) (fun i σ H _ h => ?_) (fun i x σ H D' hi h hD' => ?_) (fun σ H h => ?_)
        · obtain ⟨ws', ps', v2, v3, rfl, e', ok', ht', hL⟩ := h.out
          exact .of (hL.at ⟨0, rfl⟩)
        · obtain ⟨ws', ps', v2, v3, rfl, e', ok', ht', hL⟩ := h.out
          clear h
          rw [List.getElem?_map] at hi
          obtain ⟨n, hn, rfl⟩ := Option.map_eq_some_iff.mp hi
          obtain ⟨hn1, hn2⟩ := hups n (List.mem_of_getElem? hn)
          fail "go"
          refine ⟨_, _, rfl, hL.at (by fail "ix"), ?_⟩
          have hwl : ws'.length = ns.length := by rw [← ok'.nm, List.length_map]
          rw [List.length_map, hwl]
          fail "go"
          refine ite_d (fun q => ?_) (fun q => ?_)
          · have qn : 1 < ns.length := by omega
            rw [if_pos qn] at e'
            have hfold : (if 1 < ns.length then (ups.take (i + 1)).foldl (tell1 ns (dn.map (·.1)) (t + 1)) (plsOf ws1) else plsOf ws1) = tell1 ns (dn.map (·.1)) (t + 1) (plsOf ws') n := by
              rw [if_pos qn, List.take_add_one, hn, List.foldl_append, ← e']; rfl
            obtain ⟨p1, p2⟩ := partner_mem (t := t + 1) ok.ok.nd hn1 qn
            fail "go"
            refine ⟨cr, dc, vd, dd, ws', dn, t + 1, n, (D, .lst (ups.map V.str)) :: (PN, HO.tbl ps') :: R, rfl, ?_, by rw [ok'.nm]; exact ok'.ok, by rw [ok'.nm]; exact hn1, by omega, fun H hL => ?_⟩
            · unfold CrL
              fail "pm"
            rw [ok'.nm]
            dsimp only [CrL] at hL
            fail "go"
            refine k_dinS hL (by fail "ix") ?_
            rw [kk_val]
            cases hdn : aget dn (partnerP ns n (t + 1)) with
            | some u =>
              fail "go"
              refine hD'.nx _ _ (.mk ⟨ws', ps', _, _, rfl, ?_, ok', ht', ?_⟩)
              · rw [hfold]; unfold tell1; rw [if_pos (aget_some hdn)]
              · fail "pm"
            | none =>
              have hnd : partnerP ns n (t + 1) ∉ dn.map (·.1) := fun z => by obtain ⟨v, hv⟩ := aget_in z; rw [hdn] at hv; cases hv
              refine ⟨_, rfl, iteT ?_⟩
              refine rd_meet (cr := cr) (dc := dc) (vd := vd) (dd := dd) (dn := dn) (t := t + 1) (R := (D, .lst (ups.map V.str)) :: R) X XV rfl rfl rfl ok' hn1 p1 ht' ?_ fun ws2 ps2 H e2 ok2 ht2 hL => ?_
              · unfold CrL
                fail "pm"
              refine rd_meet X XV rfl rfl rfl ok2 p1 hn1 ht2 hL fun ws3 ps3 H e3 ok3 ht3 hL => ?_
              refine hD'.nx _ _ (.mk ⟨ws3, ps3, _, _, rfl, ?_, ok3, ht3, ?_⟩)
              · rw [hfold, e3, e2]; unfold tell1; rw [if_neg hnd]
              · dsimp only [CrL] at hL
                fail "pm"
          · have qn : ¬ 1 < ns.length := by omega
            refine hD'.nx _ _ (.mk ⟨ws', ps', _, _, rfl, ?_, ok', ht', hL⟩)
            rw [if_neg qn] at e' ⊢
            exact e'
        · obtain ⟨ws2, ps', v2, v3, rfl, e', ok', ht', hL⟩ := h.out
          refine k ws2 ps' _ ?_ ok' ht' ?_
          · rw [List.length_map, List.take_length] at e'
            rw [e', e]
            unfold tellP
            rw [hup]
          · unfold CrL
            fail "pm"
end
end Sd


set_option linter.unusedVariables false
namespace Sd
open PySem L2
open C8 (Cal Met Mak pe_c pe_mk pe_mt pe_mt0 tCut)
abbrev sLaw : Stmt := top 16
def stBody : Stmt → List Stmt
  | .For _ _ b _ _ => b
  | .If _ b _ _ => b
  | _ => []
def stElse : Stmt → List Stmt
  | .If _ _ b _ => b
  | _ => []
def nth (l : List Stmt) (i : Nat) : Stmt := l.getD i (.Pass ⟨0, 0, 0, 0⟩)
def bodyB : List Stmt := stBody (nth (defBody sLaw) 0)
def turnB : List Stmt := stBody (nth bodyB 3)
def blkTick : List Stmt := stBody (nth turnB 1)
def blkHear : List Stmt := stBody (nth (stElse (nth turnB 1)) 0)
def blkForget : List Stmt := stElse (nth (stElse (nth turnB 1)) 0)
def stCheck : Stmt := nth turnB 2
set_option linter.unusedSimpArgs false
set_option pp.deepTerms false
set_option pp.deepTerms.threshold 12
set_option hygiene false
local macro_rules | `(tactic| fail "nd") => `(tactic| first | assumption | decide +kernel)
local macro_rules | `(tactic| fail "ix") => `(tactic| first | exact ⟨0, rfl⟩ | exact ⟨1, rfl⟩ | exact ⟨2, rfl⟩ | exact ⟨3, rfl⟩ | exact ⟨4, rfl⟩ | exact ⟨5, rfl⟩ | exact ⟨6, rfl⟩ | exact ⟨7, rfl⟩ | exact ⟨8, rfl⟩ | exact ⟨9, rfl⟩ | exact ⟨10, rfl⟩ | exact ⟨11, rfl⟩ | exact ⟨12, rfl⟩ | exact ⟨13, rfl⟩ | exact ⟨14, rfl⟩ | exact ⟨15, rfl⟩ | exact ⟨16, rfl⟩ | exact ⟨17, rfl⟩ | exact ⟨18, rfl⟩ | assumption)
local macro_rules | `(tactic| fail "up") => `(tactic| first | exact ⟨0, rfl, rfl⟩ | exact ⟨1, rfl, rfl⟩ | exact ⟨2, rfl, rfl⟩ | exact ⟨3, rfl, rfl⟩ | exact ⟨4, rfl, rfl⟩ | exact ⟨5, rfl, rfl⟩ | exact ⟨6, rfl, rfl⟩ | exact ⟨7, rfl, rfl⟩ | exact ⟨8, rfl, rfl⟩ | exact ⟨9, rfl, rfl⟩ | exact ⟨10, rfl, rfl⟩ | exact ⟨11, rfl, rfl⟩ | exact ⟨12, rfl, rfl⟩ | exact ⟨13, rfl, rfl⟩ | exact ⟨14, rfl, rfl⟩ | exact ⟨15, rfl, rfl⟩ | exact ⟨16, rfl, rfl⟩ | assumption)
local macro_rules | `(tactic| fail "lkF") => `(tactic| first | assumption | exact fz_at 0 (by fail "nd") rfl rfl | exact fz_at 1 (by fail "nd") rfl rfl | exact fz_at 2 (by fail "nd") rfl rfl | exact fz_at 3 (by fail "nd") rfl rfl | exact fz_at 4 (by fail "nd") rfl rfl | exact fz_at 5 (by fail "nd") rfl rfl | exact fz_at 6 (by fail "nd") rfl rfl | exact fz_at 7 (by fail "nd") rfl rfl)
local macro_rules | `(tactic| fail "lkD") => `(tactic| first | assumption | exact dz_at 0 (by fail "nd") rfl rfl | exact dz_at 1 (by fail "nd") rfl rfl | exact dz_at 2 (by fail "nd") rfl rfl | exact dz_at 3 (by fail "nd") rfl rfl | exact dz_at 4 (by fail "nd") rfl rfl)
local macro_rules | `(tactic| fail "ptF") => `(tactic| first | assumption | exact fz_put 0 (by fail "nd") rfl (Nat.le_of_ble_eq_true rfl) | exact fz_put 1 (by fail "nd") rfl (Nat.le_of_ble_eq_true rfl) | exact fz_put 2 (by fail "nd") rfl (Nat.le_of_ble_eq_true rfl) | exact fz_put 3 (by fail "nd") rfl (Nat.le_of_ble_eq_true rfl) | exact fz_put 4 (by fail "nd") rfl (Nat.le_of_ble_eq_true rfl) | exact fz_put 5 (by fail "nd") rfl (Nat.le_of_ble_eq_true rfl) | exact fz_put 6 (by fail "nd") rfl (Nat.le_of_ble_eq_true rfl) | exact fz_put 7 (by fail "nd") rfl (Nat.le_of_ble_eq_true rfl) | exact fz_new (by decide +kernel) rfl)
local macro_rules | `(tactic| fail "ptD") => `(tactic| first | assumption | exact dz_put 0 (by fail "nd") rfl (Nat.le_of_ble_eq_true rfl) | exact dz_put 1 (by fail "nd") rfl (Nat.le_of_ble_eq_true rfl) | exact dz_put 2 (by fail "nd") rfl (Nat.le_of_ble_eq_true rfl) | exact dz_put 3 (by fail "nd") rfl (Nat.le_of_ble_eq_true rfl) | exact dz_put 4 (by fail "nd") rfl (Nat.le_of_ble_eq_true rfl))
local macro_rules | `(tactic| fail "sz") => `(tactic| first | assumption | exact (Nat.le_of_ble_eq_true rfl) | omega | decide)
local macro_rules | `(tactic| fail "sd") => `(tactic| first | rfl | assumption | decide | omega | (dsimp only; first | decide | omega) | exact .inr ⟨by decide, by decide⟩ | exact .inl ⟨by decide, by decide⟩ | exact ⟨by omega, by omega⟩ | exact .inl ⟨by omega, by omega⟩ | exact .inr ⟨by omega, by omega⟩ | exact ⟨by omega, by omega, by omega⟩)
local macro_rules | `(tactic| fail "cl") => `(tactic| (clear hH; dsimp only [List.set, List.cons_append, List.nil_append, List.append] at hL))
local macro_rules | `(tactic| fail "gn") => `(tactic| (intro p hp; generalize hH : upd H p _ = H; replace hL := Led.newH hL hp hH; clear hH hp))
local macro_rules | `(tactic| fail "gup") => `(tactic| (generalize hH : upd H _ _ = H; replace hL := Led.upU hL (by fail "up") hH; fail "cl"))
local macro_rules | `(tactic| fail "gmk") => `(tactic| (intro x dx hx hd ne; generalize hH : upd (upd H dx _) x _ = H; replace hL := Led.made hL hx hd ne hH; clear hH hx hd ne))
local macro_rules | `(tactic| fail "v") => `(tactic| refine ⟨_, rfl, ?_⟩)
local macro_rules | `(tactic| fail "i2") => `(tactic| refine ⟨_, _, rfl, rfl, ?_⟩)
local macro_rules | `(tactic| fail "go1") => `(tactic| first
  | refine ⟨_, rfl, ?_⟩
  | refine ⟨_, _, rfl, rfl, ?_⟩
  | refine ⟨_, _, rfl, ?_⟩
  | refine iteT ?_
  | refine iteF ?_
  | refine k_fld hL (by fail "ix") (by assumption) (by assumption) (by fail "lkF") ?_
  | refine k_dgetS hL (by fail "ix") (by fail "lkD") ?_
  | refine k_dgetI hL (by fail "ix") (by assumption) ?_
  | refine k_ixL hL (by fail "ix") (by first | rfl | assumption) ?_
  | refine k_ixT hL (by fail "ix") (by first | rfl | assumption) ?_
  | refine k_tyL hL (by fail "ix") ?_
  | refine k_isd hL (by fail "ix") ?_
  | (refine And.intro (by fail "sz") ?_; fail "gn")
  | refine And.intro (by fail "sd") ?_
  | fail "gn"
  | refine k_meth hL (by fail "ix") (by first | assumption | exact fz_no (by decide +kernel)) ?_
  | refine k_gtup hL (by fail "ix") rfl ?_
  | (refine k_popI hL (by fail "ix") (by assumption) ?_; fail "gup")
  | (refine k_listD hL (by fail "ix") ?_; fail "gn")
  | (refine ⟨_, _, _, _, rfl, rfl, hL.at (by fail "ix"), rfl, ?_⟩; fail "gup")
  | (refine ⟨_, _, _, rfl, rfl, hL.at (by fail "ix"), (by fail "sz"), ?_⟩; fail "gup")
  | (refine ⟨_, _, _, _, rfl, hL.at (by fail "ix"), by assumption, by assumption, Nat.lt_of_le_of_lt fz_len (by decide), ?_⟩; generalize hH : upd H _ _ = H; replace hL := Led.upF hL (by fail "up") (by fail "ptF") hH; fail "cl")
  | (refine ⟨_, _, hL.at (by fail "ix"), Nat.lt_of_le_of_lt fz_len (by decide), ?_⟩; generalize hH : upd H _ _ = H; replace hL := Led.upF hL (by fail "up") (by fail "ptF") hH; fail "cl")
  | (refine k_dputS hL (by fail "ix") (Nat.lt_of_le_of_lt dz_len (by decide)) (by fail "ptD") (by fail "up") ?_; clear hL; intro H hL; dsimp only [List.set, List.cons_append, List.nil_append, List.append] at hL)
  | refine k_lenL2 hL (by fail "ix") ?_
  | refine k_lenT2 hL (by fail "ix") ?_
  | refine .inl ⟨_, rfl, ?_⟩
  | refine .inr ⟨_, rfl, ?_⟩)
local macro_rules | `(tactic| fail "go") => `(tactic| repeat fail "go1")
local macro_rules | `(tactic| fail "pm") => `(tactic| (refine Led.le hL (fun a_ => ?_); simp only [cnt_nil, cnt_cons, cnt_app, List.map_append, List.map_cons, List.map_nil, List.flatMap_append, List.flatMap_cons, List.flatMap_nil, List.append_assoc, List.cons_append, List.nil_append]; omega))

theorem pss_imp {X : Cx} {sts : List Stmt} {t u : TS} (h : PSs X sts t) (k : ∀ D σ H, u D σ H → t D σ H) : PSs X sts u := ⟨fun pins s σ H D I q => h.run pins s σ H D I (k D σ H q)⟩
theorem ps_imp {X : Cx} {st : Stmt} {t u : TS} (h : PS X st t) (k : ∀ D σ H, u D σ H → t D σ H) : PS X st u := ⟨fun pins s σ H D I q => h.run pins s σ H D I (k D σ H q)⟩
def NL : List Str := ["script", "dice", "names", "crowd", "views", "one", "name", "step", "sort", "other", "turn", "view", "rows", "gone", "due", "forgotten", "here", "down", "up", "seen"]
theorem scLaw : FnScope NL ["script"] (defScope sLaw) := ⟨rfl, rfl, rfl, by decide +kernel, rfl, by decide +kernel, by decide +kernel⟩
abbrev LX (P : Program) (w : World) (K : PySem.W.Frag) (mg : Str → Option Value) (base : Heap) (f : Addr) (cdv : Value) (A : Around) (outer : List Env) (s : Shared) (H : Hp) (E : XK) : Cx := (cxOf CX0 P w K mg base NL "law" (defScope sLaw) f cdv A outer s H E).nox
/-! the law's own crowd: views by name -/
structure OD where
  o : Addr
  rd : Addr
  gd : Addr
  s : VS
abbrev OE := Str × OD
def oeV (e : OE) : V := .ref e.2.o
def oeL (e : OE) : Lg := OV e.2.o e.2.rd e.2.gd e.2.s
def osL (os : List OE) : Lg := os.flatMap oeL
def plsO (os : List OE) : List (Str × Pl) := os.map fun e => (e.1, e.2.s.pl)
theorem plo_get {os : List OE} {k : Str} : aget (plsO os) k = (aget os k).map fun d => d.s.pl := aget_map (f := fun d : OD => d.s.pl)
theorem plo_put {os : List OE} {k : Str} {d : OD} : plsO (aput os k d) = aput (plsO os) k d.s.pl := aput_map (f := fun d : OD => d.s.pl)
theorem plo_names {os : List OE} : (plsO os).map (·.1) = os.map (·.1) := by unfold plsO; rw [List.map_map]; rfl
theorem os_val {os : List OE} {k : Str} : valV (os.map (kk oeV)) (Sum.inr k) = (aget os k).map fun d => V.ref d.o := by rw [kk_val]; rfl
theorem os_cnt {os : List OE} {k : Str} {d : OD} (g : aget os k = some d) : ∃ R1 : Lg, ∀ (d' : OD) a, cnt a (osL (aput os k d')) = cnt a (OV d'.o d'.rd d'.gd d'.s) + cnt a R1 := by
  obtain ⟨B, C, e1, e2⟩ := aget_split g
  refine ⟨osL B ++ osL C, fun d' a => ?_⟩
  rw [e2]
  unfold osL
  simp only [cnt_app, List.flatMap_append, List.flatMap_cons]
  show _ + (cnt a (OV d'.o d'.rd d'.gd d'.s) + _) = _
  omega
theorem osd_put {os : List OE} {k : Str} {d d' : OD} (g : aget os k = some d) (h : d'.o = d.o) : (aput os k d').map (kk oeV) = os.map (kk oeV) := by
  obtain ⟨B, C, e1, e2⟩ := aget_split g
  rw [e2, e1, List.map_append, List.map_append, List.map_cons, List.map_cons]
  show _ ++ (Sum.inr k, V.ref d'.o) :: _ = _ ++ (Sum.inr k, V.ref d.o) :: _
  rw [h]
theorem oe_mem {os : List OE} {k : Str} {d : OD} {x : Addr × HO} (h : aget os k = some d) (hx : x ∈ oeL (k, d)) : x ∈ osL os := by
  obtain ⟨B, C, e, _⟩ := aget_split h
  rw [e]
  unfold osL
  rw [List.flatMap_append, List.flatMap_cons]
  exact List.mem_append_right _ (List.mem_append_left _ hx)
/-- what a plain view keeps -/
structure POk (ns : List Str) (k : Str) (p : Pl) : Prop where
  nd : (p.rows.map (·.1)).Nodup
  gd : (p.gone.map (·.1)).Nodup
  u1 : ∀ j ∈ p.rows.map (·.1), j ∈ ns
  u2 : ∀ j ∈ p.gone.map (·.1), j ∈ ns
  me : k ∈ p.rows.map (·.1)
theorem POk.h {ns : List Str} {k : Str} {s : VS} (h : POk ns k s.pl) : HOk2 ns s := ⟨by rw [← pl_names]; exact h.nd, h.gd, fun j hj => h.u1 j (by rw [pl_names]; exact hj), h.u2⟩
theorem POk.m {ns : List Str} {k : Str} {s : VS} (h : POk ns k s.pl) : k ∈ s.rows.map (·.1) := by rw [← pl_names]; exact h.me
theorem POk.put {ns : List Str} {k j : Str} {p : Pl} {t : Int} {v : Int × Int} (h : POk ns k p) (hj : j ∈ ns) : POk ns k ⟨t, aput p.rows j v, p.gone⟩ := by
  refine ⟨aput_nd h.nd, h.gd, fun i hi => (aput_mem hi).elim (fun e => by rw [e]; exact hj) (h.u1 i), h.u2, ?_⟩
  show k ∈ (aput p.rows j v).map (·.1)
  by_cases z : j ∈ p.rows.map (·.1)
  · rw [aput_names_in z]; exact h.me
  · rw [aput_names_out z, List.map_append]; exact List.mem_append_left _ h.me
theorem rput_cnt {a : Addr × HO} {k : Str} {v : Addr × Int × Int} : ∀ {l : List Rw}, cnt a ((aput l k v).map rowO) ≤ cnt a (l.map rowO) + one1 a (rowO (k, v))
  | [] => by show cnt a [rowO (k, v)] ≤ _; rw [cnt_cons, cnt_nil]; omega
  | x :: r => by
    by_cases e : x.1 = k
    · rw [aput, if_pos e, List.map_cons, List.map_cons, cnt_cons, cnt_cons]; omega
    · rw [aput, if_neg e, List.map_cons, List.map_cons, cnt_cons, cnt_cons]
      have := rput_cnt (a := a) (k := k) (v := v) (l := r)
      omega
theorem rdel_cnt {a : Addr × HO} {k : Str} : ∀ {l : List Rw}, cnt a ((adel l k).map rowO) ≤ cnt a (l.map rowO)
  | [] => Nat.le_refl _
  | x :: r => by
    by_cases e : x.1 = k
    · rw [adel, if_pos e, List.map_cons, cnt_cons]; omega
    · rw [adel, if_neg e, List.map_cons, List.map_cons, cnt_cons, cnt_cons]
      have := rdel_cnt (a := a) (k := k) (l := r)
      omega
/-- both crowds are the same -/
structure JI (ns : List Str) (ws : List VE) (os : List OE) : Prop where
  nm : ws.map (·.1) = ns
  ok : NOk ns
  eq : plsOf ws = plsO os
  pk : ∀ k p, aget (plsOf ws) k = some p → POk ns k p
theorem JI.om {ns : List Str} {ws : List VE} {os : List OE} (h : JI ns ws os) : os.map (·.1) = ns := by rw [← plo_names, ← h.eq, pls_names]; exact h.nm
theorem JI.both {ns : List Str} {ws : List VE} {os : List OE} (h : JI ns ws os) {k : Str} (hk : k ∈ ns) : ∃ d e, aget ws k = some d ∧ aget os k = some e ∧ d.s.pl = e.s.pl ∧ POk ns k d.s.pl := by
  obtain ⟨d, hd⟩ := aget_in (l := ws) (k := k) (by rw [h.nm]; exact hk)
  obtain ⟨e, he⟩ := aget_in (l := os) (k := k) (by rw [h.om]; exact hk)
  have h1 : aget (plsOf ws) k = some d.s.pl := by rw [pls_get, hd]; rfl
  have h2 : aget (plsO os) k = some e.s.pl := by rw [plo_get, he]; rfl
  refine ⟨d, e, hd, he, ?_, h.pk k _ h1⟩
  rw [h.eq, h2] at h1
  exact (Option.some.inj h1).symm
theorem JI.put {ns : List Str} {ws : List VE} {os : List OE} (h : JI ns ws os) {k : Str} {d : VD} {e : OD} (hk : k ∈ ns) (he : d.s.pl = e.s.pl) (hp : POk ns k d.s.pl) : JI ns (aput ws k d) (aput os k e) := by
  refine ⟨aput_nm h.nm hk, h.ok, ?_, fun j p hj => ?_⟩
  · rw [pls_put, plo_put, h.eq, he]
  · rw [pls_put, aget_put] at hj
    by_cases z : k = j
    · rw [if_pos z] at hj
      cases hj
      rw [← z]; exact hp
    · rw [if_neg z] at hj
      exact h.pk j p hj
/-- places that stay -/
structure Fx where
  a : Addr
  d : Addr
  na : Addr
  cr : Addr
  dc : Addr
  vd : Addr
  dd : Addr
  wd : Addr
  t : Int
  ns : List Str
def CoreL (CC CV PN : Addr) (F : Fx) (ps : Array Value) (ws : List VE) (os : List OE) (R : Lg) : Lg :=
  (PN, HO.tbl ps) :: (F.cr, .ins CC F.dc (fz nmC [.ref F.vd, .ref F.dd, .int F.t])) :: (F.vd, .dK (ws.map (kk veV))) :: (F.dd, .dK []) :: (F.wd, .dK (os.map (kk oeV))) :: (vsL CV ws ++ (osL os ++ R))
def sg (F : Fx) (v5 v6 v7 v8 v9 v10 v11 v12 v13 v14 v15 v16 v17 v18 v19 : Option V) : L2.St :=
  [some (.ref F.a), some (.ref F.d), some (.ref F.na), some (.ref F.cr), some (.ref F.wd), v5, v6, v7, v8, v9, v10, v11, v12, v13, v14, v15, v16, v17, v18, v19]
def Sh (F : Fx) (σ : L2.St) : Prop := ∃ v5 v6 v7 v8 v9 v10 v11 v12 v13 v14 v15 v16 v17 v18 v19 : Option V, σ = sg F v5 v6 v7 v8 v9 v10 v11 v12 v13 v14 v15 v16 v17 v18 v19
def Okk (CC CV PN : Addr) (F : Fx) (R : Lg) (σ : L2.St) (H : Hp) : Prop := ∃ (ps : Array Value) (ws : List VE) (os : List OE), Sh F σ ∧ JI F.ns ws os ∧ TriplesOk ps.toList ∧ Led H (CoreL CC CV PN F ps ws os R)
/-- a block with one and other -/
def tBlk (CC CV PN : Addr) : TS := fun D σ H => ∃ (F : Fx) (R : Lg) (ps : Array Value) (ws : List VE) (os : List OE) (so : Int) (one other : Str) (v6 v7 v10 v11 v12 v13 v14 v15 v16 v17 v18 v19 : Option V), σ = sg F (some (.str one)) v6 v7 (some (.int so)) (some (.str other)) v10 v11 v12 v13 v14 v15 v16 v17 v18 v19 ∧
  one ∈ F.ns ∧ other ∈ F.ns ∧ JI F.ns ws os ∧ TriplesOk ps.toList ∧ Led H (CoreL CC CV PN F ps ws os R) ∧ ∀ σ' H', Okk CC CV PN F R σ' H' → D.nx σ' H'
section
variable {P : Program} {w : World} {K : PySem.W.Frag} {mg : Str → Option Value} {base : Heap} {CV CC CE PN : Addr} {f : Addr} {cdv : Value} {A : Around} {outer : List Env} {s0 : Shared} {H0 : Hp} {E : XK}
structure TxtR (mg : Str → Option Value) : Prop where
  range : mg "range" = none
  int : mg "int" = none
theorem blk_tick (hr : Room 8 (LX P w K mg base f cdv A outer s0 H0 E).A) (X : TxtCr K mg CC) (T : TxtR mg) (c_View_tick : Met P w K mg base 1 CV "tick" (spTick CV) []) : PSs (LX P w K mg base f cdv A outer s0 H0 E) blkTick (tBlk CC CV PN) := by
  refine pss_imp (t := _) (pss_one (ps_for PassesOwn.never rfl (pi_range1 (by rfl) T.range (pa_cons (pe_op op_add pe_int (pe_op op_mul pe_int (pe_callTy call_int1 (by rfl) T.int (by decide +kernel) (pa_cons (pe_cmpR op_eq (pv 8) pe_int (nomark _)) pa_nil)))) pa_nil)) (pg_name (i := 10) scLaw.nd rfl (Or.inl rfl))
  (pss_cons (ps_expr (pe_mt0 c_View_tick hr (by decide) (pe_dget (hu_of hr) (pe_fld (pv 3) rfl) (pv 5) (fun _ _ => rfl))))
  (pss_cons (ps_set (i := 11) scLaw.nd rfl (Or.inr rfl) (pe_dget (hu_of hr) (pv 4) (pv 5) (fun _ _ => rfl)))
  (pss_cons (ps_asg (pe_tup (pa_cons (pe_op op_add (pe_dget (hu_of hr) (pv 11) pe_str (fun _ _ => rfl)) pe_int) (pa_cons (pe_dget (hu_of hr) (pv 11) pe_str (fun _ _ => rfl)) pa_nil))) (pg_tup (by rfl) (pgs_cons (pg_sub (pv 11) pe_str (set_dict (hu_of hr))) (pgs_cons (pg_name (i := 12) scLaw.nd rfl (Or.inl rfl)) pgs_nil))))
  (pss_one (ps_dput (hu_of hr) (pv 12) (pv 5) (pe_tup (pa_cons (pe_op op_add (pe_ix ix_tup (pe_dget (hu_of hr) (pv 12) (pv 5) (fun _ _ => rfl)) pe_int (fun _ _ => rfl)) pe_int) (pa_cons (pe_dget (hu_of hr) (pv 11) pe_str (fun _ _ => rfl)) pa_nil))) rfl))))))) ?_
  rintro D σ H ⟨F, R, ps, ws, os, so, one, other, v6, v7, v10, v11, v12, v13, v14, v15, v16, v17, v18, v19, rfl, h1, h2, J, ht, hL, k⟩
  have c1 := X.cl
  have f1 := X.n "views" (by decide +kernel)
  unfold sg
  fail "go"
  generalize (1 + 4 * if decide (V.int so = V.int 2) = true then (1 : Int) else 0).toNat = nn
  refine for_rangeA (fun i σ H => Hold (∃ (ps : Array Value) (ws : List VE) (os : List OE) (v10 v11 v12 : Option V), σ = sg F (some (.str one)) v6 v7 (some (.int so)) (some (.str other)) v10 v11 v12 v13 v14 v15 v16 v17 v18 v19 ∧ JI F.ns ws os ∧ TriplesOk ps.toList ∧ Led H (CoreL CC CV PN F ps ws os R)))
    (.mk ⟨ps, ws, os, v10, v11, v12, rfl, J, ht, hL⟩) (fun i σ H D' hi h hD' => ?_) (fun σ H h => ?_)
  · clear hL J ht
    obtain ⟨ps, ws, os, v10, v11, v12, rfl, J, ht, hL⟩ := h.out
    clear h
    obtain ⟨d, e, hd, he, hp, pk⟩ := J.both h1
    have pk2 : POk F.ns one e.s.pl := by rw [← hp]; exact pk
    obtain ⟨⟨a, c, tt⟩, hrow⟩ := aget_in pk.m
    obtain ⟨⟨a2, c2, tt2⟩, hrow2⟩ := aget_in pk2.m
    have et : d.s.time = e.s.time := congrArg Pl.time hp
    have ec : c = c2 := by
      have h1 : aget d.s.pl.rows one = some (c, tt) := by rw [pl_get, hrow]; rfl
      have h2 : aget e.s.pl.rows one = some (c2, tt2) := by rw [pl_get, hrow2]; rfl
      rw [hp, h2] at h1
      injection h1 with h1
      exact (congrArg Prod.fst h1).symm
    subst ec
    have lkv : valV (ws.map (kk veV)) (Sum.inr one) = some (.ref d.v) := by rw [ws_val, hd]; rfl
    have lko : valV (os.map (kk oeV)) (Sum.inr one) = some (.ref e.o) := by rw [os_val, he]; rfl
    have lkr : valV (e.s.rows.map (kk rowV)) (Sum.inr one) = some (.ref a2) := by rw [kk_val, hrow2]; rfl
    obtain ⟨R1, hc⟩ := vs_cnt (CV := CV) hd
    obtain ⟨R2, ho⟩ := os_cnt he
    have hz := J.ok.z
    unfold sg
    have hL1 := hL
    dsimp only [CoreL] at hL
    fail "go"
    refine k_meth hL (at_mem (.tail _ (.tail _ (.tail _ (.tail _ (.tail _ (List.mem_append_left _ (ve_mem hd (.head _))))))))) (fz_no (by decide +kernel)) ?_
    refine ⟨d.v, d.dv, d.rd, d.gd, one, d.s, a, c, tt, (PN, HO.tbl ps) :: (F.cr, .ins CC F.dc (fz nmC [.ref F.vd, .ref F.dd, .int F.t])) :: (F.vd, .dK (ws.map (kk veV))) :: (F.dd, .dK []) :: (F.wd, .dK (os.map (kk oeV))) :: (R1 ++ (osL os ++ R)), rfl, ?_, pk.h.ok hz, hrow, fun q0 H hL => ?_⟩
    · have h0 := hc d
      rw [aput_self hd] at h0
      (refine Led.le hL (fun a_ => ?_); have q0_ := h0 a_; (try dsimp only at q0_); (try simp only [cnt_nil, cnt_cons, cnt_app, List.map_append, List.map_cons, List.map_nil, List.flatMap_append, List.flatMap_cons, List.flatMap_nil, List.append_assoc, List.cons_append, List.nil_append] at q0_); simp only [cnt_nil, cnt_cons, cnt_app, List.map_append, List.map_cons, List.map_nil, List.flatMap_append, List.flatMap_cons, List.flatMap_nil, List.append_assoc, List.cons_append, List.nil_append]; omega)
    have ho0 := ho e
    rw [aput_self he] at ho0
    replace hL : Led H ((PN, HO.tbl ps) :: (F.wd, .dK (os.map (kk oeV))) :: (e.o, .dK (dz nmL [.int e.s.time, .ref e.gd, .ref e.rd])) :: (e.rd, .dK (e.s.rows.map (kk rowV))) :: (F.cr, .ins CC F.dc (fz nmC [.ref F.vd, .ref F.dd, .int F.t])) :: (F.vd, .dK (ws.map (kk veV))) :: (F.dd, .dK []) :: (e.gd, .dK (e.s.gone.map (kk goneV))) :: (e.s.rows.map rowO ++
      (vsL CV (aput ws one ⟨d.v, d.dv, d.rd, d.gd, ⟨d.s.time + 1, aput d.s.rows one (q0, c + 1, d.s.time + 1), d.s.gone⟩⟩) ++ (R2 ++ R)))) := by
      (refine Led.le hL (fun a_ => ?_); have q0_ := ho0 a_; (try dsimp only at q0_); (try simp only [cnt_nil, cnt_cons, cnt_app, List.map_append, List.map_cons, List.map_nil, List.flatMap_append, List.flatMap_cons, List.flatMap_nil, List.append_assoc, List.cons_append, List.nil_append, OV] at q0_); have q1_ := hc ⟨d.v, d.dv, d.rd, d.gd, ⟨d.s.time + 1, aput d.s.rows one (q0, c + 1, d.s.time + 1), d.s.gone⟩⟩ a_; (try dsimp only at q1_); (try simp only [cnt_nil, cnt_cons, cnt_app, List.map_append, List.map_cons, List.map_nil, List.flatMap_append, List.flatMap_cons, List.flatMap_nil, List.append_assoc, List.cons_append, List.nil_append, OV] at q1_); simp only [cnt_nil, cnt_cons, cnt_app, List.map_append, List.map_cons, List.map_nil, List.flatMap_append, List.flatMap_cons, List.flatMap_nil, List.append_assoc, List.cons_append, List.nil_append, OV]; omega)
    fail "go"
    refine k_ixT hL (at_mem (.tail _ (.tail _ (.tail _ (.tail _ (.tail _ (.tail _ (.tail _ (.tail _ (.tail _ (List.mem_append_left _ (row_mem hrow2)))))))))))) rfl ?_
    fail "go"
    refine k_dputS hL (by fail "ix") (by rw [List.length_map]; exact Nat.lt_of_lt_of_le ((pk2.h.ok hz).sz) (by decide)) (kk_put (vo := rowV) (v := (_, c + 1, e.s.time + 1)) pk2.h.nd) (by fail "up") fun H hL => ?_
    dsimp only [List.set, List.cons_append, List.nil_append, List.append] at hL
    obtain ⟨d', hd'⟩ : ∃ d' : VD, d' = ⟨d.v, d.dv, d.rd, d.gd, ⟨d.s.time + 1, aput d.s.rows one (q0, c + 1, d.s.time + 1), d.s.gone⟩⟩ := ⟨_, rfl⟩
    obtain ⟨e', he'⟩ : ∃ e' : OD, e' = ⟨e.o, e.rd, e.gd, ⟨e.s.time + 1, aput e.s.rows one (p, c + 1, e.s.time + 1), e.s.gone⟩⟩ := ⟨_, rfl⟩
    have pd : d'.s.pl = ⟨d.s.pl.time + 1, aput d.s.pl.rows one (c + 1, d.s.pl.time + 1), d.s.pl.gone⟩ := by
      rw [hd']; exact pl_put (s := ⟨d.s.time + 1, d.s.rows, d.s.gone⟩)
    have pe : e'.s.pl = ⟨e.s.pl.time + 1, aput e.s.pl.rows one (c + 1, e.s.pl.time + 1), e.s.pl.gone⟩ := by
      rw [he']; exact pl_put (s := ⟨e.s.time + 1, e.s.rows, e.s.gone⟩)
    rw [← hd'] at hL
    refine hD'.nx _ _ (.mk ⟨ps, aput ws one d', aput os one e', _, _, _, rfl, J.put h1 (by rw [pd, pe, hp]) (by rw [pd]; exact pk.put h1), ht, ?_⟩)
    unfold CoreL
    rw [vsd_put hd (d' := d') (by rw [hd']), osd_put he (d' := e') (by rw [he'])]
    have h3 := ho e'
    rw [he'] at h3 ⊢
    (refine Led.le hL (fun a_ => ?_); have q0_ := h3 a_; (try dsimp only at q0_); (try simp only [cnt_nil, cnt_cons, cnt_app, List.map_append, List.map_cons, List.map_nil, List.flatMap_append, List.flatMap_cons, List.flatMap_nil, List.append_assoc, List.cons_append, List.nil_append, OV, rowO] at q0_); have q1_ := rput_cnt (l := e.s.rows) (k := one) (v := (p, c + 1, e.s.time + 1)) (a := a_); (try dsimp only at q1_); (try simp only [cnt_nil, cnt_cons, cnt_app, List.map_append, List.map_cons, List.map_nil, List.flatMap_append, List.flatMap_cons, List.flatMap_nil, List.append_assoc, List.cons_append, List.nil_append, OV, rowO] at q1_); simp only [cnt_nil, cnt_cons, cnt_app, List.map_append, List.map_cons, List.map_nil, List.flatMap_append, List.flatMap_cons, List.flatMap_nil, List.append_assoc, List.cons_append, List.nil_append, OV, rowO]; omega)
  · obtain ⟨ps, ws, os, v10, v11, v12, rfl, J, ht, hL⟩ := h.out
    exact k _ _ ⟨ps, ws, os, ⟨_, _, _, _, _, _, _, _, _, _, _, _, _, _, _, rfl⟩, J, ht, hL⟩
end
end Sd


set_option linter.unusedVariables false
namespace Sd
open PySem L2
open C8 (Cal Met Mak pe_c pe_mk pe_mt pe_mt0 tCut)
set_option linter.unusedSimpArgs false
set_option pp.deepTerms false
set_option pp.deepTerms.threshold 12
set_option hygiene false
local macro_rules | `(tactic| fail "nd") => `(tactic| first | assumption | decide +kernel)
local macro_rules | `(tactic| fail "ix") => `(tactic| first | exact ⟨0, rfl⟩ | exact ⟨1, rfl⟩ | exact ⟨2, rfl⟩ | exact ⟨3, rfl⟩ | exact ⟨4, rfl⟩ | exact ⟨5, rfl⟩ | exact ⟨6, rfl⟩ | exact ⟨7, rfl⟩ | exact ⟨8, rfl⟩ | exact ⟨9, rfl⟩ | exact ⟨10, rfl⟩ | exact ⟨11, rfl⟩ | exact ⟨12, rfl⟩ | exact ⟨13, rfl⟩ | exact ⟨14, rfl⟩ | exact ⟨15, rfl⟩ | exact ⟨16, rfl⟩ | exact ⟨17, rfl⟩ | exact ⟨18, rfl⟩ | assumption)
local macro_rules | `(tactic| fail "up") => `(tactic| first | exact ⟨0, rfl, rfl⟩ | exact ⟨1, rfl, rfl⟩ | exact ⟨2, rfl, rfl⟩ | exact ⟨3, rfl, rfl⟩ | exact ⟨4, rfl, rfl⟩ | exact ⟨5, rfl, rfl⟩ | exact ⟨6, rfl, rfl⟩ | exact ⟨7, rfl, rfl⟩ | exact ⟨8, rfl, rfl⟩ | exact ⟨9, rfl, rfl⟩ | exact ⟨10, rfl, rfl⟩ | exact ⟨11, rfl, rfl⟩ | exact ⟨12, rfl, rfl⟩ | exact ⟨13, rfl, rfl⟩ | exact ⟨14, rfl, rfl⟩ | exact ⟨15, rfl, rfl⟩ | exact ⟨16, rfl, rfl⟩ | assumption)
local macro_rules | `(tactic| fail "lkF") => `(tactic| first | assumption | exact fz_at 0 (by fail "nd") rfl rfl | exact fz_at 1 (by fail "nd") rfl rfl | exact fz_at 2 (by fail "nd") rfl rfl | exact fz_at 3 (by fail "nd") rfl rfl | exact fz_at 4 (by fail "nd") rfl rfl | exact fz_at 5 (by fail "nd") rfl rfl | exact fz_at 6 (by fail "nd") rfl rfl | exact fz_at 7 (by fail "nd") rfl rfl)
local macro_rules | `(tactic| fail "lkD") => `(tactic| first | assumption | exact dz_at 0 (by fail "nd") rfl rfl | exact dz_at 1 (by fail "nd") rfl rfl | exact dz_at 2 (by fail "nd") rfl rfl | exact dz_at 3 (by fail "nd") rfl rfl | exact dz_at 4 (by fail "nd") rfl rfl)
local macro_rules | `(tactic| fail "ptF") => `(tactic| first | assumption | exact fz_put 0 (by fail "nd") rfl (Nat.le_of_ble_eq_true rfl) | exact fz_put 1 (by fail "nd") rfl (Nat.le_of_ble_eq_true rfl) | exact fz_put 2 (by fail "nd") rfl (Nat.le_of_ble_eq_true rfl) | exact fz_put 3 (by fail "nd") rfl (Nat.le_of_ble_eq_true rfl) | exact fz_put 4 (by fail "nd") rfl (Nat.le_of_ble_eq_true rfl) | exact fz_put 5 (by fail "nd") rfl (Nat.le_of_ble_eq_true rfl) | exact fz_put 6 (by fail "nd") rfl (Nat.le_of_ble_eq_true rfl) | exact fz_put 7 (by fail "nd") rfl (Nat.le_of_ble_eq_true rfl) | exact fz_new (by decide +kernel) rfl)
local macro_rules | `(tactic| fail "ptD") => `(tactic| first | assumption | exact dz_put 0 (by fail "nd") rfl (Nat.le_of_ble_eq_true rfl) | exact dz_put 1 (by fail "nd") rfl (Nat.le_of_ble_eq_true rfl) | exact dz_put 2 (by fail "nd") rfl (Nat.le_of_ble_eq_true rfl) | exact dz_put 3 (by fail "nd") rfl (Nat.le_of_ble_eq_true rfl) | exact dz_put 4 (by fail "nd") rfl (Nat.le_of_ble_eq_true rfl))
local macro_rules | `(tactic| fail "sz") => `(tactic| first | assumption | exact (Nat.le_of_ble_eq_true rfl) | omega | decide)
local macro_rules | `(tactic| fail "sd") => `(tactic| first | rfl | assumption | decide | omega | (dsimp only; first | decide | omega) | exact .inr ⟨by decide, by decide⟩ | exact .inl ⟨by decide, by decide⟩ | exact ⟨by omega, by omega⟩ | exact .inl ⟨by omega, by omega⟩ | exact .inr ⟨by omega, by omega⟩ | exact ⟨by omega, by omega, by omega⟩)
local macro_rules | `(tactic| fail "cl") => `(tactic| (clear hH; dsimp only [List.set, List.cons_append, List.nil_append, List.append] at hL))
local macro_rules | `(tactic| fail "gn") => `(tactic| (intro p hp; generalize hH : upd H p _ = H; replace hL := Led.newH hL hp hH; clear hH hp))
local macro_rules | `(tactic| fail "gup") => `(tactic| (generalize hH : upd H _ _ = H; replace hL := Led.upU hL (by fail "up") hH; fail "cl"))
local macro_rules | `(tactic| fail "gmk") => `(tactic| (intro x dx hx hd ne; generalize hH : upd (upd H dx _) x _ = H; replace hL := Led.made hL hx hd ne hH; clear hH hx hd ne))
local macro_rules | `(tactic| fail "v") => `(tactic| refine ⟨_, rfl, ?_⟩)
local macro_rules | `(tactic| fail "i2") => `(tactic| refine ⟨_, _, rfl, rfl, ?_⟩)
local macro_rules | `(tactic| fail "go1") => `(tactic| first
  | refine ⟨_, rfl, ?_⟩
  | refine ⟨_, _, rfl, rfl, ?_⟩
  | refine ⟨_, _, rfl, ?_⟩
  | refine iteT ?_
  | refine iteF ?_
  | refine k_fld hL (by fail "ix") (by assumption) (by assumption) (by fail "lkF") ?_
  | refine k_dgetS hL (by fail "ix") (by fail "lkD") ?_
  | refine k_dgetI hL (by fail "ix") (by assumption) ?_
  | refine k_ixL hL (by fail "ix") (by first | rfl | assumption) ?_
  | refine k_ixT hL (by fail "ix") (by first | rfl | assumption) ?_
  | refine k_tyL hL (by fail "ix") ?_
  | refine k_isd hL (by fail "ix") ?_
  | (refine And.intro (by fail "sz") ?_; fail "gn")
  | refine And.intro (by fail "sd") ?_
  | fail "gn"
  | refine k_meth hL (by fail "ix") (by first | assumption | exact fz_no (by decide +kernel)) ?_
  | refine k_gtup hL (by fail "ix") rfl ?_
  | (refine k_popI hL (by fail "ix") (by assumption) ?_; fail "gup")
  | (refine k_listD hL (by fail "ix") ?_; fail "gn")
  | (refine ⟨_, _, _, _, rfl, rfl, hL.at (by fail "ix"), rfl, ?_⟩; fail "gup")
  | (refine ⟨_, _, _, rfl, rfl, hL.at (by fail "ix"), (by fail "sz"), ?_⟩; fail "gup")
  | (refine ⟨_, _, _, _, rfl, hL.at (by fail "ix"), by assumption, by assumption, Nat.lt_of_le_of_lt fz_len (by decide), ?_⟩; generalize hH : upd H _ _ = H; replace hL := Led.upF hL (by fail "up") (by fail "ptF") hH; fail "cl")
  | (refine ⟨_, _, hL.at (by fail "ix"), Nat.lt_of_le_of_lt fz_len (by decide), ?_⟩; generalize hH : upd H _ _ = H; replace hL := Led.upF hL (by fail "up") (by fail "ptF") hH; fail "cl")
  | (refine k_dputS hL (by fail "ix") (Nat.lt_of_le_of_lt dz_len (by decide)) (by fail "ptD") (by fail "up") ?_; clear hL; intro H hL; dsimp only [List.set, List.cons_append, List.nil_append, List.append] at hL)
  | refine k_lenL2 hL (by fail "ix") ?_
  | refine k_lenT2 hL (by fail "ix") ?_
  | refine .inl ⟨_, rfl, ?_⟩
  | refine .inr ⟨_, rfl, ?_⟩)
local macro_rules | `(tactic| fail "go") => `(tactic| repeat fail "go1")
local macro_rules | `(tactic| fail "pm") => `(tactic| (refine Led.le hL (fun a_ => ?_); simp only [cnt_nil, cnt_cons, cnt_app, List.map_append, List.map_cons, List.map_nil, List.flatMap_append, List.flatMap_cons, List.flatMap_nil, List.append_assoc, List.cons_append, List.nil_append]; omega))

theorem POk.hear {ns : List Str} {k : Str} : ∀ {news : List (Str × Int)} {p : Pl}, POk ns k p → (∀ x ∈ news, x.1 ∈ ns) → POk ns k (hearP p news)
  | [], _, h, _ => h
  | x :: r, p, h, hn => by
    unfold hearP
    rw [List.foldl_cons]
    refine POk.hear (news := r) ?_ fun y hy => hn y (.tail _ hy)
    unfold hear1
    split
    · exact h.put (hn x List.mem_cons_self)
    · exact h
/-- the news of a view, sorted -/
theorem news_same {s s2 : VS} {ys ys2 : List Str} {nw nw2 : List Nw} (hp : s.pl = s2.pl) (h1 : ys.Perm (s.rows.map (·.1))) (h2 : ys2.Perm (s2.rows.map (·.1))) (h3 : PyProof.Rows.sortedS ys = true) (h4 : PyProof.Rows.sortedS ys2 = true)
    (h5 : nw.map (·.2) = ys.map (fun y => (y, cntOf s.rows y))) (h6 : nw2.map (·.2) = ys2.map (fun y => (y, cntOf s2.rows y))) : nw.map (·.2) = nw2.map (·.2) := by
  have e : ys = ys2 := by
    refine sortedS_uniq (h1.trans ?_) h3 h4
    rw [← pl_names, hp, pl_names]
    exact h2.symm
  rw [h5, h6, e]
  exact List.map_congr_left fun y _ => by rw [← cnt_pl, ← cnt_pl, hp]
theorem news_in {s : VS} {ns ys : List Str} {nw : List Nw} (h : ∀ j ∈ s.rows.map (·.1), j ∈ ns) (h1 : ys.Perm (s.rows.map (·.1))) (h5 : nw.map (·.2) = ys.map (fun y => (y, cntOf s.rows y))) : ∀ n ∈ nw, n.2.1 ∈ ns := fun n hn => by
  have : n.2 ∈ ys.map (fun y => (y, cntOf s.rows y)) := by rw [← h5]; exact List.mem_map.mpr ⟨n, hn, rfl⟩
  obtain ⟨y, hy, e2⟩ := List.mem_map.mp this
  rw [← e2]; exact h y (h1.mem_iff.mp hy)
theorem forget_keep {k : Str} : ∀ {gs : List Str} {p : Pl}, k ∈ p.rows.map (·.1) → k ∉ gs → k ∈ (gs.foldl forget1 p).rows.map (·.1)
  | [], _, h, _ => h
  | x :: r, p, h, hn => by
    rw [List.foldl_cons]
    refine forget_keep (gs := r) ?_ fun z => hn (.tail _ z)
    exact adel_mem h fun e => hn (by rw [e]; exact List.mem_cons_self)
theorem foldl_take {α β : Type} {f : β → α → β} {l : List α} {i : Nat} {x : α} {b : β} (h : l[i]? = some x) : (l.take (i + 1)).foldl f b = f ((l.take i).foldl f b) x := by
  rw [List.take_add_one, h, List.foldl_append]; rfl
section
variable {P : Program} {w : World} {K : PySem.W.Frag} {mg : Str → Option Value} {base : Heap} {CV CC CE PN : Addr} {f : Addr} {cdv : Value} {A : Around} {outer : List Env} {s0 : Shared} {H0 : Hp} {E : XK}
theorem blk_hear (hr : Room 8 (LX P w K mg base f cdv A outer s0 H0 E).A) (X : TxtCr K mg CC) (c_View_hear : Met P w K mg base 1 CV "hear" (spHear CV) []) (c_View_news : Met P w K mg base 5 CV "news" (spNews CV PN) []) (c__law_hear : Cal P w K mg base 1 "_law_hear" spLHear []) (c__law_news : Cal P w K mg base 1 "_law_news" spLNews []) :
    PSs (LX P w K mg base f cdv A outer s0 H0 E) blkHear (tBlk CC CV PN) := by
  refine pss_imp (t := _) (pss_cons (ps_expr (pe_mt c_View_hear hr (by decide) (pe_dget (hu_of hr) (pe_fld (pv 3) rfl) (pv 5) (fun _ _ => rfl)) (pa_cons (pe_mt0 c_View_news hr (by decide) (pe_dget (hu_of hr) (pe_fld (pv 3) rfl) (pv 9) (fun _ _ => rfl))) pa_nil)))
  (pss_one (ps_expr (pe_c c__law_hear hr (by decide) (by rfl) (pa_cons (pe_dget (hu_of hr) (pv 4) (pv 5) (fun _ _ => rfl)) (pa_cons (pe_c c__law_news hr (by decide) (by rfl) (pa_cons (pe_dget (hu_of hr) (pv 4) (pv 9) (fun _ _ => rfl)) pa_nil)) pa_nil)))))) ?_
  rintro D σ H ⟨F, R, ps, ws, os, so, one, other, v6, v7, v10, v11, v12, v13, v14, v15, v16, v17, v18, v19, rfl, h1, h2, J, ht, hL, k⟩
  have c1 := X.cl
  have f1 := X.n "views" (by decide +kernel)
  obtain ⟨d, e, hd, he, hp, pk⟩ := J.both h1
  obtain ⟨dn, en, hdn, hen, hpn, pkn⟩ := J.both h2
  have pk2 : POk F.ns one e.s.pl := by rw [← hp]; exact pk
  have pkn2 : POk F.ns other en.s.pl := by rw [← hpn]; exact pkn
  have lkv : valV (ws.map (kk veV)) (Sum.inr one) = some (.ref d.v) := by rw [ws_val, hd]; rfl
  have lkn : valV (ws.map (kk veV)) (Sum.inr other) = some (.ref dn.v) := by rw [ws_val, hdn]; rfl
  have lko : valV (os.map (kk oeV)) (Sum.inr one) = some (.ref e.o) := by rw [os_val, he]; rfl
  have lkp : valV (os.map (kk oeV)) (Sum.inr other) = some (.ref en.o) := by rw [os_val, hen]; rfl
  obtain ⟨R1, hc⟩ := vs_cnt (CV := CV) hd
  obtain ⟨R2, ho⟩ := os_cnt he
  obtain ⟨R3, hcn⟩ := vs_cnt (CV := CV) hdn
  obtain ⟨R4, hon⟩ := os_cnt hen
  have hz := J.ok.z
  unfold sg
  dsimp only [CoreL] at hL
  fail "go"
  refine k_meth hL (at_mem (.tail _ (.tail _ (.tail _ (.tail _ (.tail _ (List.mem_append_left _ (ve_mem hd (.head _))))))))) (fz_no (by decide +kernel)) ?_
  fail "go"
  refine k_meth hL (at_mem (.tail _ (.tail _ (.tail _ (.tail _ (.tail _ (List.mem_append_left _ (ve_mem hdn (.head _))))))))) (fz_no (by decide +kernel)) ?_
  refine ⟨dn.v, dn.dv, dn.rd, dn.gd, other, dn.s, ps, (F.cr, .ins CC F.dc (fz nmC [.ref F.vd, .ref F.dd, .int F.t])) :: (F.vd, .dK (ws.map (kk veV))) :: (F.dd, .dK []) :: (F.wd, .dK (os.map (kk oeV))) :: (R3 ++ (osL os ++ R)), rfl, ?_, ht, pkn.h.ok hz, fun ys p nw ps H hys hs hnw ht hL => ?_⟩
  · have h0 := hcn dn
    rw [aput_self hdn] at h0
    (refine Led.le hL (fun a_ => ?_); have q0_ := h0 a_; (try dsimp only at q0_); (try simp only [cnt_nil, cnt_cons, cnt_app, List.map_append, List.map_cons, List.map_nil, List.flatMap_append, List.flatMap_cons, List.flatMap_nil, List.append_assoc, List.cons_append, List.nil_append] at q0_); simp only [cnt_nil, cnt_cons, cnt_app, List.map_append, List.map_cons, List.map_nil, List.flatMap_append, List.flatMap_cons, List.flatMap_nil, List.append_assoc, List.cons_append, List.nil_append]; omega)
  have hnn := news_in pkn.h.u1 hys hnw
  refine ⟨d.v, d.dv, d.rd, d.gd, p, one, d.s, nw, F.ns, (p, .tup (nw.map newsV)) :: (nw.map newsO ++ ((PN, .tbl ps) :: (F.cr, .ins CC F.dc (fz nmC [.ref F.vd, .ref F.dd, .int F.t])) :: (F.vd, .dK (ws.map (kk veV))) :: (F.dd, .dK []) :: (F.wd, .dK (os.map (kk oeV))) :: (R1 ++ (osL os ++ R)))), rfl, ?_, pk.h.ok hz, .head _, fun n hn => .tail _ (List.mem_append_left _ (List.mem_map.mpr ⟨n, hn, rfl⟩)), hz, pk.h.u1, pk.h.u2, hnn, fun s' H hs' vok hL => ?_⟩
  · have h1 := hcn dn
    rw [aput_self hdn] at h1
    have h2 := hc d
    rw [aput_self hd] at h2
    (refine Led.le hL (fun a_ => ?_); have q0_ := h1 a_; (try dsimp only at q0_); (try simp only [cnt_nil, cnt_cons, cnt_app, List.map_append, List.map_cons, List.map_nil, List.flatMap_append, List.flatMap_cons, List.flatMap_nil, List.append_assoc, List.cons_append, List.nil_append] at q0_); have q1_ := h2 a_; (try dsimp only at q1_); (try simp only [cnt_nil, cnt_cons, cnt_app, List.map_append, List.map_cons, List.map_nil, List.flatMap_append, List.flatMap_cons, List.flatMap_nil, List.append_assoc, List.cons_append, List.nil_append] at q1_); simp only [cnt_nil, cnt_cons, cnt_app, List.map_append, List.map_cons, List.map_nil, List.flatMap_append, List.flatMap_cons, List.flatMap_nil, List.append_assoc, List.cons_append, List.nil_append]; omega)
  obtain ⟨d', hd'⟩ : ∃ d' : VD, d' = ⟨d.v, d.dv, d.rd, d.gd, s'⟩ := ⟨_, rfl⟩
  have hc' := hc d'
  replace hL : Led H ((F.wd, .dK (os.map (kk oeV))) :: (PN, HO.tbl ps) :: (F.cr, .ins CC F.dc (fz nmC [.ref F.vd, .ref F.dd, .int F.t])) :: (F.vd, .dK (ws.map (kk veV))) :: (F.dd, .dK []) :: (vsL CV (aput ws one d') ++ (osL os ++ R))) := by
    rw [hd'] at hc' ⊢
    (refine Led.le hL (fun a_ => ?_); have q0_ := hc' a_; (try dsimp only at q0_); (try simp only [cnt_nil, cnt_cons, cnt_app, List.map_append, List.map_cons, List.map_nil, List.flatMap_append, List.flatMap_cons, List.flatMap_nil, List.append_assoc, List.cons_append, List.nil_append] at q0_); simp only [cnt_nil, cnt_cons, cnt_app, List.map_append, List.map_cons, List.map_nil, List.flatMap_append, List.flatMap_cons, List.flatMap_nil, List.append_assoc, List.cons_append, List.nil_append]; omega)
  fail "go"
  refine ⟨en.o, en.rd, en.gd, en.s, (F.wd, .dK (os.map (kk oeV))) :: (PN, HO.tbl ps) :: (F.cr, .ins CC F.dc (fz nmC [.ref F.vd, .ref F.dd, .int F.t])) :: (F.vd, .dK (ws.map (kk veV))) :: (F.dd, .dK []) :: (vsL CV (aput ws one d') ++ (R4 ++ R)), rfl, ?_, pkn2.h.ok hz, fun ys2 p2 nw2 H hys2 hs2 hnw2 hL => ?_⟩
  · have h0 := hon en
    rw [aput_self hen] at h0
    (refine Led.le hL (fun a_ => ?_); have q0_ := h0 a_; (try dsimp only at q0_); (try simp only [cnt_nil, cnt_cons, cnt_app, List.map_append, List.map_cons, List.map_nil, List.flatMap_append, List.flatMap_cons, List.flatMap_nil, List.append_assoc, List.cons_append, List.nil_append] at q0_); simp only [cnt_nil, cnt_cons, cnt_app, List.map_append, List.map_cons, List.map_nil, List.flatMap_append, List.flatMap_cons, List.flatMap_nil, List.append_assoc, List.cons_append, List.nil_append]; omega)
  have hnn2 := news_in pkn2.h.u1 hys2 hnw2
  have esame := news_same hpn hys hys2 hs hs2 hnw hnw2
  refine ⟨e.o, e.rd, e.gd, p2, e.s, nw2, F.ns, (p2, .lst (nw2.map newsV)) :: (nw2.map newsO ++ ((F.wd, .dK (os.map (kk oeV))) :: (PN, HO.tbl ps) :: (F.cr, .ins CC F.dc (fz nmC [.ref F.vd, .ref F.dd, .int F.t])) :: (F.vd, .dK (ws.map (kk veV))) :: (F.dd, .dK []) :: (vsL CV (aput ws one d') ++ (R2 ++ R)))), rfl, ?_, pk2.h, .head _, fun n hn => .tail _ (List.mem_append_left _ (List.mem_map.mpr ⟨n, hn, rfl⟩)), hz, hnn2, fun s2 H he2 hok hL => ?_⟩
  · have h0 := hon en
    rw [aput_self hen] at h0
    have h2 := ho e
    rw [aput_self he] at h2
    (refine Led.le hL (fun a_ => ?_); have q0_ := h0 a_; (try dsimp only at q0_); (try simp only [cnt_nil, cnt_cons, cnt_app, List.map_append, List.map_cons, List.map_nil, List.flatMap_append, List.flatMap_cons, List.flatMap_nil, List.append_assoc, List.cons_append, List.nil_append] at q0_); have q1_ := h2 a_; (try dsimp only at q1_); (try simp only [cnt_nil, cnt_cons, cnt_app, List.map_append, List.map_cons, List.map_nil, List.flatMap_append, List.flatMap_cons, List.flatMap_nil, List.append_assoc, List.cons_append, List.nil_append] at q1_); simp only [cnt_nil, cnt_cons, cnt_app, List.map_append, List.map_cons, List.map_nil, List.flatMap_append, List.flatMap_cons, List.flatMap_nil, List.append_assoc, List.cons_append, List.nil_append]; omega)
  obtain ⟨e', he'⟩ : ∃ e' : OD, e' = ⟨e.o, e.rd, e.gd, s2⟩ := ⟨_, rfl⟩
  have ho' := ho e'
  have pd : d'.s.pl = e'.s.pl := by
    rw [hd', he']
    show s'.pl = s2.pl
    rw [hs', he2, hp, esame]
  refine k _ _ ⟨ps, aput ws one d', aput os one e', ⟨_, _, _, _, _, _, _, _, _, _, _, _, _, _, _, rfl⟩, J.put h1 pd ?_, ht, ?_⟩
  · rw [hd']
    show POk F.ns one s'.pl
    rw [hs']
    refine pk.hear fun x hx => ?_
    obtain ⟨n, hn, rfl⟩ := List.mem_map.mp hx
    exact hnn n hn
  · unfold CoreL
    rw [vsd_put hd (d' := d') (by rw [hd']), osd_put he (d' := e') (by rw [he'])]
    rw [he'] at ho' ⊢
    (refine Led.le hL (fun a_ => ?_); have q0_ := ho' a_; (try dsimp only at q0_); (try simp only [cnt_nil, cnt_cons, cnt_app, List.map_append, List.map_cons, List.map_nil, List.flatMap_append, List.flatMap_cons, List.flatMap_nil, List.append_assoc, List.cons_append, List.nil_append] at q0_); simp only [cnt_nil, cnt_cons, cnt_app, List.map_append, List.map_cons, List.map_nil, List.flatMap_append, List.flatMap_cons, List.flatMap_nil, List.append_assoc, List.cons_append, List.nil_append]; omega)
theorem blk_forget (hr : Room 8 (LX P w K mg base f cdv A outer s0 H0 E).A) (X : TxtCr K mg CC) (T : TxtSN mg) (c_View_forget_dead : Met P w K mg base 3 CV "forget_dead" (spForget CV) []) (c__law_state : Cal P w K mg base 1 "_law_state" spLState []) :
    PSs (LX P w K mg base f cdv A outer s0 H0 E) blkForget (tBlk CC CV PN) := by
  refine pss_imp (t := _) (pss_cons (ps_set (i := 13) scLaw.nd rfl (Or.inl rfl) (pe_mt0 c_View_forget_dead hr (by decide) (pe_dget (hu_of hr) (pe_fld (pv 3) rfl) (pv 5) (fun _ _ => rfl))))
  (pss_cons (ps_set (i := 12) scLaw.nd rfl (Or.inl rfl) (pe_dget (hu_of hr) (pe_dget (hu_of hr) (pv 4) (pv 5) (fun _ _ => rfl)) pe_str (fun _ _ => rfl)))
  (pss_cons (ps_setLc (i := 14) (own := [("name", 6)]) (g := gName 6) (by rfl) scLaw.nd rfl rfl (sw_true rfl rfl rfl (by decide +kernel)) (pi_list (pe_callB (call_sortedD rfl) (by rfl) T.sorted (by decide +kernel) (pa_cons (pv 12) pa_nil))) (blkOk_by (own := [("name", 6)]) (N := ["script", "dice", "names", "crowd", "views", "one", "name", "step", "sort", "other", "turn", "view", "rows", "gone", "due", "forgotten", "here", "down", "up", "seen"]) (sc := (defScope sLaw)) (by decide +kernel)) (fun _ _ _ _ _ => (pg_name (i := 6) scLaw.nd rfl (Or.inl rfl))) (fun _ _ _ _ _ => (pts_one (pt_cmpR op_eq (pe_c c__law_state hr (by decide) (by rfl) (pa_cons (pe_dget (hu_of hr) (pv 4) (pv 5) (fun _ _ => rfl)) (pa_cons (pv 6) (pa_cons (pv 5) pa_nil)))) pe_str (nomark _)))) (fun _ _ _ _ _ => (pv 6)))
  (pss_cons (ps_if (pt_cmpR (op_neP hr.units) (pv 13) (pv 14) (nomark _))
  (pss_one (ps_ret pe_bl))
  pss_nil)
  (pss_one (ps_for PassesOwn.never rfl (pi_list (pv 14)) (pg_name (i := 6) scLaw.nd rfl (Or.inr rfl))
  (pss_cons (ps_set (i := 15) scLaw.nd rfl (Or.inl rfl) (pe_dget (hu_of hr) (pe_dget (hu_of hr) (pv 4) (pv 5) (fun _ _ => rfl)) pe_str (fun _ _ => rfl)))
  (pss_one (ps_dput (hu_of hr) (pv 15) (pv 6) (pe_ix ix_tup (pe_dpop1 (pv 12) (pv 6) ⟨rfl, rfl, rfl, rfl⟩) pe_int (fun _ _ => rfl)) rfl))))))))) ?_
  rintro D σ H ⟨F, R, ps, ws, os, so, one, other, v6, v7, v10, v11, v12, v13, v14, v15, v16, v17, v18, v19, rfl, h1, h2, J, ht, hL, k⟩
  have c1 := X.cl
  have f1 := X.n "views" (by decide +kernel)
  obtain ⟨d, e, hd, he, hp, pk⟩ := J.both h1
  have pk2 : POk F.ns one e.s.pl := by rw [← hp]; exact pk
  have lkv : valV (ws.map (kk veV)) (Sum.inr one) = some (.ref d.v) := by rw [ws_val, hd]; rfl
  have lko : valV (os.map (kk oeV)) (Sum.inr one) = some (.ref e.o) := by rw [os_val, he]; rfl
  obtain ⟨R1, hc⟩ := vs_cnt (CV := CV) hd
  obtain ⟨R2, ho⟩ := os_cnt he
  have hz := J.ok.z
  unfold sg
  dsimp only [CoreL] at hL
  fail "go"
  refine k_meth hL (at_mem (.tail _ (.tail _ (.tail _ (.tail _ (.tail _ (List.mem_append_left _ (ve_mem hd (.head _))))))))) (fz_no (by decide +kernel)) ?_
  refine ⟨d.v, d.dv, d.rd, d.gd, one, d.s, F.ns, (PN, HO.tbl ps) :: (F.cr, .ins CC F.dc (fz nmC [.ref F.vd, .ref F.dd, .int F.t])) :: (F.vd, .dK (ws.map (kk veV))) :: (F.dd, .dK []) :: (F.wd, .dK (os.map (kk oeV))) :: (R1 ++ (osL os ++ R)), rfl, ?_, pk.h, hz, fun ys s' g0 H hys hs hs' hok hL => ?_⟩
  · have h0 := hc d
    rw [aput_self hd] at h0
    (refine Led.le hL (fun a_ => ?_); have q0_ := h0 a_; (try dsimp only at q0_); (try simp only [cnt_nil, cnt_cons, cnt_app, List.map_append, List.map_cons, List.map_nil, List.flatMap_append, List.flatMap_cons, List.flatMap_nil, List.append_assoc, List.cons_append, List.nil_append] at q0_); simp only [cnt_nil, cnt_cons, cnt_app, List.map_append, List.map_cons, List.map_nil, List.flatMap_append, List.flatMap_cons, List.flatMap_nil, List.append_assoc, List.cons_append, List.nil_append]; omega)
  generalize hgs : inState d.s.pl one "dead" ys = gs at hL hs'
  have ho0 := ho e
  rw [aput_self he] at ho0
  replace hL : Led H ((g0, .lst (gs.map V.str)) :: (F.wd, .dK (os.map (kk oeV))) :: (e.o, .dK (dz nmL [.int e.s.time, .ref e.gd, .ref e.rd])) :: (e.rd, .dK (e.s.rows.map (kk rowV))) :: (e.gd, .dK (e.s.gone.map (kk goneV))) :: (PN, HO.tbl ps) :: (F.cr, .ins CC F.dc (fz nmC [.ref F.vd, .ref F.dd, .int F.t])) :: (F.vd, .dK (ws.map (kk veV))) :: (F.dd, .dK []) :: (e.s.rows.map rowO ++
      (VL CV d.v d.dv d.rd d.gd one s' ++ (R1 ++ (R2 ++ R))))) := by
    (refine Led.le hL (fun a_ => ?_); have q0_ := ho0 a_; (try dsimp only at q0_); (try simp only [cnt_nil, cnt_cons, cnt_app, List.map_append, List.map_cons, List.map_nil, List.flatMap_append, List.flatMap_cons, List.flatMap_nil, List.append_assoc, List.cons_append, List.nil_append, OV] at q0_); simp only [cnt_nil, cnt_cons, cnt_app, List.map_append, List.map_cons, List.map_nil, List.flatMap_append, List.flatMap_cons, List.flatMap_nil, List.append_assoc, List.cons_append, List.nil_append, OV]; omega)
  fail "go"
  refine ⟨_, _, e.s.rows.map (·.1), rfl, .inl (hL.at (by fail "ix")), kk_names, Nat.lt_trans (by rw [List.length_map]; exact (pk2.h.ok hz).sz) (by decide), fun ys2 p2 hys2 hs2 hf => ?_⟩
  generalize hH : upd H p2 _ = H
  replace hL := Led.newH hL hf hH
  clear hH hf
  have eys : ys2 = ys := by
    refine sortedS_uniq (hys2.trans ?_) hs2 hs
    rw [← pl_names, ← hp, pl_names]
    exact hys.symm
  subst eys
  rw [hp] at hgs hs'
  have hyl : ys2.length < 60 := by
    have := hys2.length_eq
    rw [List.length_map] at this
    rw [this]; exact (pk2.h.ok hz).sz
  refine ⟨_, rfl, ⟨_, .of (hL.at ⟨0, rfl⟩)⟩, fun D2 hD2 => lc_list (K := K) (a := p2) (xs := ys2.map V.str) (fun i H => Hold (Led H ((D2, .lst ((inState e.s.pl one "dead" (ys2.take i)).map .str)) :: (p2, .lst (ys2.map V.str)) :: (g0, .lst (gs.map V.str)) :: (F.wd, .dK (os.map (kk oeV))) :: (e.o, .dK (dz nmL [.int e.s.time, .ref e.gd, .ref e.rd])) :: (e.rd, .dK (e.s.rows.map (kk rowV))) :: (e.gd, .dK (e.s.gone.map (kk goneV))) :: (PN, HO.tbl ps) :: (F.cr, .ins CC F.dc (fz nmC [.ref F.vd, .ref F.dd, .int F.t])) :: (F.vd, .dK (ws.map (kk veV))) :: (F.dd, .dK []) :: (e.s.rows.map rowO ++
      (VL CV d.v d.dv d.rd d.gd one s' ++ (R1 ++ (R2 ++ R))))))) (.mk (hL.new hD2)) (fun i H _ h => ?_) (fun i x H hi h => ?_) (fun H h => ?_)⟩
  · exact .of (h.out.at ⟨1, rfl⟩)
  · clear hL
    have hL := h.out
    clear h
    rw [List.getElem?_map] at hi
    obtain ⟨y, hy, rfl⟩ := Option.map_eq_some_iff.mp hi
    have hm : y ∈ e.s.rows.map (·.1) := hys2.mem_iff.mp (List.mem_of_getElem? hy)
    have e1 : inState e.s.pl one "dead" (ys2.take (i + 1)) = inState e.s.pl one "dead" (ys2.take i) ++ (if stateP e.s.pl one y = "dead" then [y] else []) := by
      unfold inState
      rw [List.take_add_one, hy, List.filter_append]
      by_cases h : stateP e.s.pl one y = "dead" <;> simp [h]
    refine ⟨rfl, ?_⟩
    fail "go"
    refine ⟨e.o, e.rd, e.gd, one, y, e.s, (D2, .lst ((inState e.s.pl one "dead" (ys2.take i)).map .str)) :: (p2, .lst (ys2.map V.str)) :: (g0, .lst (gs.map V.str)) :: (F.wd, .dK (os.map (kk oeV))) :: (PN, HO.tbl ps) :: (F.cr, .ins CC F.dc (fz nmC [.ref F.vd, .ref F.dd, .int F.t])) :: (F.vd, .dK (ws.map (kk veV))) :: (F.dd, .dK []) ::
      (VL CV d.v d.dv d.rd d.gd one s' ++ (R1 ++ (R2 ++ R))), rfl, ?_, hm, fun H hL => ?_⟩
    · (refine Led.le hL (fun a_ => ?_); simp only [cnt_nil, cnt_cons, cnt_app, List.map_append, List.map_cons, List.map_nil, List.flatMap_append, List.flatMap_cons, List.flatMap_nil, List.append_assoc, List.cons_append, List.nil_append, OV]; omega)
    replace hL : Led H ((D2, .lst ((inState e.s.pl one "dead" (ys2.take i)).map .str)) :: (p2, .lst (ys2.map V.str)) :: (g0, .lst (gs.map V.str)) :: (F.wd, .dK (os.map (kk oeV))) :: (e.o, .dK (dz nmL [.int e.s.time, .ref e.gd, .ref e.rd])) :: (e.rd, .dK (e.s.rows.map (kk rowV))) :: (e.gd, .dK (e.s.gone.map (kk goneV))) :: (PN, HO.tbl ps) :: (F.cr, .ins CC F.dc (fz nmC [.ref F.vd, .ref F.dd, .int F.t])) :: (F.vd, .dK (ws.map (kk veV))) :: (F.dd, .dK []) :: (e.s.rows.map rowO ++
      (VL CV d.v d.dv d.rd d.gd one s' ++ (R1 ++ (R2 ++ R))))) := by (refine Led.le hL (fun a_ => ?_); simp only [cnt_nil, cnt_cons, cnt_app, List.map_append, List.map_cons, List.map_nil, List.flatMap_append, List.flatMap_cons, List.flatMap_nil, List.append_assoc, List.cons_append, List.nil_append, OV]; omega)
    fail "go"
    refine ite_d (fun h1 => ?_) (fun h1 => ?_)
    · have h1 := V.str.inj h1
      refine ⟨_, rfl, _, hL.at ⟨0, rfl⟩, ?_, ?_⟩
      · rw [List.length_map]
        have h2 : (inState e.s.pl one "dead" (ys2.take i)).length ≤ (ys2.take i).length := List.length_filter_le _ _
        rw [List.length_take] at h2
        have h3 : 60 ≤ sizeLine := by decide
        omega
      · rw [e1, if_pos h1, List.map_append]
        exact .mk (hL.set 0 rfl)
    · have h1 : ¬ stateP e.s.pl one y = "dead" := fun e => h1 (by rw [e])
      rw [e1, if_neg h1, List.append_nil]
      exact .mk hL
  · clear hL
    have hL := h.out
    clear h
    rw [List.length_map, List.take_length, hgs] at hL
    fail "go"
    refine k_neSame (dp_lst (hL.at (by fail "ix")) dp_strs) (dp_lst (hL.at (by fail "ix")) dp_strs) shal_strs ?_
    fail "go"
    have gnd : gs.Nodup := by
      rw [← hgs]
      exact (hys2.nodup_iff.mpr pk2.h.nd).sublist List.filter_sublist
    have gin : ∀ k ∈ gs, k ∈ e.s.rows.map (·.1) := fun k hk => by
      rw [← hgs] at hk
      exact hys2.mem_iff.mp ((List.mem_filter.mp hk).1)
    refine ⟨⟨_, .of (hL.at ⟨0, rfl⟩)⟩, ?_⟩
    have hlt : ∀ {k : Str} {s2 : VS}, aget (aput os one ⟨e.o, e.rd, e.gd, s2⟩) k = if one = k then some ⟨e.o, e.rd, e.gd, s2⟩ else aget os k := aget_put
    refine for_listA (K := K) (a := D2) (xs := gs.map V.str) (fun i σ H => Hold (∃ (s2 : VS) (v6 v15 : Option V), σ = sg F (some (.str one)) v6 v7 (some (.int so)) (some (.str other)) v10 v11 (some (.ref e.rd)) (some (.ref g0)) (some (.ref D2)) v15 v16 v17 v18 v19 ∧ s2.pl = (gs.take i).foldl forget1 e.s.pl ∧ HOk2 F.ns s2 ∧ (∀ k ∈ gs.drop i, k ∈ s2.rows.map (·.1)) ∧
      Led H ((D2, .lst (gs.map V.str)) :: (F.wd, .dK (os.map (kk oeV))) :: (e.o, .dK (dz nmL [.int s2.time, .ref e.gd, .ref e.rd])) :: (e.rd, .dK (s2.rows.map (kk rowV))) :: (e.gd, .dK (s2.gone.map (kk goneV))) :: (PN, HO.tbl ps) :: (F.cr, .ins CC F.dc (fz nmC [.ref F.vd, .ref F.dd, .int F.t])) :: (F.vd, .dK (ws.map (kk veV))) :: (F.dd, .dK []) :: (s2.rows.map rowO ++
      (VL CV d.v d.dv d.rd d.gd one s' ++ (R1 ++ (R2 ++ R))))))) (.mk ⟨e.s, _, _, rfl, rfl, pk2.h, gin, ?_⟩) (fun i σ H _ h => ?_) (fun i x σ H D' hi h hD' => ?_) (fun σ H h => ?_)
    · fail "pm"
    · obtain ⟨s2, v6, v15, rfl, e2, o2, hdr, hL⟩ := h.out
      exact .of (hL.at ⟨0, rfl⟩)
    · clear hL
      obtain ⟨s2, v6, v15, rfl, e2, o2, hdr, hL⟩ := h.out
      clear h
      rw [List.getElem?_map] at hi
      obtain ⟨y, hy, rfl⟩ := Option.map_eq_some_iff.mp hi
      obtain ⟨hil, hyi⟩ := List.getElem?_eq_some_iff.mp hy
      have hdr2 : gs.drop i = y :: gs.drop (i + 1) := by rw [← hyi]; exact List.drop_eq_getElem_cons hil
      rw [hdr2] at hdr
      obtain ⟨⟨a, c, t⟩, hrow⟩ := aget_in (hdr y List.mem_cons_self)
      have lk : valV (s2.rows.map (kk rowV)) (Sum.inr y) = some (.ref a) := by rw [kk_val, hrow]; rfl
      have hgz := (o2.ok hz).gz
      fail "go"
      refine ⟨_, .inr y, _, hL.at (by fail "ix"), rfl, lk, ?_⟩
      rw [kk_drop o2.nd]
      fail "gup"
      refine k_ixT hL (at_mem (.tail _ (.tail _ (.tail _ (.tail _ (.tail _ (.tail _ (.tail _ (.tail _ (.tail _ (List.mem_append_left _ (row_mem hrow)))))))))))) rfl ?_
      fail "go"
      refine k_dputS hL (by fail "ix") (by rw [List.length_map]; exact Nat.lt_of_lt_of_le hgz (by decide)) (kk_put (vo := goneV) (v := c) o2.gd) (by fail "up") fun H hL => ?_
      dsimp only [List.set, List.cons_append, List.nil_append, List.append] at hL
      refine hD'.nx _ _ (.mk ⟨⟨s2.time, adel s2.rows y, aput s2.gone y c⟩, _, _, rfl, ?_, ⟨o2.nd.sublist adel_names, aput_nd o2.gd, fun j hj => o2.u1 j (adel_names.subset hj), fun j hj => (aput_mem hj).elim (fun e => by rw [e]; exact o2.u1 y (hdr y List.mem_cons_self)) (o2.u2 j)⟩, fun j hj => ?_, ?_⟩)
      · rw [foldl_take hy, ← e2]
        show _ = forget1 s2.pl y
        unfold forget1
        rw [pl_get, hrow]
        unfold VS.pl
        dsimp only [Option.map]
        rw [adel_map (f := fun x : Addr × Int × Int => x.2)]
      · refine adel_mem (hdr j (.tail _ hj)) fun e => ?_
        have h2 : (y :: gs.drop (i + 1)).Nodup := by rw [← hdr2]; exact gnd.sublist (List.drop_sublist _ _)
        exact (List.nodup_cons.mp h2).1 (by rw [← e]; exact hj)
      · (refine Led.le hL (fun a_ => ?_); have q0_ := rdel_cnt (l := s2.rows) (k := y) (a := a_); (try dsimp only at q0_); (try simp only [cnt_nil, cnt_cons, cnt_app, List.map_append, List.map_cons, List.map_nil, List.flatMap_append, List.flatMap_cons, List.flatMap_nil, List.append_assoc, List.cons_append, List.nil_append] at q0_); simp only [cnt_nil, cnt_cons, cnt_app, List.map_append, List.map_cons, List.map_nil, List.flatMap_append, List.flatMap_cons, List.flatMap_nil, List.append_assoc, List.cons_append, List.nil_append]; omega)
    · clear hL
      obtain ⟨s2, v6, v15, rfl, e2, o2, hdr, hL⟩ := h.out
      rw [List.length_map, List.take_length] at e2
      obtain ⟨d', hd'⟩ : ∃ d' : VD, d' = ⟨d.v, d.dv, d.rd, d.gd, s'⟩ := ⟨_, rfl⟩
      obtain ⟨e', he'⟩ : ∃ e' : OD, e' = ⟨e.o, e.rd, e.gd, s2⟩ := ⟨_, rfl⟩
      have hc' := hc d'
      have ho' := ho e'
      refine k _ _ ⟨ps, aput ws one d', aput os one e', ⟨_, _, _, _, _, _, _, _, _, _, _, _, _, _, _, rfl⟩, J.put h1 (by rw [hd', he']; exact hs'.trans e2.symm) ?_, ht, ?_⟩
      · rw [hd']
        show POk F.ns one s'.pl
        refine ⟨by rw [pl_names]; exact hok.nd, hok.gd, fun j hj => hok.u1 j (by rw [pl_names] at hj; exact hj), hok.u2, ?_⟩
        rw [hs']
        refine forget_keep pk2.me fun z => ?_
        rw [← hgs] at z
        have := (List.mem_filter.mp z).2
        simp only [decide_eq_true_eq] at this
        unfold stateP at this
        rw [if_pos rfl] at this
        exact absurd this (by decide +kernel)
      · unfold CoreL
        rw [vsd_put hd (d' := d') (by rw [hd']), osd_put he (d' := e') (by rw [he'])]
        rw [hd'] at hc' ⊢
        rw [he'] at ho' ⊢
        (refine Led.le hL (fun a_ => ?_); have q0_ := hc' a_; (try dsimp only at q0_); (try simp only [cnt_nil, cnt_cons, cnt_app, List.map_append, List.map_cons, List.map_nil, List.flatMap_append, List.flatMap_cons, List.flatMap_nil, List.append_assoc, List.cons_append, List.nil_append, OV] at q0_); have q1_ := ho' a_; (try dsimp only at q1_); (try simp only [cnt_nil, cnt_cons, cnt_app, List.map_append, List.map_cons, List.map_nil, List.flatMap_append, List.flatMap_cons, List.flatMap_nil, List.append_assoc, List.cons_append, List.nil_append, OV] at q1_); simp only [cnt_nil, cnt_cons, cnt_app, List.map_append, List.map_cons, List.map_nil, List.flatMap_append, List.flatMap_cons, List.flatMap_nil, List.append_assoc, List.cons_append, List.nil_append, OV]; omega)
end
end Sd


set_option linter.unusedVariables false
namespace Sd
open PySem L2
open C8 (Cal Met Mak pe_c pe_mk pe_mt pe_mt0 tCut)
set_option linter.unusedSimpArgs false
set_option pp.deepTerms false
set_option pp.deepTerms.threshold 12
set_option hygiene false
local macro_rules | `(tactic| fail "nd") => `(tactic| first | assumption | decide +kernel)
local macro_rules | `(tactic| fail "ix") => `(tactic| first | exact ⟨0, rfl⟩ | exact ⟨1, rfl⟩ | exact ⟨2, rfl⟩ | exact ⟨3, rfl⟩ | exact ⟨4, rfl⟩ | exact ⟨5, rfl⟩ | exact ⟨6, rfl⟩ | exact ⟨7, rfl⟩ | exact ⟨8, rfl⟩ | exact ⟨9, rfl⟩ | exact ⟨10, rfl⟩ | exact ⟨11, rfl⟩ | exact ⟨12, rfl⟩ | exact ⟨13, rfl⟩ | exact ⟨14, rfl⟩ | exact ⟨15, rfl⟩ | exact ⟨16, rfl⟩ | exact ⟨17, rfl⟩ | exact ⟨18, rfl⟩ | assumption)
local macro_rules | `(tactic| fail "up") => `(tactic| first | exact ⟨0, rfl, rfl⟩ | exact ⟨1, rfl, rfl⟩ | exact ⟨2, rfl, rfl⟩ | exact ⟨3, rfl, rfl⟩ | exact ⟨4, rfl, rfl⟩ | exact ⟨5, rfl, rfl⟩ | exact ⟨6, rfl, rfl⟩ | exact ⟨7, rfl, rfl⟩ | exact ⟨8, rfl, rfl⟩ | exact ⟨9, rfl, rfl⟩ | exact ⟨10, rfl, rfl⟩ | exact ⟨11, rfl, rfl⟩ | exact ⟨12, rfl, rfl⟩ | exact ⟨13, rfl, rfl⟩ | exact ⟨14, rfl, rfl⟩ | exact ⟨15, rfl, rfl⟩ | exact ⟨16, rfl, rfl⟩ | assumption)
local macro_rules | `(tactic| fail "lkF") => `(tactic| first | assumption | exact fz_at 0 (by fail "nd") rfl rfl | exact fz_at 1 (by fail "nd") rfl rfl | exact fz_at 2 (by fail "nd") rfl rfl | exact fz_at 3 (by fail "nd") rfl rfl | exact fz_at 4 (by fail "nd") rfl rfl | exact fz_at 5 (by fail "nd") rfl rfl | exact fz_at 6 (by fail "nd") rfl rfl | exact fz_at 7 (by fail "nd") rfl rfl)
local macro_rules | `(tactic| fail "lkD") => `(tactic| first | assumption | exact dz_at 0 (by fail "nd") rfl rfl | exact dz_at 1 (by fail "nd") rfl rfl | exact dz_at 2 (by fail "nd") rfl rfl | exact dz_at 3 (by fail "nd") rfl rfl | exact dz_at 4 (by fail "nd") rfl rfl)
local macro_rules | `(tactic| fail "ptF") => `(tactic| first | assumption | exact fz_put 0 (by fail "nd") rfl (Nat.le_of_ble_eq_true rfl) | exact fz_put 1 (by fail "nd") rfl (Nat.le_of_ble_eq_true rfl) | exact fz_put 2 (by fail "nd") rfl (Nat.le_of_ble_eq_true rfl) | exact fz_put 3 (by fail "nd") rfl (Nat.le_of_ble_eq_true rfl) | exact fz_put 4 (by fail "nd") rfl (Nat.le_of_ble_eq_true rfl) | exact fz_put 5 (by fail "nd") rfl (Nat.le_of_ble_eq_true rfl) | exact fz_put 6 (by fail "nd") rfl (Nat.le_of_ble_eq_true rfl) | exact fz_put 7 (by fail "nd") rfl (Nat.le_of_ble_eq_true rfl) | exact fz_new (by decide +kernel) rfl)
local macro_rules | `(tactic| fail "ptD") => `(tactic| first | assumption | exact dz_put 0 (by fail "nd") rfl (Nat.le_of_ble_eq_true rfl) | exact dz_put 1 (by fail "nd") rfl (Nat.le_of_ble_eq_true rfl) | exact dz_put 2 (by fail "nd") rfl (Nat.le_of_ble_eq_true rfl) | exact dz_put 3 (by fail "nd") rfl (Nat.le_of_ble_eq_true rfl) | exact dz_put 4 (by fail "nd") rfl (Nat.le_of_ble_eq_true rfl))
local macro_rules | `(tactic| fail "sz") => `(tactic| first | assumption | exact (Nat.le_of_ble_eq_true rfl) | omega | decide)
local macro_rules | `(tactic| fail "sd") => `(tactic| first | rfl | assumption | decide | omega | (dsimp only; first | decide | omega) | exact .inr ⟨by decide, by decide⟩ | exact .inl ⟨by decide, by decide⟩ | exact ⟨by omega, by omega⟩ | exact .inl ⟨by omega, by omega⟩ | exact .inr ⟨by omega, by omega⟩ | exact ⟨by omega, by omega, by omega⟩)
local macro_rules | `(tactic| fail "cl") => `(tactic| (clear hH; dsimp only [List.set, List.cons_append, List.nil_append, List.append] at hL))
local macro_rules | `(tactic| fail "gn") => `(tactic| (intro p hp; generalize hH : upd H p _ = H; replace hL := Led.newH hL hp hH; clear hH hp))
local macro_rules | `(tactic| fail "gup") => `(tactic| (generalize hH : upd H _ _ = H; replace hL := Led.upU hL (by fail "up") hH; fail "cl"))
local macro_rules | `(tactic| fail "gmk") => `(tactic| (intro x dx hx hd ne; generalize hH : upd (upd H dx _) x _ = H; replace hL := Led.made hL hx hd ne hH; clear hH hx hd ne))
local macro_rules | `(tactic| fail "v") => `(tactic| refine ⟨_, rfl, ?_⟩)
local macro_rules | `(tactic| fail "i2") => `(tactic| refine ⟨_, _, rfl, rfl, ?_⟩)
local macro_rules | `(tactic| fail "go1") => `(tactic| first
  | refine ⟨_, rfl, ?_⟩
  | refine ⟨_, _, rfl, rfl, ?_⟩
  | refine ⟨_, _, rfl, ?_⟩
  | refine iteT ?_
  | refine iteF ?_
  | refine k_fld hL (by fail "ix") (by assumption) (by assumption) (by fail "lkF") ?_
  | refine k_dgetS hL (by fail "ix") (by fail "lkD") ?_
  | refine k_dgetI hL (by fail "ix") (by assumption) ?_
  | refine k_ixL hL (by fail "ix") (by first | rfl | assumption) ?_
  | refine k_ixT hL (by fail "ix") (by first | rfl | assumption) ?_
  | refine k_tyL hL (by fail "ix") ?_
  | refine k_isd hL (by fail "ix") ?_
  | (refine And.intro (by fail "sz") ?_; fail "gn")
  | refine And.intro (by fail "sd") ?_
  | fail "gn"
  | refine k_meth hL (by fail "ix") (by first | assumption | exact fz_no (by decide +kernel)) ?_
  | refine k_gtup hL (by fail "ix") rfl ?_
  | (refine k_popI hL (by fail "ix") (by assumption) ?_; fail "gup")
  | (refine k_listD hL (by fail "ix") ?_; fail "gn")
  | (refine ⟨_, _, _, _, rfl, rfl, hL.at (by fail "ix"), rfl, ?_⟩; fail "gup")
  | (refine ⟨_, _, _, rfl, rfl, hL.at (by fail "ix"), (by fail "sz"), ?_⟩; fail "gup")
  | (refine ⟨_, _, _, _, rfl, hL.at (by fail "ix"), by assumption, by assumption, Nat.lt_of_le_of_lt fz_len (by decide), ?_⟩; generalize hH : upd H _ _ = H; replace hL := Led.upF hL (by fail "up") (by fail "ptF") hH; fail "cl")
  | (refine ⟨_, _, hL.at (by fail "ix"), Nat.lt_of_le_of_lt fz_len (by decide), ?_⟩; generalize hH : upd H _ _ = H; replace hL := Led.upF hL (by fail "up") (by fail "ptF") hH; fail "cl")
  | (refine k_dputS hL (by fail "ix") (Nat.lt_of_le_of_lt dz_len (by decide)) (by fail "ptD") (by fail "up") ?_; clear hL; intro H hL; dsimp only [List.set, List.cons_append, List.nil_append, List.append] at hL)
  | refine k_lenL2 hL (by fail "ix") ?_
  | refine k_lenT2 hL (by fail "ix") ?_
  | refine .inl ⟨_, rfl, ?_⟩
  | refine .inr ⟨_, rfl, ?_⟩)
local macro_rules | `(tactic| fail "go") => `(tactic| repeat fail "go1")
local macro_rules | `(tactic| fail "pm") => `(tactic| (refine Led.le hL (fun a_ => ?_); simp only [cnt_nil, cnt_cons, cnt_app, List.map_append, List.map_cons, List.map_nil, List.flatMap_append, List.flatMap_cons, List.flatMap_nil, List.append_assoc, List.cons_append, List.nil_append]; omega))

def newsD (x : Str × Int) : PyData := .tuple [.str x.1, .int x.2]
theorem dp_news {K : PySem.W.Frag} {H : Hp} {nw : List Nw} (h : ∀ n ∈ nw, H (newsO n).1 = some (newsO n).2) : DpAll K H (nw.map newsV) ((nw.map (·.2)).map newsD) := by
  rw [List.map_map]
  exact dp_all fun n hn => dp_tup (h n hn) (.cons (.str _) (.cons (.int _) .nil))
theorem shal_news {l : List (Str × Int)} : Shal (.list (l.map newsD)) := shal_list (n := 1) (by decide) fun _ _ => ⟨by simp [newsD, PyData.plain, PyData.plainAll], by simp [newsD, PyData.depth, PyData.depthAll]⟩
def tChk (CC CV PN : Addr) : TS := fun D σ H => ∃ (F : Fx) (R : Lg) (ps : Array Value) (ws : List VE) (os : List OE), Sh F σ ∧ JI F.ns ws os ∧ TriplesOk ps.toList ∧ (F.na, HO.lst (F.ns.map .str)) ∈ R ∧ Led H (CoreL CC CV PN F ps ws os R) ∧ ∀ σ' H', Okk CC CV PN F R σ' H' → D.nx σ' H'
structure TxtU (mg : Str → Option Value) : Prop where
  list : mg "list" = none
  sorted : mg "sorted" = none
def ChkB (CC CV PN : Addr) (F : Fx) (ps : Array Value) (ws : List VE) (os : List OE) (d : VD) (e : OD) (k : Str) (Z : Lg) : Lg :=
  (d.v, .ins CV d.dv (fz nmV [.str k, .int d.s.time, .ref d.rd, .ref d.gd])) :: (d.rd, .dK (d.s.rows.map (kk rowV))) :: (d.gd, .dK (d.s.gone.map (kk goneV))) :: (e.o, .dK (dz nmL [.int e.s.time, .ref e.gd, .ref e.rd])) :: (e.rd, .dK (e.s.rows.map (kk rowV))) :: (e.gd, .dK (e.s.gone.map (kk goneV))) ::
  (PN, HO.tbl ps) :: (F.cr, .ins CC F.dc (fz nmC [.ref F.vd, .ref F.dd, .int F.t])) :: (F.vd, .dK (ws.map (kk veV))) :: (F.dd, .dK []) :: (F.wd, .dK (os.map (kk oeV))) :: (d.s.rows.map rowO ++ (e.s.rows.map rowO ++ Z))
def RV (CC PN : Addr) (F : Fx) (ps : Array Value) (ws : List VE) (os : List OE) (e : OD) (Z : Lg) : Lg :=
  (e.o, .dK (dz nmL [.int e.s.time, .ref e.gd, .ref e.rd])) :: (e.rd, .dK (e.s.rows.map (kk rowV))) :: (e.gd, .dK (e.s.gone.map (kk goneV))) ::
  (PN, HO.tbl ps) :: (F.cr, .ins CC F.dc (fz nmC [.ref F.vd, .ref F.dd, .int F.t])) :: (F.vd, .dK (ws.map (kk veV))) :: (F.dd, .dK []) :: (F.wd, .dK (os.map (kk oeV))) :: (e.s.rows.map rowO ++ Z)
def RO (CC CV PN : Addr) (F : Fx) (ps : Array Value) (ws : List VE) (os : List OE) (d : VD) (k : Str) (Z : Lg) : Lg :=
  (d.v, .ins CV d.dv (fz nmV [.str k, .int d.s.time, .ref d.rd, .ref d.gd])) :: (d.rd, .dK (d.s.rows.map (kk rowV))) :: (d.gd, .dK (d.s.gone.map (kk goneV))) ::
  (PN, HO.tbl ps) :: (F.cr, .ins CC F.dc (fz nmC [.ref F.vd, .ref F.dd, .int F.t])) :: (F.vd, .dK (ws.map (kk veV))) :: (F.dd, .dK []) :: (F.wd, .dK (os.map (kk oeV))) :: (d.s.rows.map rowO ++ Z)
theorem small60 {n : Nat} (h : n < 60) : n < sizeLine := Nat.lt_of_lt_of_le h (by decide)
theorem map_take {α β : Type} {f : α → β} {l : List α} {i : Nat} {x : α} (h : l[i]? = some x) : (l.take (i + 1)).map f = (l.take i).map f ++ [f x] := by
  rw [List.take_add_one, h, List.map_append]; rfl
section
variable {P : Program} {w : World} {K : PySem.W.Frag} {mg : Str → Option Value} {base : Heap} {CV CC CE PN : Addr} {f : Addr} {cdv : Value} {A : Around} {outer : List Env} {s0 : Shared} {H0 : Hp} {E : XK}
theorem st_check (hr : Room 8 (LX P w K mg base f cdv A outer s0 H0 E).A) (X : TxtCr K mg CC) (XV : TxtC K mg CV) (T : TxtU mg) (c_View_news : Met P w K mg base 5 CV "news" (spNews CV PN) []) (c_View_state_of : Met P w K mg base 1 CV "state_of" (spState CV) []) (c_View_names_in : Met P w K mg base 2 CV "names_in" (spNamesIn CV) [])
    (c__law_state : Cal P w K mg base 1 "_law_state" spLState []) (c__law_news : Cal P w K mg base 1 "_law_news" spLNews []) :
    PS (LX P w K mg base f cdv A outer s0 H0 E) stCheck (tChk CC CV PN) := by
  refine ps_imp (t := _) (ps_for PassesOwn.never rfl (pi_list (pv 2)) (pg_name (i := 6) scLaw.nd rfl (Or.inr rfl))
  (pss_cons (ps_set (i := 11) scLaw.nd rfl (Or.inr rfl) (pe_dget (hu_of hr) (pe_fld (pv 3) rfl) (pv 6) (fun _ _ => rfl)))
  (pss_cons (ps_if (PW.pt (pw_or (pt_cmpR (op_neP hr.units) (pe_callTy call_list_of (by rfl) T.list (by decide +kernel) (pa_cons (pe_mt0 c_View_news hr (by decide) (pv 11)) pa_nil)) (pe_c c__law_news hr (by decide) (by rfl) (pa_cons (pe_dget (hu_of hr) (pv 4) (pv 6) (fun _ _ => rfl)) pa_nil)) (nomark _)) (pw_or1 (pt_cmpR (op_neP hr.units) (pe_lc (own := [("here", 16)]) (g := gName 16) (by rfl) scLaw.nd (pi_list (pe_callB (call_sortedD rfl) (by rfl) T.sorted (by decide +kernel) (pa_cons (pe_fld (pv 11) rfl) pa_nil))) (blkOk_by (own := [("here", 16)]) (N := ["script", "dice", "names", "crowd", "views", "one", "name", "step", "sort", "other", "turn", "view", "rows", "gone", "due", "forgotten", "here", "down", "up", "seen"]) (sc := (defScope sLaw)) (by decide +kernel)) (fun _ _ _ _ _ => (pg_name (i := 16) scLaw.nd rfl (Or.inl rfl))) (fun _ _ _ _ _ => pts_nil) (fun _ _ _ _ _ => (pe_mt c_View_state_of hr (by decide) (pv 11) (pa_cons (pv 16) pa_nil)))) (pe_lc (own := [("here", 16)]) (g := gName 16) (by rfl) scLaw.nd (pi_list (pe_callB (call_sortedD rfl) (by rfl) T.sorted (by decide +kernel) (pa_cons (pe_dget (hu_of hr) (pe_dget (hu_of hr) (pv 4) (pv 6) (fun _ _ => rfl)) pe_str (fun _ _ => rfl)) pa_nil))) (blkOk_by (own := [("here", 16)]) (N := ["script", "dice", "names", "crowd", "views", "one", "name", "step", "sort", "other", "turn", "view", "rows", "gone", "due", "forgotten", "here", "down", "up", "seen"]) (sc := (defScope sLaw)) (by decide +kernel)) (fun _ _ _ _ _ => (pg_name (i := 16) scLaw.nd rfl (Or.inl rfl))) (fun _ _ _ _ _ => pts_nil) (fun _ _ _ _ _ => (pe_c c__law_state hr (by decide) (by rfl) (pa_cons (pe_dget (hu_of hr) (pv 4) (pv 6) (fun _ _ => rfl)) (pa_cons (pv 16) (pa_cons (pv 6) pa_nil)))))) (nomark _)))))
  (pss_one (ps_ret pe_bl))
  pss_nil)
  (pss_one (ps_if (pt_cmpR (op_neP hr.units) (pe_mt c_View_names_in hr (by decide) (pv 11) (pa_cons pe_str pa_nil)) (pe_lc (own := [("here", 16)]) (g := gName 16) (by rfl) scLaw.nd (pi_list (pe_callB (call_sortedD rfl) (by rfl) T.sorted (by decide +kernel) (pa_cons (pe_dget (hu_of hr) (pe_dget (hu_of hr) (pv 4) (pv 6) (fun _ _ => rfl)) pe_str (fun _ _ => rfl)) pa_nil))) (blkOk_by (own := [("here", 16)]) (N := ["script", "dice", "names", "crowd", "views", "one", "name", "step", "sort", "other", "turn", "view", "rows", "gone", "due", "forgotten", "here", "down", "up", "seen"]) (sc := (defScope sLaw)) (by decide +kernel)) (fun _ _ _ _ _ => (pg_name (i := 16) scLaw.nd rfl (Or.inl rfl))) (fun _ _ _ _ _ => (pts_one (pt_cmpR op_eq (pe_c c__law_state hr (by decide) (by rfl) (pa_cons (pe_dget (hu_of hr) (pv 4) (pv 6) (fun _ _ => rfl)) (pa_cons (pv 16) (pa_cons (pv 6) pa_nil)))) pe_str (nomark _)))) (fun _ _ _ _ _ => (pv 16))) (nomark _))
  (pss_one (ps_ret pe_bl))
  pss_nil))))) ?_
  rintro D σ H ⟨F, R, ps, ws, os, ⟨v5, v6, v7, v8, v9, v10, v11, v12, v13, v14, v15, v16, v17, v18, v19, rfl⟩, J, ht, hna, hL, k⟩
  have c1 := X.cl
  have f1 := X.n "views" (by decide +kernel)
  have c2 := XV.cl
  have f3 := XV.n "rows" (by decide +kernel)
  have hz := J.ok.z
  unfold sg
  have hnaL : ∀ {ps : Array Value} {ws : List VE} {os : List OE}, (F.na, HO.lst (F.ns.map .str)) ∈ CoreL CC CV PN F ps ws os R := .tail _ (.tail _ (.tail _ (.tail _ (.tail _ (List.mem_append_right _ (List.mem_append_right _ hna))))))
  fail "go"
  refine ⟨⟨_, .of (hL.at (at_mem hnaL))⟩, ?_⟩
  refine for_listA (K := K) (a := F.na) (xs := F.ns.map V.str) (fun i σ H => Hold (Okk CC CV PN F R σ H)) (.mk ⟨ps, ws, os, ⟨_, _, _, _, _, _, _, _, _, _, _, _, _, _, _, rfl⟩, J, ht, hL⟩) (fun i σ H _ h => ?_) (fun i x σ H D' hi h hD' => ?_) (fun σ H h => k _ _ h.out)
  · obtain ⟨ps, ws, os, _, J, ht, hL⟩ := h.out
    exact .of (hL.at (at_mem hnaL))
  · clear hL J ht
    obtain ⟨ps, ws, os, ⟨v5, v6, v7, v8, v9, v10, v11, v12, v13, v14, v15, v16, v17, v18, v19, rfl⟩, J, ht, hL⟩ := h.out
    clear h
    rw [List.getElem?_map] at hi
    obtain ⟨nm, hn, rfl⟩ := Option.map_eq_some_iff.mp hi
    have hnm := List.mem_of_getElem? hn
    obtain ⟨d, e, hd, he, hp, pk⟩ := J.both hnm
    have pk2 : POk F.ns nm e.s.pl := by rw [← hp]; exact pk
    have lkv : valV (ws.map (kk veV)) (Sum.inr nm) = some (.ref d.v) := by rw [ws_val, hd]; rfl
    have lko : valV (os.map (kk oeV)) (Sum.inr nm) = some (.ref e.o) := by rw [os_val, he]; rfl
    obtain ⟨R1, hc⟩ := vs_cnt (CV := CV) hd
    obtain ⟨R2, ho⟩ := os_cnt he
    have hc0 := hc d
    have ho0 := ho e
    rw [aput_self hd] at hc0
    rw [aput_self he] at ho0
    replace hL : Led H (ChkB CC CV PN F ps ws os d e nm (R1 ++ (R2 ++ R))) := by
      unfold CoreL at hL
      unfold ChkB
      (refine Led.le hL (fun a_ => ?_); have q0_ := hc0 a_; (try dsimp only at q0_); (try simp only [cnt_nil, cnt_cons, cnt_app, List.map_append, List.map_cons, List.map_nil, List.flatMap_append, List.flatMap_cons, List.flatMap_nil, List.append_assoc, List.cons_append, List.nil_append, VL, OV] at q0_); have q1_ := ho0 a_; (try dsimp only at q1_); (try simp only [cnt_nil, cnt_cons, cnt_app, List.map_append, List.map_cons, List.map_nil, List.flatMap_append, List.flatMap_cons, List.flatMap_nil, List.append_assoc, List.cons_append, List.nil_append, VL, OV] at q1_); simp only [cnt_nil, cnt_cons, cnt_app, List.map_append, List.map_cons, List.map_nil, List.flatMap_append, List.flatMap_cons, List.flatMap_nil, List.append_assoc, List.cons_append, List.nil_append, VL, OV]; omega)
    have hback : ∀ (ps : Array Value) (H : Hp), Led H (ChkB CC CV PN F ps ws os d e nm (R1 ++ (R2 ++ R))) → Led H (CoreL CC CV PN F ps ws os R) := fun ps H hL => by
      unfold ChkB at hL
      unfold CoreL
      (refine Led.le hL (fun a_ => ?_); have q0_ := hc0 a_; (try dsimp only at q0_); (try simp only [cnt_nil, cnt_cons, cnt_app, List.map_append, List.map_cons, List.map_nil, List.flatMap_append, List.flatMap_cons, List.flatMap_nil, List.append_assoc, List.cons_append, List.nil_append, VL, OV] at q0_); have q1_ := ho0 a_; (try dsimp only at q1_); (try simp only [cnt_nil, cnt_cons, cnt_app, List.map_append, List.map_cons, List.map_nil, List.flatMap_append, List.flatMap_cons, List.flatMap_nil, List.append_assoc, List.cons_append, List.nil_append, VL, OV] at q1_); simp only [cnt_nil, cnt_cons, cnt_app, List.map_append, List.map_cons, List.map_nil, List.flatMap_append, List.flatMap_cons, List.flatMap_nil, List.append_assoc, List.cons_append, List.nil_append, VL, OV]; omega)
    generalize R1 ++ (R2 ++ R) = Z at hL hback
    unfold sg
    dsimp only [ChkB] at hL
    fail "go"
    refine ⟨d.v, d.dv, d.rd, d.gd, nm, d.s, ps, (e.o, .dK (dz nmL [.int e.s.time, .ref e.gd, .ref e.rd])) :: (e.rd, .dK (e.s.rows.map (kk rowV))) :: (e.gd, .dK (e.s.gone.map (kk goneV))) :: (F.cr, .ins CC F.dc (fz nmC [.ref F.vd, .ref F.dd, .int F.t])) :: (F.vd, .dK (ws.map (kk veV))) :: (F.dd, .dK []) :: (F.wd, .dK (os.map (kk oeV))) :: (e.s.rows.map rowO ++ Z), rfl, ?_, ht, pk.h.ok hz, fun ys pt nw ps H hys hs hnw ht hL => ?_⟩
    · (refine Led.le hL (fun a_ => ?_); simp only [cnt_nil, cnt_cons, cnt_app, List.map_append, List.map_cons, List.map_nil, List.flatMap_append, List.flatMap_cons, List.flatMap_nil, List.append_assoc, List.cons_append, List.nil_append, VL]; omega)
    replace hL : Led H ((pt, .tup (nw.map newsV)) :: ChkB CC CV PN F ps ws os d e nm (nw.map newsO ++ Z)) := by
      unfold ChkB
      (refine Led.le hL (fun a_ => ?_); simp only [cnt_nil, cnt_cons, cnt_app, List.map_append, List.map_cons, List.map_nil, List.flatMap_append, List.flatMap_cons, List.flatMap_nil, List.append_assoc, List.cons_append, List.nil_append, VL]; omega)
    dsimp only [ChkB] at hL
    fail "go"
    refine ⟨e.o, e.rd, e.gd, e.s, (p, .lst (nw.map newsV)) :: (pt, .tup (nw.map newsV)) :: (d.v, .ins CV d.dv (fz nmV [.str nm, .int d.s.time, .ref d.rd, .ref d.gd])) :: (d.rd, .dK (d.s.rows.map (kk rowV))) :: (d.gd, .dK (d.s.gone.map (kk goneV))) :: (PN, HO.tbl ps) :: (F.cr, .ins CC F.dc (fz nmC [.ref F.vd, .ref F.dd, .int F.t])) :: (F.vd, .dK (ws.map (kk veV))) :: (F.dd, .dK []) :: (F.wd, .dK (os.map (kk oeV))) :: (d.s.rows.map rowO ++ (nw.map newsO ++ Z)), rfl, ?_, pk2.h.ok hz, fun ys2 p2 nw2 H hys2 hs2 hnw2 hL => ?_⟩
    · (refine Led.le hL (fun a_ => ?_); simp only [cnt_nil, cnt_cons, cnt_app, List.map_append, List.map_cons, List.map_nil, List.flatMap_append, List.flatMap_cons, List.flatMap_nil, List.append_assoc, List.cons_append, List.nil_append, OV]; omega)
    have esame := news_same hp hys hys2 hs hs2 hnw hnw2
    have dn : DpAll K H (nw.map newsV) ((nw.map (·.2)).map newsD) := dp_news fun n hn => hL.mem (.tail _ (List.mem_append_right _ (List.mem_append_right _ (.tail _ (.tail _ (.tail _ (.tail _ (.tail _ (.tail _ (.tail _ (.tail _ (.tail _ (.tail _ (List.mem_append_right _ (List.mem_append_left _ (List.mem_map.mpr ⟨n, hn, rfl⟩))))))))))))))))
    have dn2 : DpAll K H (nw2.map newsV) ((nw.map (·.2)).map newsD) := by
      rw [esame]
      exact dp_news fun n hn => hL.mem (.tail _ (List.mem_append_left _ (List.mem_map.mpr ⟨n, hn, rfl⟩)))
    refine k_neSame (dp_lst (hL.mem (.tail _ (List.mem_append_right _ (List.mem_append_right _ (.head _))))) dn) (dp_lst (hL.mem (.head _)) dn2) shal_news ?_
    replace hL : Led H (ChkB CC CV PN F ps ws os d e nm Z) := by
      unfold ChkB
      (refine Led.le hL (fun a_ => ?_); simp only [cnt_nil, cnt_cons, cnt_app, List.map_append, List.map_cons, List.map_nil, List.flatMap_append, List.flatMap_cons, List.flatMap_nil, List.append_assoc, List.cons_append, List.nil_append, OV]; omega)
    clear dn dn2 esame hnw hnw2
    dsimp only [ChkB] at hL
    fail "go"
    refine ⟨_, _, d.s.rows.map (·.1), rfl, .inl (hL.at (by fail "ix")), kk_names, Nat.lt_trans (by rw [List.length_map]; exact (pk.h.ok hz).sz) (by decide), fun ys3 p3 hys3 hs3 hf => ?_⟩
    generalize hH : upd H p3 _ = H
    replace hL : Led H ((p3, .lst (ys3.map V.str)) :: ChkB CC CV PN F ps ws os d e nm Z) := Led.newH hL hf hH
    clear hH hf
    have z3 : ys3.length < 60 := by
      have := hys3.length_eq
      rw [List.length_map] at this
      rw [this]; exact (pk.h.ok hz).sz
    refine ⟨_, rfl, ⟨_, .of (hL.at ⟨0, rfl⟩)⟩, fun D1 hD1 => lc_list (K := K) (a := p3) (xs := ys3.map V.str) (fun i H => Hold (Led H ((D1, .lst (((ys3.take i).map (stateP d.s.pl nm)).map V.str)) :: (p3, .lst (ys3.map V.str)) :: ChkB CC CV PN F ps ws os d e nm Z))) (.mk (hL.new hD1)) (fun i H _ h => ?_) (fun i x H hi h => ?_) (fun H h => ?_)⟩
    · exact .of (h.out.at ⟨1, rfl⟩)
    · clear hL
      have hL := h.out
      clear h
      rw [List.getElem?_map] at hi
      obtain ⟨y, hy, rfl⟩ := Option.map_eq_some_iff.mp hi
      have hm : y ∈ d.s.rows.map (·.1) := hys3.mem_iff.mp (List.mem_of_getElem? hy)
      have hil := (List.getElem?_eq_some_iff.mp hy).1
      refine ⟨rfl, k_yes ?_⟩
      dsimp only [ChkB] at hL
      fail "go"
      refine ⟨d.v, d.dv, d.rd, d.gd, nm, y, d.s, (D1, .lst (((ys3.take i).map (stateP d.s.pl nm)).map V.str)) :: (p3, .lst (ys3.map V.str)) :: RV CC PN F ps ws os e Z, rfl, ?_, hm, fun H hL => ?_⟩
      · (refine Led.le hL (fun a_ => ?_); simp only [cnt_nil, cnt_cons, cnt_app, List.map_append, List.map_cons, List.map_nil, List.flatMap_append, List.flatMap_cons, List.flatMap_nil, List.append_assoc, List.cons_append, List.nil_append, VL, RV]; omega)
      refine ⟨_, hL.mem (List.mem_append_right _ (.head _)), ?_, ?_⟩
      · rw [List.length_map, List.length_map, List.length_take]; exact small60 (by omega)
      · rw [map_take hy, List.map_append]
        replace hL : Led H ((D1, .lst (((ys3.take i).map (stateP d.s.pl nm)).map V.str)) :: (p3, .lst (ys3.map V.str)) :: ChkB CC CV PN F ps ws os d e nm Z) := by
          (refine Led.le hL (fun a_ => ?_); simp only [cnt_nil, cnt_cons, cnt_app, List.map_append, List.map_cons, List.map_nil, List.flatMap_append, List.flatMap_cons, List.flatMap_nil, List.append_assoc, List.cons_append, List.nil_append, VL, RV, ChkB]; omega)
        exact .mk (hL.set 0 rfl)
    clear hL
    have hL := h.out
    clear h
    rw [List.length_map, List.take_length] at hL
    dsimp only [ChkB] at hL
    fail "go"
    refine ⟨_, _, e.s.rows.map (·.1), rfl, .inl (hL.at (by fail "ix")), kk_names, Nat.lt_trans (by rw [List.length_map]; exact (pk2.h.ok hz).sz) (by decide), fun ys4 p4 hys4 hs4 hf => ?_⟩
    have eys : ys4 = ys3 := by
      refine sortedS_uniq (hys4.trans ?_) hs4 hs3
      rw [← pl_names, ← hp, pl_names]
      exact hys3.symm
    subst eys
    generalize hH : upd H p4 _ = H
    replace hL : Led H ((p4, .lst (ys4.map V.str)) :: (D1, .lst ((ys4.map (stateP d.s.pl nm)).map V.str)) :: (p3, .lst (ys4.map V.str)) :: ChkB CC CV PN F ps ws os d e nm Z) := Led.newH hL hf hH
    clear hH hf
    refine ⟨_, rfl, ⟨_, .of (hL.at ⟨0, rfl⟩)⟩, fun D3 hD3 => lc_list (K := K) (a := p4) (xs := ys4.map V.str) (fun i H => Hold (Led H ((D3, .lst (((ys4.take i).map (stateP d.s.pl nm)).map V.str)) :: (p4, .lst (ys4.map V.str)) :: (D1, .lst ((ys4.map (stateP d.s.pl nm)).map V.str)) :: ChkB CC CV PN F ps ws os d e nm Z))) (.mk ?_) (fun i H _ h => ?_) (fun i x H hi h => ?_) (fun H h => ?_)⟩
    · refine (hL.new hD3).sub (.cons_cons _ (.cons_cons _ (.cons_cons _ (List.sublist_cons_self _ _))))
    · exact .of (h.out.at ⟨1, rfl⟩)
    · clear hL
      have hL := h.out
      clear h
      rw [List.getElem?_map] at hi
      obtain ⟨y, hy, rfl⟩ := Option.map_eq_some_iff.mp hi
      have hm : y ∈ e.s.rows.map (·.1) := hys4.mem_iff.mp (List.mem_of_getElem? hy)
      have hil := (List.getElem?_eq_some_iff.mp hy).1
      refine ⟨rfl, k_yes ?_⟩
      dsimp only [ChkB] at hL
      fail "go"
      refine ⟨e.o, e.rd, e.gd, nm, y, e.s, (D3, .lst (((ys4.take i).map (stateP d.s.pl nm)).map V.str)) :: (p4, .lst (ys4.map V.str)) :: (D1, .lst ((ys4.map (stateP d.s.pl nm)).map V.str)) :: RO CC CV PN F ps ws os d nm Z, rfl, ?_, hm, fun H hL => ?_⟩
      · (refine Led.le hL (fun a_ => ?_); simp only [cnt_nil, cnt_cons, cnt_app, List.map_append, List.map_cons, List.map_nil, List.flatMap_append, List.flatMap_cons, List.flatMap_nil, List.append_assoc, List.cons_append, List.nil_append, OV, RO]; omega)
      refine ⟨_, hL.mem (List.mem_append_right _ (.head _)), ?_, ?_⟩
      · rw [List.length_map, List.length_map, List.length_take]; exact small60 (by omega)
      · rw [map_take hy, List.map_append, ← hp]
        replace hL : Led H ((D3, .lst (((ys4.take i).map (stateP d.s.pl nm)).map V.str)) :: (p4, .lst (ys4.map V.str)) :: (D1, .lst ((ys4.map (stateP d.s.pl nm)).map V.str)) :: ChkB CC CV PN F ps ws os d e nm Z) := by
          (refine Led.le hL (fun a_ => ?_); simp only [cnt_nil, cnt_cons, cnt_app, List.map_append, List.map_cons, List.map_nil, List.flatMap_append, List.flatMap_cons, List.flatMap_nil, List.append_assoc, List.cons_append, List.nil_append, OV, RO, ChkB]; omega)
        exact .mk (hL.set 0 rfl)
    clear hL
    have hL := h.out
    clear h
    rw [List.length_map, List.take_length] at hL
    fail "go"
    refine k_neSame (dp_lst (hL.at ⟨2, rfl⟩) dp_strs) (dp_lst (hL.at ⟨0, rfl⟩) dp_strs) shal_strs ?_
    replace hL : Led H (ChkB CC CV PN F ps ws os d e nm Z) := hL.tail.tail.tail
    fail "go"
    refine ⟨d.v, d.dv, d.rd, d.gd, nm, "alive", d.s, RV CC PN F ps ws os e Z, rfl, ?_, pk.h.ok hz, fun ys5 p5 H hys5 hs5 hL => ?_⟩
    · (refine Led.le hL (fun a_ => ?_); simp only [cnt_nil, cnt_cons, cnt_app, List.map_append, List.map_cons, List.map_nil, List.flatMap_append, List.flatMap_cons, List.flatMap_nil, List.append_assoc, List.cons_append, List.nil_append, VL, RV, ChkB]; omega)
    generalize hls : inState d.s.pl nm "alive" ys5 = ls at hL
    replace hL : Led H ((p5, .lst (ls.map V.str)) :: ChkB CC CV PN F ps ws os d e nm Z) := by
      (refine Led.le hL (fun a_ => ?_); simp only [cnt_nil, cnt_cons, cnt_app, List.map_append, List.map_cons, List.map_nil, List.flatMap_append, List.flatMap_cons, List.flatMap_nil, List.append_assoc, List.cons_append, List.nil_append, VL, RV, ChkB]; omega)
    dsimp only [ChkB] at hL
    fail "go"
    refine ⟨_, _, e.s.rows.map (·.1), rfl, .inl (hL.at (by fail "ix")), kk_names, Nat.lt_trans (by rw [List.length_map]; exact (pk2.h.ok hz).sz) (by decide), fun ys6 p6 hys6 hs6 hf => ?_⟩
    have eys : ys6 = ys5 := by
      refine sortedS_uniq (hys6.trans ?_) hs6 hs5
      rw [← pl_names, ← hp, pl_names]
      exact hys5.symm
    subst eys
    generalize hH : upd H p6 _ = H
    replace hL : Led H ((p6, .lst (ys6.map V.str)) :: (p5, .lst (ls.map V.str)) :: ChkB CC CV PN F ps ws os d e nm Z) := Led.newH hL hf hH
    clear hH hf
    have z6 : ys6.length < 60 := by
      have := hys6.length_eq
      rw [List.length_map] at this
      rw [this]; exact (pk2.h.ok hz).sz
    refine ⟨_, rfl, ⟨_, .of (hL.at ⟨0, rfl⟩)⟩, fun D5 hD5 => lc_list (K := K) (a := p6) (xs := ys6.map V.str) (fun i H => Hold (Led H ((D5, .lst ((inState d.s.pl nm "alive" (ys6.take i)).map V.str)) :: (p6, .lst (ys6.map V.str)) :: (p5, .lst (ls.map V.str)) :: ChkB CC CV PN F ps ws os d e nm Z))) (.mk (hL.new hD5)) (fun i H _ h => ?_) (fun i x H hi h => ?_) (fun H h => ?_)⟩
    · exact .of (h.out.at ⟨1, rfl⟩)
    · clear hL
      have hL := h.out
      clear h
      rw [List.getElem?_map] at hi
      obtain ⟨y, hy, rfl⟩ := Option.map_eq_some_iff.mp hi
      have hm : y ∈ e.s.rows.map (·.1) := hys6.mem_iff.mp (List.mem_of_getElem? hy)
      have hil := (List.getElem?_eq_some_iff.mp hy).1
      have e1 : inState d.s.pl nm "alive" (ys6.take (i + 1)) = inState d.s.pl nm "alive" (ys6.take i) ++ (if stateP d.s.pl nm y = "alive" then [y] else []) := by
        unfold inState
        rw [List.take_add_one, hy, List.filter_append]
        by_cases h : stateP d.s.pl nm y = "alive" <;> simp [h]
      refine ⟨rfl, ?_⟩
      dsimp only [ChkB] at hL
      fail "go"
      refine ⟨e.o, e.rd, e.gd, nm, y, e.s, (D5, .lst ((inState d.s.pl nm "alive" (ys6.take i)).map V.str)) :: (p6, .lst (ys6.map V.str)) :: (p5, .lst (ls.map V.str)) :: RO CC CV PN F ps ws os d nm Z, rfl, ?_, hm, fun H hL => ?_⟩
      · (refine Led.le hL (fun a_ => ?_); simp only [cnt_nil, cnt_cons, cnt_app, List.map_append, List.map_cons, List.map_nil, List.flatMap_append, List.flatMap_cons, List.flatMap_nil, List.append_assoc, List.cons_append, List.nil_append, OV, RO]; omega)
      replace hL : Led H ((D5, .lst ((inState d.s.pl nm "alive" (ys6.take i)).map V.str)) :: (p6, .lst (ys6.map V.str)) :: (p5, .lst (ls.map V.str)) :: ChkB CC CV PN F ps ws os d e nm Z) := by
        (refine Led.le hL (fun a_ => ?_); simp only [cnt_nil, cnt_cons, cnt_app, List.map_append, List.map_cons, List.map_nil, List.flatMap_append, List.flatMap_cons, List.flatMap_nil, List.append_assoc, List.cons_append, List.nil_append, OV, RO, ChkB]; omega)
      rw [← hp]
      fail "go"
      refine ite_d (fun h1 => ?_) (fun h1 => ?_)
      · have h1 := V.str.inj h1
        refine ⟨_, rfl, _, hL.at ⟨0, rfl⟩, ?_, ?_⟩
        · rw [List.length_map]
          have h2 : (inState d.s.pl nm "alive" (ys6.take i)).length ≤ (ys6.take i).length := List.length_filter_le _ _
          rw [List.length_take] at h2
          exact small60 (by omega)
        · rw [e1, if_pos h1, List.map_append]
          exact .mk (hL.set 0 rfl)
      · have h1 : ¬ stateP d.s.pl nm y = "alive" := fun e => h1 (by rw [e])
        rw [e1, if_neg h1, List.append_nil]
        exact .mk hL
    clear hL
    have hL := h.out
    clear h
    rw [List.length_map, List.take_length, hls] at hL
    fail "go"
    refine k_neSame (dp_lst (hL.at ⟨2, rfl⟩) dp_strs) (dp_lst (hL.at ⟨0, rfl⟩) dp_strs) shal_strs ?_
    fail "go"
    exact hD'.nx _ _ (.mk ⟨ps, ws, os, ⟨_, _, _, _, _, _, _, _, _, _, _, _, _, _, _, rfl⟩, J, ht, hback _ _ hL.tail.tail.tail⟩)
end
end Sd


set_option linter.unusedVariables false
namespace Sd
open PySem L2
open C8 (Cal Met Mak pe_c pe_mk pe_mt pe_mt0 tCut)
set_option linter.unusedSimpArgs false
set_option pp.deepTerms false
set_option pp.deepTerms.threshold 12
set_option hygiene false
local macro_rules | `(tactic| fail "nd") => `(tactic| first | assumption | decide +kernel)
local macro_rules | `(tactic| fail "ix") => `(tactic| first | exact ⟨0, rfl⟩ | exact ⟨1, rfl⟩ | exact ⟨2, rfl⟩ | exact ⟨3, rfl⟩ | exact ⟨4, rfl⟩ | exact ⟨5, rfl⟩ | exact ⟨6, rfl⟩ | exact ⟨7, rfl⟩ | exact ⟨8, rfl⟩ | exact ⟨9, rfl⟩ | exact ⟨10, rfl⟩ | exact ⟨11, rfl⟩ | exact ⟨12, rfl⟩ | exact ⟨13, rfl⟩ | exact ⟨14, rfl⟩ | exact ⟨15, rfl⟩ | exact ⟨16, rfl⟩ | exact ⟨17, rfl⟩ | exact ⟨18, rfl⟩ | assumption)
local macro_rules | `(tactic| fail "up") => `(tactic| first | exact ⟨0, rfl, rfl⟩ | exact ⟨1, rfl, rfl⟩ | exact ⟨2, rfl, rfl⟩ | exact ⟨3, rfl, rfl⟩ | exact ⟨4, rfl, rfl⟩ | exact ⟨5, rfl, rfl⟩ | exact ⟨6, rfl, rfl⟩ | exact ⟨7, rfl, rfl⟩ | exact ⟨8, rfl, rfl⟩ | exact ⟨9, rfl, rfl⟩ | exact ⟨10, rfl, rfl⟩ | exact ⟨11, rfl, rfl⟩ | exact ⟨12, rfl, rfl⟩ | exact ⟨13, rfl, rfl⟩ | exact ⟨14, rfl, rfl⟩ | exact ⟨15, rfl, rfl⟩ | exact ⟨16, rfl, rfl⟩ | assumption)
local macro_rules | `(tactic| fail "lkF") => `(tactic| first | assumption | exact fz_at 0 (by fail "nd") rfl rfl | exact fz_at 1 (by fail "nd") rfl rfl | exact fz_at 2 (by fail "nd") rfl rfl | exact fz_at 3 (by fail "nd") rfl rfl | exact fz_at 4 (by fail "nd") rfl rfl | exact fz_at 5 (by fail "nd") rfl rfl | exact fz_at 6 (by fail "nd") rfl rfl | exact fz_at 7 (by fail "nd") rfl rfl)
local macro_rules | `(tactic| fail "lkD") => `(tactic| first | assumption | exact dz_at 0 (by fail "nd") rfl rfl | exact dz_at 1 (by fail "nd") rfl rfl | exact dz_at 2 (by fail "nd") rfl rfl | exact dz_at 3 (by fail "nd") rfl rfl | exact dz_at 4 (by fail "nd") rfl rfl)
local macro_rules | `(tactic| fail "ptF") => `(tactic| first | assumption | exact fz_put 0 (by fail "nd") rfl (Nat.le_of_ble_eq_true rfl) | exact fz_put 1 (by fail "nd") rfl (Nat.le_of_ble_eq_true rfl) | exact fz_put 2 (by fail "nd") rfl (Nat.le_of_ble_eq_true rfl) | exact fz_put 3 (by fail "nd") rfl (Nat.le_of_ble_eq_true rfl) | exact fz_put 4 (by fail "nd") rfl (Nat.le_of_ble_eq_true rfl) | exact fz_put 5 (by fail "nd") rfl (Nat.le_of_ble_eq_true rfl) | exact fz_put 6 (by fail "nd") rfl (Nat.le_of_ble_eq_true rfl) | exact fz_put 7 (by fail "nd") rfl (Nat.le_of_ble_eq_true rfl) | exact fz_new (by decide +kernel) rfl)
local macro_rules | `(tactic| fail "ptD") => `(tactic| first | assumption | exact dz_put 0 (by fail "nd") rfl (Nat.le_of_ble_eq_true rfl) | exact dz_put 1 (by fail "nd") rfl (Nat.le_of_ble_eq_true rfl) | exact dz_put 2 (by fail "nd") rfl (Nat.le_of_ble_eq_true rfl) | exact dz_put 3 (by fail "nd") rfl (Nat.le_of_ble_eq_true rfl) | exact dz_put 4 (by fail "nd") rfl (Nat.le_of_ble_eq_true rfl))
local macro_rules | `(tactic| fail "sz") => `(tactic| first | assumption | exact (Nat.le_of_ble_eq_true rfl) | omega | decide)
local macro_rules | `(tactic| fail "sd") => `(tactic| first | rfl | assumption | decide | omega | (dsimp only; first | decide | omega) | exact .inr ⟨by decide, by decide⟩ | exact .inl ⟨by decide, by decide⟩ | exact ⟨by omega, by omega⟩ | exact .inl ⟨by omega, by omega⟩ | exact .inr ⟨by omega, by omega⟩ | exact ⟨by omega, by omega, by omega⟩)
local macro_rules | `(tactic| fail "cl") => `(tactic| (clear hH; dsimp only [List.set, List.cons_append, List.nil_append, List.append] at hL))
local macro_rules | `(tactic| fail "gn") => `(tactic| (intro p hp; generalize hH : upd H p _ = H; replace hL := Led.newH hL hp hH; clear hH hp))
local macro_rules | `(tactic| fail "gup") => `(tactic| (generalize hH : upd H _ _ = H; replace hL := Led.upU hL (by fail "up") hH; fail "cl"))
local macro_rules | `(tactic| fail "gmk") => `(tactic| (intro x dx hx hd ne; generalize hH : upd (upd H dx _) x _ = H; replace hL := Led.made hL hx hd ne hH; clear hH hx hd ne))
local macro_rules | `(tactic| fail "v") => `(tactic| refine ⟨_, rfl, ?_⟩)
local macro_rules | `(tactic| fail "i2") => `(tactic| refine ⟨_, _, rfl, rfl, ?_⟩)
local macro_rules | `(tactic| fail "go1") => `(tactic| first
  | refine ⟨_, rfl, ?_⟩
  | refine ⟨_, _, rfl, rfl, ?_⟩
  | refine ⟨_, _, rfl, ?_⟩
  | refine iteT ?_
  | refine iteF ?_
  | refine k_fld hL (by fail "ix") (by assumption) (by assumption) (by fail "lkF") ?_
  | refine k_dgetS hL (by fail "ix") (by fail "lkD") ?_
  | refine k_dgetI hL (by fail "ix") (by assumption) ?_
  | refine k_ixL hL (by fail "ix") (by first | rfl | assumption) ?_
  | refine k_ixT hL (by fail "ix") (by first | rfl | assumption) ?_
  | refine k_tyL hL (by fail "ix") ?_
  | refine k_isd hL (by fail "ix") ?_
  | (refine And.intro (by fail "sz") ?_; fail "gn")
  | refine And.intro (by fail "sd") ?_
  | fail "gn"
  | refine k_meth hL (by fail "ix") (by first | assumption | exact fz_no (by decide +kernel)) ?_
  | refine k_gtup hL (by fail "ix") rfl ?_
  | (refine k_popI hL (by fail "ix") (by assumption) ?_; fail "gup")
  | (refine k_listD hL (by fail "ix") ?_; fail "gn")
  | (refine ⟨_, _, _, _, rfl, rfl, hL.at (by fail "ix"), rfl, ?_⟩; fail "gup")
  | (refine ⟨_, _, _, rfl, rfl, hL.at (by fail "ix"), (by fail "sz"), ?_⟩; fail "gup")
  | (refine ⟨_, _, _, _, rfl, hL.at (by fail "ix"), by assumption, by assumption, Nat.lt_of_le_of_lt fz_len (by decide), ?_⟩; generalize hH : upd H _ _ = H; replace hL := Led.upF hL (by fail "up") (by fail "ptF") hH; fail "cl")
  | (refine ⟨_, _, hL.at (by fail "ix"), Nat.lt_of_le_of_lt fz_len (by decide), ?_⟩; generalize hH : upd H _ _ = H; replace hL := Led.upF hL (by fail "up") (by fail "ptF") hH; fail "cl")
  | (refine k_dputS hL (by fail "ix") (Nat.lt_of_le_of_lt dz_len (by decide)) (by fail "ptD") (by fail "up") ?_; clear hL; intro H hL; dsimp only [List.set, List.cons_append, List.nil_append, List.append] at hL)
  | refine k_lenL2 hL (by fail "ix") ?_
  | refine k_lenT2 hL (by fail "ix") ?_
  | refine .inl ⟨_, rfl, ?_⟩
  | refine .inr ⟨_, rfl, ?_⟩)
local macro_rules | `(tactic| fail "go") => `(tactic| repeat fail "go1")
local macro_rules | `(tactic| fail "pm") => `(tactic| (refine Led.le hL (fun a_ => ?_); simp only [cnt_nil, cnt_cons, cnt_app, List.map_append, List.map_cons, List.map_nil, List.flatMap_append, List.flatMap_cons, List.flatMap_nil, List.append_assoc, List.cons_append, List.nil_append]; omega))

/-! the second crowd -/
structure Gx2 where
  a : Addr
  d : Addr
  na : Addr
  cr : Addr
  dc : Addr
  vd : Addr
  dd : Addr
  dnl : Addr
  ns : List Str
  dl : List Str
  t0 : Int
def sg2 (G : Gx2) (v4 v5 v6 v7 v8 v9 v10 v11 v12 v13 v14 v15 v16 v18 v19 : Option V) : L2.St :=
  [some (.ref G.a), some (.ref G.d), some (.ref G.na), some (.ref G.cr), v4, v5, v6, v7, v8, v9, v10, v11, v12, v13, v14, v15, v16, some (.ref G.dnl), v18, v19]
def Sh2 (G : Gx2) (u : Option V) (σ : L2.St) : Prop := ∃ v4 v5 v6 v7 v8 v9 v10 v11 v12 v13 v14 v15 v16 v19 : Option V, σ = sg2 G v4 v5 v6 v7 v8 v9 v10 v11 v12 v13 v14 v15 v16 u v19
def unitD (l : List Str) : List (Str × Unit) := l.map fun x => (x, ())
def L2L (CC CV PN : Addr) (G : Gx2) (ps : Array Value) (ws : List VE) (dn : List (Str × Unit)) (t : Int) (R : Lg) : Lg :=
  (PN, HO.tbl ps) :: (G.cr, .ins CC G.dc (fz nmC [.ref G.vd, .ref G.dd, .int t])) :: (G.vd, .dK (ws.map (kk veV))) :: (G.dd, .dK (dn.map (kk dnV))) :: (G.dnl, .lst (G.dl.map V.str)) :: (vsL CV ws ++ R)
structure GOk (G : Gx2) (ws : List VE) : Prop where
  w : WOk G.ns ws
  nd : G.dl.Nodup
  sub : ∀ k ∈ G.dl, k ∈ G.ns
theorem unit_names {l : List Str} : (unitD l).map (·.1) = l := by unfold unitD; rw [List.map_map]; simp [Function.comp_def]
theorem nodup_le {l ns : List Str} (nd : l.Nodup) (h : ∀ k ∈ l, k ∈ ns) : l.length ≤ ns.length := nodup_len nd h
def tP5 (CC CV PN : Addr) : TS := fun D σ H => ∃ (G : Gx2) (u : Option V) (R : Lg) (ps : Array Value) (ws : List VE), Sh2 G u σ ∧ GOk G ws ∧ Led H (L2L CC CV PN G ps ws [] G.t0 R) ∧ ∀ σ' H', Sh2 G u σ' → Led H' (L2L CC CV PN G ps ws (unitD G.dl) G.t0 R) → D.nx σ' H'
def tP6 (CC CV PN : Addr) : TS := fun D σ H => ∃ (G : Gx2) (u : Option V) (R : Lg) (ps : Array Value) (ws : List VE), Sh2 G u σ ∧ GOk G ws ∧ TriplesOk ps.toList ∧ Led H (L2L CC CV PN G ps ws (unitD G.dl) G.t0 R) ∧
  ∀ (ws' : List VE) (ps' : Array Value) σ' H', Sh2 G u σ' → GOk G ws' → TriplesOk ps'.toList → plsOf ws' = roundsP G.ns G.dl (plsOf ws) G.t0 120 → Led H' (L2L CC CV PN G ps' ws' (unitD G.dl) (G.t0 + 120) R) → D.nx σ' H'
section
variable {P : Program} {w : World} {K : PySem.W.Frag} {mg : Str → Option Value} {base : Heap} {CV CC CE PN : Addr} {f : Addr} {cdv : Value} {A : Around} {outer : List Env} {s0 : Shared} {H0 : Hp} {E : XK}
theorem st_p5 (hr : Room 8 (LX P w K mg base f cdv A outer s0 H0 E).A) (c_Crowd_set_down : Met P w K mg base 1 CC "set_down" (spDown CC CV) []) : PS (LX P w K mg base f cdv A outer s0 H0 E) (nth bodyB 5) (tP5 CC CV PN) := by
  refine ps_imp (t := _) (ps_for PassesOwn.never rfl (pi_list (pv 17)) (pg_name (i := 6) scLaw.nd rfl (Or.inr rfl))
  (pss_one (ps_expr (pe_mt c_Crowd_set_down hr (by decide) (pv 3) (pa_cons (pv 6) (pa_cons pe_bl pa_nil)))))) ?_
  rintro D σ H ⟨G, u, R, ps, ws, ⟨v4, v5, v6, v7, v8, v9, v10, v11, v12, v13, v14, v15, v16, v19, rfl⟩, ok, hL, k⟩
  unfold sg2
  dsimp only [L2L] at hL
  have hz := ok.w.ok.z
  have hlen := nodup_le ok.nd ok.sub
  fail "go"
  refine ⟨⟨_, .of (hL.at (by fail "ix"))⟩, ?_⟩
  refine for_listA (K := K) (a := G.dnl) (xs := G.dl.map V.str) (fun i σ H => Hold (Sh2 G u σ ∧ Led H (L2L CC CV PN G ps ws (unitD (G.dl.take i)) G.t0 R))) (.mk ⟨⟨_, _, _, _, _, _, _, _, _, _, _, _, _, _, rfl⟩, hL⟩) (fun i σ H _ h => ?_) (fun i x σ H D' hi h hD' => ?_) (fun σ H h => ?_)
  · obtain ⟨_, hL⟩ := h.out
    exact .of (hL.at ⟨4, rfl⟩)
  · obtain ⟨⟨v4, v5, v6, v7, v8, v9, v10, v11, v12, v13, v14, v15, v16, v19, rfl⟩, hL⟩ := h.out
    clear h
    rw [List.getElem?_map] at hi
    obtain ⟨y, hy, rfl⟩ := Option.map_eq_some_iff.mp hi
    have hil := (List.getElem?_eq_some_iff.mp hy).1
    have hyn := ok.sub y (List.mem_of_getElem? hy)
    unfold sg2
    dsimp only [L2L] at hL
    fail "go"
    refine ⟨G.cr, G.dc, G.vd, G.dd, ws, unitD (G.dl.take i), G.t0, y, true, (PN, HO.tbl ps) :: (G.dnl, .lst (G.dl.map V.str)) :: R, rfl, ?_, by rw [ok.w.nm]; exact hyn, by rw [unit_names]; exact ok.nd.sublist (List.take_sublist _ _), by unfold unitD; rw [List.length_map, List.length_take]; omega, fun H hL => ?_⟩
    · (refine Led.le hL (fun a_ => ?_); simp only [cnt_nil, cnt_cons, cnt_app, List.map_append, List.map_cons, List.map_nil, List.flatMap_append, List.flatMap_cons, List.flatMap_nil, List.append_assoc, List.cons_append, List.nil_append, CrL]; omega)
    refine hD'.nx _ _ (.mk ⟨⟨_, _, _, _, _, _, _, _, _, _, _, _, _, _, rfl⟩, ?_⟩)
    have hnot : y ∉ (unitD (G.dl.take i)).map (·.1) := by
      rw [unit_names]
      intro hm
      obtain ⟨hi', e'⟩ := List.getElem?_eq_some_iff.mp hy
      obtain ⟨j, hj, ej⟩ := List.getElem_of_mem hm
      rw [List.getElem_take] at ej
      rw [List.length_take] at hj
      have := (List.getElem_inj ok.nd).mp (ej.trans e'.symm)
      omega
    have e1 : unitD (G.dl.take (i + 1)) = aput (unitD (G.dl.take i)) y () := by
      rw [aput_names_out hnot]
      unfold unitD
      rw [map_take hy]
    rw [e1]
    rw [if_pos rfl] at hL
    (refine Led.le hL (fun a_ => ?_); simp only [cnt_nil, cnt_cons, cnt_app, List.map_append, List.map_cons, List.map_nil, List.flatMap_append, List.flatMap_cons, List.flatMap_nil, List.append_assoc, List.cons_append, List.nil_append, CrL, L2L]; omega)
  · obtain ⟨h1, hL⟩ := h.out
    rw [List.length_map, List.take_length] at hL
    exact k _ _ h1 hL
theorem st_p6 (hr : Room 8 (LX P w K mg base f cdv A outer s0 H0 E).A) (T : TxtR mg) (c_Crowd_tell_round : Met P w K mg base 6 CC "tell_round" (spRound CC CV PN) []) : PS (LX P w K mg base f cdv A outer s0 H0 E) (nth bodyB 6) (tP6 CC CV PN) := by
  refine ps_imp (t := _) (ps_for PassesOwn.never rfl (pi_range1 (by rfl) T.range (pa_cons pe_int pa_nil)) (pg_name (i := 10) scLaw.nd rfl (Or.inl rfl))
  (pss_one (ps_expr (pe_mt0 c_Crowd_tell_round hr (by decide) (pv 3))))) ?_
  rintro D σ H ⟨G, u, R, ps, ws, ⟨v4, v5, v6, v7, v8, v9, v10, v11, v12, v13, v14, v15, v16, v19, rfl⟩, ok, ht, hL, k⟩
  unfold sg2
  fail "go"
  refine for_rangeA (fun i σ H => Hold (∃ (ws' : List VE) (ps' : Array Value), Sh2 G u σ ∧ GOk G ws' ∧ TriplesOk ps'.toList ∧ plsOf ws' = roundsP G.ns G.dl (plsOf ws) G.t0 i ∧ Led H (L2L CC CV PN G ps' ws' (unitD G.dl) (G.t0 + i) R))) (.mk ⟨ws, ps, ⟨_, _, _, _, _, _, _, _, _, _, _, _, _, _, rfl⟩, ok, ht, rfl, ?_⟩) (fun i σ H D' hi h hD' => ?_) (fun σ H h => ?_)
  · rw [show G.t0 + ((0 : Nat) : Int) = G.t0 by omega]; exact hL
  · clear hL
    obtain ⟨ws', ps', ⟨v4, v5, v6, v7, v8, v9, v10, v11, v12, v13, v14, v15, v16, v19, rfl⟩, ok', ht', e, hL⟩ := h.out
    clear h
    unfold sg2
    dsimp only [L2L] at hL
    fail "go"
    refine ⟨G.cr, G.dc, G.vd, G.dd, ws', unitD G.dl, G.t0 + i, G.ns, ps', (G.dnl, .lst (G.dl.map V.str)) :: R, rfl, ?_, ht', ok'.w, fun ws2 ps2 H e2 ok2 ht2 hL => ?_⟩
    · (refine Led.le hL (fun a_ => ?_); simp only [cnt_nil, cnt_cons, cnt_app, List.map_append, List.map_cons, List.map_nil, List.flatMap_append, List.flatMap_cons, List.flatMap_nil, List.append_assoc, List.cons_append, List.nil_append, CrL]; omega)
    refine hD'.nx _ _ (.mk ⟨ws2, ps2, ⟨_, _, _, _, _, _, _, _, _, _, _, _, _, _, rfl⟩, ⟨ok2, ok.nd, ok.sub⟩, ht2, ?_, ?_⟩)
    · rw [e2, unit_names, e, roundsP]
      rw [show G.t0 + (i : Int) + 1 = G.t0 + ((i + 1 : Nat) : Int) by omega]
    · rw [show G.t0 + (i : Int) + 1 = G.t0 + ((i + 1 : Nat) : Int) by omega] at hL
      (refine Led.le hL (fun a_ => ?_); simp only [cnt_nil, cnt_cons, cnt_app, List.map_append, List.map_cons, List.map_nil, List.flatMap_append, List.flatMap_cons, List.flatMap_nil, List.append_assoc, List.cons_append, List.nil_append, CrL, L2L]; omega)
  · obtain ⟨ws', ps', h1, ok', ht', e, hL⟩ := h.out
    exact k _ _ _ _ h1 ok' ht' e hL
end
end Sd


set_option linter.unusedVariables false
namespace Sd
open PySem L2
open C8 (Cal Met Mak pe_c pe_mk pe_mt pe_mt0 tCut)
set_option linter.unusedSimpArgs false
set_option pp.deepTerms false
set_option pp.deepTerms.threshold 12
set_option hygiene false
local macro_rules | `(tactic| fail "nd") => `(tactic| first | assumption | decide +kernel)
local macro_rules | `(tactic| fail "ix") => `(tactic| first | exact ⟨0, rfl⟩ | exact ⟨1, rfl⟩ | exact ⟨2, rfl⟩ | exact ⟨3, rfl⟩ | exact ⟨4, rfl⟩ | exact ⟨5, rfl⟩ | exact ⟨6, rfl⟩ | exact ⟨7, rfl⟩ | exact ⟨8, rfl⟩ | exact ⟨9, rfl⟩ | exact ⟨10, rfl⟩ | exact ⟨11, rfl⟩ | exact ⟨12, rfl⟩ | exact ⟨13, rfl⟩ | exact ⟨14, rfl⟩ | exact ⟨15, rfl⟩ | exact ⟨16, rfl⟩ | exact ⟨17, rfl⟩ | exact ⟨18, rfl⟩ | assumption)
local macro_rules | `(tactic| fail "up") => `(tactic| first | exact ⟨0, rfl, rfl⟩ | exact ⟨1, rfl, rfl⟩ | exact ⟨2, rfl, rfl⟩ | exact ⟨3, rfl, rfl⟩ | exact ⟨4, rfl, rfl⟩ | exact ⟨5, rfl, rfl⟩ | exact ⟨6, rfl, rfl⟩ | exact ⟨7, rfl, rfl⟩ | exact ⟨8, rfl, rfl⟩ | exact ⟨9, rfl, rfl⟩ | exact ⟨10, rfl, rfl⟩ | exact ⟨11, rfl, rfl⟩ | exact ⟨12, rfl, rfl⟩ | exact ⟨13, rfl, rfl⟩ | exact ⟨14, rfl, rfl⟩ | exact ⟨15, rfl, rfl⟩ | exact ⟨16, rfl, rfl⟩ | assumption)
local macro_rules | `(tactic| fail "lkF") => `(tactic| first | assumption | exact fz_at 0 (by fail "nd") rfl rfl | exact fz_at 1 (by fail "nd") rfl rfl | exact fz_at 2 (by fail "nd") rfl rfl | exact fz_at 3 (by fail "nd") rfl rfl | exact fz_at 4 (by fail "nd") rfl rfl | exact fz_at 5 (by fail "nd") rfl rfl | exact fz_at 6 (by fail "nd") rfl rfl | exact fz_at 7 (by fail "nd") rfl rfl)
local macro_rules | `(tactic| fail "lkD") => `(tactic| first | assumption | exact dz_at 0 (by fail "nd") rfl rfl | exact dz_at 1 (by fail "nd") rfl rfl | exact dz_at 2 (by fail "nd") rfl rfl | exact dz_at 3 (by fail "nd") rfl rfl | exact dz_at 4 (by fail "nd") rfl rfl)
local macro_rules | `(tactic| fail "ptF") => `(tactic| first | assumption | exact fz_put 0 (by fail "nd") rfl (Nat.le_of_ble_eq_true rfl) | exact fz_put 1 (by fail "nd") rfl (Nat.le_of_ble_eq_true rfl) | exact fz_put 2 (by fail "nd") rfl (Nat.le_of_ble_eq_true rfl) | exact fz_put 3 (by fail "nd") rfl (Nat.le_of_ble_eq_true rfl) | exact fz_put 4 (by fail "nd") rfl (Nat.le_of_ble_eq_true rfl) | exact fz_put 5 (by fail "nd") rfl (Nat.le_of_ble_eq_true rfl) | exact fz_put 6 (by fail "nd") rfl (Nat.le_of_ble_eq_true rfl) | exact fz_put 7 (by fail "nd") rfl (Nat.le_of_ble_eq_true rfl) | exact fz_new (by decide +kernel) rfl)
local macro_rules | `(tactic| fail "ptD") => `(tactic| first | assumption | exact dz_put 0 (by fail "nd") rfl (Nat.le_of_ble_eq_true rfl) | exact dz_put 1 (by fail "nd") rfl (Nat.le_of_ble_eq_true rfl) | exact dz_put 2 (by fail "nd") rfl (Nat.le_of_ble_eq_true rfl) | exact dz_put 3 (by fail "nd") rfl (Nat.le_of_ble_eq_true rfl) | exact dz_put 4 (by fail "nd") rfl (Nat.le_of_ble_eq_true rfl))
local macro_rules | `(tactic| fail "sz") => `(tactic| first | assumption | exact (Nat.le_of_ble_eq_true rfl) | omega | decide)
local macro_rules | `(tactic| fail "sd") => `(tactic| first | rfl | assumption | decide | omega | (dsimp only; first | decide | omega) | exact .inr ⟨by decide, by decide⟩ | exact .inl ⟨by decide, by decide⟩ | exact ⟨by omega, by omega⟩ | exact .inl ⟨by omega, by omega⟩ | exact .inr ⟨by omega, by omega⟩ | exact ⟨by omega, by omega, by omega⟩)
local macro_rules | `(tactic| fail "cl") => `(tactic| (clear hH; dsimp only [List.set, List.cons_append, List.nil_append, List.append] at hL))
local macro_rules | `(tactic| fail "gn") => `(tactic| (intro p hp; generalize hH : upd H p _ = H; replace hL := Led.newH hL hp hH; clear hH hp))
local macro_rules | `(tactic| fail "gup") => `(tactic| (generalize hH : upd H _ _ = H; replace hL := Led.upU hL (by fail "up") hH; fail "cl"))
local macro_rules | `(tactic| fail "gmk") => `(tactic| (intro x dx hx hd ne; generalize hH : upd (upd H dx _) x _ = H; replace hL := Led.made hL hx hd ne hH; clear hH hx hd ne))
local macro_rules | `(tactic| fail "v") => `(tactic| refine ⟨_, rfl, ?_⟩)
local macro_rules | `(tactic| fail "i2") => `(tactic| refine ⟨_, _, rfl, rfl, ?_⟩)
local macro_rules | `(tactic| fail "go1") => `(tactic| first
  | refine ⟨_, rfl, ?_⟩
  | refine ⟨_, _, rfl, rfl, ?_⟩
  | refine ⟨_, _, rfl, ?_⟩
  | refine iteT ?_
  | refine iteF ?_
  | refine k_fld hL (by fail "ix") (by assumption) (by assumption) (by fail "lkF") ?_
  | refine k_dgetS hL (by fail "ix") (by fail "lkD") ?_
  | refine k_dgetI hL (by fail "ix") (by assumption) ?_
  | refine k_ixL hL (by fail "ix") (by first | rfl | assumption) ?_
  | refine k_ixT hL (by fail "ix") (by first | rfl | assumption) ?_
  | refine k_tyL hL (by fail "ix") ?_
  | refine k_isd hL (by fail "ix") ?_
  | (refine And.intro (by fail "sz") ?_; fail "gn")
  | refine And.intro (by fail "sd") ?_
  | fail "gn"
  | refine k_meth hL (by fail "ix") (by first | assumption | exact fz_no (by decide +kernel)) ?_
  | refine k_gtup hL (by fail "ix") rfl ?_
  | (refine k_popI hL (by fail "ix") (by assumption) ?_; fail "gup")
  | (refine k_listD hL (by fail "ix") ?_; fail "gn")
  | (refine ⟨_, _, _, _, rfl, rfl, hL.at (by fail "ix"), rfl, ?_⟩; fail "gup")
  | (refine ⟨_, _, _, rfl, rfl, hL.at (by fail "ix"), (by fail "sz"), ?_⟩; fail "gup")
  | (refine ⟨_, _, _, _, rfl, hL.at (by fail "ix"), by assumption, by assumption, Nat.lt_of_le_of_lt fz_len (by decide), ?_⟩; generalize hH : upd H _ _ = H; replace hL := Led.upF hL (by fail "up") (by fail "ptF") hH; fail "cl")
  | (refine ⟨_, _, hL.at (by fail "ix"), Nat.lt_of_le_of_lt fz_len (by decide), ?_⟩; generalize hH : upd H _ _ = H; replace hL := Led.upF hL (by fail "up") (by fail "ptF") hH; fail "cl")
  | (refine k_dputS hL (by fail "ix") (Nat.lt_of_le_of_lt dz_len (by decide)) (by fail "ptD") (by fail "up") ?_; clear hL; intro H hL; dsimp only [List.set, List.cons_append, List.nil_append, List.append] at hL)
  | refine k_lenL2 hL (by fail "ix") ?_
  | refine k_lenT2 hL (by fail "ix") ?_
  | refine .inl ⟨_, rfl, ?_⟩
  | refine .inr ⟨_, rfl, ?_⟩)
local macro_rules | `(tactic| fail "go") => `(tactic| repeat fail "go1")
local macro_rules | `(tactic| fail "pm") => `(tactic| (refine Led.le hL (fun a_ => ?_); simp only [cnt_nil, cnt_cons, cnt_app, List.map_append, List.map_cons, List.map_nil, List.flatMap_append, List.flatMap_cons, List.flatMap_nil, List.append_assoc, List.cons_append, List.nil_append]; omega))

def tP7 (CC CV PN : Addr) : TS := fun D σ H => ∃ (G : Gx2) (u : Option V) (R : Lg) (ps : Array Value) (ws : List VE) (t : Int), Sh2 G u σ ∧ GOk G ws ∧ (G.na, HO.lst (G.ns.map .str)) ∈ R ∧ Led H (L2L CC CV PN G ps ws (unitD G.dl) t R) ∧
  ∀ (ul : Addr) σ' H', Sh2 G (some (.ref ul)) σ' → Led H' ((ul, .lst ((upOf G.ns G.dl).map V.str)) :: L2L CC CV PN G ps ws (unitD G.dl) t R) → D.nx σ' H'
def tP8 (CC CV PN : Addr) : TS := fun D σ H => ∃ (G : Gx2) (ul : Addr) (R : Lg) (ps : Array Value) (ws : List VE) (t : Int), Sh2 G (some (.ref ul)) σ ∧ GOk G ws ∧ G.ns.length ≤ 6 ∧ 2 ≤ G.ns.length ∧ (G.na, HO.lst (G.ns.map .str)) ∈ R ∧ RI G.ns G.dl G.t0 120 (plsOf ws) ∧
  Led H ((ul, .lst ((upOf G.ns G.dl).map V.str)) :: L2L CC CV PN G ps ws (unitD G.dl) t R) ∧ ∀ σ' H', Sh2 G (some (.ref ul)) σ' → Led H' ((ul, .lst ((upOf G.ns G.dl).map V.str)) :: L2L CC CV PN G ps ws (unitD G.dl) t R) → D.nx σ' H'
theorem seen_is {G : Gx2} {ws : List VE} {ys : List Str} {nm : Str} (ok : GOk G ws) (hz : G.ns.length ≤ 6) (hn : nm ∈ G.ns) (R : RI G.ns G.dl G.t0 120 (plsOf ws)) (nd : ys.Nodup)
    (h : ∀ st, st ∈ ys ↔ ∃ k d, aget ws k = some d ∧ k ∉ G.dl ∧ stateP d.s.pl k nm = st) : ys = if upOf G.ns G.dl = [] then [] else [if nm ∈ G.dl then Str.ofString "dead" else Str.ofString "alive"] := by
  have hall : ∀ st ∈ ys, st = if nm ∈ G.dl then Str.ofString "dead" else Str.ofString "alive" := fun st hs => by
    obtain ⟨k, d, h1, h2, h3⟩ := (h st).mp hs
    have hk : k ∈ G.ns := by rw [← ok.w.nm]; exact aget_some h1
    rw [← h3, ← gossip_end ok.w.ok.nd hz R hk h2 hn, getP_ws h1]
  by_cases hu : upOf G.ns G.dl = []
  · rw [if_pos hu]
    cases ys with
    | nil => rfl
    | cons x r =>
      obtain ⟨k, d, h1, h2, h3⟩ := (h x).mp List.mem_cons_self
      have hk : k ∈ G.ns := by rw [← ok.w.nm]; exact aget_some h1
      have := up_mem.mpr ⟨hk, h2⟩
      rw [hu] at this
      cases this
  · rw [if_neg hu]
    obtain ⟨k, hk⟩ := List.exists_mem_of_ne_nil _ hu
    obtain ⟨hk1, hk2⟩ := up_mem.mp hk
    obtain ⟨d, hd⟩ := ok.w.nm2 hk1
    have hmem := (h _).mpr ⟨k, d, hd, hk2, rfl⟩
    cases ys with
    | nil => cases hmem
    | cons x r =>
      cases r with
      | nil => rw [hall x List.mem_cons_self]
      | cons y s =>
        exfalso
        have h1 := hall x List.mem_cons_self
        have h2 := hall y (.tail _ List.mem_cons_self)
        exact (List.nodup_cons.mp nd).1 (by rw [h1, ← h2]; exact List.mem_cons_self)
section
variable {P : Program} {w : World} {K : PySem.W.Frag} {mg : Str → Option Value} {base : Heap} {CV CC CE PN : Addr} {f : Addr} {cdv : Value} {A : Around} {outer : List Env} {s0 : Shared} {H0 : Hp} {E : XK}
theorem st_p7 (hr : Room 8 (LX P w K mg base f cdv A outer s0 H0 E).A) : PS (LX P w K mg base f cdv A outer s0 H0 E) (nth bodyB 7) (tP7 CC CV PN) := by
  refine ps_imp (t := _) (ps_setLc (i := 18) (own := [("name", 6)]) (g := gName 6) (by rfl) scLaw.nd rfl rfl (sw_true rfl rfl rfl (by decide +kernel)) (pi_list (pv 2)) (blkOk_by (own := [("name", 6)]) (N := ["script", "dice", "names", "crowd", "views", "one", "name", "step", "sort", "other", "turn", "view", "rows", "gone", "due", "forgotten", "here", "down", "up", "seen"]) (sc := (defScope sLaw)) (by decide +kernel)) (fun _ _ _ _ _ => (pg_name (i := 6) scLaw.nd rfl (Or.inl rfl))) (fun _ _ _ _ _ => (pts_one (pt_cmpR op_notIn_seqB (pv 6) (pv 17) (by rfl)))) (fun _ _ _ _ _ => (pv 6))) ?_
  rintro D σ H ⟨G, u, R, ps, ws, t, ⟨v4, v5, v6, v7, v8, v9, v10, v11, v12, v13, v14, v15, v16, v19, rfl⟩, ok, hna, hL, k⟩
  have hz := ok.w.ok.z
  unfold sg2
  dsimp only [L2L] at hL
  fail "go"
  refine ⟨⟨_, .of (hL.at (at_mem (.tail _ (.tail _ (.tail _ (.tail _ (.tail _ (List.mem_append_right _ hna))))))))⟩, fun D1 hD1 => lc_list (K := K) (a := G.na) (xs := G.ns.map V.str) (fun i H => Hold (Led H ((D1, .lst ((upOf (G.ns.take i) G.dl).map V.str)) :: L2L CC CV PN G ps ws (unitD G.dl) t R))) (.mk (hL.new hD1)) (fun i H _ h => ?_) (fun i x H hi h => ?_) (fun H h => ?_)⟩
  · exact .of (h.out.at (at_mem (.tail _ (.tail _ (.tail _ (.tail _ (.tail _ (.tail _ (List.mem_append_right _ hna)))))))))
  · clear hL
    have hL := h.out
    clear h
    rw [List.getElem?_map] at hi
    obtain ⟨y, hy, rfl⟩ := Option.map_eq_some_iff.mp hi
    have hil := (List.getElem?_eq_some_iff.mp hy).1
    have e1 : upOf (G.ns.take (i + 1)) G.dl = upOf (G.ns.take i) G.dl ++ (if y ∈ G.dl then [] else [y]) := by
      unfold upOf
      rw [List.take_add_one, hy, List.filter_append]
      by_cases h : y ∈ G.dl <;> simp [h]
    dsimp only [L2L] at hL
    refine ⟨rfl, ?_⟩
    fail "go"
    refine ⟨_, _, rfl, .inl (.of (hL.at (by fail "ix"))), rfl, flat_strs, _, rfl, ?_⟩
    rw [in_strs]
    by_cases hd : y ∈ G.dl
    · rw [decide_eq_true hd]
      refine ite_f (by rfl) ?_
      rw [e1, if_pos hd, List.append_nil]
      exact .mk hL
    · rw [decide_eq_false hd]
      refine ite_t (by rfl) ?_
      refine ⟨_, rfl, _, hL.at ⟨0, rfl⟩, ?_, ?_⟩
      · rw [List.length_map]
        have h2 : (upOf (G.ns.take i) G.dl).length ≤ (G.ns.take i).length := List.length_filter_le _ _
        rw [List.length_take] at h2
        exact small60 (by omega)
      · rw [e1, if_neg hd, List.map_append]
        exact .mk (hL.set 0 rfl)
  · clear hL
    have hL := h.out
    rw [List.length_map, List.take_length] at hL
    exact k D1 _ _ ⟨_, _, _, _, _, _, _, _, _, _, _, _, _, _, rfl⟩ hL
theorem st_p8 (hr : Room 8 (LX P w K mg base f cdv A outer s0 H0 E).A) (T : TxtSN mg) (c_Crowd_agree_on : Met P w K mg base 2 CC "agree_on" (spAgree CC CV) []) (c_Crowd_partner : Met P w K mg base 1 CC "partner" (spPartner CC CV) []) : PS (LX P w K mg base f cdv A outer s0 H0 E) (nth bodyB 8) (tP8 CC CV PN) := by
  refine ps_imp (t := _) (ps_for PassesOwn.never rfl (pi_list (pv 2)) (pg_name (i := 6) scLaw.nd rfl (Or.inr rfl))
  (pss_cons (ps_set (i := 19) scLaw.nd rfl (Or.inl rfl) (pe_mt c_Crowd_agree_on hr (by decide) (pv 3) (pa_cons (pv 6) pa_nil)))
  (C8.pss_cut (ps_if (PW.pt (pw_or (PW.pt (pw_and (pt_cmpR op_in_seq (pv 6) (pv 17) (by rfl)) (pw_and (pt_cmpR (op_neP hr.units) (pv 18) (pe_lst pa_nil) (nomark _)) (pw_and1 (pt_cmpR (op_neP hr.units) (pv 19) (pe_lst (pa_cons pe_str pa_nil)) (nomark _)))))) (pw_or1 (PW.pt (pw_and (pt_cmpR (op_eqP hr.units) (pv 18) (pe_lst pa_nil) (nomark _)) (pw_and1 (pt_cmpR (op_neP hr.units) (pv 19) (pe_lst pa_nil) (nomark _))))))))
  (pss_one (ps_ret pe_bl))
  pss_nil)
  (C8.pss_cut (ps_if (PW.pt (pw_or (PW.pt (pw_and (pt_cmpR op_in_seq (pv 6) (pv 18) (by rfl)) (pw_and1 (pt_cmpR (op_neP hr.units) (pe_lc (own := [("one", 5)]) (g := gName 5) (by rfl) scLaw.nd (pi_list (pv 19)) (blkOk_by (own := [("one", 5)]) (N := ["script", "dice", "names", "crowd", "views", "one", "name", "step", "sort", "other", "turn", "view", "rows", "gone", "due", "forgotten", "here", "down", "up", "seen"]) (sc := (defScope sLaw)) (by decide +kernel)) (fun _ _ _ _ _ => (pg_name (i := 5) scLaw.nd rfl (Or.inl rfl))) (fun _ _ _ _ _ => (pts_one (pt_cmpR op_eq (pv 5) pe_str (nomark _)))) (fun _ _ _ _ _ => (pv 5))) (pe_lst pa_nil) (nomark _))))) (pw_or1 (PW.pt (pw_and (pt_cmpR op_in_seq (pv 6) (pv 18) (by rfl)) (pw_and (pt_cmpR op_eq (pe_callB call_len_seq (by rfl) T.len (by decide +kernel) (pa_cons (pv 18) pa_nil)) pe_int (nomark _)) (pw_and1 (pt_cmpR (op_neP hr.units) (pv 19) (pe_lst (pa_cons pe_str pa_nil)) (nomark _)))))))))
  (pss_one (ps_ret pe_bl))
  pss_nil)
  (pss_one (ps_if (PW.pt (pw_and (pt_cmpR op_gt (pe_callB call_len_seq (by rfl) T.len (by decide +kernel) (pa_cons (pv 2) pa_nil)) pe_int (nomark _)) (pw_and1 (pt_cmpR op_notIn_seq (pe_mt c_Crowd_partner hr (by decide) (pv 3) (pa_cons (pv 6) pa_nil)) (pe_lc (own := [("one", 5)]) (g := gName 5) (by rfl) scLaw.nd (pi_list (pv 2)) (blkOk_by (own := [("one", 5)]) (N := ["script", "dice", "names", "crowd", "views", "one", "name", "step", "sort", "other", "turn", "view", "rows", "gone", "due", "forgotten", "here", "down", "up", "seen"]) (sc := (defScope sLaw)) (by decide +kernel)) (fun _ _ _ _ _ => (pg_name (i := 5) scLaw.nd rfl (Or.inl rfl))) (fun _ _ _ _ _ => (pts_one (pt_cmpR op_ne (pv 5) (pv 6) (nomark _)))) (fun _ _ _ _ _ => (pv 5))) (by rfl)))))
  (pss_one (ps_ret pe_bl))
  pss_nil)))))) ?_
  rintro D σ H ⟨G, ul, R, ps, ws, t, ⟨v4, v5, v6, v7, v8, v9, v10, v11, v12, v13, v14, v15, v16, v19, rfl⟩, ok, hz6, hz2, hna, hR, hL, k⟩
  have hz := ok.w.ok.z
  unfold sg2
  dsimp only [L2L] at hL
  fail "go"
  refine ⟨⟨_, .of (hL.at (at_mem (.tail _ (.tail _ (.tail _ (.tail _ (.tail _ (.tail _ (List.mem_append_right _ hna)))))))))⟩, ?_⟩
  refine for_listA (K := K) (a := G.na) (xs := G.ns.map V.str) (fun i σ H => Hold (Sh2 G (some (.ref ul)) σ ∧ Led H ((ul, .lst ((upOf G.ns G.dl).map V.str)) :: L2L CC CV PN G ps ws (unitD G.dl) t R))) (.mk ⟨⟨_, _, _, _, _, _, _, _, _, _, _, _, _, _, rfl⟩, hL⟩) (fun i σ H _ h => ?_) (fun i x σ H D' hi h hD' => ?_) (fun σ H h => k _ _ h.out.1 h.out.2)
  · exact .of (h.out.2.at (at_mem (.tail _ (.tail _ (.tail _ (.tail _ (.tail _ (.tail _ (List.mem_append_right _ hna)))))))))
  · clear hL
    obtain ⟨⟨v4, v5, v6, v7, v8, v9, v10, v11, v12, v13, v14, v15, v16, v19, rfl⟩, hL⟩ := h.out
    clear h
    rw [List.getElem?_map] at hi
    obtain ⟨nm, hn, rfl⟩ := Option.map_eq_some_iff.mp hi
    have hnm := List.mem_of_getElem? hn
    unfold sg2
    dsimp only [L2L] at hL
    fail "go"
    refine ⟨G.cr, G.dc, G.vd, G.dd, ws, unitD G.dl, t, nm, G.ns, (ul, .lst ((upOf G.ns G.dl).map V.str)) :: (PN, HO.tbl ps) :: (G.dnl, .lst (G.dl.map V.str)) :: R, rfl, ?_, ok.w, hnm, fun ys sp H ynd hys hL => ?_⟩
    · (refine Led.le hL (fun a_ => ?_); simp only [cnt_nil, cnt_cons, cnt_app, List.map_append, List.map_cons, List.map_nil, List.flatMap_append, List.flatMap_cons, List.flatMap_nil, List.append_assoc, List.cons_append, List.nil_append, CrL]; omega)
    rw [unit_names] at hys
    have eys := seen_is ok hz6 hnm hR ynd hys
    replace hL : Led H ((sp, .lst (ys.map V.str)) :: (ul, .lst ((upOf G.ns G.dl).map V.str)) :: L2L CC CV PN G ps ws (unitD G.dl) t R) := by
      (refine Led.le hL (fun a_ => ?_); simp only [cnt_nil, cnt_cons, cnt_app, List.map_append, List.map_cons, List.map_nil, List.flatMap_append, List.flatMap_cons, List.flatMap_nil, List.append_assoc, List.cons_append, List.nil_append, CrL, L2L]; omega)
    dsimp only [L2L] at hL
    fail "go"
    have hpm := partner_mem (t := t) ok.w.ok.nd hnm (by omega)
    have hund : (upOf G.ns G.dl).length < 60 := by
      have := List.length_filter_le (fun k => decide (k ∉ G.dl)) G.ns
      unfold upOf
      omega
    have hupm := up_mem (ns := G.ns) (dn := G.dl) (k := nm)
    generalize upOf G.ns G.dl = ups at *
    refine ⟨fun σ H => Hold (σ = sg2 G v4 v5 (some (.str nm)) v7 v8 v9 v10 v11 v12 v13 v14 v15 v16 (some (.ref ul)) (some (.ref sp)) ∧ Led H ((sp, .lst (ys.map V.str)) :: (ul, .lst (ups.map V.str)) :: L2L CC CV PN G ps ws (unitD G.dl) t R)), ?_, fun σ H h => ?_⟩
    · fail "go"
      by_cases hd : nm ∈ G.dl
      · rw [if_pos hd] at eys
        refine k_inS hL (by fail "ix") ?_
        rw [decide_eq_true hd]
        fail "go"
        refine k_neStrs hL (by fail "ix") (by fail "ix") rfl (b := []) rfl ?_
        by_cases hu : ups = []
        · rw [if_pos hu] at eys
          rw [decide_eq_true hu]
          fail "go"
          refine k_eqStrs hL (by fail "ix") (by fail "ix") rfl (b := []) rfl ?_
          rw [decide_eq_true hu]
          fail "go"
          refine k_neStrs hL (by fail "ix") (by fail "ix") rfl (b := []) rfl ?_
          rw [decide_eq_true eys]
          fail "go"
          refine .mk ⟨rfl, ?_⟩
          (refine Led.le hL (fun a_ => ?_); simp only [cnt_nil, cnt_cons, cnt_app, List.map_append, List.map_cons, List.map_nil, List.flatMap_append, List.flatMap_cons, List.flatMap_nil, List.append_assoc, List.cons_append, List.nil_append, L2L]; omega)
        · rw [if_neg hu] at eys
          rw [decide_eq_false hu]
          fail "go"
          refine k_neStrs hL (by fail "ix") (by fail "ix") rfl (b := [Str.ofString "dead"]) rfl ?_
          rw [decide_eq_true eys]
          fail "go"
          refine k_eqStrs hL (by fail "ix") (by fail "ix") rfl (b := []) rfl ?_
          rw [decide_eq_false hu]
          fail "go"
          refine .mk ⟨rfl, ?_⟩
          (refine Led.le hL (fun a_ => ?_); simp only [cnt_nil, cnt_cons, cnt_app, List.map_append, List.map_cons, List.map_nil, List.flatMap_append, List.flatMap_cons, List.flatMap_nil, List.append_assoc, List.cons_append, List.nil_append, L2L]; omega)
      · have hu : ups ≠ [] := fun z => by
          have := hupm.mpr ⟨hnm, hd⟩
          rw [z] at this; cases this
        refine k_inS hL (by fail "ix") ?_
        rw [decide_eq_false hd]
        fail "go"
        refine k_eqStrs hL (by fail "ix") (by fail "ix") rfl (b := []) rfl ?_
        rw [decide_eq_false hu]
        fail "go"
        refine .mk ⟨rfl, ?_⟩
        (refine Led.le hL (fun a_ => ?_); simp only [cnt_nil, cnt_cons, cnt_app, List.map_append, List.map_cons, List.map_nil, List.flatMap_append, List.flatMap_cons, List.flatMap_nil, List.append_assoc, List.cons_append, List.nil_append, L2L]; omega)
    clear hL
    obtain ⟨rfl, hL⟩ := h.out
    clear h
    dsimp only [L2L] at hL
    unfold sg2
    refine ⟨fun σ H => Hold (σ = sg2 G v4 v5 (some (.str nm)) v7 v8 v9 v10 v11 v12 v13 v14 v15 v16 (some (.ref ul)) (some (.ref sp)) ∧ Led H ((sp, .lst (ys.map V.str)) :: (ul, .lst (ups.map V.str)) :: L2L CC CV PN G ps ws (unitD G.dl) t R)), ?_, fun σ H h => ?_⟩
    · fail "go"
      refine k_inS hL (by fail "ix") ?_
      by_cases hd : nm ∈ G.dl
      · rw [decide_eq_false (fun z => (hupm.mp z).2 hd)]
        fail "go"
        refine k_inS hL (by fail "ix") ?_
        rw [decide_eq_false (fun z => (hupm.mp z).2 hd)]
        fail "go"
        refine .mk ⟨rfl, ?_⟩
        (refine Led.le hL (fun a_ => ?_); simp only [cnt_nil, cnt_cons, cnt_app, List.map_append, List.map_cons, List.map_nil, List.flatMap_append, List.flatMap_cons, List.flatMap_nil, List.append_assoc, List.cons_append, List.nil_append, L2L]; omega)
      · have hm := hupm.mpr ⟨hnm, hd⟩
        have hu : ups ≠ [] := fun z => by rw [z] at hm; cases hm
        rw [if_neg hu, if_neg hd] at eys
        rw [decide_eq_true hm]
        fail "go"
        refine ⟨⟨_, .of (hL.at ⟨0, rfl⟩)⟩, fun D1 hD1 => lc_list (K := K) (a := sp) (xs := ys.map V.str) (fun i H => Hold (Led H ((D1, .lst []) :: (sp, .lst (ys.map V.str)) :: (ul, .lst (ups.map V.str)) :: L2L CC CV PN G ps ws (unitD G.dl) t R))) (.mk (hL.new hD1)) (fun i H _ h => ?_) (fun i x H hi h => ?_) (fun H h => ?_)⟩
        · exact .of (h.out.at ⟨1, rfl⟩)
        · clear hL
          have hL := h.out
          clear h
          rw [eys] at hi
          rcases i with _ | i
          · obtain rfl := Option.some.inj hi
            refine ⟨rfl, ?_⟩
            fail "go"
            exact .mk hL
          · simp at hi
        · clear hL
          have hL := h.out
          clear h
          dsimp only [L2L] at hL
          fail "go"
          refine k_neStrs hL (by fail "ix") (by fail "ix") (a := []) rfl (b := []) rfl ?_
          fail "go"
          refine k_inS hL (by fail "ix") ?_
          rw [decide_eq_true hm]
          fail "go"
          refine ite_d (fun q => ?_) (fun q => ?_)
          · fail "go"
            refine k_neStrs hL (by fail "ix") (by fail "ix") rfl (b := [Str.ofString "alive"]) rfl ?_
            rw [decide_eq_true eys]
            fail "go"
            refine .mk ⟨rfl, ?_⟩
            (refine Led.le hL (fun a_ => ?_); simp only [cnt_nil, cnt_cons, cnt_app, List.map_append, List.map_cons, List.map_nil, List.flatMap_append, List.flatMap_cons, List.flatMap_nil, List.append_assoc, List.cons_append, List.nil_append, L2L]; omega)
          · refine .mk ⟨rfl, ?_⟩
            (refine Led.le hL (fun a_ => ?_); simp only [cnt_nil, cnt_cons, cnt_app, List.map_append, List.map_cons, List.map_nil, List.flatMap_append, List.flatMap_cons, List.flatMap_nil, List.append_assoc, List.cons_append, List.nil_append, L2L]; omega)
    clear hL
    obtain ⟨rfl, hL⟩ := h.out
    clear h
    have hnaL : At ((sp, HO.lst (ys.map V.str)) :: (ul, .lst (ups.map V.str)) :: L2L CC CV PN G ps ws (unitD G.dl) t R) G.na (.lst (G.ns.map V.str)) := (at_mem (.tail _ (.tail _ (.tail _ (.tail _ (.tail _ (.tail _ (.tail _ (List.mem_append_right _ hna)))))))))
    dsimp only [L2L] at hL hnaL
    unfold sg2
    fail "go"
    refine ite_d (fun q => ?_) (fun q => ?_)
    · fail "go"
      refine ⟨G.cr, G.dc, G.vd, G.dd, ws, unitD G.dl, t, nm, (sp, .lst (ys.map V.str)) :: (ul, .lst (ups.map V.str)) :: (PN, HO.tbl ps) :: (G.dnl, .lst (G.dl.map V.str)) :: R, rfl, ?_, by rw [ok.w.nm]; exact ok.w.ok, by rw [ok.w.nm]; exact hnm, ?_, fun H hL => ?_⟩
      · (refine Led.le hL (fun a_ => ?_); simp only [cnt_nil, cnt_cons, cnt_app, List.map_append, List.map_cons, List.map_nil, List.flatMap_append, List.flatMap_cons, List.flatMap_nil, List.append_assoc, List.cons_append, List.nil_append, CrL]; omega)
      · have := congrArg List.length ok.w.nm
        rw [List.length_map] at this
        omega
      rw [ok.w.nm]
      replace hL : Led H ((sp, .lst (ys.map V.str)) :: (ul, .lst (ups.map V.str)) :: L2L CC CV PN G ps ws (unitD G.dl) t R) := by
        (refine Led.le hL (fun a_ => ?_); simp only [cnt_nil, cnt_cons, cnt_app, List.map_append, List.map_cons, List.map_nil, List.flatMap_append, List.flatMap_cons, List.flatMap_nil, List.append_assoc, List.cons_append, List.nil_append, CrL, L2L]; omega)
      dsimp only [L2L] at hL
      fail "go"
      refine ⟨⟨_, .of (hL.at hnaL)⟩, fun D1 hD1 => lc_list (K := K) (a := G.na) (xs := G.ns.map V.str) (fun i H => Hold (Led H ((D1, .lst ((othersP (G.ns.take i) nm).map V.str)) :: (sp, .lst (ys.map V.str)) :: (ul, .lst (ups.map V.str)) :: L2L CC CV PN G ps ws (unitD G.dl) t R))) (.mk (hL.new hD1)) (fun i H _ h => ?_) (fun i x H hi h => ?_) (fun H h => ?_)⟩
      · exact .of (h.out.tail.at hnaL)
      · clear hL
        have hL := h.out
        clear h
        rw [List.getElem?_map] at hi
        obtain ⟨y, hy, rfl⟩ := Option.map_eq_some_iff.mp hi
        have hil := (List.getElem?_eq_some_iff.mp hy).1
        have e1 : othersP (G.ns.take (i + 1)) nm = othersP (G.ns.take i) nm ++ (if y = nm then [] else [y]) := by
          unfold othersP
          rw [List.take_add_one, hy, List.filter_append]
          by_cases h : y = nm <;> simp [h]
        refine ⟨rfl, ?_⟩
        fail "go"
        refine ite_n (fun h1 => ?_) (fun h1 => ?_)
        · have h1 : ¬ y = nm := fun e => h1 (by rw [e])
          refine ⟨_, rfl, _, hL.at ⟨0, rfl⟩, ?_, ?_⟩
          · rw [List.length_map]
            have h2 : (othersP (G.ns.take i) nm).length ≤ (G.ns.take i).length := List.length_filter_le _ _
            rw [List.length_take] at h2
            exact small60 (by omega)
          · rw [e1, if_neg h1, List.map_append]
            exact .mk (hL.set 0 rfl)
        · have h1 := V.str.inj h1
          rw [e1, if_pos h1, List.append_nil]
          exact .mk hL
      · clear hL
        have hL := h.out
        clear h
        rw [List.length_map, List.take_length] at hL
        dsimp only [L2L] at hL
        refine k_ninS hL ⟨0, rfl⟩ ?_
        rw [decide_eq_true (others_mem.mpr hpm)]
        fail "go"
        exact hD'.nx _ _ (.mk ⟨⟨_, _, _, _, _, _, _, _, _, _, _, _, _, _, rfl⟩, hL.tail.tail⟩)
    · rw [List.length_map] at q
      omega
end
end Sd


set_option linter.unusedVariables false
namespace Sd
open PySem L2
open C8 (Cal Met Mak pe_c pe_mk pe_mt pe_mt0 tCut)
set_option linter.unusedSimpArgs false
set_option pp.deepTerms false
set_option pp.deepTerms.threshold 12
set_option hygiene false
local macro_rules | `(tactic| fail "nd") => `(tactic| first | assumption | decide +kernel)
local macro_rules | `(tactic| fail "ix") => `(tactic| first | exact ⟨0, rfl⟩ | exact ⟨1, rfl⟩ | exact ⟨2, rfl⟩ | exact ⟨3, rfl⟩ | exact ⟨4, rfl⟩ | exact ⟨5, rfl⟩ | exact ⟨6, rfl⟩ | exact ⟨7, rfl⟩ | exact ⟨8, rfl⟩ | exact ⟨9, rfl⟩ | exact ⟨10, rfl⟩ | exact ⟨11, rfl⟩ | exact ⟨12, rfl⟩ | exact ⟨13, rfl⟩ | exact ⟨14, rfl⟩ | exact ⟨15, rfl⟩ | exact ⟨16, rfl⟩ | exact ⟨17, rfl⟩ | exact ⟨18, rfl⟩ | assumption)
local macro_rules | `(tactic| fail "up") => `(tactic| first | exact ⟨0, rfl, rfl⟩ | exact ⟨1, rfl, rfl⟩ | exact ⟨2, rfl, rfl⟩ | exact ⟨3, rfl, rfl⟩ | exact ⟨4, rfl, rfl⟩ | exact ⟨5, rfl, rfl⟩ | exact ⟨6, rfl, rfl⟩ | exact ⟨7, rfl, rfl⟩ | exact ⟨8, rfl, rfl⟩ | exact ⟨9, rfl, rfl⟩ | exact ⟨10, rfl, rfl⟩ | exact ⟨11, rfl, rfl⟩ | exact ⟨12, rfl, rfl⟩ | exact ⟨13, rfl, rfl⟩ | exact ⟨14, rfl, rfl⟩ | exact ⟨15, rfl, rfl⟩ | exact ⟨16, rfl, rfl⟩ | assumption)
local macro_rules | `(tactic| fail "lkF") => `(tactic| first | assumption | exact fz_at 0 (by fail "nd") rfl rfl | exact fz_at 1 (by fail "nd") rfl rfl | exact fz_at 2 (by fail "nd") rfl rfl | exact fz_at 3 (by fail "nd") rfl rfl | exact fz_at 4 (by fail "nd") rfl rfl | exact fz_at 5 (by fail "nd") rfl rfl | exact fz_at 6 (by fail "nd") rfl rfl | exact fz_at 7 (by fail "nd") rfl rfl)
local macro_rules | `(tactic| fail "lkD") => `(tactic| first | assumption | exact dz_at 0 (by fail "nd") rfl rfl | exact dz_at 1 (by fail "nd") rfl rfl | exact dz_at 2 (by fail "nd") rfl rfl | exact dz_at 3 (by fail "nd") rfl rfl | exact dz_at 4 (by fail "nd") rfl rfl)
local macro_rules | `(tactic| fail "ptF") => `(tactic| first | assumption | exact fz_put 0 (by fail "nd") rfl (Nat.le_of_ble_eq_true rfl) | exact fz_put 1 (by fail "nd") rfl (Nat.le_of_ble_eq_true rfl) | exact fz_put 2 (by fail "nd") rfl (Nat.le_of_ble_eq_true rfl) | exact fz_put 3 (by fail "nd") rfl (Nat.le_of_ble_eq_true rfl) | exact fz_put 4 (by fail "nd") rfl (Nat.le_of_ble_eq_true rfl) | exact fz_put 5 (by fail "nd") rfl (Nat.le_of_ble_eq_true rfl) | exact fz_put 6 (by fail "nd") rfl (Nat.le_of_ble_eq_true rfl) | exact fz_put 7 (by fail "nd") rfl (Nat.le_of_ble_eq_true rfl) | exact fz_new (by decide +kernel) rfl)
local macro_rules | `(tactic| fail "ptD") => `(tactic| first | assumption | exact dz_put 0 (by fail "nd") rfl (Nat.le_of_ble_eq_true rfl) | exact dz_put 1 (by fail "nd") rfl (Nat.le_of_ble_eq_true rfl) | exact dz_put 2 (by fail "nd") rfl (Nat.le_of_ble_eq_true rfl) | exact dz_put 3 (by fail "nd") rfl (Nat.le_of_ble_eq_true rfl) | exact dz_put 4 (by fail "nd") rfl (Nat.le_of_ble_eq_true rfl))
local macro_rules | `(tactic| fail "sz") => `(tactic| first | assumption | exact (Nat.le_of_ble_eq_true rfl) | omega | decide)
local macro_rules | `(tactic| fail "sd") => `(tactic| first | rfl | assumption | decide | omega | (dsimp only; first | decide | omega) | exact .inr ⟨by decide, by decide⟩ | exact .inl ⟨by decide, by decide⟩ | exact ⟨by omega, by omega⟩ | exact .inl ⟨by omega, by omega⟩ | exact .inr ⟨by omega, by omega⟩ | exact ⟨by omega, by omega, by omega⟩)
local macro_rules | `(tactic| fail "cl") => `(tactic| (clear hH; dsimp only [List.set, List.cons_append, List.nil_append, List.append] at hL))
local macro_rules | `(tactic| fail "gn") => `(tactic| (intro p hp; generalize hH : upd H p _ = H; replace hL := Led.newH hL hp hH; clear hH hp))
local macro_rules | `(tactic| fail "gup") => `(tactic| (generalize hH : upd H _ _ = H; replace hL := Led.upU hL (by fail "up") hH; fail "cl"))
local macro_rules | `(tactic| fail "gmk") => `(tactic| (intro x dx hx hd ne; generalize hH : upd (upd H dx _) x _ = H; replace hL := Led.made hL hx hd ne hH; clear hH hx hd ne))
local macro_rules | `(tactic| fail "v") => `(tactic| refine ⟨_, rfl, ?_⟩)
local macro_rules | `(tactic| fail "i2") => `(tactic| refine ⟨_, _, rfl, rfl, ?_⟩)
local macro_rules | `(tactic| fail "go1") => `(tactic| first
  | refine ⟨_, rfl, ?_⟩
  | refine ⟨_, _, rfl, rfl, ?_⟩
  | refine ⟨_, _, rfl, ?_⟩
  | refine iteT ?_
  | refine iteF ?_
  | refine k_fld hL (by fail "ix") (by assumption) (by assumption) (by fail "lkF") ?_
  | refine k_dgetS hL (by fail "ix") (by fail "lkD") ?_
  | refine k_dgetI hL (by fail "ix") (by assumption) ?_
  | refine k_ixL hL (by fail "ix") (by first | rfl | assumption) ?_
  | refine k_ixT hL (by fail "ix") (by first | rfl | assumption) ?_
  | refine k_tyL hL (by fail "ix") ?_
  | refine k_isd hL (by fail "ix") ?_
  | (refine And.intro (by fail "sz") ?_; fail "gn")
  | refine And.intro (by fail "sd") ?_
  | fail "gn"
  | refine k_meth hL (by fail "ix") (by first | assumption | exact fz_no (by decide +kernel)) ?_
  | refine k_gtup hL (by fail "ix") rfl ?_
  | (refine k_popI hL (by fail "ix") (by assumption) ?_; fail "gup")
  | (refine k_listD hL (by fail "ix") ?_; fail "gn")
  | (refine ⟨_, _, _, _, rfl, rfl, hL.at (by fail "ix"), rfl, ?_⟩; fail "gup")
  | (refine ⟨_, _, _, rfl, rfl, hL.at (by fail "ix"), (by fail "sz"), ?_⟩; fail "gup")
  | (refine ⟨_, _, _, _, rfl, hL.at (by fail "ix"), by assumption, by assumption, Nat.lt_of_le_of_lt fz_len (by decide), ?_⟩; generalize hH : upd H _ _ = H; replace hL := Led.upF hL (by fail "up") (by fail "ptF") hH; fail "cl")
  | (refine ⟨_, _, hL.at (by fail "ix"), Nat.lt_of_le_of_lt fz_len (by decide), ?_⟩; generalize hH : upd H _ _ = H; replace hL := Led.upF hL (by fail "up") (by fail "ptF") hH; fail "cl")
  | (refine k_dputS hL (by fail "ix") (Nat.lt_of_le_of_lt dz_len (by decide)) (by fail "ptD") (by fail "up") ?_; clear hL; intro H hL; dsimp only [List.set, List.cons_append, List.nil_append, List.append] at hL)
  | refine k_lenL2 hL (by fail "ix") ?_
  | refine k_lenT2 hL (by fail "ix") ?_
  | refine .inl ⟨_, rfl, ?_⟩
  | refine .inr ⟨_, rfl, ?_⟩)
local macro_rules | `(tactic| fail "go") => `(tactic| repeat fail "go1")
local macro_rules | `(tactic| fail "pm") => `(tactic| (refine Led.le hL (fun a_ => ?_); simp only [cnt_nil, cnt_cons, cnt_app, List.map_append, List.map_cons, List.map_nil, List.flatMap_append, List.flatMap_cons, List.flatMap_nil, List.append_assoc, List.cons_append, List.nil_append]; omega))

def tP9 (CC CV PN : Addr) : TS := fun D σ H => ∃ (G : Gx2) (u : Option V) (R : Lg) (ps : Array Value) (ws : List VE) (t : Int), Sh2 G u σ ∧ GOk G ws ∧ TriplesOk ps.toList ∧ (∀ k ∈ G.dl, (getP (plsOf ws) k).time = 0) ∧ Led H (L2L CC CV PN G ps ws (unitD G.dl) t R) ∧
  ∀ σ' H', (∃ v1 v2 v3 v4 v5 v6 v7 v8 v9 v10 v11 v12 v13 v14 v15 v16 v17 v18 v19 : Option V, σ' = [some (.ref G.a), v1, v2, v3, v4, v5, v6, v7, v8, v9, v10, v11, v12, v13, v14, v15, v16, v17, v18, v19]) → Led H' R → D.nx σ' H'
section
variable {P : Program} {w : World} {K : PySem.W.Frag} {mg : Str → Option Value} {base : Heap} {CV CC CE PN : Addr} {f : Addr} {cdv : Value} {A : Around} {outer : List Env} {s0 : Shared} {H0 : Hp} {E : XK}
theorem st_p9 (hr : Room 8 (LX P w K mg base f cdv A outer s0 H0 E).A) (X : TxtCr K mg CC) (XV : TxtC K mg CV) (c_Crowd_set_down : Met P w K mg base 1 CC "set_down" (spDown CC CV) []) (c_Crowd_tell_round : Met P w K mg base 6 CC "tell_round" (spRound CC CV PN) []) :
    PS (LX P w K mg base f cdv A outer s0 H0 E) (nth bodyB 9) (tP9 CC CV PN) := by
  refine ps_imp (t := _) (ps_if (pt_cmpR (op_neP hr.units) (pv 17) (pe_lst pa_nil) (nomark _))
  (pss_cons (ps_expr (pe_mt c_Crowd_set_down hr (by decide) (pv 3) (pa_cons (pe_ix ix_list (pv 17) pe_int (fun _ _ => rfl)) (pa_cons pe_bl pa_nil))))
  (pss_cons (ps_expr (pe_mt0 c_Crowd_tell_round hr (by decide) (pv 3)))
  (pss_one (ps_if (pt_cmpR op_ne (pe_fld (pe_dget (hu_of hr) (pe_fld (pv 3) rfl) (pe_ix ix_list (pv 17) pe_int (fun _ _ => rfl)) (fun _ _ => rfl)) rfl) pe_int (nomark _))
  (pss_one (ps_ret pe_bl))
  pss_nil))))
  pss_nil) ?_
  rintro D σ H ⟨G, u, R, ps, ws, t, ⟨v4, v5, v6, v7, v8, v9, v10, v11, v12, v13, v14, v15, v16, v19, rfl⟩, ok, ht, htm, hL, k⟩
  have c1 := X.cl
  have f1 := X.n "views" (by decide +kernel)
  have c2 := XV.cl
  have f2 := XV.n "time" (by decide +kernel)
  have hz := ok.w.ok.z
  have hlen := nodup_le ok.nd ok.sub
  unfold sg2
  dsimp only [L2L] at hL
  fail "go"
  refine k_neStrs hL (by fail "ix") (by fail "ix") rfl (b := []) rfl ?_
  cases hdl : G.dl with
  | nil =>
    fail "go"
    refine k _ _ ⟨_, _, _, _, _, _, _, _, _, _, _, _, _, _, _, _, _, _, _, rfl⟩ ?_
    fail "pm"
  | cons x r =>
    have hx : x ∈ G.dl := by rw [hdl]; exact .head _
    have hxn := ok.sub x hx
    rw [hdl] at hL
    have nd := ok.nd
    rw [hdl] at nd
    refine ⟨_, rfl, iteT ?_⟩
    fail "go"
    have lk0 : atI ((x :: r).map V.str) 0 = some (.str x) := atI_nat (j := 0) rfl
    refine k_ixL hL (by fail "ix") lk0 ?_
    fail "go"
    refine ⟨G.cr, G.dc, G.vd, G.dd, ws, unitD (x :: r), t, x, false, (PN, HO.tbl ps) :: (G.dnl, .lst ((x :: r).map V.str)) :: R, rfl, ?_, by rw [ok.w.nm]; exact hxn, by rw [unit_names]; exact nd, by unfold unitD; rw [List.length_map, ← hdl]; omega, fun H hL => ?_⟩
    · (refine Led.le hL (fun a_ => ?_); simp only [cnt_nil, cnt_cons, cnt_app, List.map_append, List.map_cons, List.map_nil, List.flatMap_append, List.flatMap_cons, List.flatMap_nil, List.append_assoc, List.cons_append, List.nil_append, CrL]; omega)
    have e1 : adel (unitD (x :: r)) x = unitD r := by
      unfold unitD
      rw [List.map_cons, adel, if_pos rfl]
    rw [if_neg (by decide), e1] at hL
    dsimp only [CrL] at hL
    fail "go"
    refine ⟨G.cr, G.dc, G.vd, G.dd, ws, unitD r, t, G.ns, ps, (G.dnl, .lst ((x :: r).map V.str)) :: R, rfl, ?_, ht, ok.w, fun ws2 ps2 H e2 ok2 ht2 hL => ?_⟩
    · (refine Led.le hL (fun a_ => ?_); simp only [cnt_nil, cnt_cons, cnt_app, List.map_append, List.map_cons, List.map_nil, List.flatMap_append, List.flatMap_cons, List.flatMap_nil, List.append_assoc, List.cons_append, List.nil_append, CrL]; omega)
    rw [unit_names] at e2
    obtain ⟨d2, hd2⟩ := ok2.nm2 hxn
    have htime : d2.s.time = 1 := by
      have h1 := round_time (t := t + 1) (vs := plsOf ws) ok.w.ok.nd (by rw [pls_names]; exact ok.w.nm) hxn (List.nodup_cons.mp nd).1
      rw [← e2, getP_ws hd2, htm x hx] at h1
      exact h1
    have lkv : valV (ws2.map (kk veV)) (Sum.inr x) = some (.ref d2.v) := by rw [ws_val, hd2]; rfl
    replace hL : Led H ((G.dnl, .lst ((x :: r).map V.str)) :: (PN, HO.tbl ps2) :: (G.cr, .ins CC G.dc (fz nmC [.ref G.vd, .ref G.dd, .int (t + 1)])) :: (G.vd, .dK (ws2.map (kk veV))) :: (G.dd, .dK ((unitD r).map (kk dnV))) :: (vsL CV ws2 ++ R)) := by
      (refine Led.le hL (fun a_ => ?_); simp only [cnt_nil, cnt_cons, cnt_app, List.map_append, List.map_cons, List.map_nil, List.flatMap_append, List.flatMap_cons, List.flatMap_nil, List.append_assoc, List.cons_append, List.nil_append, CrL]; omega)
    fail "go"
    refine k_fld hL (at_mem (.tail _ (.tail _ (.tail _ (.tail _ (.tail _ (List.mem_append_left _ (ve_mem hd2 (.head _))))))))) c2 f2 (by fail "lkF") ?_
    rw [htime]
    fail "go"
    refine k _ _ ⟨_, _, _, _, _, _, _, _, _, _, _, _, _, _, _, _, _, _, _, rfl⟩ ?_
    fail "pm"
end
end Sd


set_option linter.unusedVariables false
namespace Sd
open PySem L2 LamX
open C8 (Cal Met Mak pe_c pe_mk pe_mt pe_mt0 tCut)
/-- the lambdas within an expression, from the left -/
def lamsE : Expr → List Expr
  | .Call (.Name _ _) [.Lambda a b s p] _ _ => [.Lambda a b s p]
  | .Compare a _ _ _ => lamsE a
  | .BoolOp _ [a, b] _ => lamsE a ++ lamsE b
  | _ => []
def lamsS : Stmt → List Expr
  | .If t _ _ _ => lamsE t
  | .Return (some e) _ => lamsE e
  | _ => []
def lamAt (i : Nat) : Expr := ((defBody sLaw).flatMap lamsS).getD i (.Name "" ⟨0, 0, 0, 0⟩)
def lamBody (e : Expr) : Expr := match e with
  | .Lambda _ b _ _ => b
  | _ => e
def lamArgs (e : Expr) : Arguments := match e with
  | .Lambda a _ _ _ => a
  | _ => { posonlyargs := [], args := [], vararg := none, kwonlyargs := [], kw_defaults := [], kwarg := none, defaults := [] }
def lamScope (e : Expr) : Scope := match e with
  | .Lambda _ _ s _ => s
  | _ => { kind := .function, names := [], isGenerator := false, isCoroutine := false }
set_option linter.unusedSimpArgs false
set_option pp.deepTerms false
set_option pp.deepTerms.threshold 12
set_option hygiene false
local macro_rules | `(tactic| fail "nd") => `(tactic| first | assumption | decide +kernel)
local macro_rules | `(tactic| fail "ix") => `(tactic| first | exact ⟨0, rfl⟩ | exact ⟨1, rfl⟩ | exact ⟨2, rfl⟩ | exact ⟨3, rfl⟩ | exact ⟨4, rfl⟩ | exact ⟨5, rfl⟩ | exact ⟨6, rfl⟩ | exact ⟨7, rfl⟩ | exact ⟨8, rfl⟩ | exact ⟨9, rfl⟩ | exact ⟨10, rfl⟩ | exact ⟨11, rfl⟩ | exact ⟨12, rfl⟩ | exact ⟨13, rfl⟩ | exact ⟨14, rfl⟩ | exact ⟨15, rfl⟩ | exact ⟨16, rfl⟩ | exact ⟨17, rfl⟩ | exact ⟨18, rfl⟩ | assumption)
local macro_rules | `(tactic| fail "up") => `(tactic| first | exact ⟨0, rfl, rfl⟩ | exact ⟨1, rfl, rfl⟩ | exact ⟨2, rfl, rfl⟩ | exact ⟨3, rfl, rfl⟩ | exact ⟨4, rfl, rfl⟩ | exact ⟨5, rfl, rfl⟩ | exact ⟨6, rfl, rfl⟩ | exact ⟨7, rfl, rfl⟩ | exact ⟨8, rfl, rfl⟩ | exact ⟨9, rfl, rfl⟩ | exact ⟨10, rfl, rfl⟩ | exact ⟨11, rfl, rfl⟩ | exact ⟨12, rfl, rfl⟩ | exact ⟨13, rfl, rfl⟩ | exact ⟨14, rfl, rfl⟩ | exact ⟨15, rfl, rfl⟩ | exact ⟨16, rfl, rfl⟩ | assumption)
local macro_rules | `(tactic| fail "lkF") => `(tactic| first | assumption | exact fz_at 0 (by fail "nd") rfl rfl | exact fz_at 1 (by fail "nd") rfl rfl | exact fz_at 2 (by fail "nd") rfl rfl | exact fz_at 3 (by fail "nd") rfl rfl | exact fz_at 4 (by fail "nd") rfl rfl | exact fz_at 5 (by fail "nd") rfl rfl | exact fz_at 6 (by fail "nd") rfl rfl | exact fz_at 7 (by fail "nd") rfl rfl)
local macro_rules | `(tactic| fail "lkD") => `(tactic| first | assumption | exact dz_at 0 (by fail "nd") rfl rfl | exact dz_at 1 (by fail "nd") rfl rfl | exact dz_at 2 (by fail "nd") rfl rfl | exact dz_at 3 (by fail "nd") rfl rfl | exact dz_at 4 (by fail "nd") rfl rfl)
local macro_rules | `(tactic| fail "ptF") => `(tactic| first | assumption | exact fz_put 0 (by fail "nd") rfl (Nat.le_of_ble_eq_true rfl) | exact fz_put 1 (by fail "nd") rfl (Nat.le_of_ble_eq_true rfl) | exact fz_put 2 (by fail "nd") rfl (Nat.le_of_ble_eq_true rfl) | exact fz_put 3 (by fail "nd") rfl (Nat.le_of_ble_eq_true rfl) | exact fz_put 4 (by fail "nd") rfl (Nat.le_of_ble_eq_true rfl) | exact fz_put 5 (by fail "nd") rfl (Nat.le_of_ble_eq_true rfl) | exact fz_put 6 (by fail "nd") rfl (Nat.le_of_ble_eq_true rfl) | exact fz_put 7 (by fail "nd") rfl (Nat.le_of_ble_eq_true rfl) | exact fz_new (by decide +kernel) rfl)
local macro_rules | `(tactic| fail "ptD") => `(tactic| first | assumption | exact dz_put 0 (by fail "nd") rfl (Nat.le_of_ble_eq_true rfl) | exact dz_put 1 (by fail "nd") rfl (Nat.le_of_ble_eq_true rfl) | exact dz_put 2 (by fail "nd") rfl (Nat.le_of_ble_eq_true rfl) | exact dz_put 3 (by fail "nd") rfl (Nat.le_of_ble_eq_true rfl) | exact dz_put 4 (by fail "nd") rfl (Nat.le_of_ble_eq_true rfl))
local macro_rules | `(tactic| fail "sz") => `(tactic| first | assumption | exact (Nat.le_of_ble_eq_true rfl) | omega | decide)
local macro_rules | `(tactic| fail "sd") => `(tactic| first | rfl | assumption | decide | omega | (dsimp only; first | decide | omega) | exact .inr ⟨by decide, by decide⟩ | exact .inl ⟨by decide, by decide⟩ | exact ⟨by omega, by omega⟩ | exact .inl ⟨by omega, by omega⟩ | exact .inr ⟨by omega, by omega⟩ | exact ⟨by omega, by omega, by omega⟩)
local macro_rules | `(tactic| fail "cl") => `(tactic| (clear hH; dsimp only [List.set, List.cons_append, List.nil_append, List.append] at hL))
local macro_rules | `(tactic| fail "gn") => `(tactic| (intro p hp; generalize hH : upd H p _ = H; replace hL := Led.newH hL hp hH; clear hH hp))
local macro_rules | `(tactic| fail "gup") => `(tactic| (generalize hH : upd H _ _ = H; replace hL := Led.upU hL (by fail "up") hH; fail "cl"))
local macro_rules | `(tactic| fail "gmk") => `(tactic| (intro x dx hx hd ne; generalize hH : upd (upd H dx _) x _ = H; replace hL := Led.made hL hx hd ne hH; clear hH hx hd ne))
local macro_rules | `(tactic| fail "v") => `(tactic| refine ⟨_, rfl, ?_⟩)
local macro_rules | `(tactic| fail "i2") => `(tactic| refine ⟨_, _, rfl, rfl, ?_⟩)
local macro_rules | `(tactic| fail "go1") => `(tactic| first
  | refine ⟨_, rfl, ?_⟩
  | refine ⟨_, _, rfl, rfl, ?_⟩
  | refine ⟨_, _, rfl, ?_⟩
  | refine iteT ?_
  | refine iteF ?_
  | refine k_fld hL (by fail "ix") (by assumption) (by assumption) (by fail "lkF") ?_
  | refine k_dgetS hL (by fail "ix") (by fail "lkD") ?_
  | refine k_dgetI hL (by fail "ix") (by assumption) ?_
  | refine k_ixL hL (by fail "ix") (by first | rfl | assumption) ?_
  | refine k_ixT hL (by fail "ix") (by first | rfl | assumption) ?_
  | refine k_tyL hL (by fail "ix") ?_
  | refine k_isd hL (by fail "ix") ?_
  | (refine And.intro (by fail "sz") ?_; fail "gn")
  | refine And.intro (by fail "sd") ?_
  | fail "gn"
  | refine k_meth hL (by fail "ix") (by first | assumption | exact fz_no (by decide +kernel)) ?_
  | refine k_gtup hL (by fail "ix") rfl ?_
  | (refine k_popI hL (by fail "ix") (by assumption) ?_; fail "gup")
  | (refine k_listD hL (by fail "ix") ?_; fail "gn")
  | (refine ⟨_, _, _, _, rfl, rfl, hL.at (by fail "ix"), rfl, ?_⟩; fail "gup")
  | (refine ⟨_, _, _, rfl, rfl, hL.at (by fail "ix"), (by fail "sz"), ?_⟩; fail "gup")
  | (refine ⟨_, _, _, _, rfl, hL.at (by fail "ix"), by assumption, by assumption, Nat.lt_of_le_of_lt fz_len (by decide), ?_⟩; generalize hH : upd H _ _ = H; replace hL := Led.upF hL (by fail "up") (by fail "ptF") hH; fail "cl")
  | (refine ⟨_, _, hL.at (by fail "ix"), Nat.lt_of_le_of_lt fz_len (by decide), ?_⟩; generalize hH : upd H _ _ = H; replace hL := Led.upF hL (by fail "up") (by fail "ptF") hH; fail "cl")
  | (refine k_dputS hL (by fail "ix") (Nat.lt_of_le_of_lt dz_len (by decide)) (by fail "ptD") (by fail "up") ?_; clear hL; intro H hL; dsimp only [List.set, List.cons_append, List.nil_append, List.append] at hL)
  | refine k_lenL2 hL (by fail "ix") ?_
  | refine k_lenT2 hL (by fail "ix") ?_
  | refine .inl ⟨_, rfl, ?_⟩
  | refine .inr ⟨_, rfl, ?_⟩)
local macro_rules | `(tactic| fail "go") => `(tactic| repeat fail "go1")
local macro_rules | `(tactic| fail "pm") => `(tactic| (refine Led.le hL (fun a_ => ?_); simp only [cnt_nil, cnt_cons, cnt_app, List.map_append, List.map_cons, List.map_nil, List.flatMap_append, List.flatMap_cons, List.flatMap_nil, List.append_assoc, List.cons_append, List.nil_append]; omega))

section
variable {P : Program} {w : World} {K : PySem.W.Frag} {mg : Str → Option Value} {base : Heap} {CV CC CE PN : Addr}
theorem nsc1 : NdefX.NScope [] [] [] (lamScope (lamAt 0)) := NdefX.nscope_by (by decide +kernel)
theorem nsc2 : NdefX.NScope [] [] [] (lamScope (lamAt 1)) := NdefX.nscope_by (by decide +kernel)
theorem nsc3 : NdefX.NScope [] [] [] (lamScope (lamAt 2)) := NdefX.nscope_by (by decide +kernel)
theorem lok1 {f c' : Addr} {q : Str} (c_X : MakX P w K mg base 1 "View" CV (spVInitX CE) []) : LOk P w K mg base 6 f ⟨"<lambda>", q, lamArgs (lamAt 0), [], lamScope (lamAt 0), [], c'⟩ (lamBody (lamAt 0)) (tlR CE) := by
  refine lok_of nsc1 rfl (fun _ _ _ => rfl) fun A outer s H Q E hr h => ⟨_, pe_mkX c_X hr (by decide) rfl (takes_of rfl rfl rfl (E := E) rfl) (pa_cons pe_str (pa_cons (pe_lst (pa_cons pe_str pa_nil)) pa_nil)), ?_⟩
  obtain ⟨R, hL, k⟩ := h
  refine ⟨Nat.le_of_ble_eq_true rfl, fun p hp => ?_⟩
  generalize hH : upd H p _ = H
  replace hL := Led.newH hL hp hH
  intro x dx hx hd ne
  generalize hH : upd (upd H dx _) x _ = H
  replace hL := Led.made hL hx hd ne hH
  exact ⟨x, p, _, ["y"], rfl, hL.at ⟨1, rfl⟩, by decide +kernel, k _ hL.tail.tail⟩
theorem sorted1 {x : Str} : PyProof.Rows.sortedS [x] = true := rfl
theorem lok2 {f c' : Addr} {q : Str} (c_Crowd : Mak P w K mg base 3 "Crowd" CC (spCInit CC CV) [.int 1]) (c_X : MetX P w K mg base 1 CC "set_down" (spDownX CC CV CE) []) : LOk P w K mg base 6 f ⟨"<lambda>", q, lamArgs (lamAt 1), [], lamScope (lamAt 1), [], c'⟩ (lamBody (lamAt 1)) (tlR CE) := by
  refine lok_of nsc2 rfl (fun _ _ _ => rfl) fun A outer s H Q E hr h => ⟨_, pe_mtX c_X hr (by decide) (takes_of rfl rfl rfl (E := E) rfl) (pe_mk c_Crowd hr (by decide) rfl (pa_cons (pe_lst (pa_cons pe_str (pa_cons pe_str pa_nil))) pa_nil)) (pa_cons pe_str (pa_cons pe_bl pa_nil)), ?_⟩
  obtain ⟨R, hL, k⟩ := h
  refine ⟨Nat.le_of_ble_eq_true rfl, fun p hp => ?_⟩
  generalize hH : upd H p _ = H
  replace hL := Led.newH hL hp hH
  intro x dx hx hd ne
  generalize hH : upd (upd H dx _) x _ = H
  replace hL := Led.made hL hx hd ne hH
  refine ⟨x, dx, p, ["a", "b"], 1, _, rfl, hL, .head _, by decide +kernel, by decide, by decide +kernel, fun ws vd dd H e hL => ⟨rfl, ?_⟩⟩
  refine ⟨x, _, _, rfl, hL.at ⟨0, rfl⟩, fz_no (by decide +kernel), ?_⟩
  refine ⟨x, dx, vd, dd, ws, [], 1, "c", true, _, rfl, hL, ?_, k _ hL.drop.tail⟩
  rw [← pls_names, e]
  decide +kernel
theorem lok3 {f c' : Addr} {q : Str} (c_View : Mak P w K mg base 1 "View" CV (spVInit CV) []) (c_X : MetX P w K mg base 1 CV "state_of" (spStateX CV CE) []) : LOk P w K mg base 6 f ⟨"<lambda>", q, lamArgs (lamAt 2), [], lamScope (lamAt 2), [], c'⟩ (lamBody (lamAt 2)) (tlR CE) := by
  refine lok_of nsc3 rfl (fun _ _ _ => rfl) fun A outer s H Q E hr h => ⟨_, pe_mtX c_X hr (by decide) (takes_of rfl rfl rfl (E := E) rfl) (pe_mk c_View hr (by decide) rfl (pa_cons pe_str (pa_cons (pe_lst (pa_cons pe_str pa_nil)) pa_nil))) (pa_cons pe_str pa_nil), ?_⟩
  obtain ⟨R, hL, k⟩ := h
  refine ⟨Nat.le_of_ble_eq_true rfl, fun p hp => ?_⟩
  generalize hH : upd H p _ = H
  replace hL := Led.newH hL hp hH
  intro x dx hx hd ne
  generalize hH : upd (upd H dx _) x _ = H
  replace hL := Led.made hL hx hd ne hH
  refine ⟨x, dx, p, "a", ["a"], _, rfl, hL, .head _, by decide +kernel, by decide +kernel, by decide, by decide +kernel, fun s rd gd H e hL => ⟨rfl, ?_⟩⟩
  refine ⟨x, _, _, rfl, hL.at ⟨0, rfl⟩, fz_no (by decide +kernel), ?_⟩
  refine ⟨x, dx, rd, gd, "a", "b", s, _, rfl, hL, ?_, k _ hL.drop.tail⟩
  rw [← pl_names, e]
  decide +kernel
end
end Sd


set_option linter.unusedVariables false
namespace Sd
open PySem L2
open C8 (Cal Met Mak pe_c pe_mk pe_mt pe_mt0 tCut)
set_option linter.unusedSimpArgs false
set_option pp.deepTerms false
set_option pp.deepTerms.threshold 12
set_option hygiene false
local macro_rules | `(tactic| fail "nd") => `(tactic| first | assumption | decide +kernel)
local macro_rules | `(tactic| fail "ix") => `(tactic| first | exact ⟨0, rfl⟩ | exact ⟨1, rfl⟩ | exact ⟨2, rfl⟩ | exact ⟨3, rfl⟩ | exact ⟨4, rfl⟩ | exact ⟨5, rfl⟩ | exact ⟨6, rfl⟩ | exact ⟨7, rfl⟩ | exact ⟨8, rfl⟩ | exact ⟨9, rfl⟩ | exact ⟨10, rfl⟩ | exact ⟨11, rfl⟩ | exact ⟨12, rfl⟩ | exact ⟨13, rfl⟩ | exact ⟨14, rfl⟩ | exact ⟨15, rfl⟩ | exact ⟨16, rfl⟩ | exact ⟨17, rfl⟩ | exact ⟨18, rfl⟩ | assumption)
local macro_rules | `(tactic| fail "up") => `(tactic| first | exact ⟨0, rfl, rfl⟩ | exact ⟨1, rfl, rfl⟩ | exact ⟨2, rfl, rfl⟩ | exact ⟨3, rfl, rfl⟩ | exact ⟨4, rfl, rfl⟩ | exact ⟨5, rfl, rfl⟩ | exact ⟨6, rfl, rfl⟩ | exact ⟨7, rfl, rfl⟩ | exact ⟨8, rfl, rfl⟩ | exact ⟨9, rfl, rfl⟩ | exact ⟨10, rfl, rfl⟩ | exact ⟨11, rfl, rfl⟩ | exact ⟨12, rfl, rfl⟩ | exact ⟨13, rfl, rfl⟩ | exact ⟨14, rfl, rfl⟩ | exact ⟨15, rfl, rfl⟩ | exact ⟨16, rfl, rfl⟩ | assumption)
local macro_rules | `(tactic| fail "lkF") => `(tactic| first | assumption | exact fz_at 0 (by fail "nd") rfl rfl | exact fz_at 1 (by fail "nd") rfl rfl | exact fz_at 2 (by fail "nd") rfl rfl | exact fz_at 3 (by fail "nd") rfl rfl | exact fz_at 4 (by fail "nd") rfl rfl | exact fz_at 5 (by fail "nd") rfl rfl | exact fz_at 6 (by fail "nd") rfl rfl | exact fz_at 7 (by fail "nd") rfl rfl)
local macro_rules | `(tactic| fail "lkD") => `(tactic| first | assumption | exact dz_at 0 (by fail "nd") rfl rfl | exact dz_at 1 (by fail "nd") rfl rfl | exact dz_at 2 (by fail "nd") rfl rfl | exact dz_at 3 (by fail "nd") rfl rfl | exact dz_at 4 (by fail "nd") rfl rfl)
local macro_rules | `(tactic| fail "ptF") => `(tactic| first | assumption | exact fz_put 0 (by fail "nd") rfl (Nat.le_of_ble_eq_true rfl) | exact fz_put 1 (by fail "nd") rfl (Nat.le_of_ble_eq_true rfl) | exact fz_put 2 (by fail "nd") rfl (Nat.le_of_ble_eq_true rfl) | exact fz_put 3 (by fail "nd") rfl (Nat.le_of_ble_eq_true rfl) | exact fz_put 4 (by fail "nd") rfl (Nat.le_of_ble_eq_true rfl) | exact fz_put 5 (by fail "nd") rfl (Nat.le_of_ble_eq_true rfl) | exact fz_put 6 (by fail "nd") rfl (Nat.le_of_ble_eq_true rfl) | exact fz_put 7 (by fail "nd") rfl (Nat.le_of_ble_eq_true rfl) | exact fz_new (by decide +kernel) rfl)
local macro_rules | `(tactic| fail "ptD") => `(tactic| first | assumption | exact dz_put 0 (by fail "nd") rfl (Nat.le_of_ble_eq_true rfl) | exact dz_put 1 (by fail "nd") rfl (Nat.le_of_ble_eq_true rfl) | exact dz_put 2 (by fail "nd") rfl (Nat.le_of_ble_eq_true rfl) | exact dz_put 3 (by fail "nd") rfl (Nat.le_of_ble_eq_true rfl) | exact dz_put 4 (by fail "nd") rfl (Nat.le_of_ble_eq_true rfl))
local macro_rules | `(tactic| fail "sz") => `(tactic| first | assumption | exact (Nat.le_of_ble_eq_true rfl) | omega | decide)
local macro_rules | `(tactic| fail "sd") => `(tactic| first | rfl | assumption | decide | omega | (dsimp only; first | decide | omega) | exact .inr ⟨by decide, by decide⟩ | exact .inl ⟨by decide, by decide⟩ | exact ⟨by omega, by omega⟩ | exact .inl ⟨by omega, by omega⟩ | exact .inr ⟨by omega, by omega⟩ | exact ⟨by omega, by omega, by omega⟩)
local macro_rules | `(tactic| fail "cl") => `(tactic| (clear hH; dsimp only [List.set, List.cons_append, List.nil_append, List.append] at hL))
local macro_rules | `(tactic| fail "gn") => `(tactic| (intro p hp; generalize hH : upd H p _ = H; replace hL := Led.newH hL hp hH; clear hH hp))
local macro_rules | `(tactic| fail "gup") => `(tactic| (generalize hH : upd H _ _ = H; replace hL := Led.upU hL (by fail "up") hH; fail "cl"))
local macro_rules | `(tactic| fail "gmk") => `(tactic| (intro x dx hx hd ne; generalize hH : upd (upd H dx _) x _ = H; replace hL := Led.made hL hx hd ne hH; clear hH hx hd ne))
local macro_rules | `(tactic| fail "v") => `(tactic| refine ⟨_, rfl, ?_⟩)
local macro_rules | `(tactic| fail "i2") => `(tactic| refine ⟨_, _, rfl, rfl, ?_⟩)
local macro_rules | `(tactic| fail "go1") => `(tactic| first
  | refine ⟨_, rfl, ?_⟩
  | refine ⟨_, _, rfl, rfl, ?_⟩
  | refine ⟨_, _, rfl, ?_⟩
  | refine iteT ?_
  | refine iteF ?_
  | refine k_fld hL (by fail "ix") (by assumption) (by assumption) (by fail "lkF") ?_
  | refine k_dgetS hL (by fail "ix") (by fail "lkD") ?_
  | refine k_dgetI hL (by fail "ix") (by assumption) ?_
  | refine k_ixL hL (by fail "ix") (by first | rfl | assumption) ?_
  | refine k_ixT hL (by fail "ix") (by first | rfl | assumption) ?_
  | refine k_tyL hL (by fail "ix") ?_
  | refine k_isd hL (by fail "ix") ?_
  | (refine And.intro (by fail "sz") ?_; fail "gn")
  | refine And.intro (by fail "sd") ?_
  | fail "gn"
  | refine k_meth hL (by fail "ix") (by first | assumption | exact fz_no (by decide +kernel)) ?_
  | refine k_gtup hL (by fail "ix") rfl ?_
  | (refine k_popI hL (by fail "ix") (by assumption) ?_; fail "gup")
  | (refine k_listD hL (by fail "ix") ?_; fail "gn")
  | (refine ⟨_, _, _, _, rfl, rfl, hL.at (by fail "ix"), rfl, ?_⟩; fail "gup")
  | (refine ⟨_, _, _, rfl, rfl, hL.at (by fail "ix"), (by fail "sz"), ?_⟩; fail "gup")
  | (refine ⟨_, _, _, _, rfl, hL.at (by fail "ix"), by assumption, by assumption, Nat.lt_of_le_of_lt fz_len (by decide), ?_⟩; generalize hH : upd H _ _ = H; replace hL := Led.upF hL (by fail "up") (by fail "ptF") hH; fail "cl")
  | (refine ⟨_, _, hL.at (by fail "ix"), Nat.lt_of_le_of_lt fz_len (by decide), ?_⟩; generalize hH : upd H _ _ = H; replace hL := Led.upF hL (by fail "up") (by fail "ptF") hH; fail "cl")
  | (refine k_dputS hL (by fail "ix") (Nat.lt_of_le_of_lt dz_len (by decide)) (by fail "ptD") (by fail "up") ?_; clear hL; intro H hL; dsimp only [List.set, List.cons_append, List.nil_append, List.append] at hL)
  | refine k_lenL2 hL (by fail "ix") ?_
  | refine k_lenT2 hL (by fail "ix") ?_
  | refine .inl ⟨_, rfl, ?_⟩
  | refine .inr ⟨_, rfl, ?_⟩)
local macro_rules | `(tactic| fail "go") => `(tactic| repeat fail "go1")
local macro_rules | `(tactic| fail "pm") => `(tactic| (refine Led.le hL (fun a_ => ?_); simp only [cnt_nil, cnt_cons, cnt_app, List.map_append, List.map_cons, List.map_nil, List.flatMap_append, List.flatMap_cons, List.flatMap_nil, List.append_assoc, List.cons_append, List.nil_append]; omega))

structure TxtD (mg : Str → Option Value) : Prop where
  dict : mg "dict" = none
def tViews : TS := fun D σ H => ∃ (a d na cr : Addr) (v4 v5 v6 v7 v8 v9 v10 v11 v12 v13 v14 v15 v16 v17 v18 v19 : Option V) (ns : List Str) (L : Lg), σ = [some (.ref a), some (.ref d), some (.ref na), some (.ref cr), v4, v5, v6, v7, v8, v9, v10, v11, v12, v13, v14, v15, v16, v17, v18, v19] ∧
  NOk ns ∧ Led H L ∧ (na, HO.lst (ns.map .str)) ∈ L ∧ ∀ (wd : Addr) (os : List OE) H', plsO os = ns.map (fun n => (n, initP ns)) → Led H' ((wd, .dK (os.map (kk oeV))) :: (osL os ++ L)) → D.nx [some (.ref a), some (.ref d), some (.ref na), some (.ref cr), some (.ref wd), v5, v6, v7, v8, v9, v10, v11, v12, v13, v14, v15, v16, v17, v18, v19] H'
def prO (x : Addr × OE) : Addr × HO := (x.1, .tup [.str x.2.1, .ref x.2.2.o])
def prR (x : Addr × Rw) : Addr × HO := (x.1, .tup [.str x.2.1, .ref x.2.2.1])
section
variable {P : Program} {w : World} {K : PySem.W.Frag} {mg : Str → Option Value} {base : Heap} {f : Addr} {cdv : Value} {A : Around} {outer : List Env} {s0 : Shared} {H0 : Hp} {E : XK}
theorem st_views (hr : Room 8 (LX P w K mg base f cdv A outer s0 H0 E).A) (T : TxtD mg) : PS (LX P w K mg base f cdv A outer s0 H0 E) (nth bodyB 2) tViews := by
  refine ps_imp (t := _) (ps_set (i := 4) scLaw.nd rfl (Or.inr rfl) (pe_callTy (call_dictP rfl) (by rfl) T.dict (by decide +kernel) (pa_cons (pe_lc (own := [("name", 6)]) (g := gName 6) (by rfl) scLaw.nd (pi_list (pv 2)) (blkOk_by (own := [("name", 6)]) (N := ["script", "dice", "names", "crowd", "views", "one", "name", "step", "sort", "other", "turn", "view", "rows", "gone", "due", "forgotten", "here", "down", "up", "seen"]) (sc := (defScope sLaw)) (by decide +kernel)) (fun _ _ _ _ _ => (pg_name (i := 6) scLaw.nd rfl (Or.inl rfl))) (fun _ _ _ _ _ => pts_nil) (fun _ _ _ _ _ => (pe_tup (pa_cons (pv 6) (pa_cons (pe_disp (pps_cons pe_str pe_int (pps_cons pe_str pe_dnewK (pps_cons pe_str (pe_callTy (call_dictPB rfl) (by rfl) T.dict (by decide +kernel) (pa_cons (pe_lc (own := [("one", 5)]) (g := gName 5) (by rfl) scLaw.nd (pi_listB (pv 2)) (blkOk_by (own := [("one", 5)]) (by rfl)) (fun _ _ _ _ _ => (pg_name (i := 5) scLaw.nd rfl (Or.inl rfl))) (fun _ _ _ _ _ => pts_nil) (fun _ _ _ _ _ => (pe_tup (pa_cons (pv 5) (pa_cons (pe_tup (pa_cons pe_int (pa_cons pe_int pa_nil))) pa_nil))))) pa_nil)) pps_nil))) (by rfl) (by rfl) (fun z => by cases z) (by decide)) pa_nil))))) pa_nil))) ?_
  rintro D σ H ⟨a, d, na, cr, v4, v5, v6, v7, v8, v9, v10, v11, v12, v13, v14, v15, v16, v17, v18, v19, ns, L, rfl, ok, hL, hna, k⟩
  have hz := ok.z
  fail "go"
  have hnaL : ∀ {A : Lg}, At (A ++ L) na (.lst (ns.map V.str)) := at_mem (List.mem_append_right _ hna)
  refine ⟨⟨_, .of (hL.at (at_mem hna))⟩, fun D1 hD1 => lc_list (K := K) (a := na) (xs := ns.map V.str) (fun i H => Hold (∃ pz : List (Addr × OE), plsO (pz.map (·.2)) = (ns.take i).map (fun n => (n, initP ns)) ∧ Led H ((D1, .lst (pz.map fun x => V.ref x.1)) :: (pz.map prO ++ (osL (pz.map (·.2)) ++ L))))) (.mk ⟨[], rfl, hL.new hD1⟩) (fun i H _ h => ?_) (fun i x H hi h => ?_) (fun H h => ?_)⟩
  · obtain ⟨pz, e, hL⟩ := h.out
    exact .of (hL.at (at_mem (.tail _ (List.mem_append_right _ (List.mem_append_right _ hna)))))
  · clear hL
    obtain ⟨pz, e, hL⟩ := h.out
    clear h
    rw [List.getElem?_map] at hi
    obtain ⟨y, hy, rfl⟩ := Option.map_eq_some_iff.mp hi
    have hil := (List.getElem?_eq_some_iff.mp hy).1
    refine ⟨rfl, k_yes ?_⟩
    fail "go"
    rename_i o _
    rename Addr => gd
    refine ⟨⟨_, .of (hL.at (at_mem (.tail _ (.tail _ (.tail _ (List.mem_append_right _ (List.mem_append_right _ hna)))))))⟩, fun D2 hD2 => lc_list (K := K) (a := na) (xs := ns.map V.str) (fun j H => Hold (∃ rz : List (Addr × Rw), (rz.map (·.2)).map (fun x => (x.1, x.2.2)) = (ns.take j).map (fun n => (n, (0 : Int), (0 : Int))) ∧
      Led H ((D2, .lst (rz.map fun x => V.ref x.1)) :: (o, HO.dK []) :: (gd, HO.dK []) :: (D1, .lst (pz.map fun x => V.ref x.1)) :: (rz.map prR ++ ((rz.map (·.2)).map rowO ++ (pz.map prO ++ (osL (pz.map (·.2)) ++ L))))))) (.mk ⟨[], rfl, ?_⟩) (fun j H _ h => ?_) (fun j x2 H hj h => ?_) (fun H h => ?_)⟩
    · replace hL := hL.new (o := .lst []) hD2
      (refine Led.le hL (fun a_ => ?_); simp only [cnt_nil, cnt_cons, cnt_app, List.map_append, List.map_cons, List.map_nil, List.flatMap_append, List.flatMap_cons, List.flatMap_nil, List.append_assoc, List.cons_append, List.nil_append]; omega)
    · obtain ⟨rz, e2, hL⟩ := h.out
      exact .of (hL.at (at_mem (.tail _ (.tail _ (.tail _ (.tail _ (List.mem_append_right _ (List.mem_append_right _ (List.mem_append_right _ (List.mem_append_right _ hna))))))))))
    · clear hL
      obtain ⟨rz, e2, hL⟩ := h.out
      clear h
      rw [List.getElem?_map] at hj
      obtain ⟨y2, hy2, rfl⟩ := Option.map_eq_some_iff.mp hj
      have hjl := (List.getElem?_eq_some_iff.mp hy2).1
      refine ⟨rfl, k_yes ?_⟩
      fail "go"
      rename_i z _
      have hrl : rz.length = j := by
        have := congrArg List.length e2
        simp only [List.length_map, List.length_take] at this
        omega
      refine ⟨_, hL.at ⟨2, rfl⟩, by rw [List.length_map]; exact small60 (by omega), .mk ⟨rz ++ [(p, y2, z, 0, 0)], ?_, ?_⟩⟩
      rotate_left
      · replace hL := hL.set (o' := .lst ((rz.map fun x => V.ref x.1) ++ [.ref p])) 2 rfl
        dsimp only [List.set] at hL
        (refine Led.le hL (fun a_ => ?_); simp only [cnt_nil, cnt_cons, cnt_app, List.map_append, List.map_cons, List.map_nil, List.flatMap_append, List.flatMap_cons, List.flatMap_nil, List.append_assoc, List.cons_append, List.nil_append, prR, rowO]; omega)
      · rw [List.map_append, List.map_append, e2, map_take hy2]
        rfl
    · clear hL
      obtain ⟨rz, e2, hL⟩ := h.out
      clear h
      rw [List.length_map, List.take_length] at e2
      fail "go"
      have hnd : ((rz.map (·.2)).map (·.1)).Nodup := by
        have := congrArg (List.map Prod.fst) e2
        simp only [List.map_map, Function.comp_def] at this
        rw [List.map_map]
        show (rz.map fun x => x.2.1).Nodup
        rw [this]
        simpa using ok.nd
      refine ⟨D2, rz.map (·.1), (rz.map (·.2)).map (kk rowV), rfl, by rw [List.map_map]; exact .of (hL.at ⟨0, rfl⟩), ?_, fun rd hrd => ?_⟩
      · rw [List.map_map]
        refine paired_map fun x hx => .of (hL.mem (.tail _ (.tail _ (.tail _ (.tail _ (List.mem_append_left _ (List.mem_map.mpr ⟨x, hx, rfl⟩)))))))
      rw [mergeK_nd _ _ (by rw [List.nil_append, kk_names]; exact hnd.map _ fun a b h e => h (Sum.inr.inj e)), List.nil_append]
      generalize hH : upd H rd _ = H
      replace hL := Led.newH hL hrd hH
      refine ⟨hL.at (by fail "ix"), dz nmL [.int 0, .ref gd, .ref rd], rfl, Nat.le_of_ble_eq_true rfl, ?_⟩
      rw [mergeK_dz (by decide +kernel) rfl]
      generalize hH : upd H o _ = H
      replace hL := Led.upU (o' := .dK (dz nmL [.int 0, .ref gd, .ref rd])) hL ⟨2, rfl, rfl⟩ hH
      dsimp only [List.set] at hL
      fail "go"
      have hpl : pz.length = i := by
        have := congrArg List.length e
        unfold plsO at this
        simp only [List.length_map, List.length_take] at this
        omega
      refine ⟨_, hL.at ⟨5, rfl⟩, by rw [List.length_map]; exact small60 (by omega), .mk ⟨pz ++ [(p, (y, (⟨o, rd, gd, ⟨0, rz.map (·.2), []⟩⟩ : OD)))], ?_, ?_⟩⟩
      · rw [List.map_append, map_take hy, ← e]
        unfold plsO
        rw [List.map_append]
        congr 1
        show [(y, VS.pl ⟨0, rz.map (·.2), []⟩)] = [(y, initP ns)]
        unfold VS.pl initP
        rw [e2]
      · replace hL := hL.set (o' := .lst ((pz.map fun x => V.ref x.1) ++ [.ref p])) 5 rfl
        dsimp only [List.set] at hL
        (refine Led.le hL (fun a_ => ?_); simp only [cnt_nil, cnt_cons, cnt_app, List.map_append, List.map_cons, List.map_nil, List.flatMap_append, List.flatMap_cons, List.flatMap_nil, List.append_assoc, List.cons_append, List.nil_append, prO, osL, oeL, OV]; omega)
  · clear hL
    obtain ⟨pz, e, hL⟩ := h.out
    clear h
    rw [List.length_map, List.take_length] at e
    fail "go"
    have hnm : (pz.map (·.2)).map (·.1) = ns := by
      rw [← plo_names, e]; simp [Function.comp_def]
    refine ⟨D1, pz.map (·.1), (pz.map (·.2)).map (kk oeV), rfl, by rw [List.map_map]; exact .of (hL.at ⟨0, rfl⟩), ?_, fun wd hwd => ?_⟩
    · rw [List.map_map]
      refine paired_map fun x hx => .of (hL.mem (.tail _ (List.mem_append_left _ (List.mem_map.mpr ⟨x, hx, rfl⟩))))
    rw [mergeK_nd _ _ (by rw [List.nil_append, kk_names, hnm]; exact ok.nd.map _ fun a b h e => h (Sum.inr.inj e)), List.nil_append]
    generalize hH : upd H wd _ = H
    replace hL := Led.newH hL hwd hH
    refine k wd (pz.map (·.2)) H e ?_
    fail "pm"
end
end Sd


set_option linter.unusedVariables false
namespace Sd
open PySem L2 LamX
open C8 (Cal Met Mak pe_c pe_mk pe_mt pe_mt0 tCut)
set_option linter.unusedSimpArgs false
set_option pp.deepTerms false
set_option pp.deepTerms.threshold 12
set_option hygiene false
local macro_rules | `(tactic| fail "nd") => `(tactic| first | assumption | decide +kernel)
local macro_rules | `(tactic| fail "ix") => `(tactic| first | exact ⟨0, rfl⟩ | exact ⟨1, rfl⟩ | exact ⟨2, rfl⟩ | exact ⟨3, rfl⟩ | exact ⟨4, rfl⟩ | exact ⟨5, rfl⟩ | exact ⟨6, rfl⟩ | exact ⟨7, rfl⟩ | exact ⟨8, rfl⟩ | exact ⟨9, rfl⟩ | exact ⟨10, rfl⟩ | exact ⟨11, rfl⟩ | exact ⟨12, rfl⟩ | exact ⟨13, rfl⟩ | exact ⟨14, rfl⟩ | exact ⟨15, rfl⟩ | exact ⟨16, rfl⟩ | exact ⟨17, rfl⟩ | exact ⟨18, rfl⟩ | assumption)
local macro_rules | `(tactic| fail "up") => `(tactic| first | exact ⟨0, rfl, rfl⟩ | exact ⟨1, rfl, rfl⟩ | exact ⟨2, rfl, rfl⟩ | exact ⟨3, rfl, rfl⟩ | exact ⟨4, rfl, rfl⟩ | exact ⟨5, rfl, rfl⟩ | exact ⟨6, rfl, rfl⟩ | exact ⟨7, rfl, rfl⟩ | exact ⟨8, rfl, rfl⟩ | exact ⟨9, rfl, rfl⟩ | exact ⟨10, rfl, rfl⟩ | exact ⟨11, rfl, rfl⟩ | exact ⟨12, rfl, rfl⟩ | exact ⟨13, rfl, rfl⟩ | exact ⟨14, rfl, rfl⟩ | exact ⟨15, rfl, rfl⟩ | exact ⟨16, rfl, rfl⟩ | assumption)
local macro_rules | `(tactic| fail "lkF") => `(tactic| first | assumption | exact fz_at 0 (by fail "nd") rfl rfl | exact fz_at 1 (by fail "nd") rfl rfl | exact fz_at 2 (by fail "nd") rfl rfl | exact fz_at 3 (by fail "nd") rfl rfl | exact fz_at 4 (by fail "nd") rfl rfl | exact fz_at 5 (by fail "nd") rfl rfl | exact fz_at 6 (by fail "nd") rfl rfl | exact fz_at 7 (by fail "nd") rfl rfl)
local macro_rules | `(tactic| fail "lkD") => `(tactic| first | assumption | exact dz_at 0 (by fail "nd") rfl rfl | exact dz_at 1 (by fail "nd") rfl rfl | exact dz_at 2 (by fail "nd") rfl rfl | exact dz_at 3 (by fail "nd") rfl rfl | exact dz_at 4 (by fail "nd") rfl rfl)
local macro_rules | `(tactic| fail "ptF") => `(tactic| first | assumption | exact fz_put 0 (by fail "nd") rfl (Nat.le_of_ble_eq_true rfl) | exact fz_put 1 (by fail "nd") rfl (Nat.le_of_ble_eq_true rfl) | exact fz_put 2 (by fail "nd") rfl (Nat.le_of_ble_eq_true rfl) | exact fz_put 3 (by fail "nd") rfl (Nat.le_of_ble_eq_true rfl) | exact fz_put 4 (by fail "nd") rfl (Nat.le_of_ble_eq_true rfl) | exact fz_put 5 (by fail "nd") rfl (Nat.le_of_ble_eq_true rfl) | exact fz_put 6 (by fail "nd") rfl (Nat.le_of_ble_eq_true rfl) | exact fz_put 7 (by fail "nd") rfl (Nat.le_of_ble_eq_true rfl) | exact fz_new (by decide +kernel) rfl)
local macro_rules | `(tactic| fail "ptD") => `(tactic| first | assumption | exact dz_put 0 (by fail "nd") rfl (Nat.le_of_ble_eq_true rfl) | exact dz_put 1 (by fail "nd") rfl (Nat.le_of_ble_eq_true rfl) | exact dz_put 2 (by fail "nd") rfl (Nat.le_of_ble_eq_true rfl) | exact dz_put 3 (by fail "nd") rfl (Nat.le_of_ble_eq_true rfl) | exact dz_put 4 (by fail "nd") rfl (Nat.le_of_ble_eq_true rfl))
local macro_rules | `(tactic| fail "sz") => `(tactic| first | assumption | exact (Nat.le_of_ble_eq_true rfl) | omega | decide)
local macro_rules | `(tactic| fail "sd") => `(tactic| first | rfl | assumption | decide | omega | (dsimp only; first | decide | omega) | exact .inr ⟨by decide, by decide⟩ | exact .inl ⟨by decide, by decide⟩ | exact ⟨by omega, by omega⟩ | exact .inl ⟨by omega, by omega⟩ | exact .inr ⟨by omega, by omega⟩ | exact ⟨by omega, by omega, by omega⟩)
local macro_rules | `(tactic| fail "cl") => `(tactic| (clear hH; dsimp only [List.set, List.cons_append, List.nil_append, List.append] at hL))
local macro_rules | `(tactic| fail "gn") => `(tactic| (intro p hp; generalize hH : upd H p _ = H; replace hL := Led.newH hL hp hH; clear hH hp))
local macro_rules | `(tactic| fail "gup") => `(tactic| (generalize hH : upd H _ _ = H; replace hL := Led.upU hL (by fail "up") hH; fail "cl"))
local macro_rules | `(tactic| fail "gmk") => `(tactic| (intro x dx hx hd ne; generalize hH : upd (upd H dx _) x _ = H; replace hL := Led.made hL hx hd ne hH; clear hH hx hd ne))
local macro_rules | `(tactic| fail "v") => `(tactic| refine ⟨_, rfl, ?_⟩)
local macro_rules | `(tactic| fail "i2") => `(tactic| refine ⟨_, _, rfl, rfl, ?_⟩)
local macro_rules | `(tactic| fail "go1") => `(tactic| first
  | refine ⟨_, rfl, ?_⟩
  | refine ⟨_, _, rfl, rfl, ?_⟩
  | refine ⟨_, _, rfl, ?_⟩
  | refine iteT ?_
  | refine iteF ?_
  | refine k_fld hL (by fail "ix") (by assumption) (by assumption) (by fail "lkF") ?_
  | refine k_dgetS hL (by fail "ix") (by fail "lkD") ?_
  | refine k_dgetI hL (by fail "ix") (by assumption) ?_
  | refine k_ixL hL (by fail "ix") (by first | rfl | assumption) ?_
  | refine k_ixT hL (by fail "ix") (by first | rfl | assumption) ?_
  | refine k_tyL hL (by fail "ix") ?_
  | refine k_isd hL (by fail "ix") ?_
  | (refine And.intro (by fail "sz") ?_; fail "gn")
  | refine And.intro (by fail "sd") ?_
  | fail "gn"
  | refine k_meth hL (by fail "ix") (by first | assumption | exact fz_no (by decide +kernel)) ?_
  | refine k_gtup hL (by fail "ix") rfl ?_
  | (refine k_popI hL (by fail "ix") (by assumption) ?_; fail "gup")
  | (refine k_listD hL (by fail "ix") ?_; fail "gn")
  | (refine ⟨_, _, _, _, rfl, rfl, hL.at (by fail "ix"), rfl, ?_⟩; fail "gup")
  | (refine ⟨_, _, _, rfl, rfl, hL.at (by fail "ix"), (by fail "sz"), ?_⟩; fail "gup")
  | (refine ⟨_, _, _, _, rfl, hL.at (by fail "ix"), by assumption, by assumption, Nat.lt_of_le_of_lt fz_len (by decide), ?_⟩; generalize hH : upd H _ _ = H; replace hL := Led.upF hL (by fail "up") (by fail "ptF") hH; fail "cl")
  | (refine ⟨_, _, hL.at (by fail "ix"), Nat.lt_of_le_of_lt fz_len (by decide), ?_⟩; generalize hH : upd H _ _ = H; replace hL := Led.upF hL (by fail "up") (by fail "ptF") hH; fail "cl")
  | (refine k_dputS hL (by fail "ix") (Nat.lt_of_le_of_lt dz_len (by decide)) (by fail "ptD") (by fail "up") ?_; clear hL; intro H hL; dsimp only [List.set, List.cons_append, List.nil_append, List.append] at hL)
  | refine k_lenL2 hL (by fail "ix") ?_
  | refine k_lenT2 hL (by fail "ix") ?_
  | refine .inl ⟨_, rfl, ?_⟩
  | refine .inr ⟨_, rfl, ?_⟩)
local macro_rules | `(tactic| fail "go") => `(tactic| repeat fail "go1")
local macro_rules | `(tactic| fail "pm") => `(tactic| (refine Led.le hL (fun a_ => ?_); simp only [cnt_nil, cnt_cons, cnt_app, List.map_append, List.map_cons, List.map_nil, List.flatMap_append, List.flatMap_cons, List.flatMap_nil, List.append_assoc, List.cons_append, List.nil_append]; omega))

def six : List Str := ["p", "q", "r", "s", "t", "u"]
theorem six_ok : ∀ n : Fin 7, (six.take n).Nodup ∧ (six.take n).length < 60 ∧ PyProof.Rows.sortedS (six.take n) = true := by decide +kernel
theorem six_cut {r : Int} (h0 : 0 ≤ r) (h1 : r < 5) : ∃ ns : List Str, NOk ns ∧ ns.length ≤ 6 ∧ 2 ≤ ns.length ∧ cutV (six.map V.str) none (some (2 + r)) = ns.map V.str := by
  obtain ⟨m, rfl⟩ : ∃ m : Nat, r = m := ⟨r.toNat, by omega⟩
  have hm : m < 5 := by omega
  obtain ⟨a1, a2, a3⟩ := six_ok ⟨2 + m, by omega⟩
  refine ⟨six.take (2 + m), ⟨a1, a2, a3⟩, ?_, ?_, ?_⟩
  · rw [List.length_take]; simp [six]; omega
  · rw [List.length_take]; simp [six]; omega
  · unfold cutV
    rw [show (some ((2 : Int) + m)) = some ((2 + m : Nat) : Int) by simp, HT.sIx_nat, HT.sIx_none]
    rw [List.map_take]
    rcases (by omega : m = 0 ∨ m = 1 ∨ m = 2 ∨ m = 3 ∨ m = 4) with rfl | rfl | rfl | rfl | rfl <;> rfl
def spLaw (K : PySem.W.Frag) (PL PN : Addr) : Sp := fun vs H Q _ => ∃ (a : Addr) (ns : List Int), vs = [.ref a] ∧ SqL K H a (ns.map V.int) ∧ ns.length ≤ 63 ∧ H PL = some (.tbl #[]) ∧ H PN = some (.tbl #[]) ∧ PL ≠ PN ∧ ∀ H', Q (.bl true) H'
section
variable {P : Program} {w : World} {K : PySem.W.Frag} {mg : Str → Option Value} {base : Heap} {CV CC CE PN : Addr} {f cL PL : Addr} {A : Around} {outer : List Env} {s0 : Shared} {H0 : Hp} {E : XK} {k0 : Nat}
structure TxtZ (mg : Str → Option Value) : Prop where
  range : mg "range" = none
  len : mg "len" = none
  int : mg "int" = none
theorem law_body (hr : Room 8 (LX P w K mg base f (.ref cL) A outer s0 H0 E).A) (T : TxtZ mg) (TE : ExcT K mg "MachineError" CE) (TB : LamX.TabB base mg cL PL) (c__law_roll : Cal P w K mg base 1 "_law_roll" spRoll []) (c__law_rounds : Cal P w K mg base 2 "_law_rounds" (spRounds K) [])
    (c_Crowd : Mak P w K mg base 3 "Crowd" CC (spCInit CC CV) []) (c__law_told : Cal P w K mg base 7 "_law_told" (spTold P w K mg base 6 CE "MachineError") [])
    (bV : PS (LX P w K mg base f (.ref cL) A outer s0 H0 E) (nth bodyB 2) tViews)
    (b1 : PSs (LX P w K mg base f (.ref cL) A outer s0 H0 E) blkTick (tBlk CC CV PN)) (b2 : PSs (LX P w K mg base f (.ref cL) A outer s0 H0 E) blkHear (tBlk CC CV PN)) (b3 : PSs (LX P w K mg base f (.ref cL) A outer s0 H0 E) blkForget (tBlk CC CV PN))
    (b4 : PS (LX P w K mg base f (.ref cL) A outer s0 H0 E) stCheck (tChk CC CV PN)) (p5 : PS (LX P w K mg base f (.ref cL) A outer s0 H0 E) (nth bodyB 5) (tP5 CC CV PN)) (p6 : PS (LX P w K mg base f (.ref cL) A outer s0 H0 E) (nth bodyB 6) (tP6 CC CV PN))
    (p7 : PS (LX P w K mg base f (.ref cL) A outer s0 H0 E) (nth bodyB 7) (tP7 CC CV PN)) (p8 : PS (LX P w K mg base f (.ref cL) A outer s0 H0 E) (nth bodyB 8) (tP8 CC CV PN)) (p9 : PS (LX P w K mg base f (.ref cL) A outer s0 H0 E) (nth bodyB 9) (tP9 CC CV PN))
    (l1 : ∀ (f c' : Addr) (q : Str), LOk P w K mg base 6 f ⟨"<lambda>", q, lamArgs (lamAt 0), [], lamScope (lamAt 0), [], c'⟩ (lamBody (lamAt 0)) (tlR CE))
    (l2 : ∀ (f c' : Addr) (q : Str), LOk P w K mg base 6 f ⟨"<lambda>", q, lamArgs (lamAt 1), [], lamScope (lamAt 1), [], c'⟩ (lamBody (lamAt 1)) (tlR CE))
    (l3 : ∀ (f c' : Addr) (q : Str), LOk P w K mg base 6 f ⟨"<lambda>", q, lamArgs (lamAt 2), [], lamScope (lamAt 2), [], c'⟩ (lamBody (lamAt 2)) (tlR CE))
    {vs : List V} {H : Hp} {Q : VK} (h : spLaw K PL PN vs H Q E) : ∃ t, PSs (LX P w K mg base f (.ref cL) A outer s0 H0 E) (defBody sLaw) t ∧ t { nx := fun _ H' => Q .non H', rt := Q } (L2.start NL vs) H := by
  obtain ⟨a, ns0, rfl, hS, hlen, hP, hPN, hne, k⟩ := h
  refine ⟨_, (pss_cons (ps_for PassesOwn.never rfl (pi_list (pe_c c__law_rounds hr (by decide) (by rfl) (pa_cons (pv 0) (pa_cons pe_int pa_nil)))) (pg_name (i := 1) scLaw.nd rfl (Or.inr rfl))
  (pss_cons (ps_set (i := 2) scLaw.nd rfl (Or.inr rfl) (pe_slice sl_list (pe_lst (pa_cons pe_str (pa_cons pe_str (pa_cons pe_str (pa_cons pe_str (pa_cons pe_str (pa_cons pe_str pa_nil))))))) po_none (po_some (pe_op op_add pe_int (pe_c c__law_roll hr (by decide) (by rfl) (pa_cons (pv 1) (pa_cons pe_int pa_nil)))))))
  (pss_cons (ps_set (i := 3) scLaw.nd rfl (Or.inl rfl) (pe_mk c_Crowd hr (by decide) (by rfl) (pa_cons (pv 2) (pa_cons (pe_c c__law_roll hr (by decide) (by rfl) (pa_cons (pv 1) (pa_cons pe_int pa_nil))) pa_nil))))
  (pss_cons bV
  (pss_cons (ps_for PassesOwn.never rfl (pi_range1 (by rfl) T.range (pa_cons (pe_c c__law_roll hr (by decide) (by rfl) (pa_cons (pv 1) (pa_cons pe_int pa_nil))) pa_nil)) (pg_name (i := 7) scLaw.nd rfl (Or.inl rfl))
  (pss_cons (ps_asg (pe_tup (pa_cons (pe_c c__law_roll hr (by decide) (by rfl) (pa_cons (pv 1) (pa_cons pe_int pa_nil))) (pa_cons (pe_ix ix_list (pv 2) (pe_c c__law_roll hr (by decide) (by rfl) (pa_cons (pv 1) (pa_cons (pe_callB call_len_seq (by rfl) T.len (by decide +kernel) (pa_cons (pv 2) pa_nil)) pa_nil))) (fun _ _ => rfl)) (pa_cons (pe_ix ix_list (pv 2) (pe_c c__law_roll hr (by decide) (by rfl) (pa_cons (pv 1) (pa_cons (pe_callB call_len_seq (by rfl) T.len (by decide +kernel) (pa_cons (pv 2) pa_nil)) pa_nil))) (fun _ _ => rfl)) pa_nil)))) (pg_tup (by rfl) (pgs_cons (pg_name (i := 8) scLaw.nd rfl (Or.inl rfl)) (pgs_cons (pg_name (i := 5) scLaw.nd rfl (Or.inr rfl)) (pgs_cons (pg_name (i := 9) scLaw.nd rfl (Or.inl rfl)) pgs_nil)))))
  (C8.pss_cut (ps_if (pt_cmpR op_lt (pv 8) pe_int (nomark _))
  b1
  (pss_one (ps_if (pt_cmpR op_lt (pv 8) pe_int (nomark _))
  b2
  b3)))
  (pss_one b4))))
  (pss_cons (ps_asg (pe_tup (pa_cons (pe_mk c_Crowd hr (by decide) (by rfl) (pa_cons (pv 2) (pa_cons (pe_c c__law_roll hr (by decide) (by rfl) (pa_cons (pv 1) (pa_cons pe_int pa_nil))) pa_nil))) (pa_cons (pe_lc (own := [("name", 6)]) (g := gName 6) (by rfl) scLaw.nd (pi_list (pv 2)) (blkOk_by (own := [("name", 6)]) (N := ["script", "dice", "names", "crowd", "views", "one", "name", "step", "sort", "other", "turn", "view", "rows", "gone", "due", "forgotten", "here", "down", "up", "seen"]) (sc := (defScope sLaw)) (by decide +kernel)) (fun _ _ _ _ _ => (pg_name (i := 6) scLaw.nd rfl (Or.inl rfl))) (fun _ _ _ _ _ => (pts_one (pt_cmpR op_eq (pe_c c__law_roll hr (by decide) (by rfl) (pa_cons (pv 1) (pa_cons pe_int pa_nil))) pe_int (nomark _)))) (fun _ _ _ _ _ => (pv 6))) pa_nil))) (pg_tup (by rfl) (pgs_cons (pg_name (i := 3) scLaw.nd rfl (Or.inl rfl)) (pgs_cons (pg_name (i := 17) scLaw.nd rfl (Or.inr rfl)) pgs_nil))))
  (pss_cons p5
  (pss_cons p6
  (pss_cons p7
  (pss_cons p8
  (pss_one p9)))))))))))
  (C8.pss_cut (ps_if (PW.pt (pw_or (pt_cmpR op_ne (pe_c c__law_told hr (by decide) (by rfl) (pa_cons (pe_lamv TB rfl rfl rfl (by decide +kernel)) pa_nil)) pe_str (nomark _)) (pw_or1 (pt_cmpR op_ne (pe_c c__law_told hr (by decide) (by rfl) (pa_cons (pe_lamv TB rfl rfl rfl (by decide +kernel)) pa_nil)) pe_str (nomark _)))))
  (pss_one (ps_ret pe_bl))
  pss_nil)
  (pss_one (ps_ret (pe_cmpR op_eq (pe_c c__law_told hr (by decide) (by rfl) (pa_cons (pe_lamv TB rfl rfl rfl (by decide +kernel)) pa_nil)) pe_str (nomark _)))))), ?_⟩
  have hL : Led H [(PL, .tbl #[]), (PN, .tbl #[])] := ⟨fun x hx => by
    rcases List.mem_cons.mp hx with e | hx
    · rw [e]; exact hP
    · rw [List.mem_singleton.mp hx]; exact hPN, by simp [hne]⟩
  fail "go"
  refine ⟨a, ns0, _, rfl, hS, hL, fun pr d x y z H hL => ?_⟩
  fail "go"
  refine ⟨⟨_, .of (hL.at ⟨0, rfl⟩)⟩, for_listA (K := K) (a := pr) (xs := [.ref d]) (fun i σ H => Hold ((i = 0 ∧ σ = L2.start NL [.ref a] ∧ Led H ((pr, .lst [.ref d]) :: (d, dD x y z) :: [(PL, .tbl #[]), (PN, .tbl #[])])) ∨
    (i = 1 ∧ (∃ v1 v2 v3 v4 v5 v6 v7 v8 v9 v10 v11 v12 v13 v14 v15 v16 v17 v18 v19 : Option V, σ = [some (.ref a), v1, v2, v3, v4, v5, v6, v7, v8, v9, v10, v11, v12, v13, v14, v15, v16, v17, v18, v19]) ∧ Led H ((pr, .lst [.ref d]) :: [(PL, .tbl #[])])))) ?_ ?_ ?_ ?_⟩
  · exact .mk (.inl ⟨rfl, rfl, hL⟩)
  · intro i σ H _ h
    rcases h.out with ⟨_, _, hL⟩ | ⟨_, _, hL⟩
    · exact .of (hL.at ⟨0, rfl⟩)
    · exact .of (hL.at ⟨0, rfl⟩)
  · clear hL
    intro i y0 σ H D' hy h hD'
    rcases h.out with ⟨rfl, rfl, hL⟩ | ⟨rfl, _⟩
    · obtain rfl : V.ref d = y0 := Option.some.inj hy
      clear h hy
      fail "go"
      refine ⟨d, x, y, z, 5, [(p, .lst (six.map V.str)), (pr, .lst [.ref d]), (PL, .tbl #[]), (PN, .tbl #[])], rfl, ?_, by decide, by decide, fun r x y z H hr0 hr1 hL => ?_⟩
      · dsimp only [six, List.map_cons, List.map_nil]
        fail "pm"
      obtain ⟨ns, ok, hz6, hz2, hcut⟩ := six_cut hr0 hr1
      replace hL := hL.perm (List.Perm.swap _ _ _)
      fail "go"
      refine ⟨p, _, rfl, .of (hL.at ⟨0, rfl⟩), ?_⟩
      rw [hcut]
      intro na hna
      generalize hH : upd H na _ = H
      replace hL := Led.newH hL hna hH
      clear hH hna hcut
      fail "go"
      refine ⟨d, x, y, z, 1000, [(na, .lst (ns.map V.str)), (pr, .lst [.ref d]), (PL, .tbl #[]), (PN, .tbl #[])], rfl, ?_, by decide, by decide, fun r2 x y z H hr20 hr21 hL => ?_⟩
      · fail "pm"
      fail "go"
      intro cr dc hcr hdc ne
      generalize hH : upd (upd H dc _) cr _ = H
      replace hL := Led.made hL hcr hdc ne hH
      clear hH hcr hdc ne
      refine ⟨cr, dc, na, ns, r2, _, rfl, hL, .tail _ (.head _), ok.nd, ok.z, ok.s, fun ws vd dd H ews hL => ⟨rfl, ?_⟩⟩
      fail "go"
      refine ⟨a, d, na, cr, _, _, _, _, _, _, _, _, _, _, _, _, _, _, _, _, ns, _, rfl, ok, hL, List.mem_append_right _ (.tail _ (.head _)), fun wd os H eos hL => ?_⟩
      fail "go"
      obtain ⟨F, hF⟩ : ∃ F : Fx, F = ⟨a, d, na, cr, dc, vd, dd, wd, r2, ns⟩ := ⟨_, rfl⟩
      replace hL : Led H ((d, dD x y z) :: (na, .lst (ns.map V.str)) :: CoreL CC CV PN F #[] ws os [(pr, .lst [.ref d]), (PL, .tbl #[])]) := by
        rw [hF]
        (refine Led.le hL (fun a_ => ?_); simp only [cnt_nil, cnt_cons, cnt_app, List.map_append, List.map_cons, List.map_nil, List.flatMap_append, List.flatMap_cons, List.flatMap_nil, List.append_assoc, List.cons_append, List.nil_append, CoreL, CrL]; omega)
      refine ⟨d, x, y, z, 61, _, rfl, hL, by decide, by decide, fun r3 x y z H hr30 hr31 hL => ?_⟩
      fail "go"
      have J0 : JI F.ns ws os := by
        rw [hF]
        refine ⟨?_, ok, ews.trans eos.symm, fun k p hk => ?_⟩
        · rw [← pls_names, ews]; simp [Function.comp_def]
        · rw [ews] at hk
          have hkn : k ∈ ns := by
            have := aget_some hk
            simpa using this
          rw [aget_const hkn] at hk
          cases hk
          refine ⟨?_, List.nodup_nil, fun j hj => ?_, (fun j hj => nomatch hj), ?_⟩
          · simpa [initP, Function.comp_def] using ok.nd
          · simpa [initP, Function.comp_def] using hj
          · simpa [initP, Function.comp_def] using hkn
      refine for_rangeA (fun i σ H => Hold (∃ x y z : Int, Okk CC CV PN F ((d, dD x y z) :: (na, .lst (ns.map V.str)) :: [(pr, .lst [.ref d]), (PL, .tbl #[])]) σ H)) (.mk ⟨x, y, z, #[], ws, os, ?_, J0, trivial, ?_⟩) (fun i σ H D2 hi h hD2 => ?_) (fun σ H h => ?_)
      · rw [hF]; exact ⟨_, _, _, _, _, _, _, _, _, _, _, _, _, _, _, rfl⟩
      · (refine Led.le hL (fun a_ => ?_); simp only [cnt_nil, cnt_cons, cnt_app, List.map_append, List.map_cons, List.map_nil, List.flatMap_append, List.flatMap_cons, List.flatMap_nil, List.append_assoc, List.cons_append, List.nil_append, CoreL]; omega)
      · clear hL J0 ews eos
        obtain ⟨x, y, z, ps, ws, os, ⟨v5, v6, v7, v8, v9, v10, v11, v12, v13, v14, v15, v16, v17, v18, v19, rfl⟩, J, ht, hL⟩ := h.out
        clear h
        replace hL : Led H ((d, dD x y z) :: (na, .lst (ns.map V.str)) :: CoreL CC CV PN F ps ws os [(pr, .lst [.ref d]), (PL, .tbl #[])]) := by
          (refine Led.le hL (fun a_ => ?_); simp only [cnt_nil, cnt_cons, cnt_app, List.map_append, List.map_cons, List.map_nil, List.flatMap_append, List.flatMap_cons, List.flatMap_nil, List.append_assoc, List.cons_append, List.nil_append, CoreL]; omega)
        have eF : F.a = a ∧ F.d = d ∧ F.na = na ∧ F.cr = cr ∧ F.wd = wd ∧ F.ns = ns := by rw [hF]; exact ⟨rfl, rfl, rfl, rfl, rfl, rfl⟩
        obtain ⟨e1, e2, e3, e4, e5, e6⟩ := eF
        rw [e6] at J
        unfold sg
        rw [e1, e2, e3, e4, e5]
        fail "go"
        refine ⟨d, x, y, z, 6, _, rfl, hL, by decide, by decide, fun so x y z H hs0 hs1 hL => ?_⟩
        fail "go"
        have hlen2 : ((ns.map V.str).length : Int) ≤ 6 ∧ 2 ≤ ((ns.map V.str).length : Int) := by rw [List.length_map]; omega
        refine ⟨d, x, y, z, _, _, rfl, hL, by omega, by omega, fun q1 x y z H hq10 hq11 hL => ?_⟩
        have hat : ∀ q : Int, 0 ≤ q → q < ((ns.map V.str).length : Int) → ∃ nm ∈ ns, atI (ns.map V.str) q = some (.str nm) := fun q h0 h1 => by
          obtain ⟨m, rfl⟩ : ∃ m : Nat, q = m := ⟨q.toNat, by omega⟩
          rw [List.length_map] at h1
          have hm : m < ns.length := by omega
          exact ⟨ns[m], List.getElem_mem hm, atI_nat (by rw [List.getElem?_map, List.getElem?_eq_getElem hm]; rfl)⟩
        obtain ⟨one, ho1, ho2⟩ := hat q1 hq10 hq11
        refine k_ixL hL (by fail "ix") ho2 ?_
        fail "go"
        refine ⟨d, x, y, z, _, _, rfl, hL, by omega, by omega, fun q2 x y z H hq20 hq21 hL => ?_⟩
        obtain ⟨other, hp1, hp2⟩ := hat q2 hq20 hq21
        refine k_ixL hL (by fail "ix") hp2 ?_
        fail "go"
        replace hL : Led H (CoreL CC CV PN F ps ws os ((d, dD x y z) :: (na, .lst (ns.map V.str)) :: [(pr, .lst [.ref d]), (PL, .tbl #[])])) := by
          (refine Led.le hL (fun a_ => ?_); simp only [cnt_nil, cnt_cons, cnt_app, List.map_append, List.map_cons, List.map_nil, List.flatMap_append, List.flatMap_cons, List.flatMap_nil, List.append_assoc, List.cons_append, List.nil_append, CoreL]; omega)
        subst hF
        refine ⟨fun σ H => Hold (∃ x y z : Int, Okk CC CV PN ⟨a, d, na, cr, dc, vd, dd, wd, r2, ns⟩ ((d, dD x y z) :: (na, .lst (ns.map V.str)) :: [(pr, .lst [.ref d]), (PL, .tbl #[])]) σ H), ?_, fun σ H h => ?_⟩
        · fail "go"
          refine ite_d (fun q => ?_) (fun q => ?_)
          · exact ⟨⟨a, d, na, cr, dc, vd, dd, wd, r2, ns⟩, _, ps, ws, os, so, one, other, _, _, _, _, _, _, _, _, _, _, _, _, rfl, ho1, hp1, J, ht, hL, fun σ' H' h => .mk ⟨x, y, z, h⟩⟩
          · fail "go"
            refine ite_d (fun q => ?_) (fun q => ?_)
            · exact ⟨⟨a, d, na, cr, dc, vd, dd, wd, r2, ns⟩, _, ps, ws, os, so, one, other, _, _, _, _, _, _, _, _, _, _, _, _, rfl, ho1, hp1, J, ht, hL, fun σ' H' h => .mk ⟨x, y, z, h⟩⟩
            · exact ⟨⟨a, d, na, cr, dc, vd, dd, wd, r2, ns⟩, _, ps, ws, os, so, one, other, _, _, _, _, _, _, _, _, _, _, _, _, rfl, ho1, hp1, J, ht, hL, fun σ' H' h => .mk ⟨x, y, z, h⟩⟩
        · obtain ⟨x, y, z, ps, ws, os, sh, J, ht, hL⟩ := h.out
          exact ⟨⟨a, d, na, cr, dc, vd, dd, wd, r2, ns⟩, _, ps, ws, os, sh, J, ht, .tail _ (.head _), hL, fun σ' H' h => hD2.nx _ _ (.mk ⟨x, y, z, h⟩)⟩
      · clear hL J0 ews eos
        obtain ⟨x, y, z, ps, ws, os, ⟨v5, v6, v7, v8, v9, v10, v11, v12, v13, v14, v15, v16, v17, v18, v19, rfl⟩, J, ht, hL⟩ := h.out
        clear h
        subst hF
        replace hL : Led H [(d, dD x y z), (na, .lst (ns.map V.str)), (pr, .lst [.ref d]), (PL, .tbl #[]), (PN, .tbl ps)] := by
          (refine Led.le hL (fun a_ => ?_); simp only [cnt_nil, cnt_cons, cnt_app, List.map_append, List.map_cons, List.map_nil, List.flatMap_append, List.flatMap_cons, List.flatMap_nil, List.append_assoc, List.cons_append, List.nil_append, CoreL]; omega)
        dsimp only [sg]
        fail "go"
        refine ⟨d, x, y, z, 1000, _, rfl, hL, by decide, by decide, fun t0 x y z H _ _ hL => ?_⟩
        fail "go"
        intro cr dc hcr hdc ne
        generalize hH : upd (upd H dc _) cr _ = H
        replace hL := Led.made hL hcr hdc ne hH
        clear hH hcr hdc ne
        refine ⟨cr, dc, na, ns, t0, _, rfl, hL, .tail _ (.head _), ok.nd, ok.z, ok.s, fun ws vd dd H ews hL => ⟨rfl, ?_⟩⟩
        fail "go"
        refine ⟨⟨_, .of (hL.at (at_mem (List.mem_append_right _ (.tail _ (.head _)))))⟩, fun D1 hD1 => lc_list (K := K) (a := na) (xs := ns.map V.str) (fun i H => Hold (∃ (dl : List Str) (x y z : Int), dl.Sublist (ns.take i) ∧ Led H ((D1, .lst (dl.map V.str)) :: (d, dD x y z) :: (CrL CC CV cr dc vd dd ws [] t0 ++ [(na, .lst (ns.map V.str)), (pr, .lst [.ref d]), (PL, .tbl #[]), (PN, .tbl ps)])))) (.mk ⟨[], x, y, z, .refl _, ?_⟩) (fun i H _ h => ?_) (fun i x H hi h => ?_) (fun H h => ?_)⟩
        · replace hL := hL.new (o := .lst []) hD1
          fail "pm"
        · obtain ⟨dl, x, y, z, hs, hL⟩ := h.out
          exact .of (hL.at (at_mem (.tail _ (.tail _ (List.mem_append_right _ (.head _))))))
        · clear hL
          obtain ⟨dl, x, y, z, hs, hL⟩ := h.out
          clear h
          rw [List.getElem?_map] at hi
          obtain ⟨nm, hn, rfl⟩ := Option.map_eq_some_iff.mp hi
          have hil := (List.getElem?_eq_some_iff.mp hn).1
          have htk : ns.take (i + 1) = ns.take i ++ [nm] := by rw [List.take_add_one, hn]; rfl
          refine ⟨rfl, ?_⟩
          fail "go"
          refine ⟨d, x, y, z, 3, _, rfl, hL.perm (List.Perm.swap _ _ _), by decide, by decide, fun r x y z H _ _ hL => ?_⟩
          replace hL := hL.perm (List.Perm.swap _ _ _)
          fail "go"
          refine ite_d (fun q => ?_) (fun q => ?_)
          · refine ⟨_, rfl, _, hL.at ⟨0, rfl⟩, ?_, .mk ⟨dl ++ [nm], x, y, z, ?_, ?_⟩⟩
            · rw [List.length_map]
              have := hs.length_le
              rw [List.length_take] at this
              exact small60 (by have := ok.z; omega)
            · rw [htk]; exact hs.append (.refl _)
            · rw [List.map_append]
              exact hL.set 0 rfl
          · refine .mk ⟨dl, x, y, z, ?_, hL⟩
            rw [htk]; exact hs.trans (List.sublist_append_left _ _)
        · clear hL
          obtain ⟨dl, x, y, z, hs, hL⟩ := h.out
          clear h
          rw [List.length_map, List.take_length] at hs
          fail "go"
          obtain ⟨G, hG⟩ : ∃ G : Gx2, G = ⟨a, d, na, cr, dc, vd, dd, D1, ns, dl, t0⟩ := ⟨_, rfl⟩
          have hR : ∃ R : Lg, (na, HO.lst (ns.map V.str)) ∈ R ∧ (pr, HO.lst [.ref d]) ∈ R ∧ R = [(na, .lst (ns.map V.str)), (pr, .lst [.ref d]), (PL, .tbl #[])] := ⟨_, .head _, .tail _ (.head _), rfl⟩
          obtain ⟨R, hnaR, _, eR⟩ := hR
          replace hL : Led H (L2L CC CV PN G ps ws [] G.t0 R) := by
            rw [hG, eR]
            (refine Led.le hL (fun a_ => ?_); simp only [cnt_nil, cnt_cons, cnt_app, List.map_append, List.map_cons, List.map_nil, List.flatMap_append, List.flatMap_cons, List.flatMap_nil, List.append_assoc, List.cons_append, List.nil_append, L2L, CrL]; omega)
          have wnm : ws.map (·.1) = ns := by rw [← pls_names, ews]; simp [Function.comp_def]
          have gok : GOk G ws := by
            rw [hG]
            refine ⟨⟨wnm, ok, fun k d hk => ?_⟩, ok.nd.sublist hs, fun k hk => hs.subset hk⟩
            have hkn : k ∈ ns := by rw [← wnm]; exact aget_some hk
            have h1 : aget (plsOf ws) k = some d.s.pl := by rw [pls_get, hk]; rfl
            rw [ews, aget_const hkn] at h1
            have h1 := Option.some.inj h1
            refine ⟨?_, (congrArg Pl.gone h1).symm⟩
            rw [← pl_names, ← h1]
            simp [initP, Function.comp_def]
          refine ⟨G, v18, R, ps, ws, ?_, gok, hL, fun σ H sh hL => ?_⟩
          · rw [hG]; exact ⟨_, _, _, _, _, _, _, _, _, _, _, _, _, _, rfl⟩
          refine ⟨G, _, R, ps, ws, sh, gok, ht, hL, fun ws2 ps2 σ H sh2 gok2 ht2 e2 hL => ?_⟩
          have hG2 : G.ns = ns ∧ G.na = na ∧ G.t0 = t0 := by rw [hG]; exact ⟨rfl, rfl, rfl⟩
          have hnaG : (G.na, HO.lst (G.ns.map V.str)) ∈ R := by rw [hG2.1, hG2.2.1]; exact hnaR
          have hRI : RI G.ns G.dl G.t0 120 (plsOf ws2) := by
            rw [e2]
            exact rounds_RI gok.w.ok.nd (by rw [hG2.1]; exact ews) 120
          refine ⟨G, v18, R, ps2, ws2, G.t0 + 120, sh2, gok2, hnaG, hL, fun ul σ H sh3 hL => ?_⟩
          refine ⟨G, ul, R, ps2, ws2, G.t0 + 120, sh3, gok2, by rw [hG2.1]; exact hz6, by rw [hG2.1]; exact hz2, hnaG, hRI, hL, fun σ H sh4 hL => ?_⟩
          refine ⟨G, some (.ref ul), (ul, .lst ((upOf G.ns G.dl).map V.str)) :: R, ps2, ws2, G.t0 + 120, sh4, gok2, ht2, fun k hk => ?_, ?_, fun σ H sh5 hL => ?_⟩
          · obtain ⟨M, g, _⟩ := hRI.ex
            rw [g.dn k (gok.sub k hk) hk]; rfl
          · unfold L2L at hL ⊢
            fail "pm"
          · have hGa : G.a = a := by rw [hG]
            rw [hGa] at sh5
            refine hD'.nx _ _ (.mk (.inr ⟨rfl, sh5, ?_⟩))
            rw [eR] at hL
            fail "pm"
    · cases hy
  · intro σ H h
    rcases h.out with ⟨q, _⟩ | ⟨_, ⟨v1, v2, v3, v4, v5, v6, v7, v8, v9, v10, v11, v12, v13, v14, v15, v16, v17, v18, v19, rfl⟩, hL⟩
    · cases q
    · clear h
      have hT := TabS.nil (q := Str.ofString "law.<locals>.<lambda>") (hL.at ⟨1, rfl⟩)
      refine ⟨fun σ H => Hold (σ = [some (.ref a), v1, v2, v3, v4, v5, v6, v7, v8, v9, v10, v11, v12, v13, v14, v15, v16, v17, v18, v19] ∧ TabS H PL "law.<locals>.<lambda>"), ?_, fun σ H h => ?_⟩
      · refine rd_told TE hT (fun f c' => l1 f c' _) fun H hT => ?_
        refine ⟨rfl, _, rfl, iteF ?_⟩
        refine rd_told TE hT (fun f c' => l2 f c' _) fun H hT => ?_
        fail "go"
        exact .mk ⟨rfl, hT⟩
      · obtain ⟨rfl, hT⟩ := h.out
        refine rd_told TE hT (fun f c' => l3 f c' _) fun H hT => ?_
        fail "go"
        exact k _
end
end Sd


set_option linter.unusedVariables false
namespace Sd
open PySem PySem.Spec PyProof.Rows L2
open C8 (Cal Met Mak)
/-! ### the head -/
def dfs1 : He.DefD := ⟨("View", some "__init__"), "__init__", "View.__init__", defArgs sVInit, defBody sVInit, defScope sVInit, [], []⟩
def dfs2 : He.DefD := ⟨("View", some "tick"), "tick", "View.tick", defArgs sTick, defBody sTick, defScope sTick, [], []⟩
def dfs3 : He.DefD := ⟨("View", some "news"), "news", "View.news", defArgs sNews, defBody sNews, defScope sNews, [], []⟩
def dfs4 : He.DefD := ⟨("View", some "hear"), "hear", "View.hear", defArgs sHear, defBody sHear, defScope sHear, [], []⟩
def dfs5 : He.DefD := ⟨("View", some "state_of"), "state_of", "View.state_of", defArgs sState, defBody sState, defScope sState, [], []⟩
def dfs6 : He.DefD := ⟨("View", some "names_in"), "names_in", "View.names_in", defArgs sNamesIn, defBody sNamesIn, defScope sNamesIn, [], []⟩
def dfs7 : He.DefD := ⟨("View", some "forget_dead"), "forget_dead", "View.forget_dead", defArgs sForget, defBody sForget, defScope sForget, [], []⟩
def dfs8 : He.DefD := ⟨("Crowd", some "__init__"), "__init__", "Crowd.__init__", defArgs sCInit, defBody sCInit, defScope sCInit, [.int 1], []⟩
def dfs9 : He.DefD := ⟨("Crowd", some "partner"), "partner", "Crowd.partner", defArgs sPartner, defBody sPartner, defScope sPartner, [], []⟩
def dfs10 : He.DefD := ⟨("Crowd", some "tell_round"), "tell_round", "Crowd.tell_round", defArgs sRound, defBody sRound, defScope sRound, [], []⟩
def dfs11 : He.DefD := ⟨("Crowd", some "set_down"), "set_down", "Crowd.set_down", defArgs sDown, defBody sDown, defScope sDown, [], []⟩
def dfs12 : He.DefD := ⟨("Crowd", some "agree_on"), "agree_on", "Crowd.agree_on", defArgs sAgree, defBody sAgree, defScope sAgree, [], []⟩
def dfs13 : He.DefD := ⟨("_law_dice", none), "_law_dice", "_law_dice", defArgs sDice, defBody sDice, defScope sDice, [], []⟩
def dfs14 : He.DefD := ⟨("_law_roll", none), "_law_roll", "_law_roll", defArgs sRoll, defBody sRoll, defScope sRoll, [], []⟩
def dfs15 : He.DefD := ⟨("_law_rounds", none), "_law_rounds", "_law_rounds", defArgs sRounds, defBody sRounds, defScope sRounds, [], []⟩
def dfs16 : He.DefD := ⟨("_law_told", none), "_law_told", "_law_told", defArgs sTold, defBody sTold, defScope sTold, [], []⟩
def dfs17 : He.DefD := ⟨("_law_state", none), "_law_state", "_law_state", defArgs sLState, defBody sLState, defScope sLState, [], []⟩
def dfs18 : He.DefD := ⟨("_law_hear", none), "_law_hear", "_law_hear", defArgs sLHear, defBody sLHear, defScope sLHear, [], []⟩
def dfs19 : He.DefD := ⟨("_law_news", none), "_law_news", "_law_news", defArgs sLNews, defBody sLNews, defScope sLNews, [], []⟩
def dfs20 : He.DefD := ⟨("law", none), "law", "law", defArgs sLaw, defBody sLaw, defScope sLaw, [], []⟩
def hfn : List He.DefD := [dfs1, dfs2, dfs3, dfs4, dfs5, dfs6, dfs7, dfs8, dfs9, dfs10, dfs11, dfs12, dfs13, dfs14, dfs15, dfs16, dfs17, dfs18, dfs19, dfs20]
def hfa : List He.Fa := [
  .glo "View",
  .cls "View",
  .noat "View" "name",
  .noat "View" "time",
  .noat "View" "rows",
  .noat "View" "gone",
  .mkr "View",
  .meth "View" "tick",
  .meth "View" "news",
  .meth "View" "hear",
  .meth "View" "state_of",
  .meth "View" "names_in",
  .meth "View" "forget_dead",
  .glo "Crowd",
  .cls "Crowd",
  .noat "Crowd" "views",
  .noat "Crowd" "down",
  .noat "Crowd" "turn",
  .mkr "Crowd",
  .meth "Crowd" "partner",
  .meth "Crowd" "tell_round",
  .meth "Crowd" "set_down",
  .meth "Crowd" "agree_on",
  .glo "_law_dice",
  .glo "_law_roll",
  .glo "_law_rounds",
  .glo "_law_told",
  .glo "_law_state",
  .glo "_law_hear",
  .glo "_law_news",
  .glo "law",
  .glo "MachineError",
  .exc "MachineError",
  .free "abs",
  .free "int",
  .free "list",
  .free "sorted",
  .free "tuple",
  .free "range",
  .free "len",
  .free "dict",
  .int "SUSPECT" 6,
  .int "DEAD" 15]
def htf : List He.Defn := [("law", none), ("View", some "news")]
def hex (K : PySem.W.Frag) : Bool := (PySem.W.isClsIn K (He.ga K "MachineError") && (decide (PySem.W.subIn K (.ref (He.ga K "MachineError")) (.ref (He.ga K "MachineError")) = some true) && (decide ((He.cT K ("law", none)).2 ≠ (He.cT K ("View", some "news")).2) && true)))
abbrev HR : PySem.W.OpenRow := PySem.W.OpenLaw.row PySem.Challenge.rw_shardstack_k08_who_hears_of_whom
abbrev hk : PySem.W.Hook := He.hookX 7 hfa hfn [] htf hex
def hob (s : PySem.W.SharedT) : He.AlX := He.obsX 7 hfa hfn [] htf hex (HandSHeadRun.getT s)
theorem hob_eq (s : PySem.W.SharedT) : hob s = hk.obs s.abs := He.obsX_eq (HandSHeadRun.getT_eq s)
def hloose : List Str := ["ShardError", "MachineError", "SUSPECT", "DEAD", "View", "Crowd", "_law_dice", "_law_roll", "_law_rounds", "_law_told", "_law_state", "_law_hear", "_law_news"]
theorem hrun (w : World) : HandSHeadRun.RunEq HR (PySem.W.view HR.prog [16]) hk hob 8000 hloose w := by
  intro os
  kernel_rfl
theorem exB {K : PySem.W.Frag} (h : hex K = true) : (PySem.W.isClsIn K (He.ga K "MachineError") = true) ∧ ((PySem.W.subIn K (.ref (He.ga K "MachineError")) (.ref (He.ga K "MachineError")) = some true)) ∧ (((He.cT K ("law", none)).2 ≠ (He.cT K ("View", some "news")).2)) ∧ True := by
  unfold hex at h
  simp only [Bool.and_eq_true, decide_eq_true_eq] at h
  simpa [and_assoc] using h
theorem all_mk {l : PySem.W.OpenLaw} {w : World} {K : PySem.W.Frag} {h : Heap} {mg : Str → Option Value} {fa : Addr} (X : K.In h) (G : h.Ns mainGlobals mg) (hfa0 : mg "law" = some (.ref fa)) (c : He.SaysX hfa hfn [] htf hex w h K) : LamX.LawAtS l w K CX0 9 63 "script" mg fa h := by
  have exs := exB c.more
  have gl20 : mg "law" = some (.ref (He.fAd K ("law", none))) := He.glo_ok X G (c.t.d.fact 30 (f := .glo "law") rfl)
  have gl_View : mg "View" = some (.ref (He.ga K "View")) := He.glo_ok X G (c.t.d.fact 0 (f := .glo "View") rfl)
  have cl_View : Cls K (He.ga K "View") := He.cls_ok (c.t.d.fact 1 (f := .cls "View") rfl)
  have no_View_name : NoAttr K (He.ga K "View") "name" := He.noat_ok (c.t.d.fact 2 (f := .noat "View" "name") rfl)
  have no_View_time : NoAttr K (He.ga K "View") "time" := He.noat_ok (c.t.d.fact 3 (f := .noat "View" "time") rfl)
  have no_View_rows : NoAttr K (He.ga K "View") "rows" := He.noat_ok (c.t.d.fact 4 (f := .noat "View" "rows") rfl)
  have no_View_gone : NoAttr K (He.ga K "View") "gone" := He.noat_ok (c.t.d.fact 5 (f := .noat "View" "gone") rfl)
  have mk_View : Mk K (He.ga K "View") (He.fAd K ("View", some "__init__")) := He.mkr_ok (c.t.d.fact 6 (f := .mkr "View") rfl)
  have me2 : Meth K (He.ga K "View") "tick" (He.fAd K ("View", some "tick")) := He.meth_ok (c.t.d.fact 7 (f := .meth "View" "tick") rfl)
  have me3 : Meth K (He.ga K "View") "news" (He.fAd K ("View", some "news")) := He.meth_ok (c.t.d.fact 8 (f := .meth "View" "news") rfl)
  have me4 : Meth K (He.ga K "View") "hear" (He.fAd K ("View", some "hear")) := He.meth_ok (c.t.d.fact 9 (f := .meth "View" "hear") rfl)
  have me5 : Meth K (He.ga K "View") "state_of" (He.fAd K ("View", some "state_of")) := He.meth_ok (c.t.d.fact 10 (f := .meth "View" "state_of") rfl)
  have me6 : Meth K (He.ga K "View") "names_in" (He.fAd K ("View", some "names_in")) := He.meth_ok (c.t.d.fact 11 (f := .meth "View" "names_in") rfl)
  have me7 : Meth K (He.ga K "View") "forget_dead" (He.fAd K ("View", some "forget_dead")) := He.meth_ok (c.t.d.fact 12 (f := .meth "View" "forget_dead") rfl)
  have gl_Crowd : mg "Crowd" = some (.ref (He.ga K "Crowd")) := He.glo_ok X G (c.t.d.fact 13 (f := .glo "Crowd") rfl)
  have cl_Crowd : Cls K (He.ga K "Crowd") := He.cls_ok (c.t.d.fact 14 (f := .cls "Crowd") rfl)
  have no_Crowd_views : NoAttr K (He.ga K "Crowd") "views" := He.noat_ok (c.t.d.fact 15 (f := .noat "Crowd" "views") rfl)
  have no_Crowd_down : NoAttr K (He.ga K "Crowd") "down" := He.noat_ok (c.t.d.fact 16 (f := .noat "Crowd" "down") rfl)
  have no_Crowd_turn : NoAttr K (He.ga K "Crowd") "turn" := He.noat_ok (c.t.d.fact 17 (f := .noat "Crowd" "turn") rfl)
  have mk_Crowd : Mk K (He.ga K "Crowd") (He.fAd K ("Crowd", some "__init__")) := He.mkr_ok (c.t.d.fact 18 (f := .mkr "Crowd") rfl)
  have me9 : Meth K (He.ga K "Crowd") "partner" (He.fAd K ("Crowd", some "partner")) := He.meth_ok (c.t.d.fact 19 (f := .meth "Crowd" "partner") rfl)
  have me10 : Meth K (He.ga K "Crowd") "tell_round" (He.fAd K ("Crowd", some "tell_round")) := He.meth_ok (c.t.d.fact 20 (f := .meth "Crowd" "tell_round") rfl)
  have me11 : Meth K (He.ga K "Crowd") "set_down" (He.fAd K ("Crowd", some "set_down")) := He.meth_ok (c.t.d.fact 21 (f := .meth "Crowd" "set_down") rfl)
  have me12 : Meth K (He.ga K "Crowd") "agree_on" (He.fAd K ("Crowd", some "agree_on")) := He.meth_ok (c.t.d.fact 22 (f := .meth "Crowd" "agree_on") rfl)
  have gl13 : mg "_law_dice" = some (.ref (He.fAd K ("_law_dice", none))) := He.glo_ok X G (c.t.d.fact 23 (f := .glo "_law_dice") rfl)
  have gl14 : mg "_law_roll" = some (.ref (He.fAd K ("_law_roll", none))) := He.glo_ok X G (c.t.d.fact 24 (f := .glo "_law_roll") rfl)
  have gl15 : mg "_law_rounds" = some (.ref (He.fAd K ("_law_rounds", none))) := He.glo_ok X G (c.t.d.fact 25 (f := .glo "_law_rounds") rfl)
  have gl16 : mg "_law_told" = some (.ref (He.fAd K ("_law_told", none))) := He.glo_ok X G (c.t.d.fact 26 (f := .glo "_law_told") rfl)
  have gl17 : mg "_law_state" = some (.ref (He.fAd K ("_law_state", none))) := He.glo_ok X G (c.t.d.fact 27 (f := .glo "_law_state") rfl)
  have gl18 : mg "_law_hear" = some (.ref (He.fAd K ("_law_hear", none))) := He.glo_ok X G (c.t.d.fact 28 (f := .glo "_law_hear") rfl)
  have gl19 : mg "_law_news" = some (.ref (He.fAd K ("_law_news", none))) := He.glo_ok X G (c.t.d.fact 29 (f := .glo "_law_news") rfl)
  have gl_MachineError : mg "MachineError" = some (.ref (He.ga K "MachineError")) := He.glo_ok X G (c.t.d.fact 31 (f := .glo "MachineError") rfl)
  have TE_MachineError : ExcT K mg "MachineError" (He.ga K "MachineError") := exc_T X G (c.t.d.fact 31 (f := .glo "MachineError") rfl) (c.t.d.fact 32 (f := .exc "MachineError") rfl) (exB c.more).1 (exB c.more).2.1
  have fr_abs : mg "abs" = none := He.free_ok X G (c.t.d.fact 33 (f := .free "abs") rfl)
  have fr_int : mg "int" = none := He.free_ok X G (c.t.d.fact 34 (f := .free "int") rfl)
  have fr_list : mg "list" = none := He.free_ok X G (c.t.d.fact 35 (f := .free "list") rfl)
  have fr_sorted : mg "sorted" = none := He.free_ok X G (c.t.d.fact 36 (f := .free "sorted") rfl)
  have fr_tuple : mg "tuple" = none := He.free_ok X G (c.t.d.fact 37 (f := .free "tuple") rfl)
  have fr_range : mg "range" = none := He.free_ok X G (c.t.d.fact 38 (f := .free "range") rfl)
  have fr_len : mg "len" = none := He.free_ok X G (c.t.d.fact 39 (f := .free "len") rfl)
  have fr_dict : mg "dict" = none := He.free_ok X G (c.t.d.fact 40 (f := .free "dict") rfl)
  have con_SUSPECT : ∃ u, mg "SUSPECT" = some u ∧ RelV (.int 6) u := let ⟨t, e⟩ := He.int_ok X G (c.t.d.fact 41 (f := .int "SUSPECT" 6) rfl); ⟨_, e, ⟨t, rfl⟩⟩
  have con_DEAD : ∃ u, mg "DEAD" = some u ∧ RelV (.int 15) u := let ⟨t, e⟩ := He.int_ok X G (c.t.d.fact 42 (f := .int "DEAD" 15) rfl); ⟨_, e, ⟨t, rfl⟩⟩
  obtain ⟨fd1, D1⟩ := c.t.d.def_ 0 (d := dfs1) rfl
  have F1 : Fun K "__init__" "View.__init__" sVInit (He.fAd K ("View", some "__init__")) fd1 := fun_ofD D1
  have b1 := F1.binds (ps := ["self", "name", "names"]) fun _ _ _ _ _ _ us hl => match us, hl with | [_, _, _], _ => rfl
  obtain ⟨fd2, D2⟩ := c.t.d.def_ 1 (d := dfs2) rfl
  have F2 : Fun K "tick" "View.tick" sTick (He.fAd K ("View", some "tick")) fd2 := fun_ofD D2
  have b2 := F2.binds (ps := ["self"]) fun _ _ _ _ _ _ us hl => match us, hl with | [_], _ => rfl
  obtain ⟨fd3, D3⟩ := c.t.d.def_ 2 (d := dfs3) rfl
  have F3 : Fun K "news" "View.news" sNews (He.fAd K ("View", some "news")) fd3 := fun_ofD D3
  have b3 := F3.binds (ps := ["self"]) fun _ _ _ _ _ _ us hl => match us, hl with | [_], _ => rfl
  obtain ⟨fd4, D4⟩ := c.t.d.def_ 3 (d := dfs4) rfl
  have F4 : Fun K "hear" "View.hear" sHear (He.fAd K ("View", some "hear")) fd4 := fun_ofD D4
  have b4 := F4.binds (ps := ["self", "news"]) fun _ _ _ _ _ _ us hl => match us, hl with | [_, _], _ => rfl
  obtain ⟨fd5, D5⟩ := c.t.d.def_ 4 (d := dfs5) rfl
  have F5 : Fun K "state_of" "View.state_of" sState (He.fAd K ("View", some "state_of")) fd5 := fun_ofD D5
  have b5 := F5.binds (ps := ["self", "name"]) fun _ _ _ _ _ _ us hl => match us, hl with | [_, _], _ => rfl
  obtain ⟨fd6, D6⟩ := c.t.d.def_ 5 (d := dfs6) rfl
  have F6 : Fun K "names_in" "View.names_in" sNamesIn (He.fAd K ("View", some "names_in")) fd6 := fun_ofD D6
  have b6 := F6.binds (ps := ["self", "state"]) fun _ _ _ _ _ _ us hl => match us, hl with | [_, _], _ => rfl
  obtain ⟨fd7, D7⟩ := c.t.d.def_ 6 (d := dfs7) rfl
  have F7 : Fun K "forget_dead" "View.forget_dead" sForget (He.fAd K ("View", some "forget_dead")) fd7 := fun_ofD D7
  have b7 := F7.binds (ps := ["self"]) fun _ _ _ _ _ _ us hl => match us, hl with | [_], _ => rfl
  obtain ⟨fd8, D8⟩ := c.t.d.def_ 7 (d := dfs8) rfl
  have F8 : FunD K "__init__" "Crowd.__init__" (defArgs sCInit) (defBody sCInit) (defScope sCInit) [.int 1] [] (He.fAd K ("Crowd", some "__init__")) fd8 := D8
  obtain ⟨ds8_0, vds8_0, b8_0⟩ := F8.binds1 (ps := ["self", "names", "seed"]) 2 0 (by simp) rfl fun _ _ _ _ _ _ _ us its h1 h2 => match us, its, h1, h2 with | [_, _], [_], _, _ => ⟨_, rfl, rfl⟩
  obtain ⟨ds8_1, vds8_1, b8_1⟩ := F8.binds1 (ps := ["self", "names", "seed"]) 3 1 (by simp) rfl fun _ _ _ _ _ _ _ us its h1 h2 => match us, its, h1, h2 with | [_, _, _], [_], _, _ => ⟨_, rfl, rfl⟩
  obtain ⟨fd9, D9⟩ := c.t.d.def_ 8 (d := dfs9) rfl
  have F9 : Fun K "partner" "Crowd.partner" sPartner (He.fAd K ("Crowd", some "partner")) fd9 := fun_ofD D9
  have b9 := F9.binds (ps := ["self", "name"]) fun _ _ _ _ _ _ us hl => match us, hl with | [_, _], _ => rfl
  obtain ⟨fd10, D10⟩ := c.t.d.def_ 9 (d := dfs10) rfl
  have F10 : Fun K "tell_round" "Crowd.tell_round" sRound (He.fAd K ("Crowd", some "tell_round")) fd10 := fun_ofD D10
  have b10 := F10.binds (ps := ["self"]) fun _ _ _ _ _ _ us hl => match us, hl with | [_], _ => rfl
  obtain ⟨fd11, D11⟩ := c.t.d.def_ 10 (d := dfs11) rfl
  have F11 : Fun K "set_down" "Crowd.set_down" sDown (He.fAd K ("Crowd", some "set_down")) fd11 := fun_ofD D11
  have b11 := F11.binds (ps := ["self", "name", "down"]) fun _ _ _ _ _ _ us hl => match us, hl with | [_, _, _], _ => rfl
  obtain ⟨fd12, D12⟩ := c.t.d.def_ 11 (d := dfs12) rfl
  have F12 : Fun K "agree_on" "Crowd.agree_on" sAgree (He.fAd K ("Crowd", some "agree_on")) fd12 := fun_ofD D12
  have b12 := F12.binds (ps := ["self", "name"]) fun _ _ _ _ _ _ us hl => match us, hl with | [_, _], _ => rfl
  obtain ⟨fd13, D13⟩ := c.t.d.def_ 12 (d := dfs13) rfl
  have F13 : Fun K "_law_dice" "_law_dice" sDice (He.fAd K ("_law_dice", none)) fd13 := fun_ofD D13
  have b13 := F13.binds (ps := ["cell"]) fun _ _ _ _ _ _ us hl => match us, hl with | [_], _ => rfl
  obtain ⟨fd14, D14⟩ := c.t.d.def_ 13 (d := dfs14) rfl
  have F14 : Fun K "_law_roll" "_law_roll" sRoll (He.fAd K ("_law_roll", none)) fd14 := fun_ofD D14
  have b14 := F14.binds (ps := ["dice", "many"]) fun _ _ _ _ _ _ us hl => match us, hl with | [_, _], _ => rfl
  obtain ⟨fd15, D15⟩ := c.t.d.def_ 14 (d := dfs15) rfl
  have F15 : Fun K "_law_rounds" "_law_rounds" sRounds (He.fAd K ("_law_rounds", none)) fd15 := fun_ofD D15
  have b15 := F15.binds (ps := ["script", "most"]) fun _ _ _ _ _ _ us hl => match us, hl with | [_, _], _ => rfl
  obtain ⟨fd16, D16⟩ := c.t.d.def_ 15 (d := dfs16) rfl
  have F16 : Fun K "_law_told" "_law_told" sTold (He.fAd K ("_law_told", none)) fd16 := fun_ofD D16
  have b16 := F16.binds (ps := ["what"]) fun _ _ _ _ _ _ us hl => match us, hl with | [_], _ => rfl
  obtain ⟨fd17, D17⟩ := c.t.d.def_ 16 (d := dfs17) rfl
  have F17 : Fun K "_law_state" "_law_state" sLState (He.fAd K ("_law_state", none)) fd17 := fun_ofD D17
  have b17 := F17.binds (ps := ["view", "name", "mine"]) fun _ _ _ _ _ _ us hl => match us, hl with | [_, _, _], _ => rfl
  obtain ⟨fd18, D18⟩ := c.t.d.def_ 17 (d := dfs18) rfl
  have F18 : Fun K "_law_hear" "_law_hear" sLHear (He.fAd K ("_law_hear", none)) fd18 := fun_ofD D18
  have b18 := F18.binds (ps := ["view", "news"]) fun _ _ _ _ _ _ us hl => match us, hl with | [_, _], _ => rfl
  obtain ⟨fd19, D19⟩ := c.t.d.def_ 18 (d := dfs19) rfl
  have F19 : Fun K "_law_news" "_law_news" sLNews (He.fAd K ("_law_news", none)) fd19 := fun_ofD D19
  have b19 := F19.binds (ps := ["view"]) fun _ _ _ _ _ _ us hl => match us, hl with | [_], _ => rfl
  obtain ⟨fd20, D20⟩ := c.t.d.def_ 19 (d := dfs20) rfl
  have F20 : Fun K "law" "law" sLaw (He.fAd K ("law", none)) fd20 := fun_ofD D20
  have e := hfa0.symm.trans gl20
  cases e
  have XV : TxtC K mg (He.ga K "View") := ⟨cl_View, fun f hf => by
    simp only [nmV, List.mem_cons, List.not_mem_nil, or_false] at hf
    rcases hf with rfl | rfl | rfl | rfl
    · exact no_View_name
    · exact no_View_time
    · exact no_View_rows
    · exact no_View_gone⟩
  have XC : TxtCr K mg (He.ga K "Crowd") := ⟨cl_Crowd, fun f hf => by
    simp only [nmC, List.mem_cons, List.not_mem_nil, or_false] at hf
    rcases hf with rfl | rfl | rfl
    · exact no_Crowd_views
    · exact no_Crowd_down
    · exact no_Crowd_turn⟩
  have TE := TE_MachineError
  have TL : TxtL mg := ⟨fr_abs, fr_int⟩
  have TS : TxtS mg := ⟨fr_sorted, fr_tuple⟩
  have TN : TxtSN mg := ⟨fr_len, fr_sorted⟩
  have TU : TxtU mg := ⟨fr_list, fr_sorted⟩
  have TD : TxtD mg := ⟨fr_dict⟩
  have TR : TxtR mg := ⟨fr_range, fr_int⟩
  have TZ : TxtZ mg := ⟨fr_range, fr_len, fr_int⟩
  have TG : TxtG mg := ⟨con_SUSPECT, con_DEAD⟩
  obtain ⟨ocL, odL, kVL, dcL, pmL, anL, ctL, oslL, rfl, lkL, cdL⟩ := fun_code (p := ("law", none)) F20
  obtain ⟨ocG0, odG0, kVG0, dcG0, pmG0, anG0, ctG0, oslG0, rfl, lkG0, cdG0⟩ := fun_code (p := ("View", some "news")) F3
  refine ⟨PySem.W.fnOf "law" "law" (defArgs sLaw) (defBody sLaw) (defScope sLaw) .none kVL dcL pmL anL (.ref (He.cT K ("law", none)).1) ctL, htf.map (He.cT K), spLaw K (He.cT K ("law", none)).2 (He.cT K ("View", some "news")).2, fun p hp => ?_, fun p hp => ?_, fun p hp => ?_, fun s v => .of_eq rfl, fun H a ns hlen _ hH hS => ⟨a, ns, rfl, hS, hlen, hH _ (List.mem_map.mpr ⟨_, .head _, rfl⟩), hH _ (List.mem_map.mpr ⟨_, .tail _ (.head _), rfl⟩), exs.2.2.1, fun _ => rfl⟩, fun base _ _ htb => ?_⟩
  · obtain ⟨x, hx, rfl⟩ := List.mem_map.mp hp
    exact c.empty x hx
  · obtain ⟨x, hx, rfl⟩ := List.mem_map.mp hp
    exact c.out x hx
  · obtain ⟨x, hx, rfl⟩ := List.mem_map.mp hp
    exact PySem.W.codeHd_of_K X (c.hd x hx)
  have hTBL := htb (He.cT K ("law", none)) (List.mem_map.mpr ⟨("law", none), (.head _), rfl⟩)
  have hTB0 := htb (He.cT K ("View", some "news")) (List.mem_map.mpr ⟨("View", some "news"), (.tail _ (.head _)), rfl⟩)
  have C1 : Mak l.prog w K mg base 1 "View" (He.ga K "View") (spVInit (He.ga K "View")) [] := ⟨_, _, _, [], mk_View, ok_VInit F1 XV TS, gl_View, b1, .nil⟩
  have C1X : MakX l.prog w K mg base 1 "View" (He.ga K "View") (spVInitX (He.ga K "MachineError")) [] := ⟨_, _, _, [], mk_View, ok_VInitX F1 TE, gl_View, b1, .nil⟩
  have C2 : Met l.prog w K mg base 1 (He.ga K "View") "tick" (spTick (He.ga K "View")) [] := ⟨_, _, _, [], XV.cl, me2, ok_tick F2 XV, b2, .nil⟩
  have C3 : Met l.prog w K mg base 5 (He.ga K "View") "news" (spNews (He.ga K "View") (He.cT K ("View", some "news")).2) [] := ⟨_, _, _, [], XV.cl, me3, ok_news lkG0 cdG0 ⟨hTB0.code, hTB0.bm, hTB0.gP⟩ XV TS, b3, .nil⟩
  have C4 : Met l.prog w K mg base 1 (He.ga K "View") "hear" (spHear (He.ga K "View")) [] := ⟨_, _, _, [], XV.cl, me4, ok_hear F4 XV, b4, .nil⟩
  have C5 : Met l.prog w K mg base 1 (He.ga K "View") "state_of" (spState (He.ga K "View")) [] := ⟨_, _, _, [], XV.cl, me5, ok_state F5 XV TG, b5, .nil⟩
  have C5X : MetX l.prog w K mg base 1 (He.ga K "View") "state_of" (spStateX (He.ga K "View") (He.ga K "MachineError")) [] := ⟨_, _, _, [], XV.cl, me5, ok_stateX F5 XV TE, b5, .nil⟩
  have C6 : Met l.prog w K mg base 2 (He.ga K "View") "names_in" (spNamesIn (He.ga K "View")) [] := ⟨_, _, _, [], XV.cl, me6, ok_namesIn F6 XV TS C5, b6, .nil⟩
  have C7 : Met l.prog w K mg base 3 (He.ga K "View") "forget_dead" (spForget (He.ga K "View")) [] := ⟨_, _, _, [], XV.cl, me7, ok_forget F7 XV C6, b7, .nil⟩
  cases vds8_1
  have C8a : Mak l.prog w K mg base 3 "Crowd" (He.ga K "Crowd") (spCInit (He.ga K "Crowd") (He.ga K "View")) [] := ⟨_, _, _, [], mk_Crowd, ok_CInit F8 XC TS C1, gl_Crowd, b8_1, .nil⟩
  have C8d : Mak l.prog w K mg base 3 "Crowd" (He.ga K "Crowd") (spCInit (He.ga K "Crowd") (He.ga K "View")) [.int 1] := ⟨_, _, _, _, mk_Crowd, ok_CInit F8 XC TS C1, gl_Crowd, b8_0, vds8_0⟩
  have C9 : Met l.prog w K mg base 1 (He.ga K "Crowd") "partner" (spPartner (He.ga K "Crowd") (He.ga K "View")) [] := ⟨_, _, _, [], XC.cl, me9, ok_partner F9 XC TN, b9, .nil⟩
  have C10 : Met l.prog w K mg base 6 (He.ga K "Crowd") "tell_round" (spRound (He.ga K "Crowd") (He.ga K "View") (He.cT K ("View", some "news")).2) [] := ⟨_, _, _, [], XC.cl, me10, ok_round F10 XC XV TN C2 C4 C3 C9, b10, .nil⟩
  have C11 : Met l.prog w K mg base 1 (He.ga K "Crowd") "set_down" (spDown (He.ga K "Crowd") (He.ga K "View")) [] := ⟨_, _, _, [], XC.cl, me11, ok_down F11 XC, b11, .nil⟩
  have C11X : MetX l.prog w K mg base 1 (He.ga K "Crowd") "set_down" (spDownX (He.ga K "Crowd") (He.ga K "View") (He.ga K "MachineError")) [] := ⟨_, _, _, [], XC.cl, me11, ok_downX F11 XC TE, b11, .nil⟩
  have C12 : Met l.prog w K mg base 2 (He.ga K "Crowd") "agree_on" (spAgree (He.ga K "Crowd") (He.ga K "View")) [] := ⟨_, _, _, [], XC.cl, me12, ok_agree F12 XC XV TN C5, b12, .nil⟩
  have C13 : Cal l.prog w K mg base 1 "_law_dice" spDice [] := ⟨_, _, _, [], ok_dice F13 TL, gl13, F13.kp, b13, .nil⟩
  have C14 : Cal l.prog w K mg base 1 "_law_roll" spRoll [] := ⟨_, _, _, [], ok_roll F14 TL, gl14, F14.kp, b14, .nil⟩
  have C15 : Cal l.prog w K mg base 2 "_law_rounds" (spRounds K) [] := ⟨_, _, _, [], ok_rounds F15 C13, gl15, F15.kp, b15, .nil⟩
  have C16 : Cal l.prog w K mg base 7 "_law_told" (spTold l.prog w K mg base 6 (He.ga K "MachineError") "MachineError") [] := ⟨_, _, _, [], ok_told F16 TE, gl16, F16.kp, b16, .nil⟩
  have C17 : Cal l.prog w K mg base 1 "_law_state" spLState [] := ⟨_, _, _, [], ok_lstate F17, gl17, F17.kp, b17, .nil⟩
  have C18 : Cal l.prog w K mg base 1 "_law_hear" spLHear [] := ⟨_, _, _, [], ok_lhear F18, gl18, F18.kp, b18, .nil⟩
  have C19 : Cal l.prog w K mg base 1 "_law_news" spLNews [] := ⟨_, _, _, [], ok_lnews F19 TS, gl19, F19.kp, b19, .nil⟩
  refine fn_of lkL cdL scLaw (fun vs H Q E h => ?_) fun A outer s H vs Q E hr hsp => ?_
  · obtain ⟨a, ns, rfl, _⟩ := h
    rfl
  obtain ⟨t, ht, hq⟩ := law_body (f := He.fAd K ("law", none)) (cL := (He.cT K ("law", none)).1) (PL := (He.cT K ("law", none)).2) (A := A) (outer := outer) (s0 := s) (H0 := H) (E := E) hr TZ TE hTBL C14 C15 C8a C16 (st_views hr TD) (blk_tick hr XC TR C2) (blk_hear hr XC C4 C3 C18 C19) (blk_forget hr XC TN C7 C17)
    (st_check hr XC XV TU C3 C5 C6 C17 C19) (st_p5 hr C11) (st_p6 hr TR C10) (st_p7 hr) (st_p8 hr TN C12 C9) (st_p9 hr XC XV C11 C10) (fun f c' q => lok1 C1X) (fun f c' q => lok2 C8d C11X) (fun f c' q => lok3 C1 C5X) hsp
  exact ⟨t, ht.nox, hq⟩
end Sd
open PySem PySem.W PySem.Calls PyProof.Rows
set_option maxRecDepth 100000 in
set_option maxHeartbeats 0 in
theorem PySem.Challenge.cw_shardstack_k08_who_hears_of_whom_holds : PySem.Challenge.rw_shardstack_k08_who_hears_of_whom.Holds := by
  w_on; o_law
  refine HandSHeadRun.head_any (r := OpenLaw.row PySem.Challenge.rw_shardstack_k08_who_hears_of_whom) (q := view (OpenLaw.row PySem.Challenge.rw_shardstack_k08_who_hears_of_whom).prog [16]) (H := Sd.hk) (ob := Sd.hob) (M := 8000) (loose := Sd.hloose) (d := HandSHeadRun.topDef (OpenLaw.row PySem.Challenge.rw_shardstack_k08_who_hears_of_whom).prog 16) (kwd := []) Sd.hob_eq
    (by kernel_rfl) (fun s => by kernel_rfl) Sd.hrun (by kernel_rfl) (by kernel_rfl) (by kernel_rfl) (by rfl) (by first | assumption | decide +kernel) (by decide +kernel) ⟨rfl, rfl, rfl, rfl, rfl, by decide +kernel⟩ ?hw ?hc
  case hw => w_witness2
  case hc =>
    refine LamX.walk_ofTsE (l := PySem.Challenge.rw_shardstack_k08_who_hears_of_whom) (n := 63) (k := 9) (x := "script") (CX := fun _ => L2.CX0) rfl (by decide) (by kernel_rfl) ⟨rfl, by decide, by decide⟩ ?F (fun _ _ _ _ _ z => z)
    intro w mg fa h Y G hmg0
    obtain ⟨K, KX, c⟩ := Y
    have hmg : mg ("law" : PySem.Str) = some (.ref fa) := by
      have e : (HandSHeadRun.topDef (OpenLaw.row PySem.Challenge.rw_shardstack_k08_who_hears_of_whom).prog 16).name = ("law" : PySem.Str) := by kernel_rfl
      rw [← e]
      exact hmg0
    exact ⟨K, KX, Sd.all_mk KX G hmg c⟩
#print axioms PySem.Challenge.cw_shardstack_k08_who_hears_of_whom_holds

