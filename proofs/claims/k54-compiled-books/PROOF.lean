import PyProof.Rows.All
import Wide.All
import OpenK.AllK
import Wide.FinOn
import HandS.ForMost
import HandS.WideBits
import HandS.Wide
import HandS.Property
import HandS.Flow
import HandS.SortInts
import HandS.IsInst
import HandS.More
import HandS.TupAny
import HandS.TupMul
import HandS.Style
import HandS.TryOnly
import HandS.Defaults
import HandS.DictComp
import HandS.WordsDict
import HandS.FStr
import HandS.Text
import PyProof.FString3
import PyProof.Rows.StrIntSpec
import HandS.Conv
import HandS.ClsMeth
import HandS.Strs
import HandS.TupLe
import HandS.CallLocal
import HandS.Set
import KE.KDictSum
import HandS.ExcValue
import HandS.ExcOwn
import HandS.ExcIs
import HandS.WordsExc
import PySem.Challenge.RW_spotproof_k54_compiled_books
set_option Elab.async false
set_option linter.all false
set_option maxRecDepth 100000
set_option maxHeartbeats 2000000
/-! A data layer over the hand layer: values are data (D), memory holds only what may change (Mem). -/
namespace DL
open PySem L2

inductive D where
  | non | bl (b : Bool) | int (i : Int) | str (x : Str) | ty (n : String) | ref (a : Addr)
  | tup (xs : List D) | lst (xs : List D) | scr (xs : List D)
  | obj (C : Addr) (fs : List (Str × D)) | dic (kvs : List (Key × D)) | dit (kvs : List (List Key × D))

inductive MO where
  | lst (xs : List D) | ins (C : Addr) (fs : List (Str × D)) | dic (kvs : List (Key × D)) | dit (kvs : List (List Key × D))

abbrev Mem := Addr → Option MO
abbrev Fr := Addr → Bool
def Mem.put (M : Mem) (a : Addr) (o : MO) : Mem := fun b => if b = a then some o else M b
def Mem.del (M : Mem) (a : Addr) : Mem := fun b => if b = a then none else M b
theorem Mem.put_same {M : Mem} {a : Addr} {o : MO} : M.put a o a = some o := by unfold Mem.put; rw [if_pos rfl]
theorem Mem.put_ne {M : Mem} {a b : Addr} {o : MO} (h : b ≠ a) : M.put a o b = M b := by unfold Mem.put; rw [if_neg h]
theorem Mem.put_put {M : Mem} {a : Addr} {o u : MO} : (M.put a o).put a u = M.put a u := by funext b; unfold Mem.put; split <;> rfl
theorem Mem.del_put {M : Mem} {a : Addr} {o : MO} (h : M a = none) : (M.put a o).del a = M := by
  funext b
  show (if b = a then none else (if b = a then some o else M b)) = M b
  by_cases e : b = a
  · rw [if_pos e, e, h]
  · rw [if_neg e, if_neg e]
theorem Mem.put_self {M : Mem} {a : Addr} {o : MO} (h : M a = some o) : M.put a o = M := by
  funext b
  show (if b = a then some o else M b) = M b
  by_cases e : b = a
  · rw [if_pos e, e, h]
  · rw [if_neg e]
theorem Mem.ne_of {M : Mem} {a b : Addr} {o : MO} (h : M a = some o) (h' : M b = none) : a ≠ b := by
  intro e; subst e; rw [h] at h'; cases h'
def Sub (M N : Mem) : Prop := ∀ a o, M a = some o → N a = some o
theorem Sub.refl (M : Mem) : Sub M M := fun _ _ h => h
theorem Sub.trans {M N O : Mem} (a : Sub M N) (b : Sub N O) : Sub M O := fun x o h => b x o (a x o h)
theorem Sub.new {M : Mem} {p : Addr} {o : MO} (h : M p = none) : Sub M (M.put p o) := fun a u e => by
  rw [Mem.put_ne (Mem.ne_of e h)]; exact e
theorem Sub.del {M : Mem} {p : Addr} : Sub (M.del p) M := fun a u e => by
  unfold Mem.del at e
  split at e
  · cases e
  · exact e

/-- what is neither changeable nor hidden -/
def stab (H : Hp) (M : Mem) (F : Fr) : Hp := fun b => if (M b).isSome || F b then none else H b
theorem stab_eq {H : Hp} {M : Mem} {F : Fr} {b : Addr} {o : HO} : stab H M F b = some o ↔ M b = none ∧ F b = false ∧ H b = some o := by
  unfold stab
  cases hm : M b <;> cases hf : F b <;> simp
def Ex (H H' : Hp) : Prop := ∀ a o, H a = some o → H' a = some o
theorem Ex.refl (H : Hp) : Ex H H := fun _ _ h => h
theorem Ex.trans {H H1 H2 : Hp} (a : Ex H H1) (b : Ex H1 H2) : Ex H H2 := fun x o h => b x o (a x o h)
theorem ex_rd {H H' : Hp} {a : Addr} {u : HO} (e : Ex H H') (h : Rd H a u) : Rd H' a u := by
  rcases h with h | ⟨o, h⟩
  · exact .inl (e a _ h)
  · exact .inr ⟨o, e a _ h⟩
theorem ex_l {K : PySem.W.Frag} {H H' : Hp} {a : Addr} {xs : List V} (e : Ex H H') (h : SqL K H a xs) : SqL K H' a xs := by
  rcases h with h | h
  · exact .inl (ex_rd e h)
  · exact .inr h
theorem ex_t {K : PySem.W.Frag} {H H' : Hp} {a : Addr} {xs : List V} (e : Ex H H') (h : SqT K H a xs) : SqT K H' a xs := by
  rcases h with h | h
  · exact .inl (ex_rd e h)
  · exact .inr h

mutual
inductive Is (K : PySem.W.Frag) (S : Hp) : V → D → Prop
  | non : Is K S .non .non
  | bl (b : Bool) : Is K S (.bl b) (.bl b)
  | int (i : Int) : Is K S (.int i) (.int i)
  | str (x : Str) : Is K S (.str x) (.str x)
  | ty (n : String) : Is K S (.ty n) (.ty n)
  | ref (a : Addr) : Is K S (.ref a) (.ref a)
  | tup {a : Addr} {vs : List V} {ds : List D} (h : SqT K S a vs) (r : IsL K S vs ds) : Is K S (.ref a) (.tup ds)
  | lst {a : Addr} {vs : List V} {ds : List D} (h : S a = some (.lst vs)) (r : IsL K S vs ds) : Is K S (.ref a) (.lst ds)
  | scr {a : Addr} {vs : List V} {ds : List D} (h : SqL K S a vs) (r : IsL K S vs ds) : Is K S (.ref a) (.scr ds)
  | obj {a C dx : Addr} {fs : List (Str × V)} {gs : List (Str × D)} (h : S a = some (.ins C dx fs)) (r : IsF K S fs gs) : Is K S (.ref a) (.obj C gs)
  | dic {a : Addr} {vs : List (Key × V)} {ds : List (Key × D)} (h : S a = some (.dK vs)) (r : IsK K S vs ds) : Is K S (.ref a) (.dic ds)
  | dit {a : Addr} {vs : List (List Key × V)} {ds : List (List Key × D)} (h : S a = some (.dT vs)) (r : IsJ K S vs ds) : Is K S (.ref a) (.dit ds)
inductive IsL (K : PySem.W.Frag) (S : Hp) : List V → List D → Prop
  | nil : IsL K S [] []
  | cons {v : V} {d : D} {vs : List V} {ds : List D} (h : Is K S v d) (r : IsL K S vs ds) : IsL K S (v :: vs) (d :: ds)
inductive IsF (K : PySem.W.Frag) (S : Hp) : List (Str × V) → List (Str × D) → Prop
  | nil : IsF K S [] []
  | cons {x : Str} {v : V} {d : D} {vs : List (Str × V)} {ds : List (Str × D)} (h : Is K S v d) (r : IsF K S vs ds) : IsF K S ((x, v) :: vs) ((x, d) :: ds)
inductive IsK (K : PySem.W.Frag) (S : Hp) : List (Key × V) → List (Key × D) → Prop
  | nil : IsK K S [] []
  | cons {x : Key} {v : V} {d : D} {vs : List (Key × V)} {ds : List (Key × D)} (h : Is K S v d) (r : IsK K S vs ds) : IsK K S ((x, v) :: vs) ((x, d) :: ds)
inductive IsJ (K : PySem.W.Frag) (S : Hp) : List (List Key × V) → List (List Key × D) → Prop
  | nil : IsJ K S [] []
  | cons {x : List Key} {v : V} {d : D} {vs : List (List Key × V)} {ds : List (List Key × D)} (h : Is K S v d) (r : IsJ K S vs ds) : IsJ K S ((x, v) :: vs) ((x, d) :: ds)
end

section
variable {K : PySem.W.Frag} {S S' : Hp}
mutual
theorem Is.mono (e : Ex S S') : ∀ {v : V} {d : D}, Is K S v d → Is K S' v d
  | _, _, .non => .non
  | _, _, .bl b => .bl b
  | _, _, .int i => .int i
  | _, _, .str x => .str x
  | _, _, .ty n => .ty n
  | _, _, .ref a => .ref a
  | _, _, .tup h r => .tup (ex_t e h) (IsL.mono e r)
  | _, _, .lst h r => .lst (e _ _ h) (IsL.mono e r)
  | _, _, .scr h r => .scr (ex_l e h) (IsL.mono e r)
  | _, _, .obj h r => .obj (e _ _ h) (IsF.mono e r)
  | _, _, .dic h r => .dic (e _ _ h) (IsK.mono e r)
  | _, _, .dit h r => .dit (e _ _ h) (IsJ.mono e r)
theorem IsL.mono (e : Ex S S') : ∀ {v : List V} {d : List D}, IsL K S v d → IsL K S' v d
  | _, _, .nil => .nil
  | _, _, .cons h r => .cons (Is.mono e h) (IsL.mono e r)
theorem IsF.mono (e : Ex S S') : ∀ {v : List (Str × V)} {d : List (Str × D)}, IsF K S v d → IsF K S' v d
  | _, _, .nil => .nil
  | _, _, .cons h r => .cons (Is.mono e h) (IsF.mono e r)
theorem IsK.mono (e : Ex S S') : ∀ {v : List (Key × V)} {d : List (Key × D)}, IsK K S v d → IsK K S' v d
  | _, _, .nil => .nil
  | _, _, .cons h r => .cons (Is.mono e h) (IsK.mono e r)
theorem IsJ.mono (e : Ex S S') : ∀ {v : List (List Key × V)} {d : List (List Key × D)}, IsJ K S v d → IsJ K S' v d
  | _, _, .nil => .nil
  | _, _, .cons h r => .cons (Is.mono e h) (IsJ.mono e r)
end
theorem IsL.length : ∀ {vs : List V} {ds : List D}, IsL K S vs ds → vs.length = ds.length
  | _, _, .nil => rfl
  | _, _, .cons _ r => by rw [List.length_cons, List.length_cons, IsL.length r]
theorem IsL.get : ∀ {vs : List V} {ds : List D} {i : Nat} {v : V} {d : D}, IsL K S vs ds → vs[i]? = some v → ds[i]? = some d → Is K S v d
  | _, _, _, _, _, .nil, h, _ => by simp at h
  | _, _, 0, _, _, .cons h r, e, e' => by simp at e e'; subst e; subst e'; exact h
  | _, _, i + 1, v, d, .cons h r, e, e' => IsL.get (i := i) r (by simpa using e) (by simpa using e')
theorem IsL.at {vs : List V} {ds : List D} {i : Nat} {d : D} (r : IsL K S vs ds) (e : ds[i]? = some d) : ∃ v, vs[i]? = some v ∧ Is K S v d := by
  have hi : i < vs.length := by rw [r.length]; exact (List.getElem?_eq_some_iff.mp e).1
  exact ⟨vs[i], by simp [hi], r.get (by simp [hi]) e⟩
theorem IsL.append : ∀ {vs ws : List V} {ds es : List D}, IsL K S vs ds → IsL K S ws es → IsL K S (vs ++ ws) (ds ++ es)
  | _, _, _, _, .nil, s => s
  | _, _, _, _, .cons h r, s => .cons h (IsL.append r s)
theorem IsL.take : ∀ {vs : List V} {ds : List D} (n : Nat), IsL K S vs ds → IsL K S (vs.take n) (ds.take n)
  | _, _, 0, _ => .nil
  | _, _, _ + 1, .nil => .nil
  | _, _, n + 1, .cons h r => .cons h (IsL.take n r)
theorem IsL.drop : ∀ {vs : List V} {ds : List D} (n : Nat), IsL K S vs ds → IsL K S (vs.drop n) (ds.drop n)
  | _, _, 0, r => r
  | _, _, _ + 1, .nil => .nil
  | _, _, n + 1, .cons h r => IsL.drop n r
theorem IsL.set {v : V} {d : D} (h : Is K S v d) : ∀ {vs : List V} {ds : List D} (i : Nat), IsL K S vs ds → IsL K S (vs.set i v) (ds.set i d)
  | _, _, _, .nil => .nil
  | _, _, 0, .cons _ r => .cons h r
  | _, _, i + 1, .cons q r => .cons q (IsL.set h i r)
theorem IsL.reverse {vs : List V} {ds : List D} (r : IsL K S vs ds) : IsL K S vs.reverse ds.reverse := by
  induction vs generalizing ds with
  | nil => cases r; exact .nil
  | cons v vs ih =>
    cases r with
    | cons h r => rw [List.reverse_cons, List.reverse_cons]; exact (ih r).append (.cons h .nil)
theorem IsF.lookup : ∀ {fs : List (Str × V)} {gs : List (Str × D)} {x : Str} {d : D}, IsF K S fs gs → gs.lookup x = some d → ∃ v, fs.lookup x = some v ∧ Is K S v d
  | _, _, _, _, .nil, h => by simp at h
  | _, _, x, d, @IsF.cons _ _ y v e fs gs h r, q => by
    rw [List.lookup_cons] at q ⊢
    split at q
    · cases q; exact ⟨v, rfl, h⟩
    · exact IsF.lookup r q
theorem IsF.none : ∀ {fs : List (Str × V)} {gs : List (Str × D)} {x : Str}, IsF K S fs gs → gs.lookup x = Option.none → fs.lookup x = Option.none
  | _, _, _, .nil, h => rfl
  | _, _, x, @IsF.cons _ _ y v e fs gs h r, q => by
    rw [List.lookup_cons] at q ⊢
    split at q
    · cases q
    · exact IsF.none r q
theorem IsF.length : ∀ {vs : List (Str × V)} {ds : List (Str × D)}, IsF K S vs ds → vs.length = ds.length
  | _, _, .nil => rfl
  | _, _, .cons _ r => by rw [List.length_cons, List.length_cons, IsF.length r]
def putG (f : Str) (v : D) : List (Str × D) → List (Str × D)
  | [] => [(f, v)]
  | (g, x) :: r => if g = f then (g, v) :: r else (g, x) :: putG f v r
theorem IsF.put {f : Str} {v : V} {d : D} (h : Is K S v d) : ∀ {fs : List (Str × V)} {gs : List (Str × D)}, IsF K S fs gs → IsF K S (putF f v fs) (putG f d gs)
  | _, _, .nil => .cons h .nil
  | _, _, @IsF.cons _ _ y w e fs gs q r => by
    show IsF K S (if y = f then (y, v) :: fs else (y, w) :: putF f v fs) (if y = f then (y, d) :: gs else (y, e) :: putG f d gs)
    split
    · exact .cons h r
    · exact .cons q (IsF.put h r)
end

/-- slots -/
abbrev DSt := List (Option D)
structure IsS (K : PySem.W.Frag) (S : Hp) (σ : St) (τ : DSt) : Prop where
  len : σ.length = τ.length
  at_ : ∀ (i : Nat) (d : D), τ[i]? = some (some d) → ∃ v, σ[i]? = some (some v) ∧ Is K S v d
theorem IsS.mono {K : PySem.W.Frag} {S S' : Hp} {σ : St} {τ : DSt} (e : Ex S S') (h : IsS K S σ τ) : IsS K S' σ τ :=
  ⟨h.len, fun i d q => let ⟨v, a, b⟩ := h.at_ i d q; ⟨v, a, b.mono e⟩⟩
theorem IsS.set {K : PySem.W.Frag} {S : Hp} {σ : St} {τ : DSt} {v : V} {d : D} (h : IsS K S σ τ) (i : Nat) (r : Is K S v d) : IsS K S (σ.set i (some v)) (τ.set i (some d)) := by
  refine ⟨by simp [h.len], fun j e q => ?_⟩
  by_cases hj : i = j
  · subst hj
    by_cases hi : i < τ.length
    · rw [List.getElem?_set_self hi] at q
      cases q
      exact ⟨v, by rw [List.getElem?_set_self (by rw [h.len]; exact hi)], r⟩
    · rw [List.getElem?_eq_none (by simpa using hi)] at q; cases q
  · rw [List.getElem?_set_ne hj] at q ⊢
    exact h.at_ j e q
theorem IsS.none {K : PySem.W.Frag} {S : Hp} {σ : St} {τ : DSt} (h : IsS K S σ τ) (i : Nat) (o : Option V) : IsS K S (σ.set i o) (τ.set i Option.none) := by
  refine ⟨by simp [h.len], fun j e q => ?_⟩
  by_cases hj : i = j
  · subst hj
    by_cases hi : i < τ.length
    · rw [List.getElem?_set_self hi] at q; cases q
    · rw [List.getElem?_eq_none (by simpa using hi)] at q; cases q
  · rw [List.getElem?_set_ne hj] at q ⊢
    exact h.at_ j e q

/-- memory -/
def MOk (K : PySem.W.Frag) (S H : Hp) (a : Addr) : MO → Prop
  | .lst xs => ∃ vs, H a = some (.lst vs) ∧ IsL K S vs xs
  | .ins C gs => ∃ dx fs, H a = some (.ins C dx fs) ∧ IsF K S fs gs
  | .dic ds => ∃ vs, H a = some (.dK vs) ∧ IsK K S vs ds
  | .dit ds => ∃ vs, H a = some (.dT vs) ∧ IsJ K S vs ds
theorem MOk.mono {K : PySem.W.Frag} {S S' H H' : Hp} {a : Addr} {o : MO} (e : Ex S S') (q : H' a = H a) (h : MOk K S H a o) : MOk K S' H' a o := by
  cases o with
  | lst xs => obtain ⟨vs, h1, h2⟩ := h; exact ⟨vs, q.trans h1, h2.mono e⟩
  | ins C gs => obtain ⟨dx, vs, h1, h2⟩ := h; exact ⟨dx, vs, q.trans h1, h2.mono e⟩
  | dic ds => obtain ⟨vs, h1, h2⟩ := h; exact ⟨vs, q.trans h1, h2.mono e⟩
  | dit ds => obtain ⟨vs, h1, h2⟩ := h; exact ⟨vs, q.trans h1, h2.mono e⟩
theorem MOk.here {K : PySem.W.Frag} {S H : Hp} {a : Addr} {o : MO} (h : MOk K S H a o) : H a ≠ none := by
  cases o with
  | lst xs => obtain ⟨vs, h1, _⟩ := h; rw [h1]; exact fun z => nomatch z
  | ins C gs => obtain ⟨dx, vs, h1, _⟩ := h; rw [h1]; exact fun z => nomatch z
  | dic ds => obtain ⟨vs, h1, _⟩ := h; rw [h1]; exact fun z => nomatch z
  | dit ds => obtain ⟨vs, h1, _⟩ := h; rw [h1]; exact fun z => nomatch z
structure Ok (K : PySem.W.Frag) (F : Fr) (H : Hp) (M : Mem) : Prop where
  mem : ∀ a o, M a = some o → MOk K (stab H M F) H a o
  hid : ∀ a, F a = true → M a = none ∧ H a ≠ none
structure To (K : PySem.W.Frag) (F : Fr) (H : Hp) (M : Mem) (H' : Hp) (M' : Mem) : Prop where
  ok : Ok K F H' M'
  ex : Ex (stab H M F) (stab H' M' F)
  fr : ∀ a, F a = true → H' a = H a
section
variable {K : PySem.W.Frag} {F : Fr} {H H1 H2 H' : Hp} {M M1 M2 M' : Mem} {p a : Addr}
theorem To.refl (o : Ok K F H M) : To K F H M H M := ⟨o, Ex.refl _, fun _ _ => rfl⟩
theorem To.trans (x : To K F H M H1 M1) (y : To K F H1 M1 H2 M2) : To K F H M H2 M2 :=
  ⟨y.ok, x.ex.trans y.ex, fun a h => (y.fr a h).trans (x.fr a h)⟩
theorem Ok.free (o : Ok K F H M) (h : H p = none) : M p = none ∧ F p = false := by
  constructor
  · cases q : M p with
    | none => rfl
    | some u => exact absurd h (o.mem p u q).here
  · cases q : F p with
    | false => rfl
    | true => exact absurd h (o.hid p q).2
/-- a new thing that stays -/
theorem stab_upd (o : Ok K F H M) (h : H p = none) (u : HO) : stab (upd H p u) M F = upd (stab H M F) p u := by
  funext b
  unfold stab upd
  by_cases e : b = p
  · subst e; rw [(o.free h).1, (o.free h).2]; simp
  · simp [e]
theorem ex_upd {u : HO} {S : Hp} (h : S p = none) : Ex S (upd S p u) := fun b v e => by rw [upd_ne (ne_of_none e h)]; exact e
theorem stab_none (h : H p = none) : stab H M F p = none := by unfold stab; rw [h]; split <;> rfl
theorem To.new (o : Ok K F H M) (h : H p = none) (u : HO) : To K F H M (upd H p u) M := by
  have e : Ex (stab H M F) (stab (upd H p u) M F) := by rw [stab_upd o h]; exact ex_upd (stab_none h)
  refine ⟨⟨fun a v q => (o.mem a v q).mono e ?_, fun a q => ⟨(o.hid a q).1, ?_⟩⟩, e, fun a q => ?_⟩
  · exact upd_ne fun z => by rw [z, (o.free h).1] at q; cases q
  · rw [upd_ne fun z => by rw [z, (o.free h).2] at q; cases q]; exact (o.hid a q).2
  · exact upd_ne fun z => by rw [z, (o.free h).2] at q; cases q
/-- a new thing that may change -/
theorem stab_put (o : Ok K F H M) (h : H p = none) (u : HO) (m : MO) : stab (upd H p u) (M.put p m) F = stab H M F := by
  funext b
  unfold stab upd Mem.put
  by_cases e : b = p
  · subst e; simp [h]
  · simp [e]
theorem To.newM (o : Ok K F H M) (h : H p = none) {u : HO} {m : MO} (k : MOk K (stab H M F) (upd H p u) p m) : To K F H M (upd H p u) (M.put p m) := by
  have e : Ex (stab H M F) (stab (upd H p u) (M.put p m) F) := by rw [stab_put o h]; exact Ex.refl _
  refine ⟨⟨fun a v q => ?_, fun a q => ?_⟩, e, fun a q => ?_⟩
  · by_cases z : a = p
    · subst z; rw [Mem.put_same] at q; cases q; exact k.mono e rfl
    · rw [Mem.put_ne z] at q; exact (o.mem a v q).mono e (upd_ne z)
  · have z : a ≠ p := fun z => by rw [z, (o.free h).2] at q; cases q
    rw [Mem.put_ne z, upd_ne z]; exact o.hid a q
  · exact upd_ne fun z => by rw [z, (o.free h).2] at q; cases q
/-- a change -/
theorem stab_set {m0 : MO} (h : M p = some m0) (u : HO) (m : MO) : stab (upd H p u) (M.put p m) F = stab H M F := by
  funext b
  unfold stab upd Mem.put
  by_cases e : b = p
  · subst e; simp [h]
  · simp [e]
theorem To.set (o : Ok K F H M) {m0 : MO} (h : M p = some m0) {u : HO} {m : MO} (k : MOk K (stab H M F) (upd H p u) p m) : To K F H M (upd H p u) (M.put p m) := by
  have e : Ex (stab H M F) (stab (upd H p u) (M.put p m) F) := by rw [stab_set h]; exact Ex.refl _
  have nf : ∀ a, F a = true → a ≠ p := fun a q z => by rw [z] at q; rw [(o.hid p q).1] at h; cases h
  refine ⟨⟨fun a v q => ?_, fun a q => ?_⟩, e, fun a q => upd_ne (nf a q)⟩
  · by_cases z : a = p
    · subst z; rw [Mem.put_same] at q; cases q; exact k.mono e rfl
    · rw [Mem.put_ne z] at q; exact (o.mem a v q).mono e (upd_ne z)
  · rw [Mem.put_ne (nf a q), upd_ne (nf a q)]; exact o.hid a q
/-- less may change -/
theorem To.sub (o : Ok K F H M) (s : Sub M' M) : To K F H M H M' := by
  have e : Ex (stab H M F) (stab H M' F) := fun b v q => by
    rw [stab_eq] at q ⊢
    refine ⟨?_, q.2⟩
    cases z : M' b with
    | none => rfl
    | some u => rw [s b u z] at q; cases q.1
  refine ⟨⟨fun a v q => (o.mem a v (s a v q)).mono e rfl, fun a q => ⟨?_, (o.hid a q).2⟩⟩, e, fun _ _ => rfl⟩
  cases z : M' a with
  | none => rfl
  | some u => exact absurd ((s a u z).symm.trans (o.hid a q).1) (fun z => nomatch z)
end

/-! ### readings -/
abbrev DTE := DSt → Mem → (D → Mem → Prop) → Prop
abbrev DTT := DSt → Mem → (Bool → Mem → Prop) → Prop
abbrev DTA := DSt → Mem → (List D → Mem → Prop) → Prop
structure DEnds where
  nx : DSt → Mem → Prop
  rt : D → Mem → Prop
  bk : DSt → Mem → Prop := fun _ _ => False
  ct : DSt → Mem → Prop := fun _ _ => False
abbrev DTS := DEnds → DSt → Mem → Prop
abbrev DTG := D → DSt → Mem → (DSt → Mem → Prop) → Prop
abbrev DTGs := List D → DSt → Mem → (DSt → Mem → Prop) → Prop
structure EOk (K : PySem.W.Frag) (F : Fr) (H : Hp) (M : Mem) (Y : DEnds) (Z : Ends) : Prop where
  nx : ∀ σ H' τ M', To K F H M H' M' → IsS K (stab H' M' F) σ τ → Y.nx τ M' → Z.nx σ H'
  bk : ∀ σ H' τ M', To K F H M H' M' → IsS K (stab H' M' F) σ τ → Y.bk τ M' → Z.bk σ H'
  ct : ∀ σ H' τ M', To K F H M H' M' → IsS K (stab H' M' F) σ τ → Y.ct τ M' → Z.ct σ H'
  rt : ∀ v H' d M', To K F H M H' M' → Is K (stab H' M' F) v d → Y.rt d M' → Z.rt v H'
theorem EOk.to {K : PySem.W.Frag} {F : Fr} {H H' : Hp} {M M' : Mem} {Y : DEnds} {Z : Ends} (e : EOk K F H M Y Z) (t : To K F H M H' M') : EOk K F H' M' Y Z :=
  ⟨fun σ H2 τ M2 t2 => e.nx σ H2 τ M2 (t.trans t2), fun σ H2 τ M2 t2 => e.bk σ H2 τ M2 (t.trans t2), fun σ H2 τ M2 t2 => e.ct σ H2 τ M2 (t.trans t2), fun v H2 d M2 t2 => e.rt v H2 d M2 (t.trans t2)⟩
section
variable (K : PySem.W.Frag)
/-- the state as data -/
structure Stt (K : PySem.W.Frag) (F : Fr) (H : Hp) (M : Mem) (σ : St) (τ : DSt) : Prop where
  ok : Ok K F H M
  sl : IsS K (stab H M F) σ τ
theorem Stt.to {K : PySem.W.Frag} {F : Fr} {H H' : Hp} {M M' : Mem} {σ : St} {τ : DSt} (s : Stt K F H M σ τ) (t : To K F H M H' M') : Stt K F H' M' σ τ := ⟨t.ok, s.sl.mono t.ex⟩
def liE (t : DTE) : TE := fun σ H Q => ∃ τ M F P, Stt K F H M σ τ ∧ t τ M P ∧ ∀ d M' v H', P d M' → To K F H M H' M' → Is K (stab H' M' F) v d → Q v H'
def liT (t : DTT) : TT := fun σ H Q => ∃ τ M F P, Stt K F H M σ τ ∧ t τ M P ∧ ∀ b M' H', P b M' → To K F H M H' M' → Q b H'
def liA (t : DTA) : TA := fun σ H Q => ∃ τ M F P, Stt K F H M σ τ ∧ t τ M P ∧ ∀ ds M' vs H', P ds M' → To K F H M H' M' → IsL K (stab H' M' F) vs ds → Q vs H'
def liS (t : DTS) : TS := fun Z σ H => ∃ τ M F Y, Stt K F H M σ τ ∧ EOk K F H M Y Z ∧ t Y τ M
def liG (g : DTG) : TG := fun v σ H Q => ∃ d τ M F P, Stt K F H M σ τ ∧ Is K (stab H M F) v d ∧ g d τ M P ∧ ∀ τ' M' σ' H', P τ' M' → To K F H M H' M' → IsS K (stab H' M' F) σ' τ' → Q σ' H'
def liGs (g : DTGs) : TGs := fun vs σ H Q => ∃ ds τ M F P, Stt K F H M σ τ ∧ IsL K (stab H M F) vs ds ∧ g ds τ M P ∧ ∀ τ' M' σ' H', P τ' M' → To K F H M H' M' → IsS K (stab H' M' F) σ' τ' → Q σ' H'
end
abbrev DE (X : Cx) (e : Expr) (t : DTE) : Prop := PE X e (liE X.K t)
abbrev DT (X : Cx) (e : Expr) (t : DTT) : Prop := PT X e (liT X.K t)
abbrev DW (X : Cx) (e : Expr) (t : DTT) : Prop := PW X e (liT X.K t)
abbrev DA (X : Cx) (es : List Expr) (t : DTA) : Prop := PA X es (liA X.K t)
abbrev DS (X : Cx) (s : Stmt) (t : DTS) : Prop := PS X s (liS X.K t)
abbrev DSs (X : Cx) (s : List Stmt) (t : DTS) : Prop := PSs X s (liS X.K t)
abbrev DG (X : Cx) (e : Expr) (g : DTG) : Prop := PG X e (liG X.K g)
abbrev DGs (X : Cx) (es : List Expr) (g : DTGs) : Prop := PGs X es (liGs X.K g)
theorem peI {X : Cx} {e : Expr} {t t' : TE} (h : PE X e t) (i : ∀ σ H Q, t' σ H Q → t σ H Q) : PE X e t' := ⟨fun pins s σ H Q I q => h.run pins s σ H Q I (i σ H Q q)⟩
theorem ptI {X : Cx} {e : Expr} {t t' : TT} (h : PT X e t) (i : ∀ σ H Q, t' σ H Q → t σ H Q) : PT X e t' := ⟨fun pins s σ H Q I q => h.run pins s σ H Q I (i σ H Q q)⟩
theorem pwI {X : Cx} {e : Expr} {t t' : TT} (h : PW X e t) (i : ∀ σ H Q, t' σ H Q → t σ H Q) : PW X e t' := ⟨fun wh pins s σ H Q I q => h.run wh pins s σ H Q I (i σ H Q q)⟩
theorem paI {X : Cx} {e : List Expr} {t t' : TA} (h : PA X e t) (i : ∀ σ H Q, t' σ H Q → t σ H Q) : PA X e t' := ⟨fun pos pins s σ H Q I q => h.run pos pins s σ H Q I (i σ H Q q)⟩
theorem psI {X : Cx} {e : Stmt} {t t' : TS} (h : PS X e t) (i : ∀ Z σ H, t' Z σ H → t Z σ H) : PS X e t' := ⟨fun pins s σ H Z I q => h.run pins s σ H Z I (i Z σ H q)⟩
theorem pssI {X : Cx} {e : List Stmt} {t t' : TS} (h : PSs X e t) (i : ∀ Z σ H, t' Z σ H → t Z σ H) : PSs X e t' := ⟨fun pins s σ H Z I q => h.run pins s σ H Z I (i Z σ H q)⟩
theorem pgI {X : Cx} {e : Expr} {t t' : TG} (h : PG X e t) (i : ∀ v σ H Q, t' v σ H Q → t v σ H Q) : PG X e t' := ⟨fun pins s σ H v u Q I r q => h.run pins s σ H v u Q I r (i v σ H Q q)⟩
theorem pgsI {X : Cx} {e : List Expr} {t t' : TGs} (h : PGs X e t) (i : ∀ v σ H Q, t' v σ H Q → t v σ H Q) : PGs X e t' := ⟨fun pins s σ H v u Q I r q => h.run pins s σ H v u Q I r (i v σ H Q q)⟩

/-! ### names, constants -/
def dVar (i : Nat) : DTE := fun τ M Q => ∃ d, τ[i]? = some (some d) ∧ Q d M
def dC (d : D) : DTE := fun _ M Q => Q d M
section
variable {X : Cx} {pos : Pos}
theorem de_var {e : Expr} {i : Nat} (h : PE X e (tVar i)) : DE X e (dVar i) := peI h fun σ H Q ⟨τ, M, F, P, s, ⟨d, e, p⟩, k⟩ => by
  obtain ⟨v, a, b⟩ := s.sl.at_ i d e
  exact ⟨v, a, k d M v H p (To.refl s.ok) b⟩
theorem dv (i : Nat) {x : Str} {pos : Pos} (hN : X.N[i]? = some x := by rfl) (hv : Vis X.env.scope x := by first | exact Or.inl rfl | exact Or.inr (Or.inl rfl) | exact Or.inr (Or.inr rfl)) (hd : (x == ("__debug__" : Str)) = false := by decide)
    (hcd : (x == ("__classdict__" : Str)) = false := by decide) : DE X (.Name x pos) (dVar i) := de_var (pe_var hN hv hd hcd)
theorem de_c {e : Expr} {v : V} {d : D} (h : PE X e (tC v)) (r : ∀ S, Is X.K S v d) : DE X e (dC d) := peI h fun σ H Q ⟨τ, M, F, P, s, p, k⟩ => k d M v H p (To.refl s.ok) (r _)
theorem de_int {i j} : DE X (.Constant (.int i) j pos) (dC (.int i)) := de_c pe_int fun _ => .int i
theorem de_bl {b j} : DE X (.Constant (.bool b) j pos) (dC (.bl b)) := de_c pe_bl fun _ => .bl b
theorem de_non {j} : DE X (.Constant .none j pos) (dC .non) := de_c pe_non fun _ => .non
theorem de_str {x j} : DE X (.Constant (.str x) j pos) (dC (.str x)) := de_c pe_str fun _ => .str x
end

/-! ### two-place operations by value -/
abbrev DOp := D → D → Mem → (D → Mem → Prop) → Prop
def liO (K : PySem.W.Frag) (f : DOp) : R2 := fun x y H Q => ∃ dx dy M F P, Ok K F H M ∧ Is K (stab H M F) x dx ∧ Is K (stab H M F) y dy ∧ f dx dy M P ∧ ∀ d M' v H', P d M' → To K F H M H' M' → Is K (stab H' M' F) v d → Q v H'
def dOp (f : DOp) (ta tb : DTE) : DTE := fun τ M Q => ta τ M fun x M1 => tb τ M1 fun y M2 => f x y M2 Q
theorem liOp {K : PySem.W.Frag} {f : DOp} {ta tb : DTE} (σ : St) (H : Hp) (Q : VK) (h : liE K (dOp f ta tb) σ H Q) : tOp (liO K f) (liE K ta) (liE K tb) σ H Q := by
  obtain ⟨τ, M, F, P, s, q, k⟩ := h
  refine ⟨τ, M, F, _, s, q, fun x M1 vx H1 q1 t1 r1 => ?_⟩
  refine ⟨τ, M1, F, _, s.to t1, q1, fun y M2 vy H2 q2 t2 r2 => ?_⟩
  exact ⟨x, y, M2, F, P, t2.ok, r1.mono t2.ex, r2, q2, fun d M' v H' p t => k d M' v H' p ((t1.trans t2).trans t)⟩
end DL

set_option Elab.async false
set_option linter.all false
set_option maxRecDepth 100000
set_option maxHeartbeats 2000000
namespace DL
open PySem L2

theorem stab_le {H : Hp} {M : Mem} {F : Fr} : Ex (stab H M F) H := fun _ _ e => (stab_eq.mp e).2.2

/-! ### statements -/
def dNext : DTS := fun Y τ M => Y.nx τ M
def dSeq (t u : DTS) : DTS := fun Y τ M => t { Y with nx := u Y } τ M
def dBreak : DTS := fun Y τ M => Y.bk τ M
def dCont : DTS := fun Y τ M => Y.ct τ M
def dDrop (t : DTE) : DTS := fun Y τ M => t τ M fun _ M1 => Y.nx τ M1
/-- what is seen as changeable, from now on seen as data -/
def Vw (M N : Mem) (d e : D) : Prop := ∀ (K : PySem.W.Frag) (F : Fr) (H : Hp) (v : V), Ok K F H M → Is K (stab H M F) v d → Is K (stab H N F) v e
def VwL (M N : Mem) (ds es : List D) : Prop := ∀ (K : PySem.W.Frag) (F : Fr) (H : Hp) (vs : List V), Ok K F H M → IsL K (stab H M F) vs ds → IsL K (stab H N F) vs es
def VwS (M N : Mem) (τ τ' : DSt) : Prop := ∀ (K : PySem.W.Frag) (F : Fr) (H : Hp) (σ : St), Ok K F H M → IsS K (stab H M F) σ τ → IsS K (stab H N F) σ τ'
section
variable {M N : Mem} {d e : D} {ds es xs ys : List D} {a : Addr} {τ τ' : DSt}
theorem Vw.same (s : Sub N M) : Vw M N d d := fun K F H v o r => r.mono (To.sub o s).ex
theorem VwL.same (s : Sub N M) : VwL M N ds ds := fun K F H v o r => r.mono (To.sub o s).ex
theorem VwS.same (s : Sub N M) : VwS M N τ τ := fun K F H v o r => r.mono (To.sub o s).ex
theorem VwL.cons (h : Vw M N d e) (r : VwL M N ds es) : VwL M N (d :: ds) (e :: es) := fun K F H vs o q => by
  cases q with
  | cons q1 q2 => exact .cons (h K F H _ o q1) (r K F H _ o q2)
theorem Vw.cell (n : N a = none) (h : M a = some (.lst xs)) (r : VwL M N xs ys) : Vw M N (.ref a) (.lst ys) := fun K F H v o q => by
  cases q
  obtain ⟨vs, h1, h2⟩ := o.mem _ _ h
  have nf : F a = false := by
    cases q : F a with
    | false => rfl
    | true => rw [(o.hid a q).1] at h; cases h
  exact .lst (stab_eq.mpr ⟨n, nf, h1⟩) (r K F H _ o h2)
theorem Vw.lst (s : Sub N M) (r : VwL M N ds es) : Vw M N (.lst ds) (.lst es) := fun K F H v o q => by
  cases q with
  | lst h1 h2 => exact .lst ((To.sub o s).ex _ _ h1) (r K F H _ o h2)
theorem Vw.tup (s : Sub N M) (r : VwL M N ds es) : Vw M N (.tup ds) (.tup es) := fun K F H v o q => by
  cases q with
  | tup h1 h2 => exact .tup (ex_t (To.sub o s).ex h1) (r K F H _ o h2)
theorem VwS.set (s : Sub N M) (i : Nat) (g : τ[i]? = some (some d)) (h : Vw M N d e) : VwS M N τ (τ.set i (some e)) := fun K F H σ o q => by
  refine ⟨by rw [List.length_set]; exact q.len, fun j x hx => ?_⟩
  by_cases hj : i = j
  · subst hj
    have hi := (List.getElem?_eq_some_iff.mp g).1
    rw [List.getElem?_set_self hi] at hx
    cases hx
    obtain ⟨v, h1, h2⟩ := q.at_ i d g
    exact ⟨v, h1, h K F H v o h2⟩
  · rw [List.getElem?_set_ne hj] at hx
    obtain ⟨v, h1, h2⟩ := q.at_ j x hx
    exact ⟨v, h1, h2.mono (To.sub o s).ex⟩
end
/-- how a result may be seen by the caller -/
inductive View (M : Mem) : D → Mem → D → Prop
  | same {N : Mem} {d : D} (s : Sub N M) : View M d N d
  | lst {N : Mem} {a : Addr} {xs : List D} (s : Sub N M) (n : N a = none) (h : M a = some (.lst xs)) : View M (.ref a) N (.lst xs)
  | obj {N : Mem} {a C : Addr} {gs : List (Str × D)} (s : Sub N M) (n : N a = none) (h : M a = some (.ins C gs)) : View M (.ref a) N (.obj C gs)
  | dic {N : Mem} {a : Addr} {xs : List (Key × D)} (s : Sub N M) (n : N a = none) (h : M a = some (.dic xs)) : View M (.ref a) N (.dic xs)
  | fz {N : Mem} {d e : D} (s : Sub N M) (h : Vw M N d e) : View M d N e
theorem View.to {K : PySem.W.Frag} {F : Fr} {H : Hp} {M N : Mem} {d e : D} {v : V} (w : View M d N e) (o : Ok K F H M) (r : Is K (stab H M F) v d) : To K F H M H N ∧ Is K (stab H N F) v e := by
  have nf : ∀ a m, M a = some m → F a = false := fun a m h => by
    cases q : F a with
    | false => rfl
    | true => rw [(o.hid a q).1] at h; cases h
  cases w with
  | same s => exact ⟨To.sub o s, r.mono (To.sub o s).ex⟩
  | lst s n h =>
    cases r
    obtain ⟨vs, h1, h2⟩ := o.mem _ _ h
    exact ⟨To.sub o s, .lst (stab_eq.mpr ⟨n, nf _ _ h, h1⟩) (h2.mono (To.sub o s).ex)⟩
  | obj s n h =>
    cases r
    obtain ⟨dx, vs, h1, h2⟩ := o.mem _ _ h
    exact ⟨To.sub o s, .obj (stab_eq.mpr ⟨n, nf _ _ h, h1⟩) (h2.mono (To.sub o s).ex)⟩
  | dic s n h =>
    cases r
    obtain ⟨vs, h1, h2⟩ := o.mem _ _ h
    exact ⟨To.sub o s, .dic (stab_eq.mpr ⟨n, nf _ _ h, h1⟩) (h2.mono (To.sub o s).ex)⟩
  | fz s h => exact ⟨To.sub o s, h K F H v o r⟩
def dRet (t : DTE) : DTS := fun Y τ M => t τ M fun d M1 => ∃ N e, View M1 d N e ∧ Y.rt e N
def dRetN : DTS := fun Y τ M => ∃ N, Sub N M ∧ Y.rt .non N
def dNever : DTS := fun _ _ _ => False
def dIfS (c : DTT) (t u : DTS) : DTS := fun Y τ M => c τ M fun b M1 => if b = true then t Y τ M1 else u Y τ M1
section
variable {X : Cx} {st : Stmt} {rest : List Stmt} {t u : DTS} {e : Expr} {te : DTE} {pos : Pos}
theorem dss_nil : DSs X [] dNext := pssI pss_nil fun Z σ H ⟨τ, M, F, Y, s, k, q⟩ => k.nx σ H τ M (To.refl s.ok) s.sl q
theorem liSeq {K : PySem.W.Frag} (Z : Ends) (σ : St) (H : Hp) (h : liS K (dSeq t u) Z σ H) : tSeq (liS K t) (liS K u) Z σ H := by
  obtain ⟨τ, M, F, Y, s, k, q⟩ := h
  refine ⟨τ, M, F, { Y with nx := u Y }, s, ⟨fun σ' H' τ' M' t' s' q' => ?_, k.bk, k.ct, k.rt⟩, q⟩
  exact ⟨τ', M', F, Y, ⟨t'.ok, s'⟩, k.to t', q'⟩
theorem dss_cons (h1 : DS X st t) (h2 : DSs X rest u) : DSs X (st :: rest) (dSeq t u) := pssI (pss_cons h1 h2) liSeq
theorem dss_one (h1 : DS X st t) : DSs X [st] t := pss_one h1
theorem ds_pass : DS X (.Pass pos) dNext := psI ps_pass fun Z σ H ⟨τ, M, F, Y, s, k, q⟩ => k.nx σ H τ M (To.refl s.ok) s.sl q
theorem ds_break : DS X (.Break pos) dBreak := psI ps_break fun Z σ H ⟨τ, M, F, Y, s, k, q⟩ => k.bk σ H τ M (To.refl s.ok) s.sl q
theorem ds_continue : DS X (.Continue pos) dCont := psI ps_continue fun Z σ H ⟨τ, M, F, Y, s, k, q⟩ => k.ct σ H τ M (To.refl s.ok) s.sl q
theorem ds_doc {x j pos pos'} : DS X (.Expr (.Constant (.str x) j pos) pos') dNext := psI ps_doc fun Z σ H ⟨τ, M, F, Y, s, k, q⟩ => k.nx σ H τ M (To.refl s.ok) s.sl q
theorem ds_expr (he : DE X e te) (hs : swapsWith e none pos.line X.env = pure false := by rfl) : DS X (.Expr e pos) (dDrop te) := psI (ps_expr he hs) fun Z σ H ⟨τ, M, F, Y, s, k, q⟩ =>
  ⟨τ, M, F, _, s, q, fun d M' v H' q' t' _ => k.nx σ H' τ M' t' (s.to t').sl q'⟩
theorem ds_ret (he : DE X e te) : DS X (.Return (some e) pos) (dRet te) := psI (ps_ret he) fun Z σ H ⟨τ, M, F, Y, s, k, q⟩ =>
  ⟨τ, M, F, _, s, q, fun d M' v H' ⟨N, e, w, q'⟩ t' r => let ⟨t2, r2⟩ := w.to t'.ok r; k.rt v H' e N (t'.trans t2) r2 q'⟩
theorem ds_retN : DS X (.Return none pos) dRetN := psI ps_retN fun Z σ H ⟨τ, M, F, Y, s, k, N, w, q⟩ => k.rt .non H .non N (To.sub s.ok w) .non q
theorem ds_never : DS X st dNever := psI ps_never fun Z σ H ⟨τ, M, F, Y, s, k, q⟩ => q.elim
theorem dss_never {sts : List Stmt} : DSs X sts dNever := pssI pss_never fun Z σ H ⟨τ, M, F, Y, s, k, q⟩ => q.elim
theorem ds_if {c : Expr} {a b : List Stmt} {tc : DTT} (hc : DT X c tc) (ha : DSs X a t) (hb : DSs X b u) : DS X (.If c a b pos) (dIfS tc t u) := psI (ps_if hc ha hb) fun Z σ H ⟨τ, M, F, Y, s, k, q⟩ =>
  ⟨τ, M, F, _, s, q, fun b M' H' q' t' => by
    cases b with
    | true => exact ⟨τ, M', F, Y, s.to t', k.to t', q'⟩
    | false => exact ⟨τ, M', F, Y, s.to t', k.to t', q'⟩⟩
end

/-! ### targets -/
def gNm (i : Nat) : DTG := fun d τ M Q => Q (τ.set i (some d)) M
def gsNil : DTGs := fun ds τ M Q => ds = [] ∧ Q τ M
def gsCons (g : DTG) (gs : DTGs) : DTGs := fun ds τ M Q => ∃ d r, ds = d :: r ∧ g d τ M fun τ' M' => gs r τ' M' Q
def gTp (n : Nat) (gs : DTGs) : DTG := fun d τ M Q => ∃ xs, d = .tup xs ∧ xs.length = n ∧ gs xs τ M Q
def dAsg (t : DTE) (g : DTG) : DTS := fun Y τ M => t τ M fun d M1 => g d τ M1 Y.nx
section
variable {X : Cx} {pos : Pos}
theorem dg_name {i : Nat} {x : Str} (hN : X.N.Nodup) (hi : X.N[i]? = some x) (hx : Loc X.env.scope x) (hf : X.fn x = true ∨ X.env.scope.names.lookup x = some .local := by first | exact .inl rfl | exact .inr rfl | assumption) : DG X (.Name x pos) (gNm i) :=
  pgI (pg_name hN hi hx hf) fun v σ H Q ⟨d, τ, M, F, P, s, r, q, k⟩ => k _ M _ H q (To.refl s.ok) (s.sl.set i r)
theorem dgs_nil : DGs X [] gsNil := pgsI pgs_nil fun v σ H Q ⟨ds, τ, M, F, P, s, r, ⟨e, q⟩, k⟩ => by
  subst e; cases r; exact ⟨rfl, k τ M σ H q (To.refl s.ok) s.sl⟩
theorem dgs_cons {e : Expr} {es : List Expr} {t : DTG} {u : DTGs} (h1 : DG X e t) (h2 : DGs X es u)
    (hs : (assignEach (e :: es) X.env).map (·.2) = assign e X.env :: (assignEach es X.env).map (·.2) := by rfl) : DGs X (e :: es) (gsCons t u) := pgsI (pgs_cons h1 h2 hs) fun v σ H Q ⟨ds, τ, M, F, P, s, r, ⟨d, rr, e, q⟩, k⟩ => by
  subst e
  cases r with
  | cons r1 r2 =>
    exact ⟨_, _, rfl, d, τ, M, F, _, s, r1, q, fun τ' M' σ' H' q' t' s' => ⟨rr, τ', M', F, P, ⟨t'.ok, s'⟩, r2.mono t'.ex, q', fun τ2 M2 σ2 H2 p2 t2 s2 => k τ2 M2 σ2 H2 p2 (t'.trans t2) s2⟩⟩
theorem dg_tup {es : List Expr} {kk : Nat} {t : DTGs} {n : Nat} (hc : X.calm = true) (h : DGs X es t)
    (hn : (assignEach es X.env).length = n := by rfl) (hst : (assignEach es X.env).findIdx? (·.1) = none := by rfl) : DG X (.Tuple es kk pos) (gTp n t) := pgI (pg_tup hc h hn hst) fun v σ H Q ⟨d, τ, M, F, P, s, r, ⟨xs, e, hl, q⟩, k⟩ => by
  subst e
  cases r with
  | tup h1 h2 => exact ⟨_, _, rfl, ex_t stab_le h1, by rw [h2.length, hl], xs, τ, M, F, P, s, h2, q, k⟩
theorem liAsg {K : PySem.W.Frag} {te : DTE} {g : DTG} (Z : Ends) (σ : St) (H : Hp) (h : liS K (dAsg te g) Z σ H) : tAsg (liE K te) (liG K g) Z σ H := by
  obtain ⟨τ, M, F, Y, s, k, q⟩ := h
  exact ⟨τ, M, F, _, s, q, fun d M' v H' q' t' r => ⟨d, τ, M', F, _, s.to t', r, q', fun τ2 M2 σ2 H2 p2 t2 s2 => k.nx σ2 H2 τ2 M2 (t'.trans t2) s2 p2⟩⟩
theorem ds_asg {tg e : Expr} {te : DTE} {g : DTG} (he : DE X e te) (hg : DG X tg g) (hs : swapsWithSole [tg] e pos.line X.env = pure false := by rfl) (hw : swappedStores [tg] e X.env = pure none := by rfl)
    (h1 : (assignEach [tg] X.env).map (·.2) = [assign tg X.env] := by rfl) : DS X (.Assign [tg] e pos) (dAsg te g) := psI (ps_asg he hg hs hw h1) liAsg
theorem liGn {K : PySem.W.Frag} {i : Nat} {te : DTE} (Z : Ends) (σ : St) (H : Hp) (h : liS K (dAsg te (gNm i)) Z σ H) : tAsg (liE K te) (gName i) Z σ H := by
  obtain ⟨τ, M, F, Y, s, k, q⟩ := h
  exact ⟨τ, M, F, _, s, q, fun d M' v H' q' t' r => k.nx _ H' _ M' t' ((s.to t').sl.set i r) q'⟩
theorem ds_set {i : Nat} {x : Str} {e : Expr} {te : DTE} {pos' : Pos} (hN : X.N.Nodup) (hi : X.N[i]? = some x) (hx : Loc X.env.scope x) (he : DE X e te) (hs : swapsWith e (some (.Name x pos')) pos.line X.env = pure false := by rfl) (hf : X.fn x = true ∨ X.env.scope.names.lookup x = some .local := by first | exact .inl rfl | exact .inr rfl | assumption) :
    DS X (.Assign [.Name x pos'] e pos) (dAsg te (gNm i)) := psI (ps_set hN hi hx he hs hf) liGn
end

/-! ### tests -/
def dAnd (t u : DTT) : DTT := fun τ M Q => t τ M fun c M1 => if c = true then u τ M1 Q else Q false M1
def dOr (t u : DTT) : DTT := fun τ M Q => t τ M fun c M1 => if c = true then Q true M1 else u τ M1 Q
def dNot (t : DTT) : DTT := fun τ M Q => t τ M fun c M1 => Q (!c) M1
def dAndV (ta tb : DTE) : DTE := fun τ M Q => ta τ M fun x M1 => ∃ c, x = .bl c ∧ if c = true then tb τ M1 Q else Q (.bl false) M1
def dOrV (ta tb : DTE) : DTE := fun τ M Q => ta τ M fun x M1 => ∃ c, x = .bl c ∧ if c = true then Q (.bl true) M1 else tb τ M1 Q
def dNotV (ta : DTE) : DTE := fun τ M Q => ta τ M fun x M1 => ∃ c, x = .bl c ∧ Q (.bl (!c)) M1
def dIfE (t : DTT) (ta tb : DTE) : DTE := fun τ M Q => t τ M fun c M1 => if c = true then ta τ M1 Q else tb τ M1 Q
/-- the truth of a datum -/
def truD (M : Mem) : D → Bool → Prop
  | .non, b => b = false
  | .bl k, b => b = k
  | .int i, b => b = (i != 0)
  | .lst xs, b => b = !xs.isEmpty
  | .tup xs, b => b = !xs.isEmpty
  | .ref a, b => ∃ xs, M a = some (.lst xs) ∧ b = !xs.isEmpty
  | _, _ => False
def dTru (ta : DTE) : DTT := fun τ M Q => ta τ M fun x M1 => ∃ b, truD M1 x b ∧ Q b M1
theorem IsL.isEmpty {K : PySem.W.Frag} {S : Hp} {vs : List V} {ds : List D} (r : IsL K S vs ds) : vs.isEmpty = ds.isEmpty := by cases r <;> rfl
section
variable {X : Cx} {a b : Expr} {rest : List Expr} {pos : Pos} {ta tb : DTE} {t u : DTT}
theorem liAnd {K : PySem.W.Frag} (σ : St) (H : Hp) (Q : Bool → Hp → Prop) (h : liT K (dAnd t u) σ H Q) : tAnd (liT K t) (liT K u) σ H Q := by
  obtain ⟨τ, M, F, P, s, q, k⟩ := h
  refine ⟨τ, M, F, _, s, q, fun c M' H' q' t' => ?_⟩
  cases c with
  | true => exact ⟨τ, M', F, P, s.to t', q', fun b M2 H2 p2 t2 => k b M2 H2 p2 (t'.trans t2)⟩
  | false => exact k false M' H' q' t'
theorem liOr {K : PySem.W.Frag} (σ : St) (H : Hp) (Q : Bool → Hp → Prop) (h : liT K (dOr t u) σ H Q) : tOr (liT K t) (liT K u) σ H Q := by
  obtain ⟨τ, M, F, P, s, q, k⟩ := h
  refine ⟨τ, M, F, _, s, q, fun c M' H' q' t' => ?_⟩
  cases c with
  | false => exact ⟨τ, M', F, P, s.to t', q', fun b M2 H2 p2 t2 => k b M2 H2 p2 (t'.trans t2)⟩
  | true => exact k true M' H' q' t'
theorem dw_and1 (ha : DT X a t) : DW X (.BoolOp .And [a] pos) t := pw_and1 ha
theorem dw_or1 (ha : DT X a t) : DW X (.BoolOp .Or [a] pos) t := pw_or1 ha
theorem dw_and (ha : DT X a t) (hb : DW X (.BoolOp .And (b :: rest) pos) u) : DW X (.BoolOp .And (a :: b :: rest) pos) (dAnd t u) := pwI (pw_and ha hb) liAnd
theorem dw_or (ha : DT X a t) (hb : DW X (.BoolOp .Or (b :: rest) pos) u) : DW X (.BoolOp .Or (a :: b :: rest) pos) (dOr t u) := pwI (pw_or ha hb) liOr
theorem dt_w (h : DW X a t) : DT X a t := PW.pt h
theorem dt_not (ha : DT X a t) : DT X (.UnaryOp .Not a pos) (dNot t) := ptI (pt_not ha) fun σ H Q ⟨τ, M, F, P, s, q, k⟩ => ⟨τ, M, F, _, s, q, fun c M' H' q' t' => k _ M' H' q' t'⟩
theorem Is.bl_inv {K : PySem.W.Frag} {S : Hp} {v : V} {c : Bool} (r : Is K S v (.bl c)) : v = .bl c := by cases r; rfl
theorem de_one {op} {te : DTE} (h : DE X a te) : DE X (.BoolOp op [a] pos) te := pe_one h
theorem de_and (ha : DE X a ta) (hb : DE X (.BoolOp .And (b :: rest) pos) tb) : DE X (.BoolOp .And (a :: b :: rest) pos) (dAndV ta tb) := peI (pe_and ha hb) fun σ H Q ⟨τ, M, F, P, s, q, k⟩ =>
  ⟨τ, M, F, _, s, q, fun d M' v H' ⟨c, e, q'⟩ t' r => by
    subst e
    refine ⟨c, r.bl_inv, ?_⟩
    cases c with
    | true => exact ⟨τ, M', F, P, s.to t', q', fun b M2 v2 H2 p2 t2 => k b M2 v2 H2 p2 (t'.trans t2)⟩
    | false => exact k _ M' _ H' q' t' (.bl false)⟩
theorem de_or (ha : DE X a ta) (hb : DE X (.BoolOp .Or (b :: rest) pos) tb) : DE X (.BoolOp .Or (a :: b :: rest) pos) (dOrV ta tb) := peI (pe_or ha hb) fun σ H Q ⟨τ, M, F, P, s, q, k⟩ =>
  ⟨τ, M, F, _, s, q, fun d M' v H' ⟨c, e, q'⟩ t' r => by
    subst e
    refine ⟨c, r.bl_inv, ?_⟩
    cases c with
    | false => exact ⟨τ, M', F, P, s.to t', q', fun b M2 v2 H2 p2 t2 => k b M2 v2 H2 p2 (t'.trans t2)⟩
    | true => exact k _ M' _ H' q' t' (.bl true)⟩
theorem de_not (ha : DE X a ta) : DE X (.UnaryOp .Not a pos) (dNotV ta) := peI (pe_not ha) fun σ H Q ⟨τ, M, F, P, s, q, k⟩ =>
  ⟨τ, M, F, _, s, q, fun d M' v H' ⟨c, e, q'⟩ t' r => by subst e; exact ⟨c, r.bl_inv, k _ M' _ H' q' t' (.bl _)⟩⟩
theorem de_ifE {c : Expr} (hc : DT X c t) (ha : DE X a ta) (hb : DE X b tb) : DE X (.IfExp c a b pos) (dIfE t ta tb) := peI (pe_ifExp hc ha hb) fun σ H Q ⟨τ, M, F, P, s, q, k⟩ =>
  ⟨τ, M, F, _, s, q, fun c M' H' q' t' => by
    cases c with
    | true => exact ⟨τ, M', F, P, s.to t', q', fun b M2 v2 H2 p2 t2 => k b M2 v2 H2 p2 (t'.trans t2)⟩
    | false => exact ⟨τ, M', F, P, s.to t', q', fun b M2 v2 H2 p2 t2 => k b M2 v2 H2 p2 (t'.trans t2)⟩⟩
theorem dt_tru (ha : DE X a ta) (he : ∀ whole, isTrue a X.env whole = (do let v ← whole; standAt a.pos; holding [v] (truthy v)) := by intro _; rfl) : DT X a (dTru ta) := ptI (pt_truth ha he) fun σ H Q ⟨τ, M, F, P, s, q, k⟩ =>
  ⟨τ, M, F, _, s, q, fun d M' v H' ⟨b, e, q'⟩ t' r => by
    refine ⟨b, ?_, k b M' H' q' t'⟩
    cases d with
    | non => cases r; exact e
    | bl c => cases r; exact e
    | int i => cases r; exact e
    | lst xs => cases r with | lst h1 h2 => exact .inl ⟨_, SqL.of (stab_le _ _ h1), by rw [h2.isEmpty]; exact e⟩
    | tup xs => cases r with | tup h1 h2 => exact .inr (.inl ⟨_, ex_t stab_le h1, by rw [h2.isEmpty]; exact e⟩)
    | ref a =>
      cases r
      obtain ⟨xs, h1, e⟩ := e
      obtain ⟨vs, h2, h3⟩ := t'.ok.mem _ _ h1
      exact .inl ⟨vs, SqL.of h2, by rw [h3.isEmpty]; exact e⟩
    | str x => exact (show False from e).elim
    | ty x => exact (show False from e).elim
    | scr x => exact (show False from e).elim
    | obj x y => exact (show False from e).elim
    | dic x => exact (show False from e).elim
    | dit x => exact (show False from e).elim⟩
end

/-! ### operations -/
theorem opRI {X : Cx} {f : Value → Value → Sem Value} {r r' : R2} (h : OpR X f r) (i : ∀ x y H Q, r' x y H Q → r x y H Q) : OpR X f r' := fun pins s σ H x y v u Q I rx ry q => h pins s σ H x y v u Q I rx ry (i x y H Q q)
/-- ints in, a datum out -/
def oI (C : Int → Int → Prop) (g : Int → Int → D) : DOp := fun x y M Q => ∃ i j, x = .int i ∧ y = .int j ∧ C i j ∧ Q (g i j) M
section
variable {X : Cx} {a b : Expr} {ta tb : DTE} {pos : Pos} {f : Value → Value → Sem Value}
theorem Is.int_inv {K : PySem.W.Frag} {S : Hp} {v : V} {c : Int} (r : Is K S v (.int c)) : v = .int c := by cases r; rfl
theorem or_I {C : Int → Int → Prop} {g : Int → Int → Int} (h : OpR X f (rI C fun i j => .int (g i j))) : OpR X f (liO X.K (oI C fun i j => .int (g i j))) := opRI h fun x y H Q ⟨dx, dy, M, F, P, o, r1, r2, ⟨i, j, e1, e2, c, p⟩, k⟩ => by
  subst e1; subst e2
  exact ⟨i, j, r1.int_inv, r2.int_inv, c, k _ M _ H p (To.refl o) (.int _)⟩
theorem or_I0 {g : Int → Int → Int} (h : OpR X f (rI0 fun i j => .int (g i j))) : OpR X f (liO X.K (oI (fun _ _ => True) fun i j => .int (g i j))) := opRI h fun x y H Q ⟨dx, dy, M, F, P, o, r1, r2, ⟨i, j, e1, e2, c, p⟩, k⟩ => by
  subst e1; subst e2
  exact ⟨i, j, r1.int_inv, r2.int_inv, k _ M _ H p (To.refl o) (.int _)⟩
theorem or_B0 {g : Int → Int → Bool} (h : OpR X f (rI0 fun i j => .bl (g i j))) : OpR X f (liO X.K (oI (fun _ _ => True) fun i j => .bl (g i j))) := opRI h fun x y H Q ⟨dx, dy, M, F, P, o, r1, r2, ⟨i, j, e1, e2, c, p⟩, k⟩ => by
  subst e1; subst e2
  exact ⟨i, j, r1.int_inv, r2.int_inv, k _ M _ H p (To.refl o) (.bl _)⟩
theorem de_op {op : Operator} {g : DOp} (ho : OpR X (binaryOp op) (liO X.K g)) (ha : DE X a ta) (hb : DE X b tb) : DE X (.BinOp a op b pos) (dOp g ta tb) := peI (pe_op ho ha hb) liOp
end
end DL

set_option Elab.async false
set_option linter.all false
set_option maxRecDepth 100000
set_option maxHeartbeats 2000000
namespace DL
open PySem L2

/-! ### lists that can be read -/
def Rdl (M : Mem) (d : D) (xs : List D) : Prop := d = .lst xs ∨ ∃ a, d = .ref a ∧ M a = some (.lst xs)
def Srd (M : Mem) (d : D) (xs : List D) : Prop := Rdl M d xs ∨ d = .scr xs
theorem Rdl.l {M : Mem} {xs : List D} : Rdl M (.lst xs) xs := .inl rfl
theorem Rdl.r {M : Mem} {a : Addr} {xs : List D} (h : M a = some (.lst xs)) : Rdl M (.ref a) xs := .inr ⟨a, rfl, h⟩
theorem Srd.l {M : Mem} {xs : List D} : Srd M (.lst xs) xs := .inl (.inl rfl)
theorem Srd.r {M : Mem} {a : Addr} {xs : List D} (h : M a = some (.lst xs)) : Srd M (.ref a) xs := .inl (.inr ⟨a, rfl, h⟩)
theorem Srd.s {M : Mem} {xs : List D} : Srd M (.scr xs) xs := .inr rfl
theorem Rdl.s {M : Mem} {d : D} {xs : List D} (h : Rdl M d xs) : Srd M d xs := .inl h
section
variable {K : PySem.W.Frag} {F : Fr} {H H' : Hp} {M M' : Mem} {d : D} {v : V} {xs : List D}
theorem Rdl.get (h : Rdl M d xs) (o : Ok K F H M) (r : Is K (stab H M F) v d) : ∃ a vs, v = .ref a ∧ H a = some (.lst vs) ∧ IsL K (stab H M F) vs xs := by
  rcases h with h | ⟨a, h, h1⟩
  · subst h; cases r with | lst h1 h2 => exact ⟨_, _, rfl, stab_le _ _ h1, h2⟩
  · subst h; cases r
    obtain ⟨vs, h2, h3⟩ := o.mem _ _ h1
    exact ⟨a, vs, rfl, h2, h3⟩
theorem Srd.get (h : Srd M d xs) (o : Ok K F H M) (r : Is K (stab H M F) v d) : ∃ a vs, v = .ref a ∧ SqL K H a vs ∧ IsL K (stab H M F) vs xs := by
  rcases h with h | h
  · obtain ⟨a, vs, h1, h2, h3⟩ := h.get o r; exact ⟨a, vs, h1, SqL.of h2, h3⟩
  · subst h; cases r with | scr h1 h2 => exact ⟨_, _, rfl, ex_l stab_le h1, h2⟩
end
def NewL (xs : List D) (M : Mem) (Q : D → Mem → Prop) : Prop := Q (.lst xs) M ∨ ∀ p, M p = none → Q (.ref p) (M.put p (.lst xs))
theorem NewL.ok {K : PySem.W.Frag} {F : Fr} {H : Hp} {M : Mem} {xs : List D} {vs : List V} {p : Addr} {P : D → Mem → Prop} {Q : VK} (q : NewL xs M P) (o : Ok K F H M) (hp : H p = none) (r : IsL K (stab H M F) vs xs)
    (k : ∀ d M' v H', P d M' → To K F H M H' M' → Is K (stab H' M' F) v d → Q v H') : Q (.ref p) (upd H p (.lst vs)) := by
  rcases q with q | q
  · have t := To.new o hp (.lst vs)
    refine k _ M _ _ q t (.lst (vs := vs) ?_ (r.mono t.ex))
    rw [stab_upd o hp]; exact upd_same
  · have t := To.newM o hp (u := .lst vs) (m := .lst xs) ⟨vs, upd_same, r⟩
    exact k _ _ _ _ (q p (o.free hp).1) t (.ref p)
theorem newT {K : PySem.W.Frag} {F : Fr} {H : Hp} {M : Mem} {xs : List D} {vs : List V} {p : Addr} {P : D → Mem → Prop} {Q : VK} (q : P (.tup xs) M) (o : Ok K F H M) (hp : H p = none) (r : IsL K (stab H M F) vs xs)
    (k : ∀ d M' v H', P d M' → To K F H M H' M' → Is K (stab H' M' F) v d → Q v H') : Q (.ref p) (upd H p (.tup vs)) := by
  have t := To.new o hp (.tup vs)
  refine k _ M _ _ q t (.tup (vs := vs) (SqT.of ?_) (r.mono t.ex))
  rw [stab_upd o hp]; exact upd_same

/-! ### argument lists, displays -/
def dNil : DTA := fun _ M Q => Q [] M
def dCons (ta : DTE) (tr : DTA) : DTA := fun τ M Q => ta τ M fun x M1 => tr τ M1 fun xs M2 => Q (x :: xs) M2
def dLst (t : DTA) : DTE := fun τ M Q => t τ M fun xs M1 => xs.length ≤ sizeLine ∧ NewL xs M1 Q
def dTup (t : DTA) : DTE := fun τ M Q => t τ M fun xs M1 => xs.length ≤ sizeLine ∧ Q (.tup xs) M1
section
variable {X : Cx} {e : Expr} {es : List Expr} {te : DTE} {t : DTA} {pos : Pos}
theorem da_nil : DA X [] dNil := paI pa_nil fun σ H Q ⟨τ, M, F, P, s, p, k⟩ => k [] M [] H p (To.refl s.ok) .nil
theorem da_cons (ha : DE X e te) (hr : DA X es t) (hs : starEach (e :: es) X.env = (false, eval e X.env) :: starEach es X.env := by rfl) : DA X (e :: es) (dCons te t) := paI (pa_cons ha hr hs) fun σ H Q ⟨τ, M, F, P, s, p, k⟩ =>
  ⟨τ, M, F, _, s, p, fun d M1 v H1 p1 t1 r1 => ⟨τ, M1, F, _, s.to t1, p1, fun ds M2 vs H2 p2 t2 r2 => k (d :: ds) M2 (v :: vs) H2 p2 (t1.trans t2) (.cons (r1.mono t2.ex) r2)⟩⟩
theorem de_lst (h : DA X es t) : DE X (.List es pos) (dLst t) := peI (pe_lst h) fun σ H Q ⟨τ, M, F, P, s, p, k⟩ =>
  ⟨τ, M, F, _, s, p, fun ds M1 vs H1 ⟨hz, q⟩ t1 r => ⟨by rw [r.length]; exact hz, fun p hp => q.ok t1.ok hp r fun d M2 v H2 p2 t2 => k d M2 v H2 p2 (t1.trans t2)⟩⟩
theorem de_tup {x1} (h : DA X es t) : DE X (.Tuple es x1 pos) (dTup t) := peI (pe_tup h) fun σ H Q ⟨τ, M, F, P, s, p, k⟩ =>
  ⟨τ, M, F, _, s, p, fun ds M1 vs H1 ⟨hz, q⟩ t1 r => ⟨by rw [r.length]; exact hz, fun p hp => newT q t1.ok hp r fun d M2 v H2 p2 t2 => k d M2 v H2 p2 (t1.trans t2)⟩⟩
end

/-! ### subscripts -/
def oIx : DOp := fun x y M Q => match x, y with
  | .tup xs, .int i => ∃ d, atI xs i = some d ∧ Q d M
  | .str z, .int i => ∃ c, z.length ≤ sizeLine ∧ atI z.cps.toList i = some c ∧ Q (.str ⟨#[c]⟩) M
  | x, .int i => ∃ xs d, Srd M x xs ∧ atI xs i = some d ∧ Q d M
  | _, _ => False
theorem atI_is {K : PySem.W.Frag} {S : Hp} {vs : List V} {xs : List D} {i : Int} {d : D} (r : IsL K S vs xs) (h : atI xs i = some d) : ∃ v, atI vs i = some v ∧ Is K S v d := by
  unfold atI at h ⊢
  rw [r.length]
  cases e : ixN xs.length i with
  | none => rw [e] at h; cases h
  | some j => rw [e] at h; exact r.at h
section
variable {X : Cx} {a b o : Expr} {ta tb : DTE} {pos : Pos}
theorem ixRI {r r' : R2} (h : IxR X r) (i : ∀ x y H Q, r' x y H Q → r x y H Q) : IxR X r' := fun ve sl pins s σ H x y v u Q I rx ry q => h ve sl pins s σ H x y v u Q I rx ry (i x y H Q q)
theorem ix_d : IxR X (liO X.K oIx) := ixRI ix_seq fun x y H Q ⟨dx, dy, M, F, P, o, r1, r2, q, k⟩ => by
  have fin : ∀ (j : Int) (xs : List D) (d : D), Is X.K (stab H M F) y (.int j) → Srd M dx xs → atI xs j = some d → P d M → rIx X.K x y H Q := fun j xs d ry sr ha p => by
    obtain ⟨a, vs, h1, h2, h3⟩ := sr.get o r1
    obtain ⟨v, h4, h5⟩ := atI_is h3 ha
    exact .inl ⟨a, vs, j, v, h1, ry.int_inv, h2, h4, k d M v H p (To.refl o) h5⟩
  cases dy with
  | int j =>
    cases dx with
    | tup xs =>
      obtain ⟨d, ha, p⟩ := q
      cases r1 with
      | tup h1 h2 =>
        obtain ⟨v, h4, h5⟩ := atI_is h2 ha
        exact .inr (.inl ⟨_, _, j, v, rfl, r2.int_inv, ex_t stab_le h1, h4, k d M v H p (To.refl o) h5⟩)
    | str z =>
      obtain ⟨c, hz, ha, p⟩ := q
      cases r1
      exact .inr (.inr ⟨z, j, c, rfl, r2.int_inv, hz, ha, k _ M _ H p (To.refl o) (.str _)⟩)
    | lst xs => obtain ⟨xs, d, s, ha, p⟩ := q; exact fin j xs d r2 s ha p
    | ref a => obtain ⟨xs, d, s, ha, p⟩ := q; exact fin j xs d r2 s ha p
    | scr a => obtain ⟨xs, d, s, ha, p⟩ := q; exact fin j xs d r2 s ha p
    | non => obtain ⟨xs, d, s, ha, p⟩ := q; exact fin j xs d r2 s ha p
    | bl _ => obtain ⟨xs, d, s, ha, p⟩ := q; exact fin j xs d r2 s ha p
    | int _ => obtain ⟨xs, d, s, ha, p⟩ := q; exact fin j xs d r2 s ha p
    | ty _ => obtain ⟨xs, d, s, ha, p⟩ := q; exact fin j xs d r2 s ha p
    | obj _ _ => obtain ⟨xs, d, s, ha, p⟩ := q; exact fin j xs d r2 s ha p
    | dic _ => obtain ⟨xs, d, s, ha, p⟩ := q; exact fin j xs d r2 s ha p
    | dit _ => obtain ⟨xs, d, s, ha, p⟩ := q; exact fin j xs d r2 s ha p
  | _ => cases dx <;> exact q.elim
theorem de_ix (ha : DE X a ta) (hb : DE X b tb) (hs : PlainIx b := by exact fun _ _ => rfl) : DE X (.Subscript a b pos) (dOp oIx ta tb) := peI (pe_ix ix_d ha hb hs) liOp
/-- o[i] = e -/
def sSetL : D → D → D → Mem → (Mem → Prop) → Prop := fun o i d M Q => ∃ a xs j n, o = .ref a ∧ i = .int j ∧ M a = some (.lst xs) ∧ ixN xs.length j = some n ∧ Q (M.put a (.lst (xs.set n d)))
def gSb (to ti : DTE) (r : D → D → D → Mem → (Mem → Prop) → Prop) : DTG := fun d τ M Q => to τ M fun o M1 => ti τ M1 fun i M2 => r o i d M2 fun M3 => Q τ M3
theorem dg_sub (ho : DE X o ta) (hi : DE X a tb)
    (ha : ∀ v, assign (.Subscript o a pos) X.env v = (do
      let ov ← holding [v] (eval o X.env)
      let iv ← holding [v, ov] (eval a X.env)
      standAt pos
      holding [v, ov, iv] (setItem ov iv v)
      release [v, ov, iv] []) := by intro _; rfl) : DG X (.Subscript o a pos) (gSb ta tb sSetL) := pgI (pg_sub ho hi set_list ha) fun v σ H Q ⟨d, τ, M, F, P, s, r, q, k⟩ =>
  ⟨τ, M, F, _, s, q, fun od M1 ov H1 q1 t1 r1 => ⟨τ, M1, F, _, s.to t1, q1, fun id M2 iv H2 q2 t2 r2 => by
    obtain ⟨a, xs, j, n, e1, e2, hm, hn, p⟩ := q2
    subst e1; subst e2
    cases r1
    obtain ⟨vs, h1, h2⟩ := t2.ok.mem _ _ hm
    have rd := (r.mono t1.ex).mono t2.ex
    have t3 := To.set t2.ok hm (u := .lst (vs.set n v)) (m := .lst (xs.set n d)) ⟨_, upd_same, h2.set rd n⟩
    exact ⟨a, vs, j, n, rfl, r2.int_inv, h1, by rw [h2.length]; exact hn, k τ _ σ _ p ((t1.trans t2).trans t3) (((s.to t1).to t2).to t3).sl⟩⟩⟩
end

/-! ### methods of built-ins -/
abbrev DMt := D → List D → Mem → (D → Mem → Prop) → Prop
def dMt (ck : D → Mem → Prop) (r : DMt) (to : DTE) (t : DTA) : DTE := fun τ M Q => to τ M fun x M1 => ck x M1 ∧ t τ M1 fun xs M2 => r x xs M2 Q
def dMt0 (ck : D → Mem → Prop) (r : DMt) (to : DTE) : DTE := fun τ M Q => to τ M fun x M1 => ck x M1 ∧ r x [] M1 Q
def liM (K : PySem.W.Frag) (r : DMt) : V → List V → Hp → VK → Prop := fun x xs H Q => ∃ d ds M F P, Ok K F H M ∧ Is K (stab H M F) x d ∧ IsL K (stab H M F) xs ds ∧ r d ds M P ∧ ∀ d M' v H', P d M' → To K F H M H' M' → Is K (stab H' M' F) v d → Q v H'
/-- the receiver's kind -/
def CkOk (K : PySem.W.Frag) (T : String) (ck : D → Mem → Prop) : Prop := ∀ (F : Fr) (H : Hp) (M : Mem) (d : D) (v : V), Ok K F H M → Is K (stab H M F) v d → ck d M → tyV K T v H
def ckL : D → Mem → Prop := fun d M => ∃ xs, Srd M d xs
def ckS : D → Mem → Prop := fun d _ => ∃ z, d = .str z
theorem ckL_ok {K : PySem.W.Frag} : CkOk K "list" ckL := fun F H M d v o r ⟨xs, s⟩ => by
  obtain ⟨a, vs, h1, h2, _⟩ := s.get o r
  subst h1; exact .inl ⟨rfl, _, h2⟩
theorem ckS_ok {K : PySem.W.Frag} : CkOk K "str" ckS := fun F H M d v o r ⟨z, e⟩ => by subst e; cases r; rfl
theorem mtRI {X : Cx} {id : String} {r r' : V → List V → Hp → VK → Prop} (h : MtR X id r) (i : ∀ x xs H Q, r' x xs H Q → r x xs H Q) : MtR X id r' := fun pins s σ H x xs v us Q I rx rv q => h pins s σ H x xs v us Q I rx rv (i x xs H Q q)
def mAppend : DMt := fun x ds M Q => ∃ a xs d, x = .ref a ∧ ds = [d] ∧ M a = some (.lst xs) ∧ xs.length < sizeLine ∧ Q .non (M.put a (.lst (xs ++ [d])))
def mExtend : DMt := fun x ds M Q => ∃ a xs d ys, x = .ref a ∧ ds = [d] ∧ M a = some (.lst xs) ∧ Rdl M d ys ∧ xs.length + ys.length ≤ sizeLine ∧ Q .non (M.put a (.lst (xs ++ ys)))
def mClear : DMt := fun x ds M Q => ∃ a xs, x = .ref a ∧ ds = [] ∧ M a = some (.lst xs) ∧ Q .non (M.put a (.lst []))
def mReverse : DMt := fun x ds M Q => ∃ a xs, x = .ref a ∧ ds = [] ∧ M a = some (.lst xs) ∧ Q .non (M.put a (.lst xs.reverse))
def mPopAt : DMt := fun x ds M Q => ∃ a xs i k d, x = .ref a ∧ ds = [.int i] ∧ M a = some (.lst xs) ∧ -(2 ^ 63) ≤ i ∧ i < 2 ^ 63 ∧ seqIndex? i xs.length = some k ∧ xs[k]? = some d ∧ Q d (M.put a (.lst (xs.eraseIdx k)))
def mInsert : DMt := fun x ds M Q => ∃ a xs i d, x = .ref a ∧ ds = [.int i, d] ∧ M a = some (.lst xs) ∧ xs.length < sizeLine ∧ 0 ≤ i ∧ i < 2 ^ 63 ∧ Q .non (M.put a (.lst (xs.take i.toNat ++ [d] ++ xs.drop i.toNat)))
theorem IsL.one_inv {K : PySem.W.Frag} {S : Hp} {vs : List V} {d : D} (r : IsL K S vs [d]) : ∃ v, vs = [v] ∧ Is K S v d := by
  cases r with | cons h r => cases r; exact ⟨_, rfl, h⟩
theorem IsL.two_inv {K : PySem.W.Frag} {S : Hp} {vs : List V} {d e : D} (r : IsL K S vs [d, e]) : ∃ v w, vs = [v, w] ∧ Is K S v d ∧ Is K S w e := by
  cases r with | cons h r => obtain ⟨w, e, q⟩ := r.one_inv; subst e; exact ⟨_, _, rfl, h, q⟩
theorem IsL.nil_inv {K : PySem.W.Frag} {S : Hp} {vs : List V} (r : IsL K S vs []) : vs = [] := by cases r; rfl
theorem IsL.eraseIdx {K : PySem.W.Frag} {S : Hp} : ∀ {vs : List V} {ds : List D} (i : Nat), IsL K S vs ds → IsL K S (vs.eraseIdx i) (ds.eraseIdx i)
  | _, _, _, .nil => .nil
  | _, _, 0, .cons _ r => r
  | _, _, i + 1, .cons h r => .cons h (IsL.eraseIdx i r)
section
variable {X : Cx}
theorem md_append : MtR X "list.append" (liM X.K mAppend) := mtRI mt_append fun x vs H Q ⟨dx, ds, M, F, P, o, r1, r2, ⟨a, xs, d, e1, e2, hm, hz, p⟩, k⟩ => by
  subst e1; subst e2; cases r1
  obtain ⟨v, rfl, rv⟩ := r2.one_inv
  obtain ⟨ws, h1, h2⟩ := o.mem _ _ hm
  have t := To.set o hm (u := .lst (ws ++ [v])) (m := .lst (xs ++ [d])) ⟨_, upd_same, h2.append (.cons rv .nil)⟩
  exact ⟨a, ws, v, rfl, rfl, h1, by rw [h2.length]; exact hz, k _ _ _ _ p t .non⟩
theorem md_extend : MtR X "list.extend" (liM X.K mExtend) := mtRI mt_extend fun x vs H Q ⟨dx, ds, M, F, P, o, r1, r2, ⟨a, xs, d, ys, e1, e2, hm, hr, hz, p⟩, k⟩ => by
  subst e1; subst e2; cases r1
  obtain ⟨v, rfl, rv⟩ := r2.one_inv
  obtain ⟨ws, h1, h2⟩ := o.mem _ _ hm
  obtain ⟨b, us, rfl, h3, h4⟩ := hr.get o rv
  have t := To.set o hm (u := .lst (ws ++ us)) (m := .lst (xs ++ ys)) ⟨_, upd_same, h2.append h4⟩
  exact ⟨a, b, ws, us, rfl, rfl, h1, h3, by rw [h2.length, h4.length]; exact hz, k _ _ _ _ p t .non⟩
theorem md_clear : MtR X "list.clear" (liM X.K mClear) := mtRI mt_clear fun x vs H Q ⟨dx, ds, M, F, P, o, r1, r2, ⟨a, xs, e1, e2, hm, p⟩, k⟩ => by
  subst e1; subst e2; cases r1
  obtain rfl := r2.nil_inv
  obtain ⟨ws, h1, h2⟩ := o.mem _ _ hm
  have t := To.set o hm (u := .lst []) (m := .lst []) ⟨_, upd_same, .nil⟩
  exact ⟨a, ws, rfl, rfl, h1, k _ _ _ _ p t .non⟩
theorem md_reverse : MtR X "list.reverse" (liM X.K mReverse) := mtRI mt_reverse fun x vs H Q ⟨dx, ds, M, F, P, o, r1, r2, ⟨a, xs, e1, e2, hm, p⟩, k⟩ => by
  subst e1; subst e2; cases r1
  obtain rfl := r2.nil_inv
  obtain ⟨ws, h1, h2⟩ := o.mem _ _ hm
  have t := To.set o hm (u := .lst ws.reverse) (m := .lst xs.reverse) ⟨_, upd_same, h2.reverse⟩
  exact ⟨a, ws, rfl, rfl, h1, k _ _ _ _ p t .non⟩
theorem md_popAt : MtR X "list.pop" (liM X.K mPopAt) := mtRI mt_popAt fun x vs H Q ⟨dx, ds, M, F, P, o, r1, r2, ⟨a, xs, i, j, d, e1, e2, hm, l1, l2, hi, hj, p⟩, k⟩ => by
  subst e1; subst e2; cases r1
  obtain ⟨v, rfl, rv⟩ := r2.one_inv
  obtain ⟨ws, h1, h2⟩ := o.mem _ _ hm
  obtain ⟨w, hw, rw'⟩ := h2.at hj
  have t := To.set o hm (u := .lst (ws.eraseIdx j)) (m := .lst (xs.eraseIdx j)) ⟨_, upd_same, h2.eraseIdx j⟩
  exact ⟨a, ws, i, j, w, rfl, by rw [rv.int_inv], h1, l1, l2, by rw [h2.length]; exact hi, hw, k _ _ _ _ p t (rw'.mono t.ex)⟩
end
section
variable {X : Cx} {o e : Expr} {es : List Expr} {to te : DTE} {t : DTA} {name : Str} {apos cpos : Pos} {T id : String} {ck : D → Mem → Prop} {r : DMt}
theorem liMt {K : PySem.W.Frag} (c : CkOk K T ck) (σ : St) (H : Hp) (Q : VK) (h : liE K (dMt ck r to t) σ H Q) : tBM K T (liM K r) (liE K to) (liA K t) σ H Q := by
  obtain ⟨τ, M, F, P, s, q, k⟩ := h
  exact ⟨τ, M, F, _, s, q, fun d M1 v H1 ⟨q0, q1⟩ t1 r1 => ⟨c F H1 M1 d v t1.ok r1 q0, τ, M1, F, _, s.to t1, q1, fun ds M2 vs H2 q2 t2 r2 =>
    ⟨d, ds, M2, F, P, t2.ok, r1.mono t2.ex, r2, q2, fun d' M' v' H' p t => k d' M' v' H' p ((t1.trans t2).trans t)⟩⟩⟩
theorem liMt0 {K : PySem.W.Frag} (c : CkOk K T ck) (σ : St) (H : Hp) (Q : VK) (h : liE K (dMt0 ck r to) σ H Q) : tBM0 K T (liM K r) (liE K to) σ H Q := by
  obtain ⟨τ, M, F, P, s, q, k⟩ := h
  exact ⟨τ, M, F, _, s, q, fun d M1 v H1 ⟨q0, q1⟩ t1 r1 => ⟨c F H1 M1 d v t1.ok r1 q0,
    d, [], M1, F, P, t1.ok, r1, .nil, q1, fun d' M' v' H' p t => k d' M' v' H' p (t1.trans t)⟩⟩
theorem de_bm (pa : PlainAttrs T) (slot : Slot T name id) (hty : typeOf (.builtin id) = pure (.type "method_descriptor")) (c : CkOk X.K T ck) (hm : MtR X id (liM X.K r)) (ho : DE X o to) (ha : DA X (e :: es) t)
    (hbase : attributeBase o name X.env (eval o X.env) = eval o X.env := by rfl)
    (hfew : ((backTo cpos (starEach (e :: es) X.env)).all (fun x => !x.1) && (backToKw cpos (keywordEach [] X.env)).all (fun x => x.1.isSome)
      && decide ((e :: es).length + ([] : List Keyword).length + (if ([] : List Keyword).isEmpty then 0 else 1) < 30)) = true := by rfl)
    (hline : (apos.endLine == cpos.line) = true := by rfl) (hs : starEach (e :: es) X.env = (false, eval e X.env) :: starEach es X.env := by rfl) (hplain : (backTo cpos (starEach es X.env)).any (·.1) = false := by rfl) :
    DE X (.Call (.Attribute o name apos) (e :: es) [] cpos) (dMt ck r to t) := peI (pe_bm pa slot hty hm ho ha hbase hfew hline hs hplain) (liMt c)
theorem de_bm0 (pa : PlainAttrs T) (slot : Slot T name id) (hty : typeOf (.builtin id) = pure (.type "method_descriptor")) (c : CkOk X.K T ck) (hm : MtR X id (liM X.K r)) (ho : DE X o to)
    (hbase : attributeBase o name X.env (eval o X.env) = eval o X.env := by rfl) (hline : (apos.endLine == cpos.line) = true := by rfl) : DE X (.Call (.Attribute o name apos) [] [] cpos) (dMt0 ck r to) :=
  peI (pe_bm0 pa slot hty hm ho hbase hline) (liMt0 c)
end

/-! ### walks -/
/-- an iteration over items: at every turn what must hold of the memory, and the items -/
structure Wk where
  items : List D
  stay : Mem → Prop
abbrev DTI := DSt → Mem → (Wk → Mem → Prop) → Prop
structure Adq (K : PySem.W.Frag) (F : Fr) (J : It) (W : Wk) (H : Hp) (M : Mem) : Prop where
  now : W.stay M
  go : ∀ i F' H' M', Ok K F' H' M' → Ex (stab H M F) (stab H' M' F') → W.stay M' → i < W.items.length → J.go i H'
  yld : ∀ i F' H' M' x H2, Ok K F' H' M' → Ex (stab H M F) (stab H' M' F') → W.stay M' → i < W.items.length → J.yld i H' x H2 → To K F' H' M' H2 M' ∧ ∃ d, W.items[i]? = some d ∧ Is K (stab H2 M' F') x d
  stop : ∀ F' H' M', Ok K F' H' M' → Ex (stab H M F) (stab H' M' F') → W.stay M' → J.stop W.items.length H'
def liI (K : PySem.W.Frag) (wi : DTI) : TI := fun σ H R => ∃ τ M F P, Stt K F H M σ τ ∧ wi τ M P ∧ ∀ W M' J H', P W M' → To K F H M H' M' → Adq K F J W H' M' → R J H'
abbrev DI (X : Cx) (tg iter : Expr) (wi : DTI) : Prop := PI X tg iter (liI X.K wi)
theorem piI {X : Cx} {tg e : Expr} {t t' : TI} (h : PI X tg e t) (i : ∀ σ H R, t' σ H R → t σ H R) : PI X tg e t' := ⟨fun pins s σ H R I q => h.run pins s σ H R I (i σ H R q)⟩
/-- over a list, over a tuple, over a range -/
def wList (te : DTE) : DTI := fun τ M Q => te τ M fun d M1 => ∃ xs, Srd M1 d xs ∧ Q ⟨xs, fun M' => Srd M' d xs⟩ M1
def wTup (te : DTE) : DTI := fun τ M Q => te τ M fun d M1 => ∃ xs, d = .tup xs ∧ Q ⟨xs, fun _ => True⟩ M1
def rangeD (lo : Int) (n : Nat) : List D := (List.range n).map fun (i : Nat) => D.int (lo + (i : Int))
def wRng1 (t : DTA) : DTI := fun τ M Q => t τ M fun ds M1 => ∃ j : Int, ds = [.int j] ∧ -(2 ^ 62) ≤ j ∧ j < 2 ^ 62 ∧ Q ⟨rangeD 0 j.toNat, fun _ => True⟩ M1
def wRng2 (t : DTA) : DTI := fun τ M Q => t τ M fun ds M1 => ∃ i j : Int, ds = [.int i, .int j] ∧ (-(2 ^ 62) ≤ i ∧ i < 2 ^ 62 ∧ -(2 ^ 62) ≤ j ∧ j < 2 ^ 62) ∧ Q ⟨rangeD i (j - i).toNat, fun _ => True⟩ M1
theorem rangeD_len (lo : Int) (n : Nat) : (rangeD lo n).length = n := by unfold rangeD; simp
theorem rangeD_get {lo : Int} {n i : Nat} (h : i < n) : (rangeD lo n)[i]? = some (.int (lo + (i : Int))) := by unfold rangeD; simp [h]
section
variable {X : Cx} {tg e a b : Expr} {te : DTE} {t : DTA} {p pos : Pos}
theorem lget {α : Type} {xs : List α} {i : Nat} (h : i < xs.length) : ∃ x, xs[i]? = some x := ⟨xs[i], by simp [h]⟩
theorem di_list (he : DE X e te) : DI X tg e (wList te) := piI (pi_list he) fun σ H R ⟨τ, M, F, P, s, q, k⟩ =>
  ⟨τ, M, F, _, s, q, fun d M1 v H1 ⟨xs, sr, q1⟩ t1 r1 => by
    obtain ⟨a, vs, e1, h1, h2⟩ := sr.get t1.ok r1
    subst e1
    refine ⟨a, rfl, ⟨vs, h1⟩, k _ M1 _ H1 q1 t1 ⟨sr, fun i F' H' M' ok ex st hi => ?_, fun i F' H' M' x H2 ok ex st _ y => ?_, fun F' H' M' ok ex st => ?_⟩⟩
    · obtain ⟨b, ws, e2, h3, h4⟩ := Srd.get st ok (r1.mono ex)
      cases e2
      obtain ⟨x, hx⟩ := lget (xs := ws) (i := i) (by rw [h4.length]; exact hi)
      exact ⟨ws, x, h3, hx⟩
    · obtain ⟨b, ws, e2, h3, h4⟩ := Srd.get st ok (r1.mono ex)
      cases e2
      obtain ⟨e3, y⟩ := y
      subst e3
      have hx := y ws h3
      have hi : i < xs.length := by rw [← h4.length]; exact (List.getElem?_eq_some_iff.mp hx).1
      obtain ⟨d, hd⟩ := lget hi
      exact ⟨To.refl ok, d, hd, h4.get hx hd⟩
    · obtain ⟨b, ws, e2, h3, h4⟩ := Srd.get st ok (r1.mono ex)
      cases e2
      exact ⟨ws, h3, by rw [h4.length]; exact Nat.le_refl _⟩⟩
theorem di_tup (he : DE X e te) : DI X tg e (wTup te) := piI (pi_tup he) fun σ H R ⟨τ, M, F, P, s, q, k⟩ =>
  ⟨τ, M, F, _, s, q, fun d M1 v H1 ⟨xs, e1, q1⟩ t1 r1 => by
    subst e1
    cases r1 with
    | @tup a vs _ h1 h2 =>
      have st : ∀ F' H' M', Ex (stab H1 M1 F) (stab H' M' F') → SqT X.K H' a vs := fun F' H' M' t2 => ex_t (t2.trans stab_le) h1
      refine ⟨_, rfl, ⟨vs, ex_t stab_le h1⟩, k _ M1 _ H1 q1 t1 ⟨trivial, fun i F' H' M' ok ex _ hi => ?_, fun i F' H' M' x H2 ok ex _ hi y => ?_, fun F' H' M' ok ex _ => ?_⟩⟩
      · obtain ⟨x, hx⟩ := lget (xs := vs) (i := i) (by rw [h2.length]; exact hi)
        exact ⟨vs, x, st F' H' M' ex, hx⟩
      · obtain ⟨e3, y⟩ := y
        subst e3
        have hx := y vs (st F' _ M' ex)
        obtain ⟨d, hd⟩ := lget hi
        exact ⟨To.refl ok, d, hd, (h2.mono ex).get hx hd⟩
      · exact ⟨vs, st F' H' M' ex, by rw [h2.length]; exact Nat.le_refl _⟩⟩
theorem adq_rng {K : PySem.W.Frag} {F : Fr} {H : Hp} {M : Mem} {lo : Int} {n : Nat} : Adq K F (Itr lo n) ⟨rangeD lo n, fun _ => True⟩ H M := by
  refine ⟨trivial, fun i F' H' M' _ _ _ hi => ?_, fun i F' H' M' x H2 ok _ _ hi y => ?_, fun F' H' M' _ _ _ => ?_⟩
  · have hi : i < (rangeD lo n).length := hi
    rw [rangeD_len] at hi; exact hi
  · obtain ⟨e1, e2⟩ := y
    subst e1; subst e2
    have hi : i < (rangeD lo n).length := hi
    rw [rangeD_len] at hi
    exact ⟨To.refl ok, _, rangeD_get hi, .int _⟩
  · show n ≤ (rangeD lo n).length
    rw [rangeD_len]; exact Nat.le_refl _
theorem di_range1 (hg : Gl X "range") (hm : X.mg "range" = none) (ha : DA X [a] t) (hs : starEach [a] X.env = [(false, eval a X.env)] := by rfl) : DI X tg (.Call (.Name "range" p) [a] [] pos) (wRng1 t) := piI (pi_range1 hg hm ha hs) fun σ H R ⟨τ, M, F, P, s, q, k⟩ =>
  ⟨τ, M, F, _, s, q, fun ds M1 vs H1 ⟨j, e, l1, l2, q1⟩ t1 r1 => by
    subst e
    obtain ⟨v, rfl, rv⟩ := r1.one_inv
    exact ⟨j, by rw [rv.int_inv], l1, l2, k _ M1 _ H1 q1 t1 adq_rng⟩⟩
theorem di_range2 (hg : Gl X "range") (hm : X.mg "range" = none) (ha : DA X [a, b] t) (hs : starEach [a, b] X.env = [(false, eval a X.env), (false, eval b X.env)] := by rfl) (hs2 : starEach [b] X.env = [(false, eval b X.env)] := by rfl) : DI X tg (.Call (.Name "range" p) [a, b] [] pos) (wRng2 t) := piI (pi_range2 hg hm ha hs hs2) fun σ H R ⟨τ, M, F, P, s, q, k⟩ =>
  ⟨τ, M, F, _, s, q, fun ds M1 vs H1 ⟨i, j, e, l, q1⟩ t1 r1 => by
    subst e
    obtain ⟨v, w, rfl, rv, rw'⟩ := r1.two_inv
    exact ⟨i, j, by rw [rv.int_inv, rw'.int_inv], l, k _ M1 _ H1 q1 t1 adq_rng⟩⟩
end

/-! ### for -/
def dFor (wi : DTI) (g : DTG) (tb : DTS) : DTS := fun Y τ M => wi τ M fun W M1 => ∃ I : Nat → DSt → Mem → Prop, I 0 τ M1 ∧ ∀ i τ M, I i τ M → W.stay M →
  (∀ d, W.items[i]? = some d → g d τ M fun τ' M' => tb { Y with nx := fun τ2 M2 => ∃ N, Sub N M2 ∧ W.stay N ∧ I (i + 1) τ2 N, ct := fun τ2 M2 => ∃ N, Sub N M2 ∧ W.stay N ∧ I (i + 1) τ2 N, bk := Y.nx } τ' M') ∧ (i = W.items.length → Y.nx τ M)
theorem liFor {K : PySem.W.Frag} {wi : DTI} {g : DTG} {tb : DTS} (Z : Ends) (σ : St) (H : Hp) (h : liS K (dFor wi g tb) Z σ H) : tFor (liI K wi) (liG K g) (liS K tb) Z σ H := by
  obtain ⟨τ, M, F, Y, s, k, q⟩ := h
  refine ⟨τ, M, F, _, s, q, fun W M1 J H1 ⟨I, i0, turn⟩ t1 ad => ?_⟩
  refine ⟨fun i m σ' H' => ∃ τ' M', m = W.items.length - i ∧ i ≤ W.items.length ∧ To K F H1 M1 H' M' ∧ IsS K (stab H' M' F) σ' τ' ∧ W.stay M' ∧ I i τ' M', ⟨_, τ, M1, rfl, Nat.zero_le _, To.refl t1.ok, (s.to t1).sl, ad.now, i0⟩, ?_⟩
  rintro i m σ' H' ⟨τ', M', rfl, hi, t2, s2, st, hI⟩
  obtain ⟨tn, te⟩ := turn i τ' M' hI st
  rcases Nat.lt_or_ge i W.items.length with hlt | hge
  · refine .inr ⟨ad.go i F H' M' t2.ok t2.ex st hlt, fun σ3 H3 => ∃ τ3 M3, To K F H1 M1 H3 M3 ∧ IsS K (stab H3 M3 F) σ3 τ3 ∧ W.stay M3 ∧ I (i + 1) τ3 M3, fun σ3 H3 ⟨τ3, M3, a, b, c, e⟩ => ⟨W.items.length - (i + 1), by omega, τ3, M3, rfl, hlt, a, b, c, e⟩, fun x H2 y => ?_⟩
    obtain ⟨t3, d, hd, rd⟩ := ad.yld i F H' M' x H2 t2.ok t2.ex st hlt y
    refine ⟨d, τ', M', F, _, ⟨t3.ok, s2.mono t3.ex⟩, rd, tn d hd, fun τ4 M4 σ4 H4 p4 t4 s4 => ⟨τ4, M4, F, _, ⟨t4.ok, s4⟩, ?_, p4⟩⟩
    have tt := ((t1.trans t2).trans t3).trans t4
    have t5 := (t2.trans t3).trans t4
    have nxt : ∀ σ' H' τ' M', To K F H4 M4 H' M' → IsS K (stab H' M' F) σ' τ' → (∃ N, Sub N M' ∧ W.stay N ∧ I (i + 1) τ' N) → ∃ τ3 M3, To K F H1 M1 H' M3 ∧ IsS K (stab H' M3 F) σ' τ3 ∧ W.stay M3 ∧ I (i + 1) τ3 M3 := fun σ' H' τ' M' a b ⟨N, u, c, e⟩ =>
      ⟨τ', N, (t5.trans a).trans (To.sub a.ok u), b.mono (To.sub a.ok u).ex, c, e⟩
    exact ⟨nxt, fun σ' H' τ' M' a b c => k.nx σ' H' τ' M' (tt.trans a) b c, nxt, fun v H' d M' a b c => k.rt v H' d M' (tt.trans a) b c⟩
  · have e : i = W.items.length := Nat.le_antisymm hi hge
    subst e
    exact .inl ⟨ad.stop F H' M' t2.ok t2.ex st, k.nx σ' H' τ' M' (t1.trans t2) s2 (te rfl)⟩
section
variable {X : Cx} {tg iter c : Expr} {body : List Stmt} {wi : DTI} {g : DTG} {tb : DTS} {tc : DTT} {pos : Pos}
theorem ds_for (hp : PassesOwn (model X.prog X.w) X.A X.env X.xe) (hc : X.calm = true) (hi : DI X tg iter wi) (hg : DG X tg g) (hb : DSs X body tb) (hs : ∀ x, foldedSetIterable iter X.env x = pure x := by intro _; rfl) : DS X (.For tg iter body [] pos) (dFor wi g tb) := psI (ps_for hp hc hi hg hb hs) liFor
end
/-- by an invariant -/
theorem for_inv {W : Wk} {g : DTG} {tb : DTS} {Y : DEnds} {τ : DSt} {M : Mem} (I : Nat → DSt → Mem → Prop) (h0 : I 0 τ M)
    (hs : ∀ i d τ M, W.items[i]? = some d → I i τ M → W.stay M → g d τ M fun τ' M' => tb { Y with nx := fun τ2 M2 => ∃ N, Sub N M2 ∧ W.stay N ∧ I (i + 1) τ2 N, ct := fun τ2 M2 => ∃ N, Sub N M2 ∧ W.stay N ∧ I (i + 1) τ2 N, bk := Y.nx } τ' M') (hd : ∀ τ M, I W.items.length τ M → Y.nx τ M) :
    ∃ I : Nat → DSt → Mem → Prop, I 0 τ M ∧ ∀ i τ M, I i τ M → W.stay M →
  (∀ d, W.items[i]? = some d → g d τ M fun τ' M' => tb { Y with nx := fun τ2 M2 => ∃ N, Sub N M2 ∧ W.stay N ∧ I (i + 1) τ2 N, ct := fun τ2 M2 => ∃ N, Sub N M2 ∧ W.stay N ∧ I (i + 1) τ2 N, bk := Y.nx } τ' M') ∧ (i = W.items.length → Y.nx τ M) :=
  ⟨I, h0, fun i τ M hI st => ⟨fun d hd => hs i d τ M hd hI st, fun e => hd τ M (e ▸ hI)⟩⟩

/-! ### while -/
def dWhile (c : DTT) (tb : DTS) : DTS := fun Y τ M => ∃ I : Nat → DSt → Mem → Prop, (∃ m, I m τ M) ∧ ∀ m τ M, I m τ M →
  c τ M fun b M1 => if b = true then tb { Y with nx := fun τ2 M2 => ∃ m' N, m' < m ∧ Sub N M2 ∧ I m' τ2 N, ct := fun τ2 M2 => ∃ m' N, m' < m ∧ Sub N M2 ∧ I m' τ2 N, bk := Y.nx } τ M1 else Y.nx τ M1
theorem liWhile {K : PySem.W.Frag} {c : DTT} {tb : DTS} (Z : Ends) (σ : St) (H : Hp) (h : liS K (dWhile c tb) Z σ H) : tWhile (liT K c) (liS K tb) Z σ H := by
  obtain ⟨τ, M, F, Y, s, k, I, ⟨m0, i0⟩, turn⟩ := h
  refine ⟨fun m σ' H' => ∃ τ' M', To K F H M H' M' ∧ IsS K (stab H' M' F) σ' τ' ∧ I m τ' M', ⟨m0, τ, M, To.refl s.ok, s.sl, i0⟩, ?_⟩
  rintro m σ' H' ⟨τ', M', t2, s2, hI⟩
  refine ⟨τ', M', F, _, ⟨t2.ok, s2⟩, turn m τ' M' hI, fun b M1 H1 q t3 => ?_⟩
  cases b with
  | false => exact k.nx σ' H1 τ' M1 (t2.trans t3) (s2.mono t3.ex) q
  | true =>
    have tt := t2.trans t3
    refine ⟨fun σ3 H3 => ∃ m' τ3 M3, m' < m ∧ To K F H M H3 M3 ∧ IsS K (stab H3 M3 F) σ3 τ3 ∧ I m' τ3 M3, fun σ3 H3 ⟨m', τ3, M3, l, a, b, c⟩ => ⟨m', l, τ3, M3, a, b, c⟩, τ', M1, F, _, ⟨t3.ok, s2.mono t3.ex⟩, ?_, q⟩
    have nxt : ∀ σ' H' τ' M', To K F H1 M1 H' M' → IsS K (stab H' M' F) σ' τ' → (∃ m' N, m' < m ∧ Sub N M' ∧ I m' τ' N) → ∃ m' τ3 M3, m' < m ∧ To K F H M H' M3 ∧ IsS K (stab H' M3 F) σ' τ3 ∧ I m' τ3 M3 := fun σ' H' τ' M' a b ⟨m', N, l, u, e⟩ =>
      ⟨m', τ', N, l, (tt.trans a).trans (To.sub a.ok u), b.mono (To.sub a.ok u).ex, e⟩
    exact ⟨nxt, fun σ' H' τ' M' a b c => k.nx σ' H' τ' M' (tt.trans a) b c, nxt, fun v H' d M' a b c => k.rt v H' d M' (tt.trans a) b c⟩
section
variable {X : Cx} {c : Expr} {body : List Stmt} {tb : DTS} {tc : DTT} {pos : Pos}
theorem ds_while (hp : PassesOwn (model X.prog X.w) X.A X.env X.xe) (hc : DT X c tc) (hb : DSs X body tb) : DS X (.While c body [] pos) (dWhile tc tb) := psI (ps_while hp hc hb) liWhile
end

/-! ### comprehensions -/
def wipD (τ : DSt) : List Nat → DSt
  | [] => τ
  | v :: vs => (wipD τ vs).set v none
theorem IsS.wip {K : PySem.W.Frag} {S : Hp} {σ : St} {τ : DSt} (s : IsS K S σ τ) : ∀ vs : List Nat, IsS K S (wipe σ vs) (wipD τ vs)
  | [] => s
  | v :: vs => IsS.none (IsS.wip s vs) v Option.none
theorem wipe_get (σ : St) (k : Nat) : ∀ vs : List Nat, (wipe σ vs)[k]? = if k ∈ vs then (if k < σ.length then some none else none) else σ[k]?
  | [] => by simp [wipe]
  | v :: vs => by
    show ((wipe σ vs).set v none)[k]? = _
    rw [List.getElem?_set, wipe_length, wipe_get σ k vs]
    by_cases e : v = k
    · subst e; simp
    · have e' : ¬ k = v := fun z => e z.symm
      simp [e, e']
theorem wipe_set {σ σ' : St} {vs : List Nat} {i : Nat} {o : Option V} (h : wipe σ' vs = wipe σ vs) (hi : i ∈ vs) : wipe (σ'.set i o) vs = wipe σ vs := by
  rw [← h]
  refine List.ext_getElem? fun k => ?_
  rw [wipe_get, wipe_get, List.length_set, List.getElem?_set]
  by_cases e : i = k
  · subst e; simp [hi]
  · simp [e]
theorem wipe_wipe (σ : St) (vs : List Nat) : wipe (wipe σ vs) vs = wipe σ vs := by
  refine List.ext_getElem? fun k => ?_
  rw [wipe_get, wipe_get, wipe_length]
  by_cases e : k ∈ vs <;> simp [e]
/-- a name or a tuple of names -/
inductive Pat where
  | nm (i : Nat) | tp (is : List Nat)
def gNames : List Nat → TGs
  | [] => gNil
  | i :: is => gCons (gName i) (gNames is)
def gsNames : List Nat → DTGs
  | [] => gsNil
  | i :: is => gsCons (gNm i) (gsNames is)
def Pat.h (K : PySem.W.Frag) : Pat → TG
  | .nm i => gName i
  | .tp is => gTup K is.length (gNames is)
def Pat.d : Pat → DTG
  | .nm i => gNm i
  | .tp is => gTp is.length (gsNames is)
def Pat.within (vs : List Nat) : Pat → Prop
  | .nm i => i ∈ vs
  | .tp is => ∀ i ∈ is, i ∈ vs
theorem names_ok {K : PySem.W.Frag} {S : Hp} {vs : List Nat} {σ0 : St} {H : Hp} {M : Mem} {P : DSt → Mem → Prop} {Q : St → Hp → Prop} (k : ∀ τ2 σ2, P τ2 M → IsS K S σ2 τ2 → wipe σ2 vs = wipe σ0 vs → Q σ2 H) :
    ∀ (is : List Nat) (xs : List V) (ds : List D) (σ : St) (τ : DSt), (∀ i ∈ is, i ∈ vs) → IsL K S xs ds → IsS K S σ τ → wipe σ vs = wipe σ0 vs → gsNames is ds τ M P → gNames is xs σ H Q
  | [], xs, ds, σ, τ, _, r, s, w, ⟨e, q⟩ => by subst e; cases r; exact ⟨rfl, k τ σ q s w⟩
  | i :: is, xs, ds, σ, τ, hi, r, s, w, ⟨d, ds', e, q⟩ => by
    subst e
    cases r with
    | cons r1 r2 => exact ⟨_, _, rfl, names_ok k is _ _ _ _ (fun j hj => hi j (List.mem_cons_of_mem _ hj)) r2 (s.set i r1) (wipe_set w (hi i List.mem_cons_self)) q⟩
theorem Pat.ok {K : PySem.W.Frag} {F : Fr} {vs : List Nat} {σ : St} {τ : DSt} {H : Hp} {M : Mem} {v : V} {d : D} {P : DSt → Mem → Prop} {Q : St → Hp → Prop} {p : Pat} (w : p.within vs) (s : IsS K (stab H M F) (wipe σ vs) τ) (r : Is K (stab H M F) v d) (q : p.d d τ M P)
    (k : ∀ τ2 σ2, P τ2 M → IsS K (stab H M F) σ2 τ2 → wipe σ2 vs = wipe σ vs → Q σ2 H) : p.h K v (wipe σ vs) H Q := by
  cases p with
  | nm i => exact k _ _ q (s.set i r) (wipe_set (wipe_wipe σ vs) w)
  | tp is =>
    obtain ⟨xs, e, hl, q⟩ := q
    subst e
    cases r with
    | tup h1 h2 => exact ⟨_, _, rfl, ex_t stab_le h1, by rw [h2.length, hl], names_ok k is _ _ _ _ w h2 s (wipe_wipe σ vs) q⟩
/-- the items, one after the other; acc: what is made -/
def lcGo (g : DTG) (tt : DTT) (te : DTE) (stay : Mem → Prop) (τ : DSt) : List D → List D → Mem → (List D → Mem → Prop) → Prop
  | [], acc, M, Q => Q acc M
  | x :: xs, acc, M, Q => g x τ M fun τ2 _ => tt τ2 M fun b M3 => if b = true then te τ2 M3 fun y M4 => acc.length < sizeLine ∧ stay M4 ∧ lcGo g tt te stay τ xs (acc ++ [y]) M4 Q else stay M3 ∧ lcGo g tt te stay τ xs acc M3 Q
def dLc (wi : DTI) (p : Pat) (tt : DTT) (te : DTE) (vs : List Nat) : DTE := fun τ M Q => wi τ M fun W M1 => p.within vs ∧ lcGo p.d tt te W.stay (wipD τ vs) W.items [] M1 fun ys M2 => NewL ys M2 Q
def hidF (F : Fr) (p : Addr) : Fr := fun b => F b || b == p
theorem hidF_eq {F : Fr} {p b : Addr} : hidF F p b = true ↔ F b = true ∨ b = p := by unfold hidF; simp
section
variable {K : PySem.W.Frag} {F : Fr} {H H' : Hp} {M M' : Mem} {p : Addr} {u : HO}
theorem stab_hid (h : M p = none) (hp : H p = none) : stab (upd H p u) M (hidF F p) = stab H M F := by
  funext b
  unfold stab upd hidF
  by_cases e : b = p
  · subst e; simp [h, hp]
  · simp [e]
theorem Ok.hide (o : Ok K F H M) (hp : H p = none) : Ok K (hidF F p) (upd H p u) M := by
  obtain ⟨m0, f0⟩ := o.free hp
  refine ⟨fun a v q => ?_, fun a q => ?_⟩
  · have z : a ≠ p := fun z => by rw [z, m0] at q; cases q
    rw [stab_hid m0 hp]
    exact (o.mem a v q).mono (Ex.refl _) (upd_ne z)
  · rcases hidF_eq.mp q with q | q
    · have z : a ≠ p := fun z => by rw [z, f0] at q; cases q
      rw [upd_ne z]; exact o.hid a q
    · subst q; exact ⟨m0, by rw [upd_same]; exact fun z => nomatch z⟩
/-- the hidden thing is changed -/
theorem stab_hset (h : F p = true) : stab (upd H p u) M F = stab H M F := by
  funext b
  unfold stab upd
  by_cases e : b = p
  · subst e; simp [h]
  · simp [e]
theorem Ok.hset (o : Ok K F H M) (h : F p = true) : Ok K F (upd H p u) M := by
  refine ⟨fun a v q => ?_, fun a q => ⟨(o.hid a q).1, ?_⟩⟩
  · rw [stab_hset h]
    exact (o.mem a v q).mono (Ex.refl _) (upd_ne fun z => by rw [z, (o.hid p h).1] at q; cases q)
  · by_cases z : a = p
    · rw [z, upd_same]; exact fun z => nomatch z
    · rw [upd_ne z]; exact (o.hid a q).2
/-- what was hidden is shown again -/
theorem stab_show : Ex (stab H M (hidF F p)) (stab H M F) := fun b v q => by
  rw [stab_eq] at q ⊢
  refine ⟨q.1, ?_, q.2.2⟩
  cases z : F b with
  | false => rfl
  | true => rw [hidF_eq.mpr (.inl z)] at q; cases q.2.1
theorem Ok.unhide (o : Ok K (hidF F p) H M) : Ok K F H M :=
  ⟨fun a v q => (o.mem a v q).mono stab_show rfl, fun a q => o.hid a (hidF_eq.mpr (.inl q))⟩
theorem Ok.unhideM {m : MO} (o : Ok K (hidF F p) H M) (f : F p = false) (k : MOk K (stab H M (hidF F p)) H p m) : Ok K F H (M.put p m) ∧ stab H (M.put p m) F = stab H M (hidF F p) := by
  have e : stab H (M.put p m) F = stab H M (hidF F p) := by
    funext b
    unfold stab hidF Mem.put
    by_cases e : b = p
    · subst e; simp
    · simp [e]
  refine ⟨⟨fun a v q => ?_, fun a q => ?_⟩, e⟩
  · rw [e]
    by_cases z : a = p
    · subst z; rw [Mem.put_same] at q; cases q; exact k
    · rw [Mem.put_ne z] at q; exact o.mem a v q
  · have z : a ≠ p := fun z => by rw [z, f] at q; cases q
    rw [Mem.put_ne z]; exact o.hid a (hidF_eq.mpr (.inl q))
end
theorem liLc {K : PySem.W.Frag} {wi : DTI} {p : Pat} {tt : DTT} {te : DTE} {vs : List Nat} (σ : St) (H : Hp) (Q : VK) (h : liE K (dLc wi p tt te vs) σ H Q) : tLc (liI K wi) (p.h K) (liT K tt) (liE K te) vs σ H Q := by
  obtain ⟨τ, M, F, P, s, q, k⟩ := h
  refine ⟨τ, M, F, _, s, q, fun W M1 J H1 ⟨pw, go⟩ t1 ad => fun A hA => ?_⟩
  obtain ⟨m0, f0⟩ := t1.ok.free hA
  have o1 : Ok K (hidF F A) (upd H1 A (.lst [])) M1 := t1.ok.hide hA
  have st1 : stab (upd H1 A (.lst [])) M1 (hidF F A) = stab H1 M1 F := stab_hid m0 hA
  refine ⟨fun i m H' => ∃ av acc M', m = W.items.length - i ∧ i ≤ W.items.length ∧ To K (hidF F A) (upd H1 A (.lst [])) M1 (upd H' A (.lst [])) M' ∧ H' A = some (.lst av) ∧ IsL K (stab H' M' (hidF F A)) av acc ∧ W.stay M' ∧
    lcGo p.d tt te W.stay (wipD τ vs) (W.items.drop i) acc M' (fun ys M2 => NewL ys M2 P), ⟨_, [], [], M1, rfl, Nat.zero_le _, ?_, upd_same, .nil, ad.now, go⟩, ?_⟩
  · rw [upd_upd]; exact To.refl o1
  have hA' : hidF F A A = true := hidF_eq.mpr (.inr rfl)
  rintro i m H' ⟨av, acc, M', rfl, hi, t2, ha, hr, st, go⟩
  -- the state as it is
  have o2 : Ok K (hidF F A) H' M' := by
    have := t2.ok.hset (p := A) (u := .lst av) hA'
    rw [upd_upd] at this
    have e : upd H' A (.lst av) = H' := by funext b; unfold upd; split <;> simp_all
    rwa [e] at this
  have ex2 : Ex (stab H1 M1 F) (stab H' M' (hidF F A)) := by
    have := t2.ex
    rw [st1, stab_hset hA'] at this
    exact this
  have fr2 : ∀ a, F a = true → H' a = H1 a := fun a q => by
    have z : a ≠ A := fun z => by rw [z, f0] at q; cases q
    have := t2.fr a (hidF_eq.mpr (.inl q))
    rwa [upd_ne z, upd_ne z] at this
  rcases Nat.lt_or_ge i W.items.length with hlt | hge
  · refine .inr ⟨ad.go i _ H' M' o2 ex2 st hlt, fun H3 => ∃ av acc M3, To K (hidF F A) (upd H1 A (.lst [])) M1 (upd H3 A (.lst [])) M3 ∧ H3 A = some (.lst av) ∧ IsL K (stab H3 M3 (hidF F A)) av acc ∧ W.stay M3 ∧ lcGo p.d tt te W.stay (wipD τ vs) (W.items.drop (i + 1)) acc M3 (fun ys M2 => NewL ys M2 P),
      fun H3 ⟨av, acc, M3, a, b, c, d, e⟩ => ⟨W.items.length - (i + 1), by omega, av, acc, M3, rfl, hlt, a, b, c, d, e⟩, fun x H2 y => ?_⟩
    obtain ⟨t3, d, hd, rd⟩ := ad.yld i _ H' M' x H2 o2 ex2 st hlt y
    have ed : W.items.drop i = d :: W.items.drop (i + 1) := by
      obtain ⟨hh, e⟩ := List.getElem?_eq_some_iff.mp hd
      rw [List.drop_eq_getElem_cons hh, e]
    rw [ed] at go
    have s3 : IsS K (stab H2 M' (hidF F A)) (wipe σ vs) (wipD τ vs) := ((s.to t1).sl.mono (ex2.trans t3.ex)).wip vs
    have toA : ∀ H3 M3, To K (hidF F A) H' M' H3 M3 → To K (hidF F A) (upd H1 A (.lst [])) M1 (upd H3 A (.lst [])) M3 := fun H3 M3 t => by
      refine t2.trans ⟨t.ok.hset hA', ?_, fun a q => ?_⟩
      · rw [stab_hset hA', stab_hset hA']; exact t.ex
      · by_cases z : a = A
        · rw [z, upd_same, upd_same]
        · rw [upd_ne z, upd_ne z]; exact t.fr a q
    refine Pat.ok pw s3 rd go fun τ2 σ2 q2 s2 w2 => ⟨w2, τ2, M', hidF F A, _, ⟨t3.ok, s2⟩, q2, fun b M3 H3 q3 t4 => ?_⟩
    have t5 := t3.trans t4
    have ha3 : H3 A = some (.lst av) := by rw [t5.fr A hA']; exact ha
    cases b with
    | true =>
      refine ⟨τ2, M3, hidF F A, _, ⟨t4.ok, s2.mono t4.ex⟩, q3, fun y M4 yv H4 ⟨hz, st4, go4⟩ t6 ry => ?_⟩
      have t7 := t5.trans t6
      have ha4 : H4 A = some (.lst av) := by rw [t7.fr A hA']; exact ha
      refine ⟨av, ha4, by rw [hr.length]; exact hz, av ++ [yv], acc ++ [y], M4, ?_, upd_same, ?_, st4, go4⟩
      · rw [upd_upd]; exact toA H4 M4 t7
      · rw [stab_hset hA']
        exact (hr.mono t7.ex).append (.cons ry .nil)
    | false => exact ⟨av, acc, M3, toA H3 M3 t5, ha3, hr.mono t5.ex, q3.1, q3.2⟩
  · have e : i = W.items.length := Nat.le_antisymm hi hge
    subst e
    refine .inl ⟨ad.stop _ H' M' o2 ex2 st, ?_⟩
    rw [List.drop_eq_nil_of_le (Nat.le_refl _)] at go
    have tf : To K F H1 M1 H' M' := ⟨o2.unhide, ex2.trans stab_show, fr2⟩
    rcases go with q | q
    · refine k _ M' _ H' q (t1.trans tf) (.lst (vs := av) ?_ (hr.mono stab_show))
      exact stab_eq.mpr ⟨(o2.hid A hA').1, f0, ha⟩
    · obtain ⟨o5, e5⟩ := o2.unhideM (m := .lst acc) f0 ⟨av, ha, hr⟩
      refine k _ _ _ H' (q A (o2.hid A hA').1) (t1.trans ⟨o5, ?_, fr2⟩) (.ref A)
      rw [e5]; exact ex2
section
variable {X : Cx}
theorem dg_pat {tg : Expr} {p : Pat} (h : PG X tg (p.h X.K)) : PG X tg (p.h X.K) := h
theorem de_lc {elt tg iter : Expr} {ifs : List Expr} {scope : Scope} {own : List (Str × Nat)} {pos : Pos} {wi : DTI} {p : Pat} {tt : DTT} {te : DTE} (hc : X.calm = true) (hN : X.N.Nodup) (hi : DI X tg iter wi) (ok : BlkOk X.N X.env.scope scope own)
    (hg : ∀ (s : Shared) (H : Hp) (C : Addr) (cl : List (Str × Addr)) (fp : List Addr), PG (X.blk s H scope (compEnvC scope cl C X.env) fp) tg (p.h X.K)) (ht : ∀ (s : Shared) (H : Hp) (C : Addr) (cl : List (Str × Addr)) (fp : List Addr), PTs (X.blk s H scope (compEnvC scope cl C X.env) fp) ifs (liT X.K tt))
    (he : ∀ (s : Shared) (H : Hp) (C : Addr) (cl : List (Str × Addr)) (fp : List Addr), DE (X.blk s H scope (compEnvC scope cl C X.env) fp) elt te) (hs : ∀ x, foldedSetIterable iter X.env x = pure x := by intro _; rfl) :
    DE X (.ListComp elt [⟨tg, iter, ifs, 0⟩] scope pos) (dLc wi p tt te (own.map (·.2))) := peI (pe_lc hc hN hi ok hg ht he hs) liLc
theorem ds_setLc {i : Nat} {y : Str} {py : Pos} {elt tg iter : Expr} {ifs : List Expr} {scope : Scope} {own : List (Str × Nat)} {pos spos : Pos} {wi : DTI} {p : Pat} {tt : DTT} {te : DTE} (hc : X.calm = true) (hN : X.N.Nodup) (hy : X.N[i]? = some y) (hyl : X.env.scope.names.lookup y = some .local)
    (hsw : swapsWith (.ListComp elt [⟨tg, iter, ifs, 0⟩] scope pos) (some (.Name y py)) spos.line X.env = pure true) (hi : DI X tg iter wi) (ok : BlkOk X.N X.env.scope scope own)
    (hg : ∀ (s : Shared) (H : Hp) (C : Addr) (cl : List (Str × Addr)) (fp : List Addr), PG (X.blk s H scope (compEnvC scope cl C X.env) fp) tg (p.h X.K)) (ht : ∀ (s : Shared) (H : Hp) (C : Addr) (cl : List (Str × Addr)) (fp : List Addr), PTs (X.blk s H scope (compEnvC scope cl C X.env) fp) ifs (liT X.K tt))
    (he : ∀ (s : Shared) (H : Hp) (C : Addr) (cl : List (Str × Addr)) (fp : List Addr), DE (X.blk s H scope (compEnvC scope cl C X.env) fp) elt te) (hs : ∀ x, foldedSetIterable iter X.env x = pure x := by intro _; rfl) :
    DS X (.Assign [.Name y py] (.ListComp elt [⟨tg, iter, ifs, 0⟩] scope pos) spos) (dAsg (dLc wi p tt te (own.map (·.2))) (gNm i)) :=
  psI (ps_setLc hc hN hy hyl hsw hi ok hg ht he hs) fun Z σ H h => by
    have h2 := liGn Z σ H h
    exact liLc σ H _ h2
end
end DL

set_option Elab.async false
set_option linter.all false
set_option maxRecDepth 100000
set_option maxHeartbeats 2000000
namespace DL
open PySem L2 PySem.Spec

/-! ### built-ins by name -/
abbrev DCl := List D → Mem → (D → Mem → Prop) → Prop
def liC (K : PySem.W.Frag) (r : DCl) : List V → Hp → VK → Prop := fun vs H Q => ∃ ds M F P, Ok K F H M ∧ IsL K (stab H M F) vs ds ∧ r ds M P ∧ ∀ d M' v H', P d M' → To K F H M H' M' → Is K (stab H' M' F) v d → Q v H'
def dCB (r : DCl) (t : DTA) : DTE := fun τ M Q => t τ M fun ds M1 => r ds M1 Q
theorem liCB {K : PySem.W.Frag} {r : DCl} {t : DTA} (σ : St) (H : Hp) (Q : VK) (h : liE K (dCB r t) σ H Q) : tCB (liC K r) (liA K t) σ H Q := by
  obtain ⟨τ, M, F, P, s, q, k⟩ := h
  exact ⟨τ, M, F, _, s, q, fun ds M1 vs H1 q1 t1 r1 => ⟨ds, M1, F, P, t1.ok, r1, q1, fun d' M' v' H' p t => k d' M' v' H' p (t1.trans t)⟩⟩
theorem crI {X : Cx} {f : Value} {r r' : List V → Hp → VK → Prop} (h : CallR X f r) (i : ∀ vs H Q, r' vs H Q → r vs H Q) : CallR X f r' := fun pins s σ H xs us Q I rr q => h pins s σ H xs us Q I rr (i xs H Q q)
section
variable {X : Cx} {x : Str} {p pos : Pos} {e : Expr} {es : List Expr} {t : DTA} {r : DCl} {id T : String}
theorem de_callB (hc : CallR X (.builtin id) (liC X.K r)) (hg : Gl X x) (hm : X.mg x = none) (hv : bootBuiltins x = some (.builtin id)) (ha : DA X (e :: es) t) (hn : x ≠ "__name__" := by decide) (hdb : (x == ("__debug__" : Str)) = false := by decide)
    (he : starEach (e :: es) X.env = (false, eval e X.env) :: starEach es X.env := by rfl) (hpl : (backTo pos (starEach es X.env)).any (·.1) = false := by rfl) : DE X (.Call (.Name x p) (e :: es) [] pos) (dCB r t) := peI (pe_callB hc hg hm hv ha hn hdb he hpl) liCB
theorem de_callTy (hc : CallR X (.type T) (liC X.K r)) (hg : Gl X x) (hm : X.mg x = none) (hv : bootBuiltins x = some (.type T)) (ha : DA X (e :: es) t) (hn : x ≠ "__name__" := by decide) (hdb : (x == ("__debug__" : Str)) = false := by decide)
    (he : starEach (e :: es) X.env = (false, eval e X.env) :: starEach es X.env := by rfl) (hpl : (backTo pos (starEach es X.env)).any (·.1) = false := by rfl) : DE X (.Call (.Name x p) (e :: es) [] pos) (dCB r t) := peI (pe_callTy hc hg hm hv ha hn hdb he hpl) liCB
end
def bLen : DCl := fun ds M Q => ∃ d, ds = [d] ∧ match d with
  | .tup xs => Q (.int xs.length) M
  | .str z => z.length ≤ sizeLine ∧ Q (.int z.length) M
  | d => ∃ xs, Srd M d xs ∧ Q (.int xs.length) M
def bLenD : DCl := fun ds M Q => ∃ d, ds = [d] ∧ ((∃ kvs, d = .dic kvs ∧ Q (.int kvs.length) M) ∨ ∃ a kvs, d = .ref a ∧ M a = some (.dic kvs) ∧ Q (.int kvs.length) M)
def bAbs : DCl := fun ds M Q => ∃ i, ds = [.int i] ∧ Q (.int (if i < 0 then -i else i)) M
def bMax2 : DCl := fun ds M Q => ∃ i j, ds = [.int i, .int j] ∧ Q (.int (if j > i then j else i)) M
def bMin2 : DCl := fun ds M Q => ∃ i j, ds = [.int i, .int j] ∧ Q (.int (if j < i then j else i)) M
def bInt : DCl := fun ds M Q => ∃ d, ds = [d] ∧ match d with
  | .int i => Q (.int i) M
  | .bl k => Q (.int (if k then 1 else 0)) M
  | _ => False
def bSum : DCl := fun ds M Q => ∃ (d : D) (ns : List Int), ds = [d] ∧ Srd M d (ns.map D.int) ∧ Q (.int ns.sum) M
def bMaxL : DCl := fun ds M Q => ∃ (d : D) (ns : List Int), ds = [d] ∧ Srd M d (ns.map D.int) ∧ 0 < ns.length ∧ ∀ m, m ∈ ns → (∀ y, y ∈ ns → y ≤ m) → Q (.int m) M
def bSorted : DCl := fun ds M Q => ∃ (d : D) (ns : List Int), ds = [d] ∧ Srd M d (ns.map D.int) ∧ ∀ ns' : List Int, ns'.Perm ns → ns'.Pairwise (· ≤ ·) → NewL (ns'.map D.int) M Q
def bList : DCl := fun ds M Q => ∃ d, ds = [d] ∧ match d with
  | .tup xs => NewL xs M Q
  | d => ∃ xs, Srd M d xs ∧ NewL xs M Q
def bTuple : DCl := fun ds M Q => ∃ d, ds = [d] ∧ match d with
  | .tup xs => Q (.tup xs) M
  | d => ∃ xs, Srd M d xs ∧ Q (.tup xs) M
theorem IsL.ints {K : PySem.W.Frag} {S : Hp} : ∀ {vs : List V} {ns : List Int}, IsL K S vs (ns.map D.int) → vs = ns.map V.int
  | _, [], r => r.nil_inv
  | _, n :: ns, r => by cases r with | cons h r => rw [h.int_inv, IsL.ints r]; rfl
theorem IsL.of_ints {K : PySem.W.Frag} {S : Hp} : ∀ (ns : List Int), IsL K S (ns.map V.int) (ns.map D.int)
  | [] => .nil
  | n :: ns => .cons (.int n) (IsL.of_ints ns)
section
variable {X : Cx}
theorem cd_len : CallR X (.builtin "len") (liC X.K bLen) := crI call_len fun vs H Q ⟨ds, M, F, P, o, r, ⟨d, e, q⟩, k⟩ => by
  subst e
  obtain ⟨v, rfl, rv⟩ := r.one_inv
  have fin : ∀ xs : List D, Srd M d xs → P (.int xs.length) M → ∃ x n, [v] = [x] ∧ LenV X.K x H n ∧ Q (.int n) H := fun xs sr p => by
    obtain ⟨a, ws, rfl, h1, h2⟩ := sr.get o rv
    exact ⟨_, _, rfl, .inl ⟨ws, h1, rfl⟩, by rw [h2.length]; exact k _ M _ H p (To.refl o) (.int _)⟩
  cases d with
  | tup xs =>
    cases rv with
    | tup h1 h2 => exact ⟨_, _, rfl, .inr ⟨_, ex_t stab_le h1, rfl⟩, by rw [h2.length]; exact k _ M _ H q (To.refl o) (.int _)⟩
  | str z => cases rv; exact ⟨_, _, rfl, ⟨q.1, rfl⟩, k _ M _ H q.2 (To.refl o) (.int _)⟩
  | dic xs => obtain ⟨ys, s, p⟩ := q; exact fin ys s p
  | lst xs => obtain ⟨ys, s, p⟩ := q; exact fin ys s p
  | ref xs => obtain ⟨ys, s, p⟩ := q; exact fin ys s p
  | scr xs => obtain ⟨ys, s, p⟩ := q; exact fin ys s p
  | non => obtain ⟨ys, s, p⟩ := q; exact fin ys s p
  | bl xs => obtain ⟨ys, s, p⟩ := q; exact fin ys s p
  | int xs => obtain ⟨ys, s, p⟩ := q; exact fin ys s p
  | ty xs => obtain ⟨ys, s, p⟩ := q; exact fin ys s p
  | obj xs x2 => obtain ⟨ys, s, p⟩ := q; exact fin ys s p
  | dit xs => obtain ⟨ys, s, p⟩ := q; exact fin ys s p
theorem cd_abs : CallR X (.builtin "abs") (liC X.K bAbs) := crI call_abs fun vs H Q ⟨ds, M, F, P, o, r, ⟨i, e, q⟩, k⟩ => by
  subst e; obtain ⟨v, rfl, rv⟩ := r.one_inv
  exact ⟨i, by rw [rv.int_inv], k _ M _ H q (To.refl o) (.int _)⟩
theorem cd_max2 (hc : X.calm = true) : CallR X (.builtin "max") (liC X.K bMax2) := crI (call_max2 hc) fun vs H Q ⟨ds, M, F, P, o, r, ⟨i, j, e, q⟩, k⟩ => by
  subst e; obtain ⟨v, w, rfl, rv, rw'⟩ := r.two_inv
  exact ⟨i, j, by rw [rv.int_inv, rw'.int_inv], k _ M _ H q (To.refl o) (.int _)⟩
theorem cd_min2 (hc : X.calm = true) : CallR X (.builtin "min") (liC X.K bMin2) := crI (call_min2 hc) fun vs H Q ⟨ds, M, F, P, o, r, ⟨i, j, e, q⟩, k⟩ => by
  subst e; obtain ⟨v, w, rfl, rv, rw'⟩ := r.two_inv
  exact ⟨i, j, by rw [rv.int_inv, rw'.int_inv], k _ M _ H q (To.refl o) (.int _)⟩
theorem cd_int : CallR X (.type "int") (liC X.K bInt) := crI call_int1 fun vs H Q ⟨ds, M, F, P, o, r, ⟨d, e, q⟩, k⟩ => by
  subst e; obtain ⟨v, rfl, rv⟩ := r.one_inv
  cases d with
  | int i => exact .inl ⟨i, by rw [rv.int_inv], k _ M _ H q (To.refl o) (.int _)⟩
  | bl b => exact .inr ⟨b, by rw [rv.bl_inv], k _ M _ H q (To.refl o) (.int _)⟩
  | _ => exact q.elim
theorem cd_sum (hc : X.calm = true) : CallR X (.builtin "sum") (liC X.K bSum) := crI (cr_sum hc) fun vs H Q ⟨ds, M, F, P, o, r, ⟨d, ns, e, sr, q⟩, k⟩ => by
  subst e; obtain ⟨v, rfl, rv⟩ := r.one_inv
  obtain ⟨a, ws, rfl, h1, h2⟩ := sr.get o rv
  rw [h2.ints] at h1
  exact ⟨a, ns, rfl, h1, k _ M _ H q (To.refl o) (.int _)⟩
theorem cd_maxL (hc : X.calm = true) : CallR X (.builtin "max") (liC X.K bMaxL) := crI (cr_max hc) fun vs H Q ⟨ds, M, F, P, o, r, ⟨d, ns, e, sr, hn, q⟩, k⟩ => by
  subst e; obtain ⟨v, rfl, rv⟩ := r.one_inv
  obtain ⟨a, ws, rfl, h1, h2⟩ := sr.get o rv
  rw [h2.ints] at h1
  exact ⟨a, ns, rfl, h1, hn, fun m hm hy => k _ M _ H (q m hm hy) (To.refl o) (.int _)⟩
theorem cd_sorted : CallR X (.builtin "sorted") (liC X.K bSorted) := crI cr_sortedI fun vs H Q ⟨ds, M, F, P, o, r, ⟨d, ns, e, sr, q⟩, k⟩ => by
  subst e; obtain ⟨v, rfl, rv⟩ := r.one_inv
  obtain ⟨a, ws, rfl, h1, h2⟩ := sr.get o rv
  rw [h2.ints] at h1
  exact ⟨a, ns, rfl, h1, fun ns' p hp hs hf => (q ns' hp hs).ok o hf (IsL.of_ints ns') k⟩
theorem cd_list : CallR X (.type "list") (liC X.K bList) := crI call_list_of fun vs H Q ⟨ds, M, F, P, o, r, ⟨d, e, q⟩, k⟩ => by
  subst e; obtain ⟨v, rfl, rv⟩ := r.one_inv
  have fin : (∃ xs : List D, Srd M d xs ∧ NewL xs M P) → ∃ p ys, [v] = [V.ref p] ∧ (SqL X.K H p ys ∨ SqT X.K H p ys) ∧ ∀ l, H l = none → Q (.ref l) (upd H l (.lst ys)) := fun ⟨xs, sr, n⟩ => by
    obtain ⟨a, ws, rfl, h1, h2⟩ := sr.get o rv
    exact ⟨a, ws, rfl, .inl h1, fun l hl => n.ok o hl h2 k⟩
  cases d with
  | tup xs => cases rv with | tup h1 h2 => exact ⟨_, _, rfl, .inr (ex_t stab_le h1), fun l hl => NewL.ok q o hl h2 k⟩
  | _ => exact fin q
theorem cd_tuple : CallR X (.type "tuple") (liC X.K bTuple) := crI call_tuple_of fun vs H Q ⟨ds, M, F, P, o, r, ⟨d, e, q⟩, k⟩ => by
  subst e; obtain ⟨v, rfl, rv⟩ := r.one_inv
  have fin : (∃ xs : List D, Srd M d xs ∧ P (.tup xs) M) → ∃ p ys, [v] = [V.ref p] ∧ ((SqL X.K H p ys ∧ ∀ l, H l = none → Q (.ref l) (upd H l (.tup ys))) ∨ (SqT X.K H p ys ∧ Q (.ref p) H)) := fun ⟨xs, sr, n⟩ => by
    obtain ⟨a, ws, rfl, h1, h2⟩ := sr.get o rv
    exact ⟨a, ws, rfl, .inl ⟨h1, fun l hl => newT n o hl h2 k⟩⟩
  cases d with
  | tup xs => cases rv with | tup h1 h2 => exact ⟨_, _, rfl, .inr ⟨ex_t stab_le h1, k _ M _ H q (To.refl o) (.tup h1 h2)⟩⟩
  | _ => exact fin q
end

/-! ### isinstance with a built-in class -/
inductive Cn where | int | bool | str | tuple | list
def Cn.nm : Cn → String | .int => "int" | .bool => "bool" | .str => "str" | .tuple => "tuple" | .list => "list"
def isI (c : Cn) (M : Mem) : D → Bool → Prop
  | .non, b => b = false
  | .bl _, b => b = (match c with | .int => true | .bool => true | _ => false)
  | .int _, b => b = (match c with | .int => true | _ => false)
  | .str _, b => b = (match c with | .str => true | _ => false)
  | .tup _, b => b = (match c with | .tuple => true | _ => false)
  | .lst _, b => b = (match c with | .list => true | _ => false)
  | .ref a, b => (∃ xs, M a = some (.lst xs)) ∧ b = (match c with | .list => true | _ => false)
  | _, _ => False
def bIsi (c : Cn) : DCl := fun ds M Q => ∃ d b, ds = [d, .ty c.nm] ∧ isI c M d b ∧ Q (.bl b) M
section
variable {X : Cx}
theorem sqT_ty {K : PySem.W.Frag} {H : Hp} {a : Addr} {vs : List V} (h : SqT K H a vs) : TyX K H (.ref a) (.type "tuple") := by
  rcases h with (h | ⟨o, h⟩) | ⟨o, its, n, hk, hc, _⟩
  · exact .base (.tup h)
  · exact .fTuple h
  · exact .kTuple hk hc
theorem cd_isi (c : Cn) : CallR X (.builtin "isinstance") (liC X.K (bIsi c)) := crI call_isi fun vs H Q ⟨ds, M, F, P, o, r, ⟨d, b, e, hi, q⟩, k⟩ => by
  subst e
  obtain ⟨v, w, rfl, rv, rw'⟩ := r.two_inv
  have ew : w = .ty c.nm := by cases rw'; rfl
  subst ew
  have fin : ∀ t : String, TyX X.K H v (.type t) → kitB t c.nm = some b → ∃ (x c' : V) (t u : Value) (b : Bool), [v, V.ty c.nm] = [x, c'] ∧ ClsV c' u ∧ TyX X.K H x t ∧ PySem.W.kitOne X.K t u = some b ∧ Q (.bl b) H := fun t ty hb =>
    ⟨v, _, _, _, b, rfl, .ty _, ty, kit_ty hb, k _ M _ H q (To.refl o) (.bl b)⟩
  cases d with
  | non => cases rv; have hi : b = false := hi; subst hi; exact fin "NoneType" (.base .non) (by cases c <;> decide +kernel)
  | bl x => cases rv; have hi : b = _ := hi; subst hi; exact fin "bool" (.base (.bl x)) (by cases c <;> decide +kernel)
  | int x => cases rv; have hi : b = _ := hi; subst hi; exact fin "int" (.base (.int x)) (by cases c <;> decide +kernel)
  | str x => cases rv; have hi : b = _ := hi; subst hi; exact fin "str" (.base (.str x)) (by cases c <;> decide +kernel)
  | tup x => cases rv with | tup h1 h2 => have hi : b = _ := hi; subst hi; exact fin "tuple" (sqT_ty (ex_t stab_le h1)) (by cases c <;> decide +kernel)
  | lst x => cases rv with | lst h1 h2 => have hi : b = _ := hi; subst hi; exact fin "list" (.base (.lst (stab_le _ _ h1))) (by cases c <;> decide +kernel)
  | ref a =>
    cases rv
    obtain ⟨⟨xs, hm⟩, hi⟩ := hi
    obtain ⟨ws, h1, h2⟩ := o.mem _ _ hm
    subst hi; exact fin "list" (.base (.lst h1)) (by cases c <;> decide +kernel)
  | _ => exact (show False from hi).elim
end

/-! ### defs -/
/-- a def's promise, as data -/
abbrev DSp := List D → Mem → (D → Mem → Prop) → Prop
def liP (K : PySem.W.Frag) (sp : DSp) : Sp := fun vs H Q _ => ∃ ds M F P, Ok K F H M ∧ IsL K (stab H M F) vs ds ∧ sp ds M P ∧ ∀ d M' v H', P d M' → To K F H M H' M' → Is K (stab H' M' F) v d → Q v H'
def dCall (sp : DSp) (t : DTA) : DTE := fun τ M Q => t τ M fun ds M1 => sp ds M1 Q
theorem liCall {K : PySem.W.Frag} {sp : DSp} {t : DTA} {E : XK} (σ : St) (H : Hp) (Q : VK) (h : liE K (dCall sp t) σ H Q) : tCall (liP K sp) [] E (liA K t) σ H Q := by
  obtain ⟨τ, M, F, P, s, q, k⟩ := h
  refine ⟨τ, M, F, _, s, q, fun ds M1 vs H1 q1 t1 r1 => ?_⟩
  show liP K sp (vs ++ []) H1 Q E
  rw [List.append_nil]
  exact ⟨ds, M1, F, P, t1.ok, r1, q1, fun d' M' v' H' p t => k d' M' v' H' p (t1.trans t)⟩
def dstart (N : List Str) (ds : List D) : DSt := ds.map some ++ List.replicate (N.length - ds.length) none
theorem IsS.start {K : PySem.W.Frag} {S : Hp} {vs : List V} {ds : List D} (N : List Str) (r : IsL K S vs ds) : IsS K S (L2.start N vs) (dstart N ds) := by
  refine ⟨by unfold L2.start dstart; simp [r.length], fun i d e => ?_⟩
  unfold dstart at e
  unfold L2.start
  by_cases h : i < ds.length
  · rw [List.getElem?_append_left (by simpa using h), List.getElem?_map] at e
    obtain ⟨d', e1, e2⟩ := Option.map_eq_some_iff.mp e
    cases e2
    obtain ⟨v, h1, h2⟩ := r.at e1
    exact ⟨v, by rw [List.getElem?_append_left (by simp [r.length, h]), List.getElem?_map, h1]; rfl, h2⟩
  · rw [List.getElem?_append_right (by simpa using Nat.le_of_not_lt h), List.getElem?_replicate] at e
    split at e
    · cases e
    · cases e
section
variable {X : Cx} {CX : CXT} {k : Nat} {f : Addr} {fd : FuncData} {ps : List Str} {sp : DSp} {E : XK} {x : Str} {p pos : Pos} {e : Expr} {es : List Expr} {t : DTA}
theorem de_call (F : FnOk X.prog X.w X.K X.mg X.base CX0 k f fd ps (liP X.K sp)) (hr : Room k X.A) (hg : Gl X x) (hm : X.mg x = some (.ref f)) (hk : PySem.W.keepIn X.K (.ref f) = true) (hb : Binds X.K fd ps [])
    (ha : DA X (e :: es) t) (hdb : (x == ("__debug__" : Str)) = false := by decide) (he : starEach (e :: es) X.env = (false, eval e X.env) :: starEach es X.env := by rfl) (hpl : (backTo pos (starEach es X.env)).any (·.1) = false := by rfl) :
    DE X (.Call (.Name x p) (e :: es) [] pos) (dCall sp t) := peI (pe_call (E := E0) F hr hg hm hk hb .nil pass0 ha hdb he hpl) liCall
theorem de_call0 (F : FnOk X.prog X.w X.K X.mg X.base CX0 k f fd ps (liP X.K sp)) (hr : Room k X.A) (hg : Gl X x) (hm : X.mg x = some (.ref f)) (hk : PySem.W.keepIn X.K (.ref f) = true) (hb : Binds X.K fd ps [])
    (hdb : (x == ("__debug__" : Str)) = false := by decide) : DE X (.Call (.Name x p) [] [] pos) (dCall sp dNil) := peI (pe_call0 (E := E0) F hr hg hm hk hb .nil pass0 hdb) fun σ H Q h => by
  have := liCall (E := E0) σ H Q h
  obtain ⟨τ, M, F, P, s, q, k⟩ := h
  exact ⟨[], M, F, P, s.ok, .nil, q, k⟩
end
section
variable {P : Program} {w : World} {K : PySem.W.Frag} {mg : Str → Option Value} {base : Heap}
/-- THE RULE for a def that lets no exception out -/
theorem okD {x qual : Str} {st : Stmt} {f : Addr} {fd : FuncData} {N ps : List Str} {k : Nat} {sp : DSp} (F : Fun K x qual st f fd) (S : FnScope N ps (defScope st)) (len : ∀ ds M Q, sp ds M Q → ds.length = ps.length)
    (hbody : ∀ (cdv : Value) (A : Around) (outer : List Env) (s : Shared) (H : Hp) (E : XK) (ds : List D) (M : Mem) (Q : D → Mem → Prop), Room k (A.deeper (PyProof.Rows.envOfC qual (defScope st) s.heap.objs.size f cdv)) → sp ds M Q →
      ∃ t, DSs (cxOf CX0 P w K mg base N qual (defScope st) f cdv A outer s H E).nox (defBody st) t ∧ t { nx := fun _ M' => Q .non M', rt := Q } (dstart N ds) M) : FnOk P w K mg base CX0 (k + 1) f fd ps (liP K sp) := by
  refine F.ok S (fun vs H Q E ⟨ds, M, G, R, o, r, q, _⟩ => by rw [r.length]; exact len ds M R q) fun cdv A outer s H vs Q E hr ⟨ds, M, G, R, o, r, q, kk⟩ => ?_
  obtain ⟨t, h1, h2⟩ := hbody cdv A outer s H E ds M R hr q
  refine ⟨_, h1, dstart N ds, M, G, _, ⟨o, IsS.start N r⟩, ⟨fun σ' H' τ' M' t1 s1 q1 => ?_, fun _ _ _ _ _ _ q => False.elim q, fun _ _ _ _ _ _ q => False.elim q, fun v H' d M' t1 r1 q1 => ?_⟩, h2⟩
  · exact kk .non M' .non H' q1 t1 .non
  · exact kk d M' v H' q1 t1 r1
end
end DL

set_option Elab.async false
set_option linter.all false
set_option maxRecDepth 100000
set_option maxHeartbeats 2000000
namespace DL
open PySem L2

/-! ### the operators by what they meet -/
def oAdd : DOp := fun x y M Q => match x, y with
  | .int i, .int j => Q (.int (i + j)) M
  | .str i, .str j => i.length + j.length ≤ sizeLine ∧ Q (.str (i ++ j)) M
  | .tup xs, .tup ys => xs.length + ys.length ≤ sizeLine ∧ Q (.tup (xs ++ ys)) M
  | x, y => ∃ xs ys, Rdl M x xs ∧ Rdl M y ys ∧ xs.length + ys.length ≤ sizeLine ∧ NewL (xs ++ ys) M Q
def oSub : DOp := oI (fun _ _ => True) fun i j => .int (i - j)
def oMul : DOp := oI IntMulOk fun i j => .int (i * j)
def CDv (i j : Int) : Prop := 0 < j ∧ Builtin.divisionGoesByPylong i j = false
def oDiv : DOp := oI CDv fun i j => .int (i / j)
def oMod : DOp := oI (fun _ j => 0 < j) fun i j => .int (i % j)
def oShl : DOp := oI CShl fun i j => .int (i * 2 ^ j.toNat)
def oShr : DOp := oI (fun _ j => 0 ≤ j) fun i j => .int (i / 2 ^ j.toNat)
def oAnd : DOp := oI (fun _ _ => True) fun i j => .int (Builtin.bitAnd i j)
def oOr : DOp := oI (fun _ _ => True) fun i j => .int (Builtin.bitOr i j)
def oXor : DOp := oI (fun _ _ => True) fun i j => .int (Builtin.bitXor i j)
def oPow : DOp := oI CPow fun i j => .int (i ^ j.toNat)
def oLt : DOp := oI (fun _ _ => True) fun i j => .bl (decide (i < j))
def oLe : DOp := oI (fun _ _ => True) fun i j => .bl (decide (i ≤ j))
def oGt : DOp := oI (fun _ _ => True) fun i j => .bl (decide (j < i))
def oGe : DOp := oI (fun _ _ => True) fun i j => .bl (decide (j ≤ i))
section
variable {X : Cx}
theorem or_add : OpR X (binaryOp .Add) (liO X.K oAdd) := by
  intro pins s σ H x y v u Q I rx ry ⟨dx, dy, M, F, P, o, r1, r2, q, k⟩
  have fin : (∃ xs ys, Rdl M dx xs ∧ Rdl M dy ys ∧ xs.length + ys.length ≤ sizeLine ∧ NewL (xs ++ ys) M P) → wpAny (model X.prog X.w) X.A (binaryOp .Add v u) (EP X pins σ Q) X.xe s := fun ⟨xs, ys, h1, h2, hz, n⟩ => by
    obtain ⟨a, vs, rfl, h3, h4⟩ := h1.get o r1
    obtain ⟨b, ws, rfl, h5, h6⟩ := h2.get o r2
    exact op_cat pins s σ H _ _ v u Q I rx ry ⟨a, b, vs, ws, rfl, rfl, h3, h5, by rw [h4.length, h6.length]; exact hz, fun p hp => n.ok o hp (h4.append h6) k⟩
  cases dx with
  | int i =>
    cases dy with
    | int j => exact op_add pins s σ H _ _ v u Q I rx ry ⟨i, j, r1.int_inv, r2.int_inv, k _ M _ H q (To.refl o) (.int _)⟩
    | _ => exact fin q
  | str i =>
    cases dy with
    | str j => cases r1; cases r2; exact op_add_str pins s σ H _ _ v u Q I rx ry ⟨i, j, rfl, rfl, q.1, k _ M _ H q.2 (To.refl o) (.str _)⟩
    | _ => exact fin q
  | tup xs =>
    cases dy with
    | tup ys =>
      cases r1 with
      | tup h1 h2 =>
        cases r2 with
        | tup h3 h4 =>
          refine op_catA pins s σ H _ _ v u Q I rx ry ⟨_, _, _, _, rfl, rfl, ex_t stab_le h1, ex_t stab_le h3, by rw [h2.length, h4.length]; exact q.1, fun e => ?_, fun e1 e2 => ?_, fun e1 e2 p hp => ?_⟩
          · subst e; cases h2; exact k _ M _ H q.2 (To.refl o) (.tup h3 h4)
          · subst e2; cases h4
            have q2 := q.2
            rw [List.append_nil] at q2
            exact k _ M _ H q2 (To.refl o) (.tup h1 h2)
          · exact newT q.2 o hp (h2.append h4) k
    | _ => exact fin q
  | _ => exact fin q
theorem or_sub : OpR X (binaryOp .Sub) (liO X.K oSub) := or_I0 op_sub
theorem op_mulA : OpR X (binaryOp .Mult) (rI IntMulOk fun i j => .int (i * j)) := opI fun _ _ _ _ _ _ _ hc q => PyProof.Rows.mul_int q hc
theorem or_mul : OpR X (binaryOp .Mult) (liO X.K oMul) := or_I op_mulA
theorem op_divX : OpR X (binaryOp .FloorDiv) (rI CDv fun i j => .int (i / j)) := opI fun i j _ _ _ _ _ hc q => by
  have h1 : (0 : Int) < j := hc.1
  exact PyProof.Rows.floordiv_int (by omega) (by rw [Int.fdiv_eq_ediv_of_nonneg i (by omega)]; exact q) (.inl hc.2)
theorem or_div : OpR X (binaryOp .FloorDiv) (liO X.K oDiv) := or_I op_divX
theorem or_mod : OpR X (binaryOp .Mod) (liO X.K oMod) := or_I op_mod
theorem or_shl : OpR X (binaryOp .LShift) (liO X.K oShl) := or_I op_shlW
theorem or_shr : OpR X (binaryOp .RShift) (liO X.K oShr) := or_I op_shr
theorem or_and : OpR X (binaryOp .BitAnd) (liO X.K oAnd) := or_I0 op_and
theorem or_or : OpR X (binaryOp .BitOr) (liO X.K oOr) := or_I0 op_or
theorem or_xor : OpR X (binaryOp .BitXor) (liO X.K oXor) := or_I0 op_xor
theorem or_pow : OpR X (binaryOp .Pow) (liO X.K oPow) := or_I op_pow
theorem or_lt : OpR X (compareOp .Lt) (liO X.K oLt) := or_B0 op_lt
theorem or_le : OpR X (compareOp .LtE) (liO X.K oLe) := or_B0 op_le
theorem or_gt : OpR X (compareOp .Gt) (liO X.K oGt) := or_B0 op_gt
theorem or_ge : OpR X (compareOp .GtE) (liO X.K oGe) := or_B0 op_ge
end
theorem dv_small {i j : Int} (h : 0 < j) (h2 : j < 1073741824) : CDv i j := ⟨h, PyProof.noPylong_small (by omega)⟩
theorem dv_wide {i j : Int} {n : Nat} (h : 0 < j) (h2 : j.natAbs < 2 ^ n) (h0 : 0 < n) (hn : n ≤ 9000) : CDv i j :=
  ⟨h, PyProof.noPylong_of_log2 (wide_div (i := i) h h2 h0 hn).2⟩
theorem shl_nat {i : Int} {j n : Nat} (h : i.natAbs < 2 ^ n) (hn : n + j ≤ 134217728) : CShl i (j : Int) := shl_ok h hn
theorem mul_ok {i j : Int} {a b : Nat} (ha : i.natAbs < 2 ^ a) (hb : j.natAbs < 2 ^ b) (h : a + b ≤ 134217728) : IntMulOk i j := (mulx_ok ha hb h).ok
theorem mul_l {i j : Int} (h : -(2 ^ 64) < i ∧ i < 2 ^ 64) : IntMulOk i j := CMul.ok (.inl h)
theorem mul_r {i j : Int} (h : -(2 ^ 64) < j ∧ j < 2 ^ 64) : IntMulOk i j := CMul.ok (.inr h)

/-! ### comparisons -/
mutual
def toPy : D → Option PyData
  | .non => some .none
  | .bl b => some (.bool b)
  | .int i => some (.int i)
  | .str x => some (.str x)
  | .tup xs => (toPys xs).map .tuple
  | .lst xs => (toPys xs).map .list
  | _ => none
def toPys : List D → Option (List PyData)
  | [] => some []
  | x :: xs => match toPy x, toPys xs with
    | some a, some b => some (a :: b)
    | _, _ => none
end
section
variable {K : PySem.W.Frag} {S : Hp}
mutual
theorem toPy_ok : ∀ {d : D} {v : V} {p : PyData}, Is K S v d → toPy d = some p → Dp K S v p
  | .non, _, _, r, e => by cases r; cases e; exact .non
  | .bl b, _, _, r, e => by cases r; cases e; exact .bl b
  | .int i, _, _, r, e => by cases r; cases e; exact .int i
  | .str x, _, _, r, e => by cases r; cases e; exact .str x
  | .tup xs, _, _, r, e => by
    unfold toPy at e
    obtain ⟨ps, e1, e2⟩ := Option.map_eq_some_iff.mp e
    subst e2
    cases r with | tup h1 h2 => exact .tup h1 (toPys_ok h2 e1)
  | .lst xs, _, _, r, e => by
    unfold toPy at e
    obtain ⟨ps, e1, e2⟩ := Option.map_eq_some_iff.mp e
    subst e2
    cases r with | lst h1 h2 => exact .lst (SqL.of h1) (toPys_ok h2 e1)
  | .ty _, _, _, _, e => by cases e
  | .ref _, _, _, _, e => by cases e
  | .scr _, _, _, _, e => by cases e
  | .obj _ _, _, _, _, e => by cases e
  | .dic _, _, _, _, e => by cases e
  | .dit _, _, _, _, e => by cases e
theorem toPys_ok : ∀ {ds : List D} {vs : List V} {ps : List PyData}, IsL K S vs ds → toPys ds = some ps → DpAll K S vs ps
  | [], _, _, r, e => by cases r; cases e; exact .nil
  | d :: ds, _, _, r, e => by
    cases r with
    | cons h1 h2 =>
      unfold toPys at e
      cases e1 : toPy d with
      | none => rw [e1] at e; cases e
      | some a =>
        cases e2 : toPys ds with
        | none => rw [e1, e2] at e; cases e
        | some b => rw [e1, e2] at e; cases e; exact .cons (toPy_ok h1 e1) (toPys_ok h2 e2)
end
end
def PyOf (M : Mem) (d : D) (p : PyData) : Prop := toPy d = some p ∨ ∃ xs ps, Rdl M d xs ∧ toPys xs = some ps ∧ p = .list ps
mutual
theorem Dp.ex {K : PySem.W.Frag} {S S' : Hp} (e : Ex S S') : ∀ {v : V} {p : PyData}, Dp K S v p → Dp K S' v p
  | _, _, .non => .non
  | _, _, .bl b => .bl b
  | _, _, .int i => .int i
  | _, _, .str x => .str x
  | _, _, .lst h r => .lst (ex_l e h) (DpAll.ex e r)
  | _, _, .tup h r => .tup (ex_t e h) (DpAll.ex e r)
theorem DpAll.ex {K : PySem.W.Frag} {S S' : Hp} (e : Ex S S') : ∀ {v : List V} {p : List PyData}, DpAll K S v p → DpAll K S' v p
  | _, _, .nil => .nil
  | _, _, .cons h r => .cons (Dp.ex e h) (DpAll.ex e r)
end
theorem PyOf.ok {K : PySem.W.Frag} {F : Fr} {H : Hp} {M : Mem} {d : D} {p : PyData} {v : V} (h : PyOf M d p) (o : Ok K F H M) (r : Is K (stab H M F) v d) : Dp K H v p := by
  rcases h with h | ⟨xs, ps, h1, h2, rfl⟩
  · exact Dp.ex stab_le (toPy_ok r h)
  · obtain ⟨a, vs, rfl, h3, h4⟩ := h1.get o r
    exact .lst (SqL.of h3) (DpAll.ex stab_le (toPys_ok h4 h2))
def eqS : D → D → Option Bool
  | .non, .non => some true | .non, .int _ => some false | .int _, .non => some false | .non, .bl _ => some false | .bl _, .non => some false | .non, .str _ => some false | .str _, .non => some false
  | .int i, .int j => some (decide (i = j)) | .bl i, .bl j => some (decide (i = j)) | .str i, .str j => some (decide (i = j))
  | .int _, .str _ => some false | .str _, .int _ => some false | .bl _, .str _ => some false | .str _, .bl _ => some false
  | _, _ => none
/-- ==, of scalars or of data at any depth -/
def oEq : DOp := fun x y M Q => match x, y with
  | .int i, .int j => Q (.bl (decide (i = j))) M
  | .str i, .str j => Q (.bl (decide (i = j))) M
  | x, y => (∃ b, eqS x y = some b ∧ Q (.bl b) M) ∨ ∃ p q, PyOf M x p ∧ PyOf M y q ∧ SeqAt.shaped p = true ∧ SeqAt.shaped q = true ∧ Q (.bl (PyData.eqv p q)) M
def oNe : DOp := fun x y M Q => match x, y with
  | .int i, .int j => Q (.bl (!decide (i = j))) M
  | .str i, .str j => Q (.bl (!decide (i = j))) M
  | x, y => (∃ b, eqS x y = some b ∧ Q (.bl (!b)) M) ∨ ∃ p q, PyOf M x p ∧ PyOf M y q ∧ SeqAt.shaped p = true ∧ SeqAt.shaped q = true ∧ Q (.bl (!PyData.eqv p q)) M
theorem eqS_ok {K : PySem.W.Frag} {S : Hp} {x y : D} {v w : V} {b : Bool} (h : eqS x y = some b) (r1 : Is K S v x) (r2 : Is K S w y) : scal v w = true ∧ decide (v = w) = b := by
  cases x <;> cases y <;> first
    | (cases h; done)
    | (cases r1; cases r2; cases h; exact ⟨rfl, by simp⟩)
section
variable {X : Cx}
theorem or_eq (hu : X.A.units + 64 < cLine) : OpR X (compareOp .Eq) (liO X.K oEq) := by
  intro pins s σ H x y v u Q I rx ry ⟨dx, dy, M, F, P, o, r1, r2, q, k⟩
  have fin : ((∃ b, eqS dx dy = some b ∧ P (.bl b) M) ∨ ∃ p q, PyOf M dx p ∧ PyOf M dy q ∧ SeqAt.shaped p = true ∧ SeqAt.shaped q = true ∧ P (.bl (PyData.eqv p q)) M) → wpAny (model X.prog X.w) X.A (compareOp .Eq v u) (EP X pins σ Q) X.xe s := by
    rintro (⟨b, e, p⟩ | ⟨a, b, h1, h2, s1, s2, p⟩)
    · obtain ⟨e1, e2⟩ := eqS_ok e r1 r2
      refine op_eq pins s σ H x y v u Q I rx ry ⟨e1, ?_⟩
      rw [e2]; exact k _ M _ H p (To.refl o) (.bl _)
    · exact op_eqD hu pins s σ H x y v u Q I rx ry ⟨a, b, h1.ok o r1, h2.ok o r2, s1, s2, k _ M _ H p (To.refl o) (.bl _)⟩
  cases dx with
  | int i =>
    cases dy with
    | int j => exact fin (.inl ⟨_, rfl, q⟩)
    | _ => exact fin q
  | str i =>
    cases dy with
    | str j => exact fin (.inl ⟨_, rfl, q⟩)
    | _ => exact fin q
  | _ => exact fin q
theorem or_ne (hu : X.A.units + 64 < cLine) : OpR X (compareOp .NotEq) (liO X.K oNe) := by
  intro pins s σ H x y v u Q I rx ry ⟨dx, dy, M, F, P, o, r1, r2, q, k⟩
  have fin : ((∃ b, eqS dx dy = some b ∧ P (.bl (!b)) M) ∨ ∃ p q, PyOf M dx p ∧ PyOf M dy q ∧ SeqAt.shaped p = true ∧ SeqAt.shaped q = true ∧ P (.bl (!PyData.eqv p q)) M) → wpAny (model X.prog X.w) X.A (compareOp .NotEq v u) (EP X pins σ Q) X.xe s := by
    rintro (⟨b, e, p⟩ | ⟨a, b, h1, h2, s1, s2, p⟩)
    · obtain ⟨e1, e2⟩ := eqS_ok e r1 r2
      refine op_ne pins s σ H x y v u Q I rx ry ⟨e1, ?_⟩
      rw [e2]; exact k _ M _ H p (To.refl o) (.bl _)
    · exact op_neD hu pins s σ H x y v u Q I rx ry ⟨a, b, h1.ok o r1, h2.ok o r2, s1, s2, k _ M _ H p (To.refl o) (.bl _)⟩
  cases dx with
  | int i =>
    cases dy with
    | int j => exact fin (.inl ⟨_, rfl, q⟩)
    | _ => exact fin q
  | str i =>
    cases dy with
    | str j => exact fin (.inl ⟨_, rfl, q⟩)
    | _ => exact fin q
  | _ => exact fin q
/-- is None, is not None -/
def oIsN : DOp := fun x y M Q => y = .non ∧ ∃ b, (match x with | .non => b = true | _ => b = false) ∧ Q (.bl b) M
def oNotN : DOp := fun x y M Q => y = .non ∧ ∃ b, (match x with | .non => b = false | _ => b = true) ∧ Q (.bl b) M
theorem isN_dec {K : PySem.W.Frag} {S : Hp} {v : V} {d : D} (r : Is K S v d) : decide (v = .non) = (match d with | .non => true | _ => false) := by
  cases r <;> simp
theorem or_isN : OpR X (compareOp .Is) (liO X.K oIsN) := opRI op_isN fun x y H Q ⟨dx, dy, M, F, P, o, r1, r2, ⟨e, b, hb, p⟩, k⟩ => by
  subst e
  refine ⟨by cases r2; rfl, ?_⟩
  rw [isN_dec r1]
  cases dx <;> (subst hb; exact k _ M _ H p (To.refl o) (.bl _))
theorem or_notN : OpR X (compareOp .IsNot) (liO X.K oNotN) := opRI op_notN fun x y H Q ⟨dx, dy, M, F, P, o, r1, r2, ⟨e, b, hb, p⟩, k⟩ => by
  subst e
  refine ⟨by cases r2; rfl, ?_⟩
  rw [isN_dec r1]
  cases dx <;> (subst hb; exact k _ M _ H p (To.refl o) (.bl _))
end
section
variable {X : Cx} {a b : Expr} {ta tb : DTE} {pos : Pos}
theorem de_cmp {op : CmpOp} {g : DOp} (ho : OpR X (compareOp op) (liO X.K g)) (ha : DE X a ta) (hb : DE X b tb) (hm : behindInMarks op b = false) : DE X (.Compare a [op] [b] pos) (dOp g ta tb) := peI (pe_cmpR ho ha hb hm) liOp
/-- a comparison as a test -/
def dTst (t : DTE) : DTT := fun τ M Q => t τ M fun x M1 => ∃ k, x = .bl k ∧ Q k M1
theorem dt_cmp {op : CmpOp} {g : DOp} (ho : OpR X (compareOp op) (liO X.K g)) (ha : DE X a ta) (hb : DE X b tb) (hm : behindInMarks op b = false) : DT X (.Compare a [op] [b] pos) (dTst (dOp g ta tb)) := ptI (pt_cmpR ho ha hb hm) fun σ H Q ⟨τ, M, F, P, s, q, k⟩ =>
  liOp σ H _ ⟨τ, M, F, _, s, q, fun d M' v H' ⟨c, e, p⟩ t r => by subst e; exact ⟨c, r.bl_inv, k c M' H' p t⟩⟩
theorem de_un {op : UnaryOp} {f : Int → Int} (ho : UnR X (unaryOp op) (rU fun i => .int (f i))) (ha : DE X a ta) : DE X (.UnaryOp op a pos) (fun τ M Q => ta τ M fun x M1 => ∃ i, x = .int i ∧ Q (.int (f i)) M1) := peI (pe_un ho ha) fun σ H Q ⟨τ, M, F, P, s, q, k⟩ =>
  ⟨τ, M, F, _, s, q, fun d M' v H' ⟨i, e, p⟩ t r => by subst e; exact ⟨i, r.int_inv, k _ M' _ H' p t (.int _)⟩⟩
end
end DL

set_option Elab.async false
set_option linter.all false
set_option maxRecDepth 100000
set_option maxHeartbeats 2000000
namespace DL
open PySem L2 PySem.Spec

/-! ### defs of the module by name -/
structure Dfn (K : PySem.W.Frag) (mg : Str → Option Value) (x : Str) (st : Stmt) : Prop where
  ex : ∃ f fd, Fun K x x st f fd ∧ mg x = some (.ref f)
theorem dfn_mk {K : PySem.W.Frag} {h : Heap} {mg : Str → Option Value} {x : Str} {st : Stmt} {f : Addr} (X : K.In h) (G : h.Ns mainGlobals mg) {oc : Value} {od an : Option Addr} {osl : Array (Option Value)} {kV doc pm cdv ct : Value}
    (a : PySem.W.nsIn K mainGlobals x = some (some (.ref f))) (l : K.lookup f = some ⟨oc, od, .func (PySem.W.fnOf x x (defArgs st) (defBody st) (defScope st) .none kV doc pm an cdv ct), osl⟩)
    (c : PySem.W.codeIn K cdv x = true) (k : PySem.W.keepIn K (.ref f) = true) : Dfn K mg x st := ⟨f, _, fun_mk l c k, PySem.W.mg_of X G a⟩
/-- a def that can be called: its promise -/
structure Fn (P : Program) (w : World) (K : PySem.W.Frag) (mg : Str → Option Value) (base : Heap) (x : Str) (ps : List Str) (k : Nat) (sp : DSp) : Prop where
  ex : ∃ f fd, FnOk P w K mg base CX0 k f fd ps (liP K sp) ∧ mg x = some (.ref f) ∧ PySem.W.keepIn K (.ref f) = true ∧ Binds K fd ps [] ∧ ∃ oc od osl, K.lookup f = some ⟨oc, od, .func fd, osl⟩
theorem Fn.imp {P : Program} {w : World} {K : PySem.W.Frag} {mg : Str → Option Value} {base : Heap} {x : Str} {ps : List Str} {k : Nat} {sp sp' : DSp} (F : Fn P w K mg base x ps k sp) (h : ∀ ds M Q, sp' ds M Q → sp ds M Q) : Fn P w K mg base x ps k sp' := by
  obtain ⟨f, fd, a, b, c, d, e⟩ := F.ex
  exact ⟨f, fd, a.imp fun vs H Q E ⟨ds, M, G, R, o, r, q, kk⟩ => ⟨ds, M, G, R, o, r, h ds M R q, kk⟩, b, c, d, e⟩
section
variable {X : Cx} {k : Nat} {x : Str} {ps : List Str} {sp : DSp} {p pos : Pos} {e : Expr} {es : List Expr} {t : DTA}
theorem de_fn (F : Fn X.prog X.w X.K X.mg X.base x ps k sp) (hr : Room k X.A) (hg : Gl X x) (ha : DA X (e :: es) t)
    (hdb : (x == ("__debug__" : Str)) = false := by decide) (he : starEach (e :: es) X.env = (false, eval e X.env) :: starEach es X.env := by rfl) (hpl : (backTo pos (starEach es X.env)).any (·.1) = false := by rfl) :
    DE X (.Call (.Name x p) (e :: es) [] pos) (dCall sp t) := by
  obtain ⟨f, fd, a, b, c, d, _⟩ := F.ex
  exact de_call a hr hg b c d ha hdb he hpl
theorem de_fn0 (F : Fn X.prog X.w X.K X.mg X.base x ps k sp) (hr : Room k X.A) (hg : Gl X x) (hdb : (x == ("__debug__" : Str)) = false := by decide) : DE X (.Call (.Name x p) [] [] pos) (dCall sp dNil) := by
  obtain ⟨f, fd, a, b, c, d, _⟩ := F.ex
  exact de_call0 a hr hg b c d hdb
theorem de_glob {v : V} {d : D} (h : ∃ u, X.mg x = some u ∧ RelV v u) (hg : Gl X x) (r : ∀ S, Is X.K S v d) (hd : (x == ("__debug__" : Str)) = false := by decide) : DE X (.Name x pos) (dC d) := by
  obtain ⟨u, h1, h2⟩ := h
  exact de_c (pe_glob hg h1 h2 hd) r
theorem de_tyname {n : String} (hg : Gl X x) (hm : X.mg x = none) (hv : bootBuiltins x = some (.type n)) (hn : x ≠ "__name__" := by decide) (hd : (x == ("__debug__" : Str)) = false := by decide) : DE X (.Name x pos) (dC (.ty n)) :=
  de_c (v := .ty n) (pe_bltn hg hm hv rfl hn hd) fun _ => .ty n
end
section
variable {P : Program} {w : World} {K : PySem.W.Frag} {mg : Str → Option Value} {base : Heap}
/-- the context of a def's body -/
abbrev bodyX (P : Program) (w : World) (K : PySem.W.Frag) (mg : Str → Option Value) (base : Heap) (N : List Str) (x : Str) (st : Stmt) (f : Addr) (cdv : Value) (A : Around) (outer : List Env) (s : Shared) (H : Hp) (E : XK) : Cx :=
  (cxOf CX0 P w K mg base N x (defScope st) f cdv A outer s H E).nox
theorem okF {x : Str} {st : Stmt} {N ps : List Str} {k : Nat} {sp : DSp} (D0 : Dfn K mg x st) (S : FnScope N ps (defScope st))
    (bd : ∀ (kV doc pm : Value) (an : Option Addr) (cdv ct : Value) (us : List Value), us.length = ps.length → bindArgs (PySem.W.fnOf x x (defArgs st) (defBody st) (defScope st) .none kV doc pm an cdv ct) ⟨us, []⟩ = pure (ps.zip us))
    (len : ∀ ds M Q, sp ds M Q → ds.length = ps.length) {t : DTS}
    (der : ∀ (f : Addr) (cdv : Value) (A : Around) (outer : List Env) (s : Shared) (H : Hp) (E : XK), Room k (bodyX P w K mg base N x st f cdv A outer s H E).A → DSs (bodyX P w K mg base N x st f cdv A outer s H E) (defBody st) t)
    (body : ∀ (ds : List D) (M : Mem) (Q : D → Mem → Prop), sp ds M Q → t { nx := fun _ M' => Q .non M', rt := Q } (dstart N ds) M) : Fn P w K mg base x ps (k + 1) sp := by
  obtain ⟨f, fd, F, m⟩ := D0.ex
  refine ⟨f, fd, okD F S len (fun cdv A outer s H E ds M Q hr hs => ⟨t, der f cdv A outer s H E hr, body ds M Q hs⟩), m, F.kp, F.binds bd, ?_⟩
  obtain ⟨oc, od, kV, doc, pm, an, cdv, ct, osl, rfl, lk, _⟩ := F.ex
  exact ⟨oc, od, osl, lk⟩
/-- the law's own def -/
theorem law_walk {l : PySem.W.OpenLaw} {k : Nat} {q : Program} {loose : List Str} {XP : (Str → Option Value) → Heap → Prop} {YP : World → Heap → Prop} {d : DefRec} {K : Params → PySem.W.Frag} {sp : DSp} {st : Stmt}
    (hn : l.most = some 63) (hdf : d.params.defaults = []) (hr : Room k callerA) (hY : ∀ (w : World) (h : Heap), YP w h → (K w.params).In h) (hd : d.name = "law")
    (F : ∀ (w : World) (mg : Str → Option Value) (fa : Addr) (h : Heap), (K w.params).In h → h.Ns mainGlobals mg → mg "law" = some (.ref fa) → ∀ base : Heap, Fn l.prog w (K w.params) mg base "law" ["script"] k sp)
    (D0 : ∀ (w : World) (mg : Str → Option Value) (fa : Addr) (h : Heap), (K w.params).In h → h.Ns mainGlobals mg → mg "law" = some (.ref fa) → Dfn (K w.params) mg "law" st)
    (bd : ∀ (kV doc pm : Value) (an : Option Addr) (cdv ct : Value) (us : List Value), us.length = 1 → bindArgs (PySem.W.fnOf "law" "law" (defArgs st) (defBody st) (defScope st) .none kV doc pm an cdv ct) ⟨us, []⟩ = pure ((["script"] : List Str).zip us))
    (hsp : ∀ ns : List Int, ns.length ≤ 63 → sp [.scr (ns.map D.int)] (fun _ => none) (fun d _ => d = .bl true)) :
    PySem.W.WalkO q loose XP YP l.row.toRowW d [] (fun f vs => PySem.call f vs) := by
  refine L2.walk_of (n := 63) (k := k) (x := "script") (CX := fun _ => CX0) (sp := fun w => liP (K w.params) sp) hn (by decide) hdf hr hY (fun w mg fa h KX G hmg => ?_) (fun w H a ns hl _ hS => ?_) fun _ _ _ _ _ z => z
  · rw [hd] at hmg
    obtain ⟨f, fd, F0, m0⟩ := (D0 w mg fa h KX G hmg).ex
    rw [hmg] at m0
    cases m0
    obtain ⟨oc, od, kV, doc, pm, an, cdv, ct, osl, rfl, lk, _⟩ := F0.ex
    refine ⟨PySem.W.fnOf "law" "law" (defArgs st) (defBody st) (defScope st) .none kV doc pm an cdv ct, fun s v => .of_eq (bd kV doc pm an cdv ct [v] rfl), fun base _ _ => ?_⟩
    obtain ⟨f2, fd2, a, b, _, _, oc2, od2, osl2, lk2⟩ := (F w mg fa h KX G hmg base).ex
    rw [hmg] at b
    cases b
    rw [lk] at lk2
    cases lk2
    exact a
  · refine ⟨[.scr (ns.map D.int)], fun _ => none, fun _ => false, fun d _ => d = .bl true, ⟨fun _ _ e => (nomatch e), fun _ e => (nomatch e)⟩, .cons (.scr (vs := ns.map V.int) ?_ (IsL.of_ints ns)) .nil, hsp ns hl, fun d M' v H' e _ r => ?_⟩
    · have e : stab H (fun _ => none) (fun _ => false) = H := by funext b; unfold stab; simp
      rw [e]; exact hS
    · subst e; exact r.bl_inv
theorem glob_mk {K : PySem.W.Frag} {h : Heap} {mg : Str → Option Value} {x : Str} {u : Value} {v : V} (X : K.In h) (G : h.Ns mainGlobals mg) (a : PySem.W.nsIn K mainGlobals x = some (some u)) (r : RelV v u) : ∃ u, mg x = some u ∧ RelV v u := ⟨u, PySem.W.mg_of X G a, r⟩
end
/-! ### [a, b] = a list -/
def gLs (n : Nat) (gs : DTGs) : DTG := fun d τ M Q => ∃ xs, Rdl M d xs ∧ xs.length = n ∧ gs xs τ M Q
section
variable {X : Cx} {pos : Pos}
theorem dg_seq {es : List Expr} {kk : Nat} {t : DTGs} {n : Nat} (hc : X.calm = true) (h : DGs X es t)
    (hn : (assignEach es X.env).length = n := by rfl) (hst : (assignEach es X.env).findIdx? (·.1) = none := by rfl) : DG X (.Tuple es kk pos) (gLs n t) := pgI (pg_lst hc h hn hst) fun v σ H Q ⟨d, τ, M, F, P, s, r, ⟨xs, e, hl, q⟩, k⟩ => by
  obtain ⟨a, vs, e1, h1, h2⟩ := e.get s.ok r
  exact ⟨a, vs, e1, SqL.of h1, by rw [h2.length, hl], xs, τ, M, F, P, s, h2, q, k⟩
end
end DL

set_option Elab.async false
set_option linter.all false
set_option maxRecDepth 100000
set_option maxHeartbeats 2000000
namespace DL
open PySem L2

section
variable {Y : DEnds} {τ : DSt} {M N : Mem} {Q : D → Mem → Prop} {QB : Bool → Mem → Prop} {QL : List D → Mem → Prop} {QS : DSt → Mem → Prop} {i j : Int} {d x y : D} {t u tw : DTS} {ta tb : DTE} {tt t2 : DTT} {tl : DTA} {g : DTG} {f : DOp} {b : Bool} {A B p : Prop}
theorem g_next {nx bk ct rt} (q : nx τ M) : dNext ⟨nx, rt, bk, ct⟩ τ M := q
theorem g_seq {nx bk ct rt} (q : t ⟨u ⟨nx, rt, bk, ct⟩, rt, bk, ct⟩ τ M) : dSeq t u ⟨nx, rt, bk, ct⟩ τ M := q
theorem g_brk {nx bk ct rt} (q : bk τ M) : dBreak ⟨nx, rt, bk, ct⟩ τ M := q
theorem g_cont {nx bk ct rt} (q : ct τ M) : dCont ⟨nx, rt, bk, ct⟩ τ M := q
theorem g_drop {nx bk ct rt} (q : ta τ M fun _ M1 => nx τ M1) : dDrop ta ⟨nx, rt, bk, ct⟩ τ M := q
theorem g_ret {nx bk ct rt} (q : ta τ M fun d M1 => ∃ N e, View M1 d N e ∧ rt e N) : dRet ta ⟨nx, rt, bk, ct⟩ τ M := q
theorem g_retN {nx bk ct rt} (q : ∃ N, Sub N M ∧ rt .non N) : dRetN ⟨nx, rt, bk, ct⟩ τ M := q
theorem g_ifS (q : tt τ M fun b M1 => if b = true then t Y τ M1 else u Y τ M1) : dIfS tt t u Y τ M := q
theorem g_asg {nx bk ct rt} (q : ta τ M fun d M1 => g d τ M1 nx) : dAsg ta g ⟨nx, rt, bk, ct⟩ τ M := q
theorem g_nm {k : Nat} (q : QS (τ.set k (some d)) M) : gNm k d τ M QS := q
theorem g_st {τ' : DSt} (e : τ = τ') (q : t Y τ' M) : t Y τ M := by subst e; exact q
theorem g_nm0 { b : Option D} {r : DSt} (q : QS (some d :: r) M) : gNm 0 d (b :: r) M QS := q
theorem g_nm1 {a0 b : Option D} {r : DSt} (q : QS (a0 :: some d :: r) M) : gNm 1 d (a0 :: b :: r) M QS := q
theorem g_nm2 {a0 a1 b : Option D} {r : DSt} (q : QS (a0 :: a1 :: some d :: r) M) : gNm 2 d (a0 :: a1 :: b :: r) M QS := q
theorem g_nm3 {a0 a1 a2 b : Option D} {r : DSt} (q : QS (a0 :: a1 :: a2 :: some d :: r) M) : gNm 3 d (a0 :: a1 :: a2 :: b :: r) M QS := q
theorem g_nm4 {a0 a1 a2 a3 b : Option D} {r : DSt} (q : QS (a0 :: a1 :: a2 :: a3 :: some d :: r) M) : gNm 4 d (a0 :: a1 :: a2 :: a3 :: b :: r) M QS := q
theorem g_nm5 {a0 a1 a2 a3 a4 b : Option D} {r : DSt} (q : QS (a0 :: a1 :: a2 :: a3 :: a4 :: some d :: r) M) : gNm 5 d (a0 :: a1 :: a2 :: a3 :: a4 :: b :: r) M QS := q
theorem g_nm6 {a0 a1 a2 a3 a4 a5 b : Option D} {r : DSt} (q : QS (a0 :: a1 :: a2 :: a3 :: a4 :: a5 :: some d :: r) M) : gNm 6 d (a0 :: a1 :: a2 :: a3 :: a4 :: a5 :: b :: r) M QS := q
theorem g_nm7 {a0 a1 a2 a3 a4 a5 a6 b : Option D} {r : DSt} (q : QS (a0 :: a1 :: a2 :: a3 :: a4 :: a5 :: a6 :: some d :: r) M) : gNm 7 d (a0 :: a1 :: a2 :: a3 :: a4 :: a5 :: a6 :: b :: r) M QS := q
theorem g_nm8 {a0 a1 a2 a3 a4 a5 a6 a7 b : Option D} {r : DSt} (q : QS (a0 :: a1 :: a2 :: a3 :: a4 :: a5 :: a6 :: a7 :: some d :: r) M) : gNm 8 d (a0 :: a1 :: a2 :: a3 :: a4 :: a5 :: a6 :: a7 :: b :: r) M QS := q
theorem g_nm9 {a0 a1 a2 a3 a4 a5 a6 a7 a8 b : Option D} {r : DSt} (q : QS (a0 :: a1 :: a2 :: a3 :: a4 :: a5 :: a6 :: a7 :: a8 :: some d :: r) M) : gNm 9 d (a0 :: a1 :: a2 :: a3 :: a4 :: a5 :: a6 :: a7 :: a8 :: b :: r) M QS := q
theorem g_nm10 {a0 a1 a2 a3 a4 a5 a6 a7 a8 a9 b : Option D} {r : DSt} (q : QS (a0 :: a1 :: a2 :: a3 :: a4 :: a5 :: a6 :: a7 :: a8 :: a9 :: some d :: r) M) : gNm 10 d (a0 :: a1 :: a2 :: a3 :: a4 :: a5 :: a6 :: a7 :: a8 :: a9 :: b :: r) M QS := q
theorem g_nm11 {a0 a1 a2 a3 a4 a5 a6 a7 a8 a9 a10 b : Option D} {r : DSt} (q : QS (a0 :: a1 :: a2 :: a3 :: a4 :: a5 :: a6 :: a7 :: a8 :: a9 :: a10 :: some d :: r) M) : gNm 11 d (a0 :: a1 :: a2 :: a3 :: a4 :: a5 :: a6 :: a7 :: a8 :: a9 :: a10 :: b :: r) M QS := q
theorem g_nm12 {a0 a1 a2 a3 a4 a5 a6 a7 a8 a9 a10 a11 b : Option D} {r : DSt} (q : QS (a0 :: a1 :: a2 :: a3 :: a4 :: a5 :: a6 :: a7 :: a8 :: a9 :: a10 :: a11 :: some d :: r) M) : gNm 12 d (a0 :: a1 :: a2 :: a3 :: a4 :: a5 :: a6 :: a7 :: a8 :: a9 :: a10 :: a11 :: b :: r) M QS := q
theorem g_nm13 {a0 a1 a2 a3 a4 a5 a6 a7 a8 a9 a10 a11 a12 b : Option D} {r : DSt} (q : QS (a0 :: a1 :: a2 :: a3 :: a4 :: a5 :: a6 :: a7 :: a8 :: a9 :: a10 :: a11 :: a12 :: some d :: r) M) : gNm 13 d (a0 :: a1 :: a2 :: a3 :: a4 :: a5 :: a6 :: a7 :: a8 :: a9 :: a10 :: a11 :: a12 :: b :: r) M QS := q
theorem g_nm14 {a0 a1 a2 a3 a4 a5 a6 a7 a8 a9 a10 a11 a12 a13 b : Option D} {r : DSt} (q : QS (a0 :: a1 :: a2 :: a3 :: a4 :: a5 :: a6 :: a7 :: a8 :: a9 :: a10 :: a11 :: a12 :: a13 :: some d :: r) M) : gNm 14 d (a0 :: a1 :: a2 :: a3 :: a4 :: a5 :: a6 :: a7 :: a8 :: a9 :: a10 :: a11 :: a12 :: a13 :: b :: r) M QS := q
theorem g_nm15 {a0 a1 a2 a3 a4 a5 a6 a7 a8 a9 a10 a11 a12 a13 a14 b : Option D} {r : DSt} (q : QS (a0 :: a1 :: a2 :: a3 :: a4 :: a5 :: a6 :: a7 :: a8 :: a9 :: a10 :: a11 :: a12 :: a13 :: a14 :: some d :: r) M) : gNm 15 d (a0 :: a1 :: a2 :: a3 :: a4 :: a5 :: a6 :: a7 :: a8 :: a9 :: a10 :: a11 :: a12 :: a13 :: a14 :: b :: r) M QS := q
theorem g_nm16 {a0 a1 a2 a3 a4 a5 a6 a7 a8 a9 a10 a11 a12 a13 a14 a15 b : Option D} {r : DSt} (q : QS (a0 :: a1 :: a2 :: a3 :: a4 :: a5 :: a6 :: a7 :: a8 :: a9 :: a10 :: a11 :: a12 :: a13 :: a14 :: a15 :: some d :: r) M) : gNm 16 d (a0 :: a1 :: a2 :: a3 :: a4 :: a5 :: a6 :: a7 :: a8 :: a9 :: a10 :: a11 :: a12 :: a13 :: a14 :: a15 :: b :: r) M QS := q
theorem g_nm17 {a0 a1 a2 a3 a4 a5 a6 a7 a8 a9 a10 a11 a12 a13 a14 a15 a16 b : Option D} {r : DSt} (q : QS (a0 :: a1 :: a2 :: a3 :: a4 :: a5 :: a6 :: a7 :: a8 :: a9 :: a10 :: a11 :: a12 :: a13 :: a14 :: a15 :: a16 :: some d :: r) M) : gNm 17 d (a0 :: a1 :: a2 :: a3 :: a4 :: a5 :: a6 :: a7 :: a8 :: a9 :: a10 :: a11 :: a12 :: a13 :: a14 :: a15 :: a16 :: b :: r) M QS := q
theorem g_nm18 {a0 a1 a2 a3 a4 a5 a6 a7 a8 a9 a10 a11 a12 a13 a14 a15 a16 a17 b : Option D} {r : DSt} (q : QS (a0 :: a1 :: a2 :: a3 :: a4 :: a5 :: a6 :: a7 :: a8 :: a9 :: a10 :: a11 :: a12 :: a13 :: a14 :: a15 :: a16 :: a17 :: some d :: r) M) : gNm 18 d (a0 :: a1 :: a2 :: a3 :: a4 :: a5 :: a6 :: a7 :: a8 :: a9 :: a10 :: a11 :: a12 :: a13 :: a14 :: a15 :: a16 :: a17 :: b :: r) M QS := q
theorem g_nm19 {a0 a1 a2 a3 a4 a5 a6 a7 a8 a9 a10 a11 a12 a13 a14 a15 a16 a17 a18 b : Option D} {r : DSt} (q : QS (a0 :: a1 :: a2 :: a3 :: a4 :: a5 :: a6 :: a7 :: a8 :: a9 :: a10 :: a11 :: a12 :: a13 :: a14 :: a15 :: a16 :: a17 :: a18 :: some d :: r) M) : gNm 19 d (a0 :: a1 :: a2 :: a3 :: a4 :: a5 :: a6 :: a7 :: a8 :: a9 :: a10 :: a11 :: a12 :: a13 :: a14 :: a15 :: a16 :: a17 :: a18 :: b :: r) M QS := q
theorem g_nm20 {a0 a1 a2 a3 a4 a5 a6 a7 a8 a9 a10 a11 a12 a13 a14 a15 a16 a17 a18 a19 b : Option D} {r : DSt} (q : QS (a0 :: a1 :: a2 :: a3 :: a4 :: a5 :: a6 :: a7 :: a8 :: a9 :: a10 :: a11 :: a12 :: a13 :: a14 :: a15 :: a16 :: a17 :: a18 :: a19 :: some d :: r) M) : gNm 20 d (a0 :: a1 :: a2 :: a3 :: a4 :: a5 :: a6 :: a7 :: a8 :: a9 :: a10 :: a11 :: a12 :: a13 :: a14 :: a15 :: a16 :: a17 :: a18 :: a19 :: b :: r) M QS := q
theorem g_nm21 {a0 a1 a2 a3 a4 a5 a6 a7 a8 a9 a10 a11 a12 a13 a14 a15 a16 a17 a18 a19 a20 b : Option D} {r : DSt} (q : QS (a0 :: a1 :: a2 :: a3 :: a4 :: a5 :: a6 :: a7 :: a8 :: a9 :: a10 :: a11 :: a12 :: a13 :: a14 :: a15 :: a16 :: a17 :: a18 :: a19 :: a20 :: some d :: r) M) : gNm 21 d (a0 :: a1 :: a2 :: a3 :: a4 :: a5 :: a6 :: a7 :: a8 :: a9 :: a10 :: a11 :: a12 :: a13 :: a14 :: a15 :: a16 :: a17 :: a18 :: a19 :: a20 :: b :: r) M QS := q
theorem g_nm22 {a0 a1 a2 a3 a4 a5 a6 a7 a8 a9 a10 a11 a12 a13 a14 a15 a16 a17 a18 a19 a20 a21 b : Option D} {r : DSt} (q : QS (a0 :: a1 :: a2 :: a3 :: a4 :: a5 :: a6 :: a7 :: a8 :: a9 :: a10 :: a11 :: a12 :: a13 :: a14 :: a15 :: a16 :: a17 :: a18 :: a19 :: a20 :: a21 :: some d :: r) M) : gNm 22 d (a0 :: a1 :: a2 :: a3 :: a4 :: a5 :: a6 :: a7 :: a8 :: a9 :: a10 :: a11 :: a12 :: a13 :: a14 :: a15 :: a16 :: a17 :: a18 :: a19 :: a20 :: a21 :: b :: r) M QS := q
theorem g_nm23 {a0 a1 a2 a3 a4 a5 a6 a7 a8 a9 a10 a11 a12 a13 a14 a15 a16 a17 a18 a19 a20 a21 a22 b : Option D} {r : DSt} (q : QS (a0 :: a1 :: a2 :: a3 :: a4 :: a5 :: a6 :: a7 :: a8 :: a9 :: a10 :: a11 :: a12 :: a13 :: a14 :: a15 :: a16 :: a17 :: a18 :: a19 :: a20 :: a21 :: a22 :: some d :: r) M) : gNm 23 d (a0 :: a1 :: a2 :: a3 :: a4 :: a5 :: a6 :: a7 :: a8 :: a9 :: a10 :: a11 :: a12 :: a13 :: a14 :: a15 :: a16 :: a17 :: a18 :: a19 :: a20 :: a21 :: a22 :: b :: r) M QS := q
theorem g_nm24 {a0 a1 a2 a3 a4 a5 a6 a7 a8 a9 a10 a11 a12 a13 a14 a15 a16 a17 a18 a19 a20 a21 a22 a23 b : Option D} {r : DSt} (q : QS (a0 :: a1 :: a2 :: a3 :: a4 :: a5 :: a6 :: a7 :: a8 :: a9 :: a10 :: a11 :: a12 :: a13 :: a14 :: a15 :: a16 :: a17 :: a18 :: a19 :: a20 :: a21 :: a22 :: a23 :: some d :: r) M) : gNm 24 d (a0 :: a1 :: a2 :: a3 :: a4 :: a5 :: a6 :: a7 :: a8 :: a9 :: a10 :: a11 :: a12 :: a13 :: a14 :: a15 :: a16 :: a17 :: a18 :: a19 :: a20 :: a21 :: a22 :: a23 :: b :: r) M QS := q
theorem g_nm25 {a0 a1 a2 a3 a4 a5 a6 a7 a8 a9 a10 a11 a12 a13 a14 a15 a16 a17 a18 a19 a20 a21 a22 a23 a24 b : Option D} {r : DSt} (q : QS (a0 :: a1 :: a2 :: a3 :: a4 :: a5 :: a6 :: a7 :: a8 :: a9 :: a10 :: a11 :: a12 :: a13 :: a14 :: a15 :: a16 :: a17 :: a18 :: a19 :: a20 :: a21 :: a22 :: a23 :: a24 :: some d :: r) M) : gNm 25 d (a0 :: a1 :: a2 :: a3 :: a4 :: a5 :: a6 :: a7 :: a8 :: a9 :: a10 :: a11 :: a12 :: a13 :: a14 :: a15 :: a16 :: a17 :: a18 :: a19 :: a20 :: a21 :: a22 :: a23 :: a24 :: b :: r) M QS := q
theorem g_var {k : Nat} (h : τ[k]? = some (some d)) (q : Q d M) : dVar k τ M Q := ⟨d, h, q⟩
theorem g_c (q : Q d M) : dC d τ M Q := q
theorem g_op (q : ta τ M fun x M1 => tb τ M1 fun y M2 => f x y M2 Q) : dOp f ta tb τ M Q := q
theorem g_tst (q : ta τ M fun x M1 => ∃ k, x = .bl k ∧ QB k M1) : dTst ta τ M QB := q
theorem g_bl {R : Bool → Prop} (q : R b) : ∃ k, D.bl b = .bl k ∧ R k := ⟨b, rfl, q⟩
theorem g_tru (q : ta τ M fun x M1 => ∃ b, truD M1 x b ∧ QB b M1) : dTru ta τ M QB := q
theorem g_truI {R : Bool → Prop} (q : R (i != 0)) : ∃ b, truD M (.int i) b ∧ R b := ⟨_, rfl, q⟩
theorem g_truB {R : Bool → Prop} (q : R b) : ∃ k, truD M (.bl b) k ∧ R k := ⟨_, rfl, q⟩
theorem g_not (q : tt τ M fun c M1 => QB (!c) M1) : dNot tt τ M QB := q
theorem g_and (q : tt τ M fun c M1 => if c = true then t2 τ M1 QB else QB false M1) : dAnd tt t2 τ M QB := q
theorem g_or (q : tt τ M fun c M1 => if c = true then QB true M1 else t2 τ M1 QB) : dOr tt t2 τ M QB := q
theorem g_andV (q : ta τ M fun x M1 => ∃ c, x = .bl c ∧ if c = true then tb τ M1 Q else Q (.bl false) M1) : dAndV ta tb τ M Q := q
theorem g_orV (q : ta τ M fun x M1 => ∃ c, x = .bl c ∧ if c = true then Q (.bl true) M1 else tb τ M1 Q) : dOrV ta tb τ M Q := q
theorem g_notV (q : ta τ M fun x M1 => ∃ c, x = .bl c ∧ Q (.bl (!c)) M1) : dNotV ta τ M Q := q
theorem g_ifE (q : tt τ M fun c M1 => if c = true then ta τ M1 Q else tb τ M1 Q) : dIfE tt ta tb τ M Q := q
theorem g_nil (q : QL [] M) : dNil τ M QL := q
theorem g_cons (q : ta τ M fun x M1 => tl τ M1 fun xs M2 => QL (x :: xs) M2) : dCons ta tl τ M QL := q
theorem g_tup (q : tl τ M fun xs M1 => xs.length ≤ sizeLine ∧ Q (.tup xs) M1) : dTup tl τ M Q := q
theorem g_lst (q : tl τ M fun xs M1 => xs.length ≤ sizeLine ∧ NewL xs M1 Q) : dLst tl τ M Q := q
theorem g_sz {xs : List D} (h : xs.length ≤ 1000) (q : A) : xs.length ≤ sizeLine ∧ A := ⟨Nat.le_trans h (by decide), q⟩
theorem g_newL {xs : List D} (q : Q (.lst xs) M) : NewL xs M Q := .inl q
theorem g_newM {xs : List D} (q : ∀ p, M p = none → Q (.ref p) (M.put p (.lst xs))) : NewL xs M Q := .inr q
theorem g_cb {r : DCl} (q : tl τ M fun ds M1 => r ds M1 Q) : dCB r tl τ M Q := q
theorem g_call {sp : DSp} (q : tl τ M fun ds M1 => sp ds M1 Q) : dCall sp tl τ M Q := q
theorem g_mt {ck : D → Mem → Prop} {r : DMt} (q : ta τ M fun x M1 => ck x M1 ∧ tl τ M1 fun xs M2 => r x xs M2 Q) : dMt ck r ta tl τ M Q := q
theorem g_mt0 {ck : D → Mem → Prop} {r : DMt} (q : ta τ M fun x M1 => ck x M1 ∧ r x [] M1 Q) : dMt0 ck r ta τ M Q := q
theorem g_sb {r : D → D → D → Mem → (Mem → Prop) → Prop} (q : ta τ M fun o M1 => tb τ M1 fun i M2 => r o i d M2 fun M3 => QS τ M3) : gSb ta tb r d τ M QS := q
/- operations -/
theorem g_add (q : Q (.int (i + j)) M) : oAdd (.int i) (.int j) M Q := q
theorem g_addT {xs ys : List D} (h : xs.length + ys.length ≤ 10000) (q : Q (.tup (xs ++ ys)) M) : oAdd (.tup xs) (.tup ys) M Q := ⟨Nat.le_trans h (by decide), q⟩
theorem g_sub (q : Q (.int (i - j)) M) : oSub (.int i) (.int j) M Q := ⟨i, j, rfl, rfl, trivial, q⟩
theorem g_mul (c : IntMulOk i j) (q : Q (.int (i * j)) M) : oMul (.int i) (.int j) M Q := ⟨i, j, rfl, rfl, c, q⟩
theorem g_div (c : CDv i j) (q : Q (.int (i / j)) M) : oDiv (.int i) (.int j) M Q := ⟨i, j, rfl, rfl, c, q⟩
theorem g_mod (c : 0 < j) (q : Q (.int (i % j)) M) : oMod (.int i) (.int j) M Q := ⟨i, j, rfl, rfl, c, q⟩
theorem g_shl (c : CShl i j) (q : Q (.int (i * 2 ^ j.toNat)) M) : oShl (.int i) (.int j) M Q := ⟨i, j, rfl, rfl, c, q⟩
theorem g_shr (c : 0 ≤ j) (q : Q (.int (i / 2 ^ j.toNat)) M) : oShr (.int i) (.int j) M Q := ⟨i, j, rfl, rfl, c, q⟩
theorem g_band (q : Q (.int (Builtin.bitAnd i j)) M) : oAnd (.int i) (.int j) M Q := ⟨i, j, rfl, rfl, trivial, q⟩
theorem g_bor (q : Q (.int (Builtin.bitOr i j)) M) : oOr (.int i) (.int j) M Q := ⟨i, j, rfl, rfl, trivial, q⟩
theorem g_bxor (q : Q (.int (Builtin.bitXor i j)) M) : oXor (.int i) (.int j) M Q := ⟨i, j, rfl, rfl, trivial, q⟩
theorem g_pow {z : Int} (c : CPow i j) (e : i ^ j.toNat = z) (q : Q (.int z) M) : oPow (.int i) (.int j) M Q := ⟨i, j, rfl, rfl, c, by show Q (.int (i ^ j.toNat)) M; rw [e]; exact q⟩
theorem g_lt (q : Q (.bl (decide (i < j))) M) : oLt (.int i) (.int j) M Q := ⟨i, j, rfl, rfl, trivial, q⟩
theorem g_le (q : Q (.bl (decide (i ≤ j))) M) : oLe (.int i) (.int j) M Q := ⟨i, j, rfl, rfl, trivial, q⟩
theorem g_gt (q : Q (.bl (decide (j < i))) M) : oGt (.int i) (.int j) M Q := ⟨i, j, rfl, rfl, trivial, q⟩
theorem g_ge (q : Q (.bl (decide (j ≤ i))) M) : oGe (.int i) (.int j) M Q := ⟨i, j, rfl, rfl, trivial, q⟩
theorem g_eq (q : Q (.bl (decide (i = j))) M) : oEq (.int i) (.int j) M Q := q
theorem g_ne (q : Q (.bl (!decide (i = j))) M) : oNe (.int i) (.int j) M Q := q
theorem g_eqS {z w : Str} (q : Q (.bl (decide (z = w))) M) : oEq (.str z) (.str w) M Q := q
theorem g_eqV (h : eqS x y = some b) (q : Q (.bl b) M) (n : ∀ i j, ¬ (x = .int i ∧ y = .int j) := by intro _ _ ⟨z, w⟩; first | exact nomatch z | exact nomatch w) (n2 : ∀ i j, ¬ (x = .str i ∧ y = .str j) := by intro _ _ ⟨z, w⟩; first | exact nomatch z | exact nomatch w) : oEq x y M Q := by
  unfold oEq
  split
  · exact absurd ⟨rfl, rfl⟩ (n _ _)
  · exact absurd ⟨rfl, rfl⟩ (n2 _ _)
  · exact .inl ⟨b, h, q⟩
theorem g_isN (q : Q (.bl true) M) : oIsN .non .non M Q := ⟨rfl, _, rfl, q⟩
theorem g_isN0 (h : x ≠ .non) (q : Q (.bl false) M) : oIsN x .non M Q := by
  refine ⟨rfl, false, ?_, q⟩
  cases x <;> first | rfl | exact absurd rfl h
theorem g_ixT {xs : List D} (h : atI xs i = some d) (q : Q d M) : oIx (.tup xs) (.int i) M Q := ⟨d, h, q⟩
theorem g_ixL {xs : List D} (s : Srd M x xs) (h : atI xs i = some d) (q : Q d M) : oIx x (.int i) M Q := by
  cases x <;> first
    | exact ⟨xs, d, s, h, q⟩
    | (rcases s with (s | ⟨a, s, _⟩) | s <;> exact nomatch s)
theorem g_ixl {xs : List D} (h : atI xs i = some d) (q : Q d M) : oIx (.lst xs) (.int i) M Q := ⟨xs, d, .l, h, q⟩
theorem g_ixs {xs : List D} (h : atI xs i = some d) (q : Q d M) : oIx (.scr xs) (.int i) M Q := ⟨xs, d, .s, h, q⟩
theorem g_ixr {a : Addr} {xs : List D} (s : M a = some (.lst xs)) (h : atI xs i = some d) (q : Q d M) : oIx (.ref a) (.int i) M Q := ⟨xs, d, .r s, h, q⟩
theorem g_setL {a : Addr} {xs : List D} {n : Nat} {QM : Mem → Prop} (s : M a = some (.lst xs)) (h : ixN xs.length j = some n) (q : QM (M.put a (.lst (xs.set n d)))) : sSetL (.ref a) (.int j) d M QM := ⟨a, xs, j, n, rfl, rfl, s, h, q⟩
/- built-ins -/
theorem g_lenT {xs : List D} (q : Q (.int xs.length) M) : bLen [.tup xs] M Q := ⟨_, rfl, q⟩
theorem g_lenl {xs : List D} (q : Q (.int xs.length) M) : bLen [.lst xs] M Q := ⟨_, rfl, _, .l, q⟩
theorem g_lens {xs : List D} (q : Q (.int xs.length) M) : bLen [.scr xs] M Q := ⟨_, rfl, _, .s, q⟩
theorem g_lenr {a : Addr} {xs : List D} (s : M a = some (.lst xs)) (q : Q (.int xs.length) M) : bLen [.ref a] M Q := ⟨_, rfl, _, .r s, q⟩
theorem g_lenL {xs : List D} (s : Srd M x xs) (q : Q (.int xs.length) M) : bLen [x] M Q := by
  refine ⟨x, rfl, ?_⟩
  rcases s with (s | ⟨a, s, s1⟩) | s
  · subst s; exact ⟨xs, .l, q⟩
  · subst s; exact ⟨xs, .r s1, q⟩
  · subst s; exact ⟨xs, .s, q⟩
theorem g_abs (q : Q (.int (if i < 0 then -i else i)) M) : bAbs [.int i] M Q := ⟨i, rfl, q⟩
theorem g_absN (q : ∀ k : Int, 0 ≤ k → (k = i ∨ k = -i) → Q (.int k) M) : bAbs [.int i] M Q := ⟨i, rfl, by
  split
  · exact q _ (by omega) (.inr rfl)
  · exact q _ (by omega) (.inl rfl)⟩
theorem g_max2 (q : Q (.int (max i j)) M) : bMax2 [.int i, .int j] M Q := ⟨i, j, rfl, by
  have e : (if j > i then j else i) = max i j := by split <;> omega
  rw [e]; exact q⟩
theorem g_min2 (q : Q (.int (min i j)) M) : bMin2 [.int i, .int j] M Q := ⟨i, j, rfl, by
  have e : (if j < i then j else i) = min i j := by split <;> omega
  rw [e]; exact q⟩
theorem g_intI (q : Q (.int i) M) : bInt [.int i] M Q := ⟨_, rfl, q⟩
theorem g_intB (q : Q (.int (if b then 1 else 0)) M) : bInt [.bl b] M Q := ⟨_, rfl, q⟩
theorem g_intB2 (q1 : b = true → Q (.int 1) M) (q2 : b = false → Q (.int 0) M) : bInt [.bl b] M Q := ⟨_, rfl, by cases b; exact q2 rfl; exact q1 rfl⟩
theorem g_tyI {c : Cn} (h : isI c M d b) (q : Q (.bl b) M) : bIsi c [d, .ty c.nm] M Q := ⟨d, b, rfl, h, q⟩
theorem g_isi {c : Cn} {n : String} (hn : n = c.nm) (h : isI c M d b) (q : Q (.bl b) M) : bIsi c [d, .ty n] M Q := by subst hn; exact ⟨d, b, rfl, h, q⟩
theorem g_append {a : Addr} {xs : List D} (s : M a = some (.lst xs)) (h : xs.length < 1000000) (q : Q .non (M.put a (.lst (xs ++ [d])))) : mAppend (.ref a) [d] M Q := ⟨a, xs, d, rfl, rfl, s, Nat.lt_trans h (by decide), q⟩
theorem g_extend {a : Addr} {xs ys : List D} (s : M a = some (.lst xs)) (r : Rdl M d ys) (h : xs.length + ys.length ≤ 1000000) (q : Q .non (M.put a (.lst (xs ++ ys)))) : mExtend (.ref a) [d] M Q := ⟨a, xs, d, ys, rfl, rfl, s, r, Nat.le_trans h (by decide), q⟩
theorem g_ckr {a : Addr} {xs : List D} (s : M a = some (.lst xs)) (q : A) : ckL (.ref a) M ∧ A := ⟨⟨xs, .r s⟩, q⟩
theorem g_ckS {z : Str} (q : A) : ckS (.str z) M ∧ A := ⟨⟨z, rfl⟩, q⟩
theorem shl_small {i j : Int} (h : -(2 ^ 64) < i ∧ i < 2 ^ 64) (h0 : 0 ≤ j) (h1 : j ≤ 1000000) : CShl i j := by
  have := shl_ok (i := i) (j := j.toNat) (n := 64) (by omega) (by omega)
  rwa [Int.toNat_of_nonneg h0] at this
/- tests -/
theorem g_T (q : A) : if true = true then A else B := by rw [if_pos rfl]; exact q
theorem g_F (q : B) : if false = true then A else B := by rw [if_neg Bool.false_ne_true]; exact q
theorem g_nT (q : B) : if (!true) = true then A else B := by simpa using q
theorem g_nF (q : A) : if (!false) = true then A else B := by simpa using q
theorem g_d [Decidable p] (q1 : p → A) (q2 : ¬ p → B) : if decide p = true then A else B := by
  by_cases h : p
  · rw [if_pos (decide_eq_true h)]; exact q1 h
  · rw [if_neg (by rw [decide_eq_false h]; exact Bool.false_ne_true)]; exact q2 h
theorem g_nd [Decidable p] (q1 : ¬ p → A) (q2 : p → B) : if (!decide p) = true then A else B := by
  by_cases h : p
  · rw [decide_eq_true h, if_neg (by decide)]; exact q2 h
  · rw [decide_eq_false h, if_pos (by decide)]; exact q1 h
theorem g_dT [Decidable p] (h : p) (q1 : A) : if decide p = true then A else B := g_d (fun _ => q1) (fun n => absurd h n)
theorem g_dF [Decidable p] (h : ¬ p) (q1 : B) : if decide p = true then A else B := g_d (fun n => absurd n h) (fun _ => q1)
theorem g_ndT [Decidable p] (h : ¬ p) (q1 : A) : if (!decide p) = true then A else B := g_nd (fun _ => q1) (fun n => absurd n h)
theorem g_ndF [Decidable p] (h : p) (q1 : B) : if (!decide p) = true then A else B := g_nd (fun n => absurd h n) (fun _ => q1)
theorem g_b (q1 : b = true → A) (q2 : b = false → B) : if b = true then A else B := by
  cases b
  · exact g_F (q2 rfl)
  · exact g_T (q1 rfl)
theorem g_nb (q1 : b = false → A) (q2 : b = true → B) : if (!b) = true then A else B := by
  cases b
  · exact g_nF (q1 rfl)
  · exact g_nT (q2 rfl)
theorem g_nz (q1 : i ≠ 0 → A) (q2 : i = 0 → B) : if (i != 0) = true then A else B := by
  by_cases h : i = 0
  · subst h; exact g_F (q2 rfl)
  · exact g_b (fun _ => q1 h) (fun e => by simp [h] at e)
/- results -/
theorem g_at {xs : List Int} (h : 0 ≤ i ∧ i < xs.length) : ∃ n : Int, atI (xs.map D.int) i = some (.int n) := by
  obtain ⟨k, rfl⟩ := Int.eq_ofNat_of_zero_le h.1
  have hk : k < xs.length := by omega
  exact ⟨xs[k], atI_nat (by simp [hk])⟩
theorem g_ixsI {xs : List Int} (h : 0 ≤ i ∧ i < xs.length) (q : ∀ n : Int, xs[i.toNat]? = some n → Q (.int n) M) : oIx (.scr (xs.map D.int)) (.int i) M Q := by
  obtain ⟨k, rfl⟩ := Int.eq_ofNat_of_zero_le h.1
  have hk : k < xs.length := by omega
  exact ⟨_, _, .s, atI_nat (v := .int xs[k]) (by simp [hk]), q _ (by simp [hk])⟩
theorem g_ixlI {xs : List Int} (h : 0 ≤ i ∧ i < xs.length) (q : ∀ n : Int, xs[i.toNat]? = some n → Q (.int n) M) : oIx (.lst (xs.map D.int)) (.int i) M Q := by
  obtain ⟨k, rfl⟩ := Int.eq_ofNat_of_zero_le h.1
  have hk : k < xs.length := by omega
  exact ⟨_, _, .l, atI_nat (v := .int xs[k]) (by simp [hk]), q _ (by simp [hk])⟩
theorem g_ixrI {a : Addr} {xs : List Int} (s : M a = some (.lst (xs.map D.int))) (h : 0 ≤ i ∧ i < xs.length) (q : ∀ n : Int, xs[i.toNat]? = some n → Q (.int n) M) : oIx (.ref a) (.int i) M Q := by
  obtain ⟨k, rfl⟩ := Int.eq_ofNat_of_zero_le h.1
  have hk : k < xs.length := by omega
  exact ⟨_, _, .r s, atI_nat (v := .int xs[k]) (by simp [hk]), q _ (by simp [hk])⟩
theorem g_e18 (q : Q (.int 1000000000000000000) M) : oPow (.int 10) (.int 18) M Q := ⟨10, 18, rfl, rfl, ⟨by decide, by decide, by decide⟩, by
  have e : (10 : Int) ^ (18 : Int).toNat = 1000000000000000000 := by decide
  show Q (.int ((10 : Int) ^ (18 : Int).toNat)) M
  rw [e]; exact q⟩
theorem g_while {c : DTT} {tb : DTS} {nx bk ct rt} (I : Nat → DSt → Mem → Prop) (h0 : ∃ m, I m τ M) (hs : ∀ m τ M, I m τ M →
  c τ M fun b M1 => if b = true then tb ⟨fun τ2 M2 => ∃ m' N, m' < m ∧ Sub N M2 ∧ I m' τ2 N, rt, nx, fun τ2 M2 => ∃ m' N, m' < m ∧ Sub N M2 ∧ I m' τ2 N⟩ τ M1 else nx τ M1) : dWhile c tb ⟨nx, rt, bk, ct⟩ τ M := ⟨I, h0, hs⟩
theorem g_for {wi : DTI} {tb : DTS} {nx bk ct rt} (q : wi τ M fun W M1 => ∃ I : Nat → DSt → Mem → Prop, I 0 τ M1 ∧ ∀ i τ M, I i τ M → W.stay M →
  (∀ d, W.items[i]? = some d → g d τ M fun τ' M' => tb ⟨fun τ2 M2 => ∃ N, Sub N M2 ∧ W.stay N ∧ I (i + 1) τ2 N, rt, nx, fun τ2 M2 => ∃ N, Sub N M2 ∧ W.stay N ∧ I (i + 1) τ2 N⟩ τ' M') ∧ (i = W.items.length → nx τ M)) : dFor wi g tb ⟨nx, rt, bk, ct⟩ τ M := q
theorem g_intD [Decidable p] (q : ∀ z : Int, (z = 1 ∧ p) ∨ (z = 0 ∧ ¬ p) → Q (.int z) M) : bInt [.bl (decide p)] M Q := ⟨_, rfl, by
  by_cases h : p
  · simp only [h, decide_true]; exact q 1 (.inl ⟨rfl, h⟩)
  · simp only [h, decide_false]; exact q 0 (.inr ⟨rfl, h⟩)⟩
theorem r_same (q : Q d M) : ∃ N e, View M d N e ∧ Q e N := ⟨M, d, .same (Sub.refl M), q⟩
theorem r_sub (s : Sub N M) (q : Q d N) : ∃ N e, View M d N e ∧ Q e N := ⟨N, d, .same s, q⟩
theorem r_lst {a : Addr} {xs : List D} (s : Sub N M) (n : N a = none) (h : M a = some (.lst xs)) (q : Q (.lst xs) N) : ∃ N e, View M (.ref a) N e ∧ Q e N := ⟨N, _, .lst s n h, q⟩
end
end DL

set_option Elab.async false
set_option linter.all false
set_option maxRecDepth 100000
set_option maxHeartbeats 2000000
namespace DL
open PySem L2 PySem.Spec
/-! ### calls with keywords -/
abbrev DK (X : Cx) (kws : List Keyword) (t : DTA) : Prop := PK X kws (liA X.K t)
theorem pkI {X : Cx} {e : List Keyword} {t t' : TA} (h : PK X e t) (i : ∀ σ H Q, t' σ H Q → t σ H Q) : PK X e t' := ⟨fun pos pins s σ H Q I q => h.run pos pins s σ H Q I (i σ H Q q)⟩
structure FnK (P : Program) (w : World) (K : PySem.W.Frag) (mg : Str → Option Value) (base : Heap) (x : Str) (ps ks : List Str) (n : Nat) (k : Nat) (sp : DSp) : Prop where
  ex : ∃ f fd, FnOk P w K mg base CX0 k f fd ps (liP K sp) ∧ mg x = some (.ref f) ∧ PySem.W.keepIn K (.ref f) = true ∧ KBn K fd ps n ks (fun us ws => us ++ ws) (fun us ws => us ++ ws)
def dCallK (n m : Nat) (sp : DSp) (t tk : DTA) : DTE := fun τ M Q => t τ M fun ds M1 => tk τ M1 fun es M2 => ds.length = n ∧ es.length = m ∧ sp (ds ++ es) M2 Q
section
variable {X : Cx} {k n : Nat} {x : Str} {ps ks : List Str} {sp : DSp} {p pos kpos : Pos} {e : Expr} {es : List Expr} {kws : List Keyword} {te : DTE} {t tk : DTA} {nm : Option Str}
theorem dk_nil : DK X [] dNil := pkI pk_nil fun σ H Q ⟨τ, M, F, P, s, p, k⟩ => k [] M [] H p (To.refl s.ok) .nil
theorem dk_cons (ha : DE X e te) (hr : DK X kws t) : DK X (⟨nm, e, kpos⟩ :: kws) (dCons te t) := pkI (pk_cons ha hr) fun σ H Q ⟨τ, M, F, P, s, p, k⟩ =>
  ⟨τ, M, F, _, s, p, fun d M1 v H1 p1 t1 r1 => ⟨τ, M1, F, _, s.to t1, p1, fun ds M2 vs H2 p2 t2 r2 => k (d :: ds) M2 (v :: vs) H2 p2 (t1.trans t2) (.cons (r1.mono t2.ex) r2)⟩⟩
theorem de_fnk (F : FnK X.prog X.w X.K X.mg X.base x ps ks n k sp) (hr : Room k X.A) (hg : Gl X x) (ha : DA X (e :: es) t) (hkw : DK X kws tk)
    (hall : (backToKw pos (keywordEach kws X.env)).all (·.1.isSome) = true := by rfl) (hks : (backToKw pos (keywordEach kws X.env)).filterMap (·.1) = ks := by rfl)
    (hdb : (x == ("__debug__" : Str)) = false := by decide) (he : starEach (e :: es) X.env = (false, eval e X.env) :: starEach es X.env := by rfl)
    (hpl : ((backTo pos (starEach (e :: es) X.env)).any (·.1) || (backToKw pos (keywordEach kws X.env)).any (·.1.isNone)) = false := by rfl) :
    DE X (.Call (.Name x p) (e :: es) kws pos) (dCallK n ks.length sp t tk) := by
  obtain ⟨f, fd, a, b, c, d⟩ := F.ex
  refine peI (pe_callN (E := E0) a hr hg b c d pass0 ha hkw hall hks hdb he hpl) fun σ H Q ⟨τ, M, F, P, s, q, k⟩ => ?_
  refine ⟨τ, M, F, _, s, q, fun ds M1 vs H1 q1 t1 r1 => ⟨τ, M1, F, _, s.to t1, q1, fun es M2 us H2 ⟨l1, l2, q2⟩ t2 r2 => ⟨by rw [r1.length]; exact l1, by rw [r2.length]; exact l2, ds ++ es, M2, F, P, t2.ok, (r1.mono t2.ex).append r2, q2, fun d' M' v' H' p t => k d' M' v' H' p ((t1.trans t2).trans t)⟩⟩⟩
end
section
variable {P : Program} {w : World} {K : PySem.W.Frag} {mg : Str → Option Value} {base : Heap}
theorem okFK {x : Str} {st : Stmt} {N ps ks : List Str} {n k : Nat} {sp : DSp} (D0 : Dfn K mg x st) (S : FnScope N ps (defScope st))
    (bd : ∀ (kV doc pm : Value) (an : Option Addr) (cdv ct : Value) (us ws : List Value), us.length = n → ws.length = ks.length → bindArgs (PySem.W.fnOf x x (defArgs st) (defBody st) (defScope st) .none kV doc pm an cdv ct) ⟨us, ks.zip ws⟩ = pure (ps.zip (us ++ ws)))
    (len : ∀ ds M Q, sp ds M Q → ds.length = ps.length) {t : DTS}
    (der : ∀ (f : Addr) (cdv : Value) (A : Around) (outer : List Env) (s : Shared) (H : Hp) (E : XK), Room k (bodyX P w K mg base N x st f cdv A outer s H E).A → DSs (bodyX P w K mg base N x st f cdv A outer s H E) (defBody st) t)
    (body : ∀ (ds : List D) (M : Mem) (Q : D → Mem → Prop), sp ds M Q → t { nx := fun _ M' => Q .non M', rt := Q } (dstart N ds) M) : FnK P w K mg base x ps ks n (k + 1) sp := by
  obtain ⟨f, fd, F, m⟩ := D0.ex
  refine ⟨f, fd, okD F S len (fun cdv A outer s H E ds M Q hr hs => ⟨t, der f cdv A outer s H E hr, body ds M Q hs⟩), m, F.kp, ?_⟩
  obtain ⟨oc, od, kV, doc, pm, an, cdv, ct, osl, rfl, lk, _⟩ := F.ex
  exact ⟨fun s us ws _ h1 h2 => .of_eq (bd _ _ _ _ _ _ us ws h1 h2), fun a b => a.append b⟩
theorem g_callK {n m : Nat} {sp : DSp} {t tk : DTA} {τ : DSt} {M : Mem} {Q : D → Mem → Prop} (q : t τ M fun ds M1 => tk τ M1 fun es M2 => ds.length = n ∧ es.length = m ∧ sp (ds ++ es) M2 Q) : dCallK n m sp t tk τ M Q := q
theorem g_ixlP {xs : List D} {i : Int} {M : Mem} {Q : D → Mem → Prop} (h : 0 ≤ i ∧ i < xs.length) (q : ∀ d ∈ xs, Q d M) : oIx (.lst xs) (.int i) M Q := by
  obtain ⟨k, rfl⟩ := Int.eq_ofNat_of_zero_le h.1
  have hk : k < xs.length := by omega
  exact ⟨_, _, .l, atI_nat (v := xs[k]) (by simp [hk]), q _ (by simp)⟩
/-- a promise that is never called -/
theorem fn_never {x : Str} {st : Stmt} {ps : List Str} (D0 : Dfn K mg x st)
    (bd : ∀ (kV doc pm : Value) (an : Option Addr) (cdv ct : Value) (us : List Value), us.length = ps.length → bindArgs (PySem.W.fnOf x x (defArgs st) (defBody st) (defScope st) .none kV doc pm an cdv ct) ⟨us, []⟩ = pure (ps.zip us)) : Fn P w K mg base x ps 0 fun _ _ _ => False := by
  obtain ⟨f, fd, F, m⟩ := D0.ex
  refine ⟨f, fd, ⟨fun vs H Q E ⟨ds, M, G, R, o, r, q, _⟩ => q.elim, fun A outer s H args us vs Q E _ _ _ _ ⟨ds, M, G, R, o, r, q, _⟩ => q.elim⟩, m, F.kp, F.binds bd, ?_⟩
  obtain ⟨oc, od, kV, doc, pm, an, cdv, ct, osl, rfl, lk, _⟩ := F.ex
  exact ⟨oc, od, osl, lk⟩
end
/-- plain data, so deep at most -/
def plain : Nat → D → Prop
  | _, .non => True
  | _, .bl _ => True
  | _, .int _ => True
  | _, .str _ => True
  | n + 1, .tup xs => xs.length ≤ 1000000 ∧ ∀ x ∈ xs, plain n x
  | n + 1, .lst xs => xs.length ≤ 1000000 ∧ ∀ x ∈ xs, plain n x
  | _, _ => False
end DL

set_option Elab.async false
set_option linter.all false
set_option maxRecDepth 100000
set_option maxHeartbeats 2000000
namespace DL
open PySem L2 PySem.Spec
section
variable {τ : DSt} {M : Mem} {g : DTG} {tb : DTS} {nx bk ct : DSt → Mem → Prop} {rt : D → Mem → Prop} {Q : Wk → Mem → Prop} {te : DTE} {tl : DTA}
theorem g_rng1 (q : tl τ M fun ds M1 => ∃ j : Int, ds = [.int j] ∧ -(2 ^ 62) ≤ j ∧ j < 2 ^ 62 ∧ Q ⟨rangeD 0 j.toNat, fun _ => True⟩ M1) : wRng1 tl τ M Q := q
theorem g_rng2 (q : tl τ M fun ds M1 => ∃ i j : Int, ds = [.int i, .int j] ∧ (-(2 ^ 62) ≤ i ∧ i < 2 ^ 62 ∧ -(2 ^ 62) ≤ j ∧ j < 2 ^ 62) ∧ Q ⟨rangeD i (j - i).toNat, fun _ => True⟩ M1) : wRng2 tl τ M Q := q
theorem g_wlist (q : te τ M fun d M1 => ∃ xs, Srd M1 d xs ∧ Q ⟨xs, fun M' => Srd M' d xs⟩ M1) : wList te τ M Q := q
theorem g_wtup (q : te τ M fun d M1 => ∃ xs, d = .tup xs ∧ Q ⟨xs, fun _ => True⟩ M1) : wTup te τ M Q := q
theorem g_rok1 {j : Int} {A : Int → Prop} (h : j < 2 ^ 62) (h0 : 0 ≤ j) (q : A j) : ∃ k : Int, [D.int j] = [.int k] ∧ -(2 ^ 62) ≤ k ∧ k < 2 ^ 62 ∧ A k := ⟨j, rfl, by omega, h, q⟩
theorem g_rok2 {i j : Int} {A : Int → Int → Prop} (h : -(2 ^ 62) ≤ i ∧ i < 2 ^ 62 ∧ -(2 ^ 62) ≤ j ∧ j < 2 ^ 62) (q : A i j) : ∃ k l : Int, [D.int i, D.int j] = [.int k, .int l] ∧ (-(2 ^ 62) ≤ k ∧ k < 2 ^ 62 ∧ -(2 ^ 62) ≤ l ∧ l < 2 ^ 62) ∧ A k l := ⟨i, j, rfl, h, q⟩
theorem g_lok {xs : List D} {A : List D → Prop} (q : A xs) : ∃ ys, Srd M (.lst xs) ys ∧ A ys := ⟨xs, .l, q⟩
theorem g_lokr {a : Addr} {xs : List D} {A : List D → Prop} (h : M a = some (.lst xs)) (q : A xs) : ∃ ys, Srd M (.ref a) ys ∧ A ys := ⟨xs, .r h, q⟩
theorem g_lokS {d : D} {xs : List D} {A : List D → Prop} (h : Srd M d xs) (q : A xs) : ∃ ys, Srd M d ys ∧ A ys := ⟨xs, h, q⟩
theorem g_tok {xs : List D} {A : List D → Prop} (q : A xs) : ∃ ys, D.tup xs = .tup ys ∧ A ys := ⟨xs, rfl, q⟩
/-- a for by an invariant -/
theorem f_any {W : Wk} (I : Nat → DSt → Mem → Prop) (h0 : I 0 τ M)
    (hs : ∀ i d τ M, i < W.items.length → W.items[i]? = some d → I i τ M → W.stay M → g d τ M fun τ' M' => tb ⟨fun τ2 M2 => ∃ N, Sub N M2 ∧ W.stay N ∧ I (i + 1) τ2 N, rt, nx, fun τ2 M2 => ∃ N, Sub N M2 ∧ W.stay N ∧ I (i + 1) τ2 N⟩ τ' M')
    (hd : ∀ τ M, I W.items.length τ M → nx τ M) :
    ∃ I : Nat → DSt → Mem → Prop, I 0 τ M ∧ ∀ i τ M, I i τ M → W.stay M →
  (∀ d, W.items[i]? = some d → g d τ M fun τ' M' => tb ⟨fun τ2 M2 => ∃ N, Sub N M2 ∧ W.stay N ∧ I (i + 1) τ2 N, rt, nx, fun τ2 M2 => ∃ N, Sub N M2 ∧ W.stay N ∧ I (i + 1) τ2 N⟩ τ' M') ∧ (i = W.items.length → nx τ M) :=
  ⟨I, h0, fun i τ M hI st => ⟨fun d hd => hs i d τ M (List.getElem?_eq_some_iff.mp hd).1 hd hI st, fun e => hd τ M (e ▸ hI)⟩⟩
theorem f_rng {lo : Int} {n : Nat} (I : Nat → DSt → Mem → Prop) (h0 : I 0 τ M)
    (hs : ∀ (i : Nat) τ M, i < n → I i τ M → g (.int (lo + (i : Int))) τ M fun τ' M' => tb ⟨fun τ2 M2 => ∃ N, Sub N M2 ∧ True ∧ I (i + 1) τ2 N, rt, nx, fun τ2 M2 => ∃ N, Sub N M2 ∧ True ∧ I (i + 1) τ2 N⟩ τ' M')
    (hd : ∀ τ M, I n τ M → nx τ M) :
    ∃ I : Nat → DSt → Mem → Prop, I 0 τ M ∧ ∀ i τ M, I i τ M → (Wk.mk (rangeD lo n) fun _ => True).stay M →
  (∀ d, (Wk.mk (rangeD lo n) fun _ => True).items[i]? = some d → g d τ M fun τ' M' => tb ⟨fun τ2 M2 => ∃ N, Sub N M2 ∧ (Wk.mk (rangeD lo n) fun _ => True).stay N ∧ I (i + 1) τ2 N, rt, nx, fun τ2 M2 => ∃ N, Sub N M2 ∧ (Wk.mk (rangeD lo n) fun _ => True).stay N ∧ I (i + 1) τ2 N⟩ τ' M') ∧ (i = (Wk.mk (rangeD lo n) fun _ => True).items.length → nx τ M) := by
  refine ⟨I, h0, fun i τ M hI _ => ⟨fun d e => ?_, fun e => ?_⟩⟩
  · have hi : i < (rangeD lo n).length := (List.getElem?_eq_some_iff.mp e).1
    rw [rangeD_len] at hi
    have e : (rangeD lo n)[i]? = some d := e
    rw [rangeD_get hi] at e
    cases e
    exact hs i τ M hi hI
  · have e : i = (rangeD lo n).length := e
    rw [rangeD_len] at e
    exact hd τ M (e ▸ hI)
theorem f_rng0 {n : Nat} (I : Nat → DSt → Mem → Prop) (h0 : I 0 τ M)
    (hs : ∀ (i : Nat) τ M, i < n → I i τ M → g (.int (i : Int)) τ M fun τ' M' => tb ⟨fun τ2 M2 => ∃ N, Sub N M2 ∧ True ∧ I (i + 1) τ2 N, rt, nx, fun τ2 M2 => ∃ N, Sub N M2 ∧ True ∧ I (i + 1) τ2 N⟩ τ' M')
    (hd : ∀ τ M, I n τ M → nx τ M) :
    ∃ I : Nat → DSt → Mem → Prop, I 0 τ M ∧ ∀ i τ M, I i τ M → (Wk.mk (rangeD 0 n) fun _ => True).stay M →
  (∀ d, (Wk.mk (rangeD 0 n) fun _ => True).items[i]? = some d → g d τ M fun τ' M' => tb ⟨fun τ2 M2 => ∃ N, Sub N M2 ∧ (Wk.mk (rangeD 0 n) fun _ => True).stay N ∧ I (i + 1) τ2 N, rt, nx, fun τ2 M2 => ∃ N, Sub N M2 ∧ (Wk.mk (rangeD 0 n) fun _ => True).stay N ∧ I (i + 1) τ2 N⟩ τ' M') ∧ (i = (Wk.mk (rangeD 0 n) fun _ => True).items.length → nx τ M) :=
  f_rng I h0 (fun i τ M hi hI => by rw [Int.zero_add]; exact hs i τ M hi hI) hd
end
section
variable {M : Mem} {Q : D → Mem → Prop} {i j : Int} {b c : Bool} {z w : Str}
theorem g_eqII (q : Q (.bl true) M) : oEq (.int i) (.int i) M Q := by have := g_eq (i := i) (j := i) (M := M) (Q := Q) (by simpa using q); exact this
theorem g_eqBB (q : Q (.bl (decide (b = c))) M) : oEq (.bl b) (.bl c) M Q := g_eqV rfl q
theorem g_eqBB1 (q : Q (.bl true) M) : oEq (.bl b) (.bl b) M Q := g_eqV (b := true) (by simp [eqS]) q
theorem g_eqSS1 (q : Q (.bl true) M) : oEq (.str z) (.str z) M Q := g_eqS (by simpa using q)
theorem g_neII (q : Q (.bl false) M) : oNe (.int i) (.int i) M Q := by have := g_ne (i := i) (j := i) (M := M) (Q := Q) (by simpa using q); exact this
theorem g_neNI (q : Q (.bl true) M) : oNe .non (.int i) M Q := .inl ⟨false, rfl, q⟩
theorem g_neIN (q : Q (.bl true) M) : oNe (.int i) .non M Q := .inl ⟨false, rfl, q⟩
end
/-! ### comprehensions -/
section
variable {τ : DSt} {M : Mem} {p : Pat} {tt : DTT} {te : DTE} {wi : DTI} {vs : List Nat} {Q : D → Mem → Prop}
theorem g_lc (q : wi τ M fun W M1 => p.within vs ∧ lcGo p.d tt te W.stay (wipD τ vs) W.items [] M1 fun ys M2 => NewL ys M2 Q) : dLc wi p tt te vs τ M Q := q
theorem g_win {k : Nat} {A : Prop} (q : A) : (Pat.nm k).within [k] ∧ A := ⟨List.mem_cons_self, q⟩
/-- the items that are kept, each with what it gives; the memory is as it was -/
theorem lc_fm {g : DTG} {stay : Mem → Prop} {τ0 : DSt} {K : List D → Mem → Prop} {α : Type} (emb : α → D) (keep : α → Bool) (f : α → D) : ∀ (xs : List α) (acc : List D), acc.length + xs.length ≤ 1000000 → stay M →
    (∀ x ∈ xs, ∀ (A : D → Mem → Prop) (B : Mem → Prop), (keep x = true → A (f x) M) → (keep x = false → B M) → g (emb x) τ0 M fun τ2 _ => tt τ2 M fun b M3 => if b = true then te τ2 M3 A else B M3) → K (acc ++ (xs.filter keep).map f) M → lcGo g tt te stay τ0 (xs.map emb) acc M K
  | [], acc, _, _, _, k => by simpa [lcGo] using k
  | x :: xs, acc, hz, st, h, k => by
    have hz' : acc.length + (xs.length + 1) ≤ 1000000 := hz
    refine h x List.mem_cons_self _ _ (fun e => ⟨Nat.lt_of_lt_of_le (show acc.length < 1000001 by omega) (by decide), st, ?_⟩) (fun e => ⟨st, ?_⟩)
    · refine lc_fm emb keep f xs (acc ++ [f x]) (by simp; omega) st (fun y hy => h y (List.mem_cons_of_mem _ hy)) ?_
      rw [List.filter_cons, if_pos e] at k
      simpa using k
    · refine lc_fm emb keep f xs acc (by omega) st (fun y hy => h y (List.mem_cons_of_mem _ hy)) ?_
      rw [List.filter_cons, if_neg (by simp [e])] at k
      exact k
theorem lc_map {g : DTG} {stay : Mem → Prop} {τ0 : DSt} {K : List D → Mem → Prop} {α : Type} (emb : α → D) (f : α → D) (xs : List α) (hz : xs.length ≤ 1000000) (st : stay M)
    (h : ∀ x ∈ xs, ∀ (A : D → Mem → Prop) (B : Mem → Prop), A (f x) M → g (emb x) τ0 M fun τ2 _ => tt τ2 M fun b M3 => if b = true then te τ2 M3 A else B M3) (k : K (xs.map f) M) : lcGo g tt te stay τ0 (xs.map emb) [] M K := by
  refine lc_fm emb (fun _ => true) f xs [] (by simpa using hz) st (fun x hx A B ha _ => h x hx A B (ha rfl)) ?_
  have e : xs.filter (fun _ => true) = xs := List.filter_eq_self.mpr fun _ _ => rfl
  rw [e]; simpa using k
theorem lc_rng {g : DTG} {stay : Mem → Prop} {τ0 : DSt} {K : List D → Mem → Prop} {lo : Int} {n : Nat} (f : Nat → D) (hz : n ≤ 1000000) (st : stay M)
    (h : ∀ i, i < n → ∀ (A : D → Mem → Prop) (B : Mem → Prop), A (f i) M → g (.int (lo + (i : Int))) τ0 M fun τ2 _ => tt τ2 M fun b M3 => if b = true then te τ2 M3 A else B M3) (k : K ((List.range n).map f) M) : lcGo g tt te stay τ0 (rangeD lo n) [] M K :=
  lc_map (fun (i : Nat) => D.int (lo + (i : Int))) f (List.range n) (by simpa using hz) st (fun i hi A B => h i (List.mem_range.mp hi) A B) k
theorem lc_rngF {g : DTG} {stay : Mem → Prop} {τ0 : DSt} {K : List D → Mem → Prop} {lo : Int} {n : Nat} (keep : Nat → Bool) (f : Nat → D) (hz : n ≤ 1000000) (st : stay M)
    (h : ∀ i, i < n → ∀ (A : D → Mem → Prop) (B : Mem → Prop), (keep i = true → A (f i) M) → (keep i = false → B M) → g (.int (lo + (i : Int))) τ0 M fun τ2 _ => tt τ2 M fun b M3 => if b = true then te τ2 M3 A else B M3) (k : K (((List.range n).filter keep).map f) M) : lcGo g tt te stay τ0 (rangeD lo n) [] M K :=
  lc_fm (fun (i : Nat) => D.int (lo + (i : Int))) keep f (List.range n) [] (by simpa using hz) st (fun i hi A B => h i (List.mem_range.mp hi) A B) (by simpa using k)
end
def dYes : DTT := fun _ M Q => Q true M
section
variable {X : Cx} {c : Expr} {t : DTT}
theorem dts_nil : PTs X [] (liT X.K dYes) := ⟨fun pins s σ H Q I ⟨τ, M, F, P, s', p, k⟩ => pts_nil.run pins s σ H Q I (k true M H p (To.refl s'.ok))⟩
theorem dts_one (h : DT X c t) : PTs X [c] (liT X.K t) := pts_one h
theorem g_yes {τ : DSt} {M : Mem} {Q : Bool → Mem → Prop} (q : Q true M) : dYes τ M Q := q
end
end DL

set_option Elab.async false
set_option linter.all false
set_option maxRecDepth 100000
set_option maxHeartbeats 2000000
namespace DL
open PySem L2
/-! ### steps that are found by their head -/
class Stp (G : Prop) (N : outParam Prop) : Prop where
  of : N → G
class Stps (G : Prop) (N : outParam Prop) : Prop where
  of : N → G
instance (priority := 10) stps_end {G : Prop} : Stps G G := ⟨id⟩
instance (priority := 100) stps_cons {G N O : Prop} [a : Stp G N] [b : Stps N O] : Stps G O := ⟨fun o => a.of (b.of o)⟩
theorem g_stps {G N O : Prop} [a : Stp G N] [b : Stps N O] (q : O) : G := a.of (b.of q)
class LookD (τ : DSt) (k : Nat) (d : outParam D) : Prop where
  eq : τ[k]? = some (some d)
instance look0 {d : D} {r : DSt} : LookD (some d :: r) 0 d := ⟨rfl⟩
instance lookS {a : Option D} {r : DSt} {k : Nat} {d : D} [h : LookD r k d] : LookD (a :: r) (k + 1) d := ⟨h.eq⟩
class PutD (τ : DSt) (k : Nat) (d : D) (τ' : outParam DSt) : Prop where
  eq : τ.set k (some d) = τ'
instance put0 {a : Option D} {d : D} {r : DSt} : PutD (a :: r) 0 d (some d :: r) := ⟨rfl⟩
instance putS {a : Option D} {r r' : DSt} {k : Nat} {d : D} [h : PutD r k d r'] : PutD (a :: r) (k + 1) d (a :: r') := ⟨congrArg (a :: ·) h.eq⟩
section
variable {Y : DEnds} {τ τ' : DSt} {M N : Mem} {Q : D → Mem → Prop} {QB : Bool → Mem → Prop} {QL : List D → Mem → Prop} {QS : DSt → Mem → Prop} {i j : Int} {d x y : D} {t u tw : DTS} {ta tb : DTE} {tt t2 : DTT} {tl : DTA} {g : DTG} {f : DOp} {b c : Bool} {A B : Prop} {nx bk ct : DSt → Mem → Prop} {rt : D → Mem → Prop} {k : Nat} {xs : List D} {z w : Str}
instance i_var [h : LookD τ k d] : Stp (dVar k τ M Q) (Q d M) := ⟨fun q => ⟨d, h.eq, q⟩⟩
instance i_nm [h : PutD τ k d τ'] : Stp (gNm k d τ M QS) (QS τ' M) := ⟨fun q => by show QS (τ.set k (some d)) M; rw [h.eq]; exact q⟩
instance i_next : Stp (dNext ⟨nx, rt, bk, ct⟩ τ M) (nx τ M) := ⟨fun q => q⟩
instance i_seq : Stp (dSeq t u ⟨nx, rt, bk, ct⟩ τ M) (t ⟨u ⟨nx, rt, bk, ct⟩, rt, bk, ct⟩ τ M) := ⟨fun q => q⟩
instance i_brk : Stp (dBreak ⟨nx, rt, bk, ct⟩ τ M) (bk τ M) := ⟨fun q => q⟩
instance i_cont : Stp (dCont ⟨nx, rt, bk, ct⟩ τ M) (ct τ M) := ⟨fun q => q⟩
instance i_drop : Stp (dDrop ta ⟨nx, rt, bk, ct⟩ τ M) (ta τ M fun _ M1 => nx τ M1) := ⟨fun q => q⟩
instance i_ret : Stp (dRet ta ⟨nx, rt, bk, ct⟩ τ M) (ta τ M fun d M1 => ∃ N e, View M1 d N e ∧ rt e N) := ⟨fun q => q⟩
instance i_retN : Stp (dRetN ⟨nx, rt, bk, ct⟩ τ M) (∃ N, Sub N M ∧ rt .non N) := ⟨fun q => q⟩
instance i_ifS : Stp (dIfS tt t u ⟨nx, rt, bk, ct⟩ τ M) (tt τ M fun b M1 => if b = true then t ⟨nx, rt, bk, ct⟩ τ M1 else u ⟨nx, rt, bk, ct⟩ τ M1) := ⟨fun q => q⟩
instance i_asg : Stp (dAsg ta g ⟨nx, rt, bk, ct⟩ τ M) (ta τ M fun d M1 => g d τ M1 nx) := ⟨fun q => q⟩
instance i_for {wi : DTI} : Stp (dFor wi g t ⟨nx, rt, bk, ct⟩ τ M) (wi τ M fun W M1 => ∃ I : Nat → DSt → Mem → Prop, I 0 τ M1 ∧ ∀ i τ M, I i τ M → W.stay M → (∀ d, W.items[i]? = some d → g d τ M fun τ2 M2 => t ⟨fun τ2 M2 => ∃ N, Sub N M2 ∧ W.stay N ∧ I (i + 1) τ2 N, rt, nx, fun τ2 M2 => ∃ N, Sub N M2 ∧ W.stay N ∧ I (i + 1) τ2 N⟩ τ2 M2) ∧ (i = W.items.length → nx τ M)) := ⟨fun q => q⟩
instance i_c : Stp (dC d τ M Q) (Q d M) := ⟨fun q => q⟩
instance i_op : Stp (dOp f ta tb τ M Q) (ta τ M fun x M1 => tb τ M1 fun y M2 => f x y M2 Q) := ⟨fun q => q⟩
instance i_tst : Stp (dTst ta τ M QB) (ta τ M fun x M1 => ∃ k, x = .bl k ∧ QB k M1) := ⟨fun q => q⟩
instance i_bl {R : Bool → Prop} : Stp (∃ k, D.bl b = .bl k ∧ R k) (R b) := ⟨fun q => ⟨b, rfl, q⟩⟩
instance i_tru : Stp (dTru ta τ M QB) (ta τ M fun x M1 => ∃ b, truD M1 x b ∧ QB b M1) := ⟨fun q => q⟩
instance i_truI {R : Bool → Prop} : Stp (∃ b, truD M (.int i) b ∧ R b) (R (i != 0)) := ⟨fun q => ⟨_, rfl, q⟩⟩
instance i_truB {R : Bool → Prop} : Stp (∃ b, truD M (.bl c) b ∧ R b) (R c) := ⟨fun q => ⟨_, rfl, q⟩⟩
instance i_not : Stp (dNot tt τ M QB) (tt τ M fun c M1 => QB (!c) M1) := ⟨fun q => q⟩
instance i_and : Stp (dAnd tt t2 τ M QB) (tt τ M fun c M1 => if c = true then t2 τ M1 QB else QB false M1) := ⟨fun q => q⟩
instance i_or : Stp (dOr tt t2 τ M QB) (tt τ M fun c M1 => if c = true then QB true M1 else t2 τ M1 QB) := ⟨fun q => q⟩
instance i_andV : Stp (dAndV ta tb τ M Q) (ta τ M fun x M1 => ∃ c, x = .bl c ∧ if c = true then tb τ M1 Q else Q (.bl false) M1) := ⟨fun q => q⟩
instance i_orV : Stp (dOrV ta tb τ M Q) (ta τ M fun x M1 => ∃ c, x = .bl c ∧ if c = true then Q (.bl true) M1 else tb τ M1 Q) := ⟨fun q => q⟩
instance i_notV : Stp (dNotV ta τ M Q) (ta τ M fun x M1 => ∃ c, x = .bl c ∧ Q (.bl (!c)) M1) := ⟨fun q => q⟩
instance i_ifE : Stp (dIfE tt ta tb τ M Q) (tt τ M fun c M1 => if c = true then ta τ M1 Q else tb τ M1 Q) := ⟨fun q => q⟩
instance i_nil : Stp (dNil τ M QL) (QL [] M) := ⟨fun q => q⟩
instance i_cons : Stp (dCons ta tl τ M QL) (ta τ M fun x M1 => tl τ M1 fun xs M2 => QL (x :: xs) M2) := ⟨fun q => q⟩
instance i_tup : Stp (dTup tl τ M Q) (tl τ M fun xs M1 => xs.length ≤ sizeLine ∧ Q (.tup xs) M1) := ⟨fun q => q⟩
instance i_lst : Stp (dLst tl τ M Q) (tl τ M fun xs M1 => xs.length ≤ sizeLine ∧ NewL xs M1 Q) := ⟨fun q => q⟩
instance i_cb {r : DCl} : Stp (dCB r tl τ M Q) (tl τ M fun ds M1 => r ds M1 Q) := ⟨fun q => q⟩
instance i_call {r : DSp} : Stp (dCall r tl τ M Q) (tl τ M fun ds M1 => r ds M1 Q) := ⟨fun q => q⟩
instance i_callK {n : Nat} {m : Nat} {r : DSp} {tk : DTA} : Stp (dCallK n m r tl tk τ M Q) (tl τ M fun ds M1 => tk τ M1 fun es M2 => ds.length = n ∧ es.length = m ∧ r (ds ++ es) M2 Q) := ⟨fun q => q⟩
instance i_mt {ck : D → Mem → Prop} {r : DMt} : Stp (dMt ck r ta tl τ M Q) (ta τ M fun x M1 => ck x M1 ∧ tl τ M1 fun xs M2 => r x xs M2 Q) := ⟨fun q => q⟩
instance i_mt0 {ck : D → Mem → Prop} {r : DMt} : Stp (dMt0 ck r ta τ M Q) (ta τ M fun x M1 => ck x M1 ∧ r x [] M1 Q) := ⟨fun q => q⟩
instance i_sb {r : D → D → D → Mem → (Mem → Prop) → Prop} : Stp (gSb ta tb r d τ M QS) (ta τ M fun o M1 => tb τ M1 fun i M2 => r o i d M2 fun M3 => QS τ M3) := ⟨fun q => q⟩
instance i_add : Stp (oAdd (.int i) (.int j) M Q) (Q (.int (i + j)) M) := ⟨fun q => q⟩
instance i_sub : Stp (oSub (.int i) (.int j) M Q) (Q (.int (i - j)) M) := ⟨fun q => g_sub q⟩
instance i_lt : Stp (oLt (.int i) (.int j) M Q) (Q (.bl (decide (i < j))) M) := ⟨fun q => g_lt q⟩
instance i_le : Stp (oLe (.int i) (.int j) M Q) (Q (.bl (decide (i ≤ j))) M) := ⟨fun q => g_le q⟩
instance i_gt : Stp (oGt (.int i) (.int j) M Q) (Q (.bl (decide (j < i))) M) := ⟨fun q => g_gt q⟩
instance i_ge : Stp (oGe (.int i) (.int j) M Q) (Q (.bl (decide (j ≤ i))) M) := ⟨fun q => g_ge q⟩
instance i_band : Stp (oAnd (.int i) (.int j) M Q) (Q (.int (Builtin.bitAnd i j)) M) := ⟨fun q => g_band q⟩
instance i_bor : Stp (oOr (.int i) (.int j) M Q) (Q (.int (Builtin.bitOr i j)) M) := ⟨fun q => g_bor q⟩
instance i_bxor : Stp (oXor (.int i) (.int j) M Q) (Q (.int (Builtin.bitXor i j)) M) := ⟨fun q => g_bxor q⟩
instance (priority := 2000) i_eqII : Stp (oEq (.int i) (.int i) M Q) (Q (.bl true) M) := ⟨fun q => g_eqII q⟩
instance i_eq : Stp (oEq (.int i) (.int j) M Q) (Q (.bl (decide (i = j))) M) := ⟨fun q => q⟩
instance (priority := 2000) i_neII : Stp (oNe (.int i) (.int i) M Q) (Q (.bl false) M) := ⟨fun q => g_neII q⟩
instance i_ne : Stp (oNe (.int i) (.int j) M Q) (Q (.bl (!decide (i = j))) M) := ⟨fun q => q⟩
instance (priority := 2000) i_eqSS : Stp (oEq (.str z) (.str z) M Q) (Q (.bl true) M) := ⟨fun q => g_eqSS1 q⟩
instance i_eqS : Stp (oEq (.str z) (.str w) M Q) (Q (.bl (decide (z = w))) M) := ⟨fun q => q⟩
instance (priority := 2000) i_eqB1 : Stp (oEq (.bl b) (.bl b) M Q) (Q (.bl true) M) := ⟨fun q => g_eqBB1 q⟩
instance i_eqB : Stp (oEq (.bl b) (.bl c) M Q) (Q (.bl (decide (b = c))) M) := ⟨fun q => g_eqBB q⟩
instance i_lenT : Stp (bLen [.tup xs] M Q) (Q (.int xs.length) M) := ⟨fun q => g_lenT q⟩
instance i_lenl : Stp (bLen [.lst xs] M Q) (Q (.int xs.length) M) := ⟨fun q => g_lenl q⟩
instance i_lens : Stp (bLen [.scr xs] M Q) (Q (.int xs.length) M) := ⟨fun q => g_lens q⟩
instance i_max2 : Stp (bMax2 [.int i, .int j] M Q) (Q (.int (max i j)) M) := ⟨fun q => g_max2 q⟩
instance i_min2 : Stp (bMin2 [.int i, .int j] M Q) (Q (.int (min i j)) M) := ⟨fun q => g_min2 q⟩
instance i_intI : Stp (bInt [.int i] M Q) (Q (.int i) M) := ⟨fun q => ⟨_, rfl, q⟩⟩
instance (priority := 2000) i_isN : Stp (oIsN .non .non M Q) (Q (.bl true) M) := ⟨fun q => g_isN q⟩
instance i_isNbl : Stp (oIsN (.bl b) .non M Q) (Q (.bl false) M) := ⟨fun q => g_isN0 (fun z => nomatch z) q⟩
instance i_isNint : Stp (oIsN (.int i) .non M Q) (Q (.bl false) M) := ⟨fun q => g_isN0 (fun z => nomatch z) q⟩
instance i_isNstr : Stp (oIsN (.str z) .non M Q) (Q (.bl false) M) := ⟨fun q => g_isN0 (fun z => nomatch z) q⟩
instance i_isNtup : Stp (oIsN (.tup xs) .non M Q) (Q (.bl false) M) := ⟨fun q => g_isN0 (fun z => nomatch z) q⟩
instance i_isNlst : Stp (oIsN (.lst xs) .non M Q) (Q (.bl false) M) := ⟨fun q => g_isN0 (fun z => nomatch z) q⟩
instance i_isNobj {C : Addr} {gs : List (Str × D)} : Stp (oIsN (.obj C gs) .non M Q) (Q (.bl false) M) := ⟨fun q => g_isN0 (fun z => nomatch z) q⟩
instance i_isNref {a : Addr} : Stp (oIsN (.ref a) .non M Q) (Q (.bl false) M) := ⟨fun q => g_isN0 (fun z => nomatch z) q⟩
instance i_notNbl : Stp (oNotN (.bl b) .non M Q) (Q (.bl true) M) := ⟨fun q => ⟨rfl, true, rfl, q⟩⟩
instance i_notNint : Stp (oNotN (.int i) .non M Q) (Q (.bl true) M) := ⟨fun q => ⟨rfl, true, rfl, q⟩⟩
instance i_notNstr : Stp (oNotN (.str z) .non M Q) (Q (.bl true) M) := ⟨fun q => ⟨rfl, true, rfl, q⟩⟩
instance i_notNtup : Stp (oNotN (.tup xs) .non M Q) (Q (.bl true) M) := ⟨fun q => ⟨rfl, true, rfl, q⟩⟩
instance i_notNlst : Stp (oNotN (.lst xs) .non M Q) (Q (.bl true) M) := ⟨fun q => ⟨rfl, true, rfl, q⟩⟩
instance i_notNobj {C : Addr} {gs : List (Str × D)} : Stp (oNotN (.obj C gs) .non M Q) (Q (.bl true) M) := ⟨fun q => ⟨rfl, true, rfl, q⟩⟩
instance i_notNref {a : Addr} : Stp (oNotN (.ref a) .non M Q) (Q (.bl true) M) := ⟨fun q => ⟨rfl, true, rfl, q⟩⟩
instance i_notNnon : Stp (oNotN .non .non M Q) (Q (.bl false) M) := ⟨fun q => ⟨rfl, false, rfl, q⟩⟩
instance i_isi_int_int : Stp (bIsi .int [.int i, .ty "int"] M Q) (Q (.bl true) M) := ⟨fun q => g_isi rfl rfl q⟩
instance i_isi_int_bl : Stp (bIsi .int [.bl b, .ty "int"] M Q) (Q (.bl true) M) := ⟨fun q => g_isi rfl rfl q⟩
instance i_isi_int_str : Stp (bIsi .int [.str z, .ty "int"] M Q) (Q (.bl false) M) := ⟨fun q => g_isi rfl rfl q⟩
instance i_isi_int_tup : Stp (bIsi .int [.tup xs, .ty "int"] M Q) (Q (.bl false) M) := ⟨fun q => g_isi rfl rfl q⟩
instance i_isi_int_lst : Stp (bIsi .int [.lst xs, .ty "int"] M Q) (Q (.bl false) M) := ⟨fun q => g_isi rfl rfl q⟩
instance i_isi_int_non : Stp (bIsi .int [.non, .ty "int"] M Q) (Q (.bl false) M) := ⟨fun q => g_isi rfl rfl q⟩
instance i_isi_bool_int : Stp (bIsi .bool [.int i, .ty "bool"] M Q) (Q (.bl false) M) := ⟨fun q => g_isi rfl rfl q⟩
instance i_isi_bool_bl : Stp (bIsi .bool [.bl b, .ty "bool"] M Q) (Q (.bl true) M) := ⟨fun q => g_isi rfl rfl q⟩
instance i_isi_bool_str : Stp (bIsi .bool [.str z, .ty "bool"] M Q) (Q (.bl false) M) := ⟨fun q => g_isi rfl rfl q⟩
instance i_isi_bool_tup : Stp (bIsi .bool [.tup xs, .ty "bool"] M Q) (Q (.bl false) M) := ⟨fun q => g_isi rfl rfl q⟩
instance i_isi_bool_lst : Stp (bIsi .bool [.lst xs, .ty "bool"] M Q) (Q (.bl false) M) := ⟨fun q => g_isi rfl rfl q⟩
instance i_isi_bool_non : Stp (bIsi .bool [.non, .ty "bool"] M Q) (Q (.bl false) M) := ⟨fun q => g_isi rfl rfl q⟩
instance i_isi_str_int : Stp (bIsi .str [.int i, .ty "str"] M Q) (Q (.bl false) M) := ⟨fun q => g_isi rfl rfl q⟩
instance i_isi_str_bl : Stp (bIsi .str [.bl b, .ty "str"] M Q) (Q (.bl false) M) := ⟨fun q => g_isi rfl rfl q⟩
instance i_isi_str_str : Stp (bIsi .str [.str z, .ty "str"] M Q) (Q (.bl true) M) := ⟨fun q => g_isi rfl rfl q⟩
instance i_isi_str_tup : Stp (bIsi .str [.tup xs, .ty "str"] M Q) (Q (.bl false) M) := ⟨fun q => g_isi rfl rfl q⟩
instance i_isi_str_lst : Stp (bIsi .str [.lst xs, .ty "str"] M Q) (Q (.bl false) M) := ⟨fun q => g_isi rfl rfl q⟩
instance i_isi_str_non : Stp (bIsi .str [.non, .ty "str"] M Q) (Q (.bl false) M) := ⟨fun q => g_isi rfl rfl q⟩
instance i_isi_tuple_int : Stp (bIsi .tuple [.int i, .ty "tuple"] M Q) (Q (.bl false) M) := ⟨fun q => g_isi rfl rfl q⟩
instance i_isi_tuple_bl : Stp (bIsi .tuple [.bl b, .ty "tuple"] M Q) (Q (.bl false) M) := ⟨fun q => g_isi rfl rfl q⟩
instance i_isi_tuple_str : Stp (bIsi .tuple [.str z, .ty "tuple"] M Q) (Q (.bl false) M) := ⟨fun q => g_isi rfl rfl q⟩
instance i_isi_tuple_tup : Stp (bIsi .tuple [.tup xs, .ty "tuple"] M Q) (Q (.bl true) M) := ⟨fun q => g_isi rfl rfl q⟩
instance i_isi_tuple_lst : Stp (bIsi .tuple [.lst xs, .ty "tuple"] M Q) (Q (.bl false) M) := ⟨fun q => g_isi rfl rfl q⟩
instance i_isi_tuple_non : Stp (bIsi .tuple [.non, .ty "tuple"] M Q) (Q (.bl false) M) := ⟨fun q => g_isi rfl rfl q⟩
instance i_isi_list_int : Stp (bIsi .list [.int i, .ty "list"] M Q) (Q (.bl false) M) := ⟨fun q => g_isi rfl rfl q⟩
instance i_isi_list_bl : Stp (bIsi .list [.bl b, .ty "list"] M Q) (Q (.bl false) M) := ⟨fun q => g_isi rfl rfl q⟩
instance i_isi_list_str : Stp (bIsi .list [.str z, .ty "list"] M Q) (Q (.bl false) M) := ⟨fun q => g_isi rfl rfl q⟩
instance i_isi_list_tup : Stp (bIsi .list [.tup xs, .ty "list"] M Q) (Q (.bl false) M) := ⟨fun q => g_isi rfl rfl q⟩
instance i_isi_list_lst : Stp (bIsi .list [.lst xs, .ty "list"] M Q) (Q (.bl true) M) := ⟨fun q => g_isi rfl rfl q⟩
instance i_isi_list_non : Stp (bIsi .list [.non, .ty "list"] M Q) (Q (.bl false) M) := ⟨fun q => g_isi rfl rfl q⟩
instance i_T : Stp (if true = true then A else B) (A) := ⟨fun q => g_T q⟩
instance i_F : Stp (if false = true then A else B) (B) := ⟨fun q => g_F q⟩
instance i_nT : Stp (if (!true) = true then A else B) (B) := ⟨fun q => g_nT q⟩
instance i_nF : Stp (if (!false) = true then A else B) (A) := ⟨fun q => g_nF q⟩
instance i_rng1 {QW : Wk → Mem → Prop} : Stp (wRng1 tl τ M QW) (tl τ M fun ds M1 => ∃ j : Int, ds = [.int j] ∧ -(2 ^ 62) ≤ j ∧ j < 2 ^ 62 ∧ QW ⟨rangeD 0 j.toNat, fun _ => True⟩ M1) := ⟨fun q => q⟩
instance i_rng2 {QW : Wk → Mem → Prop} : Stp (wRng2 tl τ M QW) (tl τ M fun ds M1 => ∃ i j : Int, ds = [.int i, .int j] ∧ (-(2 ^ 62) ≤ i ∧ i < 2 ^ 62 ∧ -(2 ^ 62) ≤ j ∧ j < 2 ^ 62) ∧ QW ⟨rangeD i (j - i).toNat, fun _ => True⟩ M1) := ⟨fun q => q⟩
instance i_wlist {QW : Wk → Mem → Prop} : Stp (wList ta τ M QW) (ta τ M fun d M1 => ∃ xs, Srd M1 d xs ∧ QW ⟨xs, fun M2 => Srd M2 d xs⟩ M1) := ⟨fun q => q⟩
instance i_wtup {QW : Wk → Mem → Prop} : Stp (wTup ta τ M QW) (ta τ M fun d M1 => ∃ xs, d = .tup xs ∧ QW ⟨xs, fun _ => True⟩ M1) := ⟨fun q => q⟩
instance i_yes : Stp (dYes τ M QB) (QB true M) := ⟨fun q => q⟩
instance i_lc {wi : DTI} {p : Pat} {vs : List Nat} : Stp (dLc wi p tt ta vs τ M Q) (wi τ M fun W M1 => p.within vs ∧ lcGo p.d tt ta W.stay (wipD τ vs) W.items [] M1 fun ys M2 => NewL ys M2 Q) := ⟨fun q => q⟩
instance i_win : Stp ((Pat.nm k).within [k] ∧ A) (A) := ⟨fun q => g_win q⟩
instance i_lok {R : List D → Prop} : Stp (∃ ys, Srd M (.lst xs) ys ∧ R ys) (R xs) := ⟨fun q => ⟨xs, .l, q⟩⟩
instance i_tok {R : List D → Prop} : Stp (∃ ys, D.tup xs = .tup ys ∧ R ys) (R xs) := ⟨fun q => ⟨xs, rfl, q⟩⟩
instance i_e18 : Stp (oPow (.int 10) (.int 18) M Q) (Q (.int 1000000000000000000) M) := ⟨fun q => g_e18 q⟩
instance i_ckS : Stp (ckS (.str z) M ∧ A) (A) := ⟨fun q => g_ckS q⟩
end
end DL

set_option Elab.async false
set_option linter.all false
set_option maxRecDepth 100000
set_option maxHeartbeats 2000000
namespace DL
open PySem L2
/-! ### ints that are naturals -/
class NatI (i : Int) (n : outParam Nat) : Prop where
  eq : i = (n : Int)
instance natI_c {n : Nat} : NatI (n : Int) n := ⟨rfl⟩
instance natI_0 : NatI (0 : Int) 0 := ⟨rfl⟩
instance natI_1 : NatI (1 : Int) 1 := ⟨rfl⟩
instance natI_2 : NatI (2 : Int) 2 := ⟨rfl⟩
instance natI_3 : NatI (3 : Int) 3 := ⟨rfl⟩
instance natI_4 : NatI (4 : Int) 4 := ⟨rfl⟩
instance natI_5 : NatI (5 : Int) 5 := ⟨rfl⟩
instance natI_6 : NatI (6 : Int) 6 := ⟨rfl⟩
instance natI_7 : NatI (7 : Int) 7 := ⟨rfl⟩
instance natI_8 : NatI (8 : Int) 8 := ⟨rfl⟩
instance natI_9 : NatI (9 : Int) 9 := ⟨rfl⟩
instance natI_10 : NatI (10 : Int) 10 := ⟨rfl⟩
instance natI_11 : NatI (11 : Int) 11 := ⟨rfl⟩
instance natI_12 : NatI (12 : Int) 12 := ⟨rfl⟩
instance natI_13 : NatI (13 : Int) 13 := ⟨rfl⟩
instance natI_14 : NatI (14 : Int) 14 := ⟨rfl⟩
instance natI_15 : NatI (15 : Int) 15 := ⟨rfl⟩
instance natI_16 : NatI (16 : Int) 16 := ⟨rfl⟩
instance natI_17 : NatI (17 : Int) 17 := ⟨rfl⟩
instance natI_18 : NatI (18 : Int) 18 := ⟨rfl⟩
instance natI_19 : NatI (19 : Int) 19 := ⟨rfl⟩
instance natI_20 : NatI (20 : Int) 20 := ⟨rfl⟩
instance natI_21 : NatI (21 : Int) 21 := ⟨rfl⟩
instance natI_24 : NatI (24 : Int) 24 := ⟨rfl⟩
instance natI_30 : NatI (30 : Int) 30 := ⟨rfl⟩
instance natI_32 : NatI (32 : Int) 32 := ⟨rfl⟩
instance natI_60 : NatI (60 : Int) 60 := ⟨rfl⟩
instance natI_63 : NatI (63 : Int) 63 := ⟨rfl⟩
instance natI_64 : NatI (64 : Int) 64 := ⟨rfl⟩
instance natI_100 : NatI (100 : Int) 100 := ⟨rfl⟩
instance natI_128 : NatI (128 : Int) 128 := ⟨rfl⟩
instance natI_199 : NatI (199 : Int) 199 := ⟨rfl⟩
instance natI_200 : NatI (200 : Int) 200 := ⟨rfl⟩
instance natI_255 : NatI (255 : Int) 255 := ⟨rfl⟩
instance natI_256 : NatI (256 : Int) 256 := ⟨rfl⟩
instance natI_1000 : NatI (1000 : Int) 1000 := ⟨rfl⟩
instance natI_1024 : NatI (1024 : Int) 1024 := ⟨rfl⟩
instance natI_2048 : NatI (2048 : Int) 2048 := ⟨rfl⟩
instance natI_4096 : NatI (4096 : Int) 4096 := ⟨rfl⟩
instance natI_add {i j : Int} {n m : Nat} [a : NatI i n] [b : NatI j m] : NatI (i + j) (n + m) := ⟨by rw [a.eq, b.eq]; exact (Int.natCast_add n m).symm⟩
instance natI_mul {i j : Int} {n m : Nat} [a : NatI i n] [b : NatI j m] : NatI (i * j) (n * m) := ⟨by rw [a.eq, b.eq]; exact (Int.natCast_mul n m).symm⟩
theorem bAnd (a b : Nat) : Builtin.bitAnd (a : Int) (b : Int) = ((a &&& b : Nat) : Int) := by
  rw [PyProof.Rows.bitAnd_pp (by omega) (by omega)]; simp
theorem bOr (a b : Nat) : Builtin.bitOr (a : Int) (b : Int) = ((a ||| b : Nat) : Int) := by
  rw [Bits.bitOr_pp (by omega) (by omega)]; simp
theorem bXor (a b : Nat) : Builtin.bitXor (a : Int) (b : Int) = ((a ^^^ b : Nat) : Int) := by
  rw [Bits.bitXor_pp (by omega) (by omega)]; simp
theorem two_pow_int (k : Nat) : (2 : Int) ^ k = ((2 ^ k : Nat) : Int) := (Int.natCast_pow 2 k).symm
theorem shl_int (a k : Nat) : (a : Int) * 2 ^ ((k : Int)).toNat = ((a * 2 ^ k : Nat) : Int) := by
  rw [Int.toNat_natCast, two_pow_int, Int.natCast_mul]
theorem shr_int (a k : Nat) : (a : Int) / 2 ^ ((k : Int)).toNat = ((a / 2 ^ k : Nat) : Int) := by
  rw [Int.toNat_natCast, two_pow_int]; exact (Int.natCast_ediv a (2 ^ k)).symm
section
variable {M : Mem} {Q : D → Mem → Prop} {i j : Int} {n m : Nat} {A : Prop}
instance (priority := 1100) n_band [a : NatI i n] [b : NatI j m] : Stp (oAnd (.int i) (.int j) M Q) (Q (.int ((n &&& m : Nat) : Int)) M) := ⟨fun q => by rw [a.eq, b.eq]; exact g_band (by rw [bAnd]; exact q)⟩
instance (priority := 1100) n_bor [a : NatI i n] [b : NatI j m] : Stp (oOr (.int i) (.int j) M Q) (Q (.int ((n ||| m : Nat) : Int)) M) := ⟨fun q => by rw [a.eq, b.eq]; exact g_bor (by rw [bOr]; exact q)⟩
instance (priority := 1100) n_bxor [a : NatI i n] [b : NatI j m] : Stp (oXor (.int i) (.int j) M Q) (Q (.int ((n ^^^ m : Nat) : Int)) M) := ⟨fun q => by rw [a.eq, b.eq]; exact g_bxor (by rw [bXor]; exact q)⟩
instance (priority := 1100) n_shr [a : NatI i n] [b : NatI j m] : Stp (oShr (.int i) (.int j) M Q) (Q (.int ((n / 2 ^ m : Nat) : Int)) M) := ⟨fun q => by
  rw [a.eq, b.eq]; exact g_shr (by omega) (by rw [shr_int]; exact q)⟩
theorem n_shl [a : NatI i n] [b : NatI j m] (c : CShl (n : Int) (m : Int)) (q : Q (.int ((n * 2 ^ m : Nat) : Int)) M) : oShl (.int i) (.int j) M Q := by
  rw [a.eq, b.eq]; exact g_shl c (by rw [shl_int]; exact q)
theorem n_mod [a : NatI i n] [b : NatI j m] (c : 0 < m) (q : Q (.int ((n % m : Nat) : Int)) M) : oMod (.int i) (.int j) M Q := by
  rw [a.eq, b.eq]; exact g_mod (by omega) (by rw [← Int.natCast_emod]; exact q)
theorem n_div [a : NatI i n] [b : NatI j m] (c : CDv (n : Int) (m : Int)) (q : Q (.int ((n / m : Nat) : Int)) M) : oDiv (.int i) (.int j) M Q := by
  rw [a.eq, b.eq]; exact g_div c (by rw [← Int.natCast_ediv]; exact q)
instance n_gTp1 {a0 : D} {gs : DTGs} {τ : DSt} {QS : DSt → Mem → Prop} : Stp (gTp 1 gs (.tup [a0]) τ M QS) (gs [a0] τ M QS) := ⟨fun q => ⟨_, rfl, rfl, q⟩⟩
instance n_gLs1 {a0 : D} {gs : DTGs} {τ : DSt} {QS : DSt → Mem → Prop} : Stp (gLs 1 gs (.lst [a0]) τ M QS) (gs [a0] τ M QS) := ⟨fun q => ⟨_, .l, rfl, q⟩⟩
instance n_gTp2 {a0 a1 : D} {gs : DTGs} {τ : DSt} {QS : DSt → Mem → Prop} : Stp (gTp 2 gs (.tup [a0, a1]) τ M QS) (gs [a0, a1] τ M QS) := ⟨fun q => ⟨_, rfl, rfl, q⟩⟩
instance n_gLs2 {a0 a1 : D} {gs : DTGs} {τ : DSt} {QS : DSt → Mem → Prop} : Stp (gLs 2 gs (.lst [a0, a1]) τ M QS) (gs [a0, a1] τ M QS) := ⟨fun q => ⟨_, .l, rfl, q⟩⟩
instance n_gTp3 {a0 a1 a2 : D} {gs : DTGs} {τ : DSt} {QS : DSt → Mem → Prop} : Stp (gTp 3 gs (.tup [a0, a1, a2]) τ M QS) (gs [a0, a1, a2] τ M QS) := ⟨fun q => ⟨_, rfl, rfl, q⟩⟩
instance n_gLs3 {a0 a1 a2 : D} {gs : DTGs} {τ : DSt} {QS : DSt → Mem → Prop} : Stp (gLs 3 gs (.lst [a0, a1, a2]) τ M QS) (gs [a0, a1, a2] τ M QS) := ⟨fun q => ⟨_, .l, rfl, q⟩⟩
instance n_gTp4 {a0 a1 a2 a3 : D} {gs : DTGs} {τ : DSt} {QS : DSt → Mem → Prop} : Stp (gTp 4 gs (.tup [a0, a1, a2, a3]) τ M QS) (gs [a0, a1, a2, a3] τ M QS) := ⟨fun q => ⟨_, rfl, rfl, q⟩⟩
instance n_gLs4 {a0 a1 a2 a3 : D} {gs : DTGs} {τ : DSt} {QS : DSt → Mem → Prop} : Stp (gLs 4 gs (.lst [a0, a1, a2, a3]) τ M QS) (gs [a0, a1, a2, a3] τ M QS) := ⟨fun q => ⟨_, .l, rfl, q⟩⟩
instance n_gTp5 {a0 a1 a2 a3 a4 : D} {gs : DTGs} {τ : DSt} {QS : DSt → Mem → Prop} : Stp (gTp 5 gs (.tup [a0, a1, a2, a3, a4]) τ M QS) (gs [a0, a1, a2, a3, a4] τ M QS) := ⟨fun q => ⟨_, rfl, rfl, q⟩⟩
instance n_gLs5 {a0 a1 a2 a3 a4 : D} {gs : DTGs} {τ : DSt} {QS : DSt → Mem → Prop} : Stp (gLs 5 gs (.lst [a0, a1, a2, a3, a4]) τ M QS) (gs [a0, a1, a2, a3, a4] τ M QS) := ⟨fun q => ⟨_, .l, rfl, q⟩⟩
instance n_gTp6 {a0 a1 a2 a3 a4 a5 : D} {gs : DTGs} {τ : DSt} {QS : DSt → Mem → Prop} : Stp (gTp 6 gs (.tup [a0, a1, a2, a3, a4, a5]) τ M QS) (gs [a0, a1, a2, a3, a4, a5] τ M QS) := ⟨fun q => ⟨_, rfl, rfl, q⟩⟩
instance n_gLs6 {a0 a1 a2 a3 a4 a5 : D} {gs : DTGs} {τ : DSt} {QS : DSt → Mem → Prop} : Stp (gLs 6 gs (.lst [a0, a1, a2, a3, a4, a5]) τ M QS) (gs [a0, a1, a2, a3, a4, a5] τ M QS) := ⟨fun q => ⟨_, .l, rfl, q⟩⟩
instance n_gTp7 {a0 a1 a2 a3 a4 a5 a6 : D} {gs : DTGs} {τ : DSt} {QS : DSt → Mem → Prop} : Stp (gTp 7 gs (.tup [a0, a1, a2, a3, a4, a5, a6]) τ M QS) (gs [a0, a1, a2, a3, a4, a5, a6] τ M QS) := ⟨fun q => ⟨_, rfl, rfl, q⟩⟩
instance n_gLs7 {a0 a1 a2 a3 a4 a5 a6 : D} {gs : DTGs} {τ : DSt} {QS : DSt → Mem → Prop} : Stp (gLs 7 gs (.lst [a0, a1, a2, a3, a4, a5, a6]) τ M QS) (gs [a0, a1, a2, a3, a4, a5, a6] τ M QS) := ⟨fun q => ⟨_, .l, rfl, q⟩⟩
instance n_gsC {d : D} {r : List D} {g : DTG} {gs : DTGs} {τ : DSt} {QS : DSt → Mem → Prop} : Stp (gsCons g gs (d :: r) τ M QS) (g d τ M fun τ2 M2 => gs r τ2 M2 QS) := ⟨fun q => ⟨_, _, rfl, q⟩⟩
instance n_gsN {τ : DSt} {QS : DSt → Mem → Prop} : Stp (gsNil [] τ M QS) (QS τ M) := ⟨fun q => ⟨rfl, q⟩⟩
theorem g_nzN (q1 : 0 < n → A) (q2 : n = 0 → B) : if (((n : Nat) : Int) != 0) = true then A else B := g_nz (fun h => q1 (by omega)) (fun h => q2 (by omega))
end
/-! ### sizes -/
def Lim (b n : Nat) : Prop := n < 2 ^ b
theorem Lim.mono {b c n : Nat} (h : Lim b n) (hc : b ≤ c) : Lim c n := Nat.lt_of_lt_of_le h (Nat.pow_le_pow_right (by decide) hc)
theorem Lim.le {b n m : Nat} (h : Lim b n) (hm : m ≤ n) : Lim b m := Nat.lt_of_le_of_lt hm h
theorem Lim.dv {i : Int} {n : Nat} (h : Lim 9000 n) (h0 : 0 < n) : CDv i (n : Int) := dv_wide (n := 9000) (by omega) (show ((n : Int)).natAbs < _ from h) (by decide) (by decide)
theorem Lim.mul {a b n m : Nat} (h : Lim a n) (h2 : Lim b m) (hc : a + b ≤ 134217728) : IntMulOk (n : Int) (m : Int) := mul_ok (a := a) (b := b) (show ((n : Int)).natAbs < _ from h) (show ((m : Int)).natAbs < _ from h2) hc
theorem Lim.shl {b n k : Nat} (h : Lim b n) (hc : b + k ≤ 134217728) : CShl (n : Int) (k : Int) := shl_ok (n := b) (show ((n : Int)).natAbs < _ from h) hc
theorem lim_pow {b B k : Nat} (hb : b ≤ 2 ^ B) : Lim (B * k + 1) (b ^ k) := by
  refine Nat.lt_of_le_of_lt (Nat.pow_le_pow_left hb k) ?_
  rw [← Nat.pow_mul]; exact Nat.pow_lt_pow_right (by decide) (by omega)
theorem lim_two {b k : Nat} (h : k < b) : Lim b (2 ^ k) := Nat.pow_lt_pow_right (by decide) h
theorem Lim.mulN {a b n m : Nat} (h : Lim a n) (h2 : Lim b m) : Lim (a + b) (n * m) := by
  unfold Lim at *; rw [Nat.pow_add]; exact Nat.mul_lt_mul'' h h2
theorem Lim.xor {b n m : Nat} (h : Lim b n) (h2 : Lim b m) : Lim b (n ^^^ m) := Nat.xor_lt_two_pow h h2
theorem Lim.or {b n m : Nat} (h : Lim b n) (h2 : Lim b m) : Lim b (n ||| m) := Nat.or_lt_two_pow h h2
theorem Lim.and {b n m : Nat} (h : Lim b n) : Lim b (n &&& m) := Nat.lt_of_le_of_lt Nat.and_le_left h
theorem Lim.of {b n : Nat} (h : n < 2 ^ b) : Lim b n := h
end DL

set_option Elab.async false
set_option linter.all false
set_option maxRecDepth 100000
set_option maxHeartbeats 2000000
namespace DL
open PySem L2 PySem.Spec
/-! ### deep comparison of data without bools -/
def Cm : Nat → D → Prop
  | _, .non => True
  | _, .int _ => True
  | _, .str z => PyData.strOk z = true
  | n + 1, .tup xs => ∀ x ∈ xs, Cm n x
  | n + 1, .lst xs => ∀ x ∈ xs, Cm n x
  | _, _ => False
/-- bools too -/
def Cb : Nat → D → Prop
  | _, .non => True
  | _, .int _ => True
  | _, .str z => PyData.strOk z = true
  | _, .bl _ => True
  | n + 1, .tup xs => ∀ x ∈ xs, Cb n x
  | n + 1, .lst xs => ∀ x ∈ xs, Cb n x
  | _, _ => False
theorem depthAll_le {n : Nat} : ∀ {ps : List PyData}, (∀ p ∈ ps, PyData.depth p ≤ n) → PyData.depthAll ps ≤ n
  | [], _ => by simp [PyData.depthAll]
  | p :: ps, h => by
    simp only [PyData.depthAll]
    have h1 := h p List.mem_cons_self
    have h2 := depthAll_le (ps := ps) fun q m => h q (List.mem_cons_of_mem _ m)
    omega
theorem canLayAll {ps : List PyData} : (∀ p ∈ ps, PyData.canLay0 p = true) → PyData.canLayAll0 ps = true := by
  induction ps with
  | nil => intro _; rfl
  | cons p ps ih =>
    intro h
    simp only [PyData.canLayAll0, Bool.and_eq_true]
    exact ⟨h p List.mem_cons_self, ih fun q m => h q (List.mem_cons_of_mem _ m)⟩
theorem toPys_of {n : Nat} (ih : ∀ d, Cb n d → ∃ p, toPy d = some p ∧ p.canLay0 = true ∧ p.depth ≤ n) : ∀ xs : List D, (∀ x ∈ xs, Cb n x) → ∃ ps, toPys xs = some ps ∧ ∀ p ∈ ps, PyData.canLay0 p = true ∧ PyData.depth p ≤ n
  | [], _ => ⟨[], rfl, fun _ h => nomatch h⟩
  | x :: xs, h => by
    obtain ⟨p, e, h1⟩ := ih x (h x List.mem_cons_self)
    obtain ⟨ps, e2, h2⟩ := toPys_of ih xs fun y m => h y (List.mem_cons_of_mem _ m)
    refine ⟨p :: ps, by unfold toPys; rw [e, e2], fun q m => ?_⟩
    rcases List.mem_cons.mp m with rfl | m
    · exact h1
    · exact h2 q m
theorem toPy_of : ∀ (n : Nat) (d : D), Cb n d → ∃ p, toPy d = some p ∧ p.canLay0 = true ∧ p.depth ≤ n
  | n, .non, _ => ⟨.none, rfl, rfl, by simp [PyData.depth]⟩
  | n, .bl b, _ => ⟨.bool b, rfl, rfl, by simp [PyData.depth]⟩
  | n, .int i, _ => ⟨.int i, rfl, rfl, by simp [PyData.depth]⟩
  | n, .str z, h => ⟨.str z, rfl, by cases n <;> exact h, by simp [PyData.depth]⟩
  | n + 1, .tup xs, h => by
    obtain ⟨ps, e, h1⟩ := toPys_of (toPy_of n) xs h
    refine ⟨.tuple ps, by unfold toPy; rw [e]; rfl, ?_, ?_⟩
    · simp only [PyData.canLay0]; exact canLayAll fun p m => (h1 p m).1
    · simp only [PyData.depth]; exact Nat.succ_le_succ (depthAll_le fun p m => (h1 p m).2)
  | n + 1, .lst xs, h => by
    obtain ⟨ps, e, h1⟩ := toPys_of (toPy_of n) xs h
    refine ⟨.list ps, by unfold toPy; rw [e]; rfl, ?_, ?_⟩
    · simp only [PyData.canLay0]; exact canLayAll fun p m => (h1 p m).1
    · simp only [PyData.depth]; exact Nat.succ_le_succ (depthAll_le fun p m => (h1 p m).2)
  | n, .ty _, h => (show False by cases n <;> exact h).elim
  | n, .ref _, h => (show False by cases n <;> exact h).elim
  | n, .scr _, h => (show False by cases n <;> exact h).elim
  | n, .obj _ _, h => (show False by cases n <;> exact h).elim
  | n, .dic _, h => (show False by cases n <;> exact h).elim
  | n, .dit _, h => (show False by cases n <;> exact h).elim
  | 0, .tup _, h => (show False from h).elim
  | 0, .lst _, h => (show False from h).elim
theorem Cm.str {n : Nat} {z : Str} (h : PyData.strOk z = true) : Cm n (.str z) := by cases n <;> exact h
theorem Cm.b : ∀ {n : Nat} {d : D}, Cm n d → Cb n d
  | n, .non, _ => by cases n <;> exact trivial
  | n, .int i, _ => by cases n <;> exact trivial
  | n, .str z, h => by cases n <;> exact h
  | n + 1, .tup xs, h => fun x m => Cm.b (h x m)
  | n + 1, .lst xs, h => fun x m => Cm.b (h x m)
  | n, .ty _, h => (show False by cases n <;> exact h).elim
  | n, .ref _, h => (show False by cases n <;> exact h).elim
  | n, .scr _, h => (show False by cases n <;> exact h).elim
  | n, .obj _ _, h => (show False by cases n <;> exact h).elim
  | n, .dic _, h => (show False by cases n <;> exact h).elim
  | n, .dit _, h => (show False by cases n <;> exact h).elim
  | 0, .tup _, h => (show False from h).elim
  | 0, .lst _, h => (show False from h).elim
  | n, .bl _, h => (show False by cases n <;> exact h).elim
theorem eqvs_iff {n : Nat} (ih : ∀ x y p q, Cm n x → Cm n y → toPy x = some p → toPy y = some q → (PyData.eqv p q = true ↔ x = y)) : ∀ (xs ys : List D) (ps qs : List PyData), (∀ x ∈ xs, Cm n x) → (∀ y ∈ ys, Cm n y) → toPys xs = some ps → toPys ys = some qs → (PyData.eqvAll ps qs = true ↔ xs = ys)
  | [], [], ps, qs, _, _, e1, e2 => by cases e1; cases e2; simp [PyData.eqvAll]
  | [], y :: ys, ps, qs, _, hy, e1, e2 => by
    cases e1
    obtain ⟨q, d, _⟩ := toPy_of n y (hy y List.mem_cons_self).b
    obtain ⟨qs', d2, _⟩ := toPys_of (toPy_of n) ys fun z m => (hy z (List.mem_cons_of_mem _ m)).b
    unfold toPys at e2; rw [d, d2] at e2; cases e2
    simp [PyData.eqvAll]
  | x :: xs, [], ps, qs, hx, _, e1, e2 => by
    cases e2
    obtain ⟨q, d, _⟩ := toPy_of n x (hx x List.mem_cons_self).b
    obtain ⟨qs', d2, _⟩ := toPys_of (toPy_of n) xs fun z m => (hx z (List.mem_cons_of_mem _ m)).b
    unfold toPys at e1; rw [d, d2] at e1; cases e1
    simp [PyData.eqvAll]
  | x :: xs, y :: ys, ps, qs, hx, hy, e1, e2 => by
    obtain ⟨p, d, _⟩ := toPy_of n x (hx x List.mem_cons_self).b
    obtain ⟨ps', d2, _⟩ := toPys_of (toPy_of n) xs fun z m => (hx z (List.mem_cons_of_mem _ m)).b
    obtain ⟨q, c, _⟩ := toPy_of n y (hy y List.mem_cons_self).b
    obtain ⟨qs', c2, _⟩ := toPys_of (toPy_of n) ys fun z m => (hy z (List.mem_cons_of_mem _ m)).b
    unfold toPys at e1; rw [d, d2] at e1; cases e1
    unfold toPys at e2; rw [c, c2] at e2; cases e2
    have h1 := ih x y p q (hx x List.mem_cons_self) (hy y List.mem_cons_self) d c
    have h2 := eqvs_iff ih xs ys ps' qs' (fun z m => hx z (List.mem_cons_of_mem _ m)) (fun z m => hy z (List.mem_cons_of_mem _ m)) d2 c2
    simp only [PyData.eqvAll, Bool.and_eq_true, List.cons.injEq]
    rw [h1, h2]
theorem eqv_iff : ∀ (n : Nat) (x y : D) (p q : PyData), Cm n x → Cm n y → toPy x = some p → toPy y = some q → (PyData.eqv p q = true ↔ x = y) := by
  intro n
  induction n with
  | zero =>
    intro x y p q hx hy e1 e2
    cases x <;> first | exact (show False from hx).elim | skip
    all_goals (cases y <;> first | exact (show False from hy).elim | (cases e1; cases e2; simp [PyData.eqv]))
  | succ n ih =>
    intro x y p q hx hy e1 e2
    have ihs := eqvs_iff ih
    cases x <;> first | exact (show False from hx).elim | skip
    all_goals (cases y <;> first | exact (show False from hy).elim | skip)
    all_goals first
      | (cases e1; cases e2; simp [PyData.eqv]; done)
      | (unfold toPy at e1 e2
         first
          | (obtain ⟨ps, c1, rfl⟩ := Option.map_eq_some_iff.mp e1
             obtain ⟨qs, c2, rfl⟩ := Option.map_eq_some_iff.mp e2
             have := ihs _ _ ps qs hx hy c1 c2
             simp [PyData.eqv, this]; done)
          | (obtain ⟨ps, c1, rfl⟩ := Option.map_eq_some_iff.mp e1
             cases e2; simp [PyData.eqv]; done)
          | (obtain ⟨qs, c2, rfl⟩ := Option.map_eq_some_iff.mp e2
             cases e1; simp [PyData.eqv]; done))
/-- a datum, or the list a cell holds -/
def Fz (M : Mem) (x d : D) : Prop := x = d ∨ ∃ xs, Rdl M x xs ∧ d = .lst xs
theorem Fz.py {n : Nat} {M : Mem} {x d : D} {p : PyData} (h : Fz M x d) (e : toPy d = some p) : PyOf M x p := by
  rcases h with rfl | ⟨xs, h, rfl⟩
  · exact .inl e
  · unfold toPy at e
    obtain ⟨ps, c1, rfl⟩ := Option.map_eq_some_iff.mp e
    exact .inr ⟨xs, ps, h, c1, rfl⟩
theorem Fz.r {M : Mem} {a : Addr} {xs : List D} (h : M a = some (.lst xs)) : Fz M (.ref a) (.lst xs) := .inr ⟨xs, .r h, rfl⟩
theorem Fz.s {M : Mem} {d : D} : Fz M d d := .inl rfl
section
variable {M : Mem} {Q : D → Mem → Prop} {x y d e : D} {n : Nat}
theorem g_eqF (hx : Fz M x d) (hy : Fz M y e) (n : Nat) (hn : n ≤ 64) (cx : Cm n d) (cy : Cm n e) (q1 : d = e → Q (.bl true) M) (q2 : d ≠ e → Q (.bl false) M) : oEq x y M Q := by
  obtain ⟨p, p1, p2, p3⟩ := toPy_of n d cx.b
  obtain ⟨q, r1, r2, r3⟩ := toPy_of n e cy.b
  have h := eqv_iff n d e p q cx cy p1 r1
  have fin : Q (.bl (PyData.eqv p q)) M := by
    cases b : PyData.eqv p q with
    | true => exact q1 (h.mp b)
    | false => exact q2 fun z => by rw [h.mpr z] at b; exact nomatch b
  have sh : ∀ {t : PyData}, t.canLay0 = true → t.depth ≤ n → SeqAt.shaped t = true := fun a b => Bool.and_eq_true_iff.mpr ⟨a, decide_eq_true (Nat.le_trans b hn)⟩
  unfold oEq
  split
  · rename_i i j
    rcases hx with rfl | ⟨xs, hx | ⟨a, hx, _⟩, _⟩ <;> first | exact nomatch hx | skip
    rcases hy with rfl | ⟨xs, hy | ⟨a, hy, _⟩, _⟩ <;> first | exact nomatch hy | skip
    by_cases z : i = j
    · simp only [z, decide_true]; exact q1 (by rw [z])
    · simp only [z, decide_false]; exact q2 fun c => z (by cases c; rfl)
  · rename_i i j
    rcases hx with rfl | ⟨xs, hx | ⟨a, hx, _⟩, _⟩ <;> first | exact nomatch hx | skip
    rcases hy with rfl | ⟨xs, hy | ⟨a, hy, _⟩, _⟩ <;> first | exact nomatch hy | skip
    by_cases z : i = j
    · simp only [z, decide_true]; exact q1 (by rw [z])
    · simp only [z, decide_false]; exact q2 fun c => z (by cases c; rfl)
  · exact .inr ⟨p, q, hx.py (n := n) p1, hy.py (n := n) r1, sh p2 p3, sh r2 r3, fin⟩
theorem g_neF (hx : Fz M x d) (hy : Fz M y e) (n : Nat) (hn : n ≤ 64) (cx : Cm n d) (cy : Cm n e) (q1 : d = e → Q (.bl false) M) (q2 : d ≠ e → Q (.bl true) M) : oNe x y M Q := by
  obtain ⟨p, p1, p2, p3⟩ := toPy_of n d cx.b
  obtain ⟨q, r1, r2, r3⟩ := toPy_of n e cy.b
  have h := eqv_iff n d e p q cx cy p1 r1
  have fin : Q (.bl (!PyData.eqv p q)) M := by
    cases b : PyData.eqv p q with
    | true => exact q1 (h.mp b)
    | false => exact q2 fun z => by rw [h.mpr z] at b; exact nomatch b
  have sh : ∀ {t : PyData}, t.canLay0 = true → t.depth ≤ n → SeqAt.shaped t = true := fun a b => Bool.and_eq_true_iff.mpr ⟨a, decide_eq_true (Nat.le_trans b hn)⟩
  unfold oNe
  split
  · rename_i i j
    rcases hx with rfl | ⟨xs, hx | ⟨a, hx, _⟩, _⟩ <;> first | exact nomatch hx | skip
    rcases hy with rfl | ⟨xs, hy | ⟨a, hy, _⟩, _⟩ <;> first | exact nomatch hy | skip
    by_cases z : i = j
    · simp only [z, decide_true]; exact q1 (by rw [z])
    · simp only [z, decide_false]; exact q2 fun c => z (by cases c; rfl)
  · rename_i i j
    rcases hx with rfl | ⟨xs, hx | ⟨a, hx, _⟩, _⟩ <;> first | exact nomatch hx | skip
    rcases hy with rfl | ⟨xs, hy | ⟨a, hy, _⟩, _⟩ <;> first | exact nomatch hy | skip
    by_cases z : i = j
    · simp only [z, decide_true]; exact q1 (by rw [z])
    · simp only [z, decide_false]; exact q2 fun c => z (by cases c; rfl)
  · exact .inr ⟨p, q, hx.py (n := n) p1, hy.py (n := n) r1, sh p2 p3, sh r2 r3, fin⟩
theorem g_eqC (n : Nat) (hn : n ≤ 64) (cx : Cm n x) (cy : Cm n y) (q1 : x = y → Q (.bl true) M) (q2 : x ≠ y → Q (.bl false) M) : oEq x y M Q := g_eqF .s .s n hn cx cy q1 q2
theorem g_neC (n : Nat) (hn : n ≤ 64) (cx : Cm n x) (cy : Cm n y) (q1 : x = y → Q (.bl false) M) (q2 : x ≠ y → Q (.bl true) M) : oNe x y M Q := g_neF .s .s n hn cx cy q1 q2
theorem g_eqSame (n : Nat) (hn : n ≤ 64) (cx : Cm n x) (q : Q (.bl true) M) : oEq x x M Q := g_eqC n hn cx cx (fun _ => q) fun h => absurd rfl h
theorem g_neSame (n : Nat) (hn : n ≤ 64) (cx : Cm n x) (q : Q (.bl false) M) : oNe x x M Q := g_neC n hn cx cx (fun _ => q) fun h => absurd rfl h
end
theorem Cm.int {n : Nat} {i : Int} : Cm n (.int i) := by cases n <;> exact trivial
theorem Cm.non {n : Nat} : Cm n .non := by cases n <;> exact trivial
theorem Cm.ints {n : Nat} {is : List Int} : Cm (n + 1) (.lst (is.map D.int)) := fun x h => by
  obtain ⟨i, _, rfl⟩ := List.mem_map.mp h
  exact .int
theorem Cm.intsT {n : Nat} {is : List Int} : Cm (n + 1) (.tup (is.map D.int)) := fun x h => by
  obtain ⟨i, _, rfl⟩ := List.mem_map.mp h
  exact .int
theorem Cm.tup2 {n : Nat} {x y : D} (hx : Cm n x) (hy : Cm n y) : Cm (n + 1) (.tup [x, y]) := fun z h => by
  rcases List.mem_cons.mp h with rfl | h
  · exact hx
  · rcases List.mem_cons.mp h with rfl | h
    · exact hy
    · exact nomatch h
/-! ### a stop on the way: what holds behind a statement -/
def dCut (t : DTS) : DTS := fun Y τ M => ∃ I : DSt → Mem → Prop, t ⟨fun τ' M' => ∃ N, Sub N M' ∧ I τ' N, Y.rt, Y.bk, Y.ct⟩ τ M ∧ ∀ τ' M', I τ' M' → Y.nx τ' M'
def dMid (t : DTE) : DTE := fun τ M Q => ∃ P : D → Mem → Prop, t τ M P ∧ ∀ d M', P d M' → Q d M'
theorem ds_cut {X : Cx} {st : Stmt} {t : DTS} (h : DS X st t) : DS X st (dCut t) := psI h fun Z σ H ⟨τ, M, F, Y, s, k, I, q, i⟩ =>
  ⟨τ, M, F, ⟨fun τ' M' => ∃ N, Sub N M' ∧ I τ' N, Y.rt, Y.bk, Y.ct⟩, s, ⟨fun σ H' τ M' tt ss ⟨N, sb, j⟩ => k.nx σ H' τ N (tt.trans (To.sub tt.ok sb)) (ss.mono (To.sub tt.ok sb).ex) (i τ N j), k.bk, k.ct, k.rt⟩, q⟩
theorem de_mid {X : Cx} {e : Expr} {t : DTE} (h : DE X e t) : DE X e (dMid t) := peI h fun σ H Q ⟨τ, M, F, P, s, ⟨P', q, i⟩, k⟩ => ⟨τ, M, F, P', s, q, fun d M' v H' p => k d M' v H' (i d M' p)⟩
theorem g_cut {t : DTS} {nx rt bk ct} {τ : DSt} {M : Mem} (I : DSt → Mem → Prop) (q : t ⟨fun τ' M' => ∃ N, Sub N M' ∧ I τ' N, rt, bk, ct⟩ τ M) (i : ∀ τ' M', I τ' M' → nx τ' M') : dCut t ⟨nx, rt, bk, ct⟩ τ M := ⟨I, q, i⟩
theorem g_mid {t : DTE} {τ : DSt} {M : Mem} {Q : D → Mem → Prop} (P : D → Mem → Prop) (q : t τ M P) (i : ∀ d M', P d M' → Q d M') : dMid t τ M Q := ⟨P, q, i⟩
theorem c_same {I : DSt → Mem → Prop} {τ : DSt} {M : Mem} (h : I τ M) : ∃ N, Sub N M ∧ I τ N := ⟨M, Sub.refl M, h⟩
end DL

set_option Elab.async false
set_option linter.all false
set_option maxRecDepth 100000
set_option maxHeartbeats 2000000
namespace DL
open PySem L2 PySem.Spec
/-! ### dicts with keys ints or texts -/
def kD : Key → D
  | .inl i => .int i
  | .inr x => .str x
def valD (kvs : List (Key × D)) (k : Key) : Option D := (kvs.find? fun kv => decide (kv.1 = k)).map (·.2)
def putD (kvs : List (Key × D)) (k : Key) (v : D) : List (Key × D) :=
  if (kvs.any fun kv => decide (kv.1 = k)) = true then kvs.map (fun kv => if kv.1 = k then (kv.1, v) else kv) else kvs ++ [(k, v)]
def Rdd (M : Mem) (d : D) (kvs : List (Key × D)) : Prop := d = .dic kvs ∨ ∃ a, d = .ref a ∧ M a = some (.dic kvs)
theorem Rdd.r {M : Mem} {a : Addr} {kvs : List (Key × D)} (h : M a = some (.dic kvs)) : Rdd M (.ref a) kvs := .inr ⟨a, rfl, h⟩
theorem Rdd.d {M : Mem} {kvs : List (Key × D)} : Rdd M (.dic kvs) kvs := .inl rfl
section
variable {K : PySem.W.Frag} {S : Hp} {F : Fr} {H H' : Hp} {M M' : Mem} {d : D} {v : V} {xs : List D}
theorem IsK.val : ∀ {vs : List (Key × V)} {ds : List (Key × D)} (k : Key), IsK K S vs ds → (∀ d, valD ds k = some d → ∃ v, valV vs k = some v ∧ Is K S v d) ∧ (valD ds k = none → valV vs k = none)
  | _, _, k, .nil => ⟨fun _ e => (nomatch e), fun _ => rfl⟩
  | _, _, k, @IsK.cons _ _ y v e vs ds h r => by
    obtain ⟨h1, h2⟩ := IsK.val k r
    by_cases z : y = k
    · refine ⟨fun d q => ?_, fun q => ?_⟩
      · simp [valD, z] at q
        subst q
        exact ⟨v, by rw [valV_pos z], h⟩
      · simp [valD, z] at q
    · have e1 : valD ((y, e) :: ds) k = valD ds k := by simp [valD, z]
      rw [e1, valV_neg (p := (y, v)) z]
      exact ⟨h1, h2⟩
theorem IsK.isSome {vs : List (Key × V)} {ds : List (Key × D)} (k : Key) (r : IsK K S vs ds) : (valV vs k).isSome = (valD ds k).isSome := by
  obtain ⟨h1, h2⟩ := IsK.val k r
  cases e : valD ds k with
  | none => rw [h2 e]; rfl
  | some d => obtain ⟨v, e2, _⟩ := h1 d e; rw [e2]; rfl
theorem IsK.len : ∀ {vs : List (Key × V)} {ds : List (Key × D)}, IsK K S vs ds → vs.length = ds.length
  | _, _, .nil => rfl
  | _, _, .cons _ r => by rw [List.length_cons, List.length_cons, IsK.len r]
theorem IsK.keys : ∀ {vs : List (Key × V)} {ds : List (Key × D)}, IsK K S vs ds → vs.map (·.1) = ds.map (·.1)
  | _, _, .nil => rfl
  | _, _, .cons _ r => by rw [List.map_cons, List.map_cons, IsK.keys r]
theorem IsK.any {k : Key} : ∀ {vs : List (Key × V)} {ds : List (Key × D)}, IsK K S vs ds → (vs.any fun kv => decide (kv.1 = k)) = ds.any fun kv => decide (kv.1 = k)
  | _, _, .nil => rfl
  | _, _, .cons _ r => by rw [List.any_cons, List.any_cons, IsK.any r]
theorem IsK.append : ∀ {vs ws : List (Key × V)} {ds es : List (Key × D)}, IsK K S vs ds → IsK K S ws es → IsK K S (vs ++ ws) (ds ++ es)
  | _, _, _, _, .nil, s => s
  | _, _, _, _, .cons h r, s => .cons h (IsK.append r s)
theorem IsK.rep {k : Key} (h : Is K S v d) : ∀ {vs : List (Key × V)} {ds : List (Key × D)}, IsK K S vs ds → IsK K S (vs.map fun kv => if kv.1 = k then (kv.1, v) else kv) (ds.map fun kv => if kv.1 = k then (kv.1, d) else kv)
  | _, _, .nil => .nil
  | _, _, @IsK.cons _ _ y w e vs ds q r => by
    rw [List.map_cons, List.map_cons]
    by_cases z : y = k
    · simp only [z, if_true]
      exact .cons h (IsK.rep h r)
    · simp only [z, if_false]
      exact .cons q (IsK.rep h r)
theorem IsK.put {k : Key} (h : Is K S v d) {vs : List (Key × V)} {ds : List (Key × D)} (r : IsK K S vs ds) : IsK K S (putK vs k v) (putD ds k d) := by
  unfold putK putD
  rw [r.any]
  split
  · exact r.rep h
  · exact r.append (.cons h .nil)
theorem Rdd.get {kvs : List (Key × D)} (h : Rdd M d kvs) (o : Ok K F H M) (r : Is K (stab H M F) v d) : ∃ a vs, v = .ref a ∧ H a = some (.dK vs) ∧ IsK K (stab H M F) vs kvs := by
  rcases h with h | ⟨a, h, h1⟩
  · subst h; cases r with | dic h1 h2 => exact ⟨_, _, rfl, stab_le _ _ h1, h2⟩
  · subst h; cases r
    obtain ⟨vs, h2, h3⟩ := o.mem _ _ h1
    exact ⟨a, vs, rfl, h2, h3⟩
theorem key_inv {k : Key} (r : Is K S v (kD k)) : v = kV k := by
  cases k with
  | inl i => exact r.int_inv
  | inr x => cases r; rfl
end
def dNewD : DTE := fun _ M Q => ∀ p, M p = none → Q (.ref p) (M.put p (.dic []))
def dDGet (td ty : DTE) : DTE := fun τ M Q => td τ M fun x M1 => ty τ M1 fun y M2 => ∃ kvs k v, Rdd M2 x kvs ∧ y = kD k ∧ valD kvs k = some v ∧ Q v M2
def dDIn (ty td : DTE) : DTE := fun τ M Q => ty τ M fun y M1 => td τ M1 fun x M2 => ∃ kvs k, Rdd M2 x kvs ∧ y = kD k ∧ Q (.bl (valD kvs k).isSome) M2
def dDNotIn (ty td : DTE) : DTE := fun τ M Q => ty τ M fun y M1 => td τ M1 fun x M2 => ∃ kvs k, Rdd M2 x kvs ∧ y = kD k ∧ Q (.bl (!(valD kvs k).isSome)) M2
def dDPut (td ty tv : DTE) : DTS := fun Y τ M => tv τ M fun v M1 => td τ M1 fun x M2 => ty τ M2 fun y M3 => ∃ a kvs k, x = .ref a ∧ M3 a = some (.dic kvs) ∧ y = kD k ∧ kvs.length < sizeLine ∧ Y.nx τ (M3.put a (.dic (putD kvs k v)))
def dDGet1 (td ty : DTE) : DTE := fun τ M Q => td τ M fun x M1 => (∃ kvs, Rdd M1 x kvs) ∧ ty τ M1 fun y M2 => ∃ kvs k, Rdd M2 x kvs ∧ y = kD k ∧ Q ((valD kvs k).getD .non) M2
def dDGet2 (td ty tz : DTE) : DTE := fun τ M Q => td τ M fun x M1 => (∃ kvs, Rdd M1 x kvs) ∧ ty τ M1 fun y M2 => tz τ M2 fun z M3 => ∃ kvs k, Rdd M3 x kvs ∧ y = kD k ∧ Q ((valD kvs k).getD z) M3
section
variable {X : Cx} {o i e f value : Expr} {pos pos' apos cpos : Pos} {td ty tv tz : DTE}
theorem de_dnew : DE X (.Dict [] [] pos) dNewD := peI pe_dnewK fun σ H Q ⟨τ, M, F, P, s, q, k⟩ p hp => by
  have t := To.newM s.ok hp (u := .dK []) (m := .dic []) ⟨[], upd_same, .nil⟩
  exact k _ _ _ _ (q p (s.ok.free hp).1) t (.ref p)
theorem de_dget (hu : X.A.units + 1 < cLine) (ho : DE X o td) (hi : DE X i ty) (hs : NoSl i := by intro _ _; rfl) : DE X (.Subscript o i pos) (dDGet td ty) := peI (pe_dget hu ho hi hs) fun σ H Q ⟨τ, M, F, P, s, q, k⟩ =>
  ⟨τ, M, F, _, s, q, fun x M1 vx H1 q1 t1 r1 => ⟨τ, M1, F, _, s.to t1, q1, fun y M2 vy H2 ⟨kvs, ky, d, h1, h2, h3, q2⟩ t2 r2 => by
    subst h2
    obtain ⟨a, vs, e1, e2, e3⟩ := h1.get t2.ok (r1.mono t2.ex)
    subst e1
    obtain ⟨v, e4, r4⟩ := (e3.val ky).1 d h3
    have := key_inv r2
    subst this
    exact ⟨a, v, rfl, by rw [← e4]; exact DGet.k e2, k d M2 v H2 q2 (t1.trans t2) r4⟩⟩⟩
theorem dc_in (hu : X.A.units + 1 < cLine) (hi : DE X i ty) (ho : DE X o td) : PC X .In i o (liE X.K (dDIn ty td)) := ⟨fun pins s σ H Q I h => (pc_din hu hi ho).run pins s σ H Q I (by
  obtain ⟨τ, M, F, P, s', q, k⟩ := h
  exact ⟨τ, M, F, _, s', q, fun y M1 vy H1 q1 t1 r1 => ⟨τ, M1, F, _, s'.to t1, q1, fun x M2 vx H2 ⟨kvs, ky, h1, h2, q2⟩ t2 r2 => by
    subst h2
    obtain ⟨a, vs, e1, e2, e3⟩ := h1.get t2.ok r2
    subst e1
    have := key_inv r1
    subst this
    exact ⟨a, valV vs ky, rfl, DGet.k e2, k _ M2 _ H2 q2 (t1.trans t2) (by rw [e3.isSome]; exact .bl _)⟩⟩⟩)⟩
theorem dc_notin (hu : X.A.units + 1 < cLine) (hi : DE X i ty) (ho : DE X o td) : PC X .NotIn i o (liE X.K (dDNotIn ty td)) := ⟨fun pins s σ H Q I h => (pc_dnotin hu hi ho).run pins s σ H Q I (by
  obtain ⟨τ, M, F, P, s', q, k⟩ := h
  exact ⟨τ, M, F, _, s', q, fun y M1 vy H1 q1 t1 r1 => ⟨τ, M1, F, _, s'.to t1, q1, fun x M2 vx H2 ⟨kvs, ky, h1, h2, q2⟩ t2 r2 => by
    subst h2
    obtain ⟨a, vs, e1, e2, e3⟩ := h1.get t2.ok r2
    subst e1
    have := key_inv r1
    subst this
    exact ⟨a, valV vs ky, rfl, DGet.k e2, k _ M2 _ H2 q2 (t1.trans t2) (by rw [e3.isSome]; exact .bl _)⟩⟩⟩)⟩
theorem de_pc {op : CmpOp} {t : DTE} {a b : Expr} (h : PC X op a b (liE X.K t)) (h1 : behindInMarks op b = false := by rfl) : DE X (.Compare a [op] [b] pos) t := pe_cmp h h1
theorem dt_pc {op : CmpOp} {t : DTE} {a b : Expr} (h : PC X op a b (liE X.K t)) (h1 : behindInMarks op b = false := by rfl) : DT X (.Compare a [op] [b] pos) (dTst t) := ptI (pt_cmp h h1) fun σ H Q ⟨τ, M, F, P, s, q, k⟩ =>
  ⟨τ, M, F, _, s, q, fun d M' v H' ⟨c, e, p⟩ t r => by subst e; exact ⟨c, r.bl_inv, k c M' H' p t⟩⟩
theorem ds_dput (hu : X.A.units + 1 < cLine) (ho : DE X o td) (hi : DE X i ty) (hv : DE X value tv) (hs : swapsWith value (some (.Subscript o i pos')) pos.line X.env = pure false) : DS X (.Assign [.Subscript o i pos'] value pos) (dDPut td ty tv) :=
  psI (ps_dput hu ho hi hv hs) fun Z σ H ⟨τ, M, F, Y, s, k, q⟩ => ⟨τ, M, F, _, s, q, fun v M1 vv H1 q1 t1 r1 => ⟨τ, M1, F, _, s.to t1, q1, fun x M2 vx H2 q2 t2 r2 => ⟨τ, M2, F, _, (s.to t1).to t2, q2, fun y M3 vy H3 ⟨a, kvs, ky, e1, e2, e3, hl, q3⟩ t3 r3 => by
    subst e1; subst e3
    have hy := key_inv r3
    subst hy
    have hx : vx = .ref a := by cases r2; rfl
    subst hx
    obtain ⟨vs, e4, e5⟩ := t3.ok.mem _ _ e2
    have rv := r1.mono (t2.trans t3).ex
    have t4 := To.set (u := .dK (putK vs ky vv)) (m := .dic (putD kvs ky v)) t3.ok e2 ⟨_, upd_same, e5.put rv⟩
    have tt := ((t1.trans t2).trans t3).trans t4
    exact ⟨a, _, rfl, DPut.k e4 (by rw [e5.len]; exact hl), k.nx σ _ τ _ tt (s.to tt).sl q3⟩⟩⟩⟩
theorem isD_of {K : PySem.W.Frag} {F : Fr} {H : Hp} {M : Mem} {x : D} {v : V} {kvs : List (Key × D)} (h : Rdd M x kvs) (o : Ok K F H M) (r : Is K (stab H M F) v x) : ∃ a, v = .ref a ∧ IsD H a := by
  obtain ⟨a, vs, e1, e2, e3⟩ := h.get o r
  exact ⟨a, e1, .inl ⟨vs, .inl e2⟩⟩
theorem getD_is {K : PySem.W.Frag} {S : Hp} {vs : List (Key × V)} {ds : List (Key × D)} {k : Key} {w : V} {z : D} (r : IsK K S vs ds) (h : Is K S w z) : Is K S ((valV vs k).getD w) ((valD ds k).getD z) := by
  obtain ⟨h1, h2⟩ := IsK.val k r
  cases e : valD ds k with
  | none => rw [h2 e]; exact h
  | some d => obtain ⟨v, e2, r2⟩ := h1 d e; rw [e2]; exact r2
theorem de_dget1 (hu : X.A.units + 1 < cLine) (ho : DE X o td) (he : DE X e ty) (m : M1 X o "get" apos e cpos := by exact ⟨rfl, rfl, rfl, rfl⟩) : DE X (.Call (.Attribute o "get" apos) [e] [] cpos) (dDGet1 td ty) := peI (pe_dget1 hu ho he m) fun σ H Q ⟨τ, M, F, P, s, q, k⟩ =>
  ⟨τ, M, F, _, s, q, fun x M1 vx H1 ⟨⟨kvs0, h0⟩, q1⟩ t1 r1 => by
    obtain ⟨a, e1, hd⟩ := isD_of h0 t1.ok r1
    subst e1
    refine ⟨a, rfl, hd, τ, M1, F, _, s.to t1, q1, fun y M2 vy H2 ⟨kvs, ky, h1, h2, q2⟩ t2 r2 => ?_⟩
    subst h2
    obtain ⟨b, vs, e1, e2, e3⟩ := h1.get t2.ok (r1.mono t2.ex)
    cases e1
    have := key_inv r2
    subst this
    exact ⟨_, DGet.k e2, k _ M2 _ H2 q2 (t1.trans t2) (getD_is e3 .non)⟩⟩
theorem de_dget2 (hu : X.A.units + 1 < cLine) (ho : DE X o td) (he : DE X e ty) (hf : DE X f tz) (m : M2 X o "get" apos e f cpos := by exact ⟨rfl, rfl, rfl, rfl⟩) : DE X (.Call (.Attribute o "get" apos) [e, f] [] cpos) (dDGet2 td ty tz) := peI (pe_dget2 hu ho he hf m) fun σ H Q ⟨τ, M, F, P, s, q, k⟩ =>
  ⟨τ, M, F, _, s, q, fun x M1 vx H1 ⟨⟨kvs0, h0⟩, q1⟩ t1 r1 => by
    obtain ⟨a, e1, hd⟩ := isD_of h0 t1.ok r1
    subst e1
    refine ⟨a, rfl, hd, τ, M1, F, _, s.to t1, q1, fun y M2 vy H2 q2 t2 r2 => ⟨τ, M2, F, _, (s.to t1).to t2, q2, fun z M3 vz H3 ⟨kvs, ky, h1, h2, q3⟩ t3 r3 => ?_⟩⟩
    subst h2
    obtain ⟨b, vs, e1, e2, e3⟩ := h1.get t3.ok (r1.mono (t2.trans t3).ex)
    cases e1
    have := key_inv r2
    subst this
    exact ⟨_, DGet.k e2, k _ M3 _ H3 q3 ((t1.trans t2).trans t3) (getD_is e3 r3)⟩⟩
/-- len(d), list(d) -/
def bLenK : DCl := fun ds M Q => ∃ d kvs, ds = [d] ∧ Rdd M d kvs ∧ Q (.int (kvs.length : Nat)) M
theorem cd_lenD : CallR X (.builtin "len") (liC X.K bLenK) := crI call_lenD fun vs H Q ⟨ds, M, F, P, o, r, ⟨d, kvs, e, h, q⟩, k⟩ => by
  subst e
  obtain ⟨v, rfl, rv⟩ := r.one_inv
  obtain ⟨a, ws, e1, e2, e3⟩ := h.get o rv
  subst e1
  exact ⟨a, ws, rfl, e2, by rw [e3.len]; exact k _ M _ H q (To.refl o) (.int _)⟩
def bListK : DCl := fun ds M Q => ∃ d kvs, ds = [d] ∧ Rdd M d kvs ∧ NewL (kvs.map fun kv => kD kv.1) M Q
theorem isL_keys {K : PySem.W.Frag} {S : Hp} : ∀ {vs : List (Key × V)} {ds : List (Key × D)}, IsK K S vs ds → IsL K S (vs.map fun kv => kV kv.1) (ds.map fun kv => kD kv.1)
  | _, _, .nil => .nil
  | _, _, @IsK.cons _ _ y v e vs ds h r => .cons (by cases y <;> constructor) (isL_keys r)
theorem cd_listD (hc : X.calm = true) : CallR X (.type "list") (liC X.K bListK) := crI (call_listD hc) fun vs H Q ⟨ds, M, F, P, o, r, ⟨d, kvs, e, h, q⟩, k⟩ => by
  subst e
  obtain ⟨v, rfl, rv⟩ := r.one_inv
  obtain ⟨a, ws, e1, e2, e3⟩ := h.get o rv
  subst e1
  exact ⟨a, ws, rfl, .inl e2, fun p hp => q.ok o hp (isL_keys e3) k⟩
end
/-! ### {k: v for ..} -/
def NewK (kvs : List (Key × D)) (M : Mem) (Q : D → Mem → Prop) : Prop := Q (.dic kvs) M ∨ ∀ p, M p = none → Q (.ref p) (M.put p (.dic kvs))
def dcGo (g : DTG) (tt : DTT) (tk tv : DTE) (stay : Mem → Prop) (τ : DSt) : List D → List (Key × D) → Mem → (List (Key × D) → Mem → Prop) → Prop
  | [], acc, M, Q => Q acc M
  | x :: xs, acc, M, Q => g x τ M fun τ2 _ => tt τ2 M fun b M3 => if b = true then tk τ2 M3 fun y M4 => tv τ2 M4 fun z M5 => ∃ k, y = kD k ∧ acc.length < sizeLine ∧ stay M5 ∧ dcGo g tt tk tv stay τ xs (putD acc k z) M5 Q else stay M3 ∧ dcGo g tt tk tv stay τ xs acc M3 Q
def dDc (wi : DTI) (p : Pat) (tt : DTT) (tk tv : DTE) (vs : List Nat) : DTE := fun τ M Q => wi τ M fun W M1 => p.within vs ∧ dcGo p.d tt tk tv W.stay (wipD τ vs) W.items [] M1 fun ys M2 => NewK ys M2 Q
theorem liDc {K : PySem.W.Frag} {wi : DTI} {p : Pat} {tt : DTT} {tk tv : DTE} {vs : List Nat} (σ : St) (H : Hp) (Q : VK) (h : liE K (dDc wi p tt tk tv vs) σ H Q) : tDc (liI K wi) (p.h K) (liT K tt) (liE K tk) (liE K tv) vs σ H Q := by
  obtain ⟨τ, M, F, P, s, q, k⟩ := h
  refine ⟨τ, M, F, _, s, q, fun W M1 J H1 ⟨pw, go⟩ t1 ad => fun A hA => ?_⟩
  obtain ⟨m0, f0⟩ := t1.ok.free hA
  have o1 : Ok K (hidF F A) (upd H1 A (.dK [])) M1 := t1.ok.hide hA
  have st1 : stab (upd H1 A (.dK [])) M1 (hidF F A) = stab H1 M1 F := stab_hid m0 hA
  refine ⟨fun i m H' => ∃ av acc M', m = W.items.length - i ∧ i ≤ W.items.length ∧ To K (hidF F A) (upd H1 A (.dK [])) M1 (upd H' A (.dK [])) M' ∧ H' A = some (.dK av) ∧ IsK K (stab H' M' (hidF F A)) av acc ∧ W.stay M' ∧
    dcGo p.d tt tk tv W.stay (wipD τ vs) (W.items.drop i) acc M' (fun ys M2 => NewK ys M2 P), ⟨_, [], [], M1, rfl, Nat.zero_le _, ?_, upd_same, .nil, ad.now, go⟩, ?_⟩
  · rw [upd_upd]; exact To.refl o1
  have hA' : hidF F A A = true := hidF_eq.mpr (.inr rfl)
  rintro i m H' ⟨av, acc, M', rfl, hi, t2, ha, hr, st, go⟩
  -- the state as it is
  have o2 : Ok K (hidF F A) H' M' := by
    have := t2.ok.hset (p := A) (u := .dK av) hA'
    rw [upd_upd] at this
    have e : upd H' A (.dK av) = H' := by funext b; unfold upd; split <;> simp_all
    rwa [e] at this
  have ex2 : Ex (stab H1 M1 F) (stab H' M' (hidF F A)) := by
    have := t2.ex
    rw [st1, stab_hset hA'] at this
    exact this
  have fr2 : ∀ a, F a = true → H' a = H1 a := fun a q => by
    have z : a ≠ A := fun z => by rw [z, f0] at q; cases q
    have := t2.fr a (hidF_eq.mpr (.inl q))
    rwa [upd_ne z, upd_ne z] at this
  rcases Nat.lt_or_ge i W.items.length with hlt | hge
  · refine .inr ⟨ad.go i _ H' M' o2 ex2 st hlt, fun H3 => ∃ av acc M3, To K (hidF F A) (upd H1 A (.dK [])) M1 (upd H3 A (.dK [])) M3 ∧ H3 A = some (.dK av) ∧ IsK K (stab H3 M3 (hidF F A)) av acc ∧ W.stay M3 ∧ dcGo p.d tt tk tv W.stay (wipD τ vs) (W.items.drop (i + 1)) acc M3 (fun ys M2 => NewK ys M2 P),
      fun H3 ⟨av, acc, M3, a, b, c, d, e⟩ => ⟨W.items.length - (i + 1), by omega, av, acc, M3, rfl, hlt, a, b, c, d, e⟩, fun x H2 y => ?_⟩
    obtain ⟨t3, d, hd, rd⟩ := ad.yld i _ H' M' x H2 o2 ex2 st hlt y
    have ed : W.items.drop i = d :: W.items.drop (i + 1) := by
      obtain ⟨hh, e⟩ := List.getElem?_eq_some_iff.mp hd
      rw [List.drop_eq_getElem_cons hh, e]
    rw [ed] at go
    have s3 : IsS K (stab H2 M' (hidF F A)) (wipe σ vs) (wipD τ vs) := ((s.to t1).sl.mono (ex2.trans t3.ex)).wip vs
    have toA : ∀ H3 M3, To K (hidF F A) H' M' H3 M3 → To K (hidF F A) (upd H1 A (.dK [])) M1 (upd H3 A (.dK [])) M3 := fun H3 M3 t => by
      refine t2.trans ⟨t.ok.hset hA', ?_, fun a q => ?_⟩
      · rw [stab_hset hA', stab_hset hA']; exact t.ex
      · by_cases z : a = A
        · rw [z, upd_same, upd_same]
        · rw [upd_ne z, upd_ne z]; exact t.fr a q
    refine Pat.ok pw s3 rd go fun τ2 σ2 q2 s2 w2 => ⟨w2, τ2, M', hidF F A, _, ⟨t3.ok, s2⟩, q2, fun b M3 H3 q3 t4 => ?_⟩
    have t5 := t3.trans t4
    have ha3 : H3 A = some (.dK av) := by rw [t5.fr A hA']; exact ha
    cases b with
    | true =>
      refine ⟨τ2, M3, hidF F A, _, ⟨t4.ok, s2.mono t4.ex⟩, q3, fun y M4 yv H4 q4 t6 ry => ⟨τ2, M4, hidF F A, _, ⟨t6.ok, (s2.mono t4.ex).mono t6.ex⟩, q4, fun z M5 zv H5 ⟨ky, ey, hz, st5, go5⟩ t8 rz => ?_⟩⟩
      subst ey
      have t7 := (t5.trans t6).trans t8
      have ha5 : H5 A = some (.dK av) := by rw [t7.fr A hA']; exact ha
      refine ⟨av, ky, key_inv ry, ha5, by rw [hr.len]; exact hz, putK av ky zv, putD acc ky z, M5, ?_, upd_same, ?_, st5, go5⟩
      · rw [upd_upd]; exact toA H5 M5 t7
      · rw [stab_hset hA']
        exact (hr.mono t7.ex).put rz
    | false => exact ⟨av, acc, M3, toA H3 M3 t5, ha3, hr.mono t5.ex, q3.1, q3.2⟩
  · have e : i = W.items.length := Nat.le_antisymm hi hge
    subst e
    refine .inl ⟨ad.stop _ H' M' o2 ex2 st, ?_⟩
    rw [List.drop_eq_nil_of_le (Nat.le_refl _)] at go
    have tf : To K F H1 M1 H' M' := ⟨o2.unhide, ex2.trans stab_show, fr2⟩
    rcases go with q | q
    · refine k _ M' _ H' q (t1.trans tf) (.dic (vs := av) ?_ (hr.mono stab_show))
      exact stab_eq.mpr ⟨(o2.hid A hA').1, f0, ha⟩
    · obtain ⟨o5, e5⟩ := o2.unhideM (m := .dic acc) f0 ⟨av, ha, hr⟩
      refine k _ _ _ H' (q A (o2.hid A hA').1) (t1.trans ⟨o5, ?_, fr2⟩) (.ref A)
      rw [e5]; exact ex2
section
variable {X : Cx}
theorem de_dc {kx vx tg iter : Expr} {ifs : List Expr} {scope : Scope} {own : List (Str × Nat)} {pos : Pos} {wi : DTI} {p : Pat} {tt : DTT} {tk tv : DTE} (hc : X.calm = true) (hN : X.N.Nodup) (hi : DI X tg iter wi) (ok : BlkOk X.N X.env.scope scope own)
    (hg : ∀ (s : Shared) (H : Hp) (C : Addr) (cl : List (Str × Addr)) (fp : List Addr), PG (X.blk s H scope (compEnvC scope cl C X.env) fp) tg (p.h X.K)) (ht : ∀ (s : Shared) (H : Hp) (C : Addr) (cl : List (Str × Addr)) (fp : List Addr), PTs (X.blk s H scope (compEnvC scope cl C X.env) fp) ifs (liT X.K tt))
    (hk : ∀ (s : Shared) (H : Hp) (C : Addr) (cl : List (Str × Addr)) (fp : List Addr), DE (X.blk s H scope (compEnvC scope cl C X.env) fp) kx tk)
    (he : ∀ (s : Shared) (H : Hp) (C : Addr) (cl : List (Str × Addr)) (fp : List Addr), DE (X.blk s H scope (compEnvC scope cl C X.env) fp) vx tv) (hs : ∀ x, foldedSetIterable iter X.env x = pure x := by intro _; rfl) :
    DE X (.DictComp kx vx [⟨tg, iter, ifs, 0⟩] scope pos) (dDc wi p tt tk tv (own.map (·.2))) := peI (pe_dc hc hN hi ok hg ht hk he hs) liDc
end
end DL

set_option Elab.async false
set_option linter.all false
set_option maxRecDepth 100000
set_option maxHeartbeats 2000000
namespace DL
open PySem L2 PySem.Spec PyProof.Rows
/-! ### binary digits as a text -/
def bitsT (n : Nat) : Str := ⟨((Nat.toDigits 2 n).map Char.toNat).toArray⟩
section
open Builtin Builtin.Str Builtin.Int Builtin.Float
abbrev fB : FormatSpec := { align := 62, type := some 98 }
theorem parseB : parseFormatSpec (Str.ofString "b").cps.toList "int" 62 = .ok fB := by rfl
theorem fieldB (n : Nat) : intField' fB (decide ((n : Int) < 0)) [] ((Nat.toDigits 2 n).map Char.toNat) [] 4 = bitsT n := by
  have h0 : decide ((n : Int) < 0) = false := decide_eq_false (by omega)
  have h1 : ((Nat.toDigits 2 n).map Char.toNat).isEmpty = false := by
    have := tDigits_len_ge 2 n
    cases e : Nat.toDigits 2 n with
    | nil => rw [e] at this; simp at this
    | cons a b => rfl
  rw [h0]
  unfold intField'
  simp only [h1, fB, bitsT]
  simp
theorem gives_b (n : Nat) (t u : Tok) : Gives (Builtin.«int.__format__» ⟨[.int (n : Int) t, .str (Str.ofString "b") u], []⟩) (.str (bitsT n)) := by
  intro prog w A R s hq
  unfold Builtin.«int.__format__»
  simp only [selfAndOne, noKeywords, Int.intOfSelf, asInt?, asStr?, List.isEmpty_nil, if_true, pure_bind, bind_pure, bind_assoc]
  rw [if_neg (show ¬ (Value.str (Str.ofString "b") u == Value.none) = true from Bool.false_ne_true)]
  refine wpAny_bind (wpAny_typeNameOf (T := "str") (typeIs_str _ _ _) (by decide) fun _ => ?_)
  rw [if_neg (show ¬ ((Str.ofString "b").length == 0) = true by decide), if_neg (by decide)]
  refine wpAny_bind (wpAny_typeNameOfCut_int ?_)
  rw [parseB]
  show wpAny _ _ (retStr (intField' fB (decide ((n : Int) < 0)) [] ((Nat.toDigits 2 n).map Char.toNat) [] 4)) _ _ _
  rw [fieldB]
  exact (Gives.of_eq (m := .str (bitsT n)) rfl) prog w A R s hq
end
section
variable {X : Cx}
/-- f"{x:b}" of a natural number -/
def tFmtB (te : TE) : TE := fun σ H Q => te σ H fun x H1 => ∃ n : Nat, x = .int (n : Int) ∧ (bitsT n).length ≤ sizeLine ∧ Q (.str (bitsT n)) H1
theorem pe_fmtb {e : Expr} {te : TE} {j : Nat} {p1 p2 p3 p4 : Pos} (he : PE X e te) : PE X (.JoinedStr [.FormattedValue e (-1) (some (.JoinedStr [.Constant (.str (Str.ofString "b")) j p1] p2)) p3] p4) (tFmtB te) := by
  refine ⟨fun pins s σ H Q I h => ?_⟩
  refine wpAny_JoinedStr_one (wpAny_FormattedValue_spec (thn (he.run pins s σ H _ I h) fun v s1 ⟨x, H1, I1, r1, n, ex, hz, q⟩ => ?_))
  subst ex
  obtain ⟨t, rfl⟩ := r1
  refine wpAny_JoinedStr_one (thn ((pe_str (X := X) (x := Str.ofString "b") (j := j) (pos := p1)).run pins s1 σ H1 (fun x H2 => x = .str (Str.ofString "b") ∧ H2 = H1) I1 ⟨rfl, rfl⟩) fun v2 s2 ⟨x2, H2, I2, r2, e2, e3⟩ => ?_)
  subst e2; subst e3
  obtain ⟨t2, rfl⟩ := r2
  refine ⟨_, t2, rfl, ?_⟩
  exact wpAny_formatField_spec (by decide) (fun s' => typeIs_int s' _ t) F.slot_int_format F.entry_int_format F.args_int_format_2 (fun u => gives_b n t u) ⟨.str (bitsT n), H2, I2.tok _, ⟨_, rfl⟩, q⟩ (by decide) hz
end
/-! ### the digits, the last one first -/
def digR (n : Nat) : List Nat := (bitsT n).cps.toList.reverse
theorem toDig_two {n : Nat} (h : 2 ≤ n) : Nat.toDigits 2 n = Nat.toDigits 2 (n / 2) ++ [(n % 2).digitChar] := Nat.toDigits_of_base_le (by decide) h
theorem digR_lt {n : Nat} (h : n < 2) : digR n = [48 + n] := by
  unfold digR bitsT
  rw [Nat.toDigits_of_lt_base h]
  rcases (show n = 0 ∨ n = 1 by omega) with rfl | rfl <;> rfl
theorem digR_ge {n : Nat} (h : 2 ≤ n) : digR n = (48 + n % 2) :: digR (n / 2) := by
  unfold digR bitsT
  rw [toDig_two h]
  rcases (show n % 2 = 0 ∨ n % 2 = 1 by omega) with e | e <;> (rw [e]; simp; rfl)
theorem digR_len : ∀ (k n : Nat), n < 2 ^ k → 0 < k → (digR n).length ≤ k := by
  intro k
  induction k with
  | zero => intro n _ h; omega
  | succ k ih =>
    intro n hn _
    rcases Nat.lt_or_ge n 2 with h | h
    · rw [digR_lt h]; simp
    · rw [digR_ge h, List.length_cons]
      have hk : 0 < k := by
        rcases Nat.eq_zero_or_pos k with e | e
        · subst e; omega
        · exact e
      have := ih (n / 2) (by rw [Nat.pow_succ] at hn; omega) hk
      omega
theorem digR_get : ∀ (i n : Nat) (c : Nat), (digR n)[i]? = some c → c = 48 + (n / 2 ^ i) % 2 := by
  intro i
  induction i with
  | zero =>
    intro n c h
    rcases Nat.lt_or_ge n 2 with h2 | h2
    · rw [digR_lt h2] at h; simp at h; rw [← h, Nat.pow_zero, Nat.div_one, Nat.mod_eq_of_lt h2]
    · rw [digR_ge h2] at h; simp at h; rw [← h, Nat.pow_zero, Nat.div_one]
  | succ i ih =>
    intro n c h
    rcases Nat.lt_or_ge n 2 with h2 | h2
    · rw [digR_lt h2] at h; simp at h
    · rw [digR_ge h2, List.getElem?_cons_succ] at h
      rw [ih (n / 2) c h, Nat.div_div_eq_div_mul, Nat.pow_succ, Nat.mul_comm 2]
theorem digR_top : ∀ (k n : Nat), n < 2 ^ k → n < 2 ^ (digR n).length := by
  intro k
  induction k with
  | zero => intro n h; have : n = 0 := by omega
            subst this; exact Nat.pow_pos (by decide)
  | succ k ih =>
    intro n hn
    rcases Nat.lt_or_ge n 2 with h | h
    · rw [digR_lt h]; simpa using h
    · rw [digR_ge h, List.length_cons, Nat.pow_succ]
      have := ih (n / 2) (by rw [Nat.pow_succ] at hn; omega)
      omega
theorem digR_big (n : Nat) : n < 2 ^ (digR n).length := digR_top n n Nat.lt_two_pow_self
theorem bitsT_len (n : Nat) : (bitsT n).length = (digR n).length := by
  unfold digR
  rw [List.length_reverse]; rfl
/-- the count of the digits 1 -/
def ones (n : Nat) : Nat := (digR n).count 49
theorem ones_lt {n : Nat} (h : n < 2) : ones n = n := by
  unfold ones
  rw [digR_lt h]
  rcases (show n = 0 ∨ n = 1 by omega) with rfl | rfl <;> rfl
theorem ones_step (n : Nat) : ones n = n % 2 + ones (n / 2) := by
  rcases Nat.lt_or_ge n 2 with h | h
  · rw [ones_lt h, ones_lt (show n / 2 < 2 by omega)]; omega
  · conv => lhs; unfold ones
    rw [digR_ge h, List.count_cons]
    show ones (n / 2) + _ = _
    rcases (show n % 2 = 0 ∨ n % 2 = 1 by omega) with e | e <;> (rw [e]; simp; try omega)
theorem cnt_count (c : Nat) : ∀ l : List Nat, cnt c l = ((l.count c : Nat) : Int)
  | [] => rfl
  | n :: r => by
    rw [cnt_cons, cnt_count c r, List.count_cons]
    by_cases h : n = c
    · subst h; simp; omega
    · simp [h]
theorem count_ones (n : Nat) : Txt.count (bitsT n) (Str.ofString "1") = ((ones n : Nat) : Int) := by
  have e : (Str.ofString "1") = ⟨#[49]⟩ := by rfl
  rw [e, count_cnt, cnt_count]
  unfold ones digR
  rw [List.count_reverse]
section
variable {X : Cx} {e : Expr} {te : DTE}
def dFmtB (te : DTE) : DTE := fun τ M Q => te τ M fun x M1 => ∃ n : Nat, x = .int (n : Int) ∧ (bitsT n).length ≤ sizeLine ∧ Q (.str (bitsT n)) M1
theorem de_fmtb {j : Nat} {p1 p2 p3 p4 : Pos} (he : DE X e te) : DE X (.JoinedStr [.FormattedValue e (-1) (some (.JoinedStr [.Constant (.str (Str.ofString "b")) j p1] p2)) p3] p4) (dFmtB te) := peI (pe_fmtb he) fun σ H Q ⟨τ, M, F, P, s, q, k⟩ =>
  ⟨τ, M, F, _, s, q, fun d M1 v H1 ⟨n, ed, hz, q1⟩ t1 r1 => by
    subst ed
    exact ⟨n, r1.int_inv, hz, k _ M1 _ H1 q1 t1 (.str _)⟩⟩
def mCount : DMt := fun x ds M Q => ∃ a b, x = .str a ∧ ds = [.str b] ∧ Q (.int (Txt.count a b)) M
theorem md_count : MtR X "str.count" (liM X.K mCount) := mtRI mt_count fun x vs H Q ⟨dx, ds, M, F, P, o, r1, r2, ⟨a, b, e1, e2, p⟩, k⟩ => by
  subst e1; subst e2
  obtain ⟨v, rfl, rv⟩ := r2.one_inv
  cases r1; cases rv
  exact ⟨a, b, rfl, rfl, k _ M _ H p (To.refl o) (.int _)⟩
/-- x.bit_length() -/
def dBits (to : DTE) : DTE := fun τ M Q => to τ M fun x M1 => ∃ i, x = .int i ∧ Q (.int (Builtin.Int.intBits i : Nat)) M1
theorem de_bits {o : Expr} {to : DTE} {apos pos : Pos} (ho : DE X o to) (hbase : attributeBase o "bit_length" X.env (eval o X.env) = eval o X.env := by rfl) (hline : (apos.endLine == pos.line) = true := by rfl) : DE X (.Call (.Attribute o "bit_length" apos) [] [] pos) (dBits to) := peI (pe_bits ho hbase hline) fun σ H Q ⟨τ, M, F, P, s, q, k⟩ =>
  ⟨τ, M, F, _, s, q, fun d M1 v H1 ⟨i, ed, q1⟩ t1 r1 => by
    subst ed
    exact ⟨i, r1.int_inv, k _ M1 _ H1 q1 t1 (.int _)⟩⟩
end
/-! ### slices -/
theorem revPick (x : Str) : (Builtin.Str.strSliceIndices none none (-1) x.length).filterMap (x.cps[·]?) = x.cps.toList.reverse := by
  show (sliceRange ((x.length : Int) - 1) (-1) (-1)).filterMap (x.cps[·]?) = _
  rw [PySem.W.krv_sliceRange]
  have h := PySem.W.krv_range x.length
  rw [h, List.filterMap_reverse]
  congr 1
  exact PySem.W.krv_all x.cps
def tRevS (te : TE) : TE := fun σ H Q => te σ H fun x H1 => ∃ z, x = .str z ∧ z.length ≤ sizeLine ∧ Q (.str ⟨z.cps.toList.reverse.toArray⟩) H1
theorem pe_revS {X : Cx} {e : Expr} {te : TE} {k : Nat} {p1 p2 p3 pos : Pos} (he : PE X e te) : PE X (.Subscript e (.Slice none none (some (.UnaryOp .USub (.Constant (.int 1) k p1) p2)) p3) pos) (tRevS te) := by
  refine ⟨fun pins s σ H Q I h => Subscript_ (thn (he.run pins s σ H _ I h) fun v s1 ⟨x, H1, I1, r1, z, ex, hz, q⟩ => ?_)⟩
  subst ex
  obtain ⟨t0, rfl⟩ := r1
  have part : PO X (some (.UnaryOp .USub (.Constant (.int 1) k p1) p2)) (tPart (tUn (rU fun i => .int (-i)) (tC (.int 1)))) := po_some (pe_un un_neg pe_int)
  refine wpAny_Slice (thn (po_none.run pins s1 σ H1 (fun a b => a = none ∧ b = H1) I1 ⟨rfl, rfl⟩) fun vl s2 ⟨l, H2, I2, pl, el, e2⟩ => thn (po_none.run pins s2 σ H2 (fun a b => a = none ∧ b = H2) I2 ⟨rfl, rfl⟩) fun vu s3 ⟨u, H3, I3, pu, eu, e3⟩ => ?_)
  subst el e2 eu e3
  refine thn (part.run pins s3 σ H3 (fun a b => a = some (-1) ∧ b = H3) I3 ⟨1, rfl, -1, rfl, rfl, rfl⟩) fun vs s4 ⟨a, H4, I4, ps, eo, e4⟩ => ?_
  subst eo e4
  obtain ⟨l', rfl, hl⟩ := IsPart.raw pl
  obtain ⟨u', rfl, hu⟩ := IsPart.raw pu
  obtain ⟨w', rfl, hw⟩ := IsPart.raw ps
  have I5 : Inv X pins σ H4 { s4 with heap := s4.heap.push { cls := .type "slice", data := .fields #[partValue l', partValue u', partValue w'] } } := I4.kept (t' := s4.toks) fun b ob q => Heap.get?_push_of_some _ q
  have hlen : (⟨((slicePicked z l' u' w').filterMap (z.cps[·]?)).toArray⟩ : Str) = ⟨z.cps.toList.reverse.toArray⟩ := by
    unfold slicePicked
    rw [hl, hu, hw]
    exact congrArg (fun c : List Nat => (⟨c.toArray⟩ : Str)) (revPick z)
  refine tail_any (typeIs_str _ _ _) F.slot_str_getitem.lookup ?_ (by with_unfolding_all rfl)
  refine wpAny_getItem_str_slice (l := l') (u := u') (st := w') ⟨_, Heap.get?_push_size _ rfl, rfl, rfl⟩ (by rw [hw]; rfl) ?_
  unfold sliceMade
  rw [hw]
  show Made.post (Made.str _) _ _
  rw [hlen]
  exact ⟨by show (z.cps.toList.reverse.toArray).size ≤ sizeLine; rw [List.size_toArray, List.length_reverse]; exact hz, .str _, H4, I5.tok _, ⟨_, rfl⟩, q⟩
end DL

set_option Elab.async false
set_option linter.all false
set_option maxRecDepth 100000
set_option maxHeartbeats 2000000
namespace DL
open PySem L2 PySem.Spec
/-! ### slices -/
abbrev DTO := DSt → Mem → (Option Int → Mem → Prop) → Prop
def liP1 (K : PySem.W.Frag) (t : DTO) : TO := fun σ H Q => ∃ τ M F P, Stt K F H M σ τ ∧ t τ M P ∧ ∀ o M' H', P o M' → To K F H M H' M' → Q o H'
def dNoPart : DTO := fun _ M Q => Q none M
def dPart (t : DTE) : DTO := fun τ M Q => t τ M fun x M1 => ∃ i, x = .int i ∧ Q (some i) M1
abbrev DP (X : Cx) (e : Option Expr) (t : DTO) : Prop := PO X e (liP1 X.K t)
def cutD (xs : List D) (lo hi : Option Int) : List D := (xs.drop (HT.sIx xs.length 0 lo)).take (HT.sIx xs.length xs.length hi - HT.sIx xs.length 0 lo)
def oSl (x : D) (lo hi : Option Int) (M : Mem) (Q : D → Mem → Prop) : Prop := match x with
  | .tup xs => ¬ (HT.sIx xs.length 0 lo = 0 ∧ HT.sIx xs.length xs.length hi = xs.length) ∧ Q (.tup (cutD xs lo hi)) M
  | .str z => z.length ≤ sizeLine ∧ Q (.str (cutS z lo hi)) M
  | x => ∃ xs, Srd M x xs ∧ NewL (cutD xs lo hi) M Q
def dSl (te : DTE) (tl th : DTO) : DTE := fun τ M Q => te τ M fun x M1 => tl τ M1 fun l M2 => th τ M2 fun u M3 => oSl x l u M3 Q
def rSl3 (K : PySem.W.Frag) : V → Option Int → Option Int → Hp → VK → Prop := fun x lo hi H Q => (rSlL K x lo hi H Q ∨ rSlT K x lo hi H Q) ∨ rSlS x lo hi H Q
theorem cut_is {K : PySem.W.Frag} {S : Hp} {vs : List V} {ds : List D} (r : IsL K S vs ds) (lo hi : Option Int) : IsL K S (cutV vs lo hi) (cutD ds lo hi) := by
  unfold cutV cutD
  rw [r.length]
  exact (r.drop _).take _
section
variable {X : Cx} {e e1 : Expr} {lo hi : Option Expr} {te t : DTE} {tl th : DTO} {p2 pos : Pos}
theorem dp_none : DP X none dNoPart := ⟨fun pins s σ H Q I ⟨τ, M, F, P, s', q, k⟩ => po_none.run pins s σ H Q I (k none M H q (To.refl s'.ok))⟩
theorem dp_some (h : DE X e1 t) : DP X (some e1) (dPart t) := ⟨fun pins s σ H Q I ⟨τ, M, F, P, s', q, k⟩ => (po_some h).run pins s σ H Q I ⟨τ, M, F, _, s', q, fun d M' v H' ⟨i, e, p⟩ t r => by
  subst e; exact ⟨i, r.int_inv, k (some i) M' H' p t⟩⟩⟩
theorem de_slice (he : DE X e te) (hl : DP X lo tl) (hu : DP X hi th) : DE X (.Subscript e (.Slice lo hi none p2) pos) (dSl te tl th) := peI (pe_slice (r := rSl3 X.K) ((sl_list.or sl_tup).or sl_str) he hl hu) fun σ H Q ⟨τ, M, F, P, s, q, k⟩ =>
  ⟨τ, M, F, _, s, q, fun x M1 vx H1 q1 t1 r1 => ⟨τ, M1, F, _, s.to t1, q1, fun l M2 H2 q2 t2 => ⟨τ, M2, F, _, (s.to t1).to t2, q2, fun u M3 H3 q3 t3 => by
    have rx := r1.mono (t2.trans t3).ex
    have tt := (t1.trans t2).trans t3
    have fin : (∃ xs, Srd M3 x xs ∧ NewL (cutD xs l u) M3 P) → rSl3 X.K vx l u H3 Q := fun ⟨xs, sr, q4⟩ => by
      obtain ⟨a, vs, e1, h1, h2⟩ := sr.get t3.ok rx
      exact .inl (.inl ⟨a, vs, e1, h1, fun p hp => q4.ok t3.ok hp (cut_is h2 l u) fun d M4 v H4 p4 t4 => k d M4 v H4 p4 (tt.trans t4)⟩)
    cases x with
    | tup xs =>
      obtain ⟨hw, q4⟩ := q3
      cases rx with
      | tup h1 h2 => exact .inl (.inr ⟨_, _, rfl, ex_t stab_le h1, by rw [h2.length]; exact hw, fun p hp => newT q4 t3.ok hp (cut_is h2 l u) fun d M4 v H4 p4 t4 => k d M4 v H4 p4 (tt.trans t4)⟩)
    | str z =>
      obtain ⟨hz, q4⟩ := q3
      cases rx
      exact .inr ⟨z, rfl, hz, k _ M3 _ H3 q4 tt (.str _)⟩
    | _ => exact fin q3⟩⟩⟩
def dRev (te : DTE) : DTE := fun τ M Q => te τ M fun x M1 => ∃ xs, Srd M1 x xs ∧ NewL xs.reverse M1 Q
theorem de_rev {k : Nat} {p1 p2 p3 pos : Pos} (he : DE X e te) : DE X (.Subscript e (.Slice none none (some (.UnaryOp .USub (.Constant (.int 1) k p1) p2)) p3) pos) (dRev te) := peI (pe_revL he) fun σ H Q ⟨τ, M, F, P, s, q, k⟩ =>
  ⟨τ, M, F, _, s, q, fun x M1 vx H1 ⟨xs, sr, q1⟩ t1 r1 => by
    obtain ⟨a, vs, e1, h1, h2⟩ := sr.get t1.ok r1
    exact ⟨a, vs, e1, h1, fun p hp => q1.ok t1.ok hp h2.reverse fun d M4 v H4 p4 t4 => k d M4 v H4 p4 (t1.trans t4)⟩⟩
def dRevS (te : DTE) : DTE := fun τ M Q => te τ M fun x M1 => ∃ z, x = .str z ∧ z.length ≤ sizeLine ∧ Q (.str ⟨z.cps.toList.reverse.toArray⟩) M1
theorem de_revS {k : Nat} {p1 p2 p3 pos : Pos} (he : DE X e te) : DE X (.Subscript e (.Slice none none (some (.UnaryOp .USub (.Constant (.int 1) k p1) p2)) p3) pos) (dRevS te) := peI (pe_revS he) fun σ H Q ⟨τ, M, F, P, s, q, k⟩ =>
  ⟨τ, M, F, _, s, q, fun x M1 vx H1 ⟨z, ex, hz, q1⟩ t1 r1 => by
    subst ex
    cases r1
    exact ⟨z, rfl, hz, k _ M1 _ H1 q1 t1 (.str _)⟩⟩
end
end DL

set_option Elab.async false
set_option linter.all false
set_option maxRecDepth 100000
set_option maxHeartbeats 2000000
namespace DL
open PySem L2 PySem.Spec
/-! ### classes of the module -/
def clsA (mg : Str → Option Value) (x : Str) : Addr := match mg x with
  | some (.ref a) => a
  | _ => 0
def Rdo (M : Mem) (d : D) (C : Addr) (gs : List (Str × D)) : Prop := d = .obj C gs ∨ ∃ a, d = .ref a ∧ M a = some (.ins C gs)
theorem Rdo.o {M : Mem} {C : Addr} {gs : List (Str × D)} : Rdo M (.obj C gs) C gs := .inl rfl
theorem Rdo.r {M : Mem} {a C : Addr} {gs : List (Str × D)} (h : M a = some (.ins C gs)) : Rdo M (.ref a) C gs := .inr ⟨a, rfl, h⟩
section
variable {K : PySem.W.Frag} {F : Fr} {H : Hp} {M : Mem} {d : D} {v : V} {C : Addr} {gs : List (Str × D)}
theorem Rdo.get (h : Rdo M d C gs) (o : Ok K F H M) (r : Is K (stab H M F) v d) : ∃ a dx fs, v = .ref a ∧ H a = some (.ins C dx fs) ∧ IsF K (stab H M F) fs gs := by
  rcases h with h | ⟨a, h, h1⟩
  · subst h; cases r with | obj h1 h2 => exact ⟨_, _, _, rfl, stab_le _ _ h1, h2⟩
  · subst h; cases r
    obtain ⟨dx, vs, h2, h3⟩ := o.mem _ _ h1
    exact ⟨a, dx, vs, rfl, h2, h3⟩
end
/-- what the walk asks of a class -/
structure Kls (K : PySem.W.Frag) (mg : Str → Option Value) (x : Str) : Prop where
  at_ : mg x = some (.ref (clsA mg x))
  cls : Cls K (clsA mg x)
  kp : PySem.W.keepIn K (.ref (clsA mg x)) = true
structure Mtd (K : PySem.W.Frag) (C : Addr) (m qual : Str) (st : Stmt) : Prop where
  ex : ∃ f fd, Fun K m qual st f fd ∧ Meth K C m f
structure Prp (K : PySem.W.Frag) (C : Addr) (m qual : Str) (st : Stmt) : Prop where
  ex : ∃ p g fd, Fun K m qual st g fd ∧ PropOf K C m p g
section
variable {K : PySem.W.Frag} {h : Heap} {mg : Str → Option Value} {x m qual : Str} {st : Stmt} {C : Addr}
theorem clsA_of (X : K.In h) (G : h.Ns mainGlobals mg) (a : PySem.W.nsIn K mainGlobals x = some (some (.ref C))) : clsA mg x = C := by
  unfold clsA
  rw [PySem.W.mg_of X G a]
theorem kls_mk (X : K.In h) (G : h.Ns mainGlobals mg) (a : PySem.W.nsIn K mainGlobals x = some (some (.ref C))) (pg : PySem.W.plainGet K C Str.empty = true) (hd : PySem.W.hasDictIn K C = true) (po : PySem.W.plainOver K C = true)
    (sa : PySem.W.findIn K (.ref C) "__setattr__" = some (some (.builtin "object.__setattr__"))) (kp : PySem.W.keepIn K (.ref C) = true) : Kls K mg x := by
  have e := clsA_of X G a
  exact ⟨by rw [e]; exact PySem.W.mg_of X G a, by rw [e]; exact ⟨pg, hd, po, sa⟩, by rw [e]; exact kp⟩
theorem mk_mk (X : K.In h) (G : h.Ns mainGlobals mg) (a : PySem.W.nsIn K mainGlobals x = some (some (.ref C))) (mk : PySem.W.makesIn K C = true) : PySem.W.makesIn K (clsA mg x) = true := by
  rw [clsA_of X G a]; exact mk
theorem na_mk (X : K.In h) (G : h.Ns mainGlobals mg) (a : PySem.W.nsIn K mainGlobals x = some (some (.ref C))) (n : PySem.W.findIn K (.ref C) m = some none) : NoAttr K (clsA mg x) m := by
  rw [clsA_of X G a]; exact n
theorem mtd_mk (X : K.In h) (G : h.Ns mainGlobals mg) (a : PySem.W.nsIn K mainGlobals x = some (some (.ref C))) {f : Addr} {oc : Value} {od an : Option Addr} {osl : Array (Option Value)} {kV doc pm cdv ct : Value}
    (b : PySem.W.findIn K (.ref C) m = some (some (.ref f))) (i : PySem.W.isFn K (.ref f) = true) (l : K.lookup f = some ⟨oc, od, .func (PySem.W.fnOf m qual (defArgs st) (defBody st) (defScope st) .none kV doc pm an cdv ct), osl⟩)
    (c : PySem.W.codeIn K cdv qual = true) (k : PySem.W.keepIn K (.ref f) = true) : Mtd K (clsA mg x) m qual st := by
  rw [clsA_of X G a]
  exact ⟨f, _, fun_mk l c k, ⟨b, i, k⟩⟩
theorem prp_mk (X : K.In h) (G : h.Ns mainGlobals mg) (a : PySem.W.nsIn K mainGlobals x = some (some (.ref C))) {p g : Addr} {rest : List Value} {oc : Value} {od an : Option Addr} {osl : Array (Option Value)} {kV doc pm cdv ct : Value}
    (b : PySem.W.findIn K (.ref C) m = some (some (.ref p))) (i : PySem.W.specialIn K (.ref p) "__get__" = some (some (.builtin "property.__get__"))) (t : PySem.W.takesIn K (.ref p) = some true) (r : PySem.W.recIn K p "property" = some (.ref g :: rest))
    (l : K.lookup g = some ⟨oc, od, .func (PySem.W.fnOf m qual (defArgs st) (defBody st) (defScope st) .none kV doc pm an cdv ct), osl⟩) (c : PySem.W.codeIn K cdv qual = true) (k : PySem.W.keepIn K (.ref g) = true) : Prp K (clsA mg x) m qual st := by
  rw [clsA_of X G a]
  exact ⟨p, g, _, fun_mk l c k, ⟨b, i, t, rest, r⟩⟩
end
/-! ### promises -/
structure Mt (P : Program) (w : World) (K : PySem.W.Frag) (mg : Str → Option Value) (base : Heap) (C : Addr) (m : Str) (ps : List Str) (k : Nat) (sp : DSp) : Prop where
  ex : ∃ f fd, FnOk P w K mg base CX0 k f fd ps (liP K sp) ∧ Meth K C m f ∧ Binds K fd ps []
structure Pr (P : Program) (w : World) (K : PySem.W.Frag) (mg : Str → Option Value) (base : Heap) (C : Addr) (m : Str) (k : Nat) (sp : DSp) : Prop where
  ex : ∃ p g fd, FnOk P w K mg base CX0 k g fd ["self"] (liP K sp) ∧ PropOf K C m p g ∧ Binds K fd ["self"] []
structure Mkr (P : Program) (w : World) (K : PySem.W.Frag) (mg : Str → Option Value) (base : Heap) (x : Str) (ps : List Str) (k : Nat) (sp : DSp) : Prop where
  ex : ∃ f fd, FnOk P w K mg base CX0 k f fd ps (liP K sp) ∧ Mk K (clsA mg x) f ∧ Binds K fd ps []
section
variable {P : Program} {w : World} {K : PySem.W.Frag} {mg : Str → Option Value} {base : Heap} {C : Addr} {m qual x : Str} {st : Stmt} {N ps : List Str} {k : Nat} {sp : DSp} {t : DTS}
theorem Mkr.of (kl : Kls K mg x) (mk : PySem.W.makesIn K (clsA mg x) = true) (h : Mt P w K mg base (clsA mg x) "__init__" ps k sp) : Mkr P w K mg base x ps k sp := by
  obtain ⟨f, fd, a, b, c⟩ := h.ex
  exact ⟨f, fd, a, ⟨mk, b.at_, b.fn, kl.kp⟩, c⟩
theorem okM (D0 : Mtd K C m qual st) (S : FnScope N ps (defScope st))
    (bd : ∀ (kV doc pm : Value) (an : Option Addr) (cdv ct : Value) (us : List Value), us.length = ps.length → bindArgs (PySem.W.fnOf m qual (defArgs st) (defBody st) (defScope st) .none kV doc pm an cdv ct) ⟨us, []⟩ = pure (ps.zip us))
    (len : ∀ ds M Q, sp ds M Q → ds.length = ps.length)
    (der : ∀ (f : Addr) (cdv : Value) (A : Around) (outer : List Env) (s : Shared) (H : Hp) (E : XK), Room k (bodyX P w K mg base N qual st f cdv A outer s H E).A → DSs (bodyX P w K mg base N qual st f cdv A outer s H E) (defBody st) t)
    (body : ∀ (ds : List D) (M : Mem) (Q : D → Mem → Prop), sp ds M Q → t { nx := fun _ M' => Q .non M', rt := Q } (dstart N ds) M) : Mt P w K mg base C m ps (k + 1) sp := by
  obtain ⟨f, fd, F, b⟩ := D0.ex
  exact ⟨f, fd, okD F S len (fun cdv A outer s H E ds M Q hr hs => ⟨t, der f cdv A outer s H E hr, body ds M Q hs⟩), b, F.binds bd⟩
theorem okP (D0 : Prp K C m qual st) (S : FnScope N ["self"] (defScope st))
    (bd : ∀ (kV doc pm : Value) (an : Option Addr) (cdv ct : Value) (us : List Value), us.length = 1 → bindArgs (PySem.W.fnOf m qual (defArgs st) (defBody st) (defScope st) .none kV doc pm an cdv ct) ⟨us, []⟩ = pure ((["self"] : List Str).zip us))
    (len : ∀ ds M Q, sp ds M Q → ds.length = 1)
    (der : ∀ (f : Addr) (cdv : Value) (A : Around) (outer : List Env) (s : Shared) (H : Hp) (E : XK), Room k (bodyX P w K mg base N qual st f cdv A outer s H E).A → DSs (bodyX P w K mg base N qual st f cdv A outer s H E) (defBody st) t)
    (body : ∀ (ds : List D) (M : Mem) (Q : D → Mem → Prop), sp ds M Q → t { nx := fun _ M' => Q .non M', rt := Q } (dstart N ds) M) : Pr P w K mg base C m (k + 1) sp := by
  obtain ⟨p, g, fd, F, b⟩ := D0.ex
  exact ⟨p, g, fd, okD F S len (fun cdv A outer s H E ds M Q hr hs => ⟨t, der g cdv A outer s H E hr, body ds M Q hs⟩), b, F.binds bd⟩
end
/-! ### rules -/
def dFld (C : Addr) (f : Str) (ta : DTE) : DTE := fun τ M Q => ta τ M fun x M1 => ∃ gs v, Rdo M1 x C gs ∧ gs.lookup f = some v ∧ Q v M1
def dFldSet (C : Addr) (f : Str) (ta tv : DTE) : DTS := fun Y τ M => tv τ M fun v M1 => ta τ M1 fun x M2 => ∃ a gs, x = .ref a ∧ M2 a = some (.ins C gs) ∧ gs.length < 1000 ∧ Y.nx τ (M2.put a (.ins C (putG f v gs)))
def dMethC (C : Addr) (m : Str) (sp : DSp) (ta : DTE) (t : DTA) : DTE := fun τ M Q => ta τ M fun x M1 => (∃ gs, Rdo M1 x C gs ∧ gs.lookup m = none) ∧ t τ M1 fun ds M2 => sp (x :: ds) M2 Q
def dProp (C : Addr) (sp : DSp) (ta : DTE) : DTE := fun τ M Q => ta τ M fun x M1 => (∃ gs, Rdo M1 x C gs) ∧ sp [x] M1 Q
def dMake (C : Addr) (sp : DSp) (t : DTA) : DTE := fun τ M Q => t τ M fun ds M1 => ∀ p, M1 p = none → sp (.ref p :: ds) (M1.put p (.ins C [])) fun v M2 => v = .non ∧ ∃ N e, View M2 (.ref p) N e ∧ Q e N
section
variable {X : Cx} {C : Addr} {f m x : Str} {e o value : Expr} {es : List Expr} {ta tv : DTE} {t : DTA} {pos pos' apos p : Pos} {k : Nat} {ps : List Str} {sp : DSp}
theorem de_fld (c : Cls X.K C) (n : NoAttr X.K C f) (he : DE X e ta) (hb : attributeBase e f X.env (eval e X.env) = eval e X.env := by rfl) : DE X (.Attribute e f pos) (dFld C f ta) := peI (pe_fld he hb) fun σ H Q ⟨τ, M, F, P, s, q, kk⟩ =>
  ⟨τ, M, F, _, s, q, fun d M1 v H1 ⟨gs, w, h1, h2, q1⟩ t1 r1 => by
    obtain ⟨a, dx, fs, e1, e2, e3⟩ := h1.get t1.ok r1
    obtain ⟨u, e4, e5⟩ := e3.lookup h2
    exact ⟨a, C, dx, fs, u, e1, e2, c, n, e4, kk w M1 u H1 q1 t1 e5⟩⟩
theorem ds_fld (c : Cls X.K C) (n : NoAttr X.K C f) (ha : DE X o ta) (hv : DE X value tv) (hs : swapsWith value (some (.Attribute o f pos')) pos.line X.env = pure false) : DS X (.Assign [.Attribute o f pos'] value pos) (dFldSet C f ta tv) :=
  psI (ps_fld ha hv hs) fun Z σ H ⟨τ, M, F, Y, s, kk, q⟩ => ⟨τ, M, F, _, s, q, fun v M1 vv H1 q1 t1 r1 => ⟨τ, M1, F, _, s.to t1, q1, fun d M2 xv H2 ⟨a, gs, e1, e2, hl, q2⟩ t2 r2 => by
    subst e1
    cases r2
    obtain ⟨dx, fs, e3, e4⟩ := t2.ok.mem _ _ e2
    have t3 := To.set (u := .ins C dx (putF f vv fs)) (m := .ins C (putG f v gs)) t2.ok e2 ⟨_, _, upd_same, e4.put (r1.mono t2.ex)⟩
    have tt := (t1.trans t2).trans t3
    exact ⟨a, C, dx, fs, rfl, e3, c, n, by rw [e4.length]; exact hl, kk.nx σ _ τ _ tt (s.to tt).sl q2⟩⟩⟩
theorem liMethC {E : XK} (σ : St) (H : Hp) (Q : VK) (h : liE X.K (dMethC C m sp ta t) σ H Q) : tMeth C m (liP X.K sp) [] E (liE X.K ta) (liA X.K t) σ H Q := by
  obtain ⟨τ, M, F, P, s, q, kk⟩ := h
  refine ⟨τ, M, F, _, s, q, fun d M1 v H1 ⟨⟨gs, h1, h2⟩, q1⟩ t1 r1 => ?_⟩
  obtain ⟨a, dx, fs, e1, e2, e3⟩ := h1.get t1.ok r1
  subst e1
  refine ⟨a, dx, fs, rfl, e2, e3.none h2, τ, M1, F, _, s.to t1, q1, fun ds M2 vs H2 q2 t2 r2 => ?_⟩
  show liP X.K sp (.ref a :: (vs ++ [])) H2 Q E
  rw [List.append_nil]
  exact ⟨d :: ds, M2, F, P, t2.ok, .cons (r1.mono t2.ex) r2, q2, fun d' M' v' H' p t => kk d' M' v' H' p ((t1.trans t2).trans t)⟩
theorem de_meth {pl : Sem Bool} (c : Cls X.K C) (F : Mt X.prog X.w X.K X.mg X.base C m ps k sp) (hr : Room k X.A) (he : DE X o ta) (ha : DA X (e :: es) t)
    (hst : starEach (e :: es) X.env = (false, eval e X.env) :: starEach es X.env := by rfl) (hpl : (backTo pos (starEach es X.env)).any (·.1) = false := by rfl)
    (ht : eval (.Call (.Attribute o m apos) (e :: es) [] pos) X.env = (do
      let ov ← eval o X.env
      standAt apos.atName
      let (f, first) ← holding [ov] (getMethod ov m pl)
      callWith pos f first (backTo pos (starEach (e :: es) X.env)) (backToKw pos (keywordEach [] X.env))) := by rfl) :
    DE X (.Call (.Attribute o m apos) (e :: es) [] pos) (dMethC C m sp ta t) := by
  obtain ⟨f, fd, a, b, c2⟩ := F.ex
  exact peI (pe_meth (E := E0) he c b a hr c2 .nil pass0 ha hst hpl ht) liMethC
theorem de_meth0 {pl : Sem Bool} (c : Cls X.K C) (F : Mt X.prog X.w X.K X.mg X.base C m ps k sp) (hr : Room k X.A) (he : DE X o ta)
    (ht : eval (.Call (.Attribute o m apos) [] [] pos) X.env = (do
      let ov ← eval o X.env
      standAt apos.atName
      let (f, first) ← holding [ov] (getMethod ov m pl)
      callWith pos f first (backTo pos (starEach [] X.env)) (backToKw pos (keywordEach [] X.env))) := by rfl) :
    DE X (.Call (.Attribute o m apos) [] [] pos) (dMethC C m sp ta dNil) := by
  obtain ⟨f, fd, a, b, c2⟩ := F.ex
  refine peI (pe_meth0 (E := E0) he c b a hr c2 .nil pass0 ht) fun σ H Q h => ?_
  obtain ⟨τ, M, F, P, s, q, kk⟩ := h
  refine ⟨τ, M, F, _, s, q, fun d M1 v H1 ⟨⟨gs, h1, h2⟩, q1⟩ t1 r1 => ?_⟩
  obtain ⟨a, dx, fs, e1, e2, e3⟩ := h1.get t1.ok r1
  subst e1
  exact ⟨a, dx, fs, rfl, e2, e3.none h2, [d], M1, F, P, t1.ok, .cons r1 .nil, q1, fun d' M' v' H' p t => kk d' M' v' H' p (t1.trans t)⟩
theorem de_prop (c : Cls X.K C) (F : Pr X.prog X.w X.K X.mg X.base C m k sp) (hr : Room (k + 1) X.A) (he : DE X e ta) (hab : attributeBase e m X.env (eval e X.env) = eval e X.env := by rfl) : DE X (.Attribute e m pos) (dProp C sp ta) := by
  obtain ⟨p, g, fd, a, b, c2⟩ := F.ex
  refine peI (pe_prop (E := E0) he c b a hr c2 .nil pass0 hab) fun σ H Q h => ?_
  obtain ⟨τ, M, F, P, s, q, kk⟩ := h
  refine ⟨τ, M, F, _, s, q, fun d M1 v H1 ⟨⟨gs, h1⟩, q1⟩ t1 r1 => ?_⟩
  obtain ⟨a, dx, fs, e1, e2, e3⟩ := h1.get t1.ok r1
  subst e1
  exact ⟨a, dx, fs, rfl, e2, [d], M1, F, P, t1.ok, .cons r1 .nil, q1, fun d' M' v' H' p t => kk d' M' v' H' p (t1.trans t)⟩
end
/-! ### a new object -/
theorem To.made {K : PySem.W.Frag} {F : Fr} {H : Hp} {M : Mem} {p dx C : Addr} (o : Ok K F H M) (h : H p = none) (hd : H dx = none) (ne : dx ≠ p) : To K F H M (upd (upd H dx (.own p)) p (.ins C dx [])) (M.put p (.ins C [])) := by
  have t1 := To.new o hd (.own p)
  have h2 : (upd H dx (.own p)) p = none := by rw [upd_ne (Ne.symm ne)]; exact h
  exact t1.trans (To.newM t1.ok h2 ⟨dx, [], upd_same, .nil⟩)
section
variable {X : Cx} {C : Addr} {x : Str} {e : Expr} {es : List Expr} {t : DTA} {pos p : Pos} {k : Nat} {ps : List Str} {sp : DSp}
theorem liMake {K : PySem.W.Frag} {E : XK} (σ : St) (H : Hp) (Q : VK) (h : liE K (dMake C sp t) σ H Q) : tMake C (liP K sp) [] E (liA K t) σ H Q := by
  obtain ⟨τ, M, F, P, s, q, kk⟩ := h
  refine ⟨τ, M, F, _, s, q, fun ds M1 vs H1 q1 t1 r1 a dx ha hd ne => ?_⟩
  show liP K sp (.ref a :: (vs ++ [])) _ _ E
  rw [List.append_nil]
  have t2 := To.made (C := C) t1.ok ha hd ne
  refine ⟨.ref a :: ds, _, F, _, t2.ok, .cons (.ref a) (r1.mono t2.ex), q1 a (t1.ok.free ha).1, fun d' M' v' H' ⟨e1, N, e2, vw, q2⟩ t3 r3 => ?_⟩
  subst e1
  cases r3
  obtain ⟨t4, r4⟩ := vw.to t3.ok (.ref a)
  exact ⟨rfl, kk e2 N (.ref a) H' q2 (((t1.trans t2).trans t3).trans t4) r4⟩
theorem de_mk {mg' : Str → Option Value} (F : Mkr X.prog X.w X.K mg' X.base x ps k sp) (kl : Kls X.K mg' x) (hr : Room (k + 1) X.A) (hg : Gl X x) (ha : DA X (e :: es) t) (hmg : mg' = X.mg := by rfl) (hdb : (x == ("__debug__" : Str)) = false := by decide)
    (he : starEach (e :: es) X.env = (false, eval e X.env) :: starEach es X.env := by rfl) (hpl : (backTo pos (starEach es X.env)).any (·.1) = false := by rfl) : DE X (.Call (.Name x p) (e :: es) [] pos) (dMake (clsA mg' x) sp t) := by
  subst hmg
  obtain ⟨f, fd, a, b, c⟩ := F.ex
  exact peI (pe_make (E := E0) b a hr hg kl.at_ c .nil pass0 ha hdb he hpl) liMake
theorem de_mk0 {mg' : Str → Option Value} (F : Mkr X.prog X.w X.K mg' X.base x ps k sp) (kl : Kls X.K mg' x) (hr : Room (k + 1) X.A) (hg : Gl X x) (hmg : mg' = X.mg := by rfl) (hdb : (x == ("__debug__" : Str)) = false := by decide) : DE X (.Call (.Name x p) [] [] pos) (dMake (clsA mg' x) sp dNil) := by
  subst hmg
  obtain ⟨f, fd, a, b, c⟩ := F.ex
  refine peI (pe_make0 (E := E0) b a hr hg kl.at_ c .nil pass0 hdb) fun σ H Q h => ?_
  obtain ⟨τ, M, F, P, s, q, kk⟩ := h
  intro y dx hy hd ne
  have t2 := To.made (C := clsA X.mg x) s.ok hy hd ne
  refine ⟨[.ref y], _, F, _, t2.ok, .cons (.ref y) .nil, q y (s.ok.free hy).1, fun d' M' v' H' ⟨e1, N, e2, vw, q2⟩ t3 r3 => ?_⟩
  subst e1
  cases r3
  obtain ⟨t4, r4⟩ := vw.to t3.ok (.ref y)
  exact ⟨rfl, kk e2 N (.ref y) H' q2 ((t2.trans t3).trans t4) r4⟩
end
theorem r_obj {M N : Mem} {a C : Addr} {gs : List (Str × D)} {Q : D → Mem → Prop} (s : Sub N M) (n : N a = none) (h : M a = some (.ins C gs)) (q : Q (.obj C gs) N) : ∃ N e, View M (.ref a) N e ∧ Q e N := ⟨N, _, .obj s n h, q⟩
theorem r_dic {M N : Mem} {a : Addr} {gs : List (Key × D)} {Q : D → Mem → Prop} (s : Sub N M) (n : N a = none) (h : M a = some (.dic gs)) (q : Q (.dic gs) N) : ∃ N e, View M (.ref a) N e ∧ Q e N := ⟨N, _, .dic s n h, q⟩
end DL

set_option Elab.async false
set_option linter.all false
set_option maxRecDepth 100000
set_option maxHeartbeats 2000000
namespace DL
open PySem L2 PySem.Spec
/-! ### steps for dicts, objects, texts, slices -/
def FmtK (x : D) (R : Str → Prop) : Prop := ∃ n : Nat, x = .int (n : Int) ∧ (bitsT n).length ≤ sizeLine ∧ R (bitsT n)
def DgetK (M : Mem) (x y : D) (R : D → Prop) : Prop := ∃ kvs k v, Rdd M x kvs ∧ y = kD k ∧ valD kvs k = some v ∧ R v
def DinK (M : Mem) (x y : D) (R : Option D → Prop) : Prop := ∃ kvs k, Rdd M x kvs ∧ y = kD k ∧ R (valD kvs k)
def DputK (M : Mem) (x y v : D) (R : Mem → Prop) : Prop := ∃ a kvs k, x = .ref a ∧ M a = some (.dic kvs) ∧ y = kD k ∧ kvs.length < sizeLine ∧ R (M.put a (.dic (putD kvs k v)))
def FldK (M : Mem) (x : D) (C : Addr) (f : Str) (R : D → Prop) : Prop := ∃ gs v, Rdo M x C gs ∧ gs.lookup f = some v ∧ R v
def FsetK (M : Mem) (x : D) (C : Addr) (f : Str) (v : D) (R : Mem → Prop) : Prop := ∃ a gs, x = .ref a ∧ M a = some (.ins C gs) ∧ gs.length < 1000 ∧ R (M.put a (.ins C (putG f v gs)))
def RevK (M : Mem) (x : D) (R : List D → Prop) : Prop := ∃ xs, Srd M x xs ∧ R xs.reverse
def RevSK (x : D) (R : Str → Prop) : Prop := ∃ z, x = .str z ∧ z.length ≤ sizeLine ∧ R ⟨z.cps.toList.reverse.toArray⟩

section
variable {τ : DSt} {M : Mem} {Q : D → Mem → Prop} {i j : Int} {n : Nat} {d v x y z : D} {te ta tb td ty tv tk : DTE} {tl th : DTO} {t : DTA} {C : Addr} {f m : Str} {sp : DSp} {gs : List (Str × D)} {kvs : List (Key × D)} {xs : List D} {nx bk ct : DSt → Mem → Prop} {rt : D → Mem → Prop} {A : Prop} {a : Addr} {w : Str}
instance i_bits : Stp (dBits te τ M Q) (te τ M fun x M1 => ∃ i, x = .int i ∧ Q (.int (Builtin.Int.intBits i : Nat)) M1) := ⟨fun q => q⟩
instance i_exI {R : Int → Prop} : Stp (∃ i, D.int j = .int i ∧ R i) (R j) := ⟨fun q => ⟨j, rfl, q⟩⟩
instance i_fmtb : Stp (dFmtB te τ M Q) (te τ M fun x M1 => FmtK x fun z => Q (.str z) M1) := ⟨fun q => q⟩
theorem g_fmtb {R : Str → Prop} (h : n < 2 ^ 1000000) (q : R (bitsT n)) : FmtK (.int (n : Int)) R :=
  ⟨n, rfl, by rw [bitsT_len]; exact Nat.le_trans (digR_len 1000000 n h (by decide)) (by decide), q⟩
instance i_dnew : Stp (dNewD τ M Q) (∀ p, M p = none → Q (.ref p) (M.put p (.dic []))) := ⟨fun q => q⟩
instance i_dget : Stp (dDGet td ty τ M Q) (td τ M fun x M1 => ty τ M1 fun y M2 => DgetK M2 x y fun v => Q v M2) := ⟨fun q => q⟩
instance i_din : Stp (dDIn ty td τ M Q) (ty τ M fun y M1 => td τ M1 fun x M2 => DinK M2 x y fun o => Q (.bl o.isSome) M2) := ⟨fun q => q⟩
instance i_dnin : Stp (dDNotIn ty td τ M Q) (ty τ M fun y M1 => td τ M1 fun x M2 => DinK M2 x y fun o => Q (.bl (!o.isSome)) M2) := ⟨fun q => q⟩
instance i_dput : Stp (dDPut td ty tv ⟨nx, rt, bk, ct⟩ τ M) (tv τ M fun v M1 => td τ M1 fun x M2 => ty τ M2 fun y M3 => DputK M3 x y v fun N => nx τ N) := ⟨fun q => q⟩
instance i_dget1 : Stp (dDGet1 td ty τ M Q) (td τ M fun x M1 => (∃ kvs, Rdd M1 x kvs) ∧ ty τ M1 fun y M2 => DinK M2 x y fun o => Q (o.getD .non) M2) := ⟨fun q => q⟩
instance i_dget2 : Stp (dDGet2 td ty tv τ M Q) (td τ M fun x M1 => (∃ kvs, Rdd M1 x kvs) ∧ ty τ M1 fun y M2 => tv τ M2 fun z M3 => DinK M3 x y fun o => Q (o.getD z) M3) := ⟨fun q => q⟩
theorem g_dput {R : Mem → Prop} (s : M a = some (.dic kvs)) (h : kvs.length < 1000000) (q : R (M.put a (.dic (putD kvs (.inl i) v)))) : DputK M (.ref a) (.int i) v R := ⟨a, kvs, .inl i, rfl, s, rfl, Nat.lt_trans h (by decide), q⟩
theorem g_dget {R : D → Prop} (s : Rdd M x kvs) (h : valD kvs (.inl i) = some v) (q : R v) : DgetK M x (.int i) R := ⟨kvs, .inl i, v, s, rfl, h, q⟩
theorem g_din {R : Option D → Prop} (s : Rdd M x kvs) (q : R (valD kvs (.inl i))) : DinK M x (.int i) R := ⟨kvs, .inl i, s, rfl, q⟩
theorem g_isd (s : Rdd M x kvs) (q : A) : (∃ kvs, Rdd M x kvs) ∧ A := ⟨⟨kvs, s⟩, q⟩
theorem g_lenK (s : Rdd M x kvs) (q : Q (.int (kvs.length : Nat)) M) : bLenK [x] M Q := ⟨x, kvs, rfl, s, q⟩
theorem g_listK (s : Rdd M x kvs) (q : NewL (kvs.map fun kv => kD kv.1) M Q) : bListK [x] M Q := ⟨x, kvs, rfl, s, q⟩
instance i_fld : Stp (dFld C f te τ M Q) (te τ M fun x M1 => FldK M1 x C f fun v => Q v M1) := ⟨fun q => q⟩
theorem g_fldo {R : D → Prop} (h : gs.lookup f = some v) (q : R v) : FldK M (.obj C gs) C f R := ⟨gs, v, .o, h, q⟩
theorem g_fldr {R : D → Prop} (s : M a = some (.ins C gs)) (h : gs.lookup f = some v) (q : R v) : FldK M (.ref a) C f R := ⟨gs, v, .r s, h, q⟩
instance i_fldset : Stp (dFldSet C f te tv ⟨nx, rt, bk, ct⟩ τ M) (tv τ M fun v M1 => te τ M1 fun x M2 => FsetK M2 x C f v fun N => nx τ N) := ⟨fun q => q⟩
theorem g_fldset {R : Mem → Prop} (s : M a = some (.ins C gs)) (h : gs.length < 1000) (q : R (M.put a (.ins C (putG f v gs)))) : FsetK M (.ref a) C f v R := ⟨a, gs, rfl, s, h, q⟩
instance i_methC : Stp (dMethC C m sp te t τ M Q) (te τ M fun x M1 => (∃ gs, Rdo M1 x C gs ∧ gs.lookup m = none) ∧ t τ M1 fun ds M2 => sp (x :: ds) M2 Q) := ⟨fun q => q⟩
theorem g_mcko (h : gs.lookup m = none) (q : A) : (∃ gs', Rdo M (.obj C gs) C gs' ∧ gs'.lookup m = none) ∧ A := ⟨⟨gs, .o, h⟩, q⟩
theorem g_mckr (s : M a = some (.ins C gs)) (h : gs.lookup m = none) (q : A) : (∃ gs', Rdo M (.ref a) C gs' ∧ gs'.lookup m = none) ∧ A := ⟨⟨gs, .r s, h⟩, q⟩
instance i_prop : Stp (dProp C sp te τ M Q) (te τ M fun x M1 => (∃ gs, Rdo M1 x C gs) ∧ sp [x] M1 Q) := ⟨fun q => q⟩
theorem g_pcko (q : A) : (∃ gs', Rdo M (.obj C gs) C gs') ∧ A := ⟨⟨gs, .o⟩, q⟩
theorem g_pckr (s : M a = some (.ins C gs)) (q : A) : (∃ gs', Rdo M (.ref a) C gs') ∧ A := ⟨⟨gs, .r s⟩, q⟩
instance i_make : Stp (dMake C sp t τ M Q) (t τ M fun ds M1 => ∀ p, M1 p = none → sp (.ref p :: ds) (M1.put p (.ins C [])) fun v M2 => v = .non ∧ ∃ N e, View M2 (.ref p) N e ∧ Q e N) := ⟨fun q => q⟩
instance i_sl : Stp (dSl te tl th τ M Q) (te τ M fun x M1 => tl τ M1 fun l M2 => th τ M2 fun u M3 => oSl x l u M3 Q) := ⟨fun q => q⟩
instance i_nopart {R : Option Int → Mem → Prop} : Stp (dNoPart τ M R) (R none M) := ⟨fun q => q⟩
instance i_part {R : Option Int → Mem → Prop} : Stp (dPart te τ M R) (te τ M fun x M1 => ∃ i, x = .int i ∧ R (some i) M1) := ⟨fun q => q⟩
instance i_rev : Stp (dRev te τ M Q) (te τ M fun x M1 => RevK M1 x fun ys => NewL ys M1 Q) := ⟨fun q => q⟩
instance i_revS : Stp (dRevS te τ M Q) (te τ M fun x M1 => RevSK x fun z => Q (.str z) M1) := ⟨fun q => q⟩
theorem g_revB {R : Str → Prop} (h : n < 2 ^ 1000000) (q : R ⟨(digR n).toArray⟩) : RevSK (.str (bitsT n)) R :=
  ⟨bitsT n, rfl, by rw [bitsT_len]; exact Nat.le_trans (digR_len 1000000 n h (by decide)) (by decide), q⟩
theorem g_revL {R : List D → Prop} (q : R xs.reverse) : RevK M (.lst xs) R := ⟨xs, .l, q⟩
theorem g_revR {R : List D → Prop} (s : M a = some (.lst xs)) (q : R xs.reverse) : RevK M (.ref a) R := ⟨xs, .r s, q⟩
theorem g_slL {l u : Option Int} (q : NewL (cutD xs l u) M Q) : oSl (.lst xs) l u M Q := ⟨xs, .l, q⟩
theorem g_slR {l u : Option Int} (s : M a = some (.lst xs)) (q : NewL (cutD xs l u) M Q) : oSl (.ref a) l u M Q := ⟨xs, .r s, q⟩
theorem g_countB (q : Q (.int (ones n : Nat)) M) : mCount (.str (bitsT n)) [.str (Str.ofString "1")] M Q := ⟨bitsT n, _, rfl, rfl, by rw [count_ones]; exact q⟩
instance i_dc {wi : DTI} {p : Pat} {tt : DTT} {vs : List Nat} : Stp (dDc wi p tt tk tv vs τ M Q) (wi τ M fun W M1 => p.within vs ∧ dcGo p.d tt tk tv W.stay (wipD τ vs) W.items [] M1 fun ys M2 => NewK ys M2 Q) := ⟨fun q => q⟩
/-- a new dict as data -/
theorem g_newK (q : Q (.dic kvs) M) : NewK kvs M Q := .inl q
end
theorem drop_one {α : Type} (xs : List α) : (xs.drop 1) = xs.tail := by cases xs <;> rfl
theorem sIx_some {n d : Nat} {i : Int} (h : 0 ≤ i) : HT.sIx n d (some i) = min i.toNat n := by
  show (if i < 0 then _ else _) = _
  rw [if_neg (by omega)]
theorem cutD_from {xs : List D} {i : Int} (h : 0 ≤ i) : cutD xs (some i) none = xs.drop i.toNat := by
  unfold cutD
  rw [sIx_some h, HT.sIx_none]
  rcases Nat.le_total i.toNat xs.length with h1 | h1
  · rw [Nat.min_eq_left h1, List.take_of_length_le (by rw [List.length_drop]; exact Nat.le_refl _)]
  · rw [Nat.min_eq_right h1, Nat.sub_self, List.take_zero, List.drop_eq_nil_of_le h1]
theorem cutD_to {xs : List D} {i : Int} (h : 0 ≤ i) : cutD xs none (some i) = xs.take i.toNat := by
  unfold cutD
  rw [sIx_some h, HT.sIx_none, List.drop_zero, Nat.sub_zero]
  rcases Nat.le_total i.toNat xs.length with h1 | h1
  · rw [Nat.min_eq_left h1]
  · rw [Nat.min_eq_right h1, List.take_of_length_le (Nat.le_refl _), List.take_of_length_le h1]
/-! ### dicts as sets of keys -/
instance decKey (k : Key) (l : List Key) : Decidable (k ∈ l) := @List.instDecidableMemOfLawfulBEq Key (instBEqOfDecidableEq) (inferInstance) k l
def keysOf (kvs : List (Key × D)) : List Key := kvs.map (·.1)
theorem valD_some {kvs : List (Key × D)} {k : Key} : (valD kvs k).isSome = decide (k ∈ keysOf kvs) := by
  unfold valD keysOf
  induction kvs with
  | nil => rfl
  | cons p r ih =>
    by_cases h : p.1 = k
    · simp [List.find?_cons, h]
    · have h' : ¬ k = p.1 := fun e => h e.symm
      simp only [List.find?_cons, h, decide_false, List.map_cons, List.mem_cons, h', false_or]
      exact ih
theorem putD_keys (kvs : List (Key × D)) (k : Key) (v : D) : keysOf (putD kvs k v) = if k ∈ keysOf kvs then keysOf kvs else keysOf kvs ++ [k] := by
  unfold putD
  have e : (kvs.any fun kv => decide (kv.1 = k)) = decide (k ∈ keysOf kvs) := by
    unfold keysOf
    induction kvs with
    | nil => rfl
    | cons p r ih =>
      rw [List.any_cons, ih, List.map_cons]
      by_cases h : p.1 = k
      · simp [h]
      · have h' : ¬ k = p.1 := fun e => h e.symm
        simp [h, h']
  rw [e]
  by_cases h : k ∈ keysOf kvs
  · simp only [h, decide_true, if_true]
    unfold keysOf
    rw [List.map_map]
    refine List.map_congr_left fun p _ => ?_
    show (if p.1 = k then (p.1, v) else p).1 = p.1
    split <;> rfl
  · simp only [h, decide_false, if_false]
    unfold keysOf
    simp
theorem putD_val (kvs : List (Key × D)) (k k' : Key) (v : D) : valD (putD kvs k v) k' = if k' = k then some v else valD kvs k' := by
  unfold putD
  by_cases ha : (kvs.any fun kv => decide (kv.1 = k)) = true
  · rw [if_pos ha]
    unfold valD
    induction kvs with
    | nil => simp at ha
    | cons p r ih =>
      by_cases hp : p.1 = k
      · by_cases hk : k' = k
        · subst hk; simp [List.find?_cons, hp]
        · have h2 : ¬ k = k' := fun e => hk e.symm
          simp only [List.map_cons, hp, if_true, List.find?_cons, h2, decide_false, hk, if_false]
          clear ih ha
          induction r with
          | nil => rfl
          | cons p2 r2 ih2 =>
            by_cases h3 : p2.1 = k
            · simp only [List.map_cons, h3, if_true, List.find?_cons, h2, decide_false]; exact ih2
            · simp only [List.map_cons, h3, if_false, List.find?_cons]
              by_cases h4 : p2.1 = k'
              · simp [h4]
              · simp only [h4, decide_false]; exact ih2
      · have ha2 : (r.any fun kv => decide (kv.1 = k)) = true := by simpa [hp] using ha
        have := ih ha2
        by_cases h4 : p.1 = k'
        · have hk : ¬ k' = k := fun e => hp (h4.trans e)
          simp [List.find?_cons, hp, h4, hk]
        · simp only [List.map_cons, hp, if_false, List.find?_cons, h4, decide_false]; exact this
  · rw [if_neg ha]
    unfold valD
    have hn : ∀ p ∈ kvs, ¬ p.1 = k := fun p hp e => ha (List.any_eq_true.mpr ⟨p, hp, decide_eq_true e⟩)
    rw [List.find?_append]
    by_cases hk : k' = k
    · subst hk
      have : kvs.find? (fun kv => decide (kv.1 = k')) = none := List.find?_eq_none.mpr fun p hp => by simpa using hn p hp
      rw [this]; simp
    · have h2 : ¬ k = k' := fun e => hk e.symm
      simp [List.find?_cons, h2, hk]
end DL
namespace DL
open PySem L2
theorem valD_any' (kvs : List (Key × D)) (k : Key) : (kvs.any fun kv => decide (kv.1 = k)) = (valD kvs k).isSome := by
  unfold valD
  induction kvs with
  | nil => rfl
  | cons p r ih =>
    rw [List.any_cons, ih]
    by_cases h : p.1 = k <;> simp [List.find?_cons, h]
end DL
namespace DL
open PySem L2
theorem putD_len (kvs : List (Key × D)) (k : Key) (v : D) : (putD kvs k v).length ≤ kvs.length + 1 := by
  unfold putD
  split
  · rw [List.length_map]; omega
  · rw [List.length_append, List.length_singleton]; omega
theorem dc_fm {M : Mem} {tt : DTT} {tk tv : DTE} {g : DTG} {stay : Mem → Prop} {τ0 : DSt} {K : List (Key × D) → Mem → Prop} {α : Type} (emb : α → D) (key : α → Key) (val : α → D) : ∀ (xs : List α) (acc : List (Key × D)), acc.length + xs.length ≤ 1000000 → stay M →
    (∀ x ∈ xs, ∀ (A : D → D → Mem → Prop) (B : Mem → Prop), A (kD (key x)) (val x) M → g (emb x) τ0 M fun τ2 _ => tt τ2 M fun b M3 => if b = true then tk τ2 M3 fun y M4 => tv τ2 M4 fun z M5 => A y z M5 else B M3) →
    K (xs.foldl (fun acc x => putD acc (key x) (val x)) acc) M → dcGo g tt tk tv stay τ0 (xs.map emb) acc M K
  | [], acc, _, _, _, k => by simpa [dcGo] using k
  | x :: xs, acc, hz, st, h, k => by
    have hz' : acc.length + (xs.length + 1) ≤ 1000000 := hz
    refine h x List.mem_cons_self (fun y z M5 => ∃ k, y = kD k ∧ acc.length < sizeLine ∧ stay M5 ∧ dcGo g tt tk tv stay τ0 (xs.map emb) (putD acc k z) M5 K) _ ⟨key x, rfl, Nat.lt_of_lt_of_le (show acc.length < 1000001 by omega) (by decide), st, ?_⟩
    exact dc_fm emb key val xs _ (by have := putD_len acc (key x) (val x); omega) st (fun y hy => h y (List.mem_cons_of_mem _ hy)) k
theorem lc_const {M : Mem} {g : DTG} {tt : DTT} {te : DTE} {stay : Mem → Prop} {τ0 : DSt} {K : List D → Mem → Prop} {α : Type} (emb : α → D) (keep : α → Bool) (f : α → D) (xs : List α) (hz : xs.length ≤ 1000000) (st : stay M)
    (h : ∀ x ∈ xs, ∀ (A : D → Mem → Prop) (B : Mem → Prop), (keep x = true → A (f x) M) → (keep x = false → B M) → g (emb x) τ0 M fun τ2 _ => tt τ2 M fun b M3 => if b = true then te τ2 M3 A else B M3) (k : K ((xs.filter keep).map f) M) : lcGo g tt te stay τ0 (xs.map emb) [] M K :=
  lc_fm emb keep f xs [] (by simpa using hz) st h (by simpa using k)
end DL
namespace DL
open PySem L2
theorem f_lst {α : Type} {τ : DSt} {M : Mem} {g : DTG} {tb : DTS} {nx : DSt → Mem → Prop} {rt : D → Mem → Prop} {stay : Mem → Prop} (emb : α → D) (xs : List α) (I : Nat → DSt → Mem → Prop) (h0 : I 0 τ M)
    (hs : ∀ i x τ M, xs[i]? = some x → I i τ M → stay M → g (emb x) τ M fun τ' M' => tb ⟨fun τ2 M2 => ∃ N, Sub N M2 ∧ stay N ∧ I (i + 1) τ2 N, rt, nx, fun τ2 M2 => ∃ N, Sub N M2 ∧ stay N ∧ I (i + 1) τ2 N⟩ τ' M')
    (hd : ∀ τ M, I xs.length τ M → nx τ M) :
    ∃ I : Nat → DSt → Mem → Prop, I 0 τ M ∧ ∀ i τ M, I i τ M → (Wk.mk (xs.map emb) stay).stay M →
  (∀ d, (Wk.mk (xs.map emb) stay).items[i]? = some d → g d τ M fun τ' M' => tb ⟨fun τ2 M2 => ∃ N, Sub N M2 ∧ (Wk.mk (xs.map emb) stay).stay N ∧ I (i + 1) τ2 N, rt, nx, fun τ2 M2 => ∃ N, Sub N M2 ∧ (Wk.mk (xs.map emb) stay).stay N ∧ I (i + 1) τ2 N⟩ τ' M') ∧ (i = (Wk.mk (xs.map emb) stay).items.length → nx τ M) := by
  refine ⟨I, h0, fun i τ M hI st => ⟨fun d e => ?_, fun e => ?_⟩⟩
  · have e : (xs.map emb)[i]? = some d := e
    rw [List.getElem?_map] at e
    obtain ⟨x, e1, e2⟩ := Option.map_eq_some_iff.mp e
    subst e2
    exact hs i x τ M e1 hI st
  · have e : i = (xs.map emb).length := e
    rw [List.length_map] at e
    exact hd τ M (e ▸ hI)
theorem take_snoc {α : Type} {xs : List α} {i : Nat} {x : α} (h : xs[i]? = some x) : xs.take (i + 1) = xs.take i ++ [x] := by
  rw [List.take_add_one, h]; rfl
end DL
namespace DL
open PySem L2
theorem at_map {f : Nat → D} {n k : Nat} (h : k < n) : atI ((List.range n).map f) (k : Int) = some (f k) := atI_nat (by simp [h])
theorem at_list {α : Type} {f : α → D} {xs : List α} {k : Nat} {x : α} (h : xs[k]? = some x) : atI (xs.map f) (k : Int) = some (f x) := atI_nat (by rw [List.getElem?_map, h]; rfl)
end DL
namespace DL
open PySem L2
theorem lc_inv {g : DTG} {tt : DTT} {te : DTE} {stay : Mem → Prop} {τ0 : DSt} {K : List D → Mem → Prop} {M : Mem} {xs : List D} (I : Nat → List D → Mem → Prop) (h0 : I 0 [] M) (st : stay M)
    (hs : ∀ i x acc M, xs[i]? = some x → I i acc M → stay M → g x τ0 M fun τ2 _ => tt τ2 M fun b M3 => if b = true then te τ2 M3 fun y M4 => acc.length < sizeLine ∧ stay M4 ∧ I (i + 1) (acc ++ [y]) M4 else stay M3 ∧ I (i + 1) acc M3)
    (mono : ∀ (x : D) (M : Mem) (P R : DSt → Mem → Prop), (∀ τ N, P τ N → R τ N) → g x τ0 M P → g x τ0 M R)
    (monoT : ∀ (τ : DSt) (M : Mem) (P R : Bool → Mem → Prop), (∀ b N, P b N → R b N) → tt τ M P → tt τ M R)
    (monoE : ∀ (τ : DSt) (M : Mem) (P R : D → Mem → Prop), (∀ b N, P b N → R b N) → te τ M P → te τ M R)
    (hd : ∀ acc M, I xs.length acc M → K acc M) : lcGo g tt te stay τ0 xs [] M K := by
  have go : ∀ (n i : Nat) (acc : List D) (M : Mem), xs.length = i + n → I i acc M → stay M → lcGo g tt te stay τ0 (xs.drop i) acc M K := by
    intro n
    induction n with
    | zero =>
      intro i acc M hn hI st
      have : i = xs.length := by omega
      subst this
      rw [List.drop_eq_nil_of_le (Nat.le_refl _)]
      exact hd acc M hI
    | succ n ih =>
      intro i acc M hn hI st
      have hi : i < xs.length := by omega
      rw [List.drop_eq_getElem_cons hi]
      refine mono _ _ _ _ (fun τ2 N q => ?_) (hs i xs[i] acc M (by simp [hi]) hI st)
      refine monoT _ _ _ _ (fun b N2 q => ?_) q
      cases b with
      | true =>
        simp only [if_true] at q ⊢
        exact monoE _ _ _ _ (fun y N3 ⟨h1, h2, h3⟩ => ⟨h1, h2, ih (i + 1) _ N3 (by omega) h3 h2⟩) q
      | false =>
        simp only [Bool.false_eq_true, if_false] at q ⊢
        exact ⟨q.1, ih (i + 1) _ N2 (by omega) q.2 q.1⟩
  have := go xs.length 0 [] M (by omega) h0 st
  rwa [List.drop_zero] at this
theorem lc_mid {k : Nat} {te : DTE} {stay : Mem → Prop} {τ0 : DSt} {K : List D → Mem → Prop} {M : Mem} {xs : List D} (I : Nat → List D → Mem → Prop) (h0 : I 0 [] M) (st : stay M)
    (hs : ∀ i x acc M, xs[i]? = some x → I i acc M → stay M → te (τ0.set k (some x)) M fun y M4 => acc.length < sizeLine ∧ stay M4 ∧ I (i + 1) (acc ++ [y]) M4)
    (hd : ∀ acc M, I xs.length acc M → K acc M) : lcGo (gNm k) dYes (dMid te) stay τ0 xs [] M K :=
  lc_inv I h0 st (fun i x acc M hx hI st => ⟨_, hs i x acc M hx hI st, fun _ _ h => h⟩) (fun _ _ _ _ h q => h _ _ q) (fun _ _ _ _ h q => h _ _ q) (fun _ _ _ _ h ⟨P', q, i⟩ => ⟨P', q, fun d M' p => h _ _ (i d M' p)⟩) hd
theorem g_addL {xs ys : List D} {M : Mem} {Q : D → Mem → Prop} (h : xs.length + ys.length ≤ 10000) (q : NewL (xs ++ ys) M Q) : oAdd (.lst xs) (.lst ys) M Q := ⟨xs, ys, .l, .l, Nat.le_trans h (by decide), q⟩
end DL
namespace DL
open PySem L2
theorem Mem.put_comm {M : Mem} {a b : Addr} {o u : MO} (h : a ≠ b) : (M.put a o).put b u = (M.put b u).put a o := by
  funext c
  unfold Mem.put
  by_cases h1 : c = b
  · subst h1; simp [Ne.symm h]
  · by_cases h2 : c = a
    · subst h2; simp [h1]
    · simp [h1, h2]
theorem put_none {M : Mem} {s p : Addr} {o : MO} (h : (M.put s o) p = none) : p ≠ s ∧ M p = none := by
  unfold Mem.put at h
  by_cases e : p = s
  · rw [if_pos e] at h; cases h
  · rw [if_neg e] at h; exact ⟨e, h⟩
theorem sub_put {M N : Mem} {s : Addr} {o : MO} (h : Sub M N) : Sub (M.put s o) (N.put s o) := fun a u e => by
  unfold Mem.put at e ⊢
  by_cases z : a = s
  · rw [if_pos z] at e ⊢; exact e
  · rw [if_neg z] at e ⊢; exact h a u e
theorem perm_nat {ns : List Int} {ks : List Nat} (h : ns.Perm (ks.map fun (k : Nat) => (k : Int))) : ∃ fs : List Nat, fs.Perm ks ∧ ns = fs.map fun (k : Nat) => (k : Int) := by
  refine ⟨ns.map Int.toNat, ?_, ?_⟩
  · have := h.map Int.toNat
    rw [List.map_map] at this
    have e : (Int.toNat ∘ fun (k : Nat) => (k : Int)) = id := by funext k; exact Int.toNat_natCast k
    rwa [e, List.map_id] at this
  · rw [List.map_map]
    refine (List.map_id ns).symm.trans (List.map_congr_left fun x hx => ?_)
    obtain ⟨k, _, rfl⟩ := List.mem_map.mp (h.mem_iff.mp hx)
    show (k : Int) = ((Int.toNat (k : Int) : Nat) : Int)
    rw [Int.toNat_natCast]
theorem g_sortedN {ks : List Nat} {M : Mem} {Q : D → Mem → Prop} {d : D} (s : Srd M d (ks.map fun (k : Nat) => D.int (k : Int))) (q : ∀ fs : List Nat, fs.Perm ks → fs.Pairwise (· ≤ ·) → NewL (fs.map fun (k : Nat) => D.int (k : Int)) M Q) : bSorted [d] M Q := by
  refine ⟨d, ks.map fun (k : Nat) => (k : Int), rfl, by rw [List.map_map]; exact s, fun ns hp hs => ?_⟩
  obtain ⟨fs, h1, rfl⟩ := perm_nat hp
  rw [List.map_map]
  refine q fs h1 ?_
  rw [List.pairwise_map] at hs
  exact hs.imp fun h => by omega
end DL
namespace DL
open PySem L2
theorem lk_hd {f : Str} {v : D} {r : List (Str × D)} : ((f, v) :: r).lookup f = some v := by simp [List.lookup]
theorem lk_tl {f g : Str} {w : D} {r : List (Str × D)} {o : Option D} (h : (f == g) = false) (q : r.lookup f = o) : ((g, w) :: r).lookup f = o := by
  rw [List.lookup_cons, h]; exact q
theorem lk_nil {f : Str} : ([] : List (Str × D)).lookup f = none := rfl
theorem putG_nil {f : Str} {v : D} : putG f v [] = [(f, v)] := rfl
theorem putG_ne {f g : Str} {v x : D} {r : List (Str × D)} (h : g ≠ f) : putG f v ((g, x) :: r) = (g, x) :: putG f v r := if_neg h
theorem putG_eq {f : Str} {v x : D} {r : List (Str × D)} : putG f v ((f, x) :: r) = (f, v) :: r := if_pos rfl
end DL

set_option Elab.async false
set_option linter.all false
set_option maxRecDepth 100000
set_option maxHeartbeats 2000000
namespace DL
open PySem L2 PySem.Spec
/-! is True, is False -/
def oIsB : DOp := fun x y M Q => ∃ a b : Bool, x = .bl a ∧ y = .bl b ∧ Q (.bl (decide (a = b))) M
theorem or_isB {X : Cx} : OpR X (compareOp .Is) (liO X.K oIsB) := opRI op_isBl fun x y H Q ⟨dx, dy, M, F, P, o, r1, r2, ⟨a, b, e1, e2, p⟩, k⟩ => by
  subst e1; subst e2
  exact ⟨a, b, r1.bl_inv, r2.bl_inv, k _ M _ H p (To.refl o) (.bl _)⟩
instance i_isB {a b : Bool} {M : Mem} {Q : D → Mem → Prop} : Stp (oIsB (.bl a) (.bl b) M Q) (Q (.bl (decide (a = b))) M) := ⟨fun q => ⟨a, b, rfl, rfl, q⟩⟩
/-! list(range(..)) -/
theorem IsL.map2 {K : PySem.W.Frag} {S : Hp} {α : Type} {f : α → V} {g : α → D} (h : ∀ x, Is K S (f x) (g x)) : ∀ xs : List α, IsL K S (xs.map f) (xs.map g)
  | [] => .nil
  | x :: xs => .cons (h x) (IsL.map2 h xs)
theorem IsL.rg {K : PySem.W.Frag} {S : Hp} {a b : Int} : IsL K S (rgV a b) (rangeD a (b - a).toNat) := IsL.map2 (fun _ => .int _) _
def dListRg1 (te : DTE) : DTE := fun τ M Q => te τ M fun x M1 => ∃ n : Int, x = .int n ∧ (0 ≤ n ∧ n ≤ 16777216) ∧ NewL (rangeD 0 n.toNat) M1 Q
def dListRg2 (ta tb : DTE) : DTE := fun τ M Q => ta τ M fun x M1 => tb τ M1 fun y M2 => ∃ a b : Int, x = .int a ∧ y = .int b ∧ (0 ≤ a ∧ a ≤ 16777216 ∧ 0 ≤ b ∧ b ≤ 16777216) ∧ NewL (rangeD a (b - a).toNat) M2 Q
section
variable {X : Cx} {a b : Expr} {te tf : DTE} {p p2 pos pos2 : Pos}
theorem de_listRg1 (hc : X.calm = true) (hg : Gl X "list") (hm : X.mg "list" = none) (hg2 : Gl X "range") (hm2 : X.mg "range" = none) (ha : DE X a te)
    (na : starEach [a] X.env = (false, eval a X.env) :: starEach [] X.env := by rfl) (nb : starEach [.Call (.Name "range" p2) [a] [] pos2] X.env = (false, eval (.Call (.Name "range" p2) [a] [] pos2) X.env) :: starEach [] X.env := by rfl) :
    DE X (.Call (.Name "list" p) [.Call (.Name "range" p2) [a] [] pos2] [] pos) (dListRg1 te) := peI (pe_listRg hc hg hm (prg_1 hg2 hm2 ha na) nb) fun σ H Q ⟨τ, M, F, P, s, q, k⟩ =>
  ⟨τ, M, F, _, s, q, fun x M1 vx H1 ⟨n, e, h, q1⟩ t1 r1 => by
    subst e
    have e2 : (n - 0).toNat = n.toNat := by rw [Int.sub_zero]
    exact ⟨n, r1.int_inv, RgOk.of_le (by omega) h.2 (by omega) h.1, fun p hp => q1.ok t1.ok hp (by rw [← e2]; exact IsL.rg) fun d M4 v H4 p4 t4 => k d M4 v H4 p4 (t1.trans t4)⟩⟩
end
section
variable {M : Mem} {Q : D → Mem → Prop} {n : Int}
instance i_listRg {te : DTE} {τ : DSt} : Stp (dListRg1 te τ M Q) (te τ M fun x M1 => ∃ n : Int, x = .int n ∧ (0 ≤ n ∧ n ≤ 16777216) ∧ NewL (rangeD 0 n.toNat) M1 Q) := ⟨fun q => q⟩
theorem g_listRg {n : Int} (h0 : 0 ≤ n ∧ n ≤ 16777216) (q : NewL (rangeD 0 n.toNat) M Q) : ∃ m : Int, D.int n = .int m ∧ (0 ≤ m ∧ m ≤ 16777216) ∧ NewL (rangeD 0 m.toNat) M Q := ⟨n, rfl, h0, q⟩
end
end DL
namespace DL
open PySem L2 PySem.Spec
/-! a method whose last parameter has a default -/
structure MtdD (K : PySem.W.Frag) (C : Addr) (m qual : Str) (st : Stmt) (dv : V) : Prop where
  ex : ∃ f fd, FunD K m qual (defArgs st) (defBody st) (defScope st) [dv] [] f fd ∧ Meth K C m f
theorem mtdD_mk {K : PySem.W.Frag} {h : Heap} {mg : Str → Option Value} {x m qual : Str} {st : Stmt} {C : Addr} {dv : V} (X : K.In h) (G : h.Ns mainGlobals mg) (a : PySem.W.nsIn K mainGlobals x = some (some (.ref C))) {f T : Addr} {oc oc2 : Value} {od an od2 : Option Addr} {osl osl2 : Array (Option Value)} {kV doc pm cdv ct : Value} {its : Array Value} {n : Nat}
    (b : PySem.W.findIn K (.ref C) m = some (some (.ref f))) (i : PySem.W.isFn K (.ref f) = true) (l : K.lookup f = some ⟨oc, od, .func (PySem.W.fnOf m qual (defArgs st) (defBody st) (defScope st) (.ref T) kV doc pm an cdv ct), osl⟩)
    (c : PySem.W.codeIn K cdv qual = true) (k : PySem.W.keepIn K (.ref f) = true) (lT : K.lookup T = some ⟨oc2, od2, .seq its n, osl2⟩) (rT : Vals [dv] its.toList) : MtdD K (clsA mg x) m qual st dv := by
  rw [clsA_of X G a]
  exact ⟨f, _, ⟨⟨oc, od, .ref T, kV, doc, pm, an, cdv, ct, osl, rfl, l, c, .inr ⟨by simp, T, _, its.toList, n, rfl, lT, by rw [Array.toArray_toList], rT⟩, .inl rfl⟩, k⟩, ⟨b, i, k⟩⟩
theorem okDD {P : Program} {w : World} {K : PySem.W.Frag} {mg : Str → Option Value} {base : Heap} {x qual : Str} {st : Stmt} {f : Addr} {fd : FuncData} {N ps : List Str} {k : Nat} {sp : DSp} {dvs : List V} (F : FunD K x qual (defArgs st) (defBody st) (defScope st) dvs [] f fd) (S : FnScope N ps (defScope st)) (len : ∀ ds M Q, sp ds M Q → ds.length = ps.length)
    (hbody : ∀ (cdv : Value) (A : Around) (outer : List Env) (s : Shared) (H : Hp) (E : XK) (ds : List D) (M : Mem) (Q : D → Mem → Prop), Room k (A.deeper (PyProof.Rows.envOfC qual (defScope st) s.heap.objs.size f cdv)) → sp ds M Q →
      ∃ t, DSs (cxOf CX0 P w K mg base N qual (defScope st) f cdv A outer s H E).nox (defBody st) t ∧ t { nx := fun _ M' => Q .non M', rt := Q } (dstart N ds) M) : FnOk P w K mg base CX0 (k + 1) f fd ps (liP K sp) := by
  refine F.ok S (fun vs H Q E ⟨ds, M, G, R, o, r, q, _⟩ => by rw [r.length]; exact len ds M R q) fun cdv A outer s H vs Q E hr ⟨ds, M, G, R, o, r, q, kk⟩ => ?_
  obtain ⟨t, h1, h2⟩ := hbody cdv A outer s H E ds M R hr q
  refine ⟨_, PSs.nox h1, dstart N ds, M, G, _, ⟨o, IsS.start N r⟩, ⟨fun σ' H' τ' M' t1 s1 q1 => ?_, fun _ _ _ _ _ _ q => False.elim q, fun _ _ _ _ _ _ q => False.elim q, fun v H' d M' t1 r1 q1 => ?_⟩, h2⟩
  · exact kk .non M' .non H' q1 t1 .non
  · exact kk d M' v H' q1 t1 r1
/-- all arguments given, the short call, the last one by its name -/
structure MtV (P : Program) (w : World) (K : PySem.W.Frag) (mg : Str → Option Value) (base : Heap) (C : Addr) (m : Str) (ps : List Str) (last : Str) (dv : V) (k : Nat) (sp : DSp) : Prop where
  all : Mt P w K mg base C m ps k sp
  ex : ∃ f fd, FnOk P w K mg base CX0 k f fd ps (liP K sp) ∧ Meth K C m f ∧ (∃ us, Vals [dv] us ∧ Binds K fd ps us) ∧ KBn K fd ps (ps.length - 1) [last] (fun us ws => us ++ ws) (fun vs zs => vs ++ zs)
theorem okMD {P : Program} {w : World} {K : PySem.W.Frag} {mg : Str → Option Value} {base : Heap} {C : Addr} {m qual last : Str} {st : Stmt} {N ps : List Str} {k : Nat} {sp : DSp} {t : DTS} {dv : V} (D0 : MtdD K C m qual st dv) (S : FnScope N ps (defScope st))
    (bd : ∀ (T : Addr) (kV doc pm : Value) (an : Option Addr) (cdv ct : Value) (us its : List Value), us.length = ps.length → its.length = 1 → ∃ k, bindArgs (PySem.W.fnOf m qual (defArgs st) (defBody st) (defScope st) (.ref T) kV doc pm an cdv ct) ⟨us, []⟩ = seqItems? (.ref T) >>= k ∧ k (some its.toArray) = pure (ps.zip (us ++ its.drop 1)))
    (bd1 : ∀ (T : Addr) (kV doc pm : Value) (an : Option Addr) (cdv ct : Value) (us its : List Value), us.length = ps.length - 1 → its.length = 1 → ∃ k, bindArgs (PySem.W.fnOf m qual (defArgs st) (defBody st) (defScope st) (.ref T) kV doc pm an cdv ct) ⟨us, []⟩ = seqItems? (.ref T) >>= k ∧ k (some its.toArray) = pure (ps.zip (us ++ its.drop 0)))
    (bdk : ∀ (T : Addr) (kV doc pm : Value) (an : Option Addr) (cdv ct : Value) (us its ws : List Value), us.length = ps.length - 1 → its.length = 1 → ws.length = 1 → ∃ k, bindArgs (PySem.W.fnOf m qual (defArgs st) (defBody st) (defScope st) (.ref T) kV doc pm an cdv ct) ⟨us, [last].zip ws⟩ = seqItems? (.ref T) >>= k ∧ k (some its.toArray) = pure (ps.zip (us ++ ws)))
    (len : ∀ ds M Q, sp ds M Q → ds.length = ps.length)
    (der : ∀ (f : Addr) (cdv : Value) (A : Around) (outer : List Env) (s : Shared) (H : Hp) (E : XK), Room k (bodyX P w K mg base N qual st f cdv A outer s H E).A → DSs (bodyX P w K mg base N qual st f cdv A outer s H E) (defBody st) t)
    (hps : 1 ≤ ps.length)
    (body : ∀ (ds : List D) (M : Mem) (Q : D → Mem → Prop), sp ds M Q → t { nx := fun _ M' => Q .non M', rt := Q } (dstart N ds) M) : MtV P w K mg base C m ps last dv (k + 1) sp := by
  obtain ⟨f, fd, F, b⟩ := D0.ex
  have ok := okDD (mg := mg) (P := P) (w := w) (base := base) F S len (fun cdv A outer s H E ds M Q hr hs => ⟨t, der f cdv A outer s H E hr, body ds M Q hs⟩)
  obtain ⟨ds, v, bb⟩ := F.binds1 (ps := ps) ps.length 1 (by simp) (by simp) (fun T kV doc pm an cdv ct us its h1 h2 => bd T kV doc pm an cdv ct us its h1 h2)
  obtain ⟨ds2, v2, bb2⟩ := F.binds1 (ps := ps) (ps.length - 1) 0 (by simp) (by simp; omega) (fun T kV doc pm an cdv ct us its h1 h2 => bd1 T kV doc pm an cdv ct us its h1 h2)
  cases v
  refine ⟨⟨f, fd, ok, b, bb⟩, f, fd, ok, b, ⟨ds2, v2, bb2⟩, ⟨fun s us ws X l1 l2 => ?_, fun r1 r2 => r1.append r2⟩⟩
  obtain ⟨oc, od, dV, kV, doc, pm, an, cdv, ct, osl, rfl, lk, hcd, hD, hK⟩ := F.ex
  rcases hD with ⟨e, _⟩ | ⟨_, T, o, its, n, rfl, lT, oT, rT⟩
  · exact absurd e (by simp)
  · obtain ⟨kk, e1, e2⟩ := bdk T kV doc pm an cdv ct us its ws l1 rT.length.symm l2
    refine BindsTo.of_looks fun M => ?_
    rw [e1]
    exact looks_items X lT oT (.of_pure e2)
def dMethV (C : Addr) (m : Str) (dv : D) (sp : DSp) (ta : DTE) (t : DTA) : DTE := fun τ M Q => ta τ M fun x M1 => (∃ gs, Rdo M1 x C gs ∧ gs.lookup m = none) ∧ t τ M1 fun ds M2 => sp (x :: (ds ++ [dv])) M2 Q
def dMethK (C : Addr) (m : Str) (n mk : Nat) (sp : DSp) (ta : DTE) (t tk : DTA) : DTE := fun τ M Q => ta τ M fun x M1 => (∃ gs, Rdo M1 x C gs ∧ gs.lookup m = none) ∧ t τ M1 fun ds M2 => tk τ M2 fun zs M3 => (x :: ds).length = n ∧ zs.length = mk ∧ sp (x :: (ds ++ zs)) M3 Q
def tMethN (C : Addr) (m : Str) (n mk : Nat) (sp : Sp) (E : XK) (ta : TE) (t tk : TA) : TE := fun σ H Q => ta σ H fun x H1 => ∃ a dx fs, x = .ref a ∧ H1 a = some (.ins C dx fs) ∧ fs.lookup m = none ∧ t σ H1 fun vs H2 => tk σ H2 fun zs H3 => (V.ref a :: vs).length = n ∧ zs.length = mk ∧ sp ((V.ref a :: vs) ++ zs) H3 Q E
section
variable {X : Cx} {C : Addr} {f m x last : Str} {e o : Expr} {es : List Expr} {ta : DTE} {t tk : DTA} {pos apos : Pos} {k : Nat} {ps : List Str} {sp : DSp} {kws : List Keyword}
theorem pe_methN {CX : CXT} {pl : Sem Bool} {f : Addr} {fd : FuncData} {sp : Sp} {E : XK} {ta : TE} {t tk : TA} {ks : List Str} {n : Nat} (he : PE X o ta) (c : Cls X.K C) (hm : Meth X.K C m f) (F : FnOk X.prog X.w X.K X.mg X.base CX k f fd ps sp) (hr : Room k X.A) (hb : KBn X.K fd ps n ks (fun us ws => us ++ ws) (fun vs zs => vs ++ zs)) (hx : Passes CX X E) (ha : PA X (e :: es) t) (hkw : PK X kws tk)
    (hall : (backToKw pos (keywordEach kws X.env)).all (·.1.isSome) = true := by rfl) (hks : (backToKw pos (keywordEach kws X.env)).filterMap (·.1) = ks := by rfl)
    (hst : starEach (e :: es) X.env = (false, eval e X.env) :: starEach es X.env := by rfl)
    (hpl : ((backTo pos (starEach (e :: es) X.env)).any (·.1) || (backToKw pos (keywordEach kws X.env)).any (·.1.isNone)) = false := by rfl)
    (ht : eval (.Call (.Attribute o m apos) (e :: es) kws pos) X.env = (do
      let ov ← eval o X.env
      standAt apos.atName
      let (f, first) ← holding [ov] (getMethod ov m pl)
      callWith pos f first (backTo pos (starEach (e :: es) X.env)) (backToKw pos (keywordEach kws X.env))) := by rfl) :
    PE X (.Call (.Attribute o m apos) (e :: es) kws pos) (tMethN C m n ks.length sp E ta t tk) := by
  refine ⟨fun pins s σ H Q I h => ?_⟩
  refine PySem.W.methodCall_KW (pl := pl) (thn (he.run pins s σ H _ I h) fun u s1 ⟨x, H1, I1, rx, a, dx, fs, ex, ea, l, q⟩ => ?_) ht
  subst ex
  obtain rfl : u = Value.ref a := rx
  refine getmeth_ok I1 ea c hm l ?_
  refine PySem.W.callWith_KW (first := [.ref a]) (h₀ := X.base) I.ok.mod.kin hm.kp hall (thn (ha.run pos pins s1 σ H1 _ I1 q) fun us s2 ⟨vs, H2, I2, r, q2⟩ => ?_) hpl hst
  refine thn (hkw.run pos pins s2 σ H2 _ I2 q2) fun ws s3 ⟨zs, H3, I3, rz, l1, l2, q3⟩ => ⟨I3.kIn, ?_⟩
  rw [hks]
  exact run_fnN (us := .ref a :: us) (vs := .ref a :: vs) F hr hb hx I3 (.cons rfl r) rz l1 l2 q3
theorem de_methV {pl : Sem Bool} (c : Cls X.K C) (F : MtV X.prog X.w X.K X.mg X.base C m ps last .non k sp) (hr : Room k X.A) (he : DE X o ta) (ha : DA X (e :: es) t)
    (hst : starEach (e :: es) X.env = (false, eval e X.env) :: starEach es X.env := by rfl) (hpl : (backTo pos (starEach es X.env)).any (·.1) = false := by rfl)
    (ht : eval (.Call (.Attribute o m apos) (e :: es) [] pos) X.env = (do
      let ov ← eval o X.env
      standAt apos.atName
      let (f, first) ← holding [ov] (getMethod ov m pl)
      callWith pos f first (backTo pos (starEach (e :: es) X.env)) (backToKw pos (keywordEach [] X.env))) := by rfl) :
    DE X (.Call (.Attribute o m apos) (e :: es) [] pos) (dMethV C m .non sp ta t) := by
  obtain ⟨f, fd, a, b, ⟨us, v, c2⟩, _⟩ := F.ex
  refine peI (pe_meth (E := E0) he c b a hr c2 v pass0 ha hst hpl ht) fun σ H Q h => ?_
  obtain ⟨τ, M, F, P, s, q, kk⟩ := h
  refine ⟨τ, M, F, _, s, q, fun d M1 v H1 ⟨⟨gs, h1, h2⟩, q1⟩ t1 r1 => ?_⟩
  obtain ⟨a, dx, fs, e1, e2, e3⟩ := h1.get t1.ok r1
  subst e1
  refine ⟨a, dx, fs, rfl, e2, e3.none h2, τ, M1, F, _, s.to t1, q1, fun ds M2 vs H2 q2 t2 r2 => ?_⟩
  exact ⟨d :: (ds ++ [.non]), M2, F, P, t2.ok, .cons (r1.mono t2.ex) (r2.append (.cons .non .nil)), q2, fun d' M' v' H' p t => kk d' M' v' H' p ((t1.trans t2).trans t)⟩
theorem de_methK {pl : Sem Bool} (c : Cls X.K C) (F : MtV X.prog X.w X.K X.mg X.base C m ps last .non k sp) (hr : Room k X.A) (he : DE X o ta) (ha : DA X (e :: es) t) (hkw : DK X kws tk)
    (hall : (backToKw pos (keywordEach kws X.env)).all (·.1.isSome) = true := by rfl) (hks : (backToKw pos (keywordEach kws X.env)).filterMap (·.1) = [last] := by rfl)
    (hst : starEach (e :: es) X.env = (false, eval e X.env) :: starEach es X.env := by rfl)
    (hpl : ((backTo pos (starEach (e :: es) X.env)).any (·.1) || (backToKw pos (keywordEach kws X.env)).any (·.1.isNone)) = false := by rfl)
    (ht : eval (.Call (.Attribute o m apos) (e :: es) kws pos) X.env = (do
      let ov ← eval o X.env
      standAt apos.atName
      let (f, first) ← holding [ov] (getMethod ov m pl)
      callWith pos f first (backTo pos (starEach (e :: es) X.env)) (backToKw pos (keywordEach kws X.env))) := by rfl) :
    DE X (.Call (.Attribute o m apos) (e :: es) kws pos) (dMethK C m (ps.length - 1) 1 sp ta t tk) := by
  obtain ⟨f, fd, a, b, _, c2⟩ := F.ex
  refine peI (pe_methN (E := E0) he c b a hr c2 pass0 ha hkw hall hks hst hpl ht) fun σ H Q h => ?_
  obtain ⟨τ, M, F, P, s, q, kk⟩ := h
  refine ⟨τ, M, F, _, s, q, fun d M1 v H1 ⟨⟨gs, h1, h2⟩, q1⟩ t1 r1 => ?_⟩
  obtain ⟨a, dx, fs, e1, e2, e3⟩ := h1.get t1.ok r1
  subst e1
  refine ⟨a, dx, fs, rfl, e2, e3.none h2, τ, M1, F, _, s.to t1, q1, fun ds M2 vs H2 q2 t2 r2 => ⟨τ, M2, F, _, (s.to t1).to t2, q2, fun zs M3 us H3 ⟨l1, l2, q3⟩ t3 r3 => ?_⟩⟩
  refine ⟨by rw [← l1, List.length_cons, List.length_cons, r2.length], by rw [r3.length]; exact l2, d :: (ds ++ zs), M3, F, P, t3.ok, .cons (r1.mono (t2.trans t3).ex) ((r2.mono t3.ex).append r3), q3, fun d' M' v' H' p t => kk d' M' v' H' p (((t1.trans t2).trans t3).trans t)⟩
end
section
variable {C : Addr} {m : Str} {n mk : Nat} {sp : DSp} {ta : DTE} {t tk : DTA} {τ : DSt} {M : Mem} {Q : D → Mem → Prop} {dv : D}
instance i_methV : Stp (dMethV C m dv sp ta t τ M Q) (ta τ M fun x M1 => (∃ gs, Rdo M1 x C gs ∧ gs.lookup m = none) ∧ t τ M1 fun ds M2 => sp (x :: (ds ++ [dv])) M2 Q) := ⟨fun q => q⟩
instance i_methK : Stp (dMethK C m n mk sp ta t tk τ M Q) (ta τ M fun x M1 => (∃ gs, Rdo M1 x C gs ∧ gs.lookup m = none) ∧ t τ M1 fun ds M2 => tk τ M2 fun zs M3 => (x :: ds).length = n ∧ zs.length = mk ∧ sp (x :: (ds ++ zs)) M3 Q) := ⟨fun q => q⟩
end
end DL
namespace DL
open PySem L2 PySem.Spec
/-! an int in a list or tuple of ints -/
def sqD (M : Mem) (y : D) (ns : List Int) : Prop := Srd M y (ns.map .int) ∨ y = .tup (ns.map .int)
def oInI (neg : Bool) : DOp := fun x y M Q => ∃ (a : Int) (ns : List Int), x = .int a ∧ sqD M y ns ∧ Q (.bl (if neg then !decide (a ∈ ns) else decide (a ∈ ns))) M
theorem inV_ints (a : Int) (ns : List Int) : inV (.int a) (ns.map .int) = decide (a ∈ ns) := by
  unfold inV
  induction ns with
  | nil => rfl
  | cons b ns ih =>
    rw [List.map_cons, List.any_cons, ih]
    show ((b == a) || _) = _
    by_cases h : b = a
    · subst h; simp
    · have : ¬ a = b := fun e => h e.symm
      rw [beq_eq_false_iff_ne.mpr h]; simp [this]
theorem flat_ints (ns : List Int) : (ns.map V.int).all flatV = true := by
  induction ns with
  | nil => rfl
  | cons b ns ih => rw [List.map_cons, List.all_cons, ih]; rfl
theorem liIn {X : Cx} {op : CmpOp} (neg : Bool) (h : OpR X (compareOp op) (rIn X.K neg)) : OpR X (compareOp op) (liO X.K (oInI neg)) := opRI h fun x y H Q ⟨dx, dy, M, F, P, o, r1, r2, ⟨a, ns, e1, s, p⟩, k⟩ => by
  subst e1
  have e := r1.int_inv
  subst e
  have fin : ∀ {b : Addr} {ws : List V}, y = .ref b → (SqL X.K H b ws ∨ SqT X.K H b ws) → IsL X.K (stab H M F) ws (ns.map .int) → rIn X.K neg (.int a) y H Q := fun {b ws} ey h1 h2 => by
    have e := h2.ints
    subst e
    exact ⟨b, _, ey, h1, rfl, flat_ints ns, by rw [inV_ints]; exact k _ M _ H p (To.refl o) (.bl _)⟩
  rcases s with s | s
  · obtain ⟨b, ws, ey, h1, h2⟩ := s.get o r2
    exact fin ey (.inl h1) h2
  · subst s
    cases r2 with
    | tup h1 h2 => exact fin rfl (.inr (ex_t stab_le h1)) h2
theorem or_inI {X : Cx} : OpR X (compareOp .In) (liO X.K (oInI false)) := liIn false op_in_seq
theorem or_notinI {X : Cx} : OpR X (compareOp .NotIn) (liO X.K (oInI true)) := liIn true op_notIn_seq
section
variable {M : Mem} {Q : D → Mem → Prop} {y : D} {a : Nat} {fs : List Nat}
theorem mem_natI (a : Nat) (fs : List Nat) : ((a : Int) ∈ fs.map fun (k : Nat) => (k : Int)) ↔ a ∈ fs := by
  rw [List.mem_map]
  constructor
  · rintro ⟨b, hb, e⟩
    have : b = a := by omega
    exact this ▸ hb
  · exact fun h => ⟨a, h, rfl⟩
theorem g_inL (q : Q (.bl (decide (a ∈ fs))) M) : oInI false (.int (a : Int)) (.lst (fs.map fun (k : Nat) => .int (k : Int))) M Q :=
  ⟨(a : Int), fs.map fun (k : Nat) => (k : Int), rfl, .inl (by rw [List.map_map]; exact .l), by simp only [Bool.false_eq_true, if_false, mem_natI]; exact q⟩
theorem g_niL (q : Q (.bl (!decide (a ∈ fs))) M) : oInI true (.int (a : Int)) (.lst (fs.map fun (k : Nat) => .int (k : Int))) M Q :=
  ⟨(a : Int), fs.map fun (k : Nat) => (k : Int), rfl, .inl (by rw [List.map_map]; exact .l), by simp only [if_true, mem_natI]; exact q⟩
theorem g_inT (q : Q (.bl (decide (a ∈ fs))) M) : oInI false (.int (a : Int)) (.tup (fs.map fun (k : Nat) => .int (k : Int))) M Q :=
  ⟨(a : Int), fs.map fun (k : Nat) => (k : Int), rfl, .inr (by rw [List.map_map]; rfl), by simp only [Bool.false_eq_true, if_false, mem_natI]; exact q⟩
theorem g_niT (q : Q (.bl (!decide (a ∈ fs))) M) : oInI true (.int (a : Int)) (.tup (fs.map fun (k : Nat) => .int (k : Int))) M Q :=
  ⟨(a : Int), fs.map fun (k : Nat) => (k : Int), rfl, .inr (by rw [List.map_map]; rfl), by simp only [if_true, mem_natI]; exact q⟩
theorem g_listL {xs : List D} (q : NewL xs M Q) : bList [.lst xs] M Q := ⟨_, rfl, xs, .l, q⟩
theorem g_addL2 {xs ys : List D} (h : xs.length + ys.length ≤ 1000000) (q : NewL (xs ++ ys) M Q) : oAdd (.lst xs) (.lst ys) M Q := ⟨xs, ys, .l, .l, Nat.le_trans h (by decide), q⟩
theorem g_neB {b : Bool} (q : Q (.bl false) M) : oNe (.bl b) (.bl b) M Q := .inl ⟨true, by simp [eqS], q⟩
theorem g_eqB {b : Bool} (q : Q (.bl true) M) : oEq (.bl b) (.bl b) M Q := .inl ⟨true, by simp [eqS], q⟩
theorem cutD_neg {xs : List D} {k : Nat} (hk : 0 < k) : cutD xs (some (-(k : Int))) none = xs.drop (xs.length - k) := by
  unfold cutD
  have e1 : HT.sIx xs.length 0 (some (-(k : Int))) = xs.length - k := by
    show (if (-(k : Int)) < 0 then _ else _) = _
    rw [if_pos (by omega)]; omega
  have e2 : HT.sIx xs.length xs.length none = xs.length := rfl
  rw [e1, e2]
  refine List.take_of_length_le ?_
  rw [List.length_drop]; exact Nat.le_refl _
end
end DL
namespace DL
open PySem L2 PySem.Spec
instance i_pat2 {i j : Nat} {a0 a1 : D} {τ : DSt} {M : Mem} {QS : DSt → Mem → Prop} : Stp (gTp [i, j].length (gsNames [i, j]) (.tup [a0, a1]) τ M QS) (gsCons (gNm i) (gsCons (gNm j) gsNil) [a0, a1] τ M QS) := ⟨fun q => ⟨_, rfl, rfl, q⟩⟩
instance i_pat3 {i j k : Nat} {a0 a1 a2 : D} {τ : DSt} {M : Mem} {QS : DSt → Mem → Prop} : Stp (gTp [i, j, k].length (gsNames [i, j, k]) (.tup [a0, a1, a2]) τ M QS) (gsCons (gNm i) (gsCons (gNm j) (gsCons (gNm k) gsNil)) [a0, a1, a2] τ M QS) := ⟨fun q => ⟨_, rfl, rfl, q⟩⟩
theorem g_tupL {xs : List D} {M : Mem} {Q : D → Mem → Prop} (q : Q (.tup xs) M) : bTuple [.lst xs] M Q := ⟨_, rfl, xs, .l, q⟩
end DL
namespace DL
open PySem L2 PySem.Spec PyProof.Rows Builtin
/-! len of an object with an own __len__ -/
theorem len_own {prog : Program} {w : World} {A : Around} {E : Value → Shared → Prop} {s : Shared} {K : PySem.W.Frag} {x C f : Addr} {ox : Obj} {od : Option Obj} {Q : Value → Shared → Prop} (X : K.In s.heap) (I : PySem.W.InstAt s.heap x ox C od) (hs : PySem.W.findIn K (.ref C) "__len__" = some (some (.ref f))) (hf : PySem.W.isFn K (.ref f) = true)
    (h : wpAny (model prog w) A.in1 (call (.ref f) [.ref x]) (PySem.W.LenBack Q) E s) : wpAny (model prog w) A (call (.builtin "len") [.ref x]) Q E s := by
  refine Calls.call_function_entry kind_len plain_len entry_len (args_len1 _) ?_
  unfold Builtin.«len»
  refine wpAny_bind (m := oneArg "len" _) (wpAny_pure ?_)
  refine wpAny_bind (m := callSpecial? (.ref x) (PySem.Str.ofString "__len__")) (PySem.W.special_fn X I hs (beq_iff_eq.mp hf) (wpAny_mono h (fun r s' hr => ?_) fun _ _ y => y))
  cases r <;> first | exact hr.elim | skip
  rename_i n u
  obtain ⟨⟨h0, h1⟩, hq⟩ := hr
  refine wpAny_bind (wpAny_holding (wpAny_pure ?_))
  refine wpAny_bind (wpAny_letGo ?_)
  show wpAny _ _ (if n < 0 then _ else _) _ _ _
  rw [if_neg (by omega)]
  show wpAny _ _ (if n ≥ 2 ^ 63 then _ else _) _ _ _
  rw [if_neg (by omega)]
  exact wpAny_bind (wpAny_mkInt (wpAny_pure ⟨_, rfl, hq⟩))
theorem call_lenOwn {X : Cx} {C f : Addr} {fd : FuncData} {ps : List PySem.Str} {k : Nat} {sp : Sp} (hm : Meth X.K C "__len__" f) (F : FnOk X.prog X.w X.K X.mg X.base CX0 k f fd ps sp) (hr : Room (k + 1) X.A) (hb : Binds X.K fd ps []) :
    CallR X (.builtin "len") (fun xs H Q => ∃ a dx fs, xs = [.ref a] ∧ H a = some (.ins C dx fs) ∧ sp [.ref a] H (fun v H2 => ∃ n : Int, v = .int n ∧ 0 ≤ n ∧ n < 2 ^ 63 ∧ Q (.int n) H2) E0) := by
  intro pins s σ H xs us Q I r h
  obtain ⟨a, dx, fs, rfl, ea, q⟩ := h
  obtain ⟨u, rfl, rx⟩ := vals1 r
  obtain rfl : u = Value.ref a := rx
  obtain ⟨mA, O, _⟩ := ins_get I.hok ea
  obtain ⟨od, J, _⟩ := O.look
  refine len_own I.kIn J hm.at_ hm.fn ?_
  have r2 : Vals [V.ref a] [Value.ref a] := .cons rfl .nil
  have hl : ([Value.ref a] ++ []).length = ps.length := F.len _ _ _ _ q
  have bb := hb s [.ref a] I.kIn hl
  rw [List.append_nil] at bb
  refine wpAny_call (codeAny_mono (F.run X.A.in1 X.stack s H ⟨[.ref a], []⟩ [.ref a] [.ref a] _ E0 hr.in1 I.env0.in1 bb r2 q) fun r s' hq => ?_)
  cases r with
  | error e => exact False.elim hq
  | ok fl =>
    cases fl with
    | ret u =>
      obtain ⟨v, H2, I2, rv, n, e, h0, h1, q2⟩ := I.after hq
      subst e
      obtain ⟨t, rfl⟩ := rv
      exact ⟨⟨h0, h1⟩, .int n, H2, I2.tok _, ⟨_, rfl⟩, q2⟩
    | next => exact False.elim hq
    | brk => exact False.elim hq
    | cont => exact False.elim hq
def bLenO (C : Addr) (sp : DSp) : DCl := fun ds M Q => ∃ d, ds = [d] ∧ (∃ gs, Rdo M d C gs) ∧ sp [d] M fun v M2 => ∃ n : Nat, v = .int (n : Int) ∧ n < 2 ^ 63 ∧ Q (.int (n : Int)) M2
theorem cd_lenO {X : Cx} {C : Addr} {ps : List PySem.Str} {k : Nat} {sp : DSp} (h : Mt X.prog X.w X.K X.mg X.base C "__len__" ps k sp) (hr : Room (k + 1) X.A) : CallR X (.builtin "len") (liC X.K (bLenO C sp)) := by
  obtain ⟨f, fd, a, b, c⟩ := h.ex
  refine crI (call_lenOwn b a hr c) fun vs H Q ⟨ds, M, F, P, o, r, ⟨d, e, ⟨gs, h1⟩, q⟩, k⟩ => ?_
  subst e
  obtain ⟨v, rfl, rv⟩ := r.one_inv
  obtain ⟨a, dx, fs, e1, e2, e3⟩ := h1.get o rv
  subst e1
  refine ⟨a, dx, fs, rfl, e2, [d], M, F, _, o, .cons rv .nil, q, fun d' M' v' H' ⟨n, e, hn, p⟩ t r' => ?_⟩
  subst e
  rw [r'.int_inv]
  exact ⟨_, rfl, by omega, by omega, k _ M' _ H' p t (.int _)⟩
instance i_lenO {C : Addr} {sp : DSp} {d : D} {M : Mem} {Q : D → Mem → Prop} : Stp (bLenO C sp [d] M Q) ((∃ gs, Rdo M d C gs) ∧ sp [d] M fun v M2 => ∃ n : Nat, v = .int (n : Int) ∧ n < 2 ^ 63 ∧ Q (.int (n : Int)) M2) := ⟨fun q => ⟨d, rfl, q⟩⟩
/-! isinstance with an own class -/
structure IsiC (K : PySem.W.Frag) (C : Addr) : Prop where
  ha : PySem.W.findIn K (.ref C) "__class__" = some (some (.builtin "object.__class__"))
  hn : PySem.W.specialIn K (.builtin "object.__class__") "__get__" = some (some (.builtin "getset_descriptor.__get__"))
  htk : PySem.W.takesIn K (.builtin "object.__class__") = some true
  hm : PySem.W.mroIn K C (.type "object") = some true
  kit : PySem.W.kitOne K (.ref C) (.ref C) = some true
theorem isi_mk {K : PySem.W.Frag} {h : Heap} {mg : PySem.Str → Option Value} {x : PySem.Str} {C : Addr} (X : K.In h) (G : h.Ns mainGlobals mg) (a : PySem.W.nsIn K mainGlobals x = some (some (.ref C)))
    (ha : PySem.W.findIn K (.ref C) "__class__" = some (some (.builtin "object.__class__"))) (hn : PySem.W.specialIn K (.builtin "object.__class__") "__get__" = some (some (.builtin "getset_descriptor.__get__")))
    (htk : PySem.W.takesIn K (.builtin "object.__class__") = some true) (hm : PySem.W.mroIn K C (.type "object") = some true) : IsiC K (clsA mg x) := by
  rw [clsA_of X G a]; exact ⟨ha, hn, htk, hm, if_pos (beq_self_eq_true _)⟩
def bIsiO (C : Addr) : DCl := fun ds M Q => ∃ d, ds = [d, .ref C] ∧ (∃ gs, Rdo M d C gs) ∧ Q (.bl true) M
theorem cd_isiO {X : Cx} {C : Addr} (cl : Cls X.K C) (h : IsiC X.K C) : CallR X (.builtin "isinstance") (liC X.K (bIsiO C)) := crI call_isi fun vs H Q ⟨ds, M, F, P, o, r, ⟨d, e, ⟨gs, h1⟩, q⟩, k⟩ => by
  subst e
  obtain ⟨v, w, rfl, rv, rw'⟩ := r.two_inv
  have ew : w = .ref C := by cases rw'; rfl
  subst ew
  obtain ⟨a, dx, fs, e1, e2, e3⟩ := h1.get o rv
  subst e1
  exact ⟨_, _, .ref C, .ref C, true, rfl, .own C, .base (.ins e2 cl h.ha h.hn h.htk h.hm), h.kit, k _ M _ H q (To.refl o) (.bl true)⟩
instance i_isiO {C : Addr} {d : D} {M : Mem} {Q : D → Mem → Prop} : Stp (bIsiO C [d, .ref C] M Q) ((∃ gs, Rdo M d C gs) ∧ Q (.bl true) M) := ⟨fun q => ⟨d, rfl, q⟩⟩
end DL
namespace DL
open PySem L2 PySem.Spec
/-! a stop on the way where cells become data -/
def dFrz (t : DTS) : DTS := fun Y τ M => ∃ I : DSt → Mem → Prop, t ⟨fun τ' M' => ∃ N τ2, Sub N M' ∧ VwS M' N τ' τ2 ∧ I τ2 N, Y.rt, Y.bk, Y.ct⟩ τ M ∧ ∀ τ' M', I τ' M' → Y.nx τ' M'
theorem ds_frz {X : Cx} {st : Stmt} {t : DTS} (h : DS X st t) : DS X st (dFrz t) := psI h fun Z σ H ⟨τ, M, F, Y, s, k, I, q, i⟩ =>
  ⟨τ, M, F, ⟨fun τ' M' => ∃ N τ2, Sub N M' ∧ VwS M' N τ' τ2 ∧ I τ2 N, Y.rt, Y.bk, Y.ct⟩, s, ⟨fun σ H' τ M' tt ss ⟨N, τ2, sb, fz, j⟩ => k.nx σ H' τ2 N (tt.trans (To.sub tt.ok sb)) (fz X.K F H' σ tt.ok ss) (i τ2 N j), k.bk, k.ct, k.rt⟩, q⟩
theorem g_frz {t : DTS} {nx rt bk ct} {τ : DSt} {M : Mem} (I : DSt → Mem → Prop) (q : t ⟨fun τ' M' => ∃ N τ2, Sub N M' ∧ VwS M' N τ' τ2 ∧ I τ2 N, rt, bk, ct⟩ τ M) (i : ∀ τ' M', I τ' M' → nx τ' M') : dFrz t ⟨nx, rt, bk, ct⟩ τ M := ⟨I, q, i⟩
theorem r_fz {M N : Mem} {d e : D} {Q : D → Mem → Prop} (s : Sub N M) (h : Vw M N d e) (q : Q e N) : ∃ N e, View M d N e ∧ Q e N := ⟨N, e, .fz s h, q⟩
/-! over a list or a tuple -/
def wSq (te : DTE) : DTI := fun τ M Q => wList te τ M Q ∨ wTup te τ M Q
theorem di_sq {X : Cx} {tg e : Expr} {te : DTE} (he : DE X e te) : DI X tg e (wSq te) := ⟨fun pins s σ H R I ⟨τ, M, F, P, st, q, k⟩ => by
  rcases q with q | q
  · exact (di_list he).run pins s σ H R I ⟨τ, M, F, P, st, q, k⟩
  · exact (di_tup he).run pins s σ H R I ⟨τ, M, F, P, st, q, k⟩⟩
end DL

set_option Elab.async false
set_option linter.all false
set_option maxRecDepth 100000
set_option maxHeartbeats 2000000
namespace DL
open PySem L2 PySem.Spec
/-! ### a tuple of texts as a constant of a class -/
structure CCon (K : PySem.W.Frag) (C : Addr) (f : PySem.Str) (ys : List PySem.Str) : Prop where
  ex : ∃ t mc, Con K C f (.ref t) (.ref t) ∧ ClX.CRead K C mc ∧ ClX.CVal K C mc f (.ref t) (.ref t) ∧ (∃ o, K.lookup t = some o ∧ o.cls = .type "tuple" ∧ o.dict = none) ∧ ∀ S, SqT K S t (ys.map V.str)
theorem isL_strs {K : PySem.W.Frag} {S : Hp} : ∀ ys : List PySem.Str, IsL K S (ys.map V.str) (ys.map D.str)
  | [] => .nil
  | y :: ys => .cons (.str y) (isL_strs ys)
theorem ccon_mk {K : PySem.W.Frag} {h : Heap} {mg : PySem.Str → Option Value} {x f : PySem.Str} {C t : Addr} {its : Array Value} {n : Nat} {osl : Array (Option Value)} {mc : Value} {ys : List PySem.Str} (X : K.In h) (G : h.Ns mainGlobals mg) (a : PySem.W.nsIn K mainGlobals x = some (some (.ref C)))
    (b : PySem.W.findIn K (.ref C) f = some (some (.ref t))) (g : PySem.W.specialIn K (.ref t) "__get__" = some none) (cp : PySem.W.copiedNames.contains f = false)
    (l : K.lookup t = some ⟨.type "tuple", none, .seq its n, osl⟩) (sz : its.size ≤ sizeLine) (vs : Vals (ys.map V.str) its.toList)
    (rd : PySem.W.readsIn K C mc = true) (ga : PySem.W.specialIn K (.ref C) "__getattribute__" = some (some (.builtin "type.__getattribute__"))) (fc : PySem.W.findCls K (.ref C) mc f = some (.val (.ref t))) : CCon K (clsA mg x) f ys := by
  rw [clsA_of X G a]
  exact ⟨t, mc, ⟨b, rfl, g, cp⟩, ⟨rd, ga⟩, ⟨fc, rfl⟩, ⟨_, l, rfl, rfl⟩, fun S => .inr ⟨_, its, n, l, rfl, rfl, sz, vs⟩⟩
def dCon (C : Addr) (f : PySem.Str) (ys : List PySem.Str) (ta : DTE) : DTE := fun τ M Q => ta τ M fun x M1 => (∃ gs, Rdo M1 x C gs ∧ gs.lookup f = none) ∧ Q (.tup (ys.map D.str)) M1
def dCCl (C : Addr) (ys : List PySem.Str) (ta : DTE) : DTE := fun τ M Q => ta τ M fun x M1 => x = .ref C ∧ Q (.tup (ys.map D.str)) M1
/-- C.f.index(e) -/
def dCIx (C : Addr) (ys : List PySem.Str) (ta tb : DTE) : DTE := fun τ M Q => ta τ M fun x M1 => x = .ref C ∧ tb τ M1 fun y M2 => ∃ (z : PySem.Str) (j : Nat), y = .str z ∧ ys[j]? = some z ∧ (∀ m, m < j → ys[m]? ≠ some z) ∧ Q (.int (j : Nat)) M2
section
variable {X : Cx} {C : Addr} {f : PySem.Str} {e a : Expr} {ys : List PySem.Str} {ta tb : DTE} {pos p1 p2 : Pos}
theorem de_con (c : Cls X.K C) (n : CCon X.K C f ys) (he : DE X e ta) (hb : attributeBase e f X.env (eval e X.env) = eval e X.env := by rfl) : DE X (.Attribute e f pos) (dCon C f ys ta) := peI (pe_con he hb) fun σ H Q ⟨τ, M, F, P, s, q, kk⟩ =>
  ⟨τ, M, F, _, s, q, fun x M1 v H1 ⟨⟨gs, h1, h2⟩, q1⟩ t1 r1 => by
    obtain ⟨a, dx, fs, e1, e2, e3⟩ := h1.get t1.ok r1
    obtain ⟨t, mc, cn, _, _, _, st⟩ := n.ex
    exact ⟨a, C, dx, fs, .ref t, .ref t, e1, e2, c, cn, e3.none h2, kk _ M1 _ H1 q1 t1 (.tup (st _) (isL_strs ys))⟩⟩
theorem de_ccl (n : CCon X.K C f ys) (he : DE X e ta) (hb : attributeBase e f X.env (eval e X.env) = eval e X.env := by rfl) : DE X (.Attribute e f pos) (dCCl C ys ta) := peI (ClX.pe_cval he hb) fun σ H Q ⟨τ, M, F, P, s, q, kk⟩ =>
  ⟨τ, M, F, _, s, q, fun x M1 v H1 ⟨h1, q1⟩ t1 r1 => by
    subst h1
    obtain ⟨t, mc, _, rd, cv, _, st⟩ := n.ex
    exact ⟨C, mc, .ref t, .ref t, by cases r1; rfl, rd, cv, kk _ M1 _ H1 q1 t1 (.tup (st _) (isL_strs ys))⟩⟩
theorem de_cix (n : CCon X.K C f ys) (he : DE X e ta) (ha : DE X a tb) (hb : attributeBase e f X.env (eval e X.env) = eval e X.env := by rfl)
    (hbase : attributeBase (.Attribute e f p1) "index" X.env (eval (.Attribute e f p1) X.env) = eval (.Attribute e f p1) X.env := by rfl)
    (hfew : ((backTo pos (starEach [a] X.env)).all (fun x => !x.1) && (backToKw pos (keywordEach [] X.env)).all (fun x => x.1.isSome)
      && decide ([a].length + ([] : List Keyword).length + (if ([] : List Keyword).isEmpty then 0 else 1) < 30)) = true := by rfl)
    (hline : (p2.endLine == pos.line) = true := by rfl) (hs : starEach [a] X.env = (false, eval a X.env) :: starEach [] X.env := by rfl) (hplain : (backTo pos (starEach [] X.env)).any (·.1) = false := by rfl) :
    DE X (.Call (.Attribute (.Attribute e f p1) "index" p2) [a] [] pos) (dCIx C ys ta tb) := peI (pe_bm PySem.F.plainAttrs_tuple PySem.F.slot_tuple_index PySem.F.type_tuple_index mt_tup_index (ClX.pe_cval he hb) (da_cons ha da_nil hs) hbase hfew hline hs hplain) fun σ H Q ⟨τ, M, F, P, s, q, kk⟩ =>
  ⟨τ, M, F, _, s, q, fun x M1 v H1 ⟨h1, q1⟩ t1 r1 => by
    subst h1
    obtain ⟨t, mc, _, rd, cv, tt, st⟩ := n.ex
    refine ⟨C, mc, .ref t, .ref t, by cases r1; rfl, rd, cv, .inr (.inl ⟨rfl, tt⟩), τ, M1, F, fun ds M2 => ∃ y, ds = [y] ∧ ∃ (z : PySem.Str) (j : Nat), y = .str z ∧ ys[j]? = some z ∧ (∀ m, m < j → ys[m]? ≠ some z) ∧ P (.int (j : Nat)) M2, s.to t1, ?_, ?_⟩
    · have e : (fun (y : D) (M2 : Mem) => ∃ (z : PySem.Str) (j : Nat), y = .str z ∧ ys[j]? = some z ∧ (∀ m, m < j → ys[m]? ≠ some z) ∧ P (.int (j : Nat)) M2) = fun y M2 => ∃ y', [y] = [y'] ∧ ∃ (z : PySem.Str) (j : Nat), y' = .str z ∧ ys[j]? = some z ∧ (∀ m, m < j → ys[m]? ≠ some z) ∧ P (.int (j : Nat)) M2 := by
        funext y M2
        apply propext
        constructor
        · exact fun h => ⟨y, rfl, h⟩
        · rintro ⟨y', e, h⟩; cases e; exact h
      rw [e] at q1
      exact q1
    · rintro ds M2 vs H2 ⟨y, rfl, z, j, rfl, h2, h3, q2⟩ t2 r2
      obtain ⟨w, rfl, rw'⟩ := r2.one_inv
      obtain rfl : w = .str z := by cases rw'; rfl
      exact ⟨t, ys, z, j, rfl, rfl, st _, h2, h3, kk _ M2 _ H2 q2 (t1.trans t2) (.int _)⟩⟩
end
instance i_con {C : Addr} {f : PySem.Str} {ys : List PySem.Str} {ta : DTE} {τ : DSt} {M : Mem} {Q : D → Mem → Prop} : Stp (dCon C f ys ta τ M Q) (ta τ M fun x M1 => (∃ gs, Rdo M1 x C gs ∧ gs.lookup f = none) ∧ Q (.tup (ys.map D.str)) M1) := ⟨fun q => q⟩
instance i_ccl {C : Addr} {ys : List PySem.Str} {ta : DTE} {τ : DSt} {M : Mem} {Q : D → Mem → Prop} : Stp (dCCl C ys ta τ M Q) (ta τ M fun x M1 => x = .ref C ∧ Q (.tup (ys.map D.str)) M1) := ⟨fun q => q⟩
instance i_cix {C : Addr} {ys : List PySem.Str} {ta tb : DTE} {τ : DSt} {M : Mem} {Q : D → Mem → Prop} : Stp (dCIx C ys ta tb τ M Q) (ta τ M fun x M1 => x = .ref C ∧ tb τ M1 fun y M2 => ∃ (z : PySem.Str) (j : Nat), y = .str z ∧ ys[j]? = some z ∧ (∀ m, m < j → ys[m]? ≠ some z) ∧ Q (.int (j : Nat)) M2) := ⟨fun q => q⟩
instance i_isC {C : Addr} {A : Prop} : Stp (D.ref C = .ref C ∧ A) A := ⟨fun q => ⟨rfl, q⟩⟩
end DL

set_option Elab.async false
set_option linter.all false
set_option maxRecDepth 100000
set_option maxHeartbeats 2000000
namespace DL
open PySem L2 PySem.Spec PyProof.Rows
/-! ### a // b of any size: where CPython divides by a module of its own, the recursion's limit must be 100 frames away -/
structure Sr (P : Program) (base : Heap) : Prop where
  seer : base.NoSeer
  tree : P.given.tree = none
def oDivP : DOp := oI (fun _ j => 0 < j) fun i j => .int (i / j)
section
variable {X : Cx}
theorem op_divP (S : Sr X.prog X.base) (hr : Room 32 X.A) (hst : X.stack = X.env :: X.outer) (hg : X.env.scope.isGenerator = false) (hc : X.env.scope.isCoroutine = false) : OpR X (binaryOp .FloorDiv) (rI (fun _ j => 0 < j) fun i j => .int (i / j)) := by
  intro pins s σ H x y v u Q I rx ry ⟨i, j, ex, ey, pos, q⟩
  subst ex; subst ey
  obtain ⟨t, rfl⟩ := rx
  obtain ⟨t', rfl⟩ := ry
  have sa : SeerAt (model X.prog X.w) X.A s.heap := SeerAt.of (S.seer.keeps I.bk) S.tree (by rw [I.ok.frames, hst]) hg hc I.ok.blt I.ok.glob
  have room : X.A.depth + Builtin.pylongFrames < recursionLimit := by
    have := hr.dp
    show X.A.depth + 100 < _
    omega
  have e : i.fdiv j = i / j := Int.fdiv_eq_ediv_of_nonneg i (by omega)
  exact floordiv_int (by omega) ⟨.int (i / j), H, I.tok _, ⟨_, by rw [e]⟩, q⟩ (.inr (PylongRoom.of I.nolimit room sa))
theorem or_divP (S : Sr X.prog X.base) (hr : Room 32 X.A) (hst : X.stack = X.env :: X.outer := by rfl) (hg : X.env.scope.isGenerator = false := by rfl) (hc : X.env.scope.isCoroutine = false := by rfl) : OpR X (binaryOp .FloorDiv) (liO X.K oDivP) := or_I (op_divP S hr hst hg hc)
end
section
variable {i j : Int} {n m : Nat} {M : Mem} {Q : D → Mem → Prop}
theorem n_divP [a : NatI i n] [b : NatI j m] (c : 0 < m) (q : Q (.int ((n / m : Nat) : Int)) M) : oDivP (.int i) (.int j) M Q := by
  obtain ⟨rfl⟩ := a; obtain ⟨rfl⟩ := b
  exact ⟨_, _, rfl, rfl, by omega, by show Q (.int ((n : Int) / (m : Int))) M; rw [← Int.natCast_ediv]; exact q⟩
end
/-! ### the law's own def, with that fact -/
theorem seer_hid {h : Heap} {H : Hp} {L : Obj} (N : h.NoSeer) (keep : ∀ b o, h.get? b = some o → o ≠ L → (hidT h H).get? b = some o) (nd : ∀ es ep, L.data ≠ .dict es ep) (nm : L.cls ≠ .type "module") : (hidT h H).NoSeer := by
  have ns : ∀ {b : Addr} {m : PySem.Str → Option Value}, h.Ns b m → (hidT h H).Ns b m := fun ⟨o, es, ep, g, d, r⟩ => ⟨o, es, ep, keep _ _ g fun z => nd es ep (z ▸ d), d, r⟩
  obtain ⟨mc, c1, c2⟩ := N.statics
  obtain ⟨mm, m1, m2⟩ := N.mods
  obtain ⟨mb, b1, b2⟩ := N.imp
  obtain ⟨mg, bm, ob, g1, g2, g3, g4, g5⟩ := N.main
  exact ⟨⟨mc, ns c1, c2⟩, ⟨mm, ns m1, m2⟩, ⟨mb, ns b1, b2⟩, ⟨mg, bm, ob, ns g1, g2, keep _ _ g3 fun z => nm (z ▸ g4), g4, g5⟩⟩
/-- the heap without the script, and the law's def called over it -/
theorem call_seer {P : Program} {w : World} {K : PySem.W.Frag} {mg mb : PySem.Str → Option Value} {k : Nat} {fa a : Addr} {fd : FuncData} {x : PySem.Str} {sp : Sp} {s1 : Shared} {us : List Value} {ns : List Int}
    (kin : K.In s1.heap) (main : s1.heap.Ns mainGlobals mg) (blt : s1.heap.Ns builtinsNs mb) (boot : ∀ x : PySem.Str, x ≠ "__name__" → mb x = bootBuiltins x) (lim : s1.heap.NoLimit) (see : s1.heap.NoSeer) (gens : s1.gens = #[])
    (scr : s1.heap.get? a = some { cls := .type "list", data := .seq us.toArray }) (hin : IntsAre us ns) (short : ns.length ≤ sizeLine) (room : Room k callerA)
    (F : ∀ base : Heap, base.NoSeer → FnOk P w K mg base CX0 k fa fd [x] sp) (bind : ∀ (s : Shared) (u : Value), BindsTo s fd ⟨[u], []⟩ [(x, u)])
    (hsp : ∀ H : Hp, Only H → SqL K H a (ns.map V.int) → sp [.ref a] H (fun v _ => v = .bl true) E0) :
    codeAny (model P w) callerA (.call (.ref fa) ⟨[.ref a], []⟩) (fun r s' => r = .ok (.ret (.bool true)) ∧ OldK s1.heap s'.heap ∧ s'.os = s1.os ∧ AllBare s'.gens) s1 := by
  have size := hin.length
  have main' : ∀ H : Hp, Only H → SqL K H a (ns.map V.int) → HOk P w H s1.heap → (∀ b, b ≠ a → H b = none) → (K.lookup a ≠ none → H a = none) →
      codeAny (model P w) callerA (.call (.ref fa) ⟨[.ref a], []⟩) (fun r s' => r = .ok (.ret (.bool true)) ∧ OldK s1.heap s'.heap ∧ s'.os = s1.os ∧ AllBare s'.gens) s1 := by
    intro H only sq ok else' own
    have keep : ∀ b o, s1.heap.get? b = some o → o ≠ { cls := .type "list", data := .seq us.toArray } → (hidT s1.heap H).get? b = some o := fun b o g ne => hidT_get g (else' b fun z => by
      subst z; rw [scr] at g; cases g; exact ne rfl)
    have ns' : ∀ {b : Addr} {m : PySem.Str → Option Value}, s1.heap.Ns b m → (hidT s1.heap H).Ns b m := fun ⟨o, es, ep, g, d, r⟩ => ⟨o, es, ep, keep _ _ g fun z => (by subst z; cases d), d, r⟩
    have kin' : K.In (hidT s1.heap H) := fun b o l => by
      by_cases z : b = a
      · subst z; exact hidT_get (kin _ _ l) (own (by rw [l]; simp))
      · exact hidT_get (kin _ _ l) (else' b z)
    have mod : Mod K mg (hidT s1.heap H) := ⟨kin', ns' main, ⟨mb, ns' blt, boot⟩, by obtain ⟨mc, c1, c2⟩ := lim; exact ⟨mc, ns' c1, c2⟩⟩
    have env : Env0 P w K mg (hidT s1.heap H) callerA [] s1 H := ⟨rfl, mod, fun b o g => of_hidT g, Nat.le_of_eq (hidT_size _ _), trivial, fun b hb => (by cases hb), ok, .of_eq gens⟩
    have F' := F _ (seer_hid see keep (fun es ep z => by cases z) (fun z => by injection z with z; exact absurd z (by decide)))
    refine codeAny_mono (F'.run callerA [] s1 H ⟨[.ref a], []⟩ [.ref a] [.ref a] _ E0 room env (bind s1 (.ref a)) (.cons rfl .nil) (hsp H only sq)) fun r s2 h => ?_
    cases r with
    | error e => exact h.elim
    | ok fl =>
      cases fl with
      | next => exact h.elim
      | brk => exact h.elim
      | cont => exact h.elim
      | ret u =>
        obtain ⟨v, H2, os, bare, un, ok2, rv, e⟩ := h
        have e : v = .bl true := e
        subst e
        have rv : u = Value.bool true := rv
        subst rv
        refine ⟨rfl, OldK.of_keep fun b o g => ?_, os, bare⟩
        cases q : H b with
        | none => exact un.keep b o g q (fun z => by cases z) (fun z => by cases z)
        | some t =>
          rcases only b with z | ⟨ob, xs, z⟩
          · rw [q] at z; cases z
          · have g1 := (ok b _ z).1
            have g2 := (ok2 b _ (un.frzs b ob _ z)).1
            rw [g] at g1; cases g1
            exact g2
  cases own : K.lookup a with
  | some o =>
    have g := kin a o own
    rw [scr] at g; cases g
    exact main' (fun _ => none) (fun _ => .inl rfl) (.inr ⟨_, us.toArray, _, own, rfl, rfl, rfl, by rw [List.size_toArray, size]; exact short, by simpa using vals_ints hin⟩) (fun _ _ z => by cases z) (fun _ _ => rfl) fun _ => rfl
  | none =>
    refine main' (fun b => if b = a then some (.frz { cls := .type "list", data := .seq us.toArray } (.lst (ns.map V.int))) else none) (fun b => ?_) (.inl (.inr ⟨_, if_pos rfl⟩)) (fun b t z => ?_) (fun b z => if_neg z) fun z => absurd own z
    · by_cases z : b = a
      · exact .inr ⟨_, _, if_pos z⟩
      · exact .inl (if_neg z)
    · by_cases y : b = a
      · subst y
        have z := (if_pos rfl).symm.trans z
        cases z
        exact ⟨scr, by rw [List.length_map]; exact short, us, _, vals_ints hin, scr⟩
      · have z := (if_neg y).symm.trans z
        cases z
theorem law_walkS {l : PySem.W.OpenLaw} {k : Nat} {q : Program} {loose : List PySem.Str} {XP : (PySem.Str → Option Value) → Heap → Prop} {YP : World → Heap → Prop} {d : DefRec} {K : Params → PySem.W.Frag} {sp : DSp} {st : Stmt}
    (hn : l.most = some 63) (hdf : d.params.defaults = []) (hr : Room k callerA) (hY : ∀ (w : World) (h : Heap), YP w h → (K w.params).In h) (hd : d.name = "law") (hi : importsNone q = true) (ht : l.prog.given.tree = none)
    (F : ∀ (w : World) (mg : PySem.Str → Option Value) (fa : Addr) (h : Heap), (K w.params).In h → h.Ns mainGlobals mg → mg "law" = some (.ref fa) → ∀ base : Heap, Sr l.prog base → Fn l.prog w (K w.params) mg base "law" ["script"] k sp)
    (D0 : ∀ (w : World) (mg : PySem.Str → Option Value) (fa : Addr) (h : Heap), (K w.params).In h → h.Ns mainGlobals mg → mg "law" = some (.ref fa) → Dfn (K w.params) mg "law" st)
    (bd : ∀ (kV doc pm : Value) (an : Option Addr) (cdv ct : Value) (us : List Value), us.length = 1 → bindArgs (PySem.W.fnOf "law" "law" (defArgs st) (defBody st) (defScope st) .none kV doc pm an cdv ct) ⟨us, []⟩ = pure ((["script"] : List PySem.Str).zip us))
    (hsp : ∀ ns : List Int, ns.length ≤ 63 → sp [.scr (ns.map D.int)] (fun _ => none) (fun d _ => d = .bl true)) :
    PySem.W.WalkO q loose XP YP l.row.toRowW d [] (fun f vs => PySem.call f vs) := by
  refine Att.attach_call hn hdf fun w _ s1 mg mb fa o pm cd doc a us ns G Y _ _ _ hmg hobj hints hlen hg => ?_
  have KX := hY w _ Y
  rw [hd] at hmg
  obtain ⟨f, fd, F0, m0⟩ := (D0 w mg fa _ KX G.T.g hmg).ex
  rw [hmg] at m0
  cases m0
  obtain ⟨oc, od, kV, doc, pm, an, cdv, ct, osl, rfl, lk, _⟩ := F0.ex
  refine call_seer (sp := liP (K w.params) sp) KX G.T.g G.T.b G.T.builtins G.T.nolimit (G.T.seer hi) hg hobj hints (Nat.le_trans hlen (by decide)) hr (fun base S => ?_) (fun s v => .of_eq (bd kV doc pm an cdv ct [v] rfl)) (fun H _ sq => ?_)
  · obtain ⟨f2, fd2, a1, b1, _, _, oc2, od2, osl2, lk2⟩ := (F w mg fa _ KX G.T.g hmg base ⟨S, ht⟩).ex
    rw [hmg] at b1
    cases b1
    rw [lk] at lk2
    cases lk2
    exact a1
  · refine ⟨[.scr (ns.map D.int)], fun _ => none, fun _ => false, fun d _ => d = .bl true, ⟨fun _ _ e => (nomatch e), fun _ e => (nomatch e)⟩, .cons (.scr (vs := ns.map V.int) ?_ (IsL.of_ints ns)) .nil, hsp ns hlen, fun d M' v H' e _ r => ?_⟩
    · have e : stab H (fun _ => none) (fun _ => false) = H := by funext b; unfold stab; simp
      rw [e]; exact sq
    · subst e; exact r.bl_inv
end DL
namespace DL
theorem g_divP {i j : Int} {M : Mem} {Q : D → Mem → Prop} (c : 0 < j) (q : Q (.int (i / j)) M) : oDivP (.int i) (.int j) M Q := ⟨i, j, rfl, rfl, c, q⟩
end DL
namespace DL
open PySem L2
def NegK (x : D) (R : Int → Prop) : Prop := ∃ i, x = .int i ∧ R i
def dNeg (t : DTE) : DTE := fun τ M Q => t τ M fun x M1 => NegK x fun i => Q (.int (-i)) M1
theorem de_neg {X : Cx} {a : Expr} {ta : DTE} {pos : Pos} (ha : DE X a ta) : DE X (.UnaryOp .USub a pos) (dNeg ta) := de_un un_neg ha
instance i_neg {t : DTE} {τ : DSt} {M : Mem} {Q : D → Mem → Prop} : Stp (dNeg t τ M Q) (t τ M fun x M1 => NegK x fun i => Q (.int (-i)) M1) := ⟨fun q => q⟩
instance i_negI {j : Int} {R : Int → Prop} : Stp (NegK (.int j) R) (R j) := ⟨fun q => ⟨j, rfl, q⟩⟩
end DL

set_option Elab.async false
set_option linter.all false
set_option maxRecDepth 100000
set_option maxHeartbeats 2000000
namespace DL
open PySem L2 PySem.Spec
/-! tuple(range(n)) -/
def dTupRg1 (te : DTE) : DTE := fun τ M Q => te τ M fun x M1 => ∃ n : Int, x = .int n ∧ (0 ≤ n ∧ n ≤ 16777216) ∧ Q (.tup (rangeD 0 n.toNat)) M1
section
variable {X : Cx} {a b : Expr} {te tf : DTE} {p p2 pos pos2 : Pos}
theorem de_tupRg1 (hc : X.calm = true) (hg : Gl X "tuple") (hm : X.mg "tuple" = none) (hg2 : Gl X "range") (hm2 : X.mg "range" = none) (ha : DE X a te)
    (na : starEach [a] X.env = (false, eval a X.env) :: starEach [] X.env := by rfl) (nb : starEach [.Call (.Name "range" p2) [a] [] pos2] X.env = (false, eval (.Call (.Name "range" p2) [a] [] pos2) X.env) :: starEach [] X.env := by rfl) :
    DE X (.Call (.Name "tuple" p) [.Call (.Name "range" p2) [a] [] pos2] [] pos) (dTupRg1 te) := peI (pe_tupRg hc hg hm (prg_1 hg2 hm2 ha na) nb) fun σ H Q ⟨τ, M, F, P, s, q, k⟩ =>
  ⟨τ, M, F, _, s, q, fun x M1 vx H1 ⟨n, e, h, q1⟩ t1 r1 => by
    subst e
    have e2 : (n - 0).toNat = n.toNat := by rw [Int.sub_zero]
    refine ⟨n, r1.int_inv, RgOk.of_le (by omega) h.2 (by omega) h.1, fun p hp => ?_⟩
    exact newT (P := P) q1 t1.ok hp (by rw [← e2]; exact IsL.rg) fun d M4 v H4 p4 t4 => k d M4 v H4 p4 (t1.trans t4)⟩
end
instance i_tupRg {te : DTE} {τ : DSt} {M : Mem} {Q : D → Mem → Prop} : Stp (dTupRg1 te τ M Q) (te τ M fun x M1 => ∃ n : Int, x = .int n ∧ (0 ≤ n ∧ n ≤ 16777216) ∧ Q (.tup (rangeD 0 n.toNat)) M1) := ⟨fun q => q⟩
theorem rangeD_nat (n : Nat) : rangeD 0 n = (List.range n).map fun (k : Nat) => D.int (k : Int) := by
  unfold rangeD
  exact List.map_congr_left fun k _ => by rw [Int.zero_add]
theorem g_tupRg {n : Nat} {M : Mem} {Q : D → Mem → Prop} (h : n ≤ 16777216) (q : Q (.tup ((List.range n).map fun (k : Nat) => D.int (k : Int))) M) : ∃ m : Int, D.int (n : Int) = .int m ∧ (0 ≤ m ∧ m ≤ 16777216) ∧ Q (.tup (rangeD 0 m.toNat)) M := ⟨n, rfl, by omega, by rw [Int.toNat_natCast, rangeD_nat]; exact q⟩
instance i_e25 {M : Mem} {Q : D → Mem → Prop} : Stp (oPow (.int 10) (.int 25) M Q) (Q (.int 10000000000000000000000000) M) := ⟨fun q => g_pow (by unfold CPow; decide) (by decide) q⟩
end DL
namespace DL
open PySem L2 PySem.Spec
/-! is not True, is not False -/
def oNotB : DOp := fun x y M Q => ∃ a b : Bool, x = .bl a ∧ y = .bl b ∧ Q (.bl (!decide (a = b))) M
theorem or_notB {X : Cx} : OpR X (compareOp .IsNot) (liO X.K oNotB) := opRI op_isnot_bl fun x y H Q ⟨dx, dy, M, F, P, o, r1, r2, ⟨a, b, e1, e2, p⟩, k⟩ => by
  subst e1; subst e2
  exact ⟨a, b, r1.bl_inv, r2.bl_inv, k _ M _ H p (To.refl o) (.bl _)⟩
section
variable {M : Mem} {Q : D → Mem → Prop} {a b : Bool}
instance i_notB : Stp (oNotB (.bl a) (.bl b) M Q) (Q (.bl (!decide (a = b))) M) := ⟨fun q => ⟨a, b, rfl, rfl, q⟩⟩
instance (priority := 2000) i_notTT : Stp (oNotB (.bl true) (.bl true) M Q) (Q (.bl false) M) := ⟨fun q => ⟨_, _, rfl, rfl, q⟩⟩
instance (priority := 2000) i_notTF : Stp (oNotB (.bl true) (.bl false) M Q) (Q (.bl true) M) := ⟨fun q => ⟨_, _, rfl, rfl, q⟩⟩
instance (priority := 2000) i_notFT : Stp (oNotB (.bl false) (.bl true) M Q) (Q (.bl true) M) := ⟨fun q => ⟨_, _, rfl, rfl, q⟩⟩
instance (priority := 2000) i_notFF : Stp (oNotB (.bl false) (.bl false) M Q) (Q (.bl false) M) := ⟨fun q => ⟨_, _, rfl, rfl, q⟩⟩
instance (priority := 2000) i_isTT : Stp (oIsB (.bl true) (.bl true) M Q) (Q (.bl true) M) := ⟨fun q => ⟨_, _, rfl, rfl, q⟩⟩
instance (priority := 2000) i_isTF : Stp (oIsB (.bl true) (.bl false) M Q) (Q (.bl false) M) := ⟨fun q => ⟨_, _, rfl, rfl, q⟩⟩
instance (priority := 2000) i_isFT : Stp (oIsB (.bl false) (.bl true) M Q) (Q (.bl false) M) := ⟨fun q => ⟨_, _, rfl, rfl, q⟩⟩
instance (priority := 2000) i_isFF : Stp (oIsB (.bl false) (.bl false) M Q) (Q (.bl true) M) := ⟨fun q => ⟨_, _, rfl, rfl, q⟩⟩
end
end DL
namespace DL
open PySem L2
/-! one of two readings of the same expression -/
def dAlt (t u : DTE) : DTE := fun τ M Q => t τ M Q ∨ u τ M Q
theorem de_alt {X : Cx} {e : Expr} {t u : DTE} (h1 : DE X e t) (h2 : DE X e u) : DE X e (dAlt t u) := ⟨fun pins s σ H Q I h => by
  obtain ⟨τ, M, F, P, s', q, k⟩ := h
  rcases q with q | q
  · exact h1.run pins s σ H Q I ⟨τ, M, F, P, s', q, k⟩
  · exact h2.run pins s σ H Q I ⟨τ, M, F, P, s', q, k⟩⟩
end DL
namespace DL
open PySem L2
instance i_neBB {a b : Bool} {M : Mem} {Q : D → Mem → Prop} : Stp (oNe (.bl a) (.bl b) M Q) (Q (.bl (!decide (a = b))) M) := ⟨fun q => .inl ⟨decide (a = b), by simp [eqS], q⟩⟩
end DL

set_option Elab.async false
set_option linter.all false
set_option maxRecDepth 100000
set_option maxHeartbeats 2000000
namespace DL
open PySem L2 PySem.Spec
/-! self.f += a number -/
def dFldAug (C : Addr) (f : Str) (ta : DTE) (k : Int) : DTS := fun Y τ M => ta τ M fun x M1 => ∃ a gs i, x = .ref a ∧ M1 a = some (.ins C gs) ∧ gs.lookup f = some (.int i) ∧ gs.length < 1000 ∧ Y.nx τ (M1.put a (.ins C (putG f (.int (i + k)) gs)))
section
variable {X : Cx} {C : Addr} {f : Str} {o value : Expr} {ta : DTE} {pos tpos : Pos} {k : Int}
theorem ds_fldaug (c : Cls X.K C) (n : NoAttr X.K C f) (ha : DE X o ta) (hv : DE X value (dC (.int k))) : DS X (.AugAssign (.Attribute o f tpos) .Add value pos) (dFldAug C f ta k) :=
  psI (ps_fldaug ha hv in_add) fun Z σ H ⟨τ, M, F, Y, s, kk, q⟩ => ⟨τ, M, F, _, s, q, fun d M1 xv H1 ⟨a, gs, i, e1, e2, hlk, hl, q1⟩ t1 r1 => by
    subst e1
    cases r1
    obtain ⟨dx, fs, e3, e4⟩ := t1.ok.mem _ _ e2
    obtain ⟨u, e5, e6⟩ := e4.lookup hlk
    have e7 := e6.int_inv
    subst e7
    refine ⟨a, C, dx, fs, _, rfl, e3, c, n, e5, τ, M1, F, fun v N => v = .int k ∧ N = M1, s.to t1, ⟨rfl, rfl⟩, fun y M2 yv H2 ⟨ey, eM⟩ t2 r2 => ?_⟩
    subst ey
    subst eM
    have e8 := r2.int_inv
    subst e8
    obtain ⟨dx', fs', e9, e10⟩ := t2.ok.mem _ _ e2
    have t3 := To.set (u := .ins C dx' (putF f (.int (i + k)) fs')) (m := .ins C (putG f (.int (i + k)) gs)) t2.ok e2 ⟨_, _, upd_same, e10.put (.int _)⟩
    have tt := (t1.trans t2).trans t3
    exact ⟨i, k, rfl, rfl, dx', fs', e9, by rw [e10.length]; exact hl, kk.nx σ _ τ _ tt (s.to tt).sl q1⟩⟩
end
def FaugK (M : Mem) (x : D) (C : Addr) (f : Str) (k : Int) (R : Mem → Prop) : Prop := ∃ a gs i, x = .ref a ∧ M a = some (.ins C gs) ∧ gs.lookup f = some (.int i) ∧ gs.length < 1000 ∧ R (M.put a (.ins C (putG f (.int (i + k)) gs)))
instance i_fldaug {C : Addr} {f : Str} {te : DTE} {k : Int} {τ : DSt} {M : Mem} {nx : DSt → Mem → Prop} {rt : D → Mem → Prop} {bk ct : DSt → Mem → Prop} : Stp (dFldAug C f te k ⟨nx, rt, bk, ct⟩ τ M) (te τ M fun x M1 => FaugK M1 x C f k fun N => nx τ N) := ⟨fun q => q⟩
theorem g_fldaug {M : Mem} {a : Addr} {C : Addr} {gs : List (Str × D)} {f : Str} {i k : Int} {R : Mem → Prop} (s : M a = some (.ins C gs)) (h : gs.lookup f = some (.int i)) (hl : gs.length < 1000) (q : R (M.put a (.ins C (putG f (.int (i + k)) gs)))) : FaugK M (.ref a) C f k R := ⟨a, gs, i, rfl, s, h, hl, q⟩
end DL

set_option Elab.async false
set_option linter.all false
set_option maxRecDepth 100000
set_option maxHeartbeats 2000000
namespace DL
open PySem L2 PySem.Spec
/-! for k, v in d.items(), d a dict just made: it is locked for good -/
def tFrzE (t : TE) : TE := fun σ H Q => t σ H fun v H' => ∃ d u, H' d = some u ∧ Mut (some u) ∧ ∀ od, Q v (upd H' d (.frz od u))
theorem pe_frzE {X : Cx} {e : Expr} {t : TE} (h : PE X e t) : PE X e (tFrzE t) := by
  refine ⟨fun pins s σ H Q I hw => ?_⟩
  refine thn (h.run pins s σ H _ I hw) fun v s1 ⟨x, H1, I1, r, d, u, hd, mu, q⟩ => ?_
  obtain ⟨od, I2⟩ := I1.lock hd mu
  exact ⟨x, _, I2, r, q od⟩
def itD (kv : Key × D) : D := .tup [kD kv.1, kv.2]
def wItems (te : DTE) : DTI := fun τ M Q => te τ M fun d M1 => ∃ a kvs N, d = .ref a ∧ M1 a = some (.dic kvs) ∧ N a = none ∧ Sub N M1 ∧ Q ⟨kvs.map itD, fun _ => True⟩ N
theorem IsK.at {K : PySem.W.Frag} {S : Hp} : ∀ {vs : List (Key × V)} {ds : List (Key × D)}, IsK K S vs ds → ∀ {i : Nat} {k : Key} {v : V}, vs[i]? = some (k, v) → ∃ d, ds[i]? = some (k, d) ∧ Is K S v d
  | _, _, .nil, i, k, v, h => by simp at h
  | _, _, @IsK.cons _ _ x w e vs ds h r, i, k, v, q => by
    cases i with
    | zero => simp at q; obtain ⟨rfl, rfl⟩ := q; exact ⟨e, rfl, h⟩
    | succ i => exact r.at (by simpa using q)
theorem Is.kD {K : PySem.W.Frag} {S : Hp} (k : Key) : Is K S (kV k) (kD k) := by
  cases k with
  | inl i => exact .int i
  | inr x => exact .str x
theorem To.lockD {K : PySem.W.Frag} {F : Fr} {H1 : Hp} {M1 N : Mem} {a : Addr} {m0 : MO} (o : Ok K F H1 M1) (e2 : M1 a = some m0) (hn : N a = none) (hs : Sub N M1) (u : HO) : To K F H1 M1 (upd H1 a u) N := by
  have nN : ∀ b, M1 b = none → N b = none := fun b h => by
    cases z : N b with
    | none => rfl
    | some v => rw [hs b v z] at h; cases h
  have ne : ∀ b, M1 b = none → b ≠ a := fun b h z => by rw [z, e2] at h; cases h
  have ex : Ex (stab H1 M1 F) (stab (upd H1 a u) N F) := fun b v q => by
    rw [stab_eq] at q ⊢
    exact ⟨nN b q.1, q.2.1, by rw [upd_ne (ne b q.1)]; exact q.2.2⟩
  refine ⟨⟨fun b v q => (o.mem b v (hs b v q)).mono ex (upd_ne fun z => by rw [z, hn] at q; cases q), fun b q => ⟨nN b (o.hid b q).1, ?_⟩⟩, ex, fun b q => upd_ne (ne b (o.hid b q).1)⟩
  rw [upd_ne (ne b (o.hid b q).1)]; exact (o.hid b q).2
section
variable {X : Cx} {e : Expr} {te : DTE} {apos cpos tpos : Pos} {elts : List Expr} {kk : Nat}
theorem di_items (he : DE X e te) (hbase : attributeBase e "items" X.env (eval e X.env) = eval e X.env := by rfl) (hline : (apos.endLine == cpos.line) = true := by rfl) : DI X (.Tuple elts kk tpos) (.Call (.Attribute e "items" apos) [] [] cpos) (wItems te) :=
  piI (pi_items (pe_frzE he) hbase hline) fun σ H R ⟨τ, M, F, P, s, q, k⟩ => ⟨τ, M, F, _, s, q, fun d M1 v H1 ⟨a, kvs, N, e1, e2, hn, hs, q1⟩ t1 r1 => by
    subst e1
    cases r1
    obtain ⟨vs, h2, h3⟩ := t1.ok.mem _ _ e2
    have hF : F a = false := by
      cases z : F a with
      | false => rfl
      | true => have := (t1.ok.hid a z).1; rw [e2] at this; cases this
    refine ⟨a, _, h2, trivial, fun od => ⟨a, od, vs, rfl, upd_same, ?_⟩⟩
    have t2 := To.lockD t1.ok e2 hn hs (.frz od (.dK vs))
    have hS : stab (upd H1 a (.frz od (.dK vs))) N F a = some (.frz od (.dK vs)) := stab_eq.mpr ⟨hn, hF, upd_same⟩
    have h3 := h3.mono t2.ex
    have hl := h3.len
    refine k _ N _ _ q1 (t1.trans t2) ⟨trivial, fun i F' H' M' ok ex _ hi => ⟨stab_le _ _ (ex _ _ hS), ?_⟩, fun i F' H' M' x H2 ok ex _ hi y => ?_, fun F' H' M' ok ex _ => ⟨stab_le _ _ (ex _ _ hS), ?_⟩⟩
    · have hi : i < (kvs.map itD).length := hi
      rw [List.length_map] at hi; omega
    · obtain ⟨T, k, v, hk, e3, hT, e4⟩ := y
      subst e3
      subst e4
      obtain ⟨d, hd, rd⟩ := h3.at hk
      have t3 := To.new ok hT (.tup [kV k, v])
      refine ⟨t3, itD (k, d), ?_, .tup (vs := [kV k, v]) (SqT.of ?_) (.cons (Is.kD k) (.cons ((rd.mono ex).mono t3.ex) .nil))⟩
      · show (kvs.map itD)[i]? = _
        rw [List.getElem?_map, hd]; rfl
      · rw [stab_upd ok hT]; exact upd_same
    · show vs.length ≤ (kvs.map itD).length
      rw [List.length_map]; omega⟩
end
def ItemK (M : Mem) (x : D) (R : List D → Mem → Prop) : Prop := ∃ a kvs N, x = .ref a ∧ M a = some (.dic kvs) ∧ N a = none ∧ Sub N M ∧ R (kvs.map itD) N
instance i_witems {te : DTE} {τ : DSt} {M : Mem} {Q : Wk → Mem → Prop} : Stp (wItems te τ M Q) (te τ M fun x M1 => ItemK M1 x fun xs N => Q ⟨xs, fun _ => True⟩ N) := ⟨fun q => q⟩
theorem g_items {M N : Mem} {a : Addr} {kvs : List (Key × D)} {R : List D → Mem → Prop} (h : M a = some (.dic kvs)) (hn : N a = none) (hs : Sub N M) (q : R (kvs.map itD) N) : ItemK M (.ref a) R := ⟨a, kvs, N, rfl, h, hn, hs, q⟩
end DL

set_option Elab.async false
set_option linter.all false
set_option maxRecDepth 100000
set_option maxHeartbeats 2000000
namespace DL
open PySem L2 PySem.Spec
/-! a text in a list or tuple of texts -/
def oInS (neg : Bool) : DOp := fun x y M Q => ∃ (a : Str) (ns : List Str), x = .str a ∧ (Srd M y (ns.map .str) ∨ y = .tup (ns.map .str)) ∧ Q (.bl (if neg then !decide (a ∈ ns) else decide (a ∈ ns))) M
theorem inV_strs (a : Str) (ns : List Str) : inV (.str a) (ns.map .str) = decide (a ∈ ns) := by
  unfold inV
  induction ns with
  | nil => rfl
  | cons b ns ih =>
    rw [List.map_cons, List.any_cons, ih]
    show ((b == a) || _) = _
    by_cases h : b = a
    · subst h; simp
    · have : ¬ a = b := fun e => h e.symm
      rw [beq_eq_false_iff_ne.mpr h]; simp [this]
theorem flat_strs (ns : List Str) : (ns.map V.str).all flatV = true := by
  induction ns with
  | nil => rfl
  | cons b ns ih => rw [List.map_cons, List.all_cons, ih]; rfl
theorem strs_is {K : PySem.W.Frag} {S : Hp} : ∀ {vs : List V} {ns : List Str}, IsL K S vs (ns.map .str) → vs = ns.map .str
  | _, [], .nil => rfl
  | _, _ :: _, .cons h r => by cases h; rw [strs_is r]; rfl
theorem liInS {X : Cx} {op : CmpOp} (neg : Bool) (h : OpR X (compareOp op) (rIn X.K neg)) : OpR X (compareOp op) (liO X.K (oInS neg)) := opRI h fun x y H Q ⟨dx, dy, M, F, P, o, r1, r2, ⟨a, ns, e1, s, p⟩, k⟩ => by
  subst e1
  cases r1
  have fin : ∀ {b : Addr} {ws : List V}, y = .ref b → (SqL X.K H b ws ∨ SqT X.K H b ws) → IsL X.K (stab H M F) ws (ns.map .str) → rIn X.K neg (.str a) y H Q := fun {b ws} ey h1 h2 => by
    have e := strs_is h2
    subst e
    exact ⟨b, _, ey, h1, rfl, flat_strs ns, by rw [inV_strs]; exact k _ M _ H p (To.refl o) (.bl _)⟩
  rcases s with s | s
  · obtain ⟨b, ws, ey, h1, h2⟩ := s.get o r2
    exact fin ey (.inl h1) h2
  · subst s
    cases r2 with
    | tup h1 h2 => exact fin rfl (.inr (ex_t stab_le h1)) h2
theorem or_inS {X : Cx} : OpR X (compareOp .In) (liO X.K (oInS false)) := liInS false op_in_seq
theorem or_notinS {X : Cx} : OpR X (compareOp .NotIn) (liO X.K (oInS true)) := liInS true op_notIn_seq
/-- a module's constant: a tuple of texts -/
def GTup (K : PySem.W.Frag) (mg : Str → Option Value) (x : Str) (ys : List Str) : Prop := ∃ t, mg x = some (.ref t) ∧ ∀ S, SqT K S t (ys.map V.str)
theorem gtup_mk {K : PySem.W.Frag} {h : Heap} {mg : Str → Option Value} {x : Str} {t : Addr} {its : Array Value} {n : Nat} {osl : Array (Option Value)} {ys : List Str} (X : K.In h) (G : h.Ns mainGlobals mg) (a : PySem.W.nsIn K mainGlobals x = some (some (.ref t)))
    (l : K.lookup t = some ⟨.type "tuple", none, .seq its n, osl⟩) (sz : its.size ≤ sizeLine) (vs : Vals (ys.map V.str) its.toList) : GTup K mg x ys :=
  ⟨t, PySem.W.mg_of X G a, fun S => .inr ⟨_, its, n, l, rfl, rfl, sz, vs⟩⟩
theorem de_gtup {X : Cx} {x : Str} {pos : Pos} {ys : List Str} (h : GTup X.K X.mg x ys) (hg : Gl X x) (hd : (x == ("__debug__" : Str)) = false := by decide) : DE X (.Name x pos) (dC (.tup (ys.map D.str))) := by
  obtain ⟨t, h1, h2⟩ := h
  exact de_glob (v := .ref t) ⟨_, h1, rfl⟩ hg (fun S => .tup (h2 S) (isL_strs ys)) hd
/-- a tuple of texts written out -/
theorem g_inS {M : Mem} {Q : D → Mem → Prop} {a : Str} (ns : List Str) {xs : List D} (e : xs = ns.map .str) (q : Q (.bl (decide (a ∈ ns))) M) : oInS false (.str a) (.tup xs) M Q := ⟨a, ns, rfl, .inr (by rw [e]), q⟩
end DL

set_option Elab.async false
set_option linter.all false
set_option maxRecDepth 100000
set_option maxHeartbeats 2000000
namespace DL
open PySem L2 PySem.Spec
/-! a module's dict of defs, or of tuples of texts; the call of a local name that holds a def -/
def GOps (K : PySem.W.Frag) (w : World) (mg : Str → Option Value) (x : Str) (kvs : List (Str × Str)) : Prop := ∃ p, mg x = some (.ref p) ∧ ∀ kv ∈ kvs, ∃ f, mg kv.2 = some (.ref f) ∧ KDct K w p kv.1 (.ref f)
def dIxOps (mg : Str → Option Value) (kvs : List (Str × Str)) (ty : DTE) : DTE := fun τ M Q => ty τ M fun y M1 => ∃ kv ∈ kvs, y = .str kv.1 ∧ ∀ f, mg kv.2 = some (.ref f) → Q (.ref f) M1
theorem de_ixOps {X : Cx} {x : Str} {p pos : Pos} {b : Expr} {kvs : List (Str × Str)} {ty : DTE} (mg : Str → Option Value) (em : X.mg = mg) (h : GOps X.K X.w X.mg x kvs) (hg : Gl X x) (hb : DE X b ty) (hd : (x == ("__debug__" : Str)) = false := by decide) (hs : PlainIx b := by exact fun _ _ => rfl) : DE X (.Subscript (.Name x p) b pos) (dIxOps mg kvs ty) := by
  subst em
  obtain ⟨a, h1, h2⟩ := h
  refine peI (pe_ix ix_kdict (pe_glob (v := .ref a) hg h1 rfl hd) hb hs) fun σ H Q ⟨τ, M, F, P, s, q, k⟩ => ?_
  refine ⟨τ, M, F, _, s, q, fun y M1 vy H1 ⟨kv, hk, e, q1⟩ t1 r1 => ?_⟩
  subst e
  obtain ⟨f, h3, h4⟩ := h2 kv hk
  have : vy = .str kv.1 := by cases r1; rfl
  exact ⟨a, kv.1, .ref f, rfl, this, h4, k (.ref f) M1 _ H1 (q1 f h3) t1 (.ref f)⟩
inductive OpsI (K : PySem.W.Frag) (p : Addr) : List (Str × Str) → Prop
  | nil : OpsI K p []
  | cons {z y : Str} {f : Addr} {kvs : List (Str × Str)} (g : PySem.W.nsIn K mainGlobals y = some (some (.ref f))) (e : PySem.W.nsIn K p z = some (some (.ref f))) (r : OpsI K p kvs) : OpsI K p ((z, y) :: kvs)
theorem OpsI.ok {K : PySem.W.Frag} {w : World} {h : Heap} {mg : Str → Option Value} {p : Addr} (X : K.In h) (G : h.Ns mainGlobals mg) {es : Array DictEntry} {n : Nat} (l : K.lookup p = some ⟨.type "dict", none, .dict es n, #[]⟩) (c : PySem.W.KeysLit w.params es.toList) : ∀ {kvs : List (Str × Str)}, OpsI K p kvs → ∀ kv ∈ kvs, ∃ f, mg kv.2 = some (.ref f) ∧ KDct K w p kv.1 (.ref f)
  | _, .cons g e r, kv, hk => by
    rcases List.mem_cons.mp hk with h | h
    · subst h; exact ⟨_, PySem.W.mg_of X G g, es, n, _, l, c, e, rfl⟩
    · exact OpsI.ok X G l c r kv h
theorem gops_mk {K : PySem.W.Frag} {w : World} {h : Heap} {mg : Str → Option Value} {x : Str} {p : Addr} {kvs : List (Str × Str)} (X : K.In h) (G : h.Ns mainGlobals mg) (a : PySem.W.nsIn K mainGlobals x = some (some (.ref p))) {es : Array DictEntry} {n : Nat}
    (l : K.lookup p = some ⟨.type "dict", none, .dict es n, #[]⟩) (c : PySem.W.KeysLit w.params es.toList) (r : OpsI K p kvs) : GOps K w mg x kvs := ⟨p, PySem.W.mg_of X G a, r.ok X G l c⟩
/-- a local name that holds a def -/
def Cl (P : Program) (w : World) (K : PySem.W.Frag) (mg : Str → Option Value) (base : Heap) (j : Nat) (f : Addr) (sp : DSp) : Prop := ∃ x ps k, Fn P w K mg base x ps k sp ∧ mg x = some (.ref f) ∧ k ≤ j
def dCallLoc (C : Addr → DSp → Prop) (i : Nat) (t : DTA) : DTE := fun τ M Q => ∃ f sp, τ[i]? = some (some (.ref f)) ∧ C f sp ∧ t τ M fun ds M1 => sp ds M1 Q
theorem de_callLoc {X : Cx} {x : Str} {p pos : Pos} {e : Expr} {es : List Expr} {t : DTA} {i j : Nat} (P : Program) (w : World) (K : PySem.W.Frag) (mg : Str → Option Value) (base : Heap) (e1 : X.prog = P) (e2 : X.w = w) (e3 : X.K = K) (e4 : X.mg = mg) (e5 : X.base = base) (hr : Room j X.A) (ha : DA X (e :: es) t) (hN : X.N[i]? = some x := by rfl) (hv : Vis X.env.scope x := by first | exact Or.inl rfl | exact Or.inr (Or.inl rfl) | exact Or.inr (Or.inr rfl))
    (hdb : (x == ("__debug__" : Str)) = false := by decide) (hcd : (x == ("__classdict__" : Str)) = false := by decide)
    (he : starEach (e :: es) X.env = (false, eval e X.env) :: starEach es X.env := by rfl) (hpl : (backTo pos (starEach es X.env)).any (·.1) = false := by rfl) :
    DE X (.Call (.Name x p) (e :: es) [] pos) (dCallLoc (Cl P w K mg base j) i t) := by
  subst e1 e2 e3 e4 e5
  refine ⟨fun pins s σ H Q I h => ?_⟩
  obtain ⟨τ, M, F, P, s', ⟨f, sp, hi, ⟨x', ps, k, hF, hm, hk⟩, q⟩, kk⟩ := h
  obtain ⟨f', fd, a, b, c, d, _⟩ := hF.ex
  cases b.symm.trans hm
  obtain ⟨v, hσ, hv'⟩ := s'.sl.at_ i _ hi
  cases hv'
  refine (pe_callL (E := E0) (sp := liP X.K sp) (i := i) a (hr.mono hk) hN hv c d .nil pass0 ha hdb hcd he hpl).run pins s σ H Q I ⟨hσ, ?_⟩
  exact liCall (E := E0) (sp := sp) (t := t) σ H Q ⟨τ, M, F, P, s', q, kk⟩
/-! shape = SHAPES.get(name) -/
def tKGet (K : PySem.W.Frag) (w : World) (a : Addr) (ty : TE) : TE := fun σ H Q => ty σ H fun y H1 => ∃ z v, y = .str z ∧ KDct K w a z v ∧ Q v H1
theorem pe_kget {X : Cx} {x : Str} {a : Addr} {p apos cpos : Pos} {e : Expr} {ty : TE} {es : Array DictEntry} {n : Nat} (h1 : X.mg x = some (.ref a)) (hg : Gl X x) (hl : X.K.lookup a = some ⟨.type "dict", none, .dict es n, #[]⟩) (hk : PySem.W.KeysLit X.w.params es.toList)
    (low : (a == sysModules) = false) (he : PE X e ty) (hd : (x == ("__debug__" : Str)) = false) (m : M1 X (.Name x p) "get" apos e cpos) : PE X (.Call (.Attribute (.Name x p) "get" apos) [e] [] cpos) (tKGet X.K X.w a ty) := by
  refine ⟨fun pins s σ H Q I h => ?_⟩
  refine wpAny_Call_method m.base m.few m.line PySem.F.plainAttrs_dict PySem.F.slot_dict_get PySem.F.type_dict_get (thn ((pe_glob (v := .ref a) hg h1 rfl hd).run pins s σ H (fun v H1 => v = .ref a ∧ H1 = H) I ⟨rfl, rfl⟩) fun u s1 ⟨v, H1, I1, rx, e1, e2⟩ => ?_)
  subst e1
  subst e2
  obtain rfl : u = Value.ref a := rx
  have hm := PySem.W.mapOf_K (prog := X.prog) (w := X.w) I1.kIn hl hk
  refine ⟨hm.typeIs, hm.noDict, ?_⟩
  rw [m.trees]
  refine Calls.callWith_builtin rfl (Calls.evalArgs_plain (Calls.spliced_cons (thn (he.run pins s1 σ _ _ I1 h) fun iv s2 ⟨y, H2, I2, ry, z, v, e, kd, q2⟩ => Calls.spliced_nil ?_)))
  subst e
  obtain ⟨t, rfl⟩ := (show ∃ t, iv = Value.str z t from ry)
  obtain ⟨es', n', u0, hl', hk', e0, ru⟩ := kd
  have hm2 := PySem.W.mapOf_K (prog := X.prog) (w := X.w) I2.kIn hl' hk'
  refine call_meetsIn PySem.F.slot_dict_get hm2.typeIs PySem.F.entry_dict_get (PySem.F.args_dict_get_2 _ _) (meets_dict_get (strKind X.prog X.w) a (strKind_is X.prog X.w z t) low) ⟨_, hm2, ?_⟩
  rw [PySem.W.find_K hl' e0]
  exact ⟨v, H2, I2.tok _, ru, q2⟩
def GShp (K : PySem.W.Frag) (w : World) (mg : Str → Option Value) (x : Str) (kvs : List (Str × List Str)) : Prop := ∃ p es n, mg x = some (.ref p) ∧ K.lookup p = some ⟨.type "dict", none, .dict es n, #[]⟩ ∧ PySem.W.KeysLit w.params es.toList ∧ (p == sysModules) = false ∧ ∀ kv ∈ kvs, ∃ t, KDct K w p kv.1 (.ref t) ∧ ∀ S, SqT K S t (kv.2.map V.str)
def dShp (kvs : List (Str × List Str)) (ty : DTE) : DTE := fun τ M Q => ty τ M fun y M1 => ∃ kv ∈ kvs, y = .str kv.1 ∧ Q (.tup (kv.2.map D.str)) M1
theorem de_shp {X : Cx} {x : Str} {p apos cpos : Pos} {b : Expr} {kvs : List (Str × List Str)} {ty : DTE} (h : GShp X.K X.w X.mg x kvs) (hg : Gl X x) (hb : DE X b ty) (hd : (x == ("__debug__" : Str)) = false := by decide) (m : M1 X (.Name x p) "get" apos b cpos := by exact ⟨rfl, rfl, rfl, rfl⟩) : DE X (.Call (.Attribute (.Name x p) "get" apos) [b] [] cpos) (dShp kvs ty) := by
  obtain ⟨a, es, n, h1, hl, hk, low, h2⟩ := h
  refine peI (pe_kget h1 hg hl hk low hb hd m) fun σ H Q ⟨τ, M, F, P, s, q, k⟩ => ?_
  refine ⟨τ, M, F, _, s, q, fun y M1 vy H1 ⟨kv, hk, e, q1⟩ t1 r1 => ?_⟩
  subst e
  obtain ⟨t, h3, h4⟩ := h2 kv hk
  have : vy = .str kv.1 := by cases r1; rfl
  exact ⟨kv.1, .ref t, this, h3, k _ M1 _ H1 q1 t1 (.tup (h4 _) (isL_strs kv.2))⟩
inductive ShpI (K : PySem.W.Frag) (p : Addr) : List (Str × List Str) → Prop
  | nil : ShpI K p []
  | cons {z : Str} {ss : List Str} {t : Addr} {its : Array Value} {n : Nat} {osl : Array (Option Value)} {kvs : List (Str × List Str)} (e : PySem.W.nsIn K p z = some (some (.ref t))) (l : K.lookup t = some ⟨.type "tuple", none, .seq its n, osl⟩) (sz : its.size ≤ sizeLine) (vs : Vals (ss.map V.str) its.toList) (r : ShpI K p kvs) : ShpI K p ((z, ss) :: kvs)
theorem ShpI.ok {K : PySem.W.Frag} {w : World} {p : Addr} {es : Array DictEntry} {n : Nat} (l : K.lookup p = some ⟨.type "dict", none, .dict es n, #[]⟩) (c : PySem.W.KeysLit w.params es.toList) : ∀ {kvs : List (Str × List Str)}, ShpI K p kvs → ∀ kv ∈ kvs, ∃ t, KDct K w p kv.1 (.ref t) ∧ ∀ S, SqT K S t (kv.2.map V.str)
  | _, .cons e l2 sz vs r, kv, hk => by
    rcases List.mem_cons.mp hk with h | h
    · subst h; exact ⟨_, ⟨es, n, _, l, c, e, rfl⟩, fun S => .inr ⟨_, _, _, l2, rfl, rfl, sz, vs⟩⟩
    · exact ShpI.ok l c r kv h
theorem gshp_mk {K : PySem.W.Frag} {w : World} {h : Heap} {mg : Str → Option Value} {x : Str} {p : Addr} {kvs : List (Str × List Str)} (X : K.In h) (G : h.Ns mainGlobals mg) (a : PySem.W.nsIn K mainGlobals x = some (some (.ref p))) {es : Array DictEntry} {n : Nat}
    (l : K.lookup p = some ⟨.type "dict", none, .dict es n, #[]⟩) (c : PySem.W.KeysLit w.params es.toList) (low : (p == sysModules) = false) (r : ShpI K p kvs) : GShp K w mg x kvs := ⟨p, es, n, PySem.W.mg_of X G a, l, c, low, r.ok l c⟩
section
variable {P : Program} {w : World} {K : PySem.W.Frag} {mg : Str → Option Value} {base : Heap}
/-- a def of which nothing is promised -/
theorem okF0 {x : Str} {st : Stmt} {N ps : List Str} {k : Nat} (D0 : Dfn K mg x st) (S : FnScope N ps (defScope st))
    (bd : ∀ (kV doc pm : Value) (an : Option Addr) (cdv ct : Value) (us : List Value), us.length = ps.length → bindArgs (PySem.W.fnOf x x (defArgs st) (defBody st) (defScope st) .none kV doc pm an cdv ct) ⟨us, []⟩ = pure (ps.zip us)) :
    Fn P w K mg base x ps (k + 1) (fun _ _ _ => False) := by
  obtain ⟨f, fd, F, m⟩ := D0.ex
  refine ⟨f, fd, okD F S (fun _ _ _ h => h.elim) (fun cdv A outer s H E ds M Q hr hs => hs.elim), m, F.kp, F.binds bd, ?_⟩
  obtain ⟨oc, od, kV, doc, pm, an, cdv, ct, osl, rfl, lk, _⟩ := F.ex
  exact ⟨oc, od, osl, lk⟩
end
instance i_ixOps {mg : Str → Option Value} {kvs : List (Str × Str)} {ty : DTE} {τ : DSt} {M : Mem} {Q : D → Mem → Prop} : Stp (dIxOps mg kvs ty τ M Q) (ty τ M fun y M1 => ∃ kv ∈ kvs, y = .str kv.1 ∧ ∀ f, mg kv.2 = some (.ref f) → Q (.ref f) M1) := ⟨fun q => q⟩
instance i_shp {kvs : List (Str × List Str)} {ty : DTE} {τ : DSt} {M : Mem} {Q : D → Mem → Prop} : Stp (dShp kvs ty τ M Q) (ty τ M fun y M1 => ∃ kv ∈ kvs, y = .str kv.1 ∧ Q (.tup (kv.2.map D.str)) M1) := ⟨fun q => q⟩
theorem g_ops {mg : Str → Option Value} {kvs : List (Str × Str)} {z y : Str} {M : Mem} {Q : D → Mem → Prop} (h : (z, y) ∈ kvs) (q : ∀ f, mg y = some (.ref f) → Q (.ref f) M) : ∃ kv ∈ kvs, D.str z = .str kv.1 ∧ ∀ f, mg kv.2 = some (.ref f) → Q (.ref f) M := ⟨(z, y), h, rfl, q⟩
theorem g_shp {kvs : List (Str × List Str)} {z : Str} {ss : List Str} {M : Mem} {Q : D → Mem → Prop} (h : (z, ss) ∈ kvs) (q : Q (.tup (ss.map D.str)) M) : ∃ kv ∈ kvs, D.str z = .str kv.1 ∧ Q (.tup (kv.2.map D.str)) M := ⟨(z, ss), h, rfl, q⟩
theorem g_callLoc {P : Program} {w : World} {K : PySem.W.Frag} {mg : Str → Option Value} {base : Heap} {j i k : Nat} {f : Addr} {sp : DSp} {x : Str} {ps : List Str} {t : DTA} {τ : DSt} {M : Mem} {Q : D → Mem → Prop} (h : τ[i]? = some (some (.ref f))) (F : Fn P w K mg base x ps k sp) (hm : mg x = some (.ref f)) (hk : k ≤ j) (q : t τ M fun ds M1 => sp ds M1 Q) : dCallLoc (Cl P w K mg base j) i t τ M Q := ⟨f, sp, h, ⟨x, ps, k, F, hm, hk⟩, q⟩
/-! a <= b < c -/
def dChain (f g : DOp) (ta tb tc : DTE) : DTE := fun τ M Q => ta τ M fun x M1 => tb τ M1 fun y M2 => f x y M2 fun z M3 => ∃ k, z = .bl k ∧ (if k = true then tc τ M3 fun w M4 => g y w M4 Q else Q (.bl false) M3)
theorem de_chain {X : Cx} {op op' : CmpOp} {f g : DOp} {a b c : Expr} {ta tb tc : DTE} {pos : Pos} (ho : OpR X (compareOp op) (liO X.K f)) (ho' : OpR X (compareOp op') (liO X.K g)) (ha : DE X a ta) (hb : DE X b tb) (hc : DE X c tc)
    (hm : lastMarks [op, op'] [b, c] = false := by with_unfolding_all rfl) : DE X (.Compare a [op, op'] [b, c] pos) (dChain f g ta tb tc) := peI (pe_chain ho ho' ha hb hc hm) fun σ H Q ⟨τ, M, F, P, s, q, k⟩ =>
  ⟨τ, M, F, _, s, q, fun x M1 vx H1 q1 t1 r1 => ⟨τ, M1, F, _, s.to t1, q1, fun y M2 vy H2 q2 t2 r2 => ⟨x, y, M2, F, _, t2.ok, r1.mono t2.ex, r2, q2, fun z M3 vz H3 ⟨kk, e, q3⟩ t3 r3 => by
    subst e
    have := r3.bl_inv
    subst this
    refine ⟨kk, rfl, ?_⟩
    cases kk with
    | false =>
      rw [if_neg (by decide)] at q3 ⊢
      exact k _ M3 _ H3 q3 ((t1.trans t2).trans t3) (.bl false)
    | true =>
      rw [if_pos rfl] at q3 ⊢
      exact ⟨τ, M3, F, _, ((s.to t1).to t2).to t3, q3, fun w M4 vw H4 q4 t4 r4 => ⟨y, w, M4, F, P, t4.ok, r2.mono (t3.trans t4).ex, r4, q4, fun d M' v H' p t => k d M' v H' p ((((t1.trans t2).trans t3).trans t4).trans t)⟩⟩⟩⟩⟩
instance i_chain {f g : DOp} {ta tb tc : DTE} {τ : DSt} {M : Mem} {Q : D → Mem → Prop} : Stp (dChain f g ta tb tc τ M Q) (ta τ M fun x M1 => tb τ M1 fun y M2 => f x y M2 fun z M3 => ∃ k, z = .bl k ∧ (if k = true then tc τ M3 fun w M4 => g y w M4 Q else Q (.bl false) M3)) := ⟨fun q => q⟩
end DL

set_option Elab.async false
set_option linter.all false
set_option maxRecDepth 100000
set_option maxHeartbeats 2000000
namespace DL
open PySem PySem.Spec PyProof.Rows L2 PySem.W
/-! sorted(d), keys ints, fewer than 64 -/
def rSortD : List V → Hp → VK → Prop := fun xs H Q => ∃ (a : Addr) (kvs : List (Key × V)) (ns : List Int), xs = [.ref a] ∧ L2.Rd H a (.dK kvs) ∧ kvs.map (·.1) = ns.map Sum.inl ∧ ns.length < 64 ∧
  ∀ (ns' : List Int) (p : Addr), ns'.Perm ns → ns'.Pairwise (· ≤ ·) → H p = none → Q (.ref p) (upd H p (.lst (ns'.map V.int)))
theorem cr_sortedD {X : Cx} (hcalm : X.calm = true) : CallR X (.builtin "sorted") rSortD := by
  intro pins s σ H xs us Q I r q
  obtain ⟨a, kvs, ns, ex, hd, hks, h64, q⟩ := q
  subst ex
  obtain ⟨u, eu, rx⟩ := vals1 r
  subst eu
  cases rx
  obtain ⟨z, lo, vs, rel, dd⟩ := dk_rd I.hok hd
  obtain ⟨ep, hat⟩ := dd.dictAt
  have ek : (vs.map fun p => kV p.1) = ns.map V.int := by
    have e := congrArg (List.map kV) rel.keys
    rw [List.map_map, List.map_map] at e
    have e2 : (vs.map fun p => kV p.1) = kvs.map fun kv => kV kv.1 := e.symm
    rw [e2]
    have e3 := congrArg (List.map kV) hks
    rw [List.map_map, List.map_map] at e3
    exact e3
  have hlv : vs.length = ns.length := by
    have := congrArg List.length ek
    rw [List.length_map, List.length_map] at this
    exact this
  refine Calls.call_function_entry kind_sorted plain_sorted entry_sorted (args_sorted1 _) ?_
  unfold Builtin.«sorted»
  refine wpAny_bind (m := checkCount "sorted" 1 1 _) (wpAny_pure ?_)
  refine wpAny_bind (kdu_collect (A := X.A.in1) (kdl_dict (knd := mixKind X.prog X.w) (kvs := vs) (ep := ep) lo) (I.ok.hd hcalm) hat (by rw [← rel.length]; exact z) fun h' tk acc hk hacc => ?_)
  have hv : Vals (ns.map V.int) acc.toList := by
    rw [← ek]
    exact keys_at (by rw [Array.length_toList]; exact hacc.1) fun j v e => hacc.2 j v (by rw [← Array.getElem?_toList]; exact e)
  have hI := hv.ints
  have hal : acc.toList.length = ns.length := by rw [Array.length_toList, hacc.1, hlv]
  refine wpAny_bind (wpAny_newList ?_ (by rw [hal, sizeLine_eq]; omega))
  have hoL : (h'.push (seqObj "list" acc.toList.toArray 0)).get? h'.objs.size = some (seqObj "list" acc.toList.toArray 0) := Heap.get?_push_size _ rfl
  refine wpAny_bind (wpAny_holding (wpAny_call_entry slot_list_sort ⟨_, hoL, rfl⟩ entry_list_sort (list_sort_tree hoL hI (by rw [hal]; exact h64) fun out ns' a1 a2 a3 => ⟨_, rfl, ?_⟩) (args_list_sort _)))
  obtain ⟨c, hc⟩ := sortedHeap_at (vs := acc.toList) (out := out) hoL
  refine wpAny_pure ⟨_, rfl, ?_⟩
  have hn : H h'.objs.size = none := (I.hok.kept hk).fresh (Nat.le_refl _)
  have hg : s.heap.get? h'.objs.size = none := by
    cases e : s.heap.get? h'.objs.size with
    | none => rfl
    | some o => exact absurd (Heap.lt_size (hk _ _ e)) (Nat.lt_irrefl _)
  have hlen : (ns'.map V.int).length ≤ sizeLine := by rw [List.length_map, a2.length_eq, sizeLine_eq]; omega
  exact ⟨.ref h'.objs.size, upd H h'.objs.size (.lst (ns'.map V.int)), I.laidN (t' := tk) (fun b u e => by
    have q := hk b u e
    have hlt := Heap.lt_size q
    rw [sortedHeap_old (Nat.ne_of_lt hlt) (by rw [size_push']; exact Nat.lt_succ_of_lt hlt)]
    exact Heap.get?_push_of_some _ q) hg hn ⟨hlen, out.toList, c, vals_of_ints a1, hc⟩, rfl, q ns' _ a2 a3 hn⟩
/-- .. by data -/
def bSortD : DCl := fun ds M Q => ∃ (d : D) (kvs : List (Key × D)) (ns : List Int), ds = [d] ∧ Rdd M d kvs ∧ kvs.map (·.1) = ns.map Sum.inl ∧ ns.length < 64 ∧ ∀ ns' : List Int, ns'.Perm ns → ns'.Pairwise (· ≤ ·) → NewL (ns'.map D.int) M Q
theorem cd_sortedD {X : Cx} (hc : X.calm = true) : CallR X (.builtin "sorted") (liC X.K bSortD) := crI (cr_sortedD hc) fun vs H Q ⟨ds, M, F, P, o, r, ⟨d, kvs, ns, e, h, hk, h64, q⟩, k⟩ => by
  subst e
  obtain ⟨v, rfl, rv⟩ := r.one_inv
  obtain ⟨a, ws, rfl, h1, h2⟩ := h.get o rv
  exact ⟨a, ws, ns, rfl, .inl h1, h2.keys.trans hk, h64, fun ns' p hp hs hf => (q ns' hp hs).ok o hf (IsL.of_ints ns') k⟩
end DL

set_option Elab.async false
set_option linter.all false
set_option maxRecDepth 100000
set_option maxHeartbeats 2000000
namespace DL
open PySem L2 PySem.Spec
/-! defs that may raise: what is wished of an exception, by the slots, its class and the memory -/
abbrev DRX := DSt → Addr → Mem → Prop
def XOk (K : PySem.W.Frag) (F : Fr) (H : Hp) (M : Mem) (R : DRX) (W : WX) : Prop := ∀ C τ' M' σ' H', To K F H M H' M' → IsS K (stab H' M' F) σ' τ' → R τ' C M' → W (.ref C) none σ' H'
theorem XOk.to {K : PySem.W.Frag} {F : Fr} {H H' : Hp} {M M' : Mem} {R : DRX} {W : WX} (x : XOk K F H M R W) (t : To K F H M H' M') : XOk K F H' M' R W := fun C τ2 M2 σ2 H2 t2 => x C τ2 M2 σ2 H2 (t.trans t2)
def liSX (K : PySem.W.Frag) (R : DRX) (W : WX) (t : DTS) : TS := fun Z σ H => ∃ τ M F Y, Stt K F H M σ τ ∧ EOk K F H M Y Z ∧ XOk K F H M R W ∧ t Y τ M
def liEX (K : PySem.W.Frag) (R : DRX) (W : WX) (t : DTE) : TE := fun σ H Q => ∃ τ M F P, Stt K F H M σ τ ∧ XOk K F H M R W ∧ t τ M P ∧ ∀ d M' v H', P d M' → To K F H M H' M' → Is K (stab H' M' F) v d → Q v H'
abbrev DSX (X : Cx) (R : DRX) (W : WX) (s : Stmt) (t : DTS) : Prop := PS X s (liSX X.K R W t)
abbrev DSsX (X : Cx) (R : DRX) (W : WX) (s : List Stmt) (t : DTS) : Prop := PSs X s (liSX X.K R W t)
abbrev DEX (X : Cx) (R : DRX) (W : WX) (e : Expr) (t : DTE) : Prop := PE X e (liEX X.K R W t)
section
variable {X : Cx} {R : DRX} {W : WX} {s st : Stmt} {rest body : List Stmt} {e a b c : Expr} {t u : DTS} {te ta tb : DTE} {pos : Pos}
theorem sx_of (h : DS X s t) : DSX X R W s t := psI h fun Z σ H ⟨τ, M, F, Y, s, k, _, q⟩ => ⟨τ, M, F, Y, s, k, q⟩
theorem ssx_of (h : DSs X body t) : DSsX X R W body t := pssI h fun Z σ H ⟨τ, M, F, Y, s, k, _, q⟩ => ⟨τ, M, F, Y, s, k, q⟩
theorem ex_of (h : DE X e te) : DEX X R W e te := peI h fun σ H Q ⟨τ, M, F, P, s, _, q, k⟩ => ⟨τ, M, F, P, s, q, k⟩
theorem ssx_nil : DSsX X R W [] dNext := ssx_of dss_nil
theorem ssx_cons (h1 : DSX X R W st t) (h2 : DSsX X R W rest u) : DSsX X R W (st :: rest) (dSeq t u) := pssI (pss_cons h1 h2) fun Z σ H ⟨τ, M, F, Y, s, k, x, q⟩ =>
  ⟨τ, M, F, { Y with nx := u Y }, s, ⟨fun σ' H' τ' M' t' s' q' => ⟨τ', M', F, Y, ⟨t'.ok, s'⟩, k.to t', x.to t', q'⟩, k.bk, k.ct, k.rt⟩, x, q⟩
theorem ssx_one (h1 : DSX X R W st t) : DSsX X R W [st] t := pss_one h1
theorem sx_if {ba bb : List Stmt} {tc : DTT} (hc : DT X c tc) (ha : DSsX X R W ba t) (hb : DSsX X R W bb u) : DSX X R W (.If c ba bb pos) (dIfS tc t u) := psI (ps_if hc ha hb) fun Z σ H ⟨τ, M, F, Y, s, k, x, q⟩ =>
  ⟨τ, M, F, _, s, q, fun b M' H' q' t' => by
    cases b with
    | true => exact ⟨τ, M', F, Y, s.to t', k.to t', x.to t', q'⟩
    | false => exact ⟨τ, M', F, Y, s.to t', k.to t', x.to t', q'⟩⟩
theorem sx_expr (he : DEX X R W e te) (hs : swapsWith e none pos.line X.env = pure false := by rfl) : DSX X R W (.Expr e pos) (dDrop te) := psI (ps_expr he hs) fun Z σ H ⟨τ, M, F, Y, s, k, x, q⟩ =>
  ⟨τ, M, F, _, s, x, q, fun d M' v H' q' t' _ => k.nx σ H' τ M' t' (s.to t').sl q'⟩
theorem sx_ret (he : DEX X R W e te) : DSX X R W (.Return (some e) pos) (dRet te) := psI (ps_ret he) fun Z σ H ⟨τ, M, F, Y, s, k, x, q⟩ =>
  ⟨τ, M, F, _, s, x, q, fun d M' v H' ⟨N, e, w, q'⟩ t' r => let ⟨t2, r2⟩ := w.to t'.ok r; k.rt v H' e N (t'.trans t2) r2 q'⟩
theorem sx_set {i : Nat} {x : Str} {pos' : Pos} (hN : X.N.Nodup) (hi : X.N[i]? = some x) (hx : Loc X.env.scope x) (he : DEX X R W e te) (hs : swapsWith e (some (.Name x pos')) pos.line X.env = pure false := by rfl) (hf : X.fn x = true ∨ X.env.scope.names.lookup x = some .local := by first | exact .inl rfl | exact .inr rfl | assumption) :
    DSX X R W (.Assign [.Name x pos'] e pos) (dAsg te (gNm i)) := psI (ps_set hN hi hx he hs hf) fun Z σ H ⟨τ, M, F, Y, s, k, x, q⟩ =>
  ⟨τ, M, F, _, s, x, q, fun d M' v H' q' t' r => k.nx _ H' _ M' t' ((s.to t').sl.set i r) q'⟩
theorem ex_op {op : Operator} {g : DOp} (ho : OpR X (binaryOp op) (liO X.K g)) (ha : DEX X R W a ta) (hb : DEX X R W b tb) : DEX X R W (.BinOp a op b pos) (dOp g ta tb) := peI (pe_op ho ha hb) fun σ H Q ⟨τ, M, F, P, s, x, q, k⟩ =>
  ⟨τ, M, F, _, s, x, q, fun d M1 v H1 q1 t1 r1 => ⟨τ, M1, F, _, s.to t1, x.to t1, q1, fun d2 M2 v2 H2 q2 t2 r2 =>
    ⟨d, d2, M2, F, P, t2.ok, r1.mono t2.ex, r2, q2, fun d' M' v' H' p t => k d' M' v' H' p ((t1.trans t2).trans t)⟩⟩⟩
end
/-! the call of a def that may raise -/
abbrev DSpX := List D → Mem → (D → Mem → Prop) → (Addr → Mem → Prop) → Prop
def liPX (K : PySem.W.Frag) (sp : DSpX) : Sp := fun vs H Q E => ∃ ds M F P R, Ok K F H M ∧ IsL K (stab H M F) vs ds ∧ sp ds M P R ∧ (∀ d M' v H', P d M' → To K F H M H' M' → Is K (stab H' M' F) v d → Q v H') ∧ ∀ C M' H', R C M' → To K F H M H' M' → E (.ref C) none H'
structure FnX (P : Program) (w : World) (K : PySem.W.Frag) (mg : Str → Option Value) (base : Heap) (x : Str) (ps : List Str) (k : Nat) (sp : DSpX) : Prop where
  ex : ∃ f fd, FnOk P w K mg base (L2.CX P w) k f fd ps (liPX K sp) ∧ mg x = some (.ref f) ∧ PySem.W.keepIn K (.ref f) = true ∧ Binds K fd ps []
structure MtX (P : Program) (w : World) (K : PySem.W.Frag) (mg : Str → Option Value) (base : Heap) (C : Addr) (m : Str) (ps : List Str) (k : Nat) (sp : DSpX) : Prop where
  ex : ∃ f fd, FnOk P w K mg base (L2.CX P w) k f fd ps (liPX K sp) ∧ Meth K C m f ∧ Binds K fd ps []
def dCallX (sp : DSpX) (R : DRX) (t : DTA) : DTE := fun τ M Q => t τ M fun ds M1 => sp ds M1 Q (R τ)
def dMethX (C : Addr) (m : Str) (sp : DSpX) (R : DRX) (ta : DTE) (t : DTA) : DTE := fun τ M Q => ta τ M fun x M1 => (∃ gs, Rdo M1 x C gs ∧ gs.lookup m = none) ∧ t τ M1 fun ds M2 => sp (x :: ds) M2 Q (R τ)
section
variable {X : Cx} {R : DRX} {W : WX} {k : Nat} {x m : Str} {C : Addr} {ps : List Str} {sp : DSpX} {p pos apos : Pos} {e o : Expr} {es : List Expr} {ta : DTE} {t : DTA}
theorem ex_call (tk : Takes X W) (F : FnX X.prog X.w X.K X.mg X.base x ps k sp) (hr : Room k X.A) (hg : Gl X x) (ha : DA X (e :: es) t)
    (hdb : (x == ("__debug__" : Str)) = false := by decide) (he : starEach (e :: es) X.env = (false, eval e X.env) :: starEach es X.env := by rfl) (hpl : (backTo pos (starEach es X.env)).any (·.1) = false := by rfl) :
    DEX X R W (.Call (.Name x p) (e :: es) [] pos) (dCallX sp R t) := by
  obtain ⟨f, fd, a, b, c, d⟩ := F.ex
  refine peI (pe_callS (E := WE W) a hr hg b c d (fun σ => passAt tk σ) ha hdb he hpl) fun σ H Q ⟨τ, M, F, P, s, xk, q, kk⟩ => ?_
  refine ⟨τ, M, F, _, s, q, fun ds M1 vs H1 q1 t1 r1 => ⟨ds, M1, F, P, R τ, t1.ok, r1, q1, fun d' M' v' H' p t => kk d' M' v' H' p (t1.trans t), fun C M' H' p t => ?_⟩⟩
  exact xk C τ M' σ H' (t1.trans t) ((s.to t1).to t).sl p
theorem pe_methS {pl : Sem Bool} {CX : CXT} {f : Addr} {fd : FuncData} {spv : Sp} {E : St → XK} {ta : TE} {t : TA} (he : PE X o ta) (c : Cls X.K C) (hm : Meth X.K C m f) (F : FnOk X.prog X.w X.K X.mg X.base CX k f fd ps spv) (hr : Room k X.A) (hb : Binds X.K fd ps []) (hx : ∀ σ, PassesAt CX X σ (E σ)) (ha : PA X (e :: es) t)
    (hst : starEach (e :: es) X.env = (false, eval e X.env) :: starEach es X.env) (hpl : (backTo pos (starEach es X.env)).any (·.1) = false)
    (ht : eval (.Call (.Attribute o m apos) (e :: es) [] pos) X.env = (do
      let ov ← eval o X.env
      standAt apos.atName
      let (f, first) ← holding [ov] (getMethod ov m pl)
      callWith pos f first (backTo pos (starEach (e :: es) X.env)) (backToKw pos (keywordEach [] X.env)))) :
    PE X (.Call (.Attribute o m apos) (e :: es) [] pos) (fun σ H Q => ta σ H fun x H1 => ∃ a dx fs, x = .ref a ∧ H1 a = some (.ins C dx fs) ∧ fs.lookup m = none ∧ t σ H1 fun vs H2 => spv (.ref a :: vs) H2 Q (E σ)) := by
  refine ⟨fun pins s σ H Q I h => PySem.W.methodCall_KW (pl := pl) (thn (he.run pins s σ H _ I h) fun u s1 ⟨y, H1, I1, ry, a, dx, fs, ex, ea, l, q⟩ => ?_) ht⟩
  subst ex
  cases ry
  exact getmeth_ok I1 ea c hm l (PySem.W.callWith_K (first := [.ref a]) (h₀ := X.base) I.ok.mod.kin hm.kp (thn (ha.run pos pins s1 σ H1 _ I1 q) fun us s2 ⟨vs, H2, I2, r, q2⟩ => ⟨I2.kIn, run_fnS (us := .ref a :: us) (vs := .ref a :: vs) F hr hb (hx σ) I2 (.cons rfl r) q2⟩) hst hpl)
theorem ex_meth {pl : Sem Bool} (tk : Takes X W) (c : Cls X.K C) (F : MtX X.prog X.w X.K X.mg X.base C m ps k sp) (hr : Room k X.A) (he : DE X o ta) (ha : DA X (e :: es) t)
    (hst : starEach (e :: es) X.env = (false, eval e X.env) :: starEach es X.env := by rfl) (hpl : (backTo pos (starEach es X.env)).any (·.1) = false := by rfl)
    (ht : eval (.Call (.Attribute o m apos) (e :: es) [] pos) X.env = (do
      let ov ← eval o X.env
      standAt apos.atName
      let (f, first) ← holding [ov] (getMethod ov m pl)
      callWith pos f first (backTo pos (starEach (e :: es) X.env)) (backToKw pos (keywordEach [] X.env))) := by rfl) :
    DEX X R W (.Call (.Attribute o m apos) (e :: es) [] pos) (dMethX C m sp R ta t) := by
  obtain ⟨f, fd, a, b, c2⟩ := F.ex
  refine peI (pe_methS (E := WE W) he c b a hr c2 (fun σ => passAt tk σ) ha hst hpl ht) fun σ H Q ⟨τ, M, F, P, s, xk, q, kk⟩ => ?_
  refine ⟨τ, M, F, _, s, q, fun d M1 v H1 ⟨⟨gs, h1, h2⟩, q1⟩ t1 r1 => ?_⟩
  obtain ⟨a, dx, fs, e1, e2, e3⟩ := h1.get t1.ok r1
  subst e1
  refine ⟨a, dx, fs, rfl, e2, e3.none h2, τ, M1, F, _, s.to t1, q1, fun ds M2 vs H2 q2 t2 r2 => ⟨d :: ds, M2, F, P, R τ, t2.ok, .cons (r1.mono t2.ex) r2, q2, fun d' M' v' H' p t => kk d' M' v' H' p ((t1.trans t2).trans t), fun C M' H' p t => ?_⟩⟩
  exact xk C τ M' σ H' ((t1.trans t2).trans t) (((s.to t1).to t2).to t).sl p
end
/-! raise X('..') -/
def dRaise (R : DRX) (C : Addr) : DTS := fun _ τ M => R τ C M
/-- an own exception class over ValueError, without own __init__ -/
structure ExcD (K : PySem.W.Frag) (mg : Str → Option Value) (x : Str) : Prop where
  at_ : mg x = some (.ref (clsA mg x))
  new : PySem.W.excIn K (clsA mg x) [.type "ValueError", .type "Exception", .type "BaseException", .type "object"] "ValueError.__new__" = true
  kp : PySem.W.keepIn K (.ref (clsA mg x)) = true
  sub : PySem.W.subIn K (.ref (clsA mg x)) (.type "BaseException") = some true
  ty : PySem.W.typeIn K (.ref (clsA mg x)) = some (.type "type")
theorem sx_raise {X : Cx} {R : DRX} {W : WX} {C : Addr} {e : Expr} {pos : Pos} (hc : X.calm = true) (tk : Takes X W) (he : PMk X e (fun _ H Q => Q (.ref C) none H)) : DSX X R W (.Raise (some e) none pos) (dRaise R C) := psI (ps_raise hc tk he) fun Z σ H ⟨τ, M, F, Y, s, k, x, q⟩ => x C τ M σ H (To.refl s.ok) s.sl q
theorem sx_raiseO {X : Cx} {R : DRX} {W : WX} {x m : Str} {j : Nat} {p p2 pos pos' : Pos} (mg : Str → Option Value) (em : X.mg = mg) (hc : X.calm = true) (tk : Takes X W) (E : ExcD X.K mg x) (hg : Gl X x) (hdb : (x == ("__debug__" : Str)) = false := by decide) :
    DSX X R W (.Raise (some (.Call (.Name x p) [.Constant (.str m) j p2] [] pos')) none pos) (dRaise R (clsA mg x)) := by
  subst em
  exact sx_raise hc tk (pmk_own PySem.F.excBase_ValueError E.new E.at_ E.kp (raises_own E.sub E.ty) hg hdb)
/-! for, with a body that may raise -/
theorem sx_for {X : Cx} {R : DRX} {W0 : WX} {tg iter : Expr} {body : List Stmt} {wi : DTI} {g : DTG} {tb : DTS} {pos : Pos} (hp : PassesOwn (model X.prog X.w) X.A X.env X.xe) (hc : X.calm = true) (hi : DI X tg iter wi) (hg : DG X tg g) (hb : DSsX X R W0 body tb) (hs : ∀ x, foldedSetIterable iter X.env x = pure x := by intro _; rfl) :
    DSX X R W0 (.For tg iter body [] pos) (dFor wi g tb) := psI (ps_for hp hc hi hg hb hs) fun Z σ H ⟨τ, M, F, Y, s, k, xk, q⟩ => by
  refine ⟨τ, M, F, _, s, q, fun W M1 J H1 ⟨I, i0, turn⟩ t1 ad => ?_⟩
  refine ⟨fun i m σ' H' => ∃ τ' M', m = W.items.length - i ∧ i ≤ W.items.length ∧ To X.K F H1 M1 H' M' ∧ IsS X.K (stab H' M' F) σ' τ' ∧ W.stay M' ∧ I i τ' M', ⟨_, τ, M1, rfl, Nat.zero_le _, To.refl t1.ok, (s.to t1).sl, ad.now, i0⟩, ?_⟩
  rintro i m σ' H' ⟨τ', M', rfl, hi, t2, s2, st, hI⟩
  obtain ⟨tn, te⟩ := turn i τ' M' hI st
  rcases Nat.lt_or_ge i W.items.length with hlt | hge
  · refine .inr ⟨ad.go i F H' M' t2.ok t2.ex st hlt, fun σ3 H3 => ∃ τ3 M3, To X.K F H1 M1 H3 M3 ∧ IsS X.K (stab H3 M3 F) σ3 τ3 ∧ W.stay M3 ∧ I (i + 1) τ3 M3, fun σ3 H3 ⟨τ3, M3, a, b, c, e⟩ => ⟨W.items.length - (i + 1), by omega, τ3, M3, rfl, hlt, a, b, c, e⟩, fun x H2 y => ?_⟩
    obtain ⟨t3, d, hd, rd⟩ := ad.yld i F H' M' x H2 t2.ok t2.ex st hlt y
    refine ⟨d, τ', M', F, _, ⟨t3.ok, s2.mono t3.ex⟩, rd, tn d hd, fun τ4 M4 σ4 H4 p4 t4 s4 => ⟨τ4, M4, F, _, ⟨t4.ok, s4⟩, ?_, xk.to (((t1.trans t2).trans t3).trans t4), p4⟩⟩
    have tt := ((t1.trans t2).trans t3).trans t4
    have t5 := (t2.trans t3).trans t4
    have nxt : ∀ σ' H' τ' M', To X.K F H4 M4 H' M' → IsS X.K (stab H' M' F) σ' τ' → (∃ N, Sub N M' ∧ W.stay N ∧ I (i + 1) τ' N) → ∃ τ3 M3, To X.K F H1 M1 H' M3 ∧ IsS X.K (stab H' M3 F) σ' τ3 ∧ W.stay M3 ∧ I (i + 1) τ3 M3 := fun σ' H' τ' M' a b ⟨N, u, c, e⟩ =>
      ⟨τ', N, (t5.trans a).trans (To.sub a.ok u), b.mono (To.sub a.ok u).ex, c, e⟩
    exact ⟨nxt, fun σ' H' τ' M' a b c => k.nx σ' H' τ' M' (tt.trans a) b c, nxt, fun v H' d M' a b c => k.rt v H' d M' (tt.trans a) b c⟩
  · have e : i = W.items.length := Nat.le_antisymm hi hge
    subst e
    exact .inl ⟨ad.stop F H' M' t2.ok t2.ex st, k.nx σ' H' τ' M' (t1.trans t2) s2 (te rfl)⟩
/-! THE RULES for a def, a method, that may raise -/
section
variable {P : Program} {w : World} {K : PySem.W.Frag} {mg : Str → Option Value} {base : Heap}
abbrev bodyXX (P : Program) (w : World) (K : PySem.W.Frag) (mg : Str → Option Value) (base : Heap) (N : List Str) (x : Str) (st : Stmt) (f : Addr) (cdv : Value) (A : Around) (outer : List Env) (s : Shared) (H : Hp) (E : XK) : Cx :=
  cxOf (L2.CX P w) P w K mg base N x (defScope st) f cdv A outer s H E
theorem okDX {x qual : Str} {st : Stmt} {f : Addr} {fd : FuncData} {N ps : List Str} {k : Nat} {sp : DSpX} {t : DRX → DTS} (F : Fun K x qual st f fd) (S : FnScope N ps (defScope st)) (len : ∀ ds M Q R, sp ds M Q R → ds.length = ps.length)
    (der : ∀ (R : DRX) (W : WX) (cdv : Value) (A : Around) (outer : List Env) (s : Shared) (H : Hp) (E : XK), Takes (bodyXX P w K mg base N qual st f cdv A outer s H E) W → Room k (bodyXX P w K mg base N qual st f cdv A outer s H E).A → DSsX (bodyXX P w K mg base N qual st f cdv A outer s H E) R W (defBody st) (t R))
    (body : ∀ (ds : List D) (M : Mem) (Q : D → Mem → Prop) (R : Addr → Mem → Prop), sp ds M Q R → t (fun _ => R) { nx := fun _ M' => Q .non M', rt := Q } (dstart N ds) M) : FnOk P w K mg base (L2.CX P w) (k + 1) f fd ps (liPX K sp) := by
  refine F.okX S (fun vs H Q E ⟨ds, M, G, P', R, o, r, q, _⟩ => by rw [r.length]; exact len ds M P' R q) fun cdv A outer s H vs Q E hr ⟨ds, M, G, P', R, o, r, q, kk, xx⟩ => ?_
  refine ⟨_, der (fun _ => R) (fun cls d _ H' => E cls d H') cdv A outer s H E (takes_of rfl rfl rfl rfl) hr, dstart N ds, M, G, _, ⟨o, IsS.start N r⟩, ⟨fun σ' H' τ' M' t1 s1 q1 => ?_, fun _ _ _ _ _ _ q => False.elim q, fun _ _ _ _ _ _ q => False.elim q, fun v H' d M' t1 r1 q1 => ?_⟩, fun C τ' M' σ' H' t1 _ p => xx C M' H' p t1, body ds M P' R q⟩
  · exact kk .non M' .non H' q1 t1 .non
  · exact kk d M' v H' q1 t1 r1
theorem okFX {x : Str} {st : Stmt} {N ps : List Str} {k : Nat} {sp : DSpX} {t : DRX → DTS} (D0 : Dfn K mg x st) (S : FnScope N ps (defScope st))
    (bd : ∀ (kV doc pm : Value) (an : Option Addr) (cdv ct : Value) (us : List Value), us.length = ps.length → bindArgs (PySem.W.fnOf x x (defArgs st) (defBody st) (defScope st) .none kV doc pm an cdv ct) ⟨us, []⟩ = pure (ps.zip us))
    (len : ∀ ds M Q R, sp ds M Q R → ds.length = ps.length)
    (der : ∀ (f : Addr) (R : DRX) (W : WX) (cdv : Value) (A : Around) (outer : List Env) (s : Shared) (H : Hp) (E : XK), Takes (bodyXX P w K mg base N x st f cdv A outer s H E) W → Room k (bodyXX P w K mg base N x st f cdv A outer s H E).A → DSsX (bodyXX P w K mg base N x st f cdv A outer s H E) R W (defBody st) (t R))
    (body : ∀ (ds : List D) (M : Mem) (Q : D → Mem → Prop) (R : Addr → Mem → Prop), sp ds M Q R → t (fun _ => R) { nx := fun _ M' => Q .non M', rt := Q } (dstart N ds) M) : FnX P w K mg base x ps (k + 1) sp := by
  obtain ⟨f, fd, F, m⟩ := D0.ex
  exact ⟨f, fd, okDX F S len (der f) body, m, F.kp, F.binds bd⟩
theorem okMX {C : Addr} {m qual : Str} {st : Stmt} {N ps : List Str} {k : Nat} {sp : DSpX} {t : DRX → DTS} (D0 : Mtd K C m qual st) (S : FnScope N ps (defScope st))
    (bd : ∀ (kV doc pm : Value) (an : Option Addr) (cdv ct : Value) (us : List Value), us.length = ps.length → bindArgs (PySem.W.fnOf m qual (defArgs st) (defBody st) (defScope st) .none kV doc pm an cdv ct) ⟨us, []⟩ = pure (ps.zip us))
    (len : ∀ ds M Q R, sp ds M Q R → ds.length = ps.length)
    (der : ∀ (f : Addr) (R : DRX) (W : WX) (cdv : Value) (A : Around) (outer : List Env) (s : Shared) (H : Hp) (E : XK), Takes (bodyXX P w K mg base N qual st f cdv A outer s H E) W → Room k (bodyXX P w K mg base N qual st f cdv A outer s H E).A → DSsX (bodyXX P w K mg base N qual st f cdv A outer s H E) R W (defBody st) (t R))
    (body : ∀ (ds : List D) (M : Mem) (Q : D → Mem → Prop) (R : Addr → Mem → Prop), sp ds M Q R → t (fun _ => R) { nx := fun _ M' => Q .non M', rt := Q } (dstart N ds) M) : MtX P w K mg base C m ps (k + 1) sp := by
  obtain ⟨f, fd, F, b⟩ := D0.ex
  exact ⟨f, fd, okDX F S len (der f) body, b, F.binds bd⟩
end
/-! try: .. except X as e: .. -/
def dTry (K : PySem.W.Frag) (c : Value) (i : Nat) (tb : DRX → DTS) (ts : Addr → Addr → DTS) : DTS := fun Y τ M => tb (fun τ' C M' => PySem.W.exmOne K (.ref C) c = some true ∧ ∀ a, M' a = none → ts C a { nx := fun τ2 M2 => Y.nx (τ2.set i none) M2, rt := Y.rt, bk := fun τ2 M2 => Y.bk (τ2.set i none) M2, ct := fun τ2 M2 => Y.ct (τ2.set i none) M2 } (τ'.set i (some (.ref a))) M') Y τ M
section
variable {X : Cx} {x n : Str} {c : Value} {i : Nat} {body suite : List Stmt} {b₀ : Stmt} {np pos pos' : Pos} {tb : DRX → DTS} {ts : Addr → Addr → DTS}
theorem ds_try (K : PySem.W.Frag) (eK : X.K = K) (hs : X.stack = X.env :: X.outer) (hf : X.env.frame = some X.env.locals) (hN : X.N.Nodup) (hi : X.N[i]? = some n) (hln : X.env.kindOf n = some .local) (hc : Names X x c)
    (hb : ∀ (R : DRX) (W : WX) (pn : List (Addr × Obj)) (xe : Value → Shared → Prop), Takes (X.tr pn xe) W → PassesOwn (model X.prog X.w) X.A X.env xe → DSsX (X.tr pn xe) R W body (tb R))
    (hsu : ∀ (C a : Addr) (oe : Obj) (pn : List (Addr × Obj)), Zc (.ref C) none oe → (∃ vs, oe.data = .fields vs) → DSs (X.suite a ((a, oe) :: pn)) (b₀ :: suite) (ts C a)) :
    DS X (.Try body [.ExceptHandler (some (.Name x np)) (some n) (b₀ :: suite) pos'] [] [] pos) (dTry K c i tb ts) := by
  subst eK
  refine psI (ps_try_as (tb := fun W Z σ H => ∃ R, liSX X.K R W (tb R) Z σ H) (ts := fun a cls d Z σ H => ∃ C, cls = .ref C ∧ d = none ∧ liS X.K (ts C a) Z σ H) (Wout := fun _ _ _ _ => False) hs hf hN hi hln hc (fun u s' ⟨_, _, _, _, _, _, _, _, _, _, _, _, _, _, _, _, z⟩ => z.elim) (fun W pn xe tk hp => ⟨fun pins s σ H D I ⟨R, h⟩ => (hb R W pn xe tk hp).run pins s σ H D I h⟩)
    fun a oe cls d pn hz hd => ⟨fun pins s σ H D I ⟨C, e1, e2, h⟩ => by subst e1 e2; exact (hsu C a oe pn hz hd).run pins s σ H D I h⟩) fun Z σ H ⟨τ, M, F, Y, s, k, q⟩ => ?_
  refine ⟨_, τ, M, F, Y, s, k, fun C τ' M' σ' H' t1 sl ⟨e1, hts⟩ => ⟨true, e1, fun _ a na => ⟨C, rfl, rfl, τ'.set i (some (.ref a)), M', F, _, ⟨t1.ok, sl.set i (.ref a)⟩, ?_, hts a (t1.ok.free na).1⟩, fun z => nomatch z⟩, q⟩
  exact ⟨fun σ2 H2 τ2 M2 t2 s2 q2 => k.nx _ H2 _ M2 (t1.trans t2) (s2.none i none) q2, fun σ2 H2 τ2 M2 t2 s2 q2 => k.bk _ H2 _ M2 (t1.trans t2) (s2.none i none) q2, fun σ2 H2 τ2 M2 t2 s2 q2 => k.ct _ H2 _ M2 (t1.trans t2) (s2.none i none) q2, fun v H2 d M2 t2 r2 q2 => k.rt v H2 d M2 (t1.trans t2) r2 q2⟩
end
/-- isinstance(e, c) in the suite -/
def dIsX (K : PySem.W.Frag) (C a : Addr) (i : Nat) (cv : Value) : DTE := fun τ M Q => ∃ b, ExcC K C ∧ PySem.W.kitOne K (.ref C) cv = some b ∧ τ[i]? = some (some (.ref a)) ∧ Q (.bl b) M
theorem de_isX (K : PySem.W.Frag) {X : Cx} {C a : Addr} {oe : Obj} {pn : List (Addr × Obj)} {i : Nat} {y : Str} {cv : Value} {v : V} {p p2 p3 pos : Pos} {x : Str} (eK : X.K = K) (hz : Zc (.ref C) none oe) (hf : ∃ vs, oe.data = .fields vs) (hN : X.N[i]? = some x) (hv : Vis X.env.scope x) (hg : Gl X "isinstance") (hm : X.mg "isinstance" = none)
    (hcl : PE (X.suite a ((a, oe) :: pn)) (.Name y p3) (tC v)) (hr : ∀ u, RelV v u → u = cv) (hdb : (x == ("__debug__" : Str)) = false := by decide) (hcd : (x == ("__classdict__" : Str)) = false := by decide)
    (he : starEach [.Name x p2, .Name y p3] (X.suite a ((a, oe) :: pn)).env = (false, eval (.Name x p2) X.env) :: starEach [.Name y p3] X.env := by rfl) (hpl : (backTo pos (starEach [.Name y p3] (X.suite a ((a, oe) :: pn)).env)).any (·.1) = false := by rfl)
    (he2 : starEach [.Name y p3] (X.suite a ((a, oe) :: pn)).env = (false, eval (.Name y p3) X.env) :: starEach [] X.env := by rfl) :
    DE (X.suite a ((a, oe) :: pn)) (.Call (.Name "isinstance" p) [.Name x p2, .Name y p3] [] pos) (dIsX K C a i cv) := by
  subst eK
  refine ⟨fun pins s σ H Q I ⟨τ, M, F, P, st, ⟨b, hC, hk, hi, q⟩, kk⟩ => ?_⟩
  obtain ⟨va, hσ, hva⟩ := st.sl.at_ i _ hi
  cases hva
  refine (pe_callB (call_isE hC hz hf) hg hm (by decide +kernel) (pa_cons (pe_var (X := X.suite a ((a, oe) :: pn)) hN hv hdb hcd) (pa_cons hcl pa_nil he2) he) (by decide) (by decide) he hpl).run pins s σ H Q I ?_
  exact ⟨.ref a, hσ, v, cv, b, rfl, hr, hk, kk (.bl b) M _ H q (To.refl st.ok) (.bl b)⟩
/-- isinstance(e, (c1, c2, ..)) in the suite -/
def rIsET (K : PySem.W.Frag) (C a : Addr) : List V → Hp → VK → Prop := fun xs H Q => ∃ (tp : Addr) (cs : List V) (us : List Value) (b : Bool), xs = [.ref a, .ref tp] ∧ H tp = some (.tup cs) ∧ Paired ClsV cs us ∧ PySem.W.kitAny K (.ref C) us = some b ∧ Q (.bl b) H
theorem call_isET {X : Cx} {a C : Addr} {oe : Obj} {pn : List (Addr × Obj)} (hC : ExcC X.K C) (hz : Zc (.ref C) none oe) (hf : ∃ vs, oe.data = .fields vs) : CallR (X.suite a ((a, oe) :: pn)) (.builtin "isinstance") (rIsET X.K C a) := by
  intro pins s σ H xs us Q I r h
  obtain ⟨tp, cs, ws, b, rfl, hT, k, e, q⟩ := h
  obtain ⟨u1, u2, rfl, r1, r2⟩ := vals2 r
  cases (show u1 = Value.ref a from r1)
  cases (show u2 = Value.ref tp from r2)
  obtain ⟨_, its, rv, o, h1, h2, n, h3⟩ := (show ObjOk X.prog X.w H s.heap tp (.tup cs) from I.hok tp _ hT)
  have e3 := ClsV.all k rv
  subst e3
  obtain ⟨oc, od, dt, sl⟩ := o
  simp only at h2 h3
  subst h2 h3
  obtain ⟨hget, _⟩ := I.pin (a, oe) (List.mem_append.mpr (.inl List.mem_cons_self))
  obtain ⟨vs, hv⟩ := hf
  have J : PySem.W.InstAt s.heap a oe C none := by
    obtain ⟨oc2, od2, oda2, osl2⟩ := oe
    obtain ⟨g1, g2⟩ := hz
    dsimp only at g1 g2 hv
    subst g1 g2 hv
    exact ⟨hget, rfl, rfl, trivial⟩
  exact PySem.W.kia_tup (PySem.W.handS_kitx_exc hC.hg hC.hk hC.hs hC.hd hC.ha hC.hn hC.ht hC.hm) I.kIn J h1 e (fun z => nomatch z) fun tk => ⟨.bl b, H, I.tok tk, rfl, q⟩
def dIsXT (K : PySem.W.Frag) (C a : Addr) (i : Nat) (us : List Value) : DTE := fun τ M Q => ∃ b, ExcC K C ∧ PySem.W.kitAny K (.ref C) us = some b ∧ τ[i]? = some (some (.ref a)) ∧ Q (.bl b) M
theorem de_isXT (K : PySem.W.Frag) {X : Cx} {C a : Addr} {oe : Obj} {pn : List (Addr × Obj)} {i kk : Nat} {cs : List V} {us : List Value} {es : List Expr} {t : TA} {p p2 p3 pos : Pos} {x : Str} (eK : X.K = K) (hz : Zc (.ref C) none oe) (hf : ∃ vs, oe.data = .fields vs) (hN : X.N[i]? = some x) (hv : Vis X.env.scope x) (hg : Gl X "isinstance") (hm : X.mg "isinstance" = none)
    (hes : PA (X.suite a ((a, oe) :: pn)) es t) (ht : ∀ σ H Q, Q cs H → t σ H Q) (hsz : cs.length ≤ sizeLine) (hcl : Paired ClsV cs us) (hdb : (x == ("__debug__" : Str)) = false := by decide) (hcd : (x == ("__classdict__" : Str)) = false := by decide)
    (he : starEach [.Name x p2, .Tuple es kk p3] (X.suite a ((a, oe) :: pn)).env = (false, eval (.Name x p2) X.env) :: starEach [.Tuple es kk p3] X.env := by rfl) (hpl : (backTo pos (starEach [.Tuple es kk p3] (X.suite a ((a, oe) :: pn)).env)).any (·.1) = false := by rfl)
    (he2 : starEach [.Tuple es kk p3] (X.suite a ((a, oe) :: pn)).env = (false, eval (.Tuple es kk p3) X.env) :: starEach [] X.env := by rfl) :
    DE (X.suite a ((a, oe) :: pn)) (.Call (.Name "isinstance" p) [.Name x p2, .Tuple es kk p3] [] pos) (dIsXT K C a i us) := by
  subst eK
  refine ⟨fun pins s σ H Q I ⟨τ, M, F, P, st, ⟨b, hC, hk, hi, q⟩, kc⟩ => ?_⟩
  obtain ⟨va, hσ, hva⟩ := st.sl.at_ i _ hi
  cases hva
  refine (pe_callB (call_isET hC hz hf) hg hm (by decide +kernel) (pa_cons (pe_var (X := X.suite a ((a, oe) :: pn)) hN hv hdb hcd) (pa_cons (pe_tup hes) pa_nil he2) he) (by decide) (by decide) he hpl).run pins s σ H Q I ?_
  refine ⟨.ref a, hσ, ht σ H _ ⟨hsz, fun tp htp => ?_⟩⟩
  exact ⟨tp, cs, us, b, rfl, upd_same, hcl, hk, kc (.bl b) M _ _ q (To.new st.ok htp (.tup cs)) (.bl b)⟩
/-- facts about an exception class, and about one class under another -/
theorem excD_mk {K : PySem.W.Frag} {h : Heap} {mg : Str → Option Value} {x : Str} {C : Addr} (X : K.In h) (G : h.Ns mainGlobals mg) (a : PySem.W.nsIn K mainGlobals x = some (some (.ref C)))
    (n : PySem.W.excIn K C [.type "ValueError", .type "Exception", .type "BaseException", .type "object"] "ValueError.__new__" = true) (k : PySem.W.keepIn K (.ref C) = true) (s : PySem.W.subIn K (.ref C) (.type "BaseException") = some true) (t : PySem.W.typeIn K (.ref C) = some (.type "type")) : ExcD K mg x := by
  have e := clsA_of X G a
  refine ⟨?_, ?_, ?_, ?_, ?_⟩ <;> rw [e]
  · exact PySem.W.mg_of X G a
  · exact n
  · exact k
  · exact s
  · exact t
theorem excC_mk {K : PySem.W.Frag} {h : Heap} {mg : Str → Option Value} {x : Str} {C : Addr} (X : K.In h) (G : h.Ns mainGlobals mg) (a : PySem.W.nsIn K mainGlobals x = some (some (.ref C))) (E : ExcC K C) : ExcC K (clsA mg x) := by
  rw [clsA_of X G a]; exact E
theorem kit_mk {K : PySem.W.Frag} {h : Heap} {mg : Str → Option Value} {x y : Str} {C D : Addr} {b : Bool} (X : K.In h) (G : h.Ns mainGlobals mg) (a : PySem.W.nsIn K mainGlobals x = some (some (.ref C))) (a2 : PySem.W.nsIn K mainGlobals y = some (some (.ref D))) (e : PySem.W.kitOne K (.ref C) (.ref D) = some b) : PySem.W.kitOne K (.ref (clsA mg x)) (.ref (clsA mg y)) = some b := by
  rw [clsA_of X G a, clsA_of X G a2]; exact e
theorem kitT_mk {K : PySem.W.Frag} {h : Heap} {mg : Str → Option Value} {x : Str} {C : Addr} {n : String} {b : Bool} (X : K.In h) (G : h.Ns mainGlobals mg) (a : PySem.W.nsIn K mainGlobals x = some (some (.ref C))) (e : PySem.W.kitOne K (.ref C) (.type n) = some b) : PySem.W.kitOne K (.ref (clsA mg x)) (.type n) = some b := by
  rw [clsA_of X G a]; exact e
theorem exm_mk {K : PySem.W.Frag} {h : Heap} {mg : Str → Option Value} {x y : Str} {C D : Addr} {b : Bool} (X : K.In h) (G : h.Ns mainGlobals mg) (a : PySem.W.nsIn K mainGlobals x = some (some (.ref C))) (a2 : PySem.W.nsIn K mainGlobals y = some (some (.ref D))) (e : PySem.W.exmOne K (.ref C) (.ref D) = some b) : PySem.W.exmOne K (.ref (clsA mg x)) (.ref (clsA mg y)) = some b := by
  rw [clsA_of X G a, clsA_of X G a2]; exact e
instance i_raise {R : DRX} {C : Addr} {Y : DEnds} {τ : DSt} {M : Mem} : Stp (dRaise R C Y τ M) (R τ C M) := ⟨fun q => q⟩
instance i_callX {sp : DSpX} {R : DRX} {t : DTA} {τ : DSt} {M : Mem} {Q : D → Mem → Prop} : Stp (dCallX sp R t τ M Q) (t τ M fun ds M1 => sp ds M1 Q (R τ)) := ⟨fun q => q⟩
instance i_methX {C : Addr} {m : Str} {sp : DSpX} {R : DRX} {ta : DTE} {t : DTA} {τ : DSt} {M : Mem} {Q : D → Mem → Prop} : Stp (dMethX C m sp R ta t τ M Q) (ta τ M fun x M1 => (∃ gs, Rdo M1 x C gs ∧ gs.lookup m = none) ∧ t τ M1 fun ds M2 => sp (x :: ds) M2 Q (R τ)) := ⟨fun q => q⟩
instance i_try {K : PySem.W.Frag} {c : Value} {i : Nat} {tb : DRX → DTS} {ts : Addr → Addr → DTS} {Y : DEnds} {τ : DSt} {M : Mem} : Stp (dTry K c i tb ts Y τ M) (tb (fun τ' C M' => PySem.W.exmOne K (.ref C) c = some true ∧ ∀ a, M' a = none → ts C a { nx := fun τ2 M2 => Y.nx (τ2.set i none) M2, rt := Y.rt, bk := fun τ2 M2 => Y.bk (τ2.set i none) M2, ct := fun τ2 M2 => Y.ct (τ2.set i none) M2 } (τ'.set i (some (.ref a))) M') Y τ M) := ⟨fun q => q⟩
theorem kit_ref {K : PySem.W.Frag} {C D : Addr} {b : Bool} (hb : (Value.ref C == Value.ref D) = true → b = true) (hdct : PySem.W.hasDictIn K D = true) (ht : PySem.W.typeIn K (.ref D) = some (.type "type")) (h4 : PySem.W.subIn K (.ref C) (.ref D) = some b) : PySem.W.kitOne K (.ref C) (.ref D) = some b := by
  unfold PySem.W.kitOne
  split
  · rename_i h
    rw [hb h]
  · unfold PySem.W.kitCls
    unfold PySem.W.hasDictIn at hdct
    cases hc : PySem.W.clsIn K D with
    | none => rw [hc] at hdct; simp at hdct
    | some cd => simp [hc, ht, h4]
theorem kit_typ {K : PySem.W.Frag} {C : Addr} {n : String} {b : Bool} (hk : PySem.W.kitMeta n = true) (h4 : PySem.W.subIn K (.ref C) (.type n) = some b) : PySem.W.kitOne K (.ref C) (.type n) = some b := by
  unfold PySem.W.kitOne
  rw [if_neg (by intro h; cases beq_iff_eq.mp h)]
  unfold PySem.W.kitCls
  simp [h4, hk]
end DL

set_option Elab.async false
set_option linter.all false
set_option maxRecDepth 100000
set_option maxHeartbeats 2000000
namespace DL
open PySem L2 PySem.Spec
/-! an instance of an own class whose __init__ may raise -/
section
variable {X : Cx} {CX : CXT} {k : Nat} {f C : Addr} {fd : FuncData} {ps : List Str} {sp : Sp} {E : St → XK} {x : Str} {p pos : Pos} {e : Expr} {es : List Expr} {t : TA}
theorem run_makeS {pins : List (Addr × Obj)} {σ : St} {H : Hp} {s : Shared} {Q : VK} {us : List Value} {vs : List V} (Mm : Mk X.K C f) (F : FnOk X.prog X.w X.K X.mg X.base CX k f fd ps sp) (hr : Room (k + 1) X.A) (hb : Binds X.K fd ps [])
    (hx : PassesAt CX X σ (E σ)) (I : Inv X pins σ H s) (r : Vals vs us)
    (h : ∀ y dx, H y = none → H dx = none → dx ≠ y → sp (.ref y :: vs) (upd (upd H dx (.own y)) y (.ins C dx [])) (fun v H2 => v = .non ∧ Q (.ref y) H2) (E σ)) :
    wpAny (model X.prog X.w) X.A (call (.ref C) us) (EP X pins σ Q) X.xe s := by
  have fa := I.hok.fresh (Nat.le_succ s.heap.objs.size)
  have fb := I.hok.fresh (Nat.le_refl s.heap.objs.size)
  have hq := h _ _ fa fb (Nat.ne_of_lt (Nat.lt_succ_self _))
  have I2 := Inv.made (C := C) I
  have r2 : Vals (V.ref (s.heap.objs.size + 1) :: vs) (Value.ref (s.heap.objs.size + 1) :: us) := .cons rfl r
  have hl : (Value.ref (s.heap.objs.size + 1) :: us).length = ps.length := r2.length.symm.trans (F.len _ _ _ _ hq)
  have b := hb _ (Value.ref (s.heap.objs.size + 1) :: us) I2.kIn (by rw [List.append_nil]; exact hl)
  rw [List.append_nil] at b
  have run := F.run _ X.stack _ _ ⟨Value.ref (s.heap.objs.size + 1) :: us, []⟩ (Value.ref (s.heap.objs.size + 1) :: us) _ _ (E σ) (hr.make C us []) (I2.env0.make C us []) b r2 hq
  refine wpAny_call (make_map (f := f) I.kIn Mm.makes Mm.init (beq_iff_eq.mp Mm.fn) (codeAny_mono run fun res s' hq' => ?_))
  match res, hq' with
  | .error e, hq' => exact hx pins _ _ e s' I2 hq'
  | .ok (.ret u), hq' =>
    obtain ⟨v, H', I3, rv, ev, q3⟩ := I2.after hq'
    cases ev
    exact ⟨rv, V.ref (s.heap.objs.size + 1), H', I3, rfl, q3⟩
  | .ok .next, hq' => exact False.elim hq'
  | .ok .brk, hq' => exact False.elim hq'
  | .ok .cont, hq' => exact False.elim hq'
def tMakeS (C : Addr) (sp : Sp) (E : St → XK) (t : TA) : TE := fun σ H Q => t σ H fun vs H1 => ∀ y dx, H1 y = none → H1 dx = none → dx ≠ y →
  sp (.ref y :: vs) (upd (upd H1 dx (.own y)) y (.ins C dx [])) (fun v H2 => v = .non ∧ Q (.ref y) H2) (E σ)
theorem pe_makeS (Mm : Mk X.K C f) (F : FnOk X.prog X.w X.K X.mg X.base CX k f fd ps sp) (hr : Room (k + 1) X.A) (hg : Gl X x) (hm : X.mg x = some (.ref C)) (hb : Binds X.K fd ps []) (hx : ∀ σ, PassesAt CX X σ (E σ))
    (ha : PA X (e :: es) t) (hdb : (x == ("__debug__" : Str)) = false := by decide) (he : starEach (e :: es) X.env = (false, eval e X.env) :: starEach es X.env := by rfl) (hpl : (backTo pos (starEach es X.env)).any (·.1) = false := by rfl) :
    PE X (.Call (.Name x p) (e :: es) [] pos) (tMakeS C sp E t) := ⟨fun pins s σ H Q I h => by
  refine wpAny_Call_Name_kw (ld_glob I hg hm ?_ hdb)
  exact PySem.W.callWith_K (h₀ := X.base) I.ok.mod.kin Mm.kp (thn (ha.run pos pins s σ H _ I h) fun us s1 ⟨vs, H1, I1, r, q⟩ => ⟨I1.kIn, run_makeS Mm F hr hb (hx σ) I1 r q⟩) he hpl⟩
end
structure MkrX (P : Program) (w : World) (K : PySem.W.Frag) (mg : Str → Option Value) (base : Heap) (x : Str) (ps : List Str) (k : Nat) (sp : DSpX) : Prop where
  ex : ∃ f fd, FnOk P w K mg base (L2.CX P w) k f fd ps (liPX K sp) ∧ Mk K (clsA mg x) f ∧ Binds K fd ps []
theorem MkrX.of {P : Program} {w : World} {K : PySem.W.Frag} {mg : Str → Option Value} {base : Heap} {x : Str} {ps : List Str} {k : Nat} {sp : DSpX} (kl : Kls K mg x) (mk : PySem.W.makesIn K (clsA mg x) = true)
    (h : MtX P w K mg base (clsA mg x) "__init__" ps k sp) : MkrX P w K mg base x ps k sp := by
  obtain ⟨f, fd, a, b, c⟩ := h.ex
  exact ⟨f, fd, a, ⟨mk, b.at_, b.fn, kl.kp⟩, c⟩
def dMakeX (C : Addr) (sp : DSpX) (R : DRX) (t : DTA) : DTE := fun τ M Q => t τ M fun ds M1 => ∀ p, M1 p = none → sp (.ref p :: ds) (M1.put p (.ins C [])) (fun v M2 => v = .non ∧ ∃ N e, View M2 (.ref p) N e ∧ Q e N) (R τ)
section
variable {X : Cx} {R : DRX} {W : WX} {k : Nat} {x : Str} {ps : List Str} {sp : DSpX} {p pos : Pos} {e : Expr} {es : List Expr} {t : DTA}
theorem ex_mk {mg' : Str → Option Value} (tk : Takes X W) (F : MkrX X.prog X.w X.K mg' X.base x ps k sp) (kl : Kls X.K mg' x) (hr : Room (k + 1) X.A) (hg : Gl X x) (ha : DA X (e :: es) t) (hmg : mg' = X.mg := by rfl)
    (hdb : (x == ("__debug__" : Str)) = false := by decide) (he : starEach (e :: es) X.env = (false, eval e X.env) :: starEach es X.env := by rfl) (hpl : (backTo pos (starEach es X.env)).any (·.1) = false := by rfl) :
    DEX X R W (.Call (.Name x p) (e :: es) [] pos) (dMakeX (clsA mg' x) sp R t) := by
  subst hmg
  obtain ⟨f, fd, a, b, c⟩ := F.ex
  refine peI (pe_makeS (E := WE W) b a hr hg kl.at_ c (fun σ => passAt tk σ) ha hdb he hpl) fun σ H Q ⟨τ, M, F, P, s, xk, q, kk⟩ => ?_
  refine ⟨τ, M, F, _, s, q, fun ds M1 vs H1 q1 t1 r1 a dx na nd ne => ?_⟩
  have t2 := To.made (C := clsA X.mg x) t1.ok na nd ne
  refine ⟨.ref a :: ds, _, F, _, R τ, t2.ok, .cons (.ref a) (r1.mono t2.ex), q1 a (t1.ok.free na).1, fun d' M' v' H' ⟨e1, N, e2, vw, q2⟩ t3 r3 => ?_, fun C M' H' p t => ?_⟩
  · subst e1
    cases r3
    obtain ⟨t4, r4⟩ := vw.to t3.ok (.ref a)
    exact ⟨rfl, kk e2 N (.ref a) H' q2 (((t1.trans t2).trans t3).trans t4) r4⟩
  · exact xk C τ M' σ H' ((t1.trans t2).trans t) (((s.to t1).to t2).to t).sl p
end
instance i_makeX {C : Addr} {sp : DSpX} {R : DRX} {t : DTA} {τ : DSt} {M : Mem} {Q : D → Mem → Prop} : Stp (dMakeX C sp R t τ M Q) (t τ M fun ds M1 => ∀ p, M1 p = none → sp (.ref p :: ds) (M1.put p (.ins C [])) (fun v M2 => v = .non ∧ ∃ N e, View M2 (.ref p) N e ∧ Q e N) (R τ)) := ⟨fun q => q⟩
end DL

set_option Elab.async false
set_option linter.all false
set_option maxRecDepth 100000
set_option maxHeartbeats 4000000
namespace DL
open PySem PySem.Spec L2
/-! xs.insert(i, y) -/
theorem md_insert {X : Cx} : MtR X "list.insert" (liM X.K mInsert) := mtRI mt_insert fun x vs H Q ⟨dx, ds, M, F, P, o, r1, r2, ⟨a, xs, i, d, e1, e2, hm, hz, h0, h1, p⟩, k⟩ => by
  subst e1; subst e2; cases r1
  obtain ⟨v, y, rfl, rv, ry⟩ := r2.two_inv
  obtain ⟨ws, h1', h2⟩ := o.mem _ _ hm
  have t := To.set o hm (u := .lst (ws.take i.toNat ++ [y] ++ ws.drop i.toNat)) (m := .lst (xs.take i.toNat ++ [d] ++ xs.drop i.toNat)) ⟨_, upd_same, ((h2.take _).append (.cons ry .nil)).append (h2.drop _)⟩
  exact ⟨a, ws, i, y, rfl, by rw [rv.int_inv], h1', by rw [h2.length]; exact hz, h0, h1, k _ _ _ _ p t .non⟩
end DL

set_option Elab.async false
set_option linter.all false
set_option maxRecDepth 100000
set_option maxHeartbeats 4000000
namespace Lw
open PySem L2 DL PySem.Spec
set_option synthInstance.maxSize 100000
set_option synthInstance.maxHeartbeats 0
local macro_rules | `(tactic| walk_at "side2") => `(tactic| (constructor <;> first | omega | (simp only [List.length_cons, List.length_nil, List.length_map, List.length_append, List.length_range, List.length_reverse] at *; omega)))
local macro_rules | `(tactic| walk_at "side") => `(tactic| first | with_reducible assumption | omega | (simp only [List.length_cons, List.length_nil, List.length_map, List.length_append, List.length_range, List.length_reverse]; omega) | decide)
local macro_rules | `(tactic| walk_at "mulok") => `(tactic| first | with_reducible assumption | exact mul_r ⟨by omega, by omega⟩ | exact mul_l ⟨by omega, by omega⟩)
local macro_rules | `(tactic| walk_at "divok") => `(tactic| first | with_reducible assumption | exact dv_small (by omega) (by omega) | (refine dv_wide (n := 9000) ?_ ?_ ?_ ?_ <;> first | assumption | decide | omega) | (refine dv_wide (n := 30000) ?_ ?_ ?_ ?_ <;> first | assumption | decide | omega))
local macro_rules | `(tactic| walk_at "shlok") => `(tactic| first | with_reducible assumption | exact shl_small ⟨by omega, by omega⟩ (by omega) (by omega))
local macro_rules | `(tactic| walk_at "mem") => `(tactic| first | exact Mem.put_same | assumption)
local macro_rules | `(tactic| walk_at "rdd") => `(tactic| first | exact Rdd.d | exact Rdd.r Mem.put_same | exact Rdd.r (by assumption))
local macro_rules | `(tactic| walk_at "at") => `(tactic| first | assumption)
local macro_rules | `(tactic| walk_at "lk") => `(tactic| first | exact lk_hd | exact lk_nil | (refine lk_tl (by decide) ?_; walk_at "lk"))
local macro_rules | `(tactic| walk_at "op") => `(tactic| first
  | ((with_reducible refine g_mul ?c ?_); (case c => walk_at "mulok"))
  | ((with_reducible refine n_shl ?c ?_); (case c => walk_at "shlok"))
  | ((with_reducible refine n_mod ?c ?_); (case c => walk_at "side"))
  | ((with_reducible refine n_div ?c ?_); (case c => walk_at "divok"))
  | ((with_reducible refine g_div ?c ?_); (case c => walk_at "divok"))
  | ((with_reducible refine n_divP ?c ?_); (case c => walk_at "side"))
  | ((with_reducible refine g_divP ?c ?_); (case c => walk_at "side"))
  | ((with_reducible refine g_mod ?c ?_); (case c => walk_at "side"))
  | ((with_reducible refine g_shr ?c ?_); (case c => walk_at "side"))
  | ((with_reducible refine g_shl ?c ?_); (case c => walk_at "shlok"))
  | ((with_reducible refine g_ixsI ?h (fun n hn => ?_)); (case h => walk_at "side2"))
  | ((with_reducible refine g_ixlI ?h (fun n hn => ?_)); (case h => walk_at "side2"))
  | with_reducible refine g_intD (fun z hz => ?_)
  | ((with_reducible refine g_ixT (d := ?d) ?h ?_); (case h => first | rfl | walk_at "at"))
  | ((with_reducible refine g_ixl (d := ?d) ?h ?_); (case h => first | rfl | walk_at "at"))
  | ((with_reducible refine g_ixs (d := ?d) ?h ?_); (case h => first | rfl | walk_at "at"))
  | ((with_reducible refine g_ixr (d := ?d) (xs := ?xs) ?s ?h ?_); (case s => walk_at "mem"); (case h => first | rfl | walk_at "at"))
  | ((with_reducible refine g_setL (xs := ?xs) (n := ?n) ?s ?h ?_); (case s => walk_at "mem"); (case h => first | rfl | walk_at "side"))
  | ((with_reducible refine g_lenr (xs := ?xs) ?s ?_); (case s => walk_at "mem"))
  | with_reducible refine g_absN fun k h0 h1 => ?_
  | ((with_reducible refine g_append (xs := ?xs) ?s ?h ?_); (case s => walk_at "mem"); (case h => walk_at "side"))
  | ((with_reducible refine g_ckr (xs := ?xs) ?s ?_); (case s => walk_at "mem"))
  | ((with_reducible refine g_sz ?h ?_); (case h => walk_at "side"))
  | ((with_reducible refine g_lokr (xs := ?xs) ?h ?_); (case h => walk_at "mem"))
  | ((with_reducible refine g_rok1 ?h ?h0 ?_); (case h => walk_at "side"); (case h0 => walk_at "side"))
  | ((with_reducible refine g_rok2 ?h ?_); (case h => (refine ⟨?_, ?_, ?_, ?_⟩ <;> walk_at "side")))
  | ((with_reducible refine g_fldo (v := ?v) ?h ?_); (case h => walk_at "lk"))
  | ((with_reducible refine g_fldr (gs := ?gs) (v := ?v) ?s ?h ?_); (case s => walk_at "mem"); (case h => walk_at "lk"))
  | ((with_reducible refine g_fldset (gs := ?gs) ?s ?h ?_); (case s => walk_at "mem"); (case h => first | decide | (simp only [List.length_cons, List.length_nil]; decide)))
  | ((with_reducible refine g_fldaug (gs := ?gs) (i := ?i) ?s ?h ?hl ?_); (case s => walk_at "mem"); (case h => walk_at "lk"); (case hl => first | decide | (simp only [List.length_cons, List.length_nil]; decide)))
  | ((with_reducible refine g_mcko ?h ?_); (case h => walk_at "lk"))
  | ((with_reducible refine g_mckr (gs := ?gs) ?s ?h ?_); (case s => walk_at "mem"); (case h => walk_at "lk"))
  | with_reducible refine g_pcko ?_
  | ((with_reducible refine g_pckr (gs := ?gs) ?s ?_); (case s => walk_at "mem"))
  | ((with_reducible refine g_dput (kvs := ?kvs) ?s ?h ?_); (case s => walk_at "mem"); (case h => walk_at "side"))
  | ((with_reducible refine g_din (kvs := ?kvs) ?s ?_); (case s => walk_at "rdd"))
  | with_reducible refine g_revL ?_
  | ((with_reducible refine g_revR (xs := ?xs) ?s ?_); (case s => walk_at "mem"))
  | ((with_reducible refine g_isd (kvs := ?kvs) ?s ?_); (case s => walk_at "rdd"))
  | ((with_reducible refine g_lenK (kvs := ?kvs) ?s ?_); (case s => walk_at "rdd"))
  | ((with_reducible refine g_listK (kvs := ?kvs) ?s ?_); (case s => walk_at "rdd"))
  | with_reducible refine g_countB ?_
  | with_reducible refine g_slL ?_
  | ((with_reducible refine g_slR (xs := ?xs) ?s ?_); (case s => walk_at "mem")))
local macro_rules | `(tactic| walk_at "br") => `(tactic| first
  | ((with_reducible refine g_dT ?h ?_); (case h => first | omega | (simp only [List.length_cons, List.length_nil, List.length_map]; omega) | decide))
  | ((with_reducible refine g_dF ?h ?_); (case h => first | omega | (simp only [List.length_cons, List.length_nil, List.length_map]; omega) | decide))
  | ((with_reducible refine g_ndT ?h ?_); (case h => first | omega | (simp only [List.length_cons, List.length_nil, List.length_map]; omega) | decide))
  | ((with_reducible refine g_ndF ?h ?_); (case h => first | omega | (simp only [List.length_cons, List.length_nil, List.length_map]; omega) | decide)))
local macro_rules | `(tactic| walk_at "br2") => `(tactic| first
  | with_reducible refine g_d (fun _ => ?_) (fun _ => ?_)
  | with_reducible refine g_nd (fun _ => ?_) (fun _ => ?_)
  | with_reducible refine g_nz (fun _ => ?_) (fun _ => ?_))
local macro_rules | `(tactic| walk_at "s1") => `(tactic| first | refine g_stps ?_ | walk_at "op" | walk_at "br")
local macro_rules | `(tactic| walk_at "go1") => `(tactic| repeat (walk_at "s1"))
local macro_rules | `(tactic| walk_at "go") => `(tactic| repeat' (first | walk_at "s1" | walk_at "br2"))
local macro_rules | `(tactic| walk_at "lc") => `(tactic| simp only [Pat.d, List.map_cons, List.map_nil, wipD, List.set_cons_zero, List.set_cons_succ])
local macro_rules | `(tactic| walk_at "stay") => `(tactic| first | exact .l | exact trivial | exact .s | (exact .r Mem.put_same) | (exact .r (by assumption)))
def topS (i : Nat) : Stmt := PySem.Challenge.pw_spotproof_k54_compiled_books.main.body.getD i (.Pass ⟨0, 0, 0, 0⟩)
abbrev s_wall : Stmt := topS 0
theorem sc_wall : FnScope ["k"] ["k"] (defScope s_wall) := ⟨rfl, rfl, rfl, by decide +kernel, rfl, by decide +kernel, by decide +kernel⟩
abbrev s_ones_in : Stmt := topS 2
theorem sc_ones_in : FnScope ["number"] ["number"] (defScope s_ones_in) := ⟨rfl, rfl, rfl, by decide +kernel, rfl, by decide +kernel, by decide +kernel⟩
abbrev s_parity_of : Stmt := topS 3
theorem sc_parity_of : FnScope ["number"] ["number"] (defScope s_parity_of) := ⟨rfl, rfl, rfl, by decide +kernel, rfl, by decide +kernel, by decide +kernel⟩
abbrev s_places_of : Stmt := topS 4
theorem sc_places_of : FnScope ["number", "text", "place"] ["number"] (defScope s_places_of) := ⟨rfl, rfl, rfl, by decide +kernel, rfl, by decide +kernel, by decide +kernel⟩
abbrev s_check_unknowns : Stmt := topS 11
theorem sc_check_unknowns : FnScope ["unknowns", "most"] ["unknowns", "most"] (defScope s_check_unknowns) := ⟨rfl, rfl, rfl, by decide +kernel, rfl, by decide +kernel, by decide +kernel⟩
abbrev s_Forms_init : Stmt := inClass (topS 12) 0
theorem sc_Forms_init : FnScope ["self", "unknowns"] ["self", "unknowns"] (defScope s_Forms_init) := ⟨rfl, rfl, rfl, by decide +kernel, rfl, by decide +kernel, by decide +kernel⟩
abbrev s_Forms_unknowns : Stmt := inClass (topS 12) 1
theorem sc_Forms_unknowns : FnScope ["self"] ["self"] (defScope s_Forms_unknowns) := ⟨rfl, rfl, rfl, by decide +kernel, rfl, by decide +kernel, by decide +kernel⟩
abbrev s_Forms_size : Stmt := inClass (topS 12) 2
theorem sc_Forms_size : FnScope ["self"] ["self"] (defScope s_Forms_size) := ⟨rfl, rfl, rfl, by decide +kernel, rfl, by decide +kernel, by decide +kernel⟩
abbrev s_Forms_place : Stmt := inClass (topS 12) 3
theorem sc_Forms_place : FnScope ["self", "i", "j"] ["self", "i", "j"] (defScope s_Forms_place) := ⟨rfl, rfl, rfl, by decide +kernel, rfl, by decide +kernel, by decide +kernel⟩
abbrev s_Forms_row_start : Stmt := inClass (topS 12) 4
theorem sc_Forms_row_start : FnScope ["self", "i"] ["self", "i"] (defScope s_Forms_row_start) := ⟨rfl, rfl, rfl, by decide +kernel, rfl, by decide +kernel, by decide +kernel⟩
abbrev s_Forms_monomials : Stmt := inClass (topS 12) 5
theorem sc_Forms_monomials : FnScope ["self", "found", "i", "j"] ["self"] (defScope s_Forms_monomials) := ⟨rfl, rfl, rfl, by decide +kernel, rfl, by decide +kernel, by decide +kernel⟩
abbrev s_Forms_terms : Stmt := inClass (topS 12) 6
theorem sc_Forms_terms : FnScope ["self", "form"] ["self", "form"] (defScope s_Forms_terms) := ⟨rfl, rfl, rfl, by decide +kernel, rfl, by decide +kernel, by decide +kernel⟩
abbrev s_Forms_form_of : Stmt := inClass (topS 12) 7
theorem sc_Forms_form_of : FnScope ["self", "terms"] ["self", "terms"] (defScope s_Forms_form_of) := ⟨rfl, rfl, rfl, by decide +kernel, rfl, by decide +kernel, by decide +kernel⟩
abbrev s_Forms_spread : Stmt := inClass (topS 12) 8
theorem sc_Forms_spread : FnScope ["self", "point", "rule", "i"] ["self", "point"] (defScope s_Forms_spread) := ⟨rfl, rfl, rfl, by decide +kernel, rfl, by decide +kernel, by decide +kernel⟩
abbrev s_Forms_is_spread : Stmt := inClass (topS 12) 9
theorem sc_Forms_is_spread : FnScope ["self", "rule"] ["self", "rule"] (defScope s_Forms_is_spread) := ⟨rfl, rfl, rfl, by decide +kernel, rfl, by decide +kernel, by decide +kernel⟩
abbrev s_Forms_value : Stmt := inClass (topS 12) 10
theorem sc_Forms_value : FnScope ["self", "form", "point"] ["self", "form", "point"] (defScope s_Forms_value) := ⟨rfl, rfl, rfl, by decide +kernel, rfl, by decide +kernel, by decide +kernel⟩
abbrev s_Forms_product : Stmt := inClass (topS 12) 11
theorem sc_Forms_product : FnScope ["self", "one", "other", "form", "i", "row"] ["self", "one", "other"] (defScope s_Forms_product) := ⟨rfl, rfl, rfl, by decide +kernel, rfl, by decide +kernel, by decide +kernel⟩
abbrev s_Forms_fixed : Stmt := inClass (topS 12) 12
theorem sc_Forms_fixed : FnScope ["self", "equation", "i", "bit"] ["self", "equation", "i", "bit"] (defScope s_Forms_fixed) := ⟨rfl, rfl, rfl, by decide +kernel, rfl, by decide +kernel, by decide +kernel⟩
abbrev s_Book_init : Stmt := inClass (topS 14) 0
theorem sc_Book_init : FnScope ["self", "unknowns", "equations", "form", "bit"] ["self", "unknowns", "equations"] (defScope s_Book_init) := ⟨rfl, rfl, rfl, by decide +kernel, rfl, by decide +kernel, by decide +kernel⟩
abbrev s_Book_unknowns : Stmt := inClass (topS 14) 1
theorem sc_Book_unknowns : FnScope ["self"] ["self"] (defScope s_Book_unknowns) := ⟨rfl, rfl, rfl, by decide +kernel, rfl, by decide +kernel, by decide +kernel⟩
abbrev s_Book_equations : Stmt := inClass (topS 14) 2
theorem sc_Book_equations : FnScope ["self"] ["self"] (defScope s_Book_equations) := ⟨rfl, rfl, rfl, by decide +kernel, rfl, by decide +kernel, by decide +kernel⟩
abbrev s_Book_holds : Stmt := inClass (topS 14) 3
theorem sc_Book_holds : FnScope ["self", "point"] ["self", "point"] (defScope s_Book_holds) := ⟨rfl, rfl, rfl, by decide +kernel, rfl, by decide +kernel, by decide +kernel⟩
abbrev s_Book_chosen : Stmt := inClass (topS 14) 4
theorem sc_Book_chosen : FnScope ["self", "number"] ["self", "number"] (defScope s_Book_chosen) := ⟨rfl, rfl, rfl, by decide +kernel, rfl, by decide +kernel, by decide +kernel⟩
abbrev s_Book_fixed_at : Stmt := inClass (topS 14) 5
theorem sc_Book_fixed_at : FnScope ["self", "i", "bit"] ["self", "i", "bit"] (defScope s_Book_fixed_at) := ⟨rfl, rfl, rfl, by decide +kernel, rfl, by decide +kernel, by decide +kernel⟩
abbrev s_Book_solutions : Stmt := inClass (topS 14) 6
theorem sc_Book_solutions : FnScope ["self"] ["self"] (defScope s_Book_solutions) := ⟨rfl, rfl, rfl, by decide +kernel, rfl, by decide +kernel, by decide +kernel⟩
abbrev s_is_gate : Stmt := topS 17
theorem sc_is_gate : FnScope ["mark"] ["mark"] (defScope s_is_gate) := ⟨rfl, rfl, rfl, by decide +kernel, rfl, by decide +kernel, by decide +kernel⟩
abbrev s_Circuit_init : Stmt := inClass (topS 18) 0
theorem sc_Circuit_init : FnScope ["self"] ["self"] (defScope s_Circuit_init) := ⟨rfl, rfl, rfl, by decide +kernel, rfl, by decide +kernel, by decide +kernel⟩
abbrev s_Circuit_wires : Stmt := inClass (topS 18) 1
theorem sc_Circuit_wires : FnScope ["self"] ["self"] (defScope s_Circuit_wires) := ⟨rfl, rfl, rfl, by decide +kernel, rfl, by decide +kernel, by decide +kernel⟩
abbrev s_Circuit_inputs : Stmt := inClass (topS 18) 2
theorem sc_Circuit_inputs : FnScope ["self"] ["self"] (defScope s_Circuit_inputs) := ⟨rfl, rfl, rfl, by decide +kernel, rfl, by decide +kernel, by decide +kernel⟩
abbrev s_Circuit_gates : Stmt := inClass (topS 18) 3
theorem sc_Circuit_gates : FnScope ["self"] ["self"] (defScope s_Circuit_gates) := ⟨rfl, rfl, rfl, by decide +kernel, rfl, by decide +kernel, by decide +kernel⟩
abbrev s_Circuit_check : Stmt := inClass (topS 18) 4
theorem sc_Circuit_check : FnScope ["self", "wires", "wire"] ["self", "wires"] (defScope s_Circuit_check) := ⟨rfl, rfl, rfl, by decide +kernel, rfl, by decide +kernel, by decide +kernel⟩
abbrev s_Circuit_made : Stmt := inClass (topS 18) 5
theorem sc_Circuit_made : FnScope ["self", "mark"] ["self", "mark"] (defScope s_Circuit_made) := ⟨rfl, rfl, rfl, by decide +kernel, rfl, by decide +kernel, by decide +kernel⟩
abbrev s_Circuit_put_in : Stmt := inClass (topS 18) 6
theorem sc_Circuit_put_in : FnScope ["self"] ["self"] (defScope s_Circuit_put_in) := ⟨rfl, rfl, rfl, by decide +kernel, rfl, by decide +kernel, by decide +kernel⟩
abbrev s_Circuit_constant : Stmt := inClass (topS 18) 7
theorem sc_Circuit_constant : FnScope ["self", "bit"] ["self", "bit"] (defScope s_Circuit_constant) := ⟨rfl, rfl, rfl, by decide +kernel, rfl, by decide +kernel, by decide +kernel⟩
abbrev s_Circuit_opposite : Stmt := inClass (topS 18) 8
theorem sc_Circuit_opposite : FnScope ["self", "wire"] ["self", "wire"] (defScope s_Circuit_opposite) := ⟨rfl, rfl, rfl, by decide +kernel, rfl, by decide +kernel, by decide +kernel⟩
abbrev s_Circuit_plus : Stmt := inClass (topS 18) 9
theorem sc_Circuit_plus : FnScope ["self", "one", "other"] ["self", "one", "other"] (defScope s_Circuit_plus) := ⟨rfl, rfl, rfl, by decide +kernel, rfl, by decide +kernel, by decide +kernel⟩
abbrev s_Circuit_both : Stmt := inClass (topS 18) 10
theorem sc_Circuit_both : FnScope ["self", "one", "other"] ["self", "one", "other"] (defScope s_Circuit_both) := ⟨rfl, rfl, rfl, by decide +kernel, rfl, by decide +kernel, by decide +kernel⟩
abbrev s_Circuit_either : Stmt := inClass (topS 18) 11
theorem sc_Circuit_either : FnScope ["self", "one", "other"] ["self", "one", "other"] (defScope s_Circuit_either) := ⟨rfl, rfl, rfl, by decide +kernel, rfl, by decide +kernel, by decide +kernel⟩
abbrev s_Circuit_choose : Stmt := inClass (topS 18) 12
theorem sc_Circuit_choose : FnScope ["self", "by", "one", "other"] ["self", "by", "one", "other"] (defScope s_Circuit_choose) := ⟨rfl, rfl, rfl, by decide +kernel, rfl, by decide +kernel, by decide +kernel⟩
abbrev s_Circuit_mark : Stmt := inClass (topS 18) 13
theorem sc_Circuit_mark : FnScope ["self", "wire"] ["self", "wire"] (defScope s_Circuit_mark) := ⟨rfl, rfl, rfl, by decide +kernel, rfl, by decide +kernel, by decide +kernel⟩
abbrev s_Circuit_marks : Stmt := inClass (topS 18) 14
theorem sc_Circuit_marks : FnScope ["self"] ["self"] (defScope s_Circuit_marks) := ⟨rfl, rfl, rfl, by decide +kernel, rfl, by decide +kernel, by decide +kernel⟩
abbrev s_Circuit_wire_bits : Stmt := inClass (topS 18) 15
theorem sc_Circuit_wire_bits : FnScope ["self", "inputs"] ["self", "inputs"] (defScope s_Circuit_wire_bits) := ⟨rfl, rfl, rfl, by decide +kernel, rfl, by decide +kernel, by decide +kernel⟩
abbrev s_product_parts : Stmt := topS 20
theorem sc_product_parts : FnScope ["forms", "one", "other", "first", "first_bit", "second", "second_bit", "form"] ["forms", "one", "other"] (defScope s_product_parts) := ⟨rfl, rfl, rfl, by decide +kernel, rfl, by decide +kernel, by decide +kernel⟩
abbrev s_plus_parts : Stmt := topS 21
theorem sc_plus_parts : FnScope ["one", "other"] ["one", "other"] (defScope s_plus_parts) := ⟨rfl, rfl, rfl, by decide +kernel, rfl, by decide +kernel, by decide +kernel⟩
abbrev s_gate_parts : Stmt := topS 22
theorem sc_gate_parts : FnScope ["forms", "mark", "sums", "one", "other", "last"] ["forms", "mark", "sums"] (defScope s_gate_parts) := ⟨rfl, rfl, rfl, by decide +kernel, rfl, by decide +kernel, by decide +kernel⟩
abbrev s_plain_sum : Stmt := topS 23
theorem sc_plain_sum : FnScope ["mark", "sums"] ["mark", "sums"] (defScope s_plain_sum) := ⟨rfl, rfl, rfl, by decide +kernel, rfl, by decide +kernel, by decide +kernel⟩
abbrev s_Compiled_init : Stmt := inClass (topS 24) 0
theorem sc_Compiled_init : FnScope ["self", "circuit", "told", "unknowns", "sums", "equations", "wire", "bit", "form", "constant", "_"] ["self", "circuit", "told"] (defScope s_Compiled_init) := ⟨rfl, rfl, rfl, by decide +kernel, rfl, by decide +kernel, by decide +kernel⟩
abbrev s_Compiled_parts : Stmt := inClass (topS 24) 1
theorem sc_Compiled_parts : FnScope ["self", "forms", "sums", "equations", "unknown", "mark", "form", "bit"] ["self", "forms"] (defScope s_Compiled_parts) := ⟨rfl, rfl, rfl, by decide +kernel, rfl, by decide +kernel, by decide +kernel⟩
abbrev s_Compiled_unknowns : Stmt := inClass (topS 24) 2
theorem sc_Compiled_unknowns : FnScope ["self"] ["self"] (defScope s_Compiled_unknowns) := ⟨rfl, rfl, rfl, by decide +kernel, rfl, by decide +kernel, by decide +kernel⟩
abbrev s_Compiled_book : Stmt := inClass (topS 24) 3
theorem sc_Compiled_book : FnScope ["self"] ["self"] (defScope s_Compiled_book) := ⟨rfl, rfl, rfl, by decide +kernel, rfl, by decide +kernel, by decide +kernel⟩
abbrev s_Compiled_point_of : Stmt := inClass (topS 24) 4
theorem sc_Compiled_point_of : FnScope ["self", "inputs"] ["self", "inputs"] (defScope s_Compiled_point_of) := ⟨rfl, rfl, rfl, by decide +kernel, rfl, by decide +kernel, by decide +kernel⟩
abbrev s_Compiled_inputs_of : Stmt := inClass (topS 24) 5
theorem sc_Compiled_inputs_of : FnScope ["self", "point"] ["self", "point"] (defScope s_Compiled_inputs_of) := ⟨rfl, rfl, rfl, by decide +kernel, rfl, by decide +kernel, by decide +kernel⟩
abbrev s_law_is_integer : Stmt := topS 26
theorem sc_law_is_integer : FnScope ["value"] ["value"] (defScope s_law_is_integer) := ⟨rfl, rfl, rfl, by decide +kernel, rfl, by decide +kernel, by decide +kernel⟩
abbrev s_law_mixed : Stmt := topS 27
theorem sc_law_mixed : FnScope ["seed", "count", "one", "two"] ["seed", "count"] (defScope s_law_mixed) := ⟨rfl, rfl, rfl, by decide +kernel, rfl, by decide +kernel, by decide +kernel⟩
abbrev s_law_draw : Stmt := topS 28
theorem sc_law_draw : FnScope ["state", "bound", "cell", "found"] ["state", "bound"] (defScope s_law_draw) := ⟨rfl, rfl, rfl, by decide +kernel, rfl, by decide +kernel, by decide +kernel⟩
abbrev s_law_places : Stmt := topS 29
theorem sc_law_places : FnScope ["kind"] ["kind"] (defScope s_law_places) := ⟨rfl, rfl, rfl, by decide +kernel, rfl, by decide +kernel, by decide +kernel⟩
abbrev s_law_mark : Stmt := topS 30
theorem sc_law_mark : FnScope ["state", "marks", "kinds", "kind", "found", "k", "mark"] ["state", "marks"] (defScope s_law_mark) := ⟨rfl, rfl, rfl, by decide +kernel, rfl, by decide +kernel, by decide +kernel⟩
abbrev s_law_make : Stmt := topS 31
theorem sc_law_make : FnScope ["circuit", "mark"] ["circuit", "mark"] (defScope s_law_make) := ⟨rfl, rfl, rfl, by decide +kernel, rfl, by decide +kernel, by decide +kernel⟩
abbrev s_law_equal_mark : Stmt := topS 32
theorem sc_law_equal_mark : FnScope ["actual", "mark", "k"] ["actual", "mark"] (defScope s_law_equal_mark) := ⟨rfl, rfl, rfl, by decide +kernel, rfl, by decide +kernel, by decide +kernel⟩
abbrev s_law_inputs : Stmt := topS 33
theorem sc_law_inputs : FnScope ["marks", "mark"] ["marks"] (defScope s_law_inputs) := ⟨rfl, rfl, rfl, by decide +kernel, rfl, by decide +kernel, by decide +kernel⟩
abbrev s_law_gates : Stmt := topS 34
theorem sc_law_gates : FnScope ["marks", "mark"] ["marks"] (defScope s_law_gates) := ⟨rfl, rfl, rfl, by decide +kernel, rfl, by decide +kernel, by decide +kernel⟩
abbrev s_law_stands : Stmt := topS 35
theorem sc_law_stands : FnScope ["circuit", "marks", "count", "k"] ["circuit", "marks"] (defScope s_law_stands) := ⟨rfl, rfl, rfl, by decide +kernel, rfl, by decide +kernel, by decide +kernel⟩
abbrev s_law_made : Stmt := topS 36
theorem sc_law_made : FnScope ["marks", "circuit", "mark"] ["marks"] (defScope s_law_made) := ⟨rfl, rfl, rfl, by decide +kernel, rfl, by decide +kernel, by decide +kernel⟩
abbrev s_law_plain_mark : Stmt := topS 37
theorem sc_law_plain_mark : FnScope ["state", "marks"] ["state", "marks"] (defScope s_law_plain_mark) := ⟨rfl, rfl, rfl, by decide +kernel, rfl, by decide +kernel, by decide +kernel⟩
abbrev s_law_marks : Stmt := topS 38
theorem sc_law_marks : FnScope ["state", "choice", "size", "marks", "k", "goal"] ["state", "choice"] (defScope s_law_marks) := ⟨rfl, rfl, rfl, by decide +kernel, rfl, by decide +kernel, by decide +kernel⟩
abbrev s_law_told : Stmt := topS 39
theorem sc_law_told : FnScope ["state", "size", "count", "k"] ["state", "size"] (defScope s_law_told) := ⟨rfl, rfl, rfl, by decide +kernel, rfl, by decide +kernel, by decide +kernel⟩
abbrev s_law_wire_refused : Stmt := topS 40
theorem sc_law_wire_refused : FnScope ["circuit", "told", "e"] ["circuit", "told"] (defScope s_law_wire_refused) := ⟨rfl, rfl, rfl, by decide +kernel, rfl, by decide +kernel, by decide +kernel⟩
abbrev s_law_count_refused : Stmt := topS 41
theorem sc_law_count_refused : FnScope ["circuit", "told", "e"] ["circuit", "told"] (defScope s_law_count_refused) := ⟨rfl, rfl, rfl, by decide +kernel, rfl, by decide +kernel, by decide +kernel⟩
abbrev s_law_good_equations : Stmt := topS 42
theorem sc_law_good_equations : FnScope ["compiled", "marks", "told", "unknowns", "book", "bound", "equation"] ["compiled", "marks", "told"] (defScope s_law_good_equations) := ⟨rfl, rfl, rfl, by decide +kernel, rfl, by decide +kernel, by decide +kernel⟩
abbrev s_law : Stmt := topS 43
theorem sc_law : FnScope ["script", "state", "choice", "marks", "circuit", "told", "passed", "unknowns", "wire", "refused", "compiled", "kept", "kept_told", "other", "later", "equation"] ["script"] (defScope s_law) := ⟨rfl, rfl, rfl, by decide +kernel, rfl, by decide +kernel, by decide +kernel⟩
structure Top (K : PySem.W.Frag) (mg : Str → Option Value) : Prop where
  d_ones_in : Dfn K mg "ones_in" s_ones_in
  d_parity_of : Dfn K mg "parity_of" s_parity_of
  d_places_of : Dfn K mg "places_of" s_places_of
  d_check_unknowns : Dfn K mg "check_unknowns" s_check_unknowns
  d_is_gate : Dfn K mg "is_gate" s_is_gate
  d_product_parts : Dfn K mg "product_parts" s_product_parts
  d_plus_parts : Dfn K mg "plus_parts" s_plus_parts
  d_gate_parts : Dfn K mg "gate_parts" s_gate_parts
  d_plain_sum : Dfn K mg "plain_sum" s_plain_sum
  d_law_is_integer : Dfn K mg "_law_is_integer" s_law_is_integer
  d_law_mixed : Dfn K mg "_law_mixed" s_law_mixed
  d_law_draw : Dfn K mg "_law_draw" s_law_draw
  d_law_places : Dfn K mg "_law_places" s_law_places
  d_law_mark : Dfn K mg "_law_mark" s_law_mark
  d_law_make : Dfn K mg "_law_make" s_law_make
  d_law_equal_mark : Dfn K mg "_law_equal_mark" s_law_equal_mark
  d_law_inputs : Dfn K mg "_law_inputs" s_law_inputs
  d_law_gates : Dfn K mg "_law_gates" s_law_gates
  d_law_stands : Dfn K mg "_law_stands" s_law_stands
  d_law_made : Dfn K mg "_law_made" s_law_made
  d_law_plain_mark : Dfn K mg "_law_plain_mark" s_law_plain_mark
  d_law_marks : Dfn K mg "_law_marks" s_law_marks
  d_law_told : Dfn K mg "_law_told" s_law_told
  d_law_wire_refused : Dfn K mg "_law_wire_refused" s_law_wire_refused
  d_law_count_refused : Dfn K mg "_law_count_refused" s_law_count_refused
  d_law_good_equations : Dfn K mg "_law_good_equations" s_law_good_equations
  d_law : Dfn K mg "law" s_law
  b_ValueError : mg "ValueError" = none
  b_range : mg "range" = none
  b_len : mg "len" = none
  b_list : mg "list" = none
  b_tuple : mg "tuple" = none
  b_isinstance : mg "isinstance" = none
  b_int : mg "int" = none
  b_abs : mg "abs" = none
  b_bool : mg "bool" = none
  b_min : mg "min" = none
  b_str : mg "str" = none
  g_MOST_UNKNOWNS : ∃ u, mg "MOST_UNKNOWNS" = some u ∧ RelV (.int 200) u
  t_GATES : GTup K mg "GATES" ["both", "either", "choose"]
  i_Book : PySem.W.makesIn K (clsA mg "Book") = true
  i_Circuit : PySem.W.makesIn K (clsA mg "Circuit") = true
  i_Compiled : PySem.W.makesIn K (clsA mg "Compiled") = true
  i_Forms : PySem.W.makesIn K (clsA mg "Forms") = true
  k_Book : Kls K mg "Book"
  k_Circuit : Kls K mg "Circuit"
  k_Compiled : Kls K mg "Compiled"
  k_Forms : Kls K mg "Forms"
  m_Book___init__ : Mtd K (clsA mg "Book") "__init__" "Book.__init__" s_Book_init
  m_Circuit___init__ : Mtd K (clsA mg "Circuit") "__init__" "Circuit.__init__" s_Circuit_init
  m_Circuit_both : Mtd K (clsA mg "Circuit") "both" "Circuit.both" s_Circuit_both
  m_Circuit_check : Mtd K (clsA mg "Circuit") "check" "Circuit.check" s_Circuit_check
  m_Circuit_choose : Mtd K (clsA mg "Circuit") "choose" "Circuit.choose" s_Circuit_choose
  m_Circuit_constant : Mtd K (clsA mg "Circuit") "constant" "Circuit.constant" s_Circuit_constant
  m_Circuit_either : Mtd K (clsA mg "Circuit") "either" "Circuit.either" s_Circuit_either
  m_Circuit_made : Mtd K (clsA mg "Circuit") "made" "Circuit.made" s_Circuit_made
  m_Circuit_mark : Mtd K (clsA mg "Circuit") "mark" "Circuit.mark" s_Circuit_mark
  m_Circuit_marks : Mtd K (clsA mg "Circuit") "marks" "Circuit.marks" s_Circuit_marks
  m_Circuit_opposite : Mtd K (clsA mg "Circuit") "opposite" "Circuit.opposite" s_Circuit_opposite
  m_Circuit_plus : Mtd K (clsA mg "Circuit") "plus" "Circuit.plus" s_Circuit_plus
  m_Circuit_put_in : Mtd K (clsA mg "Circuit") "put_in" "Circuit.put_in" s_Circuit_put_in
  m_Compiled___init__ : Mtd K (clsA mg "Compiled") "__init__" "Compiled.__init__" s_Compiled_init
  m_Compiled_parts : Mtd K (clsA mg "Compiled") "parts" "Compiled.parts" s_Compiled_parts
  m_Forms___init__ : Mtd K (clsA mg "Forms") "__init__" "Forms.__init__" s_Forms_init
  m_Forms_product : Mtd K (clsA mg "Forms") "product" "Forms.product" s_Forms_product
  m_Forms_row_start : Mtd K (clsA mg "Forms") "row_start" "Forms.row_start" s_Forms_row_start
  n_Book___equations : NoAttr K (clsA mg "Book") "_equations"
  n_Book___unknowns : NoAttr K (clsA mg "Book") "_unknowns"
  n_Circuit___gates : NoAttr K (clsA mg "Circuit") "_gates"
  n_Circuit___inputs : NoAttr K (clsA mg "Circuit") "_inputs"
  n_Circuit___marks : NoAttr K (clsA mg "Circuit") "_marks"
  n_Compiled___book : NoAttr K (clsA mg "Compiled") "_book"
  n_Compiled___inputs : NoAttr K (clsA mg "Compiled") "_inputs"
  n_Compiled___marks : NoAttr K (clsA mg "Compiled") "_marks"
  n_Forms___unknowns : NoAttr K (clsA mg "Forms") "_unknowns"
  o_Book : IsiC K (clsA mg "Book")
  p_Book_equations : Prp K (clsA mg "Book") "equations" "Book.equations" s_Book_equations
  p_Book_unknowns : Prp K (clsA mg "Book") "unknowns" "Book.unknowns" s_Book_unknowns
  p_Circuit_gates : Prp K (clsA mg "Circuit") "gates" "Circuit.gates" s_Circuit_gates
  p_Circuit_inputs : Prp K (clsA mg "Circuit") "inputs" "Circuit.inputs" s_Circuit_inputs
  p_Circuit_wires : Prp K (clsA mg "Circuit") "wires" "Circuit.wires" s_Circuit_wires
  p_Compiled_book : Prp K (clsA mg "Compiled") "book" "Compiled.book" s_Compiled_book
  p_Compiled_unknowns : Prp K (clsA mg "Compiled") "unknowns" "Compiled.unknowns" s_Compiled_unknowns
  v_BadCount__ProofError : PySem.W.exmOne K (.ref (clsA mg "BadCount")) (.ref (clsA mg "ProofError")) = some true
  v_BadWire__BadWire : PySem.W.exmOne K (.ref (clsA mg "BadWire")) (.ref (clsA mg "BadWire")) = some true
  x_BadCount : ExcD K mg "BadCount"
  x_BadWire : ExcD K mg "BadWire"
  x_ProofError : ExcD K mg "ProofError"
  y_BadCount : ExcC K (clsA mg "BadCount")
  y_BadWire : ExcC K (clsA mg "BadWire")
  z_BadCount__BadCount : PySem.W.kitOne K (.ref (clsA mg "BadCount")) (.ref (clsA mg "BadCount")) = some true
  z_BadCount__BadWire : PySem.W.kitOne K (.ref (clsA mg "BadCount")) (.ref (clsA mg "BadWire")) = some false
  z_BadCount__ValueError : PySem.W.kitOne K (.ref (clsA mg "BadCount")) (.type "ValueError") = some true
  z_BadWire__BadCount : PySem.W.kitOne K (.ref (clsA mg "BadWire")) (.ref (clsA mg "BadCount")) = some false
  z_BadWire__ProofError : PySem.W.kitOne K (.ref (clsA mg "BadWire")) (.ref (clsA mg "ProofError")) = some true
  z_BadWire__ValueError : PySem.W.kitOne K (.ref (clsA mg "BadWire")) (.type "ValueError") = some true
section
variable {P : Program} {w : World} {K : PySem.W.Frag} {mg : Str → Option Value} {base : Heap}
abbrev nD (k : Nat) : D := .int (k : Int)
/-! the draws of the laws on circuits and programs: the script, a count, a place, a cell, a mixed number -/
def stD (ns : List Int) (a b c d : Int) : MO := .lst [.scr (ns.map .int), .int a, .int b, .int c, .int d]
def Hs (o : MO) : Prop := ∃ (ns : List Int) (a b c d : Int), 0 ≤ b ∧ o = stD ns a b c d
def sp_mixed5 : DSp := fun ds M Q => ∃ (x y : Int), ds = [.int x, .int y] ∧ ∀ z : Int, Q (.int z) M
theorem ok_law_mixed (T : Top K mg) : Fn P w K mg base "_law_mixed" ["seed", "count"] 1 sp_mixed5 := by
  refine okF T.d_law_mixed sc_law_mixed (fun _ _ _ _ _ _ us hl => match us, hl with | [_, _], _ => rfl) ?len (fun f cdv A outer s H E hr =>
    (dss_cons (ds_set (i := 2) sc_law_mixed.nd rfl (by first | exact Or.inl rfl | exact Or.inr rfl) (de_op or_mod (de_callTy cd_int (by rfl) T.b_int (by decide +kernel) (da_cons (de_op or_mul (de_op or_add (de_op or_add (dv 0) (de_op or_mul (dv 1) de_int)) de_int) de_int) da_nil)) de_int))
      (dss_cons (ds_set (i := 3) sc_law_mixed.nd rfl (by first | exact Or.inl rfl | exact Or.inr rfl) (de_op or_mod (de_callTy cd_int (by rfl) T.b_int (by decide +kernel) (da_cons (de_op or_add (de_op or_add (de_op or_mul (dv 2) (dv 2)) (de_op or_mul (dv 2) de_int)) (dv 1)) da_nil)) de_int))
      (dss_one (ds_ret (de_op or_div (de_op or_mod (de_callTy cd_int (by rfl) T.b_int (by decide +kernel) (da_cons (de_op or_add (de_op or_mul (dv 3) (dv 3)) (dv 0)) da_nil)) de_int) de_int)))))) ?body
  · rintro ds M Q ⟨x, y, rfl, _⟩; rfl
  · rintro ds M Q ⟨x, y, rfl, q⟩
    refine g_st (τ' := [some _, some _, none, none]) rfl ?_
    walk_at "go1"
    have h0 : 0 ≤ ((x + y * 69621 + 1) * 48271) % 2147483647 := Int.emod_nonneg _ (by decide)
    have h1 : ((x + y * 69621 + 1) * 48271) % 2147483647 < 2147483647 := Int.emod_lt_of_pos _ (by decide)
    generalize ((x + y * 69621 + 1) * 48271) % 2147483647 = one at h0 h1
    walk_at "go1"
    have h2 : 0 ≤ (one * one + one * 16807 + y) % 2147483629 := Int.emod_nonneg _ (by decide)
    have h3 : (one * one + one * 16807 + y) % 2147483629 < 2147483629 := Int.emod_lt_of_pos _ (by decide)
    generalize (one * one + one * 16807 + y) % 2147483629 = two at h2 h3
    walk_at "go1"
    have h4 : 0 ≤ (two * two + x) % 2147483587 := Int.emod_nonneg _ (by decide)
    have h5 : (two * two + x) % 2147483587 < 2147483587 := Int.emod_lt_of_pos _ (by decide)
    generalize (two * two + x) % 2147483587 = three at h4 h5
    walk_at "go1"
    exact r_same (q _)
def sp_draw : DSp := fun ds M Q => ∃ (s : Addr) (b : Int) (o : MO), ds = [.ref s, .int b] ∧ M s = some o ∧ Hs o ∧ 0 < b ∧
  ∀ (d : Nat) o', Hs o' → (d : Int) < b → Q (.int d) (M.put s o')
theorem ok_law_draw (T : Top K mg) (S : Sr P base) : Fn P w K mg base "_law_draw" ["state", "bound"] 34 sp_draw := by
  refine okF T.d_law_draw sc_law_draw (fun _ _ _ _ _ _ us hl => match us, hl with | [_, _], _ => rfl) ?len (fun f cdv A outer s H E hr =>
    (dss_cons (ds_asg (de_op or_add (de_ix (dv 0) de_int) de_int) (dg_sub (dv 0) de_int))
      (dss_cons (ds_cut (ds_if (dt_w (dw_and (dt_cmp or_le (de_ix (dv 0) de_int) de_int (nomark _)) (dw_and (dt_cmp (or_eq hr.units) (de_op or_mod (de_callTy cd_int (by rfl) T.b_int (by decide +kernel) (da_cons (de_ix (dv 0) de_int) da_nil)) de_int) de_int (nomark _)) (dw_and1 (dt_cmp or_lt (de_ix (dv 0) de_int) (de_callB (cd_min2 rfl) (by rfl) T.b_min (by decide +kernel) (da_cons de_int (da_cons (de_callB cd_len (by rfl) T.b_len (by decide +kernel) (da_cons (de_ix (dv 0) de_int) da_nil)) da_nil))) (nomark _))))))
        (dss_cons (ds_set (i := 2) sc_law_draw.nd rfl (by first | exact Or.inl rfl | exact Or.inr rfl) (de_callB cd_abs (by rfl) T.b_abs (by decide +kernel) (da_cons (de_ix (de_ix (dv 0) de_int) (de_ix (dv 0) de_int)) da_nil)))
        (dss_cons (ds_asg (de_op or_add (de_ix (dv 0) de_int) de_int) (dg_sub (dv 0) de_int))
        (dss_one (ds_cut (ds_if (dt_cmp or_ge (dv 2) (de_op or_pow de_int de_int) (nomark _))
          (dss_one (ds_asg (dv 2) (dg_sub (dv 0) de_int)))
          (dss_one (ds_asg (de_op or_mod (de_callTy cd_int (by rfl) T.b_int (by decide +kernel) (da_cons (de_op or_add (de_op or_add (de_op or_mul (de_ix (dv 0) de_int) de_int) (dv 2)) de_int) da_nil)) de_int) (dg_sub (dv 0) de_int))))))))
        dss_nil))
      (dss_cons (ds_if (dt_cmp or_gt (de_ix (dv 0) de_int) de_int (nomark _))
        (dss_cons (ds_set (i := 3) sc_law_draw.nd rfl (by first | exact Or.inl rfl | exact Or.inr rfl) (de_op or_mod (de_callTy cd_int (by rfl) T.b_int (by decide +kernel) (da_cons (de_ix (dv 0) de_int) da_nil)) (dv 1)))
        (dss_cons (ds_asg (de_op (or_divP S (hr.mono (by first | decide | omega))) (de_ix (dv 0) de_int) (dv 1)) (dg_sub (dv 0) de_int))
        (dss_one (ds_ret (dv 3)))))
        dss_nil)
      (dss_one (ds_ret (de_op or_mod (de_callTy cd_int (by rfl) T.b_int (by decide +kernel) (da_cons (de_fn (ok_law_mixed T) (hr.mono (by first | decide | omega)) (by rfl) (da_cons (de_ix (dv 0) de_int) (da_cons (de_ix (dv 0) de_int) da_nil))) da_nil)) (dv 1)))))))) ?body
  · rintro ds M Q ⟨s, b, o, rfl, _⟩; rfl
  · rintro ds M Q ⟨s, bd, o, rfl, hs, ⟨ns, a, b, c, d, hb, rfl⟩, hbd, q⟩
    refine g_st (τ' := [some _, some _, none, none]) rfl ?_
    have fin : ∀ (x : Int) (a b c d : Int), 0 ≤ x → x < bd → 0 ≤ b → Q (.int x) (M.put s (stD ns a b c d)) := fun x a b c d h0 h1 h2 => by
      obtain ⟨n, rfl⟩ := Int.eq_ofNat_of_zero_le h0
      exact q n _ ⟨ns, a, b, c, d, h2, rfl⟩ h1
    unfold stD at hs fin
    walk_at "go1"
    rw [show ([D.scr (ns.map D.int), D.int a, D.int b, D.int c, D.int d].set (Int.toNat 1) (D.int (a + 1))) = [D.scr (ns.map D.int), D.int (a + 1), D.int b, D.int c, D.int d] from rfl]
    generalize a + 1 = a
    refine g_cut (fun τ N => ∃ (b c d : Int) (x : Option D), 0 ≤ b ∧ N = M.put s (.lst [.scr (ns.map D.int), .int a, .int b, .int c, .int d]) ∧ τ = [some (.ref s), some (.int bd), x, none]) ?_ ?_
    · walk_at "go1"
      refine g_d (fun h1 => ?_) (fun h1 => ?_)
      · walk_at "go1"
        refine g_d (fun h2 => ?_) (fun h2 => ?_)
        · walk_at "go1"
          rw [List.length_map]
          refine g_d (fun h3 => ?_) (fun h3 => ?_)
          · walk_at "go1"
            rw [Mem.put_put, show ([D.scr (ns.map D.int), D.int a, D.int b, D.int c, D.int d].set (Int.toNat 2) (D.int (b + 1))) = [D.scr (ns.map D.int), D.int a, D.int (b + 1), D.int c, D.int d] from rfl]
            have hb1 : 0 ≤ b + 1 := by omega
            generalize b + 1 = b at hb1
            refine g_cut (fun τ N => ∃ (c d : Int) (x : Option D), N = M.put s (.lst [.scr (ns.map D.int), .int a, .int b, .int c, .int d]) ∧ τ = [some (.ref s), some (.int bd), x, none]) ?_ ?_
            · walk_at "go1"
              refine g_d (fun h4 => ?_) (fun h4 => ?_)
              · walk_at "go1"
                exact ⟨_, Sub.refl _, _, d, _, Mem.put_put, rfl⟩
              · walk_at "go1"
                exact ⟨_, Sub.refl _, c, _, _, Mem.put_put, rfl⟩
            · rintro τ N ⟨c, d, x, rfl, rfl⟩
              exact ⟨_, Sub.refl _, b, c, d, _, hb1, rfl, rfl⟩
          · walk_at "go1"
            exact ⟨_, Sub.refl _, b, c, d, _, hb, rfl, rfl⟩
        · walk_at "go1"
          exact ⟨_, Sub.refl _, b, c, d, _, hb, rfl, rfl⟩
      · walk_at "go1"
        exact ⟨_, Sub.refl _, b, c, d, _, hb, rfl, rfl⟩
    rintro τ N ⟨b, c, d, x, hb, rfl, rfl⟩
    walk_at "go1"
    refine g_d (fun h1 => ?_) (fun h1 => ?_)
    · walk_at "go1"
      rw [Mem.put_put]
      exact r_same (fin _ a b _ d (Int.emod_nonneg _ (by omega)) (Int.emod_lt_of_pos _ hbd) hb)
    · walk_at "go1"
      refine ⟨_, _, rfl, fun z => ?_⟩
      walk_at "go1"
      exact r_same (fin _ a b c d (Int.emod_nonneg _ (by omega)) (Int.emod_lt_of_pos _ hbd) hb)
theorem dr {M : Mem} {s : Addr} {o : MO} {b : Int} {R : D → Mem → Prop} (h : M s = some o) (ho : Hs o) (hb : 0 < b) (q : ∀ (d : Nat) o', Hs o' → (d : Int) < b → R (.int d) (M.put s o')) : sp_draw [.ref s, .int b] M R := ⟨s, b, o, rfl, h, ho, hb, q⟩
/-! class Circuit: the marks, and the object with its list of marks -/
inductive Mk where
  | inp (j : Nat) | con (b : Nat) | opp (a : Nat) | plu (a b : Nat) | bth (a b : Nat) | eit (a b : Nat) | cho (a b c : Nat)
def Mk.d : Mk → D
  | .inp j => .tup [.str "input", nD j]
  | .con b => .tup [.str "constant", nD b]
  | .opp a => .tup [.str "opposite", nD a]
  | .plu a b => .tup [.str "plus", nD a, nD b]
  | .bth a b => .tup [.str "both", nD a, nD b]
  | .eit a b => .tup [.str "either", nD a, nD b]
  | .cho a b c => .tup [.str "choose", nD a, nD b, nD c]
def Mk.ws : Mk → List Nat
  | .inp _ => [] | .con _ => [] | .opp a => [a] | .plu a b => [a, b] | .bth a b => [a, b] | .eit a b => [a, b] | .cho a b c => [a, b, c]
def Mk.gate : Mk → Bool
  | .bth .. => true | .eit .. => true | .cho .. => true | _ => false
def Mk.isInp : Mk → Bool
  | .inp _ => true | _ => false
def inN (ms : List Mk) : Nat := (ms.filter Mk.isInp).length
def gaN (ms : List Mk) : Nat := (ms.filter Mk.gate).length
abbrev ciO (C m : Addr) (i g : Nat) : MO := .ins C [("_marks", .ref m), ("_inputs", nD i), ("_gates", nD g)]
abbrev msO (ms : List Mk) : MO := .lst (ms.map Mk.d)
def sp_isgate : DSp := fun ds M Q => ∃ k : Mk, ds = [k.d] ∧ Q (.bl k.gate) M
theorem ok_is_gate (T : Top K mg) : Fn P w K mg base "is_gate" ["mark"] 1 sp_isgate := by
  refine okF T.d_is_gate sc_is_gate (fun _ _ _ _ _ _ us hl => match us, hl with | [_], _ => rfl) ?len (fun f cdv A outer s H E hr =>
    (dss_one (ds_ret (de_cmp or_inS (de_ix (dv 0) de_int) (de_gtup T.t_GATES (by rfl)) (by with_unfolding_all rfl))))) ?body
  · rintro ds M Q ⟨k, rfl, _⟩; rfl
  · rintro ds M Q ⟨k, rfl, q⟩
    refine g_st (τ' := [some _]) rfl ?_
    cases k <;> unfold Mk.d <;> walk_at "go1" <;> refine g_inS ["both", "either", "choose"] rfl ?_ <;> exact r_same q
def sp_ciinit (C : Addr) : DSp := fun ds M Q => ∃ p : Addr, ds = [.ref p] ∧ M p = some (.ins C []) ∧ ∀ m, M m = none → Q .non ((M.put m (msO [])).put p (ciO C m 0 0))
theorem ok_Circuit_init (T : Top K mg) : Mt P w K mg base (clsA mg "Circuit") "__init__" ["self"] 1 (sp_ciinit (clsA mg "Circuit")) := by
  refine okM T.m_Circuit___init__ sc_Circuit_init (fun _ _ _ _ _ _ us hl => match us, hl with | [_], _ => rfl) ?len (fun f cdv A outer s H E hr =>
    (dss_cons (ds_fld T.k_Circuit.cls T.n_Circuit___marks (dv 0) (de_lst da_nil) rfl)
      (dss_cons (ds_fld T.k_Circuit.cls T.n_Circuit___inputs (dv 0) de_int rfl)
      (dss_one (ds_fld T.k_Circuit.cls T.n_Circuit___gates (dv 0) de_int rfl))))) ?body
  · rintro ds M Q ⟨p, rfl, _⟩; rfl
  · rintro ds M Q ⟨p, rfl, hp, q⟩
    refine g_st (τ' := [some _]) rfl ?_
    walk_at "go1"
    refine .inr fun m hm => ?_
    have hpm : (M.put m (.lst [])) p = some (.ins (clsA mg "Circuit") []) := by rw [Mem.put_ne (Mem.ne_of hp hm)]; exact hp
    walk_at "go1"
    rw [putG_nil]
    walk_at "go1"
    rw [putG_ne (by decide), putG_nil, Mem.put_put]
    walk_at "go1"
    rw [putG_ne (by decide), putG_ne (by decide), putG_nil, Mem.put_put]
    exact q m hm
theorem mk_Circuit (T : Top K mg) : Mkr P w K mg base "Circuit" ["self"] 1 (sp_ciinit (clsA mg "Circuit")) := Mkr.of T.k_Circuit T.i_Circuit (ok_Circuit_init T)
/-- the object at p with its list of marks at m -/
def Ci (C : Addr) (M : Mem) (p m : Addr) (ms : List Mk) : Prop := M p = some (ciO C m (inN ms) (gaN ms)) ∧ M m = some (msO ms) ∧ ms.length ≤ 100000
def sp_cilen (C : Addr) : DSp := fun ds M Q => ∃ (p m : Addr) (ms : List Mk), ds = [.ref p] ∧ Ci C M p m ms ∧ Q (nD ms.length) M
theorem ok_Circuit_wires (T : Top K mg) : Pr P w K mg base (clsA mg "Circuit") "wires" 1 (sp_cilen (clsA mg "Circuit")) := by
  refine okP T.p_Circuit_wires sc_Circuit_wires (fun _ _ _ _ _ _ us hl => match us, hl with | [_], _ => rfl) ?len (fun f cdv A outer s H E hr =>
    (dss_one (ds_ret (de_callB cd_len (by rfl) T.b_len (by decide +kernel) (da_cons (de_fld T.k_Circuit.cls T.n_Circuit___marks (dv 0)) da_nil))))) ?body
  · rintro ds M Q ⟨p, m, ms, rfl, _⟩; rfl
  · rintro ds M Q ⟨p, m, ms, rfl, ⟨hp, hm, _⟩, q⟩
    refine g_st (τ' := [some _]) rfl ?_
    walk_at "go1"
    rw [List.length_map]
    exact r_same q
def sp_ciinp (C : Addr) : DSp := fun ds M Q => ∃ (p m : Addr) (ms : List Mk), ds = [.ref p] ∧ Ci C M p m ms ∧ Q (nD (inN ms)) M
theorem ok_Circuit_inputs (T : Top K mg) : Pr P w K mg base (clsA mg "Circuit") "inputs" 1 (sp_ciinp (clsA mg "Circuit")) := by
  refine okP T.p_Circuit_inputs sc_Circuit_inputs (fun _ _ _ _ _ _ us hl => match us, hl with | [_], _ => rfl) ?len (fun f cdv A outer s H E hr =>
    (dss_one (ds_ret (de_fld T.k_Circuit.cls T.n_Circuit___inputs (dv 0))))) ?body
  · rintro ds M Q ⟨p, m, ms, rfl, _⟩; rfl
  · rintro ds M Q ⟨p, m, ms, rfl, ⟨hp, hm, _⟩, q⟩
    refine g_st (τ' := [some _]) rfl ?_
    walk_at "go1"
    exact r_same q
def sp_cigat (C : Addr) : DSp := fun ds M Q => ∃ (p m : Addr) (ms : List Mk), ds = [.ref p] ∧ Ci C M p m ms ∧ Q (nD (gaN ms)) M
theorem ok_Circuit_gates (T : Top K mg) : Pr P w K mg base (clsA mg "Circuit") "gates" 1 (sp_cigat (clsA mg "Circuit")) := by
  refine okP T.p_Circuit_gates sc_Circuit_gates (fun _ _ _ _ _ _ us hl => match us, hl with | [_], _ => rfl) ?len (fun f cdv A outer s H E hr =>
    (dss_one (ds_ret (de_fld T.k_Circuit.cls T.n_Circuit___gates (dv 0))))) ?body
  · rintro ds M Q ⟨p, m, ms, rfl, _⟩; rfl
  · rintro ds M Q ⟨p, m, ms, rfl, ⟨hp, hm, _⟩, q⟩
    refine g_st (τ' := [some _]) rfl ?_
    walk_at "go1"
    exact r_same q
def sp_cicheck (C : Addr) : DSp := fun ds M Q => ∃ (p m : Addr) (ms : List Mk) (W : D) (ws : List Nat), ds = [.ref p, W] ∧ Ci C M p m ms ∧ (W = .tup (ws.map nD) ∨ W = .lst (ws.map nD)) ∧ (∀ x ∈ ws, x < ms.length) ∧ Q .non M
theorem ok_Circuit_check (T : Top K mg) : Mt P w K mg base (clsA mg "Circuit") "check" ["self", "wires"] 1 (sp_cicheck (clsA mg "Circuit")) := by
  refine okM T.m_Circuit_check sc_Circuit_check (fun _ _ _ _ _ _ us hl => match us, hl with | [_, _], _ => rfl) ?len (fun f cdv A outer s H E hr =>
    (dss_one (ds_for PassesOwn.never rfl (di_sq (dv 1)) (dg_name (i := 2) sc_Circuit_check.nd rfl (by first | exact Or.inl rfl | exact Or.inr rfl))
        (dss_one (ds_if (dt_w (dw_or (dt_cmp or_lt (dv 2) de_int (nomark _)) (dw_or1 (dt_cmp or_ge (dv 2) (de_callB cd_len (by rfl) T.b_len (by decide +kernel) (da_cons (de_fld T.k_Circuit.cls T.n_Circuit___marks (dv 0)) da_nil)) (nomark _)))))
          (dss_one ds_never)
          dss_nil))))) ?body
  · rintro ds M Q ⟨p, m, ms, W, ws, rfl, _⟩; rfl
  · rintro ds M Q ⟨p, m, ms, W, ws, rfl, ⟨hp, hm, hl⟩, hW, hws, q⟩
    refine g_st (τ' := [some _, some _, none]) rfl ?_
    walk_at "go1"
    rcases hW with rfl | rfl
    · refine .inr ?_
      walk_at "go1"
      refine f_lst nD ws (fun k τ N => N = M ∧ ∃ o : Option D, τ = [some (.ref p), some (.tup (ws.map nD)), o]) ⟨rfl, _, rfl⟩ ?_ ?_
      · rintro k x τ N hx ⟨rfl, o, rfl⟩ _
        have := hws x (List.mem_of_getElem? hx)
        walk_at "go1"
        exact ⟨_, Sub.refl _, trivial, rfl, _, rfl⟩
      · rintro τ N ⟨rfl, o, rfl⟩
        exact q
    · refine .inl ?_
      walk_at "go1"
      refine f_lst nD ws (fun k τ N => N = M ∧ ∃ o : Option D, τ = [some (.ref p), some (.lst (ws.map nD)), o]) ⟨rfl, _, rfl⟩ ?_ ?_
      · rintro k x τ N hx ⟨rfl, o, rfl⟩ _
        have := hws x (List.mem_of_getElem? hx)
        walk_at "go1"
        exact ⟨_, Sub.refl _, .l, rfl, _, rfl⟩
      · rintro τ N ⟨rfl, o, rfl⟩
        exact q
theorem putG_hit {f : Str} {v w : D} {gs : List (Str × D)} : putG f v ((f, w) :: gs) = (f, v) :: gs := by simp [putG]
theorem Ci.ne {C : Addr} {M : Mem} {p m : Addr} {ms : List Mk} (h : Ci C M p m ms) : p ≠ m := fun e => by
  have h1 := h.1; rw [e, h.2.1] at h1; cases h1
theorem inN_snoc (ms : List Mk) (k : Mk) : inN (ms ++ [k]) = inN ms + if k.isInp then 1 else 0 := by
  unfold inN; rw [List.filter_append, List.length_append]; cases h : k.isInp <;> simp [List.filter, h]
theorem gaN_snoc (ms : List Mk) (k : Mk) : gaN (ms ++ [k]) = gaN ms + if k.gate then 1 else 0 := by
  unfold gaN; rw [List.filter_append, List.length_append]; cases h : k.gate <;> simp [List.filter, h]
/-- after one more wire -/
def ciM (C : Addr) (M : Mem) (p m : Addr) (ms : List Mk) : Mem := (M.put p (ciO C m (inN ms) (gaN ms))).put m (msO ms)
def sp_cimade (C : Addr) : DSp := fun ds M Q => ∃ (p m : Addr) (ms : List Mk) (k : Mk), ds = [.ref p, k.d] ∧ Ci C M p m ms ∧ (k.ws ≠ [] ∧ ∀ x ∈ k.ws, x < ms.length) ∧ Q (nD ms.length) (ciM C M p m (ms ++ [k]))
theorem ok_Circuit_made (T : Top K mg) : Mt P w K mg base (clsA mg "Circuit") "made" ["self", "mark"] 3 (sp_cimade (clsA mg "Circuit")) := by
  refine okM T.m_Circuit_made sc_Circuit_made (fun _ _ _ _ _ _ us hl => match us, hl with | [_, _], _ => rfl) ?len (fun f cdv A outer s H E hr =>
    (dss_cons (ds_expr (de_meth T.k_Circuit.cls (ok_Circuit_check T) (hr.mono (by first | decide | omega)) (dv 0) (da_cons (de_slice (dv 1) (dp_some de_int) dp_none) da_nil)))
      (dss_cons (ds_cut (ds_if (dt_tru (de_fn (ok_is_gate T) (hr.mono (by first | decide | omega)) (by rfl) (da_cons (dv 1) da_nil)))
        (dss_one (ds_fldaug T.k_Circuit.cls T.n_Circuit___gates (dv 0) de_int))
        dss_nil))
      (dss_cons (ds_expr (de_bm PySem.F.plainAttrs_list PySem.F.slot_list_append PySem.F.type_list_append ckL_ok md_append (de_fld T.k_Circuit.cls T.n_Circuit___marks (dv 0)) (da_cons (dv 1) da_nil)))
      (dss_one (ds_ret (de_op or_sub (de_callB cd_len (by rfl) T.b_len (by decide +kernel) (da_cons (de_fld T.k_Circuit.cls T.n_Circuit___marks (dv 0)) da_nil)) de_int))))))) ?body
  · rintro ds M Q ⟨p, m, ms, k, rfl, _⟩; rfl
  · rintro ds M Q ⟨p, m, ms, k, rfl, hc, ⟨hk0, hk⟩, q⟩
    refine g_st (τ' := [some _, some _]) rfl ?_
    have hne := hc.ne
    obtain ⟨hp, hm, hl⟩ := hc
    obtain ⟨z, hz⟩ : ∃ z : Str, k.d = .tup (.str z :: k.ws.map nD) := by
      cases k with
      | inp j => exact absurd rfl hk0
      | con b => exact absurd rfl hk0
      | opp a => exact ⟨_, rfl⟩
      | plu a b => exact ⟨_, rfl⟩
      | bth a b => exact ⟨_, rfl⟩
      | eit a b => exact ⟨_, rfl⟩
      | cho a b c => exact ⟨_, rfl⟩
    have hi : k.isInp = false := by cases k <;> first | rfl | exact absurd rfl hk0
    generalize hkd : k.d = kd at hz
    walk_at "go1"
    rw [hz]
    refine ⟨fun e => ?_, ?_⟩
    · have e := e.1
      rw [sIx_some (by decide), List.length_cons] at e
      have : (1 : Int).toNat = 1 := rfl
      omega
    rw [cutD_from (by decide), show (1 : Int).toNat = 1 from rfl, List.drop_succ_cons, List.drop_zero, ← hz]
    walk_at "go1"
    refine ⟨p, m, ms, _, k.ws, rfl, ⟨hp, hm, hl⟩, .inl rfl, hk, ?_⟩
    walk_at "go1"
    refine g_cut (fun τ N => N = M.put p (ciO (clsA mg "Circuit") m (inN ms) (gaN (ms ++ [k]))) ∧ τ = [some (.ref p), some kd]) ?_ ?_
    · walk_at "go1"
      refine ⟨k, by rw [hkd], ?_⟩
      rw [gaN_snoc]
      cases hg : k.gate
      · walk_at "go1"
        exact ⟨_, Sub.refl _, by rw [if_neg (by decide), Nat.add_zero]; exact (Mem.put_self hp).symm, rfl⟩
      · walk_at "go1"
        refine ⟨_, Sub.refl _, ?_, rfl⟩
        rw [putG_ne (by decide), putG_ne (by decide), putG_hit, if_pos rfl, show (gaN ms : Int) + 1 = ((gaN ms + 1 : Nat) : Int) by omega]
    rintro τ N ⟨rfl, rfl⟩
    have hm2 : (M.put p (ciO (clsA mg "Circuit") m (inN ms) (gaN (ms ++ [k])))) m = some (.lst (ms.map Mk.d)) := by rw [Mem.put_ne (Ne.symm hne)]; exact hm
    walk_at "go1"
    have hp3 : ∀ o, ((M.put p (ciO (clsA mg "Circuit") m (inN ms) (gaN (ms ++ [k])))).put m o) p = some (ciO (clsA mg "Circuit") m (inN ms) (gaN (ms ++ [k]))) := fun o => by rw [Mem.put_ne hne]; exact Mem.put_same
    have hp4 := hp3 (.lst (ms.map Mk.d ++ [kd]))
    walk_at "go1"
    rw [List.length_append, List.length_map, List.length_singleton, show ((ms.length + 1 : Nat) : Int) - 1 = (ms.length : Int) by omega]
    have q := q
    unfold ciM msO at q
    rw [List.map_append, inN_snoc, hi, if_neg (by decide), Nat.add_zero, show [k].map Mk.d = [kd] by rw [← hkd]; rfl] at q
    exact r_same q
def sp_ciputin (C : Addr) : DSp := fun ds M Q => ∃ (p m : Addr) (ms : List Mk), ds = [.ref p] ∧ Ci C M p m ms ∧ ms.length < 100000 ∧ Q (nD ms.length) (ciM C M p m (ms ++ [.inp (inN ms)]))
theorem ok_Circuit_put_in (T : Top K mg) : Mt P w K mg base (clsA mg "Circuit") "put_in" ["self"] 1 (sp_ciputin (clsA mg "Circuit")) := by
  refine okM T.m_Circuit_put_in sc_Circuit_put_in (fun _ _ _ _ _ _ us hl => match us, hl with | [_], _ => rfl) ?len (fun f cdv A outer s H E hr =>
    (dss_cons (ds_fldaug T.k_Circuit.cls T.n_Circuit___inputs (dv 0) de_int)
      (dss_cons (ds_expr (de_bm PySem.F.plainAttrs_list PySem.F.slot_list_append PySem.F.type_list_append ckL_ok md_append (de_fld T.k_Circuit.cls T.n_Circuit___marks (dv 0)) (da_cons (de_tup (da_cons de_str (da_cons (de_op or_sub (de_fld T.k_Circuit.cls T.n_Circuit___inputs (dv 0)) de_int) da_nil))) da_nil)))
      (dss_one (ds_ret (de_op or_sub (de_callB cd_len (by rfl) T.b_len (by decide +kernel) (da_cons (de_fld T.k_Circuit.cls T.n_Circuit___marks (dv 0)) da_nil)) de_int)))))) ?body
  · rintro ds M Q ⟨p, m, ms, rfl, _⟩; rfl
  · rintro ds M Q ⟨p, m, ms, rfl, hc, hl2, q⟩
    refine g_st (τ' := [some _]) rfl ?_
    have hne := hc.ne
    obtain ⟨hp, hm, hl⟩ := hc
    walk_at "go1"
    rw [putG_ne (by decide), putG_eq]
    have hm2 : ∀ o, (M.put p o) m = some (.lst (ms.map Mk.d)) := fun o => by rw [Mem.put_ne (Ne.symm hne)]; exact hm
    have hm3 := hm2 (.ins (clsA mg "Circuit") [("_marks", .ref m), ("_inputs", .int ((inN ms : Int) + 1)), ("_gates", nD (gaN ms))])
    walk_at "go1"
    have hp3 : ∀ o o2, ((M.put p o).put m o2) p = some o := fun o o2 => by rw [Mem.put_ne hne]; exact Mem.put_same
    have hp4 := hp3 (.ins (clsA mg "Circuit") [("_marks", .ref m), ("_inputs", .int ((inN ms : Int) + 1)), ("_gates", nD (gaN ms))]) (.lst (ms.map Mk.d ++ [D.tup [D.str "input", D.int ((inN ms : Int) + 1 - 1)]]))
    walk_at "go1"
    rw [List.length_append, List.length_map, List.length_singleton, show ((ms.length + 1 : Nat) : Int) - 1 = (ms.length : Int) by omega, show (inN ms : Int) + 1 - 1 = (inN ms : Int) by omega, show (inN ms : Int) + 1 = ((inN ms + 1 : Nat) : Int) by omega]
    have q := q
    unfold ciM msO at q
    rw [List.map_append, inN_snoc, gaN_snoc, show (Mk.inp (inN ms)).isInp = true from rfl, show (Mk.inp (inN ms)).gate = false from rfl, if_pos rfl, if_neg (by decide), Nat.add_zero] at q
    exact r_same q
def sp_cicon (C : Addr) : DSp := fun ds M Q => ∃ (p m : Addr) (ms : List Mk) (b : Nat), ds = [.ref p, nD b] ∧ Ci C M p m ms ∧ ms.length < 100000 ∧ Q (nD ms.length) (ciM C M p m (ms ++ [.con b]))
theorem ok_Circuit_constant (T : Top K mg) : Mt P w K mg base (clsA mg "Circuit") "constant" ["self", "bit"] 1 (sp_cicon (clsA mg "Circuit")) := by
  refine okM T.m_Circuit_constant sc_Circuit_constant (fun _ _ _ _ _ _ us hl => match us, hl with | [_, _], _ => rfl) ?len (fun f cdv A outer s H E hr =>
    (dss_cons (ds_expr (de_bm PySem.F.plainAttrs_list PySem.F.slot_list_append PySem.F.type_list_append ckL_ok md_append (de_fld T.k_Circuit.cls T.n_Circuit___marks (dv 0)) (da_cons (de_tup (da_cons de_str (da_cons (dv 1) da_nil))) da_nil)))
      (dss_one (ds_ret (de_op or_sub (de_callB cd_len (by rfl) T.b_len (by decide +kernel) (da_cons (de_fld T.k_Circuit.cls T.n_Circuit___marks (dv 0)) da_nil)) de_int))))) ?body
  · rintro ds M Q ⟨p, m, ms, b, rfl, _⟩; rfl
  · rintro ds M Q ⟨p, m, ms, b, rfl, hc, hl2, q⟩
    refine g_st (τ' := [some _, some _]) rfl ?_
    have hne := hc.ne
    obtain ⟨hp, hm, hl⟩ := hc
    walk_at "go1"
    have hp4 : (M.put m (.lst (ms.map Mk.d ++ [D.tup [D.str "constant", nD b]]))) p = some (ciO (clsA mg "Circuit") m (inN ms) (gaN ms)) := by rw [Mem.put_ne hne]; exact hp
    walk_at "go1"
    rw [List.length_append, List.length_map, List.length_singleton, show ((ms.length + 1 : Nat) : Int) - 1 = (ms.length : Int) by omega]
    have q := q
    unfold ciM msO at q
    rw [List.map_append, inN_snoc, gaN_snoc, show (Mk.con b).isInp = false from rfl, show (Mk.con b).gate = false from rfl, if_neg (by decide), Nat.add_zero, Nat.add_zero, Mem.put_self hp] at q
    exact r_same q
def sp_ciopp (C : Addr) : DSp := fun ds M Q => ∃ (p m : Addr) (ms : List Mk) (a : Nat), ds = [.ref p, nD a] ∧ Ci C M p m ms ∧ (∀ x ∈ (Mk.opp a).ws, x < ms.length) ∧ Q (nD ms.length) (ciM C M p m (ms ++ [.opp a]))
theorem ok_Circuit_opposite (T : Top K mg) : Mt P w K mg base (clsA mg "Circuit") "opposite" ["self", "wire"] 4 (sp_ciopp (clsA mg "Circuit")) := by
  refine okM T.m_Circuit_opposite sc_Circuit_opposite (fun _ _ _ _ _ _ us hl => match us, hl with | [_, _], _ => rfl) ?len (fun f cdv A outer s H E hr =>
    (dss_one (ds_ret (de_meth T.k_Circuit.cls (ok_Circuit_made T) (hr.mono (by first | decide | omega)) (dv 0) (da_cons (de_tup (da_cons de_str (da_cons (dv 1) da_nil))) da_nil))))) ?body
  · rintro ds M Q ⟨p, m, ms, a, rfl, _⟩; rfl
  · rintro ds M Q ⟨p, m, ms, a, rfl, hc, hw, q⟩
    refine g_st (τ' := [some _, some _]) rfl ?_
    have hp := hc.1
    walk_at "go1"
    refine ⟨p, m, ms, .opp a, rfl, hc, ⟨by unfold Mk.ws; simp, hw⟩, ?_⟩
    walk_at "go1"
    exact r_same q
def sp_ciplu (C : Addr) : DSp := fun ds M Q => ∃ (p m : Addr) (ms : List Mk) (a b : Nat), ds = [.ref p, nD a, nD b] ∧ Ci C M p m ms ∧ (∀ x ∈ (Mk.plu a b).ws, x < ms.length) ∧ Q (nD ms.length) (ciM C M p m (ms ++ [.plu a b]))
theorem ok_Circuit_plus (T : Top K mg) : Mt P w K mg base (clsA mg "Circuit") "plus" ["self", "one", "other"] 4 (sp_ciplu (clsA mg "Circuit")) := by
  refine okM T.m_Circuit_plus sc_Circuit_plus (fun _ _ _ _ _ _ us hl => match us, hl with | [_, _, _], _ => rfl) ?len (fun f cdv A outer s H E hr =>
    (dss_one (ds_ret (de_meth T.k_Circuit.cls (ok_Circuit_made T) (hr.mono (by first | decide | omega)) (dv 0) (da_cons (de_tup (da_cons de_str (da_cons (dv 1) (da_cons (dv 2) da_nil)))) da_nil))))) ?body
  · rintro ds M Q ⟨p, m, ms, a, b, rfl, _⟩; rfl
  · rintro ds M Q ⟨p, m, ms, a, b, rfl, hc, hw, q⟩
    refine g_st (τ' := [some _, some _, some _]) rfl ?_
    have hp := hc.1
    walk_at "go1"
    refine ⟨p, m, ms, .plu a b, rfl, hc, ⟨by unfold Mk.ws; simp, hw⟩, ?_⟩
    walk_at "go1"
    exact r_same q
def sp_cibth (C : Addr) : DSp := fun ds M Q => ∃ (p m : Addr) (ms : List Mk) (a b : Nat), ds = [.ref p, nD a, nD b] ∧ Ci C M p m ms ∧ (∀ x ∈ (Mk.bth a b).ws, x < ms.length) ∧ Q (nD ms.length) (ciM C M p m (ms ++ [.bth a b]))
theorem ok_Circuit_both (T : Top K mg) : Mt P w K mg base (clsA mg "Circuit") "both" ["self", "one", "other"] 4 (sp_cibth (clsA mg "Circuit")) := by
  refine okM T.m_Circuit_both sc_Circuit_both (fun _ _ _ _ _ _ us hl => match us, hl with | [_, _, _], _ => rfl) ?len (fun f cdv A outer s H E hr =>
    (dss_one (ds_ret (de_meth T.k_Circuit.cls (ok_Circuit_made T) (hr.mono (by first | decide | omega)) (dv 0) (da_cons (de_tup (da_cons de_str (da_cons (dv 1) (da_cons (dv 2) da_nil)))) da_nil))))) ?body
  · rintro ds M Q ⟨p, m, ms, a, b, rfl, _⟩; rfl
  · rintro ds M Q ⟨p, m, ms, a, b, rfl, hc, hw, q⟩
    refine g_st (τ' := [some _, some _, some _]) rfl ?_
    have hp := hc.1
    walk_at "go1"
    refine ⟨p, m, ms, .bth a b, rfl, hc, ⟨by unfold Mk.ws; simp, hw⟩, ?_⟩
    walk_at "go1"
    exact r_same q
def sp_cieit (C : Addr) : DSp := fun ds M Q => ∃ (p m : Addr) (ms : List Mk) (a b : Nat), ds = [.ref p, nD a, nD b] ∧ Ci C M p m ms ∧ (∀ x ∈ (Mk.eit a b).ws, x < ms.length) ∧ Q (nD ms.length) (ciM C M p m (ms ++ [.eit a b]))
theorem ok_Circuit_either (T : Top K mg) : Mt P w K mg base (clsA mg "Circuit") "either" ["self", "one", "other"] 4 (sp_cieit (clsA mg "Circuit")) := by
  refine okM T.m_Circuit_either sc_Circuit_either (fun _ _ _ _ _ _ us hl => match us, hl with | [_, _, _], _ => rfl) ?len (fun f cdv A outer s H E hr =>
    (dss_one (ds_ret (de_meth T.k_Circuit.cls (ok_Circuit_made T) (hr.mono (by first | decide | omega)) (dv 0) (da_cons (de_tup (da_cons de_str (da_cons (dv 1) (da_cons (dv 2) da_nil)))) da_nil))))) ?body
  · rintro ds M Q ⟨p, m, ms, a, b, rfl, _⟩; rfl
  · rintro ds M Q ⟨p, m, ms, a, b, rfl, hc, hw, q⟩
    refine g_st (τ' := [some _, some _, some _]) rfl ?_
    have hp := hc.1
    walk_at "go1"
    refine ⟨p, m, ms, .eit a b, rfl, hc, ⟨by unfold Mk.ws; simp, hw⟩, ?_⟩
    walk_at "go1"
    exact r_same q
def sp_cicho (C : Addr) : DSp := fun ds M Q => ∃ (p m : Addr) (ms : List Mk) (a b c : Nat), ds = [.ref p, nD a, nD b, nD c] ∧ Ci C M p m ms ∧ (∀ x ∈ (Mk.cho a b c).ws, x < ms.length) ∧ Q (nD ms.length) (ciM C M p m (ms ++ [.cho a b c]))
theorem ok_Circuit_choose (T : Top K mg) : Mt P w K mg base (clsA mg "Circuit") "choose" ["self", "by", "one", "other"] 4 (sp_cicho (clsA mg "Circuit")) := by
  refine okM T.m_Circuit_choose sc_Circuit_choose (fun _ _ _ _ _ _ us hl => match us, hl with | [_, _, _, _], _ => rfl) ?len (fun f cdv A outer s H E hr =>
    (dss_one (ds_ret (de_meth T.k_Circuit.cls (ok_Circuit_made T) (hr.mono (by first | decide | omega)) (dv 0) (da_cons (de_tup (da_cons de_str (da_cons (dv 1) (da_cons (dv 2) (da_cons (dv 3) da_nil))))) da_nil))))) ?body
  · rintro ds M Q ⟨p, m, ms, a, b, c, rfl, _⟩; rfl
  · rintro ds M Q ⟨p, m, ms, a, b, c, rfl, hc, hw, q⟩
    refine g_st (τ' := [some _, some _, some _, some _]) rfl ?_
    have hp := hc.1
    walk_at "go1"
    refine ⟨p, m, ms, .cho a b c, rfl, hc, ⟨by unfold Mk.ws; simp, hw⟩, ?_⟩
    walk_at "go1"
    exact r_same q
def sp_cimark (C : Addr) : DSp := fun ds M Q => ∃ (p m : Addr) (ms : List Mk) (i : Nat) (k : Mk), ds = [.ref p, nD i] ∧ Ci C M p m ms ∧ ms[i]? = some k ∧ Q k.d M
theorem ok_Circuit_mark (T : Top K mg) : Mt P w K mg base (clsA mg "Circuit") "mark" ["self", "wire"] 3 (sp_cimark (clsA mg "Circuit")) := by
  refine okM T.m_Circuit_mark sc_Circuit_mark (fun _ _ _ _ _ _ us hl => match us, hl with | [_, _], _ => rfl) ?len (fun f cdv A outer s H E hr =>
    (dss_cons (ds_expr (de_meth T.k_Circuit.cls (ok_Circuit_check T) (hr.mono (by first | decide | omega)) (dv 0) (da_cons (de_lst (da_cons (dv 1) da_nil)) da_nil)))
      (dss_one (ds_ret (de_ix (de_fld T.k_Circuit.cls T.n_Circuit___marks (dv 0)) (dv 1)))))) ?body
  · rintro ds M Q ⟨p, m, ms, i, k, rfl, _⟩; rfl
  · rintro ds M Q ⟨p, m, ms, i, k, rfl, hc, hk, q⟩
    refine g_st (τ' := [some _, some _]) rfl ?_
    have hp := hc.1
    have hm := hc.2.1
    have hi := (List.getElem?_eq_some_iff.mp hk).1
    walk_at "go1"
    refine g_newL ?_
    walk_at "go1"
    refine ⟨p, m, ms, _, [i], rfl, hc, .inr rfl, fun x hx => by rw [List.mem_singleton.mp hx]; exact hi, ?_⟩
    have at1 : atI (ms.map Mk.d) (i : Int) = some k.d := at_list (f := Mk.d) hk
    walk_at "go1"
    exact r_same q
theorem srd_oth {M : Mem} {p C : Addr} {gs : List (Str × D)} {o : MO} {d : D} {xs : List D} (h : Srd M d xs) (hp : M p = some (.ins C gs)) : Srd (M.put p o) d xs := by
  rcases h with (h | ⟨a, h, h1⟩) | h
  · exact .inl (.inl h)
  · refine .inl (.inr ⟨a, h, ?_⟩)
    rw [Mem.put_ne (fun e => by rw [e, hp] at h1; cases h1)]
    exact h1
  · exact .inr h
theorem srd_new {M : Mem} {p : Addr} {o : MO} {d : D} {xs : List D} (h : Srd M d xs) (hp : M p = none) : Srd (M.put p o) d xs := by
  rcases h with (h | ⟨a, h, h1⟩) | h
  · exact .inl (.inl h)
  · exact .inl (.inr ⟨a, h, by rw [Mem.put_ne (Mem.ne_of h1 hp)]; exact h1⟩)
  · exact .inr h
/-! the bits of the wires -/
def bitOf (bs ins : List Nat) : Mk → Nat
  | .inp j => ins.getD j 0
  | .con b => b
  | .opp a => 1 - bs.getD a 0
  | .plu a b => bs.getD a 0 ^^^ bs.getD b 0
  | .bth a b => bs.getD a 0 &&& bs.getD b 0
  | .eit a b => bs.getD a 0 ||| bs.getD b 0
  | .cho a b c => if bs.getD a 0 = 1 then bs.getD b 0 else bs.getD c 0
def MkOk (n i : Nat) : Mk → Prop
  | .inp j => j < i
  | .con b => b < 2
  | .opp a => a < n
  | .plu a b => a < n ∧ b < n
  | .bth a b => a < n ∧ b < n
  | .eit a b => a < n ∧ b < n
  | .cho a b c => a < n ∧ b < n ∧ c < n
def Bits (l : List Nat) : Prop := ∀ b ∈ l, b < 2
theorem gD {ps : List Nat} {k : Nat} (h : k < ps.length) : ps.getD k 0 = ps[k] := by simp [List.getD, h]
theorem Bits.at {l : List Nat} (h : Bits l) (k : Nat) : l.getD k 0 < 2 := by
  rcases Nat.lt_or_ge k l.length with h1 | h1
  · rw [gD h1]; exact h _ (List.getElem_mem h1)
  · simp [List.getD, h1]
theorem at_bit {l : List Nat} {k : Nat} (h : k < l.length) : atI (l.map nD) (k : Int) = some (nD (l.getD k 0)) := at_list (f := nD) (by rw [gD h]; exact List.getElem?_eq_getElem h)
theorem bitOf_lt {bs ins : List Nat} {n : Nat} {k : Mk} (hb : Bits bs) (hi : Bits ins) (hk : MkOk n ins.length k) : bitOf bs ins k < 2 := by
  cases k with
  | inp j => exact hi.at j
  | con b => exact hk
  | opp a => show 1 - _ < 2; omega
  | plu a b => exact Nat.xor_lt_two_pow (n := 1) (hb.at a) (hb.at b)
  | bth a b => exact Nat.lt_of_le_of_lt Nat.and_le_left (hb.at a)
  | eit a b => exact Nat.or_lt_two_pow (n := 1) (hb.at a) (hb.at b)
  | cho a b c => show (if _ then _ else _) < 2; split; exact hb.at b; exact hb.at c
/-- the bits of all wires -/
def blN (ins : List Nat) (ms : List Mk) : List Nat := ms.foldl (fun bs k => bs ++ [bitOf bs ins k]) []
theorem blN_snoc (ins : List Nat) (ms : List Mk) (k : Mk) : blN ins (ms ++ [k]) = blN ins ms ++ [bitOf (blN ins ms) ins k] := by unfold blN; rw [List.foldl_append]; rfl
def MsOk (i : Nat) (ms : List Mk) : Prop := ∀ j k, ms[j]? = some k → MkOk j i k
theorem blN_take {ins : List Nat} {ms : List Mk} (hi : Bits ins) (h : MsOk ins.length ms) : ∀ n, n ≤ ms.length → (blN ins (ms.take n)).length = n ∧ Bits (blN ins (ms.take n))
  | 0, _ => ⟨rfl, fun _ h => by cases h⟩
  | n + 1, hn => by
    obtain ⟨h1, h2⟩ := blN_take hi h n (by omega)
    obtain ⟨k, hk⟩ : ∃ k, ms[n]? = some k := ⟨ms[n], List.getElem?_eq_getElem (by omega)⟩
    rw [take_snoc hk, blN_snoc]
    refine ⟨by rw [List.length_append, h1]; rfl, fun b hb => ?_⟩
    rcases List.mem_append.mp hb with hb | hb
    · exact h2 b hb
    · rw [List.mem_singleton.mp hb]; exact bitOf_lt h2 hi (h n k hk)
def sp_isint : DSp := fun ds M Q => ∃ i : Int, ds = [.int i] ∧ Q (.bl true) M
theorem ok_law_is_integer (T : Top K mg) : Fn P w K mg base "_law_is_integer" ["value"] 1 sp_isint := by
  refine okF T.d_law_is_integer sc_law_is_integer (fun _ _ _ _ _ _ us hl => match us, hl with | [_], _ => rfl) ?len (fun f cdv A outer s H E hr =>
    (dss_one (ds_ret (de_and (de_callB (cd_isi .int) (by rfl) T.b_isinstance (by decide +kernel) (da_cons (dv 0) (da_cons (de_tyname (n := "int") (by rfl) T.b_int (by decide +kernel)) da_nil))) (de_one (de_not (de_callB (cd_isi .bool) (by rfl) T.b_isinstance (by decide +kernel) (da_cons (dv 0) (da_cons (de_tyname (n := "bool") (by rfl) T.b_bool (by decide +kernel)) da_nil))))))))) ?body
  · rintro ds M Q ⟨i, rfl, _⟩; rfl
  · rintro ds M Q ⟨i, rfl, q⟩
    refine g_st (τ' := [some _]) rfl ?_
    walk_at "go"
    exact r_same q
/-! the law's own count of marks -/
def sp_lplc : DSp := fun ds M Q => ∃ z : Str, ds = [.str z] ∧ Q (nD (if z = "opposite" then 1 else if z = "choose" then 3 else 2)) M
theorem ok_law_places (T : Top K mg) : Fn P w K mg base "_law_places" ["kind"] 1 sp_lplc := by
  refine okF T.d_law_places sc_law_places (fun _ _ _ _ _ _ us hl => match us, hl with | [_], _ => rfl) ?len (fun f cdv A outer s H E hr =>
    (dss_cons (ds_if (dt_cmp (or_eq hr.units) (dv 0) de_str (nomark _))
        (dss_one (ds_ret de_int))
        dss_nil)
      (dss_cons (ds_if (dt_cmp (or_eq hr.units) (dv 0) de_str (nomark _))
        (dss_one (ds_ret de_int))
        dss_nil)
      (dss_one (ds_ret de_int))))) ?body
  · rintro ds M Q ⟨z, rfl, _⟩; rfl
  · rintro ds M Q ⟨z, rfl, q⟩
    refine g_st (τ' := [some _]) rfl ?_
    walk_at "go1"
    refine g_d (fun h => ?_) (fun h => ?_)
    · walk_at "go1"
      rw [if_pos h] at q
      exact r_same q
    walk_at "go1"
    rw [if_neg h] at q
    refine g_d (fun h => ?_) (fun h => ?_)
    · walk_at "go1"
      rw [if_pos h] at q
      exact r_same q
    walk_at "go1"
    rw [if_neg h] at q
    exact r_same q
def sp_linputs : DSp := fun ds M Q => ∃ (E : D) (ms : List Mk), ds = [E] ∧ Srd M E (ms.map Mk.d) ∧ ms.length ≤ 100000 ∧ Q (nD (inN ms)) M
theorem ok_law_inputs (T : Top K mg) : Fn P w K mg base "_law_inputs" ["marks"] 1 sp_linputs := by
  refine okF T.d_law_inputs sc_law_inputs (fun _ _ _ _ _ _ us hl => match us, hl with | [_], _ => rfl) ?len (fun f cdv A outer s H E hr =>
    (dss_one (ds_ret (de_callB cd_len (by rfl) T.b_len (by decide +kernel) (da_cons (de_lc (own := [("mark", 1)]) (p := .nm 1) rfl sc_law_inputs.nd (di_list (dv 0)) (blkOk_by (own := [("mark", 1)]) (N := ["marks", "mark"]) (sc := defScope s_law_inputs) (by decide +kernel)) (fun _ _ _ _ _ => (pg_name (i := 1) sc_law_inputs.nd rfl (by first | exact Or.inl rfl | exact Or.inr rfl))) (fun _ _ _ _ _ => (dts_one (dt_cmp (or_eq hr.units) (de_ix (dv 1) de_int) de_str (nomark _)))) (fun _ _ _ _ _ => (dv 1))) da_nil))))) ?body
  · rintro ds M Q ⟨E, ms, rfl, _⟩; rfl
  · rintro ds M Q ⟨E, ms, rfl, hm, hl, q⟩
    refine g_st (τ' := [some _, none]) rfl ?_
    walk_at "go1"
    refine ⟨_, hm, List.mem_cons_self, lc_const Mk.d Mk.isInp Mk.d ms (by omega) hm (fun k _ A B h1 h2 => ?_) (.inl ?_)⟩
    · cases k <;> unfold Mk.d at h1 ⊢ <;> walk_at "lc" <;> walk_at "go1" <;> first | exact h1 rfl | exact h2 rfl
    walk_at "go1"
    rw [List.length_map]
    exact r_same q
def sp_lgates : DSp := fun ds M Q => ∃ (E : D) (ms : List Mk), ds = [E] ∧ Srd M E (ms.map Mk.d) ∧ ms.length ≤ 100000 ∧ Q (nD (gaN ms)) M
theorem ok_law_gates (T : Top K mg) : Fn P w K mg base "_law_gates" ["marks"] 1 sp_lgates := by
  refine okF T.d_law_gates sc_law_gates (fun _ _ _ _ _ _ us hl => match us, hl with | [_], _ => rfl) ?len (fun f cdv A outer s H E hr =>
    (dss_one (ds_ret (de_callB cd_len (by rfl) T.b_len (by decide +kernel) (da_cons (de_lc (own := [("mark", 1)]) (p := .nm 1) rfl sc_law_gates.nd (di_list (dv 0)) (blkOk_by (own := [("mark", 1)]) (N := ["marks", "mark"]) (sc := defScope s_law_gates) (by decide +kernel)) (fun _ _ _ _ _ => (pg_name (i := 1) sc_law_gates.nd rfl (by first | exact Or.inl rfl | exact Or.inr rfl))) (fun _ _ _ _ _ => (dts_one (dt_cmp or_inS (de_ix (dv 1) de_int) (de_tup (da_cons de_str (da_cons de_str (da_cons de_str da_nil)))) (by with_unfolding_all rfl)))) (fun _ _ _ _ _ => (dv 1))) da_nil))))) ?body
  · rintro ds M Q ⟨E, ms, rfl, _⟩; rfl
  · rintro ds M Q ⟨E, ms, rfl, hm, hl, q⟩
    refine g_st (τ' := [some _, none]) rfl ?_
    walk_at "go1"
    refine ⟨_, hm, List.mem_cons_self, lc_const Mk.d Mk.gate Mk.d ms (by omega) hm (fun k _ A B h1 h2 => ?_) (.inl ?_)⟩
    · cases k <;> unfold Mk.d at h1 ⊢ <;> walk_at "lc" <;> walk_at "go1" <;> (refine g_inS ["both", "either", "choose"] rfl ?_; first | exact h1 rfl | exact h2 rfl | (walk_at "go1"; first | exact h1 rfl | exact h2 rfl))
    walk_at "go1"
    rw [List.length_map]
    exact r_same q
theorem g_neSS {z : Str} {M : Mem} {Q : D → Mem → Prop} (q : Q (.bl false) M) : oNe (.str z) (.str z) M Q := by
  show Q (.bl (!decide (z = z))) M
  simpa using q
def sp_leqm : DSp := fun ds M Q => ∃ k : Mk, ds = [k.d, k.d] ∧ Q (.bl true) M
theorem ok_law_equal_mark (T : Top K mg) : Fn P w K mg base "_law_equal_mark" ["actual", "mark"] 2 sp_leqm := by
  refine okF T.d_law_equal_mark sc_law_equal_mark (fun _ _ _ _ _ _ us hl => match us, hl with | [_, _], _ => rfl) ?len (fun f cdv A outer s H E hr =>
    (dss_cons (ds_if (dt_w (dw_or (dt_not (dt_tru (de_callB (cd_isi .tuple) (by rfl) T.b_isinstance (by decide +kernel) (da_cons (dv 0) (da_cons (de_tyname (n := "tuple") (by rfl) T.b_tuple (by decide +kernel)) da_nil))))) (dw_or1 (dt_cmp (or_ne hr.units) (de_callB cd_len (by rfl) T.b_len (by decide +kernel) (da_cons (dv 0) da_nil)) (de_callB cd_len (by rfl) T.b_len (by decide +kernel) (da_cons (dv 1) da_nil)) (nomark _)))))
        (dss_one (ds_ret de_bl))
        dss_nil)
      (dss_cons (ds_if (dt_w (dw_or (dt_not (dt_tru (de_callB (cd_isi .str) (by rfl) T.b_isinstance (by decide +kernel) (da_cons (de_ix (dv 0) de_int) (da_cons (de_tyname (n := "str") (by rfl) T.b_str (by decide +kernel)) da_nil))))) (dw_or1 (dt_cmp (or_ne hr.units) (de_ix (dv 0) de_int) (de_ix (dv 1) de_int) (nomark _)))))
        (dss_one (ds_ret de_bl))
        dss_nil)
      (dss_cons (ds_for PassesOwn.never rfl (di_range2 (by rfl) T.b_range (da_cons de_int (da_cons (de_callB cd_len (by rfl) T.b_len (by decide +kernel) (da_cons (dv 1) da_nil)) da_nil))) (dg_name (i := 2) sc_law_equal_mark.nd rfl (by first | exact Or.inl rfl | exact Or.inr rfl))
        (dss_one (ds_if (dt_w (dw_or (dt_not (dt_tru (de_fn (ok_law_is_integer T) (hr.mono (by first | decide | omega)) (by rfl) (da_cons (de_ix (dv 0) (dv 2)) da_nil)))) (dw_or1 (dt_cmp (or_ne hr.units) (de_ix (dv 0) (dv 2)) (de_ix (dv 1) (dv 2)) (nomark _)))))
          (dss_one (ds_ret de_bl))
          dss_nil)))
      (dss_one (ds_ret de_bl)))))) ?body
  · rintro ds M Q ⟨k, rfl, _⟩; rfl
  · rintro ds M Q ⟨k, rfl, q⟩
    refine g_st (τ' := [some _, some _, none]) rfl ?_
    obtain ⟨z, l, hz, hl⟩ : ∃ (z : Str) (l : List Nat), k.d = .tup (.str z :: l.map nD) ∧ l.length ≤ 3 := by
      cases k with
      | inp j => exact ⟨_, [j], rfl, by simp⟩
      | con b => exact ⟨_, [b], rfl, by simp⟩
      | opp a => exact ⟨_, [a], rfl, by simp⟩
      | plu a b => exact ⟨_, [a, b], rfl, by simp⟩
      | bth a b => exact ⟨_, [a, b], rfl, by simp⟩
      | eit a b => exact ⟨_, [a, b], rfl, by simp⟩
      | cho a b c => exact ⟨_, [a, b, c], rfl, by simp⟩
    rw [hz]
    clear hz k
    have at0 : atI (D.str z :: l.map nD) (0 : Int) = some (D.str z) := show atI _ ((0 : Nat) : Int) = _ from atI_nat rfl
    walk_at "go1"
    refine g_neSS ?_
    walk_at "go1"
    rw [List.length_cons, List.length_map, show (((l.length + 1 : Nat) : Int) - 1).toNat = l.length by omega]
    refine f_rng (fun k τ N => N = M ∧ ∃ c : Option D, τ = [some (.tup (D.str z :: l.map nD)), some (.tup (D.str z :: l.map nD)), c]) ⟨rfl, _, rfl⟩ ?_ ?_
    · rintro k τ N hk ⟨rfl, c, rfl⟩
      rw [show (1 : Int) + (k : Int) = ((k + 1 : Nat) : Int) by omega]
      have at1 : atI (D.str z :: l.map nD) ((k + 1 : Nat) : Int) = some (nD l[k]) := atI_nat (by rw [List.getElem?_cons_succ, List.getElem?_map, List.getElem?_eq_getElem hk]; rfl)
      walk_at "go1"
      refine ⟨_, rfl, ?_⟩
      walk_at "go1"
      exact ⟨_, Sub.refl _, trivial, rfl, _, rfl⟩
    · rintro τ N ⟨rfl, c, rfl⟩
      walk_at "go1"
      exact r_same q
/-! the law makes a wire -/
def sp_lmake (C : Addr) : DSp := fun ds M Q => ∃ (p m : Addr) (ms : List Mk) (k : Mk), ds = [.ref p, k.d] ∧ Ci C M p m ms ∧ ms.length < 100000 ∧ (∀ x ∈ k.ws, x < ms.length) ∧ (∀ j, k = .inp j → j = inN ms) ∧ Q (nD ms.length) (ciM C M p m (ms ++ [k]))
theorem ok_law_make (T : Top K mg) : Fn P w K mg base "_law_make" ["circuit", "mark"] 5 (sp_lmake (clsA mg "Circuit")) := by
  refine okF T.d_law_make sc_law_make (fun _ _ _ _ _ _ us hl => match us, hl with | [_, _], _ => rfl) ?len (fun f cdv A outer s H E hr =>
    (dss_cons (ds_if (dt_cmp (or_eq hr.units) (de_ix (dv 1) de_int) de_str (nomark _))
        (dss_one (ds_ret (de_meth0 T.k_Circuit.cls (ok_Circuit_put_in T) (hr.mono (by first | decide | omega)) (dv 0))))
        dss_nil)
      (dss_cons (ds_if (dt_cmp (or_eq hr.units) (de_ix (dv 1) de_int) de_str (nomark _))
        (dss_one (ds_ret (de_meth T.k_Circuit.cls (ok_Circuit_constant T) (hr.mono (by first | decide | omega)) (dv 0) (da_cons (de_ix (dv 1) de_int) da_nil))))
        dss_nil)
      (dss_cons (ds_if (dt_cmp (or_eq hr.units) (de_ix (dv 1) de_int) de_str (nomark _))
        (dss_one (ds_ret (de_meth T.k_Circuit.cls (ok_Circuit_opposite T) (hr.mono (by first | decide | omega)) (dv 0) (da_cons (de_ix (dv 1) de_int) da_nil))))
        dss_nil)
      (dss_cons (ds_if (dt_cmp (or_eq hr.units) (de_ix (dv 1) de_int) de_str (nomark _))
        (dss_one (ds_ret (de_meth T.k_Circuit.cls (ok_Circuit_plus T) (hr.mono (by first | decide | omega)) (dv 0) (da_cons (de_ix (dv 1) de_int) (da_cons (de_ix (dv 1) de_int) da_nil)))))
        dss_nil)
      (dss_cons (ds_if (dt_cmp (or_eq hr.units) (de_ix (dv 1) de_int) de_str (nomark _))
        (dss_one (ds_ret (de_meth T.k_Circuit.cls (ok_Circuit_both T) (hr.mono (by first | decide | omega)) (dv 0) (da_cons (de_ix (dv 1) de_int) (da_cons (de_ix (dv 1) de_int) da_nil)))))
        dss_nil)
      (dss_cons (ds_if (dt_cmp (or_eq hr.units) (de_ix (dv 1) de_int) de_str (nomark _))
        (dss_one (ds_ret (de_meth T.k_Circuit.cls (ok_Circuit_either T) (hr.mono (by first | decide | omega)) (dv 0) (da_cons (de_ix (dv 1) de_int) (da_cons (de_ix (dv 1) de_int) da_nil)))))
        dss_nil)
      (dss_one (ds_ret (de_meth T.k_Circuit.cls (ok_Circuit_choose T) (hr.mono (by first | decide | omega)) (dv 0) (da_cons (de_ix (dv 1) de_int) (da_cons (de_ix (dv 1) de_int) (da_cons (de_ix (dv 1) de_int) da_nil))))))))))))) ?body
  · rintro ds M Q ⟨p, m, ms, k, rfl, _⟩; rfl
  · rintro ds M Q ⟨p, m, ms, k, rfl, hc, hl, hw, hj, q⟩
    refine g_st (τ' := [some _, some _]) rfl ?_
    have hp := hc.1
    cases k with
    | inp j =>
      have hj := hj j rfl
      subst hj
      unfold Mk.d
      walk_at "go1"
      refine ⟨p, m, ms, rfl, hc, hl, ?_⟩
      exact r_same q
    | con b =>
      unfold Mk.d
      walk_at "go1"
      refine ⟨p, m, ms, b, rfl, hc, hl, ?_⟩
      exact r_same q
    | opp a =>
      unfold Mk.d
      walk_at "go1"
      refine ⟨p, m, ms, a, rfl, hc, hw, ?_⟩
      exact r_same q
    | plu a b =>
      unfold Mk.d
      walk_at "go1"
      refine ⟨p, m, ms, a, b, rfl, hc, hw, ?_⟩
      exact r_same q
    | bth a b =>
      unfold Mk.d
      walk_at "go1"
      refine ⟨p, m, ms, a, b, rfl, hc, hw, ?_⟩
      exact r_same q
    | eit a b =>
      unfold Mk.d
      walk_at "go1"
      refine ⟨p, m, ms, a, b, rfl, hc, hw, ?_⟩
      exact r_same q
    | cho a b c =>
      unfold Mk.d
      walk_at "go1"
      refine ⟨p, m, ms, a, b, c, rfl, hc, hw, ?_⟩
      exact r_same q
/-! the counts and the marks stand -/
def sp_lstands (C : Addr) : DSp := fun ds M Q => ∃ (p m : Addr) (ms : List Mk), ds = [.ref p, .lst (ms.map Mk.d)] ∧ Ci C M p m ms ∧ Q (.bl true) M
theorem ok_law_stands (T : Top K mg) : Fn P w K mg base "_law_stands" ["circuit", "marks"] 5 (sp_lstands (clsA mg "Circuit")) := by
  refine okF T.d_law_stands sc_law_stands (fun _ _ _ _ _ _ us hl => match us, hl with | [_, _], _ => rfl) ?len (fun f cdv A outer s H E hr =>
    (dss_cons (ds_for PassesOwn.never rfl (di_tup (de_tup (da_cons (de_prop T.k_Circuit.cls (ok_Circuit_wires T) (hr.mono (by first | decide | omega)) (dv 0)) (da_cons (de_prop T.k_Circuit.cls (ok_Circuit_inputs T) (hr.mono (by first | decide | omega)) (dv 0)) (da_cons (de_prop T.k_Circuit.cls (ok_Circuit_gates T) (hr.mono (by first | decide | omega)) (dv 0)) da_nil))))) (dg_name (i := 2) sc_law_stands.nd rfl (by first | exact Or.inl rfl | exact Or.inr rfl))
        (dss_one (ds_if (dt_not (dt_tru (de_fn (ok_law_is_integer T) (hr.mono (by first | decide | omega)) (by rfl) (da_cons (dv 2) da_nil))))
          (dss_one (ds_ret de_bl))
          dss_nil)))
      (dss_cons (ds_if (dt_w (dw_or (dt_cmp (or_ne hr.units) (de_prop T.k_Circuit.cls (ok_Circuit_wires T) (hr.mono (by first | decide | omega)) (dv 0)) (de_callB cd_len (by rfl) T.b_len (by decide +kernel) (da_cons (dv 1) da_nil)) (nomark _)) (dw_or (dt_cmp (or_ne hr.units) (de_prop T.k_Circuit.cls (ok_Circuit_inputs T) (hr.mono (by first | decide | omega)) (dv 0)) (de_fn (ok_law_inputs T) (hr.mono (by first | decide | omega)) (by rfl) (da_cons (dv 1) da_nil)) (nomark _)) (dw_or1 (dt_cmp (or_ne hr.units) (de_prop T.k_Circuit.cls (ok_Circuit_gates T) (hr.mono (by first | decide | omega)) (dv 0)) (de_fn (ok_law_gates T) (hr.mono (by first | decide | omega)) (by rfl) (da_cons (dv 1) da_nil)) (nomark _))))))
        (dss_one (ds_ret de_bl))
        dss_nil)
      (dss_cons (ds_for PassesOwn.never rfl (di_range1 (by rfl) T.b_range (da_cons (de_callB cd_len (by rfl) T.b_len (by decide +kernel) (da_cons (dv 1) da_nil)) da_nil)) (dg_name (i := 3) sc_law_stands.nd rfl (by first | exact Or.inl rfl | exact Or.inr rfl))
        (dss_one (ds_if (dt_not (dt_tru (de_fn (ok_law_equal_mark T) (hr.mono (by first | decide | omega)) (by rfl) (da_cons (de_meth T.k_Circuit.cls (ok_Circuit_mark T) (hr.mono (by first | decide | omega)) (dv 0) (da_cons (dv 3) da_nil)) (da_cons (de_ix (dv 1) (dv 3)) da_nil)))))
          (dss_one (ds_ret de_bl))
          dss_nil)))
      (dss_one (ds_ret de_bl)))))) ?body
  · rintro ds M Q ⟨p, m, ms, rfl, _⟩; rfl
  · rintro ds M Q ⟨p, m, ms, rfl, hc, q⟩
    refine g_st (τ' := [some _, some _, none, none]) rfl ?_
    have hp := hc.1
    have hl := hc.2.2
    walk_at "go1"
    refine ⟨p, m, ms, rfl, hc, ?_⟩
    walk_at "go1"
    refine ⟨p, m, ms, rfl, hc, ?_⟩
    walk_at "go1"
    refine ⟨p, m, ms, rfl, hc, ?_⟩
    walk_at "go1"
    refine f_lst nD [ms.length, inN ms, gaN ms] (fun k τ N => N = M ∧ ∃ c : Option D, τ = [some (.ref p), some (.lst (ms.map Mk.d)), c, none]) ⟨rfl, _, rfl⟩ ?_ ?_
    · rintro k x τ N hx ⟨rfl, c, rfl⟩ _
      walk_at "go1"
      refine ⟨_, rfl, ?_⟩
      walk_at "go1"
      exact ⟨_, Sub.refl _, trivial, rfl, _, rfl⟩
    rintro τ N ⟨rfl, c, rfl⟩
    walk_at "go1"
    refine ⟨p, m, ms, rfl, hc, ?_⟩
    walk_at "go1"
    rw [List.length_map]
    walk_at "go1"
    refine ⟨p, m, ms, rfl, hc, ?_⟩
    walk_at "go1"
    refine ⟨_, ms, rfl, .l, hl, ?_⟩
    walk_at "go1"
    refine ⟨p, m, ms, rfl, hc, ?_⟩
    walk_at "go1"
    refine ⟨_, ms, rfl, .l, hl, ?_⟩
    walk_at "go1"
    rw [List.length_map, Int.toNat_natCast]
    refine f_rng0 (fun k τ N' => N' = N ∧ ∃ d : Option D, τ = [some (.ref p), some (.lst (ms.map Mk.d)), c, d]) ⟨rfl, _, rfl⟩ ?_ ?_
    · rintro k τ N' hk ⟨rfl, d, rfl⟩
      obtain ⟨x, hx⟩ : ∃ x, ms[k]? = some x := ⟨ms[k], List.getElem?_eq_getElem hk⟩
      have at1 : atI (ms.map Mk.d) (k : Int) = some x.d := at_list (f := Mk.d) hx
      walk_at "go1"
      refine ⟨p, m, ms, k, x, rfl, hc, hx, ?_⟩
      walk_at "go1"
      refine ⟨x, rfl, ?_⟩
      walk_at "go1"
      exact ⟨_, Sub.refl _, trivial, rfl, _, rfl⟩
    · rintro τ N' ⟨rfl, d, rfl⟩
      walk_at "go1"
      exact r_same q
/-! a drawn mark -/
def Nx (ms : List Mk) (k : Mk) : Prop := (∀ x ∈ k.ws, x < ms.length) ∧ (∀ j, k = .inp j → j = inN ms) ∧ ∀ b, k = .con b → b < 2
def plcN (z : Str) : Nat := if z = "opposite" then 1 else if z = "choose" then 3 else 2
def sp_lmark : DSp := fun ds M Q => ∃ (s a : Addr) (o : MO) (ms : List Mk), ds = [.ref s, .ref a] ∧ M s = some o ∧ Hs o ∧ M a = some (msO ms) ∧ ms.length ≤ 100000 ∧ s ≠ a ∧
  ∀ (k : Mk) o', Hs o' → Nx ms k → Q k.d (M.put s o')
theorem ok_law_mark (T : Top K mg) (S : Sr P base) : Fn P w K mg base "_law_mark" ["state", "marks"] 35 sp_lmark := by
  refine okF T.d_law_mark sc_law_mark (fun _ _ _ _ _ _ us hl => match us, hl with | [_, _], _ => rfl) ?len (fun f cdv A outer s H E hr =>
    (dss_cons (ds_set (i := 2) sc_law_mark.nd rfl (by first | exact Or.inl rfl | exact Or.inr rfl) (de_lst (da_cons de_str (da_cons de_str (da_cons de_str (da_cons de_str (da_cons de_str (da_cons de_str (da_cons de_str da_nil)))))))))
      (dss_cons (ds_set (i := 3) sc_law_mark.nd rfl (by first | exact Or.inl rfl | exact Or.inr rfl) (de_ix (dv 2) (de_fn (ok_law_draw T S) (hr.mono (by first | decide | omega)) (by rfl) (da_cons (dv 0) (da_cons de_int da_nil)))))
      (dss_cons (ds_if (dt_cmp (or_eq hr.units) (dv 3) de_str (nomark _))
        (dss_one (ds_ret (de_tup (da_cons (dv 3) (da_cons (de_fn (ok_law_draw T S) (hr.mono (by first | decide | omega)) (by rfl) (da_cons (dv 0) (da_cons de_int da_nil))) da_nil)))))
        dss_nil)
      (dss_cons (ds_if (dt_w (dw_or (dt_cmp (or_eq hr.units) (dv 3) de_str (nomark _)) (dw_or1 (dt_cmp (or_eq hr.units) (de_callB cd_len (by rfl) T.b_len (by decide +kernel) (da_cons (dv 1) da_nil)) de_int (nomark _)))))
        (dss_one (ds_ret (de_tup (da_cons de_str (da_cons (de_callB cd_len (by rfl) T.b_len (by decide +kernel) (da_cons (de_lc (own := [("mark", 6)]) (p := .nm 6) rfl sc_law_mark.nd (di_list (dv 1)) (blkOk_by (own := [("mark", 6)]) (N := ["state", "marks", "kinds", "kind", "found", "k", "mark"]) (sc := defScope s_law_mark) (by decide +kernel)) (fun _ _ _ _ _ => (pg_name (i := 6) sc_law_mark.nd rfl (by first | exact Or.inl rfl | exact Or.inr rfl))) (fun _ _ _ _ _ => (dts_one (dt_cmp (or_eq hr.units) (de_ix (dv 6) de_int) de_str (nomark _)))) (fun _ _ _ _ _ => (dv 6))) da_nil)) da_nil)))))
        dss_nil)
      (dss_cons (ds_set (i := 4) sc_law_mark.nd rfl (by first | exact Or.inl rfl | exact Or.inr rfl) (de_tup (da_cons (dv 3) da_nil)))
      (dss_cons (ds_for PassesOwn.never rfl (di_range1 (by rfl) T.b_range (da_cons (de_fn (ok_law_places T) (hr.mono (by first | decide | omega)) (by rfl) (da_cons (dv 3) da_nil)) da_nil)) (dg_name (i := 5) sc_law_mark.nd rfl (by first | exact Or.inl rfl | exact Or.inr rfl))
        (dss_one (ds_set (i := 4) sc_law_mark.nd rfl (by first | exact Or.inl rfl | exact Or.inr rfl) (de_op or_add (dv 4) (de_tup (da_cons (de_fn (ok_law_draw T S) (hr.mono (by first | decide | omega)) (by rfl) (da_cons (dv 0) (da_cons (de_callB cd_len (by rfl) T.b_len (by decide +kernel) (da_cons (dv 1) da_nil)) da_nil))) da_nil))))))
      (dss_one (ds_ret (dv 4)))))))))) ?body
  · rintro ds M Q ⟨s, a, o, ms, rfl, _⟩; rfl
  · rintro ds M Q ⟨s, a, o, ms, rfl, hs, ho, ha, hl, hne, q⟩
    refine g_st (τ' := [some _, some _, none, none, none, none, none]) rfl ?_
    have ha2 : ∀ o, (M.put s o) a = some (.lst (ms.map Mk.d)) := fun o => by rw [Mem.put_ne (Ne.symm hne)]; exact ha
    have inp : ∀ o, Hs o → Q (.tup [.str "input", nD (inN ms)]) (M.put s o) := fun o ho => q (.inp (inN ms)) o ho ⟨(fun _ h => by cases h), (fun j h => by cases h; rfl), fun _ h => by cases h⟩
    walk_at "go1"
    refine g_newL ?_
    walk_at "go1"
    refine dr hs ho (by decide) fun d o ho hd => ?_
    have ha3 := ha2 o
    walk_at "go1"
    refine g_ixlP ⟨by omega, by simp only [List.length_cons, List.length_nil]; omega⟩ fun x hx => ?_
    have hx : x = .str "input" ∨ x = .str "constant" ∨ ∃ z : Str, x = .str z ∧ z ≠ "input" ∧ z ≠ "constant" ∧ ∀ l : List Nat, l.length = plcN z → (∀ x ∈ l, x < ms.length) → ∃ k : Mk, k.d = .tup (.str z :: l.map nD) ∧ Nx ms k := by
      have one : ∀ l : List Nat, l.length = 1 → ∃ a, l = [a] := fun l h => by
        match l, h with
        | [a], _ => exact ⟨a, rfl⟩
      have two : ∀ l : List Nat, l.length = 2 → ∃ a b, l = [a, b] := fun l h => by
        match l, h with
        | [a, b], _ => exact ⟨a, b, rfl⟩
      have thr : ∀ l : List Nat, l.length = 3 → ∃ a b c, l = [a, b, c] := fun l h => by
        match l, h with
        | [a, b, c], _ => exact ⟨a, b, c, rfl⟩
      simp only [List.mem_cons, List.mem_nil_iff, or_false] at hx
      rcases hx with rfl | rfl | rfl | rfl | rfl | rfl | rfl
      · exact .inl rfl
      · exact .inr (.inl rfl)
      · refine .inr (.inr ⟨_, rfl, by decide, by decide, fun l hl hx => ?_⟩)
        obtain ⟨a, rfl⟩ := one l hl
        exact ⟨.opp a, rfl, hx, (fun _ h => by cases h), (fun _ h => by cases h)⟩
      · refine .inr (.inr ⟨_, rfl, by decide, by decide, fun l hl hx => ?_⟩)
        obtain ⟨a, b, rfl⟩ := two l hl
        exact ⟨.plu a b, rfl, hx, (fun _ h => by cases h), (fun _ h => by cases h)⟩
      · refine .inr (.inr ⟨_, rfl, by decide, by decide, fun l hl hx => ?_⟩)
        obtain ⟨a, b, rfl⟩ := two l hl
        exact ⟨.bth a b, rfl, hx, (fun _ h => by cases h), (fun _ h => by cases h)⟩
      · refine .inr (.inr ⟨_, rfl, by decide, by decide, fun l hl hx => ?_⟩)
        obtain ⟨a, b, rfl⟩ := two l hl
        exact ⟨.eit a b, rfl, hx, (fun _ h => by cases h), (fun _ h => by cases h)⟩
      · refine .inr (.inr ⟨_, rfl, by decide, by decide, fun l hl hx => ?_⟩)
        obtain ⟨a, b, c, rfl⟩ := thr l hl
        exact ⟨.cho a b c, rfl, hx, (fun _ h => by cases h), (fun _ h => by cases h)⟩
    rcases hx with rfl | rfl | ⟨z, rfl, hz1, hz2, hz⟩
    · walk_at "go1"
      refine ⟨List.mem_cons_self, lc_const Mk.d Mk.isInp Mk.d ms (by omega) (.r ha3) (fun k _ A B h1 h2 => ?_) (.inl ?_)⟩
      · cases k <;> unfold Mk.d at h1 ⊢ <;> walk_at "lc" <;> walk_at "go1" <;> first | exact h1 rfl | exact h2 rfl
      walk_at "go1"
      rw [List.length_map]
      exact r_same (inp o ho)
    · walk_at "go1"
      have hs2 : (M.put s o) s = some o := Mem.put_same
      refine dr hs2 ho (by decide) fun d o ho hd => ?_
      rw [Mem.put_put]
      walk_at "go1"
      exact r_same (q (.con d) o ho ⟨(fun _ h => by cases h), (fun _ h => by cases h), fun b h => by cases h; omega⟩)
    walk_at "go1"
    rw [List.length_map]
    refine g_d (fun h => ?_) (fun h => ?_)
    · walk_at "go1"
      refine ⟨List.mem_cons_self, lc_const Mk.d Mk.isInp Mk.d ms (by omega) (.r ha3) (fun k _ A B h1 h2 => ?_) (.inl ?_)⟩
      · cases k <;> unfold Mk.d at h1 ⊢ <;> walk_at "lc" <;> walk_at "go1" <;> first | exact h1 rfl | exact h2 rfl
      walk_at "go1"
      rw [List.length_map]
      exact r_same (inp o ho)
    clear inp hx
    walk_at "go1"
    refine ⟨z, rfl, ?_⟩
    rw [show (if z = "opposite" then 1 else if z = "choose" then 3 else 2) = plcN z from rfl]
    have hp3 : plcN z ≤ 3 := by unfold plcN; split; omega; split <;> omega
    generalize plcN z = n at hz hp3
    walk_at "go1"
    generalize ([D.str (Str.ofString "input"), D.str (Str.ofString "constant"), D.str (Str.ofString "opposite"), D.str (Str.ofString "plus"), D.str (Str.ofString "both"), D.str (Str.ofString "either"), D.str (Str.ofString "choose")] : List D) = kinds
    refine f_rng0 (n := n) (fun k τ N => ∃ (l : List Nat) (o : MO) (y y2 : Option D), Hs o ∧ l.length = k ∧ (∀ x ∈ l, x < ms.length) ∧ N = M.put s o ∧ τ = [some (.ref s), some (.ref a), some (.lst kinds), some (.str z), some (.tup (.str z :: l.map nD)), y, y2]) ⟨[], o, _, _, ho, rfl, (fun _ h => by cases h), rfl, rfl⟩ ?_ ?_
    · rintro k τ N hk ⟨l, o, y, y2, ho, hl1, hl2, rfl, rfl⟩
      have ha3 := ha2 o
      have hs2 : (M.put s o) s = some o := Mem.put_same
      walk_at "go1"
      rw [List.length_map]
      refine dr hs2 ho (by omega) fun d o ho hd => ?_
      rw [Mem.put_put]
      walk_at "go1"
      refine g_addT (by simp only [List.length_cons, List.length_map, List.length_nil]; omega) ?_
      walk_at "go1"
      refine ⟨_, Sub.refl _, trivial, l ++ [d], o, _, _, ho, by rw [List.length_append, hl1]; rfl, (fun x hx => ?_), rfl, by rw [List.map_append]; rfl⟩
      rcases List.mem_append.mp hx with hx | hx
      · exact hl2 x hx
      · rw [List.mem_singleton.mp hx]; omega
    · rintro τ N ⟨l, o, y, y2, ho, hl1, hl2, rfl, rfl⟩
      obtain ⟨k, hk1, hk2⟩ := hz l hl1 hl2
      rw [← hk1]
      walk_at "go1"
      exact r_same (q k o ho hk2)
/-! the cells that a law holds, one after the other -/
def Own (M N : Mem) (L : List (Addr × MO)) : Prop := Sub M N ∧ (∀ x ∈ L, M x.1 = none ∧ N x.1 = some x.2) ∧ (L.map Prod.fst).Nodup
section
variable {M N : Mem} {L : List (Addr × MO)} {p q : Addr} {o u : MO}
theorem Own.nil (M : Mem) : Own M M [] := ⟨Sub.refl _, (fun _ h => by cases h), List.nodup_nil⟩
theorem Own.at (h : Own M N L) (i : Nat) (e : L[i]? = some (p, o)) : N p = some o := (h.2.1 _ (List.mem_of_getElem? e)).2
theorem Own.ne (h : Own M N L) (i j : Nat) (e : L[i]? = some (p, o)) (e' : L[j]? = some (q, u)) (n : i ≠ j) : p ≠ q := by
  intro he
  subst he
  have hi : (L.map Prod.fst)[i]? = some p := by rw [List.getElem?_map, e]; rfl
  have hj : (L.map Prod.fst)[j]? = some p := by rw [List.getElem?_map, e']; rfl
  have hl := (List.getElem?_eq_some_iff.mp hi).1
  exact n ((List.getElem?_inj hl h.2.2).mp (hi.trans hj.symm))
theorem Own.set (h : Own M N L) (i : Nat) (e : L[i]? = some (p, o)) (u : MO) : Own M (N.put p u) (L.set i (p, u)) := by
  obtain ⟨h1, h2, h3⟩ := h
  have hi := (List.getElem?_eq_some_iff.mp e).1
  have hp := (h2 _ (List.mem_of_getElem? e)).1
  refine ⟨fun a v e => by rw [Mem.put_ne (Mem.ne_of e hp)]; exact h1 a v e, fun x hx => ?_, ?_⟩
  · rcases List.mem_iff_getElem?.mp hx with ⟨j, hj⟩
    rw [List.getElem?_set] at hj
    split at hj
    · rename_i hij
      subst hij
      have hj : some (p, u) = some x := by first | exact hj | (rw [if_pos hi] at hj; exact hj)
      cases hj
      exact ⟨hp, Mem.put_same⟩
    · rename_i hij
      have hm := h2 _ (List.mem_of_getElem? hj)
      have hne : x.1 ≠ p := Ne.symm (Own.ne ⟨h1, h2, h3⟩ i j e (show L[j]? = some (x.1, x.2) from hj) hij)
      exact ⟨hm.1, by rw [Mem.put_ne hne]; exact hm.2⟩
  · have : (L.set i (p, u)).map Prod.fst = L.map Prod.fst := by
      rw [List.map_set]
      have hg : (L.map Prod.fst)[i]? = some p := by rw [List.getElem?_map, e]; rfl
      refine List.ext_getElem? fun j => ?_
      rw [List.getElem?_set]
      split
      · rename_i hij
        subst hij
        rw [hg, if_pos (by rw [List.length_map]; exact hi)]
      · rfl
    rw [this]
    exact h3
theorem Own.non (h : Own M N L) (hp : N p = none) : M p = none := by
  cases e : M p with
  | none => rfl
  | some u => rw [h.1 p u e] at hp; cases hp
theorem Own.new (h : Own M N L) (hp : N p = none) (o : MO) : Own M (N.put p o) (L ++ [(p, o)]) := by
  have hm := h.non hp
  obtain ⟨h1, h2, h3⟩ := h
  refine ⟨fun a v e => by rw [Mem.put_ne (Mem.ne_of e hm)]; exact h1 a v e, fun x hx => ?_, ?_⟩
  · rcases List.mem_append.mp hx with hx | hx
    · exact ⟨(h2 x hx).1, by rw [Mem.put_ne (Mem.ne_of (h2 x hx).2 hp)]; exact (h2 x hx).2⟩
    · rw [List.mem_singleton.mp hx]; exact ⟨hm, Mem.put_same⟩
  · rw [List.map_append, List.nodup_append]
    refine ⟨h3, by simp, fun a ha b hb => ?_⟩
    simp only [List.map_cons, List.map_nil, List.mem_singleton] at hb
    subst hb
    rcases List.mem_map.mp ha with ⟨x, hx, rfl⟩
    exact Mem.ne_of (h2 x hx).2 hp
theorem Own.up {N' : Mem} (h : Own M N L) (s : Sub N N') : Own M N' L := ⟨h.1.trans s, fun x hx => ⟨(h.2.1 x hx).1, s _ _ (h.2.1 x hx).2⟩, h.2.2⟩
theorem Own.take (h : Own M N L) (n : Nat) : Own M N (L.take n) := ⟨h.1, fun x hx => h.2.1 x (List.mem_of_mem_take hx), by rw [List.map_take]; exact h.2.2.sublist (List.take_sublist _ _)⟩
theorem Own.drop (h : Own M N (L ++ [(p, o)])) : Own M (N.del p) L ∧ Sub (N.del p) N ∧ (N.del p) p = none ∧ N p = some o := by
  obtain ⟨h1, h2, h3⟩ := h
  have hp := h2 (p, o) (by simp)
  have hd : ∀ a, a ≠ p → (N.del p) a = N a := fun a ha => by unfold Mem.del; rw [if_neg ha]
  rw [List.map_append, List.nodup_append] at h3
  have hne : ∀ x ∈ L, x.1 ≠ p := fun x hx e => h3.2.2 x.1 (List.mem_map.mpr ⟨x, hx, rfl⟩) p (by simp) e
  refine ⟨⟨fun a u e => ?_, fun x hx => ⟨(h2 x (List.mem_append_left _ hx)).1, ?_⟩, h3.1⟩, Sub.del, by unfold Mem.del; rw [if_pos rfl], hp.2⟩
  · rw [hd a (Mem.ne_of e hp.1)]; exact h1 a u e
  · rw [hd _ (hne x hx)]; exact (h2 x (List.mem_append_left _ hx)).2
end
/-! the law's marks and circuits -/
def Wf (ms : List Mk) : Prop := ∀ j k, ms[j]? = some k → Nx (ms.take j) k
theorem Wf.nil : Wf [] := fun j k h => by simp at h
theorem Wf.snoc {ms : List Mk} {k : Mk} (h : Wf ms) (hk : Nx ms k) : Wf (ms ++ [k]) := by
  intro j x hx
  rcases Nat.lt_or_ge j ms.length with hj | hj
  · rw [List.getElem?_append_left hj] at hx
    rw [List.take_append_of_le_length (by omega)]
    exact h j x hx
  · have hj2 := (List.getElem?_eq_some_iff.mp hx).1
    rw [List.length_append, List.length_singleton] at hj2
    have : j = ms.length := by omega
    subst this
    rw [List.getElem?_append_right (Nat.le_refl _), Nat.sub_self] at hx
    cases hx
    rw [List.take_left']
    · exact hk
    · rfl
theorem Wf.at {ms : List Mk} (h : Wf ms) {j : Nat} {k : Mk} (hj : ms[j]? = some k) : Nx (ms.take j) k := h j k hj
theorem inN_take {ms : List Mk} {j : Nat} {k : Mk} (hj : ms[j]? = some k) (hk : k.isInp = true) : inN (ms.take j) < inN ms := by
  have e : ms = ms.take j ++ k :: ms.drop (j + 1) := by
    have h1 := (List.getElem?_eq_some_iff.mp hj)
    rw [← h1.2, List.getElem_cons_drop, List.take_append_drop]
  have : inN ms = inN (ms.take j) + (1 + inN (ms.drop (j + 1))) := by
    conv => lhs; rw [e]
    unfold inN
    rw [List.filter_append, List.length_append, List.filter_cons_of_pos hk, List.length_cons]
    omega
  omega
theorem Ci.new {C : Addr} {M : Mem} {p m a : Addr} {ms : List Mk} {o : MO} (h : Ci C M p m ms) (ha : M a = none) : Ci C (M.put a o) p m ms :=
  ⟨by rw [Mem.put_ne (Mem.ne_of h.1 ha)]; exact h.1, by rw [Mem.put_ne (Mem.ne_of h.2.1 ha)]; exact h.2.1, h.2.2⟩
theorem Ci.oth {C : Addr} {M : Mem} {p m a : Addr} {ms : List Mk} {o : MO} (h : Ci C M p m ms) (h1 : p ≠ a) (h2 : m ≠ a) : Ci C (M.put a o) p m ms :=
  ⟨by rw [Mem.put_ne h1]; exact h.1, by rw [Mem.put_ne h2]; exact h.2.1, h.2.2⟩
theorem Ci.ciM {C : Addr} {M : Mem} {p m : Addr} {ms ns : List Mk} (h : Ci C M p m ms) (hn : ns.length ≤ 100000) : Ci C (ciM C M p m ns) p m ns :=
  ⟨by unfold Lw.ciM; rw [Mem.put_ne h.ne]; exact Mem.put_same, Mem.put_same, hn⟩
theorem ciM_ciM {C : Addr} {M : Mem} {p m : Addr} {ms ns : List Mk} (h : p ≠ m) : ciM C (ciM C M p m ms) p m ns = ciM C M p m ns := by
  unfold ciM
  rw [Mem.put_comm (Ne.symm h), Mem.put_put, Mem.put_put]
theorem ciM_self {C : Addr} {M : Mem} {p m : Addr} {ms : List Mk} (h : Ci C M p m ms) : ciM C M p m ms = M := by
  unfold ciM
  rw [Mem.put_self h.1, Mem.put_self h.2.1]
theorem ciM_oth {C : Addr} {M : Mem} {p m a : Addr} {o : MO} {ms : List Mk} (h1 : a ≠ p) (h2 : a ≠ m) : ciM C (M.put a o) p m ms = (ciM C M p m ms).put a o := by
  unfold ciM
  rw [Mem.put_comm h1, Mem.put_comm h2]
theorem ciM_at {C : Addr} {M : Mem} {p m a : Addr} {ms : List Mk} (h1 : a ≠ p) (h2 : a ≠ m) : ciM C M p m ms a = M a := by
  unfold ciM
  rw [Mem.put_ne h2, Mem.put_ne h1]
theorem Wf.ok {ms : List Mk} (h : Wf ms) : MsOk (inN ms) ms := by
  intro j k hj
  obtain ⟨h1, h2, h3⟩ := h j k hj
  have hjl := (List.getElem?_eq_some_iff.mp hj).1
  rw [List.length_take, Nat.min_eq_left (by omega)] at h1
  cases k with
  | inp a => have := h2 a rfl; subst this; exact inN_take hj rfl
  | con b => exact h3 b rfl
  | opp a => exact h1 a (by simp [Mk.ws])
  | plu a b => exact ⟨h1 a (by simp [Mk.ws]), h1 b (by simp [Mk.ws])⟩
  | bth a b => exact ⟨h1 a (by simp [Mk.ws]), h1 b (by simp [Mk.ws])⟩
  | eit a b => exact ⟨h1 a (by simp [Mk.ws]), h1 b (by simp [Mk.ws])⟩
  | cho a b c => exact ⟨h1 a (by simp [Mk.ws]), h1 b (by simp [Mk.ws]), h1 c (by simp [Mk.ws])⟩
/-! parity of the binary digits -/
def par (n : Nat) : Nat := ones n % 2
theorem par_step (n : Nat) : par n = (par (n / 2) + n % 2) % 2 := by unfold par; rw [ones_step n]; omega
theorem par_lt (n : Nat) : par n < 2 := Nat.mod_lt _ (by decide)
theorem par_zero : par 0 = 0 := by unfold par; rw [ones_lt (by decide)]
theorem par_bit {x y : Nat} (hx : x < 2) (hy : y < 2) : x ^^^ y = (x + y) % 2 := by
  rcases (show x = 0 ∨ x = 1 by omega) with rfl | rfl <;> rcases (show y = 0 ∨ y = 1 by omega) with rfl | rfl <;> rfl
theorem xor_mod2 (a b : Nat) : (a ^^^ b) % 2 = (a % 2 + b % 2) % 2 := by
  have h := Nat.xor_mod_two_pow (a := a) (b := b) (n := 1)
  rw [Nat.pow_one] at h
  rw [h, par_bit (Nat.mod_lt _ (by decide)) (Nat.mod_lt _ (by decide))]
theorem xor_div2 (a b : Nat) : (a ^^^ b) / 2 = (a / 2) ^^^ (b / 2) := by
  have := Nat.shiftRight_xor_distrib (a := a) (b := b) (i := 1)
  simpa [Nat.shiftRight_eq_div_pow] using this
theorem par_xor : ∀ (a b : Nat), par (a ^^^ b) = (par a + par b) % 2 := by
  intro a
  induction a using Nat.strongRecOn with
  | _ a ih =>
    intro b
    rcases Nat.eq_zero_or_pos a with h | h
    · subst h; rw [Nat.zero_xor, par_zero]; have := par_lt b; omega
    · rw [par_step (a ^^^ b), xor_mod2, xor_div2, ih (a / 2) (by omega), par_step a, par_step b]
      omega
theorem and_xor_r (a b c : Nat) : (a ^^^ b) &&& c = (a &&& c) ^^^ (b &&& c) := Nat.and_xor_distrib_right
theorem par_half (k : Nat) : par (k / 2) ^^^ (k &&& 1) = par k := by
  rw [Nat.and_one_is_mod, par_bit (par_lt _) (by omega), par_step k]
def bitN (n j : Nat) : Nat := (n / 2 ^ j) &&& 1
theorem bitN_eq (n j : Nat) : bitN n j = if n.testBit j then 1 else 0 := by
  unfold bitN
  rw [Nat.and_one_is_mod, Nat.testBit_eq_decide_div_mod_eq]
  by_cases h : n / 2 ^ j % 2 = 1
  · simp [h]
  · simp [h]; omega
theorem or_top {f i b : Nat} (hf : f < 2 ^ i) (hb : b < 2) : (f ||| b * 2 ^ i) < 2 ^ (i + 1) ∧ ∀ j, j < i + 1 → (f ||| b * 2 ^ i).testBit j = if j = i then decide (b = 1) else f.testBit j := by
  refine ⟨Nat.or_lt_two_pow (Nat.lt_of_lt_of_le hf (Nat.pow_le_pow_right (by decide) (by omega))) ?_, fun j hj => ?_⟩
  · rcases (show b = 0 ∨ b = 1 by omega) with rfl | rfl
    · rw [Nat.zero_mul]; exact Nat.pow_pos (by decide)
    · rw [Nat.one_mul]; exact Nat.pow_lt_pow_right (by decide) (by omega)
  · rw [Nat.testBit_or]
    have h2 : (b * 2 ^ i).testBit j = (decide (j = i) && decide (b = 1)) := by
      rcases (show b = 0 ∨ b = 1 by omega) with rfl | rfl
      · rw [Nat.zero_mul, Nat.zero_testBit]; simp
      · rw [Nat.one_mul, Nat.testBit_two_pow]
        by_cases e : i = j
        · subst e; simp
        · have e' : ¬ j = i := fun z => e z.symm
          simp [e, e']
    rw [h2]
    by_cases e : j = i
    · subst e
      rw [Nat.testBit_lt_two_pow hf]; simp
    · simp [e]
theorem nz_bit {x i : Nat} : 0 < (x / 2 ^ i) &&& 1 ↔ x.testBit i = true := by
  have := bitN_eq x i
  unfold bitN at this
  rw [this]
  split <;> simp_all
/-! the program's bits -/
def sp_ones : DSp := fun ds M Q => ∃ n : Nat, ds = [nD n] ∧ n < 2 ^ 1000000 ∧ Q (nD (ones n)) M
theorem ok_ones_in (T : Top K mg) : Fn P w K mg base "ones_in" ["number"] 1 sp_ones := by
  refine okF T.d_ones_in sc_ones_in (fun _ _ _ _ _ _ us hl => match us, hl with | [_], _ => rfl) ?len (fun f cdv A outer s H E hr =>
    (dss_one (ds_ret (de_bm PySem.F.plainAttrs_str PySem.F.slot_str_count PySem.F.type_str_count ckS_ok md_count (de_fmtb (dv 0)) (da_cons de_str da_nil))))) ?body
  · rintro ds M Q ⟨n, rfl, _⟩; rfl
  · rintro ds M Q ⟨n, rfl, hn, q⟩
    refine g_st (τ' := [some _]) rfl ?_
    walk_at "go"
    refine g_fmtb hn ?_
    walk_at "go"
    exact r_same q
def sp_par : DSp := fun ds M Q => ∃ n : Nat, ds = [nD n] ∧ n < 2 ^ 1000000 ∧ Q (nD (par n)) M
theorem ok_parity_of (T : Top K mg) : Fn P w K mg base "parity_of" ["number"] 2 sp_par := by
  refine okF T.d_parity_of sc_parity_of (fun _ _ _ _ _ _ us hl => match us, hl with | [_], _ => rfl) ?len (fun f cdv A outer s H E hr =>
    (dss_one (ds_ret (de_op or_and (de_fn (ok_ones_in T) (hr.mono (by first | decide | omega)) (by rfl) (da_cons (dv 0) da_nil)) de_int)))) ?body
  · rintro ds M Q ⟨n, rfl, _⟩; rfl
  · rintro ds M Q ⟨n, rfl, hn, q⟩
    refine g_st (τ' := [some _]) rfl ?_
    walk_at "go"
    refine ⟨n, rfl, hn, ?_⟩
    walk_at "go"
    rw [Nat.and_one_is_mod]
    exact r_same q
/-- the places of the digits 1 -/
def plc (n : Nat) : List Nat := (List.range (digR n).length).filter fun i => n.testBit i
def sp_places : DSp := fun ds M Q => ∃ n : Nat, ds = [nD n] ∧ n < 2 ^ 100000 ∧ Q (.lst ((plc n).map nD)) M
theorem ok_places_of (T : Top K mg) : Fn P w K mg base "places_of" ["number"] 1 sp_places := by
  refine okF T.d_places_of sc_places_of (fun _ _ _ _ _ _ us hl => match us, hl with | [_], _ => rfl) ?len (fun f cdv A outer s H E hr =>
    (dss_cons (ds_set (i := 1) sc_places_of.nd rfl (by first | exact Or.inl rfl | exact Or.inr rfl) (de_revS (de_fmtb (dv 0))))
      (dss_one (ds_ret (de_lc (own := [("place", 2)]) (p := .nm 2) rfl sc_places_of.nd (di_range1 (by rfl) T.b_range (da_cons (de_callB cd_len (by rfl) T.b_len (by decide +kernel) (da_cons (dv 1) da_nil)) da_nil)) (blkOk_by (own := [("place", 2)]) (N := ["number", "text", "place"]) (sc := defScope s_places_of) (by decide +kernel)) (fun _ _ _ _ _ => (pg_name (i := 2) sc_places_of.nd rfl (by first | exact Or.inl rfl | exact Or.inr rfl))) (fun _ _ _ _ _ => (dts_one (dt_cmp (or_eq hr.units) (de_ix (dv 1) (dv 2)) de_str (nomark _)))) (fun _ _ _ _ _ => (dv 2))))))) ?body
  · rintro ds M Q ⟨n, rfl, _⟩; rfl
  · rintro ds M Q ⟨n, rfl, hn, q⟩
    refine g_st (τ' := [some _, none, none]) rfl ?_
    have hl : (digR n).length ≤ 100000 := digR_len 100000 n hn (by decide)
    walk_at "go"
    refine g_fmtb (Nat.lt_of_lt_of_le hn (Nat.pow_le_pow_right (by decide) (by decide))) ?_
    walk_at "go"
    refine g_revB (Nat.lt_of_lt_of_le hn (Nat.pow_le_pow_right (by decide) (by decide))) ?_
    walk_at "go"
    have hz : (⟨(digR n).toArray⟩ : Str).length ≤ sizeLine := Nat.le_trans (show (digR n).toArray.size ≤ 100000 by rw [List.size_toArray]; exact hl) (by decide)
    have hsz : (⟨(digR n).toArray⟩ : Str).length = (digR n).length := List.size_toArray
    refine ⟨_, rfl, hz, ?_⟩
    rw [hsz]
    walk_at "go"
    rw [Int.toNat_natCast]
    refine ⟨List.mem_cons_self, lc_rngF (fun i => n.testBit i) nD (by omega) trivial (fun i hi A B h1 h2 => ?_) (.inl (r_same q))⟩
    rw [Int.zero_add]
    walk_at "lc"
    walk_at "go"
    obtain ⟨c, hc⟩ : ∃ c, (digR n)[i]? = some c := ⟨(digR n)[i], by simp [hi]⟩
    refine ⟨c, hz, atI_nat hc, ?_⟩
    walk_at "go1"
    have hcv := digR_get i n c hc
    have hb : n.testBit i = decide (c = 49) := by
      rw [Nat.testBit_eq_decide_div_mod_eq, hcv]
      congr 1
      exact propext ⟨fun h => by omega, fun h => by omega⟩
    have hs : ((⟨#[c]⟩ : Str) = Str.ofString "1") ↔ c = 49 := by
      have e1 : Str.ofString "1" = ⟨#[49]⟩ := rfl
      rw [e1]
      constructor
      · intro h
        have := congrArg (fun z : Str => z.cps.toList) h
        simpa using this
      · intro h; rw [h]
    refine g_d (fun h => ?_) (fun h => ?_)
    · walk_at "go"
      exact h1 (by rw [hb]; exact decide_eq_true (hs.mp h))
    · exact h2 (by rw [hb]; exact decide_eq_false fun e => h (hs.mpr e))
theorem mem_plc {n i : Nat} : i ∈ plc n ↔ n.testBit i = true := by
  unfold plc
  rw [List.mem_filter, List.mem_range]
  constructor
  · exact fun h => h.2
  · intro h
    refine ⟨?_, h⟩
    rcases Nat.lt_or_ge i (digR n).length with h1 | h1
    · exact h1
    · rw [Nat.testBit_lt_two_pow (Nat.lt_of_lt_of_le (digR_big n) (Nat.pow_le_pow_right (by decide) h1))] at h
      exact absurd h (by decide)
theorem plc_len {n k : Nat} (h : n < 2 ^ k) (hk : 0 < k) : (plc n).length ≤ k := by
  unfold plc
  exact Nat.le_trans (List.length_filter_le _ _) (by rw [List.length_range]; exact digR_len k n h hk)
theorem plc_nodup (n : Nat) : (plc n).Nodup := List.Nodup.sublist List.filter_sublist List.nodup_range
def Nof (n : Nat) : Nat := n * (n + 1) / 2
theorem Nof_le {n m : Nat} (h : n ≤ m) : Nof n ≤ Nof m := Nat.div_le_div_right (Nat.mul_le_mul h (by omega))
/-! class Forms: numbers of monomials -/
def rs (n i : Nat) : Nat := n + i * (2 * n - i - 1) / 2
def pos2 (n i j : Nat) : Nat := rs n i + (j - i - 1)
theorem rs_step {n i : Nat} (h : i < n) : rs n (i + 1) = rs n i + (n - 1 - i) := by
  unfold rs
  obtain ⟨k, rfl⟩ : ∃ k, n = i + 1 + k := ⟨n - i - 1, by omega⟩
  have e1 : 2 * (i + 1 + k) - (i + 1) - 1 = i + 2 * k := by omega
  have e2 : 2 * (i + 1 + k) - i - 1 = i + 1 + 2 * k := by omega
  have e3 : i + 1 + k - 1 - i = k := by omega
  rw [e1, e2, e3]
  have e4 : (i + 1) * (i + 2 * k) = i * (i + 1 + 2 * k) + 2 * k := by
    have a1 : (i + 1) * (i + 2 * k) = i * i + i * (2 * k) + (i + 2 * k) := by rw [Nat.add_mul, Nat.one_mul, Nat.mul_add]
    have a2 : i * (i + 1 + 2 * k) = i * i + i + i * (2 * k) := by rw [Nat.mul_add, Nat.mul_add, Nat.mul_one]
    omega
  rw [e4]; omega
theorem rs_zero (n : Nat) : rs n 0 = n := by unfold rs; simp
theorem rs_mono {n : Nat} : ∀ {i j : Nat}, i ≤ j → j ≤ n → rs n i ≤ rs n j := by
  intro i j h
  induction j with
  | zero => intro _; have : i = 0 := by omega
            subst this; exact Nat.le_refl _
  | succ j ih =>
    intro hj
    rcases Nat.lt_or_ge i (j + 1) with h1 | h1
    · have := ih (by omega) (by omega)
      rw [rs_step (by omega)]; omega
    · have : i = j + 1 := by omega
      subst this; exact Nat.le_refl _
theorem rs_top (n : Nat) : rs n n = Nof n := by
  have h : ∀ i, i ≤ n → rs n i + (n - i) * (n - i - 1) / 2 = rs n 0 + n * (n - 1) / 2 := by
    intro i
    induction i with
    | zero => intro _; rfl
    | succ i ih =>
      intro hi
      rw [← ih (by omega), rs_step (by omega)]
      obtain ⟨k, hk⟩ : ∃ k, n = i + 1 + k := ⟨n - i - 1, by omega⟩
      have e1 : n - (i + 1) = k := by omega
      have e2 : n - i = k + 1 := by omega
      rw [e1, e2, show k + 1 - 1 = k by omega, show n - 1 - i = k by omega]
      rcases k with _ | k
      · rfl
      · have : (k + 1 + 1) * (k + 1) = (k + 1) * (k + 1 - 1) + 2 * (k + 1) := by
          rw [show k + 1 - 1 = k by omega, Nat.add_mul (k + 1) 1, Nat.one_mul, Nat.mul_add (k + 1) k 1, Nat.mul_one]; omega
        rw [this]; omega
  have h1 := h n (Nat.le_refl n)
  rw [Nat.sub_self, Nat.zero_mul, Nat.zero_div, Nat.add_zero, rs_zero] at h1
  rw [h1]
  unfold Nof
  rcases n with _ | n
  · rfl
  · have : (n + 1) * (n + 1 + 1) = (n + 1) * (n + 1 - 1) + 2 * (n + 1) := by
      rw [show n + 1 - 1 = n by omega, Nat.mul_add (n + 1) (n + 1) 1, Nat.mul_add (n + 1) n 1, Nat.mul_one]; omega
    rw [this]; omega
theorem pos2_lt {n i j : Nat} (h : i < j) (hj : j < n) : rs n i ≤ pos2 n i j ∧ pos2 n i j < rs n (i + 1) := by
  unfold pos2
  rw [rs_step (by omega)]
  omega
theorem pos2_ge {n i j : Nat} (h : i < j) (hj : j < n) : n ≤ pos2 n i j ∧ pos2 n i j < Nof n := by
  have h1 := pos2_lt h hj
  have h2 := rs_mono (n := n) (show 0 ≤ i by omega) (by omega)
  have h3 := rs_mono (n := n) (show i + 1 ≤ n by omega) (Nat.le_refl n)
  rw [rs_zero] at h2
  rw [rs_top] at h3
  omega
theorem pos2_inj {n i j a b : Nat} (h : i < j) (hj : j < n) (h' : a < b) (hb : b < n) (e : pos2 n i j = pos2 n a b) : i = a ∧ j = b := by
  have h1 := pos2_lt h hj
  have h2 := pos2_lt h' hb
  have hi : i = a := by
    rcases Nat.lt_trichotomy i a with h3 | h3 | h3
    · have := rs_mono (n := n) (show i + 1 ≤ a by omega) (by omega); omega
    · exact h3
    · have := rs_mono (n := n) (show a + 1 ≤ i by omega) (by omega); omega
  subst hi
  unfold pos2 at e
  omega
/-- an object of the class -/
abbrev fo (C : Addr) (n : Nat) : D := .obj C [("_unknowns", nD n)]
def sp_check : DSp := fun ds M Q => ∃ n m : Nat, ds = [nD n, nD m] ∧ 1 ≤ n ∧ n ≤ m ∧ Q .non M
theorem ok_check_unknowns (T : Top K mg) : Fn P w K mg base "check_unknowns" ["unknowns", "most"] 1 sp_check := by
  refine okF T.d_check_unknowns sc_check_unknowns (fun _ _ _ _ _ _ us hl => match us, hl with | [_, _], _ => rfl) ?len (fun f cdv A outer s H E hr =>
    (dss_one (ds_if (dt_w (dw_or (dt_cmp or_lt (dv 0) de_int (nomark _)) (dw_or1 (dt_cmp or_gt (dv 0) (dv 1) (nomark _)))))
        (dss_one ds_never)
        dss_nil))) ?body
  · rintro ds M Q ⟨n, m, rfl, _⟩; rfl
  · rintro ds M Q ⟨n, m, rfl, h1, h2, q⟩
    refine g_st (τ' := [some _, some _]) rfl ?_
    walk_at "go"
    exact q
def sp_init (C : Addr) : DSp := fun ds M Q => ∃ (p : Addr) (n : Nat), ds = [.ref p, nD n] ∧ M p = some (.ins C []) ∧ 1 ≤ n ∧ n ≤ 200 ∧ Q .non (M.put p (.ins C [("_unknowns", nD n)]))
theorem ok_Forms_init (T : Top K mg) : Mt P w K mg base (clsA mg "Forms") "__init__" ["self", "unknowns"] 2 (sp_init (clsA mg "Forms")) := by
  refine okM T.m_Forms___init__ sc_Forms_init (fun _ _ _ _ _ _ us hl => match us, hl with | [_, _], _ => rfl) ?len (fun f cdv A outer s H E hr =>
    (dss_cons (ds_expr (de_fn (ok_check_unknowns T) (hr.mono (by first | decide | omega)) (by rfl) (da_cons (dv 1) (da_cons (de_glob T.g_MOST_UNKNOWNS (by rfl) (fun _ => .int _)) da_nil))))
      (dss_one (ds_fld T.k_Forms.cls T.n_Forms___unknowns (dv 0) (dv 1) rfl)))) ?body
  · rintro ds M Q ⟨p, n, rfl, _⟩; rfl
  · rintro ds M Q ⟨p, n, rfl, hp, h1, h2, q⟩
    refine g_st (τ' := [some _, some _]) rfl ?_
    walk_at "go"
    refine ⟨n, 200, rfl, h1, h2, ?_⟩
    walk_at "go"
    exact q
theorem mk_Forms (T : Top K mg) : Mkr P w K mg base "Forms" ["self", "unknowns"] 2 (sp_init (clsA mg "Forms")) := Mkr.of T.k_Forms T.i_Forms (ok_Forms_init T)
def sp_row (C : Addr) : DSp := fun ds M Q => ∃ n i : Nat, ds = [fo C n, nD i] ∧ n ≤ 1000 ∧ i < n ∧ Q (nD (rs n i)) M
theorem ok_Forms_row_start (T : Top K mg) : Mt P w K mg base (clsA mg "Forms") "row_start" ["self", "i"] 1 (sp_row (clsA mg "Forms")) := by
  refine okM T.m_Forms_row_start sc_Forms_row_start (fun _ _ _ _ _ _ us hl => match us, hl with | [_, _], _ => rfl) ?len (fun f cdv A outer s H E hr =>
    (dss_one (ds_ret (de_op or_add (de_fld T.k_Forms.cls T.n_Forms___unknowns (dv 0)) (de_op or_div (de_op or_mul (dv 1) (de_op or_sub (de_op or_sub (de_op or_mul de_int (de_fld T.k_Forms.cls T.n_Forms___unknowns (dv 0))) (dv 1)) de_int)) de_int))))) ?body
  · rintro ds M Q ⟨n, i, rfl, _⟩; rfl
  · rintro ds M Q ⟨n, i, rfl, hn, hi, q⟩
    refine g_st (τ' := [some _, some _]) rfl ?_
    walk_at "go"
    have e1 : 2 * (n : Int) - (i : Int) - 1 = ((2 * n - i - 1 : Nat) : Int) := by omega
    rw [e1]
    exact r_same q
theorem rs_le {n i : Nat} (h : i ≤ n) (hn : n ≤ 200) : rs n i ≤ 20100 := Nat.le_trans (rs_mono h (Nat.le_refl n)) (by rw [rs_top]; exact Nat.le_trans (Nof_le hn) (by decide))
/-! xor sums -/
def bx (l : List Nat) (f : Nat → Bool) : Bool := l.foldr (fun x a => f x ^^ a) false
theorem bx_nil (f : Nat → Bool) : bx [] f = false := rfl
theorem bx_cons (a : Nat) (l : List Nat) (f : Nat → Bool) : bx (a :: l) f = (f a ^^ bx l f) := rfl
theorem bx_congr {l : List Nat} {f g : Nat → Bool} (h : ∀ x ∈ l, f x = g x) : bx l f = bx l g := by
  induction l with
  | nil => rfl
  | cons a l ih => rw [bx_cons, bx_cons, h a List.mem_cons_self, ih fun x hx => h x (List.mem_cons_of_mem _ hx)]
theorem bx_false (l : List Nat) : bx l (fun _ => false) = false := by
  induction l with
  | nil => rfl
  | cons a l ih => rw [bx_cons, ih]; rfl
theorem bx_and (c : Bool) (l : List Nat) (f : Nat → Bool) : bx l (fun x => c && f x) = (c && bx l f) := by
  cases c
  · simp only [Bool.false_and]; exact bx_false l
  · simp only [Bool.true_and]
theorem bx_xor (l : List Nat) (f g : Nat → Bool) : bx l (fun x => f x ^^ g x) = (bx l f ^^ bx l g) := by
  induction l with
  | nil => rfl
  | cons a l ih => rw [bx_cons, bx_cons, bx_cons, ih]; cases f a <;> cases g a <;> cases bx l f <;> cases bx l g <;> rfl
theorem bx_one {l : List Nat} (hn : l.Nodup) {a : Nat} (ha : a ∈ l) {f : Nat → Bool} (h : ∀ x ∈ l, x ≠ a → f x = false) : bx l f = f a := by
  induction l with
  | nil => simp at ha
  | cons b l ih =>
    have hb := List.nodup_cons.mp hn
    rw [bx_cons]
    by_cases e : b = a
    · subst e
      have : bx l f = bx l (fun _ => false) := bx_congr fun x hx => h x (List.mem_cons_of_mem _ hx) fun (e : x = b) => hb.1 (e ▸ hx)
      rw [this, bx_false]; simp
    · rw [h b List.mem_cons_self e, ih hb.2 (by rcases List.mem_cons.mp ha with h | h; exact absurd h.symm e; exact h) fun x hx => h x (List.mem_cons_of_mem _ hx)]; simp
theorem bx_two {l : List Nat} (hn : l.Nodup) {a b : Nat} (ha : a ∈ l) (hb : b ∈ l) (hab : a ≠ b) {f : Nat → Bool} (h : ∀ x ∈ l, x ≠ a → x ≠ b → f x = false) : bx l f = (f a ^^ f b) := by
  have e : bx l f = bx l (fun x => (decide (x = a) && f x) ^^ (!decide (x = a) && f x)) := bx_congr fun x _ => by cases decide (x = a) <;> simp
  rw [e, bx_xor, bx_one hn ha (f := fun x => decide (x = a) && f x) fun x _ hx => by simp [hx], bx_one hn hb (f := fun x => !decide (x = a) && f x) fun x hx' hx => by
    by_cases e : x = a
    · simp [e]
    · simp [h x hx' e hx]]
  have hba : b ≠ a := fun e => hab e.symm
  simp [hba]
/-- a xor sum of numbers -/
def xs (l : List Nat) (f : Nat → Nat) : Nat := l.foldr (fun x a => f x ^^^ a) 0
theorem xs_cons (a : Nat) (l : List Nat) (f : Nat → Nat) : xs (a :: l) f = f a ^^^ xs l f := rfl
theorem xs_bit (l : List Nat) (f : Nat → Nat) (p : Nat) : (xs l f).testBit p = bx l fun x => (f x).testBit p := by
  induction l with
  | nil => exact Nat.zero_testBit p
  | cons a l ih => rw [xs_cons, bx_cons, Nat.testBit_xor, ih]
/-- odd or not -/
def pb (n : Nat) : Bool := decide (par n = 1)
theorem pb_xor (a b : Nat) : pb (a ^^^ b) = (pb a ^^ pb b) := by
  unfold pb
  rw [par_xor]
  have h1 := par_lt a
  have h2 := par_lt b
  generalize par a = x at h1 ⊢
  generalize par b = y at h2 ⊢
  rcases (show x = 0 ∨ x = 1 by omega) with rfl | rfl <;> rcases (show y = 0 ∨ y = 1 by omega) with rfl | rfl <;> rfl
theorem pb_zero : pb 0 = false := by unfold pb; rw [par_zero]; rfl
theorem pb_xs (l : List Nat) (f : Nat → Nat) (S : Nat) : pb (xs l f &&& S) = bx l fun x => pb (f x &&& S) := by
  induction l with
  | nil => show pb (0 &&& S) = false; rw [Nat.zero_and, pb_zero]
  | cons a l ih => rw [xs_cons, bx_cons, and_xor_r, pb_xor, ih]
theorem par_two_pow : ∀ k : Nat, par (2 ^ k) = 1
  | 0 => by unfold par; rw [Nat.pow_zero, ones_lt (by decide)]
  | k + 1 => by rw [par_step, Nat.pow_succ, Nat.mul_div_cancel _ (by decide), par_two_pow k, Nat.mul_mod_left]
theorem two_pow_and (k S : Nat) : 2 ^ k &&& S = if S.testBit k then 2 ^ k else 0 := by
  refine Nat.eq_of_testBit_eq fun p => ?_
  rw [Nat.testBit_and, Nat.testBit_two_pow]
  by_cases h : k = p
  · subst h
    cases e : S.testBit k <;> simp [Nat.testBit_two_pow]
  · cases e : S.testBit k <;> simp [h, Nat.testBit_two_pow]
theorem pb_pow (k S : Nat) : pb (2 ^ k &&& S) = S.testBit k := by
  rw [two_pow_and]
  cases h : S.testBit k
  · simp [pb_zero]
  · simp [pb, par_two_pow]
theorem xs_self {n a : Nat} (h : a < 2 ^ n) : xs (List.range n) (fun i => if a.testBit i then 2 ^ i else 0) = a := by
  refine Nat.eq_of_testBit_eq fun p => ?_
  rw [xs_bit]
  rcases Nat.lt_or_ge p n with hp | hp
  · rw [bx_one List.nodup_range (List.mem_range.mpr hp) fun x _ hx => by split <;> simp [Nat.testBit_two_pow, hx]]
    cases e : a.testBit p <;> simp [Nat.testBit_two_pow]
  · rw [Nat.testBit_lt_two_pow (Nat.lt_of_lt_of_le h (Nat.pow_le_pow_right (by decide) hp))]
    have : bx (List.range n) (fun x => (if a.testBit x then 2 ^ x else 0).testBit p) = bx (List.range n) (fun _ => false) := bx_congr fun x hx => by
      have := List.mem_range.mp hx
      have hxp : ¬ x = p := by omega
      split <;> simp [Nat.testBit_two_pow, hxp]
    rw [this, bx_false]
theorem pb_and {n a : Nat} (h : a < 2 ^ n) (p : Nat) : pb (a &&& p) = bx (List.range n) fun i => a.testBit i && p.testBit i := by
  conv => lhs; rw [← xs_self h]
  rw [pb_xs]
  refine bx_congr fun i _ => ?_
  cases e : a.testBit i
  · simp [pb_zero]
  · simp [pb_pow]
def prow (one other i : Nat) : Nat := (if one.testBit i then other / 2 ^ (i + 1) else 0) ^^^ (if other.testBit i then one / 2 ^ (i + 1) else 0)
def prodF (n one other : Nat) : Nat := (List.range n).foldl (fun r i => r ||| prow one other i * 2 ^ rs n i) (one &&& other)
def sp_product (C : Addr) : DSp := fun ds M Q => ∃ n a b : Nat, ds = [fo C n, nD a, nD b] ∧ 1 ≤ n ∧ n ≤ 200 ∧ a < 2 ^ n ∧ b < 2 ^ n ∧ Q (nD (prodF n a b)) M
theorem ok_Forms_product (T : Top K mg) : Mt P w K mg base (clsA mg "Forms") "product" ["self", "one", "other"] 2 (sp_product (clsA mg "Forms")) := by
  refine okM T.m_Forms_product sc_Forms_product (fun _ _ _ _ _ _ us hl => match us, hl with | [_, _, _], _ => rfl) ?len (fun f cdv A outer s H E hr =>
    (dss_cons (ds_set (i := 3) sc_Forms_product.nd rfl (by first | exact Or.inl rfl | exact Or.inr rfl) (de_op or_and (dv 1) (dv 2)))
      (dss_cons (ds_for PassesOwn.never rfl (di_range1 (by rfl) T.b_range (da_cons (de_fld T.k_Forms.cls T.n_Forms___unknowns (dv 0)) da_nil)) (dg_name (i := 4) sc_Forms_product.nd rfl (by first | exact Or.inl rfl | exact Or.inr rfl))
        (dss_cons (ds_set (i := 5) sc_Forms_product.nd rfl (by first | exact Or.inl rfl | exact Or.inr rfl) de_int)
        (dss_cons (ds_cut (ds_if (dt_tru (de_op or_and (de_op or_shr (dv 1) (dv 4)) de_int))
          (dss_one (ds_set (i := 5) sc_Forms_product.nd rfl (by first | exact Or.inl rfl | exact Or.inr rfl) (de_op or_xor (dv 5) (de_op or_shr (dv 2) (de_op or_add (dv 4) de_int)))))
          dss_nil))
        (dss_cons (ds_cut (ds_if (dt_tru (de_op or_and (de_op or_shr (dv 2) (dv 4)) de_int))
          (dss_one (ds_set (i := 5) sc_Forms_product.nd rfl (by first | exact Or.inl rfl | exact Or.inr rfl) (de_op or_xor (dv 5) (de_op or_shr (dv 1) (de_op or_add (dv 4) de_int)))))
          dss_nil))
        (dss_one (ds_set (i := 3) sc_Forms_product.nd rfl (by first | exact Or.inl rfl | exact Or.inr rfl) (de_op or_or (dv 3) (de_op or_shl (dv 5) (de_meth T.k_Forms.cls (ok_Forms_row_start T) (hr.mono (by first | decide | omega)) (dv 0) (da_cons (dv 4) da_nil))))))))))
      (dss_one (ds_ret (dv 3)))))) ?body
  · rintro ds M Q ⟨n, p, _, rfl, _⟩; rfl
  · rintro ds M Q ⟨n, a, b, rfl, h1, h2, ha, hb, q⟩
    refine g_st (τ' := [some _, some _, some _, none, none, none]) rfl ?_
    walk_at "go"
    rw [Int.toNat_natCast]
    refine f_rng0 (fun i τ N => N = M ∧ ∃ o o2, τ = [some (fo (clsA mg "Forms") n), some (nD a), some (nD b), some (nD ((List.range i).foldl (fun r i => r ||| prow a b i * 2 ^ rs n i) (a &&& b))), o, o2]) ⟨rfl, _, _, rfl⟩ ?_ ?_
    · rintro i τ N hi ⟨rfl, o, o2, rfl⟩
      have le2 : ∀ x : Nat, x < 2 ^ n → x / 2 ^ (i + 1) < 2 ^ 200 := fun x hx => Nat.lt_of_le_of_lt (Nat.div_le_self _ _) (Nat.lt_of_lt_of_le hx (Nat.pow_le_pow_right (by decide) h2))
      walk_at "go1"
      generalize hr : (List.range i).foldl (fun r i => r ||| prow a b i * 2 ^ rs n i) (a &&& b) = r
      refine g_cut (fun τ M => M = N ∧ τ = [some (fo (clsA mg "Forms") n), some (nD a), some (nD b), some (nD r), some (nD i), some (nD (if a.testBit i then b / 2 ^ (i + 1) else 0))]) ?_ ?_
      · walk_at "go1"
        refine g_nzN (fun h => ?_) (fun h => ?_)
        · have h := nz_bit.mp h
          walk_at "go"
          refine ⟨_, Sub.refl _, rfl, ?_⟩
          rw [if_pos h, Nat.zero_xor]
        · have h : ¬ a.testBit i = true := fun e => by have := nz_bit.mpr e; omega
          walk_at "go"
          refine ⟨_, Sub.refl _, rfl, ?_⟩
          rw [if_neg h]; rfl
      rintro τ M1 ⟨rfl, rfl⟩
      walk_at "go1"
      refine g_cut (fun τ M => M = M1 ∧ τ = [some (fo (clsA mg "Forms") n), some (nD a), some (nD b), some (nD r), some (nD i), some (nD (prow a b i))]) ?_ ?_
      · walk_at "go1"
        refine g_nzN (fun h => ?_) (fun h => ?_)
        · have h := nz_bit.mp h
          walk_at "go"
          refine ⟨_, Sub.refl _, rfl, ?_⟩
          unfold prow
          rw [if_pos h]
        · have h : ¬ b.testBit i = true := fun e => by have := nz_bit.mpr e; omega
          walk_at "go"
          refine ⟨_, Sub.refl _, rfl, ?_⟩
          unfold prow
          rw [if_neg h, Nat.xor_zero]
      rintro τ M2 ⟨rfl, rfl⟩
      walk_at "go1"
      refine ⟨n, i, rfl, by omega, hi, ?_⟩
      have hp : prow a b i < 2 ^ 200 := by
        unfold prow
        refine Nat.xor_lt_two_pow ?_ ?_
        · split
          · exact le2 b hb
          · exact Nat.pow_pos (by decide)
        · split
          · exact le2 a ha
          · exact Nat.pow_pos (by decide)
      have hs : CShl ((prow a b i : Nat) : Int) ((rs n i : Nat) : Int) := Lim.shl (b := 200) hp (by have := rs_le (Nat.le_of_lt hi) h2; omega)
      walk_at "go"
      refine ⟨_, Sub.refl _, trivial, rfl, some (nD i), some (nD (prow a b i)), ?_⟩
      rw [List.range_succ, List.foldl_append, ← hr]; rfl
    · rintro τ N ⟨rfl, o, o2, rfl⟩
      walk_at "go"
      exact r_same q
/-! products of linear forms, by pairs of unknowns -/
def plcc (n i j : Nat) : Nat := if i = j then i else pos2 n (min i j) (max i j)
def prodX (n a b : Nat) : Nat := xs (List.range n) fun i => if a.testBit i then xs (List.range n) (fun j => if b.testBit j then 2 ^ plcc n i j else 0) else 0
theorem plcc_lt {n i j : Nat} (hi : i < n) (hj : j < n) : plcc n i j < Nof n := by
  unfold plcc
  split
  · have := rs_mono (n := n) (Nat.zero_le n) (Nat.le_refl n); rw [rs_zero, rs_top] at this; omega
  · rename_i h
    exact (pos2_ge (by omega) (by omega)).2
theorem prodX_bit (n a b p : Nat) : (prodX n a b).testBit p = bx (List.range n) fun i => bx (List.range n) fun j => (a.testBit i && b.testBit j) && decide (plcc n i j = p) := by
  unfold prodX
  rw [xs_bit]
  refine bx_congr fun i _ => ?_
  cases a.testBit i
  · simp [bx_false]
  · simp only [if_true, Bool.true_and]
    rw [xs_bit]
    refine bx_congr fun j _ => ?_
    cases b.testBit j <;> simp [Nat.testBit_two_pow]
theorem prow_bit (a b i t : Nat) : (prow a b i).testBit t = ((a.testBit i && b.testBit (t + (i + 1))) ^^ (b.testBit i && a.testBit (t + (i + 1)))) := by
  unfold prow
  rw [Nat.testBit_xor]
  cases a.testBit i <;> cases b.testBit i <;> simp [Nat.testBit_div_two_pow]
theorem prodF_bit {n a b : Nat} (ha : a < 2 ^ n) (hb : b < 2 ^ n) (p : Nat) : (prodF n a b).testBit p = true ↔ (a.testBit p && b.testBit p) = true ∨ ∃ i j, i < j ∧ j < n ∧ p = pos2 n i j ∧ ((a.testBit i && b.testBit j) ^^ (b.testBit i && a.testBit j)) = true := by
  have go : ∀ (l : List Nat) (r : Nat), (∀ i ∈ l, i < n) → ((l.foldl (fun r i => r ||| prow a b i * 2 ^ rs n i) r).testBit p = true ↔ r.testBit p = true ∨ ∃ i ∈ l, ∃ j, i < j ∧ j < n ∧ p = pos2 n i j ∧ ((a.testBit i && b.testBit j) ^^ (b.testBit i && a.testBit j)) = true) := by
    intro l
    induction l with
    | nil => intro r _; simp
    | cons c l ih =>
      intro r hl
      rw [List.foldl_cons, ih _ fun i hi => hl i (List.mem_cons_of_mem _ hi), Nat.testBit_or, Nat.testBit_mul_two_pow, prow_bit]
      have big : ∀ x : Nat, x < 2 ^ n → ∀ k, n ≤ k → x.testBit k = false := fun x hx k hk => Nat.testBit_lt_two_pow (Nat.lt_of_lt_of_le hx (Nat.pow_le_pow_right (by decide) hk))
      have e : (decide (rs n c ≤ p) && ((a.testBit c && b.testBit (p - rs n c + (c + 1))) ^^ (b.testBit c && a.testBit (p - rs n c + (c + 1))))) = true ↔ ∃ j, c < j ∧ j < n ∧ p = pos2 n c j ∧ ((a.testBit c && b.testBit j) ^^ (b.testBit c && a.testBit j)) = true := by
        rw [Bool.and_eq_true, decide_eq_true_eq]
        constructor
        · rintro ⟨h1, h2⟩
          refine ⟨p - rs n c + (c + 1), by omega, ?_, by unfold pos2; omega, h2⟩
          rcases Nat.lt_or_ge (p - rs n c + (c + 1)) n with h3 | h3
          · exact h3
          · rw [big a ha _ h3, big b hb _ h3] at h2
            simp at h2
        · rintro ⟨j, h1, h2, h3, h4⟩
          unfold pos2 at h3
          exact ⟨by omega, by rw [show p - rs n c + (c + 1) = j by omega]; exact h4⟩
      rw [Bool.or_eq_true, e]
      constructor
      · rintro ((h | ⟨j, h⟩) | ⟨i, hi, h⟩)
        · exact .inl h
        · exact .inr ⟨c, List.mem_cons_self, j, h⟩
        · exact .inr ⟨i, List.mem_cons_of_mem _ hi, h⟩
      · rintro (h | ⟨i, hi, h⟩)
        · exact .inl (.inl h)
        · rcases List.mem_cons.mp hi with rfl | hi
          · exact .inl (.inr h)
          · exact .inr ⟨i, hi, h⟩
  unfold prodF
  rw [go _ _ fun i hi => List.mem_range.mp hi, Nat.testBit_and]
  constructor
  · rintro (h | ⟨i, _, j, h⟩)
    · exact .inl h
    · exact .inr ⟨i, j, h⟩
  · rintro (h | ⟨i, j, h⟩)
    · exact .inl h
    · exact .inr ⟨i, List.mem_range.mpr (by omega), j, h⟩
theorem prod_eq {n a b : Nat} (ha : a < 2 ^ n) (hb : b < 2 ^ n) : prodF n a b = prodX n a b := by
  have big : ∀ x : Nat, x < 2 ^ n → ∀ k, n ≤ k → x.testBit k = false := fun x hx k hk => Nat.testBit_lt_two_pow (Nat.lt_of_lt_of_le hx (Nat.pow_le_pow_right (by decide) hk))
  refine Nat.eq_of_testBit_eq fun p => ?_
  rw [Bool.eq_iff_iff, prodF_bit ha hb, prodX_bit]
  rcases Nat.lt_or_ge p n with hp | hp
  · have h1 : (bx (List.range n) fun i => bx (List.range n) fun j => (a.testBit i && b.testBit j) && decide (plcc n i j = p)) = (a.testBit p && b.testBit p) := by
      have ne : ∀ i j, i < n → j < n → ¬ (i = p ∧ j = p) → plcc n i j ≠ p := fun i j hi hj h e => by
        unfold plcc at e
        split at e
        · omega
        · have := pos2_ge (n := n) (i := min i j) (j := max i j) (by omega) (by omega); omega
      rw [bx_one List.nodup_range (List.mem_range.mpr hp) fun x hx hxp => (bx_congr fun j hj => by simp [ne x j (List.mem_range.mp hx) (List.mem_range.mp hj) fun h => hxp h.1]).trans (bx_false _),
        bx_one List.nodup_range (List.mem_range.mpr hp) fun j hj hjp => by simp [ne p j hp (List.mem_range.mp hj) fun h => hjp h.2]]
      simp [plcc]
    rw [h1]
    constructor
    · rintro (h | ⟨i, j, h1, h2, h3, _⟩)
      · exact h
      · have := pos2_ge h1 h2; omega
    · exact .inl
  · by_cases he : ∃ α β, α < β ∧ β < n ∧ p = pos2 n α β
    · obtain ⟨α, β, h1, h2, rfl⟩ := he
      have ne : ∀ i j, i < n → j < n → plcc n i j = pos2 n α β → (i = α ∧ j = β) ∨ (i = β ∧ j = α) := fun i j hi hj e => by
        unfold plcc at e
        split at e
        · omega
        · have := pos2_inj (n := n) (i := min i j) (j := max i j) (by omega) (by omega) h1 h2 e; omega
      have p1 : plcc n α β = pos2 n α β := by
        unfold plcc
        rw [if_neg (by omega), Nat.min_eq_left (by omega), Nat.max_eq_right (by omega)]
      have p2 : plcc n β α = pos2 n α β := by
        unfold plcc
        rw [if_neg (by omega), Nat.min_eq_right (by omega), Nat.max_eq_left (by omega)]
      have e : (bx (List.range n) fun i => bx (List.range n) fun j => (a.testBit i && b.testBit j) && decide (plcc n i j = pos2 n α β)) = ((a.testBit α && b.testBit β) ^^ (a.testBit β && b.testBit α)) := by
        rw [bx_two List.nodup_range (a := α) (b := β) (List.mem_range.mpr (by omega)) (List.mem_range.mpr h2) (by omega) fun x hx hxa hxb => (bx_congr fun j hj => by
          have hne : plcc n x j ≠ pos2 n α β := fun e => by rcases ne x j (List.mem_range.mp hx) (List.mem_range.mp hj) e with h | h <;> omega
          simp [hne]).trans (bx_false _)]
        rw [bx_one List.nodup_range (a := β) (List.mem_range.mpr h2) fun j hj hjp => by
          have hne : plcc n α j ≠ pos2 n α β := fun e => by rcases ne α j (by omega) (List.mem_range.mp hj) e with h | h <;> omega
          simp [hne]]
        rw [bx_one List.nodup_range (a := α) (List.mem_range.mpr (show α < n by omega)) fun j hj hjp => by
          have hne : plcc n β j ≠ pos2 n α β := fun e => by rcases ne β j h2 (List.mem_range.mp hj) e with h | h <;> omega
          simp [hne]]
        simp [p1, p2]
      rw [e, big a ha _ (pos2_ge h1 h2).1]
      constructor
      · rintro (h | ⟨i, j, h3, h4, h5, h6⟩)
        · simp at h
        · obtain ⟨rfl, rfl⟩ := pos2_inj h1 h2 h3 h4 h5
          rwa [Bool.and_comm (b.testBit α)] at h6
      · intro h
        exact .inr ⟨α, β, h1, h2, rfl, by rwa [Bool.and_comm (b.testBit α)]⟩
    · have e : (bx (List.range n) fun i => bx (List.range n) fun j => (a.testBit i && b.testBit j) && decide (plcc n i j = p)) = false := by
        refine (bx_congr fun i hi => (bx_congr fun j hj => ?_).trans (bx_false _)).trans (bx_false _)
        have hi := List.mem_range.mp hi
        have hj := List.mem_range.mp hj
        have hne : plcc n i j ≠ p := fun e => by
          unfold plcc at e
          split at e
          · omega
          · exact he ⟨min i j, max i j, by omega, by omega, e.symm⟩
        simp [hne]
      rw [e, big a ha _ hp]
      constructor
      · rintro (h | ⟨i, j, h3, h4, h5, _⟩)
        · simp at h
        · exact absurd ⟨i, j, h3, h4, h5⟩ he
      · intro h; exact absurd h (by decide)
/-! class Book -/
abbrev Eqs := List (Nat × Nat)
def eD (e : Nat × Nat) : D := .tup [nD e.1, nD e.2]
abbrev bo (C : Addr) (n : Nat) (es : Eqs) : D := .obj C [("_unknowns", nD n), ("_equations", .tup (es.map eD))]
def sp_binit (C : Addr) : DSp := fun ds M Q => ∃ (p : Addr) (n : Nat) (E : D) (es : Eqs), ds = [.ref p, nD n, E] ∧ (Srd (M.put p (.ins C [("_unknowns", nD n)])) E (es.map eD) ∨ E = .tup (es.map eD)) ∧ M p = some (.ins C []) ∧ 1 ≤ n ∧ n ≤ 200 ∧ es.length ≤ 1000 ∧ Q .non (M.put p (.ins C [("_unknowns", nD n), ("_equations", .tup (es.map eD))]))
theorem ok_Book_init (T : Top K mg) : Mt P w K mg base (clsA mg "Book") "__init__" ["self", "unknowns", "equations"] 2 (sp_binit (clsA mg "Book")) := by
  refine okM T.m_Book___init__ sc_Book_init (fun _ _ _ _ _ _ us hl => match us, hl with | [_, _, _], _ => rfl) ?len (fun f cdv A outer s H E hr =>
    (dss_cons (ds_expr (de_fn (ok_check_unknowns T) (hr.mono (by first | decide | omega)) (by rfl) (da_cons (dv 1) (da_cons (de_glob T.g_MOST_UNKNOWNS (by rfl) (fun _ => .int _)) da_nil))))
      (dss_cons (ds_fld T.k_Book.cls T.n_Book___unknowns (dv 0) (dv 1) rfl)
      (dss_one (ds_fld T.k_Book.cls T.n_Book___equations (dv 0) (de_callTy cd_tuple (by rfl) T.b_tuple (by decide +kernel) (da_cons (de_lc (own := [("form", 3), ("bit", 4)]) (p := .tp [3, 4]) rfl sc_Book_init.nd (di_sq (dv 2)) (blkOk_by (own := [("form", 3), ("bit", 4)]) (N := ["self", "unknowns", "equations", "form", "bit"]) (sc := defScope s_Book_init) (by decide +kernel)) (fun _ _ _ _ _ => (pg_tup rfl (pgs_cons (pg_name (i := 3) sc_Book_init.nd rfl (by first | exact Or.inl rfl | exact Or.inr rfl)) (pgs_cons (pg_name (i := 4) sc_Book_init.nd rfl (by first | exact Or.inl rfl | exact Or.inr rfl)) pgs_nil)))) (fun _ _ _ _ _ => dts_nil) (fun _ _ _ _ _ => (de_tup (da_cons (dv 3) (da_cons (dv 4) da_nil))))) da_nil)) rfl))))) ?body
  · rintro ds M Q ⟨p, n, E, es, rfl, _⟩; rfl
  · rintro ds M Q ⟨p, n, E, es, rfl, hE, hp, h1, h2, hl, q⟩
    refine g_st (τ' := [some _, some _, some _, none, none]) rfl ?_
    walk_at "go"
    refine ⟨n, 200, rfl, h1, h2, ?_⟩
    walk_at "go"
    rw [putG_nil]
    walk_at "go"
    rcases hE with hE | rfl
    · refine .inl ?_
      walk_at "go"
      refine ⟨_, hE, by simp [Pat.within], lc_map eD eD es (by omega) hE (fun e _ A B h => ?_) (.inl ?_)⟩
      · obtain ⟨f, b⟩ := e
        show Pat.d _ (.tup [nD f, nD b]) _ _ _
        walk_at "lc"
        walk_at "go"
        exact h
      walk_at "go"
      refine g_tupL ?_
      walk_at "go"
      rw [putG_ne (by decide), putG_nil, Mem.put_put]
      exact q
    · refine .inr ?_
      walk_at "go"
      refine ⟨by simp [Pat.within], lc_map eD eD es (by omega) trivial (fun e _ A B h => ?_) (.inl ?_)⟩
      · obtain ⟨f, b⟩ := e
        show Pat.d _ (.tup [nD f, nD b]) _ _ _
        walk_at "lc"
        walk_at "go"
        exact h
      walk_at "go"
      refine g_tupL ?_
      walk_at "go"
      rw [putG_ne (by decide), putG_nil, Mem.put_put]
      exact q
theorem mk_Book (T : Top K mg) : Mkr P w K mg base "Book" ["self", "unknowns", "equations"] 2 (sp_binit (clsA mg "Book")) := Mkr.of T.k_Book T.i_Book (ok_Book_init T)
def sp_bunk (C : Addr) : DSp := fun ds M Q => ∃ (n : Nat) (es : Eqs), ds = [bo C n es] ∧ Q (nD n) M
theorem ok_Book_unknowns (T : Top K mg) : Pr P w K mg base (clsA mg "Book") "unknowns" 1 (sp_bunk (clsA mg "Book")) := by
  refine okP T.p_Book_unknowns sc_Book_unknowns (fun _ _ _ _ _ _ us hl => match us, hl with | [_], _ => rfl) ?len (fun f cdv A outer s H E hr =>
    (dss_one (ds_ret (de_fld T.k_Book.cls T.n_Book___unknowns (dv 0))))) ?body
  · rintro ds M Q ⟨n, es, rfl, _⟩; rfl
  · rintro ds M Q ⟨n, es, rfl, q⟩
    refine g_st (τ' := [some _]) rfl ?_
    walk_at "go"
    exact r_same q
def sp_beqs (C : Addr) : DSp := fun ds M Q => ∃ (n : Nat) (es : Eqs), ds = [bo C n es] ∧ Q (.tup (es.map eD)) M
theorem ok_Book_equations (T : Top K mg) : Pr P w K mg base (clsA mg "Book") "equations" 1 (sp_beqs (clsA mg "Book")) := by
  refine okP T.p_Book_equations sc_Book_equations (fun _ _ _ _ _ _ us hl => match us, hl with | [_], _ => rfl) ?len (fun f cdv A outer s H E hr =>
    (dss_one (ds_ret (de_fld T.k_Book.cls T.n_Book___equations (dv 0))))) ?body
  · rintro ds M Q ⟨n, es, rfl, _⟩; rfl
  · rintro ds M Q ⟨n, es, rfl, q⟩
    refine g_st (τ' := [some _]) rfl ?_
    walk_at "go"
    exact r_same q
/-! sums of wires and the equations of gates -/
abbrev P2 := Nat × Nat
def p2z : P2 := (0, 0)
def prodP (n : Nat) (x y : P2) : P2 := (if y.2 = 1 then (if x.2 = 1 then prodF n x.1 y.1 ^^^ y.1 else prodF n x.1 y.1) ^^^ x.1 else (if x.2 = 1 then prodF n x.1 y.1 ^^^ y.1 else prodF n x.1 y.1), x.2 &&& y.2)
def plusP (x y : P2) : P2 := (x.1 ^^^ y.1, x.2 ^^^ y.2)
def gP (ss : List P2) (i : Nat) : P2 := ss.getD i p2z
def gateP (n : Nat) (ss : List P2) : Mk → P2
  | .bth a b => prodP n (gP ss a) (gP ss b)
  | .eit a b => plusP (plusP (gP ss a) (gP ss b)) (prodP n (gP ss a) (gP ss b))
  | .cho a b c => plusP (gP ss c) (prodP n (gP ss a) (plusP (gP ss b) (gP ss c)))
  | _ => p2z
def plainP (ss : List P2) : Mk → P2
  | .con b => (0, b)
  | .opp a => plusP (gP ss a) (0, 1)
  | .plu a b => plusP (gP ss a) (gP ss b)
  | _ => p2z
structure CSt where
  ss : List P2
  es : List P2
  u : Nat
def compS (n : Nat) (c : CSt) (k : Mk) : CSt :=
  if k.isInp then ⟨c.ss ++ [(2 ^ (match k with | .inp j => j | _ => 0), 0)], c.es, c.u⟩
  else if k.gate then ⟨c.ss ++ [(2 ^ c.u, 0)], c.es ++ [((gateP n c.ss k).1 ^^^ 2 ^ c.u, (gateP n c.ss k).2)], c.u + 1⟩
  else ⟨c.ss ++ [plainP c.ss k], c.es, c.u⟩
def comp (n i : Nat) (ms : List Mk) : CSt := ms.foldl (compS n) ⟨[], [], i⟩
theorem comp_snoc (n i : Nat) (ms : List Mk) (k : Mk) : comp n i (ms ++ [k]) = compS n (comp n i ms) k := by unfold comp; rw [List.foldl_append]; rfl
/-- bounds of a sum -/
def SOk (N : Nat) (x : P2) : Prop := x.1 < 2 ^ N ∧ x.2 < 2
theorem SOk.z (N : Nat) : SOk N p2z := ⟨Nat.pow_pos (by decide), show 0 < 2 by decide⟩
theorem SOk.plus {N : Nat} {x y : P2} (hx : SOk N x) (hy : SOk N y) : SOk N (plusP x y) := ⟨Nat.xor_lt_two_pow hx.1 hy.1, Nat.xor_lt_two_pow (n := 1) hx.2 hy.2⟩
theorem SOk.up {N N' : Nat} {x : P2} (h : N ≤ N') (hx : SOk N x) : SOk N' x := ⟨Nat.lt_of_lt_of_le hx.1 (Nat.pow_le_pow_right (by decide) h), hx.2⟩
theorem n_Nof (n : Nat) : n ≤ Nof n := by
  rcases Nat.eq_zero_or_pos n with rfl | h
  · exact Nat.zero_le _
  · unfold Nof; have := Nat.mul_le_mul (Nat.le_refl n) (show 2 ≤ n + 1 by omega); omega
theorem prodF_top {n a b : Nat} (ha : a < 2 ^ n) (hb : b < 2 ^ n) : prodF n a b < 2 ^ Nof n := Nat.lt_pow_two_of_testBit _ fun p hp => by
  rw [← Bool.not_eq_true]
  intro h
  rcases (prodF_bit ha hb p).mp h with h | ⟨i, j, h1, h2, h3, _⟩
  · have := n_Nof n
    rw [Nat.testBit_lt_two_pow (Nat.lt_of_lt_of_le ha (Nat.pow_le_pow_right (by decide) (show n ≤ p by omega)))] at h
    cases h
  · have := (pos2_ge h1 h2).2; omega
theorem SOk.prod {n : Nat} {x y : P2} (hx : SOk n x) (hy : SOk n y) : SOk (Nof n) (prodP n x y) := by
  have h0 := prodF_top hx.1 hy.1
  have hx1 := (hx.up (n_Nof n)).1
  have hy1 := (hy.up (n_Nof n)).1
  have h1 : (if x.2 = 1 then prodF n x.1 y.1 ^^^ y.1 else prodF n x.1 y.1) < 2 ^ Nof n := by
    split
    · exact Nat.xor_lt_two_pow h0 hy1
    · exact h0
  refine ⟨?_, Nat.lt_of_le_of_lt Nat.and_le_left hx.2⟩
  show (if y.2 = 1 then (if x.2 = 1 then prodF n x.1 y.1 ^^^ y.1 else prodF n x.1 y.1) ^^^ x.1 else (if x.2 = 1 then prodF n x.1 y.1 ^^^ y.1 else prodF n x.1 y.1)) < 2 ^ Nof n
  by_cases h : y.2 = 1
  · rw [if_pos h]; exact Nat.xor_lt_two_pow h1 hx1
  · rw [if_neg h]; exact h1
theorem gP_ok {n : Nat} {ss : List P2} (h : ∀ s ∈ ss, SOk n s) (i : Nat) : SOk n (gP ss i) := by
  unfold gP
  rcases Nat.lt_or_ge i ss.length with hi | hi
  · rw [List.getD_eq_getElem?_getD, List.getElem?_eq_getElem hi]; exact h _ (List.getElem_mem hi)
  · rw [List.getD_eq_getElem?_getD, List.getElem?_eq_none hi]; exact SOk.z n
theorem gateP_ok {n : Nat} {ss : List P2} (h : ∀ s ∈ ss, SOk n s) (k : Mk) : SOk (Nof n) (gateP n ss k) := by
  have g := gP_ok h
  have u := fun i => (g i).up (n_Nof n)
  cases k with
  | bth a b => exact (g a).prod (g b)
  | eit a b => exact ((u a).plus (u b)).plus ((g a).prod (g b))
  | cho a b c => exact (u c).plus ((g a).prod ((g b).plus (g c)))
  | _ => exact SOk.z _
theorem plainP_ok {n : Nat} {ss : List P2} (h : ∀ s ∈ ss, SOk n s) {k : Mk} {m i : Nat} (hk : MkOk m i k) : SOk n (plainP ss k) := by
  have g := gP_ok h
  cases k with
  | con b => exact ⟨Nat.pow_pos (by decide), hk⟩
  | opp a => exact (g a).plus ⟨Nat.pow_pos (by decide), show 1 < 2 by decide⟩
  | plu a b => exact (g a).plus (g b)
  | _ => exact SOk.z _
structure CInv (n : Nat) (c : CSt) (ms : List Mk) (i : Nat) : Prop where
  sl : c.ss.length = ms.length
  el : c.es.length = gaN ms
  un : c.u = i + gaN ms
  ss : ∀ s ∈ c.ss, SOk n s
  es : ∀ e ∈ c.es, SOk (Nof n) e
theorem CInv.nil (n i : Nat) : CInv n (comp n i []) [] i := ⟨rfl, rfl, rfl, (fun _ h => by cases h), (fun _ h => by cases h)⟩
theorem all_snoc {α : Type} {p : α → Prop} {l : List α} {a : α} (h : ∀ x ∈ l, p x) (ha : p a) : ∀ x ∈ l ++ [a], p x := fun x hx => by
  rcases List.mem_append.mp hx with hx | hx
  · exact h x hx
  · rw [List.mem_singleton.mp hx]; exact ha
theorem CInv.step {n i : Nat} {c : CSt} {ms : List Mk} {k : Mk} (h : CInv n c ms i) (hk : MkOk ms.length i k) (hg : i + gaN (ms ++ [k]) ≤ n) : CInv n (compS n c k) (ms ++ [k]) i := by
  rw [gaN_snoc] at hg
  unfold compS
  by_cases h1 : k.isInp = true
  · rw [if_pos h1]
    cases k with
    | inp j =>
      have hj : j < i := hk
      refine ⟨?_, ?_, ?_, all_snoc h.ss ⟨Nat.pow_lt_pow_right (by decide) (show j < n by omega), show 0 < 2 by decide⟩, h.es⟩
      · show (c.ss ++ [_]).length = _; rw [List.length_append, List.length_append, h.sl]; rfl
      · show c.es.length = _; rw [gaN_snoc, h.el]; rfl
      · show c.u = _; rw [gaN_snoc, h.un]; rfl
    | _ => cases h1
  · rw [if_neg h1]
    by_cases h2 : k.gate = true
    · rw [if_pos h2] at hg ⊢
      have hu := h.un
      have hu2 : c.u < n := by omega
      have := n_Nof n
      refine ⟨?_, ?_, ?_, all_snoc h.ss ⟨Nat.pow_lt_pow_right (by decide) hu2, show 0 < 2 by decide⟩, all_snoc h.es ⟨Nat.xor_lt_two_pow (gateP_ok h.ss k).1 (Nat.pow_lt_pow_right (by decide) (by omega)), (gateP_ok h.ss k).2⟩⟩
      · show (c.ss ++ [_]).length = _; rw [List.length_append, List.length_append, h.sl]; rfl
      · show (c.es ++ [_]).length = _; rw [List.length_append, gaN_snoc, if_pos h2, h.el]; rfl
      · show c.u + 1 = _; rw [gaN_snoc, if_pos h2, h.un]; omega
    · rw [if_neg h2]
      refine ⟨?_, ?_, ?_, all_snoc h.ss (plainP_ok h.ss hk), h.es⟩
      · show (c.ss ++ [_]).length = _; rw [List.length_append, List.length_append, h.sl]; rfl
      · show c.es.length = _; rw [gaN_snoc, if_neg h2, h.el]; rfl
      · show c.u = _; rw [gaN_snoc, if_neg h2, h.un]; rfl
theorem gaN_take (ms : List Mk) (k : Nat) : gaN (ms.take k) ≤ gaN ms := by
  unfold gaN
  exact (((List.take_sublist k ms).filter _).length_le)
theorem comp_inv {n i : Nat} {ms : List Mk} (hm : MsOk i ms) (hg : i + gaN ms ≤ n) : ∀ k, k ≤ ms.length → CInv n (comp n i (ms.take k)) (ms.take k) i
  | 0, _ => CInv.nil n i
  | k + 1, hk => by
    have ih := comp_inv hm hg k (by omega)
    obtain ⟨x, hx⟩ : ∃ x, ms[k]? = some x := ⟨_, List.getElem?_eq_getElem (by omega)⟩
    have hl : (ms.take k).length = k := by rw [List.length_take]; omega
    have hgt := gaN_take ms (k + 1)
    rw [take_snoc hx] at hgt ⊢
    rw [comp_snoc]
    exact ih.step (by rw [hl]; exact hm k x hx) (by omega)
theorem comp_all {n i : Nat} {ms : List Mk} (hm : MsOk i ms) (hg : i + gaN ms ≤ n) : CInv n (comp n i ms) ms i := by
  have := comp_inv hm hg ms.length (Nat.le_refl _)
  rwa [List.take_length] at this
/-- the equations of told wires -/
def toldE (ss : List P2) (t : P2) : P2 := ((gP ss t.1).1, (gP ss t.1).2 ^^^ t.2)
def cpEs (ms : List Mk) (ts : List P2) : List P2 := (comp (inN ms + gaN ms) (inN ms) ms).es ++ ts.map (toldE (comp (inN ms + gaN ms) (inN ms) ms).ss)
theorem cpEs_len {ms : List Mk} {ts : List P2} (hm : MsOk (inN ms) ms) : (cpEs ms ts).length = gaN ms + ts.length := by
  unfold cpEs
  rw [List.length_append, List.length_map, (comp_all hm (Nat.le_refl _)).el]
theorem cpEs_ok {ms : List Mk} {ts : List P2} (hm : MsOk (inN ms) ms) (ht : ∀ t ∈ ts, t.2 < 2) : ∀ e ∈ cpEs ms ts, SOk (Nof (inN ms + gaN ms)) e := fun e he => by
  have inv := comp_all hm (Nat.le_refl _)
  rcases List.mem_append.mp he with he | he
  · exact inv.es e he
  · obtain ⟨t, h1, rfl⟩ := List.mem_map.mp he
    have := (gP_ok inv.ss t.1).up (n_Nof _)
    exact ⟨this.1, Nat.xor_lt_two_pow (n := 1) this.2 (ht t h1)⟩
/-! class Compiled -/
theorem at_p2 {ss : List P2} {i : Nat} (h : i < ss.length) : atI (ss.map eD) (i : Int) = some (.tup [nD (gP ss i).1, nD (gP ss i).2]) := at_list (f := eD) (by unfold gP; rw [List.getD_eq_getElem?_getD, List.getElem?_eq_getElem h]; rfl)
def sp_prodp (C : Addr) : DSp := fun ds M Q => ∃ (n : Nat) (x y : P2), ds = [fo C n, .tup [nD x.1, nD x.2], .tup [nD y.1, nD y.2]] ∧ 1 ≤ n ∧ n ≤ 200 ∧ x.1 < 2 ^ n ∧ y.1 < 2 ^ n ∧ Q (.tup [nD (prodP n x y).1, nD (prodP n x y).2]) M
theorem ok_product_parts (T : Top K mg) : Fn P w K mg base "product_parts" ["forms", "one", "other"] 3 (sp_prodp (clsA mg "Forms")) := by
  refine okF T.d_product_parts sc_product_parts (fun _ _ _ _ _ _ us hl => match us, hl with | [_, _, _], _ => rfl) ?len (fun f cdv A outer s H E hr =>
    (dss_cons (ds_asg (dv 1) (dg_tup (n := 2) rfl (dgs_cons (dg_name (i := 3) sc_product_parts.nd rfl (by first | exact Or.inl rfl | exact Or.inr rfl)) (dgs_cons (dg_name (i := 4) sc_product_parts.nd rfl (by first | exact Or.inl rfl | exact Or.inr rfl)) dgs_nil))))
      (dss_cons (ds_asg (dv 2) (dg_tup (n := 2) rfl (dgs_cons (dg_name (i := 5) sc_product_parts.nd rfl (by first | exact Or.inl rfl | exact Or.inr rfl)) (dgs_cons (dg_name (i := 6) sc_product_parts.nd rfl (by first | exact Or.inl rfl | exact Or.inr rfl)) dgs_nil))))
      (dss_cons (ds_set (i := 7) sc_product_parts.nd rfl (by first | exact Or.inl rfl | exact Or.inr rfl) (de_meth T.k_Forms.cls (ok_Forms_product T) (hr.mono (by first | decide | omega)) (dv 0) (da_cons (dv 3) (da_cons (dv 5) da_nil))))
      (dss_cons (ds_cut (ds_if (dt_cmp (or_eq hr.units) (dv 4) de_int (nomark _))
        (dss_one (ds_set (i := 7) sc_product_parts.nd rfl (by first | exact Or.inl rfl | exact Or.inr rfl) (de_op or_xor (dv 7) (dv 5))))
        dss_nil))
      (dss_cons (ds_cut (ds_if (dt_cmp (or_eq hr.units) (dv 6) de_int (nomark _))
        (dss_one (ds_set (i := 7) sc_product_parts.nd rfl (by first | exact Or.inl rfl | exact Or.inr rfl) (de_op or_xor (dv 7) (dv 3))))
        dss_nil))
      (dss_one (ds_ret (de_tup (da_cons (dv 7) (da_cons (de_op or_and (dv 4) (dv 6)) da_nil))))))))))) ?body
  · rintro ds M Q ⟨n, x, y, rfl, _⟩; rfl
  · rintro ds M Q ⟨n, ⟨a, b⟩, ⟨c, d⟩, rfl, h1, h2, ha, hc, q⟩
    refine g_st (τ' := [some _, some _, some _, none, none, none, none, none]) rfl ?_
    walk_at "go1"
    refine ⟨n, a, c, rfl, h1, h2, ha, hc, ?_⟩
    have e : prodP n (a, b) (c, d) = (if d = 1 then (if b = 1 then prodF n a c ^^^ c else prodF n a c) ^^^ a else (if b = 1 then prodF n a c ^^^ c else prodF n a c), b &&& d) := rfl
    rw [e] at q
    generalize prodF n a c = f at q
    walk_at "go1"
    let τ0 : Nat → DSt := fun f => [some (fo (clsA mg "Forms") n), some (.tup [nD a, nD b]), some (.tup [nD c, nD d]), some (nD a), some (nD b), some (nD c), some (nD d), some (nD f)]
    refine g_cut (fun τ N => N = M ∧ τ = τ0 (if b = 1 then f ^^^ c else f)) ?_ ?_
    · walk_at "go1"
      refine g_d (fun h => ?_) (fun h => ?_)
      · walk_at "go1"
        exact ⟨_, Sub.refl _, rfl, by rw [if_pos (by omega)]⟩
      · walk_at "go1"
        exact ⟨_, Sub.refl _, rfl, by rw [if_neg (by omega)]⟩
    rintro τ N ⟨rfl, rfl⟩
    generalize (if b = 1 then f ^^^ c else f) = g at q
    walk_at "go1"
    refine g_cut (fun τ M => M = N ∧ τ = τ0 (if d = 1 then g ^^^ a else g)) ?_ ?_
    · walk_at "go1"
      refine g_d (fun h => ?_) (fun h => ?_)
      · walk_at "go1"
        exact ⟨_, Sub.refl _, rfl, by rw [if_pos (by omega)]⟩
      · walk_at "go1"
        exact ⟨_, Sub.refl _, rfl, by rw [if_neg (by omega)]⟩
    rintro τ N ⟨rfl, rfl⟩
    walk_at "go1"
    exact r_same q
def sp_plusp : DSp := fun ds M Q => ∃ (x y : P2), ds = [.tup [nD x.1, nD x.2], .tup [nD y.1, nD y.2]] ∧ Q (.tup [nD (plusP x y).1, nD (plusP x y).2]) M
theorem ok_plus_parts (T : Top K mg) : Fn P w K mg base "plus_parts" ["one", "other"] 1 sp_plusp := by
  refine okF T.d_plus_parts sc_plus_parts (fun _ _ _ _ _ _ us hl => match us, hl with | [_, _], _ => rfl) ?len (fun f cdv A outer s H E hr =>
    (dss_one (ds_ret (de_tup (da_cons (de_op or_xor (de_ix (dv 0) de_int) (de_ix (dv 1) de_int)) (da_cons (de_op or_xor (de_ix (dv 0) de_int) (de_ix (dv 1) de_int)) da_nil)))))) ?body
  · rintro ds M Q ⟨x, y, rfl, _⟩; rfl
  · rintro ds M Q ⟨x, y, rfl, q⟩
    refine g_st (τ' := [some _, some _]) rfl ?_
    walk_at "go1"
    exact r_same q
def sp_gatep (C : Addr) : DSp := fun ds M Q => ∃ (n : Nat) (k : Mk) (s : Addr) (ss : List P2), ds = [fo C n, k.d, .ref s] ∧ 1 ≤ n ∧ n ≤ 200 ∧ k.gate = true ∧ (∀ x ∈ k.ws, x < ss.length) ∧ (∀ x ∈ ss, SOk n x) ∧ M s = some (.lst (ss.map eD)) ∧ Q (.tup [nD (gateP n ss k).1, nD (gateP n ss k).2]) M
theorem ok_gate_parts (T : Top K mg) : Fn P w K mg base "gate_parts" ["forms", "mark", "sums"] 4 (sp_gatep (clsA mg "Forms")) := by
  refine okF T.d_gate_parts sc_gate_parts (fun _ _ _ _ _ _ us hl => match us, hl with | [_, _, _], _ => rfl) ?len (fun f cdv A outer s H E hr =>
    (dss_cons (ds_set (i := 3) sc_gate_parts.nd rfl (by first | exact Or.inl rfl | exact Or.inr rfl) (de_ix (dv 2) (de_ix (dv 1) de_int)))
      (dss_cons (ds_set (i := 4) sc_gate_parts.nd rfl (by first | exact Or.inl rfl | exact Or.inr rfl) (de_ix (dv 2) (de_ix (dv 1) de_int)))
      (dss_cons (ds_if (dt_cmp (or_eq hr.units) (de_ix (dv 1) de_int) de_str (nomark _))
        (dss_one (ds_ret (de_fn (ok_product_parts T) (hr.mono (by first | decide | omega)) (by rfl) (da_cons (dv 0) (da_cons (dv 3) (da_cons (dv 4) da_nil))))))
        dss_nil)
      (dss_cons (ds_if (dt_cmp (or_eq hr.units) (de_ix (dv 1) de_int) de_str (nomark _))
        (dss_one (ds_ret (de_fn (ok_plus_parts T) (hr.mono (by first | decide | omega)) (by rfl) (da_cons (de_fn (ok_plus_parts T) (hr.mono (by first | decide | omega)) (by rfl) (da_cons (dv 3) (da_cons (dv 4) da_nil))) (da_cons (de_fn (ok_product_parts T) (hr.mono (by first | decide | omega)) (by rfl) (da_cons (dv 0) (da_cons (dv 3) (da_cons (dv 4) da_nil)))) da_nil)))))
        dss_nil)
      (dss_cons (ds_set (i := 5) sc_gate_parts.nd rfl (by first | exact Or.inl rfl | exact Or.inr rfl) (de_ix (dv 2) (de_ix (dv 1) de_int)))
      (dss_one (ds_ret (de_fn (ok_plus_parts T) (hr.mono (by first | decide | omega)) (by rfl) (da_cons (dv 5) (da_cons (de_fn (ok_product_parts T) (hr.mono (by first | decide | omega)) (by rfl) (da_cons (dv 0) (da_cons (dv 3) (da_cons (de_fn (ok_plus_parts T) (hr.mono (by first | decide | omega)) (by rfl) (da_cons (dv 4) (da_cons (dv 5) da_nil))) da_nil)))) da_nil))))))))))) ?body
  · rintro ds M Q ⟨n, k, s, ss, rfl, _⟩; rfl
  · rintro ds M Q ⟨n, k, s, ss, rfl, h1, h2, hg, hw, hs, hm, q⟩
    refine g_st (τ' := [some _, some _, some _, none, none, none]) rfl ?_
    have g := gP_ok hs
    cases k with
    | bth a b =>
      have ha := at_p2 (hw a (by simp [Mk.ws]))
      have hb := at_p2 (hw b (by simp [Mk.ws]))
      unfold Mk.d
      walk_at "go1"
      refine ⟨n, gP ss a, gP ss b, rfl, h1, h2, (g a).1, (g b).1, ?_⟩
      exact r_same q
    | eit a b =>
      have ha := at_p2 (hw a (by simp [Mk.ws]))
      have hb := at_p2 (hw b (by simp [Mk.ws]))
      unfold Mk.d
      walk_at "go1"
      refine ⟨gP ss a, gP ss b, rfl, ?_⟩
      walk_at "go1"
      refine ⟨n, gP ss a, gP ss b, rfl, h1, h2, (g a).1, (g b).1, ?_⟩
      walk_at "go1"
      refine ⟨plusP (gP ss a) (gP ss b), _, rfl, ?_⟩
      exact r_same q
    | cho a b c =>
      have ha := at_p2 (hw a (by simp [Mk.ws]))
      have hb := at_p2 (hw b (by simp [Mk.ws]))
      have hc := at_p2 (hw c (by simp [Mk.ws]))
      unfold Mk.d
      walk_at "go1"
      refine ⟨gP ss b, gP ss c, rfl, ?_⟩
      walk_at "go1"
      refine ⟨n, gP ss a, plusP (gP ss b) (gP ss c), rfl, h1, h2, (g a).1, ((g b).plus (g c)).1, ?_⟩
      walk_at "go1"
      refine ⟨gP ss c, prodP n (gP ss a) (plusP (gP ss b) (gP ss c)), rfl, ?_⟩
      exact r_same q
    | _ => cases hg
def sp_plainp : DSp := fun ds M Q => ∃ (k : Mk) (s : Addr) (ss : List P2), ds = [k.d, .ref s] ∧ k.gate = false ∧ k.isInp = false ∧ (∀ x ∈ k.ws, x < ss.length) ∧ M s = some (.lst (ss.map eD)) ∧ Q (.tup [nD (plainP ss k).1, nD (plainP ss k).2]) M
theorem ok_plain_sum (T : Top K mg) : Fn P w K mg base "plain_sum" ["mark", "sums"] 2 sp_plainp := by
  refine okF T.d_plain_sum sc_plain_sum (fun _ _ _ _ _ _ us hl => match us, hl with | [_, _], _ => rfl) ?len (fun f cdv A outer s H E hr =>
    (dss_cons (ds_if (dt_cmp (or_eq hr.units) (de_ix (dv 0) de_int) de_str (nomark _))
        (dss_one (ds_ret (de_tup (da_cons de_int (da_cons (de_ix (dv 0) de_int) da_nil)))))
        dss_nil)
      (dss_cons (ds_if (dt_cmp (or_eq hr.units) (de_ix (dv 0) de_int) de_str (nomark _))
        (dss_one (ds_ret (de_fn (ok_plus_parts T) (hr.mono (by first | decide | omega)) (by rfl) (da_cons (de_ix (dv 1) (de_ix (dv 0) de_int)) (da_cons (de_tup (da_cons de_int (da_cons de_int da_nil))) da_nil)))))
        dss_nil)
      (dss_one (ds_ret (de_fn (ok_plus_parts T) (hr.mono (by first | decide | omega)) (by rfl) (da_cons (de_ix (dv 1) (de_ix (dv 0) de_int)) (da_cons (de_ix (dv 1) (de_ix (dv 0) de_int)) da_nil)))))))) ?body
  · rintro ds M Q ⟨k, s, ss, rfl, _⟩; rfl
  · rintro ds M Q ⟨k, s, ss, rfl, hg, hi, hw, hm, q⟩
    refine g_st (τ' := [some _, some _]) rfl ?_
    cases k with
    | con b =>
      unfold Mk.d
      walk_at "go1"
      exact r_same q
    | opp a =>
      have ha := at_p2 (hw a (by simp [Mk.ws]))
      unfold Mk.d
      walk_at "go1"
      refine ⟨gP ss a, (0, 1), rfl, ?_⟩
      exact r_same q
    | plu a b =>
      have ha := at_p2 (hw a (by simp [Mk.ws]))
      have hb := at_p2 (hw b (by simp [Mk.ws]))
      unfold Mk.d
      walk_at "go1"
      refine ⟨gP ss a, gP ss b, rfl, ?_⟩
      exact r_same q
    | inp j => cases hi
    | _ => cases hg
theorem MkOk.ws {n i : Nat} {k : Mk} (h : MkOk n i k) : ∀ x ∈ k.ws, x < n := by
  cases k with
  | inp j => exact fun x hx => by cases hx
  | con b => exact fun x hx => by cases hx
  | opp a => intro x hx; rw [List.mem_singleton.mp hx]; exact h
  | plu a b => intro x hx; simp only [Mk.ws, List.mem_cons, List.not_mem_nil, or_false] at hx; rcases hx with rfl | rfl; exact h.1; exact h.2
  | bth a b => intro x hx; simp only [Mk.ws, List.mem_cons, List.not_mem_nil, or_false] at hx; rcases hx with rfl | rfl; exact h.1; exact h.2
  | eit a b => intro x hx; simp only [Mk.ws, List.mem_cons, List.not_mem_nil, or_false] at hx; rcases hx with rfl | rfl; exact h.1; exact h.2
  | cho a b c => intro x hx; simp only [Mk.ws, List.mem_cons, List.not_mem_nil, or_false] at hx; rcases hx with rfl | rfl | rfl; exact h.1; exact h.2.1; exact h.2.2
/-- the object while it is made -/
abbrev cpF (ms : List Mk) : List (Str × D) := [("_marks", .lst (ms.map Mk.d)), ("_inputs", nD (inN ms))]
def sp_parts (C CF : Addr) : DSp := fun ds M Q => ∃ (p : Addr) (n : Nat) (ms : List Mk), ds = [.ref p, fo CF n] ∧ M p = some (.ins C (cpF ms)) ∧ 1 ≤ n ∧ n ≤ 200 ∧ n = inN ms + gaN ms ∧ ms.length ≤ 100000 ∧ MsOk (inN ms) ms ∧
  ∀ s e, M s = none → M e = none → s ≠ e → Q (.tup [.ref s, .ref e]) ((M.put s (.lst ((comp n (inN ms) ms).ss.map eD))).put e (.lst ((comp n (inN ms) ms).es.map eD)))
theorem ok_Compiled_parts (T : Top K mg) : Mt P w K mg base (clsA mg "Compiled") "parts" ["self", "forms"] 5 (sp_parts (clsA mg "Compiled") (clsA mg "Forms")) := by
  refine okM T.m_Compiled_parts sc_Compiled_parts (fun _ _ _ _ _ _ us hl => match us, hl with | [_, _], _ => rfl) ?len (fun f cdv A outer s H E hr =>
    (dss_cons (ds_set (i := 2) sc_Compiled_parts.nd rfl (by first | exact Or.inl rfl | exact Or.inr rfl) (de_lst da_nil))
      (dss_cons (ds_set (i := 3) sc_Compiled_parts.nd rfl (by first | exact Or.inl rfl | exact Or.inr rfl) (de_lst da_nil))
      (dss_cons (ds_set (i := 4) sc_Compiled_parts.nd rfl (by first | exact Or.inl rfl | exact Or.inr rfl) (de_fld T.k_Compiled.cls T.n_Compiled___inputs (dv 0)))
      (dss_cons (ds_for PassesOwn.never rfl (di_list (de_fld T.k_Compiled.cls T.n_Compiled___marks (dv 0))) (dg_name (i := 5) sc_Compiled_parts.nd rfl (by first | exact Or.inl rfl | exact Or.inr rfl))
        (dss_one (ds_if (dt_cmp (or_eq hr.units) (de_ix (dv 5) de_int) de_str (nomark _))
          (dss_one (ds_expr (de_bm PySem.F.plainAttrs_list PySem.F.slot_list_append PySem.F.type_list_append ckL_ok md_append (dv 2) (da_cons (de_tup (da_cons (de_op or_shl de_int (de_ix (dv 5) de_int)) (da_cons de_int da_nil))) da_nil))))
          (dss_one (ds_if (dt_tru (de_fn (ok_is_gate T) (hr.mono (by first | decide | omega)) (by rfl) (da_cons (dv 5) da_nil)))
            (dss_cons (ds_asg (de_fn (ok_gate_parts T) (hr.mono (by first | decide | omega)) (by rfl) (da_cons (dv 1) (da_cons (dv 5) (da_cons (dv 2) da_nil)))) (dg_tup (n := 2) rfl (dgs_cons (dg_name (i := 6) sc_Compiled_parts.nd rfl (by first | exact Or.inl rfl | exact Or.inr rfl)) (dgs_cons (dg_name (i := 7) sc_Compiled_parts.nd rfl (by first | exact Or.inl rfl | exact Or.inr rfl)) dgs_nil))))
            (dss_cons (ds_expr (de_bm PySem.F.plainAttrs_list PySem.F.slot_list_append PySem.F.type_list_append ckL_ok md_append (dv 3) (da_cons (de_tup (da_cons (de_op or_xor (dv 6) (de_op or_shl de_int (dv 4))) (da_cons (dv 7) da_nil))) da_nil)))
            (dss_cons (ds_expr (de_bm PySem.F.plainAttrs_list PySem.F.slot_list_append PySem.F.type_list_append ckL_ok md_append (dv 2) (da_cons (de_tup (da_cons (de_op or_shl de_int (dv 4)) (da_cons de_int da_nil))) da_nil)))
            (dss_one (ds_set (i := 4) sc_Compiled_parts.nd rfl (by first | exact Or.inl rfl | exact Or.inr rfl) (de_op or_add (dv 4) de_int))))))
            (dss_one (ds_expr (de_bm PySem.F.plainAttrs_list PySem.F.slot_list_append PySem.F.type_list_append ckL_ok md_append (dv 2) (da_cons (de_fn (ok_plain_sum T) (hr.mono (by first | decide | omega)) (by rfl) (da_cons (dv 5) (da_cons (dv 2) da_nil))) da_nil)))))))))
      (dss_one (ds_ret (de_tup (da_cons (dv 2) (da_cons (dv 3) da_nil)))))))))) ?body
  · rintro ds M Q ⟨p, n, ms, rfl, _⟩; rfl
  · rintro ds M Q ⟨p, n, ms, rfl, hp, h1, h2, hn, hl, hok, q⟩
    refine g_st (τ' := [some _, some _, none, none, none, none, none, none]) rfl ?_
    walk_at "go1"
    refine .inr fun s hs => ?_
    have hps : p ≠ s := Mem.ne_of hp hs
    walk_at "go1"
    refine .inr fun e he => ?_
    obtain ⟨hes, he⟩ := put_none he
    have hpe : p ≠ e := Mem.ne_of hp he
    have mp : ∀ o u, ((M.put s o).put e u) p = some (.ins (clsA mg "Compiled") (cpF ms)) := fun o u => by rw [Mem.put_ne hpe, Mem.put_ne hps]; exact hp
    have ms_ : ∀ o u, ((M.put s o).put e u) s = some o := fun o u => by rw [Mem.put_ne (Ne.symm hes)]; exact Mem.put_same
    have me : ∀ o u, ((M.put s o).put e u) e = some u := fun o u => Mem.put_same
    have ps : ∀ o u v, ((M.put s o).put e u).put s v = (M.put s v).put e u := fun o u v => by rw [Mem.put_comm hes, Mem.put_put]
    have pe : ∀ o u v, ((M.put s o).put e u).put e v = (M.put s o).put e v := fun o u v => Mem.put_put
    have mp0 := mp (.lst []) (.lst [])
    walk_at "go1"
    let τ0 : Nat → Option D → Option D → Option D → DSt := fun u a b c => [some (.ref p), some (fo (clsA mg "Forms") n), some (.ref s), some (.ref e), some (nD u), a, b, c]
    refine f_lst Mk.d ms (fun k τ N => ∃ a b c, N = (M.put s (.lst ((comp n (inN ms) (ms.take k)).ss.map eD))).put e (.lst ((comp n (inN ms) (ms.take k)).es.map eD)) ∧ τ = τ0 (comp n (inN ms) (ms.take k)).u a b c) ⟨_, _, _, rfl, rfl⟩ ?_ ?_
    · rintro k x τ N hk ⟨a, b, c, rfl, rfl⟩ _
      have hkl := (List.getElem?_eq_some_iff.mp hk).1
      have inv := comp_inv hok (show inN ms + gaN ms ≤ n by omega) k (by omega)
      have hl2 : (ms.take k).length = k := by rw [List.length_take]; omega
      have hx := hok k x hk
      have hg2 := gaN_take ms (k + 1)
      have hg3 := gaN_take ms k
      rw [take_snoc hk, gaN_snoc] at hg2
      rw [take_snoc hk, comp_snoc]
      generalize comp n (inN ms) (ms.take k) = cs at inv
      have hsl : (cs.ss.map eD).length = k := by rw [List.length_map, inv.sl, hl2]
      have hel : (cs.es.map eD).length ≤ 200 := by rw [List.length_map, inv.el]; omega
      have m1 := ms_ (.lst (cs.ss.map eD)) (.lst (cs.es.map eD))
      have m2 := me (.lst (cs.ss.map eD)) (.lst (cs.es.map eD))
      have hun := inv.un
      by_cases hi : x.isInp = true
      · cases x with
        | inp j =>
          have hj : j < inN ms := hx
          unfold Mk.d
          walk_at "go1"
          rw [Nat.one_mul, ps]
          refine ⟨_, Sub.refl _, .l, _, _, _, ?_, rfl⟩
          show _ = (M.put s (.lst ((cs.ss ++ [(2 ^ j, 0)]).map eD))).put e (.lst (cs.es.map eD))
          rw [List.map_append]; rfl
        | _ => cases hi
      have hnk : ∃ z l, x.d = .tup (.str z :: l) ∧ z ≠ "input" := by
        cases x with
        | inp j => exact absurd rfl hi
        | con b => exact ⟨_, _, rfl, by decide⟩
        | opp a => exact ⟨_, _, rfl, by decide⟩
        | plu a b => exact ⟨_, _, rfl, by decide⟩
        | bth a b => exact ⟨_, _, rfl, by decide⟩
        | eit a b => exact ⟨_, _, rfl, by decide⟩
        | cho a b c => exact ⟨_, _, rfl, by decide⟩
      obtain ⟨z, l, hz, hzn⟩ := hnk
      have hstep : compS n cs x = if x.gate then ⟨cs.ss ++ [(2 ^ cs.u, 0)], cs.es ++ [((gateP n cs.ss x).1 ^^^ 2 ^ cs.u, (gateP n cs.ss x).2)], cs.u + 1⟩ else ⟨cs.ss ++ [plainP cs.ss x], cs.es, cs.u⟩ := by unfold compS; rw [if_neg hi]
      rw [hstep]
      have hw : ∀ y ∈ x.ws, y < cs.ss.length := fun y hy => by have := hx.ws y hy; rw [inv.sl, hl2]; exact this
      generalize hxd : x.d = xd at hz
      subst hz
      walk_at "go1"
      refine g_ixT (d := .str z) (show atI (D.str z :: l) ((0 : Nat) : Int) = some (D.str z) from atI_nat rfl) ?_
      walk_at "go1"
      rw [← hxd]
      refine ⟨x, rfl, ?_⟩
      cases hgt : x.gate with
      | true =>
        walk_at "go1"
        refine ⟨n, x, s, cs.ss, rfl, h1, h2, hgt, hw, inv.ss, m1, ?_⟩
        have hgl := (gateP_ok inv.ss x).1
        rw [hgt] at hg2
        simp only [if_true] at hg2
        walk_at "go1"
        rw [Nat.one_mul, pe]
        have m3 := ms_ (.lst (cs.ss.map eD)) (.lst (cs.es.map eD ++ [.tup [nD ((gateP n cs.ss x).1 ^^^ 2 ^ cs.u), nD (gateP n cs.ss x).2]]))
        walk_at "go1"
        rw [Nat.one_mul, ps]
        refine ⟨_, Sub.refl _, .l, _, _, _, ?_, rfl⟩
        show _ = (M.put s (.lst ((cs.ss ++ [(2 ^ cs.u, 0)]).map eD))).put e (.lst ((cs.es ++ [((gateP n cs.ss x).1 ^^^ 2 ^ cs.u, (gateP n cs.ss x).2)]).map eD))
        rw [List.map_append, List.map_append]; rfl
      | false =>
        walk_at "go1"
        refine ⟨x, s, cs.ss, rfl, hgt, by simpa using hi, hw, m1, ?_⟩
        walk_at "go1"
        rw [ps]
        refine ⟨_, Sub.refl _, .l, _, _, _, ?_, rfl⟩
        show _ = (M.put s (.lst ((cs.ss ++ [plainP cs.ss x]).map eD))).put e (.lst (cs.es.map eD))
        rw [List.map_append]; rfl
    rintro τ N ⟨a, b, c, rfl, rfl⟩
    rw [List.take_length]
    walk_at "go1"
    exact r_same (q s e hs he (Ne.symm hes))
/-! class Compiled: made, and read -/
abbrev cpo (C CB : Addr) (ms : List Mk) (ts : List P2) : D := .obj C [("_marks", .lst (ms.map Mk.d)), ("_inputs", nD (inN ms)), ("_book", bo CB (inN ms + gaN ms) (cpEs ms ts))]
def sp_cimarks (C : Addr) : DSp := fun ds M Q => ∃ (p m : Addr) (ms : List Mk), ds = [.ref p] ∧ Ci C M p m ms ∧ Q (.lst (ms.map Mk.d)) M
theorem ok_Circuit_marks (T : Top K mg) : Mt P w K mg base (clsA mg "Circuit") "marks" ["self"] 1 (sp_cimarks (clsA mg "Circuit")) := by
  refine okM T.m_Circuit_marks sc_Circuit_marks (fun _ _ _ _ _ _ us hl => match us, hl with | [_], _ => rfl) ?len (fun f cdv A outer s H E hr =>
    (dss_one (ds_ret (de_callTy cd_list (by rfl) T.b_list (by decide +kernel) (da_cons (de_fld T.k_Circuit.cls T.n_Circuit___marks (dv 0)) da_nil))))) ?body
  · rintro ds M Q ⟨p, m, ms, rfl, _⟩; rfl
  · rintro ds M Q ⟨p, m, ms, rfl, ⟨hp, hm, hl⟩, q⟩
    refine g_st (τ' := [some _]) rfl ?_
    walk_at "go1"
    refine ⟨_, rfl, _, .r hm, .inl ?_⟩
    exact r_same q
def sp_cpinit (C CC CB : Addr) : DSp := fun ds M Q => ∃ (p c m : Addr) (L : D) (ms : List Mk) (ts : List P2), ds = [.ref p, .ref c, L] ∧ M p = some (.ins C []) ∧ Ci CC M c m ms ∧ MsOk (inN ms) ms ∧ Srd M L (ts.map eD) ∧ ts.length ≤ 800 ∧ (∀ t ∈ ts, t.1 < ms.length ∧ t.2 < 2) ∧ 1 ≤ inN ms + gaN ms ∧ inN ms + gaN ms ≤ 200 ∧
  ∀ N, Sub (M.put p (.ins C [("_marks", .lst (ms.map Mk.d)), ("_inputs", nD (inN ms)), ("_book", bo CB (inN ms + gaN ms) (cpEs ms ts))])) N → Q .non N
theorem ok_Compiled_init (T : Top K mg) : Mt P w K mg base (clsA mg "Compiled") "__init__" ["self", "circuit", "told"] 6 (sp_cpinit (clsA mg "Compiled") (clsA mg "Circuit") (clsA mg "Book")) := by
  refine okM T.m_Compiled___init__ sc_Compiled_init (fun _ _ _ _ _ _ us hl => match us, hl with | [_, _, _], _ => rfl) ?len (fun f cdv A outer s H E hr =>
    (dss_cons (ds_expr (de_meth T.k_Circuit.cls (ok_Circuit_check T) (hr.mono (by first | decide | omega)) (dv 1) (da_cons (de_lc (own := [("wire", 6), ("_", 10)]) (p := .tp [6, 10]) rfl sc_Compiled_init.nd (di_list (dv 2)) (blkOk_by (own := [("wire", 6), ("_", 10)]) (N := ["self", "circuit", "told", "unknowns", "sums", "equations", "wire", "bit", "form", "constant", "_"]) (sc := defScope s_Compiled_init) (by decide +kernel)) (fun _ _ _ _ _ => (pg_tup rfl (pgs_cons (pg_name (i := 6) sc_Compiled_init.nd rfl (by first | exact Or.inl rfl | exact Or.inr rfl)) (pgs_cons (pg_name (i := 10) sc_Compiled_init.nd rfl (by first | exact Or.inl rfl | exact Or.inr rfl)) pgs_nil)))) (fun _ _ _ _ _ => dts_nil) (fun _ _ _ _ _ => (dv 6))) da_nil)))
      (dss_cons (ds_set (i := 3) sc_Compiled_init.nd rfl (by first | exact Or.inl rfl | exact Or.inr rfl) (de_op or_add (de_prop T.k_Circuit.cls (ok_Circuit_inputs T) (hr.mono (by first | decide | omega)) (dv 1)) (de_prop T.k_Circuit.cls (ok_Circuit_gates T) (hr.mono (by first | decide | omega)) (dv 1))))
      (dss_cons (ds_if (dt_w (dw_or (dt_cmp or_lt (dv 3) de_int (nomark _)) (dw_or1 (dt_cmp or_gt (dv 3) (de_glob T.g_MOST_UNKNOWNS (by rfl) (fun _ => .int _)) (nomark _)))))
        (dss_one ds_never)
        dss_nil)
      (dss_cons (ds_fld T.k_Compiled.cls T.n_Compiled___marks (dv 0) (de_meth0 T.k_Circuit.cls (ok_Circuit_marks T) (hr.mono (by first | decide | omega)) (dv 1)) rfl)
      (dss_cons (ds_fld T.k_Compiled.cls T.n_Compiled___inputs (dv 0) (de_prop T.k_Circuit.cls (ok_Circuit_inputs T) (hr.mono (by first | decide | omega)) (dv 1)) rfl)
      (dss_cons (ds_asg (de_meth T.k_Compiled.cls (ok_Compiled_parts T) (hr.mono (by first | decide | omega)) (dv 0) (da_cons (de_mk (mk_Forms T) T.k_Forms (hr.mono (by first | decide | omega)) (by rfl) (da_cons (dv 3) da_nil)) da_nil)) (dg_tup (n := 2) rfl (dgs_cons (dg_name (i := 4) sc_Compiled_init.nd rfl (by first | exact Or.inl rfl | exact Or.inr rfl)) (dgs_cons (dg_name (i := 5) sc_Compiled_init.nd rfl (by first | exact Or.inl rfl | exact Or.inr rfl)) dgs_nil))))
      (dss_cons (ds_for PassesOwn.never rfl (di_list (dv 2)) (dg_tup (n := 2) rfl (dgs_cons (dg_name (i := 6) sc_Compiled_init.nd rfl (by first | exact Or.inl rfl | exact Or.inr rfl)) (dgs_cons (dg_name (i := 7) sc_Compiled_init.nd rfl (by first | exact Or.inl rfl | exact Or.inr rfl)) dgs_nil)))
        (dss_cons (ds_asg (de_ix (dv 4) (dv 6)) (dg_tup (n := 2) rfl (dgs_cons (dg_name (i := 8) sc_Compiled_init.nd rfl (by first | exact Or.inl rfl | exact Or.inr rfl)) (dgs_cons (dg_name (i := 9) sc_Compiled_init.nd rfl (by first | exact Or.inl rfl | exact Or.inr rfl)) dgs_nil))))
        (dss_one (ds_expr (de_bm PySem.F.plainAttrs_list PySem.F.slot_list_append PySem.F.type_list_append ckL_ok md_append (dv 5) (da_cons (de_tup (da_cons (dv 8) (da_cons (de_op or_xor (dv 9) (dv 7)) da_nil))) da_nil))))))
      (dss_one (ds_fld T.k_Compiled.cls T.n_Compiled___book (dv 0) (de_mk (mk_Book T) T.k_Book (hr.mono (by first | decide | omega)) (by rfl) (da_cons (dv 3) (da_cons (dv 5) da_nil))) rfl)))))))))) ?body
  · rintro ds M Q ⟨p, c, m, L, ms, ts, rfl, _⟩; rfl
  · rintro ds M Q ⟨p, c, m, L, ms, ts, rfl, hp, hc, hok, hL, htl, hts, h1, h2, q⟩
    refine g_st (τ' := [some _, some _, some _, none, none, none, none, none, none, none, none]) rfl ?_
    have hcp := hc.1
    have inv := comp_all hok (Nat.le_refl _)
    have hel := cpEs_len (ts := ts) hok
    have hg : gaN ms ≤ 200 := by omega
    walk_at "go1"
    refine ⟨_, hL, by simp [Pat.within], lc_map eD (fun t => nD t.1) ts (by omega) hL (fun t ht A B h => ?_) (.inl ?_)⟩
    · obtain ⟨a, b⟩ := t
      show Pat.d _ (.tup [nD a, nD b]) _ _ _
      walk_at "lc"
      walk_at "go1"
      exact h
    walk_at "go1"
    refine ⟨c, m, ms, .lst (ts.map fun t => nD t.1), ts.map (·.1), rfl, hc, .inr (by rw [List.map_map]; rfl), fun x hx => ?_, ?_⟩
    · obtain ⟨t, h3, rfl⟩ := List.mem_map.mp hx
      exact (hts t h3).1
    walk_at "go1"
    refine ⟨c, m, ms, rfl, hc, ?_⟩
    walk_at "go1"
    refine ⟨c, m, ms, rfl, hc, ?_⟩
    unfold cpEs at hel q
    walk_at "go1"
    rw [show (inN ms : Int) + (gaN ms : Int) = ((inN ms + gaN ms : Nat) : Int) from (Int.natCast_add _ _).symm]
    generalize hn : inN ms + gaN ms = n at h1 h2 hel q inv
    refine ⟨c, m, ms, rfl, hc, ?_⟩
    have hne : p ≠ c := fun e => by rw [e, hcp] at hp; have := (MO.ins.inj (Option.some.inj hp)).2; cases this
    have hnm : p ≠ m := fun e => by have := hc.2.1; rw [← e, hp] at this; cases this
    walk_at "go1"
    rw [putG_nil]
    have hc2 : Ci (clsA mg "Circuit") (M.put p (.ins (clsA mg "Compiled") [("_marks", .lst (ms.map Mk.d))])) c m ms := hc.oth (Ne.symm hne) (Ne.symm hnm)
    have hcp2 := hc2.1
    walk_at "go1"
    refine ⟨c, m, ms, rfl, hc2, ?_⟩
    walk_at "go1"
    rw [putG_ne (by decide), putG_nil, Mem.put_put]
    have hL2 : Srd (M.put p (.ins (clsA mg "Compiled") (cpF ms))) L (ts.map eD) := srd_oth hL hp
    generalize hMM : M.put p (.ins (clsA mg "Compiled") (cpF ms)) = N at hL2
    have hNp : N p = some (.ins (clsA mg "Compiled") (cpF ms)) := by rw [← hMM]; exact Mem.put_same
    walk_at "go1"
    rintro p2 hp2
    refine ⟨p2, n, rfl, Mem.put_same, h1, h2, rfl, ?_⟩
    rw [Mem.put_put]
    refine r_obj (Sub.new hp2) hp2 Mem.put_same ?_
    walk_at "go1"
    refine ⟨p, n, ms, rfl, hNp, h1, h2, hn.symm, hc.2.2, hok, fun s e hs he hse => ?_⟩
    have hps : p ≠ s := Mem.ne_of hNp hs
    have hpe : p ≠ e := Mem.ne_of hNp he
    generalize comp n (inN ms) ms = cs at inv hel q
    have hsl := inv.sl
    have hcl := inv.el
    have msS : ∀ u, ((N.put s (.lst (cs.ss.map eD))).put e u) s = some (.lst (cs.ss.map eD)) := fun u => by rw [Mem.put_ne hse]; exact Mem.put_same
    have mse : ∀ u, ((N.put s (.lst (cs.ss.map eD))).put e u) e = some u := fun u => Mem.put_same
    have msp : ∀ u, ((N.put s (.lst (cs.ss.map eD))).put e u) p = some (.ins (clsA mg "Compiled") (cpF ms)) := fun u => by rw [Mem.put_ne hpe, Mem.put_ne hps]; exact hNp
    have hL3 : ∀ u, Srd ((N.put s (.lst (cs.ss.map eD))).put e u) L (ts.map eD) := fun u => srd_new (srd_new hL2 hs) (by rw [Mem.put_ne (Ne.symm hse)]; exact he)
    walk_at "go1"
    refine g_lokS (hL3 _) ?_
    let τ0 : Option D → Option D → Option D → Option D → DSt := fun a b f g => [some (.ref p), some (.ref c), some L, some (nD n), some (.ref s), some (.ref e), a, b, f, g, none]
    walk_at "go1"
    refine f_lst eD ts (fun k τ N' => ∃ a b f g, N' = (N.put s (.lst (cs.ss.map eD))).put e (.lst ((cs.es ++ (ts.take k).map (toldE cs.ss)).map eD)) ∧ τ = τ0 a b f g) ⟨_, _, _, _, by rw [List.take_zero, List.map_nil, List.append_nil], rfl⟩ ?_ ?_
    · rintro k t τ N' hk ⟨a, b, f, g, rfl, rfl⟩ _
      have hkl := (List.getElem?_eq_some_iff.mp hk).1
      obtain ⟨wr, bt⟩ := t
      have hwr := hts _ (List.mem_of_getElem? hk)
      have hw1 : wr < cs.ss.length := by rw [hsl]; exact hwr.1
      have at1 := at_p2 hw1
      have m1 := msS (.lst ((cs.es ++ (ts.take k).map (toldE cs.ss)).map eD))
      have m2 := mse (.lst ((cs.es ++ (ts.take k).map (toldE cs.ss)).map eD))
      have hl3 : ((cs.es ++ (ts.take k).map (toldE cs.ss)).map eD).length ≤ 1000 := by rw [List.length_map, List.length_append, List.length_map, List.length_take, hcl]; omega
      show gTp _ _ (.tup [nD wr, nD bt]) _ _ _
      walk_at "go1"
      rw [Mem.put_put]
      refine ⟨_, Sub.refl _, hL3 _, _, _, _, _, ?_, rfl⟩
      rw [take_snoc hk, List.map_append (f := toldE cs.ss), ← List.append_assoc, List.map_append (f := eD) (l₂ := [(wr, bt)].map (toldE cs.ss))]
      rfl
    rintro τ N' ⟨a, b, f, g, rfl, rfl⟩
    rw [List.take_length]
    have m1 := mse (.lst ((cs.es ++ ts.map (toldE cs.ss)).map eD))
    have mp1 := msp (.lst ((cs.es ++ ts.map (toldE cs.ss)).map eD))
    generalize hes : cs.es ++ ts.map (toldE cs.ss) = es at hel q m1 mp1
    generalize hN3 : (N.put s (.lst (cs.ss.map eD))).put e (.lst (es.map eD)) = N3 at m1 mp1
    have hsub : Sub N N3 := by rw [← hN3]; exact (Sub.new hs).trans (Sub.new (by rw [Mem.put_ne (Ne.symm hse)]; exact he))
    walk_at "go1"
    intro p3 hp3
    have hm3 : (N3.put p3 (.ins (clsA mg "Book") [("_unknowns", nD n)])) e = some (.lst (es.map eD)) := by rw [Mem.put_ne (Mem.ne_of m1 hp3)]; exact m1
    refine ⟨p3, n, _, es, rfl, .inl (.r (by rw [Mem.put_put]; exact hm3)), Mem.put_same, h1, h2, by omega, rfl, ?_⟩
    rw [Mem.put_put]
    refine r_obj (Sub.new hp3) hp3 Mem.put_same ?_
    walk_at "go1"
    rw [putG_ne (by decide), putG_ne (by decide), putG_nil]
    refine q _ fun a u ha => ?_
    by_cases hap : a = p
    · rw [hap, Mem.put_same] at ha ⊢
      exact ha
    · rw [Mem.put_ne hap] at ha ⊢
      exact hsub a u (by rw [← hMM, Mem.put_ne hap]; exact ha)
theorem mk_Compiled (T : Top K mg) : Mkr P w K mg base "Compiled" ["self", "circuit", "told"] 6 (sp_cpinit (clsA mg "Compiled") (clsA mg "Circuit") (clsA mg "Book")) := Mkr.of T.k_Compiled T.i_Compiled (ok_Compiled_init T)
def sp_cpunk (C CB : Addr) : DSp := fun ds M Q => ∃ (ms : List Mk) (ts : List P2), ds = [cpo C CB ms ts] ∧ Q (nD (inN ms + gaN ms)) M
def sp_cpbook (C CB : Addr) : DSp := fun ds M Q => ∃ (ms : List Mk) (ts : List P2), ds = [cpo C CB ms ts] ∧ Q (bo CB (inN ms + gaN ms) (cpEs ms ts)) M
theorem ok_Compiled_unknowns (T : Top K mg) : Pr P w K mg base (clsA mg "Compiled") "unknowns" 3 (sp_cpunk (clsA mg "Compiled") (clsA mg "Book")) := by
  refine okP T.p_Compiled_unknowns sc_Compiled_unknowns (fun _ _ _ _ _ _ us hl => match us, hl with | [_], _ => rfl) ?len (fun f cdv A outer s H E hr =>
    (dss_one (ds_ret (de_prop T.k_Book.cls (ok_Book_unknowns T) (hr.mono (by first | decide | omega)) (de_fld T.k_Compiled.cls T.n_Compiled___book (dv 0)))))) ?body
  · rintro ds M Q ⟨ms, ts, rfl, _⟩; rfl
  · rintro ds M Q ⟨ms, ts, rfl, q⟩
    refine g_st (τ' := [some _]) rfl ?_
    walk_at "go1"
    refine ⟨_, _, rfl, ?_⟩
    exact r_same q
theorem ok_Compiled_book (T : Top K mg) : Pr P w K mg base (clsA mg "Compiled") "book" 1 (sp_cpbook (clsA mg "Compiled") (clsA mg "Book")) := by
  refine okP T.p_Compiled_book sc_Compiled_book (fun _ _ _ _ _ _ us hl => match us, hl with | [_], _ => rfl) ?len (fun f cdv A outer s H E hr =>
    (dss_one (ds_ret (de_fld T.k_Compiled.cls T.n_Compiled___book (dv 0))))) ?body
  · rintro ds M Q ⟨ms, ts, rfl, _⟩; rfl
  · rintro ds M Q ⟨ms, ts, rfl, q⟩
    refine g_st (τ' := [some _]) rfl ?_
    walk_at "go1"
    exact r_same q
/-! what may raise -/
def BadW (n : Nat) (ws : List Int) : Prop := ∃ x ∈ ws, x < 0 ∨ (n : Int) ≤ x
def sp_xcheck (C B : Addr) : DSpX := fun ds M Q R => ∃ (p m : Addr) (ms : List Mk) (ws : List Int), ds = [.ref p, .lst (ws.map D.int)] ∧ Ci C M p m ms ∧ (BadW ms.length ws → R B M) ∧ (¬ BadW ms.length ws → Q .non M)
theorem okx_Circuit_check (T : Top K mg) : MtX P w K mg base (clsA mg "Circuit") "check" ["self", "wires"] 1 (sp_xcheck (clsA mg "Circuit") (clsA mg "BadWire")) := by
  refine okMX T.m_Circuit_check sc_Circuit_check (fun _ _ _ _ _ _ us hl => match us, hl with | [_, _], _ => rfl) ?len (fun f R W cdv A outer s H E tk hr =>
    (ssx_one (sx_for (passes_of rfl) rfl (di_sq (dv 1)) (dg_name (i := 2) sc_Circuit_check.nd rfl (by first | exact Or.inl rfl | exact Or.inr rfl))
        (ssx_one (sx_if (dt_w (dw_or (dt_cmp or_lt (dv 2) de_int (nomark _)) (dw_or1 (dt_cmp or_ge (dv 2) (de_callB cd_len (by rfl) T.b_len (by decide +kernel) (da_cons (de_fld T.k_Circuit.cls T.n_Circuit___marks (dv 0)) da_nil)) (nomark _)))))
          (ssx_one (sx_raiseO mg rfl rfl tk T.x_BadWire (by rfl)))
          ssx_nil))))) ?body
  · rintro ds M Q R ⟨p, m, ms, ws, rfl, _⟩; rfl
  · rintro ds M Q R ⟨p, m, ms, ws, rfl, ⟨hp, hm, hl⟩, q, q2⟩
    refine g_st (τ' := [some _, some _, none]) rfl ?_
    walk_at "go1"
    refine .inl ?_
    walk_at "go1"
    refine f_lst D.int ws (fun k τ N => N = M ∧ (∀ x ∈ ws.take k, ¬ (x < 0 ∨ (ms.length : Int) ≤ x)) ∧ ∃ o : Option D, τ = [some (.ref p), some (.lst (ws.map D.int)), o]) ⟨rfl, (fun x h => by rw [List.take_zero] at h; cases h), _, rfl⟩ ?_ ?_
    · rintro k x τ N hk ⟨rfl, hg, o, rfl⟩ _
      by_cases hx2 : x < 0 ∨ (ms.length : Int) ≤ x
      · have q := q ⟨x, List.mem_of_getElem? hk, hx2⟩
        walk_at "go1"
        refine g_d (fun h => ?_) (fun h => ?_)
        · walk_at "go1"
          exact q
        · walk_at "go1"
          exact q
      · walk_at "go1"
        refine ⟨_, Sub.refl _, .l, rfl, fun y hy => ?_, _, rfl⟩
        rw [take_snoc hk] at hy
        rcases List.mem_append.mp hy with hy | hy
        · exact hg y hy
        · rw [List.mem_singleton.mp hy]; exact hx2
    · rintro τ N ⟨rfl, hg, o, rfl⟩
      rw [List.take_length] at hg
      exact q2 fun ⟨x, h1, h2⟩ => hg x h1 h2
def tD (t : Int × Nat) : D := .tup [.int t.1, nD t.2]
def sp_xcp (C CC BW BC : Addr) : DSpX := fun ds M Q R => ∃ (p c m : Addr) (L : D) (ms : List Mk) (ts : List (Int × Nat)), ds = [.ref p, .ref c, L] ∧ M p = some (.ins C []) ∧ Ci CC M c m ms ∧ Srd M L (ts.map tD) ∧ ts.length ≤ 1000 ∧
  ((BadW ms.length (ts.map (·.1)) ∧ R BW M) ∨ (¬ BadW ms.length (ts.map (·.1)) ∧ (inN ms + gaN ms < 1 ∨ 200 < inN ms + gaN ms) ∧ R BC M))
theorem okx_Compiled_init (T : Top K mg) : MtX P w K mg base (clsA mg "Compiled") "__init__" ["self", "circuit", "told"] 3 (sp_xcp (clsA mg "Compiled") (clsA mg "Circuit") (clsA mg "BadWire") (clsA mg "BadCount")) := by
  refine okMX T.m_Compiled___init__ sc_Compiled_init (fun _ _ _ _ _ _ us hl => match us, hl with | [_, _, _], _ => rfl) ?len (fun f R W cdv A outer s H E tk hr =>
    (ssx_cons (sx_expr (ex_meth tk T.k_Circuit.cls (okx_Circuit_check T) (hr.mono (by first | decide | omega)) (dv 1) (da_cons (de_lc (own := [("wire", 6), ("_", 10)]) (p := .tp [6, 10]) rfl sc_Compiled_init.nd (di_list (dv 2)) (blkOk_by (own := [("wire", 6), ("_", 10)]) (N := ["self", "circuit", "told", "unknowns", "sums", "equations", "wire", "bit", "form", "constant", "_"]) (sc := defScope s_Compiled_init) (by decide +kernel)) (fun _ _ _ _ _ => (pg_tup rfl (pgs_cons (pg_name (i := 6) sc_Compiled_init.nd rfl (by first | exact Or.inl rfl | exact Or.inr rfl)) (pgs_cons (pg_name (i := 10) sc_Compiled_init.nd rfl (by first | exact Or.inl rfl | exact Or.inr rfl)) pgs_nil)))) (fun _ _ _ _ _ => dts_nil) (fun _ _ _ _ _ => (dv 6))) da_nil)))
      (ssx_cons (sx_of (ds_set (i := 3) sc_Compiled_init.nd rfl (by first | exact Or.inl rfl | exact Or.inr rfl) (de_op or_add (de_prop T.k_Circuit.cls (ok_Circuit_inputs T) (hr.mono (by first | decide | omega)) (dv 1)) (de_prop T.k_Circuit.cls (ok_Circuit_gates T) (hr.mono (by first | decide | omega)) (dv 1)))))
      (ssx_cons (sx_if (dt_w (dw_or (dt_cmp or_lt (dv 3) de_int (nomark _)) (dw_or1 (dt_cmp or_gt (dv 3) (de_glob T.g_MOST_UNKNOWNS (by rfl) (fun _ => .int _)) (nomark _)))))
        (ssx_one (sx_raiseO mg rfl rfl tk T.x_BadCount (by rfl)))
        ssx_nil)
      (ssx_of dss_never))))) ?body
  · rintro ds M Q R ⟨p, c, m, L, ms, ts, rfl, _⟩; rfl
  · rintro ds M Q R ⟨p, c, m, L, ms, ts, rfl, hp, hc, hL, htl, q⟩
    refine g_st (τ' := [some _, some _, some _, none, none, none, none, none, none, none, none]) rfl ?_
    have hcp := hc.1
    walk_at "go1"
    refine ⟨_, hL, by simp [Pat.within], lc_map tD (fun t => .int t.1) ts (by omega) hL (fun t ht A B h => ?_) (.inl ?_)⟩
    · obtain ⟨a, b⟩ := t
      show Pat.d _ (.tup [.int a, nD b]) _ _ _
      walk_at "lc"
      walk_at "go1"
      exact h
    walk_at "go1"
    refine ⟨c, m, ms, ts.map (·.1), by rw [List.map_map]; rfl, hc, fun hb => ?_, fun hb => ?_⟩
    · rcases q with q | q
      · exact q.2
      · exact absurd hb q.1
    · rcases q with q | q
      · exact absurd q.1 hb
      walk_at "go1"
      refine ⟨c, m, ms, rfl, hc, ?_⟩
      walk_at "go1"
      refine ⟨c, m, ms, rfl, hc, ?_⟩
      have h := q.2.1
      have q := q.2.2
      walk_at "go1"
      refine g_d (fun h => ?_) (fun h => ?_)
      · walk_at "go1"
        exact q
      · walk_at "go1"
        exact q
theorem mkx_Compiled (T : Top K mg) : MkrX P w K mg base "Compiled" ["self", "circuit", "told"] 3 (sp_xcp (clsA mg "Compiled") (clsA mg "Circuit") (clsA mg "BadWire") (clsA mg "BadCount")) := MkrX.of T.k_Compiled T.i_Compiled (okx_Compiled_init T)
def sp_lwref (C : Addr) : DSp := fun ds M Q => ∃ (c m : Addr) (L : D) (ms : List Mk) (ts : List (Int × Nat)), ds = [.ref c, L] ∧ Ci C M c m ms ∧ Srd M L (ts.map tD) ∧ ts.length ≤ 1000 ∧ BadW ms.length (ts.map (·.1)) ∧ Q (.bl true) M
theorem ok_law_wire_refused (T : Top K mg) : Fn P w K mg base "_law_wire_refused" ["circuit", "told"] 5 (sp_lwref (clsA mg "Circuit")) := by
  refine okF T.d_law_wire_refused sc_law_wire_refused (fun _ _ _ _ _ _ us hl => match us, hl with | [_, _], _ => rfl) ?len (fun f cdv A outer s H E hr =>
    (dss_cons (ds_try (X := bodyX P w K mg base ["circuit", "told", "e"] "_law_wire_refused" s_law_wire_refused f cdv A outer s H E) (i := 2) (c := .ref (clsA mg "BadWire")) K rfl rfl rfl sc_law_wire_refused.nd rfl rfl ⟨by rfl, by decide, .inl T.x_BadWire.at_⟩ (fun R W pn xe tk hp =>
        (ssx_one (sx_expr (ex_mk tk (mkx_Compiled T) T.k_Compiled (hr.mono (by first | decide | omega)) (by rfl) (da_cons (dv 0) (da_cons (dv 1) da_nil)))))) (fun C a oe pn hz hf =>
        (dss_one (ds_ret (de_and (de_isX K (i := 2) rfl hz hf rfl (by first | exact Or.inl rfl | exact Or.inr (Or.inl rfl) | exact Or.inr (Or.inr rfl)) (by rfl) T.b_isinstance (pe_glob (v := .ref _) (by rfl) T.x_ProofError.at_ rfl (by decide)) (fun _ h => h)) (de_and (de_isX K (i := 2) rfl hz hf rfl (by first | exact Or.inl rfl | exact Or.inr (Or.inl rfl) | exact Or.inr (Or.inr rfl)) (by rfl) T.b_isinstance (pe_bltn (v := .ty "ValueError") (by rfl) T.b_ValueError (by decide +kernel) rfl (by decide) (by decide)) (fun _ h => h)) (de_one (de_not (de_isX K (i := 2) rfl hz hf rfl (by first | exact Or.inl rfl | exact Or.inr (Or.inl rfl) | exact Or.inr (Or.inr rfl)) (by rfl) T.b_isinstance (pe_glob (v := .ref _) (by rfl) T.x_BadCount.at_ rfl (by decide)) (fun _ h => h))))))))))
      (dss_one (ds_ret de_bl)))) ?body
  · rintro ds M Q ⟨c, m, L, ms, ts, rfl, _⟩; rfl
  · rintro ds M Q ⟨c, m, L, ms, ts, rfl, hc, hL, htl, hb, q⟩
    refine g_st (τ' := [some _, some _, none]) rfl ?_
    walk_at "go1"
    intro p hp
    refine ⟨p, c, m, L, ms, ts, rfl, Mem.put_same, hc.new hp, srd_new hL hp, htl, .inl ⟨hb, T.v_BadWire__BadWire, fun a ha => ?_⟩⟩
    simp only [List.set_cons_succ, List.set_cons_zero]
    walk_at "go1"
    refine ⟨true, T.y_BadWire, T.z_BadWire__ProofError, rfl, ?_⟩
    walk_at "go1"
    refine ⟨true, T.y_BadWire, T.z_BadWire__ValueError, rfl, ?_⟩
    walk_at "go1"
    refine ⟨false, T.y_BadWire, T.z_BadWire__BadCount, rfl, ?_⟩
    walk_at "go1"
    exact r_sub (Sub.new hp) q
def sp_lcref (C : Addr) : DSp := fun ds M Q => ∃ (c m : Addr) (L : D) (ms : List Mk) (ts : List (Int × Nat)), ds = [.ref c, L] ∧ Ci C M c m ms ∧ Srd M L (ts.map tD) ∧ ts.length ≤ 1000 ∧ ¬ BadW ms.length (ts.map (·.1)) ∧ (inN ms + gaN ms < 1 ∨ 200 < inN ms + gaN ms) ∧ Q (.bl true) M
theorem ok_law_count_refused (T : Top K mg) : Fn P w K mg base "_law_count_refused" ["circuit", "told"] 5 (sp_lcref (clsA mg "Circuit")) := by
  refine okF T.d_law_count_refused sc_law_count_refused (fun _ _ _ _ _ _ us hl => match us, hl with | [_, _], _ => rfl) ?len (fun f cdv A outer s H E hr =>
    (dss_cons (ds_try (X := bodyX P w K mg base ["circuit", "told", "e"] "_law_count_refused" s_law_count_refused f cdv A outer s H E) (i := 2) (c := .ref (clsA mg "ProofError")) K rfl rfl rfl sc_law_count_refused.nd rfl rfl ⟨by rfl, by decide, .inl T.x_ProofError.at_⟩ (fun R W pn xe tk hp =>
        (ssx_one (sx_expr (ex_mk tk (mkx_Compiled T) T.k_Compiled (hr.mono (by first | decide | omega)) (by rfl) (da_cons (dv 0) (da_cons (dv 1) da_nil)))))) (fun C a oe pn hz hf =>
        (dss_one (ds_ret (de_and (de_isX K (i := 2) rfl hz hf rfl (by first | exact Or.inl rfl | exact Or.inr (Or.inl rfl) | exact Or.inr (Or.inr rfl)) (by rfl) T.b_isinstance (pe_glob (v := .ref _) (by rfl) T.x_BadCount.at_ rfl (by decide)) (fun _ h => h)) (de_and (de_isX K (i := 2) rfl hz hf rfl (by first | exact Or.inl rfl | exact Or.inr (Or.inl rfl) | exact Or.inr (Or.inr rfl)) (by rfl) T.b_isinstance (pe_bltn (v := .ty "ValueError") (by rfl) T.b_ValueError (by decide +kernel) rfl (by decide) (by decide)) (fun _ h => h)) (de_one (de_not (de_isX K (i := 2) rfl hz hf rfl (by first | exact Or.inl rfl | exact Or.inr (Or.inl rfl) | exact Or.inr (Or.inr rfl)) (by rfl) T.b_isinstance (pe_glob (v := .ref _) (by rfl) T.x_BadWire.at_ rfl (by decide)) (fun _ h => h))))))))))
      (dss_one (ds_ret de_bl)))) ?body
  · rintro ds M Q ⟨c, m, L, ms, ts, rfl, _⟩; rfl
  · rintro ds M Q ⟨c, m, L, ms, ts, rfl, hc, hL, htl, hb, hn, q⟩
    refine g_st (τ' := [some _, some _, none]) rfl ?_
    walk_at "go1"
    intro p hp
    refine ⟨p, c, m, L, ms, ts, rfl, Mem.put_same, hc.new hp, srd_new hL hp, htl, .inr ⟨hb, hn, T.v_BadCount__ProofError, fun a ha => ?_⟩⟩
    simp only [List.set_cons_succ, List.set_cons_zero]
    walk_at "go1"
    refine ⟨true, T.y_BadCount, T.z_BadCount__BadCount, rfl, ?_⟩
    walk_at "go1"
    refine ⟨true, T.y_BadCount, T.z_BadCount__ValueError, rfl, ?_⟩
    walk_at "go1"
    refine ⟨false, T.y_BadCount, T.z_BadCount__BadWire, rfl, ?_⟩
    walk_at "go1"
    exact r_sub (Sub.new hp) q
theorem in_ga : ∀ ms : List Mk, inN ms + gaN ms ≤ ms.length
  | [] => Nat.le_refl 0
  | k :: ms => by
    have ih := in_ga ms
    unfold inN gaN at ih ⊢
    rw [List.filter_cons, List.filter_cons, List.length_cons]
    cases k <;> simp only [Mk.isInp, Mk.gate, Bool.false_eq_true, if_false, if_true, List.length_cons] <;> omega
/-! the law makes a circuit of marks -/
def sp_lmade (C : Addr) : DSp := fun ds M Q => ∃ (E : D) (ms : List Mk), ds = [E] ∧ Srd M E (ms.map Mk.d) ∧ Wf ms ∧ ms.length ≤ 50000 ∧ ∀ p m, M p = none → M m = none → p ≠ m → Q (.ref p) (ciM C M p m ms)
theorem ok_law_made (T : Top K mg) : Fn P w K mg base "_law_made" ["marks"] 6 (sp_lmade (clsA mg "Circuit")) := by
  refine okF T.d_law_made sc_law_made (fun _ _ _ _ _ _ us hl => match us, hl with | [_], _ => rfl) ?len (fun f cdv A outer s H E hr =>
    (dss_cons (ds_set (i := 1) sc_law_made.nd rfl (by first | exact Or.inl rfl | exact Or.inr rfl) (de_mk0 (mk_Circuit T) T.k_Circuit (hr.mono (by first | decide | omega)) (by rfl)))
      (dss_cons (ds_for PassesOwn.never rfl (di_list (dv 0)) (dg_name (i := 2) sc_law_made.nd rfl (by first | exact Or.inl rfl | exact Or.inr rfl))
        (dss_one (ds_expr (de_fn (ok_law_make T) (hr.mono (by first | decide | omega)) (by rfl) (da_cons (dv 1) (da_cons (dv 2) da_nil))))))
      (dss_one (ds_ret (dv 1)))))) ?body
  · rintro ds M Q ⟨E, ms, rfl, _⟩; rfl
  · rintro ds M Q ⟨E, ms, rfl, hE, hw, hl, q⟩
    refine g_st (τ' := [some _, none, none]) rfl ?_
    walk_at "go1"
    intro p hp
    refine ⟨p, rfl, Mem.put_same, fun m hm => ?_⟩
    obtain ⟨hmp, hm⟩ := put_none hm
    have e0 : ((M.put p (.ins (clsA mg "Circuit") [])).put m (msO [])).put p (ciO (clsA mg "Circuit") m 0 0) = ciM (clsA mg "Circuit") M p m [] := by
      unfold ciM; rw [Mem.put_comm hmp, Mem.put_put]; rfl
    rw [e0]
    refine ⟨rfl, r_same ?_⟩
    have hE2 : ∀ ns, Srd (ciM (clsA mg "Circuit") M p m ns) E (ms.map Mk.d) := fun ns => srd_new (srd_new hE hp) (by rw [Mem.put_ne hmp]; exact hm)
    have hc : ∀ ns : List Mk, ns.length ≤ 100000 → Ci (clsA mg "Circuit") (ciM (clsA mg "Circuit") M p m ns) p m ns := fun ns h => ⟨by unfold ciM; rw [Mem.put_ne (Ne.symm hmp)]; exact Mem.put_same, Mem.put_same, h⟩
    walk_at "go1"
    refine g_lokS (hE2 _) ?_
    walk_at "go1"
    refine f_lst Mk.d ms (fun k τ N => N = ciM (clsA mg "Circuit") M p m (ms.take k) ∧ ∃ y : Option D, τ = [some E, some (.ref p), y]) ⟨by rw [List.take_zero], _, rfl⟩ ?_ ?_
    · rintro k y τ N hk ⟨rfl, z, rfl⟩ _
      have hkl := (List.getElem?_eq_some_iff.mp hk).1
      have hlt : (ms.take k).length = k := by rw [List.length_take]; omega
      have hx := hw k y hk
      walk_at "go1"
      refine ⟨p, m, ms.take k, y, rfl, hc _ (by omega), by omega, hx.1, hx.2.1, ?_⟩
      walk_at "go1"
      rw [ciM_ciM (Ne.symm hmp), ← take_snoc hk]
      exact ⟨_, Sub.refl _, hE2 _, rfl, _, rfl⟩
    · rintro τ N ⟨rfl, z, rfl⟩
      rw [List.take_length]
      walk_at "go1"
      exact r_same (q p m hp hm (Ne.symm hmp))
/-! a source of draws and a list of its own, over what was there -/
theorem sub_put {A B : Mem} {s : Addr} {o : MO} (h : Sub A B) : Sub (A.put s o) (B.put s o) := fun a u e => by
  by_cases ha : a = s
  · subst ha; rw [Mem.put_same] at e ⊢; exact e
  · rw [Mem.put_ne ha] at e ⊢; exact h a u e
def MB (M : Mem) (s a : Addr) (o X : MO) (N : Mem) : Prop := a ≠ s ∧ ∃ N0, N0 a = none ∧ N0 s = some o ∧ Sub (M.put s o) N0 ∧ N = N0.put a X
section
variable {M N : Mem} {s a : Addr} {o X : MO}
theorem MB.ne (h : MB M s a o X N) : s ≠ a := Ne.symm h.1
theorem MB.so (h : MB M s a o X N) : N s = some o := by
  obtain ⟨h1, N0, h2, h3, h4, rfl⟩ := h
  rw [Mem.put_ne (Ne.symm h1)]; exact h3
theorem MB.ax (h : MB M s a o X N) : N a = some X := by
  obtain ⟨h1, N0, h2, h3, h4, rfl⟩ := h
  exact Mem.put_same
theorem MB.puts (h : MB M s a o X N) (o' : MO) : MB M s a o' X (N.put s o') := by
  obtain ⟨h1, N0, h2, h3, h4, rfl⟩ := h
  refine ⟨h1, N0.put s o', by rw [Mem.put_ne h1]; exact h2, Mem.put_same, ?_, Mem.put_comm h1⟩
  have := sub_put (s := s) (o := o') h4
  rwa [Mem.put_put] at this
theorem MB.puta (h : MB M s a o X N) (X' : MO) : MB M s a o X' (N.put a X') := by
  obtain ⟨h1, N0, h2, h3, h4, rfl⟩ := h
  exact ⟨h1, N0, h2, h3, h4, Mem.put_put⟩
theorem MB.new (hs : M s = some o) (ha : M a = none) (X : MO) : MB M s a o X (M.put a X) := ⟨Ne.symm (Mem.ne_of hs ha), M, ha, hs, by rw [Mem.put_self hs]; exact Sub.refl _, rfl⟩
/-- the list left, another one taken -/
theorem MB.again (h : MB M s a o X N) {b : Addr} (hb : N b = none) (Y : MO) : MB M s b o Y (N.put b Y) := by
  have hs := h.so
  obtain ⟨h1, N0, h2, h3, h4, rfl⟩ := h
  exact ⟨Ne.symm (Mem.ne_of hs hb), _, hb, hs, h4.trans (Sub.new h2), rfl⟩
theorem MB.out (h : MB M s a o X N) : ∃ N0, Sub N0 N ∧ N0 a = none ∧ N a = some X ∧ Sub (M.put s o) N0 := by
  have ha := h.ax
  obtain ⟨h1, N0, h2, h3, h4, rfl⟩ := h
  exact ⟨N0, Sub.new h2, h2, ha, h4⟩
theorem MB.view {ds : List D} {Q : D → Mem → Prop} (h : MB M s a o (.lst ds) N) (q : Q (.lst ds) (M.put s o)) : ∃ N' e, View N (.ref a) N' e ∧ Q e N' := by
  obtain ⟨N0, h1, h2, h3, h4⟩ := h.out
  refine r_lst (h4.trans h1) ?_ h3 q
  cases e : (M.put s o) a with
  | none => rfl
  | some u => rw [h4 a u e] at h2; cases h2
end
theorem g_niS {M : Mem} {Q : D → Mem → Prop} {a : Str} (ns : List Str) {xs : List D} (e : xs = ns.map .str) (q : Q (.bl (!decide (a ∈ ns))) M) : oInS true (.str a) (.tup xs) M Q := ⟨a, ns, rfl, .inr (by rw [e]), q⟩
def sp_lgood (C CB : Addr) : DSp := fun ds M Q => ∃ (ms : List Mk) (ts : List P2) (xs : List D), ds = [cpo C CB ms ts, .lst (ms.map Mk.d), .lst xs] ∧ xs.length = ts.length ∧ ts.length ≤ 800 ∧ ms.length ≤ 1000 ∧ Wf ms ∧ (∀ t ∈ ts, t.2 < 2) ∧ 1 ≤ inN ms + gaN ms ∧ inN ms + gaN ms ≤ 200 ∧ Q (.bl true) M
theorem ok_law_good_equations (T : Top K mg) : Fn P w K mg base "_law_good_equations" ["compiled", "marks", "told"] 6 (sp_lgood (clsA mg "Compiled") (clsA mg "Book")) := by
  refine okF T.d_law_good_equations sc_law_good_equations (fun _ _ _ _ _ _ us hl => match us, hl with | [_, _, _], _ => rfl) ?len (fun f cdv A outer s H E hr =>
    (dss_cons (ds_set (i := 3) sc_law_good_equations.nd rfl (by first | exact Or.inl rfl | exact Or.inr rfl) (de_op or_add (de_fn (ok_law_inputs T) (hr.mono (by first | decide | omega)) (by rfl) (da_cons (dv 1) da_nil)) (de_fn (ok_law_gates T) (hr.mono (by first | decide | omega)) (by rfl) (da_cons (dv 1) da_nil))))
      (dss_cons (ds_if (dt_w (dw_or (dt_not (dt_tru (de_fn (ok_law_is_integer T) (hr.mono (by first | decide | omega)) (by rfl) (da_cons (de_prop T.k_Compiled.cls (ok_Compiled_unknowns T) (hr.mono (by first | decide | omega)) (dv 0)) da_nil)))) (dw_or1 (dt_cmp (or_ne hr.units) (de_prop T.k_Compiled.cls (ok_Compiled_unknowns T) (hr.mono (by first | decide | omega)) (dv 0)) (dv 3) (nomark _)))))
        (dss_one (ds_ret de_bl))
        dss_nil)
      (dss_cons (ds_set (i := 4) sc_law_good_equations.nd rfl (by first | exact Or.inl rfl | exact Or.inr rfl) (de_prop T.k_Compiled.cls (ok_Compiled_book T) (hr.mono (by first | decide | omega)) (dv 0)))
      (dss_cons (ds_if (dt_w (dw_or (dt_not (dt_tru (de_callB (cd_isiO T.k_Book.cls T.o_Book) (by rfl) T.b_isinstance (by decide +kernel) (da_cons (dv 4) (da_cons (de_glob (v := .ref _) ⟨_, T.k_Book.at_, rfl⟩ (by rfl) (fun _ => .ref _)) da_nil))))) (dw_or (dt_not (dt_tru (de_fn (ok_law_is_integer T) (hr.mono (by first | decide | omega)) (by rfl) (da_cons (de_prop T.k_Book.cls (ok_Book_unknowns T) (hr.mono (by first | decide | omega)) (dv 4)) da_nil)))) (dw_or1 (dt_cmp (or_ne hr.units) (de_prop T.k_Book.cls (ok_Book_unknowns T) (hr.mono (by first | decide | omega)) (dv 4)) (dv 3) (nomark _))))))
        (dss_one (ds_ret de_bl))
        dss_nil)
      (dss_cons (ds_if (dt_w (dw_or (dt_not (dt_tru (de_callB (cd_isi .tuple) (by rfl) T.b_isinstance (by decide +kernel) (da_cons (de_prop T.k_Book.cls (ok_Book_equations T) (hr.mono (by first | decide | omega)) (dv 4)) (da_cons (de_tyname (n := "tuple") (by rfl) T.b_tuple (by decide +kernel)) da_nil))))) (dw_or1 (dt_cmp (or_ne hr.units) (de_callB cd_len (by rfl) T.b_len (by decide +kernel) (da_cons (de_prop T.k_Book.cls (ok_Book_equations T) (hr.mono (by first | decide | omega)) (dv 4)) da_nil)) (de_op or_add (de_fn (ok_law_gates T) (hr.mono (by first | decide | omega)) (by rfl) (da_cons (dv 1) da_nil)) (de_callB cd_len (by rfl) T.b_len (by decide +kernel) (da_cons (dv 2) da_nil))) (nomark _)))))
        (dss_one (ds_ret de_bl))
        dss_nil)
      (dss_cons (ds_set (i := 5) sc_law_good_equations.nd rfl (by first | exact Or.inl rfl | exact Or.inr rfl) (de_op or_shl de_int (de_op or_div (de_op or_mul (dv 3) (de_op or_add (dv 3) de_int)) de_int)))
      (dss_cons (ds_for PassesOwn.never rfl (di_tup (de_prop T.k_Book.cls (ok_Book_equations T) (hr.mono (by first | decide | omega)) (dv 4))) (dg_name (i := 6) sc_law_good_equations.nd rfl (by first | exact Or.inl rfl | exact Or.inr rfl))
        (dss_cons (ds_if (dt_w (dw_or (dt_not (dt_tru (de_callB (cd_isi .tuple) (by rfl) T.b_isinstance (by decide +kernel) (da_cons (dv 6) (da_cons (de_tyname (n := "tuple") (by rfl) T.b_tuple (by decide +kernel)) da_nil))))) (dw_or1 (dt_cmp (or_ne hr.units) (de_callB cd_len (by rfl) T.b_len (by decide +kernel) (da_cons (dv 6) da_nil)) de_int (nomark _)))))
          (dss_one (ds_ret de_bl))
          dss_nil)
        (dss_cons (ds_if (dt_w (dw_or (dt_not (dt_tru (de_fn (ok_law_is_integer T) (hr.mono (by first | decide | omega)) (by rfl) (da_cons (de_ix (dv 6) de_int) da_nil)))) (dw_or1 (dt_not (dt_tru (de_fn (ok_law_is_integer T) (hr.mono (by first | decide | omega)) (by rfl) (da_cons (de_ix (dv 6) de_int) da_nil)))))))
          (dss_one (ds_ret de_bl))
          dss_nil)
        (dss_one (ds_if (dt_w (dw_or (dt_cmp or_lt (de_ix (dv 6) de_int) de_int (nomark _)) (dw_or (dt_cmp or_ge (de_ix (dv 6) de_int) (dv 5) (nomark _)) (dw_or (dt_cmp or_lt (de_ix (dv 6) de_int) de_int (nomark _)) (dw_or1 (dt_cmp or_gt (de_ix (dv 6) de_int) de_int (nomark _)))))))
          (dss_one (ds_ret de_bl))
          dss_nil)))))
      (dss_one (ds_ret de_bl)))))))))) ?body
  · rintro ds M Q ⟨ms, ts, xs, rfl, _⟩; rfl
  · rintro ds M Q ⟨ms, ts, xs, rfl, hxl, htl, hl, hw, hts, hc1, hc2, q⟩
    refine g_st (τ' := [some _, some _, some _, none, none, none, none]) rfl ?_
    have hel := cpEs_len (ts := ts) hw.ok
    have heo := cpEs_ok (ts := ts) hw.ok hts
    have hig := in_ga ms
    have hN : Nof (inN ms + gaN ms) ≤ 20100 := Nat.le_trans (Nof_le hc2) (by decide)
    walk_at "go1"
    refine ⟨_, ms, rfl, .l, by omega, ?_⟩
    walk_at "go1"
    refine ⟨_, ms, rfl, .l, by omega, ?_⟩
    walk_at "go1"
    rw [show (inN ms : Int) + (gaN ms : Int) = ((inN ms + gaN ms : Nat) : Int) from (Int.natCast_add _ _).symm]
    refine ⟨ms, ts, rfl, ?_⟩
    walk_at "go1"
    refine ⟨_, rfl, ?_⟩
    walk_at "go1"
    refine ⟨ms, ts, rfl, ?_⟩
    walk_at "go1"
    refine ⟨ms, ts, rfl, ?_⟩
    walk_at "go1"
    refine ⟨_, _, rfl, ?_⟩
    walk_at "go1"
    refine ⟨_, rfl, ?_⟩
    walk_at "go1"
    refine ⟨_, _, rfl, ?_⟩
    walk_at "go1"
    refine ⟨_, _, rfl, ?_⟩
    walk_at "go1"
    refine ⟨_, _, rfl, ?_⟩
    walk_at "go1"
    refine ⟨_, ms, rfl, .l, by omega, ?_⟩
    have hN2 : (inN ms + gaN ms) * (inN ms + gaN ms + 1) / 2 ≤ 20100 := hN
    generalize hu : inN ms + gaN ms = u at hN hN2 hc1 hc2 heo
    generalize cpEs ms ts = es at hel heo
    walk_at "go1"
    rw [Nat.one_mul]
    refine ⟨u, es, rfl, ?_⟩
    have hNe : u * (u + 1) / 2 = Nof u := rfl
    rw [hNe]
    walk_at "go1"
    refine f_lst eD es (fun k τ N => N = M ∧ ∃ x, τ = [some (cpo (clsA mg "Compiled") (clsA mg "Book") ms ts), some (.lst (ms.map Mk.d)), some (.lst xs), some (nD u), some (bo (clsA mg "Book") u es), some (nD (2 ^ Nof u)), x]) ⟨rfl, _, rfl⟩ ?_ ?_
    · rintro k e τ N hk ⟨rfl, x, rfl⟩ _
      obtain ⟨f, b⟩ := e
      obtain ⟨hf, hb⟩ := heo _ (List.mem_of_getElem? hk)
      have hf : f < 2 ^ Nof u := hf
      have hb : b < 2 := hb
      show gNm _ (.tup [nD f, nD b]) _ _ _
      generalize 2 ^ Nof u = B at hf
      walk_at "go1"
      refine ⟨_, rfl, ?_⟩
      walk_at "go1"
      refine ⟨_, rfl, ?_⟩
      walk_at "go1"
      exact ⟨_, Sub.refl _, trivial, rfl, _, rfl⟩
    rintro τ N ⟨rfl, x, rfl⟩
    walk_at "go1"
    exact r_same q
def sp_lpmark : DSp := fun ds M Q => ∃ (s a : Addr) (o : MO) (ms : List Mk), ds = [.ref s, .ref a] ∧ M s = some o ∧ Hs o ∧ M a = some (msO ms) ∧ ms.length ≤ 100000 ∧ s ≠ a ∧
  ∀ (k : Mk) o', Hs o' → Nx ms k → Q k.d (M.put s o')
theorem ok_law_plain_mark (T : Top K mg) (S : Sr P base) : Fn P w K mg base "_law_plain_mark" ["state", "marks"] 35 sp_lpmark := by
  refine okF T.d_law_plain_mark sc_law_plain_mark (fun _ _ _ _ _ _ us hl => match us, hl with | [_, _], _ => rfl) ?len (fun f cdv A outer s H E hr =>
    (dss_cons (ds_if (dt_w (dw_or (dt_cmp (or_eq hr.units) (de_callB cd_len (by rfl) T.b_len (by decide +kernel) (da_cons (dv 1) da_nil)) de_int (nomark _)) (dw_or1 (dt_cmp (or_eq hr.units) (de_fn (ok_law_draw T S) (hr.mono (by first | decide | omega)) (by rfl) (da_cons (dv 0) (da_cons de_int da_nil))) de_int (nomark _)))))
        (dss_one (ds_ret (de_tup (da_cons de_str (da_cons (de_fn (ok_law_draw T S) (hr.mono (by first | decide | omega)) (by rfl) (da_cons (dv 0) (da_cons de_int da_nil))) da_nil)))))
        dss_nil)
      (dss_cons (ds_if (dt_cmp (or_eq hr.units) (de_fn (ok_law_draw T S) (hr.mono (by first | decide | omega)) (by rfl) (da_cons (dv 0) (da_cons de_int da_nil))) de_int (nomark _))
        (dss_one (ds_ret (de_tup (da_cons de_str (da_cons (de_fn (ok_law_draw T S) (hr.mono (by first | decide | omega)) (by rfl) (da_cons (dv 0) (da_cons (de_callB cd_len (by rfl) T.b_len (by decide +kernel) (da_cons (dv 1) da_nil)) da_nil))) da_nil)))))
        dss_nil)
      (dss_one (ds_ret (de_tup (da_cons de_str (da_cons (de_fn (ok_law_draw T S) (hr.mono (by first | decide | omega)) (by rfl) (da_cons (dv 0) (da_cons (de_callB cd_len (by rfl) T.b_len (by decide +kernel) (da_cons (dv 1) da_nil)) da_nil))) (da_cons (de_fn (ok_law_draw T S) (hr.mono (by first | decide | omega)) (by rfl) (da_cons (dv 0) (da_cons (de_callB cd_len (by rfl) T.b_len (by decide +kernel) (da_cons (dv 1) da_nil)) da_nil))) da_nil))))))))) ?body
  · rintro ds M Q ⟨s, a, o, ms, rfl, _⟩; rfl
  · rintro ds M Q ⟨s, a, o, ms, rfl, hs, ho, ha, hl, hne, q⟩
    refine g_st (τ' := [some _, some _]) rfl ?_
    have ha2 : ∀ o, (M.put s o) a = some (.lst (ms.map Mk.d)) := fun o => by rw [Mem.put_ne (Ne.symm hne)]; exact ha
    have hs2 : ∀ o, (M.put s o) s = some o := fun o => Mem.put_same
    have con : ∀ (d : Nat) (o : MO), Hs o → d < 2 → Q (.tup [.str "constant", nD d]) (M.put s o) := fun d o ho hd => q (.con d) o ho ⟨(fun _ h => by cases h), (fun j h => by cases h), fun b h => by cases h; exact hd⟩
    walk_at "go1"
    rw [List.length_map]
    rcases Nat.eq_zero_or_pos ms.length with h0 | h0
    · walk_at "go1"
      refine dr hs ho (by decide) fun d o ho hd => ?_
      walk_at "go1"
      exact r_same (con d o ho (by omega))
    · walk_at "go1"
      refine dr hs ho (by decide) fun d o ho hd => ?_
      walk_at "go1"
      refine g_d (fun h => ?_) (fun h => ?_)
      · walk_at "go1"
        refine dr (hs2 _) ho (by decide) fun d o ho hd => ?_
        rw [Mem.put_put]
        walk_at "go1"
        exact r_same (con d o ho (by omega))
      walk_at "go1"
      refine dr (hs2 _) ho (by decide) fun d o ho hd => ?_
      rw [Mem.put_put]
      have ha3 := ha2 o
      walk_at "go1"
      refine g_d (fun h => ?_) (fun h => ?_)
      · walk_at "go1"
        rw [List.length_map]
        refine dr (hs2 _) ho (by omega) fun d o ho hd => ?_
        rw [Mem.put_put]
        walk_at "go1"
        exact r_same (q (.opp d) o ho ⟨fun x hx => by rw [List.mem_singleton.mp hx]; omega, (fun j h => by cases h), fun b h => by cases h⟩)
      · walk_at "go1"
        rw [List.length_map]
        refine dr (hs2 _) ho (by omega) fun d o ho hd => ?_
        rw [Mem.put_put]
        have ha3 := ha2 o
        walk_at "go1"
        rw [List.length_map]
        refine dr (hs2 _) ho (by omega) fun e o ho he => ?_
        rw [Mem.put_put]
        walk_at "go1"
        exact r_same (q (.plu d e) o ho ⟨fun x hx => by simp only [Mk.ws, List.mem_cons, List.not_mem_nil, or_false] at hx; omega, (fun j h => by cases h), fun b h => by cases h⟩)
def sp_lmarks : DSp := fun ds M Q => ∃ (s : Addr) (o : MO) (ch : Nat), ds = [.ref s, nD ch] ∧ M s = some o ∧ Hs o ∧
  ∀ ms o', Hs o' → Wf ms → ms.length ≤ 300 → Q (.lst (ms.map Mk.d)) (M.put s o')
theorem ok_law_marks (T : Top K mg) (S : Sr P base) : Fn P w K mg base "_law_marks" ["state", "choice"] 36 sp_lmarks := by
  refine okF T.d_law_marks sc_law_marks (fun _ _ _ _ _ _ us hl => match us, hl with | [_, _], _ => rfl) ?len (fun f cdv A outer s H E hr =>
    (dss_cons (ds_set (i := 2) sc_law_marks.nd rfl (by first | exact Or.inl rfl | exact Or.inr rfl) (de_fn (ok_law_draw T S) (hr.mono (by first | decide | omega)) (by rfl) (da_cons (dv 0) (da_cons de_int da_nil))))
      (dss_cons (ds_cut (ds_if (dt_cmp (or_eq hr.units) (de_fn (ok_law_draw T S) (hr.mono (by first | decide | omega)) (by rfl) (da_cons (dv 0) (da_cons de_int da_nil))) de_int (nomark _))
        (dss_one (ds_set (i := 2) sc_law_marks.nd rfl (by first | exact Or.inl rfl | exact Or.inr rfl) (de_op or_add (dv 2) de_int)))
        dss_nil))
      (dss_cons (ds_set (i := 3) sc_law_marks.nd rfl (by first | exact Or.inl rfl | exact Or.inr rfl) (de_lst da_nil))
      (dss_cons (ds_for PassesOwn.never rfl (di_range1 (by rfl) T.b_range (da_cons (dv 2) da_nil)) (dg_name (i := 4) sc_law_marks.nd rfl (by first | exact Or.inl rfl | exact Or.inr rfl))
        (dss_one (ds_cut (ds_if (dt_cmp (or_eq hr.units) (dv 1) de_int (nomark _))
          (dss_one (ds_expr (de_bm PySem.F.plainAttrs_list PySem.F.slot_list_append PySem.F.type_list_append ckL_ok md_append (dv 3) (da_cons (de_fn (ok_law_plain_mark T S) (hr.mono (by first | decide | omega)) (by rfl) (da_cons (dv 0) (da_cons (dv 3) da_nil))) da_nil))))
          (dss_one (ds_expr (de_bm PySem.F.plainAttrs_list PySem.F.slot_list_append PySem.F.type_list_append ckL_ok md_append (dv 3) (da_cons (de_fn (ok_law_mark T S) (hr.mono (by first | decide | omega)) (by rfl) (da_cons (dv 0) (da_cons (dv 3) da_nil))) da_nil))))))))
      (dss_cons (ds_cut (ds_if (dt_cmp (or_eq hr.units) (dv 1) de_int (nomark _))
        (dss_cons (ds_set (i := 5) sc_law_marks.nd rfl (by first | exact Or.inl rfl | exact Or.inr rfl) (de_op or_add de_int (de_fn (ok_law_draw T S) (hr.mono (by first | decide | omega)) (by rfl) (da_cons (dv 0) (da_cons de_int da_nil)))))
        (dss_one (ds_for PassesOwn.never rfl (di_range1 (by rfl) T.b_range (da_cons (de_op or_sub (de_op or_sub (dv 5) (de_fn (ok_law_inputs T) (hr.mono (by first | decide | omega)) (by rfl) (da_cons (dv 3) da_nil))) (de_fn (ok_law_gates T) (hr.mono (by first | decide | omega)) (by rfl) (da_cons (dv 3) da_nil))) da_nil)) (dg_name (i := 4) sc_law_marks.nd rfl (by first | exact Or.inl rfl | exact Or.inr rfl))
          (dss_one (ds_expr (de_bm PySem.F.plainAttrs_list PySem.F.slot_list_append PySem.F.type_list_append ckL_ok md_append (dv 3) (da_cons (de_tup (da_cons de_str (da_cons (de_fn (ok_law_inputs T) (hr.mono (by first | decide | omega)) (by rfl) (da_cons (dv 3) da_nil)) da_nil))) da_nil)))))))
        dss_nil))
      (dss_one (ds_ret (dv 3))))))))) ?body
  · rintro ds M Q ⟨s, o, ch, rfl, _⟩; rfl
  · rintro ds M Q ⟨s, o, ch, rfl, hs, ho, q⟩
    refine g_st (τ' := [some _, some _, none, none, none, none]) rfl ?_
    rw [← Mem.put_self hs]
    walk_at "go1"
    refine dr Mem.put_same ho (by decide) fun n o ho hn => ?_
    rw [Mem.put_put]
    walk_at "go1"
    refine g_cut (fun τ N => ∃ (n : Nat) (o : MO), n ≤ 80 ∧ Hs o ∧ N = M.put s o ∧ τ = [some (.ref s), some (nD ch), some (nD n), none, none, none]) ?_ ?_
    · walk_at "go1"
      refine dr Mem.put_same ho (by decide) fun d o ho hd => ?_
      rw [Mem.put_put]
      walk_at "go1"
      refine g_d (fun h => ?_) (fun h => ?_)
      · walk_at "go1"
        exact ⟨_, Sub.refl _, n + 60, o, by omega, ho, rfl, rfl⟩
      · walk_at "go1"
        exact ⟨_, Sub.refl _, n, o, by omega, ho, rfl, rfl⟩
    clear ho hn
    rintro τ N ⟨n, o, hn, ho, rfl, rfl⟩
    walk_at "go1"
    refine .inr fun a ha => ?_
    have hs2 : (M.put s o) s = some o := Mem.put_same
    have H : MB M s a o (msO []) ((M.put s o).put a (.lst [])) := by
      obtain ⟨h1, N0, h2, h3, h4, h5⟩ := MB.new hs2 ha (.lst [])
      exact ⟨h1, N0, h2, h3, by rwa [Mem.put_put] at h4, h5⟩
    generalize (M.put s o).put a (.lst []) = N at H
    have snoc : ∀ (ms : List Mk) (o : MO) (N : Mem) (y : Mk), MB M s a o (msO ms) N → MB M s a o (msO (ms ++ [y])) (N.put a (.lst (ms.map Mk.d ++ [y.d]))) := fun ms o N y H => by
      have := H.puta (msO (ms ++ [y]))
      rw [show ms.map Mk.d ++ [y.d] = (ms ++ [y]).map Mk.d by rw [List.map_append]; rfl]
      exact this
    walk_at "go1"
    let τ0 : Option D → Option D → DSt := fun x y => [some (.ref s), some (nD ch), some (nD n), some (.ref a), x, y]
    refine f_rng0 (n := n) (fun k τ N => ∃ (ms : List Mk) (o : MO) (x : Option D), Hs o ∧ Wf ms ∧ ms.length = k ∧ MB M s a o (msO ms) N ∧ τ = τ0 x none) ⟨[], o, _, ho, Wf.nil, rfl, H, rfl⟩ ?_ ?_
    · clear H ho
      rintro k τ N hk ⟨ms, o, x, ho, hw, hl, H, rfl⟩
      walk_at "go1"
      refine g_cut (fun τ N => ∃ (ms : List Mk) (o : MO) (x : Option D), Hs o ∧ Wf ms ∧ ms.length = k + 1 ∧ MB M s a o (msO ms) N ∧ τ = τ0 x none) ?_ ?_
      · have ha := H.ax
        walk_at "go1"
        refine g_d (fun h => ?_) (fun h => ?_)
        · walk_at "go1"
          refine ⟨s, a, o, ms, rfl, H.so, ho, H.ax, by omega, H.ne, fun y o ho hy => ?_⟩
          have H := H.puts o
          generalize N.put s o = N at H
          have ha := H.ax
          walk_at "go1"
          exact ⟨_, Sub.refl _, ms ++ [y], o, _, ho, hw.snoc hy, by rw [List.length_append, hl]; rfl, snoc _ _ _ _ H, rfl⟩
        · walk_at "go1"
          refine ⟨s, a, o, ms, rfl, H.so, ho, H.ax, by omega, H.ne, fun y o ho hy => ?_⟩
          have H := H.puts o
          generalize N.put s o = N at H
          have ha := H.ax
          walk_at "go1"
          exact ⟨_, Sub.refl _, ms ++ [y], o, _, ho, hw.snoc hy, by rw [List.length_append, hl]; rfl, snoc _ _ _ _ H, rfl⟩
      rintro τ N ⟨ms, o, x, ho, hw, hl, H, rfl⟩
      exact ⟨_, Sub.refl _, trivial, ms, o, _, ho, hw, hl, H, rfl⟩
    clear H ho
    rintro τ N ⟨ms, o, x, ho, hw, hl, H, rfl⟩
    walk_at "go1"
    refine g_cut (fun τ N => ∃ (ms : List Mk) (o : MO) (x y : Option D), Hs o ∧ Wf ms ∧ ms.length ≤ 300 ∧ MB M s a o (msO ms) N ∧ τ = τ0 x y) ?_ ?_
    · walk_at "go1"
      refine g_d (fun h => ?_) (fun h => ?_)
      · walk_at "go1"
        refine dr H.so ho (by decide) fun g o ho hg => ?_
        have H := H.puts o
        generalize N.put s o = N at H
        walk_at "go1"
        refine ⟨.ref a, ms, rfl, .r H.ax, by omega, ?_⟩
        walk_at "go1"
        refine ⟨.ref a, ms, rfl, .r H.ax, by omega, ?_⟩
        have hig := in_ga ms
        walk_at "go1"
        obtain ⟨c, hc, hc2⟩ : ∃ c : Nat, ((198 : Int) + (g : Int) - (inN ms : Int) - (gaN ms : Int)).toNat = c ∧ c ≤ 203 := ⟨_, rfl, by omega⟩
        rw [hc]
        refine f_rng0 (n := c) (fun k τ N => ∃ (ms : List Mk) (x y : Option D), Wf ms ∧ ms.length ≤ 80 + k ∧ MB M s a o (msO ms) N ∧ τ = τ0 x y) ⟨ms, _, _, hw, by omega, H, rfl⟩ ?_ ?_
        · clear H hw hl hc hig
          rintro k τ N hk ⟨ms, x, y, hw, hl, H, rfl⟩
          have ha := H.ax
          walk_at "go1"
          refine ⟨.ref a, ms, rfl, .r H.ax, by omega, ?_⟩
          walk_at "go1"
          exact ⟨_, Sub.refl _, trivial, ms ++ [.inp (inN ms)], _, _, hw.snoc ⟨(fun _ h => by cases h), (fun j h => by cases h; rfl), fun _ h => by cases h⟩, by rw [List.length_append, List.length_singleton]; omega, snoc _ _ _ (.inp (inN ms)) H, rfl⟩
        · clear H hw hl hc hig
          rintro τ N ⟨ms, x, y, hw, hl, H, rfl⟩
          exact ⟨_, Sub.refl _, ms, o, _, _, ho, hw, by omega, H, rfl⟩
      · walk_at "go1"
        exact ⟨_, Sub.refl _, ms, o, _, _, ho, hw, by omega, H, rfl⟩
    clear H ho hw hl
    rintro τ N ⟨ms, o, x, y, ho, hw, hl, H, rfl⟩
    walk_at "go1"
    exact H.view (q ms o ho hw hl)
def sp_ltold : DSp := fun ds M Q => ∃ (s : Addr) (o : MO) (n : Nat), ds = [.ref s, nD n] ∧ M s = some o ∧ Hs o ∧ n ≤ 1000 ∧
  ∀ (ts : List P2) o', Hs o' → (∀ t ∈ ts, t.1 < n ∧ t.2 < 2) → ts.length ≤ 150 → Q (.lst (ts.map eD)) (M.put s o')
theorem ok_law_told (T : Top K mg) (S : Sr P base) : Fn P w K mg base "_law_told" ["state", "size"] 35 sp_ltold := by
  refine okF T.d_law_told sc_law_told (fun _ _ _ _ _ _ us hl => match us, hl with | [_, _], _ => rfl) ?len (fun f cdv A outer s H E hr =>
    (dss_cons (ds_set (i := 2) sc_law_told.nd rfl (by first | exact Or.inl rfl | exact Or.inr rfl) (de_fn (ok_law_draw T S) (hr.mono (by first | decide | omega)) (by rfl) (da_cons (dv 0) (da_cons de_int da_nil))))
      (dss_cons (ds_cut (ds_if (dt_cmp (or_eq hr.units) (de_fn (ok_law_draw T S) (hr.mono (by first | decide | omega)) (by rfl) (da_cons (dv 0) (da_cons de_int da_nil))) de_int (nomark _))
        (dss_one (ds_set (i := 2) sc_law_told.nd rfl (by first | exact Or.inl rfl | exact Or.inr rfl) de_int))
        dss_nil))
      (dss_cons (ds_if (dt_cmp (or_eq hr.units) (dv 1) de_int (nomark _))
        (dss_one (ds_ret (de_lst da_nil)))
        dss_nil)
      (dss_one (ds_ret (de_lc (own := [("k", 3)]) (p := .nm 3) rfl sc_law_told.nd (di_range1 (by rfl) T.b_range (da_cons (dv 2) da_nil)) (blkOk_by (own := [("k", 3)]) (N := ["state", "size", "count", "k"]) (sc := defScope s_law_told) (by decide +kernel)) (fun _ _ _ _ _ => (pg_name (i := 3) sc_law_told.nd rfl (by first | exact Or.inl rfl | exact Or.inr rfl))) (fun _ _ _ _ _ => dts_nil) (fun _ _ _ _ _ => (de_mid (de_tup (da_cons (de_fn (ok_law_draw T S) (hr.mono (by first | decide | omega)) (by rfl) (da_cons (dv 0) (da_cons (dv 1) da_nil))) (da_cons (de_fn (ok_law_draw T S) (hr.mono (by first | decide | omega)) (by rfl) (da_cons (dv 0) (da_cons de_int da_nil))) da_nil)))))))))))) ?body
  · rintro ds M Q ⟨s, o, n, rfl, _⟩; rfl
  · rintro ds M Q ⟨s, o, n, rfl, hs, ho, hn, q⟩
    refine g_st (τ' := [some _, some _, none, none]) rfl ?_
    rw [← Mem.put_self hs]
    walk_at "go1"
    refine dr Mem.put_same ho (by decide) fun c o ho hc => ?_
    rw [Mem.put_put]
    walk_at "go1"
    refine g_cut (fun τ N => ∃ (c : Nat) (o : MO), c ≤ 150 ∧ Hs o ∧ N = M.put s o ∧ τ = [some (.ref s), some (nD n), some (nD c), none]) ?_ ?_
    · walk_at "go1"
      refine dr Mem.put_same ho (by decide) fun d o ho hd => ?_
      rw [Mem.put_put]
      walk_at "go1"
      refine g_d (fun h => ?_) (fun h => ?_)
      · walk_at "go1"
        exact ⟨_, Sub.refl _, 150, o, by decide, ho, rfl, rfl⟩
      · walk_at "go1"
        exact ⟨_, Sub.refl _, c, o, by omega, ho, rfl, rfl⟩
    clear ho hc
    rintro τ N ⟨c, o, hc, ho, rfl, rfl⟩
    rcases Nat.eq_zero_or_pos n with h0 | h0
    · walk_at "go1"
      refine .inl ?_
      exact r_same (q [] o ho (fun _ h => by cases h) (Nat.zero_le _))
    walk_at "go1"
    rw [Int.toNat_natCast]
    refine ⟨List.mem_cons_self, lc_mid (fun i acc N' => ∃ (ts : List P2) (o : MO), Hs o ∧ acc = ts.map eD ∧ ts.length = i ∧ (∀ t ∈ ts, t.1 < n ∧ t.2 < 2) ∧ N' = M.put s o) ⟨[], o, ho, rfl, rfl, (fun _ h => by cases h), rfl⟩ trivial (fun i x acc N hx ⟨ts, o, ho, ea, hl, hb, eN⟩ st => ?_) (fun acc N ⟨ts, o, ho, ea, hl2, hb, eN⟩ => .inl ?_)⟩
    · have hi := (List.getElem?_eq_some_iff.mp hx).1
      rw [rangeD_len] at hi
      subst ea eN
      walk_at "lc"
      walk_at "go1"
      refine dr Mem.put_same ho (by omega) fun e o ho he => ?_
      rw [Mem.put_put]
      walk_at "go1"
      refine dr Mem.put_same ho (by decide) fun v o ho hv => ?_
      rw [Mem.put_put]
      walk_at "go1"
      refine ⟨Nat.lt_of_le_of_lt (show _ ≤ 1000000 by rw [List.length_map]; omega) (by decide), trivial, ts ++ [(e, v)], o, ho, by rw [List.map_append]; rfl, by rw [List.length_append, hl]; rfl, fun t ht => ?_, rfl⟩
      rcases List.mem_append.mp ht with h | h
      · exact hb t h
      · rw [List.mem_singleton.mp h]; exact ⟨by show e < _; omega, by show v < 2; omega⟩
    subst ea eN
    rw [rangeD_len] at hl2
    exact r_same (q ts o ho hb (by omega))
def sp_law : DSp := fun ds M Q => ∃ ns : List Int, ds = [.scr (ns.map D.int)] ∧ ns.length ≤ 63 ∧ (∀ a, M a = none) ∧ Q (.bl true) M
theorem sp_law_ok (ns : List Int) (h : ns.length ≤ 63) : sp_law [.scr (ns.map D.int)] (fun _ => none) (fun d _ => d = .bl true) := ⟨ns, rfl, h, fun _ => rfl, rfl⟩
theorem st_ns {ns : List Int} {M : Mem} {Q : D → Mem → Prop} (q : ∀ p, M p = none → ∀ o, Hs o → Q (.ref p) (M.put p o)) : NewL [.scr (ns.map .int), .int 0, .int 0, .int 0, .int 0] M Q := .inr fun p hp => q p hp _ ⟨ns, 0, 0, 0, 0, by decide, rfl⟩
theorem drO {M N : Mem} {s : Addr} {o : MO} {b : Int} {R : D → Mem → Prop} {L : List (Addr × MO)} (h : Own M N ((s, o) :: L)) (ho : Hs o) (hb : 0 < b) (q : ∀ (d : Nat) o' N', Hs o' → (d : Int) < b → Own M N' ((s, o') :: L) → R (.int d) N') : sp_draw [.ref s, .int b] N R :=
  dr (h.at 0 rfl) ho hb fun d o' ho' hd => q d o' _ ho' hd (h.set 0 rfl o')
def zt (t : P2) : Int × Nat := ((t.1 : Int), t.2)
theorem zt_map (ts : List P2) : ts.map eD = (ts.map zt).map tD := by rw [List.map_map]; rfl
theorem zt_ok {n : Nat} {ts : List P2} (h : ∀ t ∈ ts, t.1 < n) : ¬ BadW n ((ts.map zt).map (·.1)) := by
  rintro ⟨x, hx, hb⟩
  obtain ⟨y, hy, rfl⟩ := List.mem_map.mp hx
  obtain ⟨t, ht, rfl⟩ := List.mem_map.mp hy
  have := h t ht
  have hb : (t.1 : Int) < 0 ∨ (n : Int) ≤ (t.1 : Int) := hb
  omega
theorem cm_tD (ts : List (Int × Nat)) : Cm 3 (.lst (ts.map tD)) := fun x h => by
  obtain ⟨t, _, rfl⟩ := List.mem_map.mp h
  exact Cm.tup2 (n := 1) Cm.int Cm.int
theorem cm_eD (ts : List P2) : Cm 3 (.lst (ts.map eD)) := fun x h => by
  obtain ⟨t, _, rfl⟩ := List.mem_map.mp h
  exact Cm.tup2 (n := 1) Cm.int Cm.int
theorem cm_eT (ts : List P2) : Cm 3 (.tup (ts.map eD)) := fun x h => by
  obtain ⟨t, _, rfl⟩ := List.mem_map.mp h
  exact Cm.tup2 (n := 1) Cm.int Cm.int
theorem ok_law (T : Top K mg) (S : Sr P base) : Fn P w K mg base "law" ["script"] 39 sp_law := by
  refine okF T.d_law sc_law (fun _ _ _ _ _ _ us hl => match us, hl with | [_], _ => rfl) ?len (fun f cdv A outer s H E hr =>
    (dss_cons (ds_set (i := 1) sc_law.nd rfl (by first | exact Or.inl rfl | exact Or.inr rfl) (de_lst (da_cons (dv 0) (da_cons de_int (da_cons de_int (da_cons de_int (da_cons de_int da_nil)))))))
      (dss_cons (ds_set (i := 2) sc_law.nd rfl (by first | exact Or.inl rfl | exact Or.inr rfl) (de_op or_div (de_fn (ok_law_draw T S) (hr.mono (by first | decide | omega)) (by rfl) (da_cons (dv 1) (da_cons de_int da_nil))) de_int))
      (dss_cons (ds_cut (ds_if (dt_w (dw_and (dt_cmp (or_eq hr.units) (dv 2) de_int (nomark _)) (dw_and1 (dt_cmp or_gt (de_fn (ok_law_draw T S) (hr.mono (by first | decide | omega)) (by rfl) (da_cons (dv 1) (da_cons de_int da_nil))) de_int (nomark _)))))
        (dss_one (ds_set (i := 2) sc_law.nd rfl (by first | exact Or.inl rfl | exact Or.inr rfl) de_int))
        dss_nil))
      (dss_cons (ds_set (i := 3) sc_law.nd rfl (by first | exact Or.inl rfl | exact Or.inr rfl) (de_fn (ok_law_marks T S) (hr.mono (by first | decide | omega)) (by rfl) (da_cons (dv 1) (da_cons (dv 2) da_nil))))
      (dss_cons (ds_set (i := 4) sc_law.nd rfl (by first | exact Or.inl rfl | exact Or.inr rfl) (de_fn (ok_law_made T) (hr.mono (by first | decide | omega)) (by rfl) (da_cons (dv 3) da_nil)))
      (dss_cons (ds_set (i := 5) sc_law.nd rfl (by first | exact Or.inl rfl | exact Or.inr rfl) (de_fn (ok_law_told T S) (hr.mono (by first | decide | omega)) (by rfl) (da_cons (dv 1) (da_cons (de_callB cd_len (by rfl) T.b_len (by decide +kernel) (da_cons (dv 3) da_nil)) da_nil))))
      (dss_cons (ds_set (i := 6) sc_law.nd rfl (by first | exact Or.inl rfl | exact Or.inr rfl) (de_callTy cd_list (by rfl) T.b_list (by decide +kernel) (da_cons (dv 5) da_nil)))
      (dss_cons (ds_set (i := 7) sc_law.nd rfl (by first | exact Or.inl rfl | exact Or.inr rfl) (de_op or_add (de_fn (ok_law_inputs T) (hr.mono (by first | decide | omega)) (by rfl) (da_cons (dv 3) da_nil)) (de_fn (ok_law_gates T) (hr.mono (by first | decide | omega)) (by rfl) (da_cons (dv 3) da_nil))))
      (dss_cons (ds_if (dt_cmp (or_eq hr.units) (de_fn (ok_law_draw T S) (hr.mono (by first | decide | omega)) (by rfl) (da_cons (dv 1) (da_cons de_int da_nil))) de_int (nomark _))
        (dss_cons (ds_set (i := 8) sc_law.nd rfl (by first | exact Or.inl rfl | exact Or.inr rfl) (de_ix (de_lst (da_cons (de_callB cd_len (by rfl) T.b_len (by decide +kernel) (da_cons (dv 3) da_nil)) (da_cons (de_op or_add (de_callB cd_len (by rfl) T.b_len (by decide +kernel) (da_cons (dv 3) da_nil)) (de_fn (ok_law_draw T S) (hr.mono (by first | decide | omega)) (by rfl) (da_cons (dv 1) (da_cons de_int da_nil)))) (da_cons (de_neg de_int) (da_cons (de_op or_sub (de_neg de_int) (de_fn (ok_law_draw T S) (hr.mono (by first | decide | omega)) (by rfl) (da_cons (dv 1) (da_cons de_int da_nil)))) da_nil))))) (de_fn (ok_law_draw T S) (hr.mono (by first | decide | omega)) (by rfl) (da_cons (dv 1) (da_cons de_int da_nil)))))
        (dss_cons (ds_set (i := 6) sc_law.nd rfl (by first | exact Or.inl rfl | exact Or.inr rfl) (de_callTy cd_list (by rfl) T.b_list (by decide +kernel) (da_cons (de_slice (dv 5) dp_none (dp_some de_int)) da_nil)))
        (dss_cons (ds_frz (ds_expr (de_bm PySem.F.plainAttrs_list PySem.F.slot_list_insert PySem.F.type_list_insert ckL_ok md_insert (dv 6) (da_cons (de_fn (ok_law_draw T S) (hr.mono (by first | decide | omega)) (by rfl) (da_cons (dv 1) (da_cons (de_op or_add (de_callB cd_len (by rfl) T.b_len (by decide +kernel) (da_cons (dv 6) da_nil)) de_int) da_nil))) (da_cons (de_tup (da_cons (dv 8) (da_cons (de_fn (ok_law_draw T S) (hr.mono (by first | decide | omega)) (by rfl) (da_cons (dv 1) (da_cons de_int da_nil))) da_nil))) da_nil)))))
        (dss_cons (ds_set (i := 5) sc_law.nd rfl (by first | exact Or.inl rfl | exact Or.inr rfl) (de_callTy cd_list (by rfl) T.b_list (by decide +kernel) (da_cons (dv 6) da_nil)))
        (dss_cons (ds_set (i := 9) sc_law.nd rfl (by first | exact Or.inl rfl | exact Or.inr rfl) (de_fn (ok_law_wire_refused T) (hr.mono (by first | decide | omega)) (by rfl) (da_cons (dv 4) (da_cons (dv 6) da_nil))))
        (dss_one (ds_ret (de_and (dv 9) (de_and (de_cmp (or_eq hr.units) (dv 6) (dv 5) (nomark _)) (de_one (de_fn (ok_law_stands T) (hr.mono (by first | decide | omega)) (by rfl) (da_cons (dv 4) (da_cons (dv 3) da_nil)))))))))))))
        dss_nil)
      (dss_cons (ds_if (dt_w (dw_or (dt_cmp (or_eq hr.units) (dv 7) de_int (nomark _)) (dw_or1 (dt_cmp or_gt (dv 7) de_int (nomark _)))))
        (dss_cons (ds_set (i := 9) sc_law.nd rfl (by first | exact Or.inl rfl | exact Or.inr rfl) (de_fn (ok_law_count_refused T) (hr.mono (by first | decide | omega)) (by rfl) (da_cons (dv 4) (da_cons (dv 6) da_nil))))
        (dss_one (ds_ret (de_and (dv 9) (de_and (de_cmp (or_eq hr.units) (dv 6) (dv 5) (nomark _)) (de_one (de_fn (ok_law_stands T) (hr.mono (by first | decide | omega)) (by rfl) (da_cons (dv 4) (da_cons (dv 3) da_nil)))))))))
        dss_nil)
      (dss_cons (ds_set (i := 10) sc_law.nd rfl (by first | exact Or.inl rfl | exact Or.inr rfl) (de_mk (mk_Compiled T) T.k_Compiled (hr.mono (by first | decide | omega)) (by rfl) (da_cons (dv 4) (da_cons (dv 6) da_nil))))
      (dss_cons (ds_if (dt_w (dw_or (dt_cmp (or_ne hr.units) (dv 6) (dv 5) (nomark _)) (dw_or1 (dt_not (dt_tru (de_fn (ok_law_good_equations T) (hr.mono (by first | decide | omega)) (by rfl) (da_cons (dv 10) (da_cons (dv 3) (da_cons (dv 5) da_nil)))))))))
        (dss_one (ds_ret de_bl))
        dss_nil)
      (dss_cons (ds_set (i := 11) sc_law.nd rfl (by first | exact Or.inl rfl | exact Or.inr rfl) (de_callTy cd_tuple (by rfl) T.b_tuple (by decide +kernel) (da_cons (de_lc (own := [("equation", 15)]) (p := .nm 15) rfl sc_law.nd (di_tup (de_prop T.k_Book.cls (ok_Book_equations T) (hr.mono (by first | decide | omega)) (de_prop T.k_Compiled.cls (ok_Compiled_book T) (hr.mono (by first | decide | omega)) (dv 10)))) (blkOk_by (own := [("equation", 15)]) (N := ["script", "state", "choice", "marks", "circuit", "told", "passed", "unknowns", "wire", "refused", "compiled", "kept", "kept_told", "other", "later", "equation"]) (sc := defScope s_law) (by decide +kernel)) (fun _ _ _ _ _ => (pg_name (i := 15) sc_law.nd rfl (by first | exact Or.inl rfl | exact Or.inr rfl))) (fun _ _ _ _ _ => dts_nil) (fun _ _ _ _ _ => (de_tup (da_cons (de_ix (dv 15) de_int) (da_cons (de_ix (dv 15) de_int) da_nil))))) da_nil)))
      (dss_cons (ds_set (i := 12) sc_law.nd rfl (by first | exact Or.inl rfl | exact Or.inr rfl) (de_callTy cd_list (by rfl) T.b_list (by decide +kernel) (da_cons (dv 5) da_nil)))
      (dss_cons (ds_set (i := 13) sc_law.nd rfl (by first | exact Or.inl rfl | exact Or.inr rfl) (de_mk (mk_Compiled T) T.k_Compiled (hr.mono (by first | decide | omega)) (by rfl) (da_cons (dv 4) (da_cons (de_slice (dv 5) (dp_some de_int) dp_none) da_nil))))
      (dss_cons (ds_expr (de_meth0 T.k_Circuit.cls (ok_Circuit_put_in T) (hr.mono (by first | decide | omega)) (dv 4)))
      (dss_cons (ds_expr (de_meth T.k_Circuit.cls (ok_Circuit_both T) (hr.mono (by first | decide | omega)) (dv 4) (da_cons de_int (da_cons de_int da_nil))))
      (dss_cons (ds_expr (de_bm PySem.F.plainAttrs_list PySem.F.slot_list_append PySem.F.type_list_append ckL_ok md_append (dv 6) (da_cons (de_tup (da_cons de_int (da_cons de_int da_nil))) da_nil)))
      (dss_cons (ds_asg (de_tup (da_cons de_int (da_cons de_int da_nil))) (dg_sub (dv 6) de_int))
      (dss_cons (ds_if (dt_w (dw_or (dt_not (dt_tru (de_fn (ok_law_good_equations T) (hr.mono (by first | decide | omega)) (by rfl) (da_cons (dv 10) (da_cons (dv 3) (da_cons (dv 5) da_nil)))))) (dw_or1 (dt_cmp (or_ne hr.units) (de_prop T.k_Book.cls (ok_Book_equations T) (hr.mono (by first | decide | omega)) (de_prop T.k_Compiled.cls (ok_Compiled_book T) (hr.mono (by first | decide | omega)) (dv 10))) (dv 11) (nomark _)))))
        (dss_one (ds_ret de_bl))
        dss_nil)
      (dss_cons (ds_set (i := 14) sc_law.nd rfl (by first | exact Or.inl rfl | exact Or.inr rfl) (de_op or_add (dv 3) (de_lst (da_cons (de_tup (da_cons de_str (da_cons (de_fn (ok_law_inputs T) (hr.mono (by first | decide | omega)) (by rfl) (da_cons (dv 3) da_nil)) da_nil))) (da_cons (de_tup (da_cons de_str (da_cons de_int (da_cons de_int da_nil)))) da_nil)))))
      (dss_cons (ds_if (dt_w (dw_or (dt_not (dt_tru (de_fn (ok_law_good_equations T) (hr.mono (by first | decide | omega)) (by rfl) (da_cons (dv 13) (da_cons (dv 3) (da_cons (de_slice (dv 5) (dp_some de_int) dp_none) da_nil)))))) (dw_or1 (dt_not (dt_tru (de_fn (ok_law_stands T) (hr.mono (by first | decide | omega)) (by rfl) (da_cons (dv 4) (da_cons (dv 14) da_nil))))))))
        (dss_one (ds_ret de_bl))
        dss_nil)
      (dss_cons (ds_set (i := 5) sc_law.nd rfl (by first | exact Or.inl rfl | exact Or.inr rfl) (de_op or_add (de_slice (dv 5) (dp_some de_int) dp_none) (de_lst (da_cons (de_tup (da_cons (de_callB cd_len (by rfl) T.b_len (by decide +kernel) (da_cons (dv 3) da_nil)) (da_cons de_int da_nil))) (da_cons (de_tup (da_cons (de_op or_add (de_callB cd_len (by rfl) T.b_len (by decide +kernel) (da_cons (dv 3) da_nil)) de_int) (da_cons de_int da_nil))) da_nil)))))
      (dss_cons (ds_if (dt_cmp or_gt (dv 7) de_int (nomark _))
        (dss_one (ds_ret (de_fn (ok_law_count_refused T) (hr.mono (by first | decide | omega)) (by rfl) (da_cons (dv 4) (da_cons (dv 5) da_nil)))))
        dss_nil)
      (dss_one (ds_ret (de_and (de_fn (ok_law_good_equations T) (hr.mono (by first | decide | omega)) (by rfl) (da_cons (de_mk (mk_Compiled T) T.k_Compiled (hr.mono (by first | decide | omega)) (by rfl) (da_cons (dv 4) (da_cons (dv 5) da_nil))) (da_cons (dv 14) (da_cons (dv 5) da_nil)))) (de_one (de_fn (ok_law_good_equations T) (hr.mono (by first | decide | omega)) (by rfl) (da_cons (dv 10) (da_cons (dv 3) (da_cons (dv 12) da_nil))))))))))))))))))))))))))))))))) ?body
  · rintro ds M Q ⟨ns, rfl, _⟩; rfl
  · rintro ds M Q ⟨ns, rfl, hn63, hM, q⟩
    refine g_st (τ' := [some _, none, none, none, none, none, none, none, none, none, none, none, none, none, none, none]) rfl ?_
    let C := clsA mg "Circuit"
    let CP := clsA mg "Compiled"
    let CB := clsA mg "Book"
    walk_at "go1"
    refine st_ns fun s hs o ho => ?_
    have H : Own M (M.put s o) [(s, o)] := (Own.nil M).new hs o
    generalize M.put s o = N at H
    walk_at "go1"
    refine drO H ho (by decide) fun kd o N ho hkd H => ?_
    walk_at "go1"
    generalize kd / 5 = ch0
    refine g_cut (fun τ N => ∃ (ch : Nat) (o : MO), Hs o ∧ Own M N [(s, o)] ∧ τ = [some (.scr (ns.map D.int)), some (.ref s), some (nD ch), none, none, none, none, none, none, none, none, none, none, none, none, none]) ?_ ?_
    · by_cases hc : ch0 = 2
      · walk_at "go1"
        refine drO H ho (by decide) fun d o N ho hd H => ?_
        walk_at "go1"
        refine g_d (fun h => ?_) (fun h => ?_)
        · walk_at "go1"
          exact ⟨_, Sub.refl _, 0, o, ho, H, rfl⟩
        · walk_at "go1"
          exact ⟨_, Sub.refl _, ch0, o, ho, H, rfl⟩
      · walk_at "go1"
        exact ⟨_, Sub.refl _, ch0, o, ho, H, rfl⟩
    clear H ho
    rintro τ N ⟨ch, o, ho, H, rfl⟩
    walk_at "go1"
    refine ⟨s, o, ch, rfl, H.at 0 rfl, ho, fun ms o ho hw hl => ?_⟩
    have H : Own M _ [(s, o)] := H.set 0 rfl o
    generalize N.put s o = N at H
    walk_at "go1"
    refine ⟨_, ms, rfl, .l, hw, by omega, fun c m hc hm hcm => ?_⟩
    have H : Own M (ciM C N c m ms) [(s, o), (c, ciO C m (inN ms) (gaN ms)), (m, msO ms)] := (H.new hc _).new (by rw [Mem.put_ne (Ne.symm hcm)]; exact hm) _
    generalize ciM C N c m ms = N at H
    walk_at "go1"
    rw [List.length_map]
    refine ⟨s, o, ms.length, rfl, H.at 0 rfl, ho, by omega, fun ts o ho hts htl => ?_⟩
    have H : Own M _ [(s, o), (c, ciO C m (inN ms) (gaN ms)), (m, msO ms)] := H.set 0 rfl o
    generalize N.put s o = N at H
    have hig := in_ga ms
    have hCi : ∀ N o L, Own M N ((s, o) :: (c, ciO C m (inN ms) (gaN ms)) :: (m, msO ms) :: L) → Ci C N c m ms := fun N o L H => ⟨H.at 1 rfl, H.at 2 rfl, by omega⟩
    walk_at "go1"
    refine g_listL (.inr fun p hp => ?_)
    have H : Own M _ [(s, o), (c, ciO C m (inN ms) (gaN ms)), (m, msO ms), (p, .lst (ts.map eD))] := H.new hp _
    generalize N.put p _ = N at H
    walk_at "go1"
    refine ⟨_, ms, rfl, .l, by omega, ?_⟩
    walk_at "go1"
    refine ⟨_, ms, rfl, .l, by omega, ?_⟩
    walk_at "go1"
    rw [show (inN ms : Int) + (gaN ms : Int) = ((inN ms + gaN ms : Nat) : Int) from (Int.natCast_add _ _).symm]
    refine drO H ho (by decide) fun d6 o N ho hd6 H => ?_
    walk_at "go1"
    refine g_d (fun h => ?_) (fun h => ?_)
    · walk_at "go1"
      rw [List.length_map]
      walk_at "go1"
      refine drO H ho (by decide) fun d1 o N ho hd1 H => ?_
      walk_at "go1"
      refine drO H ho (by decide) fun d2 o N ho hd2 H => ?_
      walk_at "go1"
      refine .inl ?_
      walk_at "go1"
      refine drO H ho (by decide) fun d3 o N ho hd3 H => ?_
      walk_at "go1"
      refine g_ixlP ⟨by omega, by simp only [List.length_cons, List.length_nil]; omega⟩ fun x hx => ?_
      obtain ⟨X, rfl, hX⟩ : ∃ X : Int, x = .int X ∧ (X < 0 ∨ (ms.length : Int) ≤ X) := by
        simp only [List.mem_cons, List.not_mem_nil, or_false] at hx
        rcases hx with rfl | rfl | rfl | rfl
        · exact ⟨_, rfl, by omega⟩
        · exact ⟨_, rfl, by omega⟩
        · exact ⟨_, rfl, by omega⟩
        · exact ⟨_, rfl, by omega⟩
      walk_at "go1"
      rw [show cutD (ts.map eD) none (some 149) = (ts.take 149).map eD by rw [cutD_to (by decide), ← List.map_take]; rfl]
      refine .inl ?_
      walk_at "go1"
      refine g_listL (.inr fun p2 hp2 => ?_)
      have H : Own M _ [(s, o), (c, ciO C m (inN ms) (gaN ms)), (m, msO ms), (p, .lst (ts.map eD)), (p2, .lst ((ts.take 149).map eD))] := H.new hp2 _
      generalize N.put p2 _ = N at H
      walk_at "go1"
      refine g_frz (fun τ N' => ∃ (us : List (Int × Nat)) (o : MO), Hs o ∧ us.length ≤ 160 ∧ BadW ms.length (us.map (·.1)) ∧ Own M N' [(s, o), (c, ciO C m (inN ms) (gaN ms)), (m, msO ms), (p, .lst (ts.map eD))] ∧ τ = [some (.scr (ns.map D.int)), some (.ref s), some (nD ch), some (.lst (ms.map Mk.d)), some (.ref c), some (.lst (ts.map eD)), some (.lst (us.map tD)), some (nD (inN ms + gaN ms)), some (.int X), none, none, none, none, none, none, none]) ?_ ?_
      · have m4 := H.at 4 rfl
        walk_at "go1"
        rw [List.length_map]
        have hl9 : (ts.take 149).length ≤ 150 := by rw [List.length_take]; omega
        generalize ts.take 149 = us0 at H hl9 m4
        refine drO H ho (by omega) fun i o N ho hi H => ?_
        walk_at "go1"
        refine drO H ho (by decide) fun v o N ho hv H => ?_
        walk_at "go1"
        have H4 : Own M N ([(s, o), (c, ciO C m (inN ms) (gaN ms)), (m, msO ms), (p, .lst (ts.map eD))] ++ [(p2, .lst (us0.map eD))]) := H
        obtain ⟨H2, hsub, hno, hat⟩ := H4.drop
        have ei : (us0.map eD).take i ++ [.tup [.int X, nD v]] ++ (us0.map eD).drop i = (((us0.map zt).take i ++ [(X, v)] ++ (us0.map zt).drop i)).map tD := by
          rw [zt_map]
          simp only [List.map_append, List.map_take, List.map_drop]; rfl
        refine ⟨p2, us0.map eD, i, _, rfl, rfl, hat, Nat.lt_of_le_of_lt (show _ ≤ 1000 by rw [List.length_map]; omega) (by decide), by omega, by omega, ?_⟩
        rw [Int.toNat_natCast, ei]
        have hsub2 : Sub (N.del p2) (N.put p2 (.lst (((us0.map zt).take i ++ [(X, v)] ++ (us0.map zt).drop i).map tD))) := fun a u h => by
          have ha : a ≠ p2 := fun e => by rw [e, hno] at h; cases h
          rw [Mem.put_ne ha]; exact hsub a u h
        walk_at "go1"
        refine ⟨_, _, hsub2, .set hsub2 6 rfl (.cell hno Mem.put_same (.same hsub2)), _, o, ho, ?_, ⟨X, ?_, hX⟩, H2, rfl⟩
        · simp only [List.length_append, List.length_take, List.length_drop, List.length_map, List.length_cons, List.length_nil]; omega
        · exact List.mem_map.mpr ⟨(X, v), by simp, rfl⟩
      clear H ho
      rintro τ N ⟨us, o, ho, hul, hbad, H, rfl⟩
      walk_at "go1"
      refine g_listL (.inl ?_)
      walk_at "go1"
      refine ⟨c, m, _, ms, us, rfl, hCi N o _ H, .l, by omega, hbad, ?_⟩
      walk_at "go1"
      refine g_eqSame 3 (by decide) (cm_tD us) ?_
      walk_at "go1"
      refine ⟨c, m, ms, rfl, hCi N o _ H, ?_⟩
      exact r_sub H.1 q
    walk_at "go1"
    have hno := zt_ok fun t ht => (hts t ht).1
    have hp3 := H.at 3 rfl
    have refd : (inN ms + gaN ms < 1 ∨ 200 < inN ms + gaN ms) → ∀ R : D → Mem → Prop, R (.bl true) N → sp_lcref C [.ref c, .ref p] N R := fun h R r => ⟨c, m, _, ms, ts.map zt, rfl, hCi N o _ H, by rw [← zt_map]; exact .r hp3, by rw [List.length_map]; omega, hno, h, r⟩
    rcases (show inN ms + gaN ms = 0 ∨ 200 < inN ms + gaN ms ∨ (1 ≤ inN ms + gaN ms ∧ inN ms + gaN ms ≤ 200) by omega) with hcn | hcn | ⟨hc1, hc2⟩
    · walk_at "go1"
      refine refd (.inl (by omega)) _ ?_
      walk_at "go1"
      refine g_eqF (.r hp3) .s 3 (by decide) (cm_eD ts) (cm_eD ts) (fun _ => ?_) (fun h => absurd rfl h)
      walk_at "go1"
      refine ⟨c, m, ms, rfl, hCi N o _ H, ?_⟩
      exact r_sub H.1 q
    · walk_at "go1"
      refine refd (.inr hcn) _ ?_
      walk_at "go1"
      refine g_eqF (.r hp3) .s 3 (by decide) (cm_eD ts) (cm_eD ts) (fun _ => ?_) (fun h => absurd rfl h)
      walk_at "go1"
      refine ⟨c, m, ms, rfl, hCi N o _ H, ?_⟩
      exact r_sub H.1 q
    clear refd
    walk_at "go1"
    have hml : 1 ≤ ms.length := by omega
    have mkc : ∀ (N : Mem) (L : D) (ms : List Mk) (X : List P2) (R : D → Mem → Prop), Ci C N c m ms → Wf ms → 1 ≤ inN ms + gaN ms → inN ms + gaN ms ≤ 200 → Srd N L (X.map eD) → X.length ≤ 800 → (∀ t ∈ X, t.1 < ms.length ∧ t.2 < 2) → R (cpo CP CB ms X) N → ∀ p, N p = none → sp_cpinit CP C CB [.ref p, .ref c, L] (N.put p (.ins CP [])) (fun v M2 => v = .non ∧ ∃ N e, View M2 (.ref p) N e ∧ R e N) := fun N L ms X R hC hw hc1 hc2 hL hXl hX r p hp => by
      refine ⟨p, c, m, _, ms, X, rfl, Mem.put_same, hC.new hp, hw.ok, srd_new hL hp, hXl, hX, hc1, hc2, fun N2 hs2 => ⟨rfl, ?_⟩⟩
      exact r_obj (N := N) (fun a u h => hs2 a u (by rw [Mem.put_ne (Mem.ne_of h hp), Mem.put_ne (Mem.ne_of h hp)]; exact h)) hp (hs2 _ _ Mem.put_same) r
    refine mkc N _ ms ts _ (hCi N o _ H) hw hc1 hc2 (.r hp3) (by omega) hts ?_
    walk_at "go1"
    refine g_neF (.r hp3) .s 3 (by decide) (cm_eD ts) (cm_eD ts) (fun _ => ?_) (fun h => absurd rfl h)
    walk_at "go1"
    have hgd : ∀ X : List P2, (∀ t ∈ X, t.1 < ms.length ∧ t.2 < 2) → X.length ≤ 150 → ∀ N (R : D → Mem → Prop), R (.bl true) N → sp_lgood CP CB [cpo CP CB ms X, .lst (ms.map Mk.d), .lst (X.map eD)] N R := fun X hX hXl N R r => ⟨ms, X, _, rfl, List.length_map .., by omega, by omega, hw, fun t ht => (hX t ht).2, hc1, hc2, r⟩
    refine hgd ts hts htl _ _ ?_
    walk_at "go1"
    refine ⟨ms, ts, rfl, ?_⟩
    walk_at "go1"
    refine ⟨_, _, rfl, ?_⟩
    walk_at "go1"
    have hel : (cpEs ms ts).length ≤ 1000 := by rw [cpEs_len hw.ok]; omega
    refine ⟨List.mem_cons_self, lc_map eD eD (cpEs ms ts) (by omega) trivial (fun e he A B h => ?_) (.inl ?_)⟩
    · obtain ⟨f, b⟩ := e
      show Pat.d _ (.tup [nD f, nD b]) _ _ _
      walk_at "lc"
      walk_at "go1"
      exact h
    walk_at "go1"
    refine g_tupL ?_
    walk_at "go1"
    refine g_listL (.inl ?_)
    walk_at "go1"
    rw [show cutD (ts.map eD) (some 1) none = (ts.drop 1).map eD by rw [cutD_from (by decide), ← List.map_drop]; rfl]
    refine .inl ?_
    walk_at "go1"
    have hd1 : ∀ k, ∀ t ∈ ts.drop k, t.1 < ms.length ∧ t.2 < 2 := fun k t ht => hts t (List.mem_of_mem_drop ht)
    have hdl : ∀ k, (ts.drop k).length ≤ 150 := fun k => by rw [List.length_drop]; omega
    refine mkc N _ ms (ts.drop 1) _ (hCi N o _ H) hw hc1 hc2 .l (by have := hdl 1; omega) (hd1 1) ?_
    have hcr := H.at 1 rfl
    walk_at "go1"
    refine ⟨c, m, ms, rfl, hCi N o _ H, by omega, ?_⟩
    have H : Own M (ciM C N c m (ms ++ [.inp (inN ms)])) [(s, o), (c, ciO C m (inN (ms ++ [.inp (inN ms)])) (gaN (ms ++ [.inp (inN ms)]))), (m, msO (ms ++ [.inp (inN ms)])), (p, .lst (ts.map eD))] := (H.set 1 rfl _).set 2 rfl _
    have lm1 : (ms ++ [Mk.inp (inN ms)]).length = ms.length + 1 := by rw [List.length_append]; rfl
    have w1 : Wf (ms ++ [Mk.inp (inN ms)]) := hw.snoc ⟨(fun _ h => by cases h), (fun j h => by cases h; rfl), fun _ h => by cases h⟩
    have c1 : inN (ms ++ [Mk.inp (inN ms)]) + gaN (ms ++ [Mk.inp (inN ms)]) = inN ms + gaN ms + 1 := by rw [inN_snoc, gaN_snoc]; show inN ms + 1 + (gaN ms + 0) = _; omega
    have el : ms.map Mk.d ++ [.tup [.str "input", nD (inN ms)], .tup [.str "both", .int 0, .int 0]] = (ms ++ [Mk.inp (inN ms)] ++ [Mk.bth 0 0]).map Mk.d := by
      rw [List.map_append, List.map_append, List.append_assoc]; rfl
    generalize ciM C N c m (ms ++ [.inp (inN ms)]) = N at H
    generalize ms ++ [Mk.inp (inN ms)] = m1 at H lm1 w1 c1 el
    have hcr := H.at 1 rfl
    walk_at "go1"
    refine ⟨c, m, m1, 0, 0, rfl, ⟨H.at 1 rfl, H.at 2 rfl, by omega⟩, (fun x hx => by simp only [Mk.ws, List.mem_cons, List.not_mem_nil, or_false] at hx; omega), ?_⟩
    have H : Own M (ciM C N c m (m1 ++ [.bth 0 0])) [(s, o), (c, ciO C m (inN (m1 ++ [.bth 0 0])) (gaN (m1 ++ [.bth 0 0]))), (m, msO (m1 ++ [.bth 0 0])), (p, .lst (ts.map eD))] := (H.set 1 rfl _).set 2 rfl _
    have lm2 : (m1 ++ [Mk.bth 0 0]).length = ms.length + 2 := by rw [List.length_append, lm1]; rfl
    have w2 : Wf (m1 ++ [Mk.bth 0 0]) := w1.snoc ⟨fun x hx => by simp only [Mk.ws, List.mem_cons, List.not_mem_nil, or_false] at hx; omega, (fun j h => by cases h), fun _ h => by cases h⟩
    have c2 : inN (m1 ++ [Mk.bth 0 0]) + gaN (m1 ++ [Mk.bth 0 0]) = inN ms + gaN ms + 2 := by rw [inN_snoc, gaN_snoc]; show inN m1 + 0 + (gaN m1 + 1) = _; omega
    generalize ciM C N c m (m1 ++ [.bth 0 0]) = N at H
    generalize m1 ++ [Mk.bth 0 0] = m2 at H lm2 w2 c2 el
    have hp3 := H.at 3 rfl
    walk_at "go1"
    have H : Own M (N.put p (.lst (ts.map eD ++ [.tup [.int 0, .int 1]]))) [(s, o), (c, ciO C m (inN m2) (gaN m2)), (m, msO m2), (p, .lst (ts.map eD ++ [.tup [.int 0, .int 1]]))] := H.set 3 rfl _
    have hll : (ts.map eD ++ [D.tup [D.int 0, D.int 1]]).length = ts.length + 1 := by rw [List.length_append, List.length_map]; rfl
    generalize ts.map eD ++ [D.tup [D.int 0, D.int 1]] = PX at H hll
    generalize N.put p (.lst PX) = N at H
    have hp3 := H.at 3 rfl
    refine g_setL (n := 0) hp3 (by unfold ixN; rw [if_pos (by omega), if_pos (by omega)]; rfl) ?_
    have H : Own M (N.put p (.lst (PX.set 0 (.tup [.int 0, .int 0])))) [(s, o), (c, ciO C m (inN m2) (gaN m2)), (m, msO m2), (p, .lst (PX.set 0 (.tup [.int 0, .int 0])))] := H.set 3 rfl _
    generalize N.put p (.lst (PX.set 0 (.tup [.int 0, .int 0]))) = N at H
    have hC2 : Ci C N c m m2 := ⟨H.at 1 rfl, H.at 2 rfl, by omega⟩
    walk_at "go1"
    refine hgd ts hts htl _ _ ?_
    walk_at "go1"
    refine ⟨ms, ts, rfl, ?_⟩
    walk_at "go1"
    refine ⟨_, _, rfl, ?_⟩
    walk_at "go1"
    refine g_neSame 3 (by decide) (cm_eT _) ?_
    walk_at "go1"
    refine ⟨_, ms, rfl, .l, by omega, ?_⟩
    walk_at "go1"
    refine .inl ?_
    refine g_addL (by rw [List.length_map]; simp only [List.length_cons, List.length_nil]; omega) (.inl ?_)
    rw [el]
    walk_at "go1"
    rw [show cutD (ts.map eD) (some 1) none = (ts.drop 1).map eD by rw [cutD_from (by decide), ← List.map_drop]; rfl]
    refine .inl ?_
    walk_at "go1"
    refine hgd (ts.drop 1) (hd1 1) (hdl 1) _ _ ?_
    walk_at "go1"
    refine ⟨c, m, m2, rfl, hC2, ?_⟩
    walk_at "go1"
    rw [show cutD (ts.map eD) (some 2) none = (ts.drop 2).map eD by rw [cutD_from (by decide), ← List.map_drop]; rfl]
    refine .inl ?_
    walk_at "go1"
    rw [List.length_map]
    walk_at "go1"
    try rw [List.length_map]
    walk_at "go1"
    refine .inl ?_
    refine g_addL (by rw [List.length_map]; have := hdl 2; simp only [List.length_cons, List.length_nil]; omega) (.inl ?_)
    obtain ⟨X2, hX2⟩ : ∃ X2 : List P2, X2 = ts.drop 2 ++ [(ms.length, 1), (ms.length + 1, 0)] := ⟨_, rfl⟩
    have eX : (ts.drop 2).map eD ++ [D.tup [nD ms.length, D.int 1], D.tup [D.int ((ms.length : Int) + 1), D.int 0]] = X2.map eD := by
      rw [hX2, List.map_append]; rfl
    have hX2l : X2.length ≤ 152 := by rw [hX2, List.length_append]; have := hdl 2; simp only [List.length_cons, List.length_nil]; omega
    have hX2o : ∀ t ∈ X2, t.1 < m2.length ∧ t.2 < 2 := fun t ht => by
      rw [hX2] at ht
      rcases List.mem_append.mp ht with h | h
      · have := hd1 2 t h
        exact ⟨by omega, this.2⟩
      · simp only [List.mem_cons, List.not_mem_nil, or_false] at h
        rcases h with rfl | rfl
        · exact ⟨by show ms.length < _; omega, show 1 < 2 by decide⟩
        · exact ⟨by show ms.length + 1 < _; omega, show 0 < 2 by decide⟩
    rw [eX]
    walk_at "go1"
    refine g_d (fun h => ?_) (fun h => ?_)
    · walk_at "go1"
      refine ⟨c, m, _, m2, X2.map zt, rfl, hC2, by rw [← zt_map]; exact .l, by rw [List.length_map]; omega, zt_ok fun t ht => (hX2o t ht).1, .inr (by omega), ?_⟩
      exact r_sub H.1 q
    · walk_at "go1"
      refine mkc N _ m2 X2 _ hC2 w2 (by omega) (by omega) .l (by omega) hX2o ?_
      walk_at "go1"
      refine ⟨m2, X2, _, rfl, List.length_map .., by omega, by omega, w2, fun t ht => (hX2o t ht).2, by omega, by omega, ?_⟩
      walk_at "go1"
      refine hgd ts hts htl _ _ ?_
      exact r_sub H.1 q

end
theorem walk {l : PySem.W.OpenLaw} {q : Program} {loose : List Str} {XP : (Str → Option Value) → Heap → Prop} {YP : World → Heap → Prop} {d : DefRec} {K : Params → PySem.W.Frag} (hn : l.most = some 63) (hdf : d.params.defaults = [])
    (hY : ∀ (w : World) (h : Heap), YP w h → (K w.params).In h) (hd : d.name = "law") (hi : PyProof.Rows.importsNone q = true) (ht : l.prog.given.tree = none)
    (F : ∀ (w : World) (mg : Str → Option Value) (fa : Addr) (h : Heap), (K w.params).In h → h.Ns mainGlobals mg → mg "law" = some (.ref fa) → Top (K w.params) mg) :
    PySem.W.WalkO q loose XP YP l.row.toRowW d [] (fun f vs => PySem.call f vs) :=
  law_walkS (k := 39) (sp := sp_law) hn hdf ⟨rfl, by decide, by decide⟩ hY hd hi ht (fun w mg fa h hK hG hf base S => ok_law (P := l.prog) (w := w) (base := base) (F w mg fa h hK hG hf) S) (fun w mg fa h hK hG hf => (F w mg fa h hK hG hf).d_law) (fun _ _ _ _ _ _ us hl => match us, hl with | [_], _ => rfl) sp_law_ok
end Lw
set_option maxRecDepth 100000 in
set_option maxHeartbeats 0 in
theorem PySem.Challenge.cw_spotproof_k54_compiled_books_holds : PySem.Challenge.rw_spotproof_k54_compiled_books.Holds := by
  w_on; o_law; k_head; (case hw => w_witness2)
  k_fill
  refine Lw.walk (l := PySem.Challenge.rw_spotproof_k54_compiled_books) rfl rfl (fun w h Y => PySem.W.kIn_of Y) rfl ?HI ?HT ?F
  case HI => first | rfl | decide +kernel
  case HT => rfl
  case F =>
    intro w mg fa h KX G hmg
    refine ⟨?d_ones_in, ?d_parity_of, ?d_places_of, ?d_check_unknowns, ?d_is_gate, ?d_product_parts, ?d_plus_parts, ?d_gate_parts, ?d_plain_sum, ?d_law_is_integer, ?d_law_mixed, ?d_law_draw, ?d_law_places, ?d_law_mark, ?d_law_make, ?d_law_equal_mark, ?d_law_inputs, ?d_law_gates, ?d_law_stands, ?d_law_made, ?d_law_plain_mark, ?d_law_marks, ?d_law_told, ?d_law_wire_refused, ?d_law_count_refused, ?d_law_good_equations, ?d_law, ?b_ValueError, ?b_range, ?b_len, ?b_list, ?b_tuple, ?b_isinstance, ?b_int, ?b_abs, ?b_bool, ?b_min, ?b_str, ?g_MOST_UNKNOWNS, ?t_GATES, ?i_Book, ?i_Circuit, ?i_Compiled, ?i_Forms, ?k_Book, ?k_Circuit, ?k_Compiled, ?k_Forms, ?m_Book___init__, ?m_Circuit___init__, ?m_Circuit_both, ?m_Circuit_check, ?m_Circuit_choose, ?m_Circuit_constant, ?m_Circuit_either, ?m_Circuit_made, ?m_Circuit_mark, ?m_Circuit_marks, ?m_Circuit_opposite, ?m_Circuit_plus, ?m_Circuit_put_in, ?m_Compiled___init__, ?m_Compiled_parts, ?m_Forms___init__, ?m_Forms_product, ?m_Forms_row_start, ?n_Book___equations, ?n_Book___unknowns, ?n_Circuit___gates, ?n_Circuit___inputs, ?n_Circuit___marks, ?n_Compiled___book, ?n_Compiled___inputs, ?n_Compiled___marks, ?n_Forms___unknowns, ?o_Book, ?p_Book_equations, ?p_Book_unknowns, ?p_Circuit_gates, ?p_Circuit_inputs, ?p_Circuit_wires, ?p_Compiled_book, ?p_Compiled_unknowns, ?v_BadCount__ProofError, ?v_BadWire__BadWire, ?x_BadCount, ?x_BadWire, ?x_ProofError, ?y_BadCount, ?y_BadWire, ?z_BadCount__BadCount, ?z_BadCount__BadWire, ?z_BadCount__ValueError, ?z_BadWire__BadCount, ?z_BadWire__ProofError, ?z_BadWire__ValueError⟩
    (case d_ones_in => (refine' DL.dfn_mk KX G ?a ?l ?c ?k; (case a => k_is); (case l => k_is); (case c => k_is); (case k => k_is)))
    (case d_parity_of => (refine' DL.dfn_mk KX G ?a ?l ?c ?k; (case a => k_is); (case l => k_is); (case c => k_is); (case k => k_is)))
    (case d_places_of => (refine' DL.dfn_mk KX G ?a ?l ?c ?k; (case a => k_is); (case l => k_is); (case c => k_is); (case k => k_is)))
    (case d_check_unknowns => (refine' DL.dfn_mk KX G ?a ?l ?c ?k; (case a => k_is); (case l => k_is); (case c => k_is); (case k => k_is)))
    (case d_is_gate => (refine' DL.dfn_mk KX G ?a ?l ?c ?k; (case a => k_is); (case l => k_is); (case c => k_is); (case k => k_is)))
    (case d_product_parts => (refine' DL.dfn_mk KX G ?a ?l ?c ?k; (case a => k_is); (case l => k_is); (case c => k_is); (case k => k_is)))
    (case d_plus_parts => (refine' DL.dfn_mk KX G ?a ?l ?c ?k; (case a => k_is); (case l => k_is); (case c => k_is); (case k => k_is)))
    (case d_gate_parts => (refine' DL.dfn_mk KX G ?a ?l ?c ?k; (case a => k_is); (case l => k_is); (case c => k_is); (case k => k_is)))
    (case d_plain_sum => (refine' DL.dfn_mk KX G ?a ?l ?c ?k; (case a => k_is); (case l => k_is); (case c => k_is); (case k => k_is)))
    (case d_law_is_integer => (refine' DL.dfn_mk KX G ?a ?l ?c ?k; (case a => k_is); (case l => k_is); (case c => k_is); (case k => k_is)))
    (case d_law_mixed => (refine' DL.dfn_mk KX G ?a ?l ?c ?k; (case a => k_is); (case l => k_is); (case c => k_is); (case k => k_is)))
    (case d_law_draw => (refine' DL.dfn_mk KX G ?a ?l ?c ?k; (case a => k_is); (case l => k_is); (case c => k_is); (case k => k_is)))
    (case d_law_places => (refine' DL.dfn_mk KX G ?a ?l ?c ?k; (case a => k_is); (case l => k_is); (case c => k_is); (case k => k_is)))
    (case d_law_mark => (refine' DL.dfn_mk KX G ?a ?l ?c ?k; (case a => k_is); (case l => k_is); (case c => k_is); (case k => k_is)))
    (case d_law_make => (refine' DL.dfn_mk KX G ?a ?l ?c ?k; (case a => k_is); (case l => k_is); (case c => k_is); (case k => k_is)))
    (case d_law_equal_mark => (refine' DL.dfn_mk KX G ?a ?l ?c ?k; (case a => k_is); (case l => k_is); (case c => k_is); (case k => k_is)))
    (case d_law_inputs => (refine' DL.dfn_mk KX G ?a ?l ?c ?k; (case a => k_is); (case l => k_is); (case c => k_is); (case k => k_is)))
    (case d_law_gates => (refine' DL.dfn_mk KX G ?a ?l ?c ?k; (case a => k_is); (case l => k_is); (case c => k_is); (case k => k_is)))
    (case d_law_stands => (refine' DL.dfn_mk KX G ?a ?l ?c ?k; (case a => k_is); (case l => k_is); (case c => k_is); (case k => k_is)))
    (case d_law_made => (refine' DL.dfn_mk KX G ?a ?l ?c ?k; (case a => k_is); (case l => k_is); (case c => k_is); (case k => k_is)))
    (case d_law_plain_mark => (refine' DL.dfn_mk KX G ?a ?l ?c ?k; (case a => k_is); (case l => k_is); (case c => k_is); (case k => k_is)))
    (case d_law_marks => (refine' DL.dfn_mk KX G ?a ?l ?c ?k; (case a => k_is); (case l => k_is); (case c => k_is); (case k => k_is)))
    (case d_law_told => (refine' DL.dfn_mk KX G ?a ?l ?c ?k; (case a => k_is); (case l => k_is); (case c => k_is); (case k => k_is)))
    (case d_law_wire_refused => (refine' DL.dfn_mk KX G ?a ?l ?c ?k; (case a => k_is); (case l => k_is); (case c => k_is); (case k => k_is)))
    (case d_law_count_refused => (refine' DL.dfn_mk KX G ?a ?l ?c ?k; (case a => k_is); (case l => k_is); (case c => k_is); (case k => k_is)))
    (case d_law_good_equations => (refine' DL.dfn_mk KX G ?a ?l ?c ?k; (case a => k_is); (case l => k_is); (case c => k_is); (case k => k_is)))
    (case d_law => (refine' DL.dfn_mk KX G ?a ?l ?c ?k; (case a => k_is); (case l => k_is); (case c => k_is); (case k => k_is)))
    (case b_ValueError => (refine' PySem.W.mg_none_of KX G ?a; (case a => k_is)))
    (case b_range => (refine' PySem.W.mg_none_of KX G ?a; (case a => k_is)))
    (case b_len => (refine' PySem.W.mg_none_of KX G ?a; (case a => k_is)))
    (case b_list => (refine' PySem.W.mg_none_of KX G ?a; (case a => k_is)))
    (case b_tuple => (refine' PySem.W.mg_none_of KX G ?a; (case a => k_is)))
    (case b_isinstance => (refine' PySem.W.mg_none_of KX G ?a; (case a => k_is)))
    (case b_int => (refine' PySem.W.mg_none_of KX G ?a; (case a => k_is)))
    (case b_abs => (refine' PySem.W.mg_none_of KX G ?a; (case a => k_is)))
    (case b_bool => (refine' PySem.W.mg_none_of KX G ?a; (case a => k_is)))
    (case b_min => (refine' PySem.W.mg_none_of KX G ?a; (case a => k_is)))
    (case b_str => (refine' PySem.W.mg_none_of KX G ?a; (case a => k_is)))
    (case g_MOST_UNKNOWNS => (refine' DL.glob_mk KX G ?a ?r; (case a => k_is); (case r => exact ⟨_, rfl⟩)))
    (case t_GATES => (refine' DL.gtup_mk KX G ?a ?l ?sz ?vs; (case a => k_is); (case l => k_is); (case sz => decide +kernel); (case vs => exact .cons ⟨_, rfl⟩ (.cons ⟨_, rfl⟩ (.cons ⟨_, rfl⟩ (.nil))))))
    (case i_Book => (refine' DL.mk_mk KX G ?a ?b; (case a => k_is); (case b => k_is)))
    (case i_Circuit => (refine' DL.mk_mk KX G ?a ?b; (case a => k_is); (case b => k_is)))
    (case i_Compiled => (refine' DL.mk_mk KX G ?a ?b; (case a => k_is); (case b => k_is)))
    (case i_Forms => (refine' DL.mk_mk KX G ?a ?b; (case a => k_is); (case b => k_is)))
    (case k_Book => (refine' DL.kls_mk KX G ?a ?b ?c ?d ?e ?f; (case a => k_is); (case b => k_is); (case c => k_is); (case d => k_is); (case e => k_is); (case f => k_is)))
    (case k_Circuit => (refine' DL.kls_mk KX G ?a ?b ?c ?d ?e ?f; (case a => k_is); (case b => k_is); (case c => k_is); (case d => k_is); (case e => k_is); (case f => k_is)))
    (case k_Compiled => (refine' DL.kls_mk KX G ?a ?b ?c ?d ?e ?f; (case a => k_is); (case b => k_is); (case c => k_is); (case d => k_is); (case e => k_is); (case f => k_is)))
    (case k_Forms => (refine' DL.kls_mk KX G ?a ?b ?c ?d ?e ?f; (case a => k_is); (case b => k_is); (case c => k_is); (case d => k_is); (case e => k_is); (case f => k_is)))
    (case m_Book___init__ => (refine' DL.mtd_mk KX G ?a ?b ?c ?d ?e ?f; (case a => k_is); (case b => k_is); (case c => k_is); (case d => k_is); (case e => k_is); (case f => k_is)))
    (case m_Circuit___init__ => (refine' DL.mtd_mk KX G ?a ?b ?c ?d ?e ?f; (case a => k_is); (case b => k_is); (case c => k_is); (case d => k_is); (case e => k_is); (case f => k_is)))
    (case m_Circuit_both => (refine' DL.mtd_mk KX G ?a ?b ?c ?d ?e ?f; (case a => k_is); (case b => k_is); (case c => k_is); (case d => k_is); (case e => k_is); (case f => k_is)))
    (case m_Circuit_check => (refine' DL.mtd_mk KX G ?a ?b ?c ?d ?e ?f; (case a => k_is); (case b => k_is); (case c => k_is); (case d => k_is); (case e => k_is); (case f => k_is)))
    (case m_Circuit_choose => (refine' DL.mtd_mk KX G ?a ?b ?c ?d ?e ?f; (case a => k_is); (case b => k_is); (case c => k_is); (case d => k_is); (case e => k_is); (case f => k_is)))
    (case m_Circuit_constant => (refine' DL.mtd_mk KX G ?a ?b ?c ?d ?e ?f; (case a => k_is); (case b => k_is); (case c => k_is); (case d => k_is); (case e => k_is); (case f => k_is)))
    (case m_Circuit_either => (refine' DL.mtd_mk KX G ?a ?b ?c ?d ?e ?f; (case a => k_is); (case b => k_is); (case c => k_is); (case d => k_is); (case e => k_is); (case f => k_is)))
    (case m_Circuit_made => (refine' DL.mtd_mk KX G ?a ?b ?c ?d ?e ?f; (case a => k_is); (case b => k_is); (case c => k_is); (case d => k_is); (case e => k_is); (case f => k_is)))
    (case m_Circuit_mark => (refine' DL.mtd_mk KX G ?a ?b ?c ?d ?e ?f; (case a => k_is); (case b => k_is); (case c => k_is); (case d => k_is); (case e => k_is); (case f => k_is)))
    (case m_Circuit_marks => (refine' DL.mtd_mk KX G ?a ?b ?c ?d ?e ?f; (case a => k_is); (case b => k_is); (case c => k_is); (case d => k_is); (case e => k_is); (case f => k_is)))
    (case m_Circuit_opposite => (refine' DL.mtd_mk KX G ?a ?b ?c ?d ?e ?f; (case a => k_is); (case b => k_is); (case c => k_is); (case d => k_is); (case e => k_is); (case f => k_is)))
    (case m_Circuit_plus => (refine' DL.mtd_mk KX G ?a ?b ?c ?d ?e ?f; (case a => k_is); (case b => k_is); (case c => k_is); (case d => k_is); (case e => k_is); (case f => k_is)))
    (case m_Circuit_put_in => (refine' DL.mtd_mk KX G ?a ?b ?c ?d ?e ?f; (case a => k_is); (case b => k_is); (case c => k_is); (case d => k_is); (case e => k_is); (case f => k_is)))
    (case m_Compiled___init__ => (refine' DL.mtd_mk KX G ?a ?b ?c ?d ?e ?f; (case a => k_is); (case b => k_is); (case c => k_is); (case d => k_is); (case e => k_is); (case f => k_is)))
    (case m_Compiled_parts => (refine' DL.mtd_mk KX G ?a ?b ?c ?d ?e ?f; (case a => k_is); (case b => k_is); (case c => k_is); (case d => k_is); (case e => k_is); (case f => k_is)))
    (case m_Forms___init__ => (refine' DL.mtd_mk KX G ?a ?b ?c ?d ?e ?f; (case a => k_is); (case b => k_is); (case c => k_is); (case d => k_is); (case e => k_is); (case f => k_is)))
    (case m_Forms_product => (refine' DL.mtd_mk KX G ?a ?b ?c ?d ?e ?f; (case a => k_is); (case b => k_is); (case c => k_is); (case d => k_is); (case e => k_is); (case f => k_is)))
    (case m_Forms_row_start => (refine' DL.mtd_mk KX G ?a ?b ?c ?d ?e ?f; (case a => k_is); (case b => k_is); (case c => k_is); (case d => k_is); (case e => k_is); (case f => k_is)))
    (case n_Book___equations => (refine' DL.na_mk KX G ?a ?b; (case a => k_is); (case b => k_is)))
    (case n_Book___unknowns => (refine' DL.na_mk KX G ?a ?b; (case a => k_is); (case b => k_is)))
    (case n_Circuit___gates => (refine' DL.na_mk KX G ?a ?b; (case a => k_is); (case b => k_is)))
    (case n_Circuit___inputs => (refine' DL.na_mk KX G ?a ?b; (case a => k_is); (case b => k_is)))
    (case n_Circuit___marks => (refine' DL.na_mk KX G ?a ?b; (case a => k_is); (case b => k_is)))
    (case n_Compiled___book => (refine' DL.na_mk KX G ?a ?b; (case a => k_is); (case b => k_is)))
    (case n_Compiled___inputs => (refine' DL.na_mk KX G ?a ?b; (case a => k_is); (case b => k_is)))
    (case n_Compiled___marks => (refine' DL.na_mk KX G ?a ?b; (case a => k_is); (case b => k_is)))
    (case n_Forms___unknowns => (refine' DL.na_mk KX G ?a ?b; (case a => k_is); (case b => k_is)))
    (case o_Book => (refine' DL.isi_mk KX G ?a ?b ?c ?d ?e; (case a => k_is); (case b => k_is); (case c => k_is); (case d => k_is); (case e => k_is)))
    (case p_Book_equations => (refine' DL.prp_mk KX G ?a ?b ?c ?d ?e ?f ?g ?h; (case a => k_is); (case b => k_is); (case c => k_is); (case d => k_is); (case e => k_is); (case f => k_is); (case g => k_is); (case h => k_is)))
    (case p_Book_unknowns => (refine' DL.prp_mk KX G ?a ?b ?c ?d ?e ?f ?g ?h; (case a => k_is); (case b => k_is); (case c => k_is); (case d => k_is); (case e => k_is); (case f => k_is); (case g => k_is); (case h => k_is)))
    (case p_Circuit_gates => (refine' DL.prp_mk KX G ?a ?b ?c ?d ?e ?f ?g ?h; (case a => k_is); (case b => k_is); (case c => k_is); (case d => k_is); (case e => k_is); (case f => k_is); (case g => k_is); (case h => k_is)))
    (case p_Circuit_inputs => (refine' DL.prp_mk KX G ?a ?b ?c ?d ?e ?f ?g ?h; (case a => k_is); (case b => k_is); (case c => k_is); (case d => k_is); (case e => k_is); (case f => k_is); (case g => k_is); (case h => k_is)))
    (case p_Circuit_wires => (refine' DL.prp_mk KX G ?a ?b ?c ?d ?e ?f ?g ?h; (case a => k_is); (case b => k_is); (case c => k_is); (case d => k_is); (case e => k_is); (case f => k_is); (case g => k_is); (case h => k_is)))
    (case p_Compiled_book => (refine' DL.prp_mk KX G ?a ?b ?c ?d ?e ?f ?g ?h; (case a => k_is); (case b => k_is); (case c => k_is); (case d => k_is); (case e => k_is); (case f => k_is); (case g => k_is); (case h => k_is)))
    (case p_Compiled_unknowns => (refine' DL.prp_mk KX G ?a ?b ?c ?d ?e ?f ?g ?h; (case a => k_is); (case b => k_is); (case c => k_is); (case d => k_is); (case e => k_is); (case f => k_is); (case g => k_is); (case h => k_is)))
    (case v_BadCount__ProofError => (refine' DL.exm_mk KX G ?a ?b (PySem.W.exm_ref ?h ?d ?t ?s); (case a => k_is); (case b => k_is); (case h => k_is); (case d => k_is); (case t => k_is); (case s => first | rfl | k_is)))
    (case v_BadWire__BadWire => (refine' DL.exm_mk KX G ?a ?b (PySem.W.exm_ref ?h ?d ?t ?s); (case a => k_is); (case b => k_is); (case h => k_is); (case d => k_is); (case t => k_is); (case s => first | rfl | k_is)))
    (case x_BadCount => (refine' DL.excD_mk KX G ?a ?n ?k ?s ?t; (case a => k_is); (case n => k_exc); (case k => k_is); (case s => k_is); (case t => k_is)))
    (case x_BadWire => (refine' DL.excD_mk KX G ?a ?n ?k ?s ?t; (case a => k_is); (case n => k_exc); (case k => k_is); (case s => k_is); (case t => k_is)))
    (case x_ProofError => (refine' DL.excD_mk KX G ?a ?n ?k ?s ?t; (case a => k_is); (case n => k_exc); (case k => k_is); (case s => k_is); (case t => k_is)))
    (case y_BadCount => (refine' DL.excC_mk KX G ?a ⟨?b1, ?b2, ?b3, ?b4, ?b5, ?b6, ?b7, ?b8⟩; (case a => k_is); (case b1 => k_is); (case b2 => k_is); (case b3 => k_is); (case b4 => k_is); (case b5 => k_is); (case b6 => k_is); (case b7 => k_is); (case b8 => k_is)))
    (case y_BadWire => (refine' DL.excC_mk KX G ?a ⟨?b1, ?b2, ?b3, ?b4, ?b5, ?b6, ?b7, ?b8⟩; (case a => k_is); (case b1 => k_is); (case b2 => k_is); (case b3 => k_is); (case b4 => k_is); (case b5 => k_is); (case b6 => k_is); (case b7 => k_is); (case b8 => k_is)))
    (case z_BadCount__BadCount => (refine' DL.kit_mk KX G ?a ?b (DL.kit_ref ?h ?d ?t ?s); (case a => k_is); (case b => k_is); (case h => first | exact fun _ => rfl | (intro h; simp at h) | decide +kernel); (case d => k_is); (case t => k_is); (case s => first | rfl | k_is)))
    (case z_BadCount__BadWire => (refine' DL.kit_mk KX G ?a ?b (DL.kit_ref ?h ?d ?t ?s); (case a => k_is); (case b => k_is); (case h => first | exact fun _ => rfl | (intro h; simp at h) | decide +kernel); (case d => k_is); (case t => k_is); (case s => first | rfl | k_is)))
    (case z_BadCount__ValueError => (refine' DL.kitT_mk KX G ?a (DL.kit_typ ?k ?s); (case a => k_is); (case k => decide +kernel); (case s => first | rfl | k_is)))
    (case z_BadWire__BadCount => (refine' DL.kit_mk KX G ?a ?b (DL.kit_ref ?h ?d ?t ?s); (case a => k_is); (case b => k_is); (case h => first | exact fun _ => rfl | (intro h; simp at h) | decide +kernel); (case d => k_is); (case t => k_is); (case s => first | rfl | k_is)))
    (case z_BadWire__ProofError => (refine' DL.kit_mk KX G ?a ?b (DL.kit_ref ?h ?d ?t ?s); (case a => k_is); (case b => k_is); (case h => first | exact fun _ => rfl | (intro h; simp at h) | decide +kernel); (case d => k_is); (case t => k_is); (case s => first | rfl | k_is)))
    (case z_BadWire__ValueError => (refine' DL.kitT_mk KX G ?a (DL.kit_typ ?k ?s); (case a => k_is); (case k => decide +kernel); (case s => first | rfl | k_is)))
